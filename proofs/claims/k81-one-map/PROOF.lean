import PyProof.Rows.All
import Wide.All
import OpenK.AllK
import Wide.FinOn
import HandS.ForMost
import HandS.ForExc
import HandS.Flow
import HandS.NoneIn
import HandS.More
import HandS.StrMore
import HandS.IsInst
import HandS.Zip
import HandS.DeepEq
import HandS.RaiseFrom
import HandS.SuiteRaise
import HandS.Steps
import HandS.Conv
import HandS.Flt
import HandS.Wide
import HandS.DictComp
import KE.KDictZip
import KE.GoesEnum
import HandS.RevTup
import HandS.Walk
import HandS.Evl
import PySem.Challenge.RW_halvewright_k81_whole_texts_that_tell_on
set_option Elab.async false
set_option linter.all false
set_option maxRecDepth 100000
/-! Halvewright: trees, labelled trees, what a pair of trees does to a sequence; canonicity. Plain Lean. -/
namespace Hw

inductive T where
  | leaf
  | node (l r : T)
  deriving DecidableEq, Repr

abbrev Path := List Bool
abbrev Seq := Nat → Bool

def T.leaves : T → Nat
  | .leaf => 1
  | .node l r => l.leaves + r.leaves
def T.depth : T → Nat
  | .leaf => 0
  | .node l r => max l.depth r.depth + 1
def T.paths : T → List Path
  | .leaf => [[]]
  | .node l r => l.paths.map (false :: ·) ++ r.paths.map (true :: ·)
theorem T.leaves_pos : ∀ t : T, 0 < t.leaves
  | .leaf => Nat.one_pos
  | .node l _ => Nat.lt_of_lt_of_le l.leaves_pos (Nat.le_add_right _ _)
theorem T.depth_lt : ∀ t : T, t.depth < t.leaves
  | .leaf => Nat.one_pos
  | .node l r => by
    have h1 := l.depth_lt
    have h2 := r.depth_lt
    have h3 := l.leaves_pos
    have h4 := r.leaves_pos
    show max l.depth r.depth + 1 < l.leaves + r.leaves
    omega
theorem T.paths_length : ∀ t : T, t.paths.length = t.leaves
  | .leaf => rfl
  | .node l r => by simp [T.paths, T.leaves, T.paths_length l, T.paths_length r]
theorem T.paths_ne (t : T) : t.paths ≠ [] := by
  intro h
  have h1 := t.paths_length
  rw [h] at h1
  have h2 := t.leaves_pos
  simp at h1
  omega
theorem T.leaf_of_leaves : ∀ {t : T}, t.leaves = 1 → t = .leaf
  | .leaf, _ => rfl
  | .node l r, h => by
    have h1 := l.leaves_pos
    have h2 := r.leaves_pos
    have h3 : l.leaves + r.leaves = 1 := h
    omega

/-! ### sequences -/
def cons (b : Bool) (w : Seq) : Seq
  | 0 => b
  | n + 1 => w n
def tl (w : Seq) : Seq := fun n => w (n + 1)
theorem cons_eta (w : Seq) : cons (w 0) (tl w) = w := by
  funext n
  cases n <;> rfl
theorem cons_zero (b : Bool) (w : Seq) : cons b w 0 = b := rfl
theorem tl_cons (b : Bool) (w : Seq) : tl (cons b w) = w := rfl
theorem cons_inj {a b : Bool} {v w : Seq} (h : cons a v = cons b w) : a = b ∧ v = w :=
  ⟨congrFun h 0, funext fun n => congrFun h (n + 1)⟩
def put : Path → Seq → Seq
  | [], w => w
  | b :: p, w => cons b (put p w)
theorem put_append : ∀ (p q : Path) (w : Seq), put (p ++ q) w = put p (put q w)
  | [], _, _ => rfl
  | b :: p, q, w => by
    show cons b (put (p ++ q) w) = cons b (put p (put q w))
    rw [put_append p q w]
theorem put_inj : ∀ {x y : Path}, (∀ w, put x w = put y w) → x = y
  | [], [], _ => rfl
  | [], b :: y, h => by
    have h1 := congrFun (h fun _ => !b) 0
    have h2 : (!b) = b := h1
    cases b <;> cases h2
  | b :: x, [], h => by
    have h1 := congrFun (h fun _ => !b) 0
    have h2 : b = (!b) := h1
    cases b <;> cases h2
  | a :: x, b :: y, h => by
    have h1 := congrFun (h fun _ => false) 0
    have h2 : a = b := h1
    have h3 : x = y := put_inj fun w => (cons_inj (h w)).2
    rw [h2, h3]

/-! ### labelled trees -/
inductive L where
  | leaf (q : Path)
  | node (l r : L)
def L.sem : L → Seq → Seq
  | .leaf q, w => put q w
  | .node l r, w => if w 0 = false then l.sem (tl w) else r.sem (tl w)
def L.shape : L → T
  | .leaf _ => .leaf
  | .node l r => .node l.shape r.shape
def L.labels : L → List Path
  | .leaf q => [q]
  | .node l r => l.labels ++ r.labels
theorem L.labels_length : ∀ x : L, x.labels.length = x.shape.leaves
  | .leaf _ => rfl
  | .node l r => by simp [L.labels, L.shape, T.leaves, L.labels_length l, L.labels_length r]
theorem L.sem_false (l r : L) (w : Seq) : (L.node l r).sem (cons false w) = l.sem w := rfl
theorem L.sem_true (l r : L) (w : Seq) : (L.node l r).sem (cons true w) = r.sem w := rfl
theorem L.sem_ext {l r l' r' : L} (h1 : ∀ w, l.sem w = l'.sem w) (h2 : ∀ w, r.sem w = r'.sem w) (w : Seq) : (L.node l r).sem w = (L.node l' r').sem w := by
  show (if w 0 = false then l.sem (tl w) else r.sem (tl w)) = (if w 0 = false then l'.sem (tl w) else r'.sem (tl w))
  rw [h1, h2]
/-- nothing is needless -/
def L.red : L → Prop
  | .leaf _ => True
  | .node l r => l.red ∧ r.red ∧ ¬ ∃ q, l = .leaf (q ++ [false]) ∧ r = .leaf (q ++ [true])

theorem canon_leaf : ∀ {b : L} {x : Path}, b.red → (∀ w, b.sem w = put x w) → b = .leaf x
  | .leaf y, x, _, h => by rw [put_inj (x := y) (y := x) h]
  | .node l r, x, hr, h => by
    have h1 : l = .leaf (x ++ [false]) := canon_leaf hr.1 fun w => by
      rw [put_append]
      exact h (cons false w)
    have h2 : r = .leaf (x ++ [true]) := canon_leaf hr.2.1 fun w => by
      rw [put_append]
      exact h (cons true w)
    exact (hr.2.2 ⟨x, h1, h2⟩).elim
theorem canon : ∀ {a b : L}, a.red → b.red → (∀ w, a.sem w = b.sem w) → a = b
  | .leaf x, b, _, hb, h => (canon_leaf hb fun w => (h w).symm).symm
  | .node l r, .leaf y, ha, _, h => canon_leaf ha h
  | .node l r, .node l' r', ha, hb, h => by
    have h1 : l = l' := canon ha.1 hb.1 fun w => h (cons false w)
    have h2 : r = r' := canon ha.2.1 hb.2.1 fun w => h (cons true w)
    rw [h1, h2]

/-! ### trimming -/
def halves (x y : Path) : Bool := decide (x = x.dropLast ++ [false] ∧ y = x.dropLast ++ [true])
theorem halves_iff {x y : Path} : halves x y = true ↔ ∃ q, x = q ++ [false] ∧ y = q ++ [true] := by
  unfold halves
  rw [decide_eq_true_eq]
  constructor
  · intro h
    exact ⟨_, h⟩
  · rintro ⟨q, rfl, rfl⟩
    simp
theorem halves_mk (q : Path) : halves (q ++ [false]) (q ++ [true]) = true := halves_iff.mpr ⟨q, rfl, rfl⟩
def L.join : L → L → L
  | .leaf x, .leaf y => if halves x y = true then .leaf x.dropLast else .node (.leaf x) (.leaf y)
  | l, r => .node l r
def L.trim : L → L
  | .leaf q => .leaf q
  | .node l r => l.trim.join r.trim
theorem L.join_cases (l r : L) : (∃ q, l = .leaf (q ++ [false]) ∧ r = .leaf (q ++ [true]) ∧ l.join r = .leaf q) ∨ ((¬ ∃ q, l = .leaf (q ++ [false]) ∧ r = .leaf (q ++ [true])) ∧ l.join r = .node l r) := by
  cases l with
  | leaf x =>
    cases r with
    | leaf y =>
      by_cases h : halves x y = true
      · obtain ⟨q, rfl, rfl⟩ := halves_iff.mp h
        refine .inl ⟨q, rfl, rfl, ?_⟩
        show (if halves (q ++ [false]) (q ++ [true]) = true then L.leaf (q ++ [false]).dropLast else .node (.leaf (q ++ [false])) (.leaf (q ++ [true]))) = .leaf q
        rw [if_pos h]
        simp
      · refine .inr ⟨?_, ?_⟩
        · rintro ⟨q, e1, e2⟩
          cases e1
          cases e2
          exact h (halves_mk q)
        · show (if halves x y = true then L.leaf x.dropLast else .node (.leaf x) (.leaf y)) = _
          rw [if_neg h]
    | node a b => exact .inr ⟨fun ⟨_, _, e⟩ => (nomatch e), rfl⟩
  | node a b => exact .inr ⟨fun ⟨_, e, _⟩ => (nomatch e), by cases r <;> rfl⟩
theorem L.join_sem (l r : L) (w : Seq) : (l.join r).sem w = (L.node l r).sem w := by
  rcases L.join_cases l r with ⟨q, rfl, rfl, e⟩ | ⟨_, e⟩
  · rw [e]
    show put q w = if w 0 = false then put (q ++ [false]) (tl w) else put (q ++ [true]) (tl w)
    rw [put_append, put_append]
    have h := cons_eta w
    cases h0 : w 0 with
    | false =>
      rw [if_pos rfl]
      rw [h0] at h
      show put q w = put q (cons false (tl w))
      rw [h]
    | true =>
      rw [if_neg (by decide)]
      rw [h0] at h
      show put q w = put q (cons true (tl w))
      rw [h]
  · rw [e]
theorem L.trim_sem : ∀ (x : L) (w : Seq), x.trim.sem w = x.sem w
  | .leaf _, _ => rfl
  | .node l r, w => by
    show (l.trim.join r.trim).sem w = _
    rw [L.join_sem]
    exact L.sem_ext l.trim_sem r.trim_sem w
theorem L.trim_red : ∀ x : L, x.trim.red
  | .leaf _ => trivial
  | .node l r => by
    show (l.trim.join r.trim).red
    rcases L.join_cases l.trim r.trim with ⟨q, _, _, e⟩ | ⟨h, e⟩
    · rw [e]; trivial
    · rw [e]; exact ⟨l.trim_red, r.trim_red, h⟩
theorem L.trim_leaves : ∀ x : L, x.trim.shape.leaves ≤ x.shape.leaves
  | .leaf _ => Nat.le_refl _
  | .node l r => by
    have h1 := l.trim_leaves
    have h2 := r.trim_leaves
    show (l.trim.join r.trim).shape.leaves ≤ l.shape.leaves + r.shape.leaves
    rcases L.join_cases l.trim r.trim with ⟨q, _, _, e⟩ | ⟨_, e⟩
    · rw [e]
      have h3 := l.shape.leaves_pos
      show 1 ≤ _
      omega
    · rw [e]
      show l.trim.shape.leaves + r.trim.shape.leaves ≤ _
      omega

/-! ### the labels stay the ways of a tree -/
theorem split_map {f : Bool} : ∀ {X Y : List Path} {ps : List Path} {z : List Path}, ps.map (f :: ·) = X ++ z ++ Y → ∃ X' z' Y', X = X'.map (f :: ·) ∧ z = z'.map (f :: ·) ∧ Y = Y'.map (f :: ·) ∧ ps = X' ++ z' ++ Y' := by
  intro X Y ps z h
  obtain ⟨l1, l2, e, h1, h2⟩ := List.map_eq_append_iff.mp h
  obtain ⟨l3, l4, e', h3, h4⟩ := List.map_eq_append_iff.mp h1
  exact ⟨l3, l4, l2, h3.symm, h4.symm, h2.symm, by rw [e, e']⟩
theorem map_cons_eq {f : Bool} {z' : List Path} {q : Path} {a b : Bool} (h : [f :: q ++ [a], f :: q ++ [b]] = z'.map (f :: ·)) : z' = [q ++ [a], q ++ [b]] := by
  match z', h with
  | [x, y], h =>
    simp at h
    rw [← h.1, ← h.2]
/-- where two strings of the list meet: the pair lies in the left part, or in the right part, or astride -/
theorem two_in {α : Type} {A B X Y : List α} {u v : α} (h : A ++ B = X ++ [u, v] ++ Y) :
    (∃ Y1, A = X ++ [u, v] ++ Y1 ∧ Y = Y1 ++ B) ∨ (A = X ++ [u] ∧ B = v :: Y) ∨ (∃ X1, X = A ++ X1 ∧ B = X1 ++ [u, v] ++ Y) := by
  rw [List.append_assoc] at h
  rcases List.append_eq_append_iff.mp h with ⟨as, h1, h2⟩ | ⟨bs, h1, h2⟩
  · exact .inr (.inr ⟨as, h1, by rw [h2, List.append_assoc]⟩)
  · match bs, h1, h2 with
    | [], h1, h2 => exact .inr (.inr ⟨[], by simpa using h1.symm, by simpa using h2.symm⟩)
    | [x], h1, h2 =>
      have h3 : u = x ∧ v :: Y = B := by simpa using h2
      exact .inr (.inl ⟨by rw [h1, h3.1], h3.2.symm⟩)
    | x :: y :: r, h1, h2 =>
      have h3 : u = x ∧ v = y ∧ Y = r ++ B := by simpa using h2
      exact .inl ⟨r, by rw [h1, h3.1, h3.2.1]; simp, h3.2.2⟩
theorem cherry : ∀ {b : T} {X Y : List Path} {q : Path}, b.paths = X ++ [q ++ [false], q ++ [true]] ++ Y → ∃ b' : T, b'.paths = X ++ [q] ++ Y
  | .leaf, X, Y, q, h => by
    have h1 := congrArg List.length h
    simp [T.paths] at h1
    omega
  | .node l r, X, Y, q, h => by
    have h' : l.paths.map (false :: ·) ++ r.paths.map (true :: ·) = X ++ [q ++ [false], q ++ [true]] ++ Y := h
    rcases two_in h' with ⟨Y1, h1, h2⟩ | ⟨h1, h2⟩ | ⟨X1, h1, h2⟩
    · -- within the left part
      match q, h1 with
      | [], h1 =>
        have h3 : [true] ∈ l.paths.map (false :: ·) := by rw [h1]; simp
        obtain ⟨p, _, hp⟩ := List.mem_map.mp h3
        cases hp
      | c :: q, h1 =>
        have hc : c = false := by
          have h3 : (c :: q ++ [false]) ∈ l.paths.map (false :: ·) := by rw [h1]; simp
          obtain ⟨p, _, hp⟩ := List.mem_map.mp h3
          cases hp
          rfl
        subst hc
        obtain ⟨X', z', Y', rfl, hz, rfl, hl⟩ := split_map h1
        have hz' := map_cons_eq hz
        subst hz'
        obtain ⟨l', hl'⟩ := cherry hl
        refine ⟨.node l' r, ?_⟩
        show l'.paths.map (false :: ·) ++ r.paths.map (true :: ·) = _
        rw [hl', h2]
        simp
    · -- astride
      have hq : q = [] := by
        match q, h1, h2 with
        | [], _, _ => rfl
        | c :: q, h1, h2 =>
          have h3 : (c :: q ++ [false]) ∈ l.paths.map (false :: ·) := by rw [h1]; simp
          obtain ⟨p, _, hp⟩ := List.mem_map.mp h3
          have h4 : (c :: q ++ [true]) ∈ r.paths.map (true :: ·) := by rw [h2]; simp
          obtain ⟨p', _, hp'⟩ := List.mem_map.mp h4
          have e1 : false = c := by injection hp
          have e2 : true = c := by injection hp'
          rw [← e1] at e2
          cases e2
      subst hq
      have hX : l = .leaf ∧ X = [] := by
        have h3 : [] ∈ l.paths := by
          have h4 : [false] ∈ l.paths.map (false :: ·) := by rw [h1]; simp
          obtain ⟨p, hp, e⟩ := List.mem_map.mp h4
          cases e
          exact hp
        cases l with
        | leaf =>
          refine ⟨rfl, ?_⟩
          have h5 := congrArg List.length h1
          simp [T.paths] at h5
          exact h5
        | node a b => simp [T.paths] at h3
      have hY : r = .leaf ∧ Y = [] := by
        have h3 : [] ∈ r.paths := by
          have h4 : [true] ∈ r.paths.map (true :: ·) := by rw [h2]; simp
          obtain ⟨p, hp, e⟩ := List.mem_map.mp h4
          cases e
          exact hp
        cases r with
        | leaf =>
          refine ⟨rfl, ?_⟩
          have h5 := congrArg List.length h2
          simp [T.paths] at h5
          exact h5
        | node a b => simp [T.paths] at h3
      exact ⟨.leaf, by rw [hX.2, hY.2]; rfl⟩
    · match q, h2 with
      | [], h2 =>
        have h3 : [false] ∈ r.paths.map (true :: ·) := by rw [h2]; simp
        obtain ⟨p, _, hp⟩ := List.mem_map.mp h3
        cases hp
      | c :: q, h2 =>
        have hc : c = true := by
          have h3 : (c :: q ++ [false]) ∈ r.paths.map (true :: ·) := by rw [h2]; simp
          obtain ⟨p, _, hp⟩ := List.mem_map.mp h3
          cases hp
          rfl
        subst hc
        obtain ⟨X', z', Y', rfl, hz, rfl, hr⟩ := split_map h2
        have hz' := map_cons_eq hz
        subst hz'
        obtain ⟨r', hr'⟩ := cherry hr
        refine ⟨.node l r', ?_⟩
        show l.paths.map (false :: ·) ++ r'.paths.map (true :: ·) = _
        rw [hr', h1]
        simp
theorem trim_paths : ∀ (x : L) {b : T} {X Y : List Path}, b.paths = X ++ x.labels ++ Y → ∃ b' : T, b'.paths = X ++ x.trim.labels ++ Y
  | .leaf _, b, _, _, h => ⟨b, h⟩
  | .node l r, b, X, Y, h => by
    have h0 : b.paths = X ++ l.labels ++ (r.labels ++ Y) := by rw [h]; simp [L.labels]
    obtain ⟨b1, h1⟩ := trim_paths l h0
    have h1' : b1.paths = (X ++ l.trim.labels) ++ r.labels ++ Y := by rw [h1]; simp
    obtain ⟨b2, h2⟩ := trim_paths r h1'
    show ∃ b' : T, b'.paths = X ++ (l.trim.join r.trim).labels ++ Y
    rcases L.join_cases l.trim r.trim with ⟨q, e1, e2, e⟩ | ⟨_, e⟩
    · rw [e]
      rw [e1, e2] at h2
      have h2' : b2.paths = X ++ [q ++ [false], q ++ [true]] ++ Y := by rw [h2]; simp [L.labels]
      exact cherry h2'
    · rw [e]
      exact ⟨b2, by rw [h2]; simp [L.labels]⟩

/-! ### the stack -/
abbrev Row := Path × Path
def L.rows : L → Path → List Row
  | .leaf q, p => [(p, q)]
  | .node l r, p => l.rows (p ++ [false]) ++ r.rows (p ++ [true])
theorem L.rows_length : ∀ (x : L) (p : Path), (x.rows p).length = x.shape.leaves
  | .leaf _, _ => rfl
  | .node l r, p => by simp [L.rows, L.shape, T.leaves, L.rows_length l, L.rows_length r]
theorem L.rows_fst : ∀ (x : L) (p : Path), (x.rows p).map (·.1) = x.shape.paths.map (p ++ ·)
  | .leaf _, p => by simp [L.rows, L.shape, T.paths]
  | .node l r, p => by
    show (l.rows (p ++ [false]) ++ r.rows (p ++ [true])).map (·.1) = (l.shape.paths.map (false :: ·) ++ r.shape.paths.map (true :: ·)).map (p ++ ·)
    rw [List.map_append, L.rows_fst l, L.rows_fst r, List.map_append, List.map_map, List.map_map]
    congr 1
    · exact List.map_congr_left fun a _ => by simp
    · exact List.map_congr_left fun a _ => by simp
theorem L.rows_snd : ∀ (x : L) (p : Path), (x.rows p).map (·.2) = x.labels
  | .leaf _, _ => rfl
  | .node l r, p => by
    show (l.rows (p ++ [false]) ++ r.rows (p ++ [true])).map (·.2) = l.labels ++ r.labels
    rw [List.map_append, L.rows_snd l, L.rows_snd r]
/-- the stack, its top first -/
def push : List Row → Row → List Row
  | [], x => [x]
  | y :: S, x => if (halves y.1 x.1 && halves y.2 x.2) = true then push S (y.1.dropLast, y.2.dropLast) else x :: y :: S
theorem push_no {S : List Row} {x : Row} (h : ∀ y ∈ S.head?, (halves y.1 x.1 && halves y.2 x.2) = false) : push S x = x :: S := by
  cases S with
  | nil => rfl
  | cons y S =>
    have h1 := h y rfl
    unfold push
    rw [if_neg (by rw [h1]; decide)]
theorem push_false (S : List Row) (p q : Path) : push S (p ++ [false], q) = (p ++ [false], q) :: S := by
  refine push_no fun y _ => ?_
  have h : halves y.1 (p ++ [false]) = false := by
    rw [Bool.eq_false_iff]
    intro h
    obtain ⟨c, _, e⟩ := halves_iff.mp h
    have e' := List.append_inj_right' e rfl
    cases e'
  rw [h]
  rfl
/-- the last of the rows: the longer way ends with 1s -/
theorem L.rows_last : ∀ (x : L) (p : Path), ∃ (k : Nat) (q : Path), (x.rows p).getLast? = some (p ++ List.replicate k true, q) ∧ (k = 0 → x = .leaf q)
  | .leaf q, p => ⟨0, q, by simp [L.rows], fun _ => rfl⟩
  | .node l r, p => by
    obtain ⟨k, q, h, _⟩ := L.rows_last r (p ++ [true])
    refine ⟨k + 1, q, ?_, fun h => (nomatch h)⟩
    show (l.rows (p ++ [false]) ++ r.rows (p ++ [true])).getLast? = _
    rw [List.getLast?_append, h]
    simp [List.replicate_succ]
def pushes (S : List Row) (R : List Row) : List Row := R.foldl push S
theorem pushes_append (S : List Row) (R R' : List Row) : pushes S (R ++ R') = pushes (pushes S R) R' := List.foldl_append
def after (S : List Row) (p : Path) : L → List Row
  | .leaf q => push S (p, q)
  | .node l r => ((L.node l r).rows p).reverse ++ S
theorem after_false (S : List Row) (p : Path) (x : L) : after S (p ++ [false]) x = (x.rows (p ++ [false])).reverse ++ S := by
  cases x with
  | leaf q => exact push_false S p q
  | node l r => rfl
theorem pushes_rows : ∀ (x : L) (S : List Row) (p : Path), pushes S (x.rows p) = after S p x.trim
  | .leaf q, S, p => rfl
  | .node l r, S, p => by
    show pushes S (l.rows (p ++ [false]) ++ r.rows (p ++ [true])) = after S p (l.trim.join r.trim)
    rw [pushes_append, pushes_rows l, pushes_rows r, after_false]
    rcases L.join_cases l.trim r.trim with ⟨q, e1, e2, e⟩ | ⟨h, e⟩
    · rw [e, e1, e2]
      show push ((p ++ [false], q ++ [false]) :: S) (p ++ [true], q ++ [true]) = push S (p, q)
      have h1 : (halves (p ++ [false]) (p ++ [true]) && halves (q ++ [false]) (q ++ [true])) = true := by rw [halves_mk, halves_mk]; rfl
      show (if (halves (p ++ [false]) (p ++ [true]) && halves (q ++ [false]) (q ++ [true])) = true then push S ((p ++ [false]).dropLast, (q ++ [false]).dropLast) else _) = _
      rw [if_pos h1]
      simp
    · rw [e]
      show _ = (l.trim.rows (p ++ [false]) ++ r.trim.rows (p ++ [true])).reverse ++ S
      rw [List.reverse_append, List.append_assoc]
      cases hr : r.trim with
      | node a b => rfl
      | leaf q' =>
        show push ((l.trim.rows (p ++ [false])).reverse ++ S) (p ++ [true], q') = (p ++ [true], q') :: ((l.trim.rows (p ++ [false])).reverse ++ S)
        refine push_no fun y hy => ?_
        obtain ⟨k, q, hk, h0⟩ := L.rows_last l.trim (p ++ [false])
        have hhead : ((l.trim.rows (p ++ [false])).reverse ++ S).head? = some (p ++ [false] ++ List.replicate k true, q) := by
          rw [List.head?_append, List.head?_reverse, hk]
          rfl
        rw [hhead] at hy
        have hy' : (p ++ [false] ++ List.replicate k true, q) = y := by simpa using hy
        subst hy'
        rw [Bool.eq_false_iff]
        intro hh
        rw [Bool.and_eq_true] at hh
        obtain ⟨c, ec1, ec2⟩ := halves_iff.mp hh.1
        obtain ⟨d, ed1, ed2⟩ := halves_iff.mp hh.2
        have ec : p = c := List.append_inj_left' ec2 rfl
        subst ec
        have hk0 : k = 0 := by
          have := congrArg List.length ec1
          simp at this
          exact this
        have hl := h0 hk0
        refine h ⟨d, ?_, ?_⟩
        · rw [hl]
          have ed1' : q = d ++ [false] := ed1
          rw [ed1']
        · rw [hr]
          have ed2' : q' = d ++ [true] := ed2
          rw [ed2']
theorem stack_end (x : L) : pushes [] (x.rows []) = (x.trim.rows []).reverse := by
  rw [pushes_rows]
  cases h : x.trim with
  | leaf q => rfl
  | node l r => simp [after]

/-! ### a tree with labels -/
def lab : T → List Path → L
  | .leaf, ls => .leaf (ls.headD [])
  | .node l r, ls => .node (lab l (ls.take l.leaves)) (lab r (ls.drop l.leaves))
theorem lab_shape : ∀ (a : T) (ls : List Path), (lab a ls).shape = a
  | .leaf, _ => rfl
  | .node l r, ls => by
    show T.node (lab l _).shape (lab r _).shape = _
    rw [lab_shape l, lab_shape r]
theorem lab_labels : ∀ (a : T) (ls : List Path), ls.length = a.leaves → (lab a ls).labels = ls
  | .leaf, ls, h => by
    match ls, h with
    | [x], _ => rfl
  | .node l r, ls, h => by
    have h' : ls.length = l.leaves + r.leaves := h
    show (lab l (ls.take l.leaves)).labels ++ (lab r (ls.drop l.leaves)).labels = ls
    rw [lab_labels l _ (by rw [List.length_take]; omega), lab_labels r _ (by rw [List.length_drop]; omega)]
    exact List.take_append_drop _ _
theorem lab_append {l r : T} {xs ys : List Path} (h : xs.length = l.leaves) : lab (.node l r) (xs ++ ys) = .node (lab l xs) (lab r ys) := by
  show L.node (lab l ((xs ++ ys).take l.leaves)) (lab r ((xs ++ ys).drop l.leaves)) = _
  rw [← h, List.take_left, List.drop_left]
theorem lab_of : ∀ x : L, lab x.shape x.labels = x
  | .leaf _ => rfl
  | .node l r => by
    show lab (.node l.shape r.shape) (l.labels ++ r.labels) = _
    rw [lab_append (L.labels_length l), lab_of l, lab_of r]
theorem lab_rows : ∀ (a : T) (ls : List Path) (p : Path), ls.length = a.leaves → (lab a ls).rows p = (a.paths.map (p ++ ·)).zip ls
  | .leaf, ls, p, h => by
    match ls, h with
    | [x], _ => simp [lab, L.rows, T.paths]
  | .node l r, ls, p, h => by
    have h' : ls.length = l.leaves + r.leaves := h
    show (lab l (ls.take l.leaves)).rows (p ++ [false]) ++ (lab r (ls.drop l.leaves)).rows (p ++ [true]) = ((l.paths.map (false :: ·) ++ r.paths.map (true :: ·)).map (p ++ ·)).zip ls
    rw [lab_rows l _ _ (by rw [List.length_take]; omega), lab_rows r _ _ (by rw [List.length_drop]; omega)]
    have e : ls = ls.take l.leaves ++ ls.drop l.leaves := (List.take_append_drop _ _).symm
    conv => rhs; rw [e]
    rw [List.map_append, List.zip_append (by simp [T.paths_length]; omega)]
    congr 1
    · congr 1
      rw [List.map_map]
      exact List.map_congr_left fun a _ => by simp
    · congr 1
      rw [List.map_map]
      exact List.map_congr_left fun a _ => by simp

/-! ### maps -/
abbrev M := T × T
/-- as many leaves -/
def Ev (m : M) : Prop := m.1.leaves = m.2.leaves
def toL (m : M) : L := lab m.1 m.2.paths
def sem (m : M) (w : Seq) : Seq := (toL m).sem w
def Good (m : M) : Prop := Ev m ∧ (toL m).red
theorem toL_rows {m : M} (h : Ev m) : (toL m).rows [] = m.1.paths.zip m.2.paths := by
  unfold toL
  rw [lab_rows _ _ _ (by rw [T.paths_length]; exact h.symm)]
  simp
theorem paths_inj : ∀ {a b : T}, a.paths = b.paths → a = b
  | .leaf, .leaf, _ => rfl
  | .leaf, .node l r, h => by
    have h1 := congrArg List.length h
    rw [T.paths_length, T.paths_length] at h1
    exact (T.leaf_of_leaves h1.symm).symm
  | .node l r, .leaf, h => by
    have h1 := congrArg List.length h
    rw [T.paths_length, T.paths_length] at h1
    exact T.leaf_of_leaves h1
  | .node l r, .node l' r', h => by
    have h' : l.paths.map (false :: ·) ++ r.paths.map (true :: ·) = l'.paths.map (false :: ·) ++ r'.paths.map (true :: ·) := h
    have f1 := congrArg (List.filter fun p => p.head? == some false) h'
    have f2 := congrArg (List.filter fun p => p.head? == some true) h'
    have g1 : ∀ (x : T) (b c : Bool), (x.paths.map (b :: ·)).filter (fun p => p.head? == some c) = if b = c then x.paths.map (b :: ·) else [] := by
      intro x b c
      rw [List.filter_map]
      by_cases e : b = c
      · rw [if_pos e]
        congr 1
        rw [List.filter_eq_self]
        intro a _
        simp [e]
      · rw [if_neg e]
        have : x.paths.filter ((fun p : Path => p.head? == some c) ∘ (b :: ·)) = [] := by
          rw [List.filter_eq_nil_iff]
          intro a _
          simp [e]
        rw [this]
        rfl
    simp only [List.filter_append, g1] at f1 f2
    simp at f1 f2
    have inj : ∀ {b : Bool} {x y : List Path}, x.map (b :: ·) = y.map (b :: ·) → x = y := by
      intro b x y e
      exact List.map_inj_right (fun _ _ e => by injection e) |>.mp e
    rw [paths_inj (inj f1), paths_inj (inj f2)]
/-- two trimmed maps that do the same are the same -/
theorem good_ext {m n : M} (hm : Good m) (hn : Good n) (h : ∀ w, sem m w = sem n w) : m = n := by
  have e : toL m = toL n := canon hm.2 hn.2 h
  have e1 : m.1 = n.1 := by
    have := congrArg L.shape e
    unfold toL at this
    rwa [lab_shape, lab_shape] at this
  have e2 : m.2.paths = n.2.paths := by
    have := congrArg L.labels e
    unfold toL at this
    rwa [lab_labels _ _ (by rw [T.paths_length]; exact hm.1.symm), lab_labels _ _ (by rw [T.paths_length]; exact hn.1.symm)] at this
  exact Prod.ext e1 (paths_inj e2)
/-- what trimming leaves -/
theorem trim_good {m : M} (h : Ev m) : ∃ b : T, b.paths = (toL m).trim.labels ∧ Good ((toL m).trim.shape, b) ∧ (∀ w, sem ((toL m).trim.shape, b) w = sem m w) ∧ (toL m).trim.shape.leaves ≤ m.1.leaves := by
  have h0 : m.2.paths = [] ++ (toL m).labels ++ [] := by
    unfold toL
    rw [lab_labels _ _ (by rw [T.paths_length]; exact h.symm)]
    simp
  obtain ⟨b, hb⟩ := trim_paths (toL m) h0
  have hb' : b.paths = (toL m).trim.labels := by rw [hb]; simp
  have e : toL ((toL m).trim.shape, b) = (toL m).trim := by
    show lab (toL m).trim.shape b.paths = _
    rw [hb', lab_of]
  refine ⟨b, hb', ⟨?_, ?_⟩, fun w => ?_, ?_⟩
  · show (toL m).trim.shape.leaves = b.leaves
    rw [← T.paths_length b, hb', L.labels_length]
  · rw [e]; exact L.trim_red _
  · show (toL ((toL m).trim.shape, b)).sem w = _
    rw [e, L.trim_sem]
    rfl
  · have := (toL m).trim_leaves
    unfold toL at this ⊢
    rwa [lab_shape] at this

/-! ### where a sequence lies -/
def locate : T → Seq → Nat × Seq
  | .leaf, w => (0, w)
  | .node l r, w => if w 0 = false then locate l (tl w) else (l.leaves + (locate r (tl w)).1, (locate r (tl w)).2)
theorem locate_lt : ∀ (a : T) (w : Seq), (locate a w).1 < a.leaves
  | .leaf, _ => Nat.one_pos
  | .node l r, w => by
    have h1 := locate_lt l (tl w)
    have h2 := locate_lt r (tl w)
    show (if w 0 = false then locate l (tl w) else (l.leaves + (locate r (tl w)).1, (locate r (tl w)).2)).1 < l.leaves + r.leaves
    split
    · omega
    · show l.leaves + (locate r (tl w)).1 < _
      omega
theorem sem_lab : ∀ (a : T) (ls : List Path) (w : Seq), (lab a ls).sem w = put (ls.getD (locate a w).1 []) (locate a w).2
  | .leaf, ls, w => by
    show put (ls.headD []) w = put (ls.getD 0 []) w
    cases ls <;> rfl
  | .node l r, ls, w => by
    show (if w 0 = false then (lab l (ls.take l.leaves)).sem (tl w) else (lab r (ls.drop l.leaves)).sem (tl w)) = put (ls.getD (if w 0 = false then locate l (tl w) else (l.leaves + (locate r (tl w)).1, (locate r (tl w)).2)).1 []) (if w 0 = false then locate l (tl w) else (l.leaves + (locate r (tl w)).1, (locate r (tl w)).2)).2
    have h1 := locate_lt l (tl w)
    split
    · rw [sem_lab l]
      congr 1
      simp only [List.getD_eq_getElem?_getD]
      rw [List.getElem?_take_of_lt h1]
    · rw [sem_lab r]
      congr 1
      simp only [List.getD_eq_getElem?_getD]
      rw [List.getElem?_drop]
theorem locate_put : ∀ (a : T) (k : Nat) (w : Seq), k < a.leaves → locate a (put (a.paths.getD k []) w) = (k, w)
  | .leaf, k, w, h => by
    have h' : k < 1 := h
    have : k = 0 := by omega
    subst this
    rfl
  | .node l r, k, w, h => by
    have h' : k < l.leaves + r.leaves := h
    have e : (T.node l r).paths.getD k [] = if k < l.leaves then false :: l.paths.getD k [] else true :: r.paths.getD (k - l.leaves) [] := by
      show (l.paths.map (false :: ·) ++ r.paths.map (true :: ·)).getD k [] = _
      split
      · rename_i hk
        simp only [List.getD_eq_getElem?_getD]
        rw [List.getElem?_append_left (by simpa [T.paths_length] using hk), List.getElem?_map, List.getElem?_eq_getElem (by simpa [T.paths_length] using hk)]
        rfl
      · rename_i hk
        simp only [List.getD_eq_getElem?_getD]
        rw [List.getElem?_append_right (by simpa [T.paths_length] using Nat.le_of_not_lt hk), List.getElem?_map]
        simp only [List.length_map, T.paths_length]
        rw [List.getElem?_eq_getElem (by rw [T.paths_length]; omega)]
        rfl
    rw [e]
    by_cases hk : k < l.leaves
    · rw [if_pos hk]
      show locate l (put (l.paths.getD k []) w) = _
      exact locate_put l k w hk
    · rw [if_neg hk]
      show (l.leaves + (locate r (put (r.paths.getD (k - l.leaves) []) w)).1, (locate r (put (r.paths.getD (k - l.leaves) []) w)).2) = _
      rw [locate_put r (k - l.leaves) w (by omega)]
      show (l.leaves + (k - l.leaves), w) = (k, w)
      rw [Nat.add_sub_cancel' (Nat.le_of_not_lt hk)]
theorem sem_eq (m : M) (w : Seq) : sem m w = put (m.2.paths.getD (locate m.1 w).1 []) (locate m.1 w).2 := sem_lab _ _ _
/-- one tree's stretches laid on another's, these on a third's -/
theorem sem_comp {a b c : T} (h : a.leaves = b.leaves) (w : Seq) : sem (b, c) (sem (a, b) w) = sem (a, c) w := by
  rw [sem_eq, sem_eq (a, b), sem_eq (a, c)]
  have h1 := locate_lt a w
  show put (c.paths.getD (locate b (put (b.paths.getD (locate a w).1 []) (locate a w).2)).1 []) (locate b (put (b.paths.getD (locate a w).1 []) (locate a w).2)).2 = _
  rw [locate_put b _ _ (by omega)]
theorem sem_under : ∀ (t : T) (p : Path) (w : Seq), (lab t (t.paths.map (p ++ ·))).sem w = put p w
  | .leaf, p, w => by
    show put (p ++ []) w = put p w
    rw [List.append_nil]
  | .node l r, p, w => by
    have e : (T.node l r).paths.map (p ++ ·) = l.paths.map ((p ++ [false]) ++ ·) ++ r.paths.map ((p ++ [true]) ++ ·) := by
      show (l.paths.map (false :: ·) ++ r.paths.map (true :: ·)).map (p ++ ·) = _
      rw [List.map_append, List.map_map, List.map_map]
      congr 1
      · exact List.map_congr_left fun a _ => by simp
      · exact List.map_congr_left fun a _ => by simp
    rw [e, lab_append (by simp [T.paths_length])]
    have h := cons_eta w
    show (if w 0 = false then (lab l _).sem (tl w) else (lab r _).sem (tl w)) = _
    cases h0 : w 0 with
    | false =>
      rw [if_pos rfl, sem_under l, put_append]
      rw [h0] at h
      show put p (cons false (tl w)) = _
      rw [h]
    | true =>
      rw [if_neg (by decide), sem_under r, put_append]
      rw [h0] at h
      show put p (cons true (tl w)) = _
      rw [h]
theorem sem_same (a : T) (w : Seq) : sem (a, a) w = w := by
  have h := sem_under a [] w
  have e : a.paths.map (([] : Path) ++ ·) = a.paths := by simp
  rw [e] at h
  exact h
theorem sem_back {m : M} (h : Ev m) (w : Seq) : sem (m.2, m.1) (sem m w) = w := by
  have h1 := sem_comp (a := m.1) (b := m.2) (c := m.1) h w
  rw [sem_same] at h1
  exact h1

/-! ### more cuts -/
/-- the cuts of the one are among those of the other -/
def le : T → T → Prop
  | .leaf, _ => True
  | .node _ _, .leaf => False
  | .node l r, .node l' r' => le l l' ∧ le r r'
def both : T → T → T
  | .leaf, b => b
  | .node l r, .leaf => .node l r
  | .node l r, .node l' r' => .node (both l l') (both r r')
def excess : T → T → List T
  | .leaf, m => [m]
  | .node _ _, .leaf => []
  | .node l r, .node l' r' => excess l l' ++ excess r r'
def hung : T → List T → T
  | .leaf, ts => ts.headD .leaf
  | .node l r, ts => .node (hung l (ts.take l.leaves)) (hung r (ts.drop l.leaves))
theorem le_refl : ∀ a : T, le a a
  | .leaf => trivial
  | .node l r => ⟨le_refl l, le_refl r⟩
theorem le_both1 : ∀ a b : T, le a (both a b)
  | .leaf, _ => trivial
  | .node _ _, .leaf => le_refl _
  | .node l r, .node l' r' => ⟨le_both1 l l', le_both1 r r'⟩
theorem le_both2 : ∀ a b : T, le b (both a b)
  | .leaf, b => le_refl b
  | .node _ _, .leaf => trivial
  | .node l r, .node l' r' => ⟨le_both2 l l', le_both2 r r'⟩
theorem both_leaves : ∀ a b : T, (both a b).leaves + 1 ≤ a.leaves + b.leaves
  | .leaf, b => by show b.leaves + 1 ≤ 1 + b.leaves; omega
  | .node l r, .leaf => Nat.le_refl _
  | .node l r, .node l' r' => by
    have h1 := both_leaves l l'
    have h2 := both_leaves r r'
    show (both l l').leaves + (both r r').leaves + 1 ≤ l.leaves + r.leaves + (l'.leaves + r'.leaves)
    omega
theorem excess_length : ∀ {a m : T}, le a m → (excess a m).length = a.leaves
  | .leaf, _, _ => rfl
  | .node l r, .node l' r', h => by
    show (excess l l' ++ excess r r').length = _
    rw [List.length_append, excess_length h.1, excess_length h.2]
    rfl
theorem hung_append {l r : T} {xs ys : List T} (h : xs.length = l.leaves) : hung (.node l r) (xs ++ ys) = .node (hung l xs) (hung r ys) := by
  show T.node (hung l ((xs ++ ys).take l.leaves)) (hung r ((xs ++ ys).drop l.leaves)) = _
  rw [← h, List.take_left, List.drop_left]
theorem hung_excess : ∀ {a m : T}, le a m → hung a (excess a m) = m
  | .leaf, _, _ => rfl
  | .node l r, .node l' r', h => by
    show hung (.node l r) (excess l l' ++ excess r r') = _
    rw [hung_append (excess_length h.1), hung_excess h.1, hung_excess h.2]
def sumLeaves (ts : List T) : Nat := (ts.map T.leaves).sum
theorem hung_leaves : ∀ (a : T) (ts : List T), ts.length = a.leaves → (hung a ts).leaves = sumLeaves ts
  | .leaf, ts, h => by
    match ts, h with
    | [t], _ => simp [hung, sumLeaves]
  | .node l r, ts, h => by
    have h' : ts.length = l.leaves + r.leaves := h
    show (hung l (ts.take l.leaves)).leaves + (hung r (ts.drop l.leaves)).leaves = _
    rw [hung_leaves l _ (by rw [List.length_take]; omega), hung_leaves r _ (by rw [List.length_drop]; omega)]
    unfold sumLeaves
    rw [← List.sum_append, ← List.map_append, List.take_append_drop]
def expand : List Path → List T → List Path
  | p :: ps, t :: ts => t.paths.map (p ++ ·) ++ expand ps ts
  | _, _ => []
theorem expand_append : ∀ {ps qs : List Path} {ts us : List T}, ps.length = ts.length → expand (ps ++ qs) (ts ++ us) = expand ps ts ++ expand qs us
  | [], _, [], _, _ => rfl
  | p :: ps, qs, t :: ts, us, h => by
    show t.paths.map (p ++ ·) ++ expand (ps ++ qs) (ts ++ us) = (t.paths.map (p ++ ·) ++ expand ps ts) ++ expand qs us
    rw [expand_append (by simpa using h), List.append_assoc]
theorem expand_length : ∀ {ps : List Path} {ts : List T}, ps.length = ts.length → (expand ps ts).length = sumLeaves ts
  | [], [], _ => rfl
  | p :: ps, t :: ts, h => by
    show (t.paths.map (p ++ ·) ++ expand ps ts).length = _
    rw [List.length_append, expand_length (by simpa using h), List.length_map, T.paths_length]
    simp [sumLeaves]
theorem expand_cons : ∀ (b : Bool) (ps : List Path) (ts : List T), expand (ps.map (b :: ·)) ts = (expand ps ts).map (b :: ·)
  | _, [], ts => by cases ts <;> rfl
  | _, p :: ps, [] => rfl
  | b, p :: ps, t :: ts => by
    show t.paths.map ((b :: p) ++ ·) ++ expand (ps.map (b :: ·)) ts = (t.paths.map (p ++ ·) ++ expand ps ts).map (b :: ·)
    rw [expand_cons b ps ts, List.map_append, List.map_map]
    rfl
theorem hung_paths : ∀ (b : T) (ts : List T), ts.length = b.leaves → (hung b ts).paths = expand b.paths ts
  | .leaf, ts, h => by
    match ts, h with
    | [t], _ => simp [hung, expand, T.paths]
  | .node l r, ts, h => by
    have h' : ts.length = l.leaves + r.leaves := h
    show (hung l (ts.take l.leaves)).paths.map (false :: ·) ++ (hung r (ts.drop l.leaves)).paths.map (true :: ·) = expand (l.paths.map (false :: ·) ++ r.paths.map (true :: ·)) ts
    rw [hung_paths l _ (by rw [List.length_take]; omega), hung_paths r _ (by rw [List.length_drop]; omega)]
    conv => rhs; rw [← List.take_append_drop l.leaves ts]
    rw [expand_append (by rw [List.length_map, T.paths_length, List.length_take]; omega), expand_cons, expand_cons]
theorem sem_hung : ∀ (a : T) (ps : List Path) (ts : List T) (w : Seq), ps.length = a.leaves → ts.length = a.leaves → (lab (hung a ts) (expand ps ts)).sem w = (lab a ps).sem w
  | .leaf, ps, ts, w, h1, h2 => by
    match ps, ts, h1, h2 with
    | [p], [t], _, _ =>
      show (lab t (t.paths.map (p ++ ·) ++ [])).sem w = put p w
      rw [List.append_nil]
      exact sem_under t p w
  | .node l r, ps, ts, w, h1, h2 => by
    have h1' : ps.length = l.leaves + r.leaves := h1
    have h2' : ts.length = l.leaves + r.leaves := h2
    show (lab (.node (hung l (ts.take l.leaves)) (hung r (ts.drop l.leaves))) (expand ps ts)).sem w = (L.node (lab l (ps.take l.leaves)) (lab r (ps.drop l.leaves))).sem w
    have e : expand ps ts = expand (ps.take l.leaves) (ts.take l.leaves) ++ expand (ps.drop l.leaves) (ts.drop l.leaves) := by
      rw [← expand_append (by rw [List.length_take, List.length_take]; omega), List.take_append_drop, List.take_append_drop]
    rw [e, lab_append (by rw [expand_length (by rw [List.length_take, List.length_take]; omega), hung_leaves l _ (by rw [List.length_take]; omega)])]
    exact L.sem_ext (fun v => sem_hung l _ _ v (by rw [List.length_take]; omega) (by rw [List.length_take]; omega)) (fun v => sem_hung r _ _ v (by rw [List.length_drop]; omega) (by rw [List.length_drop]; omega)) w
theorem sem_hung2 {a b : T} {ts : List T} (h : a.leaves = b.leaves) (h2 : ts.length = a.leaves) (w : Seq) : sem (hung a ts, hung b ts) w = sem (a, b) w := by
  show (lab (hung a ts) (hung b ts).paths).sem w = (lab a b.paths).sem w
  rw [hung_paths b ts (by omega)]
  exact sem_hung a b.paths ts w (by rw [T.paths_length]; exact h.symm) h2

/-! ### what the program's functions make of maps -/
/-- f then g, before trimming -/
def thenP (f g : M) : M := (hung f.1 (excess f.2 (both f.2 g.1)), hung g.2 (excess g.1 (both f.2 g.1)))
theorem thenP_leaves1 {f : M} (g : M) (hf : Ev f) : (thenP f g).1.leaves = (both f.2 g.1).leaves := by
  have h1 := excess_length (le_both1 f.2 g.1)
  show (hung f.1 (excess f.2 (both f.2 g.1))).leaves = _
  rw [hung_leaves f.1 _ (by rw [h1]; exact hf.symm), ← hung_leaves f.2 _ h1, hung_excess (le_both1 f.2 g.1)]
theorem thenP_leaves2 (f : M) {g : M} (hg : Ev g) : (thenP f g).2.leaves = (both f.2 g.1).leaves := by
  have h1 := excess_length (le_both2 f.2 g.1)
  show (hung g.2 (excess g.1 (both f.2 g.1))).leaves = _
  rw [hung_leaves g.2 _ (by rw [h1]; exact hg), ← hung_leaves g.1 _ h1, hung_excess (le_both2 f.2 g.1)]
theorem thenP_ev {f g : M} (hf : Ev f) (hg : Ev g) : Ev (thenP f g) := (thenP_leaves1 g hf).trans (thenP_leaves2 f hg).symm
theorem thenP_le {f g : M} (hf : Ev f) : (thenP f g).1.leaves + 1 ≤ f.1.leaves + g.1.leaves := by
  rw [thenP_leaves1 g hf]
  have := both_leaves f.2 g.1
  unfold Ev at hf
  omega
theorem thenP_sem {f g : M} (hf : Ev f) (hg : Ev g) (w : Seq) : sem (thenP f g) w = sem g (sem f w) := by
  have h1 := excess_length (le_both1 f.2 g.1)
  have h2 := excess_length (le_both2 f.2 g.1)
  have e1 := sem_hung2 (a := f.1) (b := f.2) (ts := excess f.2 (both f.2 g.1)) hf (by rw [h1]; exact hf.symm)
  have e2 := sem_hung2 (a := g.1) (b := g.2) (ts := excess g.1 (both f.2 g.1)) hg h2
  rw [hung_excess (le_both1 f.2 g.1)] at e1
  rw [hung_excess (le_both2 f.2 g.1)] at e2
  have e3 := sem_comp (a := hung f.1 (excess f.2 (both f.2 g.1))) (b := both f.2 g.1) (c := hung g.2 (excess g.1 (both f.2 g.1))) (thenP_leaves1 g hf) w
  show sem (hung f.1 (excess f.2 (both f.2 g.1)), hung g.2 (excess g.1 (both f.2 g.1))) w = sem (g.1, g.2) (sem (f.1, f.2) w)
  rw [← e3, e2, e1]
def backP (f : M) : M := (f.2, f.1)
theorem backP_ev {f : M} (h : Ev f) : Ev (backP f) := h.symm
def lowP (f : M) : M := (.node f.1 .leaf, .node f.2 .leaf)
def highP (f : M) : M := (.node .leaf f.1, .node .leaf f.2)
theorem lowP_ev {f : M} (h : Ev f) : Ev (lowP f) := by
  show f.1.leaves + 1 = f.2.leaves + 1
  rw [h]
theorem highP_ev {f : M} (h : Ev f) : Ev (highP f) := by
  show 1 + f.1.leaves = 1 + f.2.leaves
  rw [h]
theorem sem_cons : ∀ (a : T) (b : Bool) (ls : List Path) (w : Seq), ls.length = a.leaves → (lab a (ls.map (b :: ·))).sem w = cons b ((lab a ls).sem w) := by
  intro a b ls w h
  rw [sem_lab, sem_lab]
  have h1 := locate_lt a w
  simp only [List.getD_eq_getElem?_getD]
  rw [List.getElem?_map, List.getElem?_eq_getElem (by omega)]
  rfl
def lowF (f : Seq → Seq) (w : Seq) : Seq := if w 0 = false then cons false (f (tl w)) else w
def highF (f : Seq → Seq) (w : Seq) : Seq := if w 0 = false then w else cons true (f (tl w))
theorem lowP_sem {f : M} (h : Ev f) (w : Seq) : sem (lowP f) w = lowF (sem f) w := by
  have e : toL (lowP f) = .node (lab f.1 (f.2.paths.map (false :: ·))) (.leaf [true]) := by
    show lab (.node f.1 .leaf) (f.2.paths.map (false :: ·) ++ [[true]]) = _
    rw [lab_append (by rw [List.length_map, T.paths_length]; exact h.symm)]
    rfl
  show (toL (lowP f)).sem w = _
  rw [e]
  show (if w 0 = false then (lab f.1 (f.2.paths.map (false :: ·))).sem (tl w) else cons true (tl w)) = if w 0 = false then cons false (sem f (tl w)) else w
  rw [sem_cons _ _ _ _ (by rw [T.paths_length]; exact h.symm)]
  have h1 := cons_eta w
  cases h0 : w 0 with
  | false => rfl
  | true =>
    rw [h0] at h1
    rw [if_neg (by decide), if_neg (by decide), h1]
theorem highP_sem {f : M} (h : Ev f) (w : Seq) : sem (highP f) w = highF (sem f) w := by
  have e : toL (highP f) = .node (.leaf [false]) (lab f.1 (f.2.paths.map (true :: ·))) := by
    show lab (.node .leaf f.1) ([[false]] ++ f.2.paths.map (true :: ·)) = _
    rw [lab_append rfl]
    rfl
  show (toL (highP f)).sem w = _
  rw [e]
  show (if w 0 = false then cons false (tl w) else (lab f.1 (f.2.paths.map (true :: ·))).sem (tl w)) = if w 0 = false then w else cons true (sem f (tl w))
  rw [sem_cons _ _ _ _ (by rw [T.paths_length]; exact h.symm)]
  have h1 := cons_eta w
  cases h0 : w 0 with
  | false =>
    rw [h0] at h1
    rw [if_pos rfl, if_pos rfl, h1]
  | true => rfl
theorem good_one : Good (.leaf, .leaf) := ⟨rfl, trivial⟩
theorem sem_one (w : Seq) : sem (.leaf, .leaf) w = w := rfl
/-- move 0 -/
def mA : M := (.node (.node .leaf .leaf) .leaf, .node .leaf (.node .leaf .leaf))
theorem good_mA : Good mA := by
  refine ⟨rfl, ?_⟩
  show (L.node (.node (.leaf [false]) (.leaf [true, false])) (.leaf [true, true])).red
  refine ⟨⟨trivial, trivial, ?_⟩, trivial, ?_⟩
  · rintro ⟨q, e1, e2⟩
    injection e1 with e1
    injection e2 with e2
    have h1 := congrArg List.length e1
    have h2 := congrArg List.length e2
    rw [List.length_append] at h1 h2
    have h3 : 1 = q.length + 1 := h1
    have h4 : 2 = q.length + 1 := h2
    omega
  · rintro ⟨q, e1, e2⟩
    cases e1
def aF (w : Seq) : Seq := if w 0 = false then (if w 1 = false then tl w else cons true (cons false (tl (tl w)))) else cons true w
theorem sem_mA (w : Seq) : sem mA w = aF w := by
  show (L.node (.node (.leaf [false]) (.leaf [true, false])) (.leaf [true, true])).sem w = _
  show (if w 0 = false then (if tl w 0 = false then cons false (tl (tl w)) else cons true (cons false (tl (tl w)))) else cons true (cons true (tl w))) = if w 0 = false then (if w 1 = false then tl w else cons true (cons false (tl (tl w)))) else cons true w
  have h1 := cons_eta w
  have h2 := cons_eta (tl w)
  have h3 : tl w 0 = w 1 := rfl
  cases h0 : w 0 with
  | false =>
    rw [if_pos rfl, if_pos rfl]
    cases h4 : w 1 with
    | false =>
      rw [h3, h4] at h2
      rw [h3, h4, if_pos rfl, if_pos rfl, h2]
    | true => rw [h3, h4, if_neg (by decide), if_neg (by decide)]
  | true =>
    rw [h0] at h1
    rw [if_neg (by decide), if_neg (by decide), h1]
end Hw
/-! Halvewright: what expressions do, the laws of the texts' rules. -/
namespace Hw
open PySem

@[ext] structure G where
  f : Seq → Seq
  g : Seq → Seq
  gf : ∀ w, g (f w) = w
  fg : ∀ w, f (g w) = w
theorem G.eq_of {x y : G} (h : ∀ w, x.f w = y.f w) : x = y := by
  have h1 : x.f = y.f := funext h
  have h2 : x.g = y.g := by
    funext w
    have a := y.fg w
    have b := x.gf (y.g w)
    rw [h, a] at b
    exact b
  cases x
  cases y
  cases h1
  cases h2
  rfl
namespace G
def one : G := ⟨id, id, fun _ => rfl, fun _ => rfl⟩
/-- x, then y -/
def mul (x y : G) : G := ⟨fun w => y.f (x.f w), fun w => x.g (y.g w), fun w => by rw [y.gf, x.gf], fun w => by rw [x.fg, y.fg]⟩
def inv (x : G) : G := ⟨x.g, x.f, x.fg, x.gf⟩
instance : Mul G := ⟨mul⟩
theorem mul_f (x y : G) (w : Seq) : (x * y).f w = y.f (x.f w) := rfl
theorem mul_assoc (x y z : G) : x * y * z = x * (y * z) := rfl
theorem one_mul (x : G) : one * x = x := rfl
theorem mul_one (x : G) : x * one = x := rfl
theorem inv_inv (x : G) : x.inv.inv = x := rfl
theorem inv_one : one.inv = one := rfl
theorem mul_inv_rev (x y : G) : (x * y).inv = y.inv * x.inv := rfl
theorem mul_inv (x : G) : x * x.inv = one := eq_of fun w => x.gf w
theorem inv_mul (x : G) : x.inv * x = one := eq_of fun w => x.fg w
theorem mul_inv_cancel (x y : G) : x * (x.inv * y) = y := by rw [← mul_assoc, mul_inv, one_mul]
theorem inv_mul_cancel (x y : G) : x.inv * (x * y) = y := by rw [← mul_assoc, inv_mul, one_mul]
theorem mul_left {x y z : G} (h : x * y = x * z) : y = z := by
  have e := congrArg (x.inv * ·) h
  simpa only [inv_mul_cancel] using e
def npow (x : G) : Nat → G
  | 0 => one
  | k + 1 => npow x k * x
def pw (x : G) (n : Int) : G := npow (if 0 < n then x else x.inv) n.natAbs
theorem lowF_f (f : Seq → Seq) (w : Seq) : lowF f (cons false w) = cons false (f w) := rfl
theorem lowF_t (f : Seq → Seq) (w : Seq) : lowF f (cons true w) = cons true w := rfl
theorem highF_f (f : Seq → Seq) (w : Seq) : highF f (cons false w) = cons false w := rfl
theorem highF_t (f : Seq → Seq) (w : Seq) : highF f (cons true w) = cons true (f w) := rfl
theorem lowF_lowF (f g : Seq → Seq) (h : ∀ w, g (f w) = w) (w : Seq) : lowF g (lowF f w) = w := by
  rw [← cons_eta w]
  cases w 0
  · rw [lowF_f, lowF_f, h]
  · rw [lowF_t, lowF_t]
theorem highF_highF (f g : Seq → Seq) (h : ∀ w, g (f w) = w) (w : Seq) : highF g (highF f w) = w := by
  rw [← cons_eta w]
  cases w 0
  · rw [highF_f, highF_f]
  · rw [highF_t, highF_t, h]
def low (x : G) : G := ⟨lowF x.f, lowF x.g, lowF_lowF _ _ x.gf, lowF_lowF _ _ x.fg⟩
def high (x : G) : G := ⟨highF x.f, highF x.g, highF_highF _ _ x.gf, highF_highF _ _ x.fg⟩
theorem low_false (x : G) (w : Seq) : x.low.f (cons false w) = cons false (x.f w) := rfl
theorem low_true (x : G) (w : Seq) : x.low.f (cons true w) = cons true w := rfl
theorem high_false (x : G) (w : Seq) : x.high.f (cons false w) = cons false w := rfl
theorem high_true (x : G) (w : Seq) : x.high.f (cons true w) = cons true (x.f w) := rfl
theorem eq_of2 {x y : G} (h0 : ∀ w, x.f (cons false w) = y.f (cons false w)) (h1 : ∀ w, x.f (cons true w) = y.f (cons true w)) : x = y := eq_of fun w => by
  rw [← cons_eta w]
  cases w 0
  · exact h0 _
  · exact h1 _
theorem low_mul (x y : G) : (x * y).low = x.low * y.low := eq_of2 (fun _ => rfl) (fun _ => rfl)
theorem high_mul (x y : G) : (x * y).high = x.high * y.high := eq_of2 (fun _ => rfl) (fun _ => rfl)
theorem low_one : one.low = one := eq_of2 (fun _ => rfl) (fun _ => rfl)
theorem high_one : one.high = one := eq_of2 (fun _ => rfl) (fun _ => rfl)
theorem low_inv (x : G) : x.inv.low = x.low.inv := rfl
theorem high_inv (x : G) : x.inv.high = x.high.inv := rfl
theorem low_npow (x : G) : ∀ k, (npow x k).low = npow x.low k
  | 0 => low_one
  | k + 1 => by
    show (npow x k * x).low = npow x.low k * x.low
    rw [low_mul, low_npow x k]
theorem high_npow (x : G) : ∀ k, (npow x k).high = npow x.high k
  | 0 => high_one
  | k + 1 => by
    show (npow x k * x).high = npow x.high k * x.high
    rw [high_mul, high_npow x k]
theorem low_pw (x : G) (n : Int) : (pw x n).low = pw x.low n := by
  unfold pw
  rw [low_npow]
  split <;> rfl
theorem high_pw (x : G) (n : Int) : (pw x n).high = pw x.high n := by
  unfold pw
  rw [high_npow]
  split <;> rfl
theorem low_high (x y : G) : x.low * y.high = y.high * x.low := eq_of2 (fun _ => rfl) (fun _ => rfl)
/-- as: y back, then x, then y -/
def as (x y : G) : G := y.inv * x * y
def com (x y : G) : G := x * y * (x.inv * y.inv)

/-- small powers, written out -/
theorem pw_cases {n : Int} (h : -4 ≤ n ∧ n ≤ 4) : n = -4 ∨ n = -3 ∨ n = -2 ∨ n = -1 ∨ n = 0 ∨ n = 1 ∨ n = 2 ∨ n = 3 ∨ n = 4 := by omega
theorem cases2 {n : Int} (h : -2 ≤ n ∧ n ≤ 2) : n = -2 ∨ n = -1 ∨ n = 0 ∨ n = 1 ∨ n = 2 := by omega
theorem pw_m4 (x : G) : pw x (-4) = x.inv * (x.inv * (x.inv * x.inv)) := rfl
theorem pw_m3 (x : G) : pw x (-3) = x.inv * (x.inv * x.inv) := rfl
theorem pw_m2 (x : G) : pw x (-2) = x.inv * x.inv := rfl
theorem pw_m1 (x : G) : pw x (-1) = x.inv := rfl
theorem pw_0 (x : G) : pw x 0 = one := rfl
theorem pw_1 (x : G) : pw x 1 = x := rfl
theorem pw_2 (x : G) : pw x 2 = x * x := rfl
theorem pw_3 (x : G) : pw x 3 = x * (x * x) := rfl
theorem pw_4 (x : G) : pw x 4 = x * (x * (x * x)) := rfl
theorem pw_add (x : G) {m n : Int} (hm : -2 ≤ m ∧ m ≤ 2) (hn : -2 ≤ n ∧ n ≤ 2) : pw x m * pw x n = pw x (m + n) := by
  rcases cases2 hm with rfl | rfl | rfl | rfl | rfl <;> rcases cases2 hn with rfl | rfl | rfl | rfl | rfl <;>
    simp only [Int.reduceAdd, Int.reduceNeg, pw_m4, pw_m3, pw_m2, pw_m1, pw_0, pw_1, pw_2, pw_3, pw_4, mul_assoc, one_mul, mul_one, mul_inv, inv_mul, mul_inv_cancel, inv_mul_cancel]
theorem pw_mul (x : G) {m n : Int} (hm : -2 ≤ m ∧ m ≤ 2) (hn : -2 ≤ n ∧ n ≤ 2) : pw (pw x m) n = pw x (m * n) := by
  rcases cases2 hm with rfl | rfl | rfl | rfl | rfl <;> rcases cases2 hn with rfl | rfl | rfl | rfl | rfl <;>
    simp only [Int.reduceMul, Int.reduceNeg, pw_m4, pw_m3, pw_m2, pw_m1, pw_0, pw_1, pw_2, pw_3, pw_4, mul_assoc, one_mul, mul_one, mul_inv, inv_mul, mul_inv_cancel, inv_mul_cancel, mul_inv_rev, inv_inv, inv_one]
theorem pw_inv1 (x : G) {m : Int} (hm : -2 ≤ m ∧ m ≤ 2) : pw x.inv m = (pw x m).inv := by
  rcases cases2 hm with rfl | rfl | rfl | rfl | rfl <;> rfl
theorem pw_inv2 (x : G) {m : Int} (hm : -2 ≤ m ∧ m ≤ 2) : (pw x m).inv = pw x (0 - m) := by
  rcases cases2 hm with rfl | rfl | rfl | rfl | rfl <;> rfl
theorem pw_as (x y : G) {n : Int} (hn : -2 ≤ n ∧ n ≤ 2) : pw (as x y) n = as (pw x n) y := by
  unfold as
  rcases cases2 hn with rfl | rfl | rfl | rfl | rfl <;>
    simp only [Int.reduceNeg, pw_m2, pw_m1, pw_0, pw_1, pw_2, mul_assoc, one_mul, mul_one, mul_inv, inv_mul, mul_inv_cancel, inv_mul_cancel, mul_inv_rev, inv_inv, inv_one]
theorem com_pw (x : G) {m : Int} (hm : -2 ≤ m ∧ m ≤ 2) : com x (pw x m) = one := by
  unfold com
  rcases cases2 hm with rfl | rfl | rfl | rfl | rfl <;>
    simp only [Int.reduceNeg, pw_m2, pw_m1, pw_0, pw_1, pw_2, mul_assoc, one_mul, mul_one, mul_inv, inv_mul, mul_inv_cancel, inv_mul_cancel, mul_inv_rev, inv_inv, inv_one]
theorem as_mul1 (x y z : G) : as (x * y) z = as x z * as y z := by
  unfold as
  simp only [mul_assoc, one_mul, mul_one, mul_inv, inv_mul, mul_inv_cancel, inv_mul_cancel]
theorem as_mul2 (x y z : G) : as x (y * z) = as (as x y) z := by
  unfold as
  simp only [mul_assoc, mul_inv_rev]
theorem com_inv (x y : G) : (com x y).inv = com y x := by
  unfold com
  simp only [mul_assoc, mul_inv_rev, inv_inv]
theorem com_as (x y : G) : com x y = as y x.inv * y.inv := by
  unfold com as
  simp only [mul_assoc, inv_inv]
theorem as_one (x : G) : as x one = x := rfl
theorem one_as (x : G) : as one x = one := by
  unfold as
  simp only [mul_one, inv_mul]
theorem com_one (x : G) : com x one = one := by
  unfold com
  simp only [mul_one, inv_one, mul_inv]
theorem com_low_high (x y : G) : com x.low y.high = one := by
  unfold com
  have h : x.low.inv * y.high.inv = y.high.inv * x.low.inv := low_high x.inv y.inv
  rw [h]
  simp only [mul_assoc, mul_inv_cancel, mul_inv]

/-! ### the moves -/
theorem aF_00 (w : Seq) : aF (cons false (cons false w)) = cons false w := rfl
theorem aF_01 (w : Seq) : aF (cons false (cons true w)) = cons true (cons false w) := rfl
theorem aF_1 (w : Seq) : aF (cons true w) = cons true (cons true w) := rfl
def bF (w : Seq) : Seq := sem (mA.2, mA.1) w
def a : G := ⟨sem mA, sem (mA.2, mA.1), sem_back good_mA.1, sem_back (m := (mA.2, mA.1)) good_mA.1.symm⟩
theorem a_f (w : Seq) : a.f w = aF w := sem_mA w
theorem a_inv_f {v w : Seq} (h : aF v = w) : a.inv.f w = v := by
  rw [← h, ← a_f]
  exact a.gf v
def mv : Nat → G
  | 0 => a
  | n + 1 => (mv n).high
theorem a_as (x : G) : as x.high a = x.high.high := by
  unfold as
  have h1 : ∀ w, a.inv.f (cons false w) = cons false (cons false w) := fun w => a_inv_f (aF_00 w)
  have h2 : ∀ w, a.inv.f (cons true (cons false w)) = cons false (cons true w) := fun w => a_inv_f (aF_01 w)
  have h3 : ∀ w, a.inv.f (cons true (cons true w)) = cons true w := fun w => a_inv_f (aF_1 w)
  refine eq_of2 (fun w => ?_) (fun w => ?_)
  · rw [mul_f, mul_f, h1, high_false, a_f, aF_00, high_false]
  · rw [← cons_eta w]
    cases w 0
    · rw [mul_f, mul_f, h2, high_false, a_f, aF_01, high_true, high_false]
    · rw [mul_f, mul_f, h3, high_true, a_f, aF_1, high_true, high_true]
theorem as_high (x y : G) : as x.high y.high = (as x y).high := by
  unfold as
  rw [high_mul, high_mul, high_inv]
theorem mv_as : ∀ (k d : Nat), as (mv (k + 1 + d)) (mv k) = mv (k + 2 + d)
  | 0, d => by
    have e : 0 + 1 + d = d + 1 := by omega
    have e2 : 0 + 2 + d = d + 1 + 1 := by omega
    rw [e, e2]
    exact a_as (mv d)
  | k + 1, d => by
    have e : k + 1 + 1 + d = (k + 1 + d) + 1 := by omega
    have e2 : k + 1 + 2 + d = (k + 2 + d) + 1 := by omega
    rw [e, e2]
    show as (mv (k + 1 + d)).high (mv k).high = (mv (k + 2 + d)).high
    rw [as_high, mv_as k d]
theorem mv_mul (k d : Nat) : mv (k + 1 + d) * mv k = mv k * mv (k + 2 + d) := by
  rw [← mv_as k d]
  unfold as
  simp only [mul_assoc, mul_inv_cancel]
/-- a map that sends some sequence to two unlike places by itself, by its back, and by resting -/
def Stirs (x : G) : Prop := ∃ w, x.f w ≠ w ∧ x.f w ≠ x.inv.f w
theorem stirs_a : Stirs a := by
  refine ⟨cons true (cons false fun _ => false), fun h => ?_, fun h => ?_⟩
  · rw [a_f, aF_1] at h
    have h1 := congrFun h 1
    cases h1
  · rw [a_f, aF_1, a_inv_f (aF_01 _)] at h
    have h1 := congrFun h 0
    cases h1
theorem Stirs.high {x : G} (h : Stirs x) : Stirs x.high := by
  obtain ⟨w, h1, h2⟩ := h
  refine ⟨cons true w, fun e => h1 ?_, fun e => h2 ?_⟩
  · exact (cons_inj e).2
  · exact (cons_inj e).2
theorem Stirs.low {x : G} (h : Stirs x) : Stirs x.low := by
  obtain ⟨w, h1, h2⟩ := h
  refine ⟨cons false w, fun e => h1 ?_, fun e => h2 ?_⟩
  · exact (cons_inj e).2
  · exact (cons_inj e).2
theorem stirs_mv : ∀ n, Stirs (mv n)
  | 0 => stirs_a
  | n + 1 => (stirs_mv n).high
theorem Stirs.ne1 {x : G} (h : Stirs x) (e : G) : e * x ≠ e := fun q => by
  obtain ⟨w, h1, _⟩ := h
  have q1 : e * x = e * one := q
  have q2 := mul_left q1
  rw [q2] at h1
  exact h1 rfl
theorem Stirs.ne2 {x : G} (h : Stirs x) (e : G) : e * x ≠ e * x.inv := fun q => by
  obtain ⟨w, _, h2⟩ := h
  have q2 := mul_left q
  have q3 : x.f w = x.inv.f w := congrArg (fun z : G => z.f w) q2
  exact h2 q3
end G

/-! ### expressions -/
inductive Ex where
  | one
  | move (n : Nat)
  | name (x : Str)
  | back (e : Ex)
  | power (e : Ex) (n : Int)
  | low (e : Ex)
  | high (e : Ex)
  | thn (e f : Ex)
  | as (e f : Ex)
  | com (e f : Ex)
namespace Ex
/-- what an expression does -/
def S (env : Str → G) : Ex → G
  | one => G.one
  | move n => G.mv n
  | name x => env x
  | back e => (S env e).inv
  | power e n => G.pw (S env e) n
  | low e => (S env e).low
  | high e => (S env e).high
  | thn e f => S env e * S env f
  | as e f => G.as (S env e) (S env f)
  | com e f => G.com (S env e) (S env f)
def wt (wn : Str → Nat) : Ex → Nat
  | one => 0
  | move n => n + 2
  | name x => wn x
  | back e => wt wn e
  | power e n => wt wn e * max 1 n.natAbs
  | low e => wt wn e + 1
  | high e => wt wn e + 1
  | thn e f => wt wn e + wt wn f
  | as e f => wt wn e + 2 * wt wn f
  | com e f => 2 * (wt wn e + wt wn f)
def deep : Ex → Nat
  | one => 1
  | move _ => 1
  | name _ => 1
  | back e => deep e + 1
  | power e _ => deep e + 1
  | low e => deep e + 1
  | high e => deep e + 1
  | thn e f => max (deep e) (deep f) + 1
  | as e f => max (deep e) (deep f) + 1
  | com e f => max (deep e) (deep f) + 1
/-- every name is among these -/
def NamesIn (ns : Str → Prop) : Ex → Prop
  | one => True
  | move _ => True
  | name x => ns x
  | back e => NamesIn ns e
  | power e _ => NamesIn ns e
  | low e => NamesIn ns e
  | high e => NamesIn ns e
  | thn e f => NamesIn ns e ∧ NamesIn ns f
  | as e f => NamesIn ns e ∧ NamesIn ns f
  | com e f => NamesIn ns e ∧ NamesIn ns f
/-- moves below 20, powers from -9 to 9 -/
def Small : Ex → Prop
  | one => True
  | move n => n < 20
  | name _ => True
  | back e => Small e
  | power e n => Small e ∧ -9 ≤ n ∧ n ≤ 9
  | low e => Small e
  | high e => Small e
  | thn e f => Small e ∧ Small f
  | as e f => Small e ∧ Small f
  | com e f => Small e ∧ Small f
def fill (pl : Str → Ex) : Ex → Ex
  | one => one
  | move n => move n
  | name x => pl x
  | back e => back (fill pl e)
  | power e n => power (fill pl e) n
  | low e => low (fill pl e)
  | high e => high (fill pl e)
  | thn e f => thn (fill pl e) (fill pl f)
  | as e f => as (fill pl e) (fill pl f)
  | com e f => com (fill pl e) (fill pl f)
theorem NamesIn.mono {p q : Str → Prop} (h : ∀ x, p x → q x) : ∀ {e : Ex}, e.NamesIn p → e.NamesIn q
  | one, _ => trivial
  | move _, _ => trivial
  | name x, k => h x k
  | back e, k => NamesIn.mono h (e := e) k
  | power e _, k => NamesIn.mono h (e := e) k
  | low e, k => NamesIn.mono h (e := e) k
  | high e, k => NamesIn.mono h (e := e) k
  | thn e f, k => ⟨NamesIn.mono h (e := e) k.1, NamesIn.mono h (e := f) k.2⟩
  | as e f, k => ⟨NamesIn.mono h (e := e) k.1, NamesIn.mono h (e := f) k.2⟩
  | com e f, k => ⟨NamesIn.mono h (e := e) k.1, NamesIn.mono h (e := f) k.2⟩
theorem S_fill {env env' : Str → G} {pl : Str → Ex} {ns : Str → Prop} (h : ∀ x, ns x → env x = S env' (pl x)) : ∀ {e : Ex}, e.NamesIn ns → S env' (fill pl e) = S env e
  | one, _ => rfl
  | move _, _ => rfl
  | name x, k => (h x k).symm
  | back e, k => by simp only [fill, S, S_fill h (e := e) k]
  | power e n, k => by simp only [fill, S, S_fill h (e := e) k]
  | low e, k => by simp only [fill, S, S_fill h (e := e) k]
  | high e, k => by simp only [fill, S, S_fill h (e := e) k]
  | thn e f, k => by simp only [fill, S, S_fill h (e := e) k.1, S_fill h (e := f) k.2]
  | as e f, k => by simp only [fill, S, S_fill h (e := e) k.1, S_fill h (e := f) k.2]
  | com e f, k => by simp only [fill, S, S_fill h (e := e) k.1, S_fill h (e := f) k.2]
theorem wt_fill {wn wn' : Str → Nat} {pl : Str → Ex} {ns : Str → Prop} (h : ∀ x, ns x → wn x = wt wn' (pl x)) : ∀ {e : Ex}, e.NamesIn ns → wt wn' (fill pl e) = wt wn e
  | one, _ => rfl
  | move _, _ => rfl
  | name x, k => (h x k).symm
  | back e, k => by simp only [fill, wt, wt_fill h (e := e) k]
  | power e n, k => by simp only [fill, wt, wt_fill h (e := e) k]
  | low e, k => by simp only [fill, wt, wt_fill h (e := e) k]
  | high e, k => by simp only [fill, wt, wt_fill h (e := e) k]
  | thn e f, k => by simp only [fill, wt, wt_fill h (e := e) k.1, wt_fill h (e := f) k.2]
  | as e f, k => by simp only [fill, wt, wt_fill h (e := e) k.1, wt_fill h (e := f) k.2]
  | com e f, k => by simp only [fill, wt, wt_fill h (e := e) k.1, wt_fill h (e := f) k.2]
theorem wt_mono {wn wn' : Str → Nat} {ns : Str → Prop} (h : ∀ x, ns x → wn x ≤ wn' x) : ∀ {e : Ex}, e.NamesIn ns → wt wn e ≤ wt wn' e
  | one, _ => Nat.le_refl _
  | move _, _ => Nat.le_refl _
  | name x, k => h x k
  | back e, k => wt_mono h (e := e) k
  | power e n, k => Nat.mul_le_mul_right _ (wt_mono h (e := e) k)
  | low e, k => Nat.succ_le_succ (wt_mono h (e := e) k)
  | high e, k => Nat.succ_le_succ (wt_mono h (e := e) k)
  | thn e f, k => Nat.add_le_add (wt_mono h (e := e) k.1) (wt_mono h (e := f) k.2)
  | as e f, k => Nat.add_le_add (wt_mono h (e := e) k.1) (Nat.mul_le_mul_left _ (wt_mono h (e := f) k.2))
  | com e f, k => Nat.mul_le_mul_left _ (Nat.add_le_add (wt_mono h (e := e) k.1) (wt_mono h (e := f) k.2))
theorem deep_pos : ∀ e : Ex, 1 ≤ e.deep
  | one => Nat.le_refl _
  | move _ => Nat.le_refl _
  | name _ => Nat.le_refl _
  | back _ => Nat.le_add_left _ _
  | power _ _ => Nat.le_add_left _ _
  | low _ => Nat.le_add_left _ _
  | high _ => Nat.le_add_left _ _
  | thn _ _ => Nat.le_add_left _ _
  | as _ _ => Nat.le_add_left _ _
  | com _ _ => Nat.le_add_left _ _
theorem deep_fill {pl : Str → Ex} {ns : Str → Prop} {k : Nat} (h : ∀ x, ns x → (pl x).deep ≤ k) (hk : 1 ≤ k) : ∀ {e : Ex}, e.NamesIn ns → (fill pl e).deep + 1 ≤ e.deep + k
  | one, _ => by show 1 + 1 ≤ 1 + k; omega
  | move _, _ => by show 1 + 1 ≤ 1 + k; omega
  | name x, q => by have := h x q; show (pl x).deep + 1 ≤ 1 + k; omega
  | back e, q => by have := deep_fill h hk (e := e) q; show (fill pl e).deep + 1 + 1 ≤ e.deep + 1 + k; omega
  | power e n, q => by have := deep_fill h hk (e := e) q; show (fill pl e).deep + 1 + 1 ≤ e.deep + 1 + k; omega
  | low e, q => by have := deep_fill h hk (e := e) q; show (fill pl e).deep + 1 + 1 ≤ e.deep + 1 + k; omega
  | high e, q => by have := deep_fill h hk (e := e) q; show (fill pl e).deep + 1 + 1 ≤ e.deep + 1 + k; omega
  | thn e f, q => by have h1 := deep_fill h hk (e := e) q.1; have h2 := deep_fill h hk (e := f) q.2; show max (fill pl e).deep (fill pl f).deep + 1 + 1 ≤ max e.deep f.deep + 1 + k; omega
  | as e f, q => by have h1 := deep_fill h hk (e := e) q.1; have h2 := deep_fill h hk (e := f) q.2; show max (fill pl e).deep (fill pl f).deep + 1 + 1 ≤ max e.deep f.deep + 1 + k; omega
  | com e f, q => by have h1 := deep_fill h hk (e := e) q.1; have h2 := deep_fill h hk (e := f) q.2; show max (fill pl e).deep (fill pl f).deep + 1 + 1 ≤ max e.deep f.deep + 1 + k; omega
theorem fill_names {pl : Str → Ex} {ns : Str → Prop} {p : Str → Prop} (h : ∀ x, ns x → (pl x).NamesIn p) : ∀ {e : Ex}, e.NamesIn ns → (fill pl e).NamesIn p
  | one, _ => trivial
  | move _, _ => trivial
  | name x, k => h x k
  | back e, k => fill_names h (e := e) k
  | power e _, k => fill_names h (e := e) k
  | low e, k => fill_names h (e := e) k
  | high e, k => fill_names h (e := e) k
  | thn e f, k => ⟨fill_names h (e := e) k.1, fill_names h (e := f) k.2⟩
  | as e f, k => ⟨fill_names h (e := e) k.1, fill_names h (e := f) k.2⟩
  | com e f, k => ⟨fill_names h (e := e) k.1, fill_names h (e := f) k.2⟩
theorem fill_small {pl : Str → Ex} {ns : Str → Prop} (h : ∀ x, ns x → (pl x).Small) : ∀ {e : Ex}, e.NamesIn ns → e.Small → (fill pl e).Small
  | one, _, _ => trivial
  | move _, _, q => q
  | name x, k, _ => h x k
  | back e, k, q => fill_small h (e := e) k q
  | power e _, k, q => ⟨fill_small h (e := e) k q.1, q.2⟩
  | low e, k, q => fill_small h (e := e) k q
  | high e, k, q => fill_small h (e := e) k q
  | thn e f, k, q => ⟨fill_small h (e := e) k.1 q.1, fill_small h (e := f) k.2 q.2⟩
  | as e f, k, q => ⟨fill_small h (e := e) k.1 q.1, fill_small h (e := f) k.2 q.2⟩
  | com e f, k, q => ⟨fill_small h (e := e) k.1 q.1, fill_small h (e := f) k.2 q.2⟩
end Ex

/-! ### maps and what they do -/
def G.of (m : M) (h : Ev m) : G := ⟨sem m, sem (m.2, m.1), sem_back h, sem_back (m := (m.2, m.1)) h.symm⟩
/-- the map m does what x does, and is trimmed -/
def Does (m : M) (x : G) : Prop := Good m ∧ ∀ w, sem m w = x.f w
theorem Does.ext {m n : M} {x : G} (h : Does m x) (k : Does n x) : m = n := good_ext h.1 k.1 fun w => (h.2 w).trans (k.2 w).symm
theorem Does.inj {m : M} {x y : G} (h : Does m x) (k : Does m y) : x = y := G.eq_of fun w => (h.2 w).symm.trans (k.2 w)
theorem Does.ev {m : M} {x : G} (h : Does m x) : Ev m := h.1.1
theorem does_one : Does (.leaf, .leaf) G.one := ⟨good_one, fun _ => rfl⟩
theorem does_a : Does mA (G.mv 0) := ⟨good_mA, fun _ => rfl⟩
/-- before trimming: as many leaves, and it does what x does -/
def Pre (m : M) (x : G) : Prop := Ev m ∧ ∀ w, sem m w = x.f w
theorem pre_then {f g : M} {x y : G} (hf : Does f x) (hg : Does g y) : Pre (thenP f g) (x * y) :=
  ⟨thenP_ev hf.ev hg.ev, fun w => by rw [thenP_sem hf.ev hg.ev, hf.2, hg.2]; rfl⟩
theorem pre_back {f : M} {x : G} (hf : Does f x) : Pre (backP f) x.inv :=
  ⟨backP_ev hf.ev, fun w => by
    show sem (f.2, f.1) w = x.g w
    have h := x.fg w
    have h2 := sem_back hf.ev (x.g w)
    rw [hf.2, h] at h2
    exact h2⟩
theorem pre_low {f : M} {x : G} (hf : Does f x) : Pre (lowP f) x.low :=
  ⟨lowP_ev hf.ev, fun w => by
    rw [lowP_sem hf.ev]
    show lowF (sem f) w = lowF x.f w
    rw [funext hf.2]⟩
theorem pre_high {f : M} {x : G} (hf : Does f x) : Pre (highP f) x.high :=
  ⟨highP_ev hf.ev, fun w => by
    rw [highP_sem hf.ev]
    show highF (sem f) w = highF x.f w
    rw [funext hf.2]⟩
end Hw
/-! Halvewright: texts of expressions, their pieces, how they are read. -/
namespace Hw
open PySem

def mk (l : List Nat) : Str := ⟨l.toArray⟩
theorem mk_toList (l : List Nat) : (mk l).cps.toList = l := rfl
theorem of_mk (s : Str) : mk s.cps.toList = s := rfl
theorem mk_append (a b : List Nat) : mk a ++ mk b = mk (a ++ b) := by
  show (⟨a.toArray ++ b.toArray⟩ : Str) = ⟨(a ++ b).toArray⟩
  rw [List.append_toArray]
theorem mk_inj {a b : List Nat} (h : mk a = mk b) : a = b := by
  have := congrArg (fun s : Str => s.cps.toList) h
  exact this
theorem str_append (a b : Str) : a ++ b = mk (a.cps.toList ++ b.cps.toList) := by
  rw [← of_mk a, ← of_mk b, mk_append]
  rfl

/-! ### signs -/
def isSmall (c : Nat) : Bool := decide (97 ≤ c) && decide (c ≤ 122)
def isFig (c : Nat) : Bool := decide (48 ≤ c) && decide (c ≤ 57)
def isAl (c : Nat) : Bool := isSmall c || isFig c
def isSign (c : Nat) : Bool := c == 40 || c == 41 || c == 44 || c == 126
abbrev wOne : List Nat := [111, 110, 101]
abbrev wLow : List Nat := [108, 111, 119]
abbrev wHigh : List Nat := [104, 105, 103, 104]
abbrev wAs : List Nat := [97, 115]
abbrev wCom : List Nat := [99, 111, 109]
def taken (w : List Nat) : Bool := w == wOne || w == wLow || w == wHigh || w == wAs || w == wCom
/-- a name -/
def okName (w : List Nat) : Bool := decide (1 ≤ w.length) && decide (w.length ≤ 6) && !taken w && w.all isSmall
def okNum (w : List Nat) : Bool := decide (1 ≤ w.length) && decide (w.length ≤ 3) && !(w.head? == some 48 && decide (1 < w.length)) && w.all isFig
/-- the figures of a number below 100 -/
def figs (n : Nat) : List Nat := if n < 10 then [48 + n] else [48 + n / 10, 48 + n % 10]
def figI (n : Int) : List Nat := if n < 0 then 45 :: figs n.natAbs else figs n.natAbs
theorem figs_ok : ∀ n, n < 20 → okNum (figs n) = true := by
  have h : ∀ n : Fin 20, okNum (figs n.1) = true := by decide +kernel
  exact fun n hn => h ⟨n, hn⟩
theorem figs_ne (n : Nat) : figs n ≠ [] := by
  unfold figs
  split <;> simp
theorem figs_al {n : Nat} (h : n < 20) : ∀ x ∈ figs n, isFig x = true := by
  have h1 := figs_ok n h
  unfold okNum at h1
  rw [Bool.and_eq_true] at h1
  exact List.all_eq_true.mp h1.2
theorem okName_al {w : List Nat} (h : okName w = true) : (∀ x ∈ w, isSmall x = true) ∧ w ≠ [] ∧ w.length ≤ 6 ∧ taken w = false := by
  unfold okName at h
  simp only [Bool.and_eq_true, decide_eq_true_eq, Bool.not_eq_true'] at h
  refine ⟨List.all_eq_true.mp h.2, fun e => ?_, h.1.1.2, h.1.2⟩
  rw [e] at h
  exact absurd h.1.1.1 (by decide)
theorem small_al {c : Nat} (h : isSmall c = true) : isAl c = true := by
  unfold isAl
  rw [h]
  rfl
theorem fig_al {c : Nat} (h : isFig c = true) : isAl c = true := by
  unfold isAl
  rw [h, Bool.or_true]

/-! ### written forms -/
inductive C where
  | one
  | move (n : Nat)
  | name (x : Str)
  | par (c : C)
  | back (c : C)
  | power (c : C) (n : Int)
  | low (c : C)
  | high (c : C)
  | as (c d : C)
  | com (c d : C)
  | thn (b : Bool) (c d : C)
namespace C
def ex : C → Ex
  | one => .one
  | move n => .move n
  | name x => .name x
  | par c => ex c
  | back c => .back (ex c)
  | power c n => .power (ex c) n
  | low c => .low (ex c)
  | high c => .high (ex c)
  | as c d => .as (ex c) (ex d)
  | com c d => .com (ex c) (ex d)
  | thn _ c d => .thn (ex c) (ex d)
def txt : C → List Nat
  | one => wOne
  | move n => 109 :: figs n
  | name x => x.cps.toList
  | par c => 40 :: (txt c ++ [41])
  | back c => txt c ++ [126]
  | power c n => txt c ++ 94 :: figI n
  | low c => wLow ++ 40 :: (txt c ++ [41])
  | high c => wHigh ++ 40 :: (txt c ++ [41])
  | as c d => wAs ++ 40 :: (txt c ++ 44 :: 32 :: (txt d ++ [41]))
  | com c d => wCom ++ 40 :: (txt c ++ 44 :: 32 :: (txt d ++ [41]))
  | thn b c d => txt c ++ (if b = true then 32 :: txt d else txt d)
def toks : C → List (List Nat)
  | one => [wOne]
  | move n => [109 :: figs n]
  | name x => [x.cps.toList]
  | par c => [40] :: (toks c ++ [[41]])
  | back c => toks c ++ [[126]]
  | power c n => toks c ++ [94 :: figI n]
  | low c => wLow :: [40] :: (toks c ++ [[41]])
  | high c => wHigh :: [40] :: (toks c ++ [[41]])
  | as c d => wAs :: [40] :: (toks c ++ [44] :: (toks d ++ [[41]]))
  | com c d => wCom :: [40] :: (toks c ++ [44] :: (toks d ++ [[41]]))
  | thn _ c d => toks c ++ toks d
def item : C → Bool
  | thn _ _ _ => false
  | _ => true
def closed : C → Bool
  | one => false
  | move _ => false
  | name _ => false
  | power _ _ => false
  | thn _ _ d => closed d
  | _ => true
def opens : C → Bool
  | par _ => true
  | back c => opens c
  | power c _ => opens c
  | thn _ c _ => opens c
  | _ => false
def ok : C → Prop
  | one => True
  | move n => n < 20
  | name x => okName x.cps.toList = true
  | par c => ok c
  | back c => ok c ∧ item c = true
  | power c n => ok c ∧ item c = true ∧ -9 ≤ n ∧ n ≤ 9
  | low c => ok c
  | high c => ok c
  | as c d => ok c ∧ ok d
  | com c d => ok c ∧ ok d
  | thn b c d => ok c ∧ ok d ∧ item d = true ∧ (b = true ∨ closed c = true ∨ opens d = true)
/-- how deep brackets stand in one another -/
def nest : C → Nat
  | one => 0
  | move _ => 0
  | name _ => 0
  | par c => nest c + 1
  | back c => nest c
  | power c _ => nest c
  | low c => nest c + 1
  | high c => nest c + 1
  | as c d => max (nest c) (nest d) + 1
  | com c d => max (nest c) (nest d) + 1
  | thn _ c d => max (nest c) (nest d)
theorem opens_head : ∀ {c : C}, opens c = true → ∃ r, txt c = 40 :: r
  | par c, _ => ⟨_, rfl⟩
  | back c, h => by obtain ⟨r, e⟩ := opens_head (c := c) h; exact ⟨r ++ [126], by show txt c ++ [126] = _; rw [e]; rfl⟩
  | power c n, h => by obtain ⟨r, e⟩ := opens_head (c := c) h; exact ⟨r ++ 94 :: figI n, by show txt c ++ 94 :: figI n = _; rw [e]; rfl⟩
  | thn b c d, h => by
    obtain ⟨r, e⟩ := opens_head (c := c) h
    exact ⟨r ++ (if b = true then 32 :: txt d else txt d), by show txt c ++ (if b = true then 32 :: txt d else txt d) = _; rw [e]; rfl⟩
end C

/-! ### the pieces of a text -/
def stop (p : Nat → Bool) (cs : List Nat) : Prop := ∀ x ∈ cs.head?, p x = false
inductive Pc : List Nat → List (List Nat) → Prop
  | nil : Pc [] []
  | blank {cs : List Nat} {ts : List (List Nat)} : Pc cs ts → Pc (32 :: cs) ts
  | sign {c : Nat} {cs : List Nat} {ts : List (List Nat)} : isSign c = true → Pc cs ts → Pc (c :: cs) ([c] :: ts)
  | word {w cs : List Nat} {ts : List (List Nat)} : w ≠ [] → (∀ x ∈ w, isAl x = true) → stop isAl cs → Pc cs ts → Pc (w ++ cs) (w :: ts)
  | pow {m fs cs : List Nat} {ts : List (List Nat)} : (m = [] ∨ m = [45]) → okNum fs = true → ¬ (m = [45] ∧ fs = [48]) → stop isFig cs → Pc cs ts → Pc (94 :: (m ++ (fs ++ cs))) ((94 :: (m ++ fs)) :: ts)
theorem stop_cons {p : Nat → Bool} {c : Nat} {cs : List Nat} (h : p c = false) : stop p (c :: cs) := fun x hx => by
  have e : c = x := by simpa using hx
  rw [← e]; exact h
theorem stop_fig {cs : List Nat} (h : stop isAl cs) : stop isFig cs := fun x hx => by
  have h1 := h x hx
  unfold isAl at h1
  rw [Bool.or_eq_false_iff] at h1
  exact h1.2
theorem ints_split {n : Int} (h : -9 ≤ n ∧ n ≤ 9) : ∃ m fs, figI n = m ++ fs ∧ (m = [] ∨ m = [45]) ∧ okNum fs = true ∧ ¬ (m = [45] ∧ fs = [48]) := by
  by_cases hn : n < 0
  · refine ⟨[45], figs n.natAbs, by unfold figI; rw [if_pos hn]; rfl, .inr rfl, figs_ok _ (by omega), ?_⟩
    rintro ⟨_, e⟩
    have h1 : n.natAbs < 10 := by omega
    unfold figs at e
    rw [if_pos h1] at e
    injection e with e _
    omega
  · exact ⟨[], figs n.natAbs, by unfold figI; rw [if_neg hn]; rfl, .inl rfl, figs_ok _ (by omega), fun h => (nomatch h.1)⟩
theorem pc_word {w cs : List Nat} {ts : List (List Nat)} (h : Pc cs ts) (hn : w ≠ []) (ha : w.all isAl = true) (hs : stop isAl cs) : Pc (w ++ cs) (w :: ts) :=
  .word hn (List.all_eq_true.mp ha) hs h
theorem pc_main : ∀ {c : C} {cs : List Nat} {ts : List (List Nat)}, c.ok → (c.closed = true ∨ stop isAl cs) → Pc cs ts → Pc (c.txt ++ cs) (c.toks ++ ts)
  | .one, cs, ts, _, hs, h => by
    refine pc_word h (by decide) (by decide) ?_
    rcases hs with hs | hs
    · cases hs
    · exact hs
  | .move n, cs, ts, hk, hs, h => by
    have hk' : n < 20 := hk
    refine pc_word (w := 109 :: figs n) h (by simp) ?_ ?_
    · rw [List.all_cons, Bool.and_eq_true]
      exact ⟨by decide, List.all_eq_true.mpr fun x hx => fig_al (figs_al hk' x hx)⟩
    · rcases hs with hs | hs
      · cases hs
      · exact hs
  | .name x, cs, ts, hk, hs, h => by
    obtain ⟨h1, h2, _⟩ := okName_al (w := x.cps.toList) hk
    refine pc_word h h2 (List.all_eq_true.mpr fun y hy => small_al (h1 y hy)) ?_
    rcases hs with hs | hs
    · cases hs
    · exact hs
  | .par c, cs, ts, hk, hs, h => by
    have h1 : Pc (41 :: cs) ([41] :: ts) := .sign (by decide) h
    have h2 := pc_main (c := c) hk (.inr (stop_cons (by decide))) h1
    have h3 : Pc (40 :: (c.txt ++ 41 :: cs)) ([40] :: (c.toks ++ [41] :: ts)) := .sign (by decide) h2
    show Pc (40 :: (c.txt ++ [41]) ++ cs) ([40] :: (c.toks ++ [[41]]) ++ ts)
    simpa using h3
  | .back c, cs, ts, hk, hs, h => by
    have h1 : Pc (126 :: cs) ([126] :: ts) := .sign (by decide) h
    have h2 := pc_main (c := c) hk.1 (.inr (stop_cons (by decide))) h1
    show Pc (c.txt ++ [126] ++ cs) (c.toks ++ [[126]] ++ ts)
    simpa using h2
  | .power c n, cs, ts, hk, hs, h => by
    obtain ⟨m, fs, e, hm, hf, hz⟩ := ints_split hk.2.2
    have hs' : stop isAl cs := by
      rcases hs with hs | hs
      · cases hs
      · exact hs
    have h1 : Pc (94 :: (m ++ (fs ++ cs))) ((94 :: (m ++ fs)) :: ts) := .pow hm hf hz (stop_fig hs') h
    have h2 := pc_main (c := c) hk.1 (.inr (stop_cons (by decide))) h1
    show Pc (c.txt ++ 94 :: figI n ++ cs) (c.toks ++ [94 :: figI n] ++ ts)
    rw [e]
    simpa using h2
  | .low c, cs, ts, hk, hs, h => by
    have h1 : Pc (41 :: cs) ([41] :: ts) := .sign (by decide) h
    have h2 := pc_main (c := c) hk (.inr (stop_cons (by decide))) h1
    have h3 : Pc (40 :: (c.txt ++ 41 :: cs)) ([40] :: (c.toks ++ [41] :: ts)) := .sign (by decide) h2
    have h4 := pc_word (w := wLow) h3 (by decide) (by decide) (stop_cons (by decide))
    show Pc (wLow ++ 40 :: (c.txt ++ [41]) ++ cs) (wLow :: [40] :: (c.toks ++ [[41]]) ++ ts)
    simpa using h4
  | .high c, cs, ts, hk, hs, h => by
    have h1 : Pc (41 :: cs) ([41] :: ts) := .sign (by decide) h
    have h2 := pc_main (c := c) hk (.inr (stop_cons (by decide))) h1
    have h3 : Pc (40 :: (c.txt ++ 41 :: cs)) ([40] :: (c.toks ++ [41] :: ts)) := .sign (by decide) h2
    have h4 := pc_word (w := wHigh) h3 (by decide) (by decide) (stop_cons (by decide))
    show Pc (wHigh ++ 40 :: (c.txt ++ [41]) ++ cs) (wHigh :: [40] :: (c.toks ++ [[41]]) ++ ts)
    simpa using h4
  | .as c d, cs, ts, hk, hs, h => by
    have h1 : Pc (41 :: cs) ([41] :: ts) := .sign (by decide) h
    have h2 := pc_main (c := d) hk.2 (.inr (stop_cons (by decide))) h1
    have h3 : Pc (44 :: 32 :: (d.txt ++ 41 :: cs)) ([44] :: (d.toks ++ [41] :: ts)) := .sign (by decide) (.blank h2)
    have h5 := pc_main (c := c) hk.1 (.inr (stop_cons (by decide))) h3
    have h6 : Pc (40 :: (c.txt ++ 44 :: 32 :: (d.txt ++ 41 :: cs))) ([40] :: (c.toks ++ [44] :: (d.toks ++ [41] :: ts))) := .sign (by decide) h5
    have h4 := pc_word (w := wAs) h6 (by decide) (by decide) (stop_cons (by decide))
    show Pc (wAs ++ 40 :: (c.txt ++ 44 :: 32 :: (d.txt ++ [41])) ++ cs) (wAs :: [40] :: (c.toks ++ [44] :: (d.toks ++ [[41]])) ++ ts)
    simpa using h4
  | .com c d, cs, ts, hk, hs, h => by
    have h1 : Pc (41 :: cs) ([41] :: ts) := .sign (by decide) h
    have h2 := pc_main (c := d) hk.2 (.inr (stop_cons (by decide))) h1
    have h3 : Pc (44 :: 32 :: (d.txt ++ 41 :: cs)) ([44] :: (d.toks ++ [41] :: ts)) := .sign (by decide) (.blank h2)
    have h5 := pc_main (c := c) hk.1 (.inr (stop_cons (by decide))) h3
    have h6 : Pc (40 :: (c.txt ++ 44 :: 32 :: (d.txt ++ 41 :: cs))) ([40] :: (c.toks ++ [44] :: (d.toks ++ [41] :: ts))) := .sign (by decide) h5
    have h4 := pc_word (w := wCom) h6 (by decide) (by decide) (stop_cons (by decide))
    show Pc (wCom ++ 40 :: (c.txt ++ 44 :: 32 :: (d.txt ++ [41])) ++ cs) (wCom :: [40] :: (c.toks ++ [44] :: (d.toks ++ [[41]])) ++ ts)
    simpa using h4
  | .thn b c d, cs, ts, hk, hs, h => by
    have h1 := pc_main (c := d) hk.2.1 hs h
    show Pc (c.txt ++ (if b = true then 32 :: d.txt else d.txt) ++ cs) (c.toks ++ d.toks ++ ts)
    cases b with
    | true =>
      have h2 := pc_main (c := c) hk.1 (.inr (stop_cons (by decide))) (.blank h1)
      simpa using h2
    | false =>
      have h2 := pc_main (c := c) (cs := d.txt ++ cs) hk.1 (by
        rcases hk.2.2.2 with q | q | q
        · cases q
        · exact .inl q
        · obtain ⟨r, e⟩ := C.opens_head q
          rw [e]
          exact .inr (stop_cons (by decide))) h1
      simpa using h2
theorem pc_all {c : C} (hk : c.ok) : Pc c.txt c.toks := by
  have h := pc_main (cs := []) (ts := []) hk (.inr (fun x hx => by cases hx)) .nil
  simpa using h

/-! ### what belongs to a word or a bracket; the parts of a chain -/
inductive Post where
  | til
  | pw (n : Int)
def Post.tok : Post → List Nat
  | til => [126]
  | pw n => 94 :: figI n
def Post.ex (e : Ex) : Post → Ex
  | til => .back e
  | pw n => .power e n
def Post.ok : Post → Prop
  | til => True
  | pw n => -9 ≤ n ∧ n ≤ 9
namespace C
def core : C → C × List Post
  | back c => ((core c).1, (core c).2 ++ [.til])
  | power c n => ((core c).1, (core c).2 ++ [.pw n])
  | c => (c, [])
def atom : C → Bool
  | thn _ _ _ => false
  | back _ => false
  | power _ _ => false
  | _ => true
theorem core_toks : ∀ c : C, c.toks = (core c).1.toks ++ (core c).2.map Post.tok
  | back c => by
    show c.toks ++ [[126]] = (core c).1.toks ++ ((core c).2 ++ [Post.til]).map Post.tok
    rw [core_toks c]; simp [Post.tok]
  | power c n => by
    show c.toks ++ [94 :: figI n] = (core c).1.toks ++ ((core c).2 ++ [Post.pw n]).map Post.tok
    rw [core_toks c]; simp [Post.tok]
  | one => (List.append_nil _).symm
  | move _ => (List.append_nil _).symm
  | name _ => (List.append_nil _).symm
  | par _ => (List.append_nil _).symm
  | low _ => (List.append_nil _).symm
  | high _ => (List.append_nil _).symm
  | as _ _ => (List.append_nil _).symm
  | com _ _ => (List.append_nil _).symm
  | thn _ _ _ => (List.append_nil _).symm
theorem core_ex : ∀ c : C, c.ex = (core c).2.foldl Post.ex (core c).1.ex
  | back c => by
    show Ex.back c.ex = ((core c).2 ++ [Post.til]).foldl Post.ex (core c).1.ex
    rw [List.foldl_append, ← core_ex c]; rfl
  | power c n => by
    show Ex.power c.ex n = ((core c).2 ++ [Post.pw n]).foldl Post.ex (core c).1.ex
    rw [List.foldl_append, ← core_ex c]; rfl
  | one => rfl
  | move _ => rfl
  | name _ => rfl
  | par _ => rfl
  | low _ => rfl
  | high _ => rfl
  | as _ _ => rfl
  | com _ _ => rfl
  | thn _ _ _ => rfl
theorem core_ok : ∀ {c : C}, c.ok → c.item = true → (core c).1.ok ∧ atom (core c).1 = true ∧ (core c).1.nest = c.nest ∧ ∀ p ∈ (core c).2, p.ok
  | back c, h, _ => by
    obtain ⟨h1, h2, h3, h4⟩ := core_ok (c := c) h.1 h.2
    refine ⟨h1, h2, h3, fun p hp => ?_⟩
    rcases List.mem_append.mp (show p ∈ (core c).2 ++ [Post.til] from hp) with hp | hp
    · exact h4 p hp
    · rw [List.mem_singleton.mp hp]; trivial
  | power c n, h, _ => by
    obtain ⟨h1, h2, h3, h4⟩ := core_ok (c := c) h.1 h.2.1
    refine ⟨h1, h2, h3, fun p hp => ?_⟩
    rcases List.mem_append.mp (show p ∈ (core c).2 ++ [Post.pw n] from hp) with hp | hp
    · exact h4 p hp
    · rw [List.mem_singleton.mp hp]; exact h.2.2
  | one, h, _ => ⟨h, rfl, rfl, fun _ hp => (nomatch hp)⟩
  | move _, h, _ => ⟨h, rfl, rfl, fun _ hp => (nomatch hp)⟩
  | name _, h, _ => ⟨h, rfl, rfl, fun _ hp => (nomatch hp)⟩
  | par _, h, _ => ⟨h, rfl, rfl, fun _ hp => (nomatch hp)⟩
  | low _, h, _ => ⟨h, rfl, rfl, fun _ hp => (nomatch hp)⟩
  | high _, h, _ => ⟨h, rfl, rfl, fun _ hp => (nomatch hp)⟩
  | as _ _, h, _ => ⟨h, rfl, rfl, fun _ hp => (nomatch hp)⟩
  | com _ _, h, _ => ⟨h, rfl, rfl, fun _ hp => (nomatch hp)⟩
def parts : C → C × List C
  | thn _ c d => ((parts c).1, (parts c).2 ++ [d])
  | c => (c, [])
theorem parts_toks : ∀ c : C, c.toks = (parts c).1.toks ++ ((parts c).2.map toks).flatten
  | thn _ c d => by
    show c.toks ++ d.toks = (parts c).1.toks ++ (((parts c).2 ++ [d]).map toks).flatten
    rw [parts_toks c]; simp
  | back _ => by simp [parts]
  | power _ _ => by simp [parts]
  | one => by simp [parts]
  | move _ => by simp [parts]
  | name _ => by simp [parts]
  | par _ => by simp [parts]
  | low _ => by simp [parts]
  | high _ => by simp [parts]
  | as _ _ => by simp [parts]
  | com _ _ => by simp [parts]
theorem parts_ex : ∀ c : C, c.ex = (parts c).2.foldl (fun e d => .thn e d.ex) (parts c).1.ex
  | thn _ c d => by
    show Ex.thn c.ex d.ex = ((parts c).2 ++ [d]).foldl (fun e d => .thn e d.ex) (parts c).1.ex
    rw [List.foldl_append, ← parts_ex c]; rfl
  | back _ => rfl
  | power _ _ => rfl
  | one => rfl
  | move _ => rfl
  | name _ => rfl
  | par _ => rfl
  | low _ => rfl
  | high _ => rfl
  | as _ _ => rfl
  | com _ _ => rfl
theorem parts_ok : ∀ {c : C}, c.ok → ((parts c).1.ok ∧ (parts c).1.item = true ∧ (parts c).1.nest ≤ c.nest) ∧ ∀ d ∈ (parts c).2, d.ok ∧ d.item = true ∧ d.nest ≤ c.nest
  | thn _ c d, h => by
    obtain ⟨⟨h1, h2, h3⟩, h4⟩ := parts_ok (c := c) h.1
    have hm : c.nest ≤ max c.nest d.nest := Nat.le_max_left _ _
    refine ⟨⟨h1, h2, Nat.le_trans h3 hm⟩, fun x hx => ?_⟩
    rcases List.mem_append.mp (show x ∈ (parts c).2 ++ [d] from hx) with hx | hx
    · obtain ⟨a, b, e⟩ := h4 x hx
      exact ⟨a, b, Nat.le_trans e hm⟩
    · rw [List.mem_singleton.mp hx]
      exact ⟨h.2.1, h.2.2.1, Nat.le_max_right _ _⟩
  | back _, h => ⟨⟨h, rfl, Nat.le_refl _⟩, fun _ hp => (nomatch hp)⟩
  | power _ _, h => ⟨⟨h, rfl, Nat.le_refl _⟩, fun _ hp => (nomatch hp)⟩
  | one, h => ⟨⟨h, rfl, Nat.le_refl _⟩, fun _ hp => (nomatch hp)⟩
  | move _, h => ⟨⟨h, rfl, Nat.le_refl _⟩, fun _ hp => (nomatch hp)⟩
  | name _, h => ⟨⟨h, rfl, Nat.le_refl _⟩, fun _ hp => (nomatch hp)⟩
  | par _, h => ⟨⟨h, rfl, Nat.le_refl _⟩, fun _ hp => (nomatch hp)⟩
  | low _, h => ⟨⟨h, rfl, Nat.le_refl _⟩, fun _ hp => (nomatch hp)⟩
  | high _, h => ⟨⟨h, rfl, Nat.le_refl _⟩, fun _ hp => (nomatch hp)⟩
  | as _ _, h => ⟨⟨h, rfl, Nat.le_refl _⟩, fun _ hp => (nomatch hp)⟩
  | com _ _, h => ⟨⟨h, rfl, Nat.le_refl _⟩, fun _ hp => (nomatch hp)⟩

/-! ### the text of an expression -/
def isThn : Ex → Bool
  | .thn _ _ => true
  | _ => false
def ofEx : Ex → C
  | .one => one
  | .move n => move n
  | .name x => name x
  | .back e => back (if isThn e = true then par (ofEx e) else ofEx e)
  | .power e n => power (if isThn e = true then par (ofEx e) else ofEx e) n
  | .low e => low (ofEx e)
  | .high e => high (ofEx e)
  | .as e f => as (ofEx e) (ofEx f)
  | .com e f => com (ofEx e) (ofEx f)
  | .thn e f => thn true (ofEx e) (if isThn f = true then par (ofEx f) else ofEx f)
def heldC (e : Ex) : C := if isThn e = true then par (ofEx e) else ofEx e
theorem heldC_ex {e : Ex} (h : (ofEx e).ex = e) : (heldC e).ex = e := by
  unfold heldC
  split
  · exact h
  · exact h
theorem ofEx_ex : ∀ e : Ex, (ofEx e).ex = e
  | .one => rfl
  | .move _ => rfl
  | .name _ => rfl
  | .back e => by show Ex.back (heldC e).ex = _; rw [heldC_ex (ofEx_ex e)]
  | .power e n => by show Ex.power (heldC e).ex n = _; rw [heldC_ex (ofEx_ex e)]
  | .low e => by show Ex.low (ofEx e).ex = _; rw [ofEx_ex e]
  | .high e => by show Ex.high (ofEx e).ex = _; rw [ofEx_ex e]
  | .as e f => by show Ex.as (ofEx e).ex (ofEx f).ex = _; rw [ofEx_ex e, ofEx_ex f]
  | .com e f => by show Ex.com (ofEx e).ex (ofEx f).ex = _; rw [ofEx_ex e, ofEx_ex f]
  | .thn e f => by show Ex.thn (ofEx e).ex (heldC f).ex = _; rw [ofEx_ex e, heldC_ex (ofEx_ex f)]
theorem ofEx_item : ∀ {e : Ex}, isThn e = false → (ofEx e).item = true
  | .one, _ => rfl
  | .move _, _ => rfl
  | .name _, _ => rfl
  | .back _, _ => rfl
  | .power _ _, _ => rfl
  | .low _, _ => rfl
  | .high _, _ => rfl
  | .as _ _, _ => rfl
  | .com _ _, _ => rfl
theorem heldC_item (e : Ex) : (heldC e).item = true := by
  unfold heldC
  split
  · rfl
  · rename_i h; exact ofEx_item (Bool.eq_false_iff.mpr h)
theorem heldC_ok {e : Ex} (h : (ofEx e).ok) : (heldC e).ok := by
  unfold heldC
  split
  · exact h
  · exact h
theorem ofEx_ok : ∀ {e : Ex}, e.Small → e.NamesIn (fun x => okName x.cps.toList = true) → (ofEx e).ok
  | .one, _, _ => trivial
  | .move _, h, _ => h
  | .name _, _, h => h
  | .back e, h, k => ⟨heldC_ok (ofEx_ok (e := e) h k), heldC_item e⟩
  | .power e n, h, k => ⟨heldC_ok (ofEx_ok (e := e) h.1 k), heldC_item e, h.2⟩
  | .low e, h, k => ofEx_ok (e := e) h k
  | .high e, h, k => ofEx_ok (e := e) h k
  | .as e f, h, k => ⟨ofEx_ok (e := e) h.1 k.1, ofEx_ok (e := f) h.2 k.2⟩
  | .com e f, h, k => ⟨ofEx_ok (e := e) h.1 k.1, ofEx_ok (e := f) h.2 k.2⟩
  | .thn e f, h, k => ⟨ofEx_ok (e := e) h.1 k.1, heldC_ok (ofEx_ok (e := f) h.2 k.2), heldC_item f, .inl rfl⟩
theorem heldC_nest {e : Ex} (h : (ofEx e).nest + 1 ≤ e.deep) : (heldC e).nest ≤ e.deep := by
  unfold heldC
  split
  · exact h
  · exact Nat.le_of_succ_le h
theorem ofEx_nest : ∀ e : Ex, (ofEx e).nest + 1 ≤ e.deep
  | .one => Nat.le_refl _
  | .move _ => Nat.le_refl _
  | .name _ => Nat.le_refl _
  | .back e => Nat.succ_le_succ (heldC_nest (ofEx_nest e))
  | .power e n => Nat.succ_le_succ (heldC_nest (ofEx_nest e))
  | .low e => Nat.succ_le_succ (ofEx_nest e)
  | .high e => Nat.succ_le_succ (ofEx_nest e)
  | .as e f => by have h1 := ofEx_nest e; have h2 := ofEx_nest f; show max (ofEx e).nest (ofEx f).nest + 1 + 1 ≤ max e.deep f.deep + 1; omega
  | .com e f => by have h1 := ofEx_nest e; have h2 := ofEx_nest f; show max (ofEx e).nest (ofEx f).nest + 1 + 1 ≤ max e.deep f.deep + 1; omega
  | .thn e f => by have h1 := ofEx_nest e; have h2 := heldC_nest (ofEx_nest f); show max (ofEx e).nest (heldC f).nest + 1 ≤ max e.deep f.deep + 1; omega
end C
theorem figs_length (n : Nat) : (figs n).length ≤ 2 := by
  unfold figs
  split <;> simp
theorem ints_length (n : Int) : (figI n).length ≤ 3 := by
  unfold figI
  have := figs_length n.natAbs
  split
  · simp; omega
  · omega
theorem held_length (e : Ex) : (C.heldC e).txt.length ≤ (C.ofEx e).txt.length + 2 := by
  unfold C.heldC
  split
  · simp [C.txt]
  · omega
/-- a text's length by its depth -/
theorem txt_length : ∀ {e : Ex}, e.NamesIn (fun x => okName x.cps.toList = true) → (C.ofEx e).txt.length + 7 ≤ 7 * 2 ^ e.deep
  | .one, _ => by show 3 + 7 ≤ 7 * 2 ^ 1; decide
  | .move n, _ => by have := figs_length n; show (109 :: figs n).length + 7 ≤ 7 * 2 ^ 1; simp; omega
  | .name x, h => by have := (okName_al (w := x.cps.toList) h).2.2.1; show x.cps.toList.length + 7 ≤ 7 * 2 ^ 1; omega
  | .back e, h => by
    have h1 := txt_length (e := e) h
    have h2 := held_length e
    have h3 : 7 * 2 ^ (e.deep + 1) = 2 * (7 * 2 ^ e.deep) := by rw [Nat.pow_succ]; omega
    show ((C.heldC e).txt ++ [126]).length + 7 ≤ 7 * 2 ^ (e.deep + 1)
    rw [List.length_append, h3]; simp; omega
  | .power e n, h => by
    have h1 := txt_length (e := e) h
    have h2 := held_length e
    have h3 : 7 * 2 ^ (e.deep + 1) = 2 * (7 * 2 ^ e.deep) := by rw [Nat.pow_succ]; omega
    have h4 := ints_length n
    show ((C.heldC e).txt ++ 94 :: figI n).length + 7 ≤ 7 * 2 ^ (e.deep + 1)
    rw [List.length_append, h3]; simp; omega
  | .low e, h => by
    have h1 := txt_length (e := e) h
    have h3 : 7 * 2 ^ (e.deep + 1) = 2 * (7 * 2 ^ e.deep) := by rw [Nat.pow_succ]; omega
    show (wLow ++ 40 :: ((C.ofEx e).txt ++ [41])).length + 7 ≤ 7 * 2 ^ (e.deep + 1)
    rw [h3]; simp; omega
  | .high e, h => by
    have h1 := txt_length (e := e) h
    have h3 : 7 * 2 ^ (e.deep + 1) = 2 * (7 * 2 ^ e.deep) := by rw [Nat.pow_succ]; omega
    show (wHigh ++ 40 :: ((C.ofEx e).txt ++ [41])).length + 7 ≤ 7 * 2 ^ (e.deep + 1)
    rw [h3]; simp; omega
  | .as e f, h => by
    have h1 := txt_length (e := e) h.1
    have h2 := txt_length (e := f) h.2
    have h3 : 7 * 2 ^ (max e.deep f.deep + 1) = 2 * (7 * 2 ^ max e.deep f.deep) := by rw [Nat.pow_succ]; omega
    have h4 : 2 ^ e.deep ≤ 2 ^ max e.deep f.deep := Nat.pow_le_pow_right (by decide) (Nat.le_max_left _ _)
    have h5 : 2 ^ f.deep ≤ 2 ^ max e.deep f.deep := Nat.pow_le_pow_right (by decide) (Nat.le_max_right _ _)
    show (wAs ++ 40 :: ((C.ofEx e).txt ++ 44 :: 32 :: ((C.ofEx f).txt ++ [41]))).length + 7 ≤ 7 * 2 ^ (max e.deep f.deep + 1)
    rw [h3]; simp; omega
  | .com e f, h => by
    have h1 := txt_length (e := e) h.1
    have h2 := txt_length (e := f) h.2
    have h3 : 7 * 2 ^ (max e.deep f.deep + 1) = 2 * (7 * 2 ^ max e.deep f.deep) := by rw [Nat.pow_succ]; omega
    have h4 : 2 ^ e.deep ≤ 2 ^ max e.deep f.deep := Nat.pow_le_pow_right (by decide) (Nat.le_max_left _ _)
    have h5 : 2 ^ f.deep ≤ 2 ^ max e.deep f.deep := Nat.pow_le_pow_right (by decide) (Nat.le_max_right _ _)
    show (wCom ++ 40 :: ((C.ofEx e).txt ++ 44 :: 32 :: ((C.ofEx f).txt ++ [41]))).length + 7 ≤ 7 * 2 ^ (max e.deep f.deep + 1)
    rw [h3]; simp; omega
  | .thn e f, h => by
    have h1 := txt_length (e := e) h.1
    have h2 := txt_length (e := f) h.2
    have h6 := held_length f
    have h3 : 7 * 2 ^ (max e.deep f.deep + 1) = 2 * (7 * 2 ^ max e.deep f.deep) := by rw [Nat.pow_succ]; omega
    have h4 : 2 ^ e.deep ≤ 2 ^ max e.deep f.deep := Nat.pow_le_pow_right (by decide) (Nat.le_max_left _ _)
    have h5 : 2 ^ f.deep ≤ 2 ^ max e.deep f.deep := Nat.pow_le_pow_right (by decide) (Nat.le_max_right _ _)
    show ((C.ofEx e).txt ++ 32 :: (C.heldC f).txt).length + 7 ≤ 7 * 2 ^ (max e.deep f.deep + 1)
    rw [h3]; simp; omega
end Hw
/-! Halvewright: the law's rules, text by text. -/
namespace Hw
open PySem

/-- a number's text -/
def sI (i : Int) : Str := Str.ofString (toString i)
theorem sI_mk {i : Int} (h : -9 ≤ i ∧ i < 20) : sI i = mk (figI i) := by
  have key : ∀ k : Fin 29, sI ((k.1 : Int) - 9) = mk (figI ((k.1 : Int) - 9)) := by decide +kernel
  have h1 := key ⟨(i + 9).toNat, by omega⟩
  have e : (((i + 9).toNat : Nat) : Int) - 9 = i := by omega
  simp only [e] at h1
  exact h1
theorem sI_nat {n : Nat} (h : n < 20) : sI n = mk (figs n) := by
  rw [sI_mk (by omega)]
  unfold figI
  rw [if_neg (by omega)]
  rfl
theorem sI_n1 {k : Nat} (h : k + 1 < 20) : sI ((k : Int) + 1) = mk (figs (k + 1)) := sI_nat h
theorem sI_n2 {k more : Nat} (h : k + 1 + more < 20) : sI ((k : Int) + 1 + (more : Int)) = mk (figs (k + 1 + more)) := sI_nat h
theorem sI_n3 {k more : Nat} (h : k + 2 + more < 20) : sI ((k : Int) + 2 + (more : Int)) = mk (figs (k + 2 + more)) := sI_nat h
theorem lit0 : Str.ofString " m" = mk [32, 109] := by decide +kernel
theorem lit1 : Str.ofString " one" = mk [32, 111, 110, 101] := by decide +kernel
theorem lit2 : Str.ofString "(" = mk [40] := by decide +kernel
theorem lit3 : Str.ofString "(one)" = mk [40, 111, 110, 101, 41] := by decide +kernel
theorem lit4 : Str.ofString ")" = mk [41] := by decide +kernel
theorem lit5 : Str.ofString ") as(" = mk [41, 32, 97, 115, 40] := by decide +kernel
theorem lit6 : Str.ofString "))" = mk [41, 41] := by decide +kernel
theorem lit7 : Str.ofString "), " = mk [41, 44, 32] := by decide +kernel
theorem lit8 : Str.ofString "), high(" = mk [41, 44, 32, 104, 105, 103, 104, 40] := by decide +kernel
theorem lit9 : Str.ofString ")^" = mk [41, 94] := by decide +kernel
theorem lit10 : Str.ofString ")high(" = mk [41, 104, 105, 103, 104, 40] := by decide +kernel
theorem lit11 : Str.ofString ")low(" = mk [41, 108, 111, 119, 40] := by decide +kernel
theorem lit12 : Str.ofString ")~" = mk [41, 126] := by decide +kernel
theorem lit13 : Str.ofString ", " = mk [44, 32] := by decide +kernel
theorem lit14 : Str.ofString ", m" = mk [44, 32, 109] := by decide +kernel
theorem lit15 : Str.ofString ", one)" = mk [44, 32, 111, 110, 101, 41] := by decide +kernel
theorem lit16 : Str.ofString "^" = mk [94] := by decide +kernel
theorem lit17 : Str.ofString "^-1" = mk [94, 45, 49] := by decide +kernel
theorem lit18 : Str.ofString "^0" = mk [94, 48] := by decide +kernel
theorem lit19 : Str.ofString "^1" = mk [94, 49] := by decide +kernel
theorem lit20 : Str.ofString "as(" = mk [97, 115, 40] := by decide +kernel
theorem lit21 : Str.ofString "as(as(" = mk [97, 115, 40, 97, 115, 40] := by decide +kernel
theorem lit22 : Str.ofString "as(m" = mk [97, 115, 40, 109] := by decide +kernel
theorem lit23 : Str.ofString "as(one, " = mk [97, 115, 40, 111, 110, 101, 44, 32] := by decide +kernel
theorem lit24 : Str.ofString "com(" = mk [99, 111, 109, 40] := by decide +kernel
theorem lit25 : Str.ofString "com(low(" = mk [99, 111, 109, 40, 108, 111, 119, 40] := by decide +kernel
theorem lit26 : Str.ofString "high" = mk [104, 105, 103, 104] := by decide +kernel
theorem lit27 : Str.ofString "high(" = mk [104, 105, 103, 104, 40] := by decide +kernel
theorem lit28 : Str.ofString "high(m" = mk [104, 105, 103, 104, 40, 109] := by decide +kernel
theorem lit29 : Str.ofString "low" = mk [108, 111, 119] := by decide +kernel
theorem lit30 : Str.ofString "low(" = mk [108, 111, 119, 40] := by decide +kernel
theorem lit31 : Str.ofString "m" = mk [109] := by decide +kernel
theorem lit32 : Str.ofString "one" = mk [111, 110, 101] := by decide +kernel
theorem lit33 : Str.ofString "one " = mk [111, 110, 101, 32] := by decide +kernel
theorem lit34 : Str.ofString "one~" = mk [111, 110, 101, 126] := by decide +kernel
theorem lit35 : Str.ofString "~" = mk [126] := by decide +kernel
theorem lit36 : Str.ofString "~)" = mk [126, 41] := by decide +kernel
theorem lit37 : Str.ofString "~^" = mk [126, 94] := by decide +kernel
theorem lit38 : Str.ofString "~~" = mk [126, 126] := by decide +kernel

theorem ints_c0 : figI 0 = [48] := rfl
theorem ints_c1 : figI 1 = [49] := rfl
theorem ints_cm1 : figI (-1) = [45, 49] := rfl
def rulesBacks (e f g m n : Str) (mi ni : Int) : List (Str × Str) :=
  [("(" ++ e ++ f ++ ")~", f ++ "~" ++ e ++ "~"), (e ++ "~~", e), (e ++ e ++ "~", "one"), (e ++ "~" ++ e, "one")] ++ [("one " ++ e, e), (e ++ " one", e), ("one~", "one"), (e ++ "(" ++ f ++ g ++ ")", e ++ f ++ g)] ++ [(e ++ "^" ++ m ++ e ++ "^" ++ n, e ++ "^" ++ sI (mi + ni)), (e ++ "^0", "one"), (e ++ "^1", e)] ++ [("(" ++ e ++ "^" ++ m ++ ")^" ++ n, e ++ "^" ++ sI (mi * ni)), (e ++ "^-1", e ++ "~")] ++ [(e ++ "~^" ++ m, e ++ "^" ++ m ++ "~"), (e ++ "^" ++ m ++ "~", e ++ "^" ++ sI (0 - mi))]
def rulesAs (e f g m n : Str) : List (Str × Str) :=
  [("as(" ++ e ++ f ++ ", " ++ g ++ ")", "as(" ++ e ++ ", " ++ g ++ ") as(" ++ f ++ ", " ++ g ++ ")"), ("as(" ++ e ++ ", " ++ f ++ g ++ ")", "as(as(" ++ e ++ ", " ++ f ++ "), " ++ g ++ ")"), ("as(" ++ e ++ ", " ++ f ++ ")^" ++ n, "as(" ++ e ++ "^" ++ n ++ ", " ++ f ++ ")"), ("as(" ++ e ++ ", " ++ f ++ ")", f ++ "~" ++ e ++ f), ("com(" ++ e ++ ", " ++ f ++ ")", e ++ f ++ e ++ "~" ++ f ++ "~"), ("com(" ++ e ++ ", " ++ f ++ ")~", "com(" ++ f ++ ", " ++ e ++ ")"), ("com(" ++ e ++ ", " ++ f ++ ")", "as(" ++ f ++ ", " ++ e ++ "~)" ++ f ++ "~"), ("com(" ++ e ++ ", " ++ e ++ "^" ++ m ++ ")", "one"), ("com(low(" ++ e ++ "), high(" ++ f ++ "))", "one")] ++ [("as(" ++ e ++ ", one)", e), ("as(one, " ++ e ++ ")", "one"), ("com(" ++ e ++ ", one)", "one")]
def rulesHalves (e f m : Str) (k more : Nat) : List (Str × Str) :=
  [("low" ++ "(" ++ e ++ f ++ ")", "low" ++ "(" ++ e ++ ")" ++ "low" ++ "(" ++ f ++ ")"), ("low" ++ "(" ++ e ++ ")^" ++ m, "low" ++ "(" ++ e ++ "^" ++ m ++ ")"), ("low" ++ "(" ++ e ++ "~)", "low" ++ "(" ++ e ++ ")~"), ("low" ++ "(one)", "one"), ("high" ++ "(" ++ e ++ f ++ ")", "high" ++ "(" ++ e ++ ")" ++ "high" ++ "(" ++ f ++ ")"), ("high" ++ "(" ++ e ++ ")^" ++ m, "high" ++ "(" ++ e ++ "^" ++ m ++ ")"), ("high" ++ "(" ++ e ++ "~)", "high" ++ "(" ++ e ++ ")~"), ("high" ++ "(one)", "one"), ("high(m" ++ sI k ++ ")", "m" ++ sI (k + 1)), ("low(" ++ e ++ ")high(" ++ f ++ ")", "high(" ++ f ++ ")low(" ++ e ++ ")"), ("as(m" ++ sI (k + 1 + more) ++ ", m" ++ sI k ++ ")", "m" ++ sI (k + 2 + more))] ++ [("m" ++ sI (k + 1 + more) ++ " m" ++ sI k, "m" ++ sI k ++ " m" ++ sI (k + 2 + more))]

/-- what a text must be that is read and made a map -/
structure Fine (wn : Str → Nat) (ns : Str → Prop) (c : C) : Prop where
  ok : c.ok
  nest : c.nest ≤ 11
  deep : c.ex.deep ≤ 12
  wt : c.ex.wt wn ≤ 60
  names : c.ex.NamesIn ns
  len : c.txt.length ≤ 1000
def Pair (env : Str → G) (wn : Str → Nat) (ns : Str → Prop) (p : Str × Str) : Prop :=
  ∃ c d : C, p.1 = mk c.txt ∧ p.2 = mk d.txt ∧ Fine wn ns c ∧ Fine wn ns d ∧ c.ex.S env = d.ex.S env
theorem wtp {w : Nat} {B : Nat} {n : Int} (j : Nat) (h : w ≤ B) (hn : n.natAbs ≤ j) (hj : 1 ≤ j) : w * max 1 n.natAbs ≤ B * j := Nat.mul_le_mul h (by omega)
theorem abs_mul {m n : Int} (hm : -2 ≤ m ∧ m ≤ 2) (hn : -2 ≤ n ∧ n ≤ 2) : -4 ≤ m * n ∧ m * n ≤ 4 := by
  rcases G.cases2 hm with rfl | rfl | rfl | rfl | rfl <;> omega
section
variable {env : Str → G} {wn : Str → Nat} {ns : Str → Prop} {a b d : C} {mi ni : Int} {k more : Nat}
structure Part (wn : Str → Nat) (ns : Str → Prop) (a : C) : Prop where
  ok : a.ok
  nest : a.nest ≤ 4
  deep : a.ex.deep ≤ 4
  wt : a.ex.wt wn ≤ 6
  names : a.ex.NamesIn ns
  len : a.txt.length ≤ 120

theorem rule0 (ha : Part wn ns a) (hb : Part wn ns b) (hd : Part wn ns d) (hm : -2 ≤ mi ∧ mi ≤ 2) (hn : -2 ≤ ni ∧ ni ≤ 2) (hk : k < 13) (hmore : more < 6) : Pair env wn ns (Str.ofString "(" ++ mk (C.par a).txt ++ mk (C.par b).txt ++ Str.ofString ")~", mk (C.par b).txt ++ Str.ofString "~" ++ mk (C.par a).txt ++ Str.ofString "~") := by
  have hA1 := ha.nest; have hA2 := ha.deep; have hA3 := ha.wt; have hA4 := ha.len; have hB1 := hb.nest; have hB2 := hb.deep; have hB3 := hb.wt; have hB4 := hb.len; have hD1 := hd.nest; have hD2 := hd.deep; have hD3 := hd.wt; have hD4 := hd.len
  refine ⟨(.back (.par (.thn false (.par a) (.par b)))), (.thn false (.back (.par b)) (.back (.par a))), ?_, ?_, ⟨by (simp [C.ok, C.item, C.closed, C.opens, ha.ok, hb.ok, hd.ok]; try omega), by (simp only [C.nest]; omega), by (simp only [C.ex, Ex.deep]; omega), by first | (simp only [C.ex, Ex.wt]; omega) | (simp [C.ex, Ex.wt] <;> omega), by simp [C.ex, Ex.NamesIn, ha.names, hb.names, hd.names], by first | (simp [C.txt] <;> omega) | (simp [C.txt, ints_c0, ints_c1, ints_cm1] <;> omega)⟩, ⟨by (simp [C.ok, C.item, C.closed, C.opens, ha.ok, hb.ok, hd.ok]; try omega), by (simp only [C.nest]; omega), by (simp only [C.ex, Ex.deep]; omega), by first | (simp only [C.ex, Ex.wt]; omega) | (simp [C.ex, Ex.wt] <;> omega), by simp [C.ex, Ex.NamesIn, ha.names, hb.names, hd.names], by first | (simp [C.txt] <;> omega) | (simp [C.txt, ints_c0, ints_c1, ints_cm1] <;> omega)⟩, rfl⟩
  · simp [lit0, lit1, lit2, lit3, lit4, lit5, lit6, lit7, lit8, lit9, lit10, lit11, lit12, lit13, lit14, lit15, lit16, lit17, lit18, lit19, lit20, lit21, lit22, lit23, lit24, lit25, lit26, lit27, lit28, lit29, lit30, lit31, lit32, lit33, lit34, lit35, lit36, lit37, lit38, mk_append, ints_c0, ints_c1, ints_cm1, sI_mk (i := mi) (by omega), sI_mk (i := ni) (by omega), sI_mk (i := mi + ni) (by omega), sI_mk (i := mi * ni) (by have := abs_mul hm hn; omega), sI_mk (i := 0 - mi) (by omega), sI_mk (i := -mi) (by omega), sI_nat (n := k) (by omega), sI_n1 (k := k) (by omega), sI_n2 (k := k) (more := more) (by omega), sI_n3 (k := k) (more := more) (by omega), C.txt]
  · simp [lit0, lit1, lit2, lit3, lit4, lit5, lit6, lit7, lit8, lit9, lit10, lit11, lit12, lit13, lit14, lit15, lit16, lit17, lit18, lit19, lit20, lit21, lit22, lit23, lit24, lit25, lit26, lit27, lit28, lit29, lit30, lit31, lit32, lit33, lit34, lit35, lit36, lit37, lit38, mk_append, ints_c0, ints_c1, ints_cm1, sI_mk (i := mi) (by omega), sI_mk (i := ni) (by omega), sI_mk (i := mi + ni) (by omega), sI_mk (i := mi * ni) (by have := abs_mul hm hn; omega), sI_mk (i := 0 - mi) (by omega), sI_mk (i := -mi) (by omega), sI_nat (n := k) (by omega), sI_n1 (k := k) (by omega), sI_n2 (k := k) (more := more) (by omega), sI_n3 (k := k) (more := more) (by omega), C.txt]
theorem rule1 (ha : Part wn ns a) (hb : Part wn ns b) (hd : Part wn ns d) (hm : -2 ≤ mi ∧ mi ≤ 2) (hn : -2 ≤ ni ∧ ni ≤ 2) (hk : k < 13) (hmore : more < 6) : Pair env wn ns (mk (C.par a).txt ++ Str.ofString "~~", mk (C.par a).txt) := by
  have hA1 := ha.nest; have hA2 := ha.deep; have hA3 := ha.wt; have hA4 := ha.len; have hB1 := hb.nest; have hB2 := hb.deep; have hB3 := hb.wt; have hB4 := hb.len; have hD1 := hd.nest; have hD2 := hd.deep; have hD3 := hd.wt; have hD4 := hd.len
  refine ⟨(.back (.back (.par a))), (.par a), ?_, ?_, ⟨by (simp [C.ok, C.item, C.closed, C.opens, ha.ok, hb.ok, hd.ok]; try omega), by (simp only [C.nest]; omega), by (simp only [C.ex, Ex.deep]; omega), by first | (simp only [C.ex, Ex.wt]; omega) | (simp [C.ex, Ex.wt] <;> omega), by simp [C.ex, Ex.NamesIn, ha.names, hb.names, hd.names], by first | (simp [C.txt] <;> omega) | (simp [C.txt, ints_c0, ints_c1, ints_cm1] <;> omega)⟩, ⟨by (simp [C.ok, C.item, C.closed, C.opens, ha.ok, hb.ok, hd.ok]; try omega), by (simp only [C.nest]; omega), by (simp only [C.ex, Ex.deep]; omega), by first | (simp only [C.ex, Ex.wt]; omega) | (simp [C.ex, Ex.wt] <;> omega), by simp [C.ex, Ex.NamesIn, ha.names, hb.names, hd.names], by first | (simp [C.txt] <;> omega) | (simp [C.txt, ints_c0, ints_c1, ints_cm1] <;> omega)⟩, rfl⟩
  · simp [lit0, lit1, lit2, lit3, lit4, lit5, lit6, lit7, lit8, lit9, lit10, lit11, lit12, lit13, lit14, lit15, lit16, lit17, lit18, lit19, lit20, lit21, lit22, lit23, lit24, lit25, lit26, lit27, lit28, lit29, lit30, lit31, lit32, lit33, lit34, lit35, lit36, lit37, lit38, mk_append, ints_c0, ints_c1, ints_cm1, sI_mk (i := mi) (by omega), sI_mk (i := ni) (by omega), sI_mk (i := mi + ni) (by omega), sI_mk (i := mi * ni) (by have := abs_mul hm hn; omega), sI_mk (i := 0 - mi) (by omega), sI_mk (i := -mi) (by omega), sI_nat (n := k) (by omega), sI_n1 (k := k) (by omega), sI_n2 (k := k) (more := more) (by omega), sI_n3 (k := k) (more := more) (by omega), C.txt]
  · simp [lit0, lit1, lit2, lit3, lit4, lit5, lit6, lit7, lit8, lit9, lit10, lit11, lit12, lit13, lit14, lit15, lit16, lit17, lit18, lit19, lit20, lit21, lit22, lit23, lit24, lit25, lit26, lit27, lit28, lit29, lit30, lit31, lit32, lit33, lit34, lit35, lit36, lit37, lit38, mk_append, ints_c0, ints_c1, ints_cm1, sI_mk (i := mi) (by omega), sI_mk (i := ni) (by omega), sI_mk (i := mi + ni) (by omega), sI_mk (i := mi * ni) (by have := abs_mul hm hn; omega), sI_mk (i := 0 - mi) (by omega), sI_mk (i := -mi) (by omega), sI_nat (n := k) (by omega), sI_n1 (k := k) (by omega), sI_n2 (k := k) (more := more) (by omega), sI_n3 (k := k) (more := more) (by omega), C.txt]
theorem rule2 (ha : Part wn ns a) (hb : Part wn ns b) (hd : Part wn ns d) (hm : -2 ≤ mi ∧ mi ≤ 2) (hn : -2 ≤ ni ∧ ni ≤ 2) (hk : k < 13) (hmore : more < 6) : Pair env wn ns (mk (C.par a).txt ++ mk (C.par a).txt ++ Str.ofString "~", Str.ofString "one") := by
  have hA1 := ha.nest; have hA2 := ha.deep; have hA3 := ha.wt; have hA4 := ha.len; have hB1 := hb.nest; have hB2 := hb.deep; have hB3 := hb.wt; have hB4 := hb.len; have hD1 := hd.nest; have hD2 := hd.deep; have hD3 := hd.wt; have hD4 := hd.len
  refine ⟨(.thn false (.par a) (.back (.par a))), .one, ?_, ?_, ⟨by (simp [C.ok, C.item, C.closed, C.opens, ha.ok, hb.ok, hd.ok]; try omega), by (simp only [C.nest]; omega), by (simp only [C.ex, Ex.deep]; omega), by first | (simp only [C.ex, Ex.wt]; omega) | (simp [C.ex, Ex.wt] <;> omega), by simp [C.ex, Ex.NamesIn, ha.names, hb.names, hd.names], by first | (simp [C.txt] <;> omega) | (simp [C.txt, ints_c0, ints_c1, ints_cm1] <;> omega)⟩, ⟨by (simp [C.ok, C.item, C.closed, C.opens, ha.ok, hb.ok, hd.ok]; try omega), by (simp only [C.nest]; omega), by (simp only [C.ex, Ex.deep]; omega), by first | (simp only [C.ex, Ex.wt]; omega) | (simp [C.ex, Ex.wt] <;> omega), by simp [C.ex, Ex.NamesIn, ha.names, hb.names, hd.names], by first | (simp [C.txt] <;> omega) | (simp [C.txt, ints_c0, ints_c1, ints_cm1] <;> omega)⟩, G.mul_inv _⟩
  · simp [lit0, lit1, lit2, lit3, lit4, lit5, lit6, lit7, lit8, lit9, lit10, lit11, lit12, lit13, lit14, lit15, lit16, lit17, lit18, lit19, lit20, lit21, lit22, lit23, lit24, lit25, lit26, lit27, lit28, lit29, lit30, lit31, lit32, lit33, lit34, lit35, lit36, lit37, lit38, mk_append, ints_c0, ints_c1, ints_cm1, sI_mk (i := mi) (by omega), sI_mk (i := ni) (by omega), sI_mk (i := mi + ni) (by omega), sI_mk (i := mi * ni) (by have := abs_mul hm hn; omega), sI_mk (i := 0 - mi) (by omega), sI_mk (i := -mi) (by omega), sI_nat (n := k) (by omega), sI_n1 (k := k) (by omega), sI_n2 (k := k) (more := more) (by omega), sI_n3 (k := k) (more := more) (by omega), C.txt]
  · simp [lit0, lit1, lit2, lit3, lit4, lit5, lit6, lit7, lit8, lit9, lit10, lit11, lit12, lit13, lit14, lit15, lit16, lit17, lit18, lit19, lit20, lit21, lit22, lit23, lit24, lit25, lit26, lit27, lit28, lit29, lit30, lit31, lit32, lit33, lit34, lit35, lit36, lit37, lit38, mk_append, ints_c0, ints_c1, ints_cm1, sI_mk (i := mi) (by omega), sI_mk (i := ni) (by omega), sI_mk (i := mi + ni) (by omega), sI_mk (i := mi * ni) (by have := abs_mul hm hn; omega), sI_mk (i := 0 - mi) (by omega), sI_mk (i := -mi) (by omega), sI_nat (n := k) (by omega), sI_n1 (k := k) (by omega), sI_n2 (k := k) (more := more) (by omega), sI_n3 (k := k) (more := more) (by omega), C.txt]
theorem rule3 (ha : Part wn ns a) (hb : Part wn ns b) (hd : Part wn ns d) (hm : -2 ≤ mi ∧ mi ≤ 2) (hn : -2 ≤ ni ∧ ni ≤ 2) (hk : k < 13) (hmore : more < 6) : Pair env wn ns (mk (C.par a).txt ++ Str.ofString "~" ++ mk (C.par a).txt, Str.ofString "one") := by
  have hA1 := ha.nest; have hA2 := ha.deep; have hA3 := ha.wt; have hA4 := ha.len; have hB1 := hb.nest; have hB2 := hb.deep; have hB3 := hb.wt; have hB4 := hb.len; have hD1 := hd.nest; have hD2 := hd.deep; have hD3 := hd.wt; have hD4 := hd.len
  refine ⟨(.thn false (.back (.par a)) (.par a)), .one, ?_, ?_, ⟨by (simp [C.ok, C.item, C.closed, C.opens, ha.ok, hb.ok, hd.ok]; try omega), by (simp only [C.nest]; omega), by (simp only [C.ex, Ex.deep]; omega), by first | (simp only [C.ex, Ex.wt]; omega) | (simp [C.ex, Ex.wt] <;> omega), by simp [C.ex, Ex.NamesIn, ha.names, hb.names, hd.names], by first | (simp [C.txt] <;> omega) | (simp [C.txt, ints_c0, ints_c1, ints_cm1] <;> omega)⟩, ⟨by (simp [C.ok, C.item, C.closed, C.opens, ha.ok, hb.ok, hd.ok]; try omega), by (simp only [C.nest]; omega), by (simp only [C.ex, Ex.deep]; omega), by first | (simp only [C.ex, Ex.wt]; omega) | (simp [C.ex, Ex.wt] <;> omega), by simp [C.ex, Ex.NamesIn, ha.names, hb.names, hd.names], by first | (simp [C.txt] <;> omega) | (simp [C.txt, ints_c0, ints_c1, ints_cm1] <;> omega)⟩, G.inv_mul _⟩
  · simp [lit0, lit1, lit2, lit3, lit4, lit5, lit6, lit7, lit8, lit9, lit10, lit11, lit12, lit13, lit14, lit15, lit16, lit17, lit18, lit19, lit20, lit21, lit22, lit23, lit24, lit25, lit26, lit27, lit28, lit29, lit30, lit31, lit32, lit33, lit34, lit35, lit36, lit37, lit38, mk_append, ints_c0, ints_c1, ints_cm1, sI_mk (i := mi) (by omega), sI_mk (i := ni) (by omega), sI_mk (i := mi + ni) (by omega), sI_mk (i := mi * ni) (by have := abs_mul hm hn; omega), sI_mk (i := 0 - mi) (by omega), sI_mk (i := -mi) (by omega), sI_nat (n := k) (by omega), sI_n1 (k := k) (by omega), sI_n2 (k := k) (more := more) (by omega), sI_n3 (k := k) (more := more) (by omega), C.txt]
  · simp [lit0, lit1, lit2, lit3, lit4, lit5, lit6, lit7, lit8, lit9, lit10, lit11, lit12, lit13, lit14, lit15, lit16, lit17, lit18, lit19, lit20, lit21, lit22, lit23, lit24, lit25, lit26, lit27, lit28, lit29, lit30, lit31, lit32, lit33, lit34, lit35, lit36, lit37, lit38, mk_append, ints_c0, ints_c1, ints_cm1, sI_mk (i := mi) (by omega), sI_mk (i := ni) (by omega), sI_mk (i := mi + ni) (by omega), sI_mk (i := mi * ni) (by have := abs_mul hm hn; omega), sI_mk (i := 0 - mi) (by omega), sI_mk (i := -mi) (by omega), sI_nat (n := k) (by omega), sI_n1 (k := k) (by omega), sI_n2 (k := k) (more := more) (by omega), sI_n3 (k := k) (more := more) (by omega), C.txt]
theorem rule4 (ha : Part wn ns a) (hb : Part wn ns b) (hd : Part wn ns d) (hm : -2 ≤ mi ∧ mi ≤ 2) (hn : -2 ≤ ni ∧ ni ≤ 2) (hk : k < 13) (hmore : more < 6) : Pair env wn ns (Str.ofString "one " ++ mk (C.par a).txt, mk (C.par a).txt) := by
  have hA1 := ha.nest; have hA2 := ha.deep; have hA3 := ha.wt; have hA4 := ha.len; have hB1 := hb.nest; have hB2 := hb.deep; have hB3 := hb.wt; have hB4 := hb.len; have hD1 := hd.nest; have hD2 := hd.deep; have hD3 := hd.wt; have hD4 := hd.len
  refine ⟨(.thn true .one (.par a)), (.par a), ?_, ?_, ⟨by (simp [C.ok, C.item, C.closed, C.opens, ha.ok, hb.ok, hd.ok]; try omega), by (simp only [C.nest]; omega), by (simp only [C.ex, Ex.deep]; omega), by first | (simp only [C.ex, Ex.wt]; omega) | (simp [C.ex, Ex.wt] <;> omega), by simp [C.ex, Ex.NamesIn, ha.names, hb.names, hd.names], by first | (simp [C.txt] <;> omega) | (simp [C.txt, ints_c0, ints_c1, ints_cm1] <;> omega)⟩, ⟨by (simp [C.ok, C.item, C.closed, C.opens, ha.ok, hb.ok, hd.ok]; try omega), by (simp only [C.nest]; omega), by (simp only [C.ex, Ex.deep]; omega), by first | (simp only [C.ex, Ex.wt]; omega) | (simp [C.ex, Ex.wt] <;> omega), by simp [C.ex, Ex.NamesIn, ha.names, hb.names, hd.names], by first | (simp [C.txt] <;> omega) | (simp [C.txt, ints_c0, ints_c1, ints_cm1] <;> omega)⟩, rfl⟩
  · simp [lit0, lit1, lit2, lit3, lit4, lit5, lit6, lit7, lit8, lit9, lit10, lit11, lit12, lit13, lit14, lit15, lit16, lit17, lit18, lit19, lit20, lit21, lit22, lit23, lit24, lit25, lit26, lit27, lit28, lit29, lit30, lit31, lit32, lit33, lit34, lit35, lit36, lit37, lit38, mk_append, ints_c0, ints_c1, ints_cm1, sI_mk (i := mi) (by omega), sI_mk (i := ni) (by omega), sI_mk (i := mi + ni) (by omega), sI_mk (i := mi * ni) (by have := abs_mul hm hn; omega), sI_mk (i := 0 - mi) (by omega), sI_mk (i := -mi) (by omega), sI_nat (n := k) (by omega), sI_n1 (k := k) (by omega), sI_n2 (k := k) (more := more) (by omega), sI_n3 (k := k) (more := more) (by omega), C.txt]
  · simp [lit0, lit1, lit2, lit3, lit4, lit5, lit6, lit7, lit8, lit9, lit10, lit11, lit12, lit13, lit14, lit15, lit16, lit17, lit18, lit19, lit20, lit21, lit22, lit23, lit24, lit25, lit26, lit27, lit28, lit29, lit30, lit31, lit32, lit33, lit34, lit35, lit36, lit37, lit38, mk_append, ints_c0, ints_c1, ints_cm1, sI_mk (i := mi) (by omega), sI_mk (i := ni) (by omega), sI_mk (i := mi + ni) (by omega), sI_mk (i := mi * ni) (by have := abs_mul hm hn; omega), sI_mk (i := 0 - mi) (by omega), sI_mk (i := -mi) (by omega), sI_nat (n := k) (by omega), sI_n1 (k := k) (by omega), sI_n2 (k := k) (more := more) (by omega), sI_n3 (k := k) (more := more) (by omega), C.txt]
theorem rule5 (ha : Part wn ns a) (hb : Part wn ns b) (hd : Part wn ns d) (hm : -2 ≤ mi ∧ mi ≤ 2) (hn : -2 ≤ ni ∧ ni ≤ 2) (hk : k < 13) (hmore : more < 6) : Pair env wn ns (mk (C.par a).txt ++ Str.ofString " one", mk (C.par a).txt) := by
  have hA1 := ha.nest; have hA2 := ha.deep; have hA3 := ha.wt; have hA4 := ha.len; have hB1 := hb.nest; have hB2 := hb.deep; have hB3 := hb.wt; have hB4 := hb.len; have hD1 := hd.nest; have hD2 := hd.deep; have hD3 := hd.wt; have hD4 := hd.len
  refine ⟨(.thn true (.par a) .one), (.par a), ?_, ?_, ⟨by (simp [C.ok, C.item, C.closed, C.opens, ha.ok, hb.ok, hd.ok]; try omega), by (simp only [C.nest]; omega), by (simp only [C.ex, Ex.deep]; omega), by first | (simp only [C.ex, Ex.wt]; omega) | (simp [C.ex, Ex.wt] <;> omega), by simp [C.ex, Ex.NamesIn, ha.names, hb.names, hd.names], by first | (simp [C.txt] <;> omega) | (simp [C.txt, ints_c0, ints_c1, ints_cm1] <;> omega)⟩, ⟨by (simp [C.ok, C.item, C.closed, C.opens, ha.ok, hb.ok, hd.ok]; try omega), by (simp only [C.nest]; omega), by (simp only [C.ex, Ex.deep]; omega), by first | (simp only [C.ex, Ex.wt]; omega) | (simp [C.ex, Ex.wt] <;> omega), by simp [C.ex, Ex.NamesIn, ha.names, hb.names, hd.names], by first | (simp [C.txt] <;> omega) | (simp [C.txt, ints_c0, ints_c1, ints_cm1] <;> omega)⟩, rfl⟩
  · simp [lit0, lit1, lit2, lit3, lit4, lit5, lit6, lit7, lit8, lit9, lit10, lit11, lit12, lit13, lit14, lit15, lit16, lit17, lit18, lit19, lit20, lit21, lit22, lit23, lit24, lit25, lit26, lit27, lit28, lit29, lit30, lit31, lit32, lit33, lit34, lit35, lit36, lit37, lit38, mk_append, ints_c0, ints_c1, ints_cm1, sI_mk (i := mi) (by omega), sI_mk (i := ni) (by omega), sI_mk (i := mi + ni) (by omega), sI_mk (i := mi * ni) (by have := abs_mul hm hn; omega), sI_mk (i := 0 - mi) (by omega), sI_mk (i := -mi) (by omega), sI_nat (n := k) (by omega), sI_n1 (k := k) (by omega), sI_n2 (k := k) (more := more) (by omega), sI_n3 (k := k) (more := more) (by omega), C.txt]
  · simp [lit0, lit1, lit2, lit3, lit4, lit5, lit6, lit7, lit8, lit9, lit10, lit11, lit12, lit13, lit14, lit15, lit16, lit17, lit18, lit19, lit20, lit21, lit22, lit23, lit24, lit25, lit26, lit27, lit28, lit29, lit30, lit31, lit32, lit33, lit34, lit35, lit36, lit37, lit38, mk_append, ints_c0, ints_c1, ints_cm1, sI_mk (i := mi) (by omega), sI_mk (i := ni) (by omega), sI_mk (i := mi + ni) (by omega), sI_mk (i := mi * ni) (by have := abs_mul hm hn; omega), sI_mk (i := 0 - mi) (by omega), sI_mk (i := -mi) (by omega), sI_nat (n := k) (by omega), sI_n1 (k := k) (by omega), sI_n2 (k := k) (more := more) (by omega), sI_n3 (k := k) (more := more) (by omega), C.txt]
theorem rule6 (ha : Part wn ns a) (hb : Part wn ns b) (hd : Part wn ns d) (hm : -2 ≤ mi ∧ mi ≤ 2) (hn : -2 ≤ ni ∧ ni ≤ 2) (hk : k < 13) (hmore : more < 6) : Pair env wn ns (Str.ofString "one~", Str.ofString "one") := by
  have hA1 := ha.nest; have hA2 := ha.deep; have hA3 := ha.wt; have hA4 := ha.len; have hB1 := hb.nest; have hB2 := hb.deep; have hB3 := hb.wt; have hB4 := hb.len; have hD1 := hd.nest; have hD2 := hd.deep; have hD3 := hd.wt; have hD4 := hd.len
  refine ⟨(.back .one), .one, ?_, ?_, ⟨by (simp [C.ok, C.item, C.closed, C.opens, ha.ok, hb.ok, hd.ok]; try omega), by (simp only [C.nest]; omega), by (simp only [C.ex, Ex.deep]; omega), by first | (simp only [C.ex, Ex.wt]; omega) | (simp [C.ex, Ex.wt] <;> omega), by simp [C.ex, Ex.NamesIn, ha.names, hb.names, hd.names], by first | (simp [C.txt] <;> omega) | (simp [C.txt, ints_c0, ints_c1, ints_cm1] <;> omega)⟩, ⟨by (simp [C.ok, C.item, C.closed, C.opens, ha.ok, hb.ok, hd.ok]; try omega), by (simp only [C.nest]; omega), by (simp only [C.ex, Ex.deep]; omega), by first | (simp only [C.ex, Ex.wt]; omega) | (simp [C.ex, Ex.wt] <;> omega), by simp [C.ex, Ex.NamesIn, ha.names, hb.names, hd.names], by first | (simp [C.txt] <;> omega) | (simp [C.txt, ints_c0, ints_c1, ints_cm1] <;> omega)⟩, rfl⟩
  · simp [lit0, lit1, lit2, lit3, lit4, lit5, lit6, lit7, lit8, lit9, lit10, lit11, lit12, lit13, lit14, lit15, lit16, lit17, lit18, lit19, lit20, lit21, lit22, lit23, lit24, lit25, lit26, lit27, lit28, lit29, lit30, lit31, lit32, lit33, lit34, lit35, lit36, lit37, lit38, mk_append, ints_c0, ints_c1, ints_cm1, sI_mk (i := mi) (by omega), sI_mk (i := ni) (by omega), sI_mk (i := mi + ni) (by omega), sI_mk (i := mi * ni) (by have := abs_mul hm hn; omega), sI_mk (i := 0 - mi) (by omega), sI_mk (i := -mi) (by omega), sI_nat (n := k) (by omega), sI_n1 (k := k) (by omega), sI_n2 (k := k) (more := more) (by omega), sI_n3 (k := k) (more := more) (by omega), C.txt]
  · simp [lit0, lit1, lit2, lit3, lit4, lit5, lit6, lit7, lit8, lit9, lit10, lit11, lit12, lit13, lit14, lit15, lit16, lit17, lit18, lit19, lit20, lit21, lit22, lit23, lit24, lit25, lit26, lit27, lit28, lit29, lit30, lit31, lit32, lit33, lit34, lit35, lit36, lit37, lit38, mk_append, ints_c0, ints_c1, ints_cm1, sI_mk (i := mi) (by omega), sI_mk (i := ni) (by omega), sI_mk (i := mi + ni) (by omega), sI_mk (i := mi * ni) (by have := abs_mul hm hn; omega), sI_mk (i := 0 - mi) (by omega), sI_mk (i := -mi) (by omega), sI_nat (n := k) (by omega), sI_n1 (k := k) (by omega), sI_n2 (k := k) (more := more) (by omega), sI_n3 (k := k) (more := more) (by omega), C.txt]
theorem rule7 (ha : Part wn ns a) (hb : Part wn ns b) (hd : Part wn ns d) (hm : -2 ≤ mi ∧ mi ≤ 2) (hn : -2 ≤ ni ∧ ni ≤ 2) (hk : k < 13) (hmore : more < 6) : Pair env wn ns (mk (C.par a).txt ++ Str.ofString "(" ++ mk (C.par b).txt ++ mk (C.par d).txt ++ Str.ofString ")", mk (C.par a).txt ++ mk (C.par b).txt ++ mk (C.par d).txt) := by
  have hA1 := ha.nest; have hA2 := ha.deep; have hA3 := ha.wt; have hA4 := ha.len; have hB1 := hb.nest; have hB2 := hb.deep; have hB3 := hb.wt; have hB4 := hb.len; have hD1 := hd.nest; have hD2 := hd.deep; have hD3 := hd.wt; have hD4 := hd.len
  refine ⟨(.thn false (.par a) (.par (.thn false (.par b) (.par d)))), (.thn false (.thn false (.par a) (.par b)) (.par d)), ?_, ?_, ⟨by (simp [C.ok, C.item, C.closed, C.opens, ha.ok, hb.ok, hd.ok]; try omega), by (simp only [C.nest]; omega), by (simp only [C.ex, Ex.deep]; omega), by first | (simp only [C.ex, Ex.wt]; omega) | (simp [C.ex, Ex.wt] <;> omega), by simp [C.ex, Ex.NamesIn, ha.names, hb.names, hd.names], by first | (simp [C.txt] <;> omega) | (simp [C.txt, ints_c0, ints_c1, ints_cm1] <;> omega)⟩, ⟨by (simp [C.ok, C.item, C.closed, C.opens, ha.ok, hb.ok, hd.ok]; try omega), by (simp only [C.nest]; omega), by (simp only [C.ex, Ex.deep]; omega), by first | (simp only [C.ex, Ex.wt]; omega) | (simp [C.ex, Ex.wt] <;> omega), by simp [C.ex, Ex.NamesIn, ha.names, hb.names, hd.names], by first | (simp [C.txt] <;> omega) | (simp [C.txt, ints_c0, ints_c1, ints_cm1] <;> omega)⟩, rfl⟩
  · simp [lit0, lit1, lit2, lit3, lit4, lit5, lit6, lit7, lit8, lit9, lit10, lit11, lit12, lit13, lit14, lit15, lit16, lit17, lit18, lit19, lit20, lit21, lit22, lit23, lit24, lit25, lit26, lit27, lit28, lit29, lit30, lit31, lit32, lit33, lit34, lit35, lit36, lit37, lit38, mk_append, ints_c0, ints_c1, ints_cm1, sI_mk (i := mi) (by omega), sI_mk (i := ni) (by omega), sI_mk (i := mi + ni) (by omega), sI_mk (i := mi * ni) (by have := abs_mul hm hn; omega), sI_mk (i := 0 - mi) (by omega), sI_mk (i := -mi) (by omega), sI_nat (n := k) (by omega), sI_n1 (k := k) (by omega), sI_n2 (k := k) (more := more) (by omega), sI_n3 (k := k) (more := more) (by omega), C.txt]
  · simp [lit0, lit1, lit2, lit3, lit4, lit5, lit6, lit7, lit8, lit9, lit10, lit11, lit12, lit13, lit14, lit15, lit16, lit17, lit18, lit19, lit20, lit21, lit22, lit23, lit24, lit25, lit26, lit27, lit28, lit29, lit30, lit31, lit32, lit33, lit34, lit35, lit36, lit37, lit38, mk_append, ints_c0, ints_c1, ints_cm1, sI_mk (i := mi) (by omega), sI_mk (i := ni) (by omega), sI_mk (i := mi + ni) (by omega), sI_mk (i := mi * ni) (by have := abs_mul hm hn; omega), sI_mk (i := 0 - mi) (by omega), sI_mk (i := -mi) (by omega), sI_nat (n := k) (by omega), sI_n1 (k := k) (by omega), sI_n2 (k := k) (more := more) (by omega), sI_n3 (k := k) (more := more) (by omega), C.txt]
theorem rule8 (ha : Part wn ns a) (hb : Part wn ns b) (hd : Part wn ns d) (hm : -2 ≤ mi ∧ mi ≤ 2) (hn : -2 ≤ ni ∧ ni ≤ 2) (hk : k < 13) (hmore : more < 6) : Pair env wn ns (mk (C.par a).txt ++ Str.ofString "^" ++ sI mi ++ mk (C.par a).txt ++ Str.ofString "^" ++ sI ni, mk (C.par a).txt ++ Str.ofString "^" ++ sI (mi + ni)) := by
  have hA1 := ha.nest; have hA2 := ha.deep; have hA3 := ha.wt; have hA4 := ha.len; have hB1 := hb.nest; have hB2 := hb.deep; have hB3 := hb.wt; have hB4 := hb.len; have hD1 := hd.nest; have hD2 := hd.deep; have hD3 := hd.wt; have hD4 := hd.len
  have hq := abs_mul hm hn
  have l1 := ints_length mi; have l2 := ints_length ni; have l3 := ints_length (mi + ni); have l4 := ints_length (mi * ni); have l5 := ints_length (0 - mi); have l6 := ints_length (-mi)
  have w1 := wtp (n := mi) 2 hA3 (by omega) (by decide); have w2 := wtp (n := ni) 2 hA3 (by omega) (by decide); have w3 := wtp (n := mi + ni) 4 hA3 (by omega) (by decide); have w4 := wtp (n := mi * ni) 4 hA3 (by omega) (by decide); have w5 := wtp (n := 0 - mi) 2 hA3 (by omega) (by decide)
  have w6 := wtp (n := ni) 2 w1 (by omega) (by decide)
  have w7 := wtp (n := ni) (w := a.ex.wt wn + 2 * b.ex.wt wn) (B := 18) 2 (by omega) (by omega) (by decide); have w8 := wtp (n := mi) (w := a.ex.wt wn + 1) (B := 7) 2 (by omega) (by omega) (by decide)
  refine ⟨(.thn false (.power (.par a) mi) (.power (.par a) ni)), (.power (.par a) (mi + ni)), ?_, ?_, ⟨by (simp [C.ok, C.item, C.closed, C.opens, ha.ok, hb.ok, hd.ok]; try omega), by (simp only [C.nest]; omega), by (simp only [C.ex, Ex.deep]; omega), by first | (simp only [C.ex, Ex.wt]; omega) | (simp [C.ex, Ex.wt] <;> omega), by simp [C.ex, Ex.NamesIn, ha.names, hb.names, hd.names], by first | (simp [C.txt] <;> omega) | (simp [C.txt, ints_c0, ints_c1, ints_cm1] <;> omega)⟩, ⟨by (simp [C.ok, C.item, C.closed, C.opens, ha.ok, hb.ok, hd.ok]; try omega), by (simp only [C.nest]; omega), by (simp only [C.ex, Ex.deep]; omega), by first | (simp only [C.ex, Ex.wt]; omega) | (simp [C.ex, Ex.wt] <;> omega), by simp [C.ex, Ex.NamesIn, ha.names, hb.names, hd.names], by first | (simp [C.txt] <;> omega) | (simp [C.txt, ints_c0, ints_c1, ints_cm1] <;> omega)⟩, G.pw_add _ hm hn⟩
  · simp [lit0, lit1, lit2, lit3, lit4, lit5, lit6, lit7, lit8, lit9, lit10, lit11, lit12, lit13, lit14, lit15, lit16, lit17, lit18, lit19, lit20, lit21, lit22, lit23, lit24, lit25, lit26, lit27, lit28, lit29, lit30, lit31, lit32, lit33, lit34, lit35, lit36, lit37, lit38, mk_append, ints_c0, ints_c1, ints_cm1, sI_mk (i := mi) (by omega), sI_mk (i := ni) (by omega), sI_mk (i := mi + ni) (by omega), sI_mk (i := mi * ni) (by have := abs_mul hm hn; omega), sI_mk (i := 0 - mi) (by omega), sI_mk (i := -mi) (by omega), sI_nat (n := k) (by omega), sI_n1 (k := k) (by omega), sI_n2 (k := k) (more := more) (by omega), sI_n3 (k := k) (more := more) (by omega), C.txt]
  · simp [lit0, lit1, lit2, lit3, lit4, lit5, lit6, lit7, lit8, lit9, lit10, lit11, lit12, lit13, lit14, lit15, lit16, lit17, lit18, lit19, lit20, lit21, lit22, lit23, lit24, lit25, lit26, lit27, lit28, lit29, lit30, lit31, lit32, lit33, lit34, lit35, lit36, lit37, lit38, mk_append, ints_c0, ints_c1, ints_cm1, sI_mk (i := mi) (by omega), sI_mk (i := ni) (by omega), sI_mk (i := mi + ni) (by omega), sI_mk (i := mi * ni) (by have := abs_mul hm hn; omega), sI_mk (i := 0 - mi) (by omega), sI_mk (i := -mi) (by omega), sI_nat (n := k) (by omega), sI_n1 (k := k) (by omega), sI_n2 (k := k) (more := more) (by omega), sI_n3 (k := k) (more := more) (by omega), C.txt]
theorem rule9 (ha : Part wn ns a) (hb : Part wn ns b) (hd : Part wn ns d) (hm : -2 ≤ mi ∧ mi ≤ 2) (hn : -2 ≤ ni ∧ ni ≤ 2) (hk : k < 13) (hmore : more < 6) : Pair env wn ns (mk (C.par a).txt ++ Str.ofString "^0", Str.ofString "one") := by
  have hA1 := ha.nest; have hA2 := ha.deep; have hA3 := ha.wt; have hA4 := ha.len; have hB1 := hb.nest; have hB2 := hb.deep; have hB3 := hb.wt; have hB4 := hb.len; have hD1 := hd.nest; have hD2 := hd.deep; have hD3 := hd.wt; have hD4 := hd.len
  refine ⟨(.power (.par a) 0), .one, ?_, ?_, ⟨by (simp [C.ok, C.item, C.closed, C.opens, ha.ok, hb.ok, hd.ok]; try omega), by (simp only [C.nest]; omega), by (simp only [C.ex, Ex.deep]; omega), by first | (simp only [C.ex, Ex.wt]; omega) | (simp [C.ex, Ex.wt] <;> omega), by simp [C.ex, Ex.NamesIn, ha.names, hb.names, hd.names], by first | (simp [C.txt] <;> omega) | (simp [C.txt, ints_c0, ints_c1, ints_cm1] <;> omega)⟩, ⟨by (simp [C.ok, C.item, C.closed, C.opens, ha.ok, hb.ok, hd.ok]; try omega), by (simp only [C.nest]; omega), by (simp only [C.ex, Ex.deep]; omega), by first | (simp only [C.ex, Ex.wt]; omega) | (simp [C.ex, Ex.wt] <;> omega), by simp [C.ex, Ex.NamesIn, ha.names, hb.names, hd.names], by first | (simp [C.txt] <;> omega) | (simp [C.txt, ints_c0, ints_c1, ints_cm1] <;> omega)⟩, rfl⟩
  · simp [lit0, lit1, lit2, lit3, lit4, lit5, lit6, lit7, lit8, lit9, lit10, lit11, lit12, lit13, lit14, lit15, lit16, lit17, lit18, lit19, lit20, lit21, lit22, lit23, lit24, lit25, lit26, lit27, lit28, lit29, lit30, lit31, lit32, lit33, lit34, lit35, lit36, lit37, lit38, mk_append, ints_c0, ints_c1, ints_cm1, sI_mk (i := mi) (by omega), sI_mk (i := ni) (by omega), sI_mk (i := mi + ni) (by omega), sI_mk (i := mi * ni) (by have := abs_mul hm hn; omega), sI_mk (i := 0 - mi) (by omega), sI_mk (i := -mi) (by omega), sI_nat (n := k) (by omega), sI_n1 (k := k) (by omega), sI_n2 (k := k) (more := more) (by omega), sI_n3 (k := k) (more := more) (by omega), C.txt]
  · simp [lit0, lit1, lit2, lit3, lit4, lit5, lit6, lit7, lit8, lit9, lit10, lit11, lit12, lit13, lit14, lit15, lit16, lit17, lit18, lit19, lit20, lit21, lit22, lit23, lit24, lit25, lit26, lit27, lit28, lit29, lit30, lit31, lit32, lit33, lit34, lit35, lit36, lit37, lit38, mk_append, ints_c0, ints_c1, ints_cm1, sI_mk (i := mi) (by omega), sI_mk (i := ni) (by omega), sI_mk (i := mi + ni) (by omega), sI_mk (i := mi * ni) (by have := abs_mul hm hn; omega), sI_mk (i := 0 - mi) (by omega), sI_mk (i := -mi) (by omega), sI_nat (n := k) (by omega), sI_n1 (k := k) (by omega), sI_n2 (k := k) (more := more) (by omega), sI_n3 (k := k) (more := more) (by omega), C.txt]
theorem rule10 (ha : Part wn ns a) (hb : Part wn ns b) (hd : Part wn ns d) (hm : -2 ≤ mi ∧ mi ≤ 2) (hn : -2 ≤ ni ∧ ni ≤ 2) (hk : k < 13) (hmore : more < 6) : Pair env wn ns (mk (C.par a).txt ++ Str.ofString "^1", mk (C.par a).txt) := by
  have hA1 := ha.nest; have hA2 := ha.deep; have hA3 := ha.wt; have hA4 := ha.len; have hB1 := hb.nest; have hB2 := hb.deep; have hB3 := hb.wt; have hB4 := hb.len; have hD1 := hd.nest; have hD2 := hd.deep; have hD3 := hd.wt; have hD4 := hd.len
  refine ⟨(.power (.par a) 1), (.par a), ?_, ?_, ⟨by (simp [C.ok, C.item, C.closed, C.opens, ha.ok, hb.ok, hd.ok]; try omega), by (simp only [C.nest]; omega), by (simp only [C.ex, Ex.deep]; omega), by first | (simp only [C.ex, Ex.wt]; omega) | (simp [C.ex, Ex.wt] <;> omega), by simp [C.ex, Ex.NamesIn, ha.names, hb.names, hd.names], by first | (simp [C.txt] <;> omega) | (simp [C.txt, ints_c0, ints_c1, ints_cm1] <;> omega)⟩, ⟨by (simp [C.ok, C.item, C.closed, C.opens, ha.ok, hb.ok, hd.ok]; try omega), by (simp only [C.nest]; omega), by (simp only [C.ex, Ex.deep]; omega), by first | (simp only [C.ex, Ex.wt]; omega) | (simp [C.ex, Ex.wt] <;> omega), by simp [C.ex, Ex.NamesIn, ha.names, hb.names, hd.names], by first | (simp [C.txt] <;> omega) | (simp [C.txt, ints_c0, ints_c1, ints_cm1] <;> omega)⟩, rfl⟩
  · simp [lit0, lit1, lit2, lit3, lit4, lit5, lit6, lit7, lit8, lit9, lit10, lit11, lit12, lit13, lit14, lit15, lit16, lit17, lit18, lit19, lit20, lit21, lit22, lit23, lit24, lit25, lit26, lit27, lit28, lit29, lit30, lit31, lit32, lit33, lit34, lit35, lit36, lit37, lit38, mk_append, ints_c0, ints_c1, ints_cm1, sI_mk (i := mi) (by omega), sI_mk (i := ni) (by omega), sI_mk (i := mi + ni) (by omega), sI_mk (i := mi * ni) (by have := abs_mul hm hn; omega), sI_mk (i := 0 - mi) (by omega), sI_mk (i := -mi) (by omega), sI_nat (n := k) (by omega), sI_n1 (k := k) (by omega), sI_n2 (k := k) (more := more) (by omega), sI_n3 (k := k) (more := more) (by omega), C.txt]
  · simp [lit0, lit1, lit2, lit3, lit4, lit5, lit6, lit7, lit8, lit9, lit10, lit11, lit12, lit13, lit14, lit15, lit16, lit17, lit18, lit19, lit20, lit21, lit22, lit23, lit24, lit25, lit26, lit27, lit28, lit29, lit30, lit31, lit32, lit33, lit34, lit35, lit36, lit37, lit38, mk_append, ints_c0, ints_c1, ints_cm1, sI_mk (i := mi) (by omega), sI_mk (i := ni) (by omega), sI_mk (i := mi + ni) (by omega), sI_mk (i := mi * ni) (by have := abs_mul hm hn; omega), sI_mk (i := 0 - mi) (by omega), sI_mk (i := -mi) (by omega), sI_nat (n := k) (by omega), sI_n1 (k := k) (by omega), sI_n2 (k := k) (more := more) (by omega), sI_n3 (k := k) (more := more) (by omega), C.txt]
theorem rule11 (ha : Part wn ns a) (hb : Part wn ns b) (hd : Part wn ns d) (hm : -2 ≤ mi ∧ mi ≤ 2) (hn : -2 ≤ ni ∧ ni ≤ 2) (hk : k < 13) (hmore : more < 6) : Pair env wn ns (Str.ofString "(" ++ mk (C.par a).txt ++ Str.ofString "^" ++ sI mi ++ Str.ofString ")^" ++ sI ni, mk (C.par a).txt ++ Str.ofString "^" ++ sI (mi * ni)) := by
  have hA1 := ha.nest; have hA2 := ha.deep; have hA3 := ha.wt; have hA4 := ha.len; have hB1 := hb.nest; have hB2 := hb.deep; have hB3 := hb.wt; have hB4 := hb.len; have hD1 := hd.nest; have hD2 := hd.deep; have hD3 := hd.wt; have hD4 := hd.len
  have hq := abs_mul hm hn
  have l1 := ints_length mi; have l2 := ints_length ni; have l3 := ints_length (mi + ni); have l4 := ints_length (mi * ni); have l5 := ints_length (0 - mi); have l6 := ints_length (-mi)
  have w1 := wtp (n := mi) 2 hA3 (by omega) (by decide); have w2 := wtp (n := ni) 2 hA3 (by omega) (by decide); have w3 := wtp (n := mi + ni) 4 hA3 (by omega) (by decide); have w4 := wtp (n := mi * ni) 4 hA3 (by omega) (by decide); have w5 := wtp (n := 0 - mi) 2 hA3 (by omega) (by decide)
  have w6 := wtp (n := ni) 2 w1 (by omega) (by decide)
  have w7 := wtp (n := ni) (w := a.ex.wt wn + 2 * b.ex.wt wn) (B := 18) 2 (by omega) (by omega) (by decide); have w8 := wtp (n := mi) (w := a.ex.wt wn + 1) (B := 7) 2 (by omega) (by omega) (by decide)
  refine ⟨(.power (.par (.power (.par a) mi)) ni), (.power (.par a) (mi * ni)), ?_, ?_, ⟨by (simp [C.ok, C.item, C.closed, C.opens, ha.ok, hb.ok, hd.ok]; try omega), by (simp only [C.nest]; omega), by (simp only [C.ex, Ex.deep]; omega), by first | (simp only [C.ex, Ex.wt]; omega) | (simp [C.ex, Ex.wt] <;> omega), by simp [C.ex, Ex.NamesIn, ha.names, hb.names, hd.names], by first | (simp [C.txt] <;> omega) | (simp [C.txt, ints_c0, ints_c1, ints_cm1] <;> omega)⟩, ⟨by (simp [C.ok, C.item, C.closed, C.opens, ha.ok, hb.ok, hd.ok]; try omega), by (simp only [C.nest]; omega), by (simp only [C.ex, Ex.deep]; omega), by first | (simp only [C.ex, Ex.wt]; omega) | (simp [C.ex, Ex.wt] <;> omega), by simp [C.ex, Ex.NamesIn, ha.names, hb.names, hd.names], by first | (simp [C.txt] <;> omega) | (simp [C.txt, ints_c0, ints_c1, ints_cm1] <;> omega)⟩, G.pw_mul _ hm hn⟩
  · simp [lit0, lit1, lit2, lit3, lit4, lit5, lit6, lit7, lit8, lit9, lit10, lit11, lit12, lit13, lit14, lit15, lit16, lit17, lit18, lit19, lit20, lit21, lit22, lit23, lit24, lit25, lit26, lit27, lit28, lit29, lit30, lit31, lit32, lit33, lit34, lit35, lit36, lit37, lit38, mk_append, ints_c0, ints_c1, ints_cm1, sI_mk (i := mi) (by omega), sI_mk (i := ni) (by omega), sI_mk (i := mi + ni) (by omega), sI_mk (i := mi * ni) (by have := abs_mul hm hn; omega), sI_mk (i := 0 - mi) (by omega), sI_mk (i := -mi) (by omega), sI_nat (n := k) (by omega), sI_n1 (k := k) (by omega), sI_n2 (k := k) (more := more) (by omega), sI_n3 (k := k) (more := more) (by omega), C.txt]
  · simp [lit0, lit1, lit2, lit3, lit4, lit5, lit6, lit7, lit8, lit9, lit10, lit11, lit12, lit13, lit14, lit15, lit16, lit17, lit18, lit19, lit20, lit21, lit22, lit23, lit24, lit25, lit26, lit27, lit28, lit29, lit30, lit31, lit32, lit33, lit34, lit35, lit36, lit37, lit38, mk_append, ints_c0, ints_c1, ints_cm1, sI_mk (i := mi) (by omega), sI_mk (i := ni) (by omega), sI_mk (i := mi + ni) (by omega), sI_mk (i := mi * ni) (by have := abs_mul hm hn; omega), sI_mk (i := 0 - mi) (by omega), sI_mk (i := -mi) (by omega), sI_nat (n := k) (by omega), sI_n1 (k := k) (by omega), sI_n2 (k := k) (more := more) (by omega), sI_n3 (k := k) (more := more) (by omega), C.txt]
theorem rule12 (ha : Part wn ns a) (hb : Part wn ns b) (hd : Part wn ns d) (hm : -2 ≤ mi ∧ mi ≤ 2) (hn : -2 ≤ ni ∧ ni ≤ 2) (hk : k < 13) (hmore : more < 6) : Pair env wn ns (mk (C.par a).txt ++ Str.ofString "^-1", mk (C.par a).txt ++ Str.ofString "~") := by
  have hA1 := ha.nest; have hA2 := ha.deep; have hA3 := ha.wt; have hA4 := ha.len; have hB1 := hb.nest; have hB2 := hb.deep; have hB3 := hb.wt; have hB4 := hb.len; have hD1 := hd.nest; have hD2 := hd.deep; have hD3 := hd.wt; have hD4 := hd.len
  refine ⟨(.power (.par a) (-1)), (.back (.par a)), ?_, ?_, ⟨by (simp [C.ok, C.item, C.closed, C.opens, ha.ok, hb.ok, hd.ok]; try omega), by (simp only [C.nest]; omega), by (simp only [C.ex, Ex.deep]; omega), by first | (simp only [C.ex, Ex.wt]; omega) | (simp [C.ex, Ex.wt] <;> omega), by simp [C.ex, Ex.NamesIn, ha.names, hb.names, hd.names], by first | (simp [C.txt] <;> omega) | (simp [C.txt, ints_c0, ints_c1, ints_cm1] <;> omega)⟩, ⟨by (simp [C.ok, C.item, C.closed, C.opens, ha.ok, hb.ok, hd.ok]; try omega), by (simp only [C.nest]; omega), by (simp only [C.ex, Ex.deep]; omega), by first | (simp only [C.ex, Ex.wt]; omega) | (simp [C.ex, Ex.wt] <;> omega), by simp [C.ex, Ex.NamesIn, ha.names, hb.names, hd.names], by first | (simp [C.txt] <;> omega) | (simp [C.txt, ints_c0, ints_c1, ints_cm1] <;> omega)⟩, rfl⟩
  · simp [lit0, lit1, lit2, lit3, lit4, lit5, lit6, lit7, lit8, lit9, lit10, lit11, lit12, lit13, lit14, lit15, lit16, lit17, lit18, lit19, lit20, lit21, lit22, lit23, lit24, lit25, lit26, lit27, lit28, lit29, lit30, lit31, lit32, lit33, lit34, lit35, lit36, lit37, lit38, mk_append, ints_c0, ints_c1, ints_cm1, sI_mk (i := mi) (by omega), sI_mk (i := ni) (by omega), sI_mk (i := mi + ni) (by omega), sI_mk (i := mi * ni) (by have := abs_mul hm hn; omega), sI_mk (i := 0 - mi) (by omega), sI_mk (i := -mi) (by omega), sI_nat (n := k) (by omega), sI_n1 (k := k) (by omega), sI_n2 (k := k) (more := more) (by omega), sI_n3 (k := k) (more := more) (by omega), C.txt]
  · simp [lit0, lit1, lit2, lit3, lit4, lit5, lit6, lit7, lit8, lit9, lit10, lit11, lit12, lit13, lit14, lit15, lit16, lit17, lit18, lit19, lit20, lit21, lit22, lit23, lit24, lit25, lit26, lit27, lit28, lit29, lit30, lit31, lit32, lit33, lit34, lit35, lit36, lit37, lit38, mk_append, ints_c0, ints_c1, ints_cm1, sI_mk (i := mi) (by omega), sI_mk (i := ni) (by omega), sI_mk (i := mi + ni) (by omega), sI_mk (i := mi * ni) (by have := abs_mul hm hn; omega), sI_mk (i := 0 - mi) (by omega), sI_mk (i := -mi) (by omega), sI_nat (n := k) (by omega), sI_n1 (k := k) (by omega), sI_n2 (k := k) (more := more) (by omega), sI_n3 (k := k) (more := more) (by omega), C.txt]
theorem rule13 (ha : Part wn ns a) (hb : Part wn ns b) (hd : Part wn ns d) (hm : -2 ≤ mi ∧ mi ≤ 2) (hn : -2 ≤ ni ∧ ni ≤ 2) (hk : k < 13) (hmore : more < 6) : Pair env wn ns (mk (C.par a).txt ++ Str.ofString "~^" ++ sI mi, mk (C.par a).txt ++ Str.ofString "^" ++ sI mi ++ Str.ofString "~") := by
  have hA1 := ha.nest; have hA2 := ha.deep; have hA3 := ha.wt; have hA4 := ha.len; have hB1 := hb.nest; have hB2 := hb.deep; have hB3 := hb.wt; have hB4 := hb.len; have hD1 := hd.nest; have hD2 := hd.deep; have hD3 := hd.wt; have hD4 := hd.len
  have hq := abs_mul hm hn
  have l1 := ints_length mi; have l2 := ints_length ni; have l3 := ints_length (mi + ni); have l4 := ints_length (mi * ni); have l5 := ints_length (0 - mi); have l6 := ints_length (-mi)
  have w1 := wtp (n := mi) 2 hA3 (by omega) (by decide); have w2 := wtp (n := ni) 2 hA3 (by omega) (by decide); have w3 := wtp (n := mi + ni) 4 hA3 (by omega) (by decide); have w4 := wtp (n := mi * ni) 4 hA3 (by omega) (by decide); have w5 := wtp (n := 0 - mi) 2 hA3 (by omega) (by decide)
  have w6 := wtp (n := ni) 2 w1 (by omega) (by decide)
  have w7 := wtp (n := ni) (w := a.ex.wt wn + 2 * b.ex.wt wn) (B := 18) 2 (by omega) (by omega) (by decide); have w8 := wtp (n := mi) (w := a.ex.wt wn + 1) (B := 7) 2 (by omega) (by omega) (by decide)
  refine ⟨(.power (.back (.par a)) mi), (.back (.power (.par a) mi)), ?_, ?_, ⟨by (simp [C.ok, C.item, C.closed, C.opens, ha.ok, hb.ok, hd.ok]; try omega), by (simp only [C.nest]; omega), by (simp only [C.ex, Ex.deep]; omega), by first | (simp only [C.ex, Ex.wt]; omega) | (simp [C.ex, Ex.wt] <;> omega), by simp [C.ex, Ex.NamesIn, ha.names, hb.names, hd.names], by first | (simp [C.txt] <;> omega) | (simp [C.txt, ints_c0, ints_c1, ints_cm1] <;> omega)⟩, ⟨by (simp [C.ok, C.item, C.closed, C.opens, ha.ok, hb.ok, hd.ok]; try omega), by (simp only [C.nest]; omega), by (simp only [C.ex, Ex.deep]; omega), by first | (simp only [C.ex, Ex.wt]; omega) | (simp [C.ex, Ex.wt] <;> omega), by simp [C.ex, Ex.NamesIn, ha.names, hb.names, hd.names], by first | (simp [C.txt] <;> omega) | (simp [C.txt, ints_c0, ints_c1, ints_cm1] <;> omega)⟩, G.pw_inv1 _ hm⟩
  · simp [lit0, lit1, lit2, lit3, lit4, lit5, lit6, lit7, lit8, lit9, lit10, lit11, lit12, lit13, lit14, lit15, lit16, lit17, lit18, lit19, lit20, lit21, lit22, lit23, lit24, lit25, lit26, lit27, lit28, lit29, lit30, lit31, lit32, lit33, lit34, lit35, lit36, lit37, lit38, mk_append, ints_c0, ints_c1, ints_cm1, sI_mk (i := mi) (by omega), sI_mk (i := ni) (by omega), sI_mk (i := mi + ni) (by omega), sI_mk (i := mi * ni) (by have := abs_mul hm hn; omega), sI_mk (i := 0 - mi) (by omega), sI_mk (i := -mi) (by omega), sI_nat (n := k) (by omega), sI_n1 (k := k) (by omega), sI_n2 (k := k) (more := more) (by omega), sI_n3 (k := k) (more := more) (by omega), C.txt]
  · simp [lit0, lit1, lit2, lit3, lit4, lit5, lit6, lit7, lit8, lit9, lit10, lit11, lit12, lit13, lit14, lit15, lit16, lit17, lit18, lit19, lit20, lit21, lit22, lit23, lit24, lit25, lit26, lit27, lit28, lit29, lit30, lit31, lit32, lit33, lit34, lit35, lit36, lit37, lit38, mk_append, ints_c0, ints_c1, ints_cm1, sI_mk (i := mi) (by omega), sI_mk (i := ni) (by omega), sI_mk (i := mi + ni) (by omega), sI_mk (i := mi * ni) (by have := abs_mul hm hn; omega), sI_mk (i := 0 - mi) (by omega), sI_mk (i := -mi) (by omega), sI_nat (n := k) (by omega), sI_n1 (k := k) (by omega), sI_n2 (k := k) (more := more) (by omega), sI_n3 (k := k) (more := more) (by omega), C.txt]
theorem rule14 (ha : Part wn ns a) (hb : Part wn ns b) (hd : Part wn ns d) (hm : -2 ≤ mi ∧ mi ≤ 2) (hn : -2 ≤ ni ∧ ni ≤ 2) (hk : k < 13) (hmore : more < 6) : Pair env wn ns (mk (C.par a).txt ++ Str.ofString "^" ++ sI mi ++ Str.ofString "~", mk (C.par a).txt ++ Str.ofString "^" ++ sI (0 - mi)) := by
  have hA1 := ha.nest; have hA2 := ha.deep; have hA3 := ha.wt; have hA4 := ha.len; have hB1 := hb.nest; have hB2 := hb.deep; have hB3 := hb.wt; have hB4 := hb.len; have hD1 := hd.nest; have hD2 := hd.deep; have hD3 := hd.wt; have hD4 := hd.len
  have hq := abs_mul hm hn
  have l1 := ints_length mi; have l2 := ints_length ni; have l3 := ints_length (mi + ni); have l4 := ints_length (mi * ni); have l5 := ints_length (0 - mi); have l6 := ints_length (-mi)
  have w1 := wtp (n := mi) 2 hA3 (by omega) (by decide); have w2 := wtp (n := ni) 2 hA3 (by omega) (by decide); have w3 := wtp (n := mi + ni) 4 hA3 (by omega) (by decide); have w4 := wtp (n := mi * ni) 4 hA3 (by omega) (by decide); have w5 := wtp (n := 0 - mi) 2 hA3 (by omega) (by decide)
  have w6 := wtp (n := ni) 2 w1 (by omega) (by decide)
  have w7 := wtp (n := ni) (w := a.ex.wt wn + 2 * b.ex.wt wn) (B := 18) 2 (by omega) (by omega) (by decide); have w8 := wtp (n := mi) (w := a.ex.wt wn + 1) (B := 7) 2 (by omega) (by omega) (by decide)
  refine ⟨(.back (.power (.par a) mi)), (.power (.par a) (0 - mi)), ?_, ?_, ⟨by (simp [C.ok, C.item, C.closed, C.opens, ha.ok, hb.ok, hd.ok]; try omega), by (simp only [C.nest]; omega), by (simp only [C.ex, Ex.deep]; omega), by first | (simp only [C.ex, Ex.wt]; omega) | (simp [C.ex, Ex.wt] <;> omega), by simp [C.ex, Ex.NamesIn, ha.names, hb.names, hd.names], by first | (simp [C.txt] <;> omega) | (simp [C.txt, ints_c0, ints_c1, ints_cm1] <;> omega)⟩, ⟨by (simp [C.ok, C.item, C.closed, C.opens, ha.ok, hb.ok, hd.ok]; try omega), by (simp only [C.nest]; omega), by (simp only [C.ex, Ex.deep]; omega), by first | (simp only [C.ex, Ex.wt]; omega) | (simp [C.ex, Ex.wt] <;> omega), by simp [C.ex, Ex.NamesIn, ha.names, hb.names, hd.names], by first | (simp [C.txt] <;> omega) | (simp [C.txt, ints_c0, ints_c1, ints_cm1] <;> omega)⟩, G.pw_inv2 _ hm⟩
  · simp [lit0, lit1, lit2, lit3, lit4, lit5, lit6, lit7, lit8, lit9, lit10, lit11, lit12, lit13, lit14, lit15, lit16, lit17, lit18, lit19, lit20, lit21, lit22, lit23, lit24, lit25, lit26, lit27, lit28, lit29, lit30, lit31, lit32, lit33, lit34, lit35, lit36, lit37, lit38, mk_append, ints_c0, ints_c1, ints_cm1, sI_mk (i := mi) (by omega), sI_mk (i := ni) (by omega), sI_mk (i := mi + ni) (by omega), sI_mk (i := mi * ni) (by have := abs_mul hm hn; omega), sI_mk (i := 0 - mi) (by omega), sI_mk (i := -mi) (by omega), sI_nat (n := k) (by omega), sI_n1 (k := k) (by omega), sI_n2 (k := k) (more := more) (by omega), sI_n3 (k := k) (more := more) (by omega), C.txt]
  · simp [lit0, lit1, lit2, lit3, lit4, lit5, lit6, lit7, lit8, lit9, lit10, lit11, lit12, lit13, lit14, lit15, lit16, lit17, lit18, lit19, lit20, lit21, lit22, lit23, lit24, lit25, lit26, lit27, lit28, lit29, lit30, lit31, lit32, lit33, lit34, lit35, lit36, lit37, lit38, mk_append, ints_c0, ints_c1, ints_cm1, sI_mk (i := mi) (by omega), sI_mk (i := ni) (by omega), sI_mk (i := mi + ni) (by omega), sI_mk (i := mi * ni) (by have := abs_mul hm hn; omega), sI_mk (i := 0 - mi) (by omega), sI_mk (i := -mi) (by omega), sI_nat (n := k) (by omega), sI_n1 (k := k) (by omega), sI_n2 (k := k) (more := more) (by omega), sI_n3 (k := k) (more := more) (by omega), C.txt]
theorem rule15 (ha : Part wn ns a) (hb : Part wn ns b) (hd : Part wn ns d) (hm : -2 ≤ mi ∧ mi ≤ 2) (hn : -2 ≤ ni ∧ ni ≤ 2) (hk : k < 13) (hmore : more < 6) : Pair env wn ns (Str.ofString "as(" ++ mk (C.par a).txt ++ mk (C.par b).txt ++ Str.ofString ", " ++ mk (C.par d).txt ++ Str.ofString ")", Str.ofString "as(" ++ mk (C.par a).txt ++ Str.ofString ", " ++ mk (C.par d).txt ++ Str.ofString ") as(" ++ mk (C.par b).txt ++ Str.ofString ", " ++ mk (C.par d).txt ++ Str.ofString ")") := by
  have hA1 := ha.nest; have hA2 := ha.deep; have hA3 := ha.wt; have hA4 := ha.len; have hB1 := hb.nest; have hB2 := hb.deep; have hB3 := hb.wt; have hB4 := hb.len; have hD1 := hd.nest; have hD2 := hd.deep; have hD3 := hd.wt; have hD4 := hd.len
  refine ⟨(.as (.thn false (.par a) (.par b)) (.par d)), (.thn true (.as (.par a) (.par d)) (.as (.par b) (.par d))), ?_, ?_, ⟨by (simp [C.ok, C.item, C.closed, C.opens, ha.ok, hb.ok, hd.ok]; try omega), by (simp only [C.nest]; omega), by (simp only [C.ex, Ex.deep]; omega), by first | (simp only [C.ex, Ex.wt]; omega) | (simp [C.ex, Ex.wt] <;> omega), by simp [C.ex, Ex.NamesIn, ha.names, hb.names, hd.names], by first | (simp [C.txt] <;> omega) | (simp [C.txt, ints_c0, ints_c1, ints_cm1] <;> omega)⟩, ⟨by (simp [C.ok, C.item, C.closed, C.opens, ha.ok, hb.ok, hd.ok]; try omega), by (simp only [C.nest]; omega), by (simp only [C.ex, Ex.deep]; omega), by first | (simp only [C.ex, Ex.wt]; omega) | (simp [C.ex, Ex.wt] <;> omega), by simp [C.ex, Ex.NamesIn, ha.names, hb.names, hd.names], by first | (simp [C.txt] <;> omega) | (simp [C.txt, ints_c0, ints_c1, ints_cm1] <;> omega)⟩, G.as_mul1 _ _ _⟩
  · simp [lit0, lit1, lit2, lit3, lit4, lit5, lit6, lit7, lit8, lit9, lit10, lit11, lit12, lit13, lit14, lit15, lit16, lit17, lit18, lit19, lit20, lit21, lit22, lit23, lit24, lit25, lit26, lit27, lit28, lit29, lit30, lit31, lit32, lit33, lit34, lit35, lit36, lit37, lit38, mk_append, ints_c0, ints_c1, ints_cm1, sI_mk (i := mi) (by omega), sI_mk (i := ni) (by omega), sI_mk (i := mi + ni) (by omega), sI_mk (i := mi * ni) (by have := abs_mul hm hn; omega), sI_mk (i := 0 - mi) (by omega), sI_mk (i := -mi) (by omega), sI_nat (n := k) (by omega), sI_n1 (k := k) (by omega), sI_n2 (k := k) (more := more) (by omega), sI_n3 (k := k) (more := more) (by omega), C.txt]
  · simp [lit0, lit1, lit2, lit3, lit4, lit5, lit6, lit7, lit8, lit9, lit10, lit11, lit12, lit13, lit14, lit15, lit16, lit17, lit18, lit19, lit20, lit21, lit22, lit23, lit24, lit25, lit26, lit27, lit28, lit29, lit30, lit31, lit32, lit33, lit34, lit35, lit36, lit37, lit38, mk_append, ints_c0, ints_c1, ints_cm1, sI_mk (i := mi) (by omega), sI_mk (i := ni) (by omega), sI_mk (i := mi + ni) (by omega), sI_mk (i := mi * ni) (by have := abs_mul hm hn; omega), sI_mk (i := 0 - mi) (by omega), sI_mk (i := -mi) (by omega), sI_nat (n := k) (by omega), sI_n1 (k := k) (by omega), sI_n2 (k := k) (more := more) (by omega), sI_n3 (k := k) (more := more) (by omega), C.txt]
theorem rule16 (ha : Part wn ns a) (hb : Part wn ns b) (hd : Part wn ns d) (hm : -2 ≤ mi ∧ mi ≤ 2) (hn : -2 ≤ ni ∧ ni ≤ 2) (hk : k < 13) (hmore : more < 6) : Pair env wn ns (Str.ofString "as(" ++ mk (C.par a).txt ++ Str.ofString ", " ++ mk (C.par b).txt ++ mk (C.par d).txt ++ Str.ofString ")", Str.ofString "as(as(" ++ mk (C.par a).txt ++ Str.ofString ", " ++ mk (C.par b).txt ++ Str.ofString "), " ++ mk (C.par d).txt ++ Str.ofString ")") := by
  have hA1 := ha.nest; have hA2 := ha.deep; have hA3 := ha.wt; have hA4 := ha.len; have hB1 := hb.nest; have hB2 := hb.deep; have hB3 := hb.wt; have hB4 := hb.len; have hD1 := hd.nest; have hD2 := hd.deep; have hD3 := hd.wt; have hD4 := hd.len
  refine ⟨(.as (.par a) (.thn false (.par b) (.par d))), (.as (.as (.par a) (.par b)) (.par d)), ?_, ?_, ⟨by (simp [C.ok, C.item, C.closed, C.opens, ha.ok, hb.ok, hd.ok]; try omega), by (simp only [C.nest]; omega), by (simp only [C.ex, Ex.deep]; omega), by first | (simp only [C.ex, Ex.wt]; omega) | (simp [C.ex, Ex.wt] <;> omega), by simp [C.ex, Ex.NamesIn, ha.names, hb.names, hd.names], by first | (simp [C.txt] <;> omega) | (simp [C.txt, ints_c0, ints_c1, ints_cm1] <;> omega)⟩, ⟨by (simp [C.ok, C.item, C.closed, C.opens, ha.ok, hb.ok, hd.ok]; try omega), by (simp only [C.nest]; omega), by (simp only [C.ex, Ex.deep]; omega), by first | (simp only [C.ex, Ex.wt]; omega) | (simp [C.ex, Ex.wt] <;> omega), by simp [C.ex, Ex.NamesIn, ha.names, hb.names, hd.names], by first | (simp [C.txt] <;> omega) | (simp [C.txt, ints_c0, ints_c1, ints_cm1] <;> omega)⟩, G.as_mul2 _ _ _⟩
  · simp [lit0, lit1, lit2, lit3, lit4, lit5, lit6, lit7, lit8, lit9, lit10, lit11, lit12, lit13, lit14, lit15, lit16, lit17, lit18, lit19, lit20, lit21, lit22, lit23, lit24, lit25, lit26, lit27, lit28, lit29, lit30, lit31, lit32, lit33, lit34, lit35, lit36, lit37, lit38, mk_append, ints_c0, ints_c1, ints_cm1, sI_mk (i := mi) (by omega), sI_mk (i := ni) (by omega), sI_mk (i := mi + ni) (by omega), sI_mk (i := mi * ni) (by have := abs_mul hm hn; omega), sI_mk (i := 0 - mi) (by omega), sI_mk (i := -mi) (by omega), sI_nat (n := k) (by omega), sI_n1 (k := k) (by omega), sI_n2 (k := k) (more := more) (by omega), sI_n3 (k := k) (more := more) (by omega), C.txt]
  · simp [lit0, lit1, lit2, lit3, lit4, lit5, lit6, lit7, lit8, lit9, lit10, lit11, lit12, lit13, lit14, lit15, lit16, lit17, lit18, lit19, lit20, lit21, lit22, lit23, lit24, lit25, lit26, lit27, lit28, lit29, lit30, lit31, lit32, lit33, lit34, lit35, lit36, lit37, lit38, mk_append, ints_c0, ints_c1, ints_cm1, sI_mk (i := mi) (by omega), sI_mk (i := ni) (by omega), sI_mk (i := mi + ni) (by omega), sI_mk (i := mi * ni) (by have := abs_mul hm hn; omega), sI_mk (i := 0 - mi) (by omega), sI_mk (i := -mi) (by omega), sI_nat (n := k) (by omega), sI_n1 (k := k) (by omega), sI_n2 (k := k) (more := more) (by omega), sI_n3 (k := k) (more := more) (by omega), C.txt]
theorem rule17 (ha : Part wn ns a) (hb : Part wn ns b) (hd : Part wn ns d) (hm : -2 ≤ mi ∧ mi ≤ 2) (hn : -2 ≤ ni ∧ ni ≤ 2) (hk : k < 13) (hmore : more < 6) : Pair env wn ns (Str.ofString "as(" ++ mk (C.par a).txt ++ Str.ofString ", " ++ mk (C.par b).txt ++ Str.ofString ")^" ++ sI ni, Str.ofString "as(" ++ mk (C.par a).txt ++ Str.ofString "^" ++ sI ni ++ Str.ofString ", " ++ mk (C.par b).txt ++ Str.ofString ")") := by
  have hA1 := ha.nest; have hA2 := ha.deep; have hA3 := ha.wt; have hA4 := ha.len; have hB1 := hb.nest; have hB2 := hb.deep; have hB3 := hb.wt; have hB4 := hb.len; have hD1 := hd.nest; have hD2 := hd.deep; have hD3 := hd.wt; have hD4 := hd.len
  have hq := abs_mul hm hn
  have l1 := ints_length mi; have l2 := ints_length ni; have l3 := ints_length (mi + ni); have l4 := ints_length (mi * ni); have l5 := ints_length (0 - mi); have l6 := ints_length (-mi)
  have w1 := wtp (n := mi) 2 hA3 (by omega) (by decide); have w2 := wtp (n := ni) 2 hA3 (by omega) (by decide); have w3 := wtp (n := mi + ni) 4 hA3 (by omega) (by decide); have w4 := wtp (n := mi * ni) 4 hA3 (by omega) (by decide); have w5 := wtp (n := 0 - mi) 2 hA3 (by omega) (by decide)
  have w6 := wtp (n := ni) 2 w1 (by omega) (by decide)
  have w7 := wtp (n := ni) (w := a.ex.wt wn + 2 * b.ex.wt wn) (B := 18) 2 (by omega) (by omega) (by decide); have w8 := wtp (n := mi) (w := a.ex.wt wn + 1) (B := 7) 2 (by omega) (by omega) (by decide)
  refine ⟨(.power (.as (.par a) (.par b)) ni), (.as (.power (.par a) ni) (.par b)), ?_, ?_, ⟨by (simp [C.ok, C.item, C.closed, C.opens, ha.ok, hb.ok, hd.ok]; try omega), by (simp only [C.nest]; omega), by (simp only [C.ex, Ex.deep]; omega), by first | (simp only [C.ex, Ex.wt]; omega) | (simp [C.ex, Ex.wt] <;> omega), by simp [C.ex, Ex.NamesIn, ha.names, hb.names, hd.names], by first | (simp [C.txt] <;> omega) | (simp [C.txt, ints_c0, ints_c1, ints_cm1] <;> omega)⟩, ⟨by (simp [C.ok, C.item, C.closed, C.opens, ha.ok, hb.ok, hd.ok]; try omega), by (simp only [C.nest]; omega), by (simp only [C.ex, Ex.deep]; omega), by first | (simp only [C.ex, Ex.wt]; omega) | (simp [C.ex, Ex.wt] <;> omega), by simp [C.ex, Ex.NamesIn, ha.names, hb.names, hd.names], by first | (simp [C.txt] <;> omega) | (simp [C.txt, ints_c0, ints_c1, ints_cm1] <;> omega)⟩, G.pw_as _ _ hn⟩
  · simp [lit0, lit1, lit2, lit3, lit4, lit5, lit6, lit7, lit8, lit9, lit10, lit11, lit12, lit13, lit14, lit15, lit16, lit17, lit18, lit19, lit20, lit21, lit22, lit23, lit24, lit25, lit26, lit27, lit28, lit29, lit30, lit31, lit32, lit33, lit34, lit35, lit36, lit37, lit38, mk_append, ints_c0, ints_c1, ints_cm1, sI_mk (i := mi) (by omega), sI_mk (i := ni) (by omega), sI_mk (i := mi + ni) (by omega), sI_mk (i := mi * ni) (by have := abs_mul hm hn; omega), sI_mk (i := 0 - mi) (by omega), sI_mk (i := -mi) (by omega), sI_nat (n := k) (by omega), sI_n1 (k := k) (by omega), sI_n2 (k := k) (more := more) (by omega), sI_n3 (k := k) (more := more) (by omega), C.txt]
  · simp [lit0, lit1, lit2, lit3, lit4, lit5, lit6, lit7, lit8, lit9, lit10, lit11, lit12, lit13, lit14, lit15, lit16, lit17, lit18, lit19, lit20, lit21, lit22, lit23, lit24, lit25, lit26, lit27, lit28, lit29, lit30, lit31, lit32, lit33, lit34, lit35, lit36, lit37, lit38, mk_append, ints_c0, ints_c1, ints_cm1, sI_mk (i := mi) (by omega), sI_mk (i := ni) (by omega), sI_mk (i := mi + ni) (by omega), sI_mk (i := mi * ni) (by have := abs_mul hm hn; omega), sI_mk (i := 0 - mi) (by omega), sI_mk (i := -mi) (by omega), sI_nat (n := k) (by omega), sI_n1 (k := k) (by omega), sI_n2 (k := k) (more := more) (by omega), sI_n3 (k := k) (more := more) (by omega), C.txt]
theorem rule18 (ha : Part wn ns a) (hb : Part wn ns b) (hd : Part wn ns d) (hm : -2 ≤ mi ∧ mi ≤ 2) (hn : -2 ≤ ni ∧ ni ≤ 2) (hk : k < 13) (hmore : more < 6) : Pair env wn ns (Str.ofString "as(" ++ mk (C.par a).txt ++ Str.ofString ", " ++ mk (C.par b).txt ++ Str.ofString ")", mk (C.par b).txt ++ Str.ofString "~" ++ mk (C.par a).txt ++ mk (C.par b).txt) := by
  have hA1 := ha.nest; have hA2 := ha.deep; have hA3 := ha.wt; have hA4 := ha.len; have hB1 := hb.nest; have hB2 := hb.deep; have hB3 := hb.wt; have hB4 := hb.len; have hD1 := hd.nest; have hD2 := hd.deep; have hD3 := hd.wt; have hD4 := hd.len
  refine ⟨(.as (.par a) (.par b)), (.thn false (.thn false (.back (.par b)) (.par a)) (.par b)), ?_, ?_, ⟨by (simp [C.ok, C.item, C.closed, C.opens, ha.ok, hb.ok, hd.ok]; try omega), by (simp only [C.nest]; omega), by (simp only [C.ex, Ex.deep]; omega), by first | (simp only [C.ex, Ex.wt]; omega) | (simp [C.ex, Ex.wt] <;> omega), by simp [C.ex, Ex.NamesIn, ha.names, hb.names, hd.names], by first | (simp [C.txt] <;> omega) | (simp [C.txt, ints_c0, ints_c1, ints_cm1] <;> omega)⟩, ⟨by (simp [C.ok, C.item, C.closed, C.opens, ha.ok, hb.ok, hd.ok]; try omega), by (simp only [C.nest]; omega), by (simp only [C.ex, Ex.deep]; omega), by first | (simp only [C.ex, Ex.wt]; omega) | (simp [C.ex, Ex.wt] <;> omega), by simp [C.ex, Ex.NamesIn, ha.names, hb.names, hd.names], by first | (simp [C.txt] <;> omega) | (simp [C.txt, ints_c0, ints_c1, ints_cm1] <;> omega)⟩, rfl⟩
  · simp [lit0, lit1, lit2, lit3, lit4, lit5, lit6, lit7, lit8, lit9, lit10, lit11, lit12, lit13, lit14, lit15, lit16, lit17, lit18, lit19, lit20, lit21, lit22, lit23, lit24, lit25, lit26, lit27, lit28, lit29, lit30, lit31, lit32, lit33, lit34, lit35, lit36, lit37, lit38, mk_append, ints_c0, ints_c1, ints_cm1, sI_mk (i := mi) (by omega), sI_mk (i := ni) (by omega), sI_mk (i := mi + ni) (by omega), sI_mk (i := mi * ni) (by have := abs_mul hm hn; omega), sI_mk (i := 0 - mi) (by omega), sI_mk (i := -mi) (by omega), sI_nat (n := k) (by omega), sI_n1 (k := k) (by omega), sI_n2 (k := k) (more := more) (by omega), sI_n3 (k := k) (more := more) (by omega), C.txt]
  · simp [lit0, lit1, lit2, lit3, lit4, lit5, lit6, lit7, lit8, lit9, lit10, lit11, lit12, lit13, lit14, lit15, lit16, lit17, lit18, lit19, lit20, lit21, lit22, lit23, lit24, lit25, lit26, lit27, lit28, lit29, lit30, lit31, lit32, lit33, lit34, lit35, lit36, lit37, lit38, mk_append, ints_c0, ints_c1, ints_cm1, sI_mk (i := mi) (by omega), sI_mk (i := ni) (by omega), sI_mk (i := mi + ni) (by omega), sI_mk (i := mi * ni) (by have := abs_mul hm hn; omega), sI_mk (i := 0 - mi) (by omega), sI_mk (i := -mi) (by omega), sI_nat (n := k) (by omega), sI_n1 (k := k) (by omega), sI_n2 (k := k) (more := more) (by omega), sI_n3 (k := k) (more := more) (by omega), C.txt]
theorem rule19 (ha : Part wn ns a) (hb : Part wn ns b) (hd : Part wn ns d) (hm : -2 ≤ mi ∧ mi ≤ 2) (hn : -2 ≤ ni ∧ ni ≤ 2) (hk : k < 13) (hmore : more < 6) : Pair env wn ns (Str.ofString "com(" ++ mk (C.par a).txt ++ Str.ofString ", " ++ mk (C.par b).txt ++ Str.ofString ")", mk (C.par a).txt ++ mk (C.par b).txt ++ mk (C.par a).txt ++ Str.ofString "~" ++ mk (C.par b).txt ++ Str.ofString "~") := by
  have hA1 := ha.nest; have hA2 := ha.deep; have hA3 := ha.wt; have hA4 := ha.len; have hB1 := hb.nest; have hB2 := hb.deep; have hB3 := hb.wt; have hB4 := hb.len; have hD1 := hd.nest; have hD2 := hd.deep; have hD3 := hd.wt; have hD4 := hd.len
  refine ⟨(.com (.par a) (.par b)), (.thn false (.thn false (.thn false (.par a) (.par b)) (.back (.par a))) (.back (.par b))), ?_, ?_, ⟨by (simp [C.ok, C.item, C.closed, C.opens, ha.ok, hb.ok, hd.ok]; try omega), by (simp only [C.nest]; omega), by (simp only [C.ex, Ex.deep]; omega), by first | (simp only [C.ex, Ex.wt]; omega) | (simp [C.ex, Ex.wt] <;> omega), by simp [C.ex, Ex.NamesIn, ha.names, hb.names, hd.names], by first | (simp [C.txt] <;> omega) | (simp [C.txt, ints_c0, ints_c1, ints_cm1] <;> omega)⟩, ⟨by (simp [C.ok, C.item, C.closed, C.opens, ha.ok, hb.ok, hd.ok]; try omega), by (simp only [C.nest]; omega), by (simp only [C.ex, Ex.deep]; omega), by first | (simp only [C.ex, Ex.wt]; omega) | (simp [C.ex, Ex.wt] <;> omega), by simp [C.ex, Ex.NamesIn, ha.names, hb.names, hd.names], by first | (simp [C.txt] <;> omega) | (simp [C.txt, ints_c0, ints_c1, ints_cm1] <;> omega)⟩, rfl⟩
  · simp [lit0, lit1, lit2, lit3, lit4, lit5, lit6, lit7, lit8, lit9, lit10, lit11, lit12, lit13, lit14, lit15, lit16, lit17, lit18, lit19, lit20, lit21, lit22, lit23, lit24, lit25, lit26, lit27, lit28, lit29, lit30, lit31, lit32, lit33, lit34, lit35, lit36, lit37, lit38, mk_append, ints_c0, ints_c1, ints_cm1, sI_mk (i := mi) (by omega), sI_mk (i := ni) (by omega), sI_mk (i := mi + ni) (by omega), sI_mk (i := mi * ni) (by have := abs_mul hm hn; omega), sI_mk (i := 0 - mi) (by omega), sI_mk (i := -mi) (by omega), sI_nat (n := k) (by omega), sI_n1 (k := k) (by omega), sI_n2 (k := k) (more := more) (by omega), sI_n3 (k := k) (more := more) (by omega), C.txt]
  · simp [lit0, lit1, lit2, lit3, lit4, lit5, lit6, lit7, lit8, lit9, lit10, lit11, lit12, lit13, lit14, lit15, lit16, lit17, lit18, lit19, lit20, lit21, lit22, lit23, lit24, lit25, lit26, lit27, lit28, lit29, lit30, lit31, lit32, lit33, lit34, lit35, lit36, lit37, lit38, mk_append, ints_c0, ints_c1, ints_cm1, sI_mk (i := mi) (by omega), sI_mk (i := ni) (by omega), sI_mk (i := mi + ni) (by omega), sI_mk (i := mi * ni) (by have := abs_mul hm hn; omega), sI_mk (i := 0 - mi) (by omega), sI_mk (i := -mi) (by omega), sI_nat (n := k) (by omega), sI_n1 (k := k) (by omega), sI_n2 (k := k) (more := more) (by omega), sI_n3 (k := k) (more := more) (by omega), C.txt]
theorem rule20 (ha : Part wn ns a) (hb : Part wn ns b) (hd : Part wn ns d) (hm : -2 ≤ mi ∧ mi ≤ 2) (hn : -2 ≤ ni ∧ ni ≤ 2) (hk : k < 13) (hmore : more < 6) : Pair env wn ns (Str.ofString "com(" ++ mk (C.par a).txt ++ Str.ofString ", " ++ mk (C.par b).txt ++ Str.ofString ")~", Str.ofString "com(" ++ mk (C.par b).txt ++ Str.ofString ", " ++ mk (C.par a).txt ++ Str.ofString ")") := by
  have hA1 := ha.nest; have hA2 := ha.deep; have hA3 := ha.wt; have hA4 := ha.len; have hB1 := hb.nest; have hB2 := hb.deep; have hB3 := hb.wt; have hB4 := hb.len; have hD1 := hd.nest; have hD2 := hd.deep; have hD3 := hd.wt; have hD4 := hd.len
  refine ⟨(.back (.com (.par a) (.par b))), (.com (.par b) (.par a)), ?_, ?_, ⟨by (simp [C.ok, C.item, C.closed, C.opens, ha.ok, hb.ok, hd.ok]; try omega), by (simp only [C.nest]; omega), by (simp only [C.ex, Ex.deep]; omega), by first | (simp only [C.ex, Ex.wt]; omega) | (simp [C.ex, Ex.wt] <;> omega), by simp [C.ex, Ex.NamesIn, ha.names, hb.names, hd.names], by first | (simp [C.txt] <;> omega) | (simp [C.txt, ints_c0, ints_c1, ints_cm1] <;> omega)⟩, ⟨by (simp [C.ok, C.item, C.closed, C.opens, ha.ok, hb.ok, hd.ok]; try omega), by (simp only [C.nest]; omega), by (simp only [C.ex, Ex.deep]; omega), by first | (simp only [C.ex, Ex.wt]; omega) | (simp [C.ex, Ex.wt] <;> omega), by simp [C.ex, Ex.NamesIn, ha.names, hb.names, hd.names], by first | (simp [C.txt] <;> omega) | (simp [C.txt, ints_c0, ints_c1, ints_cm1] <;> omega)⟩, G.com_inv _ _⟩
  · simp [lit0, lit1, lit2, lit3, lit4, lit5, lit6, lit7, lit8, lit9, lit10, lit11, lit12, lit13, lit14, lit15, lit16, lit17, lit18, lit19, lit20, lit21, lit22, lit23, lit24, lit25, lit26, lit27, lit28, lit29, lit30, lit31, lit32, lit33, lit34, lit35, lit36, lit37, lit38, mk_append, ints_c0, ints_c1, ints_cm1, sI_mk (i := mi) (by omega), sI_mk (i := ni) (by omega), sI_mk (i := mi + ni) (by omega), sI_mk (i := mi * ni) (by have := abs_mul hm hn; omega), sI_mk (i := 0 - mi) (by omega), sI_mk (i := -mi) (by omega), sI_nat (n := k) (by omega), sI_n1 (k := k) (by omega), sI_n2 (k := k) (more := more) (by omega), sI_n3 (k := k) (more := more) (by omega), C.txt]
  · simp [lit0, lit1, lit2, lit3, lit4, lit5, lit6, lit7, lit8, lit9, lit10, lit11, lit12, lit13, lit14, lit15, lit16, lit17, lit18, lit19, lit20, lit21, lit22, lit23, lit24, lit25, lit26, lit27, lit28, lit29, lit30, lit31, lit32, lit33, lit34, lit35, lit36, lit37, lit38, mk_append, ints_c0, ints_c1, ints_cm1, sI_mk (i := mi) (by omega), sI_mk (i := ni) (by omega), sI_mk (i := mi + ni) (by omega), sI_mk (i := mi * ni) (by have := abs_mul hm hn; omega), sI_mk (i := 0 - mi) (by omega), sI_mk (i := -mi) (by omega), sI_nat (n := k) (by omega), sI_n1 (k := k) (by omega), sI_n2 (k := k) (more := more) (by omega), sI_n3 (k := k) (more := more) (by omega), C.txt]
theorem rule21 (ha : Part wn ns a) (hb : Part wn ns b) (hd : Part wn ns d) (hm : -2 ≤ mi ∧ mi ≤ 2) (hn : -2 ≤ ni ∧ ni ≤ 2) (hk : k < 13) (hmore : more < 6) : Pair env wn ns (Str.ofString "com(" ++ mk (C.par a).txt ++ Str.ofString ", " ++ mk (C.par b).txt ++ Str.ofString ")", Str.ofString "as(" ++ mk (C.par b).txt ++ Str.ofString ", " ++ mk (C.par a).txt ++ Str.ofString "~)" ++ mk (C.par b).txt ++ Str.ofString "~") := by
  have hA1 := ha.nest; have hA2 := ha.deep; have hA3 := ha.wt; have hA4 := ha.len; have hB1 := hb.nest; have hB2 := hb.deep; have hB3 := hb.wt; have hB4 := hb.len; have hD1 := hd.nest; have hD2 := hd.deep; have hD3 := hd.wt; have hD4 := hd.len
  refine ⟨(.com (.par a) (.par b)), (.thn false (.as (.par b) (.back (.par a))) (.back (.par b))), ?_, ?_, ⟨by (simp [C.ok, C.item, C.closed, C.opens, ha.ok, hb.ok, hd.ok]; try omega), by (simp only [C.nest]; omega), by (simp only [C.ex, Ex.deep]; omega), by first | (simp only [C.ex, Ex.wt]; omega) | (simp [C.ex, Ex.wt] <;> omega), by simp [C.ex, Ex.NamesIn, ha.names, hb.names, hd.names], by first | (simp [C.txt] <;> omega) | (simp [C.txt, ints_c0, ints_c1, ints_cm1] <;> omega)⟩, ⟨by (simp [C.ok, C.item, C.closed, C.opens, ha.ok, hb.ok, hd.ok]; try omega), by (simp only [C.nest]; omega), by (simp only [C.ex, Ex.deep]; omega), by first | (simp only [C.ex, Ex.wt]; omega) | (simp [C.ex, Ex.wt] <;> omega), by simp [C.ex, Ex.NamesIn, ha.names, hb.names, hd.names], by first | (simp [C.txt] <;> omega) | (simp [C.txt, ints_c0, ints_c1, ints_cm1] <;> omega)⟩, G.com_as _ _⟩
  · simp [lit0, lit1, lit2, lit3, lit4, lit5, lit6, lit7, lit8, lit9, lit10, lit11, lit12, lit13, lit14, lit15, lit16, lit17, lit18, lit19, lit20, lit21, lit22, lit23, lit24, lit25, lit26, lit27, lit28, lit29, lit30, lit31, lit32, lit33, lit34, lit35, lit36, lit37, lit38, mk_append, ints_c0, ints_c1, ints_cm1, sI_mk (i := mi) (by omega), sI_mk (i := ni) (by omega), sI_mk (i := mi + ni) (by omega), sI_mk (i := mi * ni) (by have := abs_mul hm hn; omega), sI_mk (i := 0 - mi) (by omega), sI_mk (i := -mi) (by omega), sI_nat (n := k) (by omega), sI_n1 (k := k) (by omega), sI_n2 (k := k) (more := more) (by omega), sI_n3 (k := k) (more := more) (by omega), C.txt]
  · simp [lit0, lit1, lit2, lit3, lit4, lit5, lit6, lit7, lit8, lit9, lit10, lit11, lit12, lit13, lit14, lit15, lit16, lit17, lit18, lit19, lit20, lit21, lit22, lit23, lit24, lit25, lit26, lit27, lit28, lit29, lit30, lit31, lit32, lit33, lit34, lit35, lit36, lit37, lit38, mk_append, ints_c0, ints_c1, ints_cm1, sI_mk (i := mi) (by omega), sI_mk (i := ni) (by omega), sI_mk (i := mi + ni) (by omega), sI_mk (i := mi * ni) (by have := abs_mul hm hn; omega), sI_mk (i := 0 - mi) (by omega), sI_mk (i := -mi) (by omega), sI_nat (n := k) (by omega), sI_n1 (k := k) (by omega), sI_n2 (k := k) (more := more) (by omega), sI_n3 (k := k) (more := more) (by omega), C.txt]
theorem rule22 (ha : Part wn ns a) (hb : Part wn ns b) (hd : Part wn ns d) (hm : -2 ≤ mi ∧ mi ≤ 2) (hn : -2 ≤ ni ∧ ni ≤ 2) (hk : k < 13) (hmore : more < 6) : Pair env wn ns (Str.ofString "com(" ++ mk (C.par a).txt ++ Str.ofString ", " ++ mk (C.par a).txt ++ Str.ofString "^" ++ sI mi ++ Str.ofString ")", Str.ofString "one") := by
  have hA1 := ha.nest; have hA2 := ha.deep; have hA3 := ha.wt; have hA4 := ha.len; have hB1 := hb.nest; have hB2 := hb.deep; have hB3 := hb.wt; have hB4 := hb.len; have hD1 := hd.nest; have hD2 := hd.deep; have hD3 := hd.wt; have hD4 := hd.len
  have hq := abs_mul hm hn
  have l1 := ints_length mi; have l2 := ints_length ni; have l3 := ints_length (mi + ni); have l4 := ints_length (mi * ni); have l5 := ints_length (0 - mi); have l6 := ints_length (-mi)
  have w1 := wtp (n := mi) 2 hA3 (by omega) (by decide); have w2 := wtp (n := ni) 2 hA3 (by omega) (by decide); have w3 := wtp (n := mi + ni) 4 hA3 (by omega) (by decide); have w4 := wtp (n := mi * ni) 4 hA3 (by omega) (by decide); have w5 := wtp (n := 0 - mi) 2 hA3 (by omega) (by decide)
  have w6 := wtp (n := ni) 2 w1 (by omega) (by decide)
  have w7 := wtp (n := ni) (w := a.ex.wt wn + 2 * b.ex.wt wn) (B := 18) 2 (by omega) (by omega) (by decide); have w8 := wtp (n := mi) (w := a.ex.wt wn + 1) (B := 7) 2 (by omega) (by omega) (by decide)
  refine ⟨(.com (.par a) (.power (.par a) mi)), .one, ?_, ?_, ⟨by (simp [C.ok, C.item, C.closed, C.opens, ha.ok, hb.ok, hd.ok]; try omega), by (simp only [C.nest]; omega), by (simp only [C.ex, Ex.deep]; omega), by first | (simp only [C.ex, Ex.wt]; omega) | (simp [C.ex, Ex.wt] <;> omega), by simp [C.ex, Ex.NamesIn, ha.names, hb.names, hd.names], by first | (simp [C.txt] <;> omega) | (simp [C.txt, ints_c0, ints_c1, ints_cm1] <;> omega)⟩, ⟨by (simp [C.ok, C.item, C.closed, C.opens, ha.ok, hb.ok, hd.ok]; try omega), by (simp only [C.nest]; omega), by (simp only [C.ex, Ex.deep]; omega), by first | (simp only [C.ex, Ex.wt]; omega) | (simp [C.ex, Ex.wt] <;> omega), by simp [C.ex, Ex.NamesIn, ha.names, hb.names, hd.names], by first | (simp [C.txt] <;> omega) | (simp [C.txt, ints_c0, ints_c1, ints_cm1] <;> omega)⟩, G.com_pw _ hm⟩
  · simp [lit0, lit1, lit2, lit3, lit4, lit5, lit6, lit7, lit8, lit9, lit10, lit11, lit12, lit13, lit14, lit15, lit16, lit17, lit18, lit19, lit20, lit21, lit22, lit23, lit24, lit25, lit26, lit27, lit28, lit29, lit30, lit31, lit32, lit33, lit34, lit35, lit36, lit37, lit38, mk_append, ints_c0, ints_c1, ints_cm1, sI_mk (i := mi) (by omega), sI_mk (i := ni) (by omega), sI_mk (i := mi + ni) (by omega), sI_mk (i := mi * ni) (by have := abs_mul hm hn; omega), sI_mk (i := 0 - mi) (by omega), sI_mk (i := -mi) (by omega), sI_nat (n := k) (by omega), sI_n1 (k := k) (by omega), sI_n2 (k := k) (more := more) (by omega), sI_n3 (k := k) (more := more) (by omega), C.txt]
  · simp [lit0, lit1, lit2, lit3, lit4, lit5, lit6, lit7, lit8, lit9, lit10, lit11, lit12, lit13, lit14, lit15, lit16, lit17, lit18, lit19, lit20, lit21, lit22, lit23, lit24, lit25, lit26, lit27, lit28, lit29, lit30, lit31, lit32, lit33, lit34, lit35, lit36, lit37, lit38, mk_append, ints_c0, ints_c1, ints_cm1, sI_mk (i := mi) (by omega), sI_mk (i := ni) (by omega), sI_mk (i := mi + ni) (by omega), sI_mk (i := mi * ni) (by have := abs_mul hm hn; omega), sI_mk (i := 0 - mi) (by omega), sI_mk (i := -mi) (by omega), sI_nat (n := k) (by omega), sI_n1 (k := k) (by omega), sI_n2 (k := k) (more := more) (by omega), sI_n3 (k := k) (more := more) (by omega), C.txt]
theorem rule23 (ha : Part wn ns a) (hb : Part wn ns b) (hd : Part wn ns d) (hm : -2 ≤ mi ∧ mi ≤ 2) (hn : -2 ≤ ni ∧ ni ≤ 2) (hk : k < 13) (hmore : more < 6) : Pair env wn ns (Str.ofString "com(low(" ++ mk (C.par a).txt ++ Str.ofString "), high(" ++ mk (C.par b).txt ++ Str.ofString "))", Str.ofString "one") := by
  have hA1 := ha.nest; have hA2 := ha.deep; have hA3 := ha.wt; have hA4 := ha.len; have hB1 := hb.nest; have hB2 := hb.deep; have hB3 := hb.wt; have hB4 := hb.len; have hD1 := hd.nest; have hD2 := hd.deep; have hD3 := hd.wt; have hD4 := hd.len
  refine ⟨(.com (.low (.par a)) (.high (.par b))), .one, ?_, ?_, ⟨by (simp [C.ok, C.item, C.closed, C.opens, ha.ok, hb.ok, hd.ok]; try omega), by (simp only [C.nest]; omega), by (simp only [C.ex, Ex.deep]; omega), by first | (simp only [C.ex, Ex.wt]; omega) | (simp [C.ex, Ex.wt] <;> omega), by simp [C.ex, Ex.NamesIn, ha.names, hb.names, hd.names], by first | (simp [C.txt] <;> omega) | (simp [C.txt, ints_c0, ints_c1, ints_cm1] <;> omega)⟩, ⟨by (simp [C.ok, C.item, C.closed, C.opens, ha.ok, hb.ok, hd.ok]; try omega), by (simp only [C.nest]; omega), by (simp only [C.ex, Ex.deep]; omega), by first | (simp only [C.ex, Ex.wt]; omega) | (simp [C.ex, Ex.wt] <;> omega), by simp [C.ex, Ex.NamesIn, ha.names, hb.names, hd.names], by first | (simp [C.txt] <;> omega) | (simp [C.txt, ints_c0, ints_c1, ints_cm1] <;> omega)⟩, G.com_low_high _ _⟩
  · simp [lit0, lit1, lit2, lit3, lit4, lit5, lit6, lit7, lit8, lit9, lit10, lit11, lit12, lit13, lit14, lit15, lit16, lit17, lit18, lit19, lit20, lit21, lit22, lit23, lit24, lit25, lit26, lit27, lit28, lit29, lit30, lit31, lit32, lit33, lit34, lit35, lit36, lit37, lit38, mk_append, ints_c0, ints_c1, ints_cm1, sI_mk (i := mi) (by omega), sI_mk (i := ni) (by omega), sI_mk (i := mi + ni) (by omega), sI_mk (i := mi * ni) (by have := abs_mul hm hn; omega), sI_mk (i := 0 - mi) (by omega), sI_mk (i := -mi) (by omega), sI_nat (n := k) (by omega), sI_n1 (k := k) (by omega), sI_n2 (k := k) (more := more) (by omega), sI_n3 (k := k) (more := more) (by omega), C.txt]
  · simp [lit0, lit1, lit2, lit3, lit4, lit5, lit6, lit7, lit8, lit9, lit10, lit11, lit12, lit13, lit14, lit15, lit16, lit17, lit18, lit19, lit20, lit21, lit22, lit23, lit24, lit25, lit26, lit27, lit28, lit29, lit30, lit31, lit32, lit33, lit34, lit35, lit36, lit37, lit38, mk_append, ints_c0, ints_c1, ints_cm1, sI_mk (i := mi) (by omega), sI_mk (i := ni) (by omega), sI_mk (i := mi + ni) (by omega), sI_mk (i := mi * ni) (by have := abs_mul hm hn; omega), sI_mk (i := 0 - mi) (by omega), sI_mk (i := -mi) (by omega), sI_nat (n := k) (by omega), sI_n1 (k := k) (by omega), sI_n2 (k := k) (more := more) (by omega), sI_n3 (k := k) (more := more) (by omega), C.txt]
theorem rule24 (ha : Part wn ns a) (hb : Part wn ns b) (hd : Part wn ns d) (hm : -2 ≤ mi ∧ mi ≤ 2) (hn : -2 ≤ ni ∧ ni ≤ 2) (hk : k < 13) (hmore : more < 6) : Pair env wn ns (Str.ofString "as(" ++ mk (C.par a).txt ++ Str.ofString ", one)", mk (C.par a).txt) := by
  have hA1 := ha.nest; have hA2 := ha.deep; have hA3 := ha.wt; have hA4 := ha.len; have hB1 := hb.nest; have hB2 := hb.deep; have hB3 := hb.wt; have hB4 := hb.len; have hD1 := hd.nest; have hD2 := hd.deep; have hD3 := hd.wt; have hD4 := hd.len
  refine ⟨(.as (.par a) .one), (.par a), ?_, ?_, ⟨by (simp [C.ok, C.item, C.closed, C.opens, ha.ok, hb.ok, hd.ok]; try omega), by (simp only [C.nest]; omega), by (simp only [C.ex, Ex.deep]; omega), by first | (simp only [C.ex, Ex.wt]; omega) | (simp [C.ex, Ex.wt] <;> omega), by simp [C.ex, Ex.NamesIn, ha.names, hb.names, hd.names], by first | (simp [C.txt] <;> omega) | (simp [C.txt, ints_c0, ints_c1, ints_cm1] <;> omega)⟩, ⟨by (simp [C.ok, C.item, C.closed, C.opens, ha.ok, hb.ok, hd.ok]; try omega), by (simp only [C.nest]; omega), by (simp only [C.ex, Ex.deep]; omega), by first | (simp only [C.ex, Ex.wt]; omega) | (simp [C.ex, Ex.wt] <;> omega), by simp [C.ex, Ex.NamesIn, ha.names, hb.names, hd.names], by first | (simp [C.txt] <;> omega) | (simp [C.txt, ints_c0, ints_c1, ints_cm1] <;> omega)⟩, rfl⟩
  · simp [lit0, lit1, lit2, lit3, lit4, lit5, lit6, lit7, lit8, lit9, lit10, lit11, lit12, lit13, lit14, lit15, lit16, lit17, lit18, lit19, lit20, lit21, lit22, lit23, lit24, lit25, lit26, lit27, lit28, lit29, lit30, lit31, lit32, lit33, lit34, lit35, lit36, lit37, lit38, mk_append, ints_c0, ints_c1, ints_cm1, sI_mk (i := mi) (by omega), sI_mk (i := ni) (by omega), sI_mk (i := mi + ni) (by omega), sI_mk (i := mi * ni) (by have := abs_mul hm hn; omega), sI_mk (i := 0 - mi) (by omega), sI_mk (i := -mi) (by omega), sI_nat (n := k) (by omega), sI_n1 (k := k) (by omega), sI_n2 (k := k) (more := more) (by omega), sI_n3 (k := k) (more := more) (by omega), C.txt]
  · simp [lit0, lit1, lit2, lit3, lit4, lit5, lit6, lit7, lit8, lit9, lit10, lit11, lit12, lit13, lit14, lit15, lit16, lit17, lit18, lit19, lit20, lit21, lit22, lit23, lit24, lit25, lit26, lit27, lit28, lit29, lit30, lit31, lit32, lit33, lit34, lit35, lit36, lit37, lit38, mk_append, ints_c0, ints_c1, ints_cm1, sI_mk (i := mi) (by omega), sI_mk (i := ni) (by omega), sI_mk (i := mi + ni) (by omega), sI_mk (i := mi * ni) (by have := abs_mul hm hn; omega), sI_mk (i := 0 - mi) (by omega), sI_mk (i := -mi) (by omega), sI_nat (n := k) (by omega), sI_n1 (k := k) (by omega), sI_n2 (k := k) (more := more) (by omega), sI_n3 (k := k) (more := more) (by omega), C.txt]
theorem rule25 (ha : Part wn ns a) (hb : Part wn ns b) (hd : Part wn ns d) (hm : -2 ≤ mi ∧ mi ≤ 2) (hn : -2 ≤ ni ∧ ni ≤ 2) (hk : k < 13) (hmore : more < 6) : Pair env wn ns (Str.ofString "as(one, " ++ mk (C.par a).txt ++ Str.ofString ")", Str.ofString "one") := by
  have hA1 := ha.nest; have hA2 := ha.deep; have hA3 := ha.wt; have hA4 := ha.len; have hB1 := hb.nest; have hB2 := hb.deep; have hB3 := hb.wt; have hB4 := hb.len; have hD1 := hd.nest; have hD2 := hd.deep; have hD3 := hd.wt; have hD4 := hd.len
  refine ⟨(.as .one (.par a)), .one, ?_, ?_, ⟨by (simp [C.ok, C.item, C.closed, C.opens, ha.ok, hb.ok, hd.ok]; try omega), by (simp only [C.nest]; omega), by (simp only [C.ex, Ex.deep]; omega), by first | (simp only [C.ex, Ex.wt]; omega) | (simp [C.ex, Ex.wt] <;> omega), by simp [C.ex, Ex.NamesIn, ha.names, hb.names, hd.names], by first | (simp [C.txt] <;> omega) | (simp [C.txt, ints_c0, ints_c1, ints_cm1] <;> omega)⟩, ⟨by (simp [C.ok, C.item, C.closed, C.opens, ha.ok, hb.ok, hd.ok]; try omega), by (simp only [C.nest]; omega), by (simp only [C.ex, Ex.deep]; omega), by first | (simp only [C.ex, Ex.wt]; omega) | (simp [C.ex, Ex.wt] <;> omega), by simp [C.ex, Ex.NamesIn, ha.names, hb.names, hd.names], by first | (simp [C.txt] <;> omega) | (simp [C.txt, ints_c0, ints_c1, ints_cm1] <;> omega)⟩, G.one_as _⟩
  · simp [lit0, lit1, lit2, lit3, lit4, lit5, lit6, lit7, lit8, lit9, lit10, lit11, lit12, lit13, lit14, lit15, lit16, lit17, lit18, lit19, lit20, lit21, lit22, lit23, lit24, lit25, lit26, lit27, lit28, lit29, lit30, lit31, lit32, lit33, lit34, lit35, lit36, lit37, lit38, mk_append, ints_c0, ints_c1, ints_cm1, sI_mk (i := mi) (by omega), sI_mk (i := ni) (by omega), sI_mk (i := mi + ni) (by omega), sI_mk (i := mi * ni) (by have := abs_mul hm hn; omega), sI_mk (i := 0 - mi) (by omega), sI_mk (i := -mi) (by omega), sI_nat (n := k) (by omega), sI_n1 (k := k) (by omega), sI_n2 (k := k) (more := more) (by omega), sI_n3 (k := k) (more := more) (by omega), C.txt]
  · simp [lit0, lit1, lit2, lit3, lit4, lit5, lit6, lit7, lit8, lit9, lit10, lit11, lit12, lit13, lit14, lit15, lit16, lit17, lit18, lit19, lit20, lit21, lit22, lit23, lit24, lit25, lit26, lit27, lit28, lit29, lit30, lit31, lit32, lit33, lit34, lit35, lit36, lit37, lit38, mk_append, ints_c0, ints_c1, ints_cm1, sI_mk (i := mi) (by omega), sI_mk (i := ni) (by omega), sI_mk (i := mi + ni) (by omega), sI_mk (i := mi * ni) (by have := abs_mul hm hn; omega), sI_mk (i := 0 - mi) (by omega), sI_mk (i := -mi) (by omega), sI_nat (n := k) (by omega), sI_n1 (k := k) (by omega), sI_n2 (k := k) (more := more) (by omega), sI_n3 (k := k) (more := more) (by omega), C.txt]
theorem rule26 (ha : Part wn ns a) (hb : Part wn ns b) (hd : Part wn ns d) (hm : -2 ≤ mi ∧ mi ≤ 2) (hn : -2 ≤ ni ∧ ni ≤ 2) (hk : k < 13) (hmore : more < 6) : Pair env wn ns (Str.ofString "com(" ++ mk (C.par a).txt ++ Str.ofString ", one)", Str.ofString "one") := by
  have hA1 := ha.nest; have hA2 := ha.deep; have hA3 := ha.wt; have hA4 := ha.len; have hB1 := hb.nest; have hB2 := hb.deep; have hB3 := hb.wt; have hB4 := hb.len; have hD1 := hd.nest; have hD2 := hd.deep; have hD3 := hd.wt; have hD4 := hd.len
  refine ⟨(.com (.par a) .one), .one, ?_, ?_, ⟨by (simp [C.ok, C.item, C.closed, C.opens, ha.ok, hb.ok, hd.ok]; try omega), by (simp only [C.nest]; omega), by (simp only [C.ex, Ex.deep]; omega), by first | (simp only [C.ex, Ex.wt]; omega) | (simp [C.ex, Ex.wt] <;> omega), by simp [C.ex, Ex.NamesIn, ha.names, hb.names, hd.names], by first | (simp [C.txt] <;> omega) | (simp [C.txt, ints_c0, ints_c1, ints_cm1] <;> omega)⟩, ⟨by (simp [C.ok, C.item, C.closed, C.opens, ha.ok, hb.ok, hd.ok]; try omega), by (simp only [C.nest]; omega), by (simp only [C.ex, Ex.deep]; omega), by first | (simp only [C.ex, Ex.wt]; omega) | (simp [C.ex, Ex.wt] <;> omega), by simp [C.ex, Ex.NamesIn, ha.names, hb.names, hd.names], by first | (simp [C.txt] <;> omega) | (simp [C.txt, ints_c0, ints_c1, ints_cm1] <;> omega)⟩, G.com_one _⟩
  · simp [lit0, lit1, lit2, lit3, lit4, lit5, lit6, lit7, lit8, lit9, lit10, lit11, lit12, lit13, lit14, lit15, lit16, lit17, lit18, lit19, lit20, lit21, lit22, lit23, lit24, lit25, lit26, lit27, lit28, lit29, lit30, lit31, lit32, lit33, lit34, lit35, lit36, lit37, lit38, mk_append, ints_c0, ints_c1, ints_cm1, sI_mk (i := mi) (by omega), sI_mk (i := ni) (by omega), sI_mk (i := mi + ni) (by omega), sI_mk (i := mi * ni) (by have := abs_mul hm hn; omega), sI_mk (i := 0 - mi) (by omega), sI_mk (i := -mi) (by omega), sI_nat (n := k) (by omega), sI_n1 (k := k) (by omega), sI_n2 (k := k) (more := more) (by omega), sI_n3 (k := k) (more := more) (by omega), C.txt]
  · simp [lit0, lit1, lit2, lit3, lit4, lit5, lit6, lit7, lit8, lit9, lit10, lit11, lit12, lit13, lit14, lit15, lit16, lit17, lit18, lit19, lit20, lit21, lit22, lit23, lit24, lit25, lit26, lit27, lit28, lit29, lit30, lit31, lit32, lit33, lit34, lit35, lit36, lit37, lit38, mk_append, ints_c0, ints_c1, ints_cm1, sI_mk (i := mi) (by omega), sI_mk (i := ni) (by omega), sI_mk (i := mi + ni) (by omega), sI_mk (i := mi * ni) (by have := abs_mul hm hn; omega), sI_mk (i := 0 - mi) (by omega), sI_mk (i := -mi) (by omega), sI_nat (n := k) (by omega), sI_n1 (k := k) (by omega), sI_n2 (k := k) (more := more) (by omega), sI_n3 (k := k) (more := more) (by omega), C.txt]
theorem rule27 (ha : Part wn ns a) (hb : Part wn ns b) (hd : Part wn ns d) (hm : -2 ≤ mi ∧ mi ≤ 2) (hn : -2 ≤ ni ∧ ni ≤ 2) (hk : k < 13) (hmore : more < 6) : Pair env wn ns (Str.ofString "low" ++ Str.ofString "(" ++ mk (C.par a).txt ++ mk (C.par b).txt ++ Str.ofString ")", Str.ofString "low" ++ Str.ofString "(" ++ mk (C.par a).txt ++ Str.ofString ")" ++ Str.ofString "low" ++ Str.ofString "(" ++ mk (C.par b).txt ++ Str.ofString ")") := by
  have hA1 := ha.nest; have hA2 := ha.deep; have hA3 := ha.wt; have hA4 := ha.len; have hB1 := hb.nest; have hB2 := hb.deep; have hB3 := hb.wt; have hB4 := hb.len; have hD1 := hd.nest; have hD2 := hd.deep; have hD3 := hd.wt; have hD4 := hd.len
  refine ⟨(.low (.thn false (.par a) (.par b))), (.thn false (.low (.par a)) (.low (.par b))), ?_, ?_, ⟨by (simp [C.ok, C.item, C.closed, C.opens, ha.ok, hb.ok, hd.ok]; try omega), by (simp only [C.nest]; omega), by (simp only [C.ex, Ex.deep]; omega), by first | (simp only [C.ex, Ex.wt]; omega) | (simp [C.ex, Ex.wt] <;> omega), by simp [C.ex, Ex.NamesIn, ha.names, hb.names, hd.names], by first | (simp [C.txt] <;> omega) | (simp [C.txt, ints_c0, ints_c1, ints_cm1] <;> omega)⟩, ⟨by (simp [C.ok, C.item, C.closed, C.opens, ha.ok, hb.ok, hd.ok]; try omega), by (simp only [C.nest]; omega), by (simp only [C.ex, Ex.deep]; omega), by first | (simp only [C.ex, Ex.wt]; omega) | (simp [C.ex, Ex.wt] <;> omega), by simp [C.ex, Ex.NamesIn, ha.names, hb.names, hd.names], by first | (simp [C.txt] <;> omega) | (simp [C.txt, ints_c0, ints_c1, ints_cm1] <;> omega)⟩, G.low_mul _ _⟩
  · simp [lit0, lit1, lit2, lit3, lit4, lit5, lit6, lit7, lit8, lit9, lit10, lit11, lit12, lit13, lit14, lit15, lit16, lit17, lit18, lit19, lit20, lit21, lit22, lit23, lit24, lit25, lit26, lit27, lit28, lit29, lit30, lit31, lit32, lit33, lit34, lit35, lit36, lit37, lit38, mk_append, ints_c0, ints_c1, ints_cm1, sI_mk (i := mi) (by omega), sI_mk (i := ni) (by omega), sI_mk (i := mi + ni) (by omega), sI_mk (i := mi * ni) (by have := abs_mul hm hn; omega), sI_mk (i := 0 - mi) (by omega), sI_mk (i := -mi) (by omega), sI_nat (n := k) (by omega), sI_n1 (k := k) (by omega), sI_n2 (k := k) (more := more) (by omega), sI_n3 (k := k) (more := more) (by omega), C.txt]
  · simp [lit0, lit1, lit2, lit3, lit4, lit5, lit6, lit7, lit8, lit9, lit10, lit11, lit12, lit13, lit14, lit15, lit16, lit17, lit18, lit19, lit20, lit21, lit22, lit23, lit24, lit25, lit26, lit27, lit28, lit29, lit30, lit31, lit32, lit33, lit34, lit35, lit36, lit37, lit38, mk_append, ints_c0, ints_c1, ints_cm1, sI_mk (i := mi) (by omega), sI_mk (i := ni) (by omega), sI_mk (i := mi + ni) (by omega), sI_mk (i := mi * ni) (by have := abs_mul hm hn; omega), sI_mk (i := 0 - mi) (by omega), sI_mk (i := -mi) (by omega), sI_nat (n := k) (by omega), sI_n1 (k := k) (by omega), sI_n2 (k := k) (more := more) (by omega), sI_n3 (k := k) (more := more) (by omega), C.txt]
theorem rule28 (ha : Part wn ns a) (hb : Part wn ns b) (hd : Part wn ns d) (hm : -2 ≤ mi ∧ mi ≤ 2) (hn : -2 ≤ ni ∧ ni ≤ 2) (hk : k < 13) (hmore : more < 6) : Pair env wn ns (Str.ofString "low" ++ Str.ofString "(" ++ mk (C.par a).txt ++ Str.ofString ")^" ++ sI mi, Str.ofString "low" ++ Str.ofString "(" ++ mk (C.par a).txt ++ Str.ofString "^" ++ sI mi ++ Str.ofString ")") := by
  have hA1 := ha.nest; have hA2 := ha.deep; have hA3 := ha.wt; have hA4 := ha.len; have hB1 := hb.nest; have hB2 := hb.deep; have hB3 := hb.wt; have hB4 := hb.len; have hD1 := hd.nest; have hD2 := hd.deep; have hD3 := hd.wt; have hD4 := hd.len
  have hq := abs_mul hm hn
  have l1 := ints_length mi; have l2 := ints_length ni; have l3 := ints_length (mi + ni); have l4 := ints_length (mi * ni); have l5 := ints_length (0 - mi); have l6 := ints_length (-mi)
  have w1 := wtp (n := mi) 2 hA3 (by omega) (by decide); have w2 := wtp (n := ni) 2 hA3 (by omega) (by decide); have w3 := wtp (n := mi + ni) 4 hA3 (by omega) (by decide); have w4 := wtp (n := mi * ni) 4 hA3 (by omega) (by decide); have w5 := wtp (n := 0 - mi) 2 hA3 (by omega) (by decide)
  have w6 := wtp (n := ni) 2 w1 (by omega) (by decide)
  have w7 := wtp (n := ni) (w := a.ex.wt wn + 2 * b.ex.wt wn) (B := 18) 2 (by omega) (by omega) (by decide); have w8 := wtp (n := mi) (w := a.ex.wt wn + 1) (B := 7) 2 (by omega) (by omega) (by decide)
  refine ⟨(.power (.low (.par a)) mi), (.low (.power (.par a) mi)), ?_, ?_, ⟨by (simp [C.ok, C.item, C.closed, C.opens, ha.ok, hb.ok, hd.ok]; try omega), by (simp only [C.nest]; omega), by (simp only [C.ex, Ex.deep]; omega), by first | (simp only [C.ex, Ex.wt]; omega) | (simp [C.ex, Ex.wt] <;> omega), by simp [C.ex, Ex.NamesIn, ha.names, hb.names, hd.names], by first | (simp [C.txt] <;> omega) | (simp [C.txt, ints_c0, ints_c1, ints_cm1] <;> omega)⟩, ⟨by (simp [C.ok, C.item, C.closed, C.opens, ha.ok, hb.ok, hd.ok]; try omega), by (simp only [C.nest]; omega), by (simp only [C.ex, Ex.deep]; omega), by first | (simp only [C.ex, Ex.wt]; omega) | (simp [C.ex, Ex.wt] <;> omega), by simp [C.ex, Ex.NamesIn, ha.names, hb.names, hd.names], by first | (simp [C.txt] <;> omega) | (simp [C.txt, ints_c0, ints_c1, ints_cm1] <;> omega)⟩, (G.low_pw _ _).symm⟩
  · simp [lit0, lit1, lit2, lit3, lit4, lit5, lit6, lit7, lit8, lit9, lit10, lit11, lit12, lit13, lit14, lit15, lit16, lit17, lit18, lit19, lit20, lit21, lit22, lit23, lit24, lit25, lit26, lit27, lit28, lit29, lit30, lit31, lit32, lit33, lit34, lit35, lit36, lit37, lit38, mk_append, ints_c0, ints_c1, ints_cm1, sI_mk (i := mi) (by omega), sI_mk (i := ni) (by omega), sI_mk (i := mi + ni) (by omega), sI_mk (i := mi * ni) (by have := abs_mul hm hn; omega), sI_mk (i := 0 - mi) (by omega), sI_mk (i := -mi) (by omega), sI_nat (n := k) (by omega), sI_n1 (k := k) (by omega), sI_n2 (k := k) (more := more) (by omega), sI_n3 (k := k) (more := more) (by omega), C.txt]
  · simp [lit0, lit1, lit2, lit3, lit4, lit5, lit6, lit7, lit8, lit9, lit10, lit11, lit12, lit13, lit14, lit15, lit16, lit17, lit18, lit19, lit20, lit21, lit22, lit23, lit24, lit25, lit26, lit27, lit28, lit29, lit30, lit31, lit32, lit33, lit34, lit35, lit36, lit37, lit38, mk_append, ints_c0, ints_c1, ints_cm1, sI_mk (i := mi) (by omega), sI_mk (i := ni) (by omega), sI_mk (i := mi + ni) (by omega), sI_mk (i := mi * ni) (by have := abs_mul hm hn; omega), sI_mk (i := 0 - mi) (by omega), sI_mk (i := -mi) (by omega), sI_nat (n := k) (by omega), sI_n1 (k := k) (by omega), sI_n2 (k := k) (more := more) (by omega), sI_n3 (k := k) (more := more) (by omega), C.txt]
theorem rule29 (ha : Part wn ns a) (hb : Part wn ns b) (hd : Part wn ns d) (hm : -2 ≤ mi ∧ mi ≤ 2) (hn : -2 ≤ ni ∧ ni ≤ 2) (hk : k < 13) (hmore : more < 6) : Pair env wn ns (Str.ofString "low" ++ Str.ofString "(" ++ mk (C.par a).txt ++ Str.ofString "~)", Str.ofString "low" ++ Str.ofString "(" ++ mk (C.par a).txt ++ Str.ofString ")~") := by
  have hA1 := ha.nest; have hA2 := ha.deep; have hA3 := ha.wt; have hA4 := ha.len; have hB1 := hb.nest; have hB2 := hb.deep; have hB3 := hb.wt; have hB4 := hb.len; have hD1 := hd.nest; have hD2 := hd.deep; have hD3 := hd.wt; have hD4 := hd.len
  refine ⟨(.low (.back (.par a))), (.back (.low (.par a))), ?_, ?_, ⟨by (simp [C.ok, C.item, C.closed, C.opens, ha.ok, hb.ok, hd.ok]; try omega), by (simp only [C.nest]; omega), by (simp only [C.ex, Ex.deep]; omega), by first | (simp only [C.ex, Ex.wt]; omega) | (simp [C.ex, Ex.wt] <;> omega), by simp [C.ex, Ex.NamesIn, ha.names, hb.names, hd.names], by first | (simp [C.txt] <;> omega) | (simp [C.txt, ints_c0, ints_c1, ints_cm1] <;> omega)⟩, ⟨by (simp [C.ok, C.item, C.closed, C.opens, ha.ok, hb.ok, hd.ok]; try omega), by (simp only [C.nest]; omega), by (simp only [C.ex, Ex.deep]; omega), by first | (simp only [C.ex, Ex.wt]; omega) | (simp [C.ex, Ex.wt] <;> omega), by simp [C.ex, Ex.NamesIn, ha.names, hb.names, hd.names], by first | (simp [C.txt] <;> omega) | (simp [C.txt, ints_c0, ints_c1, ints_cm1] <;> omega)⟩, rfl⟩
  · simp [lit0, lit1, lit2, lit3, lit4, lit5, lit6, lit7, lit8, lit9, lit10, lit11, lit12, lit13, lit14, lit15, lit16, lit17, lit18, lit19, lit20, lit21, lit22, lit23, lit24, lit25, lit26, lit27, lit28, lit29, lit30, lit31, lit32, lit33, lit34, lit35, lit36, lit37, lit38, mk_append, ints_c0, ints_c1, ints_cm1, sI_mk (i := mi) (by omega), sI_mk (i := ni) (by omega), sI_mk (i := mi + ni) (by omega), sI_mk (i := mi * ni) (by have := abs_mul hm hn; omega), sI_mk (i := 0 - mi) (by omega), sI_mk (i := -mi) (by omega), sI_nat (n := k) (by omega), sI_n1 (k := k) (by omega), sI_n2 (k := k) (more := more) (by omega), sI_n3 (k := k) (more := more) (by omega), C.txt]
  · simp [lit0, lit1, lit2, lit3, lit4, lit5, lit6, lit7, lit8, lit9, lit10, lit11, lit12, lit13, lit14, lit15, lit16, lit17, lit18, lit19, lit20, lit21, lit22, lit23, lit24, lit25, lit26, lit27, lit28, lit29, lit30, lit31, lit32, lit33, lit34, lit35, lit36, lit37, lit38, mk_append, ints_c0, ints_c1, ints_cm1, sI_mk (i := mi) (by omega), sI_mk (i := ni) (by omega), sI_mk (i := mi + ni) (by omega), sI_mk (i := mi * ni) (by have := abs_mul hm hn; omega), sI_mk (i := 0 - mi) (by omega), sI_mk (i := -mi) (by omega), sI_nat (n := k) (by omega), sI_n1 (k := k) (by omega), sI_n2 (k := k) (more := more) (by omega), sI_n3 (k := k) (more := more) (by omega), C.txt]
theorem rule30 (ha : Part wn ns a) (hb : Part wn ns b) (hd : Part wn ns d) (hm : -2 ≤ mi ∧ mi ≤ 2) (hn : -2 ≤ ni ∧ ni ≤ 2) (hk : k < 13) (hmore : more < 6) : Pair env wn ns (Str.ofString "low" ++ Str.ofString "(one)", Str.ofString "one") := by
  have hA1 := ha.nest; have hA2 := ha.deep; have hA3 := ha.wt; have hA4 := ha.len; have hB1 := hb.nest; have hB2 := hb.deep; have hB3 := hb.wt; have hB4 := hb.len; have hD1 := hd.nest; have hD2 := hd.deep; have hD3 := hd.wt; have hD4 := hd.len
  refine ⟨(.low .one), .one, ?_, ?_, ⟨by (simp [C.ok, C.item, C.closed, C.opens, ha.ok, hb.ok, hd.ok]; try omega), by (simp only [C.nest]; omega), by (simp only [C.ex, Ex.deep]; omega), by first | (simp only [C.ex, Ex.wt]; omega) | (simp [C.ex, Ex.wt] <;> omega), by simp [C.ex, Ex.NamesIn, ha.names, hb.names, hd.names], by first | (simp [C.txt] <;> omega) | (simp [C.txt, ints_c0, ints_c1, ints_cm1] <;> omega)⟩, ⟨by (simp [C.ok, C.item, C.closed, C.opens, ha.ok, hb.ok, hd.ok]; try omega), by (simp only [C.nest]; omega), by (simp only [C.ex, Ex.deep]; omega), by first | (simp only [C.ex, Ex.wt]; omega) | (simp [C.ex, Ex.wt] <;> omega), by simp [C.ex, Ex.NamesIn, ha.names, hb.names, hd.names], by first | (simp [C.txt] <;> omega) | (simp [C.txt, ints_c0, ints_c1, ints_cm1] <;> omega)⟩, G.low_one⟩
  · simp [lit0, lit1, lit2, lit3, lit4, lit5, lit6, lit7, lit8, lit9, lit10, lit11, lit12, lit13, lit14, lit15, lit16, lit17, lit18, lit19, lit20, lit21, lit22, lit23, lit24, lit25, lit26, lit27, lit28, lit29, lit30, lit31, lit32, lit33, lit34, lit35, lit36, lit37, lit38, mk_append, ints_c0, ints_c1, ints_cm1, sI_mk (i := mi) (by omega), sI_mk (i := ni) (by omega), sI_mk (i := mi + ni) (by omega), sI_mk (i := mi * ni) (by have := abs_mul hm hn; omega), sI_mk (i := 0 - mi) (by omega), sI_mk (i := -mi) (by omega), sI_nat (n := k) (by omega), sI_n1 (k := k) (by omega), sI_n2 (k := k) (more := more) (by omega), sI_n3 (k := k) (more := more) (by omega), C.txt]
  · simp [lit0, lit1, lit2, lit3, lit4, lit5, lit6, lit7, lit8, lit9, lit10, lit11, lit12, lit13, lit14, lit15, lit16, lit17, lit18, lit19, lit20, lit21, lit22, lit23, lit24, lit25, lit26, lit27, lit28, lit29, lit30, lit31, lit32, lit33, lit34, lit35, lit36, lit37, lit38, mk_append, ints_c0, ints_c1, ints_cm1, sI_mk (i := mi) (by omega), sI_mk (i := ni) (by omega), sI_mk (i := mi + ni) (by omega), sI_mk (i := mi * ni) (by have := abs_mul hm hn; omega), sI_mk (i := 0 - mi) (by omega), sI_mk (i := -mi) (by omega), sI_nat (n := k) (by omega), sI_n1 (k := k) (by omega), sI_n2 (k := k) (more := more) (by omega), sI_n3 (k := k) (more := more) (by omega), C.txt]
theorem rule31 (ha : Part wn ns a) (hb : Part wn ns b) (hd : Part wn ns d) (hm : -2 ≤ mi ∧ mi ≤ 2) (hn : -2 ≤ ni ∧ ni ≤ 2) (hk : k < 13) (hmore : more < 6) : Pair env wn ns (Str.ofString "high" ++ Str.ofString "(" ++ mk (C.par a).txt ++ mk (C.par b).txt ++ Str.ofString ")", Str.ofString "high" ++ Str.ofString "(" ++ mk (C.par a).txt ++ Str.ofString ")" ++ Str.ofString "high" ++ Str.ofString "(" ++ mk (C.par b).txt ++ Str.ofString ")") := by
  have hA1 := ha.nest; have hA2 := ha.deep; have hA3 := ha.wt; have hA4 := ha.len; have hB1 := hb.nest; have hB2 := hb.deep; have hB3 := hb.wt; have hB4 := hb.len; have hD1 := hd.nest; have hD2 := hd.deep; have hD3 := hd.wt; have hD4 := hd.len
  refine ⟨(.high (.thn false (.par a) (.par b))), (.thn false (.high (.par a)) (.high (.par b))), ?_, ?_, ⟨by (simp [C.ok, C.item, C.closed, C.opens, ha.ok, hb.ok, hd.ok]; try omega), by (simp only [C.nest]; omega), by (simp only [C.ex, Ex.deep]; omega), by first | (simp only [C.ex, Ex.wt]; omega) | (simp [C.ex, Ex.wt] <;> omega), by simp [C.ex, Ex.NamesIn, ha.names, hb.names, hd.names], by first | (simp [C.txt] <;> omega) | (simp [C.txt, ints_c0, ints_c1, ints_cm1] <;> omega)⟩, ⟨by (simp [C.ok, C.item, C.closed, C.opens, ha.ok, hb.ok, hd.ok]; try omega), by (simp only [C.nest]; omega), by (simp only [C.ex, Ex.deep]; omega), by first | (simp only [C.ex, Ex.wt]; omega) | (simp [C.ex, Ex.wt] <;> omega), by simp [C.ex, Ex.NamesIn, ha.names, hb.names, hd.names], by first | (simp [C.txt] <;> omega) | (simp [C.txt, ints_c0, ints_c1, ints_cm1] <;> omega)⟩, G.high_mul _ _⟩
  · simp [lit0, lit1, lit2, lit3, lit4, lit5, lit6, lit7, lit8, lit9, lit10, lit11, lit12, lit13, lit14, lit15, lit16, lit17, lit18, lit19, lit20, lit21, lit22, lit23, lit24, lit25, lit26, lit27, lit28, lit29, lit30, lit31, lit32, lit33, lit34, lit35, lit36, lit37, lit38, mk_append, ints_c0, ints_c1, ints_cm1, sI_mk (i := mi) (by omega), sI_mk (i := ni) (by omega), sI_mk (i := mi + ni) (by omega), sI_mk (i := mi * ni) (by have := abs_mul hm hn; omega), sI_mk (i := 0 - mi) (by omega), sI_mk (i := -mi) (by omega), sI_nat (n := k) (by omega), sI_n1 (k := k) (by omega), sI_n2 (k := k) (more := more) (by omega), sI_n3 (k := k) (more := more) (by omega), C.txt]
  · simp [lit0, lit1, lit2, lit3, lit4, lit5, lit6, lit7, lit8, lit9, lit10, lit11, lit12, lit13, lit14, lit15, lit16, lit17, lit18, lit19, lit20, lit21, lit22, lit23, lit24, lit25, lit26, lit27, lit28, lit29, lit30, lit31, lit32, lit33, lit34, lit35, lit36, lit37, lit38, mk_append, ints_c0, ints_c1, ints_cm1, sI_mk (i := mi) (by omega), sI_mk (i := ni) (by omega), sI_mk (i := mi + ni) (by omega), sI_mk (i := mi * ni) (by have := abs_mul hm hn; omega), sI_mk (i := 0 - mi) (by omega), sI_mk (i := -mi) (by omega), sI_nat (n := k) (by omega), sI_n1 (k := k) (by omega), sI_n2 (k := k) (more := more) (by omega), sI_n3 (k := k) (more := more) (by omega), C.txt]
theorem rule32 (ha : Part wn ns a) (hb : Part wn ns b) (hd : Part wn ns d) (hm : -2 ≤ mi ∧ mi ≤ 2) (hn : -2 ≤ ni ∧ ni ≤ 2) (hk : k < 13) (hmore : more < 6) : Pair env wn ns (Str.ofString "high" ++ Str.ofString "(" ++ mk (C.par a).txt ++ Str.ofString ")^" ++ sI mi, Str.ofString "high" ++ Str.ofString "(" ++ mk (C.par a).txt ++ Str.ofString "^" ++ sI mi ++ Str.ofString ")") := by
  have hA1 := ha.nest; have hA2 := ha.deep; have hA3 := ha.wt; have hA4 := ha.len; have hB1 := hb.nest; have hB2 := hb.deep; have hB3 := hb.wt; have hB4 := hb.len; have hD1 := hd.nest; have hD2 := hd.deep; have hD3 := hd.wt; have hD4 := hd.len
  have hq := abs_mul hm hn
  have l1 := ints_length mi; have l2 := ints_length ni; have l3 := ints_length (mi + ni); have l4 := ints_length (mi * ni); have l5 := ints_length (0 - mi); have l6 := ints_length (-mi)
  have w1 := wtp (n := mi) 2 hA3 (by omega) (by decide); have w2 := wtp (n := ni) 2 hA3 (by omega) (by decide); have w3 := wtp (n := mi + ni) 4 hA3 (by omega) (by decide); have w4 := wtp (n := mi * ni) 4 hA3 (by omega) (by decide); have w5 := wtp (n := 0 - mi) 2 hA3 (by omega) (by decide)
  have w6 := wtp (n := ni) 2 w1 (by omega) (by decide)
  have w7 := wtp (n := ni) (w := a.ex.wt wn + 2 * b.ex.wt wn) (B := 18) 2 (by omega) (by omega) (by decide); have w8 := wtp (n := mi) (w := a.ex.wt wn + 1) (B := 7) 2 (by omega) (by omega) (by decide)
  refine ⟨(.power (.high (.par a)) mi), (.high (.power (.par a) mi)), ?_, ?_, ⟨by (simp [C.ok, C.item, C.closed, C.opens, ha.ok, hb.ok, hd.ok]; try omega), by (simp only [C.nest]; omega), by (simp only [C.ex, Ex.deep]; omega), by first | (simp only [C.ex, Ex.wt]; omega) | (simp [C.ex, Ex.wt] <;> omega), by simp [C.ex, Ex.NamesIn, ha.names, hb.names, hd.names], by first | (simp [C.txt] <;> omega) | (simp [C.txt, ints_c0, ints_c1, ints_cm1] <;> omega)⟩, ⟨by (simp [C.ok, C.item, C.closed, C.opens, ha.ok, hb.ok, hd.ok]; try omega), by (simp only [C.nest]; omega), by (simp only [C.ex, Ex.deep]; omega), by first | (simp only [C.ex, Ex.wt]; omega) | (simp [C.ex, Ex.wt] <;> omega), by simp [C.ex, Ex.NamesIn, ha.names, hb.names, hd.names], by first | (simp [C.txt] <;> omega) | (simp [C.txt, ints_c0, ints_c1, ints_cm1] <;> omega)⟩, (G.high_pw _ _).symm⟩
  · simp [lit0, lit1, lit2, lit3, lit4, lit5, lit6, lit7, lit8, lit9, lit10, lit11, lit12, lit13, lit14, lit15, lit16, lit17, lit18, lit19, lit20, lit21, lit22, lit23, lit24, lit25, lit26, lit27, lit28, lit29, lit30, lit31, lit32, lit33, lit34, lit35, lit36, lit37, lit38, mk_append, ints_c0, ints_c1, ints_cm1, sI_mk (i := mi) (by omega), sI_mk (i := ni) (by omega), sI_mk (i := mi + ni) (by omega), sI_mk (i := mi * ni) (by have := abs_mul hm hn; omega), sI_mk (i := 0 - mi) (by omega), sI_mk (i := -mi) (by omega), sI_nat (n := k) (by omega), sI_n1 (k := k) (by omega), sI_n2 (k := k) (more := more) (by omega), sI_n3 (k := k) (more := more) (by omega), C.txt]
  · simp [lit0, lit1, lit2, lit3, lit4, lit5, lit6, lit7, lit8, lit9, lit10, lit11, lit12, lit13, lit14, lit15, lit16, lit17, lit18, lit19, lit20, lit21, lit22, lit23, lit24, lit25, lit26, lit27, lit28, lit29, lit30, lit31, lit32, lit33, lit34, lit35, lit36, lit37, lit38, mk_append, ints_c0, ints_c1, ints_cm1, sI_mk (i := mi) (by omega), sI_mk (i := ni) (by omega), sI_mk (i := mi + ni) (by omega), sI_mk (i := mi * ni) (by have := abs_mul hm hn; omega), sI_mk (i := 0 - mi) (by omega), sI_mk (i := -mi) (by omega), sI_nat (n := k) (by omega), sI_n1 (k := k) (by omega), sI_n2 (k := k) (more := more) (by omega), sI_n3 (k := k) (more := more) (by omega), C.txt]
theorem rule33 (ha : Part wn ns a) (hb : Part wn ns b) (hd : Part wn ns d) (hm : -2 ≤ mi ∧ mi ≤ 2) (hn : -2 ≤ ni ∧ ni ≤ 2) (hk : k < 13) (hmore : more < 6) : Pair env wn ns (Str.ofString "high" ++ Str.ofString "(" ++ mk (C.par a).txt ++ Str.ofString "~)", Str.ofString "high" ++ Str.ofString "(" ++ mk (C.par a).txt ++ Str.ofString ")~") := by
  have hA1 := ha.nest; have hA2 := ha.deep; have hA3 := ha.wt; have hA4 := ha.len; have hB1 := hb.nest; have hB2 := hb.deep; have hB3 := hb.wt; have hB4 := hb.len; have hD1 := hd.nest; have hD2 := hd.deep; have hD3 := hd.wt; have hD4 := hd.len
  refine ⟨(.high (.back (.par a))), (.back (.high (.par a))), ?_, ?_, ⟨by (simp [C.ok, C.item, C.closed, C.opens, ha.ok, hb.ok, hd.ok]; try omega), by (simp only [C.nest]; omega), by (simp only [C.ex, Ex.deep]; omega), by first | (simp only [C.ex, Ex.wt]; omega) | (simp [C.ex, Ex.wt] <;> omega), by simp [C.ex, Ex.NamesIn, ha.names, hb.names, hd.names], by first | (simp [C.txt] <;> omega) | (simp [C.txt, ints_c0, ints_c1, ints_cm1] <;> omega)⟩, ⟨by (simp [C.ok, C.item, C.closed, C.opens, ha.ok, hb.ok, hd.ok]; try omega), by (simp only [C.nest]; omega), by (simp only [C.ex, Ex.deep]; omega), by first | (simp only [C.ex, Ex.wt]; omega) | (simp [C.ex, Ex.wt] <;> omega), by simp [C.ex, Ex.NamesIn, ha.names, hb.names, hd.names], by first | (simp [C.txt] <;> omega) | (simp [C.txt, ints_c0, ints_c1, ints_cm1] <;> omega)⟩, rfl⟩
  · simp [lit0, lit1, lit2, lit3, lit4, lit5, lit6, lit7, lit8, lit9, lit10, lit11, lit12, lit13, lit14, lit15, lit16, lit17, lit18, lit19, lit20, lit21, lit22, lit23, lit24, lit25, lit26, lit27, lit28, lit29, lit30, lit31, lit32, lit33, lit34, lit35, lit36, lit37, lit38, mk_append, ints_c0, ints_c1, ints_cm1, sI_mk (i := mi) (by omega), sI_mk (i := ni) (by omega), sI_mk (i := mi + ni) (by omega), sI_mk (i := mi * ni) (by have := abs_mul hm hn; omega), sI_mk (i := 0 - mi) (by omega), sI_mk (i := -mi) (by omega), sI_nat (n := k) (by omega), sI_n1 (k := k) (by omega), sI_n2 (k := k) (more := more) (by omega), sI_n3 (k := k) (more := more) (by omega), C.txt]
  · simp [lit0, lit1, lit2, lit3, lit4, lit5, lit6, lit7, lit8, lit9, lit10, lit11, lit12, lit13, lit14, lit15, lit16, lit17, lit18, lit19, lit20, lit21, lit22, lit23, lit24, lit25, lit26, lit27, lit28, lit29, lit30, lit31, lit32, lit33, lit34, lit35, lit36, lit37, lit38, mk_append, ints_c0, ints_c1, ints_cm1, sI_mk (i := mi) (by omega), sI_mk (i := ni) (by omega), sI_mk (i := mi + ni) (by omega), sI_mk (i := mi * ni) (by have := abs_mul hm hn; omega), sI_mk (i := 0 - mi) (by omega), sI_mk (i := -mi) (by omega), sI_nat (n := k) (by omega), sI_n1 (k := k) (by omega), sI_n2 (k := k) (more := more) (by omega), sI_n3 (k := k) (more := more) (by omega), C.txt]
theorem rule34 (ha : Part wn ns a) (hb : Part wn ns b) (hd : Part wn ns d) (hm : -2 ≤ mi ∧ mi ≤ 2) (hn : -2 ≤ ni ∧ ni ≤ 2) (hk : k < 13) (hmore : more < 6) : Pair env wn ns (Str.ofString "high" ++ Str.ofString "(one)", Str.ofString "one") := by
  have hA1 := ha.nest; have hA2 := ha.deep; have hA3 := ha.wt; have hA4 := ha.len; have hB1 := hb.nest; have hB2 := hb.deep; have hB3 := hb.wt; have hB4 := hb.len; have hD1 := hd.nest; have hD2 := hd.deep; have hD3 := hd.wt; have hD4 := hd.len
  refine ⟨(.high .one), .one, ?_, ?_, ⟨by (simp [C.ok, C.item, C.closed, C.opens, ha.ok, hb.ok, hd.ok]; try omega), by (simp only [C.nest]; omega), by (simp only [C.ex, Ex.deep]; omega), by first | (simp only [C.ex, Ex.wt]; omega) | (simp [C.ex, Ex.wt] <;> omega), by simp [C.ex, Ex.NamesIn, ha.names, hb.names, hd.names], by first | (simp [C.txt] <;> omega) | (simp [C.txt, ints_c0, ints_c1, ints_cm1] <;> omega)⟩, ⟨by (simp [C.ok, C.item, C.closed, C.opens, ha.ok, hb.ok, hd.ok]; try omega), by (simp only [C.nest]; omega), by (simp only [C.ex, Ex.deep]; omega), by first | (simp only [C.ex, Ex.wt]; omega) | (simp [C.ex, Ex.wt] <;> omega), by simp [C.ex, Ex.NamesIn, ha.names, hb.names, hd.names], by first | (simp [C.txt] <;> omega) | (simp [C.txt, ints_c0, ints_c1, ints_cm1] <;> omega)⟩, G.high_one⟩
  · simp [lit0, lit1, lit2, lit3, lit4, lit5, lit6, lit7, lit8, lit9, lit10, lit11, lit12, lit13, lit14, lit15, lit16, lit17, lit18, lit19, lit20, lit21, lit22, lit23, lit24, lit25, lit26, lit27, lit28, lit29, lit30, lit31, lit32, lit33, lit34, lit35, lit36, lit37, lit38, mk_append, ints_c0, ints_c1, ints_cm1, sI_mk (i := mi) (by omega), sI_mk (i := ni) (by omega), sI_mk (i := mi + ni) (by omega), sI_mk (i := mi * ni) (by have := abs_mul hm hn; omega), sI_mk (i := 0 - mi) (by omega), sI_mk (i := -mi) (by omega), sI_nat (n := k) (by omega), sI_n1 (k := k) (by omega), sI_n2 (k := k) (more := more) (by omega), sI_n3 (k := k) (more := more) (by omega), C.txt]
  · simp [lit0, lit1, lit2, lit3, lit4, lit5, lit6, lit7, lit8, lit9, lit10, lit11, lit12, lit13, lit14, lit15, lit16, lit17, lit18, lit19, lit20, lit21, lit22, lit23, lit24, lit25, lit26, lit27, lit28, lit29, lit30, lit31, lit32, lit33, lit34, lit35, lit36, lit37, lit38, mk_append, ints_c0, ints_c1, ints_cm1, sI_mk (i := mi) (by omega), sI_mk (i := ni) (by omega), sI_mk (i := mi + ni) (by omega), sI_mk (i := mi * ni) (by have := abs_mul hm hn; omega), sI_mk (i := 0 - mi) (by omega), sI_mk (i := -mi) (by omega), sI_nat (n := k) (by omega), sI_n1 (k := k) (by omega), sI_n2 (k := k) (more := more) (by omega), sI_n3 (k := k) (more := more) (by omega), C.txt]
theorem rule35 (ha : Part wn ns a) (hb : Part wn ns b) (hd : Part wn ns d) (hm : -2 ≤ mi ∧ mi ≤ 2) (hn : -2 ≤ ni ∧ ni ≤ 2) (hk : k < 13) (hmore : more < 6) : Pair env wn ns (Str.ofString "high(m" ++ sI (k : Int) ++ Str.ofString ")", Str.ofString "m" ++ sI ((k : Int) + 1)) := by
  have hA1 := ha.nest; have hA2 := ha.deep; have hA3 := ha.wt; have hA4 := ha.len; have hB1 := hb.nest; have hB2 := hb.deep; have hB3 := hb.wt; have hB4 := hb.len; have hD1 := hd.nest; have hD2 := hd.deep; have hD3 := hd.wt; have hD4 := hd.len
  have l1 := figs_length k; have l2 := figs_length (k + 1); have l3 := figs_length (k + 1 + more); have l4 := figs_length (k + 2 + more)
  refine ⟨(.high (.move (k))), (.move (k + 1)), ?_, ?_, ⟨by (simp [C.ok, C.item, C.closed, C.opens, ha.ok, hb.ok, hd.ok]; try omega), by (simp only [C.nest]; omega), by (simp only [C.ex, Ex.deep]; omega), by first | (simp only [C.ex, Ex.wt]; omega) | (simp [C.ex, Ex.wt] <;> omega), by simp [C.ex, Ex.NamesIn, ha.names, hb.names, hd.names], by first | (simp [C.txt] <;> omega) | (simp [C.txt, ints_c0, ints_c1, ints_cm1] <;> omega)⟩, ⟨by (simp [C.ok, C.item, C.closed, C.opens, ha.ok, hb.ok, hd.ok]; try omega), by (simp only [C.nest]; omega), by (simp only [C.ex, Ex.deep]; omega), by first | (simp only [C.ex, Ex.wt]; omega) | (simp [C.ex, Ex.wt] <;> omega), by simp [C.ex, Ex.NamesIn, ha.names, hb.names, hd.names], by first | (simp [C.txt] <;> omega) | (simp [C.txt, ints_c0, ints_c1, ints_cm1] <;> omega)⟩, rfl⟩
  · simp [lit0, lit1, lit2, lit3, lit4, lit5, lit6, lit7, lit8, lit9, lit10, lit11, lit12, lit13, lit14, lit15, lit16, lit17, lit18, lit19, lit20, lit21, lit22, lit23, lit24, lit25, lit26, lit27, lit28, lit29, lit30, lit31, lit32, lit33, lit34, lit35, lit36, lit37, lit38, mk_append, ints_c0, ints_c1, ints_cm1, sI_mk (i := mi) (by omega), sI_mk (i := ni) (by omega), sI_mk (i := mi + ni) (by omega), sI_mk (i := mi * ni) (by have := abs_mul hm hn; omega), sI_mk (i := 0 - mi) (by omega), sI_mk (i := -mi) (by omega), sI_nat (n := k) (by omega), sI_n1 (k := k) (by omega), sI_n2 (k := k) (more := more) (by omega), sI_n3 (k := k) (more := more) (by omega), C.txt]
  · simp [lit0, lit1, lit2, lit3, lit4, lit5, lit6, lit7, lit8, lit9, lit10, lit11, lit12, lit13, lit14, lit15, lit16, lit17, lit18, lit19, lit20, lit21, lit22, lit23, lit24, lit25, lit26, lit27, lit28, lit29, lit30, lit31, lit32, lit33, lit34, lit35, lit36, lit37, lit38, mk_append, ints_c0, ints_c1, ints_cm1, sI_mk (i := mi) (by omega), sI_mk (i := ni) (by omega), sI_mk (i := mi + ni) (by omega), sI_mk (i := mi * ni) (by have := abs_mul hm hn; omega), sI_mk (i := 0 - mi) (by omega), sI_mk (i := -mi) (by omega), sI_nat (n := k) (by omega), sI_n1 (k := k) (by omega), sI_n2 (k := k) (more := more) (by omega), sI_n3 (k := k) (more := more) (by omega), C.txt]
theorem rule36 (ha : Part wn ns a) (hb : Part wn ns b) (hd : Part wn ns d) (hm : -2 ≤ mi ∧ mi ≤ 2) (hn : -2 ≤ ni ∧ ni ≤ 2) (hk : k < 13) (hmore : more < 6) : Pair env wn ns (Str.ofString "low(" ++ mk (C.par a).txt ++ Str.ofString ")high(" ++ mk (C.par b).txt ++ Str.ofString ")", Str.ofString "high(" ++ mk (C.par b).txt ++ Str.ofString ")low(" ++ mk (C.par a).txt ++ Str.ofString ")") := by
  have hA1 := ha.nest; have hA2 := ha.deep; have hA3 := ha.wt; have hA4 := ha.len; have hB1 := hb.nest; have hB2 := hb.deep; have hB3 := hb.wt; have hB4 := hb.len; have hD1 := hd.nest; have hD2 := hd.deep; have hD3 := hd.wt; have hD4 := hd.len
  refine ⟨(.thn false (.low (.par a)) (.high (.par b))), (.thn false (.high (.par b)) (.low (.par a))), ?_, ?_, ⟨by (simp [C.ok, C.item, C.closed, C.opens, ha.ok, hb.ok, hd.ok]; try omega), by (simp only [C.nest]; omega), by (simp only [C.ex, Ex.deep]; omega), by first | (simp only [C.ex, Ex.wt]; omega) | (simp [C.ex, Ex.wt] <;> omega), by simp [C.ex, Ex.NamesIn, ha.names, hb.names, hd.names], by first | (simp [C.txt] <;> omega) | (simp [C.txt, ints_c0, ints_c1, ints_cm1] <;> omega)⟩, ⟨by (simp [C.ok, C.item, C.closed, C.opens, ha.ok, hb.ok, hd.ok]; try omega), by (simp only [C.nest]; omega), by (simp only [C.ex, Ex.deep]; omega), by first | (simp only [C.ex, Ex.wt]; omega) | (simp [C.ex, Ex.wt] <;> omega), by simp [C.ex, Ex.NamesIn, ha.names, hb.names, hd.names], by first | (simp [C.txt] <;> omega) | (simp [C.txt, ints_c0, ints_c1, ints_cm1] <;> omega)⟩, G.low_high _ _⟩
  · simp [lit0, lit1, lit2, lit3, lit4, lit5, lit6, lit7, lit8, lit9, lit10, lit11, lit12, lit13, lit14, lit15, lit16, lit17, lit18, lit19, lit20, lit21, lit22, lit23, lit24, lit25, lit26, lit27, lit28, lit29, lit30, lit31, lit32, lit33, lit34, lit35, lit36, lit37, lit38, mk_append, ints_c0, ints_c1, ints_cm1, sI_mk (i := mi) (by omega), sI_mk (i := ni) (by omega), sI_mk (i := mi + ni) (by omega), sI_mk (i := mi * ni) (by have := abs_mul hm hn; omega), sI_mk (i := 0 - mi) (by omega), sI_mk (i := -mi) (by omega), sI_nat (n := k) (by omega), sI_n1 (k := k) (by omega), sI_n2 (k := k) (more := more) (by omega), sI_n3 (k := k) (more := more) (by omega), C.txt]
  · simp [lit0, lit1, lit2, lit3, lit4, lit5, lit6, lit7, lit8, lit9, lit10, lit11, lit12, lit13, lit14, lit15, lit16, lit17, lit18, lit19, lit20, lit21, lit22, lit23, lit24, lit25, lit26, lit27, lit28, lit29, lit30, lit31, lit32, lit33, lit34, lit35, lit36, lit37, lit38, mk_append, ints_c0, ints_c1, ints_cm1, sI_mk (i := mi) (by omega), sI_mk (i := ni) (by omega), sI_mk (i := mi + ni) (by omega), sI_mk (i := mi * ni) (by have := abs_mul hm hn; omega), sI_mk (i := 0 - mi) (by omega), sI_mk (i := -mi) (by omega), sI_nat (n := k) (by omega), sI_n1 (k := k) (by omega), sI_n2 (k := k) (more := more) (by omega), sI_n3 (k := k) (more := more) (by omega), C.txt]
theorem rule37 (ha : Part wn ns a) (hb : Part wn ns b) (hd : Part wn ns d) (hm : -2 ≤ mi ∧ mi ≤ 2) (hn : -2 ≤ ni ∧ ni ≤ 2) (hk : k < 13) (hmore : more < 6) : Pair env wn ns (Str.ofString "as(m" ++ sI ((k : Int) + 1 + (more : Int)) ++ Str.ofString ", m" ++ sI (k : Int) ++ Str.ofString ")", Str.ofString "m" ++ sI ((k : Int) + 2 + (more : Int))) := by
  have hA1 := ha.nest; have hA2 := ha.deep; have hA3 := ha.wt; have hA4 := ha.len; have hB1 := hb.nest; have hB2 := hb.deep; have hB3 := hb.wt; have hB4 := hb.len; have hD1 := hd.nest; have hD2 := hd.deep; have hD3 := hd.wt; have hD4 := hd.len
  have l1 := figs_length k; have l2 := figs_length (k + 1); have l3 := figs_length (k + 1 + more); have l4 := figs_length (k + 2 + more)
  refine ⟨(.as (.move (k + 1 + more)) (.move (k))), (.move (k + 2 + more)), ?_, ?_, ⟨by (simp [C.ok, C.item, C.closed, C.opens, ha.ok, hb.ok, hd.ok]; try omega), by (simp only [C.nest]; omega), by (simp only [C.ex, Ex.deep]; omega), by first | (simp only [C.ex, Ex.wt]; omega) | (simp [C.ex, Ex.wt] <;> omega), by simp [C.ex, Ex.NamesIn, ha.names, hb.names, hd.names], by first | (simp [C.txt] <;> omega) | (simp [C.txt, ints_c0, ints_c1, ints_cm1] <;> omega)⟩, ⟨by (simp [C.ok, C.item, C.closed, C.opens, ha.ok, hb.ok, hd.ok]; try omega), by (simp only [C.nest]; omega), by (simp only [C.ex, Ex.deep]; omega), by first | (simp only [C.ex, Ex.wt]; omega) | (simp [C.ex, Ex.wt] <;> omega), by simp [C.ex, Ex.NamesIn, ha.names, hb.names, hd.names], by first | (simp [C.txt] <;> omega) | (simp [C.txt, ints_c0, ints_c1, ints_cm1] <;> omega)⟩, G.mv_as _ _⟩
  · simp [lit0, lit1, lit2, lit3, lit4, lit5, lit6, lit7, lit8, lit9, lit10, lit11, lit12, lit13, lit14, lit15, lit16, lit17, lit18, lit19, lit20, lit21, lit22, lit23, lit24, lit25, lit26, lit27, lit28, lit29, lit30, lit31, lit32, lit33, lit34, lit35, lit36, lit37, lit38, mk_append, ints_c0, ints_c1, ints_cm1, sI_mk (i := mi) (by omega), sI_mk (i := ni) (by omega), sI_mk (i := mi + ni) (by omega), sI_mk (i := mi * ni) (by have := abs_mul hm hn; omega), sI_mk (i := 0 - mi) (by omega), sI_mk (i := -mi) (by omega), sI_nat (n := k) (by omega), sI_n1 (k := k) (by omega), sI_n2 (k := k) (more := more) (by omega), sI_n3 (k := k) (more := more) (by omega), C.txt]
  · simp [lit0, lit1, lit2, lit3, lit4, lit5, lit6, lit7, lit8, lit9, lit10, lit11, lit12, lit13, lit14, lit15, lit16, lit17, lit18, lit19, lit20, lit21, lit22, lit23, lit24, lit25, lit26, lit27, lit28, lit29, lit30, lit31, lit32, lit33, lit34, lit35, lit36, lit37, lit38, mk_append, ints_c0, ints_c1, ints_cm1, sI_mk (i := mi) (by omega), sI_mk (i := ni) (by omega), sI_mk (i := mi + ni) (by omega), sI_mk (i := mi * ni) (by have := abs_mul hm hn; omega), sI_mk (i := 0 - mi) (by omega), sI_mk (i := -mi) (by omega), sI_nat (n := k) (by omega), sI_n1 (k := k) (by omega), sI_n2 (k := k) (more := more) (by omega), sI_n3 (k := k) (more := more) (by omega), C.txt]
theorem rule38 (ha : Part wn ns a) (hb : Part wn ns b) (hd : Part wn ns d) (hm : -2 ≤ mi ∧ mi ≤ 2) (hn : -2 ≤ ni ∧ ni ≤ 2) (hk : k < 13) (hmore : more < 6) : Pair env wn ns (Str.ofString "m" ++ sI ((k : Int) + 1 + (more : Int)) ++ Str.ofString " m" ++ sI (k : Int), Str.ofString "m" ++ sI (k : Int) ++ Str.ofString " m" ++ sI ((k : Int) + 2 + (more : Int))) := by
  have hA1 := ha.nest; have hA2 := ha.deep; have hA3 := ha.wt; have hA4 := ha.len; have hB1 := hb.nest; have hB2 := hb.deep; have hB3 := hb.wt; have hB4 := hb.len; have hD1 := hd.nest; have hD2 := hd.deep; have hD3 := hd.wt; have hD4 := hd.len
  have l1 := figs_length k; have l2 := figs_length (k + 1); have l3 := figs_length (k + 1 + more); have l4 := figs_length (k + 2 + more)
  refine ⟨(.thn true (.move (k + 1 + more)) (.move (k))), (.thn true (.move (k)) (.move (k + 2 + more))), ?_, ?_, ⟨by (simp [C.ok, C.item, C.closed, C.opens, ha.ok, hb.ok, hd.ok]; try omega), by (simp only [C.nest]; omega), by (simp only [C.ex, Ex.deep]; omega), by first | (simp only [C.ex, Ex.wt]; omega) | (simp [C.ex, Ex.wt] <;> omega), by simp [C.ex, Ex.NamesIn, ha.names, hb.names, hd.names], by first | (simp [C.txt] <;> omega) | (simp [C.txt, ints_c0, ints_c1, ints_cm1] <;> omega)⟩, ⟨by (simp [C.ok, C.item, C.closed, C.opens, ha.ok, hb.ok, hd.ok]; try omega), by (simp only [C.nest]; omega), by (simp only [C.ex, Ex.deep]; omega), by first | (simp only [C.ex, Ex.wt]; omega) | (simp [C.ex, Ex.wt] <;> omega), by simp [C.ex, Ex.NamesIn, ha.names, hb.names, hd.names], by first | (simp [C.txt] <;> omega) | (simp [C.txt, ints_c0, ints_c1, ints_cm1] <;> omega)⟩, G.mv_mul _ _⟩
  · simp [lit0, lit1, lit2, lit3, lit4, lit5, lit6, lit7, lit8, lit9, lit10, lit11, lit12, lit13, lit14, lit15, lit16, lit17, lit18, lit19, lit20, lit21, lit22, lit23, lit24, lit25, lit26, lit27, lit28, lit29, lit30, lit31, lit32, lit33, lit34, lit35, lit36, lit37, lit38, mk_append, ints_c0, ints_c1, ints_cm1, sI_mk (i := mi) (by omega), sI_mk (i := ni) (by omega), sI_mk (i := mi + ni) (by omega), sI_mk (i := mi * ni) (by have := abs_mul hm hn; omega), sI_mk (i := 0 - mi) (by omega), sI_mk (i := -mi) (by omega), sI_nat (n := k) (by omega), sI_n1 (k := k) (by omega), sI_n2 (k := k) (more := more) (by omega), sI_n3 (k := k) (more := more) (by omega), C.txt]
  · simp [lit0, lit1, lit2, lit3, lit4, lit5, lit6, lit7, lit8, lit9, lit10, lit11, lit12, lit13, lit14, lit15, lit16, lit17, lit18, lit19, lit20, lit21, lit22, lit23, lit24, lit25, lit26, lit27, lit28, lit29, lit30, lit31, lit32, lit33, lit34, lit35, lit36, lit37, lit38, mk_append, ints_c0, ints_c1, ints_cm1, sI_mk (i := mi) (by omega), sI_mk (i := ni) (by omega), sI_mk (i := mi + ni) (by omega), sI_mk (i := mi * ni) (by have := abs_mul hm hn; omega), sI_mk (i := 0 - mi) (by omega), sI_mk (i := -mi) (by omega), sI_nat (n := k) (by omega), sI_n1 (k := k) (by omega), sI_n2 (k := k) (more := more) (by omega), sI_n3 (k := k) (more := more) (by omega), C.txt]
def rulesAll (e f g m n : Str) (mi ni : Int) (k more : Nat) : List (Str × Str) := rulesBacks e f g m n mi ni ++ rulesAs e f g m n ++ rulesHalves e f m k more
theorem rulesAll_length (e f g m n : Str) (mi ni : Int) (k more : Nat) : (rulesAll e f g m n mi ni k more).length = 39 := rfl
theorem rules_ok (ha : Part wn ns a) (hb : Part wn ns b) (hd : Part wn ns d) (hm : -2 ≤ mi ∧ mi ≤ 2) (hn : -2 ≤ ni ∧ ni ≤ 2) (hk : k < 13) (hmore : more < 6) (env : Str → G) {p : Str × Str} (hp : p ∈ rulesAll (mk (C.par a).txt) (mk (C.par b).txt) (mk (C.par d).txt) (sI mi) (sI ni) mi ni k more) : Pair env wn ns p := by
  simp only [rulesAll, rulesBacks, rulesAs, rulesHalves, List.cons_append, List.nil_append, List.mem_cons, List.not_mem_nil, or_false] at hp
  rcases hp with rfl | rfl | rfl | rfl | rfl | rfl | rfl | rfl | rfl | rfl | rfl | rfl | rfl | rfl | rfl | rfl | rfl | rfl | rfl | rfl | rfl | rfl | rfl | rfl | rfl | rfl | rfl | rfl | rfl | rfl | rfl | rfl | rfl | rfl | rfl | rfl | rfl | rfl | rfl
  · exact rule0 ha hb hd hm hn hk hmore
  · exact rule1 ha hb hd hm hn hk hmore
  · exact rule2 ha hb hd hm hn hk hmore
  · exact rule3 ha hb hd hm hn hk hmore
  · exact rule4 ha hb hd hm hn hk hmore
  · exact rule5 ha hb hd hm hn hk hmore
  · exact rule6 ha hb hd hm hn hk hmore
  · exact rule7 ha hb hd hm hn hk hmore
  · exact rule8 ha hb hd hm hn hk hmore
  · exact rule9 ha hb hd hm hn hk hmore
  · exact rule10 ha hb hd hm hn hk hmore
  · exact rule11 ha hb hd hm hn hk hmore
  · exact rule12 ha hb hd hm hn hk hmore
  · exact rule13 ha hb hd hm hn hk hmore
  · exact rule14 ha hb hd hm hn hk hmore
  · exact rule15 ha hb hd hm hn hk hmore
  · exact rule16 ha hb hd hm hn hk hmore
  · exact rule17 ha hb hd hm hn hk hmore
  · exact rule18 ha hb hd hm hn hk hmore
  · exact rule19 ha hb hd hm hn hk hmore
  · exact rule20 ha hb hd hm hn hk hmore
  · exact rule21 ha hb hd hm hn hk hmore
  · exact rule22 ha hb hd hm hn hk hmore
  · exact rule23 ha hb hd hm hn hk hmore
  · exact rule24 ha hb hd hm hn hk hmore
  · exact rule25 ha hb hd hm hn hk hmore
  · exact rule26 ha hb hd hm hn hk hmore
  · exact rule27 ha hb hd hm hn hk hmore
  · exact rule28 ha hb hd hm hn hk hmore
  · exact rule29 ha hb hd hm hn hk hmore
  · exact rule30 ha hb hd hm hn hk hmore
  · exact rule31 ha hb hd hm hn hk hmore
  · exact rule32 ha hb hd hm hn hk hmore
  · exact rule33 ha hb hd hm hn hk hmore
  · exact rule34 ha hb hd hm hn hk hmore
  · exact rule35 ha hb hd hm hn hk hmore
  · exact rule36 ha hb hd hm hn hk hmore
  · exact rule37 ha hb hd hm hn hk hmore
  · exact rule38 ha hb hd hm hn hk hmore
end
end Hw
/-! Halvewright: what every walk leans on. -/
namespace Hw
open PySem L2

def top (i : Nat) : Stmt := PySem.Challenge.pw_halvewright_k81_whole_texts_that_tell_on.main.body.getD i (.Pass ⟨0, 0, 0, 0⟩)

/-! ### a callee -/
structure Cal (P : Program) (w : World) (K : PySem.W.Frag) (mg : Str → Option Value) (base : Heap) (k : Nat) (x : Str) (ps : List Str) (sp : Sp) : Prop where
  ex : ∃ (f : Addr) (fd : FuncData), FnOk P w K mg base CX0 k f fd ps sp ∧ mg x = some (.ref f) ∧ PySem.W.keepIn K (.ref f) = true ∧ Binds K fd ps []
theorem pe_cal {X : Cx} {k : Nat} {x : Str} {ps : List Str} {sp : Sp} {e : Expr} {es : List Expr} {t : TA} {p pos : Pos} (c : Cal X.prog X.w X.K X.mg X.base k x ps sp) (hr : Room k X.A) (hg : Gl X x) (ha : PA X (e :: es) t)
    (hx : Passes CX0 X E0 := by exact pass0) (hdb : (x == ("__debug__" : Str)) = false := by decide) (he : starEach (e :: es) X.env = (false, eval e X.env) :: starEach es X.env := by rfl) (hpl : (backTo pos (starEach es X.env)).any (·.1) = false := by rfl) :
    PE X (.Call (.Name x p) (e :: es) [] pos) (tCall sp [] E0 t) := by
  obtain ⟨f, fd, F, m, kp, b⟩ := c.ex
  exact pe_call F hr hg m kp b .nil hx ha hdb he hpl

/-! ### built-in names -/
structure Blt (mg : Str → Option Value) : Prop where
  len : mg "len" = none
  range : mg "range" = none
  zip : mg "zip" = none
  enumerate : mg "enumerate" = none
  reversed : mg "reversed" = none
  list : mg "list" = none
  tuple : mg "tuple" = none
  dict : mg "dict" = none
  int : mg "int" = none
  str : mg "str" = none
  abs : mg "abs" = none
  max : mg "max" = none
  sum : mg "sum" = none
  all : mg "all" = none
  isinstance : mg "isinstance" = none
theorem bl_list : bootBuiltins "list" = some (.type "list") := by decide +kernel
theorem bl_tuple : bootBuiltins "tuple" = some (.type "tuple") := by decide +kernel
theorem bl_dict : bootBuiltins "dict" = some (.type "dict") := by decide +kernel
theorem bl_int : bootBuiltins "int" = some (.type "int") := by decide +kernel
theorem bl_str : bootBuiltins "str" = some (.type "str") := by decide +kernel
theorem bl_abs : bootBuiltins "abs" = some (.builtin "abs") := by decide +kernel
theorem bl_max : bootBuiltins "max" = some (.builtin "max") := by decide +kernel
theorem bl_sum : bootBuiltins "sum" = some (.builtin "sum") := by decide +kernel
theorem bl_all : bootBuiltins "all" = some (.builtin "all") := by decide +kernel
theorem bl_isinstance : bootBuiltins "isinstance" = some (.builtin "isinstance") := by decide +kernel
theorem bl_reversed : bootBuiltins "reversed" = some (.type "reversed") := by decide +kernel

/-! ### heaps -/
/-- all but what stands at these -/
def SameX (xs : List Addr) (H H' : Hp) : Prop := ∀ b o, b ∉ xs → H b = some o → H' b = some o
/-- tuples stay -/
def Tk (H H' : Hp) : Prop := ∀ b xs, H b = some (.tup xs) → H' b = some (.tup xs)
theorem Tk.refl (H : Hp) : Tk H H := fun _ _ h => h
theorem Tk.trans {H H1 H2 : Hp} (a : Tk H H1) (b : Tk H1 H2) : Tk H H2 := fun c x h => b c x (a c x h)
theorem _root_.L2.Same.tk {H H' : Hp} (h : Same H H') : Tk H H' := fun b xs e => h b _ e
theorem same_new {H : Hp} {p : Addr} (h : H p = none) (o : HO) : Same H (upd H p o) := fun b u q => by rw [upd_ne (ne_of_none q h)]; exact q
theorem tk_new {H : Hp} {p : Addr} (h : H p = none) (o : HO) : Tk H (upd H p o) := (same_new h o).tk
theorem tk_lst {H : Hp} {p : Addr} {xs : List V} (h : H p = some (.lst xs)) (o : HO) : Tk H (upd H p o) := fun b l q => by
  rw [upd_ne (ne_of q h (by intro z; cases z))]; exact q
theorem tk_dK {H : Hp} {p : Addr} {kvs : List (Key × V)} (h : H p = some (.dK kvs)) (o : HO) : Tk H (upd H p o) := fun b l q => by
  rw [upd_ne (ne_of q h (by intro z; cases z))]; exact q
theorem SameX.refl (xs : List Addr) (H : Hp) : SameX xs H H := fun _ _ _ h => h
theorem SameX.trans {xs : List Addr} {H H1 H2 : Hp} (a : SameX xs H H1) (b : SameX xs H1 H2) : SameX xs H H2 := fun c o n h => b c o n (a c o n h)
theorem _root_.L2.Same.x {H H' : Hp} (h : Same H H') (xs : List Addr) : SameX xs H H' := fun b o _ e => h b o e
theorem SameX.mono {xs ys : List Addr} {H H' : Hp} (h : SameX xs H H') (s : ∀ x ∈ xs, x ∈ ys) : SameX ys H H' := fun b o n e => h b o (fun z => n (s b z)) e
theorem samex_upd {H : Hp} {p : Addr} (o : HO) {xs : List Addr} (hp : p ∈ xs) : SameX xs H (upd H p o) := fun b u n q => by
  rw [upd_ne (fun z => n (by rw [z]; exact hp))]; exact q
/-- what was not there ahead is no matter -/
theorem SameX.drop {x : Addr} {xs : List Addr} {H H' : Hp} (h : SameX (x :: xs) H H') (n : H x = none) : SameX xs H H' := fun b o nb e => h b o (fun z => by
  rcases List.mem_cons.mp z with z | z
  · rw [z, n] at e; cases e
  · exact nb z) e
theorem SameX.same {H H' : Hp} (h : SameX [] H H') : Same H H' := fun b o e => h b o (fun z => nomatch z) e
theorem SameX.free {xs : List Addr} {H H' : Hp} (e : SameX xs H H') {l : Addr} (n : l ∉ xs) (h : H' l = none) : H l = none := by
  cases q : H l with
  | none => rfl
  | some o => rw [e l o n q] at h; cases h
/-- tuples stay where what may change is no tuple -/
theorem SameX.tk {xs : List Addr} {H H' : Hp} (h : SameX xs H H') (n : ∀ x ∈ xs, ∀ l, H x ≠ some (.tup l)) : Tk H H' := fun b l e => h b _ (fun z => n b z l e) e

/-! ### data -/
def IsT (H : Hp) : V → T → Prop
  | v, .leaf => ∃ a, v = .ref a ∧ H a = some (.tup [])
  | v, .node l r => ∃ a x y, v = .ref a ∧ H a = some (.tup [x, y]) ∧ IsT H x l ∧ IsT H y r
theorem IsT.mono {H H' : Hp} (k : Tk H H') : ∀ {t : T} {v : V}, IsT H v t → IsT H' v t
  | .leaf, _, h => by
    obtain ⟨a, e, h⟩ := h
    exact ⟨a, e, k _ _ h⟩
  | .node l r, _, h => by
    obtain ⟨a, x, y, e, h, hl, hr⟩ := h
    exact ⟨a, x, y, e, k _ _ h, IsT.mono k hl, IsT.mono k hr⟩
theorem IsT.ref {H : Hp} : ∀ {t : T} {v : V}, IsT H v t → ∃ a, v = .ref a
  | .leaf, _, h => by obtain ⟨a, e, _⟩ := h; exact ⟨a, e⟩
  | .node _ _, _, h => by obtain ⟨a, _, _, e, _⟩ := h; exact ⟨a, e⟩
def IsM (H : Hp) (v : V) (m : M) : Prop := ∃ a x y, v = .ref a ∧ H a = some (.tup [x, y]) ∧ IsT H x m.1 ∧ IsT H y m.2
theorem IsM.mono {H H' : Hp} (k : Tk H H') {m : M} {v : V} (h : IsM H v m) : IsM H' v m := by
  obtain ⟨a, x, y, e, h, h1, h2⟩ := h
  exact ⟨a, x, y, e, k _ _ h, h1.mono k, h2.mono k⟩
/-- the tree as data -/
def tD : T → PyData
  | .leaf => .tuple []
  | .node l r => .tuple [tD l, tD r]
def mD (m : M) : PyData := .tuple [tD m.1, tD m.2]
theorem IsT.dp {K : PySem.W.Frag} {H : Hp} : ∀ {t : T} {v : V}, IsT H v t → Dp K H v (tD t)
  | .leaf, _, h => by
    obtain ⟨a, rfl, h⟩ := h
    exact .tup (SqT.of h) .nil
  | .node l r, _, h => by
    obtain ⟨a, x, y, rfl, h, hl, hr⟩ := h
    exact .tup (SqT.of h) (.cons (IsT.dp hl) (.cons (IsT.dp hr) .nil))
theorem IsM.dp {K : PySem.W.Frag} {H : Hp} {m : M} {v : V} (h : IsM H v m) : Dp K H v (mD m) := by
  obtain ⟨a, x, y, rfl, h, h1, h2⟩ := h
  exact .tup (SqT.of h) (.cons h1.dp (.cons h2.dp .nil))
theorem tD_depth : ∀ t : T, (tD t).depth = t.depth + 1
  | .leaf => by simp [tD, PyData.depth, PyData.depthAll, T.depth]
  | .node l r => by simp [tD, PyData.depth, PyData.depthAll, T.depth, tD_depth l, tD_depth r]
theorem tD_lay : ∀ t : T, (tD t).canLay0 = true
  | .leaf => by simp [tD, PyData.canLay0, PyData.canLayAll0]
  | .node l r => by simp [tD, PyData.canLay0, PyData.canLayAll0, tD_lay l, tD_lay r]
theorem tD_shaped {t : T} (h : t.depth ≤ 62) : SeqAt.shaped (tD t) = true := by
  unfold SeqAt.shaped
  rw [tD_lay, tD_depth, decide_eq_true (by omega)]
  rfl
theorem mD_shaped {m : M} (h1 : m.1.depth ≤ 61) (h2 : m.2.depth ≤ 61) : SeqAt.shaped (mD m) = true := by
  unfold SeqAt.shaped mD
  have e1 : (PyData.tuple [tD m.1, tD m.2]).canLay0 = true := by simp [PyData.canLay0, PyData.canLayAll0, tD_lay]
  have e2 : (PyData.tuple [tD m.1, tD m.2]).depth ≤ 64 := by
    simp [PyData.depth, PyData.depthAll, tD_depth]; omega
  rw [e1, decide_eq_true e2]
  rfl
theorem tD_eqv : ∀ a b : T, PyData.eqv (tD a) (tD b) = decide (a = b)
  | .leaf, .leaf => by simp [tD, PyData.eqv, PyData.eqvAll]
  | .leaf, .node l r => by simp [tD, PyData.eqv, PyData.eqvAll]
  | .node l r, .leaf => by simp [tD, PyData.eqv, PyData.eqvAll]
  | .node l r, .node l' r' => by simp [tD, PyData.eqv, PyData.eqvAll, tD_eqv l l', tD_eqv r r']
theorem mD_eqv (a b : M) : PyData.eqv (mD a) (mD b) = decide (a = b) := by
  have e : (a = b) = (a.1 = b.1 ∧ a.2 = b.2) := by
    rw [Prod.ext_iff]
  simp [mD, PyData.eqv, PyData.eqvAll, tD_eqv, e]

/-! ### a def as it stands -/
structure DefAt (K : PySem.W.Frag) (mg : Str → Option Value) (x : Str) (st : Stmt) (ps : List Str) : Prop where
  ex : ∃ (f : Addr) (fd : FuncData), Fun K x x st f fd ∧ mg x = some (.ref f) ∧ Binds K fd ps []
theorem DefAt.cal {P : Program} {w : World} {K : PySem.W.Frag} {mg : Str → Option Value} {base : Heap} {x : Str} {st : Stmt} {ps : List Str} {k : Nat} {sp : Sp} (D : DefAt K mg x st ps)
    (h : ∀ (f : Addr) (fd : FuncData), Fun K x x st f fd → FnOk P w K mg base CX0 k f fd ps sp) : Cal P w K mg base k x ps sp := by
  obtain ⟨f, fd, F, m, b⟩ := D.ex
  exact ⟨f, fd, h f fd F, m, F.kp, b⟩
theorem Cal.mono {P : Program} {w : World} {K : PySem.W.Frag} {mg : Str → Option Value} {base : Heap} {x : Str} {ps : List Str} {j k : Nat} {sp : Sp} (c : Cal P w K mg base j x ps sp) (h : j ≤ k) : Cal P w K mg base k x ps sp := by
  obtain ⟨f, fd, F, m, kp, b⟩ := c.ex
  exact ⟨f, fd, F.mono h, m, kp, b⟩
theorem Cal.imp {P : Program} {w : World} {K : PySem.W.Frag} {mg : Str → Option Value} {base : Heap} {x : Str} {ps : List Str} {k : Nat} {sp sp' : Sp} (c : Cal P w K mg base k x ps sp) (h : ∀ vs H Q E, sp' vs H Q E → sp vs H Q E) : Cal P w K mg base k x ps sp' := by
  obtain ⟨f, fd, F, m, kp, b⟩ := c.ex
  exact ⟨f, fd, F.imp h, m, kp, b⟩
/-- nothing can be asked -/
theorem FnOk.none {P : Program} {w : World} {K : PySem.W.Frag} {mg : Str → Option Value} {base : Heap} {f : Addr} {fd : FuncData} {ps : List Str} {k : Nat} {sp : Sp} (no : ∀ vs H Q E, ¬ sp vs H Q E) : FnOk P w K mg base CX0 k f fd ps sp :=
  ⟨fun vs H Q E h => absurd h (no vs H Q E), fun A outer s H args us vs Q E _ _ _ _ h => absurd h (no vs H Q E)⟩

/-! ### readings -/
section
variable {K : PySem.W.Frag} {σ : St} {H : Hp} {i : Nat} {v : V} {t : T} {D : Ends} {tA tB : TS}
theorem tt_leaf {Q : Bool → Hp → Prop} (hi : σ[i]? = some (some v)) (h : IsT H v t) (hd : t.depth ≤ 62) (q : ∀ H', Same H H' → Q (decide (t = .leaf)) H') :
    tTest (tOp (rEqD K) (tVar i) (tTup tNil)) σ H Q := by
  refine ⟨v, hi, (by show 0 ≤ sizeLine; decide), fun p hp => ?_⟩
  have hs := same_new hp (.tup [])
  refine ⟨tD t, tD .leaf, (h.mono hs.tk).dp, .tup (SqT.of upd_same) .nil, tD_shaped hd, tD_shaped (t := .leaf) (by decide), _, rfl, ?_⟩
  rw [tD_eqv]
  exact q _ hs
theorem if_leaf (hi : σ[i]? = some (some v)) (h : IsT H v t) (hd : t.depth ≤ 62) (h1 : t = .leaf → ∀ H', Same H H' → tA D σ H') (h2 : ∀ l r, t = .node l r → ∀ H', Same H H' → tB D σ H') :
    tIfS (tTest (tOp (rEqD K) (tVar i) (tTup tNil))) tA tB D σ H := by
  refine tt_leaf hi h hd fun H' s => ?_
  cases t with
  | leaf => rw [decide_eq_true rfl]; exact iteT (h1 rfl H' s)
  | node l r => rw [decide_eq_false (by intro e; cases e)]; exact iteF (h2 l r rfl H' s)
end
theorem line1000 {n : Nat} (h : n ≤ 10000) : n ≤ sizeLine := Nat.le_trans h (by decide)
theorem line1000' {n : Nat} (h : n ≤ 10000) : n < sizeLine := Nat.lt_of_le_of_lt h (by decide)
end Hw
/-! Halvewright: helpers for lists, texts, comprehensions. -/
namespace Hw
open PySem L2

theorem SameX.tk1 {a : Addr} {H H' : Hp} {xs : List V} (h : SameX [a] H H') (ha : H a = some (.lst xs)) : Tk H H' := h.tk fun x hx l e => by
  rw [List.mem_singleton.mp hx, ha] at e
  cases e
theorem _root_.L2.Same.ext {H H1 : Hp} {D : Addr} {o : HO} (h : Same H H1) (n : H D = none) : Same H (upd H1 D o) := fun b u e => by
  rw [upd_ne (ne_of_none e n)]; exact h b u e
theorem paired_mono {α β : Type} {F G : α → β → Prop} {xs : List α} {ys : List β} (h : Paired F xs ys) (m : ∀ a b, F a b → G a b) : Paired G xs ys := Paired.mapP h m
theorem paired_append {α β : Type} {F : α → β → Prop} : ∀ {xs xs' : List α} {ys ys' : List β}, Paired F xs ys → Paired F xs' ys' → Paired F (xs ++ xs') (ys ++ ys')
  | _, _, _, _, .nil, h => h
  | _, _, _, _, .cons r t, h => .cons r (paired_append t h)
theorem paired_map {α β γ : Type} {F : α → β → Prop} {f : γ → α} : ∀ {xs : List γ} {ys : List β}, Paired (fun x y => F (f x) y) xs ys → Paired F (xs.map f) ys
  | _, _, .nil => .nil
  | _, _, .cons r t => .cons r (paired_map t)

/-- a comprehension over a list, one name, each element and test leaving what is tracked -/
theorem lc_run {K : PySem.W.Frag} {a D : Addr} {xs : List V} {j : Nat} {tt : TT} {te : TE} {vs : List Nat} {σ : St} {H1 : Hp} {Qd : Hp → Prop} (keep : V → Bool) (R : Hp → V → V → Prop) (mono : ∀ {H H' : Hp} {x y : V}, Tk H H' → R H x y → R H' x y)
    (hq : SqL K H1 a xs) (hD : H1 D = none) (hz : xs.length ≤ 10000) (hw : ∀ x, wipe ((wipe σ vs).set j (some x)) vs = wipe σ vs)
    (ht : ∀ x ∈ xs, ∀ H', Same H1 H' → ∀ Qb : Bool → Hp → Prop, (∀ H'', Same H' H'' → Qb (keep x) H'') → tt ((wipe σ vs).set j (some x)) H' Qb)
    (he : ∀ x ∈ xs, keep x = true → ∀ H', Same H1 H' → ∀ Q' : VK, (∀ y H'', Same H' H'' → R H'' x y → Q' y H'') → te ((wipe σ vs).set j (some x)) H' Q')
    (hd : ∀ H' ys, Same H1 H' → H' D = some (.lst ys) → Paired (R H') (xs.filter keep) ys → Qd H') :
    ∃ W : Nat → Nat → Hp → Prop, (∃ m, W 0 m (upd H1 D (.lst []))) ∧ ∀ i m H, W i m H →
      ((Itl K a).stop i H ∧ Qd H) ∨ ((Itl K a).go i H ∧ ∃ Nx : Hp → Prop, (∀ H', Nx H' → ∃ m', m' < m ∧ W (i + 1) m' H') ∧ ∀ x H', (Itl K a).yld i H x H' → (gName j) x (wipe σ vs) H' fun σ2 H2 => wipe σ2 vs = wipe σ vs ∧ tt σ2 H2 fun b H3 =>
        if b = true then te σ2 H3 fun y H4 => ∃ acc, H4 D = some (.lst acc) ∧ acc.length < sizeLine ∧ Nx (upd H4 D (.lst (acc ++ [y]))) else Nx H3) := by
  have hne : ∀ (i : Nat) (x : V), xs[i]? = some x → xs.take (i + 1) = xs.take i ++ [x] := fun i x h => by
    have hi := (List.getElem?_eq_some_iff.mp h).1
    rw [List.take_succ_eq_append_getElem hi]
    rw [List.getElem?_eq_getElem hi] at h
    rw [Option.some.inj h]
  refine lc_list (xs := xs) (fun i H' => Same H1 H' ∧ ∃ ys, H' D = some (.lst ys) ∧ Paired (R H') ((xs.take i).filter keep) ys ∧ ys.length ≤ i) ?_ ?_ ?_ ?_
  · exact ⟨same_new hD _, [], upd_same, .nil, Nat.le_refl _⟩
  · exact fun i H' _ p => p.1.seq hq
  · intro i x H' hx p
    obtain ⟨s, ys, hys, hp, hl⟩ := p
    have hi := (List.getElem?_eq_some_iff.mp hx).1
    have hm : x ∈ xs := List.mem_of_getElem? hx
    refine ⟨hw x, ht x hm H' s _ fun H3 s3 => ?_⟩
    cases hk : keep x with
    | true =>
      refine iteT (he x hm hk H3 (s.trans s3) _ fun y H4 s4 r => ?_)
      refine ⟨ys, s4 _ _ (s3 _ _ hys), line1000' (by omega), ((s.trans s3).trans s4).ext hD, ys ++ [y], upd_same, ?_, by rw [List.length_append]; simp; omega⟩
      have hn : H4 D = some (.lst ys) := s4 _ _ (s3 _ _ hys)
      rw [hne i x hx, List.filter_append, List.filter_cons, if_pos hk]
      have up := tk_lst hn (.lst (ys ++ [y]))
      exact paired_append (paired_mono hp fun u v q => mono up (mono (s3.trans s4).tk q)) (.cons (mono up r) .nil)
    | false =>
      refine iteF ⟨s.trans s3, ys, s3 _ _ hys, ?_, by omega⟩
      rw [hne i x hx, List.filter_append, List.filter_cons, if_neg (by rw [hk]; decide)]
      show Paired (R H3) ((xs.take i).filter keep ++ []) ys
      rw [List.append_nil]
      exact paired_mono hp fun u v q => mono s3.tk q
  · intro H' p
    obtain ⟨s, ys, hys, hp, _⟩ := p
    rw [List.take_length] at hp
    exact hd H' ys s hys hp

/-! ### texts -/
def bit (b : Bool) : Nat := if b then 49 else 48
/-- a way as a text -/
def pstr (p : Path) : Str := mk (p.map bit)
theorem pstr_len (p : Path) : (pstr p).length = p.length := by
  show (p.map bit).toArray.size = _
  simp
theorem mk_len (l : List Nat) : (mk l).length = l.length := by
  show l.toArray.size = _
  simp
theorem bit_inj {a b : Bool} (h : bit a = bit b) : a = b := by
  cases a <;> cases b <;> first | rfl | cases h
theorem pstr_inj {p q : Path} (h : pstr p = pstr q) : p = q := List.map_inj_right (fun _ _ e => bit_inj e) |>.mp (mk_inj h)
theorem pstr_append (p q : Path) : pstr p ++ pstr q = pstr (p ++ q) := by
  unfold pstr
  rw [mk_append, List.map_append]
theorem pstr_0 : Str.ofString "0" = pstr [false] := by decide +kernel
theorem pstr_1 : Str.ofString "1" = pstr [true] := by decide +kernel
theorem pstr_01 : Str.ofString "01" = pstr [false, true] := by decide +kernel
theorem pstr_e : Str.ofString "" = pstr [] := by decide +kernel
theorem cut_mk (l : List Nat) (lo hi : Option Int) : cutS (mk l) lo hi = mk ((l.drop (HT.sIx l.length 0 lo)).take (HT.sIx l.length l.length hi - HT.sIx l.length 0 lo)) := by
  unfold cutS
  rw [mk_len]
  rfl
theorem cut_last (l : List Nat) : cutS (mk l) none (some (-1)) = mk l.dropLast := by
  rw [cut_mk]
  congr 1
  show (l.drop 0).take ((-1 + (l.length : Int)).toNat - 0) = l.dropLast
  rw [List.drop_zero, List.dropLast_eq_take]
  congr 1
  omega
theorem cut_end (l : List Nat) : cutS (mk l) (some (-1)) none = mk (l.drop (l.length - 1)) := by
  rw [cut_mk]
  congr 1
  show (l.drop (-1 + (l.length : Int)).toNat).take (l.length - (-1 + (l.length : Int)).toNat) = _
  have e : (-1 + (l.length : Int)).toNat = l.length - 1 := by omega
  rw [e]
  exact List.take_of_length_le (by rw [List.length_drop]; omega)
theorem cut_from (l : List Nat) (k : Nat) : cutS (mk l) (some (k : Int)) none = mk (l.drop k) := by
  rw [cut_mk]
  congr 1
  rw [HT.sIx_nat]
  show (l.drop (min k l.length)).take (l.length - min k l.length) = _
  rw [List.take_of_length_le (by rw [List.length_drop]; omega)]
  by_cases h : k ≤ l.length
  · rw [Nat.min_eq_left h]
  · rw [Nat.min_eq_right (by omega), List.drop_length, List.drop_eq_nil_of_le (by omega)]
theorem cut_mid (l : List Nat) (k m : Nat) (hm : m ≤ l.length) : cutS (mk l) (some (k : Int)) (some (m : Int)) = mk ((l.drop k).take (m - k)) := by
  rw [cut_mk]
  congr 1
  rw [HT.sIx_nat, HT.sIx_nat, Nat.min_eq_left hm]
  by_cases h : k ≤ l.length
  · rw [Nat.min_eq_left h]
  · rw [Nat.min_eq_right (by omega), List.drop_length, List.drop_eq_nil_of_le (by omega)]
    simp
theorem pstr_dropLast (p : Path) : cutS (pstr p) none (some (-1)) = pstr p.dropLast := by
  unfold pstr
  rw [cut_last, List.map_dropLast]
theorem pstr_end (p : Path) : cutS (pstr p) (some (-1)) none = pstr (p.drop (p.length - 1)) := by
  unfold pstr
  rw [cut_end, List.map_drop, List.length_map]
theorem pstr_tail (p : Path) : cutS (pstr p) (some 1) none = pstr (p.drop 1) := by
  unfold pstr
  have := cut_from (p.map bit) 1
  rw [List.map_drop]
  exact this
theorem pstr_toList (p : Path) : (pstr p).cps.toList = p.map bit := rfl
theorem dec_str (a b : Str) : decide (V.str a = V.str b) = decide (a = b) := by
  by_cases h : a = b
  · subst h; simp
  · rw [decide_eq_false h, decide_eq_false (fun e => h (V.str.inj e))]
theorem dec_int (a b : Int) : decide (V.int a = V.int b) = decide (a = b) := by
  by_cases h : a = b
  · subst h; simp
  · rw [decide_eq_false h, decide_eq_false (fun e => h (V.int.inj e))]
end Hw
set_option maxHeartbeats 1000000
/-! Halvewright: rules of our own: list(reversed(xs)), a loop over zip with one name. -/
namespace Hw
open PySem PySem.Spec PyProof.Rows L2

section
variable {prog : Program} {w : World} {A : Around} {E : Value → Shared → Prop} {s : Shared} {it l S : Addr} {items : Array Value}
abbrev BackAt (items : Array Value) (k : Nat) (v : Value) : Prop := items[items.size - 1 - k]? = some v
theorem fillRev {R : Result → Shared → Prop} {c0 : Nat} (hA : A.handled = none) (hi : s.heap.IsRevIter it l ((items.size : Int) - 1)) (hl : s.heap.IsList l items) (nl : l ≠ it) (nSi : S ≠ it) (nSl : S ≠ l)
    (hS : s.heap.get? S = some { cls := .type "list", data := .seq #[] c0 }) (hn : items.size ≤ sizeLine)
    (fin : ∀ (g : Heap) (tk : Nat) (acc : Array Value) (c : Nat), (∀ b o, b ≠ S → b ≠ it → s.heap.get? b = some o → g.get? b = some o) →
      g.get? S = some { cls := .type "list", dict := none, data := .seq acc c, slots := #[] } → ItemsOf (BackAt items) acc items.size → R (.ok (.ret .none)) { s with heap := g, toks := tk }) :
    wpAny (model prog w) A.in1 (Builtin.List.listExtendWith (.ref S) (.ref it) .none)
      (fun x t => match x with
        | .done f => R (.ok f) t
        | .again d => d.quiet = true ∧ codeAny (model prog w) A d R t) (fun e t => R (.error e) t) s := by
  have Wk := (Walks.listRev (prog := prog) (w := w) (A := A.in1) hA it l nl items).toS
  have notin : S ∉ [it, l] := by
    intro z
    rcases List.mem_cons.mp z with z | z
    · exact nSi z
    · exact nSl (List.mem_singleton.mp z)
  have ty : s.TypeIs (.ref it) "list_reverseiterator" := hi.typeIs
  have other : Builtin.List.listSameRef (.ref S) (.ref it) = false := by simp [Builtin.List.listSameRef, nSi]
  unfold Builtin.List.listExtendWith
  refine wpAny_bind (wpAny_typeOf ty ?_)
  rw [if_neg (by rw [other]; decide)]
  refine wpAny_bind (wpAny_pyIter_revIter hi (wpAny_bind (wpAny_holding ?_)))
  unfold Builtin.List.listLengthHint
  refine wpAny_bind (wpAny_specialOf ty RT.nolen_lri ?_)
  show wpAny _ _ (specialOf (Value.ref it) (Str.ofString "__length_hint__") >>= _) _ _ s
  refine wpAny_bind (wpAny_specialOf ty RT.hint_lri ?_)
  generalize hj : ("list_reverseiterator.__length_hint__" : String) = j
  wp_delta
  rw [show splitId j = some ("list_reverseiterator", "__length_hint__") from by rw [← hj]; decide +kernel]
  subst hj
  refine wpAny_bind (wpAny_isInstance (b := true) ty (by rw [isSubtype_type]; kernel_rfl) (wpAny_pure ?_))
  rw [if_neg (by decide)]
  have z0 : ((items.size : Nat) : Int) - 1 - ((0 : Nat) : Int) = (items.size : Int) - 1 := by omega
  refine wpAny_pure ⟨plainId_quiet F.plain_extend_loop _, codeAny_extend_loopS Wk hn S notin _ items.size 0 s #[] c0 rfl (Nat.zero_le _) ⟨Nat.zero_le _, by rw [z0]; exact hi, hl⟩ hS (ItemsOf.nil _) fun t acc c mv hT good => ?_⟩
  rw [Moved.eq_with mv]
  exact fin t.heap t.toks acc c (fun b o b1 b2 e => mv.heap b o (fun z => by
    rcases List.mem_cons.mp z with z | z
    · exact b1 z
    · exact b2 (List.mem_singleton.mp z)) e) hT good

theorem listOfRev {Q : Value → Shared → Prop} (hA : A.handled = none) (hi : s.heap.IsRevIter it l ((items.size : Int) - 1)) (hl : s.heap.IsList l items) (nl : l ≠ it) (hn : items.size ≤ sizeLine)
    (fin : ∀ (g : Heap) (tk : Nat) (acc : Array Value) (c : Nat), (∀ b o, b ≠ it → s.heap.get? b = some o → g.get? b = some o) →
      g.get? s.heap.objs.size = some { cls := .type "list", dict := none, data := .seq acc c, slots := #[] } → ItemsOf (BackAt items) acc items.size → Q (.ref s.heap.objs.size) { s with heap := g, toks := tk }) :
    wpAny (model prog w) A (call (.type "list") [.ref it]) Q E s := by
  obtain ⟨oi, hoi, _⟩ := id hi
  obtain ⟨ol, hol, _⟩ := id hl
  have lt1 := Heap.lt_size hoi
  have lt2 := Heap.lt_size hol
  refine callType_codes (Q₁ := fun v t => v = .ref s.heap.objs.size ∧ t = { s with heap := s.heap.push { cls := .type "list", data := .seq #[] } }) F.called_list (F.typeCall_list_1 _) F.entry_list_init (code_list_new _ ⟨rfl, rfl⟩) fun v t hv => ?_
  obtain ⟨rfl, rfl⟩ := hv
  have new : (s.heap.push { cls := .type "list", data := .seq #[] }).get? s.heap.objs.size = some { cls := .type "list", data := .seq #[] } := Heap.get?_push_size _ rfl
  refine ⟨⟨_, new, rfl⟩, F.args_list_init_2 _ _, ?_⟩
  show wpAny _ _ (do let was ← Builtin.List.listItems (.ref s.heap.objs.size); Builtin.List.listUpdate (.ref s.heap.objs.size) (fun _ => #[]); letGo was.toList.reverse; Builtin.List.listExtendWith (.ref s.heap.objs.size) (.ref it) .none) _ _ _
  unfold Builtin.List.listItems
  refine wpAny_bind (wpAny_bind (wpAny_seqItems new rfl (wpAny_pure ?_)))
  show wpAny _ _ (updateSeq s.heap.objs.size (fun _ => #[]) >>= fun _ => letGo (#[] : Array Value).toList.reverse >>= fun _ => Builtin.List.listExtendWith (.ref s.heap.objs.size) (.ref it) .none) _ _ _
  refine wpAny_bind (wpAny_updateSeq new rfl (wpAny_bind (wpAny_letGo ?_)))
  have up := Heap.get?_update_self (Obj.mapSeq (fun _ => (#[] : Array Value))) new rfl
  have keep : ∀ b o, s.heap.get? b = some o → ((s.heap.push { cls := .type "list", data := .seq #[] }).update s.heap.objs.size (Obj.mapSeq (fun _ => (#[] : Array Value)))).get? b = some o := fun b o e =>
    (Heap.get?_update_other _ _ (Nat.ne_of_gt (Heap.lt_size e))).trans (Heap.get?_push_of_some _ e)
  refine fillRev (items := items) (l := l) hA (hi.at fun o e => keep _ _ e) ⟨ol, keep _ _ hol, by obtain ⟨o, e, r⟩ := hl; rw [hol] at e; cases e; exact r⟩ nl (Nat.ne_of_gt lt1) (Nat.ne_of_gt lt2) up hn fun g tk acc c k1 k2 k3 => ?_
  exact ⟨rfl, fin g tk acc c (fun b o b2 e => k1 b o (Nat.ne_of_lt (Heap.lt_size e)) b2 (keep b o e)) k2 k3⟩
end

/-! ### list(reversed(xs)) -/
def tListRev (K : PySem.W.Frag) (te : TE) : TE := fun σ H Q => tCons te tNil σ H fun vs H1 => ∃ a xs, vs = [V.ref a] ∧ SqL K H1 a xs ∧ ∀ p, H1 p = none → Q (.ref p) (upd H1 p (.lst xs.reverse))
theorem vals_back {xs : List V} {us : List Value} (r : Vals xs us) {acc : Array Value} (h : ItemsOf (BackAt us.toArray) acc us.toArray.size) : Vals xs.reverse acc.toList := by
  have hl := r.length
  have hs : acc.size = us.length := by rw [h.1]; simp
  refine vals_of_at (by simp [hs, hl]) fun j x u h1 h2 => ?_
  have hj : j < xs.reverse.length := (List.getElem?_eq_some_iff.mp h1).1
  rw [List.length_reverse] at hj
  rw [List.getElem?_reverse hj] at h1
  have h3 : us.toArray[us.toArray.size - 1 - j]? = some u := h.2 j u (by rw [← Array.getElem?_toList]; exact h2)
  obtain ⟨v, e1, e2⟩ := r.get h1
  have h4 : us[xs.length - 1 - j]? = some u := by
    have : us.toArray.size - 1 - j = xs.length - 1 - j := by simp [hl]
    rw [this] at h3
    simpa using h3
  rw [h4] at e1
  cases e1
  exact e2
theorem pe_listrev {X : Cx} {e : Expr} {te : TE} {p p2 pos pos2 : Pos} (hc : X.calm = true) (hg : Gl X "list") (hm : X.mg "list" = none) (hg2 : Gl X "reversed") (hm2 : X.mg "reversed" = none) (he : PE X e te)
    (st : starEach [e] X.env = (false, eval e X.env) :: starEach [] X.env := by rfl)
    (st2 : starEach [.Call (.Name "reversed" p2) [e] [] pos2] X.env = (false, eval (.Call (.Name "reversed" p2) [e] [] pos2) X.env) :: starEach [] X.env := by rfl) :
    PE X (.Call (.Name "list" p) [.Call (.Name "reversed" p2) [e] [] pos2] [] pos) (tListRev X.K te) := by
  refine ⟨fun pins s σ H Q I h => ?_⟩
  refine wpAny_Call_Name_kw (ld_blt I hg hm bl_list ?_)
  refine PyProof.Rows.callWith_type1 ?_ st2 rfl
  rw [st2]
  refine Calls.spliced_cons ?_
  refine wpAny_Call_Name_kw (ld_blt I hg2 hm2 bl_reversed ?_)
  refine PyProof.Rows.callWith_type1 (thn ((pa_cons he pa_nil st).run pos2 pins s σ H _ I h) fun us s1 ⟨vs, H1, I1, r, q⟩ => ?_) st rfl
  obtain ⟨a, xs, rfl, hq, q⟩ := q
  obtain ⟨u, rfl, ru⟩ := vals1 r
  cases ru
  obtain ⟨its, rv, pl, hz⟩ := I1.list hq
  have hl := rv.length
  refine call_reversed_list pl.isList (Calls.spliced_nil ?_)
  have is1 : (s1.heap.push (revObj a ((its.toArray.size : Int) - 1))).get? s1.heap.objs.size = some (revObj a ((its.toArray.size : Int) - 1)) := Heap.get?_push_size _ rfl
  have ne : a ≠ s1.heap.objs.size := Nat.ne_of_lt pl.lt
  refine listOfRev (s := { s1 with heap := s1.heap.push (revObj a ((its.toArray.size : Int) - 1)) }) (items := its.toArray) (l := a) (I.ok.hd hc) ⟨_, is1, rfl, rfl⟩ (pl.isList.push _) ne (by simp; omega) fun g tk acc c k1 k2 k3 => ?_
  have kp : ∀ b o, s1.heap.get? b = some o → g.get? b = some o := fun b o z => k1 b o (Nat.ne_of_lt (Heap.lt_size z)) (Heap.get?_push_of_some _ z)
  have le : s1.heap.objs.size ≤ (s1.heap.push (revObj a ((its.toArray.size : Int) - 1))).objs.size := by rw [Heap.size_push]; exact Nat.le_succ _
  refine ⟨.ref _, _, I1.laid (o := .lst xs.reverse) (t' := tk) kp le ⟨by rw [List.length_reverse]; exact hz, acc.toList, c, vals_back rv k3, by rw [Array.toArray_toList]; exact k2⟩, rfl, q _ (I1.hok.fresh le)⟩

/-! ### for p in zip(xs, ys): the pair held by one name -/
/-- the zip's own records before turn i; t: the pair that was given out first -/
def ZipSt (z TI TO i1 i2 a b : Addr) (t : Option Addr) (i : Nat) (h : Heap) : Prop :=
  IsPair h TI (.ref i1) (.ref i2) ∧ h.IsListIter i1 a i ∧ h.IsListIter i2 b i ∧ (∃ x y, IsPair h TO x y) ∧
    match t with
    | none => IsZip h z TI TO .none
    | some T => ∃ f, IsZipHeld h z TI TO T f
theorem ZipSt.keep {z TI TO i1 i2 a b : Addr} {t : Option Addr} {i : Nat} {h g : Heap} (q : ZipSt z TI TO i1 i2 a b t i h) (k : ∀ c ∈ [z, TI, TO, i1, i2], ∀ o, h.get? c = some o → g.get? c = some o) : ZipSt z TI TO i1 i2 a b t i g := by
  obtain ⟨q1, q2, q3, ⟨x, y, q4⟩, q5⟩ := q
  refine ⟨k TI (by simp) _ q1, q2.at fun o e => k i1 (by simp) o e, q3.at fun o e => k i2 (by simp) o e, ⟨x, y, k TO (by simp) _ q4⟩, ?_⟩
  cases t with
  | none => exact k z (by simp) _ q5
  | some T => obtain ⟨f, q5⟩ := q5; exact ⟨f, k z (by simp) _ q5⟩
theorem ZipSt.objs {z TI TO i1 i2 a b : Addr} {t : Option Addr} {i : Nat} {h : Heap} (q : ZipSt z TI TO i1 i2 a b t i h) : ∀ c ∈ [z, TI, TO, i1, i2], ∃ o, h.get? c = some o ∧ ∀ v, o.data ≠ .cell v := by
  obtain ⟨q1, ⟨o1, e1, _, d1⟩, ⟨o2, e2, _, d2⟩, ⟨x, y, q4⟩, q5⟩ := q
  intro c hc
  have hc' : c = z ∨ c = TI ∨ c = TO ∨ c = i1 ∨ c = i2 := by simpa using hc
  rcases hc' with rfl | rfl | rfl | rfl | rfl
  · cases t with
    | none => exact ⟨_, q5, fun v n => nomatch n⟩
    | some T => obtain ⟨f, q5⟩ := q5; exact ⟨_, q5, fun v n => nomatch n⟩
  · exact ⟨_, q1, fun v n => nomatch n⟩
  · exact ⟨_, q4, fun v n => nomatch n⟩
  · exact ⟨o1, e1, fun v n => by rw [d1] at n; cases n⟩
  · exact ⟨o2, e2, fun v n => by rw [d2] at n; cases n⟩

/-- W: what holds between the turns (turn, the first pair, slots, heap) -/
def tForZ (K : PySem.W.Frag) (ta : TA) (g : TG) (tb : TS) : TS := fun D σ H => ta σ H fun vs H1 => ∃ (a b : Addr) (xs ys : List V), vs = [V.ref a, V.ref b] ∧ SqL K H1 a xs ∧ SqL K H1 b ys ∧ xs.length = ys.length ∧
  ∃ W : Nat → Option Addr → L2.St → Hp → Prop, W 0 none σ H1 ∧ (∀ i t σ2 H2, W i t σ2 H2 → SqL K H2 a xs ∧ SqL K H2 b ys ∧ ∀ T, t = some T → ∃ l, H2 T = some (.tup l)) ∧
    (∀ i t x y T σ2 H2, xs[i]? = some x → ys[i]? = some y → W i t σ2 H2 → H2 T = none → g (.ref T) σ2 (upd H2 T (.tup [x, y])) fun σ3 H3 =>
      tb { D with nx := W (i + 1) (some (t.getD T)), ct := W (i + 1) (some (t.getD T)), bk := D.nx } σ3 H3) ∧
    ∀ t σ2 H2, W xs.length t σ2 H2 → D.nx σ2 H2
theorem ps_forZ {X : Cx} {x : Str} {px p pos fpos : Pos} {e e2 : Expr} {body : List Stmt} {ta : TA} {g : TG} {tb : TS} (hp : PassesOwn (model X.prog X.w) X.A X.env X.xe) (hc : X.calm = true) (hg : Gl X "zip") (hm : X.mg "zip" = none) (ha : PA X [e, e2] ta)
    (ht : PG X (.Name x px) g) (hb : PSs X body tb) (hs : starEach [e, e2] X.env = (false, eval e X.env) :: starEach [e2] X.env := by rfl) (hpl : (backTo pos (starEach [e2] X.env)).any (·.1) = false := by rfl)
    (hf : ∀ q, foldedSetIterable (.Call (.Name "zip" p) [e, e2] [] pos) X.env q = pure q := by intro _; rfl) :
    PS X (.For (.Name x px) (.Call (.Name "zip" p) [e, e2] [] pos) body [] fpos) (tForZ X.K ta g tb) := by
  refine ⟨fun pins s σ H D I h => wpAny_For ?_ hf⟩
  refine Call_ (ld_blt I hg hm PyProof.Rows.boot_zip (PyProof.Rows.callWith_type1 (thn (ha.run pos pins s σ H _ I h) fun us s1 ⟨vs, H1, I1, r1, q1⟩ => ?_) hs hpl))
  obtain ⟨a, b, xs, ys, rfl, hqx, hqy, hlen, W, w0, wq, wt, wd⟩ := q1
  obtain ⟨u1, u2, rfl, ra, rb⟩ := vals2 r1
  cases ra
  cases rb
  obtain ⟨ia, rva, pa, _⟩ := I1.list hqx
  obtain ⟨ib, rvb, pb, _⟩ := I1.list hqy
  refine call_zip_2 pa.isList pb.isList fun h1 hz hTI hTO hi1 hi2 hsz hk => wpAny_pyIter_zip hz ?_
  have D5 := PySem.W.ktu_apart s1.heap.objs.size a b pa.lt pb.lt
  generalize hZ : s1.heap.objs.size + 4 = Z at *
  generalize hI : s1.heap.objs.size + 2 = TI at *
  generalize hO : s1.heap.objs.size + 3 = TO at *
  generalize hA1 : s1.heap.objs.size + 1 = i2 at *
  generalize hA0 : s1.heap.objs.size = i1 at *
  have old : ∀ c ∈ [Z, TI, TO, i1, i2], s1.heap.objs.size ≤ c := fun c hcm => by
    have e' : c = Z ∨ c = TI ∨ c = TO ∨ c = i1 ∨ c = i2 := by simpa using hcm
    rcases e' with rfl | rfl | rfl | rfl | rfl <;> omega
  have I2 : Inv X pins σ H1 { s1 with heap := h1 } := I1.kept (t' := s1.toks) hk
  have F2 : ∀ c ∈ [Z, TI, TO, i1, i2], FpOk X pins H1 c := fun c hcm => I1.fpOk (old c hcm) (I1.hok.fresh (old c hcm))
  have stat : ∀ {H' : Hp}, (∀ c ∈ [Z, TI, TO, i1, i2], H' c = none) → ∀ c ∈ [Z, TI, TO, i1, i2], FpOk X pins H' c := fun n c hcm => ⟨n c hcm, (F2 c hcm).2⟩
  refine codeAny_forLoop_any (fun n s' => ∃ i t σ' H', Inv X pins σ' H' s' ∧ ZipSt Z TI TO i1 i2 a b t i s'.heap ∧ (∀ c ∈ [Z, TI, TO, i1, i2], H' c = none) ∧ W i t σ' H' ∧ n = xs.length - i ∧ i ≤ xs.length) ?_ xs.length
    ⟨0, none, σ, H1, I2, ⟨hTI, hi1, hi2, ⟨_, _, hTO⟩, hz⟩, fun c hcm => (F2 c hcm).1, w0, rfl, Nat.zero_le _⟩
  rintro n s3 ⟨i, t, σ3, H3, I3, z3, n3, w3, rfl, hi⟩
  obtain ⟨q1, q2, alive⟩ := wq i t σ3 H3 w3
  obtain ⟨ja, rja, pja, _⟩ := I3.list q1
  obtain ⟨jb, rjb, pjb, _⟩ := I3.list q2
  have l1 := rja.length
  have l2 := rjb.length
  obtain ⟨zTI, zi1, zi2, ⟨x0, y0, zTO⟩, zz⟩ := z3
  by_cases hlt : i < xs.length
  · -- a turn
    obtain ⟨u, hu, ru⟩ := rja.get (List.getElem?_eq_getElem hlt)
    obtain ⟨v, hv, rv⟩ := rjb.get (List.getElem?_eq_getElem (show i < ys.length by omega))
    have hu' : ja.toArray[i]? = some u := by simpa using hu
    have hv' : jb.toArray[i]? = some v := by simpa using hv
    have lt : ∀ c ∈ [Z, TI, TO, i1, i2], c < s3.heap.objs.size := fun c hcm => by
      obtain ⟨o, e', _⟩ := ZipSt.objs (t := t) ⟨zTI, zi1, zi2, ⟨x0, y0, zTO⟩, zz⟩ c hcm
      exact Heap.lt_size e'
    -- behind the pair's making, whichever way
    have go : ∀ (h' : Heap) (T0 : Addr), ZipSt Z TI TO i1 i2 a b (some (t.getD s3.heap.objs.size)) (i + 1) h' → IsPair h' s3.heap.objs.size u v →
        (∀ c o, c ∉ [Z, TI, TO, i1, i2] → s3.heap.get? c = some o → h'.get? c = some o) →
        wpAny (model X.prog X.w) X.A (assign (.Name x px) X.env (.ref s3.heap.objs.size)) (fun _ s5 => wpAny (model X.prog X.w) X.A (execs body X.env) (fun f s6 => match f with
          | .next | .cont => ∃ m, m < xs.length - i ∧ ∃ i t σ' H', Inv X pins σ' H' s6 ∧ ZipSt Z TI TO i1 i2 a b t i s6.heap ∧ (∀ c ∈ [Z, TI, TO, i1, i2], H' c = none) ∧ W i t σ' H' ∧ m = xs.length - i ∧ i ≤ xs.length
          | .brk => SP X pins D .next s6
          | .ret v => SP X pins D (.ret v) s6) X.xe s5) X.xe { s3 with heap := h' } := fun h' T0 z4 hT hk4 => by
      have new : ObjOk X.prog X.w (upd H3 s3.heap.objs.size (.tup [xs[i], ys[i]'(by omega)])) h' s3.heap.objs.size (.tup [xs[i], ys[i]'(by omega)]) :=
        ⟨by show 2 ≤ sizeLine; decide, [u, v], .cons ru (.cons rv .nil), ⟨_, hT, rfl, _, rfl⟩⟩
      have I4 : Inv X pins σ3 (upd H3 s3.heap.objs.size (.tup [xs[i], ys[i]'(by omega)])) { s3 with heap := h' } := I3.turnedNew (t' := s3.toks) hk4 (stat n3) (Nat.le_refl _) new
      have n4 : ∀ c ∈ [Z, TI, TO, i1, i2], (upd H3 s3.heap.objs.size (.tup [xs[i], ys[i]'(by omega)])) c = none := fun c hcm => by
        rw [upd_ne (Nat.ne_of_lt (lt c hcm))]; exact n3 c hcm
      have I4' := I4.pinned (stat n4) z4.objs
      have turn := wt i t xs[i] (ys[i]'(by omega)) s3.heap.objs.size σ3 H3 (List.getElem?_eq_getElem hlt) (List.getElem?_eq_getElem (by omega)) w3 (I3.hok.fresh (Nat.le_refl _))
      refine thn (ht.run _ { s3 with heap := h' } σ3 _ (.ref s3.heap.objs.size) (.ref s3.heap.objs.size) _ I4' rfl turn) fun _ s5 ⟨σ5, H5, I5, q5⟩ => ?_
      refine thn (hb.run _ s5 σ5 H5 _ I5 q5) fun f s6 q6 => ?_
      have again : ∀ {σ7 : L2.St} {H7 : Hp}, Inv X (pins ++ pinsAt [Z, TI, TO, i1, i2] h') σ7 H7 s6 → W (i + 1) (some (t.getD s3.heap.objs.size)) σ7 H7 →
          ∃ m, m < xs.length - i ∧ ∃ i t σ' H', Inv X pins σ' H' s6 ∧ ZipSt Z TI TO i1 i2 a b t i s6.heap ∧ (∀ c ∈ [Z, TI, TO, i1, i2], H' c = none) ∧ W i t σ' H' ∧ m = xs.length - i ∧ i ≤ xs.length := fun {σ7 H7} I7 w7 => by
        have pin : ∀ c ∈ [Z, TI, TO, i1, i2], ∀ o, h'.get? c = some o → s6.heap.get? c = some o ∧ H7 c = none := fun c hcm o e' => by
          have q := I7.pin (c, o) (List.mem_append_right _ (List.mem_append_right _ (mem_pinsAt hcm e')))
          exact ⟨q.1, q.2.1⟩
        refine ⟨xs.length - (i + 1), by omega, i + 1, _, σ7, H7, I7.unpinned, z4.keep fun c hcm o e' => (pin c hcm o e').1, fun c hcm => ?_, w7, rfl, hlt⟩
        obtain ⟨o, e', _⟩ := z4.objs c hcm
        exact (pin c hcm o e').2
      cases f with
      | next => obtain ⟨σ7, H7, I7, w7⟩ := q6; exact again I7 w7
      | cont => obtain ⟨σ7, H7, I7, w7⟩ := q6; exact again I7 w7
      | brk => obtain ⟨σ7, H7, I7, w7⟩ := q6; exact ⟨σ7, H7, I7.unpinned, w7⟩
      | ret v => obtain ⟨x7, σ7, H7, I7, r7, w7⟩ := q6; exact ⟨x7, σ7, H7, I7.unpinned, r7, w7⟩
    have nin : ∀ {c : Addr}, c ∉ [Z, TI, TO, i1, i2] → c ≠ Z ∧ c ≠ TI ∧ c ≠ TO ∧ c ≠ i1 ∧ c ≠ i2 := fun {c} hcn => by simpa using hcn
    have goes : ∀ {S : Shared} {v : Value} {R : Unit → Shared → Prop} {E' : Value → Shared → Prop}, R () S → wpAny (model X.prog X.w) X.A (letOwnedTupleGo (.Name x px) (.ref Z) v) R E' S := fun q => by
      unfold letOwnedTupleGo
      exact wpAny_pure q
    cases t with
    | none =>
      refine wpAny_passesOwn hp (wpAny_pyNext_zip_item D5 zz zTI zTO zi1 zi2 pja.isList pjb.isList hu' hv' fun h' b1 b2 b3 b4 b5 b6 b7 => ?_)
      have K : ∀ c o, c ∉ [Z, TI, TO, i1, i2] → s3.heap.get? c = some o → h'.get? c = some o := fun c o hcn e' => by
        obtain ⟨c1, c2, c3, c4, c5⟩ := nin hcn
        exact b7 c o c1 c3 c4 c5 e'
      refine wpAny_passesOwn hp (goes (wpAny_passesOwn hp (wpAny_mono (go h' 0 ⟨b7 _ _ D5.TIz D5.TITO D5.TIi1 D5.TIi2 zTI, b3, b4, ⟨u, v, b2⟩, false, b1⟩ b5 K) (fun _ s5 q5 => wpAny_passesOwn hp q5) fun _ _ z => z)))
    | some T =>
      obtain ⟨f, zz⟩ := zz
      obtain ⟨l, hl⟩ := alive T rfl
      obtain ⟨_, its, _, o, ho, _⟩ := (show ObjOk X.prog X.w H3 s3.heap T (.tup l) from I3.hok T _ hl)
      refine wpAny_passesOwn hp (wpAny_pyNext_zip_item_held D5 zz ho zTI zi1 zi2 pja.isList pjb.isList hu' hv' fun h' b1 b3 b4 b5 b6 b7 => ?_)
      have K : ∀ c o, c ∉ [Z, TI, TO, i1, i2] → s3.heap.get? c = some o → h'.get? c = some o := fun c o hcn e' => by
        obtain ⟨c1, c2, c3, c4, c5⟩ := nin hcn
        exact b7 c o c1 c4 c5 e'
      refine wpAny_passesOwn hp (goes (wpAny_passesOwn hp (wpAny_mono (go h' 0 ⟨b7 _ _ D5.TIz D5.TIi1 D5.TIi2 zTI, b3, b4, ⟨x0, y0, b7 _ _ D5.TOz D5.TOi1 D5.TOi2 zTO⟩, true, b1⟩ b5 K) (fun _ s5 q5 => wpAny_passesOwn hp q5) fun _ _ z => z)))
  · -- the end
    have hi' : i = xs.length := by omega
    subst hi'
    have hend : ja.toArray[xs.length]? = none ∨ jb.toArray[xs.length]? = none := .inl (by simp; omega)
    have fin : ∀ h' : Heap, (∀ c o, c ∉ [Z, TI, TO, i1, i2] → s3.heap.get? c = some o → h'.get? c = some o) →
        wpAny (model X.prog X.w) X.A (execs [] X.env) (fun f s5 => SP X pins D f s5) X.xe { s3 with heap := h' } := fun h' k => by
      have I4 : Inv X pins σ3 H3 { s3 with heap := h' } := I3.turnedL (t' := s3.toks) k (stat n3)
      exact wpAny_execs_nil ⟨σ3, H3, I4, wd t σ3 H3 w3⟩
    have nin : ∀ {c : Addr}, c ∉ [Z, TI, TO, i1, i2] → c ≠ Z ∧ c ≠ TI ∧ c ≠ TO ∧ c ≠ i1 ∧ c ≠ i2 := fun {c} hcn => by simpa using hcn
    cases t with
    | none =>
      refine wpAny_passesOwn hp (wpAny_pyNext_zip_end (I3.ok.hd hc) D5 zz zTI zTO zi1 zi2 pja.isList pjb.isList hend fun h' k => ?_)
      exact wpAny_passesOwn hp (fin h' fun c o hcn e' => by
        obtain ⟨c1, c2, c3, c4, c5⟩ := nin hcn
        exact k c o c1 c3 c4 c5 e')
    | some T =>
      obtain ⟨f, zz⟩ := zz
      obtain ⟨l, hl⟩ := alive T rfl
      obtain ⟨_, its, _, o, ho, _⟩ := (show ObjOk X.prog X.w H3 s3.heap T (.tup l) from I3.hok T _ hl)
      refine wpAny_passesOwn hp (wpAny_pyNext_zip_end_held (I3.ok.hd hc) D5 zz ho zTI zi1 zi2 pja.isList pjb.isList hend fun h' k => ?_)
      exact wpAny_passesOwn hp (fin h' fun c o hcn e' => by
        obtain ⟨c1, c2, c3, c4, c5⟩ := nin hcn
        exact k c o c1 c4 c5 e')
end Hw
set_option maxHeartbeats 1000000
/-! Halvewright: enumerate over a tuple; a loop over a dictionary's pairs. -/
namespace Hw
open PySem PySem.Spec PyProof.Rows L2 RT

theorem drawsTuple {prog : Program} {w : World} {A : Around} (hh : A.handled = none) (it l : Addr) (hne : l ≠ it) (items : Array Value) :
    Draws prog w A it [it, l] items.size (fun i v => items[i]? = some v) (fun i h => h.IsTupleIter it l i ∧ h.IsTuple l items) where
  live := fun _ _ st => let ⟨o, ho, _⟩ := st.1; ⟨o, ho⟩
  frame := fun _ _ _ st hk => ⟨st.1.at fun o e => hk it (by simp) o e, st.2.at fun o e => hk l (by simp) o e⟩
  item := fun i s Q E hi st hQ => by
    refine RZ.nextOf_tuple_item st.1 st.2 (x := items[i]) (by simp [hi]) fun h' hit' hs' => ?_
    exact hQ _ h' s.toks (by simp [hi]) ⟨hit', st.2.at fun o e => (hs'.2 l hne).trans e⟩ hs'
  done := fun s Q E st hE => RZ.nextOf_tuple_end hh st.1 st.2 (by simp) hE

theorem meetsEnumT {v : Value} {o : Obj} {H : Heap → Prop} (B : Begins v o H) :
    Meets (Builtin.«enumerate.__new__» ⟨[.type "enumerate", v], []⟩) (fun _ R s => H s.heap ∧
      R (.ok (.ret (.ref (s.heap.push o).objs.size))) { s with heap := (s.heap.push o).push { cls := .type "enumerate", data := .fields #[.none, .bool false, .ref s.heap.objs.size, rawInt 0, .none, .none] } }) :=
  .of_wp fun prog w A R s h => by
    obtain ⟨hp, g, d, tk, os⟩ := s; obtain ⟨h1, h⟩ := h
    have hsub := sub_enumerate
    have q1 : ∀ {A' : Around} {E : Value → Shared → Prop} {Q : Value → Shared → Prop}, Q (.ref hp.objs.size) ⟨hp.push o, g, d, tk, os⟩ → wpAny (model prog w) A' (pyIter v) Q E ⟨hp, g, d, tk, os⟩ :=
      fun q => B.iter prog w _ _ ⟨hp, g, d, tk, os⟩ _ h1 q
    wp_walk using q1
    refine wpAny_stack_any fun st => wpAny_pure ?_
    split
    · rename_i c _ _ _ _ _
      cases (c == Value.type "enumerate")
      · wp_walk using q1
        exact ⟨_, rfl, h⟩
      · wp_walk using q1
        exact ⟨_, rfl, h⟩
    · wp_walk using q1
      exact ⟨_, rfl, h⟩
section
variable {prog : Program} {w : World} {A : Around} {E : Value → Shared → Prop} {s : Shared}
theorem enumT_begins {v : Value} {o : Obj} {H : Heap → Prop} {Q : Value → Shared → Prop} (B : Begins v o H) (h1 : H s.heap)
    (h : ∀ h', IsEnum h' (s.heap.objs.size + 1) s.heap.objs.size 0 .none → h'.get? s.heap.objs.size = some o → h'.objs.size = s.heap.objs.size + 2 →
      (∀ b o, s.heap.get? b = some o → h'.get? b = some o) → Q (.ref (s.heap.objs.size + 1)) { s with heap := h' }) :
    wpAny (model prog w) A (call (.type "enumerate") [v]) Q E s := by
  refine callType_new F.called_enumerate (by decide) (F.typeCall_enumerate_1 _) (F.newCall_enumerate_1 _) (fun obj => F.args_object_init_2 obj _) F.entry_enumerate_new
    (meetsEnumT B) ⟨h1, ?_⟩
  have hz : (s.heap.push o).objs.size = s.heap.objs.size + 1 := Heap.size_push ..
  show _ ∧ _
  rw [hz]
  have he : IsEnum ((s.heap.push o).push { cls := .type "enumerate", data := .fields #[.none, .bool false, .ref s.heap.objs.size, rawInt 0, .none, .none] }) (s.heap.objs.size + 1) s.heap.objs.size 0 .none := by
    have := Heap.get?_push_size (s.heap.push o) (o := { cls := .type "enumerate", data := .fields #[.none, .bool false, .ref s.heap.objs.size, rawInt 0, .none, .none] }) rfl
    rw [hz] at this; exact this
  refine ⟨⟨_, he, rfl⟩, h _ he (Heap.get?_push_of_some _ (Heap.get?_push_size _ B.free)) (by rw [Heap.size_push, hz]) fun b o x => Heap.get?_push_of_some _ (Heap.get?_push_of_some _ x)⟩
end

/-- the tuple at a, each item in a new pair with its place -/
def IteT (K : PySem.W.Frag) (a : Addr) : It :=
  ⟨fun i H => ∃ (xs : List V) (x : V), SqT K H a xs ∧ xs[i]? = some x, fun i H v H' => ∃ T x, v = .ref T ∧ H T = none ∧ H' = upd H T (.tup [.int (i : Nat), x]) ∧ ∀ xs, SqT K H a xs → xs[i]? = some x, fun i H => ∃ xs : List V, SqT K H a xs ∧ xs.length = i⟩
theorem turnEnumT {P : Program} {w : World} {K : PySem.W.Frag} {elts : List Expr} {kk : Nat} {tpos : Pos} (a e it : Addr) :
    Turn P w K (.Tuple elts kk tpos) (IteT K a) [e, it] e (fun i h => (∃ old, IsEnum h e it ((i : Nat) : Int) old) ∧ h.IsTupleIter it a i ∧ e ≠ it ∧ e ≠ a ∧ a ≠ it) where
  mem := by simp
  obj := fun i h st b hb => by
    obtain ⟨⟨old, he⟩, ⟨o, ho, hc, hd⟩, _⟩ := st
    have e' : b = e ∨ b = it := by simpa using hb
    rcases e' with z | z
    · rw [z]; exact ⟨_, he, fun v q => nomatch q⟩
    · rw [z]; exact ⟨o, ho, fun v q => by rw [hd] at q; cases q⟩
  keep := fun i h h' st k => let ⟨⟨old, he⟩, hi, hne⟩ := st; ⟨⟨old, k e (by simp) _ he⟩, hi.at fun o q => k it (by simp) o q, hne⟩
  item := by
    intro X hP hw hK hc i pins s σ H E I hf st hg
    subst hP hw hK
    obtain ⟨⟨old, he⟩, hit, hne, hea, hai⟩ := st
    obtain ⟨xs, x, hq, hx⟩ := hg
    obtain ⟨its, rv, p, hz⟩ := I.tuple hq
    obtain ⟨u, hu, ru⟩ := rv.get hx
    have hel : e < s.heap.objs.size := Heap.lt_size he
    have hil : it < s.heap.objs.size := by obtain ⟨_, q, _⟩ := hit; exact Heap.lt_size q
    have hp : s.heap.IsTuple a its.toArray := p
    have hiz : i < its.toArray.size := by
      have := (List.getElem?_eq_some_iff.mp hu).1
      simpa using this
    refine wpAny_pyNext_enum_itemC (drawsTuple (A := X.A.in1) (show X.A.in1.handled = none from I.ok.hd hc) it a hai its.toArray) he ⟨hit, hp⟩ hiz hne (by simp [hne, hea]) fun x' h' tk hx' ho hst' hT hsz hk => ?_
    have ex : x' = u := by
      have h1 : its.toArray[i]? = some x' := hx'
      have h2 : its.toArray[i]? = some u := by simpa using hu
      rw [h1] at h2
      exact Option.some.inj h2
    subst ex
    refine ⟨_, rfl, wpAny_letOwnedTupleGo_enum (s := { s with heap := h', toks := tk + 1 }) ho fun h'' he' sb => ?_⟩
    have hT2 : h''.get? s.heap.objs.size = some { cls := .type "tuple", data := .seq #[.int i tk, x'] } := (sb.2 _ (Nat.ne_of_gt hel)).trans hT
    have new : ObjOk X.prog X.w (upd H s.heap.objs.size (.tup [.int (i : Nat), x])) h'' s.heap.objs.size (.tup [.int (i : Nat), x]) :=
      ⟨by show 2 ≤ sizeLine; decide, [.int i tk, x'], .cons ⟨_, rfl⟩ (.cons ru .nil), ⟨_, hT2, rfl, _, rfl⟩⟩
    have I1 : Inv X pins σ (upd H s.heap.objs.size (.tup [.int (i : Nat), x])) { s with heap := h'', toks := tk + 1 } :=
      I.turnedNew (ch := [e, it]) (fun b ob hb q => (sb.2 b (fun z => hb (by simp [z]))).trans (hk b ob (fun z => hb (by simp [z])) (fun z => hb (by simp [z])) q)) hf (Nat.le_refl _) new
    refine ⟨.ref s.heap.objs.size, _, I1, rfl, ⟨_, x, rfl, I.hok.fresh (Nat.le_refl _), rfl, fun ys hy => by rw [I.tuple_inj hy hq]; exact hx⟩, ⟨⟨x', ?_⟩, hst'.1.at fun o q => (sb.2 it (Ne.symm hne)).trans q, hne, hea, hai⟩, fun b hb => ?_⟩
    · have e1 : ((i + 1 : Nat) : Int) = (i : Int) + 1 := by omega
      rw [e1]; exact he'
    · have hb' : b < s.heap.objs.size := by
        have e' : b = e ∨ b = it := by simpa using hb
        rcases e' with z | z
        · rw [z]; exact hel
        · rw [z]; exact hil
      rw [upd_ne (Nat.ne_of_lt hb')]
      exact (hf b hb).1
  done := by
    intro X hP hw hK hc i pins s σ H E I hf st hg
    subst hP hw hK
    obtain ⟨⟨old, he⟩, hit, hne, hea, hai⟩ := st
    obtain ⟨xs, hq, hx⟩ := hg
    obtain ⟨its, rv, p, hz⟩ := I.tuple hq
    obtain ⟨f0, f1, f2, f3, f4, f5⟩ := hf it (by simp)
    have hl := rv.length
    have hp : s.heap.IsTuple a its.toArray := p
    have ei : i = its.toArray.size := by simp; omega
    refine wpAny_pyNext_enum_endD (drawsTuple (A := X.A.in1) (show X.A.in1.handled = none from I.ok.hd hc) it a hai its.toArray) he ⟨ei ▸ hit, hp⟩ fun h' eb => ⟨rfl, I.turned (t' := s.toks) (fun b o hb q => eb b o hb q) f0 f1 f3 f4 f5⟩
  self := fun A i s Q E st h => let ⟨⟨_, he⟩, _⟩ := st; wpAny_pyIter_enum he h
def iEnumT (K : PySem.W.Frag) (ta : TA) : TI := fun σ H R => ta σ H fun vs H1 => ∃ a xs, vs = [.ref a] ∧ SqT K H1 a xs ∧ R (IteT K a) H1
theorem pi_enumT {X : Cx} {e : Expr} {ta : TA} {p pos tpos : Pos} {elts : List Expr} {kk : Nat} (hg : Gl X "enumerate") (hm : X.mg "enumerate" = none) (ha : PA X [e] ta) (hs : starEach [e] X.env = [(false, eval e X.env)] := by rfl) :
    PI X (.Tuple elts kk tpos) (.Call (.Name "enumerate" p) [e] [] pos) (iEnumT X.K ta) := by
  refine ⟨fun pins s σ H R I h => ?_⟩
  refine Call_ (ld_blt I hg hm (by rfl : bootBuiltins "enumerate" = some (.type "enumerate")) (PyProof.Rows.callWith_type1 (thn (ha.run pos pins s σ H _ I h) fun us s1 ⟨vs, H1, I1, r1, q1⟩ => ?_) hs rfl))
  obtain ⟨a, xs, ex, hq, q⟩ := q1
  subst ex
  cases r1 with
  | cons r rr =>
    cases rr
    cases r
    obtain ⟨its, rv, p', hz⟩ := I1.tuple hq
    have hp : s1.heap.IsTuple a its.toArray := p'
    have hal : a < s1.heap.objs.size := by obtain ⟨_, z, _⟩ := hp; exact Heap.lt_size z
    refine enumT_begins (begins_tuple a its.toArray) hp fun h' he hit hsz hk => wpAny_pyIter_enum he ?_
    have I2 : Inv X pins σ H1 { s1 with heap := h' } := I1.kept (t' := s1.toks) hk
    refine ⟨s1.heap.objs.size + 1, [s1.heap.objs.size + 1, s1.heap.objs.size], _, _, H1, rfl, I2, turnEnumT a (s1.heap.objs.size + 1) s1.heap.objs.size, ⟨⟨.none, he⟩, ⟨_, hit, rfl, rfl⟩, Nat.succ_ne_self _, ?_, Nat.ne_of_lt hal⟩, fun b hb => ?_, q⟩
    · intro z
      rw [← z] at hal
      exact absurd hal (Nat.not_lt.mpr (Nat.le_succ _))
    have e' : b = s1.heap.objs.size + 1 ∨ b = s1.heap.objs.size := by simpa using hb
    have hle : s1.heap.objs.size ≤ b := by
      rcases e' with z | z
      · rw [z]; exact Nat.le_add_right _ _
      · rw [z]; exact Nat.le_refl _
    exact I1.fpOk hle (I1.hok.fresh hle)
theorem for_enumT {K : PySem.W.Frag} {a : Addr} {xs : List V} {g : TG} {tb : TS} {D : Ends} {σ : L2.St} {H : Hp} (Pv : Nat → L2.St → Hp → Prop) (h0 : Pv 0 σ H) (hq : ∀ i σ H, Pv i σ H → SqT K H a xs)
    (hs : ∀ i x T σ H, xs[i]? = some x → Pv i σ H → H T = none → g (.ref T) σ (upd H T (.tup [.int (i : Nat), x])) fun σ2 H2 => tb { D with nx := Pv (i + 1), ct := Pv (i + 1), bk := D.nx } σ2 H2) (hd : ∀ σ H, Pv xs.length σ H → D.nx σ H) :
    ∃ W : Nat → Nat → L2.St → Hp → Prop, (∃ m, W 0 m σ H) ∧ ∀ i m σ H, W i m σ H →
      ((IteT K a).stop i H ∧ D.nx σ H) ∨ ((IteT K a).go i H ∧ ∃ N : L2.St → Hp → Prop, (∀ σ' H', N σ' H' → ∃ m', m' < m ∧ W (i + 1) m' σ' H') ∧ ∀ y H', (IteT K a).yld i H y H' → g y σ H' fun σ2 H2 => tb { D with nx := N, ct := N, bk := D.nx } σ2 H2) := by
  refine ⟨fun i m σ H => m = xs.length - i ∧ i ≤ xs.length ∧ Pv i σ H, ⟨xs.length, rfl, Nat.zero_le _, h0⟩, ?_⟩
  rintro i m σ H ⟨rfl, hi, p⟩
  have q := hq i σ H p
  by_cases hlt : i < xs.length
  · refine .inr ⟨⟨xs, xs[i], q, List.getElem?_eq_getElem hlt⟩, Pv (i + 1), fun σ' H' p' => ⟨xs.length - (i + 1), by omega, rfl, hlt, p'⟩, fun y H' hy => ?_⟩
    obtain ⟨T, x, rfl, hT, rfl, hx⟩ := hy
    exact hs i x T σ H (hx xs q) p hT
  · have e : i = xs.length := by omega
    subst e
    exact .inl ⟨⟨xs, q, rfl⟩, hd σ H p⟩

theorem for_enumL {K : PySem.W.Frag} {a : Addr} {xs : List V} {g : TG} {tb : TS} {D : Ends} {σ : L2.St} {H : Hp} (Pv : Nat → L2.St → Hp → Prop) (h0 : Pv 0 σ H) (hq : ∀ i σ H, Pv i σ H → SqL K H a xs)
    (hs : ∀ i x T σ H, xs[i]? = some x → Pv i σ H → H T = none → g (.ref T) σ (upd H T (.tup [.int (i : Nat), x])) fun σ2 H2 => tb { D with nx := Pv (i + 1), ct := Pv (i + 1), bk := D.nx } σ2 H2) (hd : ∀ σ H, Pv xs.length σ H → D.nx σ H) :
    ∃ W : Nat → Nat → L2.St → Hp → Prop, (∃ m, W 0 m σ H) ∧ ∀ i m σ H, W i m σ H →
      ((Ite K a).stop i H ∧ D.nx σ H) ∨ ((Ite K a).go i H ∧ ∃ N : L2.St → Hp → Prop, (∀ σ' H', N σ' H' → ∃ m', m' < m ∧ W (i + 1) m' σ' H') ∧ ∀ y H', (Ite K a).yld i H y H' → g y σ H' fun σ2 H2 => tb { D with nx := N, ct := N, bk := D.nx } σ2 H2) := by
  refine ⟨fun i m σ H => m = xs.length - i ∧ i ≤ xs.length ∧ Pv i σ H, ⟨xs.length, rfl, Nat.zero_le _, h0⟩, ?_⟩
  rintro i m σ H ⟨rfl, hi, p⟩
  have q := hq i σ H p
  by_cases hlt : i < xs.length
  · refine .inr ⟨⟨xs, xs[i], q, List.getElem?_eq_getElem hlt⟩, Pv (i + 1), fun σ' H' p' => ⟨xs.length - (i + 1), by omega, rfl, hlt, p'⟩, fun y H' hy => ?_⟩
    obtain ⟨T, x, rfl, hT, rfl, hx⟩ := hy
    exact hs i x T σ H (hx xs q) p hT
  · exact .inl ⟨⟨xs, q, by omega⟩, hd σ H (by have e : i = xs.length := by omega
                                              rw [← e]; exact p)⟩
/-- a loop over a dictionary's pairs -/
theorem for_pairs {d : Addr} {o : Obj} {kvs : List (Key × V)} {g : TG} {tb : TS} {D : Ends} {σ : L2.St} {H : Hp} (Pv : Nat → L2.St → Hp → Prop) (h0 : Pv 0 σ H) (hq : ∀ i σ H, Pv i σ H → H d = some (.frz o (.dK kvs)))
    (hs : ∀ i k v T σ H, kvs[i]? = some (k, v) → Pv i σ H → H T = none → g (.ref T) σ (upd H T (.tup [kV k, v])) fun σ2 H2 => tb { D with nx := Pv (i + 1), ct := Pv (i + 1), bk := D.nx } σ2 H2) (hd : ∀ σ H, Pv kvs.length σ H → D.nx σ H) :
    ∃ W : Nat → Nat → L2.St → Hp → Prop, (∃ m, W 0 m σ H) ∧ ∀ i m σ H, W i m σ H →
      ((Iti d o kvs).stop i H ∧ D.nx σ H) ∨ ((Iti d o kvs).go i H ∧ ∃ N : L2.St → Hp → Prop, (∀ σ' H', N σ' H' → ∃ m', m' < m ∧ W (i + 1) m' σ' H') ∧ ∀ y H', (Iti d o kvs).yld i H y H' → g y σ H' fun σ2 H2 => tb { D with nx := N, ct := N, bk := D.nx } σ2 H2) := by
  refine ⟨fun i m σ H => m = kvs.length - i ∧ i ≤ kvs.length ∧ Pv i σ H, ⟨kvs.length, rfl, Nat.zero_le _, h0⟩, ?_⟩
  rintro i m σ H ⟨rfl, hi, p⟩
  have q := hq i σ H p
  by_cases hlt : i < kvs.length
  · refine .inr ⟨⟨q, hlt⟩, Pv (i + 1), fun σ' H' p' => ⟨kvs.length - (i + 1), by omega, rfl, hlt, p'⟩, fun y H' hy => ?_⟩
    obtain ⟨T, k, v, hk, rfl, hT, rfl⟩ := hy
    exact hs i k v T σ H hk p hT
  · have e : i = kvs.length := by omega
    subst e
    exact .inl ⟨⟨q, Nat.le_refl _⟩, hd σ H p⟩
end Hw
set_option maxHeartbeats 4000000
/-! Halvewright: the walks over trees. -/
namespace Hw
open PySem L2
section
variable {P : Program} {w : World} {K : PySem.W.Frag} {mg : Str → Option Value} {base : Heap} {f : Addr} {fd : FuncData}

abbrev s_leaves : Stmt := top 24
abbrev N_leaves : List Str := ["tree"]
abbrev P_leaves : List Str := ["tree"]
theorem sc_leaves : FnScope N_leaves P_leaves (defScope s_leaves) := ⟨rfl, rfl, rfl, by decide +kernel, rfl, by decide +kernel, by decide +kernel⟩
def spLeaves (n : Nat) : Sp := fun vs H Q _ => ∃ v t, vs = [v] ∧ IsT H v t ∧ t.depth < n ∧ t.depth ≤ 60 ∧ ∀ H', Same H H' → Q (.int t.leaves) H'
theorem ok_leaves {n : Nat} (F : Fun K "leaves" "leaves" s_leaves f fd) (c_leaves : Cal P w K mg base n "leaves" P_leaves (spLeaves n)) : FnOk P w K mg base CX0 (n + 1) f fd P_leaves (spLeaves (n + 1)) := by
  have nd := sc_leaves.nd
  refine F.ok sc_leaves (fun vs H Q E h => ?_) (fun cdv A outer s H vs Q E hr h => ?_)
  · obtain ⟨v, t, rfl, _⟩ := h; rfl
  obtain ⟨v, t, rfl, ht, hd, hd6, q⟩ := h
  have hu64 := hr.units
  have L_leaves : n ≤ n := Nat.le_refl _
  refine ⟨_, (pss_cons (ps_if (pt_cmpR (op_eqD hu64) (pv 0) (pe_tup pa_nil) (nomark _))
        (pss_one (ps_ret pe_int))
        pss_nil)
      (pss_one (ps_ret (pe_op op_add (pe_cal c_leaves (hr.mono L_leaves) (by rfl) (pa_cons (pe_ix ix_tup (pv 0) pe_int (fun _ _ => rfl)) pa_nil)) (pe_cal c_leaves (hr.mono L_leaves) (by rfl) (pa_cons (pe_ix ix_tup (pv 0) pe_int (fun _ _ => rfl)) pa_nil)))))), ?_⟩
  refine if_leaf (t := t) rfl ht (by omega) (fun e H1 s1 => ?_) (fun l r e H1 s1 => ?_)
  · subst e
    exact q H1 s1
  · subst e
    have hd' : max l.depth r.depth + 1 < n + 1 := hd
    have hd6' : max l.depth r.depth + 1 ≤ 60 := hd6
    obtain ⟨a, x, y, rfl, ha, hl, hr'⟩ := ht.mono s1.tk
    refine ⟨_, rfl, a, _, _, x, rfl, rfl, SqT.of ha, rfl, x, l, rfl, hl, by omega, by omega, fun H2 s2 => ?_⟩
    refine ⟨_, rfl, a, _, _, y, rfl, rfl, SqT.of (s2 _ _ ha), rfl, y, r, rfl, hr'.mono s2.tk, by omega, by omega, fun H3 s3 => ?_⟩
    refine ⟨_, _, rfl, rfl, ?_⟩
    exact q H3 (s1.trans (s2.trans s3))
theorem cal_leaves (D : DefAt K mg "leaves" s_leaves P_leaves) : ∀ n, Cal P w K mg base n "leaves" P_leaves (spLeaves n)
  | 0 => D.cal fun _ _ _ => FnOk.none fun vs H Q E h => by obtain ⟨_, _, _, _, h, _⟩ := h; omega
  | n + 1 => D.cal fun _ _ F => ok_leaves F (cal_leaves D n)

abbrev s_both : Stmt := top 25
abbrev N_both : List Str := ["one", "other"]
abbrev P_both : List Str := ["one", "other"]
theorem sc_both : FnScope N_both P_both (defScope s_both) := ⟨rfl, rfl, rfl, by decide +kernel, rfl, by decide +kernel, by decide +kernel⟩
def spBoth (n : Nat) : Sp := fun vs H Q _ => ∃ v w a b, vs = [v, w] ∧ IsT H v a ∧ IsT H w b ∧ a.depth < n ∧ a.depth ≤ 60 ∧ b.depth ≤ 60 ∧ ∀ r H', Same H H' → IsT H' r (both a b) → Q r H'
theorem ok_both {n : Nat} (F : Fun K "both" "both" s_both f fd) (c_both : Cal P w K mg base n "both" P_both (spBoth n)) : FnOk P w K mg base CX0 (n + 1) f fd P_both (spBoth (n + 1)) := by
  have nd := sc_both.nd
  refine F.ok sc_both (fun vs H Q E h => ?_) (fun cdv A outer s H vs Q E hr h => ?_)
  · obtain ⟨v, u, a, b, rfl, _⟩ := h; rfl
  obtain ⟨v, u, a, b, rfl, ha, hb, hd, hd6, hd7, q⟩ := h
  have hu64 := hr.units
  have L_both : n ≤ n := Nat.le_refl _
  refine ⟨_, (pss_cons (ps_if (pt_cmpR (op_eqD hu64) (pv 0) (pe_tup pa_nil) (nomark _))
        (pss_one (ps_ret (pv 1)))
        pss_nil)
      (pss_cons (ps_if (pt_cmpR (op_eqD hu64) (pv 1) (pe_tup pa_nil) (nomark _))
        (pss_one (ps_ret (pv 0)))
        pss_nil)
      (pss_one (ps_ret (pe_tup (pa_cons (pe_cal c_both (hr.mono L_both) (by rfl) (pa_cons (pe_ix ix_tup (pv 0) pe_int (fun _ _ => rfl)) (pa_cons (pe_ix ix_tup (pv 1) pe_int (fun _ _ => rfl)) pa_nil))) (pa_cons (pe_cal c_both (hr.mono L_both) (by rfl) (pa_cons (pe_ix ix_tup (pv 0) pe_int (fun _ _ => rfl)) (pa_cons (pe_ix ix_tup (pv 1) pe_int (fun _ _ => rfl)) pa_nil))) pa_nil))))))), ?_⟩
  refine if_leaf (t := a) rfl ha (by omega) (fun e H1 s1 => ?_) (fun l r e H1 s1 => ?_)
  · subst e
    exact ⟨_, rfl, q u H1 s1 (hb.mono s1.tk)⟩
  subst e
  refine if_leaf (t := b) rfl (hb.mono s1.tk) (by omega) (fun e H2 s2 => ?_) (fun l' r' e H2 s2 => ?_)
  · subst e
    exact ⟨_, rfl, q v H2 (s1.trans s2) ((ha.mono s1.tk).mono s2.tk)⟩
  subst e
  have hd' : max l.depth r.depth + 1 < n + 1 := hd
  have hd6' : max l.depth r.depth + 1 ≤ 60 := hd6
  have hd7' : max l'.depth r'.depth + 1 ≤ 60 := hd7
  obtain ⟨p, x, y, rfl, hp, hl, hr1⟩ := ha.mono (s1.trans s2).tk
  obtain ⟨p', x', y', rfl, hp', hl', hr'⟩ := hb.mono (s1.trans s2).tk
  refine ⟨_, rfl, p, _, _, x, rfl, rfl, SqT.of hp, rfl, _, rfl, p', _, _, x', rfl, rfl, SqT.of hp', rfl, x, x', l, l', rfl, hl, hl', by omega, by omega, by omega, fun r1 H3 s3 m1 => ?_⟩
  refine ⟨_, rfl, p, _, _, y, rfl, rfl, SqT.of (s3 _ _ hp), rfl, _, rfl, p', _, _, y', rfl, rfl, SqT.of (s3 _ _ hp'), rfl, y, y', r, r', rfl, hr1.mono s3.tk, hr'.mono s3.tk, by omega, by omega, by omega, fun r2 H4 s4 m2 => ?_⟩
  refine ⟨(by show 2 ≤ sizeLine; decide), fun g hg => ?_⟩
  have s5 := same_new hg (.tup [r1, r2])
  exact q (.ref g) _ (s1.trans (s2.trans (s3.trans (s4.trans s5)))) ⟨g, r1, r2, rfl, upd_same, (m1.mono s4.tk).mono s5.tk, m2.mono s5.tk⟩
theorem cal_both (D : DefAt K mg "both" s_both P_both) : ∀ n, Cal P w K mg base n "both" P_both (spBoth n)
  | 0 => D.cal fun _ _ _ => FnOk.none fun vs H Q E h => by obtain ⟨_, _, _, _, _, _, _, h, _⟩ := h; omega
  | n + 1 => D.cal fun _ _ F => ok_both F (cal_both D n)
end
end Hw
set_option maxHeartbeats 4000000
/-! Halvewright: walks that fill lists, halves. -/
namespace Hw
open PySem L2
section
variable {P : Program} {w : World} {K : PySem.W.Frag} {mg : Str → Option Value} {base : Heap} {f : Addr} {fd : FuncData}

def pathsV (p : Path) (t : T) : List V := t.paths.map fun q => V.str (pstr (p ++ q))
theorem pathsV_node (p : Path) (l r : T) : pathsV p (.node l r) = pathsV (p ++ [false]) l ++ pathsV (p ++ [true]) r := by
  unfold pathsV
  show (l.paths.map (false :: ·) ++ r.paths.map (true :: ·)).map _ = _
  rw [List.map_append, List.map_map, List.map_map]
  congr 1
  · exact List.map_congr_left fun a _ => by simp
  · exact List.map_congr_left fun a _ => by simp
theorem pathsV_length (p : Path) (t : T) : (pathsV p t).length = t.leaves := by
  unfold pathsV
  rw [List.length_map, T.paths_length]
abbrev s_paths_into : Stmt := top 27
abbrev N_paths_into : List Str := ["tree", "path", "found"]
abbrev P_paths_into : List Str := ["tree", "path", "found"]
theorem sc_paths_into : FnScope N_paths_into P_paths_into (defScope s_paths_into) := ⟨rfl, rfl, rfl, by decide +kernel, rfl, by decide +kernel, by decide +kernel⟩
def spPathsInto (n : Nat) : Sp := fun vs H Q _ => ∃ v t p a xs, vs = [v, .str (pstr p), .ref a] ∧ IsT H v t ∧ H a = some (.lst xs) ∧ t.depth < n ∧ t.depth ≤ 60 ∧ p.length + t.depth ≤ 100 ∧ xs.length + t.leaves ≤ 1000 ∧
  ∀ H', SameX [a] H H' → H' a = some (.lst (xs ++ pathsV p t)) → Q .non H'
theorem ok_paths_into {n : Nat} (F : Fun K "paths_into" "paths_into" s_paths_into f fd) (c_paths_into : Cal P w K mg base n "paths_into" P_paths_into (spPathsInto n)) : FnOk P w K mg base CX0 (n + 1) f fd P_paths_into (spPathsInto (n + 1)) := by
  have nd := sc_paths_into.nd
  refine F.ok sc_paths_into (fun vs H Q E h => ?_) (fun cdv A outer s H vs Q E hr h => ?_)
  · obtain ⟨v, t, p, a, xs, rfl, _⟩ := h; rfl
  obtain ⟨v, t, p, a, xs, rfl, ht, ha, hd, hd6, hp, hl, q⟩ := h
  have hu64 := hr.units
  have L_paths_into : n ≤ n := Nat.le_refl _
  refine ⟨_, (pss_one (ps_if (pt_cmpR (op_eqD hu64) (pv 0) (pe_tup pa_nil) (nomark _))
        (pss_one (ps_expr (pe_bm PySem.F.plainAttrs_list PySem.F.slot_list_append PySem.F.type_list_append mt_append (pv 2) (pa_cons (pv 1) pa_nil))))
        (pss_cons (ps_expr (pe_cal c_paths_into (hr.mono L_paths_into) (by rfl) (pa_cons (pe_ix ix_tup (pv 0) pe_int (fun _ _ => rfl)) (pa_cons (pe_op op_add_str (pv 1) pe_str) (pa_cons (pv 2) pa_nil)))))
        (pss_one (ps_expr (pe_cal c_paths_into (hr.mono L_paths_into) (by rfl) (pa_cons (pe_ix ix_tup (pv 0) pe_int (fun _ _ => rfl)) (pa_cons (pe_op op_add_str (pv 1) pe_str) (pa_cons (pv 2) pa_nil))))))))), ?_⟩
  refine if_leaf (t := t) rfl ht (by omega) (fun e H1 s1 => ?_) (fun l r e H1 s1 => ?_)
  · subst e
    refine ⟨_, rfl, Or.inl ⟨rfl, _, SqL.of (s1 _ _ ha)⟩, _, rfl, a, xs, _, rfl, rfl, s1 _ _ ha, line1000' (by omega), ?_⟩
    refine q _ ((s1.x [a]).trans (samex_upd _ (List.mem_singleton.mpr rfl))) ?_
    rw [upd_same]
    show _ = some (HO.lst (xs ++ [V.str (pstr (p ++ []))]))
    rw [List.append_nil]
  · subst e
    have hd' : max l.depth r.depth + 1 < n + 1 := hd
    have hd6' : max l.depth r.depth + 1 ≤ 60 := hd6
    have hp' : p.length + (max l.depth r.depth + 1) ≤ 100 := hp
    have hl' : xs.length + (l.leaves + r.leaves) ≤ 1000 := hl
    obtain ⟨b, x, y, rfl, hb, hL, hR⟩ := ht.mono s1.tk
    have ha1 := s1 _ _ ha
    have z0 : (pstr p).length + (Str.ofString "0").length ≤ sizeLine := by rw [pstr_len, pstr_0, pstr_len]; exact line1000 (by simp; omega)
    have z1 : (pstr p).length + (Str.ofString "1").length ≤ sizeLine := by rw [pstr_len, pstr_1, pstr_len]; exact line1000 (by simp; omega)
    refine ⟨_, rfl, b, _, _, x, rfl, rfl, SqT.of hb, rfl, _, rfl, _, _, rfl, rfl, z0, _, rfl, x, l, p ++ [false], a, xs, ?_, hL, ha1, by omega, by omega, by simp; omega, by omega, fun H2 s2 e2 => ?_⟩
    · rw [pstr_0, pstr_append]; rfl
    have k2 := s2.tk1 ha1
    refine ⟨_, rfl, b, _, _, y, rfl, rfl, SqT.of (k2 _ _ hb), rfl, _, rfl, _, _, rfl, rfl, z1, _, rfl, y, r, p ++ [true], a, xs ++ pathsV (p ++ [false]) l, ?_, hR.mono k2, e2, by omega, by omega, by simp; omega, by rw [List.length_append, pathsV_length]; omega, fun H3 s3 e3 => ?_⟩
    · rw [pstr_1, pstr_append]; rfl
    refine q H3 ((s1.x [a]).trans (s2.trans s3)) ?_
    rw [e3, pathsV_node, List.append_assoc]
theorem cal_paths_into (D : DefAt K mg "paths_into" s_paths_into P_paths_into) : ∀ n, Cal P w K mg base n "paths_into" P_paths_into (spPathsInto n)
  | 0 => D.cal fun _ _ _ => FnOk.none fun vs H Q E h => by obtain ⟨_, _, _, _, _, _, _, _, h, _⟩ := h; omega
  | n + 1 => D.cal fun _ _ F => ok_paths_into F (cal_paths_into D n)

abbrev s_paths : Stmt := top 28
abbrev N_paths : List Str := ["tree", "found"]
abbrev P_paths : List Str := ["tree"]
theorem sc_paths : FnScope N_paths P_paths (defScope s_paths) := ⟨rfl, rfl, rfl, by decide +kernel, rfl, by decide +kernel, by decide +kernel⟩
def spPaths : Sp := fun vs H Q _ => ∃ v t, vs = [v] ∧ IsT H v t ∧ t.depth ≤ 60 ∧ t.leaves ≤ 900 ∧ ∀ p H', Same H H' → H p = none → H' p = some (.lst (t.paths.map fun q => V.str (pstr q))) → Q (.ref p) H'
theorem ok_paths (F : Fun K "paths" "paths" s_paths f fd) (c_paths_into : Cal P w K mg base 70 "paths_into" P_paths_into (spPathsInto 70)) : FnOk P w K mg base CX0 71 f fd P_paths spPaths := by
  have nd := sc_paths.nd
  refine F.ok sc_paths (fun vs H Q E h => ?_) (fun cdv A outer s H vs Q E hr h => ?_)
  · obtain ⟨v, t, rfl, _⟩ := h; rfl
  obtain ⟨v, t, rfl, ht, hd, hl, q⟩ := h
  have L_paths_into : 70 ≤ 70 := Nat.le_refl _
  refine ⟨_, (pss_cons (ps_set (i := 1) nd rfl (Or.inl rfl) (pe_lst pa_nil))
      (pss_cons (ps_expr (pe_cal c_paths_into (hr.mono L_paths_into) (by rfl) (pa_cons (pv 0) (pa_cons pe_str (pa_cons (pv 1) pa_nil)))))
      (pss_one (ps_ret (pv 1))))), ?_⟩
  refine ⟨(by show 0 ≤ sizeLine; decide), fun p hp => ?_⟩
  have s1 := same_new hp (.lst [])
  refine ⟨_, rfl, _, rfl, v, t, [], p, [], ?_, ht.mono s1.tk, upd_same, by omega, by omega, by simp; omega, by simp; omega, fun H2 s2 e2 => ?_⟩
  · rw [← pstr_e]; rfl
  refine ⟨_, rfl, q p H2 ?_ hp ?_⟩
  · exact (((s1.x [p]).trans s2).drop hp).same
  · rw [e2]; rfl
theorem cal_paths (D : DefAt K mg "paths" s_paths P_paths) (c : Cal P w K mg base 70 "paths_into" P_paths_into (spPathsInto 70)) : Cal P w K mg base 71 "paths" P_paths spPaths := D.cal fun _ _ F => ok_paths F c

abbrev s_excess_into : Stmt := top 31
abbrev N_excess_into : List Str := ["tree", "more", "found"]
abbrev P_excess_into : List Str := ["tree", "more", "found"]
theorem sc_excess_into : FnScope N_excess_into P_excess_into (defScope s_excess_into) := ⟨rfl, rfl, rfl, by decide +kernel, rfl, by decide +kernel, by decide +kernel⟩
abbrev IsTs (H : Hp) (ys : List V) (ts : List T) : Prop := Paired (fun t y => IsT H y t) ts ys
theorem IsTs.mono {H H' : Hp} (k : Tk H H') {ys : List V} {ts : List T} (h : IsTs H ys ts) : IsTs H' ys ts := paired_mono h fun _ _ q => q.mono k
def spExcessInto (n : Nat) : Sp := fun vs H Q _ => ∃ v u t m a xs, vs = [v, u, .ref a] ∧ IsT H v t ∧ IsT H u m ∧ le t m ∧ H a = some (.lst xs) ∧ t.depth < n ∧ t.depth ≤ 60 ∧ xs.length + t.leaves ≤ 1000 ∧
  ∀ H' ys, SameX [a] H H' → H' a = some (.lst (xs ++ ys)) → IsTs H' ys (excess t m) → Q .non H'
theorem ok_excess_into {n : Nat} (F : Fun K "excess_into" "excess_into" s_excess_into f fd) (c_excess_into : Cal P w K mg base n "excess_into" P_excess_into (spExcessInto n)) : FnOk P w K mg base CX0 (n + 1) f fd P_excess_into (spExcessInto (n + 1)) := by
  have nd := sc_excess_into.nd
  refine F.ok sc_excess_into (fun vs H Q E h => ?_) (fun cdv A outer s H vs Q E hr h => ?_)
  · obtain ⟨v, u, t, m, a, xs, rfl, _⟩ := h; rfl
  obtain ⟨v, u, t, m, a, xs, rfl, ht, hm, hle, ha, hd, hd6, hl, q⟩ := h
  have hu64 := hr.units
  have L_excess_into : n ≤ n := Nat.le_refl _
  refine ⟨_, (pss_one (ps_if (pt_cmpR (op_eqD hu64) (pv 0) (pe_tup pa_nil) (nomark _))
        (pss_one (ps_expr (pe_bm PySem.F.plainAttrs_list PySem.F.slot_list_append PySem.F.type_list_append mt_append (pv 2) (pa_cons (pv 1) pa_nil))))
        (pss_cons (ps_expr (pe_cal c_excess_into (hr.mono L_excess_into) (by rfl) (pa_cons (pe_ix ix_tup (pv 0) pe_int (fun _ _ => rfl)) (pa_cons (pe_ix ix_tup (pv 1) pe_int (fun _ _ => rfl)) (pa_cons (pv 2) pa_nil)))))
        (pss_one (ps_expr (pe_cal c_excess_into (hr.mono L_excess_into) (by rfl) (pa_cons (pe_ix ix_tup (pv 0) pe_int (fun _ _ => rfl)) (pa_cons (pe_ix ix_tup (pv 1) pe_int (fun _ _ => rfl)) (pa_cons (pv 2) pa_nil))))))))), ?_⟩
  refine if_leaf (t := t) rfl ht (by omega) (fun e H1 s1 => ?_) (fun l r e H1 s1 => ?_)
  · subst e
    refine ⟨_, rfl, Or.inl ⟨rfl, _, SqL.of (s1 _ _ ha)⟩, _, rfl, a, xs, _, rfl, rfl, s1 _ _ ha, line1000' (by omega), ?_⟩
    exact q _ [u] ((s1.x [a]).trans (samex_upd _ (List.mem_singleton.mpr rfl))) upd_same (.cons ((hm.mono s1.tk).mono (tk_lst (s1 _ _ ha) _)) .nil)
  · subst e
    match m, hm, hle, q with
    | .leaf, _, hle, _ => exact hle.elim
    | .node ml mr, hm, hle, q =>
    have hd' : max l.depth r.depth + 1 < n + 1 := hd
    have hd6' : max l.depth r.depth + 1 ≤ 60 := hd6
    have hl' : xs.length + (l.leaves + r.leaves) ≤ 1000 := hl
    obtain ⟨b, x, y, rfl, hb, hL, hR⟩ := ht.mono s1.tk
    obtain ⟨b', x', y', rfl, hb', hL', hR'⟩ := hm.mono s1.tk
    have ha1 := s1 _ _ ha
    refine ⟨_, rfl, b, _, _, x, rfl, rfl, SqT.of hb, rfl, _, rfl, b', _, _, x', rfl, rfl, SqT.of hb', rfl, _, rfl, x, x', l, ml, a, xs, rfl, hL, hL', hle.1, ha1, by omega, by omega, by omega, fun H2 ys1 s2 e2 m2 => ?_⟩
    have k2 := s2.tk1 ha1
    have hy1 : ys1.length = l.leaves := by rw [← Paired.length m2, excess_length hle.1]
    refine ⟨_, rfl, b, _, _, y, rfl, rfl, SqT.of (k2 _ _ hb), rfl, _, rfl, b', _, _, y', rfl, rfl, SqT.of (k2 _ _ hb'), rfl, _, rfl, y, y', r, mr, a, xs ++ ys1, rfl, hR.mono k2, hR'.mono k2, hle.2, e2, by omega, by omega, by rw [List.length_append]; omega, fun H3 ys2 s3 e3 m3 => ?_⟩
    refine q H3 (ys1 ++ ys2) ((s1.x [a]).trans (s2.trans s3)) (by rw [e3, List.append_assoc]) ?_
    exact paired_append (IsTs.mono (s3.tk1 e2) m2) m3
theorem cal_excess_into (D : DefAt K mg "excess_into" s_excess_into P_excess_into) : ∀ n, Cal P w K mg base n "excess_into" P_excess_into (spExcessInto n)
  | 0 => D.cal fun _ _ _ => FnOk.none fun vs H Q E h => by obtain ⟨_, _, _, _, _, _, _, _, _, _, _, h, _⟩ := h; omega
  | n + 1 => D.cal fun _ _ F => ok_excess_into F (cal_excess_into D n)

abbrev s_excess : Stmt := top 32
abbrev N_excess : List Str := ["tree", "more", "found"]
abbrev P_excess : List Str := ["tree", "more"]
theorem sc_excess : FnScope N_excess P_excess (defScope s_excess) := ⟨rfl, rfl, rfl, by decide +kernel, rfl, by decide +kernel, by decide +kernel⟩
def spExcess : Sp := fun vs H Q _ => ∃ v u t m, vs = [v, u] ∧ IsT H v t ∧ IsT H u m ∧ le t m ∧ t.depth ≤ 60 ∧ t.leaves ≤ 900 ∧ ∀ p H' ys, Same H H' → H p = none → H' p = some (.lst ys) → IsTs H' ys (excess t m) → Q (.ref p) H'
theorem ok_excess (F : Fun K "excess" "excess" s_excess f fd) (c_excess_into : Cal P w K mg base 70 "excess_into" P_excess_into (spExcessInto 70)) : FnOk P w K mg base CX0 71 f fd P_excess spExcess := by
  have nd := sc_excess.nd
  refine F.ok sc_excess (fun vs H Q E h => ?_) (fun cdv A outer s H vs Q E hr h => ?_)
  · obtain ⟨v, u, t, m, rfl, _⟩ := h; rfl
  obtain ⟨v, u, t, m, rfl, ht, hm, hle, hd, hl, q⟩ := h
  have L_excess_into : 70 ≤ 70 := Nat.le_refl _
  refine ⟨_, (pss_cons (ps_set (i := 2) nd rfl (Or.inl rfl) (pe_lst pa_nil))
      (pss_cons (ps_expr (pe_cal c_excess_into (hr.mono L_excess_into) (by rfl) (pa_cons (pv 0) (pa_cons (pv 1) (pa_cons (pv 2) pa_nil)))))
      (pss_one (ps_ret (pv 2))))), ?_⟩
  refine ⟨(by show 0 ≤ sizeLine; decide), fun p hp => ?_⟩
  have s1 := same_new hp (.lst [])
  refine ⟨_, rfl, _, rfl, _, rfl, v, u, t, m, p, [], rfl, ht.mono s1.tk, hm.mono s1.tk, hle, upd_same, by omega, by omega, by simp; omega, fun H2 ys s2 e2 m2 => ?_⟩
  exact ⟨_, rfl, q p H2 ys (((s1.x [p]).trans s2).drop hp).same hp e2 m2⟩
theorem cal_excess (D : DefAt K mg "excess" s_excess P_excess) (c : Cal P w K mg base 70 "excess_into" P_excess_into (spExcessInto 70)) : Cal P w K mg base 71 "excess" P_excess spExcess := D.cal fun _ _ F => ok_excess F c

theorem IsTs.split {H : Hp} : ∀ (k : Nat) {ys : List V} {ts : List T}, IsTs H ys ts → IsTs H (ys.take k) (ts.take k) ∧ IsTs H (ys.drop k) (ts.drop k)
  | 0, _, _, h => ⟨.nil, h⟩
  | _ + 1, _, _, .nil => ⟨.nil, .nil⟩
  | k + 1, _, _, .cons h1 h2 => ⟨.cons h1 (IsTs.split k h2).1, (IsTs.split k h2).2⟩
abbrev s_hung_on : Stmt := top 33
abbrev N_hung_on : List Str := ["tree", "left", "one"]
abbrev P_hung_on : List Str := ["tree", "left"]
theorem sc_hung_on : FnScope N_hung_on P_hung_on (defScope s_hung_on) := ⟨rfl, rfl, rfl, by decide +kernel, rfl, by decide +kernel, by decide +kernel⟩
def spHungOn (n : Nat) : Sp := fun vs H Q _ => ∃ v t a rest ys ts, vs = [v, .ref a] ∧ IsT H v t ∧ H a = some (.lst (rest ++ ys.reverse)) ∧ IsTs H ys ts ∧ ts.length = t.leaves ∧ t.depth < n ∧ t.depth ≤ 60 ∧
  ∀ r H', SameX [a] H H' → H' a = some (.lst rest) → IsT H' r (hung t ts) → Q r H'
theorem ok_hung_on {n : Nat} (F : Fun K "hung_on" "hung_on" s_hung_on f fd) (c_hung_on : Cal P w K mg base n "hung_on" P_hung_on (spHungOn n)) : FnOk P w K mg base CX0 (n + 1) f fd P_hung_on (spHungOn (n + 1)) := by
  have nd := sc_hung_on.nd
  refine F.ok sc_hung_on (fun vs H Q E h => ?_) (fun cdv A outer s H vs Q E hr h => ?_)
  · obtain ⟨v, t, a, rest, ys, ts, rfl, _⟩ := h; rfl
  obtain ⟨v, t, a, rest, ys, ts, rfl, ht, ha, hts, hlen, hd, hd6, q⟩ := h
  have hu64 := hr.units
  have L_hung_on : n ≤ n := Nat.le_refl _
  refine ⟨_, (pss_cons (ps_if (pt_cmpR (op_eqD hu64) (pv 0) (pe_tup pa_nil) (nomark _))
        (pss_one (ps_ret (pe_bm0 PySem.F.plainAttrs_list PySem.F.slot_list_pop PySem.F.type_list_pop mt_pop (pv 1))))
        pss_nil)
      (pss_cons (ps_set (i := 2) nd rfl (Or.inl rfl) (pe_cal c_hung_on (hr.mono L_hung_on) (by rfl) (pa_cons (pe_ix ix_tup (pv 0) pe_int (fun _ _ => rfl)) (pa_cons (pv 1) pa_nil))))
      (pss_one (ps_ret (pe_tup (pa_cons (pv 2) (pa_cons (pe_cal c_hung_on (hr.mono L_hung_on) (by rfl) (pa_cons (pe_ix ix_tup (pv 0) pe_int (fun _ _ => rfl)) (pa_cons (pv 1) pa_nil))) pa_nil))))))), ?_⟩
  refine if_leaf (t := t) rfl ht (by omega) (fun e H1 s1 => ?_) (fun l r e H1 s1 => ?_)
  · subst e
    match ts, ys, hts, hlen, ha, q with
    | [t1], [y1], hts, _, ha, q =>
    have ha1 := s1 _ _ ha
    refine ⟨_, rfl, Or.inl ⟨rfl, _, SqL.of ha1⟩, a, _, y1, rfl, rfl, ha1, by simp, ?_⟩
    cases hts with
    | cons h1 _ =>
    refine q y1 _ ((s1.x [a]).trans (samex_upd _ (List.mem_singleton.mpr rfl))) ?_ ((h1.mono s1.tk).mono (tk_lst ha1 _))
    rw [upd_same]
    simp
  · subst e
    have hd' : max l.depth r.depth + 1 < n + 1 := hd
    have hd6' : max l.depth r.depth + 1 ≤ 60 := hd6
    have hlen' : ts.length = l.leaves + r.leaves := hlen
    obtain ⟨b, x, y, rfl, hb, hL, hR⟩ := ht.mono s1.tk
    have ha1 := s1 _ _ ha
    have hyl : ys.length = ts.length := (Paired.length hts).symm
    have split : ∀ (k : Nat), IsTs H1 (ys.take k) (ts.take k) ∧ IsTs H1 (ys.drop k) (ts.drop k) := fun k => IsTs.split k (IsTs.mono s1.tk hts)
    have e0 : rest ++ ys.reverse = (rest ++ (ys.drop l.leaves).reverse) ++ (ys.take l.leaves).reverse := by
      rw [List.append_assoc, ← List.reverse_append, List.take_append_drop]
    refine ⟨_, rfl, b, _, _, x, rfl, rfl, SqT.of hb, rfl, _, rfl, x, l, a, rest ++ (ys.drop l.leaves).reverse, ys.take l.leaves, ts.take l.leaves, rfl, hL, by rw [ha1, e0], (split _).1, by rw [List.length_take]; omega, by omega, by omega, fun r1 H2 s2 e2 m2 => ?_⟩
    have k2 := s2.tk1 ha1
    refine ⟨_, rfl, _, rfl, b, _, _, y, rfl, rfl, SqT.of (k2 _ _ hb), rfl, _, rfl, y, r, a, rest, ys.drop l.leaves, ts.drop l.leaves, rfl, hR.mono k2, e2, IsTs.mono k2 (split _).2, by rw [List.length_drop]; omega, by omega, by omega, fun r2 H3 s3 e3 m3 => ?_⟩
    refine ⟨(by show 2 ≤ sizeLine; decide), fun g hg => ?_⟩
    have s4 := same_new hg (.tup [r1, r2])
    refine q (.ref g) _ ((s1.x [a]).trans (s2.trans (s3.trans (s4.x [a])))) (s4 _ _ e3) ?_
    exact ⟨g, r1, r2, rfl, upd_same, (m2.mono (s3.tk1 e2)).mono s4.tk, m3.mono s4.tk⟩
theorem cal_hung_on (D : DefAt K mg "hung_on" s_hung_on P_hung_on) : ∀ n, Cal P w K mg base n "hung_on" P_hung_on (spHungOn n)
  | 0 => D.cal fun _ _ _ => FnOk.none fun vs H Q E h => by obtain ⟨_, _, _, _, _, _, _, _, _, _, _, h, _⟩ := h; omega
  | n + 1 => D.cal fun _ _ F => ok_hung_on F (cal_hung_on D n)

abbrev s_are_halves : Stmt := top 29
abbrev N_are_halves : List Str := ["one", "other"]
abbrev P_are_halves : List Str := ["one", "other"]
theorem sc_are_halves : FnScope N_are_halves P_are_halves (defScope s_are_halves) := ⟨rfl, rfl, rfl, by decide +kernel, rfl, by decide +kernel, by decide +kernel⟩
theorem halves_prog (x y : Path) : (decide (pstr x.dropLast = pstr y.dropLast) && decide (pstr (x.drop (x.length - 1)) ++ pstr (y.drop (y.length - 1)) = pstr [false, true])) = halves x y := by
  rw [pstr_append]
  have e1 : decide (pstr x.dropLast = pstr y.dropLast) = decide (x.dropLast = y.dropLast) := by
    by_cases h : x.dropLast = y.dropLast
    · rw [h]; simp
    · rw [decide_eq_false h, decide_eq_false fun e => h (pstr_inj e)]
  have e2 : decide (pstr (x.drop (x.length - 1) ++ y.drop (y.length - 1)) = pstr [false, true]) = decide (x.drop (x.length - 1) ++ y.drop (y.length - 1) = [false, true]) := by
    by_cases h : x.drop (x.length - 1) ++ y.drop (y.length - 1) = [false, true]
    · rw [h]; simp
    · rw [decide_eq_false h, decide_eq_false fun e => h (pstr_inj e)]
  rw [e1, e2]
  rw [Bool.eq_iff_iff, Bool.and_eq_true, decide_eq_true_eq, decide_eq_true_eq, halves_iff]
  have last : ∀ z : Path, z = z.dropLast ++ z.drop (z.length - 1) := fun z => by
    rw [List.dropLast_eq_take, List.take_append_drop]
  constructor
  · rintro ⟨h1, h2⟩
    have l1 : (x.drop (x.length - 1)).length ≤ 1 := by rw [List.length_drop]; omega
    have l2 : (y.drop (y.length - 1)).length ≤ 1 := by rw [List.length_drop]; omega
    have hx := last x
    have hy := last y
    match hx1 : x.drop (x.length - 1), hy1 : y.drop (y.length - 1), l1, l2 with
    | [c], [d], _, _ =>
      rw [hx1, hy1] at h2
      rw [hx1] at hx
      rw [hy1] at hy
      have e : c = false ∧ d = true := by simpa using h2
      refine ⟨x.dropLast, ?_, ?_⟩
      · rw [← e.1]; exact hx
      · rw [← e.2, h1]; exact hy
    | [], d, _, l2 =>
      rw [hx1, hy1] at h2
      have := congrArg List.length h2
      simp at this
      omega
    | [c], [], _, _ =>
      rw [hx1, hy1] at h2
      have := congrArg List.length h2
      simp at this
  · rintro ⟨q, rfl, rfl⟩
    simp
def spHalves : Sp := fun vs H Q _ => ∃ x y : Path, vs = [.str (pstr x), .str (pstr y)] ∧ x.length ≤ 1000 ∧ y.length ≤ 1000 ∧ Q (.bl (halves x y)) H
theorem ok_are_halves (F : Fun K "are_halves" "are_halves" s_are_halves f fd) : FnOk P w K mg base CX0 1 f fd P_are_halves spHalves := by
  have nd := sc_are_halves.nd
  refine F.ok sc_are_halves (fun vs H Q E h => ?_) (fun cdv A outer s H vs Q E hr h => ?_)
  · obtain ⟨x, y, rfl, _⟩ := h; rfl
  obtain ⟨x, y, rfl, hx, hy, q⟩ := h
  refine ⟨_, (pss_one (ps_ret (pe_and (pe_cmpR op_eq (pe_slice sl_str (pv 0) po_none (po_some (pe_un un_neg pe_int))) (pe_slice sl_str (pv 1) po_none (po_some (pe_un un_neg pe_int))) (nomark _)) (pe_one (pe_cmpR op_eq (pe_op op_add_str (pe_slice sl_str (pv 0) (po_some (pe_un un_neg pe_int)) po_none) (pe_slice sl_str (pv 1) (po_some (pe_un un_neg pe_int)) po_none)) pe_str (nomark _)))))), ?_⟩
  have zx : (pstr x).length ≤ sizeLine := by rw [pstr_len]; exact line1000 (by omega)
  have zy : (pstr y).length ≤ sizeLine := by rw [pstr_len]; exact line1000 (by omega)
  refine ⟨_, rfl, _, rfl, _, rfl, pstr x, rfl, zx, _, rfl, _, rfl, _, rfl, pstr y, rfl, zy, rfl, _, rfl, ?_⟩
  have hh := halves_prog x y
  show if decide (V.str (cutS (pstr x) none (some (-1))) = V.str (cutS (pstr y) none (some (-1)))) = true then _ else _
  rw [pstr_dropLast, pstr_dropLast, dec_str]
  cases hc : decide (pstr x.dropLast = pstr y.dropLast) with
  | true =>
    rw [hc, Bool.true_and] at hh
    refine iteT ⟨_, rfl, _, rfl, _, rfl, pstr x, rfl, zx, _, rfl, _, rfl, _, rfl, pstr y, rfl, zy, _, _, rfl, rfl, ?_, rfl, ?_⟩
    · show (cutS (pstr x) (some (-1)) none).length + (cutS (pstr y) (some (-1)) none).length ≤ sizeLine
      rw [pstr_end, pstr_end, pstr_len, pstr_len]
      exact line1000 (by rw [List.length_drop, List.length_drop]; omega)
    · show Q (.bl (decide (V.str (cutS (pstr x) (some (-1)) none ++ cutS (pstr y) (some (-1)) none) = V.str (Str.ofString "01")))) H
      rw [pstr_end, pstr_end, pstr_01, dec_str, hh]
      exact q
  | false =>
    rw [hc, Bool.false_and] at hh
    refine iteF ?_
    rw [hh]
    exact q
theorem cal_are_halves (D : DefAt K mg "are_halves" s_are_halves P_are_halves) : Cal P w K mg base 1 "are_halves" P_are_halves spHalves := D.cal fun _ _ F => ok_are_halves F
end
end Hw
set_option maxHeartbeats 4000000
/-! Halvewright: hung, tree_of. -/
namespace Hw
open PySem L2
section
variable {P : Program} {w : World} {K : PySem.W.Frag} {mg : Str → Option Value} {base : Heap} {f : Addr} {fd : FuncData}

abbrev s_hung : Stmt := top 34
abbrev N_hung : List Str := ["tree", "things"]
abbrev P_hung : List Str := ["tree", "things"]
theorem sc_hung : FnScope N_hung P_hung (defScope s_hung) := ⟨rfl, rfl, rfl, by decide +kernel, rfl, by decide +kernel, by decide +kernel⟩
def spHung : Sp := fun vs H Q _ => ∃ v a t ys ts, vs = [v, .ref a] ∧ IsT H v t ∧ H a = some (.lst ys) ∧ IsTs H ys ts ∧ ts.length = t.leaves ∧ t.depth ≤ 60 ∧ ∀ r H', Same H H' → IsT H' r (hung t ts) → Q r H'
theorem ok_hung (B : Blt mg) (F : Fun K "hung" "hung" s_hung f fd) (c_hung_on : Cal P w K mg base 70 "hung_on" P_hung_on (spHungOn 70)) : FnOk P w K mg base CX0 71 f fd P_hung spHung := by
  have nd := sc_hung.nd
  refine F.ok sc_hung (fun vs H Q E h => ?_) (fun cdv A outer s H vs Q E hr h => ?_)
  · obtain ⟨v, a, t, ys, ts, rfl, _⟩ := h; rfl
  obtain ⟨v, a, t, ys, ts, rfl, ht, ha, hts, hl, hd, q⟩ := h
  have L_hung_on : 70 ≤ 70 := Nat.le_refl _
  refine ⟨_, (pss_one (ps_ret (pe_cal c_hung_on (hr.mono L_hung_on) (by rfl) (pa_cons (pv 0) (pa_cons (pe_listrev rfl (by rfl) B.list (by rfl) B.reversed (pv 1)) pa_nil))))), ?_⟩
  refine ⟨_, rfl, _, rfl, a, ys, rfl, SqL.of ha, fun p hp => ?_⟩
  have s1 := same_new hp (.lst ys.reverse)
  refine ⟨v, t, p, [], ys, ts, rfl, ht.mono s1.tk, by rw [upd_same]; rfl, IsTs.mono s1.tk hts, hl, by omega, by omega, fun r H2 s2 e2 m2 => ?_⟩
  exact q r H2 (((s1.x [p]).trans s2).drop hp).same m2
theorem cal_hung (B : Blt mg) (D : DefAt K mg "hung" s_hung P_hung) (c : Cal P w K mg base 70 "hung_on" P_hung_on (spHungOn 70)) : Cal P w K mg base 71 "hung" P_hung spHung := D.cal fun _ _ F => ok_hung B F c

/-! ### tree_of -/
def strsD (l : List Str) : PyData := .list (l.map .str)
theorem dp_strs {H : Hp} : ∀ l : List Str, DpAll K H (l.map V.str) (l.map .str)
  | [] => .nil
  | x :: l => .cons (.str x) (dp_strs l)
theorem eqv_strs : ∀ a b : List Str, PyData.eqvAll (a.map .str) (b.map .str) = decide (a = b)
  | [], [] => by simp [PyData.eqvAll]
  | [], _ :: _ => by simp [PyData.eqvAll]
  | _ :: _, [] => by simp [PyData.eqvAll]
  | x :: a, y :: b => by
    simp only [List.map_cons, PyData.eqvAll, PyData.eqv, eqv_strs a b, List.cons.injEq]
    by_cases h : x = y
    · subst h; simp
    · simp [h]
theorem lay_strs : ∀ l : List Str, (∀ x ∈ l, PyData.strOk x = true) → PyData.canLayAll0 (l.map .str) = true
  | [], _ => by simp [PyData.canLayAll0]
  | x :: l, h => by
    simp only [List.map_cons, PyData.canLayAll0, PyData.canLay0, h x List.mem_cons_self, lay_strs l (fun y hy => h y (List.mem_cons_of_mem _ hy)), Bool.and_self]
theorem depth_strs : ∀ l : List Str, PyData.depthAll (l.map .str) = 0
  | [] => by simp [PyData.depthAll]
  | x :: l => by simp [PyData.depthAll, PyData.depth, depth_strs l]
theorem strsD_shaped {l : List Str} (h : ∀ x ∈ l, PyData.strOk x = true) : SeqAt.shaped (strsD l) = true := by
  unfold SeqAt.shaped strsD
  have e1 : (PyData.list (l.map .str)).canLay0 = true := by simp only [PyData.canLay0, lay_strs l h]
  have e2 : (PyData.list (l.map .str)).depth ≤ 64 := by simp only [PyData.depth, depth_strs]; decide
  rw [e1, decide_eq_true e2]
  rfl
theorem pstr_ok (p : Path) : PyData.strOk (pstr p) = true := by
  unfold PyData.strOk pstr mk
  rw [Array.all_eq_true']
  intro x hx
  have hx' : x ∈ p.map bit := by simpa using hx
  obtain ⟨b, _, rfl⟩ := List.mem_map.mp hx'
  cases b <;> decide
def strV (p : Path) : V := .str (pstr p)
theorem strV_eq (l : List Path) : l.map strV = (l.map pstr).map V.str := by rw [List.map_map]; rfl
theorem leaf_of_paths {t : T} : decide (t.paths.map pstr = [pstr []]) = decide (t = .leaf) := by
  cases t with
  | leaf => simp [T.paths]
  | node l r =>
    have h : (T.node l r).paths.map pstr ≠ [pstr []] := fun e => by
      have e1 := congrArg List.length e
      rw [List.length_map, T.paths_length] at e1
      have h1 := l.leaves_pos
      have h2 := r.leaves_pos
      have h3 : l.leaves + r.leaves = 1 := e1
      omega
    rw [decide_eq_false h, decide_eq_false (fun e => nomatch e)]
/-- which begin with a sign -/
def headIs (c : Nat) : V → Bool
  | .str z => z.cps.toList.head? == some c
  | _ => false
def tailOf (_ : Hp) (x y : V) : Prop := ∃ z, x = .str z ∧ y = .str (cutS z (some 1) none)
theorem tails {H : Hp} : ∀ {l : List Path} {b : Bool} {ys : List V}, Paired (tailOf H) ((l.map (b :: ·)).map strV) ys → ys = l.map strV
  | [], _, _, .nil => rfl
  | p :: l, b, _, .cons h t => by
    obtain ⟨z, e1, e2⟩ := h
    have e3 : z = pstr (b :: p) := (V.str.inj e1).symm
    rw [e2, e3, pstr_tail, tails t]
    rfl
theorem filter_heads (b c : Bool) (l : List Path) : ((l.map (b :: ·)).map strV).filter (headIs (bit c)) = if b = c then (l.map (b :: ·)).map strV else [] := by
  by_cases e : b = c
  · rw [if_pos e, List.filter_eq_self]
    intro x hx
    obtain ⟨p, hp, rfl⟩ := List.mem_map.mp hx
    obtain ⟨q, _, rfl⟩ := List.mem_map.mp hp
    show ((pstr (b :: q)).cps.toList.head? == some (bit c)) = true
    rw [pstr_toList, e]
    simp
  · rw [if_neg e, List.filter_eq_nil_iff]
    intro x hx
    obtain ⟨p, hp, rfl⟩ := List.mem_map.mp hx
    obtain ⟨q, _, rfl⟩ := List.mem_map.mp hp
    show ¬ ((pstr (b :: q)).cps.toList.head? == some (bit c)) = true
    rw [pstr_toList]
    simp only [List.map_cons, List.head?_cons, beq_iff_eq, Option.some.injEq]
    exact fun z => e (bit_inj z)
theorem heads_left (l r : T) : ((T.node l r).paths.map strV).filter (headIs (bit false)) = (l.paths.map (false :: ·)).map strV := by
  show ((l.paths.map (false :: ·) ++ r.paths.map (true :: ·)).map strV).filter _ = _
  rw [List.map_append, List.filter_append, filter_heads, filter_heads, if_pos rfl, if_neg (by decide), List.append_nil]
theorem heads_right (l r : T) : ((T.node l r).paths.map strV).filter (headIs (bit true)) = (r.paths.map (true :: ·)).map strV := by
  show ((l.paths.map (false :: ·) ++ r.paths.map (true :: ·)).map strV).filter _ = _
  rw [List.map_append, List.filter_append, filter_heads, filter_heads, if_pos rfl, if_neg (by decide), List.nil_append]
theorem paths_short : ∀ {t : T} {p : Path}, p ∈ t.paths → p.length ≤ t.depth
  | .leaf, p, h => by rw [List.mem_singleton.mp h]; exact Nat.le_refl _
  | .node l r, p, h => by
    rcases List.mem_append.mp (show p ∈ l.paths.map (false :: ·) ++ r.paths.map (true :: ·) from h) with h | h
    · obtain ⟨q, hq, rfl⟩ := List.mem_map.mp h
      have := paths_short hq
      show q.length + 1 ≤ max l.depth r.depth + 1
      omega
    · obtain ⟨q, hq, rfl⟩ := List.mem_map.mp h
      have := paths_short hq
      show q.length + 1 ≤ max l.depth r.depth + 1
      omega
theorem node_way {l r : T} {p : Path} (h : p ∈ (T.node l r).paths) : ∃ b q, p = b :: q := by
  rcases List.mem_append.mp (show p ∈ l.paths.map (false :: ·) ++ r.paths.map (true :: ·) from h) with h | h
  · obtain ⟨q, _, rfl⟩ := List.mem_map.mp h; exact ⟨_, _, rfl⟩
  · obtain ⟨q, _, rfl⟩ := List.mem_map.mp h; exact ⟨_, _, rfl⟩
/-- the test and the element of the two comprehensions -/
theorem head_test {σ : St} {H : Hp} {b : Bool} {q : Path} {c : Bool} {Q : Bool → Hp → Prop} (hi : σ[3]? = some (some (.str (pstr (b :: q))))) (hl : q.length ≤ 900) (h : Q (headIs (bit c) (.str (pstr (b :: q)))) H) :
    tTest (tOp rEq (tOp rIxS (tVar 3) (tC (.int 0))) (tC (.str (pstr [c])))) σ H Q := by
  refine ⟨_, hi, pstr (b :: q), 0, bit b, rfl, rfl, by rw [pstr_len]; exact line1000 (by simp; omega), ?_, rfl, _, rfl, ?_⟩
  · rw [pstr_toList]
    exact atI_nat (j := 0) rfl
  · have e : decide (V.str ⟨#[bit b]⟩ = V.str (pstr [c])) = headIs (bit c) (.str (pstr (b :: q))) := by
      show _ = ((pstr (b :: q)).cps.toList.head? == some (bit c))
      rw [pstr_toList, List.map_cons, List.head?_cons]
      cases b <;> cases c <;> decide
    rw [e]
    exact h
theorem cut_elem {σ : St} {H : Hp} {z : Str} {Q : VK} (hi : σ[3]? = some (some (.str z))) (hl : z.length ≤ 1000) (h : Q (.str (cutS z (some 1) none)) H) : tSl rSlS (tVar 3) (tPart (tC (.int 1))) tNoPart σ H Q := by
  exact ⟨_, hi, _, rfl, z, rfl, line1000 (by omega), h⟩

abbrev s_tree_of : Stmt := top 22
abbrev N_tree_of : List Str := ["texts", "left", "right", "text"]
abbrev P_tree_of : List Str := ["texts"]
theorem sc_tree_of : FnScope N_tree_of P_tree_of (defScope s_tree_of) := ⟨rfl, rfl, rfl, by decide +kernel, rfl, by decide +kernel, by decide +kernel⟩
def spTreeOf (n : Nat) : Sp := fun vs H Q _ => ∃ a b, vs = [.ref a] ∧ H a = some (.lst (b.paths.map strV)) ∧ b.depth < n ∧ b.depth ≤ 60 ∧ b.leaves ≤ 900 ∧ ∀ r H', Same H H' → IsT H' r b → Q r H'
theorem ok_tree_of {n : Nat} (F : Fun K "tree_of" "tree_of" s_tree_of f fd) (c_tree_of : Cal P w K mg base n "tree_of" P_tree_of (spTreeOf n)) : FnOk P w K mg base CX0 (n + 1) f fd P_tree_of (spTreeOf (n + 1)) := by
  have nd := sc_tree_of.nd
  refine F.ok sc_tree_of (fun vs H Q E h => ?_) (fun cdv A outer s H vs Q E hr h => ?_)
  · obtain ⟨a, b, rfl, _⟩ := h; rfl
  obtain ⟨a, b, rfl, ha, hd, hd6, hl, q⟩ := h
  have hu64 := hr.units
  have L_tree_of : n ≤ n := Nat.le_refl _
  refine ⟨_, (pss_cons (ps_if (pt_cmpR (op_eqD hu64) (pv 0) (pe_lst (pa_cons pe_str pa_nil)) (nomark _))
        (pss_one (ps_ret (pe_tup pa_nil)))
        pss_nil)
      (pss_cons (ps_setLc (i := 1) (own := [("text", 3)]) (g := (gName 3)) rfl nd rfl rfl (sw_true rfl rfl rfl (by decide +kernel)) (pi_list (pv 0)) (blkOk_by (own := [("text", 3)]) (N := N_tree_of) (sc := defScope s_tree_of) (by decide +kernel)) (fun _ _ _ _ _ => pg_name (i := 3) nd rfl (Or.inl rfl)) (fun _ _ _ _ _ => pts_one (pt_cmpR op_eq (pe_ix ix_str (pv 3) pe_int (fun _ _ => rfl)) pe_str (nomark _))) (fun _ _ _ _ _ => (pe_slice sl_str (pv 3) (po_some pe_int) po_none)))
      (pss_cons (ps_setLc (i := 2) (own := [("text", 3)]) (g := (gName 3)) rfl nd rfl rfl (sw_true rfl rfl rfl (by decide +kernel)) (pi_list (pv 0)) (blkOk_by (own := [("text", 3)]) (N := N_tree_of) (sc := defScope s_tree_of) (by decide +kernel)) (fun _ _ _ _ _ => pg_name (i := 3) nd rfl (Or.inl rfl)) (fun _ _ _ _ _ => pts_one (pt_cmpR op_eq (pe_ix ix_str (pv 3) pe_int (fun _ _ => rfl)) pe_str (nomark _))) (fun _ _ _ _ _ => (pe_slice sl_str (pv 3) (po_some pe_int) po_none)))
      (pss_one (ps_ret (pe_tup (pa_cons (pe_cal c_tree_of (hr.mono L_tree_of) (by rfl) (pa_cons (pv 1) pa_nil)) (pa_cons (pe_cal c_tree_of (hr.mono L_tree_of) (by rfl) (pa_cons (pv 2) pa_nil)) pa_nil)))))))), ?_⟩
  refine ⟨_, rfl, (by show 1 ≤ sizeLine; decide), fun p hp => ?_⟩
  have s1 := same_new hp (.lst [V.str (Str.ofString "")])
  refine ⟨strsD (b.paths.map pstr), strsD [pstr []], ?_, ?_, strsD_shaped (fun x hx => ?_), strsD_shaped (fun x hx => ?_), _, rfl, ?_⟩
  · exact .lst (SqL.of (by rw [← strV_eq]; exact s1 _ _ ha)) (dp_strs _)
  · exact .lst (SqL.of (xs := [V.str (pstr [])]) (by rw [upd_same, pstr_e])) (dp_strs [pstr []])
  · obtain ⟨y, _, rfl⟩ := List.mem_map.mp hx
    exact pstr_ok y
  · rw [List.mem_singleton.mp hx]; exact pstr_ok []
  have e0 : PyData.eqv (strsD (b.paths.map pstr)) (strsD [pstr []]) = decide (b = .leaf) := by
    rw [← leaf_of_paths]
    show PyData.eqv (.list ((b.paths.map pstr).map .str)) (.list ([pstr []].map .str)) = _
    simp only [PyData.eqv, eqv_strs]
  rw [e0]
  cases b with
  | leaf =>
    rw [decide_eq_true rfl]
    refine iteT ⟨(by show 0 ≤ sizeLine; decide), fun g hg => ?_⟩
    exact q (.ref g) _ (s1.trans (same_new hg _)) ⟨g, rfl, upd_same⟩
  | node l r =>
    rw [decide_eq_false (fun e => nomatch e)]
    refine iteF ?_
    have hd' : max l.depth r.depth + 1 < n + 1 := hd
    have hd6' : max l.depth r.depth + 1 ≤ 60 := hd6
    have hl' : l.leaves + r.leaves ≤ 900 := hl
    have hp1 := l.leaves_pos
    have hp2 := r.leaves_pos
    have short : ∀ x ∈ ((T.node l r).paths.map strV), ∃ (c : Bool) (z : Path), x = .str (pstr (c :: z)) ∧ z.length ≤ 900 := fun x hx => by
      obtain ⟨y, hy, rfl⟩ := List.mem_map.mp hx
      have h1 := paths_short hy
      obtain ⟨c, z, rfl⟩ := node_way hy
      have h2 : z.length + 1 ≤ max l.depth r.depth + 1 := h1
      exact ⟨c, z, rfl, by omega⟩
    have ha1 := s1 _ _ ha
    have hlen : ((T.node l r).paths.map strV).length ≤ 10000 := by rw [List.length_map, T.paths_length]; show l.leaves + r.leaves ≤ 10000; omega
    refine ⟨_, rfl, a, rfl, ⟨_, SqL.of ha1⟩, fun D1 hD1 => ?_⟩
    refine lc_run (j := 3) (headIs (bit false)) tailOf (fun _ h => h) (SqL.of ha1) hD1 hlen (fun x => rfl) ?_ ?_ ?_
    · intro x hx H' s' Qb hq
      obtain ⟨c, z, rfl, hz⟩ := short x hx
      have := head_test (σ := (wipe [some (V.ref a), none, none, none] [3]).set 3 (some (.str (pstr (c :: z))))) (H := H') (c := false) (Q := Qb) rfl hz (hq _ (Same.refl _))
      rw [← pstr_0] at this
      exact this
    · intro x hx _ H' s' Q' hq
      obtain ⟨c, z, rfl, hz⟩ := short x hx
      exact cut_elem rfl (by rw [pstr_len]; simp; omega) (hq _ _ (Same.refl _) ⟨_, rfl, rfl⟩)
    intro H2 ys s2 e2 p2
    rw [heads_left] at p2
    have hy := tails p2
    subst hy
    have ha2 := s2 _ _ ha1
    refine ⟨_, rfl, a, rfl, ⟨_, SqL.of ha2⟩, fun D2 hD2 => ?_⟩
    refine lc_run (j := 3) (headIs (bit true)) tailOf (fun _ h => h) (SqL.of ha2) hD2 hlen (fun x => rfl) ?_ ?_ ?_
    · intro x hx H' s' Qb hq
      obtain ⟨c, z, rfl, hz⟩ := short x hx
      have := head_test (σ := (wipe [some (V.ref a), some (V.ref D1), none, none] [3]).set 3 (some (.str (pstr (c :: z))))) (H := H') (c := true) (Q := Qb) rfl hz (hq _ (Same.refl _))
      rw [← pstr_1] at this
      exact this
    · intro x hx _ H' s' Q' hq
      obtain ⟨c, z, rfl, hz⟩ := short x hx
      exact cut_elem rfl (by rw [pstr_len]; simp; omega) (hq _ _ (Same.refl _) ⟨_, rfl, rfl⟩)
    intro H3 ys s3 e3 p3
    rw [heads_right] at p3
    have hy := tails p3
    subst hy
    refine ⟨_, rfl, D1, l, rfl, s3 _ _ e2, by omega, by omega, by omega, fun r1 H4 s4 m4 => ?_⟩
    refine ⟨_, rfl, D2, r, rfl, s4 _ _ e3, by omega, by omega, by omega, fun r2 H5 s5 m5 => ?_⟩
    refine ⟨(by show 2 ≤ sizeLine; decide), fun g hg => ?_⟩
    have s6 := same_new hg (.tup [r1, r2])
    exact q (.ref g) _ (s1.trans (s2.trans (s3.trans (s4.trans (s5.trans s6))))) ⟨g, r1, r2, rfl, upd_same, (m4.mono s5.tk).mono s6.tk, m5.mono s6.tk⟩
theorem cal_tree_of (D : DefAt K mg "tree_of" s_tree_of P_tree_of) : ∀ n, Cal P w K mg base n "tree_of" P_tree_of (spTreeOf n)
  | 0 => D.cal fun _ _ _ => FnOk.none fun vs H Q E h => by obtain ⟨_, _, _, _, h, _⟩ := h; omega
  | n + 1 => D.cal fun _ _ F => ok_tree_of F (cal_tree_of D n)
end
end Hw
set_option maxHeartbeats 4000000
/-! Halvewright: trimmed. -/
namespace Hw
open PySem L2
section
variable {P : Program} {w : World} {K : PySem.W.Frag} {mg : Str → Option Value} {base : Heap} {f : Addr} {fd : FuncData}

def IsRow (H : Hp) (r : Row) (v : V) : Prop := ∃ a, v = .ref a ∧ H a = some (.tup [strV r.1, strV r.2])
theorem IsRow.mono {H H' : Hp} (k : Tk H H') {r : Row} {v : V} (h : IsRow H r v) : IsRow H' r v := by
  obtain ⟨a, e, h⟩ := h
  exact ⟨a, e, k _ _ h⟩
abbrev IsRows (H : Hp) (S : List Row) (os : List V) : Prop := Paired (IsRow H) S os
theorem IsRows.mono {H H' : Hp} (k : Tk H H') {S : List Row} {os : List V} (h : IsRows H S os) : IsRows H' S os := paired_mono h fun _ _ q => q.mono k
theorem atI_m1 {α : Type} (l : List α) (v : α) : atI (l ++ [v]) (-1) = some v := atI_last l v
theorem atI_m2 {α : Type} (l : List α) (u v : α) : atI (l ++ [u] ++ [v]) (-2) = some u := by
  have hl : (l ++ [u] ++ [v]).length = l.length + 2 := by simp
  have e : ixN (l ++ [u] ++ [v]).length (-2) = some l.length := by
    unfold ixN
    rw [hl, if_neg (by decide), if_pos (by omega)]
    congr 1
    omega
  unfold atI
  rw [e]
  show (l ++ [u] ++ [v])[l.length]? = some u
  simp
def shortRow (r : Row) : Prop := r.1.length ≤ 100 ∧ r.2.length ≤ 100
def fstOf (H : Hp) (x y : V) : Prop := ∃ a u v, x = .ref a ∧ H a = some (.tup [u, v]) ∧ y = u
def sndOf (H : Hp) (x y : V) : Prop := ∃ a u v, x = .ref a ∧ H a = some (.tup [u, v]) ∧ y = v
theorem fsts {H : Hp} : ∀ {S : List Row} {os ys : List V}, IsRows H S os → Paired (fstOf H) os ys → ys = S.map fun r => strV r.1
  | _, _, _, .nil, .nil => rfl
  | _, _, _, .cons h t, .cons h' t' => by
    obtain ⟨a, rfl, e⟩ := h
    obtain ⟨b, u, v, e1, e2, rfl⟩ := h'
    cases e1
    rw [e] at e2
    cases e2
    rw [fsts t t']
    rfl
theorem snds {H : Hp} : ∀ {S : List Row} {os ys : List V}, IsRows H S os → Paired (sndOf H) os ys → ys = S.map fun r => strV r.2
  | _, _, _, .nil, .nil => rfl
  | _, _, _, .cons h t, .cons h' t' => by
    obtain ⟨a, rfl, e⟩ := h
    obtain ⟨b, u, v, e1, e2, rfl⟩ := h'
    cases e1
    rw [e] at e2
    cases e2
    rw [snds t t']
    rfl
theorem paired_reverse {α β : Type} {F : α → β → Prop} : ∀ {xs : List α} {ys : List β}, Paired F xs ys → Paired F xs.reverse ys.reverse
  | _, _, .nil => .nil
  | _, _, .cons r t => by
    rw [List.reverse_cons, List.reverse_cons]
    exact paired_append (paired_reverse t) (.cons r .nil)
theorem rows_mem {H : Hp} : ∀ {S : List Row} {os : List V} {x : V}, IsRows H S os → x ∈ os → ∃ r, r ∈ S ∧ IsRow H r x
  | _, _, _, .nil, h => nomatch h
  | _, _, _, .cons h t, m => by
    rcases List.mem_cons.mp m with rfl | m
    · exact ⟨_, List.mem_cons_self, h⟩
    · obtain ⟨r, h1, h2⟩ := rows_mem t m
      exact ⟨r, List.mem_cons_of_mem _ h1, h2⟩
theorem push_short {x : Row} : ∀ {S : List Row}, (∀ r ∈ S, shortRow r) → shortRow x → ∀ r ∈ push S x, shortRow r := by
  intro S
  induction S generalizing x with
  | nil => intro _ hx r hr; rw [List.mem_singleton.mp hr]; exact hx
  | cons y S ih =>
    intro hS hx r hr
    unfold push at hr
    split at hr
    · have hy := hS y List.mem_cons_self
      exact ih (fun r h => hS r (List.mem_cons_of_mem _ h)) ⟨by show y.1.dropLast.length ≤ 100; rw [List.length_dropLast]; have := hy.1; omega, by show y.2.dropLast.length ≤ 100; rw [List.length_dropLast]; have := hy.2; omega⟩ r hr
    · rcases List.mem_cons.mp hr with rfl | hr
      · exact hx
      · exact hS r hr
theorem push_length : ∀ (S : List Row) (x : Row), (push S x).length ≤ S.length + 1
  | [], _ => Nat.le_refl _
  | y :: S, x => by
    unfold push
    split
    · have := push_length S (y.1.dropLast, y.2.dropLast)
      simp
      omega
    · simp
theorem pushes_short : ∀ {R S : List Row}, (∀ r ∈ S, shortRow r) → (∀ r ∈ R, shortRow r) → (∀ r ∈ pushes S R, shortRow r) ∧ (pushes S R).length ≤ S.length + R.length
  | [], S, h, _ => ⟨h, Nat.le_refl _⟩
  | x :: R, S, h, h2 => by
    have h3 := push_short h (h2 x List.mem_cons_self)
    have h4 := pushes_short (R := R) (S := push S x) h3 fun r hr => h2 r (List.mem_cons_of_mem _ hr)
    have h5 := push_length S x
    refine ⟨h4.1, Nat.le_trans h4.2 ?_⟩
    simp
    omega

abbrev s_trimmed : Stmt := top 30
abbrev N_trimmed : List Str := ["mapped", "rows", "row", "one", "other"]
abbrev P_trimmed : List Str := ["mapped"]
theorem sc_trimmed : FnScope N_trimmed P_trimmed (defScope s_trimmed) := ⟨rfl, rfl, rfl, by decide +kernel, rfl, by decide +kernel, by decide +kernel⟩
def spTrim : Sp := fun vs H Q _ => ∃ v m, vs = [v] ∧ IsM H v m ∧ Ev m ∧ m.1.leaves ≤ 61 ∧ ∀ r m' H', Same H H' → IsM H' r m' → Good m' → (∀ z, sem m' z = sem m z) → m'.1.leaves ≤ m.1.leaves → Q r H'
/-- the rows' list at R holds the stack S, its top last -/
structure Stk (H0 H : Hp) (R : Addr) (S : List Row) : Prop where
  ex : ∃ os, H R = some (.lst os.reverse) ∧ IsRows H S os
  keep : SameX [R] H0 H
theorem stack_take (R : List Row) (i : Nat) (r : Row) (h : R[i]? = some r) : pushes [] (R.take (i + 1)) = push (pushes [] (R.take i)) r := by
  have hi := (List.getElem?_eq_some_iff.mp h).1
  have e : R[i] = r := by
    rw [List.getElem?_eq_getElem hi] at h
    exact Option.some.inj h
  rw [List.take_succ_eq_append_getElem hi, pushes_append, e]
  rfl
theorem ok_trimmed (B : Blt mg) (F : Fun K "trimmed" "trimmed" s_trimmed f fd) (c_paths : Cal P w K mg base 71 "paths" P_paths spPaths) (c_are_halves : Cal P w K mg base 1 "are_halves" P_are_halves spHalves)
    (c_tree_of : Cal P w K mg base 70 "tree_of" P_tree_of (spTreeOf 70)) : FnOk P w K mg base CX0 72 f fd P_trimmed spTrim := by
  have nd := sc_trimmed.nd
  refine F.ok sc_trimmed (fun vs H Q E h => ?_) (fun cdv A outer s H vs Q E hr h => ?_)
  · obtain ⟨v, m, rfl, _⟩ := h; rfl
  obtain ⟨v, m, rfl, hm, hev, hl, q⟩ := h
  have hu64 := hr.units
  have L_paths : 71 ≤ 71 := Nat.le_refl _
  have L_are_halves : 1 ≤ 71 := by decide
  have L_tree_of : 70 ≤ 71 := by decide
  refine ⟨_, (pss_cons (ps_set (i := 1) nd rfl (Or.inl rfl) (pe_lst pa_nil))
      (pss_cons (ps_forZ PassesOwn.never rfl (by rfl) B.zip (pa_cons (pe_cal c_paths (hr.mono L_paths) (by rfl) (pa_cons (pe_ix ix_tup (pv 0) pe_int (fun _ _ => rfl)) pa_nil)) (pa_cons (pe_cal c_paths (hr.mono L_paths) (by rfl) (pa_cons (pe_ix ix_tup (pv 0) pe_int (fun _ _ => rfl)) pa_nil)) pa_nil)) (pg_name (i := 2) nd rfl (Or.inl rfl))
        (pss_cons (ps_expr (pe_bm PySem.F.plainAttrs_list PySem.F.slot_list_append PySem.F.type_list_append mt_append (pv 1) (pa_cons (pv 2) pa_nil)))
        (pss_one (ps_while PassesOwn.never (PW.pt (pw_and (pt_cmpR op_gt (pe_callB call_len_seq (by rfl) B.len PySem.boot_len (pa_cons (pv 1) pa_nil)) pe_int (nomark _)) (pw_and (pt_val (pe_cal c_are_halves (hr.mono L_are_halves) (by rfl) (pa_cons (pe_ix ix_tup (pe_ix ix_list (pv 1) (pe_un un_neg pe_int) (fun _ _ => rfl)) pe_int (fun _ _ => rfl)) (pa_cons (pe_ix ix_tup (pe_ix ix_list (pv 1) (pe_un un_neg pe_int) (fun _ _ => rfl)) pe_int (fun _ _ => rfl)) pa_nil)))) (pw_and1 (pt_val (pe_cal c_are_halves (hr.mono L_are_halves) (by rfl) (pa_cons (pe_ix ix_tup (pe_ix ix_list (pv 1) (pe_un un_neg pe_int) (fun _ _ => rfl)) pe_int (fun _ _ => rfl)) (pa_cons (pe_ix ix_tup (pe_ix ix_list (pv 1) (pe_un un_neg pe_int) (fun _ _ => rfl)) pe_int (fun _ _ => rfl)) pa_nil))))))))
          (pss_cons (ps_asg (pe_bm0 PySem.F.plainAttrs_list PySem.F.slot_list_pop PySem.F.type_list_pop mt_pop (pv 1)) (pg_tup rfl (pgs_cons (pg_name (i := 3) nd rfl (Or.inl rfl)) (pgs_cons (pg_name (i := 4) nd rfl (Or.inl rfl)) pgs_nil))))
          (pss_one (ps_asg (pe_tup (pa_cons (pe_slice sl_str (pv 3) po_none (po_some (pe_un un_neg pe_int))) (pa_cons (pe_slice sl_str (pv 4) po_none (po_some (pe_un un_neg pe_int))) pa_nil))) (pg_sub (pv 1) (pe_un un_neg pe_int) set_list))))))))
      (pss_one (ps_ret (pe_tup (pa_cons (pe_cal c_tree_of (hr.mono L_tree_of) (by rfl) (pa_cons (pe_lc (own := [("row", 2)]) (g := (gName 2)) rfl nd (pi_list (pv 1)) (blkOk_by (own := [("row", 2)]) (N := N_trimmed) (sc := defScope s_trimmed) (by decide +kernel)) (fun _ _ _ _ _ => pg_name (i := 2) nd rfl (Or.inl rfl)) (fun _ _ _ _ _ => pts_nil) (fun _ _ _ _ _ => (pe_ix (r := rIxT K) ix_tup (pv 2) pe_int (fun _ _ => rfl)))) pa_nil)) (pa_cons (pe_cal c_tree_of (hr.mono L_tree_of) (by rfl) (pa_cons (pe_lc (own := [("row", 2)]) (g := (gName 2)) rfl nd (pi_list (pv 1)) (blkOk_by (own := [("row", 2)]) (N := N_trimmed) (sc := defScope s_trimmed) (by decide +kernel)) (fun _ _ _ _ _ => pg_name (i := 2) nd rfl (Or.inl rfl)) (fun _ _ _ _ _ => pts_nil) (fun _ _ _ _ _ => (pe_ix (r := rIxT K) ix_tup (pv 2) pe_int (fun _ _ => rfl)))) pa_nil)) pa_nil))))))), ?_⟩
  have hl2 : m.2.leaves ≤ 61 := by unfold Ev at hev; omega
  have d1 := m.1.depth_lt
  have d2 := m.2.depth_lt
  refine ⟨(by show 0 ≤ sizeLine; decide), fun R hR => ?_⟩
  have s1 := same_new hR (.lst [])
  obtain ⟨a, x, y, rfl, ha, hx, hy⟩ := hm.mono s1.tk
  refine ⟨_, rfl, a, _, _, x, rfl, rfl, SqT.of ha, rfl, x, m.1, rfl, hx, by omega, by omega, fun p1 H2 s2 f2 e2 => ?_⟩
  refine ⟨_, rfl, a, _, _, y, rfl, rfl, SqT.of (s2 _ _ ha), rfl, y, m.2, rfl, hy.mono s2.tk, by omega, by omega, fun p2 H3 s3 f3 e3 => ?_⟩
  have e2' := s3 _ _ e2
  have hR3 : H3 R = some (.lst []) := s3 _ _ (s2 _ _ upd_same)
  have ne1 : R ≠ p1 := ne_of_none (show (upd H R (.lst [])) R = some (.lst []) from upd_same) f2
  have ne2 : R ≠ p2 := ne_of_none (s2 _ _ (show (upd H R (.lst [])) R = some (.lst []) from upd_same)) f3
  have lx : (m.1.paths.map fun q => V.str (pstr q)).length = m.1.leaves := by rw [List.length_map, T.paths_length]
  have ly : (m.2.paths.map fun q => V.str (pstr q)).length = m.2.leaves := by rw [List.length_map, T.paths_length]
  have hrows : (toL m).rows [] = m.1.paths.zip m.2.paths := toL_rows hev
  have hshort : ∀ r ∈ m.1.paths.zip m.2.paths, shortRow r := fun r hr => by
    have h1 := paths_short (List.of_mem_zip hr).1
    have h2 := paths_short (List.of_mem_zip hr).2
    exact ⟨by omega, by omega⟩
  have hzl : (m.1.paths.zip m.2.paths).length = m.1.leaves := by
    rw [List.length_zip, T.paths_length, T.paths_length]
    unfold Ev at hev
    omega
  refine ⟨p1, p2, _, _, rfl, SqL.of e2', SqL.of e3, by rw [lx, ly]; exact hev, fun i t σ' H' => (∃ x1 x2 x3, σ' = [some (.ref a), some (.ref R), x1, x2, x3]) ∧ Stk H3 H' R (pushes [] ((m.1.paths.zip m.2.paths).take i)) ∧ ∀ T, t = some T → ∃ l, H' T = some (.tup l), ?_, ?_, ?_, ?_⟩
  · exact ⟨⟨_, _, _, rfl⟩, ⟨⟨[], hR3, .nil⟩, SameX.refl _ _⟩, fun T h => nomatch h⟩
  · intro i t σ' H' hw
    obtain ⟨_, st, al⟩ := hw
    exact ⟨SqL.of (st.keep _ _ (fun z => ne1 (List.mem_singleton.mp z).symm) e2'), SqL.of (st.keep _ _ (fun z => ne2 (List.mem_singleton.mp z).symm) e3), al⟩
  · -- a turn
    intro i t vx vy T σ' H' hvx hvy hw hT
    obtain ⟨⟨x1, x2, x3, rfl⟩, st, al⟩ := hw
    obtain ⟨⟨os, hos, hro⟩, keep⟩ := st
    obtain ⟨px, hpx, rfl⟩ : ∃ px, m.1.paths[i]? = some px ∧ vx = V.str (pstr px) := by
      rw [List.getElem?_map] at hvx
      cases hh : m.1.paths[i]? with
      | none => rw [hh] at hvx; cases hvx
      | some z => rw [hh] at hvx; exact ⟨z, rfl, (Option.some.inj hvx).symm⟩
    obtain ⟨py, hpy, rfl⟩ : ∃ py, m.2.paths[i]? = some py ∧ vy = V.str (pstr py) := by
      rw [List.getElem?_map] at hvy
      cases hh : m.2.paths[i]? with
      | none => rw [hh] at hvy; cases hvy
      | some z => rw [hh] at hvy; exact ⟨z, rfl, (Option.some.inj hvy).symm⟩
    have hz : (m.1.paths.zip m.2.paths)[i]? = some (px, py) := by rw [List.getElem?_zip_eq_some]; exact ⟨hpx, hpy⟩
    have hfin := stack_take _ i _ hz
    have sT := same_new hT (.tup [V.str (pstr px), V.str (pstr py)])
    have hos1 := sT _ _ hos
    have hS := pushes_short (R := (m.1.paths.zip m.2.paths).take i) (S := []) (fun r h => nomatch h) (fun r hr => hshort r (List.mem_of_mem_take hr))
    have hSl : (pushes [] ((m.1.paths.zip m.2.paths).take i)).length ≤ 100 := by
      have h1 : _ ≤ 0 + ((m.1.paths.zip m.2.paths).take i).length := hS.2
      have h2 : ((m.1.paths.zip m.2.paths).take i).length ≤ (m.1.paths.zip m.2.paths).length := by rw [List.length_take]; omega
      omega
    have hol : os.length ≤ 100 := by rw [← Paired.length hro]; exact hSl
    have hsx : shortRow (px, py) := hshort _ (List.mem_of_getElem? hz)
    refine ⟨_, rfl, Or.inl ⟨rfl, _, SqL.of hos1⟩, _, rfl, R, os.reverse, _, rfl, rfl, hos1, by rw [List.length_reverse]; exact line1000' (by omega), ?_⟩
    have kT := tk_lst hos1 (.lst (os.reverse ++ [V.ref T]))
    -- the while
    refine ⟨fun n σ2 H2 => (∃ x2 x3, σ2 = [some (.ref a), some (.ref R), some (.ref T), x2, x3]) ∧ ∃ x S, Stk H3 H2 R (x :: S) ∧ push S x = pushes [] ((m.1.paths.zip m.2.paths).take (i + 1)) ∧ (∀ r ∈ x :: S, shortRow r) ∧ n = S.length ∧ S.length ≤ 100 ∧ ∀ T', some (t.getD T) = some T' → ∃ l, H2 T' = some (.tup l), ⟨_, ⟨_, _, rfl⟩, (px, py), _, ⟨⟨V.ref T :: os, ?_, ?_⟩, ?_⟩, hfin.symm, ?_, rfl, hSl, ?_⟩, ?_⟩
    · rw [upd_same, List.reverse_cons]
    · exact .cons ⟨T, rfl, kT _ _ upd_same⟩ (IsRows.mono kT (IsRows.mono sT.tk hro))
    · exact keep.trans ((sT.x [R]).trans (samex_upd _ (List.mem_singleton.mpr rfl)))
    · intro r hr
      rcases List.mem_cons.mp hr with rfl | hr
      · exact hsx
      · exact hS.1 r hr
    · intro T' e
      cases t with
      | none => cases e; exact ⟨_, kT _ _ upd_same⟩
      | some T0 =>
        cases e
        obtain ⟨l, hl⟩ := al T0 rfl
        exact ⟨l, kT _ _ (sT _ _ hl)⟩
    · intro n σ2 H2 hw2
      obtain ⟨⟨x2, x3, rfl⟩, x, S, ⟨⟨os, hos, hro⟩, keep⟩, hfin, hsh, rfl, hSl, al⟩ := hw2
      cases hro with
      | @cons _ ox _ os1 hox hro =>
      have hlen : os1.length = S.length := (Paired.length hro).symm
      have hlr : ((ox :: os1).reverse).length = S.length + 1 := by rw [List.length_reverse, List.length_cons, hlen]
      refine ⟨_, rfl, R, _, rfl, .inl (SqL.of hos), _, _, rfl, rfl, _, rfl, ?_⟩
      have out : push S x = x :: S → Stk H3 H2 R (pushes [] ((m.1.paths.zip m.2.paths).take (i + 1))) ∧ ∀ T', some (t.getD T) = some T' → ∃ l, H2 T' = some (.tup l) := fun e => ⟨⟨⟨ox :: os1, hos, (by rw [← hfin, e]; exact .cons hox hro)⟩, keep⟩, al⟩
      cases hro with
      | nil =>
        refine ite2 (fun c => ?_) (fun c => iteF ⟨⟨_, _, _, rfl⟩, out rfl⟩)
        have c' : (1 : Int) < (([ox] : List V).reverse.length : Int) := of_decide_eq_true c
        simp at c'
      | @cons y oy S1 os2 hoy hro =>
      have erev : (ox :: oy :: os2).reverse = os2.reverse ++ [oy] ++ [ox] := by simp
      have hos' : H2 R = some (.lst (os2.reverse ++ [oy] ++ [ox])) := by rw [hos, erev]
      have hox0 := hox
      obtain ⟨bx, rfl, hbx⟩ := hox
      obtain ⟨bY, rfl, hby⟩ := hoy
      have shx := hsh x List.mem_cons_self
      have shy := hsh y (List.mem_cons_of_mem _ List.mem_cons_self)
      have hgt : decide ((1 : Int) < (((V.ref bx :: V.ref bY :: os2).reverse.length : Nat) : Int)) = true := decide_eq_true (by rw [List.length_reverse]; simp; omega)
      rw [show decide ((1 : Int) < (((V.ref bx :: V.ref bY :: os2).reverse.length : Nat) : Int)) = true from hgt]
      refine iteT ⟨_, rfl, _, rfl, R, _, _, _, rfl, rfl, SqL.of hos', atI_m2 _ _ _, bY, _, _, _, rfl, rfl, SqT.of hby, rfl, _, rfl, _, rfl, R, _, _, _, rfl, rfl, SqL.of hos', atI_m1 _ _, bx, _, _, _, rfl, rfl, SqT.of hbx, rfl, y.1, x.1, rfl, by have := shy.1; omega, by have := shx.1; omega, _, rfl, ?_⟩
      have fine : (halves y.1 x.1 && halves y.2 x.2) = false → push (y :: S1) x = x :: y :: S1 := fun e => by
        unfold push
        rw [if_neg (by rw [e]; decide)]
      cases h1 : halves y.1 x.1 with
      | false =>
        exact iteF (iteF ⟨⟨_, _, _, rfl⟩, out (fine (by rw [h1]; rfl))⟩)
      | true =>
      refine iteT ⟨_, rfl, _, rfl, R, _, _, _, rfl, rfl, SqL.of hos', atI_m2 _ _ _, bY, _, _, _, rfl, rfl, SqT.of hby, rfl, _, rfl, _, rfl, R, _, _, _, rfl, rfl, SqL.of hos', atI_m1 _ _, bx, _, _, _, rfl, rfl, SqT.of hbx, rfl, y.2, x.2, rfl, by have := shy.2; omega, by have := shx.2; omega, _, rfl, ?_⟩
      cases h2 : halves y.2 x.2 with
      | false =>
        exact iteF ⟨⟨_, _, _, rfl⟩, out (fine (by rw [h2, Bool.and_false]))⟩
      | true =>
      obtain ⟨c1, ec1, ed1⟩ := halves_iff.mp h1
      obtain ⟨c2, ec2, ed2⟩ := halves_iff.mp h2
      have hpush : push (y :: S1) x = push S1 (c1, c2) := by
        show (if (halves y.1 x.1 && halves y.2 x.2) = true then push S1 (y.1.dropLast, y.2.dropLast) else _) = _
        rw [h1, h2, if_pos (show (true && true) = true from rfl), ec1, ec2, List.dropLast_concat, List.dropLast_concat]
      refine iteT ⟨fun σ3 H3' => ∃ m', m' < (y :: S1).length ∧ ((∃ x2 x3, σ3 = [some (.ref a), some (.ref R), some (.ref T), x2, x3]) ∧ ∃ x S, Stk H3 H3' R (x :: S) ∧ push S x = pushes [] ((m.1.paths.zip m.2.paths).take (i + 1)) ∧ (∀ r ∈ x :: S, shortRow r) ∧ m' = S.length ∧ S.length ≤ 100 ∧ ∀ T', some (t.getD T) = some T' → ∃ l, H3' T' = some (.tup l)), fun σ3 H3' z => z, ?_⟩
      refine ⟨_, rfl, Or.inl ⟨rfl, _, SqL.of hos'⟩, R, _, V.ref bx, rfl, rfl, hos', by simp, ?_⟩
      have k5 := tk_lst hos' (.lst (os2.reverse ++ [V.ref bY] ++ [V.ref bx]).dropLast)
      refine ⟨bx, _, rfl, SqT.of (k5 _ _ hbx), rfl, _, _, rfl, _, _, rfl, rfl, ?_⟩
      have zx1 : (pstr x.1).length ≤ sizeLine := by rw [pstr_len]; exact line1000 (by have := shx.1; omega)
      have zx2 : (pstr x.2).length ≤ sizeLine := by rw [pstr_len]; exact line1000 (by have := shx.2; omega)
      refine ⟨_, rfl, _, rfl, _, rfl, pstr x.1, rfl, zx1, _, rfl, _, rfl, _, rfl, pstr x.2, rfl, zx2, (by show 2 ≤ sizeLine; decide), fun g hg => ?_⟩
      have s6 := same_new hg (.tup [V.str (cutS (pstr x.1) none (some (-1))), V.str (cutS (pstr x.2) none (some (-1)))])
      have hos6 := s6 R _ (show upd H2 R (.lst (os2.reverse ++ [V.ref bY] ++ [V.ref bx]).dropLast) R = some (.lst (os2.reverse ++ [V.ref bY])) from by rw [upd_same, List.dropLast_concat])
      refine ⟨_, rfl, _, rfl, R, _, _, os2.reverse.length, rfl, rfl, hos6, ?_, ?_⟩
      · unfold ixN
        rw [if_neg (by decide), if_pos (by simp; omega)]
        congr 1
        simp
        omega
      have k7 := tk_lst hos6 (.lst ((os2.reverse ++ [V.ref bY]).set os2.reverse.length (V.ref g)))
      refine ⟨S1.length, by simp, ⟨_, _, rfl⟩, (c1, c2), S1, ⟨⟨V.ref g :: os2, ?_, ?_⟩, ?_⟩, by rw [← hpush, hfin], ?_, rfl, by simp at hSl; omega, ?_⟩
      · rw [upd_same, List.reverse_cons]
        congr 2
        simp
      · refine .cons ⟨g, rfl, k7 _ _ ?_⟩ (IsRows.mono k7 (IsRows.mono s6.tk (IsRows.mono k5 hro)))
        rw [upd_same, pstr_dropLast, pstr_dropLast, ed1, ed2, List.dropLast_concat, List.dropLast_concat]
        rfl
      · exact keep.trans ((samex_upd _ (List.mem_singleton.mpr rfl)).trans ((s6.x [R]).trans (samex_upd _ (List.mem_singleton.mpr rfl))))
      · intro r hr
        rcases List.mem_cons.mp hr with rfl | hr
        · have l1 := congrArg List.length ec1
          have l2 := congrArg List.length ec2
          simp at l1 l2
          exact ⟨by show c1.length ≤ 100; have := shy.1; omega, by show c2.length ≤ 100; have := shy.2; omega⟩
        · exact hsh r (List.mem_cons_of_mem _ (List.mem_cons_of_mem _ hr))
      · intro T' e
        obtain ⟨l, hl⟩ := al T' e
        exact ⟨l, k7 _ _ (s6 _ _ (k5 _ _ hl))⟩
  · -- behind the loop
    intro t σ' H' hw
    obtain ⟨⟨x1, x2, x3, rfl⟩, ⟨⟨os, hos, hro⟩, keep⟩, _⟩ := hw
    rw [lx, ← hzl, List.take_length, ← hrows, stack_end] at hro
    obtain ⟨b, hb, hgood, hsem, hle⟩ := trim_good hev
    have hro' := paired_reverse hro
    rw [List.reverse_reverse] at hro'
    have hol : os.reverse.length ≤ 1000 := by
      rw [← Paired.length hro', L.rows_length]
      omega
    have hbl : b.leaves = (toL m).trim.shape.leaves := hgood.1.symm
    have db := b.depth_lt
    have ds := (toL m).trim.shape.depth_lt
    refine ⟨_, rfl, R, rfl, ⟨_, SqL.of hos⟩, fun D1 hD1 => ?_⟩
    refine lc_run (j := 2) (fun _ => true) fstOf (fun k h => by obtain ⟨a, u, v, e1, e2, e3⟩ := h; exact ⟨a, u, v, e1, k _ _ e2, e3⟩) (SqL.of hos) hD1 (by omega) (fun x => rfl) (fun x _ H2 _ Qb hq => hq H2 (Same.refl _)) ?_ ?_
    · intro x hx _ H2 s2 Q' hq
      obtain ⟨r, _, c, rfl, hc⟩ := rows_mem hro' hx
      exact ⟨_, rfl, c, _, _, _, rfl, rfl, SqT.of (s2 _ _ hc), rfl, hq _ _ (Same.refl _) ⟨c, _, _, rfl, s2 _ _ hc, rfl⟩⟩
    intro H5 ys s5 e5 p5
    rw [List.filter_eq_self.mpr (fun _ _ => rfl)] at p5
    have ey := fsts (IsRows.mono s5.tk hro') p5
    have ey' : ys = (toL m).trim.shape.paths.map strV := by
      rw [ey]
      have := L.rows_fst (toL m).trim []
      have e0 : (toL m).trim.shape.paths.map (([] : Path) ++ ·) = (toL m).trim.shape.paths := by simp
      rw [e0] at this
      rw [← this, List.map_map]
      rfl
    subst ey'
    refine ⟨D1, (toL m).trim.shape, rfl, e5, by omega, by omega, by omega, fun r1 H6 s6 m6 => ?_⟩
    have hos6 := s6 _ _ (s5 _ _ hos)
    refine ⟨_, rfl, R, rfl, ⟨_, SqL.of hos6⟩, fun D2 hD2 => ?_⟩
    refine lc_run (j := 2) (fun _ => true) sndOf (fun k h => by obtain ⟨a, u, v, e1, e2, e3⟩ := h; exact ⟨a, u, v, e1, k _ _ e2, e3⟩) (SqL.of hos6) hD2 (by omega) (fun x => rfl) (fun x _ H2 _ Qb hq => hq H2 (Same.refl _)) ?_ ?_
    · intro x hx _ H2 s2 Q' hq
      obtain ⟨r, _, c, rfl, hc⟩ := rows_mem (IsRows.mono (s5.trans s6).tk hro') hx
      exact ⟨_, rfl, c, _, _, _, rfl, rfl, SqT.of (s2 _ _ hc), rfl, hq _ _ (Same.refl _) ⟨c, _, _, rfl, s2 _ _ hc, rfl⟩⟩
    intro H7 ys s7 e7 p7
    rw [List.filter_eq_self.mpr (fun _ _ => rfl)] at p7
    have ey := snds (IsRows.mono (s5.trans (s6.trans s7)).tk hro') p7
    have ey' : ys = b.paths.map strV := by
      rw [ey, hb, ← L.rows_snd (toL m).trim [], List.map_map]
      rfl
    subst ey'
    refine ⟨D2, b, rfl, e7, by omega, by omega, by omega, fun r2 H8 s8 m8 => ?_⟩
    refine ⟨(by show 2 ≤ sizeLine; decide), fun g hg => ?_⟩
    have s9 := same_new hg (.tup [r1, r2])
    have sEnd : Same H H' := by
      have h1 : SameX [R] H H' := (s1.x [R]).trans ((s2.x [R]).trans ((s3.x [R]).trans keep))
      exact (h1.drop hR).same
    exact q (.ref g) ((toL m).trim.shape, b) _ (sEnd.trans (s5.trans (s6.trans (s7.trans (s8.trans s9))))) ⟨g, r1, r2, rfl, upd_same, ((m6.mono s7.tk).mono s8.tk).mono s9.tk, m8.mono s9.tk⟩ hgood hsem hle
theorem cal_trimmed (B : Blt mg) (D : DefAt K mg "trimmed" s_trimmed P_trimmed) (c_paths : Cal P w K mg base 71 "paths" P_paths spPaths) (c_are_halves : Cal P w K mg base 1 "are_halves" P_are_halves spHalves)
    (c_tree_of : Cal P w K mg base 70 "tree_of" P_tree_of (spTreeOf 70)) : Cal P w K mg base 72 "trimmed" P_trimmed spTrim := D.cal fun _ _ F => ok_trimmed B F c_paths c_are_halves c_tree_of
end
end Hw
set_option maxHeartbeats 4000000
/-! Halvewright: then, back, power, low, high, numbered. -/
namespace Hw
open PySem L2
section
variable {P : Program} {w : World} {K : PySem.W.Frag} {mg : Str → Option Value} {base : Heap} {f : Addr} {fd : FuncData}

/-- trees and maps that are written -/
def Tev (te : TE) (t : T) : Prop := ∀ (σ : St) (H : Hp) (Q : VK), (∀ v H', Same H H' → IsT H' v t → Q v H') → te σ H Q
def Mev (te : TE) (m : M) : Prop := ∀ (σ : St) (H : Hp) (Q : VK), (∀ v H', Same H H' → IsM H' v m → Q v H') → te σ H Q
theorem tev_leaf : Tev (tTup tNil) .leaf := fun σ H Q q => ⟨(by show 0 ≤ sizeLine; decide), fun p hp => q _ _ (same_new hp _) ⟨p, rfl, upd_same⟩⟩
theorem tev_node {ta tb : TE} {l r : T} (ha : Tev ta l) (hb : Tev tb r) : Tev (tTup (tCons ta (tCons tb tNil))) (.node l r) := fun σ H Q q =>
  ha σ H _ fun x H1 s1 m1 => hb σ H1 _ fun y H2 s2 m2 => ⟨(by show 2 ≤ sizeLine; decide), fun p hp => by
    have s3 := same_new hp (.tup [x, y])
    exact q _ _ (s1.trans (s2.trans s3)) ⟨p, x, y, rfl, upd_same, (m1.mono s2.tk).mono s3.tk, m2.mono s3.tk⟩⟩
theorem mev_pair {ta tb : TE} {l r : T} (ha : Tev ta l) (hb : Tev tb r) : Mev (tTup (tCons ta (tCons tb tNil))) (l, r) := fun σ H Q q =>
  ha σ H _ fun x H1 s1 m1 => hb σ H1 _ fun y H2 s2 m2 => ⟨(by show 2 ≤ sizeLine; decide), fun p hp => by
    have s3 := same_new hp (.tup [x, y])
    exact q _ _ (s1.trans (s2.trans s3)) ⟨p, x, y, rfl, upd_same, (m1.mono s2.tk).mono s3.tk, m2.mono s3.tk⟩⟩
theorem seq_m {te : TE} {m : M} {i : Nat} {t2 : TS} {D : Ends} {σ : St} {H : Hp} (h : Mev te m) (k : ∀ v H', Same H H' → IsM H' v m → t2 D (σ.set i (some v)) H') : tSeq (tAsg te (gName i)) t2 D σ H := h σ H _ k
theorem trim_does {m m' : M} {x : G} (hp : Pre m x) (hg : Good m') (hs : ∀ z, sem m' z = sem m z) : Does m' x := ⟨hg, fun z => (hs z).trans (hp.2 z)⟩
theorem IsM.parts {H : Hp} {v : V} {m : M} (h : IsM H v m) : ∃ a x y, v = .ref a ∧ H a = some (.tup [x, y]) ∧ IsT H x m.1 ∧ IsT H y m.2 := h
theorem pair_m {H : Hp} {p : Addr} {x y : V} {a b : T} (hp : H p = none) (hx : IsT H x a) (hy : IsT H y b) : IsM (upd H p (.tup [x, y])) (.ref p) (a, b) :=
  ⟨p, x, y, rfl, upd_same, hx.mono (tk_new hp _), hy.mono (tk_new hp _)⟩

abbrev s_then : Stmt := top 35
abbrev N_then : List Str := ["f", "g", "common", "one", "other"]
abbrev P_then : List Str := ["f", "g"]
theorem sc_then : FnScope N_then P_then (defScope s_then) := ⟨rfl, rfl, rfl, by decide +kernel, rfl, by decide +kernel, by decide +kernel⟩
def spThen : Sp := fun vs H Q _ => ∃ v u f g x y, vs = [v, u] ∧ IsM H v f ∧ IsM H u g ∧ Does f x ∧ Does g y ∧ f.1.leaves + g.1.leaves ≤ 62 ∧
  ∀ r m H', Same H H' → IsM H' r m → Does m (x * y) → m.1.leaves + 1 ≤ f.1.leaves + g.1.leaves → Q r H'
theorem ok_then (F : Fun K "then" "then" s_then f fd) (c_both : Cal P w K mg base 70 "both" P_both (spBoth 70)) (c_excess : Cal P w K mg base 71 "excess" P_excess spExcess) (c_hung : Cal P w K mg base 71 "hung" P_hung spHung)
    (c_trimmed : Cal P w K mg base 72 "trimmed" P_trimmed spTrim) : FnOk P w K mg base CX0 73 f fd P_then spThen := by
  have nd := sc_then.nd
  refine F.ok sc_then (fun vs H Q E h => ?_) (fun cdv A outer s H vs Q E hr h => ?_)
  · obtain ⟨v, u, f, g, x, y, rfl, _⟩ := h; rfl
  obtain ⟨v, u, f, g, x, y, rfl, hf, hg, df, dg, hl, q⟩ := h
  have L_both : 70 ≤ 72 := by decide
  have L_excess : 71 ≤ 72 := by decide
  have L_hung : 71 ≤ 72 := by decide
  have L_trimmed : 72 ≤ 72 := by decide
  refine ⟨_, (pss_cons (ps_set (i := 2) nd rfl (Or.inl rfl) (pe_cal c_both (hr.mono L_both) (by rfl) (pa_cons (pe_ix ix_tup (pv 0) pe_int (fun _ _ => rfl)) (pa_cons (pe_ix ix_tup (pv 1) pe_int (fun _ _ => rfl)) pa_nil))))
      (pss_cons (ps_set (i := 3) nd rfl (Or.inl rfl) (pe_cal c_hung (hr.mono L_hung) (by rfl) (pa_cons (pe_ix ix_tup (pv 0) pe_int (fun _ _ => rfl)) (pa_cons (pe_cal c_excess (hr.mono L_excess) (by rfl) (pa_cons (pe_ix ix_tup (pv 0) pe_int (fun _ _ => rfl)) (pa_cons (pv 2) pa_nil))) pa_nil))))
      (pss_cons (ps_set (i := 4) nd rfl (Or.inl rfl) (pe_cal c_hung (hr.mono L_hung) (by rfl) (pa_cons (pe_ix ix_tup (pv 1) pe_int (fun _ _ => rfl)) (pa_cons (pe_cal c_excess (hr.mono L_excess) (by rfl) (pa_cons (pe_ix ix_tup (pv 1) pe_int (fun _ _ => rfl)) (pa_cons (pv 2) pa_nil))) pa_nil))))
      (pss_one (ps_ret (pe_cal c_trimmed (hr.mono L_trimmed) (by rfl) (pa_cons (pe_tup (pa_cons (pv 3) (pa_cons (pv 4) pa_nil))) pa_nil))))))), ?_⟩
  obtain ⟨a, f1, f2, rfl, ha, hf1, hf2⟩ := hf
  obtain ⟨b, g1, g2, rfl, hb, hg1, hg2⟩ := hg
  have ef : f.1.leaves = f.2.leaves := df.ev
  have eg : g.1.leaves = g.2.leaves := dg.ev
  have p1 := f.1.leaves_pos
  have p2 := g.1.leaves_pos
  have d1 := f.1.depth_lt
  have d2 := f.2.depth_lt
  have d3 := g.1.depth_lt
  have d4 := g.2.depth_lt
  refine ⟨_, rfl, a, _, _, f2, rfl, rfl, SqT.of ha, rfl, _, rfl, b, _, _, g1, rfl, rfl, SqT.of hb, rfl, f2, g1, f.2, g.1, rfl, hf2, hg1, by omega, by omega, by omega, fun c H1 s1 mc => ?_⟩
  refine ⟨_, rfl, a, _, _, f1, rfl, rfl, SqT.of (s1 _ _ ha), rfl, _, rfl, a, _, _, f2, rfl, rfl, SqT.of (s1 _ _ ha), rfl, _, rfl, f2, c, f.2, both f.2 g.1, rfl, hf2.mono s1.tk, mc, le_both1 _ _, by omega, by omega, fun p H2 ys s2 fp ep mp => ?_⟩
  refine ⟨f1, p, f.1, ys, _, rfl, (hf1.mono s1.tk).mono s2.tk, ep, mp, (excess_length (le_both1 f.2 g.1)).trans ef.symm, by omega, fun one H3 s3 m1 => ?_⟩
  refine ⟨_, rfl, b, _, _, g2, rfl, rfl, SqT.of (s3 _ _ (s2 _ _ (s1 _ _ hb))), rfl, _, rfl, b, _, _, g1, rfl, rfl, SqT.of (s3 _ _ (s2 _ _ (s1 _ _ hb))), rfl, _, rfl, g1, c, g.1, both f.2 g.1, rfl, ((hg1.mono s1.tk).mono s2.tk).mono s3.tk, (mc.mono s2.tk).mono s3.tk, le_both2 _ _, by omega, by omega, fun p' H4 ys' s4 fp' ep' mp' => ?_⟩
  refine ⟨g2, p', g.2, ys', _, rfl, (((hg2.mono s1.tk).mono s2.tk).mono s3.tk).mono s4.tk, ep', mp', (excess_length (le_both2 f.2 g.1)).trans eg, by omega, fun other H5 s5 m2 => ?_⟩
  refine ⟨_, rfl, _, rfl, (by show 2 ≤ sizeLine; decide), fun t ht => ?_⟩
  have s6 := same_new ht (.tup [one, other])
  have hpre := pre_then df dg
  have hle := thenP_le (f := f) (g := g) df.ev
  refine ⟨_, thenP f g, rfl, pair_m ht ((m1.mono s4.tk).mono s5.tk) m2, hpre.1, by omega, fun r m' H6 s7 hm' hgood hsem hlv => ?_⟩
  exact q r m' H6 (s1.trans (s2.trans (s3.trans (s4.trans (s5.trans (s6.trans s7)))))) hm' (trim_does hpre hgood hsem) (by omega)
theorem cal_then (D : DefAt K mg "then" s_then P_then) (c_both : Cal P w K mg base 70 "both" P_both (spBoth 70)) (c_excess : Cal P w K mg base 71 "excess" P_excess spExcess) (c_hung : Cal P w K mg base 71 "hung" P_hung spHung)
    (c_trimmed : Cal P w K mg base 72 "trimmed" P_trimmed spTrim) : Cal P w K mg base 73 "then" P_then spThen := D.cal fun _ _ F => ok_then F c_both c_excess c_hung c_trimmed

abbrev s_back : Stmt := top 36
abbrev N_back : List Str := ["f"]
abbrev P_back : List Str := ["f"]
theorem sc_back : FnScope N_back P_back (defScope s_back) := ⟨rfl, rfl, rfl, by decide +kernel, rfl, by decide +kernel, by decide +kernel⟩
def spBack : Sp := fun vs H Q _ => ∃ v f x, vs = [v] ∧ IsM H v f ∧ Does f x ∧ f.1.leaves ≤ 61 ∧ ∀ r m H', Same H H' → IsM H' r m → Does m x.inv → m.1.leaves ≤ f.1.leaves → Q r H'
theorem ok_back (F : Fun K "back" "back" s_back f fd) (c_trimmed : Cal P w K mg base 72 "trimmed" P_trimmed spTrim) : FnOk P w K mg base CX0 73 f fd P_back spBack := by
  have nd := sc_back.nd
  refine F.ok sc_back (fun vs H Q E h => ?_) (fun cdv A outer s H vs Q E hr h => ?_)
  · obtain ⟨v, f, x, rfl, _⟩ := h; rfl
  obtain ⟨v, f, x, rfl, hf, df, hl, q⟩ := h
  have L_trimmed : 72 ≤ 72 := by decide
  refine ⟨_, (pss_one (ps_ret (pe_cal c_trimmed (hr.mono L_trimmed) (by rfl) (pa_cons (pe_tup (pa_cons (pe_ix ix_tup (pv 0) pe_int (fun _ _ => rfl)) (pa_cons (pe_ix ix_tup (pv 0) pe_int (fun _ _ => rfl)) pa_nil))) pa_nil)))), ?_⟩
  obtain ⟨a, f1, f2, rfl, ha, hf1, hf2⟩ := hf
  have ef : f.1.leaves = f.2.leaves := df.ev
  refine ⟨_, rfl, a, _, _, f2, rfl, rfl, SqT.of ha, rfl, _, rfl, a, _, _, f1, rfl, rfl, SqT.of ha, rfl, (by show 2 ≤ sizeLine; decide), fun t ht => ?_⟩
  have hpre := pre_back df
  refine ⟨_, backP f, rfl, pair_m ht hf2 hf1, hpre.1, by show f.2.leaves ≤ 61; omega, fun r m' H6 s7 hm' hgood hsem hlv => ?_⟩
  have hlv' : m'.1.leaves ≤ f.2.leaves := hlv
  exact q r m' H6 ((same_new ht _).trans s7) hm' (trim_does hpre hgood hsem) (by omega)
theorem cal_back (D : DefAt K mg "back" s_back P_back) (c_trimmed : Cal P w K mg base 72 "trimmed" P_trimmed spTrim) : Cal P w K mg base 73 "back" P_back spBack := D.cal fun _ _ F => ok_back F c_trimmed

abbrev s_low : Stmt := top 38
abbrev N_low : List Str := ["f"]
abbrev P_low : List Str := ["f"]
theorem sc_low : FnScope N_low P_low (defScope s_low) := ⟨rfl, rfl, rfl, by decide +kernel, rfl, by decide +kernel, by decide +kernel⟩
def spLow : Sp := fun vs H Q _ => ∃ v f x, vs = [v] ∧ IsM H v f ∧ Does f x ∧ f.1.leaves ≤ 60 ∧ ∀ r m H', Same H H' → IsM H' r m → Does m x.low → m.1.leaves ≤ f.1.leaves + 1 → Q r H'
theorem ok_low (F : Fun K "low" "low" s_low f fd) (c_trimmed : Cal P w K mg base 72 "trimmed" P_trimmed spTrim) : FnOk P w K mg base CX0 73 f fd P_low spLow := by
  have nd := sc_low.nd
  refine F.ok sc_low (fun vs H Q E h => ?_) (fun cdv A outer s H vs Q E hr h => ?_)
  · obtain ⟨v, f, x, rfl, _⟩ := h; rfl
  obtain ⟨v, f, x, rfl, hf, df, hl, q⟩ := h
  have L_trimmed : 72 ≤ 72 := by decide
  refine ⟨_, (pss_one (ps_ret (pe_cal c_trimmed (hr.mono L_trimmed) (by rfl) (pa_cons (pe_tup (pa_cons (pe_tup (pa_cons (pe_ix ix_tup (pv 0) pe_int (fun _ _ => rfl)) (pa_cons (pe_tup pa_nil) pa_nil))) (pa_cons (pe_tup (pa_cons (pe_ix ix_tup (pv 0) pe_int (fun _ _ => rfl)) (pa_cons (pe_tup pa_nil) pa_nil))) pa_nil))) pa_nil)))), ?_⟩
  obtain ⟨a, f1, f2, rfl, ha, hf1, hf2⟩ := hf
  refine ⟨_, rfl, a, _, _, f1, rfl, rfl, SqT.of ha, rfl, (by show 0 ≤ sizeLine; decide), fun t1 h1 => ?_⟩
  have s1 := same_new h1 (.tup [])
  refine ⟨(by show 2 ≤ sizeLine; decide), fun t2 h2 => ?_⟩
  have s2 := same_new h2 (.tup [f1, V.ref t1])
  refine ⟨_, rfl, a, _, _, f2, rfl, rfl, SqT.of (s2 _ _ (s1 _ _ ha)), rfl, (by show 0 ≤ sizeLine; decide), fun t3 h3 => ?_⟩
  have s3 := same_new h3 (.tup [])
  refine ⟨(by show 2 ≤ sizeLine; decide), fun t4 h4 => ?_⟩
  have s4 := same_new h4 (.tup [f2, V.ref t3])
  refine ⟨(by show 2 ≤ sizeLine; decide), fun t5 h5 => ?_⟩
  have hpre := pre_low df
  have m1 : IsT (upd (upd H t1 (.tup [])) t2 (.tup [f1, V.ref t1])) (.ref t2) (.node f.1 .leaf) := ⟨t2, _, _, rfl, upd_same, (hf1.mono s1.tk).mono s2.tk, t1, rfl, s2 _ _ upd_same⟩
  have m2 : IsT (upd (upd (upd (upd H t1 (.tup [])) t2 (.tup [f1, V.ref t1])) t3 (.tup [])) t4 (.tup [f2, V.ref t3])) (.ref t4) (.node f.2 .leaf) := ⟨t4, _, _, rfl, upd_same, (((hf2.mono s1.tk).mono s2.tk).mono s3.tk).mono s4.tk, t3, rfl, s4 _ _ upd_same⟩
  refine ⟨_, lowP f, rfl, pair_m h5 ((m1.mono s3.tk).mono s4.tk) m2, hpre.1, by show f.1.leaves + 1 ≤ 61; omega, fun r m' H6 s7 hm' hgood hsem hlv => ?_⟩
  exact q r m' H6 (s1.trans (s2.trans (s3.trans (s4.trans ((same_new h5 _).trans s7))))) hm' (trim_does hpre hgood hsem) hlv
theorem cal_low (D : DefAt K mg "low" s_low P_low) (c_trimmed : Cal P w K mg base 72 "trimmed" P_trimmed spTrim) : Cal P w K mg base 73 "low" P_low spLow := D.cal fun _ _ F => ok_low F c_trimmed

abbrev s_high : Stmt := top 39
abbrev N_high : List Str := ["f"]
abbrev P_high : List Str := ["f"]
theorem sc_high : FnScope N_high P_high (defScope s_high) := ⟨rfl, rfl, rfl, by decide +kernel, rfl, by decide +kernel, by decide +kernel⟩
def spHigh : Sp := fun vs H Q _ => ∃ v f x, vs = [v] ∧ IsM H v f ∧ Does f x ∧ f.1.leaves ≤ 60 ∧ ∀ r m H', Same H H' → IsM H' r m → Does m x.high → m.1.leaves ≤ f.1.leaves + 1 → Q r H'
theorem ok_high (F : Fun K "high" "high" s_high f fd) (c_trimmed : Cal P w K mg base 72 "trimmed" P_trimmed spTrim) : FnOk P w K mg base CX0 73 f fd P_high spHigh := by
  have nd := sc_high.nd
  refine F.ok sc_high (fun vs H Q E h => ?_) (fun cdv A outer s H vs Q E hr h => ?_)
  · obtain ⟨v, f, x, rfl, _⟩ := h; rfl
  obtain ⟨v, f, x, rfl, hf, df, hl, q⟩ := h
  have L_trimmed : 72 ≤ 72 := by decide
  refine ⟨_, (pss_one (ps_ret (pe_cal c_trimmed (hr.mono L_trimmed) (by rfl) (pa_cons (pe_tup (pa_cons (pe_tup (pa_cons (pe_tup pa_nil) (pa_cons (pe_ix ix_tup (pv 0) pe_int (fun _ _ => rfl)) pa_nil))) (pa_cons (pe_tup (pa_cons (pe_tup pa_nil) (pa_cons (pe_ix ix_tup (pv 0) pe_int (fun _ _ => rfl)) pa_nil))) pa_nil))) pa_nil)))), ?_⟩
  obtain ⟨a, f1, f2, rfl, ha, hf1, hf2⟩ := hf
  refine ⟨(by show 0 ≤ sizeLine; decide), fun t1 h1 => ?_⟩
  have s1 := same_new h1 (.tup [])
  refine ⟨_, rfl, a, _, _, f1, rfl, rfl, SqT.of (s1 _ _ ha), rfl, (by show 2 ≤ sizeLine; decide), fun t2 h2 => ?_⟩
  have s2 := same_new h2 (.tup [V.ref t1, f1])
  refine ⟨(by show 0 ≤ sizeLine; decide), fun t3 h3 => ?_⟩
  have s3 := same_new h3 (.tup [])
  refine ⟨_, rfl, a, _, _, f2, rfl, rfl, SqT.of (s3 _ _ (s2 _ _ (s1 _ _ ha))), rfl, (by show 2 ≤ sizeLine; decide), fun t4 h4 => ?_⟩
  have s4 := same_new h4 (.tup [V.ref t3, f2])
  refine ⟨(by show 2 ≤ sizeLine; decide), fun t5 h5 => ?_⟩
  have hpre := pre_high df
  have m1 : IsT (upd (upd H t1 (.tup [])) t2 (.tup [V.ref t1, f1])) (.ref t2) (.node .leaf f.1) := ⟨t2, _, _, rfl, upd_same, ⟨t1, rfl, s2 _ _ upd_same⟩, (hf1.mono s1.tk).mono s2.tk⟩
  have m2 : IsT (upd (upd (upd (upd H t1 (.tup [])) t2 (.tup [V.ref t1, f1])) t3 (.tup [])) t4 (.tup [V.ref t3, f2])) (.ref t4) (.node .leaf f.2) := ⟨t4, _, _, rfl, upd_same, ⟨t3, rfl, s4 _ _ upd_same⟩, (((hf2.mono s1.tk).mono s2.tk).mono s3.tk).mono s4.tk⟩
  refine ⟨_, highP f, rfl, pair_m h5 ((m1.mono s3.tk).mono s4.tk) m2, hpre.1, by show 1 + f.1.leaves ≤ 61; omega, fun r m' H6 s7 hm' hgood hsem hlv => ?_⟩
  have hlv' : m'.1.leaves ≤ 1 + f.1.leaves := hlv
  exact q r m' H6 (s1.trans (s2.trans (s3.trans (s4.trans ((same_new h5 _).trans s7))))) hm' (trim_does hpre hgood hsem) (by omega)
theorem cal_high (D : DefAt K mg "high" s_high P_high) (c_trimmed : Cal P w K mg base 72 "trimmed" P_trimmed spTrim) : Cal P w K mg base 73 "high" P_high spHigh := D.cal fun _ _ F => ok_high F c_trimmed

abbrev s_numbered : Stmt := top 41
abbrev N_numbered : List Str := ["n", "found", "turn"]
abbrev P_numbered : List Str := ["n"]
theorem sc_numbered : FnScope N_numbered P_numbered (defScope s_numbered) := ⟨rfl, rfl, rfl, by decide +kernel, rfl, by decide +kernel, by decide +kernel⟩
def spNumbered : Sp := fun vs H Q _ => ∃ n : Nat, vs = [.int n] ∧ n ≤ 58 ∧ ∀ r m H', Same H H' → IsM H' r m → Does m (G.mv n) → m.1.leaves ≤ n + 3 → Q r H'
theorem ok_numbered (B : Blt mg) (F : Fun K "numbered" "numbered" s_numbered f fd) (c_high : Cal P w K mg base 73 "high" P_high spHigh) : FnOk P w K mg base CX0 74 f fd P_numbered spNumbered := by
  have nd := sc_numbered.nd
  refine F.ok sc_numbered (fun vs H Q E h => ?_) (fun cdv A outer s H vs Q E hr h => ?_)
  · obtain ⟨n, rfl, _⟩ := h; rfl
  obtain ⟨n, rfl, hn, q⟩ := h
  have L_high : 73 ≤ 73 := by decide
  refine ⟨_, (pss_cons (ps_set (i := 1) nd rfl (Or.inl rfl) (pe_tup (pa_cons (pe_tup (pa_cons (pe_tup (pa_cons (pe_tup pa_nil) (pa_cons (pe_tup pa_nil) pa_nil))) (pa_cons (pe_tup pa_nil) pa_nil))) (pa_cons (pe_tup (pa_cons (pe_tup pa_nil) (pa_cons (pe_tup (pa_cons (pe_tup pa_nil) (pa_cons (pe_tup pa_nil) pa_nil))) pa_nil))) pa_nil))))
      (pss_cons (ps_for PassesOwn.never rfl (pi_range1 (by rfl) B.range (pa_cons (pv 0) pa_nil)) (pg_name (i := 2) nd rfl (Or.inl rfl))
        (pss_one (ps_set (i := 1) nd rfl (Or.inl rfl) (pe_cal c_high (hr.mono L_high) (by rfl) (pa_cons (pv 1) pa_nil)))))
      (pss_one (ps_ret (pv 1))))), ?_⟩
  refine seq_m (mev_pair (tev_node (tev_node tev_leaf tev_leaf) tev_leaf) (tev_node tev_leaf (tev_node tev_leaf tev_leaf))) fun v H1 s1 m1 => ?_
  refine ⟨_, rfl, (n : Int), rfl, by omega, by omega, ?_⟩
  refine for_range (lo := 0) (n := (n : Int).toNat) (fun i σ' H' => ∃ u x m, σ' = [some (.int n), some u, x] ∧ Same H H' ∧ IsM H' u m ∧ Does m (G.mv i) ∧ m.1.leaves ≤ i + 3) ?_ ?_ ?_
  · exact ⟨v, _, mA, rfl, s1, m1, does_a, by show 3 ≤ 3; decide⟩
  · intro i σ' H' hi hw
    obtain ⟨u, x, m, rfl, s2, hm, dm, hl⟩ := hw
    refine ⟨_, rfl, u, m, _, rfl, hm, dm, by omega, fun r m' H2 s3 hm' dm' hl' => ?_⟩
    exact ⟨r, _, m', rfl, s2.trans s3, hm', dm', by omega⟩
  · intro σ' H' hw
    obtain ⟨u, x, m, rfl, s2, hm, dm, hl⟩ := hw
    have e : ((n : Int)).toNat = n := Int.toNat_natCast n
    rw [e] at dm hl
    exact ⟨_, rfl, q u m H' s2 hm dm hl⟩
theorem cal_numbered (B : Blt mg) (D : DefAt K mg "numbered" s_numbered P_numbered) (c_high : Cal P w K mg base 73 "high" P_high spHigh) : Cal P w K mg base 74 "numbered" P_numbered spNumbered := D.cal fun _ _ F => ok_numbered B F c_high

abbrev s_power : Stmt := top 37
abbrev N_power : List Str := ["f", "n", "step", "found", "turn"]
abbrev P_power : List Str := ["f", "n"]
theorem sc_power : FnScope N_power P_power (defScope s_power) := ⟨rfl, rfl, rfl, by decide +kernel, rfl, by decide +kernel, by decide +kernel⟩
def spPower : Sp := fun vs H Q _ => ∃ v n f x W, vs = [v, .int n] ∧ IsM H v f ∧ Does f x ∧ f.1.leaves ≤ W + 1 ∧ W * max 1 n.natAbs ≤ 60 ∧ n.natAbs ≤ 10000 ∧ ∀ r m H', Same H H' → IsM H' r m → Does m (G.pw x n) → m.1.leaves ≤ W * max 1 n.natAbs + 1 → Q r H'
theorem ok_power (B : Blt mg) (F : Fun K "power" "power" s_power f fd) (c_then : Cal P w K mg base 73 "then" P_then spThen) (c_back : Cal P w K mg base 73 "back" P_back spBack) : FnOk P w K mg base CX0 74 f fd P_power spPower := by
  have nd := sc_power.nd
  refine F.ok sc_power (fun vs H Q E h => ?_) (fun cdv A outer s H vs Q E hr h => ?_)
  · obtain ⟨v, n, f, x, W, rfl, _⟩ := h; rfl
  obtain ⟨v, n, f, x, W, rfl, hf, df, hl, hW, hn, q⟩ := h
  have L_then : 73 ≤ 73 := by decide
  have L_back : 73 ≤ 73 := by decide
  refine ⟨_, (pss_cons (ps_set (i := 2) nd rfl (Or.inl rfl) (pe_ifExp (pt_cmpR op_gt (pv 1) pe_int (nomark _)) (pv 0) (pe_cal c_back (hr.mono L_back) (by rfl) (pa_cons (pv 0) pa_nil))))
      (pss_cons (ps_set (i := 3) nd rfl (Or.inl rfl) (pe_tup (pa_cons (pe_tup pa_nil) (pa_cons (pe_tup pa_nil) pa_nil))))
      (pss_cons (ps_for PassesOwn.never rfl (pi_range1 (by rfl) B.range (pa_cons (pe_callB call_abs (by rfl) B.abs bl_abs (pa_cons (pv 1) pa_nil)) pa_nil)) (pg_name (i := 4) nd rfl (Or.inl rfl))
        (pss_one (ps_set (i := 3) nd rfl (Or.inl rfl) (pe_cal c_then (hr.mono L_then) (by rfl) (pa_cons (pv 3) (pa_cons (pv 2) pa_nil))))))
      (pss_one (ps_ret (pv 3)))))), ?_⟩
  have W1 : W ≤ W * max 1 n.natAbs := Nat.le_mul_of_pos_right _ (by omega)
  have Wn : ∀ k, k ≤ n.natAbs → W * k ≤ W * max 1 n.natAbs := fun k hk => Nat.mul_le_mul_left _ (by omega)
  have main : ∀ (u : V) (g : M) (H1 : Hp), Same H H1 → IsM H1 u g → Does g (if 0 < n then x else x.inv) → g.1.leaves ≤ W + 1 →
      (tSeq (tAsg (tTup (tCons (tTup tNil) (tCons (tTup tNil) tNil))) (gName 3)) (tSeq (tFor (iRng1 (tCons (tCB (fun xs H Q => ∃ i, xs = [V.int i] ∧ Q (.int (if i < 0 then -i else i)) H) (tCons (tVar 1) tNil)) tNil)) (gName 4) (tAsg (tCall spThen [] E0 (tCons (tVar 3) (tCons (tVar 2) tNil))) (gName 3))) (tRet (tVar 3))))
        { nx := fun _ H' => Q .non H', rt := Q } [some v, some (.int n), some u, none, none] H1 := fun u g H1 s1 hg dg hlg => by
    refine seq_m (mev_pair tev_leaf tev_leaf) fun v0 H2 s2 m2 => ?_
    have en : (if n < 0 then -n else n).toNat = n.natAbs := by split <;> omega
    refine ⟨_, rfl, n, rfl, _, rfl, by split <;> omega, by split <;> omega, ?_⟩
    rw [en]
    refine for_range (lo := 0) (n := n.natAbs) (fun i σ' H' => ∃ z c m, σ' = [some v, some (.int n), some u, some z, c] ∧ Same H1 H' ∧ IsM H' z m ∧ Does m (G.npow (if 0 < n then x else x.inv) i) ∧ m.1.leaves ≤ W * i + 1) ?_ ?_ ?_
    · exact ⟨v0, _, _, rfl, s2, m2, does_one, by show 1 ≤ W * 0 + 1; omega⟩
    · intro i σ' H' hi hw
      obtain ⟨z, c, m, rfl, s3, hm, dm, hlm⟩ := hw
      have h1 := Wn (i + 1) hi
      rw [Nat.mul_succ] at h1
      refine ⟨_, rfl, _, rfl, z, u, m, g, _, _, rfl, hm, hg.mono s3.tk, dm, dg, by omega, fun r m' H3 s4 hm' dm' hl' => ?_⟩
      exact ⟨r, _, m', rfl, s3.trans s4, hm', dm', by rw [Nat.mul_succ]; omega⟩
    · intro σ' H' hw
      obtain ⟨z, c, m, rfl, s3, hm, dm, hlm⟩ := hw
      have h1 := Wn n.natAbs (Nat.le_refl _)
      exact ⟨_, rfl, q z m H' (s1.trans s3) hm dm (by omega)⟩
  refine ⟨_, rfl, _, _, rfl, rfl, _, rfl, ?_⟩
  by_cases h0 : 0 < n
  · rw [decide_eq_true h0]
    refine iteT ⟨_, rfl, ?_⟩
    exact main v f H (Same.refl H) hf (by rw [if_pos h0]; exact df) hl
  · rw [decide_eq_false h0]
    refine iteF ⟨_, rfl, v, f, x, rfl, hf, df, by omega, fun r m H1 s1 hm dm hl' => ?_⟩
    exact main r m H1 s1 hm (by rw [if_neg h0]; exact dm) (by omega)
theorem cal_power (B : Blt mg) (D : DefAt K mg "power" s_power P_power) (c_then : Cal P w K mg base 73 "then" P_then spThen) (c_back : Cal P w K mg base 73 "back" P_back spBack) : Cal P w K mg base 74 "power" P_power spPower := D.cal fun _ _ F => ok_power B F c_then c_back
end
end Hw
set_option maxHeartbeats 4000000
/-! Halvewright: signs, numbers, pieces, words. -/
namespace Hw
open PySem L2

/-! ### the module's constants -/
abbrev sSmall : Str := "abcdefghijklmnopqrstuvwxyz"
abbrev sFig : Str := "0123456789"
abbrev takenV : List V := [.str "one", .str "low", .str "high", .str "as", .str "com"]
structure Glb (K : PySem.W.Frag) (mg : Str → Option Value) : Prop where
  small : ∃ t, mg "SMALL" = some (.str sSmall t)
  figures : ∃ t, mg "FIGURES" = some (.str sFig t)
  taken : ∃ a, mg "TAKEN" = some (.ref a) ∧ ∀ H, SqT K H a takenV
  most : ∃ t, mg "MOST" = some (.int 99 t)
theorem small_in (c : Nat) : decide (c ∈ sSmall.cps.toList) = isSmall c := by
  have e : sSmall.cps.toList = (List.range 26).map (97 + ·) := by decide +kernel
  rw [e]
  unfold isSmall
  rw [Bool.eq_iff_iff, Bool.and_eq_true, decide_eq_true_eq, decide_eq_true_eq, decide_eq_true_eq, List.mem_map]
  constructor
  · rintro ⟨k, hk, rfl⟩
    have := List.mem_range.mp hk
    omega
  · rintro ⟨h1, h2⟩
    exact ⟨c - 97, List.mem_range.mpr (by omega), by omega⟩
theorem fig_in (c : Nat) : decide (c ∈ sFig.cps.toList) = isFig c := by
  have e : sFig.cps.toList = (List.range 10).map (48 + ·) := by decide +kernel
  rw [e]
  unfold isFig
  rw [Bool.eq_iff_iff, Bool.and_eq_true, decide_eq_true_eq, decide_eq_true_eq, decide_eq_true_eq, List.mem_map]
  constructor
  · rintro ⟨k, hk, rfl⟩
    have := List.mem_range.mp hk
    omega
  · rintro ⟨h1, h2⟩
    exact ⟨c - 48, List.mem_range.mpr (by omega), by omega⟩
theorem lit_of (s : Str) (l : List Nat) (h : s = mk l) (x : List Nat) : decide (V.str (mk x) = V.str s) = decide (x = l) := by
  rw [dec_str, h]
  by_cases e : x = l
  · rw [e]; simp
  · rw [decide_eq_false e, decide_eq_false fun q => e (mk_inj q)]
theorem z_one : Str.ofString "one" = mk wOne := by decide +kernel
theorem z_low : Str.ofString "low" = mk wLow := by decide +kernel
theorem z_high : Str.ofString "high" = mk wHigh := by decide +kernel
theorem z_as : Str.ofString "as" = mk wAs := by decide +kernel
theorem z_com : Str.ofString "com" = mk wCom := by decide +kernel
theorem z_lp : Str.ofString "(" = mk [40] := by decide +kernel
theorem z_rp : Str.ofString ")" = mk [41] := by decide +kernel
theorem z_cm : Str.ofString "," = mk [44] := by decide +kernel
theorem z_ti : Str.ofString "~" = mk [126] := by decide +kernel
theorem z_ca : Str.ofString "^" = mk [94] := by decide +kernel
theorem z_mi : Str.ofString "-" = mk [45] := by decide +kernel
theorem z_m0 : Str.ofString "-0" = mk [45, 48] := by decide +kernel
theorem z_bl : Str.ofString " " = mk [32] := by decide +kernel
theorem z_0 : Str.ofString "0" = mk [48] := by decide +kernel
theorem z_m : Str.ofString "m" = mk [109] := by decide +kernel
theorem z_em : Str.ofString "" = mk [] := by decide +kernel
theorem z_sig : Str.ofString " (),~" = mk [32, 40, 41, 44, 126] := by decide +kernel
theorem z_tc : Str.ofString "~^" = mk [126, 94] := by decide +kernel

/-! ### a text's signs, each asked -/
theorem lc_signs {z set : Str} {j : Nat} {vs : List Nat} {σ : St} {H1 : Hp} {D : Addr} {Qd : Hp → Prop} (hz : z.length ≤ 1000) (hD : H1 D = none) (hw : ∀ x, wipe ((wipe σ vs).set j (some x)) vs = wipe σ vs)
    (hv : ∀ x : V, ((wipe σ vs).set j (some x))[j]? = some (some x))
    (hd : ∀ H', Same H1 H' → H' D = some (.lst ((z.cps.toList.map fun c => decide (c ∈ set.cps.toList)).map V.bl)) → Qd H') :
    ∃ W : Nat → Nat → Hp → Prop, (∃ m, W 0 m (upd H1 D (.lst []))) ∧ ∀ i m H, W i m H →
      ((Its z).stop i H ∧ Qd H) ∨ ((Its z).go i H ∧ ∃ Nx : Hp → Prop, (∀ H', Nx H' → ∃ m', m' < m ∧ W (i + 1) m' H') ∧ ∀ x H', (Its z).yld i H x H' → (gName j) x (wipe σ vs) H' fun σ2 H2 => wipe σ2 vs = wipe σ vs ∧ tYes σ2 H2 fun b H3 =>
        if b = true then (tOp (fun x y H Q => ∃ (c : Nat) (z : Str), x = .str ⟨#[c]⟩ ∧ y = .str z ∧ Q (.bl (decide (c ∈ z.cps.toList))) H) (tVar j) (tC (.str set))) σ2 H3 fun y H4 => ∃ acc, H4 D = some (.lst acc) ∧ acc.length < sizeLine ∧ Nx (upd H4 D (.lst (acc ++ [y]))) else Nx H3) := by
  have hlen : z.cps.size = z.cps.toList.length := by simp
  refine lc_it walk_str (fun i H' => Same H1 H' ∧ H' D = some (.lst (((z.cps.toList.take i).map fun c => decide (c ∈ set.cps.toList)).map V.bl))) ⟨same_new hD _, upd_same⟩ (fun _ _ _ _ => trivial) ?_ ?_
  · intro i x H H' hi p y
    obtain ⟨rfl, c, hc, rfl⟩ := y
    obtain ⟨s, e⟩ := p
    refine ⟨hw _, ?_⟩
    refine iteT (B := Same H1 H' ∧ H' D = some (.lst (((z.cps.toList.take (i + 1)).map fun c => decide (c ∈ set.cps.toList)).map V.bl))) ⟨_, hv _, c, set, rfl, rfl, _, e, line1000' (by simp; have : z.length = z.cps.size := rfl; omega), s.ext hD, ?_⟩
    have hc' : z.cps.toList[i]? = some c := by simpa using hc
    have hil : i < z.cps.toList.length := by omega
    have e1 : z.cps.toList[i] = c := by
      rw [List.getElem?_eq_getElem hil] at hc'
      exact Option.some.inj hc'
    rw [upd_same, List.take_succ_eq_append_getElem hil, e1, List.map_append, List.map_append]
    rfl
  · intro H' p
    refine hd H' p.1 ?_
    rw [p.2, List.take_of_length_le (by omega)]

section
variable {P : Program} {w : World} {K : PySem.W.Frag} {mg : Str → Option Value} {base : Heap} {f : Addr} {fd : FuncData}

abbrev s_is_name : Stmt := top 10
abbrev N_is_name : List Str := ["text", "sign"]
abbrev P_is_name : List Str := ["text"]
theorem sc_is_name : FnScope N_is_name P_is_name (defScope s_is_name) := ⟨rfl, rfl, rfl, by decide +kernel, rfl, by decide +kernel, by decide +kernel⟩
def spIsName : Sp := fun vs H Q _ => ∃ l, vs = [.str (mk l)] ∧ l.length ≤ 1000 ∧ ∀ H', Same H H' → Q (.bl (okName l)) H'
theorem inV_taken (l : List Nat) : inV (.str (mk l)) takenV = taken l := by
  have h : ∀ (s : Str) (x : List Nat), s = mk x → ((s == mk l) = (l == x)) := fun s x e => by
    rw [e, Bool.eq_iff_iff, beq_iff_eq, beq_iff_eq]
    exact ⟨fun q => (mk_inj q).symm, fun q => by rw [q]⟩
  show ((Str.ofString "one" == mk l) || ((Str.ofString "low" == mk l) || ((Str.ofString "high" == mk l) || ((Str.ofString "as" == mk l) || ((Str.ofString "com" == mk l) || false))))) = _
  rw [h _ _ z_one, h _ _ z_low, h _ _ z_high, h _ _ z_as, h _ _ z_com]
  unfold taken
  simp [Bool.or_assoc]
theorem ok_is_name (B : Blt mg) (gl : Glb K mg) (F : Fun K "is_name" "is_name" s_is_name f fd) : FnOk P w K mg base CX0 1 f fd P_is_name spIsName := by
  have nd := sc_is_name.nd
  refine F.ok sc_is_name (fun vs H Q E h => ?_) (fun cdv A outer s H vs Q E hr h => ?_)
  · obtain ⟨l, rfl, _⟩ := h; rfl
  obtain ⟨l, rfl, hl, q⟩ := h
  obtain ⟨t1, g1⟩ := gl.small
  obtain ⟨a3, g3, q3⟩ := gl.taken
  have g_SMALL : mg "SMALL" = some (.str sSmall t1) ∧ RelV (.str sSmall) (.str sSmall t1) := ⟨g1, _, rfl⟩
  have g_TAKEN : mg "TAKEN" = some (.ref a3) ∧ RelV (.ref a3) (.ref a3) := ⟨g3, rfl⟩
  refine ⟨_, (pss_cons (ps_if (PW.pt (pw_or (pt_not (pt_chain op_le op_le pe_int (pe_callB call_len_str (by rfl) B.len PySem.boot_len (pa_cons (pv 0) pa_nil)) pe_int)) (pw_or1 (pt_cmpR op_in_seq (pv 0) (pe_glob rfl g_TAKEN.1 g_TAKEN.2) (by rfl)))))
        (pss_one (ps_ret pe_bl))
        pss_nil)
      (pss_one (ps_ret (pe_callB (cr_all rfl) (by rfl) B.all bl_all (pa_cons (pe_lc (own := [("sign", 1)]) (g := (gName 1)) rfl nd (pi_str (pv 0)) (blkOk_by (own := [("sign", 1)]) (N := N_is_name) (sc := defScope s_is_name) (by decide +kernel)) (fun _ _ _ _ _ => pg_name (i := 1) nd rfl (Or.inl rfl)) (fun _ _ _ _ _ => pts_nil) (fun _ _ _ _ _ => (pe_cmpR op_in_sign (pv 1) (pe_glob rfl g_SMALL.1 g_SMALL.2) (by rfl)))) pa_nil))))), ?_⟩
  have zl : (mk l).length ≤ sizeLine := by rw [mk_len]; exact line1000 (by omega)
  have len1 : ((mk l).length : Int) = (l.length : Int) := by rw [mk_len]
  refine ⟨_, rfl, mk l, rfl, zl, _, _, rfl, rfl, _, rfl, ?_⟩
  rw [len1]
  have rest : (1 ≤ l.length ∧ l.length ≤ 6) → tSeq (tIfS (tTest (tOp (rIn K false) (tVar 0) (tC (.ref a3)))) (tRet (tC (.bl false))) tNext) (tRet (tCB (rAll K) (tCons (tLc (iStr (tVar 0)) (gName 1) tYes (tOp (fun x y H Q => ∃ (c : Nat) (z : Str), x = .str ⟨#[c]⟩ ∧ y = .str z ∧ Q (.bl (decide (c ∈ z.cps.toList))) H) (tVar 1) (tC (.str sSmall))) [1]) tNil)))
      { nx := fun _ H' => Q .non H', rt := Q } [some (.str (mk l)), none] H := fun hle => by
    refine ⟨_, rfl, a3, takenV, rfl, .inr (q3 H), rfl, rfl, _, rfl, ?_⟩
    rw [show (if false = true then !inV (V.str (mk l)) takenV else inV (V.str (mk l)) takenV) = taken l from by rw [if_neg (by decide), inV_taken]]
    have fin : okName l = (!taken l && l.all isSmall) := by
      unfold okName
      rw [decide_eq_true hle.1, decide_eq_true hle.2]
      simp
    cases ht : taken l with
    | true =>
      rw [ht] at fin
      refine iteT ?_
      have := q H (Same.refl H)
      rw [fin] at this
      exact this
    | false =>
      rw [ht] at fin
      refine iteF ⟨_, rfl, mk l, rfl, fun D hD => ?_⟩
      refine lc_signs (j := 1) (by rw [mk_len]; exact hl) hD (fun x => rfl) (fun x => rfl) fun H1 s1 e1 => ?_
      refine ⟨D, _, rfl, SqL.of e1, ?_⟩
      have := q H1 s1
      rw [fin] at this
      have e : (((mk l).cps.toList.map fun c => decide (c ∈ sSmall.cps.toList)).all id) = (!false && l.all isSmall) := by
        rw [mk_toList, List.all_map]
        have : (id ∘ fun c => decide (c ∈ sSmall.cps.toList)) = isSmall := funext fun c => small_in c
        rw [this]
        simp
      rw [e]
      exact this
  have no : okName l = false → Q (.bl false) H := fun e => by
    have := q H (Same.refl H)
    rw [e] at this
    exact this
  by_cases h1 : (1 : Int) ≤ (l.length : Int)
  · rw [decide_eq_true h1]
    refine iteT ⟨_, _, rfl, rfl, _, rfl, ?_⟩
    by_cases h2 : (l.length : Int) ≤ 6
    · rw [decide_eq_true h2]
      refine iteF ?_
      exact rest ⟨by omega, by omega⟩
    · rw [decide_eq_false h2]
      refine iteT (iteT (no ?_))
      unfold okName
      rw [decide_eq_false (show ¬ l.length ≤ 6 by omega)]
      simp
  · rw [decide_eq_false h1]
    refine iteF ⟨_, rfl, iteT (iteT (no ?_))⟩
    unfold okName
    rw [decide_eq_false (show ¬ 1 ≤ l.length by omega)]
    simp
theorem cal_is_name (B : Blt mg) (gl : Glb K mg) (D : DefAt K mg "is_name" s_is_name P_is_name) : Cal P w K mg base 1 "is_name" P_is_name spIsName := D.cal fun _ _ F => ok_is_name B gl F

abbrev s_is_number : Stmt := top 11
abbrev N_is_number : List Str := ["text", "sign"]
abbrev P_is_number : List Str := ["text"]
theorem sc_is_number : FnScope N_is_number P_is_number (defScope s_is_number) := ⟨rfl, rfl, rfl, by decide +kernel, rfl, by decide +kernel, by decide +kernel⟩
def spIsNumber : Sp := fun vs H Q _ => ∃ l, vs = [.str (mk l)] ∧ l.length ≤ 1000 ∧ ∀ H', Same H H' → Q (.bl (okNum l)) H'
theorem ok_is_number (B : Blt mg) (gl : Glb K mg) (F : Fun K "is_number" "is_number" s_is_number f fd) : FnOk P w K mg base CX0 1 f fd P_is_number spIsNumber := by
  have nd := sc_is_number.nd
  refine F.ok sc_is_number (fun vs H Q E h => ?_) (fun cdv A outer s H vs Q E hr h => ?_)
  · obtain ⟨l, rfl, _⟩ := h; rfl
  obtain ⟨l, rfl, hl, q⟩ := h
  obtain ⟨t1, g1⟩ := gl.figures
  have g_FIGURES : mg "FIGURES" = some (.str sFig t1) ∧ RelV (.str sFig) (.str sFig t1) := ⟨g1, _, rfl⟩
  refine ⟨_, (pss_cons (ps_if (PW.pt (pw_or (pt_not (pt_chain op_le op_le pe_int (pe_callB call_len_str (by rfl) B.len PySem.boot_len (pa_cons (pv 0) pa_nil)) pe_int)) (pw_or1 (PW.pt (pw_and (pt_cmpR op_eq (pe_ix ix_str (pv 0) pe_int (fun _ _ => rfl)) pe_str (nomark _)) (pw_and1 (pt_cmpR op_gt (pe_callB call_len_str (by rfl) B.len PySem.boot_len (pa_cons (pv 0) pa_nil)) pe_int (nomark _))))))))
        (pss_one (ps_ret pe_bl))
        pss_nil)
      (pss_one (ps_ret (pe_callB (cr_all rfl) (by rfl) B.all bl_all (pa_cons (pe_lc (own := [("sign", 1)]) (g := (gName 1)) rfl nd (pi_str (pv 0)) (blkOk_by (own := [("sign", 1)]) (N := N_is_number) (sc := defScope s_is_number) (by decide +kernel)) (fun _ _ _ _ _ => pg_name (i := 1) nd rfl (Or.inl rfl)) (fun _ _ _ _ _ => pts_nil) (fun _ _ _ _ _ => (pe_cmpR op_in_sign (pv 1) (pe_glob rfl g_FIGURES.1 g_FIGURES.2) (by rfl)))) pa_nil))))), ?_⟩
  have zl : (mk l).length ≤ sizeLine := by rw [mk_len]; exact line1000 (by omega)
  have len1 : ((mk l).length : Int) = (l.length : Int) := by rw [mk_len]
  have no : okNum l = false → Q (.bl false) H := fun e => by
    have := q H (Same.refl H)
    rw [e] at this
    exact this
  have go : okNum l = l.all isFig → tRet (tCB (rAll K) (tCons (tLc (iStr (tVar 0)) (gName 1) tYes (tOp (fun x y H Q => ∃ (c : Nat) (z : Str), x = .str ⟨#[c]⟩ ∧ y = .str z ∧ Q (.bl (decide (c ∈ z.cps.toList))) H) (tVar 1) (tC (.str sFig))) [1]) tNil))
      { nx := fun _ H' => Q .non H', rt := Q } [some (.str (mk l)), none] H := fun fin => by
    refine ⟨_, rfl, mk l, rfl, fun D hD => ?_⟩
    refine lc_signs (j := 1) (by rw [mk_len]; exact hl) hD (fun x => rfl) (fun x => rfl) fun H1 s1 e1 => ?_
    refine ⟨D, _, rfl, SqL.of e1, ?_⟩
    have := q H1 s1
    rw [fin] at this
    have e : (((mk l).cps.toList.map fun c => decide (c ∈ sFig.cps.toList)).all id) = l.all isFig := by
      rw [mk_toList, List.all_map]
      have : (id ∘ fun c => decide (c ∈ sFig.cps.toList)) = isFig := funext fun c => fig_in c
      rw [this]
    rw [e]
    exact this
  refine ⟨_, rfl, mk l, rfl, zl, _, _, rfl, rfl, _, rfl, ?_⟩
  rw [len1]
  by_cases h1 : (1 : Int) ≤ (l.length : Int)
  · rw [decide_eq_true h1]
    refine iteT ⟨_, _, rfl, rfl, _, rfl, ?_⟩
    by_cases h2 : (l.length : Int) ≤ 3
    · rw [decide_eq_true h2]
      refine iteF ?_
      match l, hl, q, zl, len1, no, go, h1, h2 with
      | c :: r, hl, q, zl, len1, no, go, h1, h2 =>
      refine ⟨_, rfl, mk (c :: r), 0, c, rfl, rfl, zl, atI_nat (j := 0) rfl, rfl, _, rfl, ?_⟩
      have hc : decide (V.str ⟨#[c]⟩ = V.str (Str.ofString "0")) = decide (c = 48) := by
        have := lit_of _ _ z_0 [c]
        rw [show (V.str ⟨#[c]⟩) = V.str (mk [c]) from rfl, this]
        simp
      rw [hc]
      have e0 : okNum (c :: r) = (!(decide (c = 48) && decide (0 < r.length)) && (c :: r).all isFig) := by
        unfold okNum
        rw [decide_eq_true (show 1 ≤ (c :: r).length by simp), decide_eq_true (show (c :: r).length ≤ 3 by omega)]
        have e1 : ((c :: r).head? == some 48) = decide (c = 48) := by
          by_cases hh : c = 48
          · subst hh; rfl
          · rw [decide_eq_false hh]; simp [hh]
        have e2 : decide (1 < (c :: r).length) = decide (0 < r.length) := by simp
        rw [e1, e2]
        simp
      by_cases h3 : c = 48
      · rw [decide_eq_true h3]
        refine iteT ⟨_, rfl, mk (c :: r), rfl, zl, _, _, rfl, rfl, _, rfl, ?_⟩
        rw [len1]
        by_cases h4 : (1 : Int) < ((c :: r).length : Int)
        · rw [decide_eq_true h4]
          refine iteT (no ?_)
          rw [e0, decide_eq_true h3, decide_eq_true (show 0 < r.length by simp at h4; omega)]
          rfl
        · rw [decide_eq_false h4]
          refine iteF (go ?_)
          rw [e0, decide_eq_false (show ¬ 0 < r.length by simp at h4; omega)]
          simp
      · rw [decide_eq_false h3]
        refine iteF (iteF (go ?_))
        rw [e0, decide_eq_false h3]
        simp
    · rw [decide_eq_false h2]
      refine iteT (iteT (no ?_))
      unfold okNum
      rw [decide_eq_false (show ¬ l.length ≤ 3 by omega)]
      simp
  · rw [decide_eq_false h1]
    refine iteF ⟨_, rfl, iteT (iteT (no ?_))⟩
    unfold okNum
    rw [decide_eq_false (show ¬ 1 ≤ l.length by omega)]
    simp
theorem cal_is_number (B : Blt mg) (gl : Glb K mg) (D : DefAt K mg "is_number" s_is_number P_is_number) : Cal P w K mg base 1 "is_number" P_is_number spIsNumber := D.cal fun _ _ F => ok_is_number B gl F

abbrev s_run_end : Stmt := top 12
abbrev N_run_end : List Str := ["text", "at", "signs"]
abbrev P_run_end : List Str := ["text", "at", "signs"]
theorem sc_run_end : FnScope N_run_end P_run_end (defScope s_run_end) := ⟨rfl, rfl, rfl, by decide +kernel, rfl, by decide +kernel, by decide +kernel⟩
def runLen (set : Str) (l : List Nat) : Nat := (l.takeWhile fun c => decide (c ∈ set.cps.toList)).length
def spRunEnd : Sp := fun vs H Q _ => ∃ (l : List Nat) (a : Nat) (set : Str), vs = [.str (mk l), .int a, .str set] ∧ l.length ≤ 3000 ∧ a ≤ l.length ∧ Q (.int ((a + runLen set (l.drop a) : Nat) : Int)) H
theorem runLen_cons (set : Str) (c : Nat) (r : List Nat) : runLen set (c :: r) = if decide (c ∈ set.cps.toList) = true then runLen set r + 1 else 0 := by
  unfold runLen
  rw [List.takeWhile_cons]
  split <;> rfl
theorem ok_run_end (B : Blt mg) (F : Fun K "run_end" "run_end" s_run_end f fd) : FnOk P w K mg base CX0 1 f fd P_run_end spRunEnd := by
  have nd := sc_run_end.nd
  refine F.ok sc_run_end (fun vs H Q E h => ?_) (fun cdv A outer s H vs Q E hr h => ?_)
  · obtain ⟨l, a, set, rfl, _⟩ := h; rfl
  obtain ⟨l, a, set, rfl, hl, ha, q⟩ := h
  refine ⟨_, (pss_cons (ps_while PassesOwn.never (PW.pt (pw_and (pt_cmpR op_lt (pv 1) (pe_callB call_len_str (by rfl) B.len PySem.boot_len (pa_cons (pv 0) pa_nil)) (nomark _)) (pw_and1 (pt_cmpR op_in_sign (pe_ix ix_str (pv 0) (pv 1) (fun _ _ => rfl)) (pv 2) (by rfl)))))
        (pss_one (ps_set (i := 1) nd rfl (Or.inl rfl) (pe_op op_add (pv 1) pe_int))))
      (pss_one (ps_ret (pv 1)))), ?_⟩
  have zl : (mk l).length ≤ sizeLine := by rw [mk_len]; exact line1000 (by omega)
  have len1 : ((mk l).length : Int) = (l.length : Int) := by rw [mk_len]
  refine ⟨fun n σ2 H2 => ∃ b : Nat, σ2 = [some (.str (mk l)), some (.int b), some (.str set)] ∧ H2 = H ∧ b ≤ l.length ∧ b + runLen set (l.drop b) = a + runLen set (l.drop a) ∧ n = l.length - b, ⟨_, a, rfl, rfl, ha, rfl, rfl⟩, ?_⟩
  rintro n σ2 H2 ⟨b, rfl, rfl, hb, he, rfl⟩
  refine ⟨_, rfl, _, rfl, mk l, rfl, zl, _, _, rfl, rfl, _, rfl, ?_⟩
  rw [len1]
  by_cases h1 : (b : Int) < (l.length : Int)
  · rw [decide_eq_true h1]
    have hbl : b < l.length := by omega
    have hd := List.drop_eq_getElem_cons hbl
    refine iteT ⟨_, rfl, _, rfl, mk l, (b : Int), l[b], rfl, rfl, zl, atI_nat (List.getElem?_eq_getElem hbl), _, rfl, l[b], set, rfl, rfl, _, rfl, ?_⟩
    rw [hd, runLen_cons] at he
    cases hc : decide (l[b] ∈ set.cps.toList) with
    | true =>
      rw [hc, if_pos rfl] at he
      refine iteT ⟨fun σ3 H3 => ∃ m', m' < l.length - b ∧ ∃ b' : Nat, σ3 = [some (.str (mk l)), some (.int b'), some (.str set)] ∧ H3 = H2 ∧ b' ≤ l.length ∧ b' + runLen set (l.drop b') = a + runLen set (l.drop a) ∧ m' = l.length - b', fun _ _ z => z, ?_⟩
      refine ⟨_, rfl, _, _, rfl, rfl, l.length - (b + 1), by omega, b + 1, rfl, rfl, by omega, by omega, rfl⟩
    | false =>
      rw [hc, if_neg (by decide)] at he
      refine iteF ⟨_, rfl, ?_⟩
      have e : (b : Int) = ((a + runLen set (l.drop a) : Nat) : Int) := by omega
      rw [e]
      exact q
  · rw [decide_eq_false h1]
    have e0 : b = l.length := by omega
    subst e0
    rw [List.drop_length] at he
    refine iteF (iteF ⟨_, rfl, ?_⟩)
    have e : ((l.length : Nat) : Int) = ((a + runLen set (l.drop a) : Nat) : Int) := by
      have : runLen set [] = 0 := rfl
      omega
    rw [e]
    exact q
theorem cal_run_end (B : Blt mg) (D : DefAt K mg "run_end" s_run_end P_run_end) : Cal P w K mg base 1 "run_end" P_run_end spRunEnd := D.cal fun _ _ F => ok_run_end B F
/-- the run of a kind, then another sign -/
theorem runLen_stop {set : Str} {p : Nat → Bool} (hp : ∀ c, decide (c ∈ set.cps.toList) = p c) : ∀ {w cs : List Nat}, (∀ x ∈ w, p x = true) → stop p cs → runLen set (w ++ cs) = w.length
  | [], [], _, _ => rfl
  | [], c :: cs, _, h => by
    show runLen set (c :: cs) = 0
    rw [runLen_cons, hp, h c rfl, if_neg (by decide)]
  | x :: w, cs, h, h2 => by
    show runLen set (x :: (w ++ cs)) = w.length + 1
    rw [runLen_cons, hp, h x List.mem_cons_self, if_pos rfl, runLen_stop hp (fun y hy => h y (List.mem_cons_of_mem _ hy)) h2]
end
end Hw
set_option maxHeartbeats 4000000
/-! Halvewright: pieces and words. -/
namespace Hw
open PySem L2

theorem int_figs : ∀ n : Nat, n < 20 → PySem.intText? (mk (figs n)) = some (n : Int) := by
  have h : ∀ n : Fin 20, PySem.intText? (mk (figs n.1)) = some (n.1 : Int) := by decide +kernel
  exact fun n hn => h ⟨n, hn⟩
theorem int_ints : ∀ n : Int, -9 ≤ n → n ≤ 9 → PySem.intText? (mk (figI n)) = some n := by
  have h : ∀ k : Fin 19, PySem.intText? (mk (figI ((k.1 : Int) - 9))) = some ((k.1 : Int) - 9) := by decide +kernel
  intro n h1 h2
  have := h ⟨(n + 9).toNat, by omega⟩
  have e : (((n + 9).toNat : Int) - 9) = n := by omega
  rw [e] at this
  exact this

theorem cut_midI (l : List Nat) (i j : Int) (k m : Nat) (hi : i = (k : Int)) (hj : j = (m : Int)) (hm : m ≤ l.length) : cutS (mk l) (some i) (some j) = mk ((l.drop k).take (m - k)) := by
  rw [hi, hj]
  exact cut_mid l k m hm

/-! ### expressions as data -/
def IsE (H : Hp) : V → Ex → Prop
  | v, .one => ∃ a, v = .ref a ∧ H a = some (.tup [.str "one"])
  | v, .move n => ∃ a, v = .ref a ∧ H a = some (.tup [.str "move", .int n])
  | v, .name x => ∃ a, v = .ref a ∧ H a = some (.tup [.str "name", .str x])
  | v, .back e => ∃ a u, v = .ref a ∧ H a = some (.tup [.str "back", u]) ∧ IsE H u e
  | v, .power e n => ∃ a u, v = .ref a ∧ H a = some (.tup [.str "power", u, .int n]) ∧ IsE H u e
  | v, .low e => ∃ a u, v = .ref a ∧ H a = some (.tup [.str "low", u]) ∧ IsE H u e
  | v, .high e => ∃ a u, v = .ref a ∧ H a = some (.tup [.str "high", u]) ∧ IsE H u e
  | v, .thn e f => ∃ a u x, v = .ref a ∧ H a = some (.tup [.str "then", u, x]) ∧ IsE H u e ∧ IsE H x f
  | v, .as e f => ∃ a u x, v = .ref a ∧ H a = some (.tup [.str "as", u, x]) ∧ IsE H u e ∧ IsE H x f
  | v, .com e f => ∃ a u x, v = .ref a ∧ H a = some (.tup [.str "com", u, x]) ∧ IsE H u e ∧ IsE H x f
theorem IsE.mono {H H' : Hp} (k : Tk H H') : ∀ {e : Ex} {v : V}, IsE H v e → IsE H' v e
  | .one, _, ⟨a, e, h⟩ => ⟨a, e, k _ _ h⟩
  | .move _, _, ⟨a, e, h⟩ => ⟨a, e, k _ _ h⟩
  | .name _, _, ⟨a, e, h⟩ => ⟨a, e, k _ _ h⟩
  | .back e, _, ⟨a, u, q, h, h1⟩ => ⟨a, u, q, k _ _ h, IsE.mono k (e := e) h1⟩
  | .power e n, _, ⟨a, u, q, h, h1⟩ => ⟨a, u, q, k _ _ h, IsE.mono k (e := e) h1⟩
  | .low e, _, ⟨a, u, q, h, h1⟩ => ⟨a, u, q, k _ _ h, IsE.mono k (e := e) h1⟩
  | .high e, _, ⟨a, u, q, h, h1⟩ => ⟨a, u, q, k _ _ h, IsE.mono k (e := e) h1⟩
  | .thn e f, _, ⟨a, u, x, q, h, h1, h2⟩ => ⟨a, u, x, q, k _ _ h, IsE.mono k (e := e) h1, IsE.mono k (e := f) h2⟩
  | .as e f, _, ⟨a, u, x, q, h, h1, h2⟩ => ⟨a, u, x, q, k _ _ h, IsE.mono k (e := e) h1, IsE.mono k (e := f) h2⟩
  | .com e f, _, ⟨a, u, x, q, h, h1, h2⟩ => ⟨a, u, x, q, k _ _ h, IsE.mono k (e := e) h1, IsE.mono k (e := f) h2⟩

section
variable {P : Program} {w : World} {K : PySem.W.Frag} {mg : Str → Option Value} {base : Heap} {f : Addr} {fd : FuncData}

abbrev s_power_end : Stmt := top 13
abbrev N_power_end : List Str := ["text", "at", "begin", "end"]
abbrev P_power_end : List Str := ["text", "at"]
theorem sc_power_end : FnScope N_power_end P_power_end (defScope s_power_end) := ⟨rfl, rfl, rfl, by decide +kernel, rfl, by decide +kernel, by decide +kernel⟩
def spPowerEnd : Sp := fun vs H Q _ => ∃ (l : List Nat) (a : Nat) (m fs cs : List Nat), vs = [.str (mk l), .int a] ∧ l.length ≤ 1000 ∧ l.drop a = 94 :: (m ++ (fs ++ cs)) ∧ (m = [] ∨ m = [45]) ∧ okNum fs = true ∧ ¬ (m = [45] ∧ fs = [48]) ∧ stop isFig cs ∧
  ∀ H', Same H H' → Q (.int ((a + (1 + (m.length + fs.length)) : Nat) : Int)) H'
theorem ok_power_end (B : Blt mg) (gl : Glb K mg) (F : Fun K "power_end" "power_end" s_power_end f fd) (c_run_end : Cal P w K mg base 1 "run_end" P_run_end spRunEnd) (c_is_number : Cal P w K mg base 1 "is_number" P_is_number spIsNumber) : FnOk P w K mg base CX0 2 f fd P_power_end spPowerEnd := by
  have nd := sc_power_end.nd
  refine F.ok sc_power_end (fun vs H Q E h => ?_) (fun cdv A outer s H vs Q E hr h => ?_)
  · obtain ⟨l, a, m, fs, cs, rfl, _⟩ := h; rfl
  obtain ⟨l, a, m, fs, cs, rfl, hl, hd, hm, hf, hz, hs, q⟩ := h
  obtain ⟨t1, g1⟩ := gl.figures
  have g_FIGURES : mg "FIGURES" = some (.str sFig t1) ∧ RelV (.str sFig) (.str sFig t1) := ⟨g1, _, rfl⟩
  have L_run_end : 1 ≤ 1 := Nat.le_refl _
  have L_is_number : 1 ≤ 1 := Nat.le_refl _
  refine ⟨_, (pss_cons (ps_set (i := 2) nd rfl (Or.inl rfl) (pe_op op_add (pv 1) pe_int))
      (Evl.pss_cut (ps_if (pt_cmpR op_eq (pe_slice sl_str (pv 0) (po_some (pv 2)) (po_some (pe_op op_add (pv 2) pe_int))) pe_str (nomark _))
        (pss_one (ps_set (i := 2) nd rfl (Or.inl rfl) (pe_op op_add (pv 2) pe_int)))
        pss_nil)
      (pss_cons (ps_set (i := 3) nd rfl (Or.inl rfl) (pe_cal c_run_end (hr.mono L_run_end) (by rfl) (pa_cons (pv 0) (pa_cons (pv 2) (pa_cons (pe_glob rfl g_FIGURES.1 g_FIGURES.2) pa_nil)))))
      (pss_cons (ps_if (PW.pt (pw_or (pt_not (pt_val (pe_cal c_is_number (hr.mono L_is_number) (by rfl) (pa_cons (pe_slice sl_str (pv 0) (po_some (pv 2)) (po_some (pv 3))) pa_nil)))) (pw_or1 (pt_cmpR op_eq (pe_slice sl_str (pv 0) (po_some (pe_op op_add (pv 1) pe_int)) (po_some (pv 3))) pe_str (nomark _)))))
        (pss_one ps_never)
        pss_nil)
      (pss_one (ps_ret (pv 3))))))), ?_⟩
  have zl : (mk l).length ≤ sizeLine := by rw [mk_len]; exact line1000 (by omega)
  have hal : a + (1 + (m.length + (fs.length + cs.length))) = l.length := by
    have h1 := congrArg List.length hd
    rw [List.length_drop] at h1
    simp at h1
    omega
  have hfa : ∀ x ∈ fs, isFig x = true := by
    unfold okNum at hf
    simp only [Bool.and_eq_true] at hf
    exact List.all_eq_true.mp hf.2
  have hf0 : fs ≠ [] := by
    intro e
    rw [e] at hf
    exact absurd hf (by decide)
  have d1 : l.drop (a + 1) = m ++ (fs ++ cs) := by
    rw [← List.drop_drop, hd]; rfl
  have d2 : l.drop (a + 1 + m.length) = fs ++ cs := by
    rw [← List.drop_drop, d1, List.drop_left]
  have one : a + 1 + 1 ≤ l.length := by
    cases fs with
    | nil => exact absurd rfl hf0
    | cons c r => simp at hal; omega
  refine ⟨_, rfl, _, _, rfl, rfl, ?_⟩
  refine ⟨fun σ' H' => σ' = [some (.str (mk l)), some (.int a), some (.int ((a + 1 + m.length : Nat) : Int)), none] ∧ H' = H, ?_, ?_⟩
  · refine ⟨_, rfl, _, rfl, _, rfl, _, rfl, _, _, rfl, rfl, _, rfl, mk l, rfl, zl, rfl, ?_⟩
    rw [cut_midI l _ _ (a + 1) (a + 1 + 1) (by omega) (by omega) one, d1, lit_of _ _ z_mi]
    have e1 : a + 1 + 1 - (a + 1) = 1 := by omega
    rw [e1]
    rcases hm with rfl | rfl
    · have hn : decide ((([] : List Nat) ++ (fs ++ cs)).take 1 = [45]) = false := by
        cases fs with
        | nil => exact absurd rfl hf0
        | cons c r =>
          have hc := hfa c List.mem_cons_self
          refine decide_eq_false fun e => ?_
          have e2 : c = 45 := by simpa using e
          rw [e2] at hc
          exact absurd hc (by decide)
      rw [hn]
      exact ⟨_, rfl, iteF ⟨rfl, rfl⟩⟩
    · exact ⟨_, rfl, iteT ⟨_, rfl, _, _, rfl, rfl, rfl, rfl⟩⟩
  · rintro σ' H' ⟨rfl, rfl⟩
    have hr1 : runLen sFig (l.drop (a + 1 + m.length)) = fs.length := by rw [d2]; exact runLen_stop fig_in hfa hs
    refine ⟨_, rfl, _, rfl, l, a + 1 + m.length, sFig, rfl, by omega, by omega, ?_⟩
    rw [hr1]
    have hl2 : a + 1 + m.length + fs.length ≤ l.length := by omega
    have c1 : ((l.drop (a + 1 + m.length)).take (a + 1 + m.length + fs.length - (a + 1 + m.length))) = fs := by
      rw [d2, show a + 1 + m.length + fs.length - (a + 1 + m.length) = fs.length by omega, List.take_left]
    have c2 : ((l.drop (a + 1)).take (a + 1 + m.length + fs.length - (a + 1))) = m ++ fs := by
      rw [d1, show a + 1 + m.length + fs.length - (a + 1) = (m ++ fs).length by rw [List.length_append]; omega, ← List.append_assoc, List.take_left]
    refine ⟨_, rfl, _, rfl, _, rfl, _, rfl, _, rfl, mk l, rfl, zl, ?_⟩
    refine ⟨fs, by rw [cut_midI l _ _ (a + 1 + m.length) (a + 1 + m.length + fs.length) rfl rfl hl2, c1]; rfl, by omega, fun H1 s1 => ⟨_, rfl, ?_⟩⟩
    rw [hf]
    refine iteF ⟨_, rfl, _, rfl, _, _, rfl, rfl, _, rfl, _, rfl, _, rfl, mk l, rfl, zl, rfl, ?_⟩
    rw [cut_midI l _ _ (a + 1) (a + 1 + m.length + fs.length) (by omega) rfl hl2, c2, lit_of _ _ z_m0]
    have hn : decide (m ++ fs = [45, 48]) = false := by
      refine decide_eq_false fun e => ?_
      rcases hm with rfl | rfl
      · have e2 : fs = [45, 48] := e
        have := hfa 45 (by rw [e2]; exact List.mem_cons_self)
        exact absurd this (by decide)
      · exact hz ⟨rfl, by injection e⟩
    rw [hn]
    refine ⟨_, rfl, iteF ⟨_, rfl, ?_⟩⟩
    have := q H1 s1
    rw [show a + (1 + (m.length + fs.length)) = a + 1 + m.length + fs.length by omega] at this
    exact this
theorem cal_power_end (B : Blt mg) (gl : Glb K mg) (D : DefAt K mg "power_end" s_power_end P_power_end) (c_run_end : Cal P w K mg base 1 "run_end" P_run_end spRunEnd) (c_is_number : Cal P w K mg base 1 "is_number" P_is_number spIsNumber) : Cal P w K mg base 2 "power_end" P_power_end spPowerEnd :=
  D.cal fun _ _ F => ok_power_end B gl F c_run_end c_is_number

def pvs (ps : List (List Nat)) : List V := ps.map fun l => V.str (mk l)
theorem al_in (c : Nat) : decide (c ∈ (sSmall ++ sFig).cps.toList) = isAl c := by
  have e : (sSmall ++ sFig).cps.toList = sSmall.cps.toList ++ sFig.cps.toList := by decide +kernel
  rw [e]
  unfold isAl
  rw [← small_in, ← fig_in, Bool.eq_iff_iff]
  simp
abbrev s_pieces_of : Stmt := top 14
abbrev N_pieces_of : List Str := ["text", "found", "at", "end"]
abbrev P_pieces_of : List Str := ["text"]
theorem sc_pieces_of : FnScope N_pieces_of P_pieces_of (defScope s_pieces_of) := ⟨rfl, rfl, rfl, by decide +kernel, rfl, by decide +kernel, by decide +kernel⟩
def spPiecesOf : Sp := fun vs H Q _ => ∃ l ts, vs = [.str (mk l)] ∧ l.length ≤ 1000 ∧ Pc l ts ∧ ∀ p H', Same H H' → H p = none → H' p = some (.lst (pvs ts)) → Q (.ref p) H'
theorem pc_len : ∀ {l : List Nat} {ts : List (List Nat)}, Pc l ts → ts.length ≤ l.length ∧ ∀ x ∈ ts, x.length ≤ l.length
  | _, _, .nil => ⟨Nat.le_refl _, fun _ h => nomatch h⟩
  | _, _, .blank h => by
    obtain ⟨h1, h2⟩ := pc_len h
    exact ⟨by simp; omega, fun x hx => by have := h2 x hx; simp; omega⟩
  | _, _, .sign _ h => by
    obtain ⟨h1, h2⟩ := pc_len h
    refine ⟨by simp; omega, fun x hx => ?_⟩
    rcases List.mem_cons.mp hx with rfl | hx
    · simp
    · have := h2 x hx; simp; omega
  | _, _, .word (w := w) hn _ _ h => by
    obtain ⟨h1, h2⟩ := pc_len h
    have : 1 ≤ w.length := by cases w with | nil => exact absurd rfl hn | cons _ _ => simp
    refine ⟨by simp; omega, fun x hx => ?_⟩
    rcases List.mem_cons.mp hx with rfl | hx
    · simp
    · have := h2 x hx; simp; omega
  | _, _, .pow _ _ _ _ h => by
    obtain ⟨h1, h2⟩ := pc_len h
    refine ⟨by simp; omega, fun x hx => ?_⟩
    rcases List.mem_cons.mp hx with rfl | hx
    · simp
    · have := h2 x hx; simp; omega
theorem pc_inv {c : Nat} {cs : List Nat} {rs : List (List Nat)} (h : Pc (c :: cs) rs) : (c = 32 ∧ Pc cs rs) ∨ (isSign c = true ∧ ∃ r, rs = [c] :: r ∧ Pc cs r) ∨
    (∃ w z r, c :: cs = w ++ z ∧ w ≠ [] ∧ (∀ x ∈ w, isAl x = true) ∧ stop isAl z ∧ rs = w :: r ∧ Pc z r) ∨
    (∃ m fs z r, c = 94 ∧ c :: cs = 94 :: (m ++ (fs ++ z)) ∧ (m = [] ∨ m = [45]) ∧ okNum fs = true ∧ ¬ (m = [45] ∧ fs = [48]) ∧ stop isFig z ∧ rs = (94 :: (m ++ fs)) :: r ∧ Pc z r) := by
  generalize hg : c :: cs = y at h
  cases h with
  | nil => cases hg
  | blank h => cases hg; exact .inl ⟨rfl, h⟩
  | sign hs h => cases hg; exact .inr (.inl ⟨hs, _, rfl, h⟩)
  | word hn ha hs h => exact .inr (.inr (.inl ⟨_, _, _, rfl, hn, ha, hs, rfl, h⟩))
  | pow hm hf hz hs h => cases hg; exact .inr (.inr (.inr ⟨_, _, _, _, rfl, rfl, hm, hf, hz, hs, rfl, h⟩))
theorem sign_not {c : Nat} (h : isSign c = true ∨ c = 32) : isSmall c = false ∧ isFig c = false ∧ c ≠ 94 ∧ (isSign c || decide (c = 32)) = true := by
  unfold isSign at h
  simp only [Bool.or_eq_true, beq_iff_eq] at h
  unfold isSmall isFig isSign
  rcases h with (((h | h) | h) | h) | h <;> subst h <;> decide
theorem al_not {c : Nat} (h : isAl c = true) : c ≠ 94 ∧ c ≠ 32 := by
  unfold isAl isSmall isFig at h
  simp only [Bool.or_eq_true, Bool.and_eq_true, decide_eq_true_eq] at h
  omega
theorem ok_pieces_of (B : Blt mg) (gl : Glb K mg) (F : Fun K "pieces_of" "pieces_of" s_pieces_of f fd) (c_run_end : Cal P w K mg base 1 "run_end" P_run_end spRunEnd) (c_power_end : Cal P w K mg base 2 "power_end" P_power_end spPowerEnd) : FnOk P w K mg base CX0 3 f fd P_pieces_of spPiecesOf := by
  have nd := sc_pieces_of.nd
  refine F.ok sc_pieces_of (fun vs H Q E h => ?_) (fun cdv A outer s H vs Q E hr h => ?_)
  · obtain ⟨l, ts, rfl, _⟩ := h; rfl
  obtain ⟨l, ts, rfl, hl, hp, q⟩ := h
  obtain ⟨t1, g1⟩ := gl.figures
  obtain ⟨t2, g2⟩ := gl.small
  have g_FIGURES : mg "FIGURES" = some (.str sFig t1) ∧ RelV (.str sFig) (.str sFig t1) := ⟨g1, _, rfl⟩
  have g_SMALL : mg "SMALL" = some (.str sSmall t2) ∧ RelV (.str sSmall) (.str sSmall t2) := ⟨g2, _, rfl⟩
  have L_run_end : 1 ≤ 2 := by decide
  have L_power_end : 2 ≤ 2 := by decide
  refine ⟨_, (pss_cons (ps_set (i := 1) nd rfl (Or.inl rfl) (pe_lst pa_nil))
      (pss_cons (ps_set (i := 2) nd rfl (Or.inl rfl) pe_int)
      (pss_cons (ps_while PassesOwn.never (pt_cmpR op_lt (pv 2) (pe_callB call_len_str (by rfl) B.len PySem.boot_len (pa_cons (pv 0) pa_nil)) (nomark _))
        (pss_cons (ps_set (i := 3) nd rfl (Or.inl rfl) (pe_op op_add (pv 2) pe_int))
        (Evl.pss_cut (ps_if (pt_cmpR op_eq (pe_ix ix_str (pv 0) (pv 2) (fun _ _ => rfl)) pe_str (nomark _))
          (pss_one (ps_set (i := 3) nd rfl (Or.inl rfl) (pe_cal c_power_end (hr.mono L_power_end) (by rfl) (pa_cons (pv 0) (pa_cons (pv 2) pa_nil)))))
          (pss_one (ps_if (PW.pt (pw_or (pt_cmpR op_in_sign (pe_ix ix_str (pv 0) (pv 2) (fun _ _ => rfl)) (pe_glob rfl g_SMALL.1 g_SMALL.2) (by rfl)) (pw_or1 (pt_cmpR op_in_sign (pe_ix ix_str (pv 0) (pv 2) (fun _ _ => rfl)) (pe_glob rfl g_FIGURES.1 g_FIGURES.2) (by rfl)))))
            (pss_one (ps_set (i := 3) nd rfl (Or.inl rfl) (pe_cal c_run_end (hr.mono L_run_end) (by rfl) (pa_cons (pv 0) (pa_cons (pv 2) (pa_cons (pe_op op_add_str (pe_glob rfl g_SMALL.1 g_SMALL.2) (pe_glob rfl g_FIGURES.1 g_FIGURES.2)) pa_nil))))))
            (pss_one (ps_if (pt_cmpR op_notIn_sign (pe_ix ix_str (pv 0) (pv 2) (fun _ _ => rfl)) pe_str (by rfl))
              (pss_one ps_never)
              pss_nil)))))
        (pss_cons (ps_if (pt_cmpR op_ne (pe_ix ix_str (pv 0) (pv 2) (fun _ _ => rfl)) pe_str (nomark _))
          (pss_one (ps_expr (pe_bm PySem.F.plainAttrs_list PySem.F.slot_list_append PySem.F.type_list_append mt_append (pv 1) (pa_cons (pe_slice sl_str (pv 0) (po_some (pv 2)) (po_some (pv 3))) pa_nil))))
          pss_nil)
        (pss_one (ps_set (i := 2) nd rfl (Or.inl rfl) (pv 3)))))))
      (pss_one (ps_ret (pv 1)))))), ?_⟩
  have zl : (mk l).length ≤ sizeLine := by rw [mk_len]; exact line1000 (by omega)
  have len1 : ((mk l).length : Int) = (l.length : Int) := by rw [mk_len]
  refine ⟨(by show 0 ≤ sizeLine; decide), fun p hpn => ?_⟩
  have s0 := same_new hpn (.lst [])
  have hts := (pc_len hp).1
  refine ⟨fun n σ2 H2 => ∃ (a : Nat) (e : Option V) (ds rs : List (List Nat)), σ2 = [some (.str (mk l)), some (.ref p), some (.int a), e] ∧ SameX [p] H H2 ∧ H2 p = some (.lst (pvs ds)) ∧ a ≤ l.length ∧ Pc (l.drop a) rs ∧ ds ++ rs = ts ∧ n = l.length - a,
    ⟨_, 0, none, [], ts, rfl, (s0.x [p]), upd_same, Nat.zero_le _, hp, rfl, rfl⟩, ?_⟩
  rintro n σ2 H2 ⟨a, e, ds, rs, rfl, sx, hp2, ha, hpc, hts2, rfl⟩
  refine ⟨_, rfl, _, rfl, mk l, rfl, zl, _, _, rfl, rfl, _, rfl, ?_⟩
  rw [len1]
  by_cases h1 : (a : Int) < (l.length : Int)
  · rw [decide_eq_true h1]
    have hbl : a < l.length := by omega
    have hdr := List.drop_eq_getElem_cons hbl
    have hat : atI (mk l).cps.toList (a : Int) = some l[a] := atI_nat (List.getElem?_eq_getElem hbl)
    refine iteT ⟨fun σ3 H3 => ∃ m', m' < l.length - a ∧ ∃ (a' : Nat) (e : Option V) (ds rs : List (List Nat)), σ3 = [some (.str (mk l)), some (.ref p), some (.int a'), e] ∧ SameX [p] H H3 ∧ H3 p = some (.lst (pvs ds)) ∧ a' ≤ l.length ∧ Pc (l.drop a') rs ∧ ds ++ rs = ts ∧ m' = l.length - a', fun _ _ z => z, ?_⟩
    have lit : ∀ (z : Str) (k : Nat), z = mk [k] → decide (V.str ⟨#[l[a]]⟩ = V.str z) = decide (l[a] = k) := fun z k hz => by
      have := lit_of z _ hz [l[a]]
      rw [show (V.str ⟨#[l[a]]⟩) = V.str (mk [l[a]]) from rfl, this]
      simp
    have lit1 := lit _ _ z_ca
    have lit2 := lit _ _ z_bl
    have sig : decide (l[a] ∈ (Str.ofString " (),~").cps.toList) = (isSign l[a] || decide (l[a] = 32)) := by
      rw [z_sig]
      show decide (l[a] ∈ [32, 40, 41, 44, 126]) = _
      unfold isSign
      rw [Bool.eq_iff_iff]
      simp only [decide_eq_true_eq, Bool.or_eq_true, beq_iff_eq, List.mem_cons, List.not_mem_nil, or_false]
      omega
    -- what a turn does: the end of the piece, and what is left
    refine ⟨_, rfl, _, _, rfl, rfl, ?_⟩
    refine ⟨fun σ' H' => ∃ b : Nat, σ' = [some (.str (mk l)), some (.ref p), some (.int a), some (.int b)] ∧ Same H2 H' ∧ a < b ∧ b ≤ l.length ∧
      ((l[a] = 32 ∧ Pc (l.drop b) rs) ∨ (l[a] ≠ 32 ∧ ∃ r, rs = (l.drop a).take (b - a) :: r ∧ Pc (l.drop b) r)), ?_, ?_⟩
    · refine ⟨_, rfl, _, rfl, mk l, (a : Int), l[a], rfl, rfl, zl, hat, rfl, _, rfl, ?_⟩
      rw [lit1]
      rw [hdr] at hpc
      rcases pc_inv hpc with ⟨hc, h⟩ | ⟨hc, r, er, h⟩ | ⟨w, z, r, ew, hn, hw, hs, er, h⟩ | ⟨m, fs, z, r, hc, ew, hm, hf, hz, hs, er, h⟩
      · obtain ⟨h2, h3, h4, h5⟩ := sign_not (.inr hc)
        have h6 : (l[a] = 32 ∧ Pc (l.drop (a + 1)) rs) ∨ (l[a] ≠ 32 ∧ ∃ r, rs = (l.drop a).take (a + 1 - a) :: r ∧ Pc (l.drop (a + 1)) r) := .inl ⟨hc, h⟩
        rw [decide_eq_false h4]
        refine iteF ⟨_, rfl, _, rfl, mk l, (a : Int), l[a], rfl, rfl, zl, hat, l[a], sSmall, rfl, rfl, _, rfl, ?_⟩
        rw [small_in, h2]
        refine iteF ⟨_, rfl, _, rfl, mk l, (a : Int), l[a], rfl, rfl, zl, hat, l[a], sFig, rfl, rfl, _, rfl, ?_⟩
        rw [fig_in, h3]
        refine iteF ⟨_, rfl, _, rfl, mk l, (a : Int), l[a], rfl, rfl, zl, hat, l[a], _, rfl, rfl, _, rfl, ?_⟩
        rw [sig, h5]
        exact iteF ⟨a + 1, rfl, Same.refl _, by omega, by omega, h6⟩
      · obtain ⟨h2, h3, h4, h5⟩ := sign_not (.inl hc)
        have h6 : (l[a] = 32 ∧ Pc (l.drop (a + 1)) rs) ∨ (l[a] ≠ 32 ∧ ∃ r, rs = (l.drop a).take (a + 1 - a) :: r ∧ Pc (l.drop (a + 1)) r) := by
          refine .inr ⟨fun e => ?_, r, ?_, h⟩
          · rw [e] at hc; exact absurd hc (by decide)
          · rw [hdr, er, show a + 1 - a = 1 by omega]; rfl
        rw [decide_eq_false h4]
        refine iteF ⟨_, rfl, _, rfl, mk l, (a : Int), l[a], rfl, rfl, zl, hat, l[a], sSmall, rfl, rfl, _, rfl, ?_⟩
        rw [small_in, h2]
        refine iteF ⟨_, rfl, _, rfl, mk l, (a : Int), l[a], rfl, rfl, zl, hat, l[a], sFig, rfl, rfl, _, rfl, ?_⟩
        rw [fig_in, h3]
        refine iteF ⟨_, rfl, _, rfl, mk l, (a : Int), l[a], rfl, rfl, zl, hat, l[a], _, rfl, rfl, _, rfl, ?_⟩
        rw [sig, h5]
        exact iteF ⟨a + 1, rfl, Same.refl _, by omega, by omega, h6⟩
      · have hx : isAl l[a] = true := by
          cases w with
          | nil => exact absurd rfl hn
          | cons y w' =>
            have e1 : l[a] = y := by injection ew
            rw [e1]
            exact hw y List.mem_cons_self
        obtain ⟨h4, h5⟩ := al_not hx
        rw [← hdr] at ew
        have hal : a + (w.length + z.length) = l.length := by
          have h1 := congrArg List.length ew
          rw [List.length_drop, List.length_append] at h1
          omega
        have hw0 : 0 < w.length := List.length_pos_iff.mpr hn
        have rl : runLen (sSmall ++ sFig) (l.drop a) = w.length := by rw [ew]; exact runLen_stop al_in hw hs
        have fin : (tAsg (tCall spRunEnd [] E0 (tCons (tVar 0) (tCons (tVar 2) (tCons (tOp (fun x y H Q => ∃ i j, x = .str i ∧ y = .str j ∧ i.length + j.length ≤ sizeLine ∧ Q (.str (i ++ j)) H) (tC (.str sSmall)) (tC (.str sFig))) tNil)))) (gName 3))
            { nx := fun σ' H' => ∃ b : Nat, σ' = [some (.str (mk l)), some (.ref p), some (.int a), some (.int b)] ∧ Same H2 H' ∧ a < b ∧ b ≤ l.length ∧ ((l[a] = 32 ∧ Pc (l.drop b) rs) ∨ (l[a] ≠ 32 ∧ ∃ r, rs = (l.drop a).take (b - a) :: r ∧ Pc (l.drop b) r)), rt := Q }
            [some (.str (mk l)), some (.ref p), some (.int a), some (.int ((a : Int) + 1))] H2 := by
          refine ⟨_, rfl, _, rfl, _, _, rfl, rfl, by decide, l, a, sSmall ++ sFig, rfl, by omega, by omega, ?_⟩
          rw [rl]
          refine ⟨a + w.length, rfl, Same.refl _, by omega, by omega, .inr ⟨h5, r, ?_, ?_⟩⟩
          · rw [er, ew, show a + w.length - a = w.length by omega, List.take_left]
          · rw [← List.drop_drop, ew, List.drop_left]; exact h
        rw [decide_eq_false h4]
        refine iteF ⟨_, rfl, _, rfl, mk l, (a : Int), l[a], rfl, rfl, zl, hat, l[a], sSmall, rfl, rfl, _, rfl, ?_⟩
        rw [small_in]
        cases h2 : isSmall l[a] with
        | true => exact iteT (iteT fin)
        | false =>
          refine iteF ⟨_, rfl, _, rfl, mk l, (a : Int), l[a], rfl, rfl, zl, hat, l[a], sFig, rfl, rfl, _, rfl, ?_⟩
          have h3 : isFig l[a] = true := by unfold isAl at hx; rw [h2] at hx; exact hx
          rw [fig_in, h3]
          exact iteT fin
      · rw [← hdr] at ew
        have hal : a + (1 + (m.length + (fs.length + z.length))) = l.length := by
          have h1 := congrArg List.length ew
          rw [List.length_drop] at h1
          simp at h1
          omega
        rw [decide_eq_true hc]
        refine iteT ⟨_, rfl, _, rfl, l, a, m, fs, z, rfl, hl, ew, hm, hf, hz, hs, fun H1 s1 => ⟨_, rfl, s1, by omega, by omega, .inr ⟨by rw [hc]; decide, r, ?_, ?_⟩⟩⟩
        · rw [er, ew, show a + (1 + (m.length + fs.length)) - a = (94 :: (m ++ fs)).length by simp; omega]
          rw [show 94 :: (m ++ (fs ++ z)) = (94 :: (m ++ fs)) ++ z by simp, List.take_left]
        · rw [← List.drop_drop, ew, show 1 + (m.length + fs.length) = (94 :: (m ++ fs)).length by simp; omega]
          rw [show 94 :: (m ++ (fs ++ z)) = (94 :: (m ++ fs)) ++ z by simp, List.drop_left]
          exact h
    · rintro σ' H' ⟨b, rfl, s1, hab, hb, hcase⟩
      refine ⟨_, rfl, _, rfl, mk l, (a : Int), l[a], rfl, rfl, zl, hat, rfl, _, rfl, ?_⟩
      rw [lit2]
      have hp3 := s1 _ _ hp2
      have tot : ds.length + rs.length = ts.length := by rw [← hts2, List.length_append]
      rcases hcase with ⟨hc, h⟩ | ⟨hc, r, er, h⟩
      · rw [decide_eq_true hc]
        exact iteF ⟨_, rfl, l.length - b, by omega, b, _, ds, rs, rfl, sx.trans (s1.x _), hp3, hb, h, hts2, rfl⟩
      · rw [decide_eq_false hc]
        refine iteT ⟨_, rfl, Or.inl ⟨rfl, _, SqL.of hp3⟩, _, rfl, _, rfl, _, rfl, _, rfl, _, rfl, mk l, rfl, zl, p, pvs ds, _, rfl, rfl, hp3, line1000' (by unfold pvs; rw [List.length_map]; omega), ?_⟩
        rw [cut_mid l a b hb]
        refine ⟨_, rfl, l.length - b, by omega, b, _, ds ++ [(l.drop a).take (b - a)], r, rfl, (sx.trans (s1.x _)).trans (samex_upd _ (List.mem_singleton.mpr rfl)), ?_, hb, h, ?_, rfl⟩
        · rw [upd_same]; unfold pvs; rw [List.map_append]; rfl
        · rw [← hts2, er]; simp
  · rw [decide_eq_false h1]
    have e0 : a = l.length := by omega
    subst e0
    rw [List.drop_length] at hpc
    have er : rs = [] := by
      generalize hg : ([] : List Nat) = z at hpc
      cases hpc with
      | nil => rfl
      | blank _ => cases hg
      | sign _ _ => cases hg
      | word hn _ _ _ =>
        exact absurd (List.append_eq_nil_iff.mp hg.symm).1 hn
      | pow _ _ _ _ _ => cases hg
    subst er
    rw [List.append_nil] at hts2
    subst hts2
    exact iteF ⟨_, rfl, q p H2 (sx.drop hpn).same hpn hp2⟩
theorem cal_pieces_of (B : Blt mg) (gl : Glb K mg) (D : DefAt K mg "pieces_of" s_pieces_of P_pieces_of) (c_run_end : Cal P w K mg base 1 "run_end" P_run_end spRunEnd) (c_power_end : Cal P w K mg base 2 "power_end" P_power_end spPowerEnd) : Cal P w K mg base 3 "pieces_of" P_pieces_of spPiecesOf :=
  D.cal fun _ _ F => ok_pieces_of B gl F c_run_end c_power_end
end
end Hw
set_option maxHeartbeats 4000000
/-! Halvewright: words, brackets, parts, chains. -/
namespace Hw
open PySem L2

namespace C
def wordy : C → Bool
  | one => true
  | move _ => true
  | name _ => true
  | _ => false
theorem atom_cases {c : C} (h : c.atom = true) : c.wordy = true ∨ (c.wordy = false ∧ c.atom = true) := by
  cases hw : c.wordy
  · exact .inr ⟨rfl, h⟩
  · exact .inl rfl
theorem wordy_toks : ∀ {c : C}, c.wordy = true → c.toks = [c.txt]
  | one, _ => rfl
  | move _, _ => rfl
  | name _, _ => rfl
end C
theorem inV_cons (l a : List Nat) (s : Str) (h : s = mk a) (xs : List V) : inV (.str (mk l)) (.str s :: xs) = (decide (l = a) || inV (.str (mk l)) xs) := by
  show ((s == mk l) || inV (.str (mk l)) xs) = _
  congr 1
  rw [h, Bool.eq_iff_iff, beq_iff_eq, decide_eq_true_eq]
  exact ⟨fun q => (mk_inj q).symm, fun q => by rw [q]⟩
theorem drop_get {α : Type} {ps : List α} {k : Nat} {x : α} {r : List α} (h : ps.drop k = x :: r) : ps[k]? = some x ∧ ps.drop (k + 1) = r ∧ k < ps.length := by
  have h1 : k < ps.length := by
    have := congrArg List.length h
    rw [List.length_drop] at this
    simp at this
    omega
  refine ⟨?_, by rw [← List.drop_drop, h]; rfl, h1⟩
  rw [List.drop_eq_getElem_cons h1] at h
  rw [List.getElem?_eq_getElem h1]
  injection h with h _
  rw [h]
theorem drop_app {α : Type} {ps : List α} {k : Nat} {xs r : List α} (h : ps.drop k = xs ++ r) : ps.drop (k + xs.length) = r := by
  rw [← List.drop_drop, h, List.drop_left]
theorem pvs_get {ps : List (List Nat)} {k : Nat} {x : List Nat} (h : ps[k]? = some x) : atI (pvs ps) (k : Int) = some (.str (mk x)) := atI_nat (by unfold pvs; rw [List.getElem?_map, h]; rfl)
theorem pvs_len (ps : List (List Nat)) : (pvs ps).length = ps.length := List.length_map _
def PsOk (ps : List (List Nat)) : Prop := ps.length ≤ 3000 ∧ ∀ x ∈ ps, x.length ≤ 1000

section
variable {P : Program} {w : World} {K : PySem.W.Frag} {mg : Str → Option Value} {base : Heap} {f : Addr} {fd : FuncData}

abbrev s_word_of : Stmt := top 15
abbrev N_word_of : List Str := ["piece"]
abbrev P_word_of : List Str := ["piece"]
theorem sc_word_of : FnScope N_word_of P_word_of (defScope s_word_of) := ⟨rfl, rfl, rfl, by decide +kernel, rfl, by decide +kernel, by decide +kernel⟩
def spWordOf : Sp := fun vs H Q _ => ∃ c : C, vs = [.str (mk c.txt)] ∧ c.wordy = true ∧ c.ok ∧ c.txt.length ≤ 1000 ∧ ∀ r H', Same H H' → IsE H' r c.ex → Q r H'
theorem not_one_move (n : Nat) : decide (109 :: figs n = wOne) = false := decide_eq_false fun e => by injection e with e _; cases e
theorem move_not_name {n : Nat} (h : n < 20) : okName (109 :: figs n) = false := by
  have e : (109 :: figs n).all isSmall = false := by
    cases hq : (109 :: figs n).all isSmall with
    | false => rfl
    | true =>
      have h1 := List.all_eq_true.mp hq
      have h2 := figs_al h
      cases hf : figs n with
      | nil => exact absurd hf (figs_ne n)
      | cons c r =>
        rw [hf] at h1 h2
        have a1 := h1 c (List.mem_cons_of_mem _ List.mem_cons_self)
        have a2 := h2 c List.mem_cons_self
        unfold isSmall at a1
        unfold isFig at a2
        simp only [Bool.and_eq_true, decide_eq_true_eq] at a1 a2
        omega
  unfold okName
  rw [e]
  simp
theorem ok_word_of (B : Blt mg) (F : Fun K "word_of" "word_of" s_word_of f fd) (c_is_name : Cal P w K mg base 1 "is_name" P_is_name spIsName) (c_is_number : Cal P w K mg base 1 "is_number" P_is_number spIsNumber) : FnOk P w K mg base CX0 2 f fd P_word_of spWordOf := by
  have nd := sc_word_of.nd
  refine F.ok sc_word_of (fun vs H Q E h => ?_) (fun cdv A outer s H vs Q E hr h => ?_)
  · obtain ⟨c, rfl, _⟩ := h; rfl
  obtain ⟨c, rfl, hw, hk, hl, q⟩ := h
  have L_is_name : 1 ≤ 1 := Nat.le_refl _
  have L_is_number : 1 ≤ 1 := Nat.le_refl _
  refine ⟨_, (pss_cons (ps_if (pt_cmpR op_eq (pv 0) pe_str (nomark _))
        (pss_one (ps_ret (pe_tup (pa_cons pe_str pa_nil))))
        pss_nil)
      (pss_cons (ps_if (pt_val (pe_cal c_is_name (hr.mono L_is_name) (by rfl) (pa_cons (pv 0) pa_nil)))
        (pss_one (ps_ret (pe_tup (pa_cons pe_str (pa_cons (pv 0) pa_nil)))))
        pss_nil)
      (pss_cons (ps_if (PW.pt (pw_and (pt_cmpR op_eq (pe_ix ix_str (pv 0) pe_int (fun _ _ => rfl)) pe_str (nomark _)) (pw_and1 (pt_val (pe_cal c_is_number (hr.mono L_is_number) (by rfl) (pa_cons (pe_slice sl_str (pv 0) (po_some pe_int) po_none) pa_nil))))))
        (pss_one (ps_ret (pe_tup (pa_cons pe_str (pa_cons (pe_callTy call_int_str (by rfl) B.int bl_int (pa_cons (pe_slice sl_str (pv 0) (po_some pe_int) po_none) pa_nil)) pa_nil)))))
        pss_nil)
      (pss_one ps_never)))), ?_⟩
  have zl : (mk c.txt).length ≤ sizeLine := by rw [mk_len]; exact line1000 (by omega)
  refine ⟨_, rfl, rfl, _, rfl, ?_⟩
  rw [lit_of _ _ z_one]
  match c, hw, hk, hl, q, zl with
  | .one, _, _, _, q, _ =>
    refine iteT ⟨(by show 1 ≤ sizeLine; decide), fun p hp => ?_⟩
    exact q _ _ (same_new hp _) ⟨p, rfl, upd_same⟩
  | .name x, _, hk, hl, q, _ =>
    obtain ⟨h1, h2, h3, h4⟩ := okName_al (w := x.cps.toList) hk
    have e1 : decide ((C.name x).txt = wOne) = false := decide_eq_false fun e => by
      have e2 : x.cps.toList = wOne := e
      rw [e2] at h4
      exact absurd h4 (by decide)
    rw [e1]
    refine iteF ⟨_, rfl, x.cps.toList, rfl, hl, fun H1 s1 => ⟨_, rfl, ?_⟩⟩
    have hk' : okName x.cps.toList = true := hk
    rw [hk']
    refine iteT ⟨_, rfl, (by show 2 ≤ sizeLine; decide), fun p hp => ?_⟩
    exact q _ _ (s1.trans (same_new hp _)) ⟨p, rfl, upd_same⟩
  | .move n, _, hk, hl, q, zl =>
    have hn : n < 20 := hk
    have e1 : decide ((C.move n).txt = wOne) = false := not_one_move n
    rw [e1]
    refine iteF ⟨_, rfl, 109 :: figs n, rfl, hl, fun H1 s1 => ⟨_, rfl, ?_⟩⟩
    rw [move_not_name hn]
    refine iteF ⟨_, rfl, mk (109 :: figs n), 0, 109, rfl, rfl, zl, atI_nat (j := 0) rfl, rfl, _, rfl, ?_⟩
    have e2 : decide (V.str ⟨#[109]⟩ = V.str (Str.ofString "m")) = true := by
      have := lit_of _ _ z_m [109]
      rw [show (V.str ⟨#[109]⟩) = V.str (mk [109]) from rfl, this]
      decide
    rw [e2]
    have hc : cutS (mk (109 :: figs n)) (some 1) none = mk (figs n) := cut_from (109 :: figs n) 1
    have hfl := figs_length n
    refine iteT ⟨_, rfl, _, rfl, mk (109 :: figs n), rfl, zl, figs n, (by first | (rw [hc]; done) | (rw [hc]; rfl)), by omega, fun H2 s2 => ⟨_, rfl, ?_⟩⟩
    rw [figs_ok n hn]
    refine iteT ⟨_, rfl, _, rfl, mk (109 :: figs n), rfl, zl, mk (figs n), (n : Int), (by first | (rw [hc]; done) | (rw [hc]; rfl)), int_figs n hn, by rw [mk_len]; omega, (by show 2 ≤ sizeLine; decide), fun p hp => ?_⟩
    exact q _ _ (s1.trans (s2.trans (same_new hp _))) ⟨p, rfl, upd_same⟩
theorem cal_word_of (B : Blt mg) (D : DefAt K mg "word_of" s_word_of P_word_of) (c_is_name : Cal P w K mg base 1 "is_name" P_is_name spIsName) (c_is_number : Cal P w K mg base 1 "is_number" P_is_number spIsNumber) : Cal P w K mg base 2 "word_of" P_word_of spWordOf :=
  D.cal fun _ _ F => ok_word_of B F c_is_name c_is_number

abbrev s_past : Stmt := top 16
abbrev N_past : List Str := ["pieces", "at", "sign"]
abbrev P_past : List Str := ["pieces", "at", "sign"]
theorem sc_past : FnScope N_past P_past (defScope s_past) := ⟨rfl, rfl, rfl, by decide +kernel, rfl, by decide +kernel, by decide +kernel⟩
def spPast : Sp := fun vs H Q _ => ∃ (a : Addr) (ps : List (List Nat)) (k : Nat) (z : Str) (x : List Nat), vs = [.ref a, .int k, .str z] ∧ z = mk x ∧ H a = some (.lst (pvs ps)) ∧ ps[k]? = some x ∧ Q (.int ((k + 1 : Nat) : Int)) H
theorem ok_past (B : Blt mg) (F : Fun K "past" "past" s_past f fd) : FnOk P w K mg base CX0 1 f fd P_past spPast := by
  have nd := sc_past.nd
  refine F.ok sc_past (fun vs H Q E h => ?_) (fun cdv A outer s H vs Q E hr h => ?_)
  · obtain ⟨a, ps, k, z, x, rfl, _⟩ := h; rfl
  obtain ⟨a, ps, k, z, x, rfl, rfl, ha, hx, q⟩ := h
  refine ⟨_, (pss_cons (ps_if (PW.pt (pw_or (pt_cmpR op_eq (pv 1) (pe_callB call_len_seq (by rfl) B.len PySem.boot_len (pa_cons (pv 0) pa_nil)) (nomark _)) (pw_or1 (pt_cmpR op_ne (pe_ix ix_list (pv 0) (pv 1) (fun _ _ => rfl)) (pv 2) (nomark _)))))
        (pss_one ps_never)
        pss_nil)
      (pss_one (ps_ret (pe_op op_add (pv 1) pe_int)))), ?_⟩
  have hk := (List.getElem?_eq_some_iff.mp hx).1
  refine ⟨_, rfl, _, rfl, a, _, rfl, .inl (SqL.of ha), rfl, _, rfl, ?_⟩
  rw [Hw.dec_int, pvs_len, decide_eq_false (by omega)]
  refine iteF ⟨_, rfl, _, rfl, a, pvs ps, (k : Int), _, rfl, rfl, SqL.of ha, pvs_get hx, _, rfl, rfl, _, rfl, ?_⟩
  rw [decide_eq_true rfl]
  exact iteF ⟨_, rfl, _, _, rfl, rfl, q⟩
theorem cal_past (B : Blt mg) (D : DefAt K mg "past" s_past P_past) : Cal P w K mg base 1 "past" P_past spPast := D.cal fun _ _ F => ok_past B F

/-! ### brackets, parts, chains -/
/-- what follows is no piece that belongs to what is ahead -/
def stopP (rest : List (List Nat)) : Prop := ∀ x ∈ rest.head?, ∃ c r, x = c :: r ∧ c ≠ 126 ∧ c ≠ 94
def stopC (rest : List (List Nat)) : Prop := ∀ x ∈ rest.head?, x = [41] ∨ x = [44]
theorem stopC.p {rest : List (List Nat)} (h : stopC rest) : stopP rest := fun x hx => by
  rcases h x hx with rfl | rfl
  · exact ⟨41, [], rfl, by decide, by decide⟩
  · exact ⟨44, [], rfl, by decide, by decide⟩
theorem stopC_one {x : List Nat} {r : List (List Nat)} (h : x = [41] ∨ x = [44]) : stopC (x :: r) := fun y hy => by
  have e : x = y := by simpa using hy
  rw [← e]; exact h
/-- the answer of a reader: the expression and the place after it -/
def Rd (H : Hp) (Q : VK) (k : Nat) (e : Ex) : Prop := ∀ t u H', Same H H' → H' t = some (.tup [u, .int (k : Int)]) → IsE H' u e → Q (.ref t) H'
abbrev s_bracket : Stmt := top 17
abbrev N_bracket : List Str := ["pieces", "at", "word", "one", "other"]
abbrev P_bracket : List Str := ["pieces", "at"]
theorem sc_bracket : FnScope N_bracket P_bracket (defScope s_bracket) := ⟨rfl, rfl, rfl, by decide +kernel, rfl, by decide +kernel, by decide +kernel⟩
abbrev s_part : Stmt := top 18
abbrev N_part : List Str := ["pieces", "at", "expr"]
abbrev P_part : List Str := ["pieces", "at"]
theorem sc_part : FnScope N_part P_part (defScope s_part) := ⟨rfl, rfl, rfl, by decide +kernel, rfl, by decide +kernel, by decide +kernel⟩
abbrev s_chain : Stmt := top 19
abbrev N_chain : List Str := ["pieces", "at", "expr", "more"]
abbrev P_chain : List Str := ["pieces", "at"]
theorem sc_chain : FnScope N_chain P_chain (defScope s_chain) := ⟨rfl, rfl, rfl, by decide +kernel, rfl, by decide +kernel, by decide +kernel⟩
def spBracket (n : Nat) : Sp := fun vs H Q _ => ∃ (a : Addr) (ps : List (List Nat)) (k : Nat) (c : C) (rest : List (List Nat)), vs = [.ref a, .int k] ∧ H a = some (.lst (pvs ps)) ∧ PsOk ps ∧ ps.drop k = c.toks ++ rest ∧ c.ok ∧ c.wordy = false ∧ c.atom = true ∧ 3 * c.nest + 1 ≤ n ∧ Rd H Q (k + c.toks.length) c.ex
def spPart (n : Nat) : Sp := fun vs H Q _ => ∃ (a : Addr) (ps : List (List Nat)) (k : Nat) (c : C) (rest : List (List Nat)), vs = [.ref a, .int k] ∧ H a = some (.lst (pvs ps)) ∧ PsOk ps ∧ ps.drop k = c.toks ++ rest ∧ c.ok ∧ c.item = true ∧ stopP rest ∧ 3 * c.nest + 2 ≤ n ∧ Rd H Q (k + c.toks.length) c.ex
def spChain (n : Nat) : Sp := fun vs H Q _ => ∃ (a : Addr) (ps : List (List Nat)) (k : Nat) (c : C) (rest : List (List Nat)), vs = [.ref a, .int k] ∧ H a = some (.lst (pvs ps)) ∧ PsOk ps ∧ ps.drop k = c.toks ++ rest ∧ c.ok ∧ stopC rest ∧ 3 * c.nest + 3 ≤ n ∧ Rd H Q (k + c.toks.length) c.ex
theorem ok_bracket {n : Nat} (F : Fun K "bracket" "bracket" s_bracket f fd) (c_past : Cal P w K mg base 1 "past" P_past spPast) (c_chain : Cal P w K mg base (n + 3) "chain" P_chain (spChain n)) : FnOk P w K mg base CX0 (n + 4) f fd P_bracket (spBracket (n + 1)) := by
  have nd := sc_bracket.nd
  refine F.ok sc_bracket (fun vs H Q E h => ?_) (fun cdv A outer s H vs Q E hr h => ?_)
  · obtain ⟨a, ps, k, c, rest, rfl, _⟩ := h; rfl
  obtain ⟨a, ps, k, c, rest, rfl, ha, hp, hd, hk, hw, hat, hn, q⟩ := h
  have L_past : 1 ≤ n + 3 := by omega
  have L_chain : n + 3 ≤ n + 3 := Nat.le_refl _
  refine ⟨_, (pss_cons (ps_set (i := 2) nd rfl (Or.inl rfl) (pe_ix ix_list (pv 0) (pv 1) (fun _ _ => rfl)))
      (pss_cons (ps_if (pt_cmpR op_ne (pv 2) pe_str (nomark _))
        (pss_one (ps_set (i := 1) nd rfl (Or.inl rfl) (pe_op op_add (pv 1) pe_int)))
        pss_nil)
      (pss_cons (ps_asg (pe_cal c_chain (hr.mono L_chain) (by rfl) (pa_cons (pv 0) (pa_cons (pe_cal c_past (hr.mono L_past) (by rfl) (pa_cons (pv 0) (pa_cons (pv 1) (pa_cons pe_str pa_nil)))) pa_nil))) (pg_tup rfl (pgs_cons (pg_name (i := 3) nd rfl (Or.inl rfl)) (pgs_cons (pg_name (i := 1) nd rfl (Or.inl rfl)) pgs_nil))))
      (pss_cons (ps_if (pt_cmpR op_in_seq (pv 2) (pe_tup (pa_cons pe_str (pa_cons pe_str pa_nil))) (by rfl))
        (pss_cons (ps_asg (pe_cal c_chain (hr.mono L_chain) (by rfl) (pa_cons (pv 0) (pa_cons (pe_cal c_past (hr.mono L_past) (by rfl) (pa_cons (pv 0) (pa_cons (pv 1) (pa_cons pe_str pa_nil)))) pa_nil))) (pg_tup rfl (pgs_cons (pg_name (i := 4) nd rfl (Or.inl rfl)) (pgs_cons (pg_name (i := 1) nd rfl (Or.inl rfl)) pgs_nil))))
        (pss_one (ps_ret (pe_tup (pa_cons (pe_tup (pa_cons (pv 2) (pa_cons (pv 3) (pa_cons (pv 4) pa_nil)))) (pa_cons (pe_cal c_past (hr.mono L_past) (by rfl) (pa_cons (pv 0) (pa_cons (pv 1) (pa_cons pe_str pa_nil)))) pa_nil))))))
        pss_nil)
      (pss_cons (ps_if (pt_cmpR op_ne (pv 2) pe_str (nomark _))
        (pss_one (ps_set (i := 3) nd rfl (Or.inl rfl) (pe_tup (pa_cons (pv 2) (pa_cons (pv 3) pa_nil)))))
        pss_nil)
      (pss_one (ps_ret (pe_tup (pa_cons (pv 3) (pa_cons (pe_cal c_past (hr.mono L_past) (by rfl) (pa_cons (pv 0) (pa_cons (pv 1) (pa_cons pe_str pa_nil)))) pa_nil)))))))))), ?_⟩
  match c, hw, hat, hk, hd, hn, q with
  | .par d, _, _, hk, hd, hn, q =>
    have hn' : 3 * (d.nest + 1) + 1 ≤ n + 1 := hn
    have hd0 : ps.drop k = [40] :: (d.toks ++ [41] :: rest) := by rw [hd]; show [40] :: (d.toks ++ [[41]]) ++ rest = _; simp
    obtain ⟨g0, d1, _⟩ := drop_get hd0
    have d2 := drop_app d1
    obtain ⟨g2, d3, _⟩ := drop_get d2
    refine ⟨_, rfl, _, rfl, a, pvs ps, (k : Int), _, rfl, rfl, SqL.of ha, pvs_get g0, ?_⟩
    refine ⟨_, rfl, rfl, _, rfl, ?_⟩
    rw [lit_of _ _ z_lp, decide_eq_true rfl]
    refine iteF ⟨_, rfl, _, rfl, _, rfl, a, ps, k, _, [40], rfl, z_lp, ha, g0, a, ps, k + 1, d, [41] :: rest, rfl, ha, hp, d1, hk, stopC_one (.inl rfl), by omega, fun t u H1 s1 ht hu => ?_⟩
    refine ⟨t, _, rfl, SqT.of ht, rfl, _, _, rfl, _, _, rfl, rfl, ?_⟩
    refine ⟨_, rfl, (by show 2 ≤ sizeLine; decide), fun p hp1 => ?_⟩
    have s2 := same_new hp1 (.tup [.str "as", .str "com"])
    refine ⟨p, _, rfl, .inr (SqT.of upd_same), rfl, rfl, _, rfl, ?_⟩
    rw [inV_cons _ _ _ z_as, inV_cons _ _ _ z_com]
    refine iteF ⟨_, rfl, rfl, _, rfl, ?_⟩
    rw [lit_of _ _ z_lp, decide_eq_true rfl]
    refine iteF ⟨_, rfl, _, rfl, _, rfl, a, ps, k + 1 + d.toks.length, _, [41], rfl, z_rp, s2 _ _ (s1 _ _ ha), g2, (by show 2 ≤ sizeLine; decide), fun r hr1 => ?_⟩
    have s3 := same_new hr1 (.tup [u, .int ((k + 1 + d.toks.length + 1 : Nat) : Int)])
    refine q r u _ (s1.trans (s2.trans s3)) ?_ ((hu.mono s2.tk).mono s3.tk)
    rw [upd_same]
    have e : (C.par d).toks.length = 1 + d.toks.length + 1 := by show ([40] :: (d.toks ++ [[41]])).length = _; simp; omega
    rw [e, show k + (1 + d.toks.length + 1) = k + 1 + d.toks.length + 1 by omega]
  | .low d, _, _, hk, hd, hn, q =>
    have hn' : 3 * (d.nest + 1) + 1 ≤ n + 1 := hn
    have hd0 : ps.drop k = wLow :: [40] :: (d.toks ++ [41] :: rest) := by rw [hd]; show wLow :: [40] :: (d.toks ++ [[41]]) ++ rest = _; simp
    obtain ⟨g0, d0, _⟩ := drop_get hd0
    obtain ⟨g1, d1, _⟩ := drop_get d0
    have d2 := drop_app d1
    obtain ⟨g2, d3, _⟩ := drop_get d2
    refine ⟨_, rfl, _, rfl, a, pvs ps, (k : Int), _, rfl, rfl, SqL.of ha, pvs_get g0, ?_⟩
    refine ⟨_, rfl, rfl, _, rfl, ?_⟩
    rw [lit_of _ _ z_lp, decide_eq_false (by decide)]
    refine iteT ⟨_, rfl, _, _, rfl, rfl, ?_⟩
    refine ⟨_, rfl, _, rfl, _, rfl, a, ps, k + 1, _, [40], rfl, z_lp, ha, g1, a, ps, k + 1 + 1, d, [41] :: rest, rfl, ha, hp, d1, hk, stopC_one (.inl rfl), by omega, fun t u H1 s1 ht hu => ?_⟩
    refine ⟨t, _, rfl, SqT.of ht, rfl, _, _, rfl, _, _, rfl, rfl, ?_⟩
    refine ⟨_, rfl, (by show 2 ≤ sizeLine; decide), fun p hp1 => ?_⟩
    have s2 := same_new hp1 (.tup [.str "as", .str "com"])
    refine ⟨p, _, rfl, .inr (SqT.of upd_same), rfl, rfl, _, rfl, ?_⟩
    rw [inV_cons _ _ _ z_as, inV_cons _ _ _ z_com]
    refine iteF ⟨_, rfl, rfl, _, rfl, ?_⟩
    rw [lit_of _ _ z_lp, decide_eq_false (by decide)]
    refine iteT ⟨_, rfl, _, rfl, (by show 2 ≤ sizeLine; decide), fun p2 hp2 => ?_⟩
    have s4 := same_new hp2 (.tup [.str (mk wLow), u])
    refine ⟨_, rfl, _, rfl, _, rfl, a, ps, k + 1 + 1 + d.toks.length, _, [41], rfl, z_rp, s4 _ _ (s2 _ _ (s1 _ _ ha)), g2, (by show 2 ≤ sizeLine; decide), fun r hr1 => ?_⟩
    have s3 := same_new hr1 (.tup [.ref p2, .int ((k + 1 + 1 + d.toks.length + 1 : Nat) : Int)])
    refine q r (.ref p2) _ (s1.trans (s2.trans (s4.trans s3))) ?_ ⟨p2, u, rfl, ?_, ((hu.mono s2.tk).mono s4.tk).mono s3.tk⟩
    · rw [upd_same]
      have e : (C.low d).toks.length = 2 + d.toks.length + 1 := by show (wLow :: [40] :: (d.toks ++ [[41]])).length = _; simp; omega
      rw [e, show k + (2 + d.toks.length + 1) = k + 1 + 1 + d.toks.length + 1 by omega]
    · rw [z_low]
      exact s3 _ _ upd_same
  | .high d, _, _, hk, hd, hn, q =>
    have hn' : 3 * (d.nest + 1) + 1 ≤ n + 1 := hn
    have hd0 : ps.drop k = wHigh :: [40] :: (d.toks ++ [41] :: rest) := by rw [hd]; show wHigh :: [40] :: (d.toks ++ [[41]]) ++ rest = _; simp
    obtain ⟨g0, d0, _⟩ := drop_get hd0
    obtain ⟨g1, d1, _⟩ := drop_get d0
    have d2 := drop_app d1
    obtain ⟨g2, d3, _⟩ := drop_get d2
    refine ⟨_, rfl, _, rfl, a, pvs ps, (k : Int), _, rfl, rfl, SqL.of ha, pvs_get g0, ?_⟩
    refine ⟨_, rfl, rfl, _, rfl, ?_⟩
    rw [lit_of _ _ z_lp, decide_eq_false (by decide)]
    refine iteT ⟨_, rfl, _, _, rfl, rfl, ?_⟩
    refine ⟨_, rfl, _, rfl, _, rfl, a, ps, k + 1, _, [40], rfl, z_lp, ha, g1, a, ps, k + 1 + 1, d, [41] :: rest, rfl, ha, hp, d1, hk, stopC_one (.inl rfl), by omega, fun t u H1 s1 ht hu => ?_⟩
    refine ⟨t, _, rfl, SqT.of ht, rfl, _, _, rfl, _, _, rfl, rfl, ?_⟩
    refine ⟨_, rfl, (by show 2 ≤ sizeLine; decide), fun p hp1 => ?_⟩
    have s2 := same_new hp1 (.tup [.str "as", .str "com"])
    refine ⟨p, _, rfl, .inr (SqT.of upd_same), rfl, rfl, _, rfl, ?_⟩
    rw [inV_cons _ _ _ z_as, inV_cons _ _ _ z_com]
    refine iteF ⟨_, rfl, rfl, _, rfl, ?_⟩
    rw [lit_of _ _ z_lp, decide_eq_false (by decide)]
    refine iteT ⟨_, rfl, _, rfl, (by show 2 ≤ sizeLine; decide), fun p2 hp2 => ?_⟩
    have s4 := same_new hp2 (.tup [.str (mk wHigh), u])
    refine ⟨_, rfl, _, rfl, _, rfl, a, ps, k + 1 + 1 + d.toks.length, _, [41], rfl, z_rp, s4 _ _ (s2 _ _ (s1 _ _ ha)), g2, (by show 2 ≤ sizeLine; decide), fun r hr1 => ?_⟩
    have s3 := same_new hr1 (.tup [.ref p2, .int ((k + 1 + 1 + d.toks.length + 1 : Nat) : Int)])
    refine q r (.ref p2) _ (s1.trans (s2.trans (s4.trans s3))) ?_ ⟨p2, u, rfl, ?_, ((hu.mono s2.tk).mono s4.tk).mono s3.tk⟩
    · rw [upd_same]
      have e : (C.high d).toks.length = 2 + d.toks.length + 1 := by show (wHigh :: [40] :: (d.toks ++ [[41]])).length = _; simp; omega
      rw [e, show k + (2 + d.toks.length + 1) = k + 1 + 1 + d.toks.length + 1 by omega]
    · rw [z_high]
      exact s3 _ _ upd_same
  | .as d d', _, _, hk, hd, hn, q =>
    have hn' : 3 * (max d.nest d'.nest + 1) + 1 ≤ n + 1 := hn
    have hd0 : ps.drop k = wAs :: [40] :: (d.toks ++ [44] :: (d'.toks ++ [41] :: rest)) := by rw [hd]; show wAs :: [40] :: (d.toks ++ [44] :: (d'.toks ++ [[41]])) ++ rest = _; simp
    obtain ⟨g0, d0, _⟩ := drop_get hd0
    obtain ⟨g1, d1, _⟩ := drop_get d0
    have d2 := drop_app d1
    obtain ⟨g2, d3, _⟩ := drop_get d2
    have d4 := drop_app d3
    obtain ⟨g4, d5, _⟩ := drop_get d4
    refine ⟨_, rfl, _, rfl, a, pvs ps, (k : Int), _, rfl, rfl, SqL.of ha, pvs_get g0, ?_⟩
    refine ⟨_, rfl, rfl, _, rfl, ?_⟩
    rw [lit_of _ _ z_lp, decide_eq_false (by decide)]
    refine iteT ⟨_, rfl, _, _, rfl, rfl, ?_⟩
    refine ⟨_, rfl, _, rfl, _, rfl, a, ps, k + 1, _, [40], rfl, z_lp, ha, g1, a, ps, k + 1 + 1, d, _, rfl, ha, hp, d1, hk.1, stopC_one (.inr rfl), by omega, fun t u H1 s1 ht hu => ?_⟩
    refine ⟨t, _, rfl, SqT.of ht, rfl, _, _, rfl, _, _, rfl, rfl, ?_⟩
    refine ⟨_, rfl, (by show 2 ≤ sizeLine; decide), fun p hp1 => ?_⟩
    have s2 := same_new hp1 (.tup [.str "as", .str "com"])
    refine ⟨p, _, rfl, .inr (SqT.of upd_same), rfl, rfl, _, rfl, ?_⟩
    rw [inV_cons _ _ _ z_as, inV_cons _ _ _ z_com]
    have ha2 := s2 _ _ (s1 _ _ ha)
    refine iteT ⟨_, rfl, _, rfl, _, rfl, a, ps, k + 1 + 1 + d.toks.length, _, [44], rfl, z_cm, ha2, g2, a, ps, k + 1 + 1 + d.toks.length + 1, d', _, rfl, ha2, hp, d3, hk.2, stopC_one (.inl rfl), by omega, fun t' u' H3 s3 ht' hu' => ?_⟩
    refine ⟨t', _, rfl, SqT.of ht', rfl, _, _, rfl, _, _, rfl, rfl, ?_⟩
    refine ⟨_, rfl, _, rfl, _, rfl, (by show 3 ≤ sizeLine; decide), fun p2 hp2 => ?_⟩
    have s4 := same_new hp2 (.tup [.str (mk wAs), u, u'])
    refine ⟨_, rfl, _, rfl, a, ps, k + 1 + 1 + d.toks.length + 1 + d'.toks.length, _, [41], rfl, z_rp, s4 _ _ (s3 _ _ ha2), g4, (by show 2 ≤ sizeLine; decide), fun r hr1 => ?_⟩
    have s5 := same_new hr1 (.tup [.ref p2, .int ((k + 1 + 1 + d.toks.length + 1 + d'.toks.length + 1 : Nat) : Int)])
    refine q r (.ref p2) _ (s1.trans (s2.trans (s3.trans (s4.trans s5)))) ?_ ⟨p2, u, u', rfl, ?_, (((hu.mono s2.tk).mono s3.tk).mono s4.tk).mono s5.tk, (hu'.mono s4.tk).mono s5.tk⟩
    · rw [upd_same]
      have e : (C.as d d').toks.length = 2 + d.toks.length + 1 + d'.toks.length + 1 := by show (wAs :: [40] :: (d.toks ++ [44] :: (d'.toks ++ [[41]]))).length = _; simp; omega
      rw [e, show k + (2 + d.toks.length + 1 + d'.toks.length + 1) = k + 1 + 1 + d.toks.length + 1 + d'.toks.length + 1 by omega]
    · rw [z_as]
      exact s5 _ _ upd_same
  | .com d d', _, _, hk, hd, hn, q =>
    have hn' : 3 * (max d.nest d'.nest + 1) + 1 ≤ n + 1 := hn
    have hd0 : ps.drop k = wCom :: [40] :: (d.toks ++ [44] :: (d'.toks ++ [41] :: rest)) := by rw [hd]; show wCom :: [40] :: (d.toks ++ [44] :: (d'.toks ++ [[41]])) ++ rest = _; simp
    obtain ⟨g0, d0, _⟩ := drop_get hd0
    obtain ⟨g1, d1, _⟩ := drop_get d0
    have d2 := drop_app d1
    obtain ⟨g2, d3, _⟩ := drop_get d2
    have d4 := drop_app d3
    obtain ⟨g4, d5, _⟩ := drop_get d4
    refine ⟨_, rfl, _, rfl, a, pvs ps, (k : Int), _, rfl, rfl, SqL.of ha, pvs_get g0, ?_⟩
    refine ⟨_, rfl, rfl, _, rfl, ?_⟩
    rw [lit_of _ _ z_lp, decide_eq_false (by decide)]
    refine iteT ⟨_, rfl, _, _, rfl, rfl, ?_⟩
    refine ⟨_, rfl, _, rfl, _, rfl, a, ps, k + 1, _, [40], rfl, z_lp, ha, g1, a, ps, k + 1 + 1, d, _, rfl, ha, hp, d1, hk.1, stopC_one (.inr rfl), by omega, fun t u H1 s1 ht hu => ?_⟩
    refine ⟨t, _, rfl, SqT.of ht, rfl, _, _, rfl, _, _, rfl, rfl, ?_⟩
    refine ⟨_, rfl, (by show 2 ≤ sizeLine; decide), fun p hp1 => ?_⟩
    have s2 := same_new hp1 (.tup [.str "as", .str "com"])
    refine ⟨p, _, rfl, .inr (SqT.of upd_same), rfl, rfl, _, rfl, ?_⟩
    rw [inV_cons _ _ _ z_as, inV_cons _ _ _ z_com]
    have ha2 := s2 _ _ (s1 _ _ ha)
    refine iteT ⟨_, rfl, _, rfl, _, rfl, a, ps, k + 1 + 1 + d.toks.length, _, [44], rfl, z_cm, ha2, g2, a, ps, k + 1 + 1 + d.toks.length + 1, d', _, rfl, ha2, hp, d3, hk.2, stopC_one (.inl rfl), by omega, fun t' u' H3 s3 ht' hu' => ?_⟩
    refine ⟨t', _, rfl, SqT.of ht', rfl, _, _, rfl, _, _, rfl, rfl, ?_⟩
    refine ⟨_, rfl, _, rfl, _, rfl, (by show 3 ≤ sizeLine; decide), fun p2 hp2 => ?_⟩
    have s4 := same_new hp2 (.tup [.str (mk wCom), u, u'])
    refine ⟨_, rfl, _, rfl, a, ps, k + 1 + 1 + d.toks.length + 1 + d'.toks.length, _, [41], rfl, z_rp, s4 _ _ (s3 _ _ ha2), g4, (by show 2 ≤ sizeLine; decide), fun r hr1 => ?_⟩
    have s5 := same_new hr1 (.tup [.ref p2, .int ((k + 1 + 1 + d.toks.length + 1 + d'.toks.length + 1 : Nat) : Int)])
    refine q r (.ref p2) _ (s1.trans (s2.trans (s3.trans (s4.trans s5)))) ?_ ⟨p2, u, u', rfl, ?_, (((hu.mono s2.tk).mono s3.tk).mono s4.tk).mono s5.tk, (hu'.mono s4.tk).mono s5.tk⟩
    · rw [upd_same]
      have e : (C.com d d').toks.length = 2 + d.toks.length + 1 + d'.toks.length + 1 := by show (wCom :: [40] :: (d.toks ++ [44] :: (d'.toks ++ [[41]]))).length = _; simp; omega
      rw [e, show k + (2 + d.toks.length + 1 + d'.toks.length + 1) = k + 1 + 1 + d.toks.length + 1 + d'.toks.length + 1 by omega]
    · rw [z_com]
      exact s5 _ _ upd_same
theorem head_brk {ps : List (List Nat)} {k : Nat} {rest : List (List Nat)} : ∀ {c : C}, c.wordy = false → c.atom = true → ps.drop k = c.toks ++ rest → ∃ x, ps[k]? = some x ∧ (x = [40] ∨ x = wLow ∨ x = wHigh ∨ x = wAs ∨ x = wCom)
  | .par d, _, _, h => ⟨_, (drop_get (r := d.toks ++ [[41]] ++ rest) h).1, .inl rfl⟩
  | .low d, _, _, h => ⟨_, (drop_get (r := [40] :: (d.toks ++ [[41]]) ++ rest) h).1, .inr (.inl rfl)⟩
  | .high d, _, _, h => ⟨_, (drop_get (r := [40] :: (d.toks ++ [[41]]) ++ rest) h).1, .inr (.inr (.inl rfl))⟩
  | .as d e, _, _, h => ⟨_, (drop_get (r := [40] :: (d.toks ++ [44] :: (e.toks ++ [[41]])) ++ rest) h).1, .inr (.inr (.inr (.inl rfl)))⟩
  | .com d e, _, _, h => ⟨_, (drop_get (r := [40] :: (d.toks ++ [44] :: (e.toks ++ [[41]])) ++ rest) h).1, .inr (.inr (.inr (.inr rfl)))⟩
theorem inV_5 (x : List Nat) : inV (.str (mk x)) [.str "(", .str "low", .str "high", .str "as", .str "com"] = (decide (x = [40]) || (decide (x = wLow) || (decide (x = wHigh) || (decide (x = wAs) || (decide (x = wCom) || false))))) := by
  rw [inV_cons _ _ _ z_lp, inV_cons _ _ _ z_low, inV_cons _ _ _ z_high, inV_cons _ _ _ z_as, inV_cons _ _ _ z_com]
  rfl
theorem word_free : ∀ {c : C}, c.wordy = true → c.ok → inV (.str (mk c.txt)) [.str "(", .str "low", .str "high", .str "as", .str "com"] = false
  | .one, _, _ => by rw [inV_5]; decide
  | .move n, _, _ => by
    have h : ∀ x : Nat, ∀ y : List Nat, x ≠ 109 → decide ((C.move n).txt = x :: y) = false := fun x y hx => decide_eq_false fun e => by
      have e2 : 109 :: figs n = x :: y := e
      injection e2 with e2 _
      exact hx e2.symm
    rw [inV_5, h _ _ (by decide), h _ _ (by decide), h _ _ (by decide), h _ _ (by decide), h _ _ (by decide)]
    rfl
  | .name x, _, hk => by
    obtain ⟨h1, _, _, h4⟩ := okName_al (w := x.cps.toList) hk
    unfold taken at h4
    simp only [Bool.or_eq_false_iff] at h4
    have hp : ¬ (C.name x).txt = [40] := fun e => by
      have e2 : x.cps.toList = [40] := e
      rw [e2] at h1
      exact absurd (h1 40 List.mem_cons_self) (by decide)
    have hq : ∀ y : List Nat, (x.cps.toList == y) = false → ¬ (C.name x).txt = y := fun y hy e => by
      have e2 : x.cps.toList = y := e
      rw [e2] at hy
      simp at hy
    rw [inV_5, decide_eq_false hp, decide_eq_false (hq _ h4.1.1.1.2), decide_eq_false (hq _ h4.1.1.2), decide_eq_false (hq _ h4.1.2), decide_eq_false (hq _ h4.2)]
    rfl
theorem post_head (p : Post) : ∃ c r, p.tok = c :: r ∧ (c = 126 ∨ c = 94) := by
  cases p with
  | til => exact ⟨126, [], rfl, .inl rfl⟩
  | pw n => exact ⟨94, _, rfl, .inr rfl⟩
theorem tc_in (c : Nat) : decide (c ∈ (Str.ofString "~^").cps.toList) = (decide (c = 126) || decide (c = 94)) := by
  rw [z_tc]
  show decide (c ∈ [126, 94]) = _
  rw [Bool.eq_iff_iff]
  simp
theorem ok_part {n : Nat} (B : Blt mg) (F : Fun K "part" "part" s_part f fd) (c_word_of : Cal P w K mg base 2 "word_of" P_word_of spWordOf) (c_bracket : Cal P w K mg base (n + 3) "bracket" P_bracket (spBracket n)) : FnOk P w K mg base CX0 (n + 4) f fd P_part (spPart (n + 1)) := by
  have nd := sc_part.nd
  refine F.ok sc_part (fun vs H Q E h => ?_) (fun cdv A outer s H vs Q E hr h => ?_)
  · obtain ⟨a, ps, k, c, rest, rfl, _⟩ := h; rfl
  obtain ⟨a, ps, k, c, rest, rfl, ha, hp, hd, hk, hi, hst, hn, q⟩ := h
  have L_word_of : 2 ≤ n + 3 := by omega
  have L_bracket : n + 3 ≤ n + 3 := Nat.le_refl _
  obtain ⟨ck, ca, cn, cp⟩ := C.core_ok hk hi
  have ct := C.core_toks c
  have ce := C.core_ex c
  generalize hc0 : (C.core c).1 = c0 at ck ca cn cp ct ce
  generalize hpo : (C.core c).2 = po at ck ca cn cp ct ce
  refine ⟨_, (pss_cons (ps_if (pt_cmpR op_eq (pv 1) (pe_callB call_len_seq (by rfl) B.len PySem.boot_len (pa_cons (pv 0) pa_nil)) (nomark _))
        (pss_one ps_never)
        pss_nil)
      (Evl.pss_cut (ps_if (pt_cmpR op_in_seq (pe_ix ix_list (pv 0) (pv 1) (fun _ _ => rfl)) (pe_tup (pa_cons pe_str (pa_cons pe_str (pa_cons pe_str (pa_cons pe_str (pa_cons pe_str pa_nil)))))) (by rfl))
        (pss_one (ps_asg (pe_cal c_bracket (hr.mono L_bracket) (by rfl) (pa_cons (pv 0) (pa_cons (pv 1) pa_nil))) (pg_tup rfl (pgs_cons (pg_name (i := 2) nd rfl (Or.inl rfl)) (pgs_cons (pg_name (i := 1) nd rfl (Or.inl rfl)) pgs_nil)))))
        (pss_cons (ps_set (i := 2) nd rfl (Or.inl rfl) (pe_cal c_word_of (hr.mono L_word_of) (by rfl) (pa_cons (pe_ix ix_list (pv 0) (pv 1) (fun _ _ => rfl)) pa_nil)))
        (pss_one (ps_set (i := 1) nd rfl (Or.inl rfl) (pe_op op_add (pv 1) pe_int)))))
      (pss_cons (ps_while PassesOwn.never (PW.pt (pw_and (pt_cmpR op_lt (pv 1) (pe_callB call_len_seq (by rfl) B.len PySem.boot_len (pa_cons (pv 0) pa_nil)) (nomark _)) (pw_and1 (pt_cmpR op_in_sign (pe_ix ix_str (pe_ix ix_list (pv 0) (pv 1) (fun _ _ => rfl)) pe_int (fun _ _ => rfl)) pe_str (by rfl)))))
        (pss_cons (ps_if (pt_cmpR op_eq (pe_ix ix_list (pv 0) (pv 1) (fun _ _ => rfl)) pe_str (nomark _))
          (pss_one (ps_set (i := 2) nd rfl (Or.inl rfl) (pe_tup (pa_cons pe_str (pa_cons (pv 2) pa_nil)))))
          (pss_one (ps_set (i := 2) nd rfl (Or.inl rfl) (pe_tup (pa_cons pe_str (pa_cons (pv 2) (pa_cons (pe_callTy call_int_str (by rfl) B.int bl_int (pa_cons (pe_slice sl_str (pe_ix ix_list (pv 0) (pv 1) (fun _ _ => rfl)) (po_some pe_int) po_none) pa_nil)) pa_nil)))))))
        (pss_one (ps_set (i := 1) nd rfl (Or.inl rfl) (pe_op op_add (pv 1) pe_int)))))
      (pss_one (ps_ret (pe_tup (pa_cons (pv 2) (pa_cons (pv 1) pa_nil)))))))), ?_⟩
  have hd0 : ps.drop k = c0.toks ++ (po.map Post.tok ++ rest) := by rw [hd, ct, List.append_assoc]
  have first : ∃ x, ps[k]? = some x := by
    rcases C.atom_cases ca with h | ⟨h1, h2⟩
    · rw [C.wordy_toks h] at hd0
      exact ⟨_, (drop_get hd0).1⟩
    · obtain ⟨x, hx, _⟩ := head_brk h1 h2 hd0
      exact ⟨x, hx⟩
  obtain ⟨x, hx⟩ := first
  have hkl := (List.getElem?_eq_some_iff.mp hx).1
  refine ⟨_, rfl, _, rfl, a, _, rfl, .inl (SqL.of ha), rfl, _, rfl, ?_⟩
  rw [Hw.dec_int, pvs_len, decide_eq_false (by omega)]
  refine iteF ⟨fun σ' H' => ∃ u, σ' = [some (.ref a), some (.int ((k + c0.toks.length : Nat) : Int)), some u] ∧ Same H H' ∧ IsE H' u c0.ex, ?_, ?_⟩
  · refine ⟨_, rfl, _, rfl, a, pvs ps, (k : Int), _, rfl, rfl, SqL.of ha, pvs_get hx, (by show 5 ≤ sizeLine; decide), fun p hp1 => ?_⟩
    have s1 := same_new hp1 (.tup [.str "(", .str "low", .str "high", .str "as", .str "com"])
    refine ⟨p, _, rfl, .inr (SqT.of upd_same), rfl, rfl, _, rfl, ?_⟩
    rcases C.atom_cases ca with h | ⟨h1, h2⟩
    · have ht := C.wordy_toks h
      rw [ht] at hd0
      have hx2 := (drop_get hd0).1
      rw [hx] at hx2
      cases hx2
      have hf := word_free h ck
      have hlen : c0.txt.length ≤ 1000 := hp.2 _ (List.mem_of_getElem? hx)
      show if (if false = true then !inV (V.str (mk c0.txt)) _ else inV (V.str (mk c0.txt)) _) = true then _ else _
      rw [if_neg (show ¬ (false = true) by decide), hf]
      refine iteF ⟨_, rfl, _, rfl, a, pvs ps, (k : Int), _, rfl, rfl, SqL.of (s1 _ _ ha), pvs_get hx, c0, rfl, h, ck, hlen, fun r H2 s2 hr2 => ?_⟩
      refine ⟨_, rfl, _, _, rfl, rfl, r, ?_, s1.trans s2, hr2⟩
      rw [ht]; rfl
    · obtain ⟨y, hy, hcase⟩ := head_brk h1 h2 hd0
      rw [hx] at hy
      cases hy
      show if (if false = true then !inV (V.str (mk x)) _ else inV (V.str (mk x)) _) = true then _ else _
      have hT : inV (V.str (mk x)) [.str "(", .str "low", .str "high", .str "as", .str "com"] = true := by
        rw [inV_5]
        rcases hcase with rfl | rfl | rfl | rfl | rfl <;> decide
      rw [if_neg (show ¬ (false = true) by decide), hT]
      refine iteT ⟨_, rfl, _, rfl, a, ps, k, c0, _, rfl, s1 _ _ ha, hp, hd0, ck, h1, h2, by omega, fun t u H2 s2 ht hu => ?_⟩
      exact ⟨t, _, rfl, SqT.of ht, rfl, _, _, rfl, _, _, rfl, rfl, u, rfl, s1.trans s2, hu⟩
  · rintro σ' H' ⟨u, rfl, s1, hu⟩
    have hd1 := drop_app hd0
    have hlen2 : c0.toks.length + po.length = c.toks.length := by rw [ct]; simp
    refine ⟨fun m σ2 H2 => ∃ (done todo : List Post) (v : V), po = done ++ todo ∧ σ2 = [some (.ref a), some (.int ((k + c0.toks.length + done.length : Nat) : Int)), some v] ∧ Same H H2 ∧ IsE H2 v (done.foldl Post.ex c0.ex) ∧ ps.drop (k + c0.toks.length + done.length) = todo.map Post.tok ++ rest ∧ m = todo.length,
      ⟨_, [], po, u, rfl, rfl, s1, hu, hd1, rfl⟩, ?_⟩
    rintro m σ2 H2 ⟨done, todo, v, hpd, rfl, s2, hv, hdr, rfl⟩
    have ha2 := s2 _ _ ha
    refine ⟨_, rfl, _, rfl, a, _, rfl, .inl (SqL.of ha2), _, _, rfl, rfl, _, rfl, ?_⟩
    rw [pvs_len]
    have out : todo = [] → ∀ (D : Ends), D.rt = Q → tRet (tTup (tCons (tVar 2) (tCons (tVar 1) tNil))) D [some (.ref a), some (.int ((k + c0.toks.length + done.length : Nat) : Int)), some v] H2 := fun e D hD => by
      subst e
      rw [List.append_nil] at hpd
      refine ⟨_, rfl, _, rfl, (by show 2 ≤ sizeLine; decide), fun t ht => ?_⟩
      rw [hD]
      refine q t v _ (s2.trans (same_new ht _)) ?_ ?_
      · rw [upd_same, ← hlen2, hpd, Nat.add_assoc]
      · rw [ce, hpd]; exact hv.mono (tk_new ht _)
    cases todo with
    | nil =>
      cases rest with
      | nil =>
        have hz : ps.length ≤ k + c0.toks.length + done.length := List.drop_eq_nil_iff.mp hdr
        rw [decide_eq_false (by omega)]
        exact iteF (iteF (out rfl _ rfl))
      | cons x' rest' =>
        obtain ⟨c', r', rfl, n1, n2⟩ := hst x' rfl
        obtain ⟨g, _, hlt⟩ := drop_get (x := c' :: r') (r := rest') hdr
        have hz : (mk (c' :: r')).length ≤ sizeLine := by rw [mk_len]; exact line1000 (Nat.le_trans (hp.2 _ (List.mem_of_getElem? g)) (by decide))
        rw [decide_eq_true (by omega)]
        refine iteT ⟨_, rfl, _, rfl, a, pvs ps, _, _, rfl, rfl, SqL.of ha2, pvs_get g, mk (c' :: r'), 0, c', rfl, rfl, hz, atI_nat (j := 0) rfl, c', _, rfl, rfl, _, rfl, ?_⟩
        rw [tc_in, decide_eq_false n1, decide_eq_false n2]
        exact iteF (out rfl _ rfl)
    | cons pst todo =>
      obtain ⟨g, hdr2, hlt⟩ := drop_get (x := pst.tok) (r := todo.map Post.tok ++ rest) hdr
      have hm : pst ∈ po := by rw [hpd]; exact List.mem_append_right _ List.mem_cons_self
      have hpk := cp pst hm
      obtain ⟨c', r', ec, hc'⟩ := post_head pst
      have hz : (mk (c' :: r')).length ≤ sizeLine := by rw [mk_len, ← ec]; exact line1000 (Nat.le_trans (hp.2 _ (List.mem_of_getElem? g)) (by decide))
      rw [decide_eq_true (by omega)]
      have g' := g
      rw [ec] at g'
      refine iteT ⟨_, rfl, _, rfl, a, pvs ps, _, _, rfl, rfl, SqL.of ha2, pvs_get g', mk (c' :: r'), 0, c', rfl, rfl, hz, atI_nat (j := 0) rfl, c', _, rfl, rfl, _, rfl, ?_⟩
      have hin : (decide (c' = 126) || decide (c' = 94)) = true := by rcases hc' with rfl | rfl <;> decide
      rw [tc_in, hin]
      refine iteT ⟨fun σ3 H3 => ∃ m', m' < (pst :: todo).length ∧ ∃ (done todo : List Post) (v : V), po = done ++ todo ∧ σ3 = [some (.ref a), some (.int ((k + c0.toks.length + done.length : Nat) : Int)), some v] ∧ Same H H3 ∧ IsE H3 v (done.foldl Post.ex c0.ex) ∧ ps.drop (k + c0.toks.length + done.length) = todo.map Post.tok ++ rest ∧ m' = todo.length, fun _ _ z => z, ?_⟩
      refine ⟨_, rfl, _, rfl, a, pvs ps, _, _, rfl, rfl, SqL.of ha2, pvs_get g, rfl, _, rfl, ?_⟩
      rw [lit_of _ _ z_ti]
      have next : ∀ (r : V) (H3 : Hp), Same H2 H3 → IsE H3 r (pst.ex (done.foldl Post.ex c0.ex)) → ∃ m', m' < (pst :: todo).length ∧ ∃ (done' todo' : List Post) (v' : V), po = done' ++ todo' ∧ [some (.ref a), some (.int (((k + c0.toks.length + done.length : Nat) : Int) + 1)), some r] = [some (.ref a), some (.int ((k + c0.toks.length + done'.length : Nat) : Int)), some v'] ∧ Same H H3 ∧ IsE H3 v' (done'.foldl Post.ex c0.ex) ∧ ps.drop (k + c0.toks.length + done'.length) = todo'.map Post.tok ++ rest ∧ m' = todo'.length := fun r H3 s3 hr3 => by
        refine ⟨todo.length, by simp, done ++ [pst], todo, r, by rw [hpd]; simp, ?_, s2.trans s3, ?_, ?_, rfl⟩
        · have e : (((k + c0.toks.length + done.length : Nat) : Int) + 1) = ((k + c0.toks.length + (done ++ [pst]).length : Nat) : Int) := by simp; omega
          rw [e]
        · rw [List.foldl_append]; exact hr3
        · rw [← hdr2]; congr 1; simp; omega
      cases pst with
      | til =>
        rw [decide_eq_true (show Post.til.tok = [126] from rfl)]
        refine iteT ⟨_, rfl, (by show 2 ≤ sizeLine; decide), fun t ht => ?_⟩
        exact ⟨_, rfl, _, _, rfl, rfl, next (.ref t) _ (same_new ht _) ⟨t, v, rfl, upd_same, hv.mono (tk_new ht _)⟩⟩
      | pw i =>
        have e1 : decide ((Post.pw i).tok = [126]) = false := decide_eq_false fun e => by
          have e2 : 94 :: figI i = [126] := e
          injection e2 with e2 _
          cases e2
        rw [e1]
        have hi9 : -9 ≤ i ∧ i ≤ 9 := hpk
        have hc2 : cutS (mk (94 :: figI i)) (some 1) none = mk (figI i) := cut_from (94 :: figI i) 1
        have hl3 : (mk (94 :: figI i)).length ≤ sizeLine := by rw [mk_len]; exact line1000 (Nat.le_trans (hp.2 _ (List.mem_of_getElem? g)) (by decide))
        have hfl := ints_length i
        refine iteF ⟨_, rfl, _, rfl, _, rfl, a, pvs ps, _, _, rfl, rfl, SqL.of ha2, pvs_get g, _, rfl, mk (94 :: figI i), rfl, hl3, mk (figI i), i, (by first | (rw [hc2]; done) | (rw [hc2]; rfl)), int_ints i hi9.1 hi9.2, by rw [mk_len]; omega, (by show 3 ≤ sizeLine; decide), fun t ht => ?_⟩
        exact ⟨_, rfl, _, _, rfl, rfl, next (.ref t) _ (same_new ht _) ⟨t, v, rfl, upd_same, hv.mono (tk_new ht _)⟩⟩
theorem toks_head {c : C} (hk : c.ok) (hi : c.item = true) (r : List (List Nat)) : ∃ x y, c.toks ++ r = x :: y ∧ (∃ a b, x = a :: b ∧ a ≠ 126 ∧ a ≠ 94) ∧ x ≠ [41] ∧ x ≠ [44] := by
  obtain ⟨ck, ca, cn, cp⟩ := C.core_ok hk hi
  rw [C.core_toks c]
  generalize (C.core c).1 = c0 at ck ca
  generalize (C.core c).2.map Post.tok = z
  match c0, ck, ca with
  | .one, _, _ => exact ⟨wOne, z ++ r, rfl, ⟨_, _, rfl, by decide, by decide⟩, by decide, by decide⟩
  | .move m, _, _ => exact ⟨109 :: figs m, z ++ r, rfl, ⟨_, _, rfl, by decide, by decide⟩, (fun e => by injection e with e _; cases e), (fun e => by injection e with e _; cases e)⟩
  | .name x, hk, _ =>
    obtain ⟨h1, h2, h3, h4⟩ := okName_al (w := x.cps.toList) hk
    cases hx : x.cps.toList with
    | nil => exact absurd hx h2
    | cons a b =>
      rw [hx] at h1
      have ha := h1 a List.mem_cons_self
      have ha2 : 97 ≤ a ∧ a ≤ 122 := by
        unfold isSmall at ha
        simpa using ha
      refine ⟨x.cps.toList, z ++ r, rfl, ⟨a, b, hx, ?_, ?_⟩, ?_, ?_⟩
      · intro e; subst e; exact absurd ha2.2 (by decide)
      · intro e; subst e; exact absurd ha2.1 (by decide)
      · rw [hx]; intro e; injection e with e _; subst e; exact absurd ha2.1 (by decide)
      · rw [hx]; intro e; injection e with e _; subst e; exact absurd ha2.1 (by decide)
  | .par d, _, _ => exact ⟨[40], _, rfl, ⟨_, _, rfl, by decide, by decide⟩, by decide, by decide⟩
  | .low d, _, _ => exact ⟨wLow, _, rfl, ⟨_, _, rfl, by decide, by decide⟩, by decide, by decide⟩
  | .high d, _, _ => exact ⟨wHigh, _, rfl, ⟨_, _, rfl, by decide, by decide⟩, by decide, by decide⟩
  | .as d e, _, _ => exact ⟨wAs, _, rfl, ⟨_, _, rfl, by decide, by decide⟩, by decide, by decide⟩
  | .com d e, _, _ => exact ⟨wCom, _, rfl, ⟨_, _, rfl, by decide, by decide⟩, by decide, by decide⟩
theorem stopP_more {ds : List C} {rest : List (List Nat)} (hds : ∀ d ∈ ds, d.ok ∧ d.item = true) (hs : stopC rest) : stopP ((ds.map C.toks).flatten ++ rest) := by
  cases ds with
  | nil => exact hs.p
  | cons d ds =>
    obtain ⟨h1, h2⟩ := hds d List.mem_cons_self
    obtain ⟨x, y, e, ⟨a, b, ex, n1, n2⟩, _, _⟩ := toks_head h1 h2 ((ds.map C.toks).flatten ++ rest)
    have e2 : ((d :: ds).map C.toks).flatten ++ rest = x :: y := by rw [← e]; simp
    rw [e2]
    intro z hz
    have ez : x = z := by simpa using hz
    exact ⟨a, b, ez ▸ ex, n1, n2⟩
theorem inV_2 (x : List Nat) : inV (.str (mk x)) [.str ",", .str ")"] = (decide (x = [44]) || (decide (x = [41]) || false)) := by
  rw [inV_cons _ _ _ z_cm, inV_cons _ _ _ z_rp]
  rfl
theorem ok_chain {n : Nat} (B : Blt mg) (F : Fun K "chain" "chain" s_chain f fd) (c_part : Cal P w K mg base (n + 3) "part" P_part (spPart n)) : FnOk P w K mg base CX0 (n + 4) f fd P_chain (spChain (n + 1)) := by
  have nd := sc_chain.nd
  refine F.ok sc_chain (fun vs H Q E h => ?_) (fun cdv A outer s H vs Q E hr h => ?_)
  · obtain ⟨a, ps, k, c, rest, rfl, _⟩ := h; rfl
  obtain ⟨a, ps, k, c, rest, rfl, ha, hp, hd, hk, hst, hn, q⟩ := h
  have L_part : n + 3 ≤ n + 3 := Nat.le_refl _
  obtain ⟨⟨ck, ci, cn⟩, cd⟩ := C.parts_ok hk
  have ct := C.parts_toks c
  have ce := C.parts_ex c
  generalize hc0 : (C.parts c).1 = c0 at ck ci cn ct ce
  generalize hpo : (C.parts c).2 = ds at cd ct ce
  refine ⟨_, (pss_cons (ps_asg (pe_cal c_part (hr.mono L_part) (by rfl) (pa_cons (pv 0) (pa_cons (pv 1) pa_nil))) (pg_tup rfl (pgs_cons (pg_name (i := 2) nd rfl (Or.inl rfl)) (pgs_cons (pg_name (i := 1) nd rfl (Or.inl rfl)) pgs_nil))))
      (pss_cons (ps_while PassesOwn.never (PW.pt (pw_and (pt_cmpR op_lt (pv 1) (pe_callB call_len_seq (by rfl) B.len PySem.boot_len (pa_cons (pv 0) pa_nil)) (nomark _)) (pw_and1 (pt_cmpR op_notIn_seq (pe_ix ix_list (pv 0) (pv 1) (fun _ _ => rfl)) (pe_tup (pa_cons pe_str (pa_cons pe_str pa_nil))) (by rfl)))))
        (pss_cons (ps_asg (pe_cal c_part (hr.mono L_part) (by rfl) (pa_cons (pv 0) (pa_cons (pv 1) pa_nil))) (pg_tup rfl (pgs_cons (pg_name (i := 3) nd rfl (Or.inl rfl)) (pgs_cons (pg_name (i := 1) nd rfl (Or.inl rfl)) pgs_nil))))
        (pss_one (ps_set (i := 2) nd rfl (Or.inl rfl) (pe_tup (pa_cons pe_str (pa_cons (pv 2) (pa_cons (pv 3) pa_nil))))))))
      (pss_one (ps_ret (pe_tup (pa_cons (pv 2) (pa_cons (pv 1) pa_nil))))))), ?_⟩
  have hd0 : ps.drop k = c0.toks ++ ((ds.map C.toks).flatten ++ rest) := by rw [hd, ct, List.append_assoc]
  refine ⟨_, rfl, _, rfl, a, ps, k, c0, _, rfl, ha, hp, hd0, ck, ci, stopP_more (fun d hm => ⟨(cd d hm).1, (cd d hm).2.1⟩) hst, by omega, fun t u H1 s1 ht hu => ?_⟩
  refine ⟨t, _, rfl, SqT.of ht, rfl, _, _, rfl, _, _, rfl, rfl, ?_⟩
  have hd1 := drop_app hd0
  refine ⟨fun m σ2 H2 => ∃ (done todo : List C) (v : V) (o : Option V) (k' : Nat), ds = done ++ todo ∧ σ2 = [some (.ref a), some (.int (k' : Int)), some v, o] ∧ Same H H2 ∧ IsE H2 v (done.foldl (fun e d => .thn e d.ex) c0.ex) ∧ ps.drop k' = (todo.map C.toks).flatten ++ rest ∧ k' + (todo.map C.toks).flatten.length = k + c.toks.length ∧ m = todo.length,
    ⟨_, [], ds, u, none, _, rfl, rfl, s1, hu, hd1, by rw [ct, List.length_append]; omega, rfl⟩, ?_⟩
  rintro m σ2 H2 ⟨done, todo, v, o, k', hpd, rfl, s2, hv, hdr, hkk, rfl⟩
  have ha2 := s2 _ _ ha
  refine ⟨_, rfl, _, rfl, a, _, rfl, .inl (SqL.of ha2), _, _, rfl, rfl, _, rfl, ?_⟩
  rw [pvs_len]
  have out : todo = [] → ∀ (D : Ends) (H3 : Hp), D.rt = Q → Same H2 H3 → tRet (tTup (tCons (tVar 2) (tCons (tVar 1) tNil))) D [some (.ref a), some (.int (k' : Int)), some v, o] H3 := fun e D H3 hD s3 => by
    subst e
    rw [List.append_nil] at hpd
    refine ⟨_, rfl, _, rfl, (by show 2 ≤ sizeLine; decide), fun t ht => ?_⟩
    rw [hD]
    refine q t v _ ((s2.trans s3).trans (same_new ht _)) ?_ ?_
    · have : k' = k + c.toks.length := by simpa using hkk
      rw [upd_same, this]
    · rw [ce, hpd]; exact (hv.mono s3.tk).mono (tk_new ht _)
  cases todo with
  | nil =>
    cases rest with
    | nil =>
      have hz : ps.length ≤ k' := List.drop_eq_nil_iff.mp hdr
      rw [decide_eq_false (by omega)]
      exact iteF (iteF (out rfl _ _ rfl (Same.refl _)))
    | cons x' rest' =>
      have hx' := hst x' rfl
      obtain ⟨g, _, hlt⟩ := drop_get (x := x') (r := rest') hdr
      rw [decide_eq_true (by omega)]
      refine iteT ⟨_, rfl, _, rfl, a, pvs ps, _, _, rfl, rfl, SqL.of ha2, pvs_get g, (by show 2 ≤ sizeLine; decide), fun p hp1 => ?_⟩
      refine ⟨p, _, rfl, .inr (SqT.of upd_same), rfl, rfl, _, rfl, ?_⟩
      show if (if true = true then !inV (V.str (mk x')) _ else inV (V.str (mk x')) _) = true then _ else _
      have hT : inV (V.str (mk x')) [.str ",", .str ")"] = true := by rw [inV_2]; rcases hx' with rfl | rfl <;> decide
      rw [if_pos rfl, hT]
      exact iteF (out rfl _ _ rfl (same_new hp1 _))
  | cons d todo =>
    have hm : d ∈ ds := by rw [hpd]; exact List.mem_append_right _ List.mem_cons_self
    obtain ⟨dk, di, dn⟩ := cd d hm
    have hdr2 : ps.drop k' = d.toks ++ ((todo.map C.toks).flatten ++ rest) := by rw [hdr]; simp
    obtain ⟨x, y, exy, _, n1, n2⟩ := toks_head dk di ((todo.map C.toks).flatten ++ rest)
    obtain ⟨g, _, hlt⟩ := drop_get (hdr2.trans exy)
    rw [decide_eq_true (by omega)]
    refine iteT ⟨_, rfl, _, rfl, a, pvs ps, _, _, rfl, rfl, SqL.of ha2, pvs_get g, (by show 2 ≤ sizeLine; decide), fun p hp1 => ?_⟩
    have s3 := same_new hp1 (.tup [.str ",", .str ")"])
    refine ⟨p, _, rfl, .inr (SqT.of upd_same), rfl, rfl, _, rfl, ?_⟩
    show if (if true = true then !inV (V.str (mk x)) _ else inV (V.str (mk x)) _) = true then _ else _
    have hF : inV (V.str (mk x)) [.str ",", .str ")"] = false := by rw [inV_2, decide_eq_false n1, decide_eq_false n2]; rfl
    rw [if_pos rfl, hF]
    refine iteT ⟨fun σ3 H3 => ∃ m', m' < (d :: todo).length ∧ ∃ (done todo : List C) (v : V) (o : Option V) (k' : Nat), ds = done ++ todo ∧ σ3 = [some (.ref a), some (.int (k' : Int)), some v, o] ∧ Same H H3 ∧ IsE H3 v (done.foldl (fun e d => .thn e d.ex) c0.ex) ∧ ps.drop k' = (todo.map C.toks).flatten ++ rest ∧ k' + (todo.map C.toks).flatten.length = k + c.toks.length ∧ m' = todo.length, fun _ _ z => z, ?_⟩
    have hmore : ∀ d' ∈ todo, d'.ok ∧ d'.item = true := fun d' hd' => by
      have := cd d' (by rw [hpd]; exact List.mem_append_right _ (List.mem_cons_of_mem _ hd'))
      exact ⟨this.1, this.2.1⟩
    refine ⟨_, rfl, _, rfl, a, ps, k', d, _, rfl, s3 _ _ ha2, hp, hdr2, dk, di, stopP_more hmore hst, by omega, fun t' u' H3 s4 ht' hu' => ?_⟩
    refine ⟨t', _, rfl, SqT.of ht', rfl, _, _, rfl, _, _, rfl, rfl, ?_⟩
    refine ⟨_, rfl, _, rfl, (by show 3 ≤ sizeLine; decide), fun r hr1 => ?_⟩
    have s5 := same_new hr1 (.tup [.str "then", v, u'])
    refine ⟨todo.length, by simp, done ++ [d], todo, .ref r, some u', k' + d.toks.length, by rw [hpd]; simp, rfl, s2.trans (s3.trans (s4.trans s5)), ?_, drop_app hdr2, ?_, rfl⟩
    · rw [List.foldl_append]
      exact ⟨r, v, u', rfl, upd_same, ((hv.mono s3.tk).mono s4.tk).mono s5.tk, hu'.mono s5.tk⟩
    · rw [← hkk]; simp; omega
/-- all three, each depth -/
theorem cal_reads (B : Blt mg) (D1 : DefAt K mg "bracket" s_bracket P_bracket) (D2 : DefAt K mg "part" s_part P_part) (D3 : DefAt K mg "chain" s_chain P_chain) (c_past : Cal P w K mg base 1 "past" P_past spPast) (c_word_of : Cal P w K mg base 2 "word_of" P_word_of spWordOf) :
    ∀ n, Cal P w K mg base (n + 3) "bracket" P_bracket (spBracket n) ∧ Cal P w K mg base (n + 3) "part" P_part (spPart n) ∧ Cal P w K mg base (n + 3) "chain" P_chain (spChain n)
  | 0 => ⟨D1.cal fun _ _ _ => FnOk.none fun vs H Q E h => by obtain ⟨_, _, _, _, _, _, _, _, _, _, _, _, h, _⟩ := h; omega,
      D2.cal fun _ _ _ => FnOk.none fun vs H Q E h => by obtain ⟨_, _, _, _, _, _, _, _, _, _, _, _, h, _⟩ := h; omega,
      D3.cal fun _ _ _ => FnOk.none fun vs H Q E h => by obtain ⟨_, _, _, _, _, _, _, _, _, _, _, h, _⟩ := h; omega⟩
  | n + 1 =>
    have ih := cal_reads B D1 D2 D3 c_past c_word_of n
    ⟨D1.cal fun _ _ F => ok_bracket F c_past ih.2.2, D2.cal fun _ _ F => ok_part B F c_word_of ih.1, D3.cal fun _ _ F => ok_chain B F ih.2.1⟩

abbrev s_read_expr : Stmt := top 20
abbrev N_read_expr : List Str := ["text", "pieces", "expr", "at"]
abbrev P_read_expr : List Str := ["text"]
theorem sc_read_expr : FnScope N_read_expr P_read_expr (defScope s_read_expr) := ⟨rfl, rfl, rfl, by decide +kernel, rfl, by decide +kernel, by decide +kernel⟩
def spReadExpr : Sp := fun vs H Q _ => ∃ (l : List Nat) (c : C), vs = [.str (mk l)] ∧ Pc l c.toks ∧ c.ok ∧ l.length ≤ 1000 ∧ c.nest ≤ 11 ∧ ∀ r H', Same H H' → IsE H' r c.ex → Q r H'
theorem ok_read_expr (B : Blt mg) (F : Fun K "read_expr" "read_expr" s_read_expr f fd) (c_pieces_of : Cal P w K mg base 3 "pieces_of" P_pieces_of spPiecesOf) (c_chain : Cal P w K mg base 39 "chain" P_chain (spChain 36)) : FnOk P w K mg base CX0 40 f fd P_read_expr spReadExpr := by
  have nd := sc_read_expr.nd
  refine F.ok sc_read_expr (fun vs H Q E h => ?_) (fun cdv A outer s H vs Q E hr h => ?_)
  · obtain ⟨l, c, rfl, _⟩ := h; rfl
  obtain ⟨l, c, rfl, hpc, hk, hl, hn, q⟩ := h
  have L_pieces_of : 3 ≤ 39 := by decide
  have L_chain : 39 ≤ 39 := by decide
  refine ⟨_, (pss_cons (ps_set (i := 1) nd rfl (Or.inl rfl) (pe_cal c_pieces_of (hr.mono L_pieces_of) (by rfl) (pa_cons (pv 0) pa_nil)))
      (pss_cons (ps_asg (pe_cal c_chain (hr.mono L_chain) (by rfl) (pa_cons (pv 1) (pa_cons pe_int pa_nil))) (pg_tup rfl (pgs_cons (pg_name (i := 2) nd rfl (Or.inl rfl)) (pgs_cons (pg_name (i := 3) nd rfl (Or.inl rfl)) pgs_nil))))
      (pss_cons (ps_if (pt_cmpR op_lt (pv 3) (pe_callB call_len_seq (by rfl) B.len PySem.boot_len (pa_cons (pv 1) pa_nil)) (nomark _))
        (pss_one ps_never)
        pss_nil)
      (pss_one (ps_ret (pv 2)))))), ?_⟩
  obtain ⟨hl1, hl2⟩ := pc_len hpc
  refine ⟨_, rfl, l, c.toks, rfl, hl, hpc, fun p H1 s1 hpn hp1 => ?_⟩
  have hps : PsOk c.toks := ⟨by omega, fun x hx => by have := hl2 x hx; omega⟩
  refine ⟨_, rfl, p, c.toks, 0, c, [], rfl, hp1, hps, by simp, hk, fun x hx => by simp at hx, by omega, fun t u H2 s2 ht hu => ?_⟩
  refine ⟨t, _, rfl, SqT.of ht, rfl, _, _, rfl, _, _, rfl, rfl, ?_⟩
  refine ⟨_, rfl, _, rfl, p, _, rfl, .inl (SqL.of (s2 _ _ hp1)), _, _, rfl, rfl, _, rfl, ?_⟩
  rw [pvs_len, decide_eq_false (by omega)]
  exact iteF ⟨_, rfl, q u H2 (s1.trans s2) hu⟩
theorem cal_read_expr (B : Blt mg) (D : DefAt K mg "read_expr" s_read_expr P_read_expr) (c_pieces_of : Cal P w K mg base 3 "pieces_of" P_pieces_of spPiecesOf) (c_chain : Cal P w K mg base 39 "chain" P_chain (spChain 36)) : Cal P w K mg base 40 "read_expr" P_read_expr spReadExpr :=
  D.cal fun _ _ F => ok_read_expr B F c_pieces_of c_chain
end
end Hw
set_option maxHeartbeats 1000000
/-! Halvewright: what an expression weighs and does. -/
namespace Hw
open PySem L2

inductive Tag where
  | one
  | move
  | name
  | back
  | power
  | low
  | high
  | thn
  | as
  | com
deriving DecidableEq
def Tag.s : Tag → Str
  | one => "one"
  | move => "move"
  | name => "name"
  | back => "back"
  | power => "power"
  | low => "low"
  | high => "high"
  | thn => "then"
  | as => "as"
  | com => "com"
theorem Tag.eq (t u : Tag) : decide (V.str t.s = V.str u.s) = decide (t = u) := by
  rw [Hw.dec_str]
  cases t <;> cases u <;> decide +kernel
def Tag.isBin : Tag → Bool
  | thn => true
  | as => true
  | com => true
  | _ => false
def Tag.isUn : Tag → Bool
  | back => true
  | power => true
  | low => true
  | high => true
  | _ => false
theorem Tag.bin (t : Tag) : inV (.str t.s) [.str "then", .str "as", .str "com"] = t.isBin := by cases t <;> decide +kernel
theorem Tag.un (t : Tag) : inV (.str t.s) [.str "back", .str "power", .str "low", .str "high"] = t.isUn := by cases t <;> decide +kernel
theorem Tag.half (t : Tag) : inV (.str t.s) [.str "low", .str "high"] = (decide (t = .low) || decide (t = .high)) := by cases t <;> decide +kernel
theorem Tag.asc (t : Tag) : inV (.str t.s) [.str "as", .str "com"] = (decide (t = .as) || decide (t = .com)) := by cases t <;> decide +kernel
namespace Ex
def tag : Ex → Tag
  | one => .one
  | move _ => .move
  | name _ => .name
  | back _ => .back
  | power _ _ => .power
  | low _ => .low
  | high _ => .high
  | thn _ _ => .thn
  | as _ _ => .as
  | com _ _ => .com
abbrev kind (e : Ex) : Str := e.tag.s
abbrev isBin (e : Ex) : Bool := e.tag.isBin
abbrev isUn (e : Ex) : Bool := e.tag.isUn
def kids : Ex → List Ex
  | one => []
  | move _ => []
  | name _ => []
  | back e => [e]
  | power e _ => [e]
  | low e => [e]
  | high e => [e]
  | thn e f => [e, f]
  | as e f => [e, f]
  | com e f => [e, f]
theorem kids_len (e : Ex) : e.kids.length ≤ 2 := by cases e <;> simp [kids]
theorem kid_deep : ∀ {e k : Ex}, k ∈ e.kids → k.deep < e.deep
  | back e, k, h => by rw [List.mem_singleton.mp h]; exact Nat.lt_succ_self _
  | power e _, k, h => by rw [List.mem_singleton.mp h]; exact Nat.lt_succ_self _
  | low e, k, h => by rw [List.mem_singleton.mp h]; exact Nat.lt_succ_self _
  | high e, k, h => by rw [List.mem_singleton.mp h]; exact Nat.lt_succ_self _
  | thn e f, k, h => by
    show k.deep < max e.deep f.deep + 1
    rcases List.mem_cons.mp h with rfl | h
    · omega
    · rw [List.mem_singleton.mp h]; omega
  | as e f, k, h => by
    show k.deep < max e.deep f.deep + 1
    rcases List.mem_cons.mp h with rfl | h
    · omega
    · rw [List.mem_singleton.mp h]; omega
  | com e f, k, h => by
    show k.deep < max e.deep f.deep + 1
    rcases List.mem_cons.mp h with rfl | h
    · omega
    · rw [List.mem_singleton.mp h]; omega
theorem kid_names {p : Str → Prop} : ∀ {e k : Ex}, k ∈ e.kids → e.NamesIn p → k.NamesIn p
  | back e, k, h, q => by rw [List.mem_singleton.mp h]; exact q
  | power e _, k, h, q => by rw [List.mem_singleton.mp h]; exact q
  | low e, k, h, q => by rw [List.mem_singleton.mp h]; exact q
  | high e, k, h, q => by rw [List.mem_singleton.mp h]; exact q
  | thn e f, k, h, q => by
    rcases List.mem_cons.mp h with rfl | h
    · exact q.1
    · rw [List.mem_singleton.mp h]; exact q.2
  | as e f, k, h, q => by
    rcases List.mem_cons.mp h with rfl | h
    · exact q.1
    · rw [List.mem_singleton.mp h]; exact q.2
  | com e f, k, h, q => by
    rcases List.mem_cons.mp h with rfl | h
    · exact q.1
    · rw [List.mem_singleton.mp h]; exact q.2
theorem kid_small : ∀ {e k : Ex}, k ∈ e.kids → e.Small → k.Small
  | back e, k, h, q => by rw [List.mem_singleton.mp h]; exact q
  | power e _, k, h, q => by rw [List.mem_singleton.mp h]; exact q.1
  | low e, k, h, q => by rw [List.mem_singleton.mp h]; exact q
  | high e, k, h, q => by rw [List.mem_singleton.mp h]; exact q
  | thn e f, k, h, q => by
    rcases List.mem_cons.mp h with rfl | h
    · exact q.1
    · rw [List.mem_singleton.mp h]; exact q.2
  | as e f, k, h, q => by
    rcases List.mem_cons.mp h with rfl | h
    · exact q.1
    · rw [List.mem_singleton.mp h]; exact q.2
  | com e f, k, h, q => by
    rcases List.mem_cons.mp h with rfl | h
    · exact q.1
    · rw [List.mem_singleton.mp h]; exact q.2
theorem kid_wt {wn : Str → Nat} : ∀ {e k : Ex}, k ∈ e.kids → k.wt wn ≤ e.wt wn
  | back e, k, h => by rw [List.mem_singleton.mp h]; exact Nat.le_refl _
  | power e n, k, h => by rw [List.mem_singleton.mp h]; exact Nat.le_mul_of_pos_right _ (by omega)
  | low e, k, h => by rw [List.mem_singleton.mp h]; exact Nat.le_succ _
  | high e, k, h => by rw [List.mem_singleton.mp h]; exact Nat.le_succ _
  | thn e f, k, h => by
    show k.wt wn ≤ e.wt wn + f.wt wn
    rcases List.mem_cons.mp h with rfl | h
    · omega
    · rw [List.mem_singleton.mp h]; omega
  | as e f, k, h => by
    show k.wt wn ≤ e.wt wn + 2 * f.wt wn
    rcases List.mem_cons.mp h with rfl | h
    · omega
    · rw [List.mem_singleton.mp h]; omega
  | com e f, k, h => by
    show k.wt wn ≤ 2 * (e.wt wn + f.wt wn)
    rcases List.mem_cons.mp h with rfl | h
    · omega
    · rw [List.mem_singleton.mp h]; omega
theorem kind_bin (e : Ex) : inV (.str e.kind) [.str "then", .str "as", .str "com"] = e.isBin := e.tag.bin
theorem kind_un (e : Ex) : inV (.str e.kind) [.str "back", .str "power", .str "low", .str "high"] = e.isUn := e.tag.un
theorem kind_is (e : Ex) (t : Tag) : decide (V.str e.kind = V.str t.s) = decide (e.tag = t) := Tag.eq _ _
end Ex
theorem ft {p : Prop} (h : false = true) : p := nomatch h
theorem tf {p : Prop} (h : true = false) : p := nomatch h
/-- the tuple of an expression, opened -/
theorem IsE.opened {H : Hp} {v : V} : ∀ {e : Ex}, IsE H v e → ∃ a xs, v = .ref a ∧ H a = some (.tup (.str e.kind :: xs)) ∧
    (e.isBin = true → ∃ x y f g, xs = [x, y] ∧ e.kids = [f, g] ∧ IsE H x f ∧ IsE H y g) ∧ (e.isBin = false → e.isUn = true → ∃ x r f, xs = x :: r ∧ e.kids = [f] ∧ IsE H x f) ∧
    (e.isBin = false → e.isUn = false → e.kids = [])
  | .one, ⟨a, e, h⟩ => ⟨a, _, e, h, fun q => ft q, fun _ q => ft q, fun _ _ => rfl⟩
  | .move _, ⟨a, e, h⟩ => ⟨a, _, e, h, fun q => ft q, fun _ q => ft q, fun _ _ => rfl⟩
  | .name _, ⟨a, e, h⟩ => ⟨a, _, e, h, fun q => ft q, fun _ q => ft q, fun _ _ => rfl⟩
  | .back _, ⟨a, u, e, h, k⟩ => ⟨a, _, e, h, fun q => ft q, fun _ _ => ⟨_, _, _, rfl, rfl, k⟩, fun _ q => tf q⟩
  | .power _ _, ⟨a, u, e, h, k⟩ => ⟨a, _, e, h, fun q => ft q, fun _ _ => ⟨_, _, _, rfl, rfl, k⟩, fun _ q => tf q⟩
  | .low _, ⟨a, u, e, h, k⟩ => ⟨a, _, e, h, fun q => ft q, fun _ _ => ⟨_, _, _, rfl, rfl, k⟩, fun _ q => tf q⟩
  | .high _, ⟨a, u, e, h, k⟩ => ⟨a, _, e, h, fun q => ft q, fun _ _ => ⟨_, _, _, rfl, rfl, k⟩, fun _ q => tf q⟩
  | .thn _ _, ⟨a, u, x, e, h, k, k2⟩ => ⟨a, _, e, h, fun _ => ⟨_, _, _, _, rfl, rfl, k, k2⟩, fun q => tf q, fun q => tf q⟩
  | .as _ _, ⟨a, u, x, e, h, k, k2⟩ => ⟨a, _, e, h, fun _ => ⟨_, _, _, _, rfl, rfl, k, k2⟩, fun q => tf q, fun q => tf q⟩
  | .com _ _, ⟨a, u, x, e, h, k, k2⟩ => ⟨a, _, e, h, fun _ => ⟨_, _, _, _, rfl, rfl, k, k2⟩, fun q => tf q, fun q => tf q⟩
theorem paired_at {α β : Type} {F : α → β → Prop} : ∀ {xs : List α} {ys : List β}, Paired F xs ys → ∀ {i : Nat} {y : β}, ys[i]? = some y → ∃ x, xs[i]? = some x ∧ F x y
  | _, _, .cons h t, 0, y, e => by
    have e1 : _ = y := Option.some.inj e
    subst e1
    exact ⟨_, rfl, h⟩
  | _, _, .cons h t, i + 1, y, e => paired_at t (i := i) e
theorem paired_take {α β : Type} {F : α → β → Prop} : ∀ (k : Nat) {xs : List α} {ys : List β}, Paired F xs ys → Paired F (xs.take k) (ys.take k)
  | 0, _, _, _ => .nil
  | _ + 1, _, _, .nil => .nil
  | k + 1, _, _, .cons h t => .cons h (paired_take k t)
theorem free_of {H H' : Hp} {p : Addr} (s : Same H H') (h : H' p = none) : H p = none := by
  cases q : H p with
  | none => rfl
  | some o => rw [s p o q] at h; cases h
/-- a comprehension over a list that stands for another: each element in its turn -/
theorem lc_runP {α : Type} {K : PySem.W.Frag} {a D : Addr} {as : List α} {xs : List V} {j : Nat} {te : TE} {vs : List Nat} {σ : St} {H1 : Hp} {Qd : Hp → Prop} (A : α → V → Prop) (R : Hp → α → V → Prop) (mono : ∀ {H H' : Hp} {x : α} {y : V}, Tk H H' → R H x y → R H' x y)
    (hp : Paired A as xs) (hq : SqL K H1 a xs) (hD : H1 D = none) (hz : xs.length ≤ 10000) (hw : ∀ x, wipe ((wipe σ vs).set j (some x)) vs = wipe σ vs)
    (he : ∀ c x, c ∈ as → A c x → ∀ H', Same H1 H' → ∀ Q' : VK, (∀ y H'', Same H' H'' → R H'' c y → Q' y H'') → te ((wipe σ vs).set j (some x)) H' Q')
    (hd : ∀ H' ys, Same H1 H' → H' D = some (.lst ys) → Paired (R H') as ys → Qd H') :
    ∃ W : Nat → Nat → Hp → Prop, (∃ m, W 0 m (upd H1 D (.lst []))) ∧ ∀ i m H, W i m H →
      ((Itl K a).stop i H ∧ Qd H) ∨ ((Itl K a).go i H ∧ ∃ Nx : Hp → Prop, (∀ H', Nx H' → ∃ m', m' < m ∧ W (i + 1) m' H') ∧ ∀ x H', (Itl K a).yld i H x H' → (gName j) x (wipe σ vs) H' fun σ2 H2 => wipe σ2 vs = wipe σ vs ∧ tYes σ2 H2 fun b H3 =>
        if b = true then te σ2 H3 fun y H4 => ∃ acc, H4 D = some (.lst acc) ∧ acc.length < sizeLine ∧ Nx (upd H4 D (.lst (acc ++ [y]))) else Nx H3) := by
  have hl : as.length = xs.length := Paired.length hp
  refine lc_list (xs := xs) (fun i H' => Same H1 H' ∧ ∃ ys, H' D = some (.lst ys) ∧ Paired (R H') (as.take i) ys ∧ ys.length ≤ i) ?_ ?_ ?_ ?_
  · exact ⟨same_new hD _, [], upd_same, .nil, Nat.le_refl _⟩
  · exact fun i H' _ p => p.1.seq hq
  · intro i x H' hx p
    obtain ⟨s, ys, hys, hpp, hly⟩ := p
    have hi := (List.getElem?_eq_some_iff.mp hx).1
    obtain ⟨c, hc, hA⟩ := paired_at hp hx
    have hic := (List.getElem?_eq_some_iff.mp hc).1
    have e1 : as[i] = c := by
      rw [List.getElem?_eq_getElem hic] at hc
      exact Option.some.inj hc
    refine ⟨hw x, ?_⟩
    refine iteT (B := Same H1 H' ∧ ∃ ys, H' D = some (.lst ys) ∧ Paired (R H') (as.take (i + 1)) ys ∧ ys.length ≤ i + 1) ?_
    refine he c x (List.mem_of_getElem? hc) hA H' s _ fun y H4 s4 r => ?_
    have hn : H4 D = some (.lst ys) := s4 _ _ hys
    refine ⟨ys, hn, line1000' (by omega), (s.trans s4).ext hD, ys ++ [y], upd_same, ?_, by rw [List.length_append]; simp; omega⟩
    rw [List.take_succ_eq_append_getElem hic, e1]
    have up := tk_lst hn (.lst (ys ++ [y]))
    exact paired_append (paired_mono hpp fun u v q => mono up (mono s4.tk q)) (.cons (mono up r) .nil)
  · intro H' p
    obtain ⟨s, ys, hys, hpp, _⟩ := p
    rw [← hl, List.take_length] at hpp
    exact hd H' ys s hys hpp

/-! ### names and their maps -/
abbrev Rs := List (Str × M)
def rget : Rs → Str → Option M
  | [], _ => none
  | (y, m) :: r, x => if y = x then some m else rget r x
def IsNs (H : Hp) (d : Addr) (rs : Rs) : Prop := ∃ kvs : List (Key × V), H d = some (.dK kvs) ∧ Paired (fun r (kv : Key × V) => kv.1 = .inr r.1 ∧ IsM H kv.2 r.2) rs kvs
theorem ns_get {H : Hp} {x : Str} : ∀ {rs : Rs} {kvs : List (Key × V)}, Paired (fun r (kv : Key × V) => kv.1 = .inr r.1 ∧ IsM H kv.2 r.2) rs kvs →
    (∀ m, rget rs x = some m → ∃ v, valV kvs (.inr x) = some v ∧ IsM H v m) ∧ (rget rs x = none → valV kvs (.inr x) = none)
  | _, _, .nil => ⟨fun _ h => (nomatch h), fun _ => rfl⟩
  | (y, m) :: rs, kv :: kvs, .cons h t => by
    obtain ⟨h1, h2⟩ := h
    have ih := ns_get (x := x) t
    show (∀ m', (if y = x then some m else rget rs x) = some m' → _) ∧ ((if y = x then some m else rget rs x) = none → _)
    by_cases e : y = x
    · rw [if_pos e]
      refine ⟨fun m' hm => ?_, fun z => nomatch z⟩
      cases hm
      exact ⟨kv.2, valV_pos (by rw [h1, ← e]), h2⟩
    · rw [if_neg e, valV_neg (show ¬ kv.1 = Sum.inr x from fun z => e (by rw [h1] at z; injection z))]
      exact ih
theorem IsNs.same {H H' : Hp} {d : Addr} {rs : Rs} (h : IsNs H d rs) (s : Same H H') : IsNs H' d rs := by
  obtain ⟨kvs, h1, h2⟩ := h
  exact ⟨kvs, s _ _ h1, paired_mono h2 fun _ _ q => ⟨q.1, q.2.mono s.tk⟩⟩
/-- each name's map does what env says, and is no greater than wn says -/
def RsOk (env : Str → G) (wn : Str → Nat) (rs : Rs) : Prop := ∀ x m, rget rs x = some m → Does m (env x) ∧ m.1.leaves ≤ wn x + 1 ∧ wn x ≤ 60
def InRs (rs : Rs) (x : Str) : Prop := (rget rs x).isSome = true
theorem ns_has {H : Hp} {d : Addr} {rs : Rs} {x : Str} (h : IsNs H d rs) (hx : InRs rs x) : ∃ v m, DGet H d (.str x) (some v) ∧ rget rs x = some m ∧ IsM H v m := by
  obtain ⟨kvs, h1, h2⟩ := h
  obtain ⟨m, hm⟩ := Option.isSome_iff_exists.mp hx
  obtain ⟨v, e, iv⟩ := (ns_get h2).1 m hm
  refine ⟨v, m, ?_, hm, iv⟩
  rw [← e]
  exact DGet.k (k := .inr x) h1

section
variable {P : Program} {w : World} {K : PySem.W.Frag} {mg : Str → Option Value} {base : Heap} {f : Addr} {fd : FuncData}

abbrev s_parts_of : Stmt := top 46
abbrev N_parts_of : List Str := ["expr"]
abbrev P_parts_of : List Str := ["expr"]
theorem sc_parts_of : FnScope N_parts_of P_parts_of (defScope s_parts_of) := ⟨rfl, rfl, rfl, by decide +kernel, rfl, by decide +kernel, by decide +kernel⟩
def IsEs (H : Hp) (es : List Ex) (ys : List V) : Prop := Paired (fun e y => IsE H y e) es ys
def spPartsOf : Sp := fun vs H Q _ => ∃ v e, vs = [v] ∧ IsE H v e ∧ ∀ p H' ys, Same H H' → H p = none → H' p = some (.lst ys) → IsEs H' e.kids ys → Q (.ref p) H'
theorem ok_parts_of (B : Blt mg) (F : Fun K "parts_of" "parts_of" s_parts_of f fd) : FnOk P w K mg base CX0 1 f fd P_parts_of spPartsOf := by
  have nd := sc_parts_of.nd
  refine F.ok sc_parts_of (fun vs H Q E h => ?_) (fun cdv A outer s H vs Q E hr h => ?_)
  · obtain ⟨v, e, rfl, _⟩ := h; rfl
  obtain ⟨v, e, rfl, he, q⟩ := h
  refine ⟨_, (pss_cons (ps_if (pt_cmpR op_in_seq (pe_ix ix_tup (pv 0) pe_int (fun _ _ => rfl)) (pe_tup (pa_cons pe_str (pa_cons pe_str (pa_cons pe_str pa_nil)))) (by rfl))
        (pss_one (ps_ret (pe_lst (pa_cons (pe_ix ix_tup (pv 0) pe_int (fun _ _ => rfl)) (pa_cons (pe_ix ix_tup (pv 0) pe_int (fun _ _ => rfl)) pa_nil)))))
        pss_nil)
      (pss_cons (ps_if (pt_cmpR op_in_seq (pe_ix ix_tup (pv 0) pe_int (fun _ _ => rfl)) (pe_tup (pa_cons pe_str (pa_cons pe_str (pa_cons pe_str (pa_cons pe_str pa_nil))))) (by rfl))
        (pss_one (ps_ret (pe_lst (pa_cons (pe_ix ix_tup (pv 0) pe_int (fun _ _ => rfl)) pa_nil))))
        pss_nil)
      (pss_one (ps_ret (pe_lst pa_nil))))), ?_⟩
  obtain ⟨a, xs, rfl, ha, h1, h2, h3⟩ := he.opened
  refine ⟨_, rfl, a, _, _, .str e.kind, rfl, rfl, SqT.of ha, atI_nat (j := 0) rfl, (by show 3 ≤ sizeLine; decide), fun p hp => ?_⟩
  have s1 := same_new hp (.tup [.str "then", .str "as", .str "com"])
  refine ⟨p, _, rfl, .inr (SqT.of upd_same), rfl, rfl, _, rfl, ?_⟩
  show if (if false = true then !inV (V.str e.kind) _ else inV (V.str e.kind) _) = true then _ else _
  rw [if_neg (show ¬ (false = true) by decide), e.kind_bin]
  cases hb : e.isBin with
  | true =>
    obtain ⟨x, y, f', g, rfl, hk, hx, hy⟩ := h1 hb
    have ha1 := s1 _ _ ha
    refine iteT ⟨_, rfl, a, _, _, x, rfl, rfl, SqT.of ha1, rfl, _, rfl, a, _, _, y, rfl, rfl, SqT.of ha1, rfl, (by show 2 ≤ sizeLine; decide), fun r hr1 => ?_⟩
    have s2 := same_new hr1 (.lst [x, y])
    refine q r _ [x, y] (s1.trans s2) (free_of s1 hr1) upd_same ?_
    rw [hk]
    exact .cons ((hx.mono s1.tk).mono s2.tk) (.cons ((hy.mono s1.tk).mono s2.tk) .nil)
  | false =>
    refine iteF ⟨_, rfl, a, _, _, .str e.kind, rfl, rfl, SqT.of (s1 _ _ ha), atI_nat (j := 0) rfl, (by show 4 ≤ sizeLine; decide), fun p' hp' => ?_⟩
    have s2 := same_new hp' (.tup [.str "back", .str "power", .str "low", .str "high"])
    refine ⟨p', _, rfl, .inr (SqT.of upd_same), rfl, rfl, _, rfl, ?_⟩
    show if (if false = true then !inV (V.str e.kind) _ else inV (V.str e.kind) _) = true then _ else _
    rw [if_neg (show ¬ (false = true) by decide), e.kind_un]
    cases hu : e.isUn with
    | true =>
      obtain ⟨x, r, f', rfl, hk, hx⟩ := h2 hb hu
      refine iteT ⟨_, rfl, a, _, _, x, rfl, rfl, SqT.of (s2 _ _ (s1 _ _ ha)), atI_nat (j := 1) rfl, (by show 1 ≤ sizeLine; decide), fun r hr1 => ?_⟩
      have s3 := same_new hr1 (.lst [x])
      refine q r _ [x] (s1.trans (s2.trans s3)) (free_of (s1.trans s2) hr1) upd_same ?_
      rw [hk]
      exact .cons (((hx.mono s1.tk).mono s2.tk).mono s3.tk) .nil
    | false =>
      refine iteF ⟨(by show 0 ≤ sizeLine; decide), fun r hr1 => ?_⟩
      have s3 := same_new hr1 (.lst [])
      refine q r _ [] (s1.trans (s2.trans s3)) (free_of (s1.trans s2) hr1) upd_same ?_
      rw [h3 hb hu]
      exact .nil
theorem cal_parts_of (B : Blt mg) (D : DefAt K mg "parts_of" s_parts_of P_parts_of) : Cal P w K mg base 1 "parts_of" P_parts_of spPartsOf := D.cal fun _ _ F => ok_parts_of B F

abbrev s_lacking : Stmt := top 47
abbrev N_lacking : List Str := ["expr", "names", "part", "found"]
abbrev P_lacking : List Str := ["expr", "names"]
theorem sc_lacking : FnScope N_lacking P_lacking (defScope s_lacking) := ⟨rfl, rfl, rfl, by decide +kernel, rfl, by decide +kernel, by decide +kernel⟩
def spLacking (n : Nat) : Sp := fun vs H Q _ => ∃ v e d rs, vs = [v, .ref d] ∧ IsE H v e ∧ IsNs H d rs ∧ e.NamesIn (InRs rs) ∧ e.deep ≤ n ∧ ∀ H', Same H H' → Q .non H'
theorem ok_lacking {n : Nat} (B : Blt mg) (F : Fun K "lacking" "lacking" s_lacking f fd) (c_parts_of : Cal P w K mg base 1 "parts_of" P_parts_of spPartsOf) (c_lacking : Cal P w K mg base (n + 1) "lacking" P_lacking (spLacking n)) : FnOk P w K mg base CX0 (n + 2) f fd P_lacking (spLacking (n + 1)) := by
  have nd := sc_lacking.nd
  refine F.ok sc_lacking (fun vs H Q E h => ?_) (fun cdv A outer s H vs Q E hr h => ?_)
  · obtain ⟨v, e, d, rs, rfl, _⟩ := h; rfl
  obtain ⟨v, e, d, rs, rfl, he, hns, hin, hd, q⟩ := h
  have hu := hu_of hr
  have L_parts_of : 1 ≤ n + 1 := by omega
  have L_lacking : n + 1 ≤ n + 1 := Nat.le_refl _
  refine ⟨_, (pss_cons (ps_if (pt_cmpR op_eq (pe_ix ix_tup (pv 0) pe_int (fun _ _ => rfl)) pe_str (nomark _))
        (pss_one (ps_ret (pe_ifExp (pt_cmp (pc_din hu (pe_ix ix_tup (pv 0) pe_int (fun _ _ => rfl)) (pv 1))) pe_non (pe_ix ix_tup (pv 0) pe_int (fun _ _ => rfl)))))
        pss_nil)
      (pss_cons (ps_for PassesOwn.never rfl (pi_list (pe_cal c_parts_of (hr.mono L_parts_of) (by rfl) (pa_cons (pv 0) pa_nil))) (pg_name (i := 2) nd rfl (Or.inl rfl))
        (pss_cons (ps_set (i := 3) nd rfl (Or.inl rfl) (pe_cal c_lacking (hr.mono L_lacking) (by rfl) (pa_cons (pv 2) (pa_cons (pv 1) pa_nil))))
        (pss_one (ps_if (pt_cmp (pc_notN (pv 3)) rfl)
          (pss_one (ps_ret (pv 3)))
          pss_nil))))
      (pss_one (ps_ret pe_non)))), ?_⟩
  have he0 := he
  obtain ⟨a, xs, rfl, ha, _⟩ := he.opened
  refine ⟨_, rfl, a, _, _, .str e.kind, rfl, rfl, SqT.of ha, atI_nat (j := 0) rfl, rfl, _, rfl, ?_⟩
  rw [show V.str "name" = V.str Tag.name.s from rfl, e.kind_is]
  by_cases hn : e.tag = .name
  · rw [decide_eq_true hn]
    match e, hn, he0, hin, ha with
    | .name x, _, he0, hin, _ =>
    obtain ⟨a', e', ha'⟩ := he0
    cases e'
    obtain ⟨v, m, hg, _, _⟩ := ns_has hns hin
    refine iteT ⟨_, rfl, a, _, _, .str x, rfl, rfl, SqT.of ha', rfl, _, rfl, d, some v, rfl, hg, _, rfl, ?_⟩
    exact iteT (q H (Same.refl H))
  · rw [decide_eq_false hn]
    refine iteF ⟨_, rfl, .ref a, e, rfl, he0, fun p H1 ys s1 hp1 e1 hk => ?_⟩
    refine ⟨p, rfl, ⟨_, SqL.of e1⟩, ?_⟩
    refine for_list (xs := ys) (fun i σ' H' => (∃ x1 x2, σ' = [some (.ref a), some (.ref d), x1, x2]) ∧ Same H1 H') ⟨⟨_, _, rfl⟩, Same.refl _⟩ (fun i σ' H' _ p => SqL.of (p.2 _ _ e1)) ?_ ?_
    · intro i x σ' H' hx p
      obtain ⟨⟨x1, x2, rfl⟩, s2⟩ := p
      obtain ⟨c, hc, hx'⟩ := paired_at hk hx
      have hm := List.mem_of_getElem? hc
      refine ⟨_, rfl, _, rfl, x, c, d, rs, rfl, hx'.mono s2.tk, (hns.same s1).same s2, Ex.kid_names hm hin, by have := Ex.kid_deep hm; omega, fun H3 s3 => ?_⟩
      refine ⟨_, rfl, _, rfl, ?_⟩
      exact iteF ⟨⟨_, _, rfl⟩, s2.trans s3⟩
    · intro σ' H' p
      exact q H' (s1.trans p.2)
theorem cal_lacking (B : Blt mg) (D : DefAt K mg "lacking" s_lacking P_lacking) (c_parts_of : Cal P w K mg base 1 "parts_of" P_parts_of spPartsOf) : ∀ n, Cal P w K mg base (n + 1) "lacking" P_lacking (spLacking n)
  | 0 => D.cal fun _ _ _ => FnOk.none fun vs H Q E h => by
    obtain ⟨_, e, _, _, _, _, _, _, h, _⟩ := h
    have := e.deep_pos
    omega
  | n + 1 => D.cal fun _ _ F => ok_lacking B F c_parts_of (cal_lacking B D c_parts_of n)

/-! ### the weight -/
def iwt (wn : Str → Nat) (e : Ex) : V := .int ((e.wt wn : Nat) : Int)
theorem paired_eq {α β : Type} {g : α → β} : ∀ {xs : List α} {ys : List β}, Paired (fun x y => y = g x) xs ys → ys = xs.map g
  | _, _, .nil => rfl
  | _, _, .cons h t => by rw [h, paired_eq t]; rfl
/-- the names' weights, as a dictionary -/
def IsWs (H : Hp) (d : Addr) (wn : Str → Nat) (p : Str → Prop) : Prop := ∃ kvs : List (Key × V), H d = some (.dK kvs) ∧ ∀ x, p x → valV kvs (.inr x) = some (.int ((wn x : Nat) : Int))
theorem IsWs.same {H H' : Hp} {d : Addr} {wn : Str → Nat} {p : Str → Prop} (h : IsWs H d wn p) (s : Same H H') : IsWs H' d wn p := by
  obtain ⟨kvs, h1, h2⟩ := h
  exact ⟨kvs, s _ _ h1, h2⟩
abbrev s_weight : Stmt := top 48
abbrev N_weight : List Str := ["expr", "names", "kind", "weights", "part"]
abbrev P_weight : List Str := ["expr", "names"]
theorem sc_weight : FnScope N_weight P_weight (defScope s_weight) := ⟨rfl, rfl, rfl, by decide +kernel, rfl, by decide +kernel, by decide +kernel⟩
def spWeight (n : Nat) : Sp := fun vs H Q _ => ∃ v e d wn p, vs = [v, .ref d] ∧ IsE H v e ∧ IsWs H d wn p ∧ e.NamesIn p ∧ e.Small ∧ e.wt wn ≤ 1000 ∧ e.deep ≤ n ∧ ∀ H', Same H H' → Q (iwt wn e) H'
theorem max_abs {n : Int} : (if (if n < 0 then -n else n) > 1 then (if n < 0 then -n else n) else 1) = ((max 1 n.natAbs : Nat) : Int) := by
  by_cases h : n < 0
  · rw [if_pos h]; split <;> omega
  · rw [if_neg h]; split <;> omega
theorem ok_weight {n : Nat} (B : Blt mg) (F : Fun K "weight" "weight" s_weight f fd) (c_parts_of : Cal P w K mg base 1 "parts_of" P_parts_of spPartsOf) (c_weight : Cal P w K mg base (n + 1) "weight" P_weight (spWeight n)) : FnOk P w K mg base CX0 (n + 2) f fd P_weight (spWeight (n + 1)) := by
  have nd := sc_weight.nd
  refine F.ok sc_weight (fun vs H Q E h => ?_) (fun cdv A outer s H vs Q E hr h => ?_)
  · obtain ⟨v, e, d, wn, p, rfl, _⟩ := h; rfl
  obtain ⟨v, e, d, wn, p, rfl, he, hws, hin, hsm, hw, hd, q⟩ := h
  have hu := hu_of hr
  have L_parts_of : 1 ≤ n + 1 := by omega
  have L_weight : n + 1 ≤ n + 1 := Nat.le_refl _
  refine ⟨_, (pss_cons (ps_set (i := 2) nd rfl (Or.inl rfl) (pe_ix ix_tup (pv 0) pe_int (fun _ _ => rfl)))
      (pss_cons (ps_if (pt_cmpR op_eq (pv 2) pe_str (nomark _))
        (pss_one (ps_ret (pe_op op_add (pe_ix ix_tup (pv 0) pe_int (fun _ _ => rfl)) pe_int)))
        pss_nil)
      (pss_cons (ps_if (pt_cmpR op_eq (pv 2) pe_str (nomark _))
        (pss_one (ps_ret (pe_dget hu (pv 1) (pe_ix ix_tup (pv 0) pe_int (fun _ _ => rfl)) (fun _ _ => rfl))))
        pss_nil)
      (pss_cons (ps_setLc (i := 3) (own := [("part", 4)]) (g := (gName 4)) rfl nd rfl rfl (sw_true rfl rfl rfl (by decide +kernel)) (pi_list (pe_cal c_parts_of (hr.mono L_parts_of) (by rfl) (pa_cons (pv 0) pa_nil))) (blkOk_by (own := [("part", 4)]) (N := N_weight) (sc := defScope s_weight) (by decide +kernel)) (fun _ _ _ _ _ => pg_name (i := 4) nd rfl (Or.inl rfl)) (fun _ _ _ _ _ => pts_nil) (fun _ _ _ _ _ => (pe_cal c_weight (hr.mono L_weight) (by rfl) (pa_cons (pv 4) (pa_cons (pv 1) pa_nil)))))
      (pss_cons (ps_if (pt_cmpR op_eq (pv 2) pe_str (nomark _))
        (pss_one (ps_ret (pe_op op_mul (pe_ix ix_list (pv 3) pe_int (fun _ _ => rfl)) (pe_callB (call_max2 rfl) (by rfl) B.max bl_max (pa_cons pe_int (pa_cons (pe_callB call_abs (by rfl) B.abs bl_abs (pa_cons (pe_ix ix_tup (pv 0) pe_int (fun _ _ => rfl)) pa_nil)) pa_nil))))))
        pss_nil)
      (pss_cons (ps_if (pt_cmpR op_in_seq (pv 2) (pe_tup (pa_cons pe_str (pa_cons pe_str pa_nil))) (by rfl))
        (pss_one (ps_ret (pe_op op_add (pe_ix ix_list (pv 3) pe_int (fun _ _ => rfl)) pe_int)))
        pss_nil)
      (pss_cons (ps_if (pt_cmpR op_eq (pv 2) pe_str (nomark _))
        (pss_one (ps_ret (pe_op op_add (pe_ix ix_list (pv 3) pe_int (fun _ _ => rfl)) (pe_op op_mul pe_int (pe_ix ix_list (pv 3) pe_int (fun _ _ => rfl))))))
        pss_nil)
      (pss_cons (ps_if (pt_cmpR op_eq (pv 2) pe_str (nomark _))
        (pss_one (ps_ret (pe_op op_add (pe_op op_mul pe_int (pe_ix ix_list (pv 3) pe_int (fun _ _ => rfl))) (pe_op op_mul pe_int (pe_ix ix_list (pv 3) pe_int (fun _ _ => rfl))))))
        pss_nil)
      (pss_one (ps_ret (pe_callB (cr_sum rfl) (by rfl) B.sum bl_sum (pa_cons (pv 3) pa_nil)))))))))))), ?_⟩
  have he0 := he
  obtain ⟨a, xs, rfl, ha, hbin, hun, hno⟩ := he.opened
  refine ⟨_, rfl, a, _, _, .str e.kind, rfl, rfl, SqT.of ha, atI_nat (j := 0) rfl, ?_⟩
  refine ⟨_, rfl, rfl, _, rfl, ?_⟩
  rw [show V.str "move" = V.str Tag.move.s from rfl, e.kind_is]
  by_cases t1 : e.tag = .move
  · rw [decide_eq_true t1]
    match e, t1, he0, ha, q with
    | .move m, _, he0, _, q =>
    obtain ⟨a', e', ha'⟩ := he0
    cases e'
    refine iteT ⟨_, rfl, a, _, _, .int m, rfl, rfl, SqT.of ha', rfl, _, _, rfl, rfl, ?_⟩
    exact q H (Same.refl _)
  rw [decide_eq_false t1]
  refine iteF ⟨_, rfl, rfl, _, rfl, ?_⟩
  rw [show V.str "name" = V.str Tag.name.s from rfl, e.kind_is]
  by_cases t2 : e.tag = .name
  · rw [decide_eq_true t2]
    match e, t2, he0, ha, hin, q with
    | .name x, _, he0, _, hin, q =>
    obtain ⟨a', e', ha'⟩ := he0
    cases e'
    obtain ⟨kvs, h1, h2⟩ := hws
    refine iteT ⟨_, rfl, _, rfl, a, _, _, .str x, rfl, rfl, SqT.of ha', rfl, d, .int ((wn x : Nat) : Int), rfl, ?_, ?_⟩
    · rw [← h2 x hin]; exact DGet.k (k := .inr x) h1
    · exact q H (Same.refl _)
  rw [decide_eq_false t2]
  refine iteF ⟨_, rfl, .ref a, e, rfl, he0, fun p1 H1 ys s1 _ e1 hk => ?_⟩
  refine ⟨p1, rfl, ⟨_, SqL.of e1⟩, fun D hD => ?_⟩
  have hys : ys.length ≤ 10000 := by
    rw [← Paired.length hk]
    have := Ex.kids_len e
    omega
  refine lc_runP (j := 4) (as := e.kids) (fun k x => IsE H1 x k) (fun _ k y => y = iwt wn k) (fun _ h => h) hk (SqL.of e1) hD hys (fun x => rfl) ?_ ?_
  · intro c x hc hx H' s' Q' hq
    have hcw := Ex.kid_wt (wn := wn) hc
    have hcd := Ex.kid_deep hc
    exact ⟨_, rfl, _, rfl, x, c, d, wn, p, rfl, hx.mono s'.tk, (hws.same s1).same s', Ex.kid_names hc hin, Ex.kid_small hc hsm, by omega, by omega, fun H3 s3 => hq _ _ s3 rfl⟩
  intro H2 ys2 s2 e2 p2
  have ey := paired_eq p2
  subst ey
  have ha2 := s2 _ _ (s1 _ _ ha)
  have fin : ∀ z H', Same H2 H' → z = iwt wn e → Q z H' := fun z H' s3 hz => by rw [hz]; exact q H' (s1.trans (s2.trans s3))
  refine ⟨_, rfl, rfl, _, rfl, ?_⟩
  rw [show V.str "power" = V.str Tag.power.s from rfl, e.kind_is]
  by_cases t3 : e.tag = .power
  · rw [decide_eq_true t3]
    match e, t3, he0, ha, hsm, hw, e2, fin with
    | .power g m, _, he0, _, hsm, hw, e2, fin =>
    obtain ⟨a', u, e', ha', _⟩ := he0
    cases e'
    have ha2' := s2 _ _ (s1 _ _ ha')
    have hgw : g.wt wn ≤ 1000 := Nat.le_trans (Ex.kid_wt (e := .power g m) List.mem_cons_self) hw
    refine iteT ⟨_, rfl, D, _, _, _, rfl, rfl, SqL.of e2, rfl, _, rfl, a, _, _, _, rfl, rfl, SqT.of ha2', rfl, m, rfl, _, _, rfl, _, _, rfl, rfl, .inl ⟨by omega, by omega⟩, ?_⟩
    refine fin _ H2 (Same.refl _) ?_
    show V.int (((g.wt wn : Nat) : Int) * (if (if m < 0 then -m else m) > 1 then (if m < 0 then -m else m) else 1)) = _
    rw [max_abs]
    rfl
  rw [decide_eq_false t3]
  refine iteF ⟨_, rfl, (by show 2 ≤ sizeLine; decide), fun p3 hp3 => ?_⟩
  have s3 := same_new hp3 (.tup [.str "low", .str "high"])
  refine ⟨p3, _, rfl, .inr (SqT.of upd_same), rfl, rfl, _, rfl, ?_⟩
  show if (if false = true then !inV (V.str e.kind) _ else inV (V.str e.kind) _) = true then _ else _
  rw [if_neg (show ¬ (false = true) by decide), e.tag.half]
  have e3 := s3 _ _ e2
  by_cases t4 : (decide (e.tag = .low) || decide (e.tag = .high)) = true
  · rw [t4]
    refine iteT ?_
    match e, t4, e3, fin with
    | .low g, _, e3, fin =>
      exact ⟨_, rfl, D, _, _, _, rfl, rfl, SqL.of e3, rfl, _, _, rfl, rfl, fin _ _ s3 rfl⟩
    | .high g, _, e3, fin =>
      exact ⟨_, rfl, D, _, _, _, rfl, rfl, SqL.of e3, rfl, _, _, rfl, rfl, fin _ _ s3 rfl⟩
  rw [Bool.eq_false_iff.mpr t4]
  refine iteF ⟨_, rfl, rfl, _, rfl, ?_⟩
  rw [show V.str "as" = V.str Tag.as.s from rfl, e.kind_is]
  by_cases t5 : e.tag = .as
  · rw [decide_eq_true t5]
    match e, t5, e3, fin with
    | .as g g', _, e3, fin =>
    refine iteT ⟨_, rfl, D, _, _, _, rfl, rfl, SqL.of e3, rfl, _, rfl, D, _, _, _, rfl, rfl, SqL.of e3, rfl, _, _, rfl, rfl, .inl ⟨by decide, by decide⟩, _, _, rfl, rfl, fin _ _ s3 ?_⟩
    show V.int (((g.wt wn : Nat) : Int) + 2 * ((g'.wt wn : Nat) : Int)) = V.int ((g.wt wn + 2 * g'.wt wn : Nat) : Int)
    congr 1
  rw [decide_eq_false t5]
  refine iteF ⟨_, rfl, rfl, _, rfl, ?_⟩
  rw [show V.str "com" = V.str Tag.com.s from rfl, e.kind_is]
  by_cases t6 : e.tag = .com
  · rw [decide_eq_true t6]
    match e, t6, e3, fin with
    | .com g g', _, e3, fin =>
    refine iteT ⟨_, rfl, D, _, _, _, rfl, rfl, SqL.of e3, rfl, _, _, rfl, rfl, .inl ⟨by decide, by decide⟩, _, rfl, D, _, _, _, rfl, rfl, SqL.of e3, rfl, _, _, rfl, rfl, .inl ⟨by decide, by decide⟩, _, _, rfl, rfl, fin _ _ s3 ?_⟩
    show V.int (2 * ((g.wt wn : Nat) : Int) + 2 * ((g'.wt wn : Nat) : Int)) = V.int ((2 * (g.wt wn + g'.wt wn) : Nat) : Int)
    congr 1
    omega
  rw [decide_eq_false t6]
  refine iteF ⟨_, rfl, D, e.kids.map fun k => ((k.wt wn : Nat) : Int), rfl, ?_, fin _ _ s3 ?_⟩
  · rw [List.map_map]; exact SqL.of e3
  · match e, t1, t2, t3, t4, t5, t6 with
    | .one, _, _, _, _, _, _ => rfl
    | .back g, _, _, _, _, _, _ => show V.int (((g.wt wn : Nat) : Int) + 0) = _; rw [Int.add_zero]; rfl
    | .thn g g', _, _, _, _, _, _ =>
      show V.int (((g.wt wn : Nat) : Int) + (((g'.wt wn : Nat) : Int) + 0)) = V.int ((g.wt wn + g'.wt wn : Nat) : Int)
      rw [Int.add_zero]; rfl
    | .move _, t1, _, _, _, _, _ => exact absurd rfl t1
    | .name _, _, t2, _, _, _, _ => exact absurd rfl t2
    | .power _ _, _, _, t3, _, _, _ => exact absurd rfl t3
    | .low _, _, _, _, t4, _, _ => exact absurd rfl t4
    | .high _, _, _, _, t4, _, _ => exact absurd rfl t4
    | .as _ _, _, _, _, _, t5, _ => exact absurd rfl t5
    | .com _ _, _, _, _, _, _, t6 => exact absurd rfl t6
theorem cal_weight (B : Blt mg) (D : DefAt K mg "weight" s_weight P_weight) (c_parts_of : Cal P w K mg base 1 "parts_of" P_parts_of spPartsOf) : ∀ n, Cal P w K mg base (n + 1) "weight" P_weight (spWeight n)
  | 0 => D.cal fun _ _ _ => FnOk.none fun vs H Q E h => by
    obtain ⟨_, e, _, _, _, _, _, _, _, _, _, h, _⟩ := h
    have := e.deep_pos
    omega
  | n + 1 => D.cal fun _ _ F => ok_weight B F c_parts_of (cal_weight B D c_parts_of n)

/-! ### what it does -/
inductive J where
  | thn
  | as
  | com
def J.s : J → Str
  | thn => "then"
  | as => "as"
  | com => "com"
def J.op (x y : G) : J → G
  | thn => x * y
  | as => G.as x y
  | com => G.com x y
def J.cost (a b : Nat) : J → Nat
  | thn => a + b
  | as => a + 2 * b
  | com => 2 * (a + b)
abbrev s_joined : Stmt := top 49
abbrev N_joined : List Str := ["kind", "one", "other"]
abbrev P_joined : List Str := ["kind", "one", "other"]
theorem sc_joined : FnScope N_joined P_joined (defScope s_joined) := ⟨rfl, rfl, rfl, by decide +kernel, rfl, by decide +kernel, by decide +kernel⟩
def spJoined : Sp := fun vs H Q _ => ∃ (j : J) (v u : V) (f g : M) (x y : G) (a b : Nat), vs = [.str j.s, v, u] ∧ IsM H v f ∧ IsM H u g ∧ Does f x ∧ Does g y ∧ f.1.leaves ≤ a + 1 ∧ g.1.leaves ≤ b + 1 ∧ j.cost a b ≤ 60 ∧
  ∀ r m H', Same H H' → IsM H' r m → Does m (j.op x y) → m.1.leaves ≤ j.cost a b + 1 → Q r H'
theorem ok_joined (F : Fun K "joined" "joined" s_joined f fd) (c_then : Cal P w K mg base 73 "then" P_then spThen) (c_back : Cal P w K mg base 73 "back" P_back spBack) : FnOk P w K mg base CX0 74 f fd P_joined spJoined := by
  have nd := sc_joined.nd
  refine F.ok sc_joined (fun vs H Q E h => ?_) (fun cdv A outer s H vs Q E hr h => ?_)
  · obtain ⟨j, v, u, f, g, x, y, a, b, rfl, _⟩ := h; rfl
  obtain ⟨j, v, u, f, g, x, y, a, b, rfl, hf, hg, df, dg, lf, lg, hc, q⟩ := h
  have L_then : 73 ≤ 73 := Nat.le_refl _
  have L_back : 73 ≤ 73 := Nat.le_refl _
  refine ⟨_, (pss_cons (ps_if (pt_cmpR op_eq (pv 0) pe_str (nomark _))
        (pss_one (ps_ret (pe_cal c_then (hr.mono L_then) (by rfl) (pa_cons (pv 1) (pa_cons (pv 2) pa_nil)))))
        pss_nil)
      (pss_cons (ps_if (pt_cmpR op_eq (pv 0) pe_str (nomark _))
        (pss_one (ps_ret (pe_cal c_then (hr.mono L_then) (by rfl) (pa_cons (pe_cal c_then (hr.mono L_then) (by rfl) (pa_cons (pe_cal c_back (hr.mono L_back) (by rfl) (pa_cons (pv 2) pa_nil)) (pa_cons (pv 1) pa_nil))) (pa_cons (pv 2) pa_nil)))))
        pss_nil)
      (pss_one (ps_ret (pe_cal c_then (hr.mono L_then) (by rfl) (pa_cons (pe_cal c_then (hr.mono L_then) (by rfl) (pa_cons (pv 1) (pa_cons (pv 2) pa_nil))) (pa_cons (pe_cal c_then (hr.mono L_then) (by rfl) (pa_cons (pe_cal c_back (hr.mono L_back) (by rfl) (pa_cons (pv 1) pa_nil)) (pa_cons (pe_cal c_back (hr.mono L_back) (by rfl) (pa_cons (pv 2) pa_nil)) pa_nil))) pa_nil))))))), ?_⟩
  refine ⟨_, rfl, rfl, _, rfl, ?_⟩
  match j, hc, q with
  | .thn, hc, q =>
    have hc' : a + b ≤ 60 := hc
    rw [show decide (V.str J.thn.s = V.str (Str.ofString "then")) = true from Tag.eq .thn .thn]
    refine iteT ⟨_, rfl, _, rfl, v, u, f, g, x, y, rfl, hf, hg, df, dg, by omega, fun r m H1 s1 hm dm hl => ?_⟩
    exact q r m H1 s1 hm dm (by show m.1.leaves ≤ a + b + 1; omega)
  | .as, hc, q =>
    have hc' : a + 2 * b ≤ 60 := hc
    rw [show decide (V.str J.as.s = V.str (Str.ofString "then")) = false from Tag.eq .as .thn]
    refine iteF ⟨_, rfl, rfl, _, rfl, ?_⟩
    rw [show decide (V.str J.as.s = V.str (Str.ofString "as")) = true from Tag.eq .as .as]
    refine iteT ⟨_, rfl, u, g, y, rfl, hg, dg, by omega, fun r1 m1 H1 s1 hm1 dm1 hl1 => ?_⟩
    refine ⟨_, rfl, r1, v, m1, f, _, _, rfl, hm1, hf.mono s1.tk, dm1, df, by omega, fun r2 m2 H2 s2 hm2 dm2 hl2 => ?_⟩
    refine ⟨_, rfl, r2, u, m2, g, _, _, rfl, hm2, (hg.mono s1.tk).mono s2.tk, dm2, dg, by omega, fun r3 m3 H3 s3 hm3 dm3 hl3 => ?_⟩
    exact q r3 m3 H3 (s1.trans (s2.trans s3)) hm3 dm3 (by show m3.1.leaves ≤ a + 2 * b + 1; omega)
  | .com, hc, q =>
    have hc' : 2 * (a + b) ≤ 60 := hc
    rw [show decide (V.str J.com.s = V.str (Str.ofString "then")) = false from Tag.eq .com .thn]
    refine iteF ⟨_, rfl, rfl, _, rfl, ?_⟩
    rw [show decide (V.str J.com.s = V.str (Str.ofString "as")) = false from Tag.eq .com .as]
    refine iteF ⟨_, rfl, _, rfl, v, u, f, g, x, y, rfl, hf, hg, df, dg, by omega, fun r1 m1 H1 s1 hm1 dm1 hl1 => ?_⟩
    refine ⟨_, rfl, v, f, x, rfl, hf.mono s1.tk, df, by omega, fun r2 m2 H2 s2 hm2 dm2 hl2 => ?_⟩
    refine ⟨_, rfl, u, g, y, rfl, (hg.mono s1.tk).mono s2.tk, dg, by omega, fun r3 m3 H3 s3 hm3 dm3 hl3 => ?_⟩
    refine ⟨r2, r3, m2, m3, _, _, rfl, hm2.mono s3.tk, hm3, dm2, dm3, by omega, fun r4 m4 H4 s4 hm4 dm4 hl4 => ?_⟩
    refine ⟨r1, r4, m1, m4, _, _, rfl, ((hm1.mono s2.tk).mono s3.tk).mono s4.tk, hm4, dm1, dm4, by omega, fun r5 m5 H5 s5 hm5 dm5 hl5 => ?_⟩
    exact q r5 m5 H5 (s1.trans (s2.trans (s3.trans (s4.trans s5)))) hm5 dm5 (by show m5.1.leaves ≤ 2 * (a + b) + 1; omega)
theorem cal_joined (D : DefAt K mg "joined" s_joined P_joined) (c_then : Cal P w K mg base 73 "then" P_then spThen) (c_back : Cal P w K mg base 73 "back" P_back spBack) : Cal P w K mg base 74 "joined" P_joined spJoined := D.cal fun _ _ F => ok_joined F c_then c_back

theorem Ex.of_one {e : Ex} (h : e.tag = .one) : e = .one := by cases e <;> first | rfl | (simp [Ex.tag] at h)
theorem Ex.of_move {e : Ex} (h : e.tag = .move) : ∃ n, e = .move n := by cases e <;> first | exact ⟨_, rfl⟩ | (simp [Ex.tag] at h)
theorem Ex.of_name {e : Ex} (h : e.tag = .name) : ∃ x, e = .name x := by cases e <;> first | exact ⟨_, rfl⟩ | (simp [Ex.tag] at h)
theorem Ex.of_back {e : Ex} (h : e.tag = .back) : ∃ g, e = .back g := by cases e <;> first | exact ⟨_, rfl⟩ | (simp [Ex.tag] at h)
theorem Ex.of_power {e : Ex} (h : e.tag = .power) : ∃ g n, e = .power g n := by cases e <;> first | exact ⟨_, _, rfl⟩ | (simp [Ex.tag] at h)
theorem Ex.of_low {e : Ex} (h : e.tag = .low) : ∃ g, e = .low g := by cases e <;> first | exact ⟨_, rfl⟩ | (simp [Ex.tag] at h)
theorem Ex.of_high {e : Ex} (h : e.tag = .high) : ∃ g, e = .high g := by cases e <;> first | exact ⟨_, rfl⟩ | (simp [Ex.tag] at h)
theorem Ex.joins {e : Ex} (t0 : e.tag ≠ .one) (t1 : e.tag ≠ .move) (t2 : e.tag ≠ .name) (t3 : e.tag ≠ .back) (t4 : e.tag ≠ .power) (t5 : e.tag ≠ .low) (t6 : e.tag ≠ .high) :
    ∃ (j : J) (g g' : Ex), e.kids = [g, g'] ∧ e.kind = j.s ∧ (∀ env, e.S env = j.op (g.S env) (g'.S env)) ∧ ∀ wn, e.wt wn = j.cost (g.wt wn) (g'.wt wn) := by
  cases e with
  | one => exact absurd rfl t0
  | move _ => exact absurd rfl t1
  | name _ => exact absurd rfl t2
  | back _ => exact absurd rfl t3
  | power _ _ => exact absurd rfl t4
  | low _ => exact absurd rfl t5
  | high _ => exact absurd rfl t6
  | thn g g' => exact ⟨.thn, g, g', rfl, rfl, fun _ => rfl, fun _ => rfl⟩
  | as g g' => exact ⟨.as, g, g', rfl, rfl, fun _ => rfl, fun _ => rfl⟩
  | com g g' => exact ⟨.com, g, g', rfl, rfl, fun _ => rfl, fun _ => rfl⟩
theorem paired_1 {α β : Type} {F : α → β → Prop} {a : α} {ys : List β} (h : Paired F [a] ys) : ∃ y, ys = [y] ∧ F a y := by
  cases h with
  | cons h t => cases t with | nil => exact ⟨_, rfl, h⟩
theorem paired_2 {α β : Type} {F : α → β → Prop} {a b : α} {ys : List β} (h : Paired F [a, b] ys) : ∃ y z, ys = [y, z] ∧ F a y ∧ F b z := by
  cases h with
  | cons h t => cases t with | cons h2 t => cases t with | nil => exact ⟨_, _, rfl, h, h2⟩
abbrev s_value : Stmt := top 50
abbrev N_value : List Str := ["expr", "names", "kind", "maps", "part"]
abbrev P_value : List Str := ["expr", "names"]
theorem sc_value : FnScope N_value P_value (defScope s_value) := ⟨rfl, rfl, rfl, by decide +kernel, rfl, by decide +kernel, by decide +kernel⟩
def spValue (n : Nat) : Sp := fun vs H Q _ => ∃ v e d rs env wn, vs = [v, .ref d] ∧ IsE H v e ∧ IsNs H d rs ∧ RsOk env wn rs ∧ e.NamesIn (InRs rs) ∧ e.Small ∧ e.wt wn ≤ 60 ∧ e.deep ≤ n ∧
  ∀ r m H', Same H H' → IsM H' r m → Does m (e.S env) → m.1.leaves ≤ e.wt wn + 1 → Q r H'
theorem ok_value {n : Nat} (B : Blt mg) (F : Fun K "value" "value" s_value f fd) (c_parts_of : Cal P w K mg base 1 "parts_of" P_parts_of spPartsOf) (c_value : Cal P w K mg base (n + 75) "value" P_value (spValue n))
    (c_numbered : Cal P w K mg base 74 "numbered" P_numbered spNumbered) (c_back : Cal P w K mg base 73 "back" P_back spBack) (c_power : Cal P w K mg base 74 "power" P_power spPower) (c_low : Cal P w K mg base 73 "low" P_low spLow)
    (c_high : Cal P w K mg base 73 "high" P_high spHigh) (c_joined : Cal P w K mg base 74 "joined" P_joined spJoined) : FnOk P w K mg base CX0 (n + 76) f fd P_value (spValue (n + 1)) := by
  have nd := sc_value.nd
  refine F.ok sc_value (fun vs H Q E h => ?_) (fun cdv A outer s H vs Q E hr h => ?_)
  · obtain ⟨v, e, d, rs, env, wn, rfl, _⟩ := h; rfl
  obtain ⟨v, e, d, rs, env, wn, rfl, he, hns, hok, hin, hsm, hw, hd, q⟩ := h
  have hu := hu_of hr
  have L_parts_of : 1 ≤ n + 75 := by omega
  have L_value : n + 75 ≤ n + 75 := Nat.le_refl _
  have L_numbered : 74 ≤ n + 75 := by omega
  have L_back : 73 ≤ n + 75 := by omega
  have L_power : 74 ≤ n + 75 := by omega
  have L_low : 73 ≤ n + 75 := by omega
  have L_high : 73 ≤ n + 75 := by omega
  have L_joined : 74 ≤ n + 75 := by omega
  refine ⟨_, (pss_cons (ps_set (i := 2) nd rfl (Or.inl rfl) (pe_ix ix_tup (pv 0) pe_int (fun _ _ => rfl)))
      (pss_cons (ps_if (pt_cmpR op_eq (pv 2) pe_str (nomark _))
        (pss_one (ps_ret (pe_tup (pa_cons (pe_tup pa_nil) (pa_cons (pe_tup pa_nil) pa_nil)))))
        pss_nil)
      (pss_cons (ps_if (pt_cmpR op_eq (pv 2) pe_str (nomark _))
        (pss_one (ps_ret (pe_cal c_numbered (hr.mono L_numbered) (by rfl) (pa_cons (pe_ix ix_tup (pv 0) pe_int (fun _ _ => rfl)) pa_nil))))
        pss_nil)
      (pss_cons (ps_if (pt_cmpR op_eq (pv 2) pe_str (nomark _))
        (pss_one (ps_ret (pe_dget hu (pv 1) (pe_ix ix_tup (pv 0) pe_int (fun _ _ => rfl)) (fun _ _ => rfl))))
        pss_nil)
      (pss_cons (ps_setLc (i := 3) (own := [("part", 4)]) (g := (gName 4)) rfl nd rfl rfl (sw_true rfl rfl rfl (by decide +kernel)) (pi_list (pe_cal c_parts_of (hr.mono L_parts_of) (by rfl) (pa_cons (pv 0) pa_nil))) (blkOk_by (own := [("part", 4)]) (N := N_value) (sc := defScope s_value) (by decide +kernel)) (fun _ _ _ _ _ => pg_name (i := 4) nd rfl (Or.inl rfl)) (fun _ _ _ _ _ => pts_nil) (fun _ _ _ _ _ => (pe_cal c_value (hr.mono L_value) (by rfl) (pa_cons (pv 4) (pa_cons (pv 1) pa_nil)))))
      (pss_cons (ps_if (pt_cmpR op_eq (pv 2) pe_str (nomark _))
        (pss_one (ps_ret (pe_cal c_back (hr.mono L_back) (by rfl) (pa_cons (pe_ix ix_list (pv 3) pe_int (fun _ _ => rfl)) pa_nil))))
        pss_nil)
      (pss_cons (ps_if (pt_cmpR op_eq (pv 2) pe_str (nomark _))
        (pss_one (ps_ret (pe_cal c_power (hr.mono L_power) (by rfl) (pa_cons (pe_ix ix_list (pv 3) pe_int (fun _ _ => rfl)) (pa_cons (pe_ix ix_tup (pv 0) pe_int (fun _ _ => rfl)) pa_nil)))))
        pss_nil)
      (pss_cons (ps_if (pt_cmpR op_eq (pv 2) pe_str (nomark _))
        (pss_one (ps_ret (pe_cal c_low (hr.mono L_low) (by rfl) (pa_cons (pe_ix ix_list (pv 3) pe_int (fun _ _ => rfl)) pa_nil))))
        pss_nil)
      (pss_cons (ps_if (pt_cmpR op_eq (pv 2) pe_str (nomark _))
        (pss_one (ps_ret (pe_cal c_high (hr.mono L_high) (by rfl) (pa_cons (pe_ix ix_list (pv 3) pe_int (fun _ _ => rfl)) pa_nil))))
        pss_nil)
      (pss_one (ps_ret (pe_cal c_joined (hr.mono L_joined) (by rfl) (pa_cons (pv 2) (pa_cons (pe_ix ix_list (pv 3) pe_int (fun _ _ => rfl)) (pa_cons (pe_ix ix_list (pv 3) pe_int (fun _ _ => rfl)) pa_nil))))))))))))))), ?_⟩
  have he0 := he
  obtain ⟨a, xs, rfl, ha, hbin, hun, hno⟩ := he.opened
  refine ⟨_, rfl, a, _, _, .str e.kind, rfl, rfl, SqT.of ha, atI_nat (j := 0) rfl, ?_⟩
  refine ⟨_, rfl, rfl, _, rfl, ?_⟩
  rw [show V.str "one" = V.str Tag.one.s from rfl, e.kind_is]
  by_cases t0 : e.tag = .one
  · rw [decide_eq_true t0]
    obtain rfl := Ex.of_one t0
    refine iteT ?_
    refine mev_pair tev_leaf tev_leaf _ _ _ fun r H1 s1 hm => ?_
    exact q r _ H1 s1 hm does_one (by show 1 ≤ 0 + 1; decide)
  rw [decide_eq_false t0]
  refine iteF ⟨_, rfl, rfl, _, rfl, ?_⟩
  rw [show V.str "move" = V.str Tag.move.s from rfl, e.kind_is]
  by_cases t1 : e.tag = .move
  · rw [decide_eq_true t1]
    obtain ⟨m, rfl⟩ := Ex.of_move t1
    obtain ⟨a', e', ha'⟩ := he0
    cases e'
    have hm20 : m < 20 := hsm
    refine iteT ⟨_, rfl, a, _, _, .int m, rfl, rfl, SqT.of ha', rfl, m, rfl, by omega, fun r m' H1 s1 hm dm hl => ?_⟩
    exact q r m' H1 s1 hm dm hl
  rw [decide_eq_false t1]
  refine iteF ⟨_, rfl, rfl, _, rfl, ?_⟩
  rw [show V.str "name" = V.str Tag.name.s from rfl, e.kind_is]
  by_cases t2 : e.tag = .name
  · rw [decide_eq_true t2]
    obtain ⟨x, rfl⟩ := Ex.of_name t2
    obtain ⟨a', e', ha'⟩ := he0
    cases e'
    obtain ⟨v, m, hg, hm, im⟩ := ns_has hns hin
    obtain ⟨dm, hl, _⟩ := hok x m hm
    refine iteT ⟨_, rfl, _, rfl, a, _, _, .str x, rfl, rfl, SqT.of ha', rfl, d, v, rfl, hg, ?_⟩
    exact q v m H (Same.refl _) im dm hl
  rw [decide_eq_false t2]
  refine iteF ⟨_, rfl, .ref a, e, rfl, he0, fun p1 H1 ys s1 _ e1 hk => ?_⟩
  refine ⟨p1, rfl, ⟨_, SqL.of e1⟩, fun D hD => ?_⟩
  have hys : ys.length ≤ 10000 := by
    rw [← Paired.length hk]
    have := Ex.kids_len e
    omega
  refine lc_runP (j := 4) (as := e.kids) (fun k x => IsE H1 x k) (fun H k y => ∃ m, IsM H y m ∧ Does m (k.S env) ∧ m.1.leaves ≤ k.wt wn + 1) (fun t h => by obtain ⟨m, h1, h2⟩ := h; exact ⟨m, h1.mono t, h2⟩) hk (SqL.of e1) hD hys (fun x => rfl) ?_ ?_
  · intro c x hc hx H' s' Q' hq
    have hcw := Ex.kid_wt (wn := wn) hc
    have hcd := Ex.kid_deep hc
    exact ⟨_, rfl, _, rfl, x, c, d, rs, env, wn, rfl, hx.mono s'.tk, (hns.same s1).same s', hok, Ex.kid_names hc hin, Ex.kid_small hc hsm, by omega, by omega, fun r m H3 s3 hm dm hl => hq _ _ s3 ⟨m, hm, dm, hl⟩⟩
  intro H2 ys2 s2 e2 p2
  have ha2 := s2 _ _ (s1 _ _ ha)
  have fin : ∀ r m H', Same H2 H' → IsM H' r m → Does m (e.S env) → m.1.leaves ≤ e.wt wn + 1 → Q r H' := fun r m H' s3 => q r m H' (s1.trans (s2.trans s3))
  refine ⟨_, rfl, rfl, _, rfl, ?_⟩
  rw [show V.str "back" = V.str Tag.back.s from rfl, e.kind_is]
  by_cases t3 : e.tag = .back
  · rw [decide_eq_true t3]
    obtain ⟨g, rfl⟩ := Ex.of_back t3
    obtain ⟨y, rfl, m, hm, dm, hl⟩ := paired_1 p2
    have hw' : g.wt wn ≤ 60 := hw
    refine iteT ⟨_, rfl, D, _, _, _, rfl, rfl, SqL.of e2, rfl, _, m, _, rfl, hm, dm, by omega, fun r m' H3 s3 hm' dm' hl' => ?_⟩
    exact fin r m' H3 s3 hm' dm' (by show m'.1.leaves ≤ g.wt wn + 1; omega)
  rw [decide_eq_false t3]
  refine iteF ⟨_, rfl, rfl, _, rfl, ?_⟩
  rw [show V.str "power" = V.str Tag.power.s from rfl, e.kind_is]
  by_cases t4 : e.tag = .power
  · rw [decide_eq_true t4]
    obtain ⟨g, k, rfl⟩ := Ex.of_power t4
    obtain ⟨y, rfl, m, hm, dm, hl⟩ := paired_1 p2
    obtain ⟨a', u, e', ha', _⟩ := he0
    cases e'
    have ha2' := s2 _ _ (s1 _ _ ha')
    have hk9 : -9 ≤ k ∧ k ≤ 9 := hsm.2
    refine iteT ⟨_, rfl, D, _, _, _, rfl, rfl, SqL.of e2, rfl, _, rfl, a, _, _, _, rfl, rfl, SqT.of ha2', rfl, _, k, m, _, g.wt wn, rfl, hm, dm, hl, hw, by omega, fun r m' H3 s3 hm' dm' hl' => ?_⟩
    exact fin r m' H3 s3 hm' dm' hl'
  rw [decide_eq_false t4]
  refine iteF ⟨_, rfl, rfl, _, rfl, ?_⟩
  rw [show V.str "low" = V.str Tag.low.s from rfl, e.kind_is]
  by_cases t5 : e.tag = .low
  · rw [decide_eq_true t5]
    obtain ⟨g, rfl⟩ := Ex.of_low t5
    obtain ⟨y, rfl, m, hm, dm, hl⟩ := paired_1 p2
    have hw' : g.wt wn + 1 ≤ 60 := hw
    refine iteT ⟨_, rfl, D, _, _, _, rfl, rfl, SqL.of e2, rfl, _, m, _, rfl, hm, dm, by omega, fun r m' H3 s3 hm' dm' hl' => ?_⟩
    exact fin r m' H3 s3 hm' dm' (by show m'.1.leaves ≤ g.wt wn + 1 + 1; omega)
  rw [decide_eq_false t5]
  refine iteF ⟨_, rfl, rfl, _, rfl, ?_⟩
  rw [show V.str "high" = V.str Tag.high.s from rfl, e.kind_is]
  by_cases t6 : e.tag = .high
  · rw [decide_eq_true t6]
    obtain ⟨g, rfl⟩ := Ex.of_high t6
    obtain ⟨y, rfl, m, hm, dm, hl⟩ := paired_1 p2
    have hw' : g.wt wn + 1 ≤ 60 := hw
    refine iteT ⟨_, rfl, D, _, _, _, rfl, rfl, SqL.of e2, rfl, _, m, _, rfl, hm, dm, by omega, fun r m' H3 s3 hm' dm' hl' => ?_⟩
    exact fin r m' H3 s3 hm' dm' (by show m'.1.leaves ≤ g.wt wn + 1 + 1; omega)
  rw [decide_eq_false t6]
  refine iteF ?_
  obtain ⟨j, g, g', hkk, hks, hS, hW⟩ := Ex.joins t0 t1 t2 t3 t4 t5 t6
  rw [hkk] at p2
  obtain ⟨y, z, rfl, ⟨m, hm, dm, hl⟩, ⟨m', hm', dm', hl'⟩⟩ := paired_2 p2
  rw [hW] at hw
  refine ⟨_, rfl, _, rfl, D, _, _, _, rfl, rfl, SqL.of e2, rfl, _, rfl, D, _, _, _, rfl, rfl, SqL.of e2, rfl, j, y, z, m, m', _, _, _, _, ?_, hm, hm', dm, dm', hl, hl', hw, fun r m3 H3 s3 h3 d3 l3 => ?_⟩
  · rw [hks]; rfl
  · exact fin r m3 H3 s3 h3 (by rw [hS]; exact d3) (by rw [hW]; exact l3)
theorem cal_value (B : Blt mg) (D : DefAt K mg "value" s_value P_value) (c_parts_of : Cal P w K mg base 1 "parts_of" P_parts_of spPartsOf)
    (c_numbered : Cal P w K mg base 74 "numbered" P_numbered spNumbered) (c_back : Cal P w K mg base 73 "back" P_back spBack) (c_power : Cal P w K mg base 74 "power" P_power spPower) (c_low : Cal P w K mg base 73 "low" P_low spLow)
    (c_high : Cal P w K mg base 73 "high" P_high spHigh) (c_joined : Cal P w K mg base 74 "joined" P_joined spJoined) : ∀ n, Cal P w K mg base (n + 75) "value" P_value (spValue n)
  | 0 => D.cal fun _ _ _ => FnOk.none fun vs H Q E h => by
    obtain ⟨_, e, _, _, _, _, _, _, _, _, _, _, _, h, _⟩ := h
    have := e.deep_pos
    omega
  | n + 1 => D.cal fun _ _ F => ok_value B F c_parts_of (cal_value B D c_parts_of c_numbered c_back c_power c_low c_high c_joined n) c_numbered c_back c_power c_low c_high c_joined
end
end Hw
set_option maxHeartbeats 1000000
/-! Halvewright: an expression looked at; a program read. -/
namespace Hw
open PySem L2

/-- the weights as they are written down -/
def wsOf (rs : Rs) : List (Key × V) := rs.map fun r => (Sum.inr r.1, V.int ((r.2.1.leaves : Int) - 1))
def wnOf (rs : Rs) (x : Str) : Nat := match rget rs x with
  | some m => m.1.leaves - 1
  | none => 0
theorem ws_none : ∀ {rs : Rs} {x : Str}, x ∉ rs.map (·.1) → valV (wsOf rs) (.inr x) = none
  | [], _, _ => rfl
  | (y, m) :: rs, x, h => by
    rw [List.map_cons, List.mem_cons] at h
    show valV ((Sum.inr y, V.int ((m.1.leaves : Int) - 1)) :: wsOf rs) (.inr x) = none
    rw [valV_neg (fun e => h (.inl (Sum.inr.inj e).symm))]
    exact ws_none fun z => h (.inr z)
theorem ws_get : ∀ {rs : Rs} {x : Str}, InRs rs x → valV (wsOf rs) (.inr x) = some (.int ((wnOf rs x : Nat) : Int))
  | [], _, h => nomatch h
  | (y, m) :: rs, x, h => by
    show valV ((Sum.inr y, V.int ((m.1.leaves : Int) - 1)) :: wsOf rs) (.inr x) = _
    unfold InRs at h
    unfold wnOf
    by_cases e : y = x
    · have e1 : rget ((y, m) :: rs) x = some m := if_pos e
      rw [e1, valV_pos (show ((Sum.inr y : Key)) = Sum.inr x by rw [e])]
      have := m.1.leaves_pos
      show some (V.int ((m.1.leaves : Int) - 1)) = some (V.int ((m.1.leaves - 1 : Nat) : Int))
      congr 2
      omega
    · have e1 : rget ((y, m) :: rs) x = rget rs x := if_neg e
      rw [e1] at h ⊢
      rw [valV_neg (fun z => e (Sum.inr.inj z))]
      exact ws_get (rs := rs) h
def RsFine (rs : Rs) : Prop := (rs.map (·.1)).Nodup ∧ rs.length ≤ 100

section
variable {P : Program} {w : World} {K : PySem.W.Frag} {mg : Str → Option Value} {base : Heap} {f : Addr} {fd : FuncData}

abbrev s_looked_at : Stmt := top 51
abbrev N_looked_at : List Str := ["expr", "names", "row", "name", "weights", "known", "mapped"]
abbrev P_looked_at : List Str := ["expr", "names", "row"]
theorem sc_looked_at : FnScope N_looked_at P_looked_at (defScope s_looked_at) := ⟨rfl, rfl, rfl, by decide +kernel, rfl, by decide +kernel, by decide +kernel⟩
def spLookedAt : Sp := fun vs H Q _ => ∃ (v : V) (e : Ex) (d : Addr) (rs : Rs) (env : Str → G) (wn : Str → Nat) (k : Int), vs = [v, .ref d, .int k] ∧ IsE H v e ∧ IsNs H d rs ∧ RsFine rs ∧ RsOk env wn rs ∧ e.NamesIn (InRs rs) ∧ e.Small ∧ e.wt wn ≤ 60 ∧ e.deep ≤ 20 ∧
  ∀ r m H', Same H H' → IsM H' r m → Does m (e.S env) → m.1.leaves ≤ e.wt wn + 1 → Q r H'
theorem ok_looked_at (B : Blt mg) (gl : Glb K mg) (F : Fun K "looked_at" "looked_at" s_looked_at f fd) (c_lacking : Cal P w K mg base 21 "lacking" P_lacking (spLacking 20)) (c_leaves : Cal P w K mg base 70 "leaves" P_leaves (spLeaves 70))
    (c_weight : Cal P w K mg base 21 "weight" P_weight (spWeight 20)) (c_value : Cal P w K mg base 95 "value" P_value (spValue 20)) : FnOk P w K mg base CX0 96 f fd P_looked_at spLookedAt := by
  have nd := sc_looked_at.nd
  refine F.ok sc_looked_at (fun vs H Q E h => ?_) (fun cdv A outer s H vs Q E hr h => ?_)
  · obtain ⟨v, e, d, rs, env, wn, k, rfl, _⟩ := h; rfl
  obtain ⟨v, e, d, rs, env, wn, k, rfl, he, hns, hfine, hok, hin, hsm, hw, hd, q⟩ := h
  have hu := hu_of hr
  have L_lacking : 21 ≤ 95 := by decide
  have L_leaves : 70 ≤ 95 := by decide
  have L_weight : 21 ≤ 95 := by decide
  have L_value : 95 ≤ 95 := by decide
  obtain ⟨tm, gm⟩ := gl.most
  have g_MOST : mg "MOST" = some (.int 99 tm) ∧ RelV (.int 99) (.int 99 tm) := ⟨gm, _, rfl⟩
  refine ⟨_, (pss_cons (ps_set (i := 3) nd rfl (Or.inl rfl) (pe_cal c_lacking (hr.mono L_lacking) (by rfl) (pa_cons (pv 0) (pa_cons (pv 1) pa_nil))))
      (pss_cons (ps_if (pt_cmp (pc_notN (pv 3)) rfl)
        (pss_one ps_never)
        pss_nil)
      (pss_cons (ps_set (i := 4) nd rfl (Or.inl rfl) pe_dnewK)
      (pss_cons (ps_lock (ps_for PassesOwn.never rfl (pi_items (pv 1)) (pg_tup rfl (pgs_cons (pg_name (i := 5) nd rfl (Or.inl rfl)) (pgs_cons (pg_name (i := 6) nd rfl (Or.inl rfl)) pgs_nil)))
        (pss_one (ps_dput hu (pv 4) (pv 5) (pe_op op_sub (pe_cal c_leaves (hr.mono L_leaves) (by rfl) (pa_cons (pe_ix ix_tup (pv 6) pe_int (fun _ _ => rfl)) pa_nil)) pe_int) rfl))))
      (pss_cons (ps_if (pt_cmpR op_gt (pe_cal c_weight (hr.mono L_weight) (by rfl) (pa_cons (pv 0) (pa_cons (pv 4) pa_nil))) (pe_glob rfl g_MOST.1 g_MOST.2) (nomark _))
        (pss_one ps_never)
        pss_nil)
      (pss_one (ps_ret (pe_cal c_value (hr.mono L_value) (by rfl) (pa_cons (pv 0) (pa_cons (pv 1) pa_nil)))))))))), ?_⟩
  refine ⟨_, rfl, _, rfl, v, e, d, rs, rfl, he, hns, hin, hd, fun H1 s1 => ?_⟩
  refine ⟨_, rfl, _, rfl, iteF fun p hp => ?_⟩
  have s2 := same_new hp (.dK [])
  obtain ⟨kvs, hk, hpr⟩ := (hns.same s1).same s2
  have hne : p ≠ d := fun z => by
    obtain ⟨kvs0, h0, _⟩ := hns.same s1
    rw [z, h0] at hp
    cases hp
  have hlen : rs.length = kvs.length := Paired.length hpr
  refine ⟨d, .dK kvs, hk, trivial, fun od => ?_⟩
  have tfz : Tk (upd H1 p (.dK [])) (upd (upd H1 p (.dK [])) d (.frz od (.dK kvs))) := tk_dK hk _
  refine ⟨_, rfl, d, od, kvs, rfl, upd_same, ?_⟩
  refine for_pairs (fun i σ' H' => (∃ x1 x2, σ' = [some v, some (.ref d), some (.int k), some .non, some (.ref p), x1, x2]) ∧ SameX [p] (upd (upd H1 p (.dK [])) d (.frz od (.dK kvs))) H' ∧ H' p = some (.dK (wsOf (rs.take i)))) ?_ ?_ ?_ ?_
  · refine ⟨⟨_, _, rfl⟩, SameX.refl _ _, ?_⟩
    rw [upd_ne hne, upd_same]
    rfl
  · intro i σ' H' hP
    exact hP.2.1 _ _ (fun z => hne (List.mem_singleton.mp z).symm) upd_same
  · intro i key u T σ' H' hkv hP hT
    obtain ⟨⟨x1, x2, rfl⟩, sx, hpw⟩ := hP
    obtain ⟨r, hr1, hr2, hr3⟩ := paired_at hpr hkv
    replace hr2 : key = .inr r.1 := hr2
    subst hr2
    have hTp : T ≠ p := fun z => by rw [z, hpw] at hT; cases hT
    have tk1 : Tk (upd H1 p (.dK [])) H' := fun b l hb => sx _ _ (fun z => by rw [List.mem_singleton.mp z, upd_same] at hb; cases hb) (tfz _ _ hb)
    have hm : IsM H' u r.2 := hr3.mono tk1
    have hmT := hm.mono (tk_new hT (.tup [kV (.inr r.1), u]))
    obtain ⟨b, t1, t2, rfl, hb, h1, h2⟩ := hmT
    have hi := (List.getElem?_eq_some_iff.mp hr1).1
    have hgm : rget rs r.1 = some r.2 := by
      have hnd := hfine.1
      have gen : ∀ (rs : Rs) (i : Nat), (rs.map (·.1)).Nodup → rs[i]? = some r → rget rs r.1 = some r.2 := by
        intro rs
        induction rs with
        | nil => intro i _ h; simp at h
        | cons a rs ih =>
          intro i hn h
          rw [List.map_cons, List.nodup_cons] at hn
          cases i with
          | zero =>
            have e : a = r := by simpa using h
            rw [e]
            exact if_pos rfl
          | succ i =>
            have h' : rs[i]? = some r := by simpa using h
            have hm : r.1 ∈ rs.map (·.1) := List.mem_map.mpr ⟨r, List.mem_of_getElem? h', rfl⟩
            exact (if_neg (show ¬ a.1 = r.1 from fun z => hn.1 (z ▸ hm))).trans (ih i hn.2 h')
      exact gen rs i hnd hr1
    obtain ⟨dm, hl, hw60⟩ := hok _ _ hgm
    have hdt := r.2.1.depth_lt
    refine ⟨T, _, rfl, SqT.of upd_same, rfl, _, _, rfl, _, _, rfl, rfl, ?_⟩
    refine ⟨_, rfl, b, _, _, t1, rfl, rfl, SqT.of hb, rfl, t1, r.2.1, rfl, h1, by omega, by omega, fun H3 s3 => ?_⟩
    refine ⟨_, _, rfl, rfl, _, rfl, _, rfl, p, _, rfl, DPut.k (k := .inr r.1) (s3 _ _ (by rw [upd_ne (Ne.symm hTp)]; exact hpw)) ?_, ?_⟩
    · unfold wsOf
      rw [List.length_map, List.length_take]
      have := hfine.2
      exact line1000' (by omega)
    · have e1 : rs[i] = r := by
        rw [List.getElem?_eq_getElem hi] at hr1
        exact Option.some.inj hr1
      have hnone : valV (wsOf (rs.take i)) (.inr r.1) = none := by
        refine ws_none fun z => ?_
        have hnd := hfine.1
        rw [← List.take_append_drop i rs, List.map_append, List.drop_eq_getElem_cons hi, e1, List.map_cons] at hnd
        rw [List.nodup_append] at hnd
        exact hnd.2.2 _ z _ List.mem_cons_self rfl
      refine ⟨⟨_, _, rfl⟩, ?_, ?_⟩
      · exact sx.trans (((same_new hT _).x _).trans ((s3.x _).trans (samex_upd _ (List.mem_singleton.mpr rfl))))
      · rw [upd_same, putK_new _ hnone, List.take_succ_eq_append_getElem hi, e1]
        unfold wsOf
        rw [List.map_append]
        rfl
  · intro σ' H' hP
    obtain ⟨⟨x1, x2, rfl⟩, sx, hpw⟩ := hP
    rw [← hlen, List.take_length] at hpw
    refine ⟨sx _ _ (fun z => hne (List.mem_singleton.mp z).symm) upd_same, ?_⟩
    -- the dictionary is free again
    have s3 : Same H1 (upd H' d (.dK kvs)) := fun b o hb => by
      by_cases e1 : b = d
      · subst e1
        rw [upd_same]
        have := s2 _ _ hb
        rw [hk] at this
        exact this
      · rw [upd_ne e1]
        have hbp : b ≠ p := fun z => by rw [z, hp] at hb; cases hb
        refine sx _ _ (fun z => hbp (List.mem_singleton.mp z)) ?_
        rw [upd_ne e1, upd_ne hbp]
        exact hb
    have hpw' : (upd H' d (.dK kvs)) p = some (.dK (wsOf rs)) := by rw [upd_ne hne]; exact hpw
    have hle : e.wt (wnOf rs) ≤ e.wt wn := Ex.wt_mono (fun x hx => by
      obtain ⟨m, hm⟩ := Option.isSome_iff_exists.mp hx
      have := (hok x m hm).2.1
      unfold wnOf
      rw [hm]
      show m.1.leaves - 1 ≤ wn x
      omega) hin
    refine ⟨_, rfl, _, rfl, v, e, p, wnOf rs, InRs rs, rfl, (he.mono s1.tk).mono s3.tk, ⟨_, hpw', fun x hx => ws_get hx⟩, hin, hsm, by omega, hd, fun H4 s4 => ?_⟩
    refine ⟨_, _, rfl, rfl, _, rfl, ?_⟩
    rw [decide_eq_false (by omega)]
    refine iteF ⟨_, rfl, _, rfl, v, e, d, rs, env, wn, rfl, ((he.mono s1.tk).mono s3.tk).mono s4.tk, ((hns.same s1).same s3).same s4, hok, hin, hsm, hw, hd, fun r m H5 s5 hm dm hl => ?_⟩
    exact q r m H5 (s1.trans (s3.trans (s4.trans s5))) hm dm hl
theorem cal_looked_at (B : Blt mg) (gl : Glb K mg) (D : DefAt K mg "looked_at" s_looked_at P_looked_at) (c_lacking : Cal P w K mg base 21 "lacking" P_lacking (spLacking 20)) (c_leaves : Cal P w K mg base 70 "leaves" P_leaves (spLeaves 70))
    (c_weight : Cal P w K mg base 21 "weight" P_weight (spWeight 20)) (c_value : Cal P w K mg base 95 "value" P_value (spValue 20)) : Cal P w K mg base 96 "looked_at" P_looked_at spLookedAt :=
  D.cal fun _ _ F => ok_looked_at B gl F c_lacking c_leaves c_weight c_value

abbrev s_map_of : Stmt := top 52
abbrev N_map_of : List Str := ["expr", "names"]
abbrev P_map_of : List Str := ["expr", "names"]
theorem sc_map_of : FnScope N_map_of P_map_of (defScope s_map_of) := ⟨rfl, rfl, rfl, by decide +kernel, rfl, by decide +kernel, by decide +kernel⟩
def spMapOf : Sp := fun vs H Q _ => ∃ (v : V) (e : Ex) (d : Addr) (rs : Rs) (env : Str → G) (wn : Str → Nat), vs = [v, .ref d] ∧ IsE H v e ∧ IsNs H d rs ∧ RsFine rs ∧ RsOk env wn rs ∧ e.NamesIn (InRs rs) ∧ e.Small ∧ e.wt wn ≤ 60 ∧ e.deep ≤ 20 ∧
  ∀ r m H', Same H H' → IsM H' r m → Does m (e.S env) → m.1.leaves ≤ e.wt wn + 1 → Q r H'
theorem ok_map_of (F : Fun K "map_of" "map_of" s_map_of f fd) (c_looked_at : Cal P w K mg base 96 "looked_at" P_looked_at spLookedAt) : FnOk P w K mg base CX0 97 f fd P_map_of spMapOf := by
  have nd := sc_map_of.nd
  refine F.ok sc_map_of (fun vs H Q E h => ?_) (fun cdv A outer s H vs Q E hr h => ?_)
  · obtain ⟨v, e, d, rs, env, wn, rfl, _⟩ := h; rfl
  obtain ⟨v, e, d, rs, env, wn, rfl, h⟩ := h
  have L_looked_at : 96 ≤ 96 := Nat.le_refl _
  refine ⟨_, (pss_one (ps_ret (pe_cal c_looked_at (hr.mono L_looked_at) (by rfl) (pa_cons (pv 0) (pa_cons (pv 1) (pa_cons pe_int pa_nil)))))), ?_⟩
  exact ⟨_, rfl, _, rfl, v, e, d, rs, env, wn, 0, rfl, h⟩
theorem cal_map_of (D : DefAt K mg "map_of" s_map_of P_map_of) (c_looked_at : Cal P w K mg base 96 "looked_at" P_looked_at spLookedAt) : Cal P w K mg base 97 "map_of" P_map_of spMapOf :=
  D.cal fun _ _ F => ok_map_of F c_looked_at

/-! ### a program of one row -/
def hx : List Nat := [120, 32, 61, 32]
theorem part_x (l : List Nat) : Txt.partition (mk (hx ++ l)) (Str.ofString "=") = (mk [120, 32], Str.ofString "=", mk (32 :: l)) := by
  have e : mk (hx ++ l) = mk [120, 32] ++ Str.ofString "=" ++ mk (32 :: l) := by
    rw [show Str.ofString "=" = mk [61] by decide +kernel, mk_append, mk_append]
    rfl
  rw [e]
  exact TL.partition_app (s := 61) (S := []) (by decide +kernel) (by decide +kernel)
theorem strip_x : Txt.rstripChars (mk [120, 32]) (Str.ofString " ") = mk [120] := by decide +kernel
abbrev s_read_row : Stmt := top 44
abbrev N_read_row : List Str := ["row", "ahead", "sign", "behind", "name"]
abbrev P_read_row : List Str := ["row"]
theorem sc_read_row : FnScope N_read_row P_read_row (defScope s_read_row) := ⟨rfl, rfl, rfl, by decide +kernel, rfl, by decide +kernel, by decide +kernel⟩
def spReadRow : Sp := fun vs H Q _ => ∃ (c : C), vs = [.str (mk (hx ++ c.txt))] ∧ c.ok ∧ c.txt.length ≤ 950 ∧ c.nest ≤ 11 ∧
  ∀ t u H', Same H H' → H' t = some (.tup [.str "x", u]) → IsE H' u c.ex → Q (.ref t) H'
theorem ok_read_row (B : Blt mg) (F : Fun K "read_row" "read_row" s_read_row f fd) (c_is_name : Cal P w K mg base 1 "is_name" P_is_name spIsName) (c_read_expr : Cal P w K mg base 40 "read_expr" P_read_expr spReadExpr) : FnOk P w K mg base CX0 41 f fd P_read_row spReadRow := by
  have nd := sc_read_row.nd
  refine F.ok sc_read_row (fun vs H Q E h => ?_) (fun cdv A outer s H vs Q E hr h => ?_)
  · obtain ⟨c, rfl, _⟩ := h; rfl
  obtain ⟨c, rfl, hk, hl, hn, q⟩ := h
  have L_is_name : 1 ≤ 40 := by decide
  have L_read_expr : 40 ≤ 40 := by decide
  refine ⟨_, (pss_cons (ps_asg (pe_bm PySem.F.plainAttrs_str PySem.F.slot_str_partition PySem.F.type_str_partition mt_partition (pv 0) (pa_cons pe_str pa_nil)) (pg_tup rfl (pgs_cons (pg_name (i := 1) nd rfl (Or.inl rfl)) (pgs_cons (pg_name (i := 2) nd rfl (Or.inl rfl)) (pgs_cons (pg_name (i := 3) nd rfl (Or.inl rfl)) pgs_nil)))))
      (pss_cons (ps_set (i := 4) nd rfl (Or.inl rfl) (pe_bm PySem.F.plainAttrs_str PySem.F.slot_str_rstrip PySem.F.type_str_rstrip mt_rstripChars (pv 1) (pa_cons pe_str pa_nil)))
      (pss_cons (ps_if (PW.pt (pw_or (pt_cmpR op_eq (pv 2) pe_str (nomark _)) (pw_or (pt_cmpR op_eq (pv 4) (pv 1) (nomark _)) (pw_or (pt_not (pt_val (pe_cal c_is_name (hr.mono L_is_name) (by rfl) (pa_cons (pv 4) pa_nil)))) (pw_or1 (pt_cmpR op_ne (pe_slice sl_str (pv 3) po_none (po_some pe_int)) pe_str (nomark _)))))))
        (pss_one ps_never)
        pss_nil)
      (pss_one (ps_ret (pe_tup (pa_cons (pv 4) (pa_cons (pe_cal c_read_expr (hr.mono L_read_expr) (by rfl) (pa_cons (pv 3) pa_nil)) pa_nil)))))))), ?_⟩
  have zl : (mk (hx ++ c.txt)).length ≤ sizeLine := by rw [mk_len]; exact line1000 (by simp [hx]; omega)
  refine ⟨_, rfl, rfl, _, _, rfl, rfl, by decide +kernel, zl, fun p hp => ?_⟩
  have s1 := same_new hp (.tup [.str (Txt.partition (mk (hx ++ c.txt)) "=").1, .str (Txt.partition (mk (hx ++ c.txt)) "=").2.1, .str (Txt.partition (mk (hx ++ c.txt)) "=").2.2])
  rw [part_x] at s1 ⊢
  refine ⟨p, _, rfl, SqT.of upd_same, rfl, _, _, rfl, _, _, rfl, _, _, rfl, rfl, ?_⟩
  refine ⟨_, rfl, rfl, _, _, rfl, rfl, (by show (mk [120, 32]).length ≤ sizeLine; decide), ?_⟩
  rw [strip_x]
  refine ⟨_, rfl, rfl, _, rfl, ?_⟩
  rw [show decide (V.str (Str.ofString "=") = V.str (Str.ofString "")) = false by rw [dec_str]; decide +kernel]
  refine iteF ⟨_, rfl, _, rfl, rfl, _, rfl, ?_⟩
  rw [show decide (V.str (mk [120]) = V.str (mk [120, 32])) = false by rw [dec_str]; decide +kernel]
  refine iteF ⟨_, rfl, [120], rfl, by decide, fun H1 s2 => ⟨_, rfl, ?_⟩⟩
  rw [show okName [120] = true by decide]
  refine iteF ⟨_, rfl, _, rfl, mk (32 :: c.txt), rfl, by rw [mk_len]; exact line1000 (by simp; omega), rfl, _, rfl, ?_⟩
  have hcut : cutS (mk (32 :: c.txt)) none (some 1) = mk [32] := by
    rw [cut_mk]
    congr 1
  rw [hcut, show decide (V.str (mk [32]) = V.str (Str.ofString " ")) = true by rw [dec_str]; decide +kernel]
  refine iteF ⟨_, rfl, _, rfl, 32 :: c.txt, c, rfl, .blank (pc_all hk), hk, by simp; omega, hn, fun r H2 s3 hr2 => ?_⟩
  refine ⟨(by show 2 ≤ sizeLine; decide), fun t ht => ?_⟩
  have s4 := same_new ht (.tup [.str (mk [120]), r])
  refine q t r _ (s1.trans (s2.trans (s3.trans s4))) ?_ (hr2.mono s4.tk)
  first | exact upd_same | (rw [upd_same, show Str.ofString "x" = mk [120] by decide +kernel])
theorem cal_read_row (B : Blt mg) (D : DefAt K mg "read_row" s_read_row P_read_row) (c_is_name : Cal P w K mg base 1 "is_name" P_is_name spIsName) (c_read_expr : Cal P w K mg base 40 "read_expr" P_read_expr spReadExpr) : Cal P w K mg base 41 "read_row" P_read_row spReadRow :=
  D.cal fun _ _ F => ok_read_row B F c_is_name c_read_expr

abbrev s_read_program : Stmt := top 45
abbrev N_read_program : List Str := ["text", "found", "at", "row"]
abbrev P_read_program : List Str := ["text"]
theorem sc_read_program : FnScope N_read_program P_read_program (defScope s_read_program) := ⟨rfl, rfl, rfl, by decide +kernel, rfl, by decide +kernel, by decide +kernel⟩
def spReadProgram : Sp := fun vs H Q _ => ∃ (c : C), vs = [.str (mk (hx ++ c.txt))] ∧ c.ok ∧ c.txt.length ≤ 950 ∧ c.nest ≤ 11 ∧ 10 ∉ c.txt ∧
  ∀ a t u H', Same H H' → H' a = some (.tup [.ref t]) → H' t = some (.tup [.str "x", u]) → IsE H' u c.ex → Q (.ref a) H'
theorem ok_read_program (B : Blt mg) (F : Fun K "read_program" "read_program" s_read_program f fd) (c_read_row : Cal P w K mg base 41 "read_row" P_read_row spReadRow) : FnOk P w K mg base CX0 42 f fd P_read_program spReadProgram := by
  have nd := sc_read_program.nd
  refine F.ok sc_read_program (fun vs H Q E h => ?_) (fun cdv A outer s H vs Q E hr h => ?_)
  · obtain ⟨c, rfl, _⟩ := h; rfl
  obtain ⟨c, rfl, hk, hl, hn, h10, q⟩ := h
  have L_read_row : 41 ≤ 41 := by decide
  refine ⟨_, (pss_cons (ps_set (i := 1) nd rfl (Or.inl rfl) (pe_lst pa_nil))
      (pss_cons (ps_if (pt_cmpR op_eq (pv 0) pe_str (nomark _))
        (pss_one (ps_ret (pe_tup pa_nil)))
        pss_nil)
      (pss_cons (ps_for PassesOwn.never rfl (pi_enum (by rfl) B.enumerate (pa_cons (pe_bm PySem.F.plainAttrs_str PySem.F.slot_str_split PySem.F.type_str_split mt_split (pv 0) (pa_cons pe_str pa_nil)) pa_nil)) (pg_tup rfl (pgs_cons (pg_name (i := 2) nd rfl (Or.inl rfl)) (pgs_cons (pg_name (i := 3) nd rfl (Or.inl rfl)) pgs_nil)))
        (pss_one (ps_try_thru0 (pss_one (ps_expr (pe_bm PySem.F.plainAttrs_list PySem.F.slot_list_append PySem.F.type_list_append mt_append (pv 1) (pa_cons (pe_cal c_read_row (hr.mono L_read_row) (by rfl) (pa_cons (pv 3) pa_nil)) pa_nil)))))))
      (pss_one (ps_ret (pe_callTy call_tuple_of (by rfl) B.tuple bl_tuple (pa_cons (pv 1) pa_nil))))))), ?_⟩
  refine ⟨(by show 0 ≤ sizeLine; decide), fun p hp => ?_⟩
  have s1 := same_new hp (.lst [])
  refine ⟨_, rfl, rfl, _, rfl, ?_⟩
  have e0 : decide (V.str (mk (hx ++ c.txt)) = V.str (Str.ofString "")) = false := by
    rw [lit_of _ _ z_em]
    exact decide_eq_false fun e => by cases e
  rw [e0]
  have hsp : Txt.split (mk (hx ++ c.txt)) (Str.ofString "\n") = [mk (hx ++ c.txt)] := by
    have := TL.split_join (y := Str.ofString "\n") (s := 10) (S := []) (by decide +kernel) (by decide +kernel) (parts := [mk (hx ++ c.txt)]) (by simp) (fun z hz => by
      rw [List.mem_singleton.mp hz]
      show 10 ∉ hx ++ c.txt
      rw [List.mem_append]
      rintro (h | h)
      · revert h; decide
      · exact h10 h)
    have ej : Txt.join (Str.ofString "\n") [mk (hx ++ c.txt)] = mk (hx ++ c.txt) := by
      rw [TL.join_eq]
      rfl
    rw [ej] at this
    exact this
  refine iteF ⟨_, rfl, rfl, _, _, rfl, rfl, by decide +kernel, by rw [mk_len]; exact line1000 (by simp [hx]; omega), fun a ha => ?_⟩
  rw [hsp]
  have s2 := same_new ha (.lst ([mk (hx ++ c.txt)].map V.str))
  have hne : a ≠ p := fun z => by rw [z, upd_same] at ha; cases ha
  refine ⟨a, _, rfl, SqL.of upd_same, ?_⟩
  refine for_enumL (xs := [mk (hx ++ c.txt)].map V.str) (fun i σ' H' => (∃ x1 x2, σ' = [some (.str (mk (hx ++ c.txt))), some (.ref p), x1, x2]) ∧ SameX [p] (upd (upd H p (.lst [])) a (.lst ([mk (hx ++ c.txt)].map V.str))) H' ∧ (i = 0 → H' p = some (.lst [])) ∧
    (i = 1 → ∃ t u, H' p = some (.lst [.ref t]) ∧ H' t = some (.tup [.str "x", u]) ∧ IsE H' u c.ex)) ?_ ?_ ?_ ?_
  · exact ⟨⟨_, _, rfl⟩, SameX.refl _ _, fun _ => s2 _ _ upd_same, fun h => nomatch h⟩
  · intro i σ' H' hP
    exact SqL.of (hP.2.1 _ _ (fun z => hne (List.mem_singleton.mp z)) upd_same)
  · intro i x T σ' H' hxi hP hT
    obtain ⟨⟨x1, x2, rfl⟩, sx, h0, _⟩ := hP
    have hi : i = 0 := by
      have := (List.getElem?_eq_some_iff.mp hxi).1
      have h1 : i < 1 := this
      omega
    subst hi
    have ex : x = .str (mk (hx ++ c.txt)) := (Option.some.inj hxi).symm
    subst ex
    have hp0 := h0 rfl
    have sT := same_new hT (.tup [.int ((0 : Nat) : Int), .str (mk (hx ++ c.txt))])
    have hp1 := sT _ _ hp0
    refine ⟨T, _, rfl, SqT.of upd_same, rfl, _, _, rfl, _, _, rfl, rfl, ?_⟩
    refine ⟨_, rfl, Or.inl ⟨rfl, _, SqL.of hp1⟩, _, rfl, c, rfl, hk, hl, hn, fun t u H3 s3 ht hu => ?_⟩
    have hp3 := s3 _ _ hp1
    refine ⟨p, [], _, rfl, rfl, hp3, by decide, ?_⟩
    have tkp := tk_lst hp3 (.lst ([] ++ [V.ref t]))
    refine ⟨⟨_, _, rfl⟩, sx.trans ((sT.x _).trans ((s3.x _).trans (samex_upd _ (List.mem_singleton.mpr rfl)))), fun h => absurd h (by decide), fun _ => ⟨t, u, upd_same, tkp _ _ ht, hu.mono tkp⟩⟩
  · intro σ' H' hP
    obtain ⟨⟨x1, x2, rfl⟩, sx, _, h1⟩ := hP
    obtain ⟨t, u, hp1, ht, hu⟩ := h1 rfl
    refine ⟨_, rfl, p, _, rfl, .inl ⟨SqL.of hp1, fun l hl' => ?_⟩⟩
    have sl := same_new hl' (.tup [V.ref t])
    have hsame : Same H H' := fun b o hb => by
      have hbp : b ≠ p := fun z => by rw [z, hp] at hb; cases hb
      exact sx _ _ (fun z => hbp (List.mem_singleton.mp z)) (s2 _ _ (s1 _ _ hb))
    exact q l t u _ (hsame.trans sl) upd_same (sl _ _ ht) (hu.mono sl.tk)
theorem cal_read_program (B : Blt mg) (D : DefAt K mg "read_program" s_read_program P_read_program) (c_read_row : Cal P w K mg base 41 "read_row" P_read_row spReadRow) : Cal P w K mg base 42 "read_program" P_read_program spReadProgram :=
  D.cal fun _ _ F => ok_read_program B F c_read_row

abbrev s_maps_of : Stmt := top 53
abbrev N_maps_of : List Str := ["program", "maps", "row", "name", "expr"]
abbrev P_maps_of : List Str := ["program"]
theorem sc_maps_of : FnScope N_maps_of P_maps_of (defScope s_maps_of) := ⟨rfl, rfl, rfl, by decide +kernel, rfl, by decide +kernel, by decide +kernel⟩
def spMapsOf : Sp := fun vs H Q _ => ∃ (a t : Addr) (u : V) (e : Ex) (env : Str → G) (wn : Str → Nat), vs = [.ref a] ∧ H a = some (.tup [.ref t]) ∧ H t = some (.tup [.str "x", u]) ∧ IsE H u e ∧ e.NamesIn (InRs []) ∧ e.Small ∧ e.wt wn ≤ 60 ∧ e.deep ≤ 20 ∧
  ∀ p r m H', Same H H' → H' p = some (.dK [(.inr "x", r)]) → IsM H' r m → Does m (e.S env) → Q (.ref p) H'
theorem ok_maps_of (B : Blt mg) (F : Fun K "maps_of" "maps_of" s_maps_of f fd) (c_looked_at : Cal P w K mg base 96 "looked_at" P_looked_at spLookedAt) : FnOk P w K mg base CX0 97 f fd P_maps_of spMapsOf := by
  have nd := sc_maps_of.nd
  refine F.ok sc_maps_of (fun vs H Q E h => ?_) (fun cdv A outer s H vs Q E hr h => ?_)
  · obtain ⟨a, t, u, e, env, wn, rfl, _⟩ := h; rfl
  obtain ⟨a, t, u, e, env, wn, rfl, ha, ht, he, hin, hsm, hw, hd, q⟩ := h
  have hu := hu_of hr
  have L_looked_at : 96 ≤ 96 := Nat.le_refl _
  refine ⟨_, (pss_cons (ps_set (i := 1) nd rfl (Or.inl rfl) pe_dnewK)
      (pss_cons (ps_for PassesOwn.never rfl (pi_enumT (by rfl) B.enumerate (pa_cons (pv 0) pa_nil)) (pg_tup rfl (pgs_cons (pg_name (i := 2) nd rfl (Or.inl rfl)) (pgs_cons (pg_tup rfl (pgs_cons (pg_name (i := 3) nd rfl (Or.inl rfl)) (pgs_cons (pg_name (i := 4) nd rfl (Or.inl rfl)) pgs_nil))) pgs_nil)))
        (pss_cons (ps_if (pt_cmp (pc_din hu (pv 3) (pv 1)))
          (pss_one ps_never)
          pss_nil)
        (pss_one (ps_dput hu (pv 1) (pv 3) (pe_cal c_looked_at (hr.mono L_looked_at) (by rfl) (pa_cons (pv 4) (pa_cons (pv 1) (pa_cons (pv 2) pa_nil)))) rfl))))
      (pss_one (ps_ret (pv 1))))), ?_⟩
  refine fun p hp => ?_
  have s1 := same_new hp (.dK [])
  refine ⟨_, rfl, a, _, rfl, SqT.of (s1 _ _ ha), ?_⟩
  refine for_enumT (xs := [V.ref t]) (fun i σ' H' => (∃ x1 x2 x3, σ' = [some (.ref a), some (.ref p), x1, x2, x3]) ∧ SameX [p] (upd H p (.dK [])) H' ∧ (i = 0 → H' p = some (.dK [])) ∧
    (i = 1 → ∃ r m, H' p = some (.dK [(.inr "x", r)]) ∧ IsM H' r m ∧ Does m (e.S env))) ?_ ?_ ?_ ?_
  · exact ⟨⟨_, _, _, rfl⟩, SameX.refl _ _, fun _ => upd_same, fun h => nomatch h⟩
  · intro i σ' H' hP
    refine SqT.of (hP.2.1 _ _ (fun z => ?_) (s1 _ _ ha))
    rw [List.mem_singleton.mp z, hp] at ha
    cases ha
  · intro i x T σ' H' hxi hP hT
    obtain ⟨⟨x1, x2, x3, rfl⟩, sx, h0, _⟩ := hP
    have hi : i = 0 := by
      have := (List.getElem?_eq_some_iff.mp hxi).1
      have h1 : i < 1 := this
      omega
    subst hi
    have ex : x = .ref t := (Option.some.inj hxi).symm
    subst ex
    have hp0 := h0 rfl
    have sT := same_new hT (.tup [.int ((0 : Nat) : Int), .ref t])
    have hp1 := sT _ _ hp0
    have sH : Same H H' := fun b o hb => by
      have hbp : b ≠ p := fun z => by rw [z, hp] at hb; cases hb
      exact sx _ _ (fun z => hbp (List.mem_singleton.mp z)) (s1 _ _ hb)
    refine ⟨T, _, rfl, SqT.of upd_same, rfl, _, _, rfl, _, _, rfl, t, _, rfl, SqT.of (sT _ _ (sH _ _ ht)), rfl, _, _, rfl, _, _, rfl, rfl, rfl, ?_⟩
    refine ⟨_, rfl, _, rfl, p, none, rfl, DGet.k (k := .inr "x") hp1, _, rfl, ?_⟩
    refine iteF ⟨_, rfl, _, rfl, _, rfl, u, e, p, [], env, wn, _, rfl, (he.mono sH.tk).mono sT.tk, ⟨[], hp1, .nil⟩, ⟨.nil, by decide⟩, (fun x m h => (nomatch h)), hin, hsm, hw, hd, fun r m H3 s3 hm dm hl => ?_⟩
    refine ⟨_, rfl, _, rfl, p, _, rfl, DPut.k (k := .inr "x") (s3 _ _ hp1) (by decide), ?_⟩
    have tkp := tk_dK (s3 _ _ hp1) (.dK (putK [] (Sum.inr "x") r))
    refine ⟨⟨_, _, _, rfl⟩, sx.trans ((sT.x _).trans ((s3.x _).trans (samex_upd _ (List.mem_singleton.mpr rfl)))), fun h => absurd h (by decide), fun _ => ⟨r, m, upd_same, hm.mono tkp, dm⟩⟩
  · intro σ' H' hP
    obtain ⟨⟨x1, x2, x3, rfl⟩, sx, _, h1⟩ := hP
    obtain ⟨r, m, hp1, hm, dm⟩ := h1 rfl
    have hsame : Same H H' := fun b o hb => by
      have hbp : b ≠ p := fun z => by rw [z, hp] at hb; cases hb
      exact sx _ _ (fun z => hbp (List.mem_singleton.mp z)) (s1 _ _ hb)
    exact ⟨_, rfl, q p r m H' hsame hp1 hm dm⟩
theorem cal_maps_of (B : Blt mg) (D : DefAt K mg "maps_of" s_maps_of P_maps_of) (c_looked_at : Cal P w K mg base 96 "looked_at" P_looked_at spLookedAt) : Cal P w K mg base 97 "maps_of" P_maps_of spMapsOf :=
  D.cal fun _ _ F => ok_maps_of B F c_looked_at
end
end Hw
set_option maxHeartbeats 1000000
/-! Halvewright: the law's draws. -/
namespace Hw
open PySem L2

/-- the state of the draws -/
def IsSt (H : Hp) (st sl : Addr) (ns : List Int) : Prop := H sl = some (.lst (ns.map V.int)) ∧ ns.length ≤ 63 ∧ ∃ (a : Int) (b c : Nat), H st = some (.lst [.ref sl, .int a, .int b, .int c])
theorem IsSt.ne {H : Hp} {st sl : Addr} {ns : List Int} (h : IsSt H st sl ns) : sl ≠ st := by
  obtain ⟨h1, _, a, b, c, h2⟩ := h
  intro e
  rw [e, h2] at h1
  cases ns with
  | nil => cases h1
  | cons _ _ => cases h1
theorem IsSt.same {H H' : Hp} {st sl : Addr} {ns : List Int} (h : IsSt H st sl ns) (s : Same H H') : IsSt H' st sl ns := by
  obtain ⟨h1, h3, a, b, c, h2⟩ := h
  exact ⟨s _ _ h1, h3, a, b, c, s _ _ h2⟩
theorem IsSt.tk {H H' : Hp} {st sl : Addr} {ns : List Int} (h : IsSt H st sl ns) (s : SameX [st] H H') : Tk H H' := by
  obtain ⟨_, _, a, b, c, h2⟩ := h
  exact s.tk1 h2
section
variable {P : Program} {w : World} {K : PySem.W.Frag} {mg : Str → Option Value} {base : Heap} {f : Addr} {fd : FuncData}
abbrev s__law_draw : Stmt := top 55
abbrev N__law_draw : List Str := ["_law_state", "_law_many", "_law_found", "_law_cell", "_law_number"]
abbrev P__law_draw : List Str := ["_law_state", "_law_many"]
theorem sc__law_draw : FnScope N__law_draw P__law_draw (defScope s__law_draw) := ⟨rfl, rfl, rfl, by decide +kernel, rfl, by decide +kernel, by decide +kernel⟩
def spDraw : Sp := fun vs H Q _ => ∃ (st sl : Addr) (ns : List Int) (m : Nat), vs = [.ref st, .int m] ∧ IsSt H st sl ns ∧ 0 < m ∧ m < 1000000000 ∧
  ∀ (d : Nat) H', d < m → SameX [st] H H' → IsSt H' st sl ns → Q (.int d) H'
theorem emod_nat (x : Int) {m : Nat} (h : 0 < m) : ∃ d : Nat, x % (m : Int) = (d : Int) ∧ d < m := by
  have h1 := Int.emod_nonneg x (show (m : Int) ≠ 0 by omega)
  have h2 := Int.emod_lt_of_pos x (show (0 : Int) < (m : Int) by omega)
  exact ⟨(x % (m : Int)).toNat, by omega, by omega⟩
theorem mod_small {x k : Int} (hk : 0 < k) (h : k < 2 ^ 62) : -(2 ^ 64) < x % k ∧ x % k < 2 ^ 64 := by
  have h1 := Int.emod_nonneg x (show k ≠ 0 by omega)
  have h2 := Int.emod_lt_of_pos x hk
  omega
theorem ok__law_draw (B : Blt mg) (F : Fun K "_law_draw" "_law_draw" s__law_draw f fd) : FnOk P w K mg base CX0 1 f fd P__law_draw spDraw := by
  have nd := sc__law_draw.nd
  refine F.ok sc__law_draw (fun vs H Q E h => ?_) (fun cdv A outer s H vs Q E hr h => ?_)
  · obtain ⟨st, sl, ns, m, rfl, _⟩ := h; rfl
  obtain ⟨st, sl, ns, m, rfl, hs, hm0, hm1, q⟩ := h
  refine ⟨_, (pss_cons (ps_asg (pe_op op_add (pe_ix ix_list (pv 0) pe_int (fun _ _ => rfl)) pe_int) (pg_sub (pv 0) pe_int set_list))
      (pss_cons (ps_if (pt_cmpR op_gt (pe_ix ix_list (pv 0) pe_int (fun _ _ => rfl)) pe_int (nomark _))
        (pss_cons (ps_set (i := 2) nd rfl (Or.inl rfl) (pe_op op_mod (pe_ix ix_list (pv 0) pe_int (fun _ _ => rfl)) (pv 1)))
        (pss_cons (ps_asg (pe_op op_fdiv (pe_ix ix_list (pv 0) pe_int (fun _ _ => rfl)) (pv 1)) (pg_sub (pv 0) pe_int set_list))
        (pss_one (ps_ret (pv 2)))))
        pss_nil)
      (pss_cons (ps_set (i := 3) nd rfl (Or.inl rfl) pe_int)
      (Evl.pss_cut (ps_if (pt_cmpR op_lt (pe_ix ix_list (pv 0) pe_int (fun _ _ => rfl)) (pe_callB call_len_seq (by rfl) B.len PySem.boot_len (pa_cons (pe_ix ix_list (pv 0) pe_int (fun _ _ => rfl)) pa_nil)) (nomark _))
        (pss_cons (ps_set (i := 3) nd rfl (Or.inl rfl) (pe_ix ix_list (pe_ix ix_list (pv 0) pe_int (fun _ _ => rfl)) (pe_ix ix_list (pv 0) pe_int (fun _ _ => rfl)) (fun _ _ => rfl)))
        (pss_cons (ps_asg (pe_op op_add (pe_ix ix_list (pv 0) pe_int (fun _ _ => rfl)) pe_int) (pg_sub (pv 0) pe_int set_list))
        (pss_one (ps_if (pt_cmpR op_ge (pv 3) (pe_op op_pow pe_int pe_int) (nomark _))
          (pss_cons (ps_asg (pe_op op_fdiv (pv 3) (pv 1)) (pg_sub (pv 0) pe_int set_list))
          (pss_one (ps_ret (pe_op op_mod (pv 3) (pv 1)))))
          pss_nil))))
        (pss_one (ps_if (pt_cmpR op_gt (pe_callB call_len_seq (by rfl) B.len PySem.boot_len (pa_cons (pe_ix ix_list (pv 0) pe_int (fun _ _ => rfl)) pa_nil)) pe_int (nomark _))
          (pss_one (ps_set (i := 3) nd rfl (Or.inl rfl) (pe_ix ix_list (pe_ix ix_list (pv 0) pe_int (fun _ _ => rfl)) (pe_op op_mod (pe_ix ix_list (pv 0) pe_int (fun _ _ => rfl)) (pe_callB call_len_seq (by rfl) B.len PySem.boot_len (pa_cons (pe_ix ix_list (pv 0) pe_int (fun _ _ => rfl)) pa_nil))) (fun _ _ => rfl))))
          pss_nil)))
      (pss_cons (ps_set (i := 4) nd rfl (Or.inl rfl) (pe_op op_mod (pe_op op_add (pe_op op_add (pe_op op_mul (pv 3) pe_int) (pe_op op_mul pe_int (pe_ix ix_list (pv 0) pe_int (fun _ _ => rfl)))) pe_int) pe_int))
      (pss_cons (ps_set (i := 4) nd rfl (Or.inl rfl) (pe_op op_mod (pe_op op_add (pe_op op_mul (pv 4) (pv 4)) (pe_op op_mul pe_int (pe_ix ix_list (pv 0) pe_int (fun _ _ => rfl)))) pe_int))
      (pss_cons (ps_set (i := 4) nd rfl (Or.inl rfl) (pe_op op_mod (pe_op op_add (pe_op op_mul (pv 4) pe_int) pe_int) pe_int))
      (pss_one (ps_ret (pe_op op_mod (pe_op op_mod (pe_op op_mul (pv 4) (pv 4)) pe_int) (pv 1))))))))))), ?_⟩
  have hne := hs.ne
  obtain ⟨h1, h63, a, b, c, h2⟩ := hs
  have md : (0 : Int) < (m : Int) ∧ (m : Int) < 1073741824 := ⟨by omega, by omega⟩
  have Qm : ∀ (x : Int) (H' : Hp), SameX [st] H H' → IsSt H' st sl ns → Q (.int (x % (m : Int))) H' := fun x H' s3 i => by
    obtain ⟨d, ed, hd⟩ := emod_nat x hm0
    have := q d H' hd s3 i
    rw [← ed] at this
    exact this
  have keepS : ∀ {H1 : Hp} (o : HO), SameX [st] H H1 → SameX [st] H (upd H1 st o) := fun o s => s.trans (samex_upd _ (List.mem_singleton.mpr rfl))
  have keepL : ∀ {H1 : Hp} (o : HO), H1 sl = some (.lst (ns.map V.int)) → (upd H1 st o) sl = some (.lst (ns.map V.int)) := fun o e => by rw [upd_ne hne]; exact e
  refine ⟨_, rfl, st, _, 2, _, rfl, rfl, SqL.of h2, rfl, _, _, rfl, rfl, _, rfl, st, _, 2, 2, rfl, rfl, h2, rfl, ?_⟩
  have hb : (b : Int) + 1 = ((b + 1 : Nat) : Int) := by omega

  have s1 := keepS (.lst [.ref sl, .int a, .int ((b + 1 : Nat) : Int), .int c]) (SameX.refl _ H)
  have l1 := keepL (.lst [.ref sl, .int a, .int ((b + 1 : Nat) : Int), .int c]) h1
  have e1 : (upd H st (.lst [.ref sl, .int a, .int ((b + 1 : Nat) : Int), .int c])) st = some (.lst [.ref sl, .int a, .int ((b + 1 : Nat) : Int), .int c]) := upd_same
  show tSeq _ _ _ _ (upd H st (.lst [.ref sl, .int a, .int ((b + 1 : Nat) : Int), .int c]))
  generalize upd H st (.lst [.ref sl, .int a, .int ((b + 1 : Nat) : Int), .int c]) = H1 at s1 l1 e1
  refine ⟨_, rfl, st, _, 1, _, rfl, rfl, SqL.of e1, rfl, _, _, rfl, rfl, _, rfl, ?_⟩
  by_cases ha : a > 0
  · rw [decide_eq_true ha]
    refine iteT ⟨_, rfl, st, _, 1, _, rfl, rfl, SqL.of e1, rfl, _, rfl, _, _, rfl, rfl, md.1, ?_⟩
    refine ⟨_, rfl, st, _, 1, _, rfl, rfl, SqL.of e1, rfl, _, rfl, _, _, rfl, rfl, md, _, rfl, st, _, 1, 1, rfl, rfl, e1, rfl, ?_⟩
    exact ⟨_, rfl, Qm a _ (keepS _ s1) ⟨keepL _ l1, h63, _, _, _, upd_same⟩⟩
  rw [decide_eq_false ha]
  refine iteF ?_
  refine ⟨fun σ' H' => ∃ (x2 x4 : Option V) (cell a' : Int) (c' : Nat), σ' = [some (.ref st), some (.int m), x2, some (.int cell), x4] ∧ SameX [st] H H' ∧ H' sl = some (.lst (ns.map V.int)) ∧ H' st = some (.lst [.ref sl, .int a', .int ((b + 1 : Nat) : Int), .int c']), ?_, ?_⟩
  · refine ⟨_, rfl, st, _, 3, _, rfl, rfl, SqL.of e1, rfl, _, rfl, st, _, 0, _, rfl, rfl, SqL.of e1, rfl, sl, _, rfl, .inl (SqL.of l1), _, _, rfl, rfl, _, rfl, ?_⟩
    rw [List.length_map]
    by_cases hc : (c : Int) < (ns.length : Int)
    · rw [decide_eq_true hc]
      have hcl : c < ns.length := by omega
      have hat : atI (ns.map V.int) (c : Int) = some (.int ns[c]) := atI_nat (by rw [List.getElem?_map, List.getElem?_eq_getElem hcl]; rfl)
      refine iteT ⟨_, rfl, st, _, 0, _, rfl, rfl, SqL.of e1, rfl, _, rfl, st, _, 3, _, rfl, rfl, SqL.of e1, rfl, sl, _, _, _, rfl, rfl, SqL.of l1, hat, ?_⟩
      refine ⟨_, rfl, st, _, 3, _, rfl, rfl, SqL.of e1, rfl, _, _, rfl, rfl, _, rfl, st, _, 3, 3, rfl, rfl, e1, rfl, ?_⟩
      have hc1 : (c : Int) + 1 = ((c + 1 : Nat) : Int) := by omega

      have s2 := keepS (.lst [.ref sl, .int a, .int ((b + 1 : Nat) : Int), .int ((c + 1 : Nat) : Int)]) s1
      have l2 := keepL (.lst [.ref sl, .int a, .int ((b + 1 : Nat) : Int), .int ((c + 1 : Nat) : Int)]) l1
      have e2 : (upd H1 st (.lst [.ref sl, .int a, .int ((b + 1 : Nat) : Int), .int ((c + 1 : Nat) : Int)])) st = some (.lst [.ref sl, .int a, .int ((b + 1 : Nat) : Int), .int ((c + 1 : Nat) : Int)]) := upd_same
      refine ⟨_, rfl, _, _, rfl, rfl, ⟨by decide, by decide, by decide⟩, _, _, rfl, rfl, _, rfl, ?_⟩
      refine ite2 (fun _ => ?_) (fun _ => ?_)
      · refine ⟨_, rfl, _, rfl, _, _, rfl, rfl, md, _, rfl, st, _, 1, 1, rfl, rfl, e2, rfl, ?_⟩
        exact ⟨_, rfl, _, rfl, _, _, rfl, rfl, md.1, Qm ns[c] _ (keepS _ s2) ⟨keepL _ l2, h63, _, _, _, upd_same⟩⟩
      · exact ⟨_, _, _, _, _, rfl, s2, l2, e2⟩
    · rw [decide_eq_false hc]
      refine iteF ⟨_, rfl, st, _, 0, _, rfl, rfl, SqL.of e1, rfl, sl, _, rfl, .inl (SqL.of l1), _, _, rfl, rfl, _, rfl, ?_⟩
      rw [List.length_map]
      by_cases h0 : (ns.length : Int) > 0
      · rw [decide_eq_true h0]
        obtain ⟨d, ed, hd⟩ := emod_nat ((b + 1 : Nat) : Int) (m := ns.length) (by omega)
        have hat : atI (ns.map V.int) (((b + 1 : Nat) : Int) % (ns.length : Int)) = some (.int ns[d]) := by
          rw [ed]
          exact atI_nat (by rw [List.getElem?_map, List.getElem?_eq_getElem hd]; rfl)
        refine iteT ⟨_, rfl, st, _, 0, _, rfl, rfl, SqL.of e1, rfl, _, rfl, st, _, 2, _, rfl, rfl, SqL.of e1, rfl, _, rfl, st, _, 0, _, rfl, rfl, SqL.of e1, rfl, sl, _, rfl, .inl (SqL.of l1), _, _, rfl, rfl, ?_, ?_⟩
        · rw [List.length_map]; exact h0
        · rw [List.length_map]
          exact ⟨sl, _, _, _, rfl, rfl, SqL.of l1, hat, _, _, _, _, _, rfl, s1, l1, e1⟩
      · rw [decide_eq_false h0]
        exact iteF ⟨_, _, _, _, _, rfl, s1, l1, e1⟩
  · rintro σ' H' ⟨x2, x4, cell, a', c', rfl, s3, l3, e3⟩
    refine ⟨_, rfl, _, _, rfl, rfl, .inr ⟨by decide, by decide⟩, _, rfl, st, _, 2, _, rfl, rfl, SqL.of e3, rfl, _, _, rfl, rfl, .inl ⟨by decide, by decide⟩, _, _, rfl, rfl, _, _, rfl, rfl, _, _, rfl, rfl, (show (0 : Int) < 2147483647 by decide), ?_⟩
    refine ⟨_, rfl, _, rfl, _, _, rfl, rfl, .inl (mod_small (by decide) (by decide)), _, rfl, st, _, 2, _, rfl, rfl, SqL.of e3, rfl, _, _, rfl, rfl, .inl ⟨by decide, by decide⟩, _, _, rfl, rfl, _, _, rfl, rfl, (show (0 : Int) < 2147483629 by decide), ?_⟩
    refine ⟨_, rfl, _, _, rfl, rfl, .inr ⟨by decide, by decide⟩, _, _, rfl, rfl, _, _, rfl, rfl, (show (0 : Int) < 2147483587 by decide), ?_⟩
    exact ⟨_, rfl, _, rfl, _, _, rfl, rfl, .inl (mod_small (by decide) (by decide)), _, _, rfl, rfl, (show (0 : Int) < 2147483579 by decide), _, rfl, _, _, rfl, rfl, md.1, Qm _ _ s3 ⟨l3, h63, _, _, _, e3⟩⟩
theorem cal__law_draw (B : Blt mg) (D : DefAt K mg "_law_draw" s__law_draw P__law_draw) : Cal P w K mg base 1 "_law_draw" P__law_draw spDraw := D.cal fun _ _ F => ok__law_draw B F
end
end Hw
set_option maxHeartbeats 1000000
/-! Halvewright: the law's names and expressions. -/
namespace Hw
open PySem L2

abbrev words5 : List Str := ["one", "low", "high", "as", "com"]
abbrev words12 : List Str := ["trees", "breaks", "row", "normal", "length", "send", "part", "alike", "root", "rings", "made", "kept"]
abbrev words6 : List Str := ["m", "mm", "a", "o", "on", "lo"]
theorem words18_ok : ∀ x ∈ words12 ++ words6, okName x.cps.toList = true := by decide +kernel
theorem words5_more : ∀ x ∈ words5, ∀ k : Fin 26, okName ((x ++ (⟨#[97 + k.1]⟩ : Str)).cps.toList) = true := by decide +kernel
theorem words5_e : ∀ x ∈ words5, okName ((x ++ (Str.ofString "e")).cps.toList) = true := by decide +kernel
theorem words5_len : ∀ x ∈ words5, x.length ≤ 4 := by decide +kernel
theorem small_at {k : Nat} (h : k < 26) : atI sSmall.cps.toList (k : Int) = some (97 + k) := by
  refine atI_nat ?_
  have hh : ∀ k : Fin 26, sSmall.cps.toList[k.1]? = some (97 + k.1) := by decide +kernel
  exact hh ⟨k, h⟩
theorem strs_at {xs : List Str} {k : Nat} (h : k < xs.length) : ∃ x, x ∈ xs ∧ atI (xs.map V.str) (k : Int) = some (.str x) :=
  ⟨xs[k], List.getElem_mem h, atI_nat (by rw [List.getElem?_map, List.getElem?_eq_getElem h]; rfl)⟩
theorem snoc_list (x : Str) (c : Nat) : (x ++ (⟨#[c]⟩ : Str)).cps.toList = x.cps.toList ++ [c] := by
  rw [str_append]
  rfl
theorem snoc_len (x : Str) (c : Nat) : (x ++ (⟨#[c]⟩ : Str)).length = x.length + 1 := by
  rw [str_append, mk_len, List.length_append]
  show x.cps.toList.length + 1 = x.cps.size + 1
  rw [Array.length_toList]
theorem small_sign {k : Nat} (h : k < 26) : isSmall (97 + k) = true := by
  unfold isSmall
  rw [decide_eq_true (show 97 ≤ 97 + k by omega), decide_eq_true (show 97 + k ≤ 122 by omega)]
  rfl
theorem taken_in {x : Str} (h : taken x.cps.toList = true) : x ∈ words5 := by
  unfold taken at h
  simp only [Bool.or_eq_true, beq_iff_eq] at h
  have e : ∀ (l : List Nat) (s : Str), s = mk l → x.cps.toList = l → x = s := fun l s e1 e2 => by
    rw [e1, ← e2]
    rfl
  rcases h with (((h | h) | h) | h) | h
  · rw [e _ _ z_one h]; exact List.mem_cons_self
  · rw [e _ _ z_low h]; exact List.mem_cons_of_mem _ List.mem_cons_self
  · rw [e _ _ z_high h]; exact List.mem_cons_of_mem _ (List.mem_cons_of_mem _ List.mem_cons_self)
  · rw [e _ _ z_as h]; exact List.mem_cons_of_mem _ (List.mem_cons_of_mem _ (List.mem_cons_of_mem _ List.mem_cons_self))
  · rw [e _ _ z_com h]; exact List.mem_cons_of_mem _ (List.mem_cons_of_mem _ (List.mem_cons_of_mem _ (List.mem_cons_of_mem _ List.mem_cons_self)))
/-- what is new stays through a draw -/
theorem SameX.new {st p : Addr} {H H1 : Hp} {o : HO} (s : SameX [st] H H1) (hst : p ≠ st) (h : H p = some o) : H1 p = some o := s _ _ (fun z => hst (List.mem_singleton.mp z)) h
theorem IsSt.fresh {H : Hp} {st sl p : Addr} {ns : List Int} (h : IsSt H st sl ns) (hp : H p = none) : p ≠ st := fun z => by
  obtain ⟨_, _, a, b, c, h2⟩ := h
  rw [z, h2] at hp
  cases hp
section
variable {P : Program} {w : World} {K : PySem.W.Frag} {mg : Str → Option Value} {base : Heap} {f : Addr} {fd : FuncData}
abbrev s__law_name : Stmt := top 56
abbrev N__law_name : List Str := ["_law_state", "_law_taken", "_law_style", "_law_word", "_law_words", "_law_name_here", "_law_k"]
abbrev P__law_name : List Str := ["_law_state"]
theorem sc__law_name : FnScope N__law_name P__law_name (defScope s__law_name) := ⟨rfl, rfl, rfl, by decide +kernel, rfl, by decide +kernel, by decide +kernel⟩
def spLawName : Sp := fun vs H Q _ => ∃ (st sl : Addr) (ns : List Int), vs = [.ref st] ∧ IsSt H st sl ns ∧
  ∀ (x : Str) H', okName x.cps.toList = true → SameX [st] H H' → IsSt H' st sl ns → Q (.str x) H'
theorem ok__law_name (B : Blt mg) (F : Fun K "_law_name" "_law_name" s__law_name f fd) (c__law_draw : Cal P w K mg base 1 "_law_draw" P__law_draw spDraw) : FnOk P w K mg base CX0 2 f fd P__law_name spLawName := by
  have nd := sc__law_name.nd
  refine F.ok sc__law_name (fun vs H Q E h => ?_) (fun cdv A outer s H vs Q E hr h => ?_)
  · obtain ⟨st, sl, ns, rfl, _⟩ := h; rfl
  obtain ⟨st, sl, ns, rfl, hs, q⟩ := h
  have L__law_draw : 1 ≤ 1 := Nat.le_refl _
  refine ⟨_, (pss_cons (ps_set (i := 1) nd rfl (Or.inl rfl) (pe_lst (pa_cons pe_str (pa_cons pe_str (pa_cons pe_str (pa_cons pe_str (pa_cons pe_str pa_nil)))))))
      (pss_cons (ps_set (i := 2) nd rfl (Or.inl rfl) (pe_cal c__law_draw (hr.mono L__law_draw) (by rfl) (pa_cons (pv 0) (pa_cons pe_int pa_nil))))
      (pss_cons (ps_set (i := 3) nd rfl (Or.inl rfl) (pe_ix ix_list (pv 1) (pe_cal c__law_draw (hr.mono L__law_draw) (by rfl) (pa_cons (pv 0) (pa_cons pe_int pa_nil))) (fun _ _ => rfl)))
      (pss_cons (ps_if (pt_cmpR op_eq (pv 2) pe_int (nomark _))
        (pss_one (ps_ret (pe_op op_add_str (pv 3) (pe_ix ix_str pe_str (pe_cal c__law_draw (hr.mono L__law_draw) (by rfl) (pa_cons (pv 0) (pa_cons pe_int pa_nil))) (fun _ _ => rfl)))))
        pss_nil)
      (pss_cons (ps_if (pt_cmpR op_eq (pv 2) pe_int (nomark _))
        (pss_cons (ps_set (i := 4) nd rfl (Or.inl rfl) (pe_lst (pa_cons pe_str (pa_cons pe_str (pa_cons pe_str (pa_cons pe_str (pa_cons pe_str (pa_cons pe_str (pa_cons pe_str (pa_cons pe_str (pa_cons pe_str (pa_cons pe_str (pa_cons pe_str (pa_cons pe_str pa_nil))))))))))))))
        (pss_one (ps_ret (pe_ix ix_list (pe_op op_cat (pv 4) (pe_lst (pa_cons pe_str (pa_cons pe_str (pa_cons pe_str (pa_cons pe_str (pa_cons pe_str (pa_cons pe_str pa_nil)))))))) (pe_cal c__law_draw (hr.mono L__law_draw) (by rfl) (pa_cons (pv 0) (pa_cons pe_int pa_nil))) (fun _ _ => rfl)))))
        pss_nil)
      (pss_cons (ps_set (i := 5) nd rfl (Or.inl rfl) pe_str)
      (pss_cons (ps_for PassesOwn.never rfl (pi_range1 (by rfl) B.range (pa_cons (pe_op op_add pe_int (pe_cal c__law_draw (hr.mono L__law_draw) (by rfl) (pa_cons (pv 0) (pa_cons pe_int pa_nil)))) pa_nil)) (pg_name (i := 6) nd rfl (Or.inl rfl))
        (pss_one (ps_set (i := 5) nd rfl (Or.inl rfl) (pe_op op_add_str (pv 5) (pe_ix ix_str pe_str (pe_cal c__law_draw (hr.mono L__law_draw) (by rfl) (pa_cons (pv 0) (pa_cons pe_int pa_nil))) (fun _ _ => rfl))))))
      (pss_cons (ps_if (pt_cmpR op_in_seq (pv 5) (pv 1) (by rfl))
        (pss_one (ps_set (i := 5) nd rfl (Or.inl rfl) (pe_op op_add_str (pv 5) pe_str)))
        pss_nil)
      (pss_one (ps_ret (pv 5))))))))))), ?_⟩
  refine ⟨(by show 5 ≤ sizeLine; decide), fun p hp => ?_⟩
  have s1 := same_new hp (.lst (words5.map V.str))
  have hpst := hs.fresh hp
  have i1 := hs.same s1
  refine ⟨_, rfl, st, sl, ns, 6, rfl, i1, by decide, by decide, fun d2 H2 hd2 s2 i2 => ?_⟩
  have p2 := s2.new hpst (show _ = some (.lst (words5.map V.str)) from upd_same)
  refine ⟨_, rfl, _, rfl, st, sl, ns, 5, rfl, i2, by decide, by decide, fun d3 H3 hd3 s3 i3 => ?_⟩
  have p3 := s3.new hpst p2
  obtain ⟨wd, hwd, ewd⟩ := strs_at (xs := words5) hd3
  refine ⟨p, _, _, _, rfl, rfl, SqL.of p3, ewd, ?_⟩
  have s03 : SameX [st] H H3 := (s1.x [st]).trans (s2.trans s3)
  have zs : sSmall.length ≤ sizeLine := by decide
  refine ⟨_, rfl, rfl, _, rfl, ?_⟩
  refine ite2 (fun _ => ?_) (fun _ => ?_)
  · refine ⟨_, rfl, _, rfl, st, sl, ns, 26, rfl, i3, by decide, by decide, fun d4 H4 hd4 s4 i4 => ?_⟩
    refine ⟨sSmall, _, _, rfl, rfl, zs, small_at hd4, _, _, rfl, rfl, ?_, ?_⟩
    · have := words5_len wd hwd
      exact line1000 (by show wd.length + 1 ≤ 10000; omega)
    · exact q _ H4 (words5_more wd hwd ⟨d4, hd4⟩) (s03.trans s4) i4
  refine ⟨_, rfl, rfl, _, rfl, ?_⟩
  refine ite2 (fun _ => ?_) (fun _ => ?_)
  · refine ⟨(by show 12 ≤ sizeLine; decide), fun p4 hp4 => ?_⟩
    have s4 := same_new hp4 (.lst (words12.map V.str))
    refine ⟨_, rfl, (by show 6 ≤ sizeLine; decide), fun p5 hp5 => ?_⟩
    have s5 := same_new hp5 (.lst (words6.map V.str))
    refine ⟨p4, p5, words12.map V.str, words6.map V.str, rfl, rfl, s5 _ _ upd_same, upd_same, (by decide), fun p6 hp6 => ?_⟩
    have i5 := (i3.same s4).same s5
    have s6 := same_new hp6 (.lst (words12.map V.str ++ words6.map V.str))
    have i6 := i5.same s6
    have hp6st := i5.fresh hp6
    refine ⟨_, rfl, st, sl, ns, 18, rfl, i6, by decide, by decide, fun d7 H7 hd7 s7 i7 => ?_⟩
    obtain ⟨x, hx, ex⟩ := strs_at (xs := words12 ++ words6) hd7
    have p7 := s7.new hp6st (show _ = some (.lst (words12.map V.str ++ words6.map V.str)) from upd_same)
    rw [← List.map_append] at p7
    refine ⟨p6, _, _, _, rfl, rfl, SqL.of p7, ex, ?_⟩
    exact q x H7 (words18_ok x hx) (s03.trans ((s4.x _).trans ((s5.x _).trans ((s6.x _).trans s7)))) i7
  refine ⟨_, rfl, st, sl, ns, 6, rfl, i3, by decide, by decide, fun d4 H4 hd4 s4 i4 => ?_⟩
  have s04 := s03.trans s4
  have p4 := s4.new hpst p3
  refine ⟨_, _, rfl, rfl, _, rfl, by omega, by omega, ?_⟩
  have en : ((1 : Int) + (d4 : Int)).toNat = d4 + 1 := by omega
  rw [en]
  refine for_range (lo := 0) (n := d4 + 1) (fun i σ' H' => ∃ (x : Str) (a2 a3 a4 a6 : Option V), σ' = [some (.ref st), some (.ref p), a2, a3, a4, some (.str x), a6] ∧ x.cps.toList.length = i ∧ x.cps.toList.all isSmall = true ∧ SameX [st] H H' ∧ IsSt H' st sl ns ∧ H' p = some (.lst (words5.map V.str))) ?_ ?_ ?_
  · exact ⟨_, _, _, _, _, rfl, rfl, rfl, s04, i4, p4⟩
  · intro i σ' H' hi hw
    obtain ⟨x, a2, a3, a4, a6, rfl, hx1, hx2, sx, ix, px⟩ := hw
    refine ⟨_, rfl, _, rfl, st, sl, ns, 26, rfl, ix, by decide, by decide, fun d5 H5 hd5 s5 i5 => ?_⟩
    refine ⟨sSmall, _, _, rfl, rfl, zs, small_at hd5, _, _, rfl, rfl, ?_, ?_⟩
    · have e : x.length = i := by rw [← hx1]; exact (Array.length_toList).symm
      rw [e]
      exact line1000 (by show i + 1 ≤ 10000; omega)
    · refine ⟨_, _, _, _, _, rfl, ?_, ?_, sx.trans s5, i5, s5.new hpst px⟩
      · rw [snoc_list, List.length_append, hx1]; rfl
      · rw [snoc_list, List.all_append, hx2]
        simp [small_sign hd5]
  · intro σ' H' hw
    obtain ⟨x, a2, a3, a4, a6, rfl, hx1, hx2, sx, ix, px⟩ := hw
    refine ⟨_, rfl, _, rfl, p, _, rfl, .inl (SqL.of px), rfl, (by decide), _, rfl, ?_⟩
    have hT : inV (.str x) (words5.map V.str) = taken x.cps.toList := inV_taken x.cps.toList
    show if (if false = true then !inV (V.str x) (words5.map V.str) else inV (V.str x) (words5.map V.str)) = true then _ else _
    rw [if_neg (show ¬ (false = true) by decide), hT]
    cases ht : taken x.cps.toList with
    | true =>
      have hx5 := taken_in ht
      have := words5_len x hx5
      refine iteT ⟨_, rfl, _, _, rfl, rfl, ?_, _, rfl, ?_⟩
      · exact line1000 (by show x.length + 1 ≤ 10000; omega)
      · exact q _ H' (words5_e x hx5) sx ix
    | false =>
      refine iteF ⟨_, rfl, q x H' ?_ sx ix⟩
      unfold okName
      rw [ht, hx2, decide_eq_true (show 1 ≤ x.cps.toList.length by omega), decide_eq_true (show x.cps.toList.length ≤ 6 by omega)]
      rfl
theorem cal__law_name (B : Blt mg) (D : DefAt K mg "_law_name" s__law_name P__law_name) (c__law_draw : Cal P w K mg base 1 "_law_draw" P__law_draw spDraw) : Cal P w K mg base 2 "_law_name" P__law_name spLawName :=
  D.cal fun _ _ F => ok__law_name B F c__law_draw

abbrev s__law_leaf : Stmt := top 57
abbrev N__law_leaf : List Str := ["_law_state", "_law_pool", "_law_kind"]
abbrev P__law_leaf : List Str := ["_law_state", "_law_pool"]
theorem sc__law_leaf : FnScope N__law_leaf P__law_leaf (defScope s__law_leaf) := ⟨rfl, rfl, rfl, by decide +kernel, rfl, by decide +kernel, by decide +kernel⟩
def IsPool (H : Hp) (pl st : Addr) (xs : List Str) : Prop := H pl = some (.lst (xs.map V.str)) ∧ pl ≠ st ∧ xs.length ≤ 100
theorem IsPool.x {H H' : Hp} {pl st : Addr} {xs : List Str} (h : IsPool H pl st xs) (s : SameX [st] H H') : IsPool H' pl st xs := ⟨s.new h.2.1 h.1, h.2⟩
theorem IsPool.same {H H' : Hp} {pl st : Addr} {xs : List Str} (h : IsPool H pl st xs) (s : Same H H') : IsPool H' pl st xs := h.x (s.x _)
def spLeaf : Sp := fun vs H Q _ => ∃ (st sl pl : Addr) (ns : List Int) (xs : List Str), vs = [.ref st, .ref pl] ∧ IsSt H st sl ns ∧ IsPool H pl st xs ∧
  ∀ (r : V) (e : Ex) H', IsE H' r e → e.Small → e.NamesIn (· ∈ xs) → e.deep = 1 → SameX [st] H H' → IsSt H' st sl ns → Q r H'
theorem pick_move {d : Nat} (h : d < 8) : ∃ m : Nat, atI [V.int 3, V.int 12] ((d : Int) / 7) = some (.int (m : Int)) ∧ 0 < m ∧ m ≤ 12 := by
  by_cases h7 : d < 7
  · have e : (d : Int) / 7 = 0 := by omega
    rw [e]
    exact ⟨3, rfl, by decide, by decide⟩
  · have e : (d : Int) / 7 = 1 := by omega
    rw [e]
    exact ⟨12, rfl, by decide, by decide⟩
theorem ok__law_leaf (B : Blt mg) (F : Fun K "_law_leaf" "_law_leaf" s__law_leaf f fd) (c__law_draw : Cal P w K mg base 1 "_law_draw" P__law_draw spDraw) : FnOk P w K mg base CX0 2 f fd P__law_leaf spLeaf := by
  have nd := sc__law_leaf.nd
  refine F.ok sc__law_leaf (fun vs H Q E h => ?_) (fun cdv A outer s H vs Q E hr h => ?_)
  · obtain ⟨st, sl, pl, ns, xs, rfl, _⟩ := h; rfl
  obtain ⟨st, sl, pl, ns, xs, rfl, hs, hpl, q⟩ := h
  have L__law_draw : 1 ≤ 1 := Nat.le_refl _
  refine ⟨_, (pss_cons (ps_set (i := 2) nd rfl (Or.inl rfl) (pe_cal c__law_draw (hr.mono L__law_draw) (by rfl) (pa_cons (pv 0) (pa_cons pe_int pa_nil))))
      (Evl.pss_cut (ps_if (PW.pt (pw_or (pt_cmpR op_eq (pv 2) pe_int (nomark _)) (pw_or1 (PW.pt (pw_and (pt_cmpR op_gt (pv 2) pe_int (nomark _)) (pw_and1 (pt_cmpR op_eq (pe_callB call_len_seq (by rfl) B.len PySem.boot_len (pa_cons (pv 1) pa_nil)) pe_int (nomark _))))))))
        (pss_one (ps_ret (pe_tup (pa_cons pe_str pa_nil))))
        pss_nil)
      (pss_cons (ps_if (pt_cmpR op_lt (pv 2) pe_int (nomark _))
        (pss_one (ps_ret (pe_tup (pa_cons pe_str (pa_cons (pe_cal c__law_draw (hr.mono L__law_draw) (by rfl) (pa_cons (pv 0) (pa_cons (pe_ix ix_list (pe_lst (pa_cons pe_int (pa_cons pe_int pa_nil))) (pe_op op_fdiv (pe_cal c__law_draw (hr.mono L__law_draw) (by rfl) (pa_cons (pv 0) (pa_cons pe_int pa_nil))) pe_int) (fun _ _ => rfl)) pa_nil))) pa_nil)))))
        pss_nil)
      (pss_one (ps_ret (pe_tup (pa_cons pe_str (pa_cons (pe_ix ix_list (pv 1) (pe_cal c__law_draw (hr.mono L__law_draw) (by rfl) (pa_cons (pv 0) (pa_cons (pe_callB call_len_seq (by rfl) B.len PySem.boot_len (pa_cons (pv 1) pa_nil)) pa_nil))) (fun _ _ => rfl)) pa_nil)))))))), ?_⟩
  refine ⟨_, rfl, st, sl, ns, 6, rfl, hs, by decide, by decide, fun d2 H2 hd2 s2 i2 => ?_⟩
  have pl2 := hpl.x s2
  refine ⟨fun σ' H' => σ' = [some (.ref st), some (.ref pl), some (.int d2)] ∧ H' = H2 ∧ (2 < d2 → xs.length ≠ 0), ?_, ?_⟩
  · have one : ∀ (D : Ends), D.rt = Q → tRet (tTup (tCons (tC (.str "one")) tNil)) D [some (.ref st), some (.ref pl), some (.int d2)] H2 := fun D hD => by
      refine ⟨(by show 1 ≤ sizeLine; decide), fun p hp => ?_⟩
      rw [hD]
      have sp := same_new hp (.tup [.str "one"])
      exact q (.ref p) .one _ ⟨p, rfl, upd_same⟩ trivial trivial rfl (s2.trans (sp.x _)) (i2.same sp)
    refine ⟨_, rfl, rfl, _, rfl, ?_⟩
    refine ite2 (fun _ => iteT (one _ rfl)) (fun _ => ?_)
    refine ⟨_, rfl, _, _, rfl, rfl, _, rfl, ?_⟩
    by_cases h2 : (d2 : Int) > 2
    · rw [decide_eq_true h2]
      refine iteT ⟨_, rfl, pl, _, rfl, .inl (SqL.of pl2.1), rfl, _, rfl, ?_⟩
      rw [Hw.dec_int, List.length_map]
      by_cases h0 : ((xs.length : Nat) : Int) = 0
      · rw [decide_eq_true h0]; exact iteT (one _ rfl)
      · rw [decide_eq_false h0]; exact iteF ⟨rfl, rfl, fun _ => by omega⟩
    · rw [decide_eq_false h2]
      exact iteF (iteF ⟨rfl, rfl, fun h => by omega⟩)
  · rintro σ' H' ⟨rfl, rfl, hx⟩
    refine ⟨_, rfl, _, _, rfl, rfl, _, rfl, ?_⟩
    by_cases h3 : (d2 : Int) < 3
    · rw [decide_eq_true h3]
      refine iteT ⟨_, rfl, (by show 2 ≤ sizeLine; decide), fun p3 hp3 => ?_⟩
      have s3 := same_new hp3 (.lst [.int 3, .int 12])
      have i3 := i2.same s3
      refine ⟨_, rfl, st, sl, ns, 8, rfl, i3, by decide, by decide, fun d4 H4 hd4 s4 i4 => ?_⟩
      obtain ⟨m, hm, hm0, hm1⟩ := pick_move hd4
      refine ⟨_, _, rfl, rfl, ⟨by decide, by decide⟩, p3, _, _, _, rfl, rfl, SqL.of (s4.new (i2.fresh hp3) upd_same), hm, st, sl, ns, m, rfl, i4, hm0, by omega, fun d5 H5 hd5 s5 i5 => ?_⟩
      refine ⟨(by show 2 ≤ sizeLine; decide), fun p hp => ?_⟩
      have sp := same_new hp (.tup [.str "move", .int d5])
      refine q (.ref p) (.move d5) _ ⟨p, rfl, upd_same⟩ (by show d5 < 20; omega) trivial rfl (s2.trans ((s3.x _).trans (s4.trans (s5.trans (sp.x _))))) (i5.same sp)
    · rw [decide_eq_false h3]
      have h0 := hx (by omega)
      refine iteF ⟨_, rfl, _, rfl, _, rfl, pl, _, rfl, .inl (SqL.of pl2.1), st, sl, ns, xs.length, ?_, i2, by omega, by have := pl2.2.2; omega, fun d4 H4 hd4 s4 i4 => ?_⟩
      · rw [List.length_map]; rfl
      obtain ⟨x, hxm, ex⟩ := strs_at (xs := xs) hd4
      refine ⟨pl, _, _, _, rfl, rfl, SqL.of (pl2.x s4).1, ex, (by show 2 ≤ sizeLine; decide), fun p hp => ?_⟩
      have sp := same_new hp (.tup [.str "name", .str x])
      exact q (.ref p) (.name x) _ ⟨p, rfl, upd_same⟩ trivial hxm rfl (s2.trans (s4.trans (sp.x _))) (i4.same sp)
theorem cal__law_leaf (B : Blt mg) (D : DefAt K mg "_law_leaf" s__law_leaf P__law_leaf) (c__law_draw : Cal P w K mg base 1 "_law_draw" P__law_draw spDraw) : Cal P w K mg base 2 "_law_leaf" P__law_leaf spLeaf :=
  D.cal fun _ _ F => ok__law_leaf B F c__law_draw

abbrev s__law_expr : Stmt := top 58
abbrev N__law_expr : List Str := ["_law_state", "_law_pool", "_law_room", "_law_deep", "_law_kind", "_law_n", "_law_left", "_law_one", "_law_other"]
abbrev P__law_expr : List Str := ["_law_state", "_law_pool", "_law_room", "_law_deep"]
theorem sc__law_expr : FnScope N__law_expr P__law_expr (defScope s__law_expr) := ⟨rfl, rfl, rfl, by decide +kernel, rfl, by decide +kernel, by decide +kernel⟩
def spExpr (n : Nat) : Sp := fun vs H Q _ => ∃ (st sl pl : Addr) (ns : List Int) (xs : List Str) (room : Int) (deep : Nat), vs = [.ref st, .ref pl, .int room, .int deep] ∧ IsSt H st sl ns ∧ IsPool H pl st xs ∧ room ≤ 100 ∧ 1 ≤ deep ∧ deep < n ∧
  ∀ (r : V) (e : Ex) H', IsE H' r e → e.Small → e.NamesIn (· ∈ xs) → e.deep ≤ deep → SameX [st] H H' → IsSt H' st sl ns → Q r H'
theorem pick_half {d : Int} : ∃ b : Bool, atI [V.str "low", V.str "high"] (d % 2) = some (.str (if b then "high" else "low")) := by
  have h1 := Int.emod_nonneg d (show (2 : Int) ≠ 0 by decide)
  have h2 := Int.emod_lt_of_pos d (show (0 : Int) < 2 by decide)
  by_cases h : d % 2 = 0
  · rw [h]; exact ⟨false, rfl⟩
  · have e : d % 2 = 1 := by omega
    rw [e]; exact ⟨true, rfl⟩
theorem pick_join {d : Int} : ∃ j : J, atI [V.str "then", V.str "as", V.str "com", V.str "then", V.str "then"] (d % 5) = some (.str j.s) := by
  have h1 := Int.emod_nonneg d (show (5 : Int) ≠ 0 by decide)
  have h2 := Int.emod_lt_of_pos d (show (0 : Int) < 5 by decide)
  have hc : d % 5 = 0 ∨ d % 5 = 1 ∨ d % 5 = 2 ∨ d % 5 = 3 ∨ d % 5 = 4 := by omega
  rcases hc with h | h | h | h | h <;> rw [h]
  · exact ⟨.thn, rfl⟩
  · exact ⟨.as, rfl⟩
  · exact ⟨.com, rfl⟩
  · exact ⟨.thn, rfl⟩
  · exact ⟨.thn, rfl⟩
theorem pick_pow {d : Nat} (h : d < 2) : ∃ m : Nat, atI [V.int 7, V.int 19] (d : Int) = some (.int (m : Int)) ∧ 0 < m ∧ m ≤ 19 := by
  by_cases h0 : d = 0
  · subst h0; exact ⟨7, rfl, by decide, by decide⟩
  · have e : d = 1 := by omega
    subst e; exact ⟨19, rfl, by decide, by decide⟩
/-- two expressions in one tuple -/
theorem isE_join {H : Hp} {p : Addr} {j : J} {u v : V} {e g : Ex} (h : H p = some (.tup [.str j.s, u, v])) (hu : IsE H u e) (hv : IsE H v g) : ∃ c : Ex, IsE H (.ref p) c ∧ (e.Small → g.Small → c.Small) ∧ (∀ q, e.NamesIn q → g.NamesIn q → c.NamesIn q) ∧ c.deep = max e.deep g.deep + 1 := by
  cases j with
  | thn => exact ⟨.thn e g, ⟨p, u, v, rfl, h, hu, hv⟩, fun a b => ⟨a, b⟩, fun _ a b => ⟨a, b⟩, rfl⟩
  | as => exact ⟨.as e g, ⟨p, u, v, rfl, h, hu, hv⟩, fun a b => ⟨a, b⟩, fun _ a b => ⟨a, b⟩, rfl⟩
  | com => exact ⟨.com e g, ⟨p, u, v, rfl, h, hu, hv⟩, fun a b => ⟨a, b⟩, fun _ a b => ⟨a, b⟩, rfl⟩
theorem isE_half {H : Hp} {p : Addr} {b : Bool} {u : V} {e : Ex} (h : H p = some (.tup [.str (if b then "high" else "low"), u])) (hu : IsE H u e) : ∃ c : Ex, IsE H (.ref p) c ∧ (e.Small → c.Small) ∧ (∀ q, e.NamesIn q → c.NamesIn q) ∧ c.deep = e.deep + 1 := by
  cases b with
  | true => exact ⟨.high e, ⟨p, u, rfl, h, hu⟩, fun a => a, fun _ a => a, rfl⟩
  | false => exact ⟨.low e, ⟨p, u, rfl, h, hu⟩, fun a => a, fun _ a => a, rfl⟩
theorem ok__law_expr {n : Nat} (B : Blt mg) (F : Fun K "_law_expr" "_law_expr" s__law_expr f fd) (c__law_draw : Cal P w K mg base 1 "_law_draw" P__law_draw spDraw) (c__law_leaf : Cal P w K mg base 2 "_law_leaf" P__law_leaf spLeaf)
    (c__law_expr : Cal P w K mg base (n + 2) "_law_expr" P__law_expr (spExpr n)) : FnOk P w K mg base CX0 (n + 3) f fd P__law_expr (spExpr (n + 1)) := by
  have nd := sc__law_expr.nd
  refine F.ok sc__law_expr (fun vs H Q E h => ?_) (fun cdv A outer s H vs Q E hr h => ?_)
  · obtain ⟨st, sl, pl, ns, xs, room, deep, rfl, _⟩ := h; rfl
  obtain ⟨st, sl, pl, ns, xs, room, deep, rfl, hs, hpl, hroom, hd1, hdn, q⟩ := h
  have L__law_draw : 1 ≤ n + 2 := by omega
  have L__law_leaf : 2 ≤ n + 2 := by omega
  have L__law_expr : n + 2 ≤ n + 2 := Nat.le_refl _
  refine ⟨_, (pss_cons (ps_set (i := 4) nd rfl (Or.inl rfl) (pe_cal c__law_draw (hr.mono L__law_draw) (by rfl) (pa_cons (pv 0) (pa_cons pe_int pa_nil))))
      (Evl.pss_cut (ps_if (PW.pt (pw_or (pt_cmpR op_lt (pv 4) pe_int (nomark _)) (pw_or (pt_cmpR op_lt (pv 2) pe_int (nomark _)) (pw_or1 (pt_cmpR op_lt (pv 3) pe_int (nomark _))))))
        (pss_one (ps_ret (pe_cal c__law_leaf (hr.mono L__law_leaf) (by rfl) (pa_cons (pv 0) (pa_cons (pv 1) pa_nil)))))
        pss_nil)
      (pss_cons (ps_if (pt_cmpR op_eq (pv 4) pe_int (nomark _))
        (pss_one (ps_ret (pe_tup (pa_cons pe_str (pa_cons (pe_cal c__law_expr (hr.mono L__law_expr) (by rfl) (pa_cons (pv 0) (pa_cons (pv 1) (pa_cons (pe_op op_sub (pv 2) pe_int) (pa_cons (pe_op op_sub (pv 3) pe_int) pa_nil))))) pa_nil)))))
        pss_nil)
      (pss_cons (ps_if (pt_cmpR op_eq (pv 4) pe_int (nomark _))
        (pss_cons (ps_set (i := 5) nd rfl (Or.inl rfl) (pe_cal c__law_draw (hr.mono L__law_draw) (by rfl) (pa_cons (pv 0) (pa_cons (pe_ix ix_list (pe_lst (pa_cons pe_int (pa_cons pe_int pa_nil))) (pe_cal c__law_draw (hr.mono L__law_draw) (by rfl) (pa_cons (pv 0) (pa_cons pe_int pa_nil))) (fun _ _ => rfl)) pa_nil))))
        (pss_cons (ps_if (pt_cmpR op_eq (pe_op op_mod (pv 5) pe_int) pe_int (nomark _))
          (pss_one (ps_set (i := 5) nd rfl (Or.inl rfl) (pe_op op_sub (pe_op op_sub pe_int (pv 5)) pe_int)))
          pss_nil)
        (pss_one (ps_ret (pe_tup (pa_cons pe_str (pa_cons (pe_cal c__law_expr (hr.mono L__law_expr) (by rfl) (pa_cons (pv 0) (pa_cons (pv 1) (pa_cons (pe_op op_sub (pv 2) pe_int) (pa_cons (pe_op op_sub (pv 3) pe_int) pa_nil))))) (pa_cons (pe_op op_fdiv (pv 5) pe_int) pa_nil))))))))
        pss_nil)
      (pss_cons (ps_if (PW.pt (pw_or (pt_cmpR op_lt (pv 4) pe_int (nomark _)) (pw_or1 (pt_cmpR op_lt (pv 2) pe_int (nomark _)))))
        (pss_one (ps_ret (pe_tup (pa_cons (pe_ix ix_list (pe_lst (pa_cons pe_str (pa_cons pe_str pa_nil))) (pe_op op_mod (pv 4) pe_int) (fun _ _ => rfl)) (pa_cons (pe_cal c__law_expr (hr.mono L__law_expr) (by rfl) (pa_cons (pv 0) (pa_cons (pv 1) (pa_cons (pe_op op_sub (pv 2) pe_int) (pa_cons (pe_op op_sub (pv 3) pe_int) pa_nil))))) pa_nil)))))
        pss_nil)
      (pss_cons (ps_set (i := 6) nd rfl (Or.inl rfl) (pe_op op_add pe_int (pe_cal c__law_draw (hr.mono L__law_draw) (by rfl) (pa_cons (pv 0) (pa_cons (pe_op op_sub (pv 2) pe_int) pa_nil)))))
      (pss_cons (ps_set (i := 7) nd rfl (Or.inl rfl) (pe_cal c__law_expr (hr.mono L__law_expr) (by rfl) (pa_cons (pv 0) (pa_cons (pv 1) (pa_cons (pv 6) (pa_cons (pe_op op_sub (pv 3) pe_int) pa_nil))))))
      (pss_cons (ps_set (i := 8) nd rfl (Or.inl rfl) (pe_cal c__law_expr (hr.mono L__law_expr) (by rfl) (pa_cons (pv 0) (pa_cons (pv 1) (pa_cons (pe_op op_sub (pe_op op_sub (pv 2) pe_int) (pv 6)) (pa_cons (pe_op op_sub (pv 3) pe_int) pa_nil))))))
      (pss_one (ps_ret (pe_tup (pa_cons (pe_ix ix_list (pe_lst (pa_cons pe_str (pa_cons pe_str (pa_cons pe_str (pa_cons pe_str (pa_cons pe_str pa_nil)))))) (pe_op op_mod (pv 4) pe_int) (fun _ _ => rfl)) (pa_cons (pv 7) (pa_cons (pv 8) pa_nil)))))))))))))), ?_⟩
  refine ⟨_, rfl, st, sl, ns, 20, rfl, hs, by decide, by decide, fun d2 H2 hd2 s2 i2 => ?_⟩
  have pl2 := hpl.x s2
  refine ⟨fun σ' H' => σ' = [some (.ref st), some (.ref pl), some (.int room), some (.int deep), some (.int d2), none, none, none, none] ∧ H' = H2 ∧ 2 ≤ deep, ?_, ?_⟩
  · have leaf : ∀ (D : Ends), D.rt = Q → tRet (tCall spLeaf [] E0 (tCons (tVar 0) (tCons (tVar 1) tNil))) D [some (.ref st), some (.ref pl), some (.int room), some (.int deep), some (.int d2), none, none, none, none] H2 := fun D hD => by
      refine ⟨_, rfl, _, rfl, st, sl, pl, ns, xs, rfl, i2, pl2, fun r e H3 he hsm hin hdp s3 i3 => ?_⟩
      rw [hD]
      exact q r e H3 he hsm hin (by omega) (s2.trans s3) i3
    refine ⟨_, rfl, _, _, rfl, rfl, _, rfl, ?_⟩
    refine ite2 (fun _ => iteT (leaf _ rfl)) (fun _ => ?_)
    refine ⟨_, rfl, _, _, rfl, rfl, _, rfl, ?_⟩
    refine ite2 (fun _ => iteT (leaf _ rfl)) (fun _ => ?_)
    refine ⟨_, rfl, _, _, rfl, rfl, _, rfl, ?_⟩
    refine ite2 (fun _ => leaf _ rfl) (fun h => ⟨rfl, rfl, ?_⟩)
    have := of_decide_eq_false (Bool.eq_false_iff.mpr h)
    omega
  rintro σ' H' ⟨rfl, rfl, hd2'⟩
  have down : ((deep : Int) - 1) = ((deep - 1 : Nat) : Int) := by omega
  have sub : ∀ (H3 : Hp) (rm : Int) (Q' : VK), rm ≤ 100 → IsSt H3 st sl ns → IsPool H3 pl st xs → (∀ (r : V) (e : Ex) H', IsE H' r e → e.Small → e.NamesIn (· ∈ xs) → e.deep + 1 ≤ deep → SameX [st] H3 H' → IsSt H' st sl ns → Q' r H') →
      spExpr n [.ref st, .ref pl, .int rm, .int ((deep : Int) - 1)] H3 Q' E0 := fun H3 rm Q' hrm i3 p3 k => by
    rw [down]
    exact ⟨st, sl, pl, ns, xs, rm, deep - 1, rfl, i3, p3, hrm, by omega, by omega, fun r e H' he hsm hin hdp sx ix => k r e H' he hsm hin (by omega) sx ix⟩
  refine ⟨_, rfl, rfl, _, rfl, ?_⟩
  refine ite2 (fun _ => ?_) (fun _ => ?_)
  · refine ⟨_, rfl, _, rfl, _, rfl, _, _, rfl, rfl, _, rfl, _, _, rfl, rfl, sub _ _ _ (by omega) i2 pl2 fun r e H3 he hsm hin hdp s3 i3 => ?_⟩
    refine ⟨(by show 2 ≤ sizeLine; decide), fun p hp => ?_⟩
    have sp := same_new hp (.tup [.str "back", r])
    exact q (.ref p) (.back e) _ ⟨p, r, rfl, upd_same, he.mono sp.tk⟩ hsm hin hdp (s2.trans (s3.trans (sp.x _))) (i3.same sp)
  refine ⟨_, rfl, rfl, _, rfl, ?_⟩
  refine ite2 (fun _ => ?_) (fun _ => ?_)
  · refine ⟨_, rfl, (by show 2 ≤ sizeLine; decide), fun p3 hp3 => ?_⟩
    have s3 := same_new hp3 (.lst [.int 7, .int 19])
    have i3 := i2.same s3
    refine ⟨_, rfl, st, sl, ns, 2, rfl, i3, by decide, by decide, fun d4 H4 hd4 s4 i4 => ?_⟩
    obtain ⟨m, hm, hm0, hm1⟩ := pick_pow hd4
    refine ⟨p3, _, _, _, rfl, rfl, SqL.of (s4.new (i2.fresh hp3) upd_same), hm, st, sl, ns, m, rfl, i4, hm0, by omega, fun d5 H5 hd5 s5 i5 => ?_⟩
    have s05 : SameX [st] H H5 := s2.trans ((s3.x _).trans (s4.trans s5))
    have pl5 := hpl.x s05
    have fin : ∀ (k : Int) (D : Ends), D.rt = Q → -18 ≤ k → k ≤ 19 →
        tRet (tTup (tCons (tC (.str "power")) (tCons (tCall (spExpr n) [] E0 (tCons (tVar 0) (tCons (tVar 1) (tCons (tOp (rI0 fun i j => V.int (i - j)) (tVar 2) (tC (.int 1))) (tCons (tOp (rI0 fun i j => V.int (i - j)) (tVar 3) (tC (.int 1))) tNil))))) (tCons (tOp (rI CDiv fun i j => V.int (i / j)) (tVar 5) (tC (.int 2))) tNil)))) D
          [some (.ref st), some (.ref pl), some (.int room), some (.int deep), some (.int d2), some (.int k), none, none, none] H5 := fun k D hD k1 k2 => by
      refine ⟨_, rfl, _, rfl, _, rfl, _, _, rfl, rfl, _, rfl, _, _, rfl, rfl, sub _ _ _ (by omega) i5 pl5 fun r e H6 he hsm hin hdp s6 i6 => ?_⟩
      refine ⟨_, rfl, _, _, rfl, rfl, ⟨by decide, by decide⟩, (by show 3 ≤ sizeLine; decide), fun p hp => ?_⟩
      rw [hD]
      have sp := same_new hp (.tup [.str "power", r, .int (k / 2)])
      exact q (.ref p) (.power e (k / 2)) _ ⟨p, r, rfl, upd_same, he.mono sp.tk⟩ ⟨hsm, by omega, by omega⟩ hin hdp (s05.trans (s6.trans (sp.x _))) (i6.same sp)
    refine ⟨_, rfl, _, _, rfl, rfl, (show (0 : Int) < 2 by decide), rfl, _, rfl, ?_⟩
    refine ite2 (fun h => ?_) (fun h => ?_)
    · have hodd : V.int ((d5 : Int) % 2) = V.int 1 := of_decide_eq_true h
      have hodd' : (d5 : Int) % 2 = 1 := V.int.inj hodd
      exact ⟨_, rfl, _, _, rfl, rfl, _, _, rfl, rfl, fin (0 - (d5 : Int) - 1) _ rfl (by omega) (by omega)⟩
    · exact fin d5 _ rfl (by omega) (by omega)
  have half : ∀ (D : Ends), D.rt = Q → tRet (tTup (tCons (tOp (rIxL K) (tLst (tCons (tC (.str "low")) (tCons (tC (.str "high")) tNil))) (tOp (rI (fun _ j => 0 < j) fun i j => V.int (i % j)) (tVar 4) (tC (.int 2))))
      (tCons (tCall (spExpr n) [] E0 (tCons (tVar 0) (tCons (tVar 1) (tCons (tOp (rI0 fun i j => V.int (i - j)) (tVar 2) (tC (.int 1))) (tCons (tOp (rI0 fun i j => V.int (i - j)) (tVar 3) (tC (.int 1))) tNil))))) tNil))) D
      [some (.ref st), some (.ref pl), some (.int room), some (.int deep), some (.int d2), none, none, none, none] H' := fun D hD => by
    refine ⟨(by show 2 ≤ sizeLine; decide), fun p3 hp3 => ?_⟩
    have s3 := same_new hp3 (.lst [.str "low", .str "high"])
    have i3 := i2.same s3
    obtain ⟨b, hb⟩ := pick_half (d := (d2 : Int))
    refine ⟨_, rfl, _, _, rfl, rfl, (show (0 : Int) < 2 by decide), p3, _, _, _, rfl, rfl, SqL.of upd_same, hb, ?_⟩
    refine ⟨_, rfl, _, rfl, _, rfl, _, _, rfl, rfl, _, rfl, _, _, rfl, rfl, sub _ _ _ (by omega) i3 (pl2.same s3) fun r e H6 he hsm hin hdp s6 i6 => ?_⟩
    refine ⟨(by show 2 ≤ sizeLine; decide), fun p hp => ?_⟩
    rw [hD]
    have sp := same_new hp (.tup [.str (if b then "high" else "low"), r])
    obtain ⟨c, hc, c1, c2, c3⟩ := isE_half (b := b) (p := p) (H := upd H6 p (.tup [.str (if b then "high" else "low"), r])) upd_same (he.mono sp.tk)
    exact q (.ref p) c _ hc (c1 hsm) (c2 _ hin) (by rw [c3]; exact hdp) (s2.trans ((s3.x _).trans (s6.trans (sp.x _)))) (i6.same sp)
  refine ⟨_, rfl, _, _, rfl, rfl, _, rfl, ?_⟩
  refine ite2 (fun _ => iteT (half _ rfl)) (fun _ => ?_)
  refine ⟨_, rfl, _, _, rfl, rfl, _, rfl, ?_⟩
  refine ite2 (fun _ => half _ rfl) (fun h3 => ?_)
  have hroom3 : ¬ room < 3 := of_decide_eq_false (Bool.eq_false_iff.mpr h3)
  have erm : room - 2 = (((room - 2).toNat : Nat) : Int) := by omega
  refine ⟨_, rfl, _, rfl, _, _, rfl, rfl, st, sl, ns, (room - 2).toNat, ?_, i2, by omega, by omega, fun d5 H5 hd5 s5 i5 => ?_⟩
  · rw [← erm]; rfl
  refine ⟨_, _, rfl, rfl, ?_⟩
  have pl5 := pl2.x s5
  refine ⟨_, rfl, _, rfl, _, rfl, _, rfl, _, _, rfl, rfl, sub _ _ _ (by omega) i5 pl5 fun r e H6 he hsm hin hdp s6 i6 => ?_⟩
  have pl6 := pl5.x s6
  refine ⟨_, rfl, _, rfl, _, rfl, _, _, rfl, rfl, _, rfl, _, _, rfl, rfl, _, rfl, _, _, rfl, rfl, sub _ _ _ (by omega) i6 pl6 fun r' e' H7 he' hsm' hin' hdp' s7 i7 => ?_⟩
  have he7 := he.mono (i6.tk s7)
  refine ⟨(by show 5 ≤ sizeLine; decide), fun p3 hp3 => ?_⟩
  have s8 := same_new hp3 (.lst [.str "then", .str "as", .str "com", .str "then", .str "then"])
  obtain ⟨j, hj⟩ := pick_join (d := (d2 : Int))
  refine ⟨_, rfl, _, _, rfl, rfl, (show (0 : Int) < 5 by decide), p3, _, _, _, rfl, rfl, SqL.of upd_same, hj, ?_⟩
  refine ⟨_, rfl, _, rfl, (by show 3 ≤ sizeLine; decide), fun p hp => ?_⟩
  have sp := same_new hp (.tup [.str j.s, r, r'])
  obtain ⟨c, hc, c1, c2, c3⟩ := isE_join (j := j) (p := p) (H := upd _ p (.tup [.str j.s, r, r'])) upd_same ((he7.mono s8.tk).mono sp.tk) ((he'.mono s8.tk).mono sp.tk)
  exact q (.ref p) c _ hc (c1 hsm hsm') (c2 _ hin hin') (by rw [c3]; omega) (s2.trans (s5.trans (s6.trans (s7.trans ((s8.x _).trans (sp.x _)))))) ((i7.same s8).same sp)
theorem cal__law_expr (B : Blt mg) (D : DefAt K mg "_law_expr" s__law_expr P__law_expr) (c__law_draw : Cal P w K mg base 1 "_law_draw" P__law_draw spDraw) (c__law_leaf : Cal P w K mg base 2 "_law_leaf" P__law_leaf spLeaf) : ∀ n, Cal P w K mg base (n + 2) "_law_expr" P__law_expr (spExpr n)
  | 0 => D.cal fun _ _ _ => FnOk.none fun vs H Q E h => by
    obtain ⟨_, _, _, _, _, _, _, _, _, _, _, _, h, _⟩ := h
    omega
  | n + 1 => D.cal fun _ _ F => ok__law_expr B F c__law_draw c__law_leaf (cal__law_expr B D c__law_draw c__law_leaf n)
end
end Hw
set_option maxHeartbeats 1000000
/-! Halvewright: the law's texts, weights, sizes; names filled in. -/
namespace Hw
open PySem L2

def exT (e : Ex) : Str := mk (C.ofEx e).txt
def exH (e : Ex) : Str := mk (C.heldC e).txt
theorem exT_len {e : Ex} (h : e.NamesIn (fun x => okName x.cps.toList = true)) (hd : e.deep ≤ 8) : (exT e).length ≤ 1800 := by
  have h1 := txt_length h
  have h2 : 2 ^ e.deep ≤ 2 ^ 8 := Nat.pow_le_pow_right (by decide) hd
  unfold exT
  rw [mk_len]
  omega
theorem exH_len {e : Ex} (h : e.NamesIn (fun x => okName x.cps.toList = true)) (hd : e.deep ≤ 8) : (exH e).length ≤ 1802 := by
  have h1 := exT_len h hd
  have h2 := held_length e
  unfold exT at h1
  unfold exH
  rw [mk_len] at h1 ⊢
  omega
theorem isThn_tag : ∀ e : Ex, C.isThn e = decide (e.tag = .thn)
  | .one => rfl
  | .move _ => rfl
  | .name _ => rfl
  | .back _ => rfl
  | .power _ _ => rfl
  | .low _ => rfl
  | .high _ => rfl
  | .thn _ _ => rfl
  | .as _ _ => rfl
  | .com _ _ => rfl
theorem exH_eq (e : Ex) : exH e = if e.tag = .thn then Str.ofString "(" ++ exT e ++ Str.ofString ")" else exT e := by
  unfold exH C.heldC
  rw [isThn_tag]
  by_cases h : e.tag = .thn
  · rw [decide_eq_true h, if_pos rfl, if_pos h]
    unfold exT
    rw [z_lp, z_rp, mk_append, mk_append]
    rfl
  · rw [decide_eq_false h, if_neg (by decide), if_neg h]
    rfl
theorem z_cb : Str.ofString ", " = mk [44, 32] := by decide +kernel
abbrev Okn : Str → Prop := fun x => okName x.cps.toList = true
theorem small_log {n : Nat} (h : n < 1000) : n.log2 < 1920 := Nat.lt_of_le_of_lt (Nat.log2_le_self n) (by omega)
theorem Ex.of_thn {e : Ex} (h : e.tag = .thn) : ∃ g g', e = .thn g g' := by cases e <;> first | exact ⟨_, _, rfl⟩ | (simp [Ex.tag] at h)
section
variable {P : Program} {w : World} {K : PySem.W.Frag} {mg : Str → Option Value} {base : Heap} {f : Addr} {fd : FuncData}
abbrev s__law_held : Stmt := top 59
abbrev N__law_held : List Str := ["_law_expr_here"]
abbrev P__law_held : List Str := ["_law_expr_here"]
theorem sc__law_held : FnScope N__law_held P__law_held (defScope s__law_held) := ⟨rfl, rfl, rfl, by decide +kernel, rfl, by decide +kernel, by decide +kernel⟩
abbrev s__law_text : Stmt := top 60
abbrev N__law_text : List Str := ["_law_expr_here", "_law_inner"]
abbrev P__law_text : List Str := ["_law_expr_here"]
theorem sc__law_text : FnScope N__law_text P__law_text (defScope s__law_text) := ⟨rfl, rfl, rfl, by decide +kernel, rfl, by decide +kernel, by decide +kernel⟩
def spText (n : Nat) : Sp := fun vs H Q _ => ∃ v e, vs = [v] ∧ IsE H v e ∧ e.Small ∧ e.NamesIn Okn ∧ e.deep ≤ n ∧ e.deep ≤ 8 ∧ ∀ H', Same H H' → Q (.str (exT e)) H'
def spHeld (n : Nat) : Sp := fun vs H Q _ => ∃ v e, vs = [v] ∧ IsE H v e ∧ e.Small ∧ e.NamesIn Okn ∧ e.deep ≤ n ∧ e.deep ≤ 8 ∧ ∀ H', Same H H' → Q (.str (exH e)) H'
theorem ok__law_held {n k : Nat} (F : Fun K "_law_held" "_law_held" s__law_held f fd) (c__law_text : Cal P w K mg base k "_law_text" P__law_text (spText n)) : FnOk P w K mg base CX0 (k + 1) f fd P__law_held (spHeld n) := by
  have nd := sc__law_held.nd
  refine F.ok sc__law_held (fun vs H Q E h => ?_) (fun cdv A outer s H vs Q E hr h => ?_)
  · obtain ⟨v, e, rfl, _⟩ := h; rfl
  obtain ⟨v, e, rfl, he, hsm, hin, hd, hd8, q⟩ := h
  have L__law_text : k ≤ k := Nat.le_refl _
  refine ⟨_, (pss_cons (ps_if (pt_cmpR op_eq (pe_ix ix_tup (pv 0) pe_int (fun _ _ => rfl)) pe_str (nomark _))
        (pss_one (ps_ret (pe_op op_add_str (pe_op op_add_str pe_str (pe_cal c__law_text (hr.mono L__law_text) (by rfl) (pa_cons (pv 0) pa_nil))) pe_str)))
        pss_nil)
      (pss_one (ps_ret (pe_cal c__law_text (hr.mono L__law_text) (by rfl) (pa_cons (pv 0) pa_nil))))), ?_⟩
  have he0 := he
  obtain ⟨a, xs, rfl, ha, _⟩ := he.opened
  have hl := exT_len hin hd8
  refine ⟨_, rfl, a, _, _, .str e.kind, rfl, rfl, SqT.of ha, atI_nat (j := 0) rfl, rfl, _, rfl, ?_⟩
  rw [show V.str "then" = V.str Tag.thn.s from rfl, e.kind_is]
  by_cases t : e.tag = .thn
  · rw [decide_eq_true t]
    refine iteT ⟨_, rfl, .ref a, e, rfl, he0, hsm, hin, hd, hd8, fun H1 s1 => ?_⟩
    refine ⟨_, _, rfl, rfl, ?_, _, _, rfl, rfl, ?_, ?_⟩
    · exact line1000 (by show 1 + (exT e).length ≤ 10000; omega)
    · have e1 : (Str.ofString "(" ++ exT e).length ≤ 1801 := by
        unfold exT at hl ⊢
        rw [z_lp, mk_append, mk_len]
        rw [mk_len] at hl
        simp; omega
      exact line1000 (by show (Str.ofString "(" ++ exT e).length + 1 ≤ 10000; omega)
    · have := q H1 s1
      rw [exH_eq, if_pos t] at this
      exact this
  · rw [decide_eq_false t]
    refine iteF ⟨_, rfl, .ref a, e, rfl, he0, hsm, hin, hd, hd8, fun H1 s1 => ?_⟩
    have := q H1 s1
    rw [exH_eq, if_neg t] at this
    exact this
/-- two texts joined -/
theorem add_st {ta tb : TE} {x y : Str} {σ : St} {H : Hp} {Q : VK} (h : ta σ H fun v H1 => v = .str x ∧ tb σ H1 fun u H2 => u = .str y ∧ Q (.str (x ++ y)) H2) (hl : x.length + y.length ≤ 10000)
    (m1 : ∀ (Q Q' : VK), (∀ v H, Q v H → Q' v H) → ta σ H Q → ta σ H Q') (m2 : ∀ H1 (Q Q' : VK), (∀ v H, Q v H → Q' v H) → tb σ H1 Q → tb σ H1 Q') :
    (tOp (fun x y H Q => ∃ i j, x = V.str i ∧ y = V.str j ∧ i.length + j.length ≤ sizeLine ∧ Q (.str (i ++ j)) H) ta tb) σ H Q := by
  refine m1 _ _ (fun v H1 hv => ?_) h
  obtain ⟨rfl, hv⟩ := hv
  refine m2 _ _ _ (fun u H2 hu => ?_) hv
  obtain ⟨rfl, hu⟩ := hu
  exact ⟨x, y, rfl, rfl, line1000 hl, hu⟩
theorem len_app (x y : Str) : (x ++ y).length = x.length + y.length := by
  rw [str_append, mk_len, List.length_append, Array.length_toList, Array.length_toList]
  rfl
theorem ok__law_text {n k : Nat} (B : Blt mg) (F : Fun K "_law_text" "_law_text" s__law_text f fd) (c__law_text : Cal P w K mg base k "_law_text" P__law_text (spText n)) (c__law_held : Cal P w K mg base k "_law_held" P__law_held (spHeld n)) : FnOk P w K mg base CX0 (k + 1) f fd P__law_text (spText (n + 1)) := by
  have nd := sc__law_text.nd
  refine F.ok sc__law_text (fun vs H Q E h => ?_) (fun cdv A outer s H vs Q E hr h => ?_)
  · obtain ⟨v, e, rfl, _⟩ := h; rfl
  obtain ⟨v, e, rfl, he, hsm, hin, hd, hd8, q⟩ := h
  have L__law_text : k ≤ k := Nat.le_refl _
  have L__law_held : k ≤ k := Nat.le_refl _
  refine ⟨_, (pss_cons (ps_if (pt_cmpR op_eq (pe_ix ix_tup (pv 0) pe_int (fun _ _ => rfl)) pe_str (nomark _))
        (pss_one (ps_ret pe_str))
        pss_nil)
      (pss_cons (ps_if (pt_cmpR op_eq (pe_ix ix_tup (pv 0) pe_int (fun _ _ => rfl)) pe_str (nomark _))
        (pss_one (ps_ret (pe_op op_add_str pe_str (pe_callTy call_str_int (by rfl) B.str bl_str (pa_cons (pe_ix ix_tup (pv 0) pe_int (fun _ _ => rfl)) pa_nil)))))
        pss_nil)
      (pss_cons (ps_if (pt_cmpR op_eq (pe_ix ix_tup (pv 0) pe_int (fun _ _ => rfl)) pe_str (nomark _))
        (pss_one (ps_ret (pe_ix ix_tup (pv 0) pe_int (fun _ _ => rfl))))
        pss_nil)
      (pss_cons (ps_if (pt_cmpR op_eq (pe_ix ix_tup (pv 0) pe_int (fun _ _ => rfl)) pe_str (nomark _))
        (pss_one (ps_ret (pe_op op_add_str (pe_op op_add_str (pe_cal c__law_text (hr.mono L__law_text) (by rfl) (pa_cons (pe_ix ix_tup (pv 0) pe_int (fun _ _ => rfl)) pa_nil)) pe_str) (pe_cal c__law_held (hr.mono L__law_held) (by rfl) (pa_cons (pe_ix ix_tup (pv 0) pe_int (fun _ _ => rfl)) pa_nil)))))
        pss_nil)
      (pss_cons (ps_if (pt_cmpR op_eq (pe_ix ix_tup (pv 0) pe_int (fun _ _ => rfl)) pe_str (nomark _))
        (pss_one (ps_ret (pe_op op_add_str (pe_cal c__law_held (hr.mono L__law_held) (by rfl) (pa_cons (pe_ix ix_tup (pv 0) pe_int (fun _ _ => rfl)) pa_nil)) pe_str)))
        pss_nil)
      (pss_cons (ps_if (pt_cmpR op_eq (pe_ix ix_tup (pv 0) pe_int (fun _ _ => rfl)) pe_str (nomark _))
        (pss_one (ps_ret (pe_op op_add_str (pe_op op_add_str (pe_cal c__law_held (hr.mono L__law_held) (by rfl) (pa_cons (pe_ix ix_tup (pv 0) pe_int (fun _ _ => rfl)) pa_nil)) pe_str) (pe_callTy call_str_int (by rfl) B.str bl_str (pa_cons (pe_ix ix_tup (pv 0) pe_int (fun _ _ => rfl)) pa_nil)))))
        pss_nil)
      (pss_cons (ps_set (i := 1) nd rfl (Or.inl rfl) (pe_cal c__law_text (hr.mono L__law_text) (by rfl) (pa_cons (pe_ix ix_tup (pv 0) pe_int (fun _ _ => rfl)) pa_nil)))
      (pss_cons (ps_if (pt_cmpR op_in_seq (pe_ix ix_tup (pv 0) pe_int (fun _ _ => rfl)) (pe_tup (pa_cons pe_str (pa_cons pe_str pa_nil))) (by rfl))
        (pss_one (ps_set (i := 1) nd rfl (Or.inl rfl) (pe_op op_add_str (pe_op op_add_str (pv 1) pe_str) (pe_cal c__law_text (hr.mono L__law_text) (by rfl) (pa_cons (pe_ix ix_tup (pv 0) pe_int (fun _ _ => rfl)) pa_nil)))))
        pss_nil)
      (pss_one (ps_ret (pe_op op_add_str (pe_op op_add_str (pe_op op_add_str (pe_ix ix_tup (pv 0) pe_int (fun _ _ => rfl)) pe_str) (pv 1)) pe_str))))))))))), ?_⟩
  have he0 := he
  obtain ⟨a, xs, rfl, ha, hbin, hun, hno⟩ := he.opened
  have big : ∀ z : Nat, z ≤ 4000 → z ≤ sizeLine := fun z hz => line1000 (by omega)
  have kl : ∀ c ∈ e.kids, (exT c).length ≤ 1800 ∧ (exH c).length ≤ 1802 := fun c hc => by
    have h1 := Ex.kid_names hc hin
    have h2 := Ex.kid_deep hc
    exact ⟨exT_len h1 (by omega), exH_len h1 (by omega)⟩
  refine ⟨_, rfl, a, _, _, .str e.kind, rfl, rfl, SqT.of ha, atI_nat (j := 0) rfl, rfl, _, rfl, ?_⟩
  rw [show V.str "one" = V.str Tag.one.s from rfl, e.kind_is]
  by_cases t0 : e.tag = .one
  · rw [decide_eq_true t0]
    obtain rfl := Ex.of_one t0
    refine iteT ?_
    have := q H (Same.refl _)
    rw [show exT .one = Str.ofString "one" from z_one.symm] at this
    exact this
  rw [decide_eq_false t0]
  refine iteF ⟨_, rfl, a, _, _, .str e.kind, rfl, rfl, SqT.of ha, atI_nat (j := 0) rfl, rfl, _, rfl, ?_⟩
  rw [show V.str "move" = V.str Tag.move.s from rfl, e.kind_is]
  by_cases t1 : e.tag = .move
  · rw [decide_eq_true t1]
    obtain ⟨m, rfl⟩ := Ex.of_move t1
    obtain ⟨a', e', ha'⟩ := he0
    cases e'
    have hm : m < 20 := hsm
    refine iteT ⟨_, rfl, a, _, _, .int m, rfl, rfl, SqT.of ha', rfl, m, rfl, small_log (by omega), ?_⟩
    have hs : Str.ofString (toString (m : Int)) = mk (figs m) := sI_nat hm
    have hl := figs_length m
    refine ⟨_, _, rfl, rfl, ?_, ?_⟩
    · rw [hs, mk_len]; exact big _ (by show 1 + (figs m).length ≤ 4000; omega)
    · have := q H (Same.refl _)
      rw [show exT (.move m) = Str.ofString "m" ++ Str.ofString (toString (m : Int)) by rw [hs, z_m, mk_append]; rfl] at this
      exact this
  rw [decide_eq_false t1]
  refine iteF ⟨_, rfl, a, _, _, .str e.kind, rfl, rfl, SqT.of ha, atI_nat (j := 0) rfl, rfl, _, rfl, ?_⟩
  rw [show V.str "name" = V.str Tag.name.s from rfl, e.kind_is]
  by_cases t2 : e.tag = .name
  · rw [decide_eq_true t2]
    obtain ⟨x, rfl⟩ := Ex.of_name t2
    obtain ⟨a', e', ha'⟩ := he0
    cases e'
    exact iteT ⟨_, rfl, a, _, _, .str x, rfl, rfl, SqT.of ha', rfl, q H (Same.refl _)⟩
  rw [decide_eq_false t2]
  refine iteF ⟨_, rfl, a, _, _, .str e.kind, rfl, rfl, SqT.of ha, atI_nat (j := 0) rfl, rfl, _, rfl, ?_⟩
  rw [show V.str "then" = V.str Tag.thn.s from rfl, e.kind_is]
  by_cases t3 : e.tag = .thn
  · rw [decide_eq_true t3]
    obtain ⟨g, g', rfl⟩ := Ex.of_thn t3
    obtain ⟨a', u, u', e', ha', hu, hu'⟩ := he0
    cases e'
    have k1 := kl g List.mem_cons_self
    have k2 := kl g' (List.mem_cons_of_mem _ List.mem_cons_self)
    have d1 : g.deep < (Ex.thn g g').deep := Ex.kid_deep List.mem_cons_self
    have d2 : g'.deep < (Ex.thn g g').deep := Ex.kid_deep (List.mem_cons_of_mem _ List.mem_cons_self)
    refine iteT ⟨_, rfl, a, _, _, u, rfl, rfl, SqT.of ha', rfl, u, g, rfl, hu, hsm.1, hin.1, by omega, by omega, fun H1 s1 => ?_⟩
    refine ⟨_, _, rfl, rfl, big _ (by show (exT g).length + 1 ≤ 4000; omega), _, rfl, a, _, _, u', rfl, rfl, SqT.of (s1 _ _ ha'), rfl, u', g', rfl, hu'.mono s1.tk, hsm.2, hin.2, by omega, by omega, fun H2 s2 => ?_⟩
    refine ⟨_, _, rfl, rfl, big _ ?_, ?_⟩
    · rw [len_app]; show (exT g).length + 1 + (exH g').length ≤ 4000; omega
    · have := q H2 (s1.trans s2)
      rw [show exT (.thn g g') = exT g ++ Str.ofString " " ++ exH g' by unfold exT exH; rw [z_bl, mk_append, mk_append, List.append_assoc]; rfl] at this
      exact this
  rw [decide_eq_false t3]
  refine iteF ⟨_, rfl, a, _, _, .str e.kind, rfl, rfl, SqT.of ha, atI_nat (j := 0) rfl, rfl, _, rfl, ?_⟩
  rw [show V.str "back" = V.str Tag.back.s from rfl, e.kind_is]
  by_cases t4 : e.tag = .back
  · rw [decide_eq_true t4]
    obtain ⟨g, rfl⟩ := Ex.of_back t4
    obtain ⟨a', u, e', ha', hu⟩ := he0
    cases e'
    have k1 := kl g List.mem_cons_self
    have d1 : g.deep < (Ex.back g).deep := Ex.kid_deep List.mem_cons_self
    refine iteT ⟨_, rfl, a, _, _, u, rfl, rfl, SqT.of ha', rfl, u, g, rfl, hu, hsm, hin, by omega, by omega, fun H1 s1 => ?_⟩
    refine ⟨_, _, rfl, rfl, big _ (by show (exH g).length + 1 ≤ 4000; omega), ?_⟩
    have := q H1 s1
    rw [show exT (.back g) = exH g ++ Str.ofString "~" by unfold exT exH; rw [z_ti, mk_append]; rfl] at this
    exact this
  rw [decide_eq_false t4]
  refine iteF ⟨_, rfl, a, _, _, .str e.kind, rfl, rfl, SqT.of ha, atI_nat (j := 0) rfl, rfl, _, rfl, ?_⟩
  rw [show V.str "power" = V.str Tag.power.s from rfl, e.kind_is]
  by_cases t5 : e.tag = .power
  · rw [decide_eq_true t5]
    obtain ⟨g, m, rfl⟩ := Ex.of_power t5
    obtain ⟨a', u, e', ha', hu⟩ := he0
    cases e'
    have k1 := kl g List.mem_cons_self
    have d1 : g.deep < (Ex.power g m).deep := Ex.kid_deep List.mem_cons_self
    have hm : -9 ≤ m ∧ m ≤ 9 := hsm.2
    have hs : Str.ofString (toString m) = mk (figI m) := sI_mk (by omega)
    have hl := ints_length m
    refine iteT ⟨_, rfl, a, _, _, u, rfl, rfl, SqT.of ha', rfl, u, g, rfl, hu, hsm.1, hin, by omega, by omega, fun H1 s1 => ?_⟩
    refine ⟨_, _, rfl, rfl, big _ (by show (exH g).length + 1 ≤ 4000; omega), _, rfl, a, _, _, .int m, rfl, rfl, SqT.of (s1 _ _ ha'), rfl, m, rfl, small_log (by omega), ?_⟩
    refine ⟨_, _, rfl, rfl, ?_, ?_⟩
    · rw [len_app, hs, mk_len]; exact big _ (by show (exH g).length + 1 + (figI m).length ≤ 4000; omega)
    · have := q H1 s1
      rw [show exT (.power g m) = exH g ++ Str.ofString "^" ++ Str.ofString (toString m) by rw [hs]; unfold exT exH; rw [z_ca, mk_append, mk_append, List.append_assoc]; rfl] at this
      exact this
  rw [decide_eq_false t5]
  refine iteF ?_
  match e, t0, t1, t2, t3, t4, t5, he0, ha, hsm, hin, hd, hd8, q, kl with
  | .low g, _, _, _, _, _, _, he0, ha, hsm, hin, hd, hd8, q, kl =>
    obtain ⟨a', u, e', ha', hu⟩ := he0
    cases e'
    have k1 := kl g List.mem_cons_self
    have d1 : g.deep < (Ex.low g).deep := Ex.kid_deep List.mem_cons_self
    refine ⟨_, rfl, a, _, _, u, rfl, rfl, SqT.of ha', rfl, u, g, rfl, hu, hsm, hin, by omega, by omega, fun H1 s1 => ?_⟩
    refine ⟨_, rfl, a, _, _, .str Tag.low.s, rfl, rfl, SqT.of (s1 _ _ ha'), rfl, (by show 2 ≤ sizeLine; decide), fun p hp => ?_⟩
    have s2 := same_new hp (.tup [.str "as", .str "com"])
    refine ⟨p, _, rfl, .inr (SqT.of upd_same), rfl, rfl, _, rfl, ?_⟩
    show if (if false = true then !inV (V.str Tag.low.s) _ else inV (V.str Tag.low.s) _) = true then _ else _
    rw [if_neg (show ¬ (false = true) by decide), Tag.asc]
    refine iteF ⟨_, rfl, a, _, _, .str Tag.low.s, rfl, rfl, SqT.of (s2 _ _ (s1 _ _ ha')), rfl, ?_⟩
    have e1 : (Tag.low.s).length ≤ 10 := by decide
    have e2 : (Tag.low.s ++ Str.ofString "(").length ≤ 11 := by decide
    refine ⟨_, _, rfl, rfl, big _ (by show Tag.low.s.length + 1 ≤ 4000; omega), _, rfl, _, _, rfl, rfl, big _ (by omega), _, _, rfl, rfl, big _ ?_, ?_⟩
    · rw [len_app]; show (Tag.low.s ++ Str.ofString "(").length + (exT g).length + 1 ≤ 4000; omega
    · have := q _ (s1.trans s2)
      rw [show exT (.low g) = Tag.low.s ++ Str.ofString "(" ++ exT g ++ Str.ofString ")" by
        rw [show Tag.low.s = mk wLow from z_low]; unfold exT; rw [z_lp, z_rp, mk_append, mk_append, mk_append]; first | rfl | (congr 1; done) | (congr 1; simp [C.ofEx, C.txt])] at this
      exact this
  | .high g, _, _, _, _, _, _, he0, ha, hsm, hin, hd, hd8, q, kl =>
    obtain ⟨a', u, e', ha', hu⟩ := he0
    cases e'
    have k1 := kl g List.mem_cons_self
    have d1 : g.deep < (Ex.high g).deep := Ex.kid_deep List.mem_cons_self
    refine ⟨_, rfl, a, _, _, u, rfl, rfl, SqT.of ha', rfl, u, g, rfl, hu, hsm, hin, by omega, by omega, fun H1 s1 => ?_⟩
    refine ⟨_, rfl, a, _, _, .str Tag.high.s, rfl, rfl, SqT.of (s1 _ _ ha'), rfl, (by show 2 ≤ sizeLine; decide), fun p hp => ?_⟩
    have s2 := same_new hp (.tup [.str "as", .str "com"])
    refine ⟨p, _, rfl, .inr (SqT.of upd_same), rfl, rfl, _, rfl, ?_⟩
    show if (if false = true then !inV (V.str Tag.high.s) _ else inV (V.str Tag.high.s) _) = true then _ else _
    rw [if_neg (show ¬ (false = true) by decide), Tag.asc]
    refine iteF ⟨_, rfl, a, _, _, .str Tag.high.s, rfl, rfl, SqT.of (s2 _ _ (s1 _ _ ha')), rfl, ?_⟩
    have e1 : (Tag.high.s).length ≤ 10 := by decide
    have e2 : (Tag.high.s ++ Str.ofString "(").length ≤ 11 := by decide
    refine ⟨_, _, rfl, rfl, big _ (by show Tag.high.s.length + 1 ≤ 4000; omega), _, rfl, _, _, rfl, rfl, big _ (by omega), _, _, rfl, rfl, big _ ?_, ?_⟩
    · rw [len_app]; show (Tag.high.s ++ Str.ofString "(").length + (exT g).length + 1 ≤ 4000; omega
    · have := q _ (s1.trans s2)
      rw [show exT (.high g) = Tag.high.s ++ Str.ofString "(" ++ exT g ++ Str.ofString ")" by
        rw [show Tag.high.s = mk wHigh from z_high]; unfold exT; rw [z_lp, z_rp, mk_append, mk_append, mk_append]; first | rfl | (congr 1; done) | (congr 1; simp [C.ofEx, C.txt])] at this
      exact this
  | .as g g', _, _, _, _, _, _, he0, ha, hsm, hin, hd, hd8, q, kl =>
    obtain ⟨a', u, u', e', ha', hu, hu'⟩ := he0
    cases e'
    have k1 := kl g List.mem_cons_self
    have k2 := kl g' (List.mem_cons_of_mem _ List.mem_cons_self)
    have d1 : g.deep < (Ex.as g g').deep := Ex.kid_deep List.mem_cons_self
    have d2 : g'.deep < (Ex.as g g').deep := Ex.kid_deep (List.mem_cons_of_mem _ List.mem_cons_self)
    refine ⟨_, rfl, a, _, _, u, rfl, rfl, SqT.of ha', rfl, u, g, rfl, hu, hsm.1, hin.1, by omega, by omega, fun H1 s1 => ?_⟩
    refine ⟨_, rfl, a, _, _, .str Tag.as.s, rfl, rfl, SqT.of (s1 _ _ ha'), rfl, (by show 2 ≤ sizeLine; decide), fun p hp => ?_⟩
    have s2 := same_new hp (.tup [.str "as", .str "com"])
    refine ⟨p, _, rfl, .inr (SqT.of upd_same), rfl, rfl, _, rfl, ?_⟩
    show if (if false = true then !inV (V.str Tag.as.s) _ else inV (V.str Tag.as.s) _) = true then _ else _
    rw [if_neg (show ¬ (false = true) by decide), Tag.asc]
    have ha2 := s2 _ _ (s1 _ _ ha')
    refine iteT ⟨_, rfl, _, _, rfl, rfl, big _ (by show (exT g).length + 2 ≤ 4000; omega), _, rfl, a, _, _, u', rfl, rfl, SqT.of ha2, rfl, u', g', rfl, (hu'.mono s1.tk).mono s2.tk, hsm.2, hin.2, by omega, by omega, fun H3 s3 => ?_⟩
    have l2 : (exT g ++ Str.ofString ", ").length = (exT g).length + 2 := by rw [len_app]; rfl
    refine ⟨_, _, rfl, rfl, big _ (by omega), ?_⟩
    refine ⟨_, rfl, a, _, _, .str Tag.as.s, rfl, rfl, SqT.of (s3 _ _ ha2), rfl, ?_⟩
    have e1 : (Tag.as.s).length ≤ 10 := by decide
    have e2 : (Tag.as.s ++ Str.ofString "(").length ≤ 11 := by decide
    have l3 : (exT g ++ Str.ofString ", " ++ exT g').length = (exT g).length + 2 + (exT g').length := by rw [len_app, l2]
    refine ⟨_, _, rfl, rfl, big _ (by show Tag.as.s.length + 1 ≤ 4000; omega), _, rfl, _, _, rfl, rfl, big _ (by omega), _, _, rfl, rfl, big _ ?_, ?_⟩
    · rw [len_app]; show (Tag.as.s ++ Str.ofString "(").length + (exT g ++ Str.ofString ", " ++ exT g').length + 1 ≤ 4000; omega
    · have := q _ (s1.trans (s2.trans s3))
      rw [show exT (.as g g') = Tag.as.s ++ Str.ofString "(" ++ (exT g ++ Str.ofString ", " ++ exT g') ++ Str.ofString ")" by
        rw [show Tag.as.s = mk wAs from z_as]; unfold exT; rw [z_lp, z_rp, z_cb]; simp only [mk_append]; congr 1; simp [C.ofEx, C.txt]] at this
      exact this
  | .com g g', _, _, _, _, _, _, he0, ha, hsm, hin, hd, hd8, q, kl =>
    obtain ⟨a', u, u', e', ha', hu, hu'⟩ := he0
    cases e'
    have k1 := kl g List.mem_cons_self
    have k2 := kl g' (List.mem_cons_of_mem _ List.mem_cons_self)
    have d1 : g.deep < (Ex.com g g').deep := Ex.kid_deep List.mem_cons_self
    have d2 : g'.deep < (Ex.com g g').deep := Ex.kid_deep (List.mem_cons_of_mem _ List.mem_cons_self)
    refine ⟨_, rfl, a, _, _, u, rfl, rfl, SqT.of ha', rfl, u, g, rfl, hu, hsm.1, hin.1, by omega, by omega, fun H1 s1 => ?_⟩
    refine ⟨_, rfl, a, _, _, .str Tag.com.s, rfl, rfl, SqT.of (s1 _ _ ha'), rfl, (by show 2 ≤ sizeLine; decide), fun p hp => ?_⟩
    have s2 := same_new hp (.tup [.str "as", .str "com"])
    refine ⟨p, _, rfl, .inr (SqT.of upd_same), rfl, rfl, _, rfl, ?_⟩
    show if (if false = true then !inV (V.str Tag.com.s) _ else inV (V.str Tag.com.s) _) = true then _ else _
    rw [if_neg (show ¬ (false = true) by decide), Tag.asc]
    have ha2 := s2 _ _ (s1 _ _ ha')
    refine iteT ⟨_, rfl, _, _, rfl, rfl, big _ (by show (exT g).length + 2 ≤ 4000; omega), _, rfl, a, _, _, u', rfl, rfl, SqT.of ha2, rfl, u', g', rfl, (hu'.mono s1.tk).mono s2.tk, hsm.2, hin.2, by omega, by omega, fun H3 s3 => ?_⟩
    have l2 : (exT g ++ Str.ofString ", ").length = (exT g).length + 2 := by rw [len_app]; rfl
    refine ⟨_, _, rfl, rfl, big _ (by omega), ?_⟩
    refine ⟨_, rfl, a, _, _, .str Tag.com.s, rfl, rfl, SqT.of (s3 _ _ ha2), rfl, ?_⟩
    have e1 : (Tag.com.s).length ≤ 10 := by decide
    have e2 : (Tag.com.s ++ Str.ofString "(").length ≤ 11 := by decide
    have l3 : (exT g ++ Str.ofString ", " ++ exT g').length = (exT g).length + 2 + (exT g').length := by rw [len_app, l2]
    refine ⟨_, _, rfl, rfl, big _ (by show Tag.com.s.length + 1 ≤ 4000; omega), _, rfl, _, _, rfl, rfl, big _ (by omega), _, _, rfl, rfl, big _ ?_, ?_⟩
    · rw [len_app]; show (Tag.com.s ++ Str.ofString "(").length + (exT g ++ Str.ofString ", " ++ exT g').length + 1 ≤ 4000; omega
    · have := q _ (s1.trans (s2.trans s3))
      rw [show exT (.com g g') = Tag.com.s ++ Str.ofString "(" ++ (exT g ++ Str.ofString ", " ++ exT g') ++ Str.ofString ")" by
        rw [show Tag.com.s = mk wCom from z_com]; unfold exT; rw [z_lp, z_rp, z_cb]; simp only [mk_append]; congr 1; simp [C.ofEx, C.txt]] at this
      exact this
  | .one, t, _, _, _, _, _, _, _, _, _, _, _, _, _ => exact absurd rfl t
  | .move _, _, t, _, _, _, _, _, _, _, _, _, _, _, _ => exact absurd rfl t
  | .name _, _, _, t, _, _, _, _, _, _, _, _, _, _, _ => exact absurd rfl t
  | .thn _ _, _, _, _, t, _, _, _, _, _, _, _, _, _, _ => exact absurd rfl t
  | .back _, _, _, _, _, t, _, _, _, _, _, _, _, _, _ => exact absurd rfl t
  | .power _ _, _, _, _, _, _, t, _, _, _, _, _, _, _, _ => exact absurd rfl t
theorem cal_texts (B : Blt mg) (D1 : DefAt K mg "_law_held" s__law_held P__law_held) (D2 : DefAt K mg "_law_text" s__law_text P__law_text) : ∀ n, Cal P w K mg base (2 * n) "_law_text" P__law_text (spText n) ∧ Cal P w K mg base (2 * n + 1) "_law_held" P__law_held (spHeld n)
  | 0 =>
    have t0 : Cal P w K mg base (2 * 0) "_law_text" P__law_text (spText 0) := D2.cal fun _ _ _ => FnOk.none fun vs H Q E h => by
      obtain ⟨_, e, _, _, _, _, h, _⟩ := h
      have := e.deep_pos
      omega
    ⟨t0, D1.cal fun _ _ F => ok__law_held F t0⟩
  | n + 1 =>
    have ih := cal_texts B D1 D2 n
    have t1 : Cal P w K mg base (2 * (n + 1)) "_law_text" P__law_text (spText (n + 1)) := D2.cal fun _ _ F => ok__law_text (k := 2 * n + 1) B F (ih.1.mono (Nat.le_succ _)) ih.2
    ⟨t1, D1.cal fun _ _ F => ok__law_held F t1⟩

abbrev s__law_weight : Stmt := top 61
abbrev N__law_weight : List Str := ["_law_expr_here", "_law_weights", "_law_one", "_law_other"]
abbrev P__law_weight : List Str := ["_law_expr_here", "_law_weights"]
theorem sc__law_weight : FnScope N__law_weight P__law_weight (defScope s__law_weight) := ⟨rfl, rfl, rfl, by decide +kernel, rfl, by decide +kernel, by decide +kernel⟩
def spLawWeight (n : Nat) : Sp := fun vs H Q _ => ∃ v e d wn p, vs = [v, .ref d] ∧ IsE H v e ∧ IsWs H d wn p ∧ e.NamesIn p ∧ e.Small ∧ e.deep ≤ n ∧ ∀ H', Same H H' → Q (iwt wn e) H'
theorem max3_abs {n : Int} : nuMax3 (.int 1) (.int n) (.int (0 - n)) = some (.int ((max 1 n.natAbs : Nat) : Int)) := by
  have h2 : ∀ i j : Int, nuMax2 (.int i) (.int j) = some (.int (if j > i then j else i)) := fun i j => by
    show some (if decide (i < j) = true then V.int j else V.int i) = _
    by_cases h : i < j
    · rw [decide_eq_true h, if_pos rfl, if_pos h]
    · rw [decide_eq_false h, if_neg (by decide), if_neg h]
  show (nuMax2 (.int 1) (.int n)).bind (fun m => nuMax2 m (.int (0 - n))) = _
  rw [h2]
  show nuMax2 (.int _) (.int (0 - n)) = _
  rw [h2]
  congr 2
  split <;> split <;> omega
theorem ok__law_weight {n : Nat} (B : Blt mg) (F : Fun K "_law_weight" "_law_weight" s__law_weight f fd) (c__law_weight : Cal P w K mg base n "_law_weight" P__law_weight (spLawWeight n)) : FnOk P w K mg base CX0 (n + 1) f fd P__law_weight (spLawWeight (n + 1)) := by
  have nd := sc__law_weight.nd
  refine F.ok sc__law_weight (fun vs H Q E h => ?_) (fun cdv A outer s H vs Q E hr h => ?_)
  · obtain ⟨v, e, d, wn, p, rfl, _⟩ := h; rfl
  obtain ⟨v, e, d, wn, p, rfl, he, hws, hin, hsm, hd, q⟩ := h
  have hu := hu_of hr
  have L__law_weight : n ≤ n := Nat.le_refl _
  refine ⟨_, (pss_cons (ps_if (pt_cmpR op_eq (pe_ix ix_tup (pv 0) pe_int (fun _ _ => rfl)) pe_str (nomark _))
        (pss_one (ps_ret pe_int))
        pss_nil)
      (pss_cons (ps_if (pt_cmpR op_eq (pe_ix ix_tup (pv 0) pe_int (fun _ _ => rfl)) pe_str (nomark _))
        (pss_one (ps_ret (pe_op op_add (pe_ix ix_tup (pv 0) pe_int (fun _ _ => rfl)) pe_int)))
        pss_nil)
      (pss_cons (ps_if (pt_cmpR op_eq (pe_ix ix_tup (pv 0) pe_int (fun _ _ => rfl)) pe_str (nomark _))
        (pss_one (ps_ret (pe_dget hu (pv 1) (pe_ix ix_tup (pv 0) pe_int (fun _ _ => rfl)) (fun _ _ => rfl))))
        pss_nil)
      (pss_cons (ps_set (i := 2) nd rfl (Or.inl rfl) (pe_cal c__law_weight (hr.mono L__law_weight) (by rfl) (pa_cons (pe_ix ix_tup (pv 0) pe_int (fun _ _ => rfl)) (pa_cons (pv 1) pa_nil))))
      (pss_cons (ps_if (pt_cmpR op_eq (pe_ix ix_tup (pv 0) pe_int (fun _ _ => rfl)) pe_str (nomark _))
        (pss_one (ps_ret (pv 2)))
        pss_nil)
      (pss_cons (ps_if (pt_cmpR op_eq (pe_ix ix_tup (pv 0) pe_int (fun _ _ => rfl)) pe_str (nomark _))
        (pss_one (ps_ret (pe_op op_mul (pv 2) (pe_callB (call_max3Nu rfl) (by rfl) B.max bl_max (pa_cons pe_int (pa_cons (pe_ix ix_tup (pv 0) pe_int (fun _ _ => rfl)) (pa_cons (pe_op op_sub pe_int (pe_ix ix_tup (pv 0) pe_int (fun _ _ => rfl))) pa_nil)))))))
        pss_nil)
      (pss_cons (ps_if (pt_cmpR op_in_seq (pe_ix ix_tup (pv 0) pe_int (fun _ _ => rfl)) (pe_tup (pa_cons pe_str (pa_cons pe_str pa_nil))) (by rfl))
        (pss_one (ps_ret (pe_op op_add (pv 2) pe_int)))
        pss_nil)
      (pss_cons (ps_set (i := 3) nd rfl (Or.inl rfl) (pe_cal c__law_weight (hr.mono L__law_weight) (by rfl) (pa_cons (pe_ix ix_tup (pv 0) pe_int (fun _ _ => rfl)) (pa_cons (pv 1) pa_nil))))
      (pss_cons (ps_if (pt_cmpR op_eq (pe_ix ix_tup (pv 0) pe_int (fun _ _ => rfl)) pe_str (nomark _))
        (pss_one (ps_ret (pe_op op_add (pv 2) (pv 3))))
        pss_nil)
      (pss_cons (ps_if (pt_cmpR op_eq (pe_ix ix_tup (pv 0) pe_int (fun _ _ => rfl)) pe_str (nomark _))
        (pss_one (ps_ret (pe_op op_add (pv 2) (pe_op op_mul pe_int (pv 3)))))
        pss_nil)
      (pss_one (ps_ret (pe_op op_mul pe_int (pe_op op_add (pv 2) (pv 3))))))))))))))), ?_⟩
  have he0 := he
  obtain ⟨a, xs, rfl, ha, hbin, hun, hno⟩ := he.opened
  refine ⟨_, rfl, a, _, _, .str e.kind, rfl, rfl, SqT.of ha, atI_nat (j := 0) rfl, rfl, _, rfl, ?_⟩
  rw [show V.str "one" = V.str Tag.one.s from rfl, e.kind_is]
  by_cases t0 : e.tag = .one
  · rw [decide_eq_true t0]
    obtain rfl := Ex.of_one t0
    exact iteT (q H (Same.refl _))
  rw [decide_eq_false t0]
  refine iteF ⟨_, rfl, a, _, _, .str e.kind, rfl, rfl, SqT.of ha, atI_nat (j := 0) rfl, rfl, _, rfl, ?_⟩
  rw [show V.str "move" = V.str Tag.move.s from rfl, e.kind_is]
  by_cases t1 : e.tag = .move
  · rw [decide_eq_true t1]
    obtain ⟨m, rfl⟩ := Ex.of_move t1
    obtain ⟨a', e', ha'⟩ := he0
    cases e'
    exact iteT ⟨_, rfl, a, _, _, .int m, rfl, rfl, SqT.of ha', rfl, _, _, rfl, rfl, q H (Same.refl _)⟩
  rw [decide_eq_false t1]
  refine iteF ⟨_, rfl, a, _, _, .str e.kind, rfl, rfl, SqT.of ha, atI_nat (j := 0) rfl, rfl, _, rfl, ?_⟩
  rw [show V.str "name" = V.str Tag.name.s from rfl, e.kind_is]
  by_cases t2 : e.tag = .name
  · rw [decide_eq_true t2]
    obtain ⟨x, rfl⟩ := Ex.of_name t2
    obtain ⟨a', e', ha'⟩ := he0
    cases e'
    obtain ⟨kvs, h1, h2⟩ := hws
    refine iteT ⟨_, rfl, _, rfl, a, _, _, .str x, rfl, rfl, SqT.of ha', rfl, d, .int ((wn x : Nat) : Int), rfl, ?_, q H (Same.refl _)⟩
    rw [← h2 x hin]; exact DGet.k (k := .inr x) h1
  rw [decide_eq_false t2]
  refine iteF ?_
  obtain ⟨u, r, g, hxs, hk1, hg⟩ : ∃ u r g, xs = u :: r ∧ g ∈ e.kids ∧ IsE H u g ∧ (e.kids = [g] ∨ ∃ y g', e.kids = [g, g'] ∧ r = [y] ∧ IsE H y g') := by
    cases hb : e.isBin with
    | true =>
      obtain ⟨x, y, f', g', h1, h2, h3, h4⟩ := hbin hb
      exact ⟨x, [y], f', h1, by rw [h2]; exact List.mem_cons_self, h3, .inr ⟨y, g', h2, rfl, h4⟩⟩
    | false =>
      cases hu' : e.isUn with
      | true =>
        obtain ⟨x, r, f', h1, h2, h3⟩ := hun hb hu'
        exact ⟨x, r, f', h1, by rw [h2]; exact List.mem_cons_self, h3, .inl h2⟩
      | false =>
        cases e with
        | one => exact absurd rfl t0
        | move _ => exact absurd rfl t1
        | name _ => exact absurd rfl t2
        | back _ => cases hu'
        | power _ _ => cases hu'
        | low _ => cases hu'
        | high _ => cases hu'
        | thn _ _ => cases hb
        | as _ _ => cases hb
        | com _ _ => cases hb
  obtain ⟨hg, hk2⟩ := hg
  subst hxs
  have dg := Ex.kid_deep hk1
  refine ⟨_, rfl, a, _, _, u, rfl, rfl, SqT.of ha, atI_nat (j := 1) rfl, _, rfl, u, g, d, wn, p, rfl, hg, hws, Ex.kid_names hk1 hin, Ex.kid_small hk1 hsm, by omega, fun H1 s1 => ?_⟩
  have ha1 := s1 _ _ ha
  refine ⟨_, rfl, a, _, _, .str e.kind, rfl, rfl, SqT.of ha1, atI_nat (j := 0) rfl, rfl, _, rfl, ?_⟩
  rw [show V.str "back" = V.str Tag.back.s from rfl, e.kind_is]
  by_cases t3 : e.tag = .back
  · rw [decide_eq_true t3]
    obtain ⟨g', rfl⟩ := Ex.of_back t3
    have eg : g = g' := List.mem_singleton.mp hk1
    subst eg
    exact iteT ⟨_, rfl, q H1 s1⟩
  rw [decide_eq_false t3]
  refine iteF ⟨_, rfl, a, _, _, .str e.kind, rfl, rfl, SqT.of ha1, atI_nat (j := 0) rfl, rfl, _, rfl, ?_⟩
  rw [show V.str "power" = V.str Tag.power.s from rfl, e.kind_is]
  by_cases t4 : e.tag = .power
  · rw [decide_eq_true t4]
    obtain ⟨g', m, rfl⟩ := Ex.of_power t4
    have eg : g = g' := List.mem_singleton.mp hk1
    subst eg
    obtain ⟨a', u', e', ha', _⟩ := he0
    cases e'
    have hm : -9 ≤ m ∧ m ≤ 9 := hsm.2
    have ha2 := s1 _ _ ha'
    refine iteT ⟨_, rfl, _, rfl, a, _, _, .int m, rfl, rfl, SqT.of ha2, rfl, _, rfl, a, _, _, .int m, rfl, rfl, SqT.of ha2, rfl, _, _, rfl, rfl, _, _, _, _, rfl, max3_abs, _, _, rfl, rfl, .inr ⟨by omega, by omega⟩, ?_⟩
    exact q H1 s1
  rw [decide_eq_false t4]
  refine iteF ⟨_, rfl, a, _, _, .str e.kind, rfl, rfl, SqT.of ha1, atI_nat (j := 0) rfl, (by show 2 ≤ sizeLine; decide), fun p3 hp3 => ?_⟩
  have s3 := same_new hp3 (.tup [.str "low", .str "high"])
  refine ⟨p3, _, rfl, .inr (SqT.of upd_same), rfl, rfl, _, rfl, ?_⟩
  show if (if false = true then !inV (V.str e.kind) _ else inV (V.str e.kind) _) = true then _ else _
  rw [if_neg (show ¬ (false = true) by decide), e.tag.half]
  have s13 := s1.trans s3
  by_cases t5 : (decide (e.tag = .low) || decide (e.tag = .high)) = true
  · rw [t5]
    refine iteT ⟨_, rfl, _, _, rfl, rfl, ?_⟩
    have hq := q _ s13
    rcases Bool.or_eq_true_iff.mp t5 with h | h
    · obtain ⟨g', rfl⟩ := Ex.of_low (of_decide_eq_true h)
      have eg : g = g' := List.mem_singleton.mp hk1
      subst eg
      exact hq
    · obtain ⟨g', rfl⟩ := Ex.of_high (of_decide_eq_true h)
      have eg : g = g' := List.mem_singleton.mp hk1
      subst eg
      exact hq
  rw [Bool.eq_false_iff.mpr t5]
  refine iteF ?_
  have t6 : e.tag ≠ .low := fun h => t5 (by rw [decide_eq_true h]; rfl)
  have t7 : e.tag ≠ .high := fun h => t5 (by rw [decide_eq_true h, Bool.or_true])
  obtain ⟨j, g1, g2, hkk, hks, _, hW⟩ := Ex.joins t0 t1 t2 t3 t4 t6 t7
  rcases hk2 with h | ⟨y, g', h, rfl, hy⟩
  · rw [hkk] at h; cases h
  rw [hkk] at h
  cases h
  have hk3 : g2 ∈ e.kids := by rw [hkk]; exact List.mem_cons_of_mem _ List.mem_cons_self
  have dg2 := Ex.kid_deep hk3
  have ha3 := s13 _ _ ha
  refine ⟨_, rfl, a, _, _, y, rfl, rfl, SqT.of ha3, rfl, _, rfl, y, g2, d, wn, p, rfl, hy.mono s13.tk, hws.same s13, Ex.kid_names hk3 hin, Ex.kid_small hk3 hsm, by omega, fun H4 s4 => ?_⟩
  have ha4 := s4 _ _ ha3
  have hq := q H4 (s13.trans s4)
  unfold iwt at hq
  rw [hW] at hq
  refine ⟨_, rfl, a, _, _, .str e.kind, rfl, rfl, SqT.of ha4, rfl, rfl, _, rfl, ?_⟩
  rw [hks]
  cases j with
  | thn =>
    rw [show decide (V.str J.thn.s = V.str (Str.ofString "then")) = true from Tag.eq .thn .thn]
    exact iteT ⟨_, rfl, _, rfl, _, _, rfl, rfl, hq⟩
  | as =>
    rw [show decide (V.str J.as.s = V.str (Str.ofString "then")) = false from Tag.eq .as .thn]
    refine iteF ⟨_, rfl, a, _, _, .str e.kind, rfl, rfl, SqT.of ha4, rfl, rfl, _, rfl, ?_⟩
    rw [hks, show decide (V.str J.as.s = V.str (Str.ofString "as")) = true from Tag.eq .as .as]
    exact iteT ⟨_, rfl, _, rfl, _, _, rfl, rfl, .inl ⟨by decide, by decide⟩, _, _, rfl, rfl, hq⟩
  | com =>
    rw [show decide (V.str J.com.s = V.str (Str.ofString "then")) = false from Tag.eq .com .thn]
    refine iteF ⟨_, rfl, a, _, _, .str e.kind, rfl, rfl, SqT.of ha4, rfl, rfl, _, rfl, ?_⟩
    rw [hks, show decide (V.str J.com.s = V.str (Str.ofString "as")) = false from Tag.eq .com .as]
    exact iteF ⟨_, rfl, _, rfl, _, _, rfl, rfl, _, _, rfl, rfl, .inl ⟨by decide, by decide⟩, hq⟩
theorem cal__law_weight (B : Blt mg) (D : DefAt K mg "_law_weight" s__law_weight P__law_weight) : ∀ n, Cal P w K mg base n "_law_weight" P__law_weight (spLawWeight n)
  | 0 => D.cal fun _ _ _ => FnOk.none fun vs H Q E h => by
    obtain ⟨_, e, _, _, _, _, _, _, _, _, h, _⟩ := h
    have := e.deep_pos
    omega
  | n + 1 => D.cal fun _ _ F => ok__law_weight B F (cal__law_weight B D n)

/-! ### an expression's items -/
abbrev It2 := V ⊕ Ex
def els : Ex → List It2
  | .one => [.inl (.str "one")]
  | .move n => [.inl (.str "move"), .inl (.int n)]
  | .name x => [.inl (.str "name"), .inl (.str x)]
  | .back e => [.inl (.str "back"), .inr e]
  | .power e n => [.inl (.str "power"), .inr e, .inl (.int n)]
  | .low e => [.inl (.str "low"), .inr e]
  | .high e => [.inl (.str "high"), .inr e]
  | .thn e f => [.inl (.str "then"), .inr e, .inr f]
  | .as e f => [.inl (.str "as"), .inr e, .inr f]
  | .com e f => [.inl (.str "com"), .inr e, .inr f]
/-- no reference -/
def plainV : V → Prop
  | .int _ => True
  | .str _ => True
  | _ => False
def IsIt (H : Hp) : It2 → V → Prop
  | .inl u, x => x = u ∧ plainV u
  | .inr e, x => IsE H x e
theorem IsIt.mono {H H' : Hp} (k : Tk H H') : ∀ {c : It2} {x : V}, IsIt H c x → IsIt H' c x
  | .inl _, _, h => h
  | .inr e, _, h => IsE.mono k (e := e) h
theorem IsE.els {H : Hp} {v : V} : ∀ {e : Ex}, IsE H v e → ∃ a xs, v = .ref a ∧ H a = some (.tup xs) ∧ Paired (IsIt H) (els e) xs
  | .one, ⟨a, e, h⟩ => ⟨a, _, e, h, .cons ⟨rfl, trivial⟩ .nil⟩
  | .move _, ⟨a, e, h⟩ => ⟨a, _, e, h, .cons ⟨rfl, trivial⟩ (.cons ⟨rfl, trivial⟩ .nil)⟩
  | .name _, ⟨a, e, h⟩ => ⟨a, _, e, h, .cons ⟨rfl, trivial⟩ (.cons ⟨rfl, trivial⟩ .nil)⟩
  | .back _, ⟨a, u, e, h, k⟩ => ⟨a, _, e, h, .cons ⟨rfl, trivial⟩ (.cons k .nil)⟩
  | .power _ _, ⟨a, u, e, h, k⟩ => ⟨a, _, e, h, .cons ⟨rfl, trivial⟩ (.cons k (.cons ⟨rfl, trivial⟩ .nil))⟩
  | .low _, ⟨a, u, e, h, k⟩ => ⟨a, _, e, h, .cons ⟨rfl, trivial⟩ (.cons k .nil)⟩
  | .high _, ⟨a, u, e, h, k⟩ => ⟨a, _, e, h, .cons ⟨rfl, trivial⟩ (.cons k .nil)⟩
  | .thn _ _, ⟨a, u, x, e, h, k, k2⟩ => ⟨a, _, e, h, .cons ⟨rfl, trivial⟩ (.cons k (.cons k2 .nil))⟩
  | .as _ _, ⟨a, u, x, e, h, k, k2⟩ => ⟨a, _, e, h, .cons ⟨rfl, trivial⟩ (.cons k (.cons k2 .nil))⟩
  | .com _ _, ⟨a, u, x, e, h, k, k2⟩ => ⟨a, _, e, h, .cons ⟨rfl, trivial⟩ (.cons k (.cons k2 .nil))⟩
/-- the items of what is filled in -/
def IsIf (pl : Str → Ex) (H : Hp) : It2 → V → Prop
  | .inl u, y => y = u
  | .inr e, y => IsE H y (e.fill pl)
theorem IsIf.mono {pl : Str → Ex} {H H' : Hp} (k : Tk H H') : ∀ {c : It2} {x : V}, IsIf pl H c x → IsIf pl H' c x
  | .inl _, _, h => h
  | .inr e, _, h => IsE.mono k (e := e.fill pl) h
theorem isE_fill {pl : Str → Ex} {H : Hp} {a : Addr} {ys : List V} (h : H a = some (.tup ys)) : ∀ {e : Ex}, e.tag ≠ .name → Paired (IsIf pl H) (els e) ys → IsE H (.ref a) (e.fill pl)
  | .one, _, .cons e1 .nil => ⟨a, rfl, by rw [h, show _ = _ from e1]⟩
  | .move _, _, .cons e1 (.cons e2 .nil) => ⟨a, rfl, by rw [h, show _ = _ from e1, show _ = _ from e2]⟩
  | .name _, t, _ => absurd rfl t
  | .back _, _, .cons e1 (.cons k .nil) => ⟨a, _, rfl, by rw [h, show _ = _ from e1], k⟩
  | .power _ _, _, .cons e1 (.cons k (.cons e2 .nil)) => ⟨a, _, rfl, by rw [h, show _ = _ from e1, show _ = _ from e2], k⟩
  | .low _, _, .cons e1 (.cons k .nil) => ⟨a, _, rfl, by rw [h, show _ = _ from e1], k⟩
  | .high _, _, .cons e1 (.cons k .nil) => ⟨a, _, rfl, by rw [h, show _ = _ from e1], k⟩
  | .thn _ _, _, .cons e1 (.cons k (.cons k2 .nil)) => ⟨a, _, _, rfl, by rw [h, show _ = _ from e1], k, k2⟩
  | .as _ _, _, .cons e1 (.cons k (.cons k2 .nil)) => ⟨a, _, _, rfl, by rw [h, show _ = _ from e1], k, k2⟩
  | .com _ _, _, .cons e1 (.cons k (.cons k2 .nil)) => ⟨a, _, _, rfl, by rw [h, show _ = _ from e1], k, k2⟩
theorem els_kid {e c : Ex} (h : Sum.inr c ∈ els e) : c ∈ e.kids := by
  cases e <;> simp [els] at h <;> simp [Ex.kids, h]
theorem els_len (e : Ex) : (els e).length ≤ 3 := by cases e <;> simp [els]
def isR : It2 → Bool
  | .inl _ => false
  | .inr _ => true
/-- isinstance(x, tuple) of an item -/
theorem isi_item {K : PySem.W.Frag} {H : Hp} {c : It2} {x : V} (h : IsIt H c x) : ∃ t, TyX K H x t ∧ PySem.W.kitOne K t (.type "tuple") = some (isR c) := by
  cases c with
  | inl u =>
    obtain ⟨rfl, hp⟩ := h
    cases x with
    | int i => exact ⟨_, .base (.int i), kit_ty (show kitB "int" "tuple" = some false by decide +kernel)⟩
    | str z => exact ⟨_, .base (.str z), kit_ty (show kitB "str" "tuple" = some false by decide +kernel)⟩
    | _ => exact hp.elim
  | inr e =>
    obtain ⟨a, xs, rfl, ha, _⟩ := IsE.els h
    exact ⟨_, .base (.tup ha), kit_ty (show kitB "tuple" "tuple" = some true by decide +kernel)⟩
/-- a comprehension over a tuple that stands for another list -/
theorem lc_runT {α : Type} {K : PySem.W.Frag} {a D : Addr} {as : List α} {xs : List V} {j : Nat} {te : TE} {vs : List Nat} {σ : St} {H1 : Hp} {Qd : Hp → Prop} (A : α → V → Prop) (R : Hp → α → V → Prop) (mono : ∀ {H H' : Hp} {x : α} {y : V}, Tk H H' → R H x y → R H' x y)
    (hp : Paired A as xs) (hq : H1 a = some (.tup xs)) (hD : H1 D = none) (hz : xs.length ≤ 10000) (hw : ∀ x, wipe ((wipe σ vs).set j (some x)) vs = wipe σ vs)
    (he : ∀ c x, c ∈ as → A c x → ∀ H', Same H1 H' → ∀ Q' : VK, (∀ y H'', Same H' H'' → R H'' c y → Q' y H'') → te ((wipe σ vs).set j (some x)) H' Q')
    (hd : ∀ H' ys, Same H1 H' → H' D = some (.lst ys) → Paired (R H') as ys → Qd H') :
    ∃ W : Nat → Nat → Hp → Prop, (∃ m, W 0 m (upd H1 D (.lst []))) ∧ ∀ i m H, W i m H →
      ((Itt K a).stop i H ∧ Qd H) ∨ ((Itt K a).go i H ∧ ∃ Nx : Hp → Prop, (∀ H', Nx H' → ∃ m', m' < m ∧ W (i + 1) m' H') ∧ ∀ x H', (Itt K a).yld i H x H' → (gName j) x (wipe σ vs) H' fun σ2 H2 => wipe σ2 vs = wipe σ vs ∧ tYes σ2 H2 fun b H3 =>
        if b = true then te σ2 H3 fun y H4 => ∃ acc, H4 D = some (.lst acc) ∧ acc.length < sizeLine ∧ Nx (upd H4 D (.lst (acc ++ [y]))) else Nx H3) := by
  have hl : as.length = xs.length := Paired.length hp
  refine lc_tup (xs := xs) (fun i H' => Same H1 H' ∧ ∃ ys, H' D = some (.lst ys) ∧ Paired (R H') (as.take i) ys ∧ ys.length ≤ i) ?_ ?_ ?_ ?_
  · exact ⟨same_new hD _, [], upd_same, .nil, Nat.le_refl _⟩
  · exact fun i H' _ p => SqT.of (p.1 _ _ hq)
  · intro i x H' hx p
    obtain ⟨s, ys, hys, hpp, hly⟩ := p
    have hi := (List.getElem?_eq_some_iff.mp hx).1
    obtain ⟨c, hc, hA⟩ := paired_at hp hx
    have hic := (List.getElem?_eq_some_iff.mp hc).1
    have e1 : as[i] = c := by
      rw [List.getElem?_eq_getElem hic] at hc
      exact Option.some.inj hc
    refine ⟨hw x, ?_⟩
    refine iteT (B := Same H1 H' ∧ ∃ ys, H' D = some (.lst ys) ∧ Paired (R H') (as.take (i + 1)) ys ∧ ys.length ≤ i + 1) ?_
    refine he c x (List.mem_of_getElem? hc) hA H' s _ fun y H4 s4 r => ?_
    have hn : H4 D = some (.lst ys) := s4 _ _ hys
    refine ⟨ys, hn, line1000' (by omega), (s.trans s4).ext hD, ys ++ [y], upd_same, ?_, by rw [List.length_append]; simp; omega⟩
    rw [List.take_succ_eq_append_getElem hic, e1]
    have up := tk_lst hn (.lst (ys ++ [y]))
    exact paired_append (paired_mono hpp fun u v q => mono up (mono s4.tk q)) (.cons (mono up r) .nil)
  · intro H' p
    obtain ⟨s, ys, hys, hpp, _⟩ := p
    rw [← hl, List.take_length] at hpp
    exact hd H' ys s hys hpp
/-- the names' plain expressions, as a dictionary -/
def IsPl (H : Hp) (d : Addr) (pl : Str → Ex) (p : Str → Prop) : Prop := ∃ kvs : List (Key × V), H d = some (.dK kvs) ∧ ∀ x, p x → ∃ u, valV kvs (.inr x) = some u ∧ IsE H u (pl x)
theorem IsPl.same {H H' : Hp} {d : Addr} {pl : Str → Ex} {p : Str → Prop} (h : IsPl H d pl p) (s : Same H H') : IsPl H' d pl p := by
  obtain ⟨kvs, h1, h2⟩ := h
  refine ⟨kvs, s _ _ h1, fun x hx => ?_⟩
  obtain ⟨u, e, iu⟩ := h2 x hx
  exact ⟨u, e, iu.mono s.tk⟩
abbrev s__law_filled_in : Stmt := top 65
abbrev N__law_filled_in : List Str := ["_law_expr_here", "_law_names", "_law_one"]
abbrev P__law_filled_in : List Str := ["_law_expr_here", "_law_names"]
theorem sc__law_filled_in : FnScope N__law_filled_in P__law_filled_in (defScope s__law_filled_in) := ⟨rfl, rfl, rfl, by decide +kernel, rfl, by decide +kernel, by decide +kernel⟩
def spFilled (n : Nat) : Sp := fun vs H Q _ => ∃ v e d pl p, vs = [v, .ref d] ∧ IsE H v e ∧ IsPl H d pl p ∧ e.NamesIn p ∧ e.deep ≤ n ∧ ∀ r H', Same H H' → IsE H' r (e.fill pl) → Q r H'
theorem ok__law_filled_in {n : Nat} (B : Blt mg) (F : Fun K "_law_filled_in" "_law_filled_in" s__law_filled_in f fd) (c__law_filled_in : Cal P w K mg base n "_law_filled_in" P__law_filled_in (spFilled n)) : FnOk P w K mg base CX0 (n + 1) f fd P__law_filled_in (spFilled (n + 1)) := by
  have nd := sc__law_filled_in.nd
  refine F.ok sc__law_filled_in (fun vs H Q E h => ?_) (fun cdv A outer s H vs Q E hr h => ?_)
  · obtain ⟨v, e, d, pl, p, rfl, _⟩ := h; rfl
  obtain ⟨v, e, d, pl, p, rfl, he, hpl, hin, hd, q⟩ := h
  have hu := hu_of hr
  have L__law_filled_in : n ≤ n := Nat.le_refl _
  refine ⟨_, (pss_cons (ps_if (pt_cmpR op_eq (pe_ix ix_tup (pv 0) pe_int (fun _ _ => rfl)) pe_str (nomark _))
        (pss_one (ps_ret (pe_dget hu (pv 1) (pe_ix ix_tup (pv 0) pe_int (fun _ _ => rfl)) (fun _ _ => rfl))))
        pss_nil)
      (pss_one (ps_ret (pe_callTy call_tuple_of (by rfl) B.tuple bl_tuple (pa_cons (pe_lc (own := [("_law_one", 2)]) (g := (gName 2)) rfl nd (pi_tup (pv 0)) (blkOk_by (own := [("_law_one", 2)]) (N := N__law_filled_in) (sc := defScope s__law_filled_in) (by decide +kernel)) (fun _ _ _ _ _ => pg_name (i := 2) nd rfl (Or.inl rfl)) (fun _ _ _ _ _ => pts_nil) (fun _ _ _ _ _ => (pe_ifExp (pt_val (pe_callB (r := rIsi K) call_isi (by rfl) B.isinstance bl_isinstance (pa_cons (pv 2) (pa_cons (pe_bltn (v := .ty "tuple") (by rfl) B.tuple bl_tuple rfl) pa_nil)))) (pe_cal c__law_filled_in (hr.mono L__law_filled_in) (by rfl) (pa_cons (pv 2) (pa_cons (pv 1) pa_nil))) (pv 2)))) pa_nil))))), ?_⟩
  have he0 := he
  obtain ⟨a, xs, rfl, ha, _⟩ := he.opened
  refine ⟨_, rfl, a, _, _, .str e.kind, rfl, rfl, SqT.of ha, atI_nat (j := 0) rfl, rfl, _, rfl, ?_⟩
  rw [show V.str "name" = V.str Tag.name.s from rfl, e.kind_is]
  by_cases t : e.tag = .name
  · rw [decide_eq_true t]
    obtain ⟨x, rfl⟩ := Ex.of_name t
    obtain ⟨a', e', ha'⟩ := he0
    cases e'
    obtain ⟨kvs, h1, h2⟩ := hpl
    obtain ⟨u, eu, iu⟩ := h2 x hin
    refine iteT ⟨_, rfl, _, rfl, a, _, _, .str x, rfl, rfl, SqT.of ha', rfl, d, u, rfl, ?_, q u H (Same.refl _) iu⟩
    rw [← eu]; exact DGet.k (k := .inr x) h1
  rw [decide_eq_false t]
  obtain ⟨a', ys, e', ha', hys⟩ := he0.els
  cases e'
  have hyl : ys.length ≤ 10000 := by
    rw [← Paired.length hys]
    have := els_len e
    omega
  refine iteF ⟨_, rfl, a, rfl, ⟨_, SqT.of ha'⟩, fun D hD => ?_⟩
  refine lc_runT (j := 2) (as := els e) (IsIt H) (IsIf pl) (fun k h => h.mono k) hys ha' hD hyl (fun x => rfl) ?_ ?_
  · intro c x hc hx H' s' Q' hq
    obtain ⟨t, ht, hk⟩ := isi_item (K := K) (hx.mono s'.tk)
    refine ⟨_, rfl, x, _, t, _, _, rfl, .ty _, ht, hk, _, rfl, ?_⟩
    cases c with
    | inl u => exact iteF ⟨_, rfl, hq _ _ (Same.refl _) hx.1⟩
    | inr g =>
      have hg := els_kid hc
      have dg := Ex.kid_deep hg
      exact iteT ⟨_, rfl, _, rfl, x, g, d, pl, p, rfl, IsE.mono s'.tk hx, hpl.same s', Ex.kid_names hg hin, by omega, fun r H3 s3 hr3 => hq _ _ s3 hr3⟩
  intro H2 zs s2 e2 p2
  refine ⟨D, _, rfl, .inl ⟨SqL.of e2, fun l hl => ?_⟩⟩
  have s3 := same_new hl (.tup zs)
  exact q (.ref l) _ (s2.trans s3) (isE_fill upd_same t (paired_mono p2 fun _ _ h => h.mono s3.tk))
theorem cal__law_filled_in (B : Blt mg) (D : DefAt K mg "_law_filled_in" s__law_filled_in P__law_filled_in) : ∀ n, Cal P w K mg base n "_law_filled_in" P__law_filled_in (spFilled n)
  | 0 => D.cal fun _ _ _ => FnOk.none fun vs H Q E h => by
    obtain ⟨_, e, _, _, _, _, _, _, _, h, _⟩ := h
    have := e.deep_pos
    omega
  | n + 1 => D.cal fun _ _ F => ok__law_filled_in B F (cal__law_filled_in B D n)
end
end Hw
set_option maxHeartbeats 1000000
/-! Halvewright: the law's texts, weights, sizes; names filled in. -/
namespace Hw
open PySem L2
section
variable {P : Program} {w : World} {K : PySem.W.Frag} {mg : Str → Option Value} {base : Heap} {f : Addr} {fd : FuncData}

/-! ### the size -/
def dOf : It2 → Nat
  | .inl _ => 0
  | .inr e => e.deep
theorem els_deep (e : Ex) : (((els e).drop 1).foldl (fun m c => max m (dOf c)) 0) + 1 = e.deep := by
  cases e <;> simp [els, dOf, Ex.deep]
theorem paired_drop1 {α β : Type} {F : α → β → Prop} : ∀ {xs : List α} {ys : List β}, Paired F xs ys → Paired F (xs.drop 1) (ys.drop 1)
  | _, _, .nil => .nil
  | _, _, .cons _ t => t
abbrev s__law_size : Stmt := top 66
abbrev N__law_size : List Str := ["_law_expr_here", "_law_many", "_law_deep", "_law_one", "_law_found"]
abbrev P__law_size : List Str := ["_law_expr_here"]
theorem sc__law_size : FnScope N__law_size P__law_size (defScope s__law_size) := ⟨rfl, rfl, rfl, by decide +kernel, rfl, by decide +kernel, by decide +kernel⟩
def spSize (n : Nat) : Sp := fun vs H Q _ => ∃ v e, vs = [v] ∧ IsE H v e ∧ e.deep ≤ n ∧ ∀ (t : Addr) (m : Nat) H', Same H H' → H' t = some (.tup [.int m, .int e.deep]) → Q (.ref t) H'
theorem ok__law_size {n : Nat} (B : Blt mg) (F : Fun K "_law_size" "_law_size" s__law_size f fd) (c__law_size : Cal P w K mg base n "_law_size" P__law_size (spSize n)) : FnOk P w K mg base CX0 (n + 1) f fd P__law_size (spSize (n + 1)) := by
  have nd := sc__law_size.nd
  refine F.ok sc__law_size (fun vs H Q E h => ?_) (fun cdv A outer s H vs Q E hr h => ?_)
  · obtain ⟨v, e, rfl, _⟩ := h; rfl
  obtain ⟨v, e, rfl, he, hd, q⟩ := h
  have L__law_size : n ≤ n := Nat.le_refl _
  refine ⟨_, (pss_cons (ps_set (i := 1) nd rfl (Or.inl rfl) pe_int)
      (pss_cons (ps_set (i := 2) nd rfl (Or.inl rfl) pe_int)
      (pss_cons (ps_for PassesOwn.never rfl (pi_tup (pe_slice sl_tup (pv 0) (po_some pe_int) po_none)) (pg_name (i := 3) nd rfl (Or.inl rfl))
        (pss_one (ps_if (pt_val (pe_callB call_isi (by rfl) B.isinstance bl_isinstance (pa_cons (pv 3) (pa_cons (pe_bltn (v := .ty "tuple") (by rfl) B.tuple bl_tuple rfl) pa_nil))))
          (pss_cons (ps_set (i := 4) nd rfl (Or.inl rfl) (pe_cal c__law_size (hr.mono L__law_size) (by rfl) (pa_cons (pv 3) pa_nil)))
          (pss_cons (ps_set (i := 1) nd rfl (Or.inl rfl) (pe_op op_add (pv 1) (pe_ix ix_tup (pv 4) pe_int (fun _ _ => rfl))))
          (pss_one (ps_set (i := 2) nd rfl (Or.inl rfl) (pe_callB (call_max2 rfl) (by rfl) B.max bl_max (pa_cons (pv 2) (pa_cons (pe_ix ix_tup (pv 4) pe_int (fun _ _ => rfl)) pa_nil)))))))
          pss_nil)))
      (pss_one (ps_ret (pe_tup (pa_cons (pv 1) (pa_cons (pe_op op_add (pv 2) pe_int) pa_nil)))))))), ?_⟩
  obtain ⟨a, xs, rfl, ha, hxs⟩ := he.els
  have hl : (els e).length = xs.length := Paired.length hxs
  have hl3 := els_len e
  have hl1 : 1 ≤ (els e).length := by cases e <;> simp [els]
  have e1 : HT.sIx xs.length 0 (some 1) = min 1 xs.length := HT.sIx_nat xs.length 0 1
  refine ⟨_, rfl, _, rfl, a, xs, rfl, SqT.of ha, ?_, fun p hp => ?_⟩
  · rw [e1]
    intro z
    have := z.1
    omega
  have hcut : cutV xs (some 1) none = xs.drop 1 := by
    unfold cutV
    rw [e1, HT.sIx_none, Nat.min_eq_left (by omega)]
    exact List.take_of_length_le (by rw [List.length_drop]; omega)
  rw [hcut]
  have s1 := same_new hp (.tup (xs.drop 1))
  have hys : Paired (IsIt (upd H p (.tup (xs.drop 1)))) ((els e).drop 1) (xs.drop 1) := by
    exact paired_drop1 (paired_mono hxs fun _ _ h => IsIt.mono s1.tk h)
  refine ⟨p, rfl, ⟨_, SqT.of upd_same⟩, ?_⟩
  refine for_tup (xs := xs.drop 1) (fun i σ' H' => (∃ (m : Nat) (x3 x4 : Option V), σ' = [some (.ref a), some (.int m), some (.int (((((els e).drop 1).take i).foldl (fun m c => max m (dOf c)) 0 : Nat) : Int)), x3, x4]) ∧ Same (upd H p (.tup (xs.drop 1))) H') ⟨⟨1, _, _, rfl⟩, Same.refl _⟩ (fun i σ' H' _ hP => SqT.of (hP.2 _ _ upd_same)) ?_ ?_
  · intro i x σ' H' hx hP
    obtain ⟨⟨m, x3, x4, rfl⟩, s2⟩ := hP
    obtain ⟨c, hc, hA⟩ := paired_at hys hx
    have hic := (List.getElem?_eq_some_iff.mp hc).1
    have e1 : ((els e).drop 1)[i] = c := by
      rw [List.getElem?_eq_getElem hic] at hc
      exact Option.some.inj hc
    have step : (((els e).drop 1).take (i + 1)).foldl (fun m c => max m (dOf c)) 0 = max ((((els e).drop 1).take i).foldl (fun m c => max m (dOf c)) 0) (dOf c) := by
      rw [List.take_succ_eq_append_getElem hic, List.foldl_append, e1]
      rfl
    rw [step]
    generalize (((els e).drop 1).take i).foldl (fun m c => max m (dOf c)) 0 = k
    have hA' := hA.mono s2.tk
    obtain ⟨t, ht, hk⟩ := isi_item (K := K) hA'
    refine ⟨_, rfl, x, _, t, _, _, rfl, .ty _, ht, hk, _, rfl, ?_⟩
    cases c with
    | inl u =>
      exact iteF ⟨⟨m, some x, x4, by rw [show max k (dOf (Sum.inl u)) = k from Nat.max_eq_left (Nat.zero_le _)]; rfl⟩, s2⟩
    | inr g =>
      have hgm : Sum.inr g ∈ els e := List.mem_of_mem_drop (List.mem_of_getElem? hc)
      have hg := els_kid hgm
      have dg := Ex.kid_deep hg
      refine iteT ⟨_, rfl, x, g, rfl, hA', by omega, fun t' m' H3 s3 ht' => ?_⟩
      refine ⟨_, rfl, _, rfl, t', _, _, _, rfl, rfl, SqT.of ht', rfl, _, _, rfl, rfl, ?_⟩
      refine ⟨_, rfl, _, rfl, t', _, _, _, rfl, rfl, SqT.of ht', rfl, _, _, rfl, ⟨m + m', some x, some (.ref t'), ?_⟩, s2.trans s3⟩
      have em : (if ((g.deep : Nat) : Int) > ((k : Nat) : Int) then ((g.deep : Nat) : Int) else ((k : Nat) : Int)) = ((max k g.deep : Nat) : Int) := by split <;> omega
      rw [em]
      rfl
  · intro σ' H' hP
    obtain ⟨⟨m, x3, x4, rfl⟩, s2⟩ := hP
    have el : (xs.drop 1).length = ((els e).drop 1).length := by rw [List.length_drop, List.length_drop, hl]
    rw [el, List.take_length]
    refine ⟨_, rfl, _, rfl, _, _, rfl, rfl, (by show 2 ≤ sizeLine; decide), fun t ht => ?_⟩
    refine q t m _ (s1.trans (s2.trans (same_new ht _))) ?_
    rw [upd_same, ← els_deep e]
    rfl
theorem cal__law_size (B : Blt mg) (D : DefAt K mg "_law_size" s__law_size P__law_size) : ∀ n, Cal P w K mg base n "_law_size" P__law_size (spSize n)
  | 0 => D.cal fun _ _ _ => FnOk.none fun vs H Q E h => by
    obtain ⟨_, e, _, _, h, _⟩ := h
    have := e.deep_pos
    omega
  | n + 1 => D.cal fun _ _ F => ok__law_size B F (cal__law_size B D n)

/-! ### a light expression over the names -/
abbrev s__law_light : Stmt := top 67
abbrev N__law_light : List Str := ["_law_state", "_law_names", "_law_weights", "_law_expr_here"]
abbrev P__law_light : List Str := ["_law_state", "_law_names", "_law_weights"]
theorem sc__law_light : FnScope N__law_light P__law_light (defScope s__law_light) := ⟨rfl, rfl, rfl, by decide +kernel, rfl, by decide +kernel, by decide +kernel⟩
/-- the names, each with what stands for it: its plain expression -/
abbrev Ls := List (Str × Ex)
def lget : Ls → Str → Ex
  | [], _ => .one
  | (y, e) :: r, x => if y = x then e else lget r x
def InL (ls : Ls) (x : Str) : Prop := x ∈ ls.map (·.1)
/-- the dictionaries of plain expressions and of weights, in one order -/
structure IsLs (H : Hp) (dn dw : Addr) (ls : Ls) : Prop where
  names : ∃ kvs : List (Key × V), H dn = some (.dK kvs) ∧ Paired (fun (r : Str × Ex) (kv : Key × V) => kv.1 = .inr r.1 ∧ IsE H kv.2 r.2) ls kvs
  weights : H dw = some (.dK (ls.map fun r => (Sum.inr r.1, V.int ((r.2.wt (fun _ => 0) : Nat) : Int))))
  okn : ∀ r ∈ ls, Okn r.1
  size : ls.length ≤ 50
theorem ls_get {H : Hp} {x : Str} : ∀ {ls : Ls} {kvs : List (Key × V)}, Paired (fun (r : Str × Ex) (kv : Key × V) => kv.1 = .inr r.1 ∧ IsE H kv.2 r.2) ls kvs → InL ls x → ∃ u, valV kvs (.inr x) = some u ∧ IsE H u (lget ls x)
  | _, _, .nil, h => by cases h
  | (y, e) :: ls, kv :: kvs, .cons h t, hx => by
    obtain ⟨h1, h2⟩ := h
    show ∃ u, valV (kv :: kvs) (.inr x) = some u ∧ IsE H u (if y = x then e else lget ls x)
    by_cases q : y = x
    · rw [if_pos q]
      exact ⟨kv.2, valV_pos (by rw [h1, ← q]), h2⟩
    · rw [if_neg q, valV_neg (show ¬ kv.1 = Sum.inr x from fun z => q (by rw [h1] at z; injection z))]
      refine ls_get t ?_
      rcases List.mem_cons.mp hx with z | z
      · exact absurd z.symm q
      · exact z
theorem lw_get {x : Str} : ∀ {ls : Ls}, InL ls x → valV (ls.map fun r => ((Sum.inr r.1 : Key), V.int ((r.2.wt (fun _ => 0) : Nat) : Int))) (.inr x) = some (.int (((lget ls x).wt (fun _ => 0) : Nat) : Int))
  | [], h => by cases h
  | (y, e) :: ls, hx => by
    show valV (((Sum.inr y : Key), V.int ((e.wt (fun _ => 0) : Nat) : Int)) :: ls.map fun r => ((Sum.inr r.1 : Key), V.int ((r.2.wt (fun _ => 0) : Nat) : Int))) (.inr x) = some (.int (((if y = x then e else lget ls x).wt (fun _ => 0) : Nat) : Int))
    by_cases q : y = x
    · rw [if_pos q, valV_pos (by rw [← q])]
    · rw [if_neg q, valV_neg (show ¬ (Sum.inr y : Key) = Sum.inr x from fun z => q (by injection z))]
      refine lw_get ?_
      rcases List.mem_cons.mp hx with z | z
      · exact absurd z.symm q
      · exact z
def wl (ls : Ls) (x : Str) : Nat := (lget ls x).wt (fun _ => 0)
theorem IsLs.pl {H : Hp} {dn dw : Addr} {ls : Ls} (h : IsLs H dn dw ls) : IsPl H dn (lget ls) (InL ls) := by
  obtain ⟨kvs, h1, h2⟩ := h.names
  exact ⟨kvs, h1, fun x hx => ls_get h2 hx⟩
theorem IsLs.ws {H : Hp} {dn dw : Addr} {ls : Ls} (h : IsLs H dn dw ls) : IsWs H dw (wl ls) (InL ls) := ⟨_, h.weights, fun x hx => lw_get hx⟩
theorem IsLs.tk {H H' : Hp} {dn dw : Addr} {ls : Ls} (h : IsLs H dn dw ls) (t : Tk H H') (e1 : ∀ o, H dn = some o → H' dn = some o) (e2 : ∀ o, H dw = some o → H' dw = some o) : IsLs H' dn dw ls := by
  obtain ⟨⟨kvs, h1, h2⟩, h3, h4, h5⟩ := h
  exact ⟨⟨kvs, e1 _ h1, paired_mono h2 fun _ _ q => ⟨q.1, q.2.mono t⟩⟩, e2 _ h3, h4, h5⟩
theorem IsLs.same {H H' : Hp} {dn dw : Addr} {ls : Ls} (h : IsLs H dn dw ls) (s : Same H H') : IsLs H' dn dw ls := h.tk s.tk (fun _ => s _ _) (fun _ => s _ _)
theorem IsLs.ne {H : Hp} {dn dw st sl : Addr} {ns : List Int} {ls : Ls} (h : IsLs H dn dw ls) (i : IsSt H st sl ns) : dn ≠ st ∧ dw ≠ st := by
  obtain ⟨⟨kvs, h1, _⟩, h3, _, _⟩ := h
  obtain ⟨_, _, a, b, c, h2⟩ := i
  exact ⟨fun z => (by rw [z, h2] at h1; cases h1), fun z => (by rw [z, h2] at h3; cases h3)⟩
theorem IsLs.x {H H' : Hp} {dn dw st sl : Addr} {ns : List Int} {ls : Ls} (h : IsLs H dn dw ls) (i : IsSt H st sl ns) (s : SameX [st] H H') : IsLs H' dn dw ls :=
  h.tk (i.tk s) (fun _ => s.new (h.ne i).1) (fun _ => s.new (h.ne i).2)
/-- what a light expression keeps -/
structure Light (ls : Ls) (e : Ex) : Prop where
  small : e.Small
  names : e.NamesIn (InL ls)
  deep : e.deep ≤ 4
  wt : e.wt (wl ls) ≤ 6
def spLight : Sp := fun vs H Q _ => ∃ (st sl dn dw : Addr) (ns : List Int) (ls : Ls), vs = [.ref st, .ref dn, .ref dw] ∧ IsSt H st sl ns ∧ IsLs H dn dw ls ∧
  ∀ (r : V) (e : Ex) H', IsE H' r e → Light ls e → SameX [st] H H' → IsSt H' st sl ns → Q r H'
theorem ok__law_light (B : Blt mg) (F : Fun K "_law_light" "_law_light" s__law_light f fd) (c__law_draw : Cal P w K mg base 1 "_law_draw" P__law_draw spDraw) (c__law_expr : Cal P w K mg base 7 "_law_expr" P__law_expr (spExpr 5)) (c__law_weight : Cal P w K mg base 4 "_law_weight" P__law_weight (spLawWeight 4)) :
    FnOk P w K mg base CX0 8 f fd P__law_light spLight := by
  have nd := sc__law_light.nd
  refine F.ok sc__law_light (fun vs H Q E h => ?_) (fun cdv A outer s H vs Q E hr h => ?_)
  · obtain ⟨st, sl, dn, dw, ns, ls, rfl, _⟩ := h; rfl
  obtain ⟨st, sl, dn, dw, ns, ls, rfl, hs, hls, q⟩ := h
  have L__law_draw : 1 ≤ 7 := by decide
  have L__law_expr : 7 ≤ 7 := by decide
  have L__law_weight : 4 ≤ 7 := by decide
  refine ⟨_, (pss_cons (ps_set (i := 3) nd rfl (Or.inl rfl) (pe_cal c__law_expr (hr.mono L__law_expr) (by rfl) (pa_cons (pv 0) (pa_cons (pe_callTy (call_listD rfl) (by rfl) B.list bl_list (pa_cons (pv 1) pa_nil)) (pa_cons pe_int (pa_cons pe_int pa_nil))))))
      (pss_cons (ps_if (pt_cmpR op_gt (pe_cal c__law_weight (hr.mono L__law_weight) (by rfl) (pa_cons (pv 3) (pa_cons (pv 2) pa_nil))) pe_int (nomark _))
        (pss_one (ps_ret (pe_ix ix_list (pe_lst (pa_cons (pe_tup (pa_cons pe_str (pa_cons pe_int pa_nil))) (pa_cons (pe_tup (pa_cons pe_str (pa_cons pe_int pa_nil))) (pa_cons (pe_tup (pa_cons pe_str pa_nil)) (pa_cons (pe_tup (pa_cons pe_str (pa_cons (pe_tup (pa_cons pe_str (pa_cons (pe_tup (pa_cons pe_str (pa_cons pe_int pa_nil))) pa_nil))) pa_nil))) pa_nil))))) (pe_cal c__law_draw (hr.mono L__law_draw) (by rfl) (pa_cons (pv 0) (pa_cons pe_int pa_nil))) (fun _ _ => rfl))))
        pss_nil)
      (pss_one (ps_ret (pv 3))))), ?_⟩
  obtain ⟨kvs, hk1, hk2⟩ := hls.names
  have ek : (kvs.map fun kv => kV kv.1) = (ls.map (·.1)).map V.str := by
    clear q hs hk1
    have gen : ∀ {ls : Ls} {kvs : List (Key × V)}, Paired (fun (r : Str × Ex) (kv : Key × V) => kv.1 = .inr r.1 ∧ IsE H kv.2 r.2) ls kvs → (kvs.map fun kv => kV kv.1) = (ls.map (·.1)).map V.str := by
      intro ls kvs h
      induction h with
      | nil => rfl
      | cons h t ih =>
        rw [List.map_cons, List.map_cons, List.map_cons, ih, h.1]
        rfl
    exact gen hk2
  refine ⟨_, rfl, _, rfl, dn, kvs, rfl, Rd.of hk1, fun p hp => ?_⟩
  rw [ek]
  have s1 := same_new hp (.lst ((ls.map (·.1)).map V.str))
  have i1 := hs.same s1
  have pool : IsPool (upd H p (.lst ((ls.map (·.1)).map V.str))) p st (ls.map (·.1)) := ⟨upd_same, hs.fresh hp, by rw [List.length_map]; have := hls.size; omega⟩
  refine ⟨st, sl, p, ns, ls.map (·.1), 6, 4, rfl, i1, pool, by decide, by decide, by decide, fun r e H2 he hsm hin hd s2 i2 => ?_⟩
  have l2 := (hls.same s1).x i1 s2
  have s02 : SameX [st] H H2 := (s1.x _).trans s2
  refine ⟨_, rfl, _, rfl, r, e, dw, wl ls, InL ls, rfl, he, l2.ws, hin, hsm, hd, fun H3 s3 => ?_⟩
  refine ⟨_, _, rfl, rfl, _, rfl, ?_⟩
  have i3 := i2.same s3
  have s03 := s02.trans (s3.x _)
  by_cases h6 : ((e.wt (wl ls) : Nat) : Int) > 6
  · rw [decide_eq_true h6]
    refine iteT ⟨(by show 2 ≤ sizeLine; decide), fun t1 ht1 => ⟨(by show 2 ≤ sizeLine; decide), fun t2 ht2 => ⟨(by show 1 ≤ sizeLine; decide), fun t3 ht3 => ⟨(by show 2 ≤ sizeLine; decide), fun t4 ht4 => ⟨(by show 2 ≤ sizeLine; decide), fun t5 ht5 => ⟨(by show 2 ≤ sizeLine; decide), fun t6 ht6 => ⟨(by show 4 ≤ sizeLine; decide), fun t7 ht7 => ?_⟩⟩⟩⟩⟩⟩⟩
    have a1 := same_new ht1 (.tup [.str "move", .int 0])
    have a2 := same_new ht2 (.tup [.str "move", .int 1])
    have a3 := same_new ht3 (.tup [.str "one"])
    have a4 := same_new ht4 (.tup [.str "move", .int 0])
    have a5 := same_new ht5 (.tup [.str "back", .ref t4])
    have a6 := same_new ht6 (.tup [.str "low", .ref t5])
    have a7 := same_new ht7 (.lst [.ref t1, .ref t2, .ref t3, .ref t6])
    have i7 := ((((((i3.same a1).same a2).same a3).same a4).same a5).same a6).same a7
    have s7 := a1.trans (a2.trans (a3.trans (a4.trans (a5.trans (a6.trans a7)))))
    have p7 := (((((i3.same a1).same a2).same a3).same a4).same a5).same a6 |>.fresh ht7
    refine ⟨_, rfl, st, sl, ns, 4, rfl, i7, by decide, by decide, fun d8 H8 hd8 s8 i8 => ?_⟩
    have tk8 := i7.tk s8
    have s08 := s03.trans ((s7.x _).trans s8)
    have lst8 := s8.new p7 (show _ = some (.lst [.ref t1, .ref t2, .ref t3, .ref t6]) from upd_same)
    have c1 := tk8 _ _ (a7 _ _ (a6 _ _ (a5 _ _ (a4 _ _ (a3 _ _ (a2 _ _ (show _ = some (.tup [.str "move", .int 0]) from upd_same)))))))
    have c2 := tk8 _ _ (a7 _ _ (a6 _ _ (a5 _ _ (a4 _ _ (a3 _ _ (show _ = some (.tup [.str "move", .int 1]) from upd_same))))))
    have c3 := tk8 _ _ (a7 _ _ (a6 _ _ (a5 _ _ (a4 _ _ (show _ = some (.tup [.str "one"]) from upd_same)))))
    have c4 := tk8 _ _ (a7 _ _ (a6 _ _ (a5 _ _ (show _ = some (.tup [.str "move", .int 0]) from upd_same))))
    have c5 := tk8 _ _ (a7 _ _ (a6 _ _ (show _ = some (.tup [.str "back", .ref t4]) from upd_same)))
    have c6 := tk8 _ _ (a7 _ _ (show _ = some (.tup [.str "low", .ref t5]) from upd_same))
    have fin : ∃ (t : Addr) (e : Ex), atI [V.ref t1, .ref t2, .ref t3, .ref t6] (d8 : Int) = some (.ref t) ∧ IsE H8 (.ref t) e ∧ Light ls e := by
      have hc : d8 = 0 ∨ d8 = 1 ∨ d8 = 2 ∨ d8 = 3 := by omega
      rcases hc with rfl | rfl | rfl | rfl
      · exact ⟨t1, .move 0, rfl, ⟨t1, rfl, c1⟩, ⟨by show 0 < 20; decide, trivial, by show 1 ≤ 4; decide, by show 0 + 2 ≤ 6; decide⟩⟩
      · exact ⟨t2, .move 1, rfl, ⟨t2, rfl, c2⟩, ⟨by show 1 < 20; decide, trivial, by show 1 ≤ 4; decide, by show 1 + 2 ≤ 6; decide⟩⟩
      · exact ⟨t3, .one, rfl, ⟨t3, rfl, c3⟩, ⟨trivial, trivial, by show 1 ≤ 4; decide, by show 0 ≤ 6; decide⟩⟩
      · exact ⟨t6, .low (.back (.move 0)), rfl, ⟨t6, _, rfl, c6, t5, _, rfl, c5, t4, rfl, c4⟩, ⟨by show 0 < 20; decide, trivial, by show 1 + 1 + 1 ≤ 4; decide, by show 0 + 2 + 1 ≤ 6; decide⟩⟩
    obtain ⟨t, e', hat, het, hlt⟩ := fin
    exact ⟨t7, _, _, _, rfl, rfl, SqL.of lst8, hat, q (.ref t) e' H8 het hlt s08 i8⟩
  · rw [decide_eq_false h6]
    exact iteF ⟨_, rfl, q r e H3 (he.mono s3.tk) ⟨hsm, hin, hd, by omega⟩ s03 i3⟩
theorem cal__law_light (B : Blt mg) (D : DefAt K mg "_law_light" s__law_light P__law_light) (c__law_draw : Cal P w K mg base 1 "_law_draw" P__law_draw spDraw) (c__law_expr : Cal P w K mg base 7 "_law_expr" P__law_expr (spExpr 5)) (c__law_weight : Cal P w K mg base 4 "_law_weight" P__law_weight (spLawWeight 4)) :
    Cal P w K mg base 8 "_law_light" P__law_light spLight := D.cal fun _ _ F => ok__law_light B F c__law_draw c__law_expr c__law_weight
end
end Hw
set_option maxHeartbeats 1000000
/-! Halvewright: the names kept. -/
namespace Hw
open PySem L2
section
variable {P : Program} {w : World} {K : PySem.W.Frag} {mg : Str → Option Value} {base : Heap} {f : Addr} {fd : FuncData}
def envOf (ls : Ls) (x : Str) : G := (lget ls x).S (fun _ => G.one)
structure Plain (e : Ex) : Prop where
  small : e.Small
  names : e.NamesIn (fun _ => False)
  deep : e.deep ≤ 4
  wt : e.wt (fun _ => 0) ≤ 6
theorem plain_get : ∀ {ls : Ls}, (∀ r ∈ ls, Plain r.2) → ∀ x, Plain (lget ls x)
  | [], _, x => ⟨trivial, trivial, by show 1 ≤ 4; decide, by show 0 ≤ 6; decide⟩
  | (y, e) :: ls, h, x => by
    show Plain (if y = x then e else lget ls x)
    split
    · exact h _ List.mem_cons_self
    · exact plain_get (fun r hr => h r (List.mem_cons_of_mem _ hr)) x
theorem lget_old : ∀ {ls : Ls} {x y : Str} {e : Ex}, InL ls y → lget (ls ++ [(x, e)]) y = lget ls y
  | [], _, _, _, h => by cases h
  | (z, e') :: ls, x, y, e, h => by
    show (if z = y then e' else lget (ls ++ [(x, e)]) y) = if z = y then e' else lget ls y
    by_cases q : z = y
    · rw [if_pos q, if_pos q]
    · rw [if_neg q, if_neg q]
      refine lget_old ?_
      rcases List.mem_cons.mp h with t | t
      · exact absurd t.symm q
      · exact t
theorem lget_new : ∀ {ls : Ls} {x : Str} {e : Ex}, ¬ InL ls x → lget (ls ++ [(x, e)]) x = e
  | [], x, e, _ => if_pos rfl
  | (z, e') :: ls, x, e, h => by
    have h1 : ¬ z = x := fun q => h (by rw [← q]; exact List.mem_cons_self)
    show (if z = x then e' else lget (ls ++ [(x, e)]) x) = e
    rw [if_neg h1]
    exact lget_new fun t => h (List.mem_cons_of_mem _ t)
theorem rget_snoc : ∀ {rs : Rs} {x y : Str} {m : M}, rget (rs ++ [(x, m)]) y = match rget rs y with
    | some k => some k
    | none => if x = y then some m else none
  | [], x, y, m => rfl
  | (z, k) :: rs, x, y, m => by
    show (if z = y then some k else rget (rs ++ [(x, m)]) y) = match (if z = y then some k else rget rs y) with
      | some k => some k
      | none => if x = y then some m else none
    by_cases q : z = y
    · rw [if_pos q, if_pos q]
    · rw [if_neg q, if_neg q, rget_snoc]
theorem rget_in : ∀ {rs : Rs} {x : Str}, InRs rs x ↔ x ∈ rs.map (·.1)
  | [], x => ⟨fun h => (nomatch h), fun h => (nomatch h)⟩
  | (z, k) :: rs, x => by
    show (if z = x then some k else rget rs x).isSome = true ↔ x ∈ z :: rs.map (·.1)
    by_cases q : z = x
    · rw [if_pos q, q]
      exact ⟨fun _ => List.mem_cons_self, fun _ => rfl⟩
    · rw [if_neg q, List.mem_cons]
      constructor
      · exact fun h => .inr ((rget_in (rs := rs)).mp h)
      · rintro (h | h)
        · exact absurd h.symm q
        · exact (rget_in (rs := rs)).mpr h
/-- the names and their maps, plain expressions and weights -/
structure Kept (H : Hp) (dm dn dw : Addr) (ls : Ls) (rs : Rs) : Prop where
  lsd : IsLs H dn dw ls
  nsd : IsNs H dm rs
  keys : rs.map (·.1) = ls.map (·.1)
  fine : RsFine rs
  ok : RsOk (envOf ls) (wl ls) rs
  plain : ∀ r ∈ ls, Plain r.2
theorem Kept.inL {H : Hp} {dm dn dw : Addr} {ls : Ls} {rs : Rs} (k : Kept H dm dn dw ls rs) {x : Str} : InL ls x ↔ InRs rs x := by
  rw [rget_in, k.keys]
  exact Iff.rfl
/-- a light expression's plain form -/
theorem Light.fill {ls : Ls} {e : Ex} (hp : ∀ r ∈ ls, Plain r.2) (h : Light ls e) : (e.fill (lget ls)).Small ∧ (e.fill (lget ls)).NamesIn (fun _ => False) ∧ (e.fill (lget ls)).deep ≤ 7 ∧ (e.fill (lget ls)).wt (fun _ => 0) = e.wt (wl ls) ∧ (e.fill (lget ls)).S (fun _ => G.one) = e.S (envOf ls) := by
  have hg := plain_get hp
  refine ⟨Ex.fill_small (ns := InL ls) (fun x _ => (hg x).small) h.names h.small, Ex.fill_names (ns := InL ls) (fun x _ => (hg x).names) h.names, ?_, Ex.wt_fill (ns := InL ls) (fun x _ => rfl) h.names, Ex.S_fill (ns := InL ls) (fun x _ => rfl) h.names⟩
  have := Ex.deep_fill (ns := InL ls) (k := 4) (fun x _ => (hg x).deep) (by decide) h.names
  have := h.deep
  omega
theorem IsNs.tk {H H' : Hp} {d : Addr} {rs : Rs} (h : IsNs H d rs) (t : Tk H H') (e1 : ∀ o, H d = some o → H' d = some o) : IsNs H' d rs := by
  obtain ⟨kvs, h1, h2⟩ := h
  exact ⟨kvs, e1 _ h1, paired_mono h2 fun _ _ q => ⟨q.1, q.2.mono t⟩⟩
theorem Kept.x {H H' : Hp} {dm dn dw st sl : Addr} {ns : List Int} {ls : Ls} {rs : Rs} (k : Kept H dm dn dw ls rs) (i : IsSt H st sl ns) (hne : dm ≠ st) (s : SameX [st] H H') : Kept H' dm dn dw ls rs :=
  ⟨k.lsd.x i s, k.nsd.tk (i.tk s) (fun _ => s.new hne), k.keys, k.fine, k.ok, k.plain⟩
theorem Kept.same {H H' : Hp} {dm dn dw : Addr} {ls : Ls} {rs : Rs} (k : Kept H dm dn dw ls rs) (s : Same H H') : Kept H' dm dn dw ls rs :=
  ⟨k.lsd.same s, k.nsd.same s, k.keys, k.fine, k.ok, k.plain⟩
abbrev s__law_names_kept : Stmt := top 68
abbrev N__law_names_kept : List Str := ["_law_state", "_law_maps", "_law_names", "_law_weights", "_law_k", "_law_name_here", "_law_expr_here", "_law_size_here"]
abbrev P__law_names_kept : List Str := ["_law_state", "_law_maps"]
theorem sc__law_names_kept : FnScope N__law_names_kept P__law_names_kept (defScope s__law_names_kept) := ⟨rfl, rfl, rfl, by decide +kernel, rfl, by decide +kernel, by decide +kernel⟩
def spNamesKept : Sp := fun vs H Q _ => ∃ (st sl dm : Addr) (ns : List Int), vs = [.ref st, .ref dm] ∧ IsSt H st sl ns ∧ H dm = some (.dK []) ∧
  ∀ (t dn dw : Addr) (ls : Ls) (rs : Rs) H', H' t = some (.tup [.ref dn, .ref dw]) → Kept H' dm dn dw ls rs → SameX [st, dm] H H' → IsSt H' st sl ns → Q (.ref t) H'
theorem ok__law_names_kept (B : Blt mg) (F : Fun K "_law_names_kept" "_law_names_kept" s__law_names_kept f fd) (c__law_draw : Cal P w K mg base 1 "_law_draw" P__law_draw spDraw) (c__law_name : Cal P w K mg base 2 "_law_name" P__law_name spLawName)
    (c__law_light : Cal P w K mg base 8 "_law_light" P__law_light spLight) (c__law_filled_in : Cal P w K mg base 8 "_law_filled_in" P__law_filled_in (spFilled 8)) (c__law_size : Cal P w K mg base 8 "_law_size" P__law_size (spSize 8))
    (c__law_weight : Cal P w K mg base 4 "_law_weight" P__law_weight (spLawWeight 4)) (c_map_of : Cal P w K mg base 97 "map_of" P_map_of spMapOf) : FnOk P w K mg base CX0 98 f fd P__law_names_kept spNamesKept := by
  have nd := sc__law_names_kept.nd
  refine F.ok sc__law_names_kept (fun vs H Q E h => ?_) (fun cdv A outer s H vs Q E hr h => ?_)
  · obtain ⟨st, sl, dm, ns, rfl, _⟩ := h; rfl
  obtain ⟨st, sl, dm, ns, rfl, hs, hdm, q⟩ := h
  have hu := hu_of hr
  have L__law_draw : 1 ≤ 97 := by decide
  have L__law_name : 2 ≤ 97 := by decide
  have L__law_light : 8 ≤ 97 := by decide
  have L__law_filled_in : 8 ≤ 97 := by decide
  have L__law_size : 8 ≤ 97 := by decide
  have L__law_weight : 4 ≤ 97 := by decide
  have L_map_of : 97 ≤ 97 := by decide
  refine ⟨_, (pss_cons (ps_set (i := 2) nd rfl (Or.inl rfl) pe_dnewK)
      (pss_cons (ps_set (i := 3) nd rfl (Or.inl rfl) pe_dnewK)
      (pss_cons (ps_for PassesOwn.never rfl (pi_range1 (by rfl) B.range (pa_cons (pe_cal c__law_draw (hr.mono L__law_draw) (by rfl) (pa_cons (pv 0) (pa_cons pe_int pa_nil))) pa_nil)) (pg_name (i := 4) nd rfl (Or.inl rfl))
        (pss_cons (ps_set (i := 5) nd rfl (Or.inl rfl) (pe_cal c__law_name (hr.mono L__law_name) (by rfl) (pa_cons (pv 0) pa_nil)))
        (pss_cons (ps_set (i := 6) nd rfl (Or.inl rfl) (pe_cal c__law_light (hr.mono L__law_light) (by rfl) (pa_cons (pv 0) (pa_cons (pv 2) (pa_cons (pv 3) pa_nil)))))
        (pss_cons (ps_set (i := 7) nd rfl (Or.inl rfl) (pe_cal c__law_size (hr.mono L__law_size) (by rfl) (pa_cons (pe_cal c__law_filled_in (hr.mono L__law_filled_in) (by rfl) (pa_cons (pv 6) (pa_cons (pv 2) pa_nil))) pa_nil)))
        (Evl.pss_cut (ps_if (PW.pt (pw_or (pt_cmpR op_gt (pe_ix ix_tup (pv 7) pe_int (fun _ _ => rfl)) pe_int (nomark _)) (pw_or1 (pt_cmpR op_gt (pe_ix ix_tup (pv 7) pe_int (fun _ _ => rfl)) pe_int (nomark _)))))
          (pss_one (ps_set (i := 6) nd rfl (Or.inl rfl) (pe_tup (pa_cons pe_str (pa_cons (pv 4) pa_nil)))))
          pss_nil)
        (pss_one (ps_if (pt_cmp (pc_dnotin hu (pv 5) (pv 2)))
          (pss_cons (ps_dput hu (pv 1) (pv 5) (pe_cal c_map_of (hr.mono L_map_of) (by rfl) (pa_cons (pv 6) (pa_cons (pe_callTy call_dictD (by rfl) B.dict bl_dict (pa_cons (pv 1) pa_nil)) pa_nil))) rfl)
          (pss_cons (ps_dput hu (pv 3) (pv 5) (pe_cal c__law_weight (hr.mono L__law_weight) (by rfl) (pa_cons (pv 6) (pa_cons (pv 3) pa_nil))) rfl)
          (pss_one (ps_dput hu (pv 2) (pv 5) (pe_cal c__law_filled_in (hr.mono L__law_filled_in) (by rfl) (pa_cons (pv 6) (pa_cons (pv 2) pa_nil))) rfl))))
          pss_nil)))))))
      (pss_one (ps_ret (pe_tup (pa_cons (pv 2) (pa_cons (pv 3) pa_nil)))))))), ?_⟩
  refine fun dn hdn => ?_
  have s1 := same_new hdn (.dK [])
  have i1 := hs.same s1
  refine fun dw hdw => ?_
  have s2 := same_new hdw (.dK [])
  have i2 := i1.same s2
  have nm : dm ≠ dn := fun z => by rw [← z, hdm] at hdn; cases hdn
  have nw : dm ≠ dw := fun z => by rw [← z, s1 _ _ hdm] at hdw; cases hdw
  have nnw : dn ≠ dw := fun z => by rw [← z, upd_same] at hdw; cases hdw
  have nst : dm ≠ st := fun z => by
    obtain ⟨_, _, a, b, c, h2⟩ := hs
    rw [← z, hdm] at h2
    cases h2
  have nst2 : dn ≠ st := hs.fresh hdn
  have nst3 : dw ≠ st := i1.fresh hdw
  refine ⟨_, rfl, st, sl, ns, 4, rfl, i2, by decide, by decide, fun d3 H3 hd3 s3 i3 => ?_⟩
  refine ⟨(d3 : Int), rfl, by omega, by omega, ?_⟩
  have h0m : H3 dm = some (.dK []) := s3.new nst (s2 _ _ (s1 _ _ hdm))
  have h0n : H3 dn = some (.dK []) := s3.new nst2 (s2 _ _ upd_same)
  have h0w : H3 dw = some (.dK []) := s3.new nst3 upd_same
  have base0 : SameX [st, dm, dn, dw] H H3 := (s1.x _).trans ((s2.x _).trans (s3.mono (fun x hx => by rw [List.mem_singleton.mp hx]; exact List.mem_cons_self)))
  have fin : ∀ (i : Nat) (σ' : St) (H' : Hp), (∃ x4 x5 x6 x7, σ' = [some (.ref st), some (.ref dm), some (.ref dn), some (.ref dw), x4, x5, x6, x7]) → (∃ ls rs, Kept H' dm dn dw ls rs ∧ ls.length ≤ i) → SameX [st, dm, dn, dw] H H' → IsSt H' st sl ns →
      tRet (tTup (tCons (tVar 2) (tCons (tVar 3) tNil))) { nx := fun _ H' => Q .non H', rt := Q } σ' H' := fun i σ' H' hσ hk sx ix => by
    obtain ⟨x4, x5, x6, x7, rfl⟩ := hσ
    obtain ⟨ls, rs, k, _⟩ := hk
    refine ⟨_, rfl, _, rfl, (by show 2 ≤ sizeLine; decide), fun t ht => ?_⟩
    have st' := same_new ht (.tup [.ref dn, .ref dw])
    refine q t dn dw ls rs _ upd_same ⟨k.lsd.same st', k.nsd.same st', k.keys, k.fine, k.ok, k.plain⟩ ?_ (ix.same st')
    have h1 : SameX [st, dm] H H' := fun b o hb e => by
      refine sx b o (fun z => ?_) e
      rcases List.mem_cons.mp z with z | z
      · exact hb (by rw [z]; exact List.mem_cons_self)
      rcases List.mem_cons.mp z with z | z
      · exact hb (by rw [z]; exact List.mem_cons_of_mem _ List.mem_cons_self)
      rcases List.mem_cons.mp z with z | z
      · rw [z, hdn] at e; cases e
      · have z' := List.mem_singleton.mp z
        have e2 := s1 _ _ e
        rw [z', hdw] at e2
        cases e2
    exact h1.trans (st'.x _)
  refine for_range (lo := 0) (n := (d3 : Int).toNat) (fun i σ' H' => (∃ x4 x5 x6 x7, σ' = [some (.ref st), some (.ref dm), some (.ref dn), some (.ref dw), x4, x5, x6, x7]) ∧ (∃ ls rs, Kept H' dm dn dw ls rs ∧ ls.length ≤ i) ∧ SameX [st, dm, dn, dw] H H' ∧ IsSt H' st sl ns) ?_ ?_ ?_
  · refine ⟨⟨_, _, _, _, rfl⟩, ⟨[], [], ?_, Nat.le_refl _⟩, base0, i3⟩
    exact ⟨⟨⟨[], h0n, .nil⟩, h0w, fun r h => (nomatch h), by decide⟩, ⟨[], h0m, .nil⟩, rfl, ⟨.nil, by decide⟩, fun x m h => (nomatch h), fun r h => (nomatch h)⟩
  · intro i σ' H' hi hP
    obtain ⟨⟨x4, x5, x6, x7, rfl⟩, ⟨ls, rs, k, hlen⟩, sx, ix⟩ := hP
    have hi3 : i ≤ 2 := by omega
    have up1 : ∀ {X Y : Hp}, SameX [st] X Y → SameX [st, dm, dn, dw] X Y := fun h => h.mono (fun x hx => by rw [List.mem_singleton.mp hx]; exact List.mem_cons_self)
    refine ⟨_, rfl, st, sl, ns, rfl, ix, fun x H4 hx s4 i4 => ?_⟩
    have k4 := k.x ix nst s4
    refine ⟨_, rfl, _, rfl, _, rfl, st, sl, dn, dw, ns, ls, rfl, i4, k4.lsd, fun r e H5 he hl s5 i5 => ?_⟩
    have k5 := k4.x i4 nst s5
    have hf := hl.fill k.plain
    refine ⟨_, rfl, _, rfl, r, e, dn, lget ls, InL ls, rfl, he, k5.lsd.pl, hl.names, by have := hl.deep; omega, fun r2 H6 s6 h2 => ?_⟩
    refine ⟨r2, _, rfl, h2, by omega, fun t m H7 s7 ht => ?_⟩
    have k7 := (k5.same s6).same s7
    have i7 := (i5.same s6).same s7
    have sx7 : SameX [st, dm, dn, dw] H H7 := sx.trans ((up1 s4).trans ((up1 s5).trans ((s6.x _).trans (s7.x _))))
    have he7 := (he.mono s6.tk).mono s7.tk
    refine ⟨fun σ' H' => ∃ r e, σ' = [some (.ref st), some (.ref dm), some (.ref dn), some (.ref dw), some (.int (0 + (i : Int))), some (.str x), some r, some (.ref t)] ∧ IsE H' r e ∧ Light ls e ∧ (e.fill (lget ls)).deep ≤ 4 ∧ Same H7 H', ?_, ?_⟩
    · have mv : ∀ (D : Ends), D.nx = (fun σ' H' => ∃ r e, σ' = [some (.ref st), some (.ref dm), some (.ref dn), some (.ref dw), some (.int (0 + (i : Int))), some (.str x), some r, some (.ref t)] ∧ IsE H' r e ∧ Light ls e ∧ (e.fill (lget ls)).deep ≤ 4 ∧ Same H7 H') →
          tAsg (tTup (tCons (tC (.str "move")) (tCons (tVar 4) tNil))) (gName 6) D [some (.ref st), some (.ref dm), some (.ref dn), some (.ref dw), some (.int (0 + (i : Int))), some (.str x), some r, some (.ref t)] H7 := fun D hD => by
        refine ⟨_, rfl, (by show 2 ≤ sizeLine; decide), fun p hp => ?_⟩
        show D.nx _ _
        rw [hD]
        have ez : (0 + (i : Int)) = (i : Int) := by omega
        refine ⟨_, .move i, rfl, ⟨p, rfl, ?_⟩, ⟨by show i < 20; omega, trivial, by show 1 ≤ 4; decide, by show i + 2 ≤ 6; omega⟩, by show 1 ≤ 4; decide, same_new hp _⟩
        rw [upd_same, ez]
      refine ⟨_, rfl, t, _, _, _, rfl, rfl, SqT.of ht, rfl, _, _, rfl, rfl, _, rfl, ?_⟩
      refine ite2 (fun _ => iteT (mv _ rfl)) (fun _ => ?_)
      refine ⟨_, rfl, t, _, _, _, rfl, rfl, SqT.of ht, rfl, _, _, rfl, rfl, _, rfl, ?_⟩
      by_cases h4 : (((e.fill (lget ls)).deep : Nat) : Int) > 4
      · rw [decide_eq_true h4]; exact iteT (mv _ rfl)
      · rw [decide_eq_false h4]
        exact iteF ⟨r, e, rfl, he7, hl, by omega, Same.refl _⟩
    · rintro σ' H8 ⟨r, e, rfl, he, hl, hd4, s8⟩
      have hf := hl.fill k.plain
      have k8 := k7.same s8
      have i8 := i7.same s8
      have sx8 := sx7.trans (s8.x _)
      obtain ⟨kvsn, hn1, hn2⟩ := k8.lsd.names
      obtain ⟨kvsm, hm1, hm2⟩ := k8.nsd
      by_cases hin : InL ls x
      · obtain ⟨u, eu, _⟩ := ls_get hn2 hin
        refine ⟨_, rfl, _, rfl, dn, some u, rfl, by rw [← eu]; exact DGet.k (k := .inr x) hn1, _, rfl, ?_⟩
        exact iteF ⟨⟨_, _, _, _, rfl⟩, ⟨ls, rs, k8, by omega⟩, sx8, i8⟩
      have nonen : valV kvsn (.inr x) = none := by
        clear hn1 k8
        have gen : ∀ {ls : Ls} {kvs : List (Key × V)}, Paired (fun (r : Str × Ex) (kv : Key × V) => kv.1 = .inr r.1 ∧ IsE H8 kv.2 r.2) ls kvs → ¬ InL ls x → valV kvs (.inr x) = none := by
          intro ls kvs h
          induction h with
          | nil => exact fun _ => rfl
          | @cons a b l1 l2 h t ih =>
            intro hx
            have h1 : ¬ b.1 = Sum.inr x := fun z => by
              rw [h.1] at z
              exact hx (by rw [← Sum.inr.inj z]; exact List.mem_cons_self)
            rw [valV_neg h1]
            exact ih fun z => hx (List.mem_cons_of_mem _ z)
        exact gen hn2 hin
      have hrn : rget rs x = none := by
        cases hq : rget rs x with
        | none => rfl
        | some m => exact absurd (k8.inL.mpr (show InRs rs x by unfold InRs; rw [hq]; rfl)) hin
      have nonem : valV kvsm (.inr x) = none := (ns_get hm2).2 hrn
      have nonew : valV (ls.map fun r => ((Sum.inr r.1 : Key), V.int ((r.2.wt (fun _ => 0) : Nat) : Int))) (.inr x) = none := by
        have gen : ∀ ls : Ls, ¬ InL ls x → valV (ls.map fun r => ((Sum.inr r.1 : Key), V.int ((r.2.wt (fun _ => 0) : Nat) : Int))) (.inr x) = none := by
          intro ls
          induction ls with
          | nil => exact fun _ => rfl
          | cons a ls ih =>
            intro hin
            have h1 : ¬ (Sum.inr a.1 : Key) = Sum.inr x := fun z => hin (by rw [← Sum.inr.inj z]; exact List.mem_cons_self)
            rw [List.map_cons, valV_neg h1]
            exact ih fun z => hin (List.mem_cons_of_mem _ z)
        exact gen ls hin
      refine ⟨_, rfl, _, rfl, dn, none, rfl, by rw [← nonen]; exact DGet.k (k := .inr x) hn1, _, rfl, ?_⟩
      have hlk : ls.length = kvsn.length := Paired.length hn2
      have hmk : rs.length = kvsm.length := Paired.length hm2
      have hrl : rs.length = ls.length := by rw [← List.length_map (f := (·.1)) (as := rs), k8.keys, List.length_map]
      refine iteT ⟨_, rfl, _, rfl, dm, kvsm, rfl, Rd.of hm1, fun p hp => ?_⟩
      have s9 := same_new hp (.dK kvsm)
      have nsp : IsNs (upd H8 p (.dK kvsm)) p rs := ⟨kvsm, upd_same, paired_mono hm2 fun _ _ q => ⟨q.1, q.2.mono s9.tk⟩⟩
      have wle := hl.wt
      have dle := hl.deep
      refine ⟨r, e, p, rs, envOf ls, wl ls, rfl, he.mono s9.tk, nsp, k8.fine, k8.ok, Ex.NamesIn.mono (fun y hy => k8.inL.mp hy) hl.names, hl.small, by omega, by omega, fun v m H10 s10 hvm hdoes hleaf => ?_⟩
      have sA := s9.trans s10
      refine ⟨_, rfl, _, rfl, dm, _, rfl, DPut.k (k := .inr x) (sA _ _ hm1) (line1000' (by omega)), ?_⟩
      rw [putK_new v nonem]
      have tB := tk_dK (sA _ _ hm1) (.dK (kvsm ++ [(Sum.inr x, v)]))
      have lsB : IsLs (upd H10 dm (.dK (kvsm ++ [(Sum.inr x, v)]))) dn dw ls := (k8.lsd.same sA).tk tB (fun o h => by rw [upd_ne (Ne.symm nm)]; exact h) (fun o h => by rw [upd_ne (Ne.symm nw)]; exact h)
      have iB : IsSt (upd H10 dm (.dK (kvsm ++ [(Sum.inr x, v)]))) st sl ns := by
        obtain ⟨g1, g2, a, b, c, g3⟩ := i8.same sA
        refine ⟨?_, g2, a, b, c, by rw [upd_ne (Ne.symm nst)]; exact g3⟩
        rw [upd_ne (fun z => by rw [z, sA _ _ hm1] at g1; cases g1)]
        exact g1
      have sxB : SameX [st, dm, dn, dw] H (upd H10 dm (.dK (kvsm ++ [(Sum.inr x, v)]))) := sx8.trans ((sA.x _).trans (samex_upd _ (List.mem_cons_of_mem _ List.mem_cons_self)))
      have heB := (he.mono sA.tk).mono tB
      have hvB := hvm.mono tB
      have mB : (upd H10 dm (.dK (kvsm ++ [(Sum.inr x, v)]))) dm = some (.dK (kvsm ++ [(Sum.inr x, v)])) := upd_same
      have pmB : Paired (fun r (kv : Key × V) => kv.1 = .inr r.1 ∧ IsM (upd H10 dm (.dK (kvsm ++ [(Sum.inr x, v)]))) kv.2 r.2) (rs ++ [(x, m)]) (kvsm ++ [(Sum.inr x, v)]) :=
        paired_append (paired_mono hm2 fun _ _ q => ⟨q.1, (q.2.mono sA.tk).mono tB⟩) (.cons ⟨rfl, hvB⟩ .nil)
      generalize upd H10 dm (.dK (kvsm ++ [(Sum.inr x, v)])) = HB at lsB iB sxB heB hvB mB pmB
      refine ⟨_, rfl, _, rfl, r, e, dw, wl ls, InL ls, rfl, heB, lsB.ws, hl.names, hl.small, hl.deep, fun H11 s11 => ?_⟩
      refine ⟨_, rfl, _, rfl, dw, _, rfl, DPut.k (k := .inr x) (s11 _ _ lsB.weights) (by rw [List.length_map]; exact line1000' (by omega)), ?_⟩
      rw [putK_new _ nonew]
      have tC := tk_dK (s11 _ _ lsB.weights) (.dK ((ls.map fun r => ((Sum.inr r.1 : Key), V.int ((r.2.wt (fun _ => 0) : Nat) : Int))) ++ [(Sum.inr x, iwt (wl ls) e)]))
      have wC : (upd H11 dw (.dK ((ls.map fun r => ((Sum.inr r.1 : Key), V.int ((r.2.wt (fun _ => 0) : Nat) : Int))) ++ [(Sum.inr x, iwt (wl ls) e)]))) dw = some (.dK ((ls.map fun r => ((Sum.inr r.1 : Key), V.int ((r.2.wt (fun _ => 0) : Nat) : Int))) ++ [(Sum.inr x, iwt (wl ls) e)])) := upd_same
      have iC : IsSt (upd H11 dw (.dK ((ls.map fun r => ((Sum.inr r.1 : Key), V.int ((r.2.wt (fun _ => 0) : Nat) : Int))) ++ [(Sum.inr x, iwt (wl ls) e)]))) st sl ns := by
        obtain ⟨g1, g2, a, b, c, g3⟩ := iB.same s11
        refine ⟨?_, g2, a, b, c, by rw [upd_ne (Ne.symm nst3)]; exact g3⟩
        rw [upd_ne (fun z => by rw [z, s11 _ _ lsB.weights] at g1; cases g1)]
        exact g1
      have mC : (upd H11 dw (.dK ((ls.map fun r => ((Sum.inr r.1 : Key), V.int ((r.2.wt (fun _ => 0) : Nat) : Int))) ++ [(Sum.inr x, iwt (wl ls) e)]))) dm = some (.dK (kvsm ++ [(Sum.inr x, v)])) := by rw [upd_ne nw]; exact s11 _ _ mB
      have nC : ∀ o, HB dn = some o → (upd H11 dw (.dK ((ls.map fun r => ((Sum.inr r.1 : Key), V.int ((r.2.wt (fun _ => 0) : Nat) : Int))) ++ [(Sum.inr x, iwt (wl ls) e)]))) dn = some o := fun o h => by rw [upd_ne nnw]; exact s11 _ _ h
      have sxC : SameX [st, dm, dn, dw] H (upd H11 dw (.dK ((ls.map fun r => ((Sum.inr r.1 : Key), V.int ((r.2.wt (fun _ => 0) : Nat) : Int))) ++ [(Sum.inr x, iwt (wl ls) e)]))) := sxB.trans ((s11.x _).trans (samex_upd _ (by simp)))
      have tBC : Tk HB (upd H11 dw (.dK ((ls.map fun r => ((Sum.inr r.1 : Key), V.int ((r.2.wt (fun _ => 0) : Nat) : Int))) ++ [(Sum.inr x, iwt (wl ls) e)]))) := s11.tk.trans tC
      generalize upd H11 dw (.dK ((ls.map fun r => ((Sum.inr r.1 : Key), V.int ((r.2.wt (fun _ => 0) : Nat) : Int))) ++ [(Sum.inr x, iwt (wl ls) e)])) = HC at wC iC mC nC sxC tBC tC
      have heC := heB.mono tBC
      obtain ⟨kvs', hn1', hn2'⟩ := lsB.names
      have plC : IsPl HC dn (lget ls) (InL ls) := ⟨kvs', nC _ hn1', fun y hy => by
        obtain ⟨u, eu, iu⟩ := ls_get hn2' hy
        exact ⟨u, eu, iu.mono tBC⟩⟩
      refine ⟨_, rfl, _, rfl, r, e, dn, lget ls, InL ls, rfl, heC, plC, hl.names, by omega, fun u H13 s13 hu => ?_⟩
      have nonen' : valV kvs' (.inr x) = none := by
        clear plC hn1' pmB
        have gen : ∀ {ls : Ls} {kvs : List (Key × V)}, Paired (fun (r : Str × Ex) (kv : Key × V) => kv.1 = .inr r.1 ∧ IsE HB kv.2 r.2) ls kvs → ¬ InL ls x → valV kvs (.inr x) = none := by
          intro ls kvs h
          induction h with
          | nil => exact fun _ => rfl
          | @cons a b l1 l2 h t ih =>
            intro hx
            have h1 : ¬ b.1 = Sum.inr x := fun z => by
              rw [h.1] at z
              exact hx (by rw [← Sum.inr.inj z]; exact List.mem_cons_self)
            rw [valV_neg h1]
            exact ih fun z => hx (List.mem_cons_of_mem _ z)
        exact gen hn2' hin
      have hlk' : ls.length = kvs'.length := Paired.length hn2'
      refine ⟨_, rfl, _, rfl, dn, _, rfl, DPut.k (k := .inr x) (s13 _ _ (nC _ hn1')) (line1000' (by omega)), ?_⟩
      rw [putK_new u nonen']
      have tD := tk_dK (s13 _ _ (nC _ hn1')) (.dK (kvs' ++ [(Sum.inr x, u)]))
      have tCD := s13.tk.trans tD
      have tBD := tBC.trans tCD
      refine ⟨⟨_, _, _, _, rfl⟩, ⟨ls ++ [(x, e.fill (lget ls))], rs ++ [(x, m)], ?_, by rw [List.length_append]; show ls.length + 1 ≤ i + 1; omega⟩, sxC.trans ((s13.x _).trans (samex_upd _ (by simp))), ?_⟩
      · have hpl2 : Plain (e.fill (lget ls)) := ⟨hf.1, hf.2.1, hd4, by rw [hf.2.2.2.1]; exact hl.wt⟩
        refine ⟨⟨⟨kvs' ++ [(Sum.inr x, u)], upd_same, ?_⟩, ?_, ?_, ?_⟩, ⟨kvsm ++ [(Sum.inr x, v)], ?_, ?_⟩, ?_, ?_, ?_, ?_⟩
        · exact paired_append (paired_mono hn2' fun _ _ q => ⟨q.1, q.2.mono tBD⟩) (.cons ⟨rfl, hu.mono tD⟩ .nil)
        · rw [upd_ne (Ne.symm nnw), s13 _ _ wC, List.map_append]
          unfold iwt
          rw [← hf.2.2.2.1]
          rfl
        · intro r' hr'
          rcases List.mem_append.mp hr' with h | h
          · exact k8.lsd.okn r' h
          · rw [List.mem_singleton.mp h]; exact hx
        · rw [List.length_append]; show ls.length + 1 ≤ 50; omega
        · rw [upd_ne nm]; exact s13 _ _ mC
        · exact paired_mono pmB fun _ _ q => ⟨q.1, q.2.mono tBD⟩
        · rw [List.map_append, List.map_append, k8.keys]; rfl
        · refine ⟨?_, by rw [List.length_append]; show rs.length + 1 ≤ 100; omega⟩
          rw [List.map_append, List.nodup_append]
          refine ⟨k8.fine.1, by simp, fun a ha b hb => ?_⟩
          have e1 : b = x := by simpa using hb
          rw [e1]
          intro z
          rw [k8.keys, z] at ha
          exact hin ha
        · intro y k' hy
          rw [rget_snoc] at hy
          cases hq : rget rs y with
          | some k0 =>
            rw [hq] at hy
            cases hy
            have hyL : InL ls y := k8.inL.mpr (show InRs rs y by unfold InRs; rw [hq]; rfl)
            obtain ⟨o1, o2, o3⟩ := k8.ok y _ hq
            unfold envOf wl at *
            rw [lget_old hyL]
            exact ⟨o1, o2, o3⟩
          | none =>
            rw [hq] at hy
            have hy' : (if x = y then some m else none) = some k' := hy
            by_cases hxy : x = y
            · rw [if_pos hxy] at hy'
              cases hy'
              subst hxy
              unfold envOf wl
              rw [lget_new hin]
              refine ⟨?_, ?_, ?_⟩
              · rw [hf.2.2.2.2]; exact hdoes
              · rw [hf.2.2.2.1]; exact hleaf
              · rw [hf.2.2.2.1]; omega
            · rw [if_neg hxy] at hy'
              cases hy'
        · intro r' hr'
          rcases List.mem_append.mp hr' with h | h
          · exact k8.plain r' h
          · rw [List.mem_singleton.mp h]; exact hpl2
      · obtain ⟨g1, g2, a, b, c, g3⟩ := iC.same s13
        refine ⟨?_, g2, a, b, c, by rw [upd_ne (Ne.symm nst2)]; exact g3⟩
        rw [upd_ne (fun z => by rw [z, s13 _ _ (nC _ hn1')] at g1; cases g1)]
        exact g1
  · intro σ' H' hP
    exact fin _ σ' H' hP.1 hP.2.1 hP.2.2.1 hP.2.2.2
theorem cal__law_names_kept (B : Blt mg) (D : DefAt K mg "_law_names_kept" s__law_names_kept P__law_names_kept) (c__law_draw : Cal P w K mg base 1 "_law_draw" P__law_draw spDraw) (c__law_name : Cal P w K mg base 2 "_law_name" P__law_name spLawName)
    (c__law_light : Cal P w K mg base 8 "_law_light" P__law_light spLight) (c__law_filled_in : Cal P w K mg base 8 "_law_filled_in" P__law_filled_in (spFilled 8)) (c__law_size : Cal P w K mg base 8 "_law_size" P__law_size (spSize 8))
    (c__law_weight : Cal P w K mg base 4 "_law_weight" P__law_weight (spLawWeight 4)) (c_map_of : Cal P w K mg base 97 "map_of" P_map_of spMapOf) : Cal P w K mg base 98 "_law_names_kept" P__law_names_kept spNamesKept :=
  D.cal fun _ _ F => ok__law_names_kept B F c__law_draw c__law_name c__law_light c__law_filled_in c__law_size c__law_weight c_map_of
end
end Hw
set_option maxHeartbeats 1000000
/-! Halvewright: != of two dictionaries of one key. -/
namespace Hw
open PySem PySem.Spec PyProof.Rows L2
def rNe1 (K : PySem.W.Frag) : R2 := fun x y H Q => ∃ a b k u v d e, x = .ref a ∧ y = .ref b ∧ H a = some (.dK [(k, u)]) ∧ H b = some (.dK [(k, v)]) ∧ Dp K H u d ∧ Dp K H v e ∧ SeqAt.shaped d = true ∧ SeqAt.shaped e = true ∧ Q (.bl (!PyData.eqv d e)) H
theorem op_ne1 {X : Cx} (hu : X.A.units + 100 < cLine) : OpR X (compareOp .NotEq) (rNe1 X.K) := by
  intro pins s σ H x y v u Q I rx ry h
  obtain ⟨a, b, k, u1, v1, d, e, rfl, rfl, ea, eb, hd, he, sd, se, q⟩ := h
  obtain rfl : v = Value.ref a := rx
  obtain rfl : u = Value.ref b := ry
  obtain ⟨_, ya, va, ra, da⟩ := (show ObjOk X.prog X.w H s.heap a (.dK [(k, u1)]) from I.hok a _ ea)
  obtain ⟨_, yb, vb, rb, db⟩ := (show ObjOk X.prog X.w H s.heap b (.dK [(k, v1)]) from I.hok b _ eb)
  unfold KV at ra rb
  cases ra with
  | @cons _ qa _ _ h1 t1 =>
  cases t1
  cases rb with
  | @cons _ qb _ _ h2 t2 =>
  cases t2
  obtain ⟨ka, xa⟩ := qa
  obtain ⟨kb, xb⟩ := qb
  obtain ⟨ha1, ha2⟩ := h1
  obtain ⟨hb1, hb2⟩ := h2
  have ha1 : k = ka := ha1
  have hb1 : k = kb := hb1
  subst ha1 hb1
  obtain ⟨as, r1⟩ := Dp.reads I d u1 xa hd ha2
  obtain ⟨bs, r2⟩ := Dp.reads I e v1 xb he hb2
  refine PySem.W.keq_ne (knd := mixKind X.prog X.w) (r := PyData.eqv d e && true) ya yb da db (by omega) (fun _ => .hit (y := xb) (by simp [valueAt]) (PySem.W.keq_at r1 r2 sd se (by show X.A.units + 1 + 64 < cLine; omega)) .nil) ?_
  exact fin_bl I q (by simp)
end Hw
set_option maxHeartbeats 1000000
/-! Halvewright: two texts that tell one map; a text that does not. -/
namespace Hw
open PySem L2
theorem C.ok_small : ∀ {c : C}, c.ok → c.ex.Small
  | .one, _ => trivial
  | .move _, h => h
  | .name _, _ => trivial
  | .par c, h => C.ok_small (c := c) h
  | .back c, h => C.ok_small (c := c) h.1
  | .power c _, h => ⟨C.ok_small (c := c) h.1, h.2.2⟩
  | .low c, h => C.ok_small (c := c) h
  | .high c, h => C.ok_small (c := c) h
  | .as c d, h => ⟨C.ok_small (c := c) h.1, C.ok_small (c := d) h.2⟩
  | .com c d, h => ⟨C.ok_small (c := c) h.1, C.ok_small (c := d) h.2⟩
  | .thn _ c d, h => ⟨C.ok_small (c := c) h.1, C.ok_small (c := d) h.2.1⟩
theorem m_shaped {m : M} {x : G} {k : Nat} (h : Does m x) (hl : m.1.leaves ≤ k + 1) (hk : k ≤ 60) : SeqAt.shaped (mD m) = true := by
  have d1 := m.1.depth_lt
  have d2 := m.2.depth_lt
  have e : m.1.leaves = m.2.leaves := h.ev
  exact mD_shaped (by omega) (by omega)
theorem paired_mem {α β : Type} {F : α → β → Prop} : ∀ {xs : List α} {ys : List β}, Paired F xs ys → ∀ {y : β}, y ∈ ys → ∃ x, x ∈ xs ∧ F x y
  | _, _, .cons h t, y, hy => by
    rcases List.mem_cons.mp hy with rfl | hy
    · exact ⟨_, List.mem_cons_self, h⟩
    · obtain ⟨x, hx, hf⟩ := paired_mem t hy
      exact ⟨x, List.mem_cons_of_mem _ hx, hf⟩
theorem nodup_inr : ∀ {xs : List Str}, xs.Nodup → (xs.map (Sum.inr : Str → Key)).Nodup
  | [], _ => .nil
  | x :: xs, h => by
    rw [List.nodup_cons] at h
    rw [List.map_cons, List.nodup_cons]
    refine ⟨fun z => ?_, nodup_inr h.2⟩
    obtain ⟨y, hy, e⟩ := List.mem_map.mp z
    rw [Sum.inr.inj e] at hy
    exact h.1 hy
section
variable {P : Program} {w : World} {K : PySem.W.Frag} {mg : Str → Option Value} {base : Heap} {f : Addr} {fd : FuncData}
/-- the maps as they stand -/
structure Maps (H : Hp) (dm : Addr) (rs : Rs) (env : Str → G) (wn : Str → Nat) : Prop where
  nsd : IsNs H dm rs
  fine : RsFine rs
  ok : RsOk env wn rs
theorem Maps.same {H H' : Hp} {dm : Addr} {rs : Rs} {env : Str → G} {wn : Str → Nat} (m : Maps H dm rs env wn) (s : Same H H') : Maps H' dm rs env wn := ⟨m.nsd.same s, m.fine, m.ok⟩
/-- map_of(read_expr(text), maps), a text that is fine -/
theorem read_map {te td : TE} {σ : St} {H : Hp} {Q : VK} {c : C} {dm : Addr} {rs : Rs} {env : Str → G} {wn : Str → Nat} (hf : Fine wn (InRs rs) c) (hm : Maps H dm rs env wn)
    (h1 : ∀ Q' : VK, Q' (.str (mk c.txt)) H → te σ H Q') (h2 : ∀ H' (Q' : VK), Same H H' → Q' (.ref dm) H' → td σ H' Q')
    (q : ∀ r m H', Same H H' → IsM H' r m → Does m (c.ex.S env) → m.1.leaves ≤ c.ex.wt wn + 1 → Q r H') :
    (tCall spMapOf [] E0 (tCons (tCall spReadExpr [] E0 (tCons te tNil)) (tCons td tNil))) σ H Q := by
  refine h1 _ ?_
  refine ⟨c.txt, c, rfl, pc_all hf.ok, hf.ok, hf.len, hf.nest, fun r H2 s2 he => ?_⟩
  refine h2 H2 _ s2 ?_
  have hm2 := hm.same s2
  have hd := hf.deep
  exact ⟨r, c.ex, dm, rs, env, wn, rfl, he, hm2.nsd, hm2.fine, hm2.ok, hf.names, C.ok_small hf.ok, hf.wt, by omega, fun v m H3 s3 im dm' hl => q v m H3 (s2.trans s3) im dm' hl⟩
abbrev s__law_same : Stmt := top 69
abbrev N__law_same : List Str := ["_law_one", "_law_other", "_law_maps", "_law_kept", "_law_first", "_law_second"]
abbrev P__law_same : List Str := ["_law_one", "_law_other", "_law_maps"]
theorem sc__law_same : FnScope N__law_same P__law_same (defScope s__law_same) := ⟨rfl, rfl, rfl, by decide +kernel, rfl, by decide +kernel, by decide +kernel⟩
def spSame : Sp := fun vs H Q _ => ∃ (p : Str × Str) (dm : Addr) (rs : Rs) (env : Str → G) (wn : Str → Nat), vs = [.str p.1, .str p.2, .ref dm] ∧ Maps H dm rs env wn ∧ Pair env wn (InRs rs) p ∧ ∀ H', Same H H' → Q (.bl true) H'
theorem ok__law_same (B : Blt mg) (F : Fun K "_law_same" "_law_same" s__law_same f fd) (c_map_of : Cal P w K mg base 97 "map_of" P_map_of spMapOf) (c_read_expr : Cal P w K mg base 40 "read_expr" P_read_expr spReadExpr) : FnOk P w K mg base CX0 98 f fd P__law_same spSame := by
  have nd := sc__law_same.nd
  refine F.ok sc__law_same (fun vs H Q E h => ?_) (fun cdv A outer s H vs Q E hr h => ?_)
  · obtain ⟨p, dm, rs, env, wn, rfl, _⟩ := h; rfl
  obtain ⟨⟨t1, t2⟩, dm, rs, env, wn, rfl, hm, ⟨c, d, e1, e2, fc, fd', hcd⟩, q⟩ := h
  replace e1 : t1 = mk c.txt := e1
  replace e2 : t2 = mk d.txt := e2
  subst e1 e2
  have hu64 := hr.units
  have L_map_of : 97 ≤ 97 := Nat.le_refl _
  have L_read_expr : 40 ≤ 97 := by decide
  refine ⟨_, (pss_cons (ps_set (i := 3) nd rfl (Or.inl rfl) (pe_callTy call_dictD (by rfl) B.dict bl_dict (pa_cons (pv 2) pa_nil)))
      (pss_cons (ps_set (i := 4) nd rfl (Or.inl rfl) (pe_cal c_map_of (hr.mono L_map_of) (by rfl) (pa_cons (pe_cal c_read_expr (hr.mono L_read_expr) (by rfl) (pa_cons (pv 0) pa_nil)) (pa_cons (pv 2) pa_nil))))
      (pss_cons (ps_set (i := 5) nd rfl (Or.inl rfl) (pe_cal c_map_of (hr.mono L_map_of) (by rfl) (pa_cons (pe_cal c_read_expr (hr.mono L_read_expr) (by rfl) (pa_cons (pv 1) pa_nil)) (pa_cons (pv 2) pa_nil))))
      (pss_one (ps_ret (pe_and (pe_cmpR (op_eqD hu64) (pv 4) (pv 5) (nomark _)) (pe_and (pe_cmpR (op_eqD hu64) (pe_cal c_map_of (hr.mono L_map_of) (by rfl) (pa_cons (pe_cal c_read_expr (hr.mono L_read_expr) (by rfl) (pa_cons (pv 0) pa_nil)) (pa_cons (pv 2) pa_nil))) (pv 4) (nomark _)) (pe_one (pe_cmpR (op_eqV hu64) (pv 2) (pv 3) (nomark _)))))))))), ?_⟩
  obtain ⟨kvs, hk, hk2⟩ := hm.nsd
  refine ⟨_, rfl, dm, kvs, rfl, Rd.of hk, fun p hp => ?_⟩
  have s1 := same_new hp (.dK kvs)
  have m1 := hm.same s1
  show (tCall spMapOf [] E0 (tCons (tCall spReadExpr [] E0 (tCons (tVar 0) tNil)) (tCons (tVar 2) tNil))) _ _ _
  refine read_map (c := c) fc m1 (fun Q' h => ⟨_, rfl, h⟩) (fun H' Q' _ h => ⟨_, rfl, h⟩) fun v1 x1 H2 s2 i1 d1 l1 => ?_
  have m2 := m1.same s2
  show (tCall spMapOf [] E0 (tCons (tCall spReadExpr [] E0 (tCons (tVar 1) tNil)) (tCons (tVar 2) tNil))) _ _ _
  refine read_map (c := d) fd' m2 (fun Q' h => ⟨_, rfl, h⟩) (fun H' Q' _ h => ⟨_, rfl, h⟩) fun v2 x2 H3 s3 i2 d2 l2 => ?_
  have m3 := m2.same s3
  have ex12 : x1 = x2 := d1.ext (by rw [hcd]; exact d2)
  have i1' := i1.mono s3.tk
  refine ⟨_, rfl, _, rfl, mD x1, mD x2, i1'.dp, i2.dp, m_shaped d1 l1 fc.wt, m_shaped d2 l2 fd'.wt, _, rfl, ?_⟩
  rw [mD_eqv, decide_eq_true ex12]
  refine iteT ?_
  show (tCall spMapOf [] E0 (tCons (tCall spReadExpr [] E0 (tCons (tVar 0) tNil)) (tCons (tVar 2) tNil))) _ _ _
  refine read_map (c := c) fc m3 (fun Q' h => ⟨_, rfl, h⟩) (fun H' Q' _ h => ⟨_, rfl, h⟩) fun v3 x3 H4 s4 i3 d3 l3 => ?_
  have ex13 : x3 = x1 := d3.ext d1
  refine ⟨_, rfl, mD x3, mD x1, i3.dp, (i1'.mono s4.tk).dp, m_shaped d3 l3 fc.wt, m_shaped d1 l1 fc.wt, _, rfl, ?_⟩
  rw [mD_eqv, decide_eq_true ex13]
  refine iteT ?_
  have s14 := s2.trans (s3.trans s4)
  refine ⟨_, rfl, _, rfl, 1, by decide, .inr ⟨dm, p, kvs, kvs, rfl, rfl, s14 _ _ (s1 _ _ hk), s14 _ _ upd_same, rfl, ?_⟩, q H4 (s1.trans s14)⟩
  intro r hr'
  have hnd : (kvs.map (·.1)).Nodup := by
    have ek : kvs.map (·.1) = (rs.map (·.1)).map Sum.inr := by
      clear hk m1 m2 m3 hr'
      have gen : ∀ {rs : Rs} {kvs : List (Key × V)}, Paired (fun r (kv : Key × V) => kv.1 = .inr r.1 ∧ IsM H kv.2 r.2) rs kvs → kvs.map (·.1) = (rs.map (·.1)).map Sum.inr := by
        intro rs kvs h
        induction h with
        | nil => rfl
        | cons h t ih => rw [List.map_cons, List.map_cons, List.map_cons, ih, h.1]
      exact gen hk2
    rw [ek]
    exact nodup_inr hm.fine.1
  have hv : valV kvs r.1 = some r.2 := by
    have gen : ∀ kvs : List (Key × V), (kvs.map (·.1)).Nodup → r ∈ kvs → valV kvs r.1 = some r.2 := by
      intro kvs
      induction kvs with
      | nil => intro _ h; cases h
      | cons a kvs ih =>
        intro hnd h
        rw [List.map_cons, List.nodup_cons] at hnd
        rcases List.mem_cons.mp h with rfl | h
        · exact valV_pos rfl
        · rw [valV_neg (show ¬ a.1 = r.1 from fun z => hnd.1 (by rw [z]; exact List.mem_map.mpr ⟨r, h, rfl⟩))]
          exact ih hnd.2 h
    exact gen kvs hnd hr'
  refine ⟨r.2, hv, .inr (.inl ?_)⟩
  obtain ⟨x, _, hx⟩ := paired_mem hk2 hr'
  obtain ⟨a, _, _, e, _⟩ := hx.2
  exact ⟨a, e, e⟩
theorem cal__law_same (B : Blt mg) (D : DefAt K mg "_law_same" s__law_same P__law_same) (c_map_of : Cal P w K mg base 97 "map_of" P_map_of spMapOf) (c_read_expr : Cal P w K mg base 40 "read_expr" P_read_expr spReadExpr) : Cal P w K mg base 98 "_law_same" P__law_same spSame :=
  D.cal fun _ _ F => ok__law_same B F c_map_of c_read_expr

abbrev s__law_unlike : Stmt := top 70
abbrev N__law_unlike : List Str := ["_law_e", "_law_k", "_law_half", "_law_maps", "_law_first"]
abbrev P__law_unlike : List Str := ["_law_e", "_law_k", "_law_half", "_law_maps"]
theorem sc__law_unlike : FnScope N__law_unlike P__law_unlike (defScope s__law_unlike) := ⟨rfl, rfl, rfl, by decide +kernel, rfl, by decide +kernel, by decide +kernel⟩
def halfT (h : Nat) (k : Nat) : C := match h with
  | 0 => .low (.move k)
  | 1 => .high (.move k)
  | _ => .par (.move k)
def halfS : Nat → Str
  | 0 => "low"
  | 1 => "high"
  | _ => ""
def spUnlike : Sp := fun vs H Q _ => ∃ (a : C) (k h : Nat) (dm : Addr) (rs : Rs) (env : Str → G) (wn : Str → Nat), vs = [.str (mk (C.par a).txt), .int k, .str (halfS h), .ref dm] ∧ k < 4 ∧ Maps H dm rs env wn ∧ Part wn (InRs rs) a ∧ ∀ H', Same H H' → Q (.bl true) H'
theorem stirs_half (h k : Nat) (env : Str → G) : G.Stirs ((halfT h k).ex.S env) := by
  match h with
  | 0 => exact (G.stirs_mv k).low
  | 1 => exact (G.stirs_mv k).high
  | _ + 2 => exact G.stirs_mv k
theorem fine_half {wn : Str → Nat} {ns : Str → Prop} {a : C} {h k : Nat} (hk : k < 4) (ha : Part wn ns a) : Fine wn ns (.par a) ∧ Fine wn ns (.thn false (.par a) (halfT h k)) ∧ Fine wn ns (.thn false (.par a) (.back (halfT h k))) := by
  have h1 := ha.nest; have h2 := ha.deep; have h3 := ha.wt; have h4 := ha.len
  have hl := figs_length k
  refine ⟨⟨ha.ok, by show a.nest + 1 ≤ 11; omega, by show a.ex.deep ≤ 12; omega, by show a.ex.wt wn ≤ 60; omega, ha.names, by simp [C.txt]; omega⟩, ?_, ?_⟩
  · match h with
    | 0 => exact ⟨⟨ha.ok, by show k < 20; omega, rfl, .inr (.inl rfl)⟩, by simp only [halfT, C.nest]; omega, by simp only [halfT, C.ex, Ex.deep]; omega, by simp only [halfT, C.ex, Ex.wt]; omega, ⟨ha.names, trivial⟩, by simp [halfT, C.txt]; omega⟩
    | 1 => exact ⟨⟨ha.ok, by show k < 20; omega, rfl, .inr (.inl rfl)⟩, by simp only [halfT, C.nest]; omega, by simp only [halfT, C.ex, Ex.deep]; omega, by simp only [halfT, C.ex, Ex.wt]; omega, ⟨ha.names, trivial⟩, by simp [halfT, C.txt]; omega⟩
    | _ + 2 => exact ⟨⟨ha.ok, by show k < 20; omega, rfl, .inr (.inl rfl)⟩, by simp only [halfT, C.nest]; omega, by simp only [halfT, C.ex, Ex.deep]; omega, by simp only [halfT, C.ex, Ex.wt]; omega, ⟨ha.names, trivial⟩, by simp [halfT, C.txt]; omega⟩
  · match h with
    | 0 => exact ⟨⟨ha.ok, ⟨by show k < 20; omega, rfl⟩, rfl, .inr (.inl rfl)⟩, by simp only [halfT, C.nest]; omega, by simp only [halfT, C.ex, Ex.deep]; omega, by simp only [halfT, C.ex, Ex.wt]; omega, ⟨ha.names, trivial⟩, by simp [halfT, C.txt]; omega⟩
    | 1 => exact ⟨⟨ha.ok, ⟨by show k < 20; omega, rfl⟩, rfl, .inr (.inl rfl)⟩, by simp only [halfT, C.nest]; omega, by simp only [halfT, C.ex, Ex.deep]; omega, by simp only [halfT, C.ex, Ex.wt]; omega, ⟨ha.names, trivial⟩, by simp [halfT, C.txt]; omega⟩
    | _ + 2 => exact ⟨⟨ha.ok, ⟨by show k < 20; omega, rfl⟩, rfl, .inr (.inl rfl)⟩, by simp only [halfT, C.nest]; omega, by simp only [halfT, C.ex, Ex.deep]; omega, by simp only [halfT, C.ex, Ex.wt]; omega, ⟨ha.names, trivial⟩, by simp [halfT, C.txt]; omega⟩
theorem text_half {a : C} {h k : Nat} (hk : k < 4) : mk (C.par a).txt ++ halfS h ++ Str.ofString "(m" ++ Str.ofString (toString (k : Int)) ++ Str.ofString ")" = mk (C.thn false (.par a) (halfT h k)).txt ∧
    mk (C.par a).txt ++ halfS h ++ Str.ofString "(m" ++ Str.ofString (toString (k : Int)) ++ Str.ofString ")~" = mk (C.thn false (.par a) (.back (halfT h k))).txt := by
  have e1 : Str.ofString (toString (k : Int)) = mk (figs k) := sI_nat (by omega)
  have e2 : Str.ofString "(m" = mk [40, 109] := by decide +kernel
  have e3 : Str.ofString ")~" = mk [41, 126] := by decide +kernel
  rw [e1, e2, e3, z_rp]
  match h with
  | 0 => rw [show halfS 0 = mk wLow from z_low]; constructor <;> (simp only [mk_append]; congr 1; simp [halfT, C.txt])
  | 1 => rw [show halfS 1 = mk wHigh from z_high]; constructor <;> (simp only [mk_append]; congr 1; simp [halfT, C.txt])
  | n + 2 => rw [show halfS (n + 2) = mk [] from z_em]; constructor <;> (simp only [mk_append]; congr 1; simp [halfT, C.txt])
theorem ok__law_unlike (B : Blt mg) (F : Fun K "_law_unlike" "_law_unlike" s__law_unlike f fd) (c_map_of : Cal P w K mg base 97 "map_of" P_map_of spMapOf) (c_read_expr : Cal P w K mg base 40 "read_expr" P_read_expr spReadExpr) : FnOk P w K mg base CX0 98 f fd P__law_unlike spUnlike := by
  have nd := sc__law_unlike.nd
  refine F.ok sc__law_unlike (fun vs H Q E h => ?_) (fun cdv A outer s H vs Q E hr h => ?_)
  · obtain ⟨a, k, h, dm, rs, env, wn, rfl, _⟩ := h; rfl
  obtain ⟨a, k, h, dm, rs, env, wn, rfl, hk, hm, ha, q⟩ := h
  have hu64 := hr.units
  have L_map_of : 97 ≤ 97 := Nat.le_refl _
  have L_read_expr : 40 ≤ 97 := by decide
  refine ⟨_, (pss_cons (ps_set (i := 4) nd rfl (Or.inl rfl) (pe_cal c_map_of (hr.mono L_map_of) (by rfl) (pa_cons (pe_cal c_read_expr (hr.mono L_read_expr) (by rfl) (pa_cons (pe_op op_add_str (pe_op op_add_str (pe_op op_add_str (pe_op op_add_str (pv 0) (pv 2)) pe_str) (pe_callTy call_str_int (by rfl) B.str bl_str (pa_cons (pv 1) pa_nil))) pe_str) pa_nil)) (pa_cons (pv 3) pa_nil))))
      (pss_one (ps_ret (pe_and (pe_cmpR (op_neD hu64) (pv 4) (pe_cal c_map_of (hr.mono L_map_of) (by rfl) (pa_cons (pe_cal c_read_expr (hr.mono L_read_expr) (by rfl) (pa_cons (pv 0) pa_nil)) (pa_cons (pv 3) pa_nil))) (nomark _)) (pe_one (pe_cmpR (op_neD hu64) (pv 4) (pe_cal c_map_of (hr.mono L_map_of) (by rfl) (pa_cons (pe_cal c_read_expr (hr.mono L_read_expr) (by rfl) (pa_cons (pe_op op_add_str (pe_op op_add_str (pe_op op_add_str (pe_op op_add_str (pv 0) (pv 2)) pe_str) (pe_callTy call_str_int (by rfl) B.str bl_str (pa_cons (pv 1) pa_nil))) pe_str) pa_nil)) (pa_cons (pv 3) pa_nil))) (nomark _))))))), ?_⟩
  obtain ⟨f1, f2, f3⟩ := fine_half (h := h) hk ha
  obtain ⟨e2, e3⟩ := text_half (a := a) (h := h) hk
  have la : (mk (C.par a).txt).length ≤ 130 := by
    have := ha.len
    rw [mk_len]; simp [C.txt]; omega
  have lh : (halfS h).length ≤ 10 := by
    match h with
    | 0 => exact (by decide : (Str.ofString "low").length ≤ 10)
    | 1 => exact (by decide : (Str.ofString "high").length ≤ 10)
    | _ + 2 => exact (by decide : (Str.ofString "").length ≤ 10)
  have lk : (Str.ofString (toString (k : Int))).length ≤ 2 := by
    rw [show Str.ofString (toString (k : Int)) = mk (figs k) from sI_nat (by omega), mk_len]
    exact figs_length k
  have l1 : (mk (C.par a).txt ++ halfS h).length ≤ 140 := by rw [len_app]; omega
  have l2 : (mk (C.par a).txt ++ halfS h ++ Str.ofString "(m").length ≤ 142 := by rw [len_app]; show _ + 2 ≤ 142; omega
  have l3 : (mk (C.par a).txt ++ halfS h ++ Str.ofString "(m" ++ Str.ofString (toString (k : Int))).length ≤ 144 := by rw [len_app]; omega
  have text : ∀ (σ : St) (z : Str) (Q' : VK) (H' : Hp), σ[0]? = some (some (.str (mk (C.par a).txt))) → σ[2]? = some (some (.str (halfS h))) → σ[1]? = some (some (.int k)) → z.length ≤ 10 → Q' (.str (mk (C.par a).txt ++ halfS h ++ Str.ofString "(m" ++ Str.ofString (toString (k : Int)) ++ z)) H' →
      (tOp (fun x y H Q => ∃ i j, x = V.str i ∧ y = V.str j ∧ i.length + j.length ≤ sizeLine ∧ Q (.str (i ++ j)) H)
        (tOp (fun x y H Q => ∃ i j, x = V.str i ∧ y = V.str j ∧ i.length + j.length ≤ sizeLine ∧ Q (.str (i ++ j)) H)
          (tOp (fun x y H Q => ∃ i j, x = V.str i ∧ y = V.str j ∧ i.length + j.length ≤ sizeLine ∧ Q (.str (i ++ j)) H)
            (tOp (fun x y H Q => ∃ i j, x = V.str i ∧ y = V.str j ∧ i.length + j.length ≤ sizeLine ∧ Q (.str (i ++ j)) H) (tVar 0) (tVar 2)) (tC (.str "(m")))
          (tCB (fun xs H Q => ∃ i, xs = [V.int i] ∧ i.natAbs.log2 < 1920 ∧ Q (.str (toString i)) H) (tCons (tVar 1) tNil))) (tC (.str z))) σ H' Q' := fun σ z Q' H' g0 g2 g1 hz hq => by
    refine ⟨_, g0, _, g2, _, _, rfl, rfl, line1000 (by omega), _, _, rfl, rfl, line1000 (by show _ + 2 ≤ 10000; omega), _, g1, _, rfl, small_log (by omega), _, _, rfl, rfl, line1000 (by omega), _, _, rfl, rfl, line1000 (by omega), hq⟩
  show (tCall spMapOf [] E0 (tCons (tCall spReadExpr [] E0 (tCons _ tNil)) (tCons (tVar 3) tNil))) _ _ _
  refine read_map (c := .thn false (.par a) (halfT h k)) f2 hm (fun Q' hq => text _ _ _ _ rfl rfl rfl (by decide) (by rw [e2]; exact hq)) (fun H' Q' _ h => ⟨_, rfl, h⟩) fun v1 x1 H1 s1 i1 d1 l1 => ?_
  have m1 := hm.same s1
  refine ⟨_, rfl, ?_⟩
  show (tCall spMapOf [] E0 (tCons (tCall spReadExpr [] E0 (tCons (tVar 0) tNil)) (tCons (tVar 3) tNil))) _ _ _
  refine read_map (c := .par a) f1 m1 (fun Q' hq => ⟨_, rfl, hq⟩) (fun H' Q' _ h => ⟨_, rfl, h⟩) fun v2 x2 H2 s2 i2 d2 l2 => ?_
  have m2 := m1.same s2
  have i1' := i1.mono s2.tk
  have st := stirs_half h k env
  have n12 : x1 ≠ x2 := fun e => by
    subst e
    exact st.ne1 _ (d1.inj d2)
  refine ⟨mD x1, mD x2, i1'.dp, i2.dp, m_shaped d1 l1 f2.wt, m_shaped d2 l2 f1.wt, _, rfl, ?_⟩
  rw [mD_eqv, decide_eq_false n12]
  refine iteT ⟨_, rfl, ?_⟩
  show (tCall spMapOf [] E0 (tCons (tCall spReadExpr [] E0 (tCons _ tNil)) (tCons (tVar 3) tNil))) _ _ _
  refine read_map (c := .thn false (.par a) (.back (halfT h k))) f3 m2 (fun Q' hq => text _ _ _ _ rfl rfl rfl (by decide) (by rw [e3]; exact hq)) (fun H' Q' _ h => ⟨_, rfl, h⟩) fun v3 x3 H3 s3 i3 d3 l3 => ?_
  have n13 : x1 ≠ x3 := fun e => by
    subst e
    exact st.ne2 _ (d1.inj d3)
  refine ⟨mD x1, mD x3, (i1'.mono s3.tk).dp, i3.dp, m_shaped d1 l1 f2.wt, m_shaped d3 l3 f3.wt, ?_⟩
  rw [mD_eqv, decide_eq_false n13]
  exact q H3 (s1.trans (s2.trans s3))
theorem cal__law_unlike (B : Blt mg) (D : DefAt K mg "_law_unlike" s__law_unlike P__law_unlike) (c_map_of : Cal P w K mg base 97 "map_of" P_map_of spMapOf) (c_read_expr : Cal P w K mg base 40 "read_expr" P_read_expr spReadExpr) : Cal P w K mg base 98 "_law_unlike" P__law_unlike spUnlike :=
  D.cal fun _ _ F => ok__law_unlike B F c_map_of c_read_expr
end
end Hw
set_option maxHeartbeats 1000000
/-! Halvewright: the rules as the law lays them. -/
namespace Hw
open PySem L2
/-- a term that gives a text and changes nothing -/
structure Sev (te : TE) (σ : St) (x : Str) (n : Nat) : Prop where
  run : ∀ (H : Hp) (Q : VK), Q (.str x) H → te σ H Q
  len : x.length ≤ n
def Iev (te : TE) (σ : St) (i : Int) : Prop := ∀ (H : Hp) (Q : VK), Q (.int i) H → te σ H Q
theorem sev_c {σ : St} {s : Str} (h : s.length ≤ 60) : Sev (tC (.str s)) σ s 60 := ⟨fun H Q q => q, h⟩
theorem sev_var {σ : St} {i : Nat} {x : Str} (h : σ[i]? = some (some (.str x))) (hl : x.length ≤ 130) : Sev (tVar i) σ x 130 := ⟨fun H Q q => ⟨_, h, q⟩, hl⟩
theorem sev_add {σ : St} {ta tb : TE} {x y : Str} {a b : Nat} (h1 : Sev ta σ x a) (h2 : Sev tb σ y b) (hl : a + b ≤ 10000) :
    Sev (tOp (fun x y H Q => ∃ i j, x = V.str i ∧ y = V.str j ∧ i.length + j.length ≤ sizeLine ∧ Q (.str (i ++ j)) H) ta tb) σ (x ++ y) (a + b) :=
  ⟨fun H Q q => h1.run H _ (h2.run H _ ⟨x, y, rfl, rfl, line1000 (by have := h1.len; have := h2.len; omega), q⟩), by rw [len_app]; have := h1.len; have := h2.len; omega⟩
theorem iev_c {σ : St} {i : Int} : Iev (tC (.int i)) σ i := fun H Q q => q
theorem iev_var {σ : St} {i : Nat} {k : Int} (h : σ[i]? = some (some (.int k))) : Iev (tVar i) σ k := fun H Q q => ⟨_, h, q⟩
theorem iev_add {σ : St} {ta tb : TE} {i j : Int} (h1 : Iev ta σ i) (h2 : Iev tb σ j) : Iev (tOp (rI0 fun i j => .int (i + j)) ta tb) σ (i + j) := fun H Q q => h1 H _ (h2 H _ ⟨i, j, rfl, rfl, q⟩)
theorem iev_sub {σ : St} {ta tb : TE} {i j : Int} (h1 : Iev ta σ i) (h2 : Iev tb σ j) : Iev (tOp (rI0 fun i j => .int (i - j)) ta tb) σ (i - j) := fun H Q q => h1 H _ (h2 H _ ⟨i, j, rfl, rfl, q⟩)
theorem iev_mul {σ : St} {ta tb : TE} {i j : Int} (h1 : Iev ta σ i) (h2 : Iev tb σ j) (hc : CMul i j) : Iev (tOp (rI CMul fun i j => .int (i * j)) ta tb) σ (i * j) := fun H Q q => h1 H _ (h2 H _ ⟨i, j, rfl, rfl, hc, q⟩)
theorem iev_int {σ : St} {te : TE} {x : Str} {n : Nat} {i : Int} (h : Sev te σ x n) (hi : PySem.intText? x = some i) (hn : n ≤ 640) :
    Iev (tCB (fun xs H Q => ∃ a n, xs = [V.str a] ∧ PySem.intText? a = some n ∧ a.length ≤ 640 ∧ Q (.int n) H) (tCons te tNil)) σ i := fun H Q q => h.run H _ ⟨x, i, rfl, hi, Nat.le_trans h.len hn, q⟩
theorem sev_str {σ : St} {te : TE} {i : Int} (h : Iev te σ i) (h1 : -9 ≤ i) (h2 : i < 20) : Sev (tCB (fun xs H Q => ∃ i, xs = [V.int i] ∧ i.natAbs.log2 < 1920 ∧ Q (.str (toString i)) H) (tCons te tNil)) σ (sI i) 10 :=
  ⟨fun H Q q => h H _ ⟨i, rfl, small_log (by omega), q⟩, by rw [sI_mk ⟨h1, h2⟩, mk_len]; have := ints_length i; omega⟩
/-- pairs of texts -/
def IsPs (H : Hp) (ys : List V) (ps : List (Str × Str)) : Prop := Paired (fun p y => ∃ t, y = V.ref t ∧ H t = some (.tup [.str p.1, .str p.2])) ps ys
theorem IsPs.mono {H H' : Hp} {ys : List V} {ps : List (Str × Str)} (h : IsPs H ys ps) (k : Tk H H') : IsPs H' ys ps := paired_mono h fun _ _ q => by
  obtain ⟨t, e, ht⟩ := q
  exact ⟨t, e, k _ _ ht⟩
def Pev (te : TE) (σ : St) (p : Str × Str) : Prop := ∀ (H : Hp) (Q : VK), (∀ t H', Same H H' → H' t = some (.tup [.str p.1, .str p.2]) → Q (.ref t) H') → te σ H Q
theorem pev2 {σ : St} {ta tb : TE} {x y : Str} {a b : Nat} (h1 : Sev ta σ x a) (h2 : Sev tb σ y b) : Pev (tTup (tCons ta (tCons tb tNil))) σ (x, y) := fun H Q q =>
  h1.run H _ (h2.run H _ ⟨(by show 2 ≤ sizeLine; decide), fun t ht => q t _ (same_new ht _) upd_same⟩)
def Lev (ta : TA) (σ : St) (ps : List (Str × Str)) : Prop := ∀ (H : Hp) (Q : List V → Hp → Prop), (∀ ys H', Same H H' → IsPs H' ys ps → Q ys H') → ta σ H Q
theorem lev_nil {σ : St} : Lev tNil σ [] := fun H Q q => q [] H (Same.refl H) .nil
theorem lev_cons {σ : St} {te : TE} {ta : TA} {p : Str × Str} {ps : List (Str × Str)} (h1 : Pev te σ p) (h2 : Lev ta σ ps) : Lev (tCons te ta) σ (p :: ps) := fun H Q q =>
  h1 H _ fun t H1 s1 ht => h2 H1 _ fun ys H2 s2 hys => q _ _ (s1.trans s2) (.cons ⟨t, rfl, s2 _ _ ht⟩ hys)
def IsLst (H : Hp) (p : Addr) (ps : List (Str × Str)) : Prop := ∃ ys, H p = some (.lst ys) ∧ IsPs H ys ps
theorem step_new {σ : St} {ta : TA} {ps : List (Str × Str)} {rest : TS} {D : Ends} {H : Hp} {i : Nat} (h : Lev ta σ ps) (hl : ps.length ≤ 100) (k : ∀ p H', Same H H' → H p = none → IsLst H' p ps → rest D (σ.set i (some (.ref p))) H') :
    tSeq (tAsg (tLst ta) (gName i)) rest D σ H := h H _ fun ys H1 s1 hys => ⟨by have := Paired.length hys; exact line1000 (by omega), fun p hp => k p _ (s1.trans (same_new hp _)) (free_of s1 hp) ⟨ys, upd_same, hys.mono (tk_new hp _)⟩⟩
theorem cat_ev {σ : St} {ta : TA} {ps0 ps : List (Str × Str)} {H0 H : Hp} {Q : VK} {i : Nat} {p0 : Addr} (hi : σ[i]? = some (some (.ref p0))) (h0 : IsLst H p0 ps0) (h : Lev ta σ ps) (hl : ps0.length + ps.length ≤ 100) (s0 : Same H0 H)
    (k : ∀ p H', Same H0 H' → H0 p = none → IsLst H' p (ps0 ++ ps) → Q (.ref p) H') : (tOp rCat (tVar i) (tLst ta)) σ H Q := by
  obtain ⟨xs, hx, hxs⟩ := h0
  have l0 := Paired.length hxs
  refine ⟨_, hi, h H _ fun ys H1 s1 hys => ?_⟩
  have l1 := Paired.length hys
  refine ⟨line1000 (by omega), fun q hq => ?_⟩
  have s2 := same_new hq (.lst ys)
  refine ⟨p0, q, xs, ys, rfl, rfl, s2 _ _ (s1 _ _ hx), upd_same, line1000 (by omega), fun r hr => ?_⟩
  have s3 := same_new hr (.lst (xs ++ ys))
  refine k r _ (s0.trans (s1.trans (s2.trans s3))) (free_of (s0.trans (s1.trans s2)) hr) ⟨xs ++ ys, upd_same, ?_⟩
  exact paired_append (((hxs.mono s1.tk).mono s2.tk).mono s3.tk) ((hys.mono s2.tk).mono s3.tk)
theorem step_cat {σ : St} {ta : TA} {ps0 ps : List (Str × Str)} {rest : TS} {D : Ends} {H0 H : Hp} {i j : Nat} {p0 : Addr} (hi : σ[i]? = some (some (.ref p0))) (h0 : IsLst H p0 ps0) (h : Lev ta σ ps) (hl : ps0.length + ps.length ≤ 100) (s0 : Same H0 H)
    (k : ∀ p H', Same H0 H' → H0 p = none → IsLst H' p (ps0 ++ ps) → rest D (σ.set j (some (.ref p))) H') : tSeq (tAsg (tOp rCat (tVar i) (tLst ta)) (gName j)) rest D σ H := cat_ev hi h0 h hl s0 k
theorem ret_cat {σ : St} {ta : TA} {ps0 ps : List (Str × Str)} {D : Ends} {H0 H : Hp} {i : Nat} {p0 : Addr} (hi : σ[i]? = some (some (.ref p0))) (h0 : IsLst H p0 ps0) (h : Lev ta σ ps) (hl : ps0.length + ps.length ≤ 100) (s0 : Same H0 H)
    (k : ∀ p H', Same H0 H' → H0 p = none → IsLst H' p (ps0 ++ ps) → D.rt (.ref p) H') : tRet (tOp rCat (tVar i) (tLst ta)) D σ H := cat_ev hi h0 h hl s0 k
theorem app_ev {σ : St} {te : TE} {ps0 : List (Str × Str)} {p : Str × Str} {K : PySem.W.Frag} {H0 H : Hp} {D : Ends} {i : Nat} {p0 : Addr} (hi : σ[i]? = some (some (.ref p0))) (h0 : IsLst H p0 ps0) (h : Pev te σ p) (hl : ps0.length + 1 ≤ 100) (s0 : Same H0 H) (n0 : H0 p0 = none)
    (k : ∀ H', Same H0 H' → IsLst H' p0 (ps0 ++ [p]) → D.nx σ H') : (tDrop (tBM K "list" rAppend (tVar i) (tCons te tNil))) D σ H := by
  obtain ⟨xs, hx, hxs⟩ := h0
  have l0 := Paired.length hxs
  refine ⟨_, hi, Or.inl ⟨rfl, _, SqL.of hx⟩, h H _ fun t H1 s1 ht => ?_⟩
  refine ⟨p0, xs, _, rfl, rfl, s1 _ _ hx, line1000' (by omega), ?_⟩
  have tk := tk_lst (s1 _ _ hx) (.lst (xs ++ [V.ref t]))
  refine k _ (fun b o e => ?_) ⟨_, upd_same, paired_append ((hxs.mono s1.tk).mono tk) (.cons ⟨t, rfl, tk _ _ ht⟩ .nil)⟩
  rw [upd_ne (ne_of_none e n0)]
  exact s1 _ _ (s0 _ _ e)
theorem step_app {σ : St} {te : TE} {ps0 : List (Str × Str)} {p : Str × Str} {K : PySem.W.Frag} {rest : TS} {D : Ends} {H0 H : Hp} {i : Nat} {p0 : Addr} (hi : σ[i]? = some (some (.ref p0))) (h0 : IsLst H p0 ps0) (h : Pev te σ p) (hl : ps0.length + 1 ≤ 100) (s0 : Same H0 H) (n0 : H0 p0 = none)
    (k : ∀ H', Same H0 H' → IsLst H' p0 (ps0 ++ [p]) → rest D σ H') : tSeq (tDrop (tBM K "list" rAppend (tVar i) (tCons te tNil))) rest D σ H := app_ev (D := { D with nx := rest D }) hi h0 h hl s0 n0 k
section
variable {P : Program} {w : World} {K : PySem.W.Frag} {mg : Str → Option Value} {base : Heap} {f : Addr} {fd : FuncData}
abbrev s__law_rules_of_backs : Stmt := top 62
abbrev N__law_rules_of_backs : List Str := ["_law_e", "_law_f", "_law_g", "_law_m", "_law_n", "_law_some"]
abbrev P__law_rules_of_backs : List Str := ["_law_e", "_law_f", "_law_g", "_law_m", "_law_n"]
theorem sc__law_rules_of_backs : FnScope N__law_rules_of_backs P__law_rules_of_backs (defScope s__law_rules_of_backs) := ⟨rfl, rfl, rfl, by decide +kernel, rfl, by decide +kernel, by decide +kernel⟩
def spBacks : Sp := fun vs H Q _ => ∃ (e f g : Str) (mi ni : Int), vs = [.str e, .str f, .str g, .str (sI mi), .str (sI ni)] ∧ e.length ≤ 130 ∧ f.length ≤ 130 ∧ g.length ≤ 130 ∧ (-2 ≤ mi ∧ mi ≤ 2) ∧ (-2 ≤ ni ∧ ni ≤ 2) ∧
  ∀ p H', Same H H' → H p = none → IsLst H' p (rulesBacks e f g (sI mi) (sI ni) mi ni) → Q (.ref p) H'
theorem sI_int {i : Int} (h : -2 ≤ i ∧ i ≤ 2) : PySem.intText? (sI i) = some i ∧ (sI i).length ≤ 130 := by
  rw [sI_mk (by omega)]
  refine ⟨int_ints i (by omega) (by omega), ?_⟩
  rw [mk_len]
  have := ints_length i
  omega
theorem ok__law_rules_of_backs (B : Blt mg) (F : Fun K "_law_rules_of_backs" "_law_rules_of_backs" s__law_rules_of_backs f fd) : FnOk P w K mg base CX0 1 f fd P__law_rules_of_backs spBacks := by
  have nd := sc__law_rules_of_backs.nd
  refine F.ok sc__law_rules_of_backs (fun vs H Q E h => ?_) (fun cdv A outer s H vs Q E hr h => ?_)
  · obtain ⟨e, f, g, mi, ni, rfl, _⟩ := h; rfl
  obtain ⟨e, f, g, mi, ni, rfl, he, hf, hg, hmi, hni, q⟩ := h
  obtain ⟨tm, hm⟩ := sI_int hmi
  obtain ⟨tn, hn⟩ := sI_int hni
  have hab := abs_mul hmi hni
  refine ⟨_, (pss_cons (ps_set (i := 5) nd rfl (Or.inl rfl) (pe_lst (pa_cons (pe_tup (pa_cons (pe_op op_add_str (pe_op op_add_str (pe_op op_add_str pe_str (pv 0)) (pv 1)) pe_str) (pa_cons (pe_op op_add_str (pe_op op_add_str (pe_op op_add_str (pv 1) pe_str) (pv 0)) pe_str) pa_nil))) (pa_cons (pe_tup (pa_cons (pe_op op_add_str (pv 0) pe_str) (pa_cons (pv 0) pa_nil))) (pa_cons (pe_tup (pa_cons (pe_op op_add_str (pe_op op_add_str (pv 0) (pv 0)) pe_str) (pa_cons pe_str pa_nil))) (pa_cons (pe_tup (pa_cons (pe_op op_add_str (pe_op op_add_str (pv 0) pe_str) (pv 0)) (pa_cons pe_str pa_nil))) pa_nil))))))
      (pss_cons (ps_set (i := 5) nd rfl (Or.inl rfl) (pe_op op_cat (pv 5) (pe_lst (pa_cons (pe_tup (pa_cons (pe_op op_add_str pe_str (pv 0)) (pa_cons (pv 0) pa_nil))) (pa_cons (pe_tup (pa_cons (pe_op op_add_str (pv 0) pe_str) (pa_cons (pv 0) pa_nil))) (pa_cons (pe_tup (pa_cons pe_str (pa_cons pe_str pa_nil))) (pa_cons (pe_tup (pa_cons (pe_op op_add_str (pe_op op_add_str (pe_op op_add_str (pe_op op_add_str (pv 0) pe_str) (pv 1)) (pv 2)) pe_str) (pa_cons (pe_op op_add_str (pe_op op_add_str (pv 0) (pv 1)) (pv 2)) pa_nil))) pa_nil)))))))
      (pss_cons (ps_set (i := 5) nd rfl (Or.inl rfl) (pe_op op_cat (pv 5) (pe_lst (pa_cons (pe_tup (pa_cons (pe_op op_add_str (pe_op op_add_str (pe_op op_add_str (pe_op op_add_str (pe_op op_add_str (pv 0) pe_str) (pv 3)) (pv 0)) pe_str) (pv 4)) (pa_cons (pe_op op_add_str (pe_op op_add_str (pv 0) pe_str) (pe_callTy call_str_int (by rfl) B.str bl_str (pa_cons (pe_op op_add (pe_callTy call_int_str (by rfl) B.int bl_int (pa_cons (pv 3) pa_nil)) (pe_callTy call_int_str (by rfl) B.int bl_int (pa_cons (pv 4) pa_nil))) pa_nil))) pa_nil))) (pa_cons (pe_tup (pa_cons (pe_op op_add_str (pv 0) pe_str) (pa_cons pe_str pa_nil))) (pa_cons (pe_tup (pa_cons (pe_op op_add_str (pv 0) pe_str) (pa_cons (pv 0) pa_nil))) pa_nil))))))
      (pss_cons (ps_set (i := 5) nd rfl (Or.inl rfl) (pe_op op_cat (pv 5) (pe_lst (pa_cons (pe_tup (pa_cons (pe_op op_add_str (pe_op op_add_str (pe_op op_add_str (pe_op op_add_str (pe_op op_add_str pe_str (pv 0)) pe_str) (pv 3)) pe_str) (pv 4)) (pa_cons (pe_op op_add_str (pe_op op_add_str (pv 0) pe_str) (pe_callTy call_str_int (by rfl) B.str bl_str (pa_cons (pe_op op_mul (pe_callTy call_int_str (by rfl) B.int bl_int (pa_cons (pv 3) pa_nil)) (pe_callTy call_int_str (by rfl) B.int bl_int (pa_cons (pv 4) pa_nil))) pa_nil))) pa_nil))) (pa_cons (pe_tup (pa_cons (pe_op op_add_str (pv 0) pe_str) (pa_cons (pe_op op_add_str (pv 0) pe_str) pa_nil))) pa_nil)))))
      (pss_one (ps_ret (pe_op op_cat (pv 5) (pe_lst (pa_cons (pe_tup (pa_cons (pe_op op_add_str (pe_op op_add_str (pv 0) pe_str) (pv 3)) (pa_cons (pe_op op_add_str (pe_op op_add_str (pe_op op_add_str (pv 0) pe_str) (pv 3)) pe_str) pa_nil))) (pa_cons (pe_tup (pa_cons (pe_op op_add_str (pe_op op_add_str (pe_op op_add_str (pv 0) pe_str) (pv 3)) pe_str) (pa_cons (pe_op op_add_str (pe_op op_add_str (pv 0) pe_str) (pe_callTy call_str_int (by rfl) B.str bl_str (pa_cons (pe_op op_sub pe_int (pe_callTy call_int_str (by rfl) B.int bl_int (pa_cons (pv 3) pa_nil))) pa_nil))) pa_nil))) pa_nil)))))))))), ?_⟩
  refine step_new (lev_cons (pev2 (sev_add (sev_add (sev_add (sev_c (by decide)) (sev_var rfl he) (by decide)) (sev_var rfl hf) (by decide)) (sev_c (by decide)) (by decide)) (sev_add (sev_add (sev_add (sev_var rfl hf) (sev_c (by decide)) (by decide)) (sev_var rfl he) (by decide)) (sev_c (by decide)) (by decide))) (lev_cons (pev2 (sev_add (sev_var rfl he) (sev_c (by decide)) (by decide)) (sev_var rfl he)) (lev_cons (pev2 (sev_add (sev_add (sev_var rfl he) (sev_var rfl he) (by decide)) (sev_c (by decide)) (by decide)) (sev_c (by decide))) (lev_cons (pev2 (sev_add (sev_add (sev_var rfl he) (sev_c (by decide)) (by decide)) (sev_var rfl he) (by decide)) (sev_c (by decide))) lev_nil)))) (Nat.le_of_ble_eq_true rfl) fun p H1 s1 n1 l1 => ?_
  refine step_cat rfl l1 (lev_cons (pev2 (sev_add (sev_c (by decide)) (sev_var rfl he) (by decide)) (sev_var rfl he)) (lev_cons (pev2 (sev_add (sev_var rfl he) (sev_c (by decide)) (by decide)) (sev_var rfl he)) (lev_cons (pev2 (sev_c (by decide)) (sev_c (by decide))) (lev_cons (pev2 (sev_add (sev_add (sev_add (sev_add (sev_var rfl he) (sev_c (by decide)) (by decide)) (sev_var rfl hf) (by decide)) (sev_var rfl hg) (by decide)) (sev_c (by decide)) (by decide)) (sev_add (sev_add (sev_var rfl he) (sev_var rfl hf) (by decide)) (sev_var rfl hg) (by decide))) lev_nil)))) (by first | exact Nat.le_of_ble_eq_true rfl | (simp; omega)) s1 fun p H1 s1 n1 l1 => ?_
  refine step_cat rfl l1 (lev_cons (pev2 (sev_add (sev_add (sev_add (sev_add (sev_add (sev_var rfl he) (sev_c (by decide)) (by decide)) (sev_var rfl hm) (by decide)) (sev_var rfl he) (by decide)) (sev_c (by decide)) (by decide)) (sev_var rfl hn) (by decide)) (sev_add (sev_add (sev_var rfl he) (sev_c (by decide)) (by decide)) (sev_str (iev_add (iev_int (sev_var rfl hm) tm (by decide)) (iev_int (sev_var rfl hn) tn (by decide))) (by omega) (by omega)) (by decide))) (lev_cons (pev2 (sev_add (sev_var rfl he) (sev_c (by decide)) (by decide)) (sev_c (by decide))) (lev_cons (pev2 (sev_add (sev_var rfl he) (sev_c (by decide)) (by decide)) (sev_var rfl he)) lev_nil))) (by first | exact Nat.le_of_ble_eq_true rfl | (simp; omega)) s1 fun p H1 s1 n1 l1 => ?_
  refine step_cat rfl l1 (lev_cons (pev2 (sev_add (sev_add (sev_add (sev_add (sev_add (sev_c (by decide)) (sev_var rfl he) (by decide)) (sev_c (by decide)) (by decide)) (sev_var rfl hm) (by decide)) (sev_c (by decide)) (by decide)) (sev_var rfl hn) (by decide)) (sev_add (sev_add (sev_var rfl he) (sev_c (by decide)) (by decide)) (sev_str (iev_mul (iev_int (sev_var rfl hm) tm (by decide)) (iev_int (sev_var rfl hn) tn (by decide)) (.inl ⟨by omega, by omega⟩)) (by omega) (by omega)) (by decide))) (lev_cons (pev2 (sev_add (sev_var rfl he) (sev_c (by decide)) (by decide)) (sev_add (sev_var rfl he) (sev_c (by decide)) (by decide))) lev_nil)) (by first | exact Nat.le_of_ble_eq_true rfl | (simp; omega)) s1 fun p H1 s1 n1 l1 => ?_
  refine ret_cat rfl l1 (lev_cons (pev2 (sev_add (sev_add (sev_var rfl he) (sev_c (by decide)) (by decide)) (sev_var rfl hm) (by decide)) (sev_add (sev_add (sev_add (sev_var rfl he) (sev_c (by decide)) (by decide)) (sev_var rfl hm) (by decide)) (sev_c (by decide)) (by decide))) (lev_cons (pev2 (sev_add (sev_add (sev_add (sev_var rfl he) (sev_c (by decide)) (by decide)) (sev_var rfl hm) (by decide)) (sev_c (by decide)) (by decide)) (sev_add (sev_add (sev_var rfl he) (sev_c (by decide)) (by decide)) (sev_str (iev_sub iev_c (iev_int (sev_var rfl hm) tm (by decide))) (by omega) (by omega)) (by decide))) lev_nil)) (by first | exact Nat.le_of_ble_eq_true rfl | (simp; omega)) s1 fun p H1 s1 n1 l1 => ?_
  exact q p H1 s1 n1 l1
theorem cal__law_rules_of_backs (B : Blt mg) (D : DefAt K mg "_law_rules_of_backs" s__law_rules_of_backs P__law_rules_of_backs) : Cal P w K mg base 1 "_law_rules_of_backs" P__law_rules_of_backs spBacks := D.cal fun _ _ F => ok__law_rules_of_backs B F
abbrev s__law_rules_of_as : Stmt := top 63
abbrev N__law_rules_of_as : List Str := ["_law_e", "_law_f", "_law_g", "_law_m", "_law_n", "_law_some"]
abbrev P__law_rules_of_as : List Str := ["_law_e", "_law_f", "_law_g", "_law_m", "_law_n"]
theorem sc__law_rules_of_as : FnScope N__law_rules_of_as P__law_rules_of_as (defScope s__law_rules_of_as) := ⟨rfl, rfl, rfl, by decide +kernel, rfl, by decide +kernel, by decide +kernel⟩
def spAs : Sp := fun vs H Q _ => ∃ (e f g m n : Str), vs = [.str e, .str f, .str g, .str m, .str n] ∧ e.length ≤ 130 ∧ f.length ≤ 130 ∧ g.length ≤ 130 ∧ m.length ≤ 130 ∧ n.length ≤ 130 ∧
  ∀ p H', Same H H' → H p = none → IsLst H' p (rulesAs e f g m n) → Q (.ref p) H'
theorem ok__law_rules_of_as (B : Blt mg) (F : Fun K "_law_rules_of_as" "_law_rules_of_as" s__law_rules_of_as f fd) : FnOk P w K mg base CX0 1 f fd P__law_rules_of_as spAs := by
  have nd := sc__law_rules_of_as.nd
  refine F.ok sc__law_rules_of_as (fun vs H Q E h => ?_) (fun cdv A outer s H vs Q E hr h => ?_)
  · obtain ⟨e, f, g, m, n, rfl, _⟩ := h; rfl
  obtain ⟨e, f, g, m, n, rfl, he, hf, hg, hm, hn, q⟩ := h
  refine ⟨_, (pss_cons (ps_set (i := 5) nd rfl (Or.inl rfl) (pe_lst (pa_cons (pe_tup (pa_cons (pe_op op_add_str (pe_op op_add_str (pe_op op_add_str (pe_op op_add_str (pe_op op_add_str pe_str (pv 0)) (pv 1)) pe_str) (pv 2)) pe_str) (pa_cons (pe_op op_add_str (pe_op op_add_str (pe_op op_add_str (pe_op op_add_str (pe_op op_add_str (pe_op op_add_str (pe_op op_add_str (pe_op op_add_str pe_str (pv 0)) pe_str) (pv 2)) pe_str) (pv 1)) pe_str) (pv 2)) pe_str) pa_nil))) pa_nil)))
      (pss_cons (ps_expr (pe_bm PySem.F.plainAttrs_list PySem.F.slot_list_append PySem.F.type_list_append mt_append (pv 5) (pa_cons (pe_tup (pa_cons (pe_op op_add_str (pe_op op_add_str (pe_op op_add_str (pe_op op_add_str (pe_op op_add_str pe_str (pv 0)) pe_str) (pv 1)) (pv 2)) pe_str) (pa_cons (pe_op op_add_str (pe_op op_add_str (pe_op op_add_str (pe_op op_add_str (pe_op op_add_str (pe_op op_add_str pe_str (pv 0)) pe_str) (pv 1)) pe_str) (pv 2)) pe_str) pa_nil))) pa_nil)))
      (pss_cons (ps_expr (pe_bm PySem.F.plainAttrs_list PySem.F.slot_list_append PySem.F.type_list_append mt_append (pv 5) (pa_cons (pe_tup (pa_cons (pe_op op_add_str (pe_op op_add_str (pe_op op_add_str (pe_op op_add_str (pe_op op_add_str pe_str (pv 0)) pe_str) (pv 1)) pe_str) (pv 4)) (pa_cons (pe_op op_add_str (pe_op op_add_str (pe_op op_add_str (pe_op op_add_str (pe_op op_add_str (pe_op op_add_str pe_str (pv 0)) pe_str) (pv 4)) pe_str) (pv 1)) pe_str) pa_nil))) pa_nil)))
      (pss_cons (ps_expr (pe_bm PySem.F.plainAttrs_list PySem.F.slot_list_append PySem.F.type_list_append mt_append (pv 5) (pa_cons (pe_tup (pa_cons (pe_op op_add_str (pe_op op_add_str (pe_op op_add_str (pe_op op_add_str pe_str (pv 0)) pe_str) (pv 1)) pe_str) (pa_cons (pe_op op_add_str (pe_op op_add_str (pe_op op_add_str (pv 1) pe_str) (pv 0)) (pv 1)) pa_nil))) pa_nil)))
      (pss_cons (ps_expr (pe_bm PySem.F.plainAttrs_list PySem.F.slot_list_append PySem.F.type_list_append mt_append (pv 5) (pa_cons (pe_tup (pa_cons (pe_op op_add_str (pe_op op_add_str (pe_op op_add_str (pe_op op_add_str pe_str (pv 0)) pe_str) (pv 1)) pe_str) (pa_cons (pe_op op_add_str (pe_op op_add_str (pe_op op_add_str (pe_op op_add_str (pe_op op_add_str (pv 0) (pv 1)) (pv 0)) pe_str) (pv 1)) pe_str) pa_nil))) pa_nil)))
      (pss_cons (ps_expr (pe_bm PySem.F.plainAttrs_list PySem.F.slot_list_append PySem.F.type_list_append mt_append (pv 5) (pa_cons (pe_tup (pa_cons (pe_op op_add_str (pe_op op_add_str (pe_op op_add_str (pe_op op_add_str pe_str (pv 0)) pe_str) (pv 1)) pe_str) (pa_cons (pe_op op_add_str (pe_op op_add_str (pe_op op_add_str (pe_op op_add_str pe_str (pv 1)) pe_str) (pv 0)) pe_str) pa_nil))) pa_nil)))
      (pss_cons (ps_expr (pe_bm PySem.F.plainAttrs_list PySem.F.slot_list_append PySem.F.type_list_append mt_append (pv 5) (pa_cons (pe_tup (pa_cons (pe_op op_add_str (pe_op op_add_str (pe_op op_add_str (pe_op op_add_str pe_str (pv 0)) pe_str) (pv 1)) pe_str) (pa_cons (pe_op op_add_str (pe_op op_add_str (pe_op op_add_str (pe_op op_add_str (pe_op op_add_str (pe_op op_add_str pe_str (pv 1)) pe_str) (pv 0)) pe_str) (pv 1)) pe_str) pa_nil))) pa_nil)))
      (pss_cons (ps_expr (pe_bm PySem.F.plainAttrs_list PySem.F.slot_list_append PySem.F.type_list_append mt_append (pv 5) (pa_cons (pe_tup (pa_cons (pe_op op_add_str (pe_op op_add_str (pe_op op_add_str (pe_op op_add_str (pe_op op_add_str (pe_op op_add_str pe_str (pv 0)) pe_str) (pv 0)) pe_str) (pv 3)) pe_str) (pa_cons pe_str pa_nil))) pa_nil)))
      (pss_cons (ps_expr (pe_bm PySem.F.plainAttrs_list PySem.F.slot_list_append PySem.F.type_list_append mt_append (pv 5) (pa_cons (pe_tup (pa_cons (pe_op op_add_str (pe_op op_add_str (pe_op op_add_str (pe_op op_add_str pe_str (pv 0)) pe_str) (pv 1)) pe_str) (pa_cons pe_str pa_nil))) pa_nil)))
      (pss_one (ps_ret (pe_op op_cat (pv 5) (pe_lst (pa_cons (pe_tup (pa_cons (pe_op op_add_str (pe_op op_add_str pe_str (pv 0)) pe_str) (pa_cons (pv 0) pa_nil))) (pa_cons (pe_tup (pa_cons (pe_op op_add_str (pe_op op_add_str pe_str (pv 0)) pe_str) (pa_cons pe_str pa_nil))) (pa_cons (pe_tup (pa_cons (pe_op op_add_str (pe_op op_add_str pe_str (pv 0)) pe_str) (pa_cons pe_str pa_nil))) pa_nil)))))))))))))))), ?_⟩
  refine step_new (lev_cons (pev2 (sev_add (sev_add (sev_add (sev_add (sev_add (sev_c (by decide)) (sev_var rfl he) (by decide)) (sev_var rfl hf) (by decide)) (sev_c (by decide)) (by decide)) (sev_var rfl hg) (by decide)) (sev_c (by decide)) (by decide)) (sev_add (sev_add (sev_add (sev_add (sev_add (sev_add (sev_add (sev_add (sev_c (by decide)) (sev_var rfl he) (by decide)) (sev_c (by decide)) (by decide)) (sev_var rfl hg) (by decide)) (sev_c (by decide)) (by decide)) (sev_var rfl hf) (by decide)) (sev_c (by decide)) (by decide)) (sev_var rfl hg) (by decide)) (sev_c (by decide)) (by decide))) lev_nil) (Nat.le_of_ble_eq_true rfl) fun p H1 s1 n1 l1 => ?_
  refine step_app rfl l1 (pev2 (sev_add (sev_add (sev_add (sev_add (sev_add (sev_c (by decide)) (sev_var rfl he) (by decide)) (sev_c (by decide)) (by decide)) (sev_var rfl hf) (by decide)) (sev_var rfl hg) (by decide)) (sev_c (by decide)) (by decide)) (sev_add (sev_add (sev_add (sev_add (sev_add (sev_add (sev_c (by decide)) (sev_var rfl he) (by decide)) (sev_c (by decide)) (by decide)) (sev_var rfl hf) (by decide)) (sev_c (by decide)) (by decide)) (sev_var rfl hg) (by decide)) (sev_c (by decide)) (by decide))) (by first | exact Nat.le_of_ble_eq_true rfl | (simp; omega)) s1 n1 fun H1 s1 l1 => ?_
  refine step_app rfl l1 (pev2 (sev_add (sev_add (sev_add (sev_add (sev_add (sev_c (by decide)) (sev_var rfl he) (by decide)) (sev_c (by decide)) (by decide)) (sev_var rfl hf) (by decide)) (sev_c (by decide)) (by decide)) (sev_var rfl hn) (by decide)) (sev_add (sev_add (sev_add (sev_add (sev_add (sev_add (sev_c (by decide)) (sev_var rfl he) (by decide)) (sev_c (by decide)) (by decide)) (sev_var rfl hn) (by decide)) (sev_c (by decide)) (by decide)) (sev_var rfl hf) (by decide)) (sev_c (by decide)) (by decide))) (by first | exact Nat.le_of_ble_eq_true rfl | (simp; omega)) s1 n1 fun H1 s1 l1 => ?_
  refine step_app rfl l1 (pev2 (sev_add (sev_add (sev_add (sev_add (sev_c (by decide)) (sev_var rfl he) (by decide)) (sev_c (by decide)) (by decide)) (sev_var rfl hf) (by decide)) (sev_c (by decide)) (by decide)) (sev_add (sev_add (sev_add (sev_var rfl hf) (sev_c (by decide)) (by decide)) (sev_var rfl he) (by decide)) (sev_var rfl hf) (by decide))) (by first | exact Nat.le_of_ble_eq_true rfl | (simp; omega)) s1 n1 fun H1 s1 l1 => ?_
  refine step_app rfl l1 (pev2 (sev_add (sev_add (sev_add (sev_add (sev_c (by decide)) (sev_var rfl he) (by decide)) (sev_c (by decide)) (by decide)) (sev_var rfl hf) (by decide)) (sev_c (by decide)) (by decide)) (sev_add (sev_add (sev_add (sev_add (sev_add (sev_var rfl he) (sev_var rfl hf) (by decide)) (sev_var rfl he) (by decide)) (sev_c (by decide)) (by decide)) (sev_var rfl hf) (by decide)) (sev_c (by decide)) (by decide))) (by first | exact Nat.le_of_ble_eq_true rfl | (simp; omega)) s1 n1 fun H1 s1 l1 => ?_
  refine step_app rfl l1 (pev2 (sev_add (sev_add (sev_add (sev_add (sev_c (by decide)) (sev_var rfl he) (by decide)) (sev_c (by decide)) (by decide)) (sev_var rfl hf) (by decide)) (sev_c (by decide)) (by decide)) (sev_add (sev_add (sev_add (sev_add (sev_c (by decide)) (sev_var rfl hf) (by decide)) (sev_c (by decide)) (by decide)) (sev_var rfl he) (by decide)) (sev_c (by decide)) (by decide))) (by first | exact Nat.le_of_ble_eq_true rfl | (simp; omega)) s1 n1 fun H1 s1 l1 => ?_
  refine step_app rfl l1 (pev2 (sev_add (sev_add (sev_add (sev_add (sev_c (by decide)) (sev_var rfl he) (by decide)) (sev_c (by decide)) (by decide)) (sev_var rfl hf) (by decide)) (sev_c (by decide)) (by decide)) (sev_add (sev_add (sev_add (sev_add (sev_add (sev_add (sev_c (by decide)) (sev_var rfl hf) (by decide)) (sev_c (by decide)) (by decide)) (sev_var rfl he) (by decide)) (sev_c (by decide)) (by decide)) (sev_var rfl hf) (by decide)) (sev_c (by decide)) (by decide))) (by first | exact Nat.le_of_ble_eq_true rfl | (simp; omega)) s1 n1 fun H1 s1 l1 => ?_
  refine step_app rfl l1 (pev2 (sev_add (sev_add (sev_add (sev_add (sev_add (sev_add (sev_c (by decide)) (sev_var rfl he) (by decide)) (sev_c (by decide)) (by decide)) (sev_var rfl he) (by decide)) (sev_c (by decide)) (by decide)) (sev_var rfl hm) (by decide)) (sev_c (by decide)) (by decide)) (sev_c (by decide))) (by first | exact Nat.le_of_ble_eq_true rfl | (simp; omega)) s1 n1 fun H1 s1 l1 => ?_
  refine step_app rfl l1 (pev2 (sev_add (sev_add (sev_add (sev_add (sev_c (by decide)) (sev_var rfl he) (by decide)) (sev_c (by decide)) (by decide)) (sev_var rfl hf) (by decide)) (sev_c (by decide)) (by decide)) (sev_c (by decide))) (by first | exact Nat.le_of_ble_eq_true rfl | (simp; omega)) s1 n1 fun H1 s1 l1 => ?_
  refine ret_cat rfl l1 (lev_cons (pev2 (sev_add (sev_add (sev_c (by decide)) (sev_var rfl he) (by decide)) (sev_c (by decide)) (by decide)) (sev_var rfl he)) (lev_cons (pev2 (sev_add (sev_add (sev_c (by decide)) (sev_var rfl he) (by decide)) (sev_c (by decide)) (by decide)) (sev_c (by decide))) (lev_cons (pev2 (sev_add (sev_add (sev_c (by decide)) (sev_var rfl he) (by decide)) (sev_c (by decide)) (by decide)) (sev_c (by decide))) lev_nil))) (by first | exact Nat.le_of_ble_eq_true rfl | (simp; omega)) s1 fun p H1 s1 n1 l1 => ?_
  exact q p H1 s1 n1 l1
theorem cal__law_rules_of_as (B : Blt mg) (D : DefAt K mg "_law_rules_of_as" s__law_rules_of_as P__law_rules_of_as) : Cal P w K mg base 1 "_law_rules_of_as" P__law_rules_of_as spAs := D.cal fun _ _ F => ok__law_rules_of_as B F
abbrev s__law_rules_of_halves : Stmt := top 64
abbrev N__law_rules_of_halves : List Str := ["_law_e", "_law_f", "_law_m", "_law_k", "_law_more", "_law_some", "_law_half"]
abbrev P__law_rules_of_halves : List Str := ["_law_e", "_law_f", "_law_m", "_law_k", "_law_more"]
theorem sc__law_rules_of_halves : FnScope N__law_rules_of_halves P__law_rules_of_halves (defScope s__law_rules_of_halves) := ⟨rfl, rfl, rfl, by decide +kernel, rfl, by decide +kernel, by decide +kernel⟩
def spHalvesR : Sp := fun vs H Q _ => ∃ (e f m : Str) (k more : Nat), vs = [.str e, .str f, .str m, .int k, .int more] ∧ e.length ≤ 130 ∧ f.length ≤ 130 ∧ m.length ≤ 130 ∧ k < 13 ∧ more < 6 ∧
  ∀ p H', Same H H' → H p = none → IsLst H' p (rulesHalves e f m k more) → Q (.ref p) H'
def half4 (e f m h : Str) : List (Str × Str) := [(h ++ "(" ++ e ++ f ++ ")", h ++ "(" ++ e ++ ")" ++ h ++ "(" ++ f ++ ")"), (h ++ "(" ++ e ++ ")^" ++ m, h ++ "(" ++ e ++ "^" ++ m ++ ")"), (h ++ "(" ++ e ++ "~)", h ++ "(" ++ e ++ ")~"), (h ++ "(one)", "one")]
def halfN (e f m : Str) : Nat → List (Str × Str)
  | 0 => []
  | 1 => half4 e f m "low"
  | _ => half4 e f m "low" ++ half4 e f m "high"
theorem ok__law_rules_of_halves (B : Blt mg) (F : Fun K "_law_rules_of_halves" "_law_rules_of_halves" s__law_rules_of_halves f fd) : FnOk P w K mg base CX0 1 f fd P__law_rules_of_halves spHalvesR := by
  have nd := sc__law_rules_of_halves.nd
  refine F.ok sc__law_rules_of_halves (fun vs H Q E h => ?_) (fun cdv A outer s H vs Q E hr h => ?_)
  · obtain ⟨e, f, m, k, more, rfl, _⟩ := h; rfl
  obtain ⟨e, f, m, k, more, rfl, he, hf, hm, hk, hmore, q⟩ := h
  refine ⟨_, (pss_cons (ps_set (i := 5) nd rfl (Or.inl rfl) (pe_lst pa_nil))
      (pss_cons (ps_for PassesOwn.never rfl (pi_tup (pe_tup (pa_cons pe_str (pa_cons pe_str pa_nil)))) (pg_name (i := 6) nd rfl (Or.inl rfl))
        (pss_cons (ps_expr (pe_bm PySem.F.plainAttrs_list PySem.F.slot_list_append PySem.F.type_list_append mt_append (pv 5) (pa_cons (pe_tup (pa_cons (pe_op op_add_str (pe_op op_add_str (pe_op op_add_str (pe_op op_add_str (pv 6) pe_str) (pv 0)) (pv 1)) pe_str) (pa_cons (pe_op op_add_str (pe_op op_add_str (pe_op op_add_str (pe_op op_add_str (pe_op op_add_str (pe_op op_add_str (pe_op op_add_str (pv 6) pe_str) (pv 0)) pe_str) (pv 6)) pe_str) (pv 1)) pe_str) pa_nil))) pa_nil)))
        (pss_cons (ps_expr (pe_bm PySem.F.plainAttrs_list PySem.F.slot_list_append PySem.F.type_list_append mt_append (pv 5) (pa_cons (pe_tup (pa_cons (pe_op op_add_str (pe_op op_add_str (pe_op op_add_str (pe_op op_add_str (pv 6) pe_str) (pv 0)) pe_str) (pv 2)) (pa_cons (pe_op op_add_str (pe_op op_add_str (pe_op op_add_str (pe_op op_add_str (pe_op op_add_str (pv 6) pe_str) (pv 0)) pe_str) (pv 2)) pe_str) pa_nil))) pa_nil)))
        (pss_cons (ps_expr (pe_bm PySem.F.plainAttrs_list PySem.F.slot_list_append PySem.F.type_list_append mt_append (pv 5) (pa_cons (pe_tup (pa_cons (pe_op op_add_str (pe_op op_add_str (pe_op op_add_str (pv 6) pe_str) (pv 0)) pe_str) (pa_cons (pe_op op_add_str (pe_op op_add_str (pe_op op_add_str (pv 6) pe_str) (pv 0)) pe_str) pa_nil))) pa_nil)))
        (pss_one (ps_expr (pe_bm PySem.F.plainAttrs_list PySem.F.slot_list_append PySem.F.type_list_append mt_append (pv 5) (pa_cons (pe_tup (pa_cons (pe_op op_add_str (pv 6) pe_str) (pa_cons pe_str pa_nil))) pa_nil))))))))
      (pss_cons (ps_expr (pe_bm PySem.F.plainAttrs_list PySem.F.slot_list_append PySem.F.type_list_append mt_append (pv 5) (pa_cons (pe_tup (pa_cons (pe_op op_add_str (pe_op op_add_str pe_str (pe_callTy call_str_int (by rfl) B.str bl_str (pa_cons (pv 3) pa_nil))) pe_str) (pa_cons (pe_op op_add_str pe_str (pe_callTy call_str_int (by rfl) B.str bl_str (pa_cons (pe_op op_add (pv 3) pe_int) pa_nil))) pa_nil))) pa_nil)))
      (pss_cons (ps_expr (pe_bm PySem.F.plainAttrs_list PySem.F.slot_list_append PySem.F.type_list_append mt_append (pv 5) (pa_cons (pe_tup (pa_cons (pe_op op_add_str (pe_op op_add_str (pe_op op_add_str (pe_op op_add_str pe_str (pv 0)) pe_str) (pv 1)) pe_str) (pa_cons (pe_op op_add_str (pe_op op_add_str (pe_op op_add_str (pe_op op_add_str pe_str (pv 1)) pe_str) (pv 0)) pe_str) pa_nil))) pa_nil)))
      (pss_cons (ps_expr (pe_bm PySem.F.plainAttrs_list PySem.F.slot_list_append PySem.F.type_list_append mt_append (pv 5) (pa_cons (pe_tup (pa_cons (pe_op op_add_str (pe_op op_add_str (pe_op op_add_str (pe_op op_add_str pe_str (pe_callTy call_str_int (by rfl) B.str bl_str (pa_cons (pe_op op_add (pe_op op_add (pv 3) pe_int) (pv 4)) pa_nil))) pe_str) (pe_callTy call_str_int (by rfl) B.str bl_str (pa_cons (pv 3) pa_nil))) pe_str) (pa_cons (pe_op op_add_str pe_str (pe_callTy call_str_int (by rfl) B.str bl_str (pa_cons (pe_op op_add (pe_op op_add (pv 3) pe_int) (pv 4)) pa_nil))) pa_nil))) pa_nil)))
      (pss_one (ps_ret (pe_op op_cat (pv 5) (pe_lst (pa_cons (pe_tup (pa_cons (pe_op op_add_str (pe_op op_add_str (pe_op op_add_str pe_str (pe_callTy call_str_int (by rfl) B.str bl_str (pa_cons (pe_op op_add (pe_op op_add (pv 3) pe_int) (pv 4)) pa_nil))) pe_str) (pe_callTy call_str_int (by rfl) B.str bl_str (pa_cons (pv 3) pa_nil))) (pa_cons (pe_op op_add_str (pe_op op_add_str (pe_op op_add_str pe_str (pe_callTy call_str_int (by rfl) B.str bl_str (pa_cons (pv 3) pa_nil))) pe_str) (pe_callTy call_str_int (by rfl) B.str bl_str (pa_cons (pe_op op_add (pe_op op_add (pv 3) pe_int) (pv 4)) pa_nil))) pa_nil))) pa_nil)))))))))), ?_⟩
  refine step_new lev_nil (by decide) fun p H1 s1 n1 l1 => ?_
  refine ⟨(by show 2 ≤ sizeLine; decide), fun t ht => ?_⟩
  have s2 := same_new ht (.tup [.str "low", .str "high"])
  have hpt : p ≠ t := fun z => by
    obtain ⟨ys, hy, _⟩ := l1
    rw [z, ht] at hy
    cases hy
  have ht0 : H t = none := free_of s1 ht
  have s0 := same_new ht0 (.tup [.str "low", .str "high"])
  have sB : Same (upd H t (.tup [.str "low", .str "high"])) (upd H1 t (.tup [.str "low", .str "high"])) := fun b o hb => by
    by_cases e1 : b = t
    · subst e1
      rw [upd_same] at hb ⊢
      exact hb
    · rw [upd_ne e1] at hb ⊢
      exact s1 _ _ hb
  have nB : (upd H t (.tup [.str "low", .str "high"])) p = none := by rw [upd_ne hpt]; exact n1
  have tB : (upd H t (.tup [.str "low", .str "high"])) t = some (.tup [.str "low", .str "high"]) := upd_same
  generalize upd H t (.tup [.str "low", .str "high"]) = HB at s0 sB nB tB
  refine ⟨t, rfl, ⟨_, SqT.of upd_same⟩, ?_⟩
  refine for_tup (xs := [.str "low", .str "high"]) (fun i σ' H' => (∃ x6, σ' = [some (.str e), some (.str f), some (.str m), some (.int k), some (.int more), some (.ref p), x6]) ∧ Same HB H' ∧ IsLst H' p (halfN e f m i)) ?_ (fun i σ' H' _ hP => SqT.of (hP.2.1 _ _ tB)) ?_ ?_
  · refine ⟨⟨_, rfl⟩, sB, ?_⟩
    obtain ⟨ys, hy, hys⟩ := l1
    exact ⟨ys, s2 _ _ hy, hys.mono s2.tk⟩
  · intro i x σ' H' hx hP
    obtain ⟨⟨x6, rfl⟩, s1, l1⟩ := hP
    have n1 := nB
    have hi : i = 0 ∨ i = 1 := by
      have := (List.getElem?_eq_some_iff.mp hx).1
      have h2 : i < 2 := this
      omega
    obtain ⟨h, rfl, hhalf, hN⟩ : ∃ h : Str, x = .str h ∧ h.length ≤ 130 ∧ halfN e f m (i + 1) = halfN e f m i ++ half4 e f m h := by
      rcases hi with rfl | rfl
      · exact ⟨"low", (Option.some.inj hx).symm, by decide, rfl⟩
      · exact ⟨"high", (Option.some.inj hx).symm, by decide, rfl⟩
    have hl8 : (halfN e f m i).length ≤ 4 := by
      rcases hi with rfl | rfl
      · exact Nat.zero_le _
      · exact Nat.le_refl 4
    rw [hN]
    generalize halfN e f m i = ps0 at l1 hl8
    refine step_app rfl l1 (pev2 (sev_add (sev_add (sev_add (sev_add (sev_var rfl hhalf) (sev_c (by decide)) (by decide)) (sev_var rfl he) (by decide)) (sev_var rfl hf) (by decide)) (sev_c (by decide)) (by decide)) (sev_add (sev_add (sev_add (sev_add (sev_add (sev_add (sev_add (sev_var rfl hhalf) (sev_c (by decide)) (by decide)) (sev_var rfl he) (by decide)) (sev_c (by decide)) (by decide)) (sev_var rfl hhalf) (by decide)) (sev_c (by decide)) (by decide)) (sev_var rfl hf) (by decide)) (sev_c (by decide)) (by decide))) (by first | exact Nat.le_of_ble_eq_true rfl | (simp; omega)) s1 n1 fun H1 s1 l1 => ?_
    refine step_app rfl l1 (pev2 (sev_add (sev_add (sev_add (sev_add (sev_var rfl hhalf) (sev_c (by decide)) (by decide)) (sev_var rfl he) (by decide)) (sev_c (by decide)) (by decide)) (sev_var rfl hm) (by decide)) (sev_add (sev_add (sev_add (sev_add (sev_add (sev_var rfl hhalf) (sev_c (by decide)) (by decide)) (sev_var rfl he) (by decide)) (sev_c (by decide)) (by decide)) (sev_var rfl hm) (by decide)) (sev_c (by decide)) (by decide))) (by first | exact Nat.le_of_ble_eq_true rfl | (simp; omega)) s1 n1 fun H1 s1 l1 => ?_
    refine step_app rfl l1 (pev2 (sev_add (sev_add (sev_add (sev_var rfl hhalf) (sev_c (by decide)) (by decide)) (sev_var rfl he) (by decide)) (sev_c (by decide)) (by decide)) (sev_add (sev_add (sev_add (sev_var rfl hhalf) (sev_c (by decide)) (by decide)) (sev_var rfl he) (by decide)) (sev_c (by decide)) (by decide))) (by first | exact Nat.le_of_ble_eq_true rfl | (simp; omega)) s1 n1 fun H1 s1 l1 => ?_
    refine app_ev rfl l1 (pev2 (sev_add (sev_var rfl hhalf) (sev_c (by decide)) (by decide)) (sev_c (by decide))) (by first | exact Nat.le_of_ble_eq_true rfl | (simp; omega)) s1 n1 fun H1 s1 l1 => ?_
    rw [List.append_assoc, List.append_assoc, List.append_assoc] at l1
    exact ⟨⟨_, rfl⟩, s1, l1⟩
  · intro σ' H' hP
    obtain ⟨⟨x6, rfl⟩, s1, l1⟩ := hP
    have n1 := nB
    refine step_app rfl l1 (pev2 (sev_add (sev_add (sev_c (by decide)) (sev_str (iev_var rfl) (by omega) (by omega)) (by decide)) (sev_c (by decide)) (by decide)) (sev_add (sev_c (by decide)) (sev_str (iev_add (iev_var rfl) iev_c) (by omega) (by omega)) (by decide))) (by first | exact Nat.le_of_ble_eq_true rfl | (simp; omega)) s1 n1 fun H1 s1 l1 => ?_
    refine step_app rfl l1 (pev2 (sev_add (sev_add (sev_add (sev_add (sev_c (by decide)) (sev_var rfl he) (by decide)) (sev_c (by decide)) (by decide)) (sev_var rfl hf) (by decide)) (sev_c (by decide)) (by decide)) (sev_add (sev_add (sev_add (sev_add (sev_c (by decide)) (sev_var rfl hf) (by decide)) (sev_c (by decide)) (by decide)) (sev_var rfl he) (by decide)) (sev_c (by decide)) (by decide))) (by first | exact Nat.le_of_ble_eq_true rfl | (simp; omega)) s1 n1 fun H1 s1 l1 => ?_
    refine step_app rfl l1 (pev2 (sev_add (sev_add (sev_add (sev_add (sev_c (by decide)) (sev_str (iev_add (iev_add (iev_var rfl) iev_c) (iev_var rfl)) (by omega) (by omega)) (by decide)) (sev_c (by decide)) (by decide)) (sev_str (iev_var rfl) (by omega) (by omega)) (by decide)) (sev_c (by decide)) (by decide)) (sev_add (sev_c (by decide)) (sev_str (iev_add (iev_add (iev_var rfl) iev_c) (iev_var rfl)) (by omega) (by omega)) (by decide))) (by first | exact Nat.le_of_ble_eq_true rfl | (simp; omega)) s1 n1 fun H1 s1 l1 => ?_
    refine ret_cat rfl l1 (lev_cons (pev2 (sev_add (sev_add (sev_add (sev_c (by decide)) (sev_str (iev_add (iev_add (iev_var rfl) iev_c) (iev_var rfl)) (by omega) (by omega)) (by decide)) (sev_c (by decide)) (by decide)) (sev_str (iev_var rfl) (by omega) (by omega)) (by decide)) (sev_add (sev_add (sev_add (sev_c (by decide)) (sev_str (iev_var rfl) (by omega) (by omega)) (by decide)) (sev_c (by decide)) (by decide)) (sev_str (iev_add (iev_add (iev_var rfl) iev_c) (iev_var rfl)) (by omega) (by omega)) (by decide))) lev_nil) (by first | exact Nat.le_of_ble_eq_true rfl | (simp; omega)) s1 fun p H1 s1 n1 l1 => ?_
    exact q p H1 (s0.trans s1) (free_of s0 n1) l1
theorem cal__law_rules_of_halves (B : Blt mg) (D : DefAt K mg "_law_rules_of_halves" s__law_rules_of_halves P__law_rules_of_halves) : Cal P w K mg base 1 "_law_rules_of_halves" P__law_rules_of_halves spHalvesR := D.cal fun _ _ F => ok__law_rules_of_halves B F
end
end Hw
set_option maxHeartbeats 2000000
/-! Halvewright: the law. -/
namespace Hw
open PySem L2
theorem no10_al {w : List Nat} (h : ∀ x ∈ w, isAl x = true) : 10 ∉ w := fun z => by
  have := h 10 z
  exact absurd this (by decide)
theorem no10_figs {n : Nat} : 10 ∉ figs n := fun z => by
  unfold figs at z
  split at z <;> simp at z <;> omega
theorem no10_ints {n : Int} : 10 ∉ figI n := fun z => by
  unfold figI at z
  split at z
  · rcases List.mem_cons.mp z with h | h
    · cases h
    · exact no10_figs h
  · exact no10_figs z
theorem C.no10 : ∀ {c : C}, c.ok → 10 ∉ c.txt
  | .one, _ => by decide
  | .move n, _ => fun z => by
    rcases List.mem_cons.mp (show 10 ∈ 109 :: figs n from z) with h | h
    · cases h
    · exact no10_figs h
  | .name x, h => no10_al (w := x.cps.toList) fun y hy => small_al ((okName_al (w := x.cps.toList) h).1 y hy)
  | .par c, h => by have := C.no10 (c := c) h; simp [C.txt, this]
  | .back c, h => by have := C.no10 (c := c) h.1; simp [C.txt, this]
  | .power c n, h => by have := C.no10 (c := c) h.1; have := no10_ints (n := n); simp [C.txt, *]
  | .low c, h => by have := C.no10 (c := c) h; simp [C.txt, this]
  | .high c, h => by have := C.no10 (c := c) h; simp [C.txt, this]
  | .as c d, h => by have := C.no10 (c := c) h.1; have := C.no10 (c := d) h.2; simp [C.txt, *]
  | .com c d, h => by have := C.no10 (c := c) h.1; have := C.no10 (c := d) h.2; simp [C.txt, *]
  | .thn b c d, h => by have := C.no10 (c := c) h.1; have := C.no10 (c := d) h.2.1; cases b <;> simp [C.txt, *]
theorem Light.part {ls : Ls} {rs : Rs} {e : Ex} (h : Light ls e) (hok : ∀ r ∈ ls, Okn r.1) (hin : ∀ x, InL ls x → InRs rs x) : Part (wl ls) (InRs rs) (C.ofEx e) := by
  have hn : e.NamesIn Okn := Ex.NamesIn.mono (fun x hx => by
    obtain ⟨r, hr, e1⟩ := List.mem_map.mp hx
    rw [← e1]
    exact hok r hr) h.names
  have h1 := C.ofEx_nest e
  have h2 := h.deep
  have h3 := txt_length hn
  have h4 : 2 ^ e.deep ≤ 2 ^ 4 := Nat.pow_le_pow_right (by decide) h2
  exact ⟨C.ofEx_ok h.small hn, by omega, by rw [C.ofEx_ex]; omega, by rw [C.ofEx_ex]; exact h.wt, by rw [C.ofEx_ex]; exact Ex.NamesIn.mono (fun x hx => hin x hx) h.names, by omega⟩
theorem SameX.ext {xs : List Addr} {H H1 : Hp} {D : Addr} {o : HO} (h : SameX xs H H1) (n : H D = none) : SameX xs H (upd H1 D o) := fun b u hb e => by
  rw [upd_ne (ne_of_none e n)]; exact h b u hb e
theorem IsSt.upd' {H : Hp} {st sl D : Addr} {ns : List Int} {o : HO} (i : IsSt H st sl ns) (h1 : D ≠ st) (h2 : D ≠ sl) : IsSt (upd H D o) st sl ns := by
  obtain ⟨g1, g2, a, b, c, g3⟩ := i
  exact ⟨by rw [upd_ne (Ne.symm h2)]; exact g1, g2, a, b, c, by rw [upd_ne (Ne.symm h1)]; exact g3⟩
/-- all that stands from turn to turn -/
structure LawSt (H : Hp) (st sl dm dn dw : Addr) (ns : List Int) (ls : Ls) (rs : Rs) : Prop where
  k : Kept H dm dn dw ls rs
  i : IsSt H st sl ns
  ne : dm ≠ st
theorem LawSt.same {H H' : Hp} {st sl dm dn dw : Addr} {ns : List Int} {ls : Ls} {rs : Rs} (l : LawSt H st sl dm dn dw ns ls rs) (s : Same H H') : LawSt H' st sl dm dn dw ns ls rs := ⟨l.k.same s, l.i.same s, l.ne⟩
theorem LawSt.x {H H' : Hp} {st sl dm dn dw : Addr} {ns : List Int} {ls : Ls} {rs : Rs} (l : LawSt H st sl dm dn dw ns ls rs) (s : SameX [st] H H') (i : IsSt H' st sl ns) : LawSt H' st sl dm dn dw ns ls rs := ⟨l.k.x l.i l.ne s, i, l.ne⟩
theorem LawSt.maps {H : Hp} {st sl dm dn dw : Addr} {ns : List Int} {ls : Ls} {rs : Rs} (l : LawSt H st sl dm dn dw ns ls rs) : Maps H dm rs (envOf ls) (wl ls) := ⟨l.k.nsd, l.k.fine, l.k.ok⟩
theorem paired_3 {α β : Type} {F : α → β → Prop} {as : List α} {ys : List β} (h : Paired F as ys) (hl : as.length = 3) : ∃ a b c x y z, as = [a, b, c] ∧ ys = [x, y, z] ∧ F a x ∧ F b y ∧ F c z := by
  match as, hl, h with
  | [a, b, c], _, .cons h1 (.cons h2 (.cons h3 .nil)) => exact ⟨a, b, c, _, _, _, rfl, rfl, h1, h2, h3⟩
theorem sqL_x {K : PySem.W.Frag} {xs : List Addr} {H H' : Hp} {a : Addr} {ys : List V} (h : SqL K H a ys) (s : SameX xs H H') (n : ∀ u, H a = some u → a ∉ xs) : SqL K H' a ys := by
  rcases h with (h | ⟨o, h⟩) | h
  · exact .inl (.inl (s _ _ (n _ h) h))
  · exact .inl (.inr ⟨o, s _ _ (n _ h) h⟩)
  · exact .inr h
section
variable {P : Program} {w : World} {K : PySem.W.Frag} {mg : Str → Option Value} {base : Heap} {f : Addr} {fd : FuncData}
abbrev s_law : Stmt := top 71
abbrev N_law : List Str := ["_law_script", "_law_state", "_law_maps", "_law_names", "_law_weights", "_law_k", "_law_exprs", "_law_one", "_law_e", "_law_f", "_law_g", "_law_m", "_law_n", "_law_many", "_law_rules", "_law_other", "_law_plain", "_law_place"]
abbrev P_law : List Str := ["_law_script"]
theorem sc_law : FnScope N_law P_law (defScope s_law) := ⟨rfl, rfl, rfl, by decide +kernel, rfl, by decide +kernel, by decide +kernel⟩
def spLawT (K : PySem.W.Frag) : Sp := fun vs H Q _ => ∃ (a : Addr) (ns : List Int), vs = [.ref a] ∧ SqL K H a (ns.map V.int) ∧ ns.length ≤ 63 ∧ ∀ H', Q (.bl true) H'
theorem ok_law (B : Blt mg) (F : Fun K "law" "law" s_law f fd) (c__law_draw : Cal P w K mg base 1 "_law_draw" P__law_draw spDraw) (c__law_names_kept : Cal P w K mg base 98 "_law_names_kept" P__law_names_kept spNamesKept)
    (c__law_light : Cal P w K mg base 8 "_law_light" P__law_light spLight) (c__law_text : Cal P w K mg base 16 "_law_text" P__law_text (spText 8))
    (c__law_rules_of_backs : Cal P w K mg base 1 "_law_rules_of_backs" P__law_rules_of_backs spBacks) (c__law_rules_of_as : Cal P w K mg base 1 "_law_rules_of_as" P__law_rules_of_as spAs) (c__law_rules_of_halves : Cal P w K mg base 1 "_law_rules_of_halves" P__law_rules_of_halves spHalvesR)
    (c__law_same : Cal P w K mg base 98 "_law_same" P__law_same spSame) (c__law_unlike : Cal P w K mg base 98 "_law_unlike" P__law_unlike spUnlike) (c__law_filled_in : Cal P w K mg base 8 "_law_filled_in" P__law_filled_in (spFilled 8))
    (c_map_of : Cal P w K mg base 97 "map_of" P_map_of spMapOf) (c_maps_of : Cal P w K mg base 97 "maps_of" P_maps_of spMapsOf) (c_read_program : Cal P w K mg base 42 "read_program" P_read_program spReadProgram) (c_read_expr : Cal P w K mg base 40 "read_expr" P_read_expr spReadExpr) :
    FnOk P w K mg base CX0 99 f fd P_law (spLawT K) := by
  have nd := sc_law.nd
  refine F.ok sc_law (fun vs H Q E h => ?_) (fun cdv A outer s H vs Q E hr h => ?_)
  · obtain ⟨a, ns, rfl, _⟩ := h; rfl
  obtain ⟨a, ns, rfl, hS, h63, q⟩ := h
  have hu64 := hr.units
  have hu100 : (A.deeper (PyProof.Rows.envOfC (Str.ofString "law") (defScope s_law) s.heap.objs.size f cdv)).units + 100 < cLine := by have := hr.un; omega
  have L__law_draw : 1 ≤ 98 := by decide
  have L__law_names_kept : 98 ≤ 98 := by decide
  have L__law_light : 8 ≤ 98 := by decide
  have L__law_text : 16 ≤ 98 := by decide
  have L__law_rules_of_backs : 1 ≤ 98 := by decide
  have L__law_rules_of_as : 1 ≤ 98 := by decide
  have L__law_rules_of_halves : 1 ≤ 98 := by decide
  have L__law_same : 98 ≤ 98 := by decide
  have L__law_unlike : 98 ≤ 98 := by decide
  have L__law_filled_in : 8 ≤ 98 := by decide
  have L_map_of : 97 ≤ 98 := by decide
  have L_maps_of : 97 ≤ 98 := by decide
  have L_read_program : 42 ≤ 98 := by decide
  have L_read_expr : 40 ≤ 98 := by decide
  refine ⟨_, (pss_cons (ps_set (i := 1) nd rfl (Or.inr rfl) (pe_lst (pa_cons (pe_callTy call_list_of (by rfl) B.list bl_list (pa_cons (pv 0) pa_nil)) (pa_cons pe_int (pa_cons pe_int (pa_cons pe_int pa_nil))))))
      (pss_cons (ps_set (i := 2) nd rfl (Or.inl rfl) pe_dnewK)
      (pss_cons (ps_asg (pe_cal c__law_names_kept (hr.mono L__law_names_kept) (by rfl) (pa_cons (pv 1) (pa_cons (pv 2) pa_nil))) (pg_tup rfl (pgs_cons (pg_name (i := 3) nd rfl (Or.inr rfl)) (pgs_cons (pg_name (i := 4) nd rfl (Or.inr rfl)) pgs_nil))))
      (pss_cons (ps_for PassesOwn.never rfl (pi_range1 (by rfl) B.range (pa_cons (pe_op op_add pe_int (pe_op op_fdiv (pe_callB call_len_seq (by rfl) B.len PySem.boot_len (pa_cons (pe_slice sl_list (pv 0) po_none (po_some pe_int)) pa_nil)) pe_int)) pa_nil)) (pg_name (i := 5) nd rfl (Or.inl rfl))
        (pss_cons (ps_setLc (i := 6) (own := [("_law_place", 17)]) (g := (gName 17)) rfl nd rfl rfl (sw_true rfl rfl rfl (by decide +kernel)) (pi_range1 (by rfl) B.range (pa_cons pe_int pa_nil)) (blkOk_by (own := [("_law_place", 17)]) (N := N_law) (sc := defScope s_law) (by decide +kernel)) (fun _ _ _ _ _ => pg_name (i := 17) nd rfl (Or.inl rfl)) (fun _ _ _ _ _ => pts_nil) (fun _ _ _ _ _ => (pe_cal c__law_light (hr.mono L__law_light) (by rfl) (pa_cons (pv 1) (pa_cons (pv 3) (pa_cons (pv 4) pa_nil))))))
        (pss_cons (ps_asg (pe_lc (own := [("_law_one", 7)]) (g := (gName 7)) rfl nd (pi_list (pv 6)) (blkOk_by (own := [("_law_one", 7)]) (N := N_law) (sc := defScope s_law) (by decide +kernel)) (fun _ _ _ _ _ => pg_name (i := 7) nd rfl (Or.inl rfl)) (fun _ _ _ _ _ => pts_nil) (fun _ _ _ _ _ => (pe_op op_add_str (pe_op op_add_str pe_str (pe_cal c__law_text (hr.mono L__law_text) (by rfl) (pa_cons (pv 7) pa_nil))) pe_str))) (pg_unl rfl (pgs_cons (pg_name (i := 8) nd rfl (Or.inl rfl)) (pgs_cons (pg_name (i := 9) nd rfl (Or.inl rfl)) (pgs_cons (pg_name (i := 10) nd rfl (Or.inl rfl)) pgs_nil)))))
        (pss_cons (ps_set (i := 11) nd rfl (Or.inl rfl) (pe_callTy call_str_int (by rfl) B.str bl_str (pa_cons (pe_op op_sub (pe_cal c__law_draw (hr.mono L__law_draw) (by rfl) (pa_cons (pv 1) (pa_cons pe_int pa_nil))) pe_int) pa_nil)))
        (pss_cons (ps_set (i := 12) nd rfl (Or.inl rfl) (pe_callTy call_str_int (by rfl) B.str bl_str (pa_cons (pe_op op_sub (pe_cal c__law_draw (hr.mono L__law_draw) (by rfl) (pa_cons (pv 1) (pa_cons pe_int pa_nil))) pe_int) pa_nil)))
        (pss_cons (ps_set (i := 13) nd rfl (Or.inl rfl) (pe_cal c__law_draw (hr.mono L__law_draw) (by rfl) (pa_cons (pv 1) (pa_cons pe_int pa_nil))))
        (pss_cons (ps_set (i := 14) nd rfl (Or.inl rfl) (pe_op op_cat (pe_cal c__law_rules_of_backs (hr.mono L__law_rules_of_backs) (by rfl) (pa_cons (pv 8) (pa_cons (pv 9) (pa_cons (pv 10) (pa_cons (pv 11) (pa_cons (pv 12) pa_nil)))))) (pe_cal c__law_rules_of_as (hr.mono L__law_rules_of_as) (by rfl) (pa_cons (pv 8) (pa_cons (pv 9) (pa_cons (pv 10) (pa_cons (pv 11) (pa_cons (pv 12) pa_nil))))))))
        (pss_cons (ps_set (i := 14) nd rfl (Or.inl rfl) (pe_op op_cat (pv 14) (pe_cal c__law_rules_of_halves (hr.mono L__law_rules_of_halves) (by rfl) (pa_cons (pv 8) (pa_cons (pv 9) (pa_cons (pv 11) (pa_cons (pv 13) (pa_cons (pe_cal c__law_draw (hr.mono L__law_draw) (by rfl) (pa_cons (pv 1) (pa_cons pe_int pa_nil))) pa_nil))))))))
        (pss_cons (ps_asg (pe_ix ix_list (pv 14) (pe_cal c__law_draw (hr.mono L__law_draw) (by rfl) (pa_cons (pv 1) (pa_cons (pe_callB call_len_seq (by rfl) B.len PySem.boot_len (pa_cons (pv 14) pa_nil)) pa_nil))) (fun _ _ => rfl)) (pg_tup rfl (pgs_cons (pg_name (i := 7) nd rfl (Or.inl rfl)) (pgs_cons (pg_name (i := 15) nd rfl (Or.inl rfl)) pgs_nil))))
        (pss_cons (ps_if (PW.pt (pw_or (pt_not (pt_val (pe_cal c__law_same (hr.mono L__law_same) (by rfl) (pa_cons (pv 7) (pa_cons (pv 15) (pa_cons (pv 2) pa_nil)))))) (pw_or1 (pt_not (pt_val (pe_cal c__law_same (hr.mono L__law_same) (by rfl) (pa_cons (pv 15) (pa_cons (pv 7) (pa_cons (pv 2) pa_nil)))))))))
          (pss_one (ps_ret pe_bl))
          pss_nil)
        (pss_cons (ps_if (pt_not (pt_val (pe_cal c__law_unlike (hr.mono L__law_unlike) (by rfl) (pa_cons (pv 9) (pa_cons (pe_cal c__law_draw (hr.mono L__law_draw) (by rfl) (pa_cons (pv 1) (pa_cons pe_int pa_nil))) (pa_cons (pe_ix ix_list (pe_lst (pa_cons pe_str (pa_cons pe_str (pa_cons pe_str pa_nil)))) (pe_cal c__law_draw (hr.mono L__law_draw) (by rfl) (pa_cons (pv 1) (pa_cons pe_int pa_nil))) (fun _ _ => rfl)) (pa_cons (pv 2) pa_nil)))))))
          (pss_one (ps_ret pe_bl))
          pss_nil)
        (pss_cons (ps_set (i := 16) nd rfl (Or.inl rfl) (pe_cal c__law_filled_in (hr.mono L__law_filled_in) (by rfl) (pa_cons (pe_ix ix_list (pv 6) pe_int (fun _ _ => rfl)) (pa_cons (pv 3) pa_nil))))
        (pss_cons (ps_if (pt_cmpR (op_neD hu64) (pe_cal c_map_of (hr.mono L_map_of) (by rfl) (pa_cons (pv 16) (pa_cons pe_dnewK pa_nil))) (pe_cal c_map_of (hr.mono L_map_of) (by rfl) (pa_cons (pe_ix ix_list (pv 6) pe_int (fun _ _ => rfl)) (pa_cons (pv 2) pa_nil))) (nomark _))
          (pss_one (ps_ret pe_bl))
          pss_nil)
        (pss_one (ps_if (pt_cmpR (op_ne1 hu100) (pe_cal c_maps_of (hr.mono L_maps_of) (by rfl) (pa_cons (pe_cal c_read_program (hr.mono L_read_program) (by rfl) (pa_cons (pe_op op_add_str pe_str (pe_cal c__law_text (hr.mono L__law_text) (by rfl) (pa_cons (pv 16) pa_nil))) pa_nil)) pa_nil)) (pe_disp (pps_cons pe_str (pe_cal c_map_of (hr.mono L_map_of) (by rfl) (pa_cons (pe_cal c_read_expr (hr.mono L_read_expr) (by rfl) (pa_cons (pe_cal c__law_text (hr.mono L__law_text) (by rfl) (pa_cons (pv 16) pa_nil)) pa_nil)) (pa_cons pe_dnewK pa_nil))) pps_nil) (by rfl) (by rfl) (fun z => by cases z) (by decide)) (nomark _))
          (pss_one (ps_ret pe_bl))
          pss_nil)))))))))))))))
      (pss_one (ps_ret pe_bl)))))), ?_⟩
  refine ⟨_, rfl, a, _, rfl, .inl hS, fun sl hsl => ?_⟩
  have s1 := same_new hsl (.lst (ns.map V.int))
  refine ⟨(by show 4 ≤ sizeLine; decide), fun st hst => ?_⟩
  have s2 := same_new hst (.lst [.ref sl, .int 0, .int 0, .int 0])
  have i2 : IsSt (upd (upd H sl (.lst (ns.map V.int))) st (.lst [.ref sl, .int 0, .int 0, .int 0])) st sl ns := ⟨s2 _ _ upd_same, h63, 0, 0, 0, upd_same⟩
  refine fun dm hdm => ?_
  have s3 := same_new hdm (.dK [])
  have i3 := i2.same s3
  have ndm : dm ≠ st := i2.fresh hdm
  have hS3 := s3.seq (s2.seq (s1.seq hS))
  have nast : a ∉ [st, dm] → True := fun _ => trivial
  refine ⟨_, rfl, _, rfl, st, sl, dm, ns, rfl, i3, upd_same, fun t dn dw ls rs H4 ht4 k4 sx4 i4 => ?_⟩
  refine ⟨t, _, rfl, SqT.of ht4, rfl, _, _, rfl, _, _, rfl, rfl, ?_⟩
  have L4 : LawSt H4 st sl dm dn dw ns ls rs := ⟨k4, i4, ndm⟩
  have hS4 : SqL K H4 a (ns.map V.int) := sqL_x hS ((s1.x _).trans ((s2.x _).trans ((s3.x _).trans sx4))) fun u e z => by
    rcases List.mem_cons.mp z with z | z
    · rw [z] at e
      rw [s1 _ _ e] at hst
      cases hst
    · rw [List.mem_singleton.mp z] at e
      rw [s2 _ _ (s1 _ _ e)] at hdm
      cases hdm
  have hcl : (cutV (ns.map V.int) none (some 60)).length ≤ 63 := Nat.le_trans (cutV_length _ _ _) (by rw [List.length_map]; exact h63)
  refine ⟨_, rfl, _, rfl, a, _, rfl, hS4, fun p hp => ?_⟩
  have s5 := same_new hp (.lst (cutV (ns.map V.int) none (some 60)))
  have L5 := L4.same s5
  refine ⟨p, _, rfl, .inl (SqL.of upd_same), _, _, rfl, rfl, ⟨by decide, by decide⟩, _, _, rfl, rfl, _, rfl, ?_, ?_, ?_⟩
  · omega
  · omega
  refine for_range (lo := 0) (n := ((2 : Int) + ((cutV (ns.map V.int) none (some 60)).length : Int) / 30).toNat) (fun i σ' H' => (∃ x5 x6 x7 x8 x9 x10 x11 x12 x13 x14 x15 x16 x17, σ' = [some (.ref a), some (.ref st), some (.ref dm), some (.ref dn), some (.ref dw), x5, x6, x7, x8, x9, x10, x11, x12, x13, x14, x15, x16, x17]) ∧ LawSt H' st sl dm dn dw ns ls rs) ?_ ?_ ?_
  · exact ⟨⟨_, _, _, _, _, _, _, _, _, _, _, _, _, rfl⟩, L5⟩
  · intro i σ' H5 hi hP
    obtain ⟨⟨x5, x6, x7, x8, x9, x10, x11, x12, x13, x14, x15, x16, x17, rfl⟩, L5⟩ := hP
    have okls := L5.k.lsd.okn
    have inls : ∀ x, InL ls x → InRs rs x := fun x hx => L5.k.inL.mp hx
    have pls := L5.k.plain
    -- three expressions
    refine ⟨3, rfl, by decide, by decide, fun D hD => ?_⟩
    have nDst := L5.i.fresh hD
    have nDsl : D ≠ sl := fun z => by
      have := L5.i.1
      rw [← z, hD] at this
      cases this
    refine lc_it (walk_range (lo := 0) (n := (3 : Int).toNat)) (fun i H' => SameX [st] H5 H' ∧ IsSt H' st sl ns ∧ ∃ ys es, H' D = some (.lst ys) ∧ Paired (fun e y => IsE H' y e ∧ Light ls e) es ys ∧ es.length = i) ?_ (fun _ _ _ _ => trivial) ?_ ?_
    · exact ⟨(same_new hD _).x _, L5.i.same (same_new hD _), [], [], upd_same, .nil, rfl⟩
    · intro j x H6 H6' hj hP6 hy
      obtain ⟨rfl, rfl⟩ := hy
      obtain ⟨sx6, i6, ys, es, hD6, hes, hel⟩ := hP6
      have L6 := L5.x sx6 i6
      refine ⟨rfl, ?_⟩
      refine iteT (B := SameX [st] H5 H6' ∧ IsSt H6' st sl ns ∧ ∃ ys es, H6' D = some (.lst ys) ∧ Paired (fun e y => IsE H6' y e ∧ Light ls e) es ys ∧ es.length = j + 1) ?_
      refine ⟨_, rfl, _, rfl, _, rfl, st, sl, dn, dw, ns, ls, rfl, i6, L6.k.lsd, fun r e H7 he hl s7 i7 => ?_⟩
      have hD7 := s7.new nDst hD6
      have hyl : ys.length = j := by rw [← Paired.length hes, hel]
      have hj3 : j < 3 := hj
      have tk7 := i6.tk s7
      have tkD := tk_lst hD7 (.lst (ys ++ [r]))
      refine ⟨ys, hD7, line1000' (by omega), (sx6.trans s7).ext hD, i7.upd' nDst nDsl, ys ++ [r], es ++ [e], upd_same, ?_, by rw [List.length_append, hel]; rfl⟩
      exact paired_append (paired_mono hes fun _ _ z => ⟨(z.1.mono tk7).mono tkD, z.2⟩) (.cons ⟨he.mono tkD, hl⟩ .nil)
    intro H6 hP6
    obtain ⟨sx6, i6, ys, es, hD6, hes, hel⟩ := hP6
    have hel3 : es.length = 3 := hel
    obtain ⟨e1, e2, e3, y1, y2, y3, rfl, rfl, ⟨he1, hl1⟩, ⟨he2, hl2⟩, ⟨he3, hl3⟩⟩ := paired_3 hes hel3
    have L6 := L5.x sx6 i6
    have p1 := hl1.part okls inls
    have p2 := hl2.part okls inls
    have p3 := hl3.part okls inls
    -- their texts
    refine ⟨_, rfl, D, rfl, ⟨_, SqL.of hD6⟩, fun D2 hD2 => ?_⟩
    refine lc_runP (j := 7) (as := [e1, e2, e3]) (fun e x => IsE H6 x e ∧ Light ls e) (fun _ e y => y = .str (mk (C.par (C.ofEx e)).txt)) (fun _ h => h) hes (SqL.of hD6) hD2 (by show 3 ≤ 10000; decide) (fun x => rfl) ?_ ?_
    · intro e x hm hx H7 s7 Q' hq
      have hok : e.NamesIn Okn := Ex.NamesIn.mono (fun x hx => by
        obtain ⟨r, hr, e1⟩ := List.mem_map.mp hx
        rw [← e1]
        exact okls r hr) hx.2.names
      have hd4 := hx.2.deep
      have hln := exT_len hok (by omega)
      refine ⟨_, rfl, x, e, rfl, hx.1.mono s7.tk, hx.2.small, hok, by omega, by omega, fun H8 s8 => ?_⟩
      have ll : (Str.ofString "(" ++ exT e).length = 1 + (exT e).length := by rw [len_app]; rfl
      refine ⟨_, _, rfl, rfl, line1000 (by show 1 + (exT e).length ≤ 10000; omega), _, _, rfl, rfl, line1000 (by show (Str.ofString "(" ++ exT e).length + 1 ≤ 10000; omega), hq _ _ s8 ?_⟩
      unfold exT
      rw [z_lp, z_rp, mk_append, mk_append]
      rfl
    intro H7 zs s7 hD7 hzs
    have ez := paired_eq hzs
    subst ez
    have L7 := L6.same s7
    refine ⟨D2, _, rfl, SqL.of hD7, rfl, _, _, rfl, _, _, rfl, _, _, rfl, rfl, ?_⟩
    have hDx : H7 D = some (.lst [y1, y2, y3]) := s7 _ _ hD6
    have len1 : ∀ {e : Ex}, Part (wl ls) (InRs rs) (C.ofEx e) → (mk (C.par (C.ofEx e)).txt).length ≤ 130 := fun h => by
      have := h.len
      rw [mk_len]; simp [C.txt]; omega
    -- the numbers
    refine ⟨_, rfl, st, sl, ns, 5, rfl, L7.i, by decide, by decide, fun d1 H8 hd1 s8 i8 => ?_⟩
    have L8 := L7.x s8 i8
    refine ⟨_, _, rfl, rfl, _, rfl, small_log (by omega), ?_⟩
    refine ⟨_, rfl, st, sl, ns, 5, rfl, i8, by decide, by decide, fun d2 H9 hd2 s9 i9 => ?_⟩
    have L9 := L8.x s9 i9
    refine ⟨_, _, rfl, rfl, _, rfl, small_log (by omega), ?_⟩
    refine ⟨_, rfl, st, sl, ns, 13, rfl, i9, by decide, by decide, fun d3 H10 hd3 s10 i10 => ?_⟩
    have L10 := L9.x s10 i10
    have mi : -2 ≤ (d1 : Int) - 2 ∧ (d1 : Int) - 2 ≤ 2 := by omega
    have ni : -2 ≤ (d2 : Int) - 2 ∧ (d2 : Int) - 2 ≤ 2 := by omega
    have lm := (sI_int mi).2
    have ln := (sI_int ni).2
    -- the rules
    refine ⟨_, rfl, _, rfl, _, rfl, _, rfl, _, rfl, _, _, _, (d1 : Int) - 2, (d2 : Int) - 2, rfl, len1 p1, len1 p2, len1 p3, mi, ni, fun q1 H11 s11 n11 l11 => ?_⟩
    refine ⟨_, rfl, _, rfl, _, rfl, _, rfl, _, rfl, _, _, _, _, _, rfl, len1 p1, len1 p2, len1 p3, lm, ln, fun q2 H12 s12 n12 l12 => ?_⟩
    obtain ⟨xs1, hx1, hxs1⟩ := l11
    obtain ⟨xs2, hx2, hxs2⟩ := l12
    have lx1 : 15 = xs1.length := Paired.length hxs1
    have lx2 : 12 = xs2.length := Paired.length hxs2
    refine ⟨q1, q2, xs1, xs2, rfl, rfl, s12 _ _ hx1, hx2, line1000 (by omega), fun q3 hq3 => ?_⟩
    have s13 := same_new hq3 (.lst (xs1 ++ xs2))
    have L13 := ((L10.same s11).same s12).same s13
    have hq3st := ((L10.same s11).same s12).i.fresh hq3
    have hps13 := paired_append ((IsPs.mono hxs1 s12.tk).mono s13.tk) (IsPs.mono hxs2 s13.tk)
    refine ⟨_, rfl, _, rfl, _, rfl, _, rfl, _, rfl, _, rfl, st, sl, ns, 6, rfl, L13.i, by decide, by decide, fun d4 H14 hd4 s14 i14 => ?_⟩
    have L14 := L13.x s14 i14
    have hq314 := s14.new hq3st (show _ = some (.lst (xs1 ++ xs2)) from upd_same)
    have hps14 := IsPs.mono hps13 (L13.i.tk s14)
    refine ⟨_, _, _, d3, d4, rfl, len1 p1, len1 p2, lm, hd3, hd4, fun q4 H15 s15 n15 l15 => ?_⟩
    obtain ⟨xs3, hx3, hxs3⟩ := l15
    have lx3 : 12 = xs3.length := Paired.length hxs3
    refine ⟨q3, q4, xs1 ++ xs2, xs3, rfl, rfl, s15 _ _ hq314, hx3, line1000 (by rw [List.length_append]; omega), fun q5 hq5 => ?_⟩
    have s16 := same_new hq5 (.lst (xs1 ++ xs2 ++ xs3))
    have L16 := (L14.same s15).same s16
    have hq5st := (L14.same s15).i.fresh hq5
    have hps16 : IsPs _ _ (rulesAll (mk (C.par (C.ofEx e1)).txt) (mk (C.par (C.ofEx e2)).txt) (mk (C.par (C.ofEx e3)).txt) (sI ((d1 : Int) - 2)) (sI ((d2 : Int) - 2)) ((d1 : Int) - 2) ((d2 : Int) - 2) d3 d4) :=
      paired_append (IsPs.mono hps14 (s15.tk.trans s16.tk)) (IsPs.mono hxs3 s16.tk)
    -- one of them
    have lall : (xs1 ++ xs2 ++ xs3).length = 39 := by rw [List.length_append, List.length_append]; omega
    refine ⟨_, rfl, _, rfl, _, rfl, q5, _, rfl, .inl (SqL.of upd_same), st, sl, ns, 39, by rw [lall]; rfl, L16.i, by decide, by decide, fun d5 H17 hd5 s17 i17 => ?_⟩
    have L17 := L16.x s17 i17
    have hq517 := s17.new hq5st (show _ = some (.lst (xs1 ++ xs2 ++ xs3)) from upd_same)
    have hps17 := IsPs.mono hps16 (L16.i.tk s17)
    have hd5' : d5 < (xs1 ++ xs2 ++ xs3).length := by omega
    obtain ⟨pr, hpr, tt, ett, htt⟩ := paired_at hps17 (List.getElem?_eq_getElem hd5')
    have hpm := List.mem_of_getElem? hpr
    refine ⟨q5, _, _, _, rfl, rfl, SqL.of hq517, atI_nat (List.getElem?_eq_getElem hd5'), ?_⟩
    rw [ett]
    refine ⟨tt, _, rfl, SqT.of htt, rfl, _, _, rfl, _, _, rfl, rfl, ?_⟩
    have hpair : Pair (envOf ls) (wl ls) (InRs rs) pr := rules_ok p1 p2 p3 mi ni hd3 hd4 (envOf ls) hpm
    have hpair2 : Pair (envOf ls) (wl ls) (InRs rs) (pr.2, pr.1) := by
      obtain ⟨c, d, h1, h2, h3, h4, h5⟩ := hpair
      exact ⟨d, c, h2, h1, h4, h3, h5.symm⟩
    refine ⟨_, rfl, _, rfl, _, rfl, pr, dm, rs, envOf ls, wl ls, rfl, L17.maps, hpair, fun H18 s18 => ⟨_, rfl, ?_⟩⟩
    have L18 := L17.same s18
    refine iteF ⟨_, rfl, _, rfl, _, rfl, (pr.2, pr.1), dm, rs, envOf ls, wl ls, rfl, L18.maps, hpair2, fun H19 s19 => ⟨_, rfl, ?_⟩⟩
    have L19 := L18.same s19
    -- a text that tells another map
    refine iteF ⟨_, rfl, _, rfl, st, sl, ns, 4, rfl, L19.i, by decide, by decide, fun d6 H20 hd6 s20 i20 => ?_⟩
    have L20 := L19.x s20 i20
    refine ⟨(by show 3 ≤ sizeLine; decide), fun q6 hq6 => ?_⟩
    have s21 := same_new hq6 (.lst [.str "low", .str "high", .str ""])
    have L21 := L20.same s21
    have hq6st := L20.i.fresh hq6
    refine ⟨_, rfl, st, sl, ns, 3, rfl, L21.i, by decide, by decide, fun d7 H22 hd7 s22 i22 => ?_⟩
    have L22 := L21.x s22 i22
    have hq622 := s22.new hq6st (show _ = some (.lst [.str "low", .str "high", .str ""]) from upd_same)
    have hpick : atI [V.str "low", .str "high", .str ""] (d7 : Int) = some (.str (halfS d7)) := by
      have hc : d7 = 0 ∨ d7 = 1 ∨ d7 = 2 := by omega
      rcases hc with rfl | rfl | rfl <;> rfl
    refine ⟨q6, _, _, _, rfl, rfl, SqL.of hq622, hpick, _, rfl, C.ofEx e2, d6, d7, dm, rs, envOf ls, wl ls, rfl, hd6, L22.maps, p2, fun H23 s23 => ⟨_, rfl, ?_⟩⟩
    have L23 := L22.same s23
    refine iteF ?_
    -- the plain form
    have hDst : D ≠ st := nDst
    have hD23 : H23 D = some (.lst [y1, y2, y3]) := by
      have h8 := s8.new nDst hDx
      have h10 := s10.new nDst (s9.new nDst h8)
      have h14 := s14.new nDst (s13 _ _ (s12 _ _ (s11 _ _ h10)))
      have h17 := s17.new nDst (s16 _ _ (s15 _ _ h14))
      have h20 := s20.new nDst (s19 _ _ (s18 _ _ h17))
      exact s23 _ _ (s22.new nDst (s21 _ _ h20))
    have tk23 : Tk H6 H23 := by
      have t8 := s7.tk.trans (L7.i.tk s8)
      have t10 := (t8.trans (i8.tk s9)).trans (i9.tk s10)
      have t14 := (((t10.trans s11.tk).trans s12.tk).trans s13.tk).trans (L13.i.tk s14)
      have t17 := ((t14.trans s15.tk).trans s16.tk).trans (L16.i.tk s17)
      have t20 := ((t17.trans s18.tk).trans s19.tk).trans (L19.i.tk s20)
      exact ((t20.trans s21.tk).trans (L21.i.tk s22)).trans s23.tk
    have he23 := he1.mono tk23
    have hf1 := hl1.fill pls
    have hdp := hl1.deep
    have hwt := hl1.wt
    refine ⟨_, rfl, D, _, _, _, rfl, rfl, SqL.of hD23, rfl, _, rfl, y1, e1, dn, lget ls, InL ls, rfl, he23, L23.k.lsd.pl, hl1.names, by omega, fun r H24 s24 hr24 => ?_⟩
    have L24 := L23.same s24
    have he24 := he23.mono s24.tk
    have hD24 := s24 _ _ hD23
    have nil0 : (e1.fill (lget ls)).NamesIn (InRs []) := Ex.NamesIn.mono (fun _ h => h.elim) hf1.2.1
    have okn0 : (e1.fill (lget ls)).NamesIn Okn := Ex.NamesIn.mono (fun _ h => h.elim) hf1.2.1
    have nilok : RsOk (fun _ => G.one) (fun _ => 0) [] := fun x m h => (nomatch h)
    have nilfine : RsFine [] := ⟨.nil, by decide⟩
    have wt0 : (e1.fill (lget ls)).wt (fun _ => 0) ≤ 60 := by rw [hf1.2.2.2.1]; omega
    have dp0 : (e1.fill (lget ls)).deep ≤ 20 := by have := hf1.2.2.1; omega
    refine ⟨_, rfl, fun z0 hz0 => ?_⟩
    have s25 := same_new hz0 (.dK [])
    have L25 := L24.same s25
    refine ⟨r, _, z0, [], fun _ => G.one, fun _ => 0, rfl, hr24.mono s25.tk, ⟨[], upd_same, .nil⟩, nilfine, nilok, nil0, hf1.1, wt0, dp0, fun v1 m1 H26 s26 im1 dm1 lm1 => ?_⟩
    have L26 := L25.same s26
    refine ⟨_, rfl, D, _, _, _, rfl, rfl, SqL.of (s26 _ _ (s25 _ _ hD24)), rfl, _, rfl, y1, e1, dm, rs, envOf ls, wl ls, rfl, (he24.mono s25.tk).mono s26.tk, L26.k.nsd, L26.k.fine, L26.k.ok, Ex.NamesIn.mono inls hl1.names, hl1.small, by omega, by omega, fun v2 m2 H27 s27 im2 dm2 lm2 => ?_⟩
    have L27 := L26.same s27
    have em12 : m1 = m2 := dm1.ext (by rw [hf1.2.2.2.2]; exact dm2)
    refine ⟨mD m1, mD m2, (im1.mono s27.tk).dp, im2.dp, m_shaped dm1 lm1 wt0, m_shaped dm2 lm2 (by omega), _, rfl, ?_⟩
    rw [mD_eqv, decide_eq_true em12]
    refine iteF ?_
    -- the plain form as a program of one row
    have hr27 := ((hr24.mono s25.tk).mono s26.tk).mono s27.tk
    have lt0 := exT_len okn0 (by have := hf1.2.2.1; omega)
    have hcok : (C.ofEx (e1.fill (lget ls))).ok := C.ofEx_ok hf1.1 okn0
    have hcex : (C.ofEx (e1.fill (lget ls))).ex = e1.fill (lget ls) := C.ofEx_ex _
    have hcn := C.ofEx_nest (e1.fill (lget ls))
    have hcl : (C.ofEx (e1.fill (lget ls))).txt.length ≤ 900 := by
      have h1 := txt_length okn0
      have h2 : 2 ^ (e1.fill (lget ls)).deep ≤ 2 ^ 7 := Nat.pow_le_pow_right (by decide) hf1.2.2.1
      omega
    have hd7' := hf1.2.2.1
    have exhx : Str.ofString "x = " ++ exT (e1.fill (lget ls)) = mk (hx ++ (C.ofEx (e1.fill (lget ls))).txt) := by
      rw [show Str.ofString "x = " = mk hx by decide +kernel]
      unfold exT
      rw [mk_append]
    refine ⟨_, rfl, r, _, rfl, hr27, hf1.1, okn0, by omega, by omega, fun H28 s28 => ?_⟩
    refine ⟨_, _, rfl, rfl, line1000 (by show 4 + (exT (e1.fill (lget ls))).length ≤ 10000; omega), ?_⟩
    refine ⟨C.ofEx (e1.fill (lget ls)), ?_, hcok, by omega, by omega, C.no10 hcok, fun ap tp up H29 s29 hap htp hup => ?_⟩
    · rw [exhx]; rfl
    have L29 := (L27.same s28).same s29
    refine ⟨ap, tp, up, _, fun _ => G.one, fun _ => 0, rfl, hap, htp, hup, by rw [hcex]; exact nil0, by rw [hcex]; exact hf1.1, by rw [hcex]; exact wt0, by rw [hcex]; exact dp0, fun pm rm mm H30 s30 hpm30 im30 dm30 => ?_⟩
    have L30 := L29.same s30
    have hr30 := ((hr27.mono s28.tk).mono s29.tk).mono s30.tk
    refine fun dd hdd => ?_
    have s31 := same_new hdd (.dK [])
    have L31 := L30.same s31
    refine ⟨_, rfl, r, _, rfl, hr30.mono s31.tk, hf1.1, okn0, by omega, by omega, fun H32 s32 => ?_⟩
    refine ⟨(C.ofEx (e1.fill (lget ls))).txt, C.ofEx (e1.fill (lget ls)), rfl, pc_all hcok, hcok, by omega, by omega, fun r33 H33 s33 he33 => ?_⟩
    refine fun z1 hz1 => ?_
    have s34 := same_new hz1 (.dK [])
    refine ⟨r33, _, z1, [], fun _ => G.one, fun _ => 0, rfl, he33.mono s34.tk, ⟨[], upd_same, .nil⟩, nilfine, nilok, by rw [hcex]; exact nil0, by rw [hcex]; exact hf1.1, by rw [hcex]; exact wt0, by rw [hcex]; exact dp0, fun v3 m3 H35 s35 im3 dm3 lm3 => ?_⟩
    have s3135 := s32.trans (s33.trans (s34.trans s35))
    have L35 := L31.same s3135
    have hdd35 : H35 dd = some (.dK []) := s3135 _ _ upd_same
    refine ⟨hdd35, [(.inr "x", v3)], rfl, Nat.le_of_ble_eq_true rfl, ?_⟩
    have s36 : Same H30 (upd H35 dd (.dK (mergeK [] [(Sum.inr "x", v3)]))) := (s31.trans s3135).ext hdd
    have tk36 := tk_dK hdd35 (.dK (mergeK [] [(Sum.inr "x", v3)]))
    have em : mm = m3 := dm30.ext dm3
    refine ⟨pm, dd, .inr "x", rm, v3, mD mm, mD m3, rfl, rfl, s36 _ _ hpm30, upd_same, (im30.mono s36.tk).dp, (im3.mono tk36).dp, ?_, m_shaped dm3 lm3 (by rw [hcex]; exact wt0), _, rfl, ?_⟩
    · rw [em]; exact m_shaped dm3 lm3 (by rw [hcex]; exact wt0)
    rw [mD_eqv, decide_eq_true em]
    refine iteF ⟨⟨_, _, _, _, _, _, _, _, _, _, _, _, _, rfl⟩, L30.same s36⟩
  · intro σ' H' hP
    exact q H'
end
end Hw
set_option maxHeartbeats 1000000
/-! Halvewright: all defs joined. -/
namespace Hw
open PySem L2
theorem defAt_mk {K : PySem.W.Frag} {h : Heap} {mg : Str → Option Value} {x : Str} {st : Stmt} {ps : List Str} {f : Addr} {oc : Value} {od an : Option Addr} {osl : Array (Option Value)} {kV doc pm cdv ct : Value} (X : K.In h) (G : h.Ns mainGlobals mg)
    (a : PySem.W.nsIn K mainGlobals x = some (some (.ref f))) (l : K.lookup f = some ⟨oc, od, .func (PySem.W.fnOf x x (defArgs st) (defBody st) (defScope st) .none kV doc pm an cdv ct), osl⟩) (c : PySem.W.codeIn K cdv x = true) (k : PySem.W.keepIn K (.ref f) = true)
    (b : ∀ (kV doc pm : Value) (an : Option Addr) (cdv ct : Value) (us : List Value), us.length = ps.length → bindArgs (PySem.W.fnOf x x (defArgs st) (defBody st) (defScope st) .none kV doc pm an cdv ct) ⟨us, []⟩ = pure (ps.zip us)) : DefAt K mg x st ps :=
  have F := fun_mk (st := st) l c k
  ⟨f, _, F, PySem.W.mg_of X G a, F.binds b⟩
theorem b_is_name (kV doc pm : Value) (an : Option Addr) (cdv ct : Value) (us : List Value) (hl : us.length = P_is_name.length) : bindArgs (PySem.W.fnOf "is_name" "is_name" (defArgs s_is_name) (defBody s_is_name) (defScope s_is_name) .none kV doc pm an cdv ct) ⟨us, []⟩ = pure (P_is_name.zip us) := match us, hl with | [_], _ => rfl
theorem b_is_number (kV doc pm : Value) (an : Option Addr) (cdv ct : Value) (us : List Value) (hl : us.length = P_is_number.length) : bindArgs (PySem.W.fnOf "is_number" "is_number" (defArgs s_is_number) (defBody s_is_number) (defScope s_is_number) .none kV doc pm an cdv ct) ⟨us, []⟩ = pure (P_is_number.zip us) := match us, hl with | [_], _ => rfl
theorem b_run_end (kV doc pm : Value) (an : Option Addr) (cdv ct : Value) (us : List Value) (hl : us.length = P_run_end.length) : bindArgs (PySem.W.fnOf "run_end" "run_end" (defArgs s_run_end) (defBody s_run_end) (defScope s_run_end) .none kV doc pm an cdv ct) ⟨us, []⟩ = pure (P_run_end.zip us) := match us, hl with | [_, _, _], _ => rfl
theorem b_power_end (kV doc pm : Value) (an : Option Addr) (cdv ct : Value) (us : List Value) (hl : us.length = P_power_end.length) : bindArgs (PySem.W.fnOf "power_end" "power_end" (defArgs s_power_end) (defBody s_power_end) (defScope s_power_end) .none kV doc pm an cdv ct) ⟨us, []⟩ = pure (P_power_end.zip us) := match us, hl with | [_, _], _ => rfl
theorem b_pieces_of (kV doc pm : Value) (an : Option Addr) (cdv ct : Value) (us : List Value) (hl : us.length = P_pieces_of.length) : bindArgs (PySem.W.fnOf "pieces_of" "pieces_of" (defArgs s_pieces_of) (defBody s_pieces_of) (defScope s_pieces_of) .none kV doc pm an cdv ct) ⟨us, []⟩ = pure (P_pieces_of.zip us) := match us, hl with | [_], _ => rfl
theorem b_word_of (kV doc pm : Value) (an : Option Addr) (cdv ct : Value) (us : List Value) (hl : us.length = P_word_of.length) : bindArgs (PySem.W.fnOf "word_of" "word_of" (defArgs s_word_of) (defBody s_word_of) (defScope s_word_of) .none kV doc pm an cdv ct) ⟨us, []⟩ = pure (P_word_of.zip us) := match us, hl with | [_], _ => rfl
theorem b_past (kV doc pm : Value) (an : Option Addr) (cdv ct : Value) (us : List Value) (hl : us.length = P_past.length) : bindArgs (PySem.W.fnOf "past" "past" (defArgs s_past) (defBody s_past) (defScope s_past) .none kV doc pm an cdv ct) ⟨us, []⟩ = pure (P_past.zip us) := match us, hl with | [_, _, _], _ => rfl
theorem b_bracket (kV doc pm : Value) (an : Option Addr) (cdv ct : Value) (us : List Value) (hl : us.length = P_bracket.length) : bindArgs (PySem.W.fnOf "bracket" "bracket" (defArgs s_bracket) (defBody s_bracket) (defScope s_bracket) .none kV doc pm an cdv ct) ⟨us, []⟩ = pure (P_bracket.zip us) := match us, hl with | [_, _], _ => rfl
theorem b_part (kV doc pm : Value) (an : Option Addr) (cdv ct : Value) (us : List Value) (hl : us.length = P_part.length) : bindArgs (PySem.W.fnOf "part" "part" (defArgs s_part) (defBody s_part) (defScope s_part) .none kV doc pm an cdv ct) ⟨us, []⟩ = pure (P_part.zip us) := match us, hl with | [_, _], _ => rfl
theorem b_chain (kV doc pm : Value) (an : Option Addr) (cdv ct : Value) (us : List Value) (hl : us.length = P_chain.length) : bindArgs (PySem.W.fnOf "chain" "chain" (defArgs s_chain) (defBody s_chain) (defScope s_chain) .none kV doc pm an cdv ct) ⟨us, []⟩ = pure (P_chain.zip us) := match us, hl with | [_, _], _ => rfl
theorem b_read_expr (kV doc pm : Value) (an : Option Addr) (cdv ct : Value) (us : List Value) (hl : us.length = P_read_expr.length) : bindArgs (PySem.W.fnOf "read_expr" "read_expr" (defArgs s_read_expr) (defBody s_read_expr) (defScope s_read_expr) .none kV doc pm an cdv ct) ⟨us, []⟩ = pure (P_read_expr.zip us) := match us, hl with | [_], _ => rfl
theorem b_tree_of (kV doc pm : Value) (an : Option Addr) (cdv ct : Value) (us : List Value) (hl : us.length = P_tree_of.length) : bindArgs (PySem.W.fnOf "tree_of" "tree_of" (defArgs s_tree_of) (defBody s_tree_of) (defScope s_tree_of) .none kV doc pm an cdv ct) ⟨us, []⟩ = pure (P_tree_of.zip us) := match us, hl with | [_], _ => rfl
theorem b_leaves (kV doc pm : Value) (an : Option Addr) (cdv ct : Value) (us : List Value) (hl : us.length = P_leaves.length) : bindArgs (PySem.W.fnOf "leaves" "leaves" (defArgs s_leaves) (defBody s_leaves) (defScope s_leaves) .none kV doc pm an cdv ct) ⟨us, []⟩ = pure (P_leaves.zip us) := match us, hl with | [_], _ => rfl
theorem b_both (kV doc pm : Value) (an : Option Addr) (cdv ct : Value) (us : List Value) (hl : us.length = P_both.length) : bindArgs (PySem.W.fnOf "both" "both" (defArgs s_both) (defBody s_both) (defScope s_both) .none kV doc pm an cdv ct) ⟨us, []⟩ = pure (P_both.zip us) := match us, hl with | [_, _], _ => rfl
theorem b_paths_into (kV doc pm : Value) (an : Option Addr) (cdv ct : Value) (us : List Value) (hl : us.length = P_paths_into.length) : bindArgs (PySem.W.fnOf "paths_into" "paths_into" (defArgs s_paths_into) (defBody s_paths_into) (defScope s_paths_into) .none kV doc pm an cdv ct) ⟨us, []⟩ = pure (P_paths_into.zip us) := match us, hl with | [_, _, _], _ => rfl
theorem b_paths (kV doc pm : Value) (an : Option Addr) (cdv ct : Value) (us : List Value) (hl : us.length = P_paths.length) : bindArgs (PySem.W.fnOf "paths" "paths" (defArgs s_paths) (defBody s_paths) (defScope s_paths) .none kV doc pm an cdv ct) ⟨us, []⟩ = pure (P_paths.zip us) := match us, hl with | [_], _ => rfl
theorem b_are_halves (kV doc pm : Value) (an : Option Addr) (cdv ct : Value) (us : List Value) (hl : us.length = P_are_halves.length) : bindArgs (PySem.W.fnOf "are_halves" "are_halves" (defArgs s_are_halves) (defBody s_are_halves) (defScope s_are_halves) .none kV doc pm an cdv ct) ⟨us, []⟩ = pure (P_are_halves.zip us) := match us, hl with | [_, _], _ => rfl
theorem b_trimmed (kV doc pm : Value) (an : Option Addr) (cdv ct : Value) (us : List Value) (hl : us.length = P_trimmed.length) : bindArgs (PySem.W.fnOf "trimmed" "trimmed" (defArgs s_trimmed) (defBody s_trimmed) (defScope s_trimmed) .none kV doc pm an cdv ct) ⟨us, []⟩ = pure (P_trimmed.zip us) := match us, hl with | [_], _ => rfl
theorem b_excess_into (kV doc pm : Value) (an : Option Addr) (cdv ct : Value) (us : List Value) (hl : us.length = P_excess_into.length) : bindArgs (PySem.W.fnOf "excess_into" "excess_into" (defArgs s_excess_into) (defBody s_excess_into) (defScope s_excess_into) .none kV doc pm an cdv ct) ⟨us, []⟩ = pure (P_excess_into.zip us) := match us, hl with | [_, _, _], _ => rfl
theorem b_excess (kV doc pm : Value) (an : Option Addr) (cdv ct : Value) (us : List Value) (hl : us.length = P_excess.length) : bindArgs (PySem.W.fnOf "excess" "excess" (defArgs s_excess) (defBody s_excess) (defScope s_excess) .none kV doc pm an cdv ct) ⟨us, []⟩ = pure (P_excess.zip us) := match us, hl with | [_, _], _ => rfl
theorem b_hung_on (kV doc pm : Value) (an : Option Addr) (cdv ct : Value) (us : List Value) (hl : us.length = P_hung_on.length) : bindArgs (PySem.W.fnOf "hung_on" "hung_on" (defArgs s_hung_on) (defBody s_hung_on) (defScope s_hung_on) .none kV doc pm an cdv ct) ⟨us, []⟩ = pure (P_hung_on.zip us) := match us, hl with | [_, _], _ => rfl
theorem b_hung (kV doc pm : Value) (an : Option Addr) (cdv ct : Value) (us : List Value) (hl : us.length = P_hung.length) : bindArgs (PySem.W.fnOf "hung" "hung" (defArgs s_hung) (defBody s_hung) (defScope s_hung) .none kV doc pm an cdv ct) ⟨us, []⟩ = pure (P_hung.zip us) := match us, hl with | [_, _], _ => rfl
theorem b_then (kV doc pm : Value) (an : Option Addr) (cdv ct : Value) (us : List Value) (hl : us.length = P_then.length) : bindArgs (PySem.W.fnOf "then" "then" (defArgs s_then) (defBody s_then) (defScope s_then) .none kV doc pm an cdv ct) ⟨us, []⟩ = pure (P_then.zip us) := match us, hl with | [_, _], _ => rfl
theorem b_back (kV doc pm : Value) (an : Option Addr) (cdv ct : Value) (us : List Value) (hl : us.length = P_back.length) : bindArgs (PySem.W.fnOf "back" "back" (defArgs s_back) (defBody s_back) (defScope s_back) .none kV doc pm an cdv ct) ⟨us, []⟩ = pure (P_back.zip us) := match us, hl with | [_], _ => rfl
theorem b_power (kV doc pm : Value) (an : Option Addr) (cdv ct : Value) (us : List Value) (hl : us.length = P_power.length) : bindArgs (PySem.W.fnOf "power" "power" (defArgs s_power) (defBody s_power) (defScope s_power) .none kV doc pm an cdv ct) ⟨us, []⟩ = pure (P_power.zip us) := match us, hl with | [_, _], _ => rfl
theorem b_low (kV doc pm : Value) (an : Option Addr) (cdv ct : Value) (us : List Value) (hl : us.length = P_low.length) : bindArgs (PySem.W.fnOf "low" "low" (defArgs s_low) (defBody s_low) (defScope s_low) .none kV doc pm an cdv ct) ⟨us, []⟩ = pure (P_low.zip us) := match us, hl with | [_], _ => rfl
theorem b_high (kV doc pm : Value) (an : Option Addr) (cdv ct : Value) (us : List Value) (hl : us.length = P_high.length) : bindArgs (PySem.W.fnOf "high" "high" (defArgs s_high) (defBody s_high) (defScope s_high) .none kV doc pm an cdv ct) ⟨us, []⟩ = pure (P_high.zip us) := match us, hl with | [_], _ => rfl
theorem b_numbered (kV doc pm : Value) (an : Option Addr) (cdv ct : Value) (us : List Value) (hl : us.length = P_numbered.length) : bindArgs (PySem.W.fnOf "numbered" "numbered" (defArgs s_numbered) (defBody s_numbered) (defScope s_numbered) .none kV doc pm an cdv ct) ⟨us, []⟩ = pure (P_numbered.zip us) := match us, hl with | [_], _ => rfl
theorem b_read_row (kV doc pm : Value) (an : Option Addr) (cdv ct : Value) (us : List Value) (hl : us.length = P_read_row.length) : bindArgs (PySem.W.fnOf "read_row" "read_row" (defArgs s_read_row) (defBody s_read_row) (defScope s_read_row) .none kV doc pm an cdv ct) ⟨us, []⟩ = pure (P_read_row.zip us) := match us, hl with | [_], _ => rfl
theorem b_read_program (kV doc pm : Value) (an : Option Addr) (cdv ct : Value) (us : List Value) (hl : us.length = P_read_program.length) : bindArgs (PySem.W.fnOf "read_program" "read_program" (defArgs s_read_program) (defBody s_read_program) (defScope s_read_program) .none kV doc pm an cdv ct) ⟨us, []⟩ = pure (P_read_program.zip us) := match us, hl with | [_], _ => rfl
theorem b_parts_of (kV doc pm : Value) (an : Option Addr) (cdv ct : Value) (us : List Value) (hl : us.length = P_parts_of.length) : bindArgs (PySem.W.fnOf "parts_of" "parts_of" (defArgs s_parts_of) (defBody s_parts_of) (defScope s_parts_of) .none kV doc pm an cdv ct) ⟨us, []⟩ = pure (P_parts_of.zip us) := match us, hl with | [_], _ => rfl
theorem b_lacking (kV doc pm : Value) (an : Option Addr) (cdv ct : Value) (us : List Value) (hl : us.length = P_lacking.length) : bindArgs (PySem.W.fnOf "lacking" "lacking" (defArgs s_lacking) (defBody s_lacking) (defScope s_lacking) .none kV doc pm an cdv ct) ⟨us, []⟩ = pure (P_lacking.zip us) := match us, hl with | [_, _], _ => rfl
theorem b_weight (kV doc pm : Value) (an : Option Addr) (cdv ct : Value) (us : List Value) (hl : us.length = P_weight.length) : bindArgs (PySem.W.fnOf "weight" "weight" (defArgs s_weight) (defBody s_weight) (defScope s_weight) .none kV doc pm an cdv ct) ⟨us, []⟩ = pure (P_weight.zip us) := match us, hl with | [_, _], _ => rfl
theorem b_joined (kV doc pm : Value) (an : Option Addr) (cdv ct : Value) (us : List Value) (hl : us.length = P_joined.length) : bindArgs (PySem.W.fnOf "joined" "joined" (defArgs s_joined) (defBody s_joined) (defScope s_joined) .none kV doc pm an cdv ct) ⟨us, []⟩ = pure (P_joined.zip us) := match us, hl with | [_, _, _], _ => rfl
theorem b_value (kV doc pm : Value) (an : Option Addr) (cdv ct : Value) (us : List Value) (hl : us.length = P_value.length) : bindArgs (PySem.W.fnOf "value" "value" (defArgs s_value) (defBody s_value) (defScope s_value) .none kV doc pm an cdv ct) ⟨us, []⟩ = pure (P_value.zip us) := match us, hl with | [_, _], _ => rfl
theorem b_looked_at (kV doc pm : Value) (an : Option Addr) (cdv ct : Value) (us : List Value) (hl : us.length = P_looked_at.length) : bindArgs (PySem.W.fnOf "looked_at" "looked_at" (defArgs s_looked_at) (defBody s_looked_at) (defScope s_looked_at) .none kV doc pm an cdv ct) ⟨us, []⟩ = pure (P_looked_at.zip us) := match us, hl with | [_, _, _], _ => rfl
theorem b_map_of (kV doc pm : Value) (an : Option Addr) (cdv ct : Value) (us : List Value) (hl : us.length = P_map_of.length) : bindArgs (PySem.W.fnOf "map_of" "map_of" (defArgs s_map_of) (defBody s_map_of) (defScope s_map_of) .none kV doc pm an cdv ct) ⟨us, []⟩ = pure (P_map_of.zip us) := match us, hl with | [_, _], _ => rfl
theorem b_maps_of (kV doc pm : Value) (an : Option Addr) (cdv ct : Value) (us : List Value) (hl : us.length = P_maps_of.length) : bindArgs (PySem.W.fnOf "maps_of" "maps_of" (defArgs s_maps_of) (defBody s_maps_of) (defScope s_maps_of) .none kV doc pm an cdv ct) ⟨us, []⟩ = pure (P_maps_of.zip us) := match us, hl with | [_], _ => rfl
theorem b__law_draw (kV doc pm : Value) (an : Option Addr) (cdv ct : Value) (us : List Value) (hl : us.length = P__law_draw.length) : bindArgs (PySem.W.fnOf "_law_draw" "_law_draw" (defArgs s__law_draw) (defBody s__law_draw) (defScope s__law_draw) .none kV doc pm an cdv ct) ⟨us, []⟩ = pure (P__law_draw.zip us) := match us, hl with | [_, _], _ => rfl
theorem b__law_name (kV doc pm : Value) (an : Option Addr) (cdv ct : Value) (us : List Value) (hl : us.length = P__law_name.length) : bindArgs (PySem.W.fnOf "_law_name" "_law_name" (defArgs s__law_name) (defBody s__law_name) (defScope s__law_name) .none kV doc pm an cdv ct) ⟨us, []⟩ = pure (P__law_name.zip us) := match us, hl with | [_], _ => rfl
theorem b__law_leaf (kV doc pm : Value) (an : Option Addr) (cdv ct : Value) (us : List Value) (hl : us.length = P__law_leaf.length) : bindArgs (PySem.W.fnOf "_law_leaf" "_law_leaf" (defArgs s__law_leaf) (defBody s__law_leaf) (defScope s__law_leaf) .none kV doc pm an cdv ct) ⟨us, []⟩ = pure (P__law_leaf.zip us) := match us, hl with | [_, _], _ => rfl
theorem b__law_expr (kV doc pm : Value) (an : Option Addr) (cdv ct : Value) (us : List Value) (hl : us.length = P__law_expr.length) : bindArgs (PySem.W.fnOf "_law_expr" "_law_expr" (defArgs s__law_expr) (defBody s__law_expr) (defScope s__law_expr) .none kV doc pm an cdv ct) ⟨us, []⟩ = pure (P__law_expr.zip us) := match us, hl with | [_, _, _, _], _ => rfl
theorem b__law_held (kV doc pm : Value) (an : Option Addr) (cdv ct : Value) (us : List Value) (hl : us.length = P__law_held.length) : bindArgs (PySem.W.fnOf "_law_held" "_law_held" (defArgs s__law_held) (defBody s__law_held) (defScope s__law_held) .none kV doc pm an cdv ct) ⟨us, []⟩ = pure (P__law_held.zip us) := match us, hl with | [_], _ => rfl
theorem b__law_text (kV doc pm : Value) (an : Option Addr) (cdv ct : Value) (us : List Value) (hl : us.length = P__law_text.length) : bindArgs (PySem.W.fnOf "_law_text" "_law_text" (defArgs s__law_text) (defBody s__law_text) (defScope s__law_text) .none kV doc pm an cdv ct) ⟨us, []⟩ = pure (P__law_text.zip us) := match us, hl with | [_], _ => rfl
theorem b__law_weight (kV doc pm : Value) (an : Option Addr) (cdv ct : Value) (us : List Value) (hl : us.length = P__law_weight.length) : bindArgs (PySem.W.fnOf "_law_weight" "_law_weight" (defArgs s__law_weight) (defBody s__law_weight) (defScope s__law_weight) .none kV doc pm an cdv ct) ⟨us, []⟩ = pure (P__law_weight.zip us) := match us, hl with | [_, _], _ => rfl
theorem b__law_rules_of_backs (kV doc pm : Value) (an : Option Addr) (cdv ct : Value) (us : List Value) (hl : us.length = P__law_rules_of_backs.length) : bindArgs (PySem.W.fnOf "_law_rules_of_backs" "_law_rules_of_backs" (defArgs s__law_rules_of_backs) (defBody s__law_rules_of_backs) (defScope s__law_rules_of_backs) .none kV doc pm an cdv ct) ⟨us, []⟩ = pure (P__law_rules_of_backs.zip us) := match us, hl with | [_, _, _, _, _], _ => rfl
theorem b__law_rules_of_as (kV doc pm : Value) (an : Option Addr) (cdv ct : Value) (us : List Value) (hl : us.length = P__law_rules_of_as.length) : bindArgs (PySem.W.fnOf "_law_rules_of_as" "_law_rules_of_as" (defArgs s__law_rules_of_as) (defBody s__law_rules_of_as) (defScope s__law_rules_of_as) .none kV doc pm an cdv ct) ⟨us, []⟩ = pure (P__law_rules_of_as.zip us) := match us, hl with | [_, _, _, _, _], _ => rfl
theorem b__law_rules_of_halves (kV doc pm : Value) (an : Option Addr) (cdv ct : Value) (us : List Value) (hl : us.length = P__law_rules_of_halves.length) : bindArgs (PySem.W.fnOf "_law_rules_of_halves" "_law_rules_of_halves" (defArgs s__law_rules_of_halves) (defBody s__law_rules_of_halves) (defScope s__law_rules_of_halves) .none kV doc pm an cdv ct) ⟨us, []⟩ = pure (P__law_rules_of_halves.zip us) := match us, hl with | [_, _, _, _, _], _ => rfl
theorem b__law_filled_in (kV doc pm : Value) (an : Option Addr) (cdv ct : Value) (us : List Value) (hl : us.length = P__law_filled_in.length) : bindArgs (PySem.W.fnOf "_law_filled_in" "_law_filled_in" (defArgs s__law_filled_in) (defBody s__law_filled_in) (defScope s__law_filled_in) .none kV doc pm an cdv ct) ⟨us, []⟩ = pure (P__law_filled_in.zip us) := match us, hl with | [_, _], _ => rfl
theorem b__law_size (kV doc pm : Value) (an : Option Addr) (cdv ct : Value) (us : List Value) (hl : us.length = P__law_size.length) : bindArgs (PySem.W.fnOf "_law_size" "_law_size" (defArgs s__law_size) (defBody s__law_size) (defScope s__law_size) .none kV doc pm an cdv ct) ⟨us, []⟩ = pure (P__law_size.zip us) := match us, hl with | [_], _ => rfl
theorem b__law_light (kV doc pm : Value) (an : Option Addr) (cdv ct : Value) (us : List Value) (hl : us.length = P__law_light.length) : bindArgs (PySem.W.fnOf "_law_light" "_law_light" (defArgs s__law_light) (defBody s__law_light) (defScope s__law_light) .none kV doc pm an cdv ct) ⟨us, []⟩ = pure (P__law_light.zip us) := match us, hl with | [_, _, _], _ => rfl
theorem b__law_names_kept (kV doc pm : Value) (an : Option Addr) (cdv ct : Value) (us : List Value) (hl : us.length = P__law_names_kept.length) : bindArgs (PySem.W.fnOf "_law_names_kept" "_law_names_kept" (defArgs s__law_names_kept) (defBody s__law_names_kept) (defScope s__law_names_kept) .none kV doc pm an cdv ct) ⟨us, []⟩ = pure (P__law_names_kept.zip us) := match us, hl with | [_, _], _ => rfl
theorem b__law_same (kV doc pm : Value) (an : Option Addr) (cdv ct : Value) (us : List Value) (hl : us.length = P__law_same.length) : bindArgs (PySem.W.fnOf "_law_same" "_law_same" (defArgs s__law_same) (defBody s__law_same) (defScope s__law_same) .none kV doc pm an cdv ct) ⟨us, []⟩ = pure (P__law_same.zip us) := match us, hl with | [_, _, _], _ => rfl
theorem b__law_unlike (kV doc pm : Value) (an : Option Addr) (cdv ct : Value) (us : List Value) (hl : us.length = P__law_unlike.length) : bindArgs (PySem.W.fnOf "_law_unlike" "_law_unlike" (defArgs s__law_unlike) (defBody s__law_unlike) (defScope s__law_unlike) .none kV doc pm an cdv ct) ⟨us, []⟩ = pure (P__law_unlike.zip us) := match us, hl with | [_, _, _, _], _ => rfl
/-- every def stands as its text says -/
structure Defs (K : PySem.W.Frag) (mg : Str → Option Value) : Prop where
  d_is_name : DefAt K mg "is_name" s_is_name P_is_name
  d_is_number : DefAt K mg "is_number" s_is_number P_is_number
  d_run_end : DefAt K mg "run_end" s_run_end P_run_end
  d_power_end : DefAt K mg "power_end" s_power_end P_power_end
  d_pieces_of : DefAt K mg "pieces_of" s_pieces_of P_pieces_of
  d_word_of : DefAt K mg "word_of" s_word_of P_word_of
  d_past : DefAt K mg "past" s_past P_past
  d_bracket : DefAt K mg "bracket" s_bracket P_bracket
  d_part : DefAt K mg "part" s_part P_part
  d_chain : DefAt K mg "chain" s_chain P_chain
  d_read_expr : DefAt K mg "read_expr" s_read_expr P_read_expr
  d_tree_of : DefAt K mg "tree_of" s_tree_of P_tree_of
  d_leaves : DefAt K mg "leaves" s_leaves P_leaves
  d_both : DefAt K mg "both" s_both P_both
  d_paths_into : DefAt K mg "paths_into" s_paths_into P_paths_into
  d_paths : DefAt K mg "paths" s_paths P_paths
  d_are_halves : DefAt K mg "are_halves" s_are_halves P_are_halves
  d_trimmed : DefAt K mg "trimmed" s_trimmed P_trimmed
  d_excess_into : DefAt K mg "excess_into" s_excess_into P_excess_into
  d_excess : DefAt K mg "excess" s_excess P_excess
  d_hung_on : DefAt K mg "hung_on" s_hung_on P_hung_on
  d_hung : DefAt K mg "hung" s_hung P_hung
  d_then : DefAt K mg "then" s_then P_then
  d_back : DefAt K mg "back" s_back P_back
  d_power : DefAt K mg "power" s_power P_power
  d_low : DefAt K mg "low" s_low P_low
  d_high : DefAt K mg "high" s_high P_high
  d_numbered : DefAt K mg "numbered" s_numbered P_numbered
  d_read_row : DefAt K mg "read_row" s_read_row P_read_row
  d_read_program : DefAt K mg "read_program" s_read_program P_read_program
  d_parts_of : DefAt K mg "parts_of" s_parts_of P_parts_of
  d_lacking : DefAt K mg "lacking" s_lacking P_lacking
  d_weight : DefAt K mg "weight" s_weight P_weight
  d_joined : DefAt K mg "joined" s_joined P_joined
  d_value : DefAt K mg "value" s_value P_value
  d_looked_at : DefAt K mg "looked_at" s_looked_at P_looked_at
  d_map_of : DefAt K mg "map_of" s_map_of P_map_of
  d_maps_of : DefAt K mg "maps_of" s_maps_of P_maps_of
  d__law_draw : DefAt K mg "_law_draw" s__law_draw P__law_draw
  d__law_name : DefAt K mg "_law_name" s__law_name P__law_name
  d__law_leaf : DefAt K mg "_law_leaf" s__law_leaf P__law_leaf
  d__law_expr : DefAt K mg "_law_expr" s__law_expr P__law_expr
  d__law_held : DefAt K mg "_law_held" s__law_held P__law_held
  d__law_text : DefAt K mg "_law_text" s__law_text P__law_text
  d__law_weight : DefAt K mg "_law_weight" s__law_weight P__law_weight
  d__law_rules_of_backs : DefAt K mg "_law_rules_of_backs" s__law_rules_of_backs P__law_rules_of_backs
  d__law_rules_of_as : DefAt K mg "_law_rules_of_as" s__law_rules_of_as P__law_rules_of_as
  d__law_rules_of_halves : DefAt K mg "_law_rules_of_halves" s__law_rules_of_halves P__law_rules_of_halves
  d__law_filled_in : DefAt K mg "_law_filled_in" s__law_filled_in P__law_filled_in
  d__law_size : DefAt K mg "_law_size" s__law_size P__law_size
  d__law_light : DefAt K mg "_law_light" s__law_light P__law_light
  d__law_names_kept : DefAt K mg "_law_names_kept" s__law_names_kept P__law_names_kept
  d__law_same : DefAt K mg "_law_same" s__law_same P__law_same
  d__law_unlike : DefAt K mg "_law_unlike" s__law_unlike P__law_unlike
theorem all_law {P : Program} {w : World} {K : PySem.W.Frag} {mg : Str → Option Value} {base : Heap} {f : Addr} {fd : FuncData} (S : Defs K mg) (B : Blt mg) (gl : Glb K mg) (F : Fun K "law" "law" s_law f fd) : FnOk P w K mg base CX0 99 f fd P_law (spLawT K) := by
  have leaves := cal_leaves (P := P) (w := w) (base := base) S.d_leaves 70
  have both := cal_both (P := P) (w := w) (base := base) S.d_both 70
  have paths_into := cal_paths_into (P := P) (w := w) (base := base) S.d_paths_into 70
  have paths := cal_paths S.d_paths paths_into
  have excess_into := cal_excess_into (P := P) (w := w) (base := base) S.d_excess_into 70
  have excess := cal_excess S.d_excess excess_into
  have hung_on := cal_hung_on (P := P) (w := w) (base := base) S.d_hung_on 70
  have hung := cal_hung B S.d_hung hung_on
  have are_halves := cal_are_halves (P := P) (w := w) (base := base) S.d_are_halves
  have tree_of := cal_tree_of (P := P) (w := w) (base := base) S.d_tree_of 70
  have trimmed := cal_trimmed B S.d_trimmed paths are_halves tree_of
  have then' := cal_then S.d_then both excess hung trimmed
  have back := cal_back S.d_back trimmed
  have low := cal_low S.d_low trimmed
  have high := cal_high S.d_high trimmed
  have numbered := cal_numbered B S.d_numbered high
  have power := cal_power B S.d_power then' back
  have is_name := cal_is_name (P := P) (w := w) (base := base) B gl S.d_is_name
  have is_number := cal_is_number (P := P) (w := w) (base := base) B gl S.d_is_number
  have run_end := cal_run_end (P := P) (w := w) (base := base) B S.d_run_end
  have power_end := cal_power_end B gl S.d_power_end run_end is_number
  have pieces_of := cal_pieces_of B gl S.d_pieces_of run_end power_end
  have word_of := cal_word_of B S.d_word_of is_name is_number
  have past := cal_past (P := P) (w := w) (base := base) B S.d_past
  have reads := cal_reads B S.d_bracket S.d_part S.d_chain past word_of 36
  have read_expr := cal_read_expr B S.d_read_expr pieces_of reads.2.2
  have parts_of := cal_parts_of (P := P) (w := w) (base := base) B S.d_parts_of
  have lacking := cal_lacking B S.d_lacking parts_of 20
  have weight := cal_weight B S.d_weight parts_of 20
  have joined := cal_joined S.d_joined then' back
  have value := cal_value B S.d_value parts_of numbered back power low high joined 20
  have looked_at := cal_looked_at B gl S.d_looked_at lacking leaves weight value
  have map_of := cal_map_of S.d_map_of looked_at
  have maps_of := cal_maps_of B S.d_maps_of looked_at
  have read_row := cal_read_row B S.d_read_row is_name read_expr
  have read_program := cal_read_program B S.d_read_program read_row
  have draw := cal__law_draw (P := P) (w := w) (base := base) B S.d__law_draw
  have name := cal__law_name B S.d__law_name draw
  have leaf := cal__law_leaf B S.d__law_leaf draw
  have expr := cal__law_expr B S.d__law_expr draw leaf 5
  have texts := cal_texts (P := P) (w := w) (base := base) B S.d__law_held S.d__law_text 8
  have wt := cal__law_weight (P := P) (w := w) (base := base) B S.d__law_weight 4
  have filled := cal__law_filled_in (P := P) (w := w) (base := base) B S.d__law_filled_in 8
  have size := cal__law_size (P := P) (w := w) (base := base) B S.d__law_size 8
  have light := cal__law_light B S.d__law_light draw expr wt
  have kept := cal__law_names_kept B S.d__law_names_kept draw name light filled size wt map_of
  have same := cal__law_same B S.d__law_same map_of read_expr
  have unlike := cal__law_unlike B S.d__law_unlike map_of read_expr
  have backs := cal__law_rules_of_backs (P := P) (w := w) (base := base) B S.d__law_rules_of_backs
  have rulesAs := cal__law_rules_of_as (P := P) (w := w) (base := base) B S.d__law_rules_of_as
  have halves := cal__law_rules_of_halves (P := P) (w := w) (base := base) B S.d__law_rules_of_halves
  exact ok_law B F draw kept light texts.1 backs rulesAs halves same unlike filled map_of maps_of read_program read_expr
theorem all_mk {l : PySem.W.OpenLaw} {w : World} {K : PySem.W.Frag} {h : Heap} {mg : Str → Option Value} {fa f : Addr} {oc : Value} {od an : Option Addr} {osl : Array (Option Value)} {kV doc pm cdv ct : Value} (X : K.In h) (G : h.Ns mainGlobals mg) (hfa : mg "law" = some (.ref fa))
    (a : PySem.W.nsIn K mainGlobals "law" = some (some (.ref f))) (l1 : K.lookup f = some ⟨oc, od, .func (PySem.W.fnOf "law" "law" (defArgs s_law) (defBody s_law) (defScope s_law) .none kV doc pm an cdv ct), osl⟩) (c : PySem.W.codeIn K cdv "law" = true) (k : PySem.W.keepIn K (.ref f) = true)
    (S : Defs K mg) (B : Blt mg) (gl : Glb K mg) :
    ∃ fd : FuncData, (∀ (s : Shared) (v : Value), BindsTo s fd ⟨[v], []⟩ [("_law_script", v)]) ∧ ∀ base : Heap, K.In base → base.Ns mainGlobals mg → FnOk l.prog w K mg base CX0 99 fa fd ["_law_script"] (spLawT K) := by
  have e := hfa.symm.trans (PySem.W.mg_of X G a)
  cases e
  have F := fun_mk (st := s_law) l1 c k
  exact ⟨_, fun s v => .of_eq rfl, fun base _ _ => all_law S B gl F⟩
theorem walk {l : PySem.W.OpenLaw} {q : Program} {loose : List Str} {XP : (Str → Option Value) → Heap → Prop} {YP : World → Heap → Prop} {d : DefRec} {K : Params → PySem.W.Frag} (hn : l.most = some 63) (hdf : d.params.defaults = [])
    (hY : ∀ (w : World) (h : Heap), YP w h → (K w.params).In h)
    (F : ∀ (w : World) (mg : Str → Option Value) (fa : Addr) (h : Heap), (K w.params).In h → h.Ns mainGlobals mg → mg d.name = some (.ref fa) →
      ∃ fd : FuncData, (∀ (s : Shared) (u : Value), BindsTo s fd ⟨[u], []⟩ [("_law_script", u)]) ∧ ∀ base : Heap, (K w.params).In base → base.Ns mainGlobals mg → FnOk l.prog w (K w.params) mg base CX0 99 fa fd ["_law_script"] (spLawT (K w.params))) :
    PySem.W.WalkO q loose XP YP l.row.toRowW d [] (fun f vs => PySem.call f vs) :=
  L2.walk_of (n := 63) (k := 99) (x := "_law_script") (CX := fun _ => CX0) (sp := fun w => spLawT (K w.params)) hn (by decide) hdf ⟨rfl, by decide, by decide⟩ hY F (fun _ _ a ns hl _ hS => ⟨a, ns, rfl, hS, hl, fun _ => rfl⟩) fun _ _ _ _ _ z => z
/-- the module's constants -/
theorem glb_mk {K : PySem.W.Frag} {h : Heap} {mg : Str → Option Value} {t1 t2 t3 : Tok} {a : Addr} {o : Obj} {its : Array Value} {n : Nat} (X : K.In h) (G : h.Ns mainGlobals mg)
    (g1 : PySem.W.nsIn K mainGlobals "SMALL" = some (some (.str "abcdefghijklmnopqrstuvwxyz" t1))) (g2 : PySem.W.nsIn K mainGlobals "FIGURES" = some (some (.str "0123456789" t2))) (g3 : PySem.W.nsIn K mainGlobals "MOST" = some (some (.int 99 t3)))
    (g4 : PySem.W.nsIn K mainGlobals "TAKEN" = some (some (.ref a))) (g5 : K.lookup a = some o) (g6 : o.cls = .type "tuple") (g8 : o.data = .seq its n) (g9 : its.size ≤ sizeLine) (g10 : Vals takenV its.toList) : Glb K mg :=
  ⟨⟨_, PySem.W.mg_of X G g1⟩, ⟨_, PySem.W.mg_of X G g2⟩, ⟨a, PySem.W.mg_of X G g4, fun H => .inr ⟨o, its, n, g5, g6, g8, g9, g10⟩⟩, ⟨_, PySem.W.mg_of X G g3⟩⟩
end Hw
set_option maxHeartbeats 200000
open PySem PySem.W PyProof.Rows
set_option maxRecDepth 100000 in
set_option maxHeartbeats 0 in
theorem PySem.Challenge.cw_halvewright_k81_whole_texts_that_tell_on_holds : PySem.Challenge.rw_halvewright_k81_whole_texts_that_tell_on.Holds := by
  w_on; o_law; k_head; (case hw => w_witness2)
  k_fill
  refine Hw.walk (l := PySem.Challenge.rw_halvewright_k81_whole_texts_that_tell_on) rfl rfl (fun w h Y => PySem.W.kIn_of Y) ?F
  case F =>
    intro w mg fa h KX G hmg
    refine' Hw.all_mk KX G hmg ?a ?l ?c ?k ⟨Hw.defAt_mk KX G ?a0 ?l0 ?c0 ?k0 Hw.b_is_name,
      Hw.defAt_mk KX G ?a1 ?l1 ?c1 ?k1 Hw.b_is_number,
      Hw.defAt_mk KX G ?a2 ?l2 ?c2 ?k2 Hw.b_run_end,
      Hw.defAt_mk KX G ?a3 ?l3 ?c3 ?k3 Hw.b_power_end,
      Hw.defAt_mk KX G ?a4 ?l4 ?c4 ?k4 Hw.b_pieces_of,
      Hw.defAt_mk KX G ?a5 ?l5 ?c5 ?k5 Hw.b_word_of,
      Hw.defAt_mk KX G ?a6 ?l6 ?c6 ?k6 Hw.b_past,
      Hw.defAt_mk KX G ?a7 ?l7 ?c7 ?k7 Hw.b_bracket,
      Hw.defAt_mk KX G ?a8 ?l8 ?c8 ?k8 Hw.b_part,
      Hw.defAt_mk KX G ?a9 ?l9 ?c9 ?k9 Hw.b_chain,
      Hw.defAt_mk KX G ?a10 ?l10 ?c10 ?k10 Hw.b_read_expr,
      Hw.defAt_mk KX G ?a11 ?l11 ?c11 ?k11 Hw.b_tree_of,
      Hw.defAt_mk KX G ?a12 ?l12 ?c12 ?k12 Hw.b_leaves,
      Hw.defAt_mk KX G ?a13 ?l13 ?c13 ?k13 Hw.b_both,
      Hw.defAt_mk KX G ?a14 ?l14 ?c14 ?k14 Hw.b_paths_into,
      Hw.defAt_mk KX G ?a15 ?l15 ?c15 ?k15 Hw.b_paths,
      Hw.defAt_mk KX G ?a16 ?l16 ?c16 ?k16 Hw.b_are_halves,
      Hw.defAt_mk KX G ?a17 ?l17 ?c17 ?k17 Hw.b_trimmed,
      Hw.defAt_mk KX G ?a18 ?l18 ?c18 ?k18 Hw.b_excess_into,
      Hw.defAt_mk KX G ?a19 ?l19 ?c19 ?k19 Hw.b_excess,
      Hw.defAt_mk KX G ?a20 ?l20 ?c20 ?k20 Hw.b_hung_on,
      Hw.defAt_mk KX G ?a21 ?l21 ?c21 ?k21 Hw.b_hung,
      Hw.defAt_mk KX G ?a22 ?l22 ?c22 ?k22 Hw.b_then,
      Hw.defAt_mk KX G ?a23 ?l23 ?c23 ?k23 Hw.b_back,
      Hw.defAt_mk KX G ?a24 ?l24 ?c24 ?k24 Hw.b_power,
      Hw.defAt_mk KX G ?a25 ?l25 ?c25 ?k25 Hw.b_low,
      Hw.defAt_mk KX G ?a26 ?l26 ?c26 ?k26 Hw.b_high,
      Hw.defAt_mk KX G ?a27 ?l27 ?c27 ?k27 Hw.b_numbered,
      Hw.defAt_mk KX G ?a28 ?l28 ?c28 ?k28 Hw.b_read_row,
      Hw.defAt_mk KX G ?a29 ?l29 ?c29 ?k29 Hw.b_read_program,
      Hw.defAt_mk KX G ?a30 ?l30 ?c30 ?k30 Hw.b_parts_of,
      Hw.defAt_mk KX G ?a31 ?l31 ?c31 ?k31 Hw.b_lacking,
      Hw.defAt_mk KX G ?a32 ?l32 ?c32 ?k32 Hw.b_weight,
      Hw.defAt_mk KX G ?a33 ?l33 ?c33 ?k33 Hw.b_joined,
      Hw.defAt_mk KX G ?a34 ?l34 ?c34 ?k34 Hw.b_value,
      Hw.defAt_mk KX G ?a35 ?l35 ?c35 ?k35 Hw.b_looked_at,
      Hw.defAt_mk KX G ?a36 ?l36 ?c36 ?k36 Hw.b_map_of,
      Hw.defAt_mk KX G ?a37 ?l37 ?c37 ?k37 Hw.b_maps_of,
      Hw.defAt_mk KX G ?a38 ?l38 ?c38 ?k38 Hw.b__law_draw,
      Hw.defAt_mk KX G ?a39 ?l39 ?c39 ?k39 Hw.b__law_name,
      Hw.defAt_mk KX G ?a40 ?l40 ?c40 ?k40 Hw.b__law_leaf,
      Hw.defAt_mk KX G ?a41 ?l41 ?c41 ?k41 Hw.b__law_expr,
      Hw.defAt_mk KX G ?a42 ?l42 ?c42 ?k42 Hw.b__law_held,
      Hw.defAt_mk KX G ?a43 ?l43 ?c43 ?k43 Hw.b__law_text,
      Hw.defAt_mk KX G ?a44 ?l44 ?c44 ?k44 Hw.b__law_weight,
      Hw.defAt_mk KX G ?a45 ?l45 ?c45 ?k45 Hw.b__law_rules_of_backs,
      Hw.defAt_mk KX G ?a46 ?l46 ?c46 ?k46 Hw.b__law_rules_of_as,
      Hw.defAt_mk KX G ?a47 ?l47 ?c47 ?k47 Hw.b__law_rules_of_halves,
      Hw.defAt_mk KX G ?a48 ?l48 ?c48 ?k48 Hw.b__law_filled_in,
      Hw.defAt_mk KX G ?a49 ?l49 ?c49 ?k49 Hw.b__law_size,
      Hw.defAt_mk KX G ?a50 ?l50 ?c50 ?k50 Hw.b__law_light,
      Hw.defAt_mk KX G ?a51 ?l51 ?c51 ?k51 Hw.b__law_names_kept,
      Hw.defAt_mk KX G ?a52 ?l52 ?c52 ?k52 Hw.b__law_same,
      Hw.defAt_mk KX G ?a53 ?l53 ?c53 ?k53 Hw.b__law_unlike⟩
      ⟨PySem.W.mg_none_of KX G ?zlen, PySem.W.mg_none_of KX G ?zrange, PySem.W.mg_none_of KX G ?zzip, PySem.W.mg_none_of KX G ?zenumerate, PySem.W.mg_none_of KX G ?zreversed, PySem.W.mg_none_of KX G ?zlist, PySem.W.mg_none_of KX G ?ztuple, PySem.W.mg_none_of KX G ?zdict, PySem.W.mg_none_of KX G ?zint, PySem.W.mg_none_of KX G ?zstr, PySem.W.mg_none_of KX G ?zabs, PySem.W.mg_none_of KX G ?zmax, PySem.W.mg_none_of KX G ?zsum, PySem.W.mg_none_of KX G ?zall, PySem.W.mg_none_of KX G ?zisinstance⟩
      (Hw.glb_mk KX G ?g1 ?g2 ?g3 ?g4 ?g5 ?g6 ?g8 ?g9 ?g10)
    (case a => k_is); (case l => k_is); (case c => k_is); (case k => k_is)
    (case a0 => k_is); (case l0 => k_is); (case c0 => k_is); (case k0 => k_is)
    (case a1 => k_is); (case l1 => k_is); (case c1 => k_is); (case k1 => k_is)
    (case a2 => k_is); (case l2 => k_is); (case c2 => k_is); (case k2 => k_is)
    (case a3 => k_is); (case l3 => k_is); (case c3 => k_is); (case k3 => k_is)
    (case a4 => k_is); (case l4 => k_is); (case c4 => k_is); (case k4 => k_is)
    (case a5 => k_is); (case l5 => k_is); (case c5 => k_is); (case k5 => k_is)
    (case a6 => k_is); (case l6 => k_is); (case c6 => k_is); (case k6 => k_is)
    (case a7 => k_is); (case l7 => k_is); (case c7 => k_is); (case k7 => k_is)
    (case a8 => k_is); (case l8 => k_is); (case c8 => k_is); (case k8 => k_is)
    (case a9 => k_is); (case l9 => k_is); (case c9 => k_is); (case k9 => k_is)
    (case a10 => k_is); (case l10 => k_is); (case c10 => k_is); (case k10 => k_is)
    (case a11 => k_is); (case l11 => k_is); (case c11 => k_is); (case k11 => k_is)
    (case a12 => k_is); (case l12 => k_is); (case c12 => k_is); (case k12 => k_is)
    (case a13 => k_is); (case l13 => k_is); (case c13 => k_is); (case k13 => k_is)
    (case a14 => k_is); (case l14 => k_is); (case c14 => k_is); (case k14 => k_is)
    (case a15 => k_is); (case l15 => k_is); (case c15 => k_is); (case k15 => k_is)
    (case a16 => k_is); (case l16 => k_is); (case c16 => k_is); (case k16 => k_is)
    (case a17 => k_is); (case l17 => k_is); (case c17 => k_is); (case k17 => k_is)
    (case a18 => k_is); (case l18 => k_is); (case c18 => k_is); (case k18 => k_is)
    (case a19 => k_is); (case l19 => k_is); (case c19 => k_is); (case k19 => k_is)
    (case a20 => k_is); (case l20 => k_is); (case c20 => k_is); (case k20 => k_is)
    (case a21 => k_is); (case l21 => k_is); (case c21 => k_is); (case k21 => k_is)
    (case a22 => k_is); (case l22 => k_is); (case c22 => k_is); (case k22 => k_is)
    (case a23 => k_is); (case l23 => k_is); (case c23 => k_is); (case k23 => k_is)
    (case a24 => k_is); (case l24 => k_is); (case c24 => k_is); (case k24 => k_is)
    (case a25 => k_is); (case l25 => k_is); (case c25 => k_is); (case k25 => k_is)
    (case a26 => k_is); (case l26 => k_is); (case c26 => k_is); (case k26 => k_is)
    (case a27 => k_is); (case l27 => k_is); (case c27 => k_is); (case k27 => k_is)
    (case a28 => k_is); (case l28 => k_is); (case c28 => k_is); (case k28 => k_is)
    (case a29 => k_is); (case l29 => k_is); (case c29 => k_is); (case k29 => k_is)
    (case a30 => k_is); (case l30 => k_is); (case c30 => k_is); (case k30 => k_is)
    (case a31 => k_is); (case l31 => k_is); (case c31 => k_is); (case k31 => k_is)
    (case a32 => k_is); (case l32 => k_is); (case c32 => k_is); (case k32 => k_is)
    (case a33 => k_is); (case l33 => k_is); (case c33 => k_is); (case k33 => k_is)
    (case a34 => k_is); (case l34 => k_is); (case c34 => k_is); (case k34 => k_is)
    (case a35 => k_is); (case l35 => k_is); (case c35 => k_is); (case k35 => k_is)
    (case a36 => k_is); (case l36 => k_is); (case c36 => k_is); (case k36 => k_is)
    (case a37 => k_is); (case l37 => k_is); (case c37 => k_is); (case k37 => k_is)
    (case a38 => k_is); (case l38 => k_is); (case c38 => k_is); (case k38 => k_is)
    (case a39 => k_is); (case l39 => k_is); (case c39 => k_is); (case k39 => k_is)
    (case a40 => k_is); (case l40 => k_is); (case c40 => k_is); (case k40 => k_is)
    (case a41 => k_is); (case l41 => k_is); (case c41 => k_is); (case k41 => k_is)
    (case a42 => k_is); (case l42 => k_is); (case c42 => k_is); (case k42 => k_is)
    (case a43 => k_is); (case l43 => k_is); (case c43 => k_is); (case k43 => k_is)
    (case a44 => k_is); (case l44 => k_is); (case c44 => k_is); (case k44 => k_is)
    (case a45 => k_is); (case l45 => k_is); (case c45 => k_is); (case k45 => k_is)
    (case a46 => k_is); (case l46 => k_is); (case c46 => k_is); (case k46 => k_is)
    (case a47 => k_is); (case l47 => k_is); (case c47 => k_is); (case k47 => k_is)
    (case a48 => k_is); (case l48 => k_is); (case c48 => k_is); (case k48 => k_is)
    (case a49 => k_is); (case l49 => k_is); (case c49 => k_is); (case k49 => k_is)
    (case a50 => k_is); (case l50 => k_is); (case c50 => k_is); (case k50 => k_is)
    (case a51 => k_is); (case l51 => k_is); (case c51 => k_is); (case k51 => k_is)
    (case a52 => k_is); (case l52 => k_is); (case c52 => k_is); (case k52 => k_is)
    (case a53 => k_is); (case l53 => k_is); (case c53 => k_is); (case k53 => k_is)
    (case zlen => k_is)
    (case zrange => k_is)
    (case zzip => k_is)
    (case zenumerate => k_is)
    (case zreversed => k_is)
    (case zlist => k_is)
    (case ztuple => k_is)
    (case zdict => k_is)
    (case zint => k_is)
    (case zstr => k_is)
    (case zabs => k_is)
    (case zmax => k_is)
    (case zsum => k_is)
    (case zall => k_is)
    (case zisinstance => k_is)
    (case g1 => k_is); (case g2 => k_is); (case g3 => k_is); (case g4 => k_is); (case g5 => k_is)
    (case g6 => rfl); (case g8 => rfl); (case g9 => decide)
    (case g10 => exact .cons ⟨_, rfl⟩ (.cons ⟨_, rfl⟩ (.cons ⟨_, rfl⟩ (.cons ⟨_, rfl⟩ (.cons ⟨_, rfl⟩ .nil)))))
