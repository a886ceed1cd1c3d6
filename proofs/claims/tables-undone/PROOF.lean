import PyProof.Rows.All
import Wide.All
import OpenK.AllK
import Wide.FinOn
import HandS.ForMost
import HandS.IsInst
import HandS.Style
import HandS.Conv
import HandS.Zip
import HandS.SortInts
import HandS.Walk
import HandS.More
import HandS.Flow
import KE.GoesEnum
import HandS.Codes
import PySem.Challenge.RW_shuffletold_k61_whole_tables_undone
set_option Elab.async false
set_option linter.all false
set_option maxRecDepth 100000
set_option maxHeartbeats 4000000
/-! The plain law, part 1: words, carries, insertion into rows and its undoing. Core Lean alone. -/
namespace RSK

/-- how many numbers below v stand in row k -/
def cnt (w : Nat → Option Nat) (k : Nat) : Nat → Nat
  | 0 => 0
  | v+1 => cnt w k v + if w v = some k then 1 else 0

/-- the row that is carried at v, when x is put into the rows from k on -/
def car (k x : Nat) (w : Nat → Option Nat) : Nat → Option Nat
  | 0 => none
  | v+1 => if v = x then some k else if w v = car k x w v then (w v).map (· + 1) else car k x w v

/-- the word behind it -/
def new (k x : Nat) (w : Nat → Option Nat) (v : Nat) : Option Nat :=
  if v = x then some k else if w v = car k x w v then (w v).map (· + 1) else w v

def Std (w : Nat → Option Nat) : Prop := ∀ v k, cnt w (k+1) v ≤ cnt w k v

theorem cnt_succ (w : Nat → Option Nat) (k v : Nat) : cnt w k (v+1) = cnt w k v + if w v = some k then 1 else 0 := rfl
theorem car_succ (k x : Nat) (w : Nat → Option Nat) (v : Nat) : car k x w (v+1) = if v = x then some k else if w v = car k x w v then (w v).map (· + 1) else car k x w v := rfl

theorem cnt_mono (w : Nat → Option Nat) (k : Nat) {a b : Nat} (h : a ≤ b) : cnt w k a ≤ cnt w k b := by
  induction h with
  | refl => exact Nat.le_refl _
  | step _ ih => rw [cnt_succ]; omega

theorem cnt_congr {w w' : Nat → Option Nat} {v : Nat} (h : ∀ u, u < v → w u = w' u) (k : Nat) : cnt w k v = cnt w' k v := by
  induction v with
  | zero => rfl
  | succ v ih => rw [cnt_succ, cnt_succ, ih fun u hu => h u (by omega), h v (by omega)]

theorem car_congr {w w' : Nat → Option Nat} {v : Nat} (h : ∀ u, u < v → w u = w' u) (k x : Nat) : car k x w v = car k x w' v := by
  induction v with
  | zero => rfl
  | succ v ih => rw [car_succ, car_succ, ih fun u hu => h u (by omega), h v (by omega)]

theorem new_congr {w w' : Nat → Option Nat} {v : Nat} (h : ∀ u, u ≤ v → w u = w' u) (k x : Nat) : new k x w v = new k x w' v := by
  unfold new
  rw [car_congr (fun u hu => h u (by omega)), h v (by omega)]

theorem car_le {k x : Nat} {w : Nat → Option Nat} {v : Nat} (h : v ≤ x) : car k x w v = none := by
  induction v with
  | zero => rfl
  | succ v ih =>
    rw [car_succ, if_neg (by omega), ih (by omega)]
    by_cases e : w v = none
    · rw [if_pos e, e]; rfl
    · rw [if_neg e]

theorem car_at (k x : Nat) (w : Nat → Option Nat) : car k x w (x+1) = some k := by
  rw [car_succ, if_pos rfl]

theorem new_at (k x : Nat) (w : Nat → Option Nat) : new k x w x = some k := by
  unfold new; rw [if_pos rfl]

theorem new_lt {k x : Nat} {w : Nat → Option Nat} {v : Nat} (h : v < x) : new k x w v = w v := by
  unfold new
  rw [if_neg (by omega), car_le (by omega)]
  by_cases e : w v = none
  · rw [if_pos e, e]; rfl
  · rw [if_neg e]

/-- the carry is some row from x + 1 on -/
theorem car_some {k x : Nat} {w : Nat → Option Nat} {v : Nat} (h : x < v) : ∃ r, car k x w v = some r ∧ k ≤ r := by
  induction v with
  | zero => omega
  | succ v ih =>
    by_cases e : v = x
    · subst e; exact ⟨k, car_at _ _ _, Nat.le_refl _⟩
    · obtain ⟨r, hr, hk⟩ := ih (by omega)
      rw [car_succ, if_neg e]
      by_cases e2 : w v = car k x w v
      · rw [if_pos e2, e2, hr]; exact ⟨r+1, rfl, by omega⟩
      · rw [if_neg e2]; exact ⟨r, hr, hk⟩

/-- what new tells, case by case -/
theorem new_eq {k x : Nat} {w : Nat → Option Nat} {v : Nat} (hx : v ≠ x) : (w v = car k x w v ∧ ∃ r, w v = some r ∧ new k x w v = some (r+1) ∧ car k x w (v+1) = some (r+1)) ∨
    (w v = none ∧ car k x w v = none ∧ new k x w v = none ∧ car k x w (v+1) = none) ∨ (w v ≠ car k x w v ∧ new k x w v = w v ∧ car k x w (v+1) = car k x w v) := by
  unfold new
  rw [car_succ, if_neg hx, if_neg hx]
  by_cases e : w v = car k x w v
  · rw [if_pos e, if_pos e]
    cases h : w v with
    | none => exact .inr (.inl ⟨rfl, by rw [← e, h], rfl, rfl⟩)
    | some r => exact .inl ⟨by rw [← h]; exact e, r, rfl, rfl, rfl⟩
  · rw [if_neg e, if_neg e]
    exact .inr (.inr ⟨e, rfl, rfl⟩)

theorem cnt_new {k x : Nat} {w : Nat → Option Nat} (hx : w x = none) (j v : Nat) : cnt (new k x w) j v = cnt w j v + if car k x w v = some j then 1 else 0 := by
  induction v with
  | zero => rfl
  | succ v ih =>
    rw [cnt_succ, cnt_succ, ih]
    by_cases e : v = x
    · subst e
      rw [car_at, new_at, hx, car_le (Nat.le_refl _)]
      all_goals simp
    · rcases new_eq (k := k) (w := w) e with ⟨h1, r, h2, h3, h4⟩ | ⟨h1, h2, h3, h4⟩ | ⟨h1, h2, h3⟩
      · rw [h3, h4, ← h1, h2]
        all_goals simp only [Option.some.injEq]
        all_goals omega
      · rw [h1, h2, h3, h4]
        all_goals simp
      · rw [h2, h3]
        omega

theorem std_car {x : Nat} {w : Nat → Option Nat} (hw : Std w) (v s : Nat) (h : car 0 x w v = some (s+1)) : cnt w (s+1) v < cnt w s v := by
  induction v with
  | zero => cases h
  | succ v ih =>
    by_cases e : v = x
    · subst e
      rw [car_at] at h
      cases h
    · rw [cnt_succ, cnt_succ]
      rcases new_eq (k := 0) (w := w) e with ⟨h1, r, h2, h3, h4⟩ | ⟨h1, h2, h3, h4⟩ | ⟨h1, h2, h3⟩
      · rw [h4] at h
        cases h
        have := hw v s
        rw [h2, if_neg (by simp), if_pos rfl]
        omega
      · rw [h4] at h
        cases h
      · rw [h3] at h
        have := ih h
        rw [if_neg (show w v ≠ some (s+1) by rw [← h]; exact h1)]
        omega

theorem std_new {x : Nat} {w : Nat → Option Nat} (hw : Std w) (hx : w x = none) : Std (new 0 x w) := by
  intro v k
  rw [cnt_new hx, cnt_new hx]
  have h1 := hw v k
  by_cases e : car 0 x w v = some (k+1)
  · have := std_car hw v k e
    rw [if_pos e]
    omega
  · rw [if_neg e]
    omega

/-! ### rows -/
theorem sorted_ext : ∀ {a b : List Nat}, a.Pairwise (· < ·) → b.Pairwise (· < ·) → (∀ v, v ∈ a ↔ v ∈ b) → a = b
  | [], [], _, _, _ => rfl
  | [], y :: b, _, _, h => by have := (h y).2 (by simp); cases this
  | x :: a, [], _, _, h => by have := (h x).1 (by simp); cases this
  | x :: a, y :: b, ha, hb, h => by
    have hx := List.pairwise_cons.1 ha
    have hy := List.pairwise_cons.1 hb
    have e : x = y := by
      have h1 := (h x).1 (by simp)
      have h2 := (h y).2 (by simp)
      rcases List.mem_cons.1 h1 with h1 | h1
      · exact h1
      · rcases List.mem_cons.1 h2 with h2 | h2
        · exact h2.symm
        · have := hy.1 _ h1
          have := hx.1 _ h2
          omega
    subst e
    rw [sorted_ext hx.2 hy.2 fun v => ⟨fun hv => ?_, fun hv => ?_⟩]
    · rcases List.mem_cons.1 ((h v).1 (by simp [hv])) with e | e
      · have := hx.1 _ hv; omega
      · exact e
    · rcases List.mem_cons.1 ((h v).2 (by simp [hv])) with e | e
      · have := hy.1 _ hv; omega
      · exact e

def Row (w : Nat → Option Nat) (n k : Nat) (row : List Nat) : Prop := row.Pairwise (· < ·) ∧ ∀ v, v ∈ row ↔ v < n ∧ w v = some k
/-- rows are the rows from k on of the word w below n -/
def Rep (w : Nat → Option Nat) (n : Nat) : Nat → List (List Nat) → Prop
  | k, [] => ∀ v, v < n → ∀ r, w v = some r → r < k
  | k, row :: rest => Row w n k row ∧ Rep w n (k+1) rest

theorem Rep.congr {w w' : Nat → Option Nat} {n : Nat} : ∀ {k : Nat} {rows : List (List Nat)}, (∀ v, v < n → ∀ r, k ≤ r → (w v = some r ↔ w' v = some r)) → Rep w n k rows → Rep w' n k rows
  | k, [], h, hr => fun v hv r e => by
    by_cases hk : k ≤ r
    · exact hr v hv r ((h v hv r hk).2 e)
    · omega
  | k, row :: rest, h, hr => ⟨⟨hr.1.1, fun v => by
      rw [hr.1.2 v]
      exact ⟨fun ⟨a, b⟩ => ⟨a, (h v a k (Nat.le_refl _)).1 b⟩, fun ⟨a, b⟩ => ⟨a, (h v a k (Nat.le_refl _)).2 b⟩⟩⟩, Rep.congr (fun v hv r hk => h v hv r (by omega)) hr.2⟩

theorem split_row : ∀ {row : List Nat} {x : Nat}, row.Pairwise (· < ·) → x ∉ row → ∃ A B, row = A ++ B ∧ (∀ a ∈ A, a < x) ∧ (∀ b ∈ B, x < b) ∧ (row.filter (· < x)).length = A.length
  | [], x, _, _ => ⟨[], [], rfl, by simp, by simp, rfl⟩
  | c :: r, x, h, hx => by
    have hc := List.pairwise_cons.1 h
    by_cases e : c < x
    · obtain ⟨A, B, e1, e2, e3, e4⟩ := split_row (x := x) hc.2 (fun z => hx (List.mem_cons_of_mem _ z))
      refine ⟨c :: A, B, by rw [e1]; rfl, fun a ha => ?_, e3, ?_⟩
      · rcases List.mem_cons.1 ha with z | z
        · omega
        · exact e2 a z
      · rw [List.filter_cons_of_pos (by simpa using e), List.length_cons, e4, List.length_cons]
    · have hcx : x < c := by
        have : x ≠ c := fun z => hx (by simp [z])
        omega
      refine ⟨[], c :: r, rfl, by simp, fun b hb => ?_, ?_⟩
      · rcases List.mem_cons.1 hb with z | z
        · omega
        · have := hc.1 b z; omega
      · have hf : (c :: r).filter (· < x) = [] := List.filter_eq_nil_iff.2 fun a ha => by
          rcases List.mem_cons.1 ha with z | z
          · simp; omega
          · have := hc.1 a z; simp; omega
        rw [hf]

def putIn : List (List Nat) → Nat → List (List Nat) × Nat
  | [], x => ([[x]], 0)
  | row :: rest, x =>
    if (row.filter (· < x)).length = row.length then ((row ++ [x]) :: rest, 0)
    else (row.set (row.filter (· < x)).length x :: (putIn rest (row.getD (row.filter (· < x)).length 0)).1, (putIn rest (row.getD (row.filter (· < x)).length 0)).2 + 1)

theorem nobump {k x n : Nat} {w : Nat → Option Nat} (h : ∀ v, x < v → v < n → w v ≠ some k) : (∀ v, x < v → v ≤ n → car k x w v = some k) ∧ (∀ v, v < n → v ≠ x → new k x w v = w v) := by
  have h1 : ∀ v, x < v → v ≤ n → car k x w v = some k := by
    intro v
    induction v with
    | zero => omega
    | succ v ih =>
      intro hv hn
      by_cases e : v = x
      · subst e; exact car_at _ _ _
      · have := ih (by omega) (by omega)
        rw [car_succ, if_neg e, this, if_neg (h v (by omega) (by omega))]
  refine ⟨h1, fun v hv hx => ?_⟩
  by_cases e : v < x
  · exact new_lt e
  · unfold new
    rw [if_neg hx, h1 v (by omega) (by omega), if_neg (h v (by omega) hv)]

theorem bump {k x y : Nat} {w : Nat → Option Nat} (hxy : x < y) (h : ∀ v, x < v → v < y → w v ≠ some k) (hy : w y = some k) : (∀ v, y < v → car k x w v = car (k+1) y w v) ∧ (∀ v, v ≠ x → new k x w v = new (k+1) y w v) := by
  obtain ⟨h1, h2⟩ := nobump (n := y) h
  have h3 : ∀ v, y < v → car k x w v = car (k+1) y w v := by
    intro v
    induction v with
    | zero => omega
    | succ v ih =>
      intro hv
      rw [car_succ, if_neg (by omega), car_succ]
      by_cases e : v = y
      · subst e
        rw [if_pos rfl, h1 v hxy (Nat.le_refl _), if_pos hy, hy]; rfl
      · rw [if_neg e, ih (by omega)]
  refine ⟨h3, fun v hx => ?_⟩
  by_cases e : v < y
  · rw [h2 v e hx, new_lt e]
  · by_cases e2 : v = y
    · subst e2
      rw [new_at]
      unfold new
      rw [if_neg hx, h1 v hxy (Nat.le_refl _), if_pos hy, hy]; rfl
    · unfold new
      rw [if_neg hx, if_neg e2, h3 v (by omega)]

/-- the rows of a bumped word from k + 1 on do not see k -/
theorem new_ge {k x : Nat} {w : Nat → Option Nat} {v r : Nat} (hr : r < k) (hx : ∀ s, k ≤ s → w x ≠ some s) : new k x w v = some r ↔ (w v = some r ∧ v ≠ x) := by
  by_cases e : v = x
  · subst e
    rw [new_at]
    constructor
    · intro h; cases h; omega
    · intro h; exact absurd rfl h.2
  · rcases new_eq (k := k) (w := w) e with ⟨h1, s, h2, h3, h4⟩ | ⟨h1, h2, h3, h4⟩ | ⟨h1, h2, h3⟩
    · have hv : x < v := by
        by_cases q : x < v
        · exact q
        · rw [car_le (by omega), h2] at h1; cases h1
      obtain ⟨z, hz, hk⟩ := car_some (k := k) (w := w) hv
      rw [h1, hz] at h2
      cases h2
      rw [h3, h1, hz]
      constructor
      · intro h; cases h; omega
      · intro h; cases h.1; omega
    · rw [h1, h3]; simp
    · rw [h2]; simp [e]

theorem Row.split {w : Nat → Option Nat} {n k : Nat} {row : List Nat} {x : Nat} (h : Row w n k row) (hx : w x ≠ some k) : ∃ A B, row = A ++ B ∧ (∀ a ∈ A, a < x) ∧ (∀ b ∈ B, x < b) ∧ (row.filter (· < x)).length = A.length ∧ ((A ++ [x]) ++ B).Pairwise (· < ·) := by
  obtain ⟨A, B, e1, e2, e3, e4⟩ := split_row h.1 (fun z => hx ((h.2 x).1 z).2)
  refine ⟨A, B, e1, e2, e3, e4, ?_⟩
  have hp := h.1
  rw [e1, List.pairwise_append] at hp
  rw [List.pairwise_append, List.pairwise_append]
  refine ⟨⟨hp.1, by simp, fun a ha b hb => by rw [List.mem_singleton.1 hb]; exact e2 a ha⟩, hp.2.1, fun a ha b hb => ?_⟩
  rcases List.mem_append.1 ha with z | z
  · exact hp.2.2 a z b hb
  · rw [List.mem_singleton.1 z]; exact e3 b hb

theorem putIn_rep {n : Nat} {w : Nat → Option Nat} : ∀ {rows : List (List Nat)} {k x : Nat}, Rep w n k rows → x < n → (∀ s, k ≤ s → w x ≠ some s) → Rep (new k x w) n k (putIn rows x).1 ∧ car k x w n = some (k + (putIn rows x).2)
  | [], k, x, h, hn, hx => by
    obtain ⟨h1, h2⟩ := nobump (k := k) (x := x) (n := n) (w := w) (fun v _ hv e => by have := h v hv k e; omega)
    refine ⟨⟨⟨by simp, fun v => ?_⟩, fun v hv r e => ?_⟩, h1 n hn (Nat.le_refl _)⟩
    · rw [List.mem_singleton]
      constructor
      · intro e; subst e; exact ⟨hn, new_at _ _ _⟩
      · intro ⟨hv, e⟩
        by_cases q : v = x
        · exact q
        · rw [h2 v hv q] at e
          have := h v hv k e; omega
    · by_cases q : v = x
      · subst q
        rw [new_at] at e
        cases e; omega
      · rw [h2 v hv q] at e
        have := h v hv r e; omega
  | row :: rest, k, x, h, hn, hx => by
    obtain ⟨A, B, e1, e2, e3, e4, e5⟩ := h.1.split (hx k (Nat.le_refl _))
    have hmem := h.1.2
    unfold putIn
    cases B with
    | nil =>
      rw [List.append_nil] at e1
      subst e1
      rw [if_pos e4]
      have hno : ∀ v, x < v → v < n → w v ≠ some k := fun v h1 h2 e => by
        have := e2 v ((hmem v).2 ⟨h2, e⟩); omega
      obtain ⟨h1, h2⟩ := nobump hno
      refine ⟨⟨⟨by rw [List.append_nil] at e5; exact e5, fun v => ?_⟩, Rep.congr (fun v hv r hk => ?_) h.2⟩, h1 n hn (Nat.le_refl _)⟩
      · rw [List.mem_append, List.mem_singleton, hmem v]
        by_cases q : v = x
        · subst q; simp [new_at, hn]
        · by_cases hv : v < n
          · rw [h2 v hv q]; simp [q]
          · simp [hv, q]
      · by_cases q : v = x
        · subst q
          rw [new_at]
          constructor
          · intro e; exact absurd e (hx r (by omega))
          · intro e; cases e; omega
        · rw [h2 v hv q]
    | cons y B =>
      have hl : (row.filter (· < x)).length ≠ row.length := by
        rw [e4, e1, List.length_append, List.length_cons]; omega
      have hg : row.getD (row.filter (· < x)).length 0 = y := by
        rw [e4, e1]; simp
      have hs : row.set (row.filter (· < x)).length x = (A ++ [x]) ++ B := by
        rw [e4, e1]; simp
      rw [if_neg hl, hg, hs]
      have hxy : x < y := e3 y (by simp)
      have hyr : y < n ∧ w y = some k := (hmem y).1 (by rw [e1]; simp)
      have hp := h.1.1
      rw [e1, List.pairwise_append, List.pairwise_cons] at hp
      have hno : ∀ v, x < v → v < y → w v ≠ some k := fun v h1 h2 e => by
        have h3 := (hmem v).2 ⟨by omega, e⟩
        rw [e1] at h3
        rcases List.mem_append.1 h3 with z | z
        · have := e2 v z; omega
        · rcases List.mem_cons.1 z with z | z
          · omega
          · have := hp.2.1.1 v z; omega
      obtain ⟨h1, h2⟩ := bump hxy hno hyr.2
      have hyk : ∀ s, k + 1 ≤ s → w y ≠ some s := fun s hs e => by
        rw [hyr.2] at e; cases e; omega
      obtain ⟨i1, i2⟩ := putIn_rep (k := k+1) (x := y) h.2 hyr.1 hyk
      refine ⟨⟨⟨?_, fun v => ?_⟩, Rep.congr (fun v hv r hk => ?_) i1⟩, ?_⟩
      · rw [List.pairwise_append] at e5 ⊢
        exact ⟨e5.1, hp.2.1.2, fun a ha b hb => e5.2.2 a ha b (by simp [hb])⟩
      · have hm := hmem v
        rw [e1, List.mem_append, List.mem_cons] at hm
        rw [List.mem_append, List.mem_append, List.mem_singleton]
        by_cases q : v = x
        · subst q; simp [new_at, hn]
        · rw [h2 v q, new_ge (by omega) hyk]
          constructor
          · intro z
            have hv : v ∈ A ∨ v ∈ B := by simpa [q] using z
            have hvy : v ≠ y := fun e => by
              subst e
              rcases hv with z | z
              · have := e2 v z; omega
              · have := hp.2.1.1 v z; omega
            have := hm.1 (by rcases hv with z | z <;> simp [z])
            exact ⟨this.1, this.2, hvy⟩
          · intro ⟨z1, z2, z3⟩
            have := hm.2 ⟨z1, z2⟩
            rcases this with z | z | z
            · simp [z]
            · exact absurd z z3
            · simp [z]
      · by_cases q : v = x
        · subst q
          rw [new_at, new_lt hxy]
          constructor
          · intro e; exact absurd e (hx r (by omega))
          · intro e; cases e; omega
        · rw [h2 v q]
      · rw [h1 n hyr.1, i2]
        show some (k + 1 + _) = some (k + (_ + 1))
        congr 1
        omega

theorem putIn_len : ∀ (rows : List (List Nat)) (x : Nat), (putIn rows x).2 ≤ rows.length ∧ (putIn rows x).1.length = max rows.length ((putIn rows x).2 + 1)
  | [], x => ⟨Nat.le_refl _, rfl⟩
  | row :: rest, x => by
    unfold putIn
    by_cases e : (row.filter (· < x)).length = row.length
    · rw [if_pos e]
      simp
    · rw [if_neg e]
      obtain ⟨h1, h2⟩ := putIn_len rest (row.getD (row.filter (· < x)).length 0)
      simp only [List.length_cons]
      omega

theorem putIn_ne {rows : List (List Nat)} : ∀ {x : Nat}, (∀ r ∈ rows, r ≠ []) → ∀ r ∈ (putIn rows x).1, r ≠ [] := by
  induction rows with
  | nil =>
    intro x _ r hr
    rw [show (putIn [] x).1 = [[x]] from rfl, List.mem_singleton] at hr
    rw [hr]; simp
  | cons row rest ih =>
    intro x h r hr
    unfold putIn at hr
    by_cases e : (row.filter (· < x)).length = row.length
    · rw [if_pos e] at hr
      rcases List.mem_cons.1 hr with z | z
      · rw [z]; simp
      · exact h r (by simp [z])
    · rw [if_neg e] at hr
      rcases List.mem_cons.1 hr with z | z
      · rw [z]
        intro q
        have := congrArg List.length q
        rw [List.length_set] at this
        exact h row (by simp) (List.length_eq_zero_iff.1 this)
      · exact ih (fun r hr => h r (by simp [hr])) r z

/-! ### the undoing -/
def takenOut : List (List Nat) → Nat → List (List Nat) × Nat
  | [], _ => ([], 0)
  | row :: rest, 0 => (row.dropLast :: rest, row.getLastD 0)
  | row :: rest, a+1 => (row.set ((row.filter (· < (takenOut rest a).2)).length - 1) (takenOut rest a).2 :: (takenOut rest a).1, row.getD ((row.filter (· < (takenOut rest a).2)).length - 1) 0)
def TkOk : List (List Nat) → Nat → Prop
  | [], _ => False
  | row :: _, 0 => row ≠ []
  | row :: rest, a+1 => TkOk rest a ∧ 0 < (row.filter (· < (takenOut rest a).2)).length

theorem row_last {row : List Nat} {x : Nat} (h : row.Pairwise (· < ·)) (hx : x ∈ row) (hm : ∀ v ∈ row, v ≤ x) : ∃ A, row = A ++ [x] := by
  obtain ⟨A, B, e⟩ := List.append_of_mem hx
  subst e
  cases B with
  | nil => exact ⟨A, rfl⟩
  | cons y B =>
    rw [List.pairwise_append, List.pairwise_cons] at h
    have h1 := h.2.1.1 y (by simp)
    have h2 := hm y (by simp)
    omega

theorem takenOut_rep {n : Nat} {w : Nat → Option Nat} : ∀ {rows : List (List Nat)} {k x a : Nat}, Rep (new k x w) n k rows → x < n → (∀ s, k ≤ s → w x ≠ some s) → car k x w n = some (k + a) →
    Rep w n k (takenOut rows a).1 ∧ (takenOut rows a).2 = x ∧ TkOk rows a
  | [], k, x, a, h, hn, hx, hc => by
    have := h x hn k (new_at _ _ _)
    omega
  | row :: rest, k, x, a, h, hn, hx, hc => by
    have hmem := h.1.2
    have hxr : x ∈ row := (hmem x).2 ⟨hn, new_at _ _ _⟩
    by_cases hb : ∃ y, x < y ∧ y < n ∧ w y = some k
    · -- the least such y
      have hb' : ∃ y, x < y ∧ y < n ∧ w y = some k ∧ ∀ v, x < v → v < y → w v ≠ some k := by
        obtain ⟨y, hy⟩ := hb
        induction y using Nat.strongRecOn with
        | ind y ih =>
          by_cases q : ∃ v, x < v ∧ v < y ∧ w v = some k
          · obtain ⟨v, q1, q2, q3⟩ := q
            exact ih v q2 ⟨q1, by omega, q3⟩
          · exact ⟨y, hy.1, hy.2.1, hy.2.2, fun v h1 h2 h3 => q ⟨v, h1, h2, h3⟩⟩
      obtain ⟨y, hxy, hyn, hyk, hno⟩ := hb'
      obtain ⟨h1, h2⟩ := bump hxy hno hyk
      have hyk' : ∀ s, k + 1 ≤ s → w y ≠ some s := fun s hs e => by
        rw [hyk] at e; cases e; omega
      obtain ⟨c, hc1, hc2⟩ := car_some (k := k+1) (w := w) hyn
      have hca := hc
      rw [h1 n hyn, hc1] at hca
      obtain ⟨b, rfl⟩ : ∃ b, a = b + 1 := ⟨a - 1, by have := Option.some.inj hca; omega⟩
      have hcb : car (k+1) y w n = some (k + 1 + b) := by
        rw [hc1, hca]; congr 1; omega
      have hrest : Rep (new (k+1) y w) n (k+1) rest := Rep.congr (fun v hv r hk => by
        by_cases q : v = x
        · subst q
          rw [new_at, new_lt hxy]
          constructor
          · intro e; cases e; omega
          · intro e; exact absurd e (hx r (by omega))
        · rw [h2 v q]) h.2
      obtain ⟨i1, i2, i3⟩ := takenOut_rep (k := k+1) (x := y) hrest hyn hyk' hcb
      -- row = A ++ x :: B
      have hmem2 : ∀ v, v ∈ row ↔ v < n ∧ (v = x ∨ (w v = some k ∧ v ≠ y)) := fun v => by
        rw [hmem v]
        by_cases q : v = x
        · subst q; simp [new_at]
        · rw [h2 v q, new_ge (by omega) hyk']; simp [q]
      have hyrow : y ∉ row := fun z => by
        rcases ((hmem2 y).1 z).2 with z | z
        · omega
        · exact z.2 rfl
      obtain ⟨A, B, e1, e2, e3, e4⟩ := split_row h.1.1 hyrow
      have hxA : x ∈ A := by
        rw [e1] at hxr
        rcases List.mem_append.1 hxr with z | z
        · exact z
        · have := e3 x z; omega
      have hp := h.1.1
      rw [e1, List.pairwise_append] at hp
      obtain ⟨A', e5⟩ := row_last hp.1 hxA (fun v hv => by
        by_cases q : v ≤ x
        · exact q
        · have hv2 := (hmem2 v).1 (by rw [e1]; simp [hv])
          have hv3 := e2 v hv
          rcases hv2.2 with z | z
          · omega
          · exact absurd z.1 (hno v (by omega) hv3))
      subst e5
      have hlen : (row.filter (· < y)).length - 1 = A'.length := by
        rw [e4]; simp
      have hset : row.set A'.length y = (A' ++ [y]) ++ B := by
        rw [e1]; simp
      have hget : row.getD A'.length 0 = x := by
        rw [e1]; simp
      unfold takenOut TkOk
      rw [i2, hlen, hset, hget]
      refine ⟨⟨⟨?_, fun v => ?_⟩, i1⟩, rfl, i3, by rw [e4]; simp⟩
      · rw [List.pairwise_append, List.pairwise_append]
        refine ⟨⟨(List.pairwise_append.1 hp.1).1, by simp, fun a ha b hb => ?_⟩, hp.2.1, fun a ha b hb => ?_⟩
        · rw [List.mem_singleton.1 hb]; exact e2 a (by simp [ha])
        · rcases List.mem_append.1 ha with z | z
          · exact hp.2.2 a (by simp [z]) b hb
          · rw [List.mem_singleton.1 z]; exact e3 b hb
      · have hm := hmem2 v
        rw [e1] at hm
        simp only [List.mem_append, List.mem_singleton] at hm ⊢
        by_cases q : v = y
        · subst q; simp [hyn, hyk]
        · by_cases q2 : v = x
          · subst q2
            have n1 : v ∉ A' := fun z => by
              have := (List.pairwise_append.1 hp.1).2.2 v z v (by simp); omega
            have n2 : v ∉ B := fun z => by have := e3 v z; omega
            have n3 := hx k (Nat.le_refl _)
            simp [n1, n2, n3, q]
          · simp only [q, q2, or_false, false_or, ne_eq, not_false_eq_true, and_true] at hm ⊢
            exact hm
    · have hno : ∀ v, x < v → v < n → w v ≠ some k := fun v h1 h2 h3 => hb ⟨v, h1, h2, h3⟩
      obtain ⟨h1, h2⟩ := nobump hno
      have ha : a = 0 := by
        rw [h1 n hn (Nat.le_refl _)] at hc
        have := Option.some.inj hc
        omega
      subst ha
      obtain ⟨A, e⟩ := row_last h.1.1 hxr (fun v hv => by
        obtain ⟨v1, v2⟩ := (hmem v).1 hv
        by_cases q : v ≤ x
        · exact q
        · rw [h2 v v1 (by omega)] at v2
          exact absurd v2 (hno v (by omega) v1))
      unfold takenOut TkOk
      have hp := h.1.1
      rw [e, List.pairwise_append] at hp
      refine ⟨⟨⟨?_, fun v => ?_⟩, Rep.congr (fun v hv r hk => ?_) h.2⟩, ?_, ?_⟩
      · rw [e, List.dropLast_concat]; exact hp.1
      · rw [e, List.dropLast_concat]
        have hm := hmem v
        rw [e, List.mem_append, List.mem_singleton] at hm
        by_cases q : v = x
        · subst q
          have n1 : v ∉ A := fun z => by have := hp.2.2 v z v (by simp); omega
          have n3 := hx k (Nat.le_refl _)
          simp [n1, n3]
        · by_cases hv : v < n
          · rw [h2 v hv q] at hm; simpa [q] using hm
          · simpa [q, hv] using hm
      · by_cases q : v = x
        · subst q
          rw [new_at]
          constructor
          · intro e; cases e; omega
          · intro e; exact absurd e (hx r (by omega))
        · rw [h2 v hv q]
      · rw [e]; simp
      · rw [e]; simp

end RSK

/-! The plain law, part 2: growth and its symmetry, tables, the order of two tables. -/
namespace RSK

def addAt (places : List (List Nat)) (a i : Nat) : List (List Nat) :=
  if a = places.length then places ++ [[i]] else places.set a (places.getD a [] ++ [i])

theorem addAt_zero (row : List Nat) (rest : List (List Nat)) (i : Nat) : addAt (row :: rest) 0 i = (row ++ [i]) :: rest := by
  unfold addAt
  rw [if_neg (by simp)]
  simp
theorem addAt_succ (row : List Nat) (rest : List (List Nat)) (a i : Nat) : addAt (row :: rest) (a+1) i = row :: addAt rest a i := by
  unfold addAt
  by_cases e : a = rest.length
  · rw [if_pos e, if_pos (by simp [e])]; rfl
  · rw [if_neg e, if_neg (by simpa using e)]; simp

theorem addAt_rep {q q' : Nat → Option Nat} {i : Nat} : ∀ {places : List (List Nat)} {k a : Nat}, Rep q i k places → a ≤ places.length → (∀ j, j < i → q' j = q j) → q' i = some (k + a) → Rep q' (i+1) k (addAt places a i)
  | [], k, a, h, ha, hq, hi => by
    have : a = 0 := Nat.le_zero.1 ha
    subst this
    refine ⟨⟨by simp, fun v => ?_⟩, fun v hv r e => ?_⟩
    · rw [List.mem_singleton]
      constructor
      · intro e; subst e; exact ⟨by omega, hi⟩
      · intro ⟨hv, e⟩
        by_cases q : v = i
        · exact q
        · rw [hq v (by omega)] at e
          have := h v (by omega) k e; omega
    · by_cases q : v = i
      · subst q
        rw [hi] at e; cases e; omega
      · rw [hq v (by omega)] at e
        have := h v (by omega) r e; omega
  | row :: rest, k, 0, h, ha, hq, hi => by
    rw [addAt_zero]
    have hm := h.1.2
    refine ⟨⟨?_, fun v => ?_⟩, ?_⟩
    · rw [List.pairwise_append]
      refine ⟨h.1.1, by simp, fun a ha b hb => ?_⟩
      rw [List.mem_singleton.1 hb]
      exact ((hm a).1 ha).1
    · rw [List.mem_append, List.mem_singleton, hm v]
      by_cases e : v = i
      · subst e; simp [hi]
      · constructor
        · rintro (⟨z1, z2⟩ | z)
          · exact ⟨by omega, by rw [hq v z1]; exact z2⟩
          · exact absurd z e
        · rintro ⟨z1, z2⟩
          rw [hq v (by omega)] at z2
          exact .inl ⟨by omega, z2⟩
    · exact addAt_keep h.2 hq (fun r hr e => by rw [hi] at e; cases e; omega)
  | row :: rest, k, a+1, h, ha, hq, hi => by
    rw [addAt_succ]
    have hm := h.1.2
    refine ⟨⟨h.1.1, fun v => ?_⟩, addAt_rep h.2 (by simpa using ha) hq (by rw [hi]; congr 1; omega)⟩
    rw [hm v]
    by_cases e : v = i
    · subst e
      simp [hi] <;> omega
    · constructor
      · rintro ⟨z1, z2⟩
        exact ⟨by omega, by rw [hq v z1]; exact z2⟩
      · rintro ⟨z1, z2⟩
        rw [hq v (by omega)] at z2
        exact ⟨by omega, z2⟩
where
  addAt_keep {q q' : Nat → Option Nat} {i : Nat} : ∀ {places : List (List Nat)} {k : Nat}, Rep q i k places → (∀ j, j < i → q' j = q j) → (∀ r, k ≤ r → q' i ≠ some r) → Rep q' (i+1) k places
  | [], k, h, hq, hi => fun v hv r e => by
    by_cases z : v = i
    · subst z
      by_cases hk : k ≤ r
      · exact absurd e (hi r hk)
      · omega
    · rw [hq v (by omega)] at e
      exact h v (by omega) r e
  | row :: rest, k, h, hq, hi => by
    refine ⟨⟨h.1.1, fun v => ?_⟩, addAt_keep h.2 hq fun r hr => hi r (by omega)⟩
    rw [h.1.2 v]
    by_cases e : v = i
    · subst e
      have := hi k (Nat.le_refl _)
      simp [this]
    · constructor
      · rintro ⟨z1, z2⟩
        exact ⟨by omega, by rw [hq v z1]; exact z2⟩
      · rintro ⟨z1, z2⟩
        rw [hq v (by omega)] at z2
        exact ⟨by omega, z2⟩

theorem addAt_len {places : List (List Nat)} {a i : Nat} : (addAt places a i).length = max places.length (if a = places.length then a + 1 else 0) := by
  unfold addAt
  by_cases e : a = places.length
  · rw [if_pos e, if_pos e]; simp; omega
  · rw [if_neg e, if_neg e]; simp

theorem addAt_ne {places : List (List Nat)} {a i : Nat} (h : ∀ r ∈ places, r ≠ []) : ∀ r ∈ addAt places a i, r ≠ [] := by
  intro r hr
  unfold addAt at hr
  by_cases e : a = places.length
  · rw [if_pos e] at hr
    rcases List.mem_append.1 hr with z | z
    · exact h r z
    · rw [List.mem_singleton.1 z]; simp
  · rw [if_neg e] at hr
    rcases List.mem_or_eq_of_mem_set hr with z | z
    · exact h r z
    · rw [z]; simp

theorem addAt_sum : ∀ {places : List (List Nat)} {a i : Nat}, a ≤ places.length → ((addAt places a i).map List.length).sum = (places.map List.length).sum + 1
  | [], a, i, h => by
    have : a = 0 := Nat.le_zero.1 h
    subst this; rfl
  | row :: rest, 0, i, h => by
    rw [addAt_zero]
    simp only [List.map_cons, List.sum_cons, List.length_append, List.length_singleton]
    omega
  | row :: rest, a+1, i, h => by
    rw [addAt_succ]
    simp only [List.map_cons, List.sum_cons]
    rw [addAt_sum (by simpa using h)]
    omega

theorem Rep.unique {w : Nat → Option Nat} {n : Nat} : ∀ {k : Nat} {a b : List (List Nat)}, Rep w n k a → Rep w n k b → (∀ r ∈ a, r ≠ []) → (∀ r ∈ b, r ≠ []) → a = b
  | k, [], [], _, _, _, _ => rfl
  | k, [], y :: b, h1, h2, _, n2 => by
    cases y with
    | nil => exact absurd rfl (n2 [] (by simp))
    | cons v y =>
      have := (h2.1.2 v).1 (by simp)
      have := h1 v this.1 k this.2
      omega
  | k, x :: a, [], h1, h2, n1, _ => by
    cases x with
    | nil => exact absurd rfl (n1 [] (by simp))
    | cons v y =>
      have := (h1.1.2 v).1 (by simp)
      have := h2 v this.1 k this.2
      omega
  | k, x :: a, y :: b, h1, h2, n1, n2 => by
    rw [sorted_ext h1.1.1 h2.1.1 (fun v => by rw [h1.1.2, h2.1.2]), Rep.unique h1.2 h2.2 (fun r hr => n1 r (by simp [hr])) (fun r hr => n2 r (by simp [hr]))]

/-! ### tables -/
def tabs : List Nat → Nat → List (List Nat) → List (List Nat) → List (List Nat) × List (List Nat)
  | [], _, rows, places => (rows, places)
  | x :: σ, i, rows, places => tabs σ (i+1) (putIn rows x).1 (addAt places (putIn rows x).2 i)
def tables (σ : List Nat) : List (List Nat) × List (List Nat) := tabs σ 0 [] []

def run (w : Nat → Option Nat) (σ : List Nat) : Nat → Option Nat := σ.foldl (fun w x => new 0 x w) w
def none0 : Nat → Option Nat := fun _ => none
theorem run_cons (w : Nat → Option Nat) (x : Nat) (σ : List Nat) : run w (x :: σ) = run (new 0 x w) σ := rfl
theorem run_snoc (w : Nat → Option Nat) (x : Nat) (σ : List Nat) : run w (σ ++ [x]) = new 0 x (run w σ) := by
  unfold run; rw [List.foldl_append]; rfl

theorem new_none {k x : Nat} {w : Nat → Option Nat} {v : Nat} : new k x w v = none ↔ w v = none ∧ v ≠ x := by
  by_cases e : v = x
  · subst e; rw [new_at]; simp
  · rcases new_eq (k := k) (w := w) e with ⟨h1, r, h2, h3, h4⟩ | ⟨h1, h2, h3, h4⟩ | ⟨h1, h2, h3⟩
    · rw [h3, h2]; simp
    · rw [h3, h1]; simp [e]
    · rw [h2]; simp [e]
theorem run_none : ∀ {σ : List Nat} {w : Nat → Option Nat} {v : Nat}, run w σ v = none ↔ w v = none ∧ v ∉ σ
  | [], w, v => by simp [run]
  | x :: σ, w, v => by rw [run_cons, run_none, new_none, List.mem_cons]; simp [and_assoc]

theorem std_none : Std none0 := by
  have h : ∀ v k, cnt none0 k v = 0 := by
    intro v k
    induction v with
    | zero => rfl
    | succ v ih => rw [cnt_succ, ih]; rfl
  intro v k
  rw [h, h]
  exact Nat.le_refl _

theorem std_run : ∀ {σ : List Nat} {w : Nat → Option Nat}, Std w → σ.Nodup → (∀ x ∈ σ, w x = none) → Std (run w σ)
  | [], _, h, _, _ => h
  | x :: σ, w, h, hd, hx => by
    have hn := List.nodup_cons.1 hd
    rw [run_cons]
    exact std_run (std_new h (hx x (by simp))) hn.2 fun y hy => new_none.2 ⟨hx y (by simp [hy]), fun e => hn.1 (e ▸ hy)⟩

theorem tabs_rep {n : Nat} : ∀ {σ : List Nat} {i : Nat} {rows places : List (List Nat)} {w q q' : Nat → Option Nat}, Rep w n 0 rows → Rep q i 0 places → rows.length = places.length →
    (∀ r ∈ rows, r ≠ []) → (∀ r ∈ places, r ≠ []) → (∀ x ∈ σ, x < n ∧ w x = none) → σ.Nodup → (∀ j, j < i → q' j = q j) → (∀ j x, σ[j]? = some x → q' (i + j) = car 0 x (run w (σ.take j)) n) →
    Rep (run w σ) n 0 (tabs σ i rows places).1 ∧ Rep q' (i + σ.length) 0 (tabs σ i rows places).2 ∧ (tabs σ i rows places).1.length = (tabs σ i rows places).2.length ∧
    (∀ r ∈ (tabs σ i rows places).1, r ≠ []) ∧ (∀ r ∈ (tabs σ i rows places).2, r ≠ []) ∧ ((tabs σ i rows places).2.map List.length).sum = (places.map List.length).sum + σ.length
  | [], i, rows, places, w, q, q', h1, h2, h3, h4, h5, h6, h7, h8, h9 =>
    ⟨h1, Rep.congr (fun v hv r _ => by rw [h8 v hv]) h2, h3, h4, h5, rfl⟩
  | x :: σ, i, rows, places, w, q, q', h1, h2, h3, h4, h5, h6, h7, h8, h9 => by
    have hn := List.nodup_cons.1 h7
    obtain ⟨hx1, hx2⟩ := h6 x (by simp)
    obtain ⟨p1, p2⟩ := putIn_rep h1 hx1 (fun s _ e => by rw [hx2] at e; cases e)
    obtain ⟨l1, l2⟩ := putIn_len rows x
    have e0 : q' i = some (putIn rows x).2 := by
      have := h9 0 x rfl
      rw [Nat.add_zero] at this
      rw [this]
      show car 0 x w n = _
      rw [p2, Nat.zero_add]
    have hr : Rep q' (i+1) 0 (addAt places (putIn rows x).2 i) := addAt_rep h2 (by omega) h8 (by rw [e0, Nat.zero_add])
    have ih := tabs_rep (σ := σ) (i := i+1) (rows := (putIn rows x).1) (places := addAt places (putIn rows x).2 i) (w := new 0 x w) (q := q') (q' := q') p1 hr
      (by rw [l2, addAt_len, h3]; split <;> omega) (putIn_ne h4) (addAt_ne h5) (fun y hy => ⟨(h6 y (by simp [hy])).1, new_none.2 ⟨(h6 y (by simp [hy])).2, fun e => hn.1 (e ▸ hy)⟩⟩) hn.2 (fun _ _ => rfl)
      (fun j y hy => by
        have := h9 (j+1) y (by simpa using hy)
        rw [show i + 1 + j = i + (j + 1) by omega, this]; rfl)
    obtain ⟨i1, i2, i3, i4, i5, i6⟩ := ih
    refine ⟨i1, ?_, i3, i4, i5, ?_⟩
    · rw [show i + (x :: σ).length = i + 1 + σ.length by rw [List.length_cons]; omega]
      exact i2
    · show ((tabs σ (i+1) (putIn rows x).1 (addAt places (putIn rows x).2 i)).2.map List.length).sum = _
      rw [i6, addAt_sum (by omega), List.length_cons]
      omega

/-- an order, or numbers of it -/
def Ord (n : Nat) (σ : List Nat) : Prop := σ.Nodup ∧ ∀ x ∈ σ, x < n

/-- the word of the places -/
def qw (n : Nat) (σ : List Nat) (j : Nat) : Option Nat := (σ[j]?).bind fun x => car 0 x (run none0 (σ.take j)) n

theorem tables_rep {n : Nat} {σ : List Nat} (h : Ord n σ) : Rep (run none0 σ) n 0 (tables σ).1 ∧ Rep (qw n σ) σ.length 0 (tables σ).2 ∧ (tables σ).1.length = (tables σ).2.length ∧
    (∀ r ∈ (tables σ).1, r ≠ []) ∧ (∀ r ∈ (tables σ).2, r ≠ []) ∧ ((tables σ).2.map List.length).sum = σ.length := by
  have := tabs_rep (n := n) (σ := σ) (i := 0) (rows := []) (places := []) (w := none0) (q := none0) (q' := qw n σ) (fun v _ r e => by cases e) (fun v _ r e => by cases e) rfl (by simp) (by simp)
    (fun x hx => ⟨h.2 x hx, rfl⟩) h.1 (fun j hj => by omega) (fun j x hj => by
      unfold qw
      rw [Nat.zero_add, hj]; rfl)
  simpa [tables] using this

/-! ### growth -/
structure Growth (X : Nat → Nat → Prop) (g h : Nat → Nat → Option Nat) : Prop where
  g0 : ∀ v, g 0 v = none
  h0 : ∀ i, h i 0 = none
  hit : ∀ i v, X i v → g (i+1) v = some 0 ∧ h i (v+1) = some 0
  eq : ∀ i v, ¬ X i v → g i v = h i v → g (i+1) v = (g i v).map (· + 1) ∧ h i (v+1) = (g i v).map (· + 1)
  ne : ∀ i v, ¬ X i v → g i v ≠ h i v → g (i+1) v = g i v ∧ h i (v+1) = h i v

theorem Growth.swap {X : Nat → Nat → Prop} {g h : Nat → Nat → Option Nat} (G : Growth X g h) : Growth (fun v i => X i v) (fun v i => h i v) (fun v i => g i v) where
  g0 := G.h0
  h0 := G.g0
  hit := fun v i e => ⟨(G.hit i v e).2, (G.hit i v e).1⟩
  eq := fun v i e e2 => by
    obtain ⟨a, b⟩ := G.eq i v e e2.symm
    exact ⟨by rw [b, e2], by rw [a, e2]⟩
  ne := fun v i e e2 => by
    obtain ⟨a, b⟩ := G.ne i v e (fun z => e2 z.symm)
    exact ⟨b, a⟩

theorem Growth.unique {X : Nat → Nat → Prop} {g h g' h' : Nat → Nat → Option Nat} (G : Growth X g h) (G' : Growth X g' h') : (∀ i v, g i v = g' i v) ∧ ∀ i v, h i v = h' i v := by
  have step : ∀ i, (∀ v, g i v = g' i v) → ∀ v, h i v = h' i v := by
    intro i hi v
    induction v with
    | zero => rw [G.h0, G'.h0]
    | succ v ih =>
      by_cases hX : X i v
      · rw [(G.hit i v hX).2, (G'.hit i v hX).2]
      · by_cases e : g i v = h i v
        · rw [(G.eq i v hX e).2, (G'.eq i v hX (by rw [← hi, ← ih]; exact e)).2, hi]
        · rw [(G.ne i v hX e).2, (G'.ne i v hX (by rw [← hi, ← ih]; exact e)).2, ih]
  have gg : ∀ i v, g i v = g' i v := by
    intro i
    induction i with
    | zero => intro v; rw [G.g0, G'.g0]
    | succ i ih =>
      intro v
      have hh := step i ih v
      by_cases hX : X i v
      · rw [(G.hit i v hX).1, (G'.hit i v hX).1]
      · by_cases e : g i v = h i v
        · rw [(G.eq i v hX e).1, (G'.eq i v hX (by rw [← ih, ← hh]; exact e)).1, ih]
        · rw [(G.ne i v hX e).1, (G'.ne i v hX (by rw [← ih, ← hh]; exact e)).1, ih]
  exact ⟨gg, fun i v => step i (gg i) v⟩

def gw (σ : List Nat) (i : Nat) : Nat → Option Nat := run none0 (σ.take i)
def hw (σ : List Nat) (i v : Nat) : Option Nat := (σ[i]?).bind fun x => car 0 x (gw σ i) v

theorem growth (σ : List Nat) : Growth (fun i v => σ[i]? = some v) (gw σ) (hw σ) := by
  have hs : ∀ i x, σ[i]? = some x → gw σ (i+1) = new 0 x (gw σ i) ∧ ∀ v, hw σ i v = car 0 x (gw σ i) v := by
    intro i x h
    refine ⟨?_, fun v => by unfold hw; rw [h]; rfl⟩
    unfold gw
    rw [List.take_add_one, h]
    exact run_snoc _ _ _
  have hn : ∀ i, σ[i]? = none → gw σ (i+1) = gw σ i ∧ ∀ v, hw σ i v = none := by
    intro i h
    refine ⟨?_, fun v => by unfold hw; rw [h]; rfl⟩
    unfold gw
    rw [List.take_add_one, h, Option.toList_none, List.append_nil]
  refine ⟨fun v => rfl, fun i => ?_, fun i v h => ?_, fun i v h e => ?_, fun i v h e => ?_⟩
  · cases h : σ[i]? with
    | none => exact (hn i h).2 0
    | some x => rw [(hs i x h).2 0]; rfl
  · obtain ⟨a, b⟩ := hs i v h
    rw [a, b, new_at, car_at]
    exact ⟨rfl, rfl⟩
  · cases hh : σ[i]? with
    | none =>
      obtain ⟨a, b⟩ := hn i hh
      rw [b] at e
      rw [a, b, e]
      exact ⟨rfl, rfl⟩
    | some x =>
      have hx : v ≠ x := fun z => h (by rw [hh, z])
      obtain ⟨a, b⟩ := hs i x hh
      rw [b] at e
      rw [a, b, car_succ, new, if_neg hx, if_neg hx, if_pos e, if_pos e]
      exact ⟨rfl, rfl⟩
  · cases hh : σ[i]? with
    | none =>
      obtain ⟨a, b⟩ := hn i hh
      rw [a, b, b]
      exact ⟨rfl, rfl⟩
    | some x =>
      have hx : v ≠ x := fun z => h (by rw [hh, z])
      obtain ⟨a, b⟩ := hs i x hh
      rw [b] at e
      rw [a, b, b, car_succ, new, if_neg hx, if_neg hx, if_neg e, if_neg e]
      exact ⟨rfl, rfl⟩

theorem gw_all {σ : List Nat} {n : Nat} (h : σ.length = n) : gw σ n = run none0 σ := by
  unfold gw
  rw [List.take_of_length_le (by omega)]

theorem qw_hw (n : Nat) (σ : List Nat) (j : Nat) : qw n σ j = hw σ j n := rfl

/-- the symmetry: the tables of the undone order are both exchanged -/
theorem tables_undone {n : Nat} {σ τ : List Nat} (hσ : Ord n σ) (hτ : Ord n τ) (lσ : σ.length = n) (lτ : τ.length = n) (hu : ∀ (i v : Nat), τ[v]? = some i ↔ σ[i]? = some v) :
    tables τ = ((tables σ).2, (tables σ).1) := by
  obtain ⟨a1, a2, a3, a4, a5, a6⟩ := tables_rep hσ
  obtain ⟨b1, b2, b3, b4, b5, b6⟩ := tables_rep hτ
  have G := growth σ
  have G' : Growth (fun v i : Nat => σ[i]? = some v) (gw τ) (hw τ) := by
    have := growth τ
    have e : (fun v i : Nat => σ[i]? = some v) = (fun i v : Nat => τ[i]? = some v) := by
      funext v i
      exact propext (hu i v).symm
    rw [e]; exact this
  obtain ⟨u1, u2⟩ := G'.unique G.swap
  rw [lσ] at a2
  rw [lτ] at b2
  have e1 : (tables τ).1 = (tables σ).2 := Rep.unique b1 (Rep.congr (fun v hv r _ => by rw [qw_hw, ← gw_all lτ, u1]) a2) b4 a5
  have e2 : (tables τ).2 = (tables σ).1 := Rep.unique b2 (Rep.congr (fun v hv r _ => by rw [qw_hw, ← gw_all lσ, u2]) a1) b5 a4
  rw [← e1, ← e2]

/-! ### the order of two tables -/
def lastAt : List (List Nat) → Nat → Nat
  | [], _ => 0
  | row :: rest, i => if row.getLast? = some i then 0 else lastAt rest i + 1

def oot : Nat → List (List Nat) → List (List Nat) → List Nat → List Nat
  | 0, _, _, acc => acc
  | i+1, rows, places, acc => oot i (takenOut rows (lastAt places i)).1 (places.set (lastAt places i) (places.getD (lastAt places i) []).dropLast) ((takenOut rows (lastAt places i)).2 :: acc)

/-- each step of it can be gone -/
def OotOk : Nat → List (List Nat) → List (List Nat) → Prop
  | 0, _, _ => True
  | i+1, rows, places => lastAt places i < places.length ∧ (places.getD (lastAt places i) []).getLast? = some i ∧ (∀ k, k < places.length → (places.getD k []).getLast? = some i → k = lastAt places i) ∧ TkOk rows (lastAt places i) ∧
    OotOk i (takenOut rows (lastAt places i)).1 (places.set (lastAt places i) (places.getD (lastAt places i) []).dropLast)

theorem pop_rep {q : Nat → Option Nat} {i : Nat} : ∀ {places : List (List Nat)} {k a : Nat}, Rep q (i+1) k places → q i = some (k + a) →
    lastAt places i = a ∧ a < places.length ∧ (places.getD a []).getLast? = some i ∧ (∀ b, b < places.length → (places.getD b []).getLast? = some i → b = a) ∧ Rep q i k (places.set a (places.getD a []).dropLast)
  | [], k, a, h, hq => by have := h i (by omega) _ hq; omega
  | row :: rest, k, 0, h, hq => by
    have hm := h.1.2
    obtain ⟨A, e⟩ := row_last h.1.1 ((hm i).2 ⟨by omega, hq⟩) (fun v hv => by have := ((hm v).1 hv).1; omega)
    have hl : row.getLast? = some i := by rw [e]; simp
    refine ⟨by unfold lastAt; rw [if_pos hl], by simp, hl, fun b hb hb2 => ?_, ?_⟩
    · cases b with
      | zero => rfl
      | succ b => exact absurd hq (pop_not h.2 b (by simpa using hb) (by simpa using hb2))
    · show Rep q i k (row.dropLast :: rest)
      have hp := h.1.1
      rw [e, List.pairwise_append] at hp
      refine ⟨⟨by rw [e, List.dropLast_concat]; exact hp.1, fun v => ?_⟩, pop_keep h.2 (fun r hr => by rw [hq]; intro z; cases z; omega)⟩
      rw [e, List.dropLast_concat]
      have hv := hm v
      rw [e, List.mem_append, List.mem_singleton] at hv
      constructor
      · intro z
        have := hp.2.2 v z i (by simp)
        exact ⟨this, (hv.1 (.inl z)).2⟩
      · rintro ⟨z1, z2⟩
        rcases hv.2 ⟨by omega, z2⟩ with z | z
        · exact z
        · omega
  | row :: rest, k, a+1, h, hq => by
    have hq' : q i = some (k + 1 + a) := by rw [hq]; congr 1; omega
    obtain ⟨h1, h2, h3, h4, h5⟩ := pop_rep h.2 hq'
    have hm := h.1.2
    have hnl : row.getLast? ≠ some i := fun z => by
      have := ((hm i).1 (List.mem_of_getLast? z)).2
      rw [hq] at this
      cases this <;> omega
    refine ⟨by unfold lastAt; rw [if_neg hnl, h1], by simpa using h2, by simpa using h3, fun b hb hb2 => ?_, ?_⟩
    · cases b with
      | zero => exact absurd hb2 hnl
      | succ b => rw [h4 b (by simpa using hb) (by simpa using hb2)]
    · show Rep q i k (row :: rest.set a (((row :: rest).getD (a+1) []).dropLast))
      refine ⟨⟨h.1.1, fun v => ?_⟩, h5⟩
      rw [hm v]
      constructor
      · rintro ⟨z1, z2⟩
        refine ⟨?_, z2⟩
        have : v ≠ i := fun e => by subst e; rw [hq] at z2; cases z2 <;> omega
        omega
      · rintro ⟨z1, z2⟩
        exact ⟨by omega, z2⟩
where
  pop_keep {q : Nat → Option Nat} {i : Nat} : ∀ {places : List (List Nat)} {k : Nat}, Rep q (i+1) k places → (∀ r, k ≤ r → q i ≠ some r) → Rep q i k places
  | [], k, h, hq => fun v hv r e => h v (by omega) r e
  | row :: rest, k, h, hq => by
    refine ⟨⟨h.1.1, fun v => ?_⟩, pop_keep h.2 fun r hr => hq r (by omega)⟩
    rw [h.1.2 v]
    constructor
    · rintro ⟨z1, z2⟩
      have : v ≠ i := fun e => by subst e; exact hq k (Nat.le_refl _) z2
      exact ⟨by omega, z2⟩
    · rintro ⟨z1, z2⟩
      exact ⟨by omega, z2⟩
  pop_not {q : Nat → Option Nat} {i : Nat} : ∀ {places : List (List Nat)} {k : Nat}, Rep q (i+1) (k+1) places → ∀ b, b < places.length → (places.getD b []).getLast? = some i → q i ≠ some k
  | [], k, h, b, hb, _ => by simp at hb
  | row :: rest, k, h, 0, hb, hl => fun e => by
    have := ((h.1.2 i).1 (List.mem_of_getLast? hl)).2
    rw [e] at this; cases this <;> omega
  | row :: rest, k, h, b+1, hb, hl => fun e => by
    have hm : i ∈ rest.getD b [] := List.mem_of_getLast? (by simpa using hl)
    exact Rep.no (k := k+1+1) h.2 (by omega) (b := b) hm e
  Rep.no {q : Nat → Option Nat} {n r : Nat} : ∀ {places : List (List Nat)} {k : Nat}, Rep q n k places → r < k → ∀ {b i : Nat}, i ∈ places.getD b [] → q i ≠ some r
  | [], k, h, hr, b, i, hm, e => by simp at hm
  | row :: rest, k, h, hr, 0, i, hm, e => by
    have := ((h.1.2 i).1 hm).2
    rw [e] at this; cases this <;> omega
  | row :: rest, k, h, hr, b+1, i, hm, e => Rep.no (k := k+1) h.2 (by omega) (b := b) (i := i) (by simpa using hm) e

theorem oot_rep {n : Nat} : ∀ (m : Nat) {σ : List Nat} {rows places : List (List Nat)} {acc : List Nat} {q : Nat → Option Nat}, σ.length = m → Ord n σ → Rep (run none0 σ) n 0 rows → Rep q m 0 places →
    (∀ j x, σ[j]? = some x → q j = car 0 x (run none0 (σ.take j)) n) → oot m rows places acc = σ ++ acc ∧ OotOk m rows places
  | 0, σ, rows, places, acc, q, hl, ho, hr, hp, hq => by
    have := List.length_eq_zero_iff.1 hl
    subst this
    exact ⟨rfl, trivial⟩
  | m+1, σ, rows, places, acc, q, hl, ho, hr, hp, hq => by
    obtain ⟨σ', x, rfl⟩ : ∃ σ' x, σ = σ' ++ [x] := by
      have hne : σ ≠ [] := fun z => by rw [z] at hl; cases hl
      exact ⟨σ.dropLast, σ.getLast hne, (List.dropLast_concat_getLast hne).symm⟩
    have hl' : σ'.length = m := by simpa using hl
    have hnd := ho.1
    rw [List.nodup_append] at hnd
    have hx : run none0 σ' x = none := run_none.2 ⟨rfl, fun z => hnd.2.2 x z x (by simp) rfl⟩
    have hxn : x < n := ho.2 x (by simp)
    rw [run_snoc] at hr
    have hqm : q m = car 0 x (run none0 σ') n := by
      have := hq m x (by rw [← hl', List.getElem?_concat_length])
      rw [this, ← hl', List.take_left]
    obtain ⟨a, ha, _⟩ := car_some (k := 0) (w := run none0 σ') hxn
    rw [ha] at hqm
    obtain ⟨p1, p2, p3, p4, p5⟩ := pop_rep (a := a) hp (by rw [hqm, Nat.zero_add])
    obtain ⟨t1, t2, t3⟩ := takenOut_rep (a := a) hr hxn (fun s _ e => by rw [hx] at e; cases e) (by rw [ha, Nat.zero_add])
    obtain ⟨i1, i2⟩ := oot_rep m (σ := σ') (acc := x :: acc) (q := q) hl' ⟨hnd.1, fun y hy => ho.2 y (by simp [hy])⟩ t1 p5 (fun j y hj => by
      have hlt := (List.getElem?_eq_some_iff.1 hj).1
      have := hq j y (by rw [List.getElem?_append_left hlt]; exact hj)
      rw [this, List.take_append_of_le_length (by omega)])
    unfold oot OotOk
    rw [p1, t2]
    refine ⟨by rw [i1]; simp, p2, p3, p4, t3, i2⟩

/-- order_of_tables tells of the tables of an order the order -/
theorem oot_tables {n : Nat} {σ : List Nat} (h : Ord n σ) : oot σ.length (tables σ).1 (tables σ).2 [] = σ ∧ OotOk σ.length (tables σ).1 (tables σ).2 := by
  obtain ⟨a1, a2, a3, a4, a5, a6⟩ := tables_rep h
  have := oot_rep (n := n) σ.length (acc := []) (q := qw n σ) rfl h a1 a2 (fun j x hj => by unfold qw; rw [hj]; rfl)
  rw [List.append_nil] at this
  exact this

/-! ### two tables of one shape come of an order -/
theorem back {w' : Nat → Option Nat} : ∀ (n r : Nat), (∀ v, v ≤ n → ∀ k, cnt w' (k+1) v ≤ cnt w' k v) → cnt w' (r+1) n < cnt w' r n →
    ∃ x w, x < n ∧ w x = none ∧ (∀ v, v < n → new 0 x w v = w' v) ∧ car 0 x w n = some r ∧ (∀ v, v ≤ n → ∀ k, cnt w (k+1) v ≤ cnt w k v)
  | 0, r, _, h => by cases h
  | n+1, r, hs, h => by
    -- what is said at n + 1 of a word that is good at n
    have close : ∀ (r0 x : Nat) (w : Nat → Option Nat) (o : Option Nat), x < n → w x = none → (∀ v, v < n → new 0 x w v = w' v) → car 0 x w n = some r0 → (∀ v, v ≤ n → ∀ k, cnt w (k+1) v ≤ cnt w k v) →
        (∀ w2 : Nat → Option Nat, (∀ v, v < n → w2 v = w v) → w2 n = o → car 0 x w2 n = some r0 → new 0 x w2 n = w' n ∧ car 0 x w2 (n+1) = some r) →
        ∃ x w, x < n+1 ∧ w x = none ∧ (∀ v, v < n+1 → new 0 x w v = w' v) ∧ car 0 x w (n+1) = some r ∧ (∀ v, v ≤ n+1 → ∀ k, cnt w (k+1) v ≤ cnt w k v) := by
      intro r0 x w o hx hwx hnew hcar hstd hlast
      refine ⟨x, fun v => if v < n then w v else if v = n then o else none, by omega, ?_, ?_⟩
      · show (if x < n then w x else _) = none
        rw [if_pos hx]; exact hwx
      · have hag : ∀ v, v < n → (fun v => if v < n then w v else if v = n then o else none) v = w v := fun v hv => by
          show (if v < n then w v else _) = w v
          rw [if_pos hv]
        have hn : (fun v => if v < n then w v else if v = n then o else none) n = o := by
          show (if n < n then w n else if n = n then o else none) = o
          rw [if_neg (by omega), if_pos rfl]
        generalize (fun v => if v < n then w v else if v = n then o else none) = w2 at hag hn
        have hc2 : car 0 x w2 n = some r0 := by rw [car_congr hag]; exact hcar
        obtain ⟨l1, l2⟩ := hlast w2 hag hn hc2
        have hall : ∀ v, v < n+1 → new 0 x w2 v = w' v := by
          intro v hv
          by_cases e : v = n
          · subst e; exact l1
          · rw [new_congr (fun u hu => hag u (by omega)), hnew v (by omega)]
        refine ⟨hall, l2, fun v hv k => ?_⟩
        by_cases e : v = n+1
        · subst e
          have hwx2 : w2 x = none := by rw [hag x hx]; exact hwx
          have hc : ∀ j, cnt w' j (n+1) = cnt w2 j (n+1) + if some r = some j then 1 else 0 := fun j => by
            rw [← l2, ← cnt_new hwx2, cnt_congr hall]
          have q1 := hs (n+1) (Nat.le_refl _) k
          have q2 := hc k
          have q3 := hc (k+1)
          simp only [Option.some.injEq] at q2 q3
          by_cases z : r = k
          · subst z
            rw [if_pos rfl] at q2
            rw [if_neg (by omega)] at q3
            omega
          · rw [if_neg z] at q2
            omega
        · rw [cnt_congr (w' := w) (fun u hu => hag u (by omega)), cnt_congr (w' := w) (k := k) (fun u hu => hag u (by omega))]
          exact hstd v (by omega) k
    have hsn : ∀ v, v ≤ n → ∀ k, cnt w' (k+1) v ≤ cnt w' k v := fun v hv => hs v (by omega)
    by_cases e : w' n = some r
    · cases r with
      | zero =>
        refine ⟨n, fun v => if v < n then w' v else none, by omega, by simp, fun v hv => ?_, car_at _ _ _, fun v hv k => ?_⟩
        · by_cases q : v = n
          · subst q; rw [new_at, e]
          · rw [new_lt (by omega)]
            show (if v < n then w' v else none) = w' v
            rw [if_pos (by omega)]
        · have hag : ∀ u, u < n → (fun v => if v < n then w' v else none) u = w' u := fun u hu => by
            show (if u < n then w' u else none) = w' u
            rw [if_pos hu]
          have hnn : (fun v => if v < n then w' v else none) n = none := by
            show (if n < n then w' n else none) = none
            rw [if_neg (by omega)]
          generalize (fun v => if v < n then w' v else none) = w2 at hag hnn
          by_cases q : v = n+1
          · subst q
            rw [cnt_succ, cnt_succ, hnn, cnt_congr hag, cnt_congr hag]
            have := hsn n (Nat.le_refl _) k
            simpa using this
          · rw [cnt_congr (w' := w') (fun u hu => hag u (by omega)), cnt_congr (w' := w') (k := k) (fun u hu => hag u (by omega))]
            exact hs v hv k
      | succ r =>
        have h1 := hs (n+1) (Nat.le_refl _) r
        rw [cnt_succ, cnt_succ, e, if_pos rfl, if_neg (by simp)] at h1
        obtain ⟨x, w, c1, c2, c3, c4, c5⟩ := back n r hsn (by omega)
        refine close r x w (some r) c1 c2 c3 c4 c5 fun w2 hag hn hc => ?_
        have hnx : ¬ n = x := by omega
        rw [car_succ, new, if_neg hnx, if_neg hnx, hn, hc, if_pos rfl, e]
        exact ⟨rfl, rfl⟩
    · rw [cnt_succ, cnt_succ, if_neg e] at h
      obtain ⟨x, w, c1, c2, c3, c4, c5⟩ := back n r hsn (by omega)
      refine close r x w (w' n) c1 c2 c3 c4 c5 fun w2 hag hn hc => ?_
      have hnx : ¬ n = x := by omega
      rw [car_succ, new, if_neg hnx, if_neg hnx, hn, hc, if_neg e, if_neg e]
      exact ⟨rfl, rfl⟩

theorem descend {n : Nat} {q : Nat → Option Nat} : ∀ (i : Nat) {p : Nat → Option Nat}, (∀ v, n ≤ v → p v = none) → Std p → (∀ k, cnt p k n = cnt q k i) → (∀ j, j ≤ i → ∀ k, cnt q (k+1) j ≤ cnt q k j) → (∀ j, j < i → q j ≠ none) →
    ∃ σ : List Nat, σ.length = i ∧ run none0 σ = p ∧ Ord n σ ∧ ∀ j x, σ[j]? = some x → q j = car 0 x (run none0 (σ.take j)) n
  | 0, p, hp, hs, hc, hq, hf => by
    refine ⟨[], rfl, ?_, ⟨List.nodup_nil, by simp⟩, by simp⟩
    funext v
    show none = p v
    by_cases hv : n ≤ v
    · rw [hp v hv]
    · cases e : p v with
      | none => rfl
      | some k =>
        have h1 : cnt p k (v+1) ≤ cnt p k n := cnt_mono p k (by omega)
        rw [hc k, cnt_succ, if_pos e] at h1
        have h2 : cnt q k 0 = 0 := rfl
        omega
  | i+1, p, hp, hs, hc, hq, hf => by
    obtain ⟨r, hr⟩ : ∃ r, q i = some r := by
      cases e : q i with
      | none => exact absurd e (hf i (by omega))
      | some r => exact ⟨r, rfl⟩
    have hcor : cnt p (r+1) n < cnt p r n := by
      have h1 := hc (r+1)
      have h2 := hc r
      have h3 := hq i (by omega) r
      rw [cnt_succ, hr, if_neg (by simp)] at h1
      rw [cnt_succ, hr, if_pos rfl] at h2
      omega
    obtain ⟨x, w, c1, c2, c3, c4, c5⟩ := back n r (fun v _ k => hs v k) hcor
    -- cut w at n
    have hag : ∀ u, u < n → (fun v => if v < n then w v else none) u = w u := fun u hu => by
      show (if u < n then w u else none) = w u
      rw [if_pos hu]
    have hup : ∀ u, n ≤ u → (fun v => if v < n then w v else none) u = none := fun u hu => by
      show (if u < n then w u else none) = none
      rw [if_neg (by omega)]
    generalize (fun v => if v < n then w v else none) = w2 at hag hup
    have d2 : w2 x = none := by rw [hag x c1]; exact c2
    have d4 : car 0 x w2 n = some r := by rw [car_congr hag]; exact c4
    have hcs : ∀ v, n ≤ v → ∀ k, cnt w2 k v = cnt w2 k n := by
      intro v hv k
      induction v with
      | zero => rw [Nat.le_zero.1 hv]
      | succ v ih =>
        by_cases e : n = v + 1
        · rw [e]
        · rw [cnt_succ, hup v (by omega), ih (by omega)]; simp
    have d5 : Std w2 := by
      intro v k
      by_cases hv : v ≤ n
      · rw [cnt_congr (w' := w) (fun u hu => hag u (by omega)), cnt_congr (w' := w) (k := k) (fun u hu => hag u (by omega))]
        exact c5 v hv k
      · rw [hcs v (by omega), hcs v (by omega), cnt_congr (w' := w) hag, cnt_congr (w' := w) (k := k) hag]
        exact c5 n (Nat.le_refl _) k
    have d3 : new 0 x w2 = p := by
      funext v
      by_cases hv : v < n
      · rw [new_congr (fun u hu => hag u (by omega)), c3 v hv]
      · rw [hp v (by omega)]
        exact new_none.2 ⟨hup v (by omega), by omega⟩
    have d6 : ∀ k, cnt w2 k n = cnt q k i := by
      intro k
      have h1 := hc k
      rw [← d3, cnt_new d2, d4, cnt_succ, hr] at h1
      simp only [Option.some.injEq] at h1
      omega
    obtain ⟨σ, s1, s2, s3, s4⟩ := descend i (p := w2) hup d5 d6 (fun j hj => hq j (by omega)) (fun j hj => hf j (by omega))
    have hxσ : x ∉ σ := fun z => by
      rw [← s2] at d2
      exact (run_none.1 d2).2 z
    refine ⟨σ ++ [x], by simp [s1], by rw [run_snoc, s2, d3], ⟨?_, fun y hy => ?_⟩, fun j y hj => ?_⟩
    · rw [List.nodup_append]
      refine ⟨s3.1, by simp, fun a ha b hb e => ?_⟩
      rw [List.mem_singleton.1 hb] at e
      exact hxσ (e ▸ ha)
    · rcases List.mem_append.1 hy with z | z
      · exact s3.2 y z
      · rw [List.mem_singleton.1 z]; exact c1
    · by_cases hj2 : j < i
      · rw [List.getElem?_append_left (by omega)] at hj
        rw [List.take_append_of_le_length (by omega)]
        exact s4 j y hj
      · have hjlt := (List.getElem?_eq_some_iff.1 hj).1
        rw [List.length_append, List.length_singleton] at hjlt
        have ej : j = σ.length := by omega
        subst ej
        rw [List.getElem?_concat_length] at hj
        cases hj
        rw [List.take_left, s2, d4, s1, hr]

/-- two tables of one shape come of an order, of which they are the tables -/
theorem two_tables {n : Nat} {p q : Nat → Option Nat} {P Q : List (List Nat)} (hp : ∀ v, n ≤ v → p v = none) (sp : Std p) (sq : ∀ j, j ≤ n → ∀ k, cnt q (k+1) j ≤ cnt q k j) (hc : ∀ k, cnt p k n = cnt q k n) (hf : ∀ j, j < n → q j ≠ none)
    (rP : Rep p n 0 P) (rQ : Rep q n 0 Q) (nP : ∀ r ∈ P, r ≠ []) (nQ : ∀ r ∈ Q, r ≠ []) : ∃ σ : List Nat, σ.length = n ∧ Ord n σ ∧ oot n P Q [] = σ ∧ OotOk n P Q ∧ tables σ = (P, Q) := by
  obtain ⟨σ, s1, s2, s3, s4⟩ := descend n hp sp hc sq hf
  obtain ⟨a1, a2, a3, a4, a5, a6⟩ := tables_rep s3
  rw [s2] at a1
  rw [s1] at a2
  have e1 : (tables σ).1 = P := Rep.unique a1 rP a4 nP
  have e2 : (tables σ).2 = Q := by
    refine Rep.unique a2 (Rep.congr (fun v hv r _ => ?_) rQ) a5 nQ
    have hv2 : σ[v]? = some σ[v] := List.getElem?_eq_getElem (by omega)
    rw [s4 v _ hv2]
    unfold qw
    rw [hv2]; rfl
  have h := oot_tables s3
  rw [s1, e1, e2] at h
  exact ⟨σ, s1, s3, h.1, h.2, by rw [← e1, ← e2]⟩

end RSK

/-! The plain law, part 3: columns; putting in by rows and by columns commute; the order from behind. -/
namespace RSK

/-- the word of the columns -/
def colw (w : Nat → Option Nat) (v : Nat) : Option Nat := (w v).map fun r => cnt w r v

/-- rows' and columns' counts at v belong to one shape -/
def Dual (R C : Nat → Nat) : Prop := ∀ r c, c < R r ↔ r < C c

theorem dual_fun {R C C' : Nat → Nat} (h : Dual R C) (h' : Dual R C') (c : Nat) : C c = C' c := by
  have h1 := (h (C' c) c)
  have h2 := (h' (C c) c)
  have h3 := (h (C c) c)
  have h4 := (h' (C' c) c)
  omega

theorem std_dual {w : Nat → Option Nat} (hw : Std w) (v : Nat) : Dual (fun r => cnt w r v) (fun c => cnt (colw w) c v) := by
  induction v with
  | zero => intro r c; show c < 0 ↔ r < 0; omega
  | succ v ih =>
    intro r c
    show c < cnt w r (v+1) ↔ r < cnt (colw w) c (v+1)
    have hrc := ih r c
    simp only at hrc
    rw [cnt_succ, cnt_succ]
    cases e : w v with
    | none =>
      have : colw w v = none := by unfold colw; rw [e]; rfl
      rw [this]
      simpa using hrc
    | some r0 =>
      have hc0 : colw w v = some (cnt w r0 v) := by unfold colw; rw [e]; rfl
      rw [hc0]
      simp only [Option.some.injEq]
      -- the new corner
      have hC : cnt (colw w) (cnt w r0 v) v = r0 := by
        have h1 := ih r0 (cnt w r0 v)
        simp only at h1
        cases r0 with
        | zero => omega
        | succ s =>
          have h2 := hw (v+1) s
          rw [cnt_succ, cnt_succ, e, if_pos rfl, if_neg (by simp)] at h2
          have h3 := ih s (cnt w (s+1) v)
          simp only at h3
          omega
      by_cases z1 : r0 = r
      · subst z1
        by_cases z2 : cnt w r0 v = c
        · subst z2
          rw [if_pos rfl, if_pos rfl]
          omega
        · rw [if_pos rfl, if_neg z2]
          omega
      · by_cases z2 : cnt w r0 v = c
        · subst z2
          rw [if_neg z1, if_pos rfl]
          omega
        · rw [if_neg z1, if_neg z2]
          omega

theorem dual_swap {R C : Nat → Nat} (h : Dual R C) : Dual C R := fun c r => (h r c).symm

theorem colw_none {w : Nat → Option Nat} {v : Nat} : colw w v = none ↔ w v = none := by
  unfold colw; cases w v <;> simp

/-- where a number of row r stands, the column's count is r -/
theorem corner {w : Nat → Option Nat} (hw : Std w) {v r : Nat} (h : w v = some r) : cnt (colw w) (cnt w r v) v = r := by
  have ih := std_dual hw v
  have h1 := ih r (cnt w r v)
  simp only at h1
  cases r with
  | zero => omega
  | succ s =>
    have h2 := hw (v+1) s
    rw [cnt_succ, cnt_succ, h, if_pos rfl, if_neg (by simp)] at h2
    have h3 := ih s (cnt w (s+1) v)
    simp only at h3
    omega

theorem colw_colw {w : Nat → Option Nat} (hw : Std w) : colw (colw w) = w := by
  funext v
  cases e : w v with
  | none => exact colw_none.2 (colw_none.2 e)
  | some r =>
    have hc : colw w v = some (cnt w r v) := by unfold colw; rw [e]; rfl
    show (colw w v).map (fun c => cnt (colw w) c v) = some r
    rw [hc]
    show some (cnt (colw w) (cnt w r v) v) = some r
    rw [corner hw e]

theorem std_colw {w : Nat → Option Nat} (hw : Std w) : Std (colw w) := by
  intro v k
  have h1 := std_dual hw v
  have h2 := h1 (cnt (colw w) (k+1) v - 1) (k+1)
  have h3 := h1 (cnt (colw w) (k+1) v - 1) k
  simp only at h2 h3
  omega


/-! ### one number of both ways -/
def st (o k : Option Nat) : Option Nat × Option Nat := if o = k then (o.map (· + 1), o.map (· + 1)) else (o, k)
theorem st_eq (r : Nat) : st (some r) (some r) = (some (r+1), some (r+1)) := by unfold st; rw [if_pos rfl]; rfl
theorem st_ne {o k : Option Nat} (h : o ≠ k) : st o k = (o, k) := by unfold st; rw [if_neg h]
theorem st_none (k : Option Nat) : st none k = (none, k) := by
  unfold st
  by_cases e : none = k
  · rw [if_pos e, ← e]; rfl
  · rw [if_neg e]
theorem st_s0 (r : Nat) : st (some r) none = (some r, none) := st_ne (by simp)
theorem st_ss {r s : Nat} (h : r ≠ s) : st (some r) (some s) = (some r, some s) := st_ne (by simpa using h)

theorem new_st {k x v : Nat} {w : Nat → Option Nat} (h : v ≠ x) : new k x w v = (st (w v) (car k x w v)).1 ∧ car k x w (v+1) = (st (w v) (car k x w v)).2 := by
  unfold new st
  rw [car_succ, if_neg h, if_neg h]
  by_cases e : w v = car k x w v
  · rw [if_pos e, if_pos e, if_pos e]; exact ⟨rfl, rfl⟩
  · rw [if_neg e, if_neg e, if_neg e]; exact ⟨rfl, rfl⟩

inductive Inv (R C : Nat → Nat) : Option Nat → Option Nat → Option Nat → Option Nat → Prop
  | nn : Inv R C none none none none
  | sn (r : Nat) : Inv R C (some r) none (some r) none
  | ns (c : Nat) : Inv R C none (some c) none (some c)
  | ss (r c : Nat) : R r ≠ c → Inv R C (some r) (some c) (some r) (some c)
  | down (r c : Nat) : R r = c → R (r+1) = c → Inv R C (some r) (some c) (some (r+1)) (some c)
  | right (r c : Nat) : R r = c → C (c+1) = r → Inv R C (some r) (some c) (some r) (some (c+1))

theorem dual_none {R C R2 C2 : Nat → Nat} (D : Dual R C) (hR : ∀ ρ, R2 ρ = R ρ) (D2 : Dual R2 C2) (γ : Nat) : C2 γ = C γ := by
  have e : R2 = R := funext hR
  subst e
  exact dual_fun D2 D γ
theorem dual_some {R C R2 C2 : Nat → Nat} {ρ : Nat} (D : Dual R C) (hR : ∀ s, R2 s = R s + if some ρ = some s then 1 else 0) (hρ : C (R ρ) = ρ) (D2 : Dual R2 C2) (γ : Nat) : C2 γ = C γ + if γ = R ρ then 1 else 0 := by
  refine dual_fun (C' := fun γ => C γ + if γ = R ρ then 1 else 0) D2 (fun r c => ?_) γ
  rw [hR r]
  simp only [Option.some.injEq]
  have h := D r c
  by_cases e1 : ρ = r
  · subst e1
    by_cases e2 : c = R ρ
    · subst e2
      rw [if_pos rfl, if_pos rfl]; omega
    · rw [if_pos rfl, if_neg e2]; omega
  · by_cases e2 : c = R ρ
    · subst e2
      rw [if_neg e1, if_pos rfl]; omega
    · rw [if_neg e1, if_neg e2]; omega

theorem dual_anti {R C : Nat → Nat} (D : Dual R C) (r : Nat) : R (r+1) ≤ R r := by
  have h1 := D (r+1) (R r)
  have h2 := D r (R r)
  omega

/-- the corner one row below -/
theorem dual_below {R C : Nat → Nat} (D : Dual R C) {r : Nat} (h : R (r+1) ≠ R r) : C (R (r+1)) = r+1 := by
  have h0 := dual_anti D r
  have h1 := D r (R (r+1))
  have h2 := D (r+1) (R (r+1))
  omega

theorem pure_step {R C : Nat → Nat} {a b a' b' : Option Nat} (D : Dual R C) (ha : ∀ ρ, a = some ρ → C (R ρ) = ρ) (hb : ∀ γ, b = some γ → R (C γ) = γ) (I : Inv R C a b a' b') {r c : Nat} (hc : R r = c) (hr : C c = r)
    {C1 R2 C2 : Nat → Nat} (hC1 : ∀ γ, C1 γ = C γ + if b = some γ then 1 else 0) (hR2 : ∀ ρ, R2 ρ = R ρ + if a = some ρ then 1 else 0) (hC2 : Dual R2 C2) :
    Inv (fun ρ => R ρ + if some r = some ρ then 1 else 0) (fun γ => C γ + if some c = some γ then 1 else 0) (st (some r) a).2 (st (some c) b).2 (st ((st (some c) b).1.map C1) a').2 (st ((st (some r) a).1.map R2) b').2 ∧
    ∃ r3 c3, (st ((st (some c) b).1.map C1) a').1 = some r3 ∧ (st ((st (some r) a).1.map R2) b').1 = some c3 ∧ C2 c3 + (if b' = some c3 then 1 else 0) = r3 := by
  have an := dual_anti D r
  have ac := dual_anti (dual_swap D) c
  cases I with
  | nn =>
    have e2 := dual_none D (fun ρ => by rw [hR2]; simp) hC2
    have h1 : C1 c = r := by rw [hC1, hr]; simp
    have h2 : R2 r = c := by rw [hR2, hc]; simp
    rw [st_s0, st_s0]
    simp only [Option.map_some, st_s0, h1, h2]
    exact ⟨.nn, _, _, rfl, rfl, by rw [e2, hr]; simp⟩
  | sn ρ =>
    have e2 := dual_some D hR2 (ha ρ rfl) hC2
    rw [st_s0]
    have h1 : C1 c = r := by rw [hC1, hr]; simp
    simp only [Option.map_some, h1]
    by_cases e : r = ρ
    · subst e
      simp only [st_eq, Option.map_some, st_s0]
      refine ⟨.sn _, _, _, rfl, rfl, ?_⟩
      have h2 : R2 (r+1) = R (r+1) := by rw [hR2]; simp
      rw [h2, e2]
      by_cases q : R (r+1) = R r
      · rw [if_pos q, q, hc, hr]; simp
      · rw [if_neg q, dual_below D q]; simp
    · have h2 : R2 r = c := by rw [hR2, hc]; simp [Ne.symm e]
      simp only [st_ss e, Option.map_some, st_s0, h2]
      refine ⟨.sn _, _, _, rfl, rfl, ?_⟩
      rw [e2, hr, if_neg (fun z => e (by rw [← hr, z]; exact ha ρ rfl))]; simp
  | ns γ =>
    have e2 := dual_none D (fun ρ => by rw [hR2]; simp) hC2
    rw [st_s0]
    have h2 : R2 r = c := by rw [hR2, hc]; simp
    simp only [Option.map_some, h2]
    by_cases e : c = γ
    · subst e
      have h1 : C1 (c+1) = C (c+1) := by rw [hC1]; simp
      simp only [st_eq, Option.map_some, st_s0, h1]
      exact ⟨.ns _, _, _, rfl, rfl, by rw [e2]; simp⟩
    · have h1 : C1 c = r := by rw [hC1, hr]; simp [Ne.symm e]
      simp only [st_ss e, Option.map_some, st_s0, h1]
      exact ⟨.ns _, _, _, rfl, rfl, by rw [e2, hr]; simp [Ne.symm e]⟩
  | ss ρ γ hne =>
    have e2 := dual_some D hR2 (ha ρ rfl) hC2
    have hρ := ha ρ rfl
    have hγ := hb γ rfl
    by_cases e : r = ρ
    · subst e
      have ecγ : c ≠ γ := by rw [← hc]; exact hne
      have h1 : C1 c = r := by rw [hC1, hr]; simp [Ne.symm ecγ]
      have h2 : R2 (r+1) = R (r+1) := by rw [hR2]; simp
      simp only [st_eq, st_ss ecγ, Option.map_some, h1, h2]
      by_cases q : R (r+1) = γ
      · have hlt : R (r+1) ≠ R r := by rw [q]; exact Ne.symm hne
        have hb2 := dual_below D hlt
        rw [q] at hb2
        simp only [q, st_eq]
        have k1 := D r (γ+1)
        have k2 := D (r+1) (γ+1)
        refine ⟨.right _ _ (by simp [q]) ?_, _, _, rfl, rfl, ?_⟩
        · simp only [Option.some.injEq]
          by_cases z : c = γ + 1
          · rw [if_pos z, ← z, hr]
          · rw [if_neg z]; omega
        · rw [e2]
          simp only [Option.some.injEq]
          by_cases z : γ + 1 = R r
          · rw [if_pos z, z, hc, hr, if_neg (by omega)]
          · rw [if_neg z, if_neg (by omega)]; omega
      · simp only [st_ss q]
        refine ⟨.ss _ _ (by simpa using q), _, _, rfl, rfl, ?_⟩
        rw [e2]
        simp only [Option.some.injEq]
        rw [if_neg (Ne.symm q)]
        by_cases q2 : R (r+1) = R r
        · rw [if_pos q2, q2, hc, hr]
        · rw [if_neg q2, dual_below D q2]
    · have hcρ : c ≠ R ρ := fun z => e (by rw [← hr, z]; exact hρ)
      have h2 : R2 r = c := by rw [hR2, hc]; simp [Ne.symm e]
      by_cases ecγ : c = γ
      · subst ecγ
        have h1 : C1 (c+1) = C (c+1) := by rw [hC1]; simp
        simp only [st_eq, st_ss e, Option.map_some, h1, h2]
        have k1 := D ρ c
        have k2 := D ρ (c+1)
        by_cases q : C (c+1) = ρ
        · simp only [q, st_eq]
          have hR : R ρ = c + 1 := by omega
          have k3 := D (ρ+1) c
          have k4 := dual_anti D ρ
          refine ⟨.down _ _ (by simp [e, hR]) ?_, _, _, rfl, rfl, ?_⟩
          · simp only [Option.some.injEq]
            by_cases z : r = ρ + 1
            · rw [if_pos z, ← z, hc]
            · rw [if_neg z]; omega
          · rw [e2, q, hR]; simp
        · simp only [st_ss q]
          have hR : R ρ ≠ c + 1 := fun z => q (by rw [← z]; exact hρ)
          refine ⟨.ss _ _ (by simpa [e] using hR), _, _, rfl, rfl, ?_⟩
          rw [e2, if_neg (Ne.symm hR)]; simp
      · have h1 : C1 c = r := by rw [hC1, hr]; simp [Ne.symm ecγ]
        simp only [st_ss e, st_ss ecγ, Option.map_some, h1, h2]
        refine ⟨.ss _ _ (by simpa [e] using hne), _, _, rfl, rfl, ?_⟩
        rw [e2, if_neg hcρ, hr]; simp [Ne.symm ecγ]
  | down ρ γ g1 g2 =>
    have e2 := dual_some D hR2 (ha ρ rfl) hC2
    have hρ := ha ρ rfl
    rw [g1] at hρ e2
    by_cases e : r = ρ
    · subst e
      rw [g1] at hc
      subst hc
      have h1 : C1 (γ+1) = C (γ+1) := by rw [hC1]; simp
      have h2 : R2 (r+1) = γ := by rw [hR2, g2]; simp
      have h3 : C (γ+1) ≠ r + 1 := by omega
      simp only [st_eq, Option.map_some, h1, h2, st_ss h3]
      refine ⟨.ss _ _ (by simp [g2]), _, _, rfl, rfl, ?_⟩
      rw [e2]; simp
    · have ecγ : c ≠ γ := fun z => e (by rw [← hr, z]; exact hρ)
      have e3 : r ≠ ρ + 1 := fun z => ecγ (by rw [← hc, z]; exact g2)
      have h1 : C1 c = r := by rw [hC1, hr]; simp [Ne.symm ecγ]
      have h2 : R2 r = c := by rw [hR2, hc]; simp [Ne.symm e]
      simp only [st_ss e, st_ss ecγ, Option.map_some, h1, h2, st_ss e3]
      refine ⟨.down _ _ (by simp [e, g1]) (by simp [e3, g2]), _, _, rfl, rfl, ?_⟩
      rw [e2, if_neg ecγ, hr]; simp [Ne.symm ecγ]
  | right ρ γ g1 g2 =>
    have e2 := dual_some D hR2 (ha ρ rfl) hC2
    have hρ := ha ρ rfl
    rw [g1] at hρ e2
    by_cases e : r = ρ
    · subst e
      rw [g1] at hc
      subst hc
      have h1 : C1 (γ+1) = r := by rw [hC1, g2]; simp
      have h2 : R2 (r+1) = R (r+1) := by rw [hR2]; simp
      have h3 : R (r+1) ≠ γ + 1 := by omega
      simp only [st_eq, Option.map_some, h1, h2, st_ss h3]
      have h4 : R (r+1) ≠ γ + 1 := h3
      refine ⟨.ss _ _ (by simpa using h4), _, _, rfl, rfl, ?_⟩
      rw [e2]
      simp only [Option.some.injEq]
      rw [if_neg (show ¬ γ + 1 = R (r+1) by omega)]
      by_cases q2 : R (r+1) = γ
      · rw [if_pos q2, q2, hρ]
      · rw [if_neg q2, dual_below D (by rw [g1]; exact q2)]
    · have ecγ : c ≠ γ := fun z => e (by rw [← hr, z]; exact hρ)
      have e3 : c ≠ γ + 1 := fun z => e (by rw [← hr, z]; exact g2)
      have h1 : C1 c = r := by rw [hC1, hr]; simp [Ne.symm ecγ]
      have h2 : R2 r = c := by rw [hR2, hc]; simp [Ne.symm e]
      simp only [st_ss e, st_ss ecγ, Option.map_some, h1, h2, st_ss e3]
      refine ⟨.right _ _ (by simp [e, g1]) (by simp [e3, g2]), _, _, rfl, rfl, ?_⟩
      rw [e2, if_neg ecγ, hr]; simp [Ne.symm e3]


theorem pure_x {R C : Nat → Nat} {b b' : Option Nat} (D : Dual R C) (I : Inv R C none b none b') {C2 : Nat → Nat} (hC2 : Dual R C2) :
    Inv R C (some 0) b (some 0) (st (some (R 0)) b').2 ∧ ∃ c3, (st (some (R 0)) b').1 = some c3 ∧ C2 c3 + (if b' = some c3 then 1 else 0) = 0 := by
  have e2 : ∀ γ, C2 γ = C γ := fun γ => dual_fun hC2 D γ
  have k1 := D 0 (R 0)
  have k2 := D 0 (R 0 + 1)
  cases I with
  | nn =>
    rw [st_s0]
    exact ⟨.sn _, _, rfl, by rw [e2]; simp; omega⟩
  | ns γ =>
    by_cases e : R 0 = γ
    · subst e
      rw [st_eq]
      exact ⟨.right _ _ rfl (by omega), _, rfl, by rw [e2]; simp; omega⟩
    · rw [st_ss e]
      exact ⟨.ss _ _ e, _, rfl, by rw [e2]; simp [Ne.symm e]; omega⟩

theorem pure_y {R C : Nat → Nat} {a a' : Option Nat} (D : Dual R C) (ha : ∀ ρ, a = some ρ → C (R ρ) = ρ) (I : Inv R C a none a' none) {R2 C2 : Nat → Nat} (hR2 : ∀ ρ, R2 ρ = R ρ + if a = some ρ then 1 else 0) (hC2 : Dual R2 C2) :
    Inv R C a (some 0) (st (some (C 0)) a').2 (some 0) ∧ ∃ r3, (st (some (C 0)) a').1 = some r3 ∧ C2 0 = r3 := by
  cases I with
  | nn =>
    have e2 := dual_none D (fun ρ => by rw [hR2]; simp) hC2
    rw [st_s0]
    exact ⟨.ns _, _, rfl, e2 0⟩
  | sn ρ =>
    have e2 := dual_some D hR2 (ha ρ rfl) hC2
    have hρ := ha ρ rfl
    have k1 := D ρ 0
    have k2 := D (ρ+1) 0
    by_cases e : C 0 = ρ
    · rw [e, st_eq]
      have hR : R ρ = 0 := by omega
      refine ⟨.down _ _ hR (by omega), _, rfl, ?_⟩
      rw [e2, hR, e]; simp
    · rw [st_ss e]
      have hR : R ρ ≠ 0 := fun z => e (by rw [← z]; exact hρ)
      refine ⟨.ss _ _ hR, _, rfl, ?_⟩
      rw [e2, if_neg (Ne.symm hR)]; simp

theorem car_corner {w : Nat → Option Nat} {x v ρ : Nat} (hw : Std w) (h : car 0 x w v = some ρ) : cnt (colw w) (cnt w ρ v) v = ρ := by
  have D := std_dual hw v
  have h1 := D ρ (cnt w ρ v)
  simp only at h1
  cases ρ with
  | zero => omega
  | succ s =>
    have h2 := std_car hw v s h
    have h3 := D s (cnt w (s+1) v)
    simp only at h3
    omega

/-- putting in by a row and putting in by a column commute -/
theorem commute {w : Nat → Option Nat} {x y : Nat} (hw : Std w) (hx : w x = none) (hy : w y = none) (hxy : x ≠ y) :
    new 0 x (colw (new 0 y (colw w))) = colw (new 0 y (colw (new 0 x w))) := by
  have su : Std (colw w) := std_colw hw
  have huy : colw w y = none := colw_none.2 hy
  have hux : colw w x = none := colw_none.2 hx
  have su1 : Std (new 0 y (colw w)) := std_new su huy
  have hu1x : new 0 y (colw w) x = none := new_none.2 ⟨hux, hxy⟩
  have sw1 : Std (colw (new 0 y (colw w))) := std_colw su1
  have hw1x : colw (new 0 y (colw w)) x = none := colw_none.2 hu1x
  have sw2 : Std (new 0 x w) := std_new hw hx
  have hw2y : new 0 x w y = none := new_none.2 ⟨hy, Ne.symm hxy⟩
  have su2 : Std (colw (new 0 x w)) := std_colw sw2
  have hu2y : colw (new 0 x w) y = none := colw_none.2 hw2y
  have hcu : colw (colw w) = w := colw_colw hw
  -- u, u1, w1, w2, u2
  have eu : ∀ v, colw w v = (w v).map fun r => cnt w r v := fun v => rfl
  have ew1 : ∀ v, colw (new 0 y (colw w)) v = (new 0 y (colw w) v).map fun c => cnt (new 0 y (colw w)) c v := fun v => rfl
  have eu2 : ∀ v, colw (new 0 x w) v = (new 0 x w v).map fun r => cnt (new 0 x w) r v := fun v => rfl
  have eu3 : ∀ v, colw (new 0 y (colw (new 0 x w))) v = (new 0 y (colw (new 0 x w)) v).map fun c => cnt (new 0 y (colw (new 0 x w))) c v := fun v => rfl
  have D := fun v => std_dual hw v
  have ha : ∀ v ρ, car 0 x w v = some ρ → cnt (colw w) (cnt w ρ v) v = ρ := fun v ρ h => car_corner hw h
  have hb : ∀ v γ, car 0 y (colw w) v = some γ → cnt w (cnt (colw w) γ v) v = γ := fun v γ h => by
    have := car_corner su h
    rw [hcu] at this
    exact this
  have hC1 : ∀ v γ, cnt (new 0 y (colw w)) γ v = cnt (colw w) γ v + if car 0 y (colw w) v = some γ then 1 else 0 := fun v γ => cnt_new huy γ v
  have hR2 : ∀ v ρ, cnt (new 0 x w) ρ v = cnt w ρ v + if car 0 x w v = some ρ then 1 else 0 := fun v ρ => cnt_new hx ρ v
  have hC2 := fun v => std_dual sw2 v
  have hC3 : ∀ v γ, cnt (new 0 y (colw (new 0 x w))) γ v = cnt (colw (new 0 x w)) γ v + if car 0 y (colw (new 0 x w)) v = some γ then 1 else 0 := fun v γ => cnt_new hu2y γ v
  have step : ∀ v, Inv (fun r => cnt w r v) (fun c => cnt (colw w) c v) (car 0 x w v) (car 0 y (colw w) v) (car 0 x (colw (new 0 y (colw w))) v) (car 0 y (colw (new 0 x w)) v) →
      Inv (fun r => cnt w r (v+1)) (fun c => cnt (colw w) c (v+1)) (car 0 x w (v+1)) (car 0 y (colw w) (v+1)) (car 0 x (colw (new 0 y (colw w))) (v+1)) (car 0 y (colw (new 0 x w)) (v+1)) ∧
      new 0 x (colw (new 0 y (colw w))) v = colw (new 0 y (colw (new 0 x w))) v := by
    intro v I
    by_cases vx : v = x
    · subst vx
      have hca : car 0 v w v = none := car_le (Nat.le_refl _)
      have hca' : car 0 v (colw (new 0 y (colw w))) v = none := car_le (Nat.le_refl _)
      rw [hca, hca'] at I
      have hR : ∀ ρ, cnt (new 0 v w) ρ v = cnt w ρ v := fun ρ => by rw [hR2, hca]; simp
      have hDD : Dual (fun r => cnt w r v) (fun c => cnt (colw (new 0 v w)) c v) := by
        have e : (fun r => cnt w r v) = (fun r => cnt (new 0 v w) r v) := funext fun ρ => (hR ρ).symm
        rw [e]; exact hC2 v
      obtain ⟨I2, c3, q1, q2⟩ := pure_x (D v) I hDD
      have e1 : (fun r => cnt w r (v+1)) = (fun r => cnt w r v) := funext fun r => by rw [cnt_succ, hx]; simp
      have e2 : (fun c => cnt (colw w) c (v+1)) = (fun c => cnt (colw w) c v) := funext fun c => by rw [cnt_succ, hux]; simp
      have s1 := new_st (k := 0) (w := colw w) hxy
      rw [hux, st_none] at s1
      have s3 := new_st (k := 0) (w := colw (new 0 v w)) hxy
      have e5 : colw (new 0 v w) v = some (cnt w 0 v) := by rw [eu2, new_at]; show some (cnt (new 0 v w) 0 v) = _; rw [hR]
      rw [e5] at s3
      rw [e1, e2, car_at, car_at, s1.2, s3.2]
      refine ⟨I2, ?_⟩
      rw [new_at, eu3, s3.1, q1]
      show some 0 = some (cnt (new 0 y (colw (new 0 v w))) c3 v)
      rw [hC3, q2]
    · by_cases vy : v = y
      · subst vy
        have hcb : car 0 v (colw w) v = none := car_le (Nat.le_refl _)
        have hcb' : car 0 v (colw (new 0 x w)) v = none := car_le (Nat.le_refl _)
        rw [hcb, hcb'] at I
        have hC : ∀ γ, cnt (new 0 v (colw w)) γ v = cnt (colw w) γ v := fun γ => by rw [hC1, hcb]; simp
        obtain ⟨I2, r3, q1, q2⟩ := pure_y (D v) (ha v) I (hR2 v) (hC2 v)
        have e1 : (fun r => cnt w r (v+1)) = (fun r => cnt w r v) := funext fun r => by rw [cnt_succ, hy]; simp
        have e2 : (fun c => cnt (colw w) c (v+1)) = (fun c => cnt (colw w) c v) := funext fun c => by rw [cnt_succ, huy]; simp
        have s1 := new_st (k := 0) (w := w) vx
        rw [hy, st_none] at s1
        have s3 := new_st (k := 0) (w := colw (new 0 v (colw w))) vx
        have e5 : colw (new 0 v (colw w)) v = some (cnt (colw w) 0 v) := by rw [ew1, new_at]; show some (cnt (new 0 v (colw w)) 0 v) = _; rw [hC]
        rw [e5] at s3
        rw [e1, e2, car_at, car_at, s1.2, s3.2]
        refine ⟨I2, ?_⟩
        rw [s3.1, q1, eu3, new_at]
        show some r3 = some (cnt (new 0 v (colw (new 0 x w))) 0 v)
        rw [hC3, hcb', ← q2]; simp
      · have s1 := new_st (k := 0) (w := colw w) vy
        have s2 := new_st (k := 0) (w := w) vx
        have s3 := new_st (k := 0) (w := colw (new 0 y (colw w))) vx
        have s4 := new_st (k := 0) (w := colw (new 0 x w)) vy
        cases e : w v with
        | none =>
          have e' : colw w v = none := colw_none.2 e
          rw [e', st_none] at s1
          rw [e, st_none] at s2
          have e3 : colw (new 0 y (colw w)) v = none := colw_none.2 s1.1
          have e4 : colw (new 0 x w) v = none := colw_none.2 s2.1
          rw [e3, st_none] at s3
          rw [e4, st_none] at s4
          have e1 : (fun r => cnt w r (v+1)) = (fun r => cnt w r v) := funext fun r => by rw [cnt_succ, e]; simp
          have e2 : (fun c => cnt (colw w) c (v+1)) = (fun c => cnt (colw w) c v) := funext fun c => by rw [cnt_succ, e']; simp
          rw [e1, e2, s1.2, s2.2, s3.2, s4.2]
          refine ⟨I, ?_⟩
          rw [s3.1, eu3, s4.1]; rfl
        | some r =>
          have e' : colw w v = some (cnt w r v) := by rw [eu, e]; rfl
          rw [e'] at s1
          rw [e] at s2
          rw [ew1, s1.1] at s3
          rw [eu2, s2.1] at s4
          obtain ⟨I2, r3, c3, q1, q2, q3⟩ := pure_step (D v) (ha v) (hb v) I (r := r) (c := cnt w r v) rfl (corner hw e) (hC1 v) (hR2 v) (hC2 v)
          have e1 : (fun ρ => cnt w ρ (v+1)) = (fun ρ => cnt w ρ v + if some r = some ρ then 1 else 0) := funext fun ρ => by rw [cnt_succ, e]
          have e2 : (fun c => cnt (colw w) c (v+1)) = (fun γ => cnt (colw w) γ v + if some (cnt w r v) = some γ then 1 else 0) := funext fun c => by rw [cnt_succ, e']
          rw [e1, e2, s1.2, s2.2, s3.2, s4.2]
          refine ⟨I2, ?_⟩
          rw [s3.1, q1, eu3, s4.1, q2]
          show some r3 = some (cnt (new 0 y (colw (new 0 x w))) c3 v)
          rw [hC3, q3]
  have all : ∀ v, Inv (fun r => cnt w r v) (fun c => cnt (colw w) c v) (car 0 x w v) (car 0 y (colw w) v) (car 0 x (colw (new 0 y (colw w))) v) (car 0 y (colw (new 0 x w)) v) := by
    intro v
    induction v with
    | zero => exact .nn
    | succ v ih => exact (step v ih).1
  funext v
  exact (step v (all v)).2

/-! ### the order from behind -/
/-- putting in by a column -/
def cin (y : Nat) (w : Nat → Option Nat) : Nat → Option Nat := colw (new 0 y (colw w))

theorem colw_none0 : colw none0 = none0 := rfl

theorem cin_none0 (x : Nat) : cin x none0 = new 0 x none0 := by
  have h : ∀ v, new 0 x none0 v = if v = x then some 0 else none := by
    intro v
    by_cases e : v = x
    · subst e; rw [new_at, if_pos rfl]
    · rw [if_neg e]; exact new_none.2 ⟨rfl, e⟩
  unfold cin
  rw [colw_none0]
  funext v
  rw [h v]
  unfold colw
  rw [h v]
  by_cases e : v = x
  · subst e
    rw [if_pos rfl]
    show some (cnt (new 0 v none0) 0 v) = some 0
    rw [cnt_congr (w' := none0) (fun u hu => new_lt hu)]
    congr 1
    have h : ∀ n, cnt none0 0 n = 0 := by
      intro n
      induction n with
      | zero => rfl
      | succ n ih => rw [cnt_succ, ih]; rfl
    exact h v
  · rw [if_neg e]; rfl

theorem cin_std {w : Nat → Option Nat} {y : Nat} (hw : Std w) (hy : w y = none) : Std (cin y w) := std_colw (std_new (std_colw hw) (colw_none.2 hy))
theorem cin_none {w : Nat → Option Nat} {y v : Nat} : cin y w v = none ↔ w v = none ∧ v ≠ y := by
  unfold cin
  rw [colw_none, new_none, colw_none]

theorem run_cin : ∀ {σ : List Nat} {w : Nat → Option Nat} {y : Nat}, Std w → w y = none → (∀ x ∈ σ, w x = none) → y ∉ σ → σ.Nodup → run (cin y w) σ = cin y (run w σ)
  | [], _, _, _, _, _, _, _ => rfl
  | x :: σ, w, y, hw, hy, hx, hys, hd => by
    have hn := List.nodup_cons.1 hd
    have hxy : x ≠ y := fun e => hys (by simp [e])
    have hwx := hx x (by simp)
    rw [run_cons, run_cons]
    have e : new 0 x (cin y w) = cin y (new 0 x w) := commute hw hwx hy hxy
    rw [e]
    exact run_cin (std_new hw hwx) (new_none.2 ⟨hy, Ne.symm hxy⟩) (fun z hz => new_none.2 ⟨hx z (by simp [hz]), fun q => hn.1 (q ▸ hz)⟩) (fun z => hys (by simp [z])) hn.2

theorem nodup_rev {σ : List Nat} (h : σ.Nodup) : σ.reverse.Nodup := List.pairwise_reverse.2 (List.Pairwise.imp (fun z => Ne.symm z) h)

theorem run_reverse : ∀ {σ : List Nat}, σ.Nodup → run none0 σ = colw (run none0 σ.reverse)
  | [], _ => rfl
  | x :: σ, hd => by
    have hn := List.nodup_cons.1 hd
    rw [run_cons, ← cin_none0, run_cin std_none rfl (fun _ _ => rfl) hn.1 hn.2, run_reverse hn.2, List.reverse_cons, run_snoc]
    unfold cin
    have hnr : σ.reverse.Nodup := nodup_rev hn.2
    rw [colw_colw (std_run std_none hnr (fun _ _ => rfl))]

/-- the order mirrored has one turned over: the word of the rows is the other's word of the columns -/
theorem run_mirrored {σ : List Nat} (hd : σ.Nodup) : run none0 σ.reverse = colw (run none0 σ) := by
  have h := run_reverse (σ := σ.reverse) (nodup_rev hd)
  rw [List.reverse_reverse] at h
  exact h

end RSK

/-! The plain law, part 4: sizes; orders; the undone order; the tables turned over. -/
namespace RSK

theorem putIn_bound {i : Nat} : ∀ {rows : List (List Nat)} {x : Nat}, (∀ r ∈ rows, r.length ≤ i) → ∀ r ∈ (putIn rows x).1, r.length ≤ i + 1
  | [], x, _, r, hr => by
    rw [show (putIn [] x).1 = [[x]] from rfl, List.mem_singleton] at hr
    rw [hr]; simp
  | row :: rest, x, h, r, hr => by
    have h0 := h row (by simp)
    unfold putIn at hr
    by_cases e : (row.filter (· < x)).length = row.length
    · rw [if_pos e] at hr
      rcases List.mem_cons.1 hr with z | z
      · rw [z, List.length_append, List.length_singleton]; omega
      · have := h r (by simp [z]); omega
    · rw [if_neg e] at hr
      rcases List.mem_cons.1 hr with z | z
      · rw [z, List.length_set]; omega
      · exact putIn_bound (fun r hr => h r (by simp [hr])) r z
theorem addAt_bound {rows : List (List Nat)} {i a j : Nat} (h : ∀ r ∈ rows, r.length ≤ i) : ∀ r ∈ addAt rows a j, r.length ≤ i + 1 := by
  intro r hr
  unfold addAt at hr
  by_cases e : a = rows.length
  · rw [if_pos e] at hr
    rcases List.mem_append.1 hr with z | z
    · have := h r z; omega
    · rw [List.mem_singleton.1 z]; simp
  · rw [if_neg e] at hr
    rcases List.mem_or_eq_of_mem_set hr with z | z
    · have := h r z; omega
    · rw [z, List.length_append, List.length_singleton]
      by_cases q : a < rows.length
      · have := h (rows.getD a []) (by rw [List.getD_eq_getElem?_getD, List.getElem?_eq_getElem q]; exact List.getElem_mem q)
        omega
      · rw [List.getD_eq_getElem?_getD, List.getElem?_eq_none (by omega)]; simp

/-! ### orders -/
theorem incr_range : ∀ {l : List Nat} {a : Nat}, l.Pairwise (· < ·) → (∀ x ∈ l, a ≤ x ∧ x < a + l.length) → l = List.range' a l.length
  | [], _, _, _ => rfl
  | x :: l, a, hp, hb => by
    have h := List.pairwise_cons.1 hp
    have hx := hb x (by simp)
    -- the last is at least x + l.length
    have grow : ∀ (l : List Nat) (x : Nat), (x :: l).Pairwise (· < ·) → ∀ b, (∀ y ∈ x :: l, y < b) → x + l.length < b := by
      intro l
      induction l with
      | nil => intro x _ b hb; have := hb x (by simp); simpa using this
      | cons y l ih =>
        intro x hp b hb
        have h := List.pairwise_cons.1 hp
        have h1 := h.1 y (by simp)
        have h2 := ih y h.2 b (fun z hz => hb z (by simp [List.mem_cons.1 hz]))
        rw [List.length_cons]; omega
    have h1 := grow l x hp _ (fun y hy => (hb y hy).2)
    rw [List.length_cons] at h1
    have hxa : x = a := by omega
    subst hxa
    rw [List.length_cons, List.range'_succ]
    congr 1
    refine incr_range h.2 fun y hy => ?_
    have h3 := h.1 y hy
    have h4 := hb y (by simp [hy])
    rw [List.length_cons] at h4
    omega

/-- sorted, an order is 0, 1, .. -/
theorem sort_order {σ : List Nat} (h : Ord σ.length σ) {ms : List Int} (hp : ms.Perm (σ.map Int.ofNat)) (hs : ms.Pairwise (· ≤ ·)) : ms = (List.range σ.length).map Int.ofNat := by
  have hnd : (σ.map Int.ofNat).Nodup := List.pairwise_map.2 (List.Pairwise.imp (fun {a b} z e => z (Int.ofNat.inj e)) h.1)
  have hnd2 : ms.Nodup := hp.nodup_iff.2 hnd
  have hlt : ms.Pairwise (· < ·) := List.Pairwise.imp₂ (fun a b h1 h2 => by omega) hs hnd2
  -- back to Nat
  have hnn : ∀ m ∈ ms, ∃ n : Nat, m = Int.ofNat n ∧ n < σ.length := fun m hm => by
    obtain ⟨n, hn, e⟩ := List.mem_map.1 (hp.mem_iff.1 hm)
    exact ⟨n, e.symm, h.2 n hn⟩
  have e1 : ms = (ms.map Int.toNat).map Int.ofNat := by
    rw [List.map_map]
    have : ms.map id = ms := List.map_id ms
    conv => lhs; rw [← this]
    refine List.map_congr_left fun m hm => ?_
    obtain ⟨n, rfl, _⟩ := hnn m hm
    rfl
  have hl : (ms.map Int.toNat).length = σ.length := by rw [List.length_map, hp.length_eq, List.length_map]
  have e2 : ms.map Int.toNat = List.range' 0 (ms.map Int.toNat).length := by
    refine incr_range ?_ fun x hx => ?_
    · refine List.pairwise_map.2 (List.Pairwise.imp_of_mem (fun {a b} ha hb hab => ?_) hlt)
      obtain ⟨n, rfl, _⟩ := hnn a ha
      obtain ⟨m, rfl, _⟩ := hnn b hb
      show n < m
      have : (n : Int) < (m : Int) := hab
      omega
    · obtain ⟨m, hm, rfl⟩ := List.mem_map.1 hx
      obtain ⟨n, rfl, hn⟩ := hnn m hm
      rw [hl]
      show 0 ≤ n ∧ n < _
      omega
  rw [e1, e2, hl, ← List.range_eq_range']

theorem nodup_len : ∀ (n : Nat) {l : List Nat}, l.Nodup → (∀ x ∈ l, x < n) → l.length ≤ n
  | 0, [], _, _ => Nat.le_refl _
  | 0, x :: l, _, h => by have := h x (by simp); omega
  | n+1, l, hd, h => by
    have h1 : (l.erase n).length ≤ n := nodup_len n (hd.erase n) fun x hx => by
      have h2 := h x (List.mem_of_mem_erase hx)
      have h3 : x ≠ n := ((hd.mem_erase_iff).1 hx).1
      omega
    by_cases hm : n ∈ l
    · rw [List.length_erase_of_mem hm] at h1; omega
    · rw [List.erase_of_not_mem hm] at h1; omega
theorem order_onto {σ : List Nat} (h : Ord σ.length σ) {v : Nat} (hv : v < σ.length) : v ∈ σ := by
  by_cases hm : v ∈ σ
  · exact hm
  · have := nodup_len σ.length (l := v :: σ) (List.nodup_cons.2 ⟨hm, h.1⟩) (fun x hx => by
      rcases List.mem_cons.1 hx with z | z
      · rw [z]; exact hv
      · exact h.2 x z)
    rw [List.length_cons] at this
    omega

theorem nd_index {σ : List Nat} (h : σ.Nodup) {i j v : Nat} (hi : σ[i]? = some v) (hj : σ[j]? = some v) : i = j := by
  obtain ⟨h1, e1⟩ := List.getElem?_eq_some_iff.1 hi
  obtain ⟨h2, e2⟩ := List.getElem?_eq_some_iff.1 hj
  exact (List.getElem_inj h).1 (e1.trans e2.symm)

/-- what found is behind all turns -/
theorem undo_all {σ τ : List Nat} (h : Ord σ.length σ) (hl : τ.length = σ.length) (ht : ∀ (i v : Nat), σ[i]? = some v → τ[v]? = some i) : Ord σ.length τ ∧ ∀ (i v : Nat), τ[v]? = some i ↔ σ[i]? = some v := by
  have back : ∀ (i v : Nat), τ[v]? = some i → σ[i]? = some v := fun i v e => by
    have hv := (List.getElem?_eq_some_iff.1 e).1
    obtain ⟨j, hj⟩ := List.getElem?_of_mem (order_onto h (v := v) (by omega))
    have := ht j v hj
    rw [e] at this
    cases this
    exact hj
  refine ⟨⟨?_, fun x hx => ?_⟩, fun i v => ⟨back i v, ht i v⟩⟩
  · refine List.pairwise_iff_getElem.2 fun i j hi hj hij e => ?_
    have h1 := back τ[i] i (List.getElem?_eq_getElem hi)
    have h2 := back τ[j] j (List.getElem?_eq_getElem hj)
    rw [e, h2] at h1
    cases h1
    omega
  · obtain ⟨v, hv⟩ := List.getElem?_of_mem hx
    exact (List.getElem?_eq_some_iff.1 (back x v hv)).1

/-! ### turned over -/
def over (grid : List (List Nat)) : List (List Nat) := (List.range (grid.getD 0 []).length).map fun k => (grid.filter (fun row => k < row.length)).map fun row => row.getD k 0

theorem Rep.get {w : Nat → Option Nat} {n : Nat} : ∀ {k : Nat} {rows : List (List Nat)}, Rep w n k rows → ∀ {j : Nat} {row : List Nat}, rows[j]? = some row → Row w n (k + j) row
  | k, [], _, j, row, e => by simp at e
  | k, r :: rest, h, 0, row, e => by
    have : r = row := by simpa using e
    subst this
    exact h.1
  | k, r :: rest, h, j+1, row, e => by
    have := Rep.get h.2 (j := j) (row := row) (by simpa using e)
    rw [show k + 1 + j = k + (j + 1) by omega] at this
    exact this
theorem Rep.lt {w : Nat → Option Nat} {n : Nat} : ∀ {k : Nat} {rows : List (List Nat)}, Rep w n k rows → ∀ {v r : Nat}, v < n → w v = some r → r < k + rows.length
  | k, [], h, v, r, hv, e => h v hv r e
  | k, _ :: rest, h, v, r, hv, e => by
    have := Rep.lt h.2 hv e
    rw [List.length_cons]; omega
theorem Rep.mk {w : Nat → Option Nat} {n : Nat} : ∀ {k : Nat} {rows : List (List Nat)}, (∀ (j : Nat) (row : List Nat), rows[j]? = some row → Row w n (k + j) row) → (∀ v r, v < n → w v = some r → r < k + rows.length) → Rep w n k rows
  | k, [], _, h2 => fun v hv r e => h2 v r hv e
  | k, row :: rest, h1, h2 => ⟨h1 0 row rfl, Rep.mk (fun j r e => by
      have := h1 (j+1) r (by simpa using e)
      rw [show k + (j + 1) = k + 1 + j by omega] at this
      exact this) fun v r hv e => by
        have := h2 v r hv e
        rw [List.length_cons] at this; omega⟩

theorem row_len {w : Nat → Option Nat} {k : Nat} : ∀ (n : Nat) {row : List Nat}, Row w n k row → row.length = cnt w k n
  | 0, row, h => by
    cases row with
    | nil => rfl
    | cons v r => have := ((h.2 v).1 (by simp)).1; omega
  | n+1, row, h => by
    rw [cnt_succ]
    by_cases e : w n = some k
    · rw [if_pos e]
      obtain ⟨A, rfl⟩ := row_last h.1 ((h.2 n).2 ⟨by omega, e⟩) (fun v hv => by have := ((h.2 v).1 hv).1; omega)
      have hp := List.pairwise_append.1 h.1
      rw [List.length_append, List.length_singleton, row_len n (row := A) ⟨hp.1, fun v => ?_⟩]
      have hm := h.2 v
      rw [List.mem_append, List.mem_singleton] at hm
      constructor
      · intro z
        have := hp.2.2 v z n (by simp)
        exact ⟨this, (hm.1 (.inl z)).2⟩
      · rintro ⟨z1, z2⟩
        rcases hm.2 ⟨by omega, z2⟩ with z | z
        · exact z
        · omega
    · rw [if_neg e, row_len n ⟨h.1, fun v => ?_⟩, Nat.add_zero]
      rw [h.2 v]
      constructor
      · rintro ⟨z1, z2⟩
        refine ⟨?_, z2⟩
        have : v ≠ n := fun q => e (q ▸ z2)
        omega
      · rintro ⟨z1, z2⟩
        exact ⟨by omega, z2⟩

/-- the k-th of a row is the number ahead of which there are k in it -/
theorem row_at {w : Nat → Option Nat} {n r : Nat} {row : List Nat} (h : Row w n r row) {k v : Nat} : row[k]? = some v ↔ v < n ∧ w v = some r ∧ cnt w r v = k := by
  have one : ∀ k v, row[k]? = some v → cnt w r v = k := by
    intro k v e
    obtain ⟨hk, e1⟩ := List.getElem?_eq_some_iff.1 e
    have ht : Row w v r (row.take k) := by
      refine ⟨h.1.sublist (List.take_sublist k row), fun u => ?_⟩
      have hp := List.pairwise_iff_getElem.1 h.1
      constructor
      · intro hu
        obtain ⟨j, hj⟩ := List.getElem?_of_mem hu
        have hjk := (List.getElem?_eq_some_iff.1 hj).1
        rw [List.length_take] at hjk
        rw [List.getElem?_take_of_lt (by omega)] at hj
        obtain ⟨hj1, hj2⟩ := List.getElem?_eq_some_iff.1 hj
        have := hp j k hj1 hk (by omega)
        rw [hj2, e1] at this
        exact ⟨this, ((h.2 u).1 (List.mem_of_getElem? hj)).2⟩
      · rintro ⟨h1, h2⟩
        have hvn := ((h.2 v).1 (List.mem_of_getElem? e)).1
        obtain ⟨j, hj⟩ := List.getElem?_of_mem ((h.2 u).2 ⟨by omega, h2⟩)
        obtain ⟨hj1, hj2⟩ := List.getElem?_eq_some_iff.1 hj
        have hjk : j < k := by
          by_cases q : j < k
          · exact q
          · by_cases q2 : j = k
            · subst q2
              rw [hj] at e
              cases e
              omega
            · have := hp k j hk hj1 (by omega)
              rw [hj2, e1] at this
              omega
        exact List.mem_of_getElem? (i := j) (by rw [List.getElem?_take_of_lt hjk]; exact hj)
    have := row_len v ht
    rw [List.length_take] at this
    omega
  constructor
  · intro e
    have := (h.2 v).1 (List.mem_of_getElem? e)
    exact ⟨this.1, this.2, one k v e⟩
  · rintro ⟨h1, h2, h3⟩
    obtain ⟨j, hj⟩ := List.getElem?_of_mem ((h.2 v).2 ⟨h1, h2⟩)
    rw [one j v hj] at h3
    rw [← h3]
    exact hj

theorem std_le {w : Nat → Option Nat} (hw : Std w) (v : Nat) {r s : Nat} (h : r ≤ s) : cnt w s v ≤ cnt w r v := by
  induction h with
  | refl => exact Nat.le_refl _
  | step _ ih => exact Nat.le_trans (hw v _) ih

theorem over_rep {w : Nat → Option Nat} {n : Nat} {grid : List (List Nat)} (hw : Std w) (h : Rep w n 0 grid) : Rep (colw w) n 0 (over grid) := by
  have hget : ∀ (r : Nat) (row : List Nat), grid[r]? = some row → Row w n r row := fun r row e => by
    have := Rep.get h e
    rwa [Nat.zero_add] at this
  refine Rep.mk (fun k row e => ?_) fun v c hv e => ?_
  · unfold over at e
    rw [List.getElem?_map] at e
    cases hk : (List.range (grid.getD 0 []).length)[k]? with
    | none => rw [hk] at e; cases e
    | some k' =>
      rw [hk] at e
      have hk2 := (List.getElem?_eq_some_iff.1 hk)
      have hk3 : k' = k := by
        obtain ⟨a, b⟩ := hk2
        rw [List.getElem_range] at b
        exact b.symm
      subst hk3
      have e2 : row = (grid.filter (fun row => k' < row.length)).map fun row => row.getD k' 0 := (Option.some.inj e).symm
      subst e2
      rw [Nat.zero_add]
      refine ⟨?_, fun v => ?_⟩
      · -- rising down the column
        have key : ∀ (i j : Nat) (a b : List Nat), i < j → grid[i]? = some a → grid[j]? = some b → k' < a.length → k' < b.length → a.getD k' 0 < b.getD k' 0 := by
          intro i j a b hij ha hb la lb
          have ea : a[k']? = some (a.getD k' 0) := by rw [List.getD_eq_getElem?_getD, List.getElem?_eq_getElem la]; rfl
          have eb : b[k']? = some (b.getD k' 0) := by rw [List.getD_eq_getElem?_getD, List.getElem?_eq_getElem lb]; rfl
          generalize a.getD k' 0 = u at *
          generalize b.getD k' 0 = v at *
          obtain ⟨u1, u2, u3⟩ := (row_at (hget i a ha)).1 ea
          obtain ⟨v1, v2, v3⟩ := (row_at (hget j b hb)).1 eb
          have h1 := std_le hw (v+1) (Nat.le_of_lt hij)
          rw [cnt_succ, cnt_succ, v2, if_pos rfl, if_neg (by simp; omega)] at h1
          by_cases q : u < v
          · exact q
          · have := cnt_mono w i (show v ≤ u by omega)
            omega
        rw [List.pairwise_map]
        refine List.Pairwise.imp_of_mem (R := fun a b => ∃ i j : Nat, i < j ∧ grid[i]? = some a ∧ grid[j]? = some b) (fun {a b} ha hb z => ?_) ?_
        · obtain ⟨i, j, hij, h1, h2⟩ := z
          exact key i j a b hij h1 h2 (by simpa using (List.mem_filter.1 ha).2) (by simpa using (List.mem_filter.1 hb).2)
        · refine List.Pairwise.sublist List.filter_sublist (List.pairwise_iff_getElem.2 fun i j hi hj hij => ⟨i, j, hij, List.getElem?_eq_getElem hi, List.getElem?_eq_getElem hj⟩)
      · rw [List.mem_map]
        constructor
        · rintro ⟨a, ha, rfl⟩
          obtain ⟨ha1, ha2⟩ := List.mem_filter.1 ha
          have la : k' < a.length := by simpa using ha2
          have ea : a[k']? = some (a.getD k' 0) := by rw [List.getD_eq_getElem?_getD, List.getElem?_eq_getElem la]; rfl
          obtain ⟨r, hr⟩ := List.getElem?_of_mem ha1
          obtain ⟨u1, u2, u3⟩ := (row_at (hget r a hr)).1 ea
          refine ⟨u1, ?_⟩
          show (w (a.getD k' 0)).map (fun r => cnt w r (a.getD k' 0)) = some k'
          rw [u2]
          exact congrArg some u3
        · rintro ⟨h1, h2⟩
          unfold colw at h2
          cases hwv : w v with
          | none => rw [hwv] at h2; cases h2
          | some r =>
            rw [hwv] at h2
            have h3 : cnt w r v = k' := Option.some.inj h2
            have hr := Rep.lt h h1 hwv
            rw [Nat.zero_add] at hr
            have hrow : grid[r]? = some grid[r] := List.getElem?_eq_getElem hr
            have hat := (row_at (hget r _ hrow)).2 ⟨h1, hwv, h3⟩
            have hlt := (List.getElem?_eq_some_iff.1 hat).1
            refine ⟨grid[r], List.mem_filter.2 ⟨List.getElem_mem hr, by simpa using hlt⟩, ?_⟩
            rw [List.getD_eq_getElem?_getD, hat]; rfl
  · unfold colw at e
    cases hwv : w v with
    | none => rw [hwv] at e; cases e
    | some r =>
      rw [hwv] at e
      have h3 : cnt w r v = c := Option.some.inj e
      have hr := Rep.lt h hv hwv
      rw [Nat.zero_add] at hr ⊢
      unfold over
      rw [List.length_map, List.length_range]
      have h0 : grid[0]? = some grid[0] := List.getElem?_eq_getElem (by omega)
      have hl := row_len n (hget 0 _ h0)
      rw [List.getD_eq_getElem?_getD, h0]
      show c < grid[0].length
      rw [hl]
      have h4 := std_le hw (v+1) (Nat.zero_le r)
      rw [cnt_succ w r, hwv, if_pos rfl] at h4
      have h5 := cnt_mono w 0 (show v + 1 ≤ n by omega)
      omega

theorem over_ne {grid : List (List Nat)} : ∀ r ∈ over grid, r ≠ [] := by
  intro r hr e
  obtain ⟨k, hk, rfl⟩ := List.mem_map.1 hr
  have hk := List.mem_range.1 hk
  cases grid with
  | nil => simp at hk
  | cons row rest =>
    have hk : k < row.length := by simpa using hk
    rw [List.filter_cons_of_pos (by simpa using hk)] at e
    simp at e

/-- the order mirrored has the first table turned over -/
theorem tables_mirrored {n : Nat} {σ : List Nat} (h : Ord n σ) : (tables σ.reverse).1 = over (tables σ).1 := by
  have hr : Ord n σ.reverse := ⟨nodup_rev h.1, fun x hx => h.2 x (List.mem_reverse.1 hx)⟩
  obtain ⟨a1, a2, a3, a4, a5, a6⟩ := tables_rep h
  obtain ⟨b1, b2, b3, b4, b5, b6⟩ := tables_rep hr
  rw [run_mirrored h.1] at b1
  exact Rep.unique b1 (over_rep (std_run std_none h.1 fun _ _ => rfl) a1) b4 over_ne

end RSK

/-! The plain law, part 5: the orders that the law draws. -/
namespace RSK

/-- an order, by its places -/
theorem ord_of {n : Nat} {σ : List Nat} (hl : σ.length = n) (hb : ∀ (i v : Nat), σ[i]? = some v → v < n) (hi : ∀ (i j v : Nat), σ[i]? = some v → σ[j]? = some v → i = j) : Ord n σ := by
  refine ⟨List.pairwise_iff_getElem.2 fun i j h1 h2 hij e => ?_, fun x hx => ?_⟩
  · have := hi i j σ[i] (List.getElem?_eq_getElem h1) (by rw [e]; exact List.getElem?_eq_getElem h2)
    omega
  · obtain ⟨i, h⟩ := List.getElem?_of_mem hx
    exact hb i x h

theorem ord_range (n : Nat) : Ord n (List.range n) := ⟨List.nodup_range, fun x hx => List.mem_range.1 hx⟩

theorem ord_insert {k p : Nat} {σ : List Nat} (h : Ord k σ) : Ord (k+1) (σ.take p ++ [k] ++ σ.drop p) := by
  have hk : k ∉ σ := fun z => by have := h.2 k z; omega
  have hperm : (σ.take p ++ [k] ++ σ.drop p).Perm (k :: σ) := by
    rw [List.append_assoc]
    have h1 : (σ.take p ++ ([k] ++ σ.drop p)).Perm (k :: (σ.take p ++ σ.drop p)) := List.perm_middle
    rwa [List.take_append_drop] at h1
  refine ⟨hperm.nodup_iff.2 (List.nodup_cons.2 ⟨hk, h.1⟩), fun x hx => ?_⟩
  rcases List.mem_cons.1 (hperm.mem_iff.1 hx) with z | z
  · omega
  · have := h.2 x z; omega

theorem ord_swap {n i j x y : Nat} {σ : List Nat} (h : Ord n σ) (hl : σ.length = n) (hi : σ[i]? = some x) (hj : σ[j]? = some y) : Ord n ((σ.set i y).set j x) ∧ ((σ.set i y).set j x).length = n := by
  have hil := (List.getElem?_eq_some_iff.1 hi).1
  have hjl := (List.getElem?_eq_some_iff.1 hj).1
  have hlen : ((σ.set i y).set j x).length = n := by rw [List.length_set, List.length_set]; exact hl
  -- where each stood
  have key : ∀ (k v : Nat), ((σ.set i y).set j x)[k]? = some v → σ[if k = j then i else if k = i then j else k]? = some v := by
    intro k v e
    by_cases h1 : k = j
    · subst h1
      rw [if_pos rfl]
      rw [List.getElem?_set_self (by rw [List.length_set]; exact hjl)] at e
      cases e
      exact hi
    · rw [if_neg h1]
      rw [List.getElem?_set_ne (Ne.symm h1)] at e
      by_cases h2 : k = i
      · subst h2
        rw [if_pos rfl]
        rw [List.getElem?_set_self hil] at e
        cases e
        exact hj
      · rw [if_neg h2]
        rw [List.getElem?_set_ne (Ne.symm h2)] at e
        exact e
  refine ⟨ord_of hlen (fun k v e => h.2 v (List.mem_of_getElem? (key k v e))) (fun k l v e1 e2 => ?_), hlen⟩
  have := nd_index h.1 (key k v e1) (key l v e2)
  by_cases a : k = j <;> by_cases b : l = j <;> by_cases c : k = i <;> by_cases d : l = i <;> simp only [a, b, c, d, if_true, if_false] at this <;> first | omega | (split at this <;> omega)

theorem ord_rev {n : Nat} {σ : List Nat} (h : Ord n σ) : Ord n σ.reverse := ⟨nodup_rev h.1, fun x hx => h.2 x (List.mem_reverse.1 hx)⟩

theorem succ_mod {a b m : Nat} (ha : a < m) (hb : b < m) (h : (a + 1) % m = (b + 1) % m) : a = b := by
  by_cases h1 : a + 1 = m
  · by_cases h2 : b + 1 = m
    · omega
    · rw [h1, Nat.mod_self, Nat.mod_eq_of_lt (show b + 1 < m by omega)] at h
      omega
  · rw [Nat.mod_eq_of_lt (show a + 1 < m by omega)] at h
    by_cases h2 : b + 1 = m
    · rw [h2, Nat.mod_self] at h; omega
    · rw [Nat.mod_eq_of_lt (show b + 1 < m by omega)] at h; omega

/-- one round: at each number of row stands the next one of row -/
theorem ord_cycle {m : Nat} {row σ : List Nat} (h : Ord m row) (hr : row.length = m) (hl : σ.length = m) (hs : ∀ (k x y : Nat), row[k]? = some x → row[(k+1) % m]? = some y → σ[x]? = some y) : Ord m σ := by
  subst hr
  have key : ∀ (i v : Nat), σ[i]? = some v → ∃ k, k < row.length ∧ row[k]? = some i ∧ row[(k+1) % row.length]? = some v := by
    intro i v e
    have hi := (List.getElem?_eq_some_iff.1 e).1
    obtain ⟨k, hk⟩ := List.getElem?_of_mem (order_onto h (v := i) (by omega))
    have hkl := (List.getElem?_eq_some_iff.1 hk).1
    have hm := Nat.mod_lt (k+1) (show row.length > 0 by omega)
    have h2 : row[(k+1) % row.length]? = some row[(k+1) % row.length] := List.getElem?_eq_getElem hm
    have h3 := hs k i _ hk h2
    rw [e] at h3
    rw [h3]
    exact ⟨k, hkl, hk, h2⟩
  refine ord_of hl (fun i v e => ?_) (fun i j v e1 e2 => ?_)
  · obtain ⟨k, _, _, h3⟩ := key i v e
    exact h.2 v (List.mem_of_getElem? h3)
  · obtain ⟨k, k1, k2, k3⟩ := key i v e1
    obtain ⟨l, l1, l2, l3⟩ := key j v e2
    have e := nd_index h.1 k3 l3
    have e2 := succ_mod k1 l1 e
    subst e2
    rw [k2] at l2
    exact Option.some.inj l2

theorem ord_beside {c m : Nat} {σ τ : List Nat} (hc : c ≤ m) (h1 : Ord c σ) (h2 : Ord (m - c) τ) : Ord m (σ ++ τ.map (c + ·)) := by
  refine ⟨List.nodup_append.2 ⟨h1.1, List.pairwise_map.2 (List.Pairwise.imp (fun z e => z (by omega)) h2.1), fun a ha b hb e => ?_⟩, fun x hx => ?_⟩
  · obtain ⟨t, _, rfl⟩ := List.mem_map.1 hb
    have := h1.2 a ha
    omega
  · rcases List.mem_append.1 hx with z | z
    · have := h1.2 x z; omega
    · obtain ⟨t, ht, rfl⟩ := List.mem_map.1 z
      have := h2.2 t ht; omega

end RSK

/-! The plain law, part 6: the drawn table and the filled one. -/
namespace RSK

theorem cnt_zero {w : Nat → Option Nat} {k : Nat} : ∀ {n : Nat}, (∀ v, v < n → w v ≠ some k) → cnt w k n = 0
  | 0, _ => rfl
  | n+1, h => by
    rw [cnt_succ, if_neg (h n (by omega)), cnt_zero fun v hv => h v (by omega)]
theorem rep_len {w : Nat → Option Nat} {n : Nat} {rows : List (List Nat)} (h : Rep w n 0 rows) (k : Nat) : cnt w k n = (rows.getD k []).length := by
  rw [List.getD_eq_getElem?_getD]
  cases e : rows[k]? with
  | none =>
    have hk := List.getElem?_eq_none_iff.1 e
    rw [cnt_zero fun v hv z => by
      have := Rep.lt h hv z
      omega]
    rfl
  | some row =>
    have := Rep.get h e
    rw [Nat.zero_add] at this
    exact (row_len n this).symm

/-- a table of n numbers -/
structure Tabl (n : Nat) (rows : List (List Nat)) (p : Nat → Option Nat) : Prop where
  rep : Rep p n 0 rows
  std : Std p
  up : ∀ v, n ≤ v → p v = none
  full : ∀ v, v < n → p v ≠ none
  sum : (rows.map List.length).sum = n

/-- one more number at a corner -/
theorem Tabl.add {n a : Nat} {rows : List (List Nat)} {p : Nat → Option Nat} (t : Tabl n rows p) (ha : a ≤ rows.length) (hc : ∀ k, a = k + 1 → (rows.getD (k+1) []).length < (rows.getD k []).length) : ∃ p', Tabl (n+1) (addAt rows a n) p' := by
  have hlt : ∀ v, v < n → (fun v => if v = n then some a else p v) v = p v := fun v hv => by
    show (if v = n then some a else p v) = p v
    rw [if_neg (by omega)]
  have hat : (fun v => if v = n then some a else p v) n = some a := by
    show (if n = n then some a else p n) = some a
    rw [if_pos rfl]
  have hup : ∀ v, n + 1 ≤ v → (fun v => if v = n then some a else p v) v = none := fun v hv => by
    show (if v = n then some a else p v) = none
    rw [if_neg (by omega)]
    exact t.up v (by omega)
  refine ⟨fun v => if v = n then some a else p v, addAt_rep t.rep ha (fun j hj => hlt j hj) (by rw [Nat.zero_add]; exact hat), ?_, hup, ?_, by rw [addAt_sum ha, t.sum]⟩
  · generalize (fun v => if v = n then some a else p v) = p' at hlt hat hup
    have hn : ∀ k, cnt p' (k+1) (n+1) ≤ cnt p' k (n+1) := fun k => by
      rw [cnt_succ, cnt_succ, cnt_congr hlt, cnt_congr (k := k) hlt, hat]
      have h1 := t.std n k
      have h2 := rep_len t.rep (k+1)
      have h3 := rep_len t.rep k
      by_cases e : a = k + 1
      · have := hc k e
        subst e
        rw [if_pos rfl, if_neg (by simp)]
        omega
      · rw [if_neg (show ¬ some a = some (k+1) by simpa using e)]
        omega
    have htop : ∀ m k, n + 1 ≤ m → cnt p' k m = cnt p' k (n+1) := by
      intro m k hm
      induction m with
      | zero => omega
      | succ m ih =>
        by_cases e : m + 1 = n + 1
        · rw [e]
        · rw [cnt_succ, hup m (by omega), ih (by omega)]; simp
    intro m k
    by_cases hm : m ≤ n
    · rw [cnt_congr (w' := p) (fun u hu => hlt u (by omega)), cnt_congr (w' := p) (k := k) (fun u hu => hlt u (by omega))]
      exact t.std m k
    · rw [htop m (k+1) (by omega), htop m k (by omega)]
      exact hn k
  · intro v hv
    by_cases e : v = n
    · subst e; rw [if_pos rfl]; simp
    · rw [if_neg e]; exact t.full v (by omega)

theorem tabl_nil (s : Nat) : Tabl 0 (List.replicate s []) none0 := by
  refine ⟨Rep.mk (fun j row e => ?_) (fun v r hv => by omega), std_none, fun _ _ => rfl, fun v hv => by omega, ?_⟩
  · have := List.mem_of_getElem? e
    rw [(List.mem_replicate.1 this).2]
    exact ⟨List.Pairwise.nil, fun v => by simp⟩
  · rw [List.map_replicate]
    induction s with
    | zero => rfl
    | succ s ih => rw [List.replicate_succ, List.sum_cons, ih]; rfl

/-- the drawn table -/
def Drawn (n : Nat) (rows : List (List Nat)) : Prop := (∃ p, Tabl n rows p) ∧ ∀ r ∈ rows, r ≠ []
theorem drawn_nil : Drawn 0 [] := ⟨⟨none0, tabl_nil 0⟩, by simp⟩
theorem Drawn.add {n a : Nat} {rows : List (List Nat)} (d : Drawn n rows) (ha : a = rows.length ∨ (a < rows.length ∧ (a = 0 ∨ (rows.getD a []).length < (rows.getD (a - 1) []).length))) : Drawn (n+1) (addAt rows a n) := by
  obtain ⟨⟨p, t⟩, ne⟩ := d
  refine ⟨t.add (by omega) fun k e => ?_, addAt_ne ne⟩
  rcases ha with h | ⟨h1, h2⟩
  · rw [List.getD_eq_getElem?_getD, List.getElem?_eq_none (by omega), List.getD_eq_getElem?_getD, List.getElem?_eq_getElem (show k < rows.length by omega)]
    exact List.length_pos_iff.2 (ne _ (List.getElem_mem (show k < rows.length by omega)))
  · rcases h2 with h2 | h2
    · omega
    · rw [e] at h2
      exact h2

theorem sum_ge_len {l : List (List Nat)} (h : ∀ r ∈ l, r ≠ []) : l.length ≤ (l.map List.length).sum := by
  induction l with
  | nil => exact Nat.le_refl _
  | cons r l ih =>
    have h1 := List.length_pos_iff.2 (h r (by simp))
    have h2 := ih fun x hx => h x (by simp [hx])
    rw [List.map_cons, List.sum_cons, List.length_cons]
    omega
theorem sum_ge_mem : ∀ {l : List (List Nat)} {r : List Nat}, r ∈ l → r.length ≤ (l.map List.length).sum
  | x :: l, r, h => by
    rw [List.map_cons, List.sum_cons]
    rcases List.mem_cons.1 h with z | z
    · rw [z]; omega
    · have := sum_ge_mem z; omega

/-- the numbers filled in, i of them, into a shape -/
structure Fill (shape : List Nat) (i : Nat) (rows : List (List Nat)) : Prop where
  ex : ∃ q, Tabl i rows q
  len : rows.length = shape.length
  le : ∀ k, (rows.getD k []).length ≤ shape.getD k 0
theorem fill_nil (shape : List Nat) : Fill shape 0 (List.replicate shape.length []) := by
  refine ⟨⟨none0, tabl_nil _⟩, List.length_replicate, fun k => ?_⟩
  rw [List.getD_eq_getElem?_getD, List.getElem?_replicate]
  split <;> simp
theorem Fill.add {shape : List Nat} {i a : Nat} {rows : List (List Nat)} (f : Fill shape i rows) (h1 : a < rows.length) (h2 : (rows.getD a []).length < shape.getD a 0) (h3 : a = 0 ∨ (rows.getD a []).length < (rows.getD (a - 1) []).length) :
    Fill shape (i+1) (rows.set a (rows.getD a [] ++ [i])) := by
  obtain ⟨⟨q, t⟩, hl, hle⟩ := f
  have e : addAt rows a i = rows.set a (rows.getD a [] ++ [i]) := by
    unfold addAt
    rw [if_neg (by omega)]
  refine ⟨?_, by rw [List.length_set]; exact hl, fun k => ?_⟩
  · rw [← e]
    refine t.add (by omega) fun k ek => ?_
    rcases h3 with h3 | h3
    · omega
    · rw [ek] at h3; exact h3
  · by_cases ek : a = k
    · subst ek
      rw [List.getD_eq_getElem?_getD, List.getElem?_set_self h1]
      show (rows.getD a [] ++ [i]).length ≤ _
      rw [List.length_append, List.length_singleton]
      omega
    · rw [List.getD_eq_getElem?_getD, List.getElem?_set_ne ek, ← List.getD_eq_getElem?_getD]
      exact hle k

theorem sum_le_of {α : Type} : ∀ {l : List (List α)} {s : List Nat}, l.length = s.length → (∀ k, (l.getD k []).length ≤ s.getD k 0) → (l.map List.length).sum ≤ s.sum ∧ ((l.map List.length).sum = s.sum → l.map List.length = s)
  | [], [], _, _ => ⟨Nat.le_refl _, fun _ => rfl⟩
  | [], _ :: _, h, _ => by simp at h
  | _ :: _, [], h, _ => by simp at h
  | r :: l, x :: s, h, hk => by
    have h0 : r.length ≤ x := hk 0
    obtain ⟨h1, h2⟩ := sum_le_of (l := l) (s := s) (by simpa using h) fun k => by simpa using hk (k+1)
    rw [List.map_cons, List.sum_cons, List.sum_cons]
    refine ⟨by omega, fun e => ?_⟩
    rw [h2 (by omega), show r.length = x by omega]

/-- while numbers are left, one row may be made longer -/
theorem Fill.more {shape : List Nat} {i : Nat} {rows : List (List Nat)} (f : Fill shape i rows) (hi : i < shape.sum) (anti : ∀ k, shape.getD (k+1) 0 ≤ shape.getD k 0) :
    ∃ a, a < rows.length ∧ (rows.getD a []).length < shape.getD a 0 ∧ (a = 0 ∨ (rows.getD a []).length < (rows.getD (a - 1) []).length) := by
  obtain ⟨⟨q, t⟩, hl, hle⟩ := f
  have hex : ∃ a, (rows.getD a []).length < shape.getD a 0 := by
    by_cases h : ∃ a, (rows.getD a []).length < shape.getD a 0
    · exact h
    · have heq : ∀ k, shape.getD k 0 ≤ (rows.getD k []).length := fun k => by
        by_cases q : (rows.getD k []).length < shape.getD k 0
        · exact absurd ⟨k, q⟩ h
        · omega
      have h1 : rows.map List.length = shape := by
        refine List.ext_getElem (by rw [List.length_map]; exact hl) fun k h1 h2 => ?_
        rw [List.length_map] at h1
        have g1 := hle k
        have g2 := heq k
        have c1 : rows.getD k [] = rows[k] := by rw [List.getD_eq_getElem?_getD, List.getElem?_eq_getElem h1]; rfl
        have c2 : shape.getD k 0 = shape[k] := by rw [List.getD_eq_getElem?_getD, List.getElem?_eq_getElem h2]; rfl
        rw [c1, c2] at g1 g2
        rw [List.getElem_map]
        omega
      have := t.sum
      rw [h1] at this
      omega
  -- the first such row
  have hmin : ∃ a, (rows.getD a []).length < shape.getD a 0 ∧ ∀ b, b < a → ¬ (rows.getD b []).length < shape.getD b 0 := by
    obtain ⟨a, ha⟩ := hex
    induction a using Nat.strongRecOn with
    | ind a ih =>
      by_cases q : ∃ b, b < a ∧ (rows.getD b []).length < shape.getD b 0
      · obtain ⟨b, q1, q2⟩ := q
        exact ih b q1 q2
      · exact ⟨a, ha, fun b h1 h2 => q ⟨b, h1, h2⟩⟩
  obtain ⟨a, ha, hb⟩ := hmin
  refine ⟨a, ?_, ha, ?_⟩
  · by_cases q : a < rows.length
    · exact q
    · rw [List.getD_eq_getElem?_getD (l := shape), List.getElem?_eq_none (by omega)] at ha
      simp at ha
  · by_cases q : a = 0
    · exact .inl q
    · have h1 := hb (a - 1) (by omega)
      have h2 := anti (a - 1)
      rw [show a - 1 + 1 = a by omega] at h2
      exact .inr (by omega)

/-- a drawn table and one filled from its shape come of an order, of which they are the tables -/
theorem drawn_filled {n : Nat} {P Q : List (List Nat)} (d : Drawn n P) (f : Fill (P.map List.length) n Q) :
    ∃ σ : List Nat, σ.length = n ∧ Ord n σ ∧ oot n P Q [] = σ ∧ OotOk n P Q ∧ tables σ = (P, Q) := by
  obtain ⟨⟨p, tp⟩, ne⟩ := d
  obtain ⟨⟨q, tq⟩, hl, hle⟩ := f
  have heq : Q.map List.length = P.map List.length := (sum_le_of hl hle).2 (by rw [tq.sum, tp.sum])
  have hk : ∀ k, (Q.getD k []).length = (P.getD k []).length := fun k => by
    have h1 : (Q.map List.length)[k]? = (P.map List.length)[k]? := by rw [heq]
    rw [List.getElem?_map, List.getElem?_map] at h1
    rw [List.getD_eq_getElem?_getD, List.getD_eq_getElem?_getD]
    cases e1 : Q[k]? with
    | none =>
      cases e2 : P[k]? with
      | none => rfl
      | some b => rw [e1, e2] at h1; cases h1
    | some a =>
      cases e2 : P[k]? with
      | none => rw [e1, e2] at h1; cases h1
      | some b => rw [e1, e2] at h1; exact Option.some.inj h1
  refine two_tables (p := p) (q := q) tp.up tp.std (fun j _ k => tq.std j k) (fun k => ?_) tq.full tp.rep tq.rep ne (fun r hr e => ?_)
  · rw [rep_len tp.rep, rep_len tq.rep, hk]
  · obtain ⟨k, hk2⟩ := List.getElem?_of_mem hr
    have h1 := hk k
    have hkl := (List.getElem?_eq_some_iff.1 hk2).1
    rw [List.length_map] at hl
    rw [List.getD_eq_getElem?_getD, hk2, List.getD_eq_getElem?_getD, List.getElem?_eq_getElem (show k < P.length by omega)] at h1
    have h2 : r.length = P[k].length := h1
    rw [e] at h2
    exact ne _ (List.getElem_mem (show k < P.length by omega)) (List.length_eq_zero_iff.1 h2.symm)

theorem Drawn.anti {n : Nat} {P : List (List Nat)} (d : Drawn n P) (k : Nat) : (P.map List.length).getD (k+1) 0 ≤ (P.map List.length).getD k 0 := by
  obtain ⟨⟨p, t⟩, _⟩ := d
  have h1 := t.std n k
  rw [rep_len t.rep, rep_len t.rep] at h1
  have e : ∀ j, (P.map List.length).getD j 0 = (P.getD j []).length := fun j => by
    rw [List.getD_eq_getElem?_getD, List.getElem?_map, List.getD_eq_getElem?_getD]
    cases P[j]? <;> rfl
  rw [e, e]
  exact h1

end RSK

/-! The plain law, part 7: sizes of the tables; what the law's ifs compare. -/
namespace RSK

theorem cnt_le (w : Nat → Option Nat) (k n : Nat) : cnt w k n ≤ n := by
  induction n with
  | zero => exact Nat.le_refl _
  | succ n ih => rw [cnt_succ]; split <;> omega
theorem rep_bound {w : Nat → Option Nat} {n : Nat} {rows : List (List Nat)} (h : Rep w n 0 rows) : ∀ r ∈ rows, r.length ≤ n := by
  intro r hr
  obtain ⟨j, hj⟩ := List.getElem?_of_mem hr
  have h1 := Rep.get h hj
  rw [row_len n h1]
  exact cnt_le _ _ _
theorem tables_bounds {n : Nat} {σ : List Nat} (h : Ord n σ) (hl : σ.length = n) : (tables σ).1.length ≤ n ∧ (tables σ).2.length ≤ n ∧ (∀ r ∈ (tables σ).1, r.length ≤ n) ∧ (∀ r ∈ (tables σ).2, r.length ≤ n) ∧ ((tables σ).2.map List.length).sum = n := by
  obtain ⟨a1, a2, a3, a4, a5, a6⟩ := tables_rep h
  have h1 := sum_ge_len a5
  rw [hl] at a2 a6
  exact ⟨by omega, by omega, rep_bound a1, rep_bound a2, a6⟩

/-- the order undone, its tables, the order of the tables exchanged -/
theorem undone_facts {n : Nat} {σ τ : List Nat} (h : Ord n σ) (hl : σ.length = n) (tl : τ.length = n) (ht : ∀ (i v : Nat), σ[i]? = some v → τ[v]? = some i) :
    Ord n τ ∧ tables τ = ((tables σ).2, (tables σ).1) ∧ ((tables σ).1.map List.length).sum = n ∧ oot n (tables σ).2 (tables σ).1 [] = τ ∧ OotOk n (tables σ).2 (tables σ).1 := by
  subst hl
  obtain ⟨o, iff⟩ := undo_all h tl ht
  have e := tables_undone h o rfl tl iff
  obtain ⟨b1, b2, b3, b4, b5⟩ := tables_bounds o tl
  obtain ⟨c1, c2⟩ := oot_tables o
  rw [e] at b5 c1 c2
  rw [tl] at c1 c2
  exact ⟨o, e, b5, c1, c2⟩
end RSK

/-! Rules of our own over the hand layer: enumerate of a tuple, sorted of a tuple of ints, a tuple from behind, zip of two tuples as a Walk. -/
namespace K61
open PySem PySem.Spec PyProof.Rows L2

/-! ### enumerate(t), t a tuple -/
theorem meets_enum1 {v : Value} {ob : Obj} {G : Heap → Prop} (B : Begins v ob G) :
    Meets (Builtin.«enumerate.__new__» ⟨[.type "enumerate", v], []⟩) (fun _ R s => G s.heap ∧ R (.ok (.ret (.ref (s.heap.push ob).objs.size)))
      { s with heap := (s.heap.push ob).push { cls := .type "enumerate", data := .fields #[.none, .bool false, .ref s.heap.objs.size, rawInt 0, .none, .none] } }) :=
  .of_wp fun prog w A R s h => by
    obtain ⟨hp, gn, dr, tk, os⟩ := s
    obtain ⟨g1, g2⟩ := h
    have hsub := sub_enumerate
    have begins : ∀ {A' : Around} {E : Value → Shared → Prop} {Q : Value → Shared → Prop}, Q (.ref hp.objs.size) ⟨hp.push ob, gn, dr, tk, os⟩ → wpAny (model prog w) A' (pyIter v) Q E ⟨hp, gn, dr, tk, os⟩ :=
      fun z => B.iter prog w _ _ ⟨hp, gn, dr, tk, os⟩ _ g1 z
    wp_walk using begins
    refine wpAny_stack_any fun st => wpAny_pure ?_
    split
    · rename_i cls _ _ _ _ _
      cases (cls == Value.type "enumerate") <;> (wp_walk using begins; exact ⟨_, rfl, g2⟩)
    · wp_walk using begins
      exact ⟨_, rfl, g2⟩

theorem call_enum1 {prog : Program} {w : World} {A : Around} {E : Value → Shared → Prop} {s : Shared} {v : Value} {ob : Obj} {G : Heap → Prop} {Q : Value → Shared → Prop} (B : Begins v ob G) (hv : G s.heap)
    (h : ∀ h', IsEnum h' (s.heap.objs.size + 1) s.heap.objs.size 0 .none → h'.get? s.heap.objs.size = some ob → (∀ b o, s.heap.get? b = some o → h'.get? b = some o) → Q (.ref (s.heap.objs.size + 1)) { s with heap := h' }) :
    wpAny (model prog w) A (call (.type "enumerate") [v]) Q E s := by
  have size1 : (s.heap.push ob).objs.size = s.heap.objs.size + 1 := Heap.size_push ..
  have isE : IsEnum ((s.heap.push ob).push { cls := .type "enumerate", data := .fields #[.none, .bool false, .ref s.heap.objs.size, rawInt 0, .none, .none] }) (s.heap.objs.size + 1) s.heap.objs.size 0 .none := by
    rw [← size1]
    exact Heap.get?_push_size (s.heap.push ob) rfl
  refine callType_new F.called_enumerate (by decide) (F.typeCall_enumerate_1 _) (F.newCall_enumerate_1 _) (fun obj => F.args_object_init_2 obj _) F.entry_enumerate_new (meets_enum1 B) ⟨hv, ?_⟩
  rw [size1]
  exact ⟨⟨_, isE, rfl⟩, h _ isE (Heap.get?_push_of_some _ (Heap.get?_push_size _ B.free)) fun b o z => Heap.get?_push_of_some _ (Heap.get?_push_of_some _ z)⟩

/-- the items of the tuple at a, each in a new pair behind its place -/
def ItEnT (K : PySem.W.Frag) (a : Addr) (xs : List V) : It where
  go := fun i H => i < xs.length ∧ SqT K H a xs
  yld := fun i H v H' => ∃ T x, v = .ref T ∧ H T = none ∧ H' = upd H T (.tup [.int (i : Nat), x]) ∧ xs[i]? = some x
  stop := fun i H => i = xs.length ∧ SqT K H a xs

theorem turn_enT {P : Program} {w : World} {K : PySem.W.Frag} {elts : List Expr} {kk : Nat} {tpos : Pos} (a e it : Addr) (xs : List V) (hei : e ≠ it) :
    Turn P w K (.Tuple elts kk tpos) (ItEnT K a xs) [e, it] e (fun i h => (∃ old, IsEnum h e it ((i : Nat) : Int) old) ∧ h.IsTupleIter it a i) where
  mem := List.mem_cons_self
  obj := fun i h st b hb => by
    obtain ⟨⟨old, he⟩, ⟨o, ho, _, hd⟩⟩ := st
    rcases List.mem_cons.1 hb with rfl | hb
    · exact ⟨_, he, fun v q => nomatch q⟩
    · rw [List.mem_singleton.1 hb]
      exact ⟨o, ho, fun v q => by rw [hd] at q; cases q⟩
  keep := fun i h h' st k => by
    obtain ⟨⟨old, he⟩, hi⟩ := st
    exact ⟨⟨old, k e (by simp) _ he⟩, hi.at fun o q => k it (by simp) o q⟩
  item := by
    intro X hP hw hK hc i pins s σ H E I hf st hg
    subst hP hw hK
    obtain ⟨⟨old, he⟩, hit⟩ := st
    obtain ⟨hi, hq⟩ := hg
    obtain ⟨its, rv, tup, _⟩ := I.tuple hq
    have hlen := rv.length
    obtain ⟨u, hu, ru⟩ := rv.get (List.getElem?_eq_getElem hi)
    have hai : a ≠ it := by
      rintro rfl
      obtain ⟨o1, g1, c1, _⟩ := tup
      obtain ⟨o2, g2, c2, _⟩ := hit
      rw [g1] at g2
      cases g2
      rw [c1] at c2
      exact absurd (Value.type.inj c2) (by decide)
    have hae : e ≠ a := by
      rintro rfl
      obtain ⟨o1, g1, c1, _⟩ := tup
      have g2 : s.heap.get? e = some _ := he
      rw [g1] at g2
      cases g2
      exact absurd (Value.type.inj c1) (by decide)
    have hit' : s.heap.IsTupleIter it a i := hit
    have D := Draws.tuple (prog := X.prog) (w := X.w) (A := X.A.in1) (I.ok.hd hc) it a hai its.toArray
    have hes : e < s.heap.objs.size := Heap.lt_size he
    have hIs : it < s.heap.objs.size := by obtain ⟨_, q, _⟩ := hit; exact Heap.lt_size q
    refine wpAny_pyNext_enum_itemC D he ⟨hit', tup⟩ (by rw [List.size_toArray]; omega) hei (by simp [hei, hae]) fun x h1 tk hx out st1 hT hsz hk => ?_
    have hxu : x = u := by
      have h2 : its[i]? = some x := by simpa using hx
      rw [hu] at h2
      exact (Option.some.inj h2).symm
    subst hxu
    refine ⟨_, rfl, wpAny_letOwnedTupleGo_enum (s := { s with heap := h1, toks := tk + 1 }) out fun h2 he2 sb => ?_⟩
    have hT2 : h2.get? s.heap.objs.size = some { cls := .type "tuple", data := .seq #[.int i tk, x] } := (sb.2 _ (Nat.ne_of_gt hes)).trans hT
    have laid : ObjOk X.prog X.w (upd H s.heap.objs.size (.tup [.int (i : Nat), xs[i]])) h2 s.heap.objs.size (.tup [.int (i : Nat), xs[i]]) :=
      ⟨by show 2 ≤ sizeLine; decide, [.int i tk, x], .cons ⟨_, rfl⟩ (.cons ru .nil), ⟨_, hT2, rfl, _, rfl⟩⟩
    have I1 := I.turnedNew (t' := tk + 1) (ch := [e, it]) (fun b ob hb q => (sb.2 b (fun z => hb (by simp [z]))).trans (hk b ob (fun z => hb (by simp [z])) (fun z => hb (by simp [z])) q)) hf (Nat.le_refl _) laid
    refine ⟨.ref s.heap.objs.size, _, I1, rfl, ⟨_, _, rfl, I.hok.fresh (Nat.le_refl _), rfl, List.getElem?_eq_getElem hi⟩, ⟨⟨x, ?_⟩, st1.1.at fun o q => (sb.2 it (Ne.symm hei)).trans q⟩, fun b hb => ?_⟩
    · rw [show ((i + 1 : Nat) : Int) = (i : Int) + 1 by omega]
      exact he2
    · have hlt : b < s.heap.objs.size := by
        rcases List.mem_cons.1 hb with z | z
        · rw [z]; exact hes
        · rw [List.mem_singleton.1 z]; exact hIs
      rw [upd_ne (Nat.ne_of_lt hlt)]
      exact (hf b hb).1
  done := by
    intro X hP hw hK hc i pins s σ H E I hf st hg
    subst hP hw hK
    obtain ⟨⟨old, he⟩, hit⟩ := st
    obtain ⟨hi, hq⟩ := hg
    obtain ⟨its, rv, tup, _⟩ := I.tuple hq
    have hlen := rv.length
    have hai : a ≠ it := by
      rintro rfl
      obtain ⟨o1, g1, c1, _⟩ := tup
      obtain ⟨o2, g2, c2, _⟩ := hit
      rw [g1] at g2
      cases g2
      rw [c1] at c2
      exact absurd (Value.type.inj c2) (by decide)
    have D := Draws.tuple (prog := X.prog) (w := X.w) (A := X.A.in1) (I.ok.hd hc) it a hai its.toArray
    have hn : its.toArray.size = i := by rw [List.size_toArray]; omega
    refine wpAny_pyNext_enum_endD D he (show s.heap.IsTupleIter it a its.toArray.size ∧ _ by rw [hn]; exact ⟨hit, tup⟩) fun h1 hx => ⟨rfl, I.turnedL (t' := s.toks) (ch := [e, it]) (fun b o hb q => hx b o (fun z => hb (by simp [z])) q) hf⟩
  self := fun A i s Q E st h => by
    obtain ⟨⟨old, he⟩, _⟩ := st
    exact wpAny_pyIter_enum he h

def iEnT (K : PySem.W.Frag) (ta : TA) : TI := fun σ H R => ta σ H fun vs H1 => ∃ a xs, vs = [.ref a] ∧ SqT K H1 a xs ∧ R (ItEnT K a xs) H1
theorem pi_enT {X : Cx} {e : Expr} {ta : TA} {p pos tpos : Pos} {elts : List Expr} {kk : Nat} (hg : Gl X "enumerate") (hm : X.mg "enumerate" = none) (ha : PA X [e] ta) (hs : starEach [e] X.env = [(false, eval e X.env)] := by rfl) :
    PI X (.Tuple elts kk tpos) (.Call (.Name "enumerate" p) [e] [] pos) (iEnT X.K ta) := by
  refine ⟨fun pins s σ H R I h => Call_ (ld_blt I hg hm boot_enumerate (PyProof.Rows.callWith_type1 (thn (ha.run pos pins s σ H _ I h) fun us s1 ⟨vs, H1, I1, r1, q1⟩ => ?_) hs rfl))⟩
  obtain ⟨a, xs, rfl, hq, q⟩ := q1
  obtain ⟨u, rfl, ru⟩ := vals1 r1
  cases ru
  obtain ⟨its, rv, tup, hz⟩ := I1.tuple hq
  refine call_enum1 (begins_tuple a its.toArray) tup fun h1 he hit hk => wpAny_pyIter_enum he ?_
  have I2 : Inv X pins σ H1 { s1 with heap := h1 } := I1.kept (t' := s1.toks) hk
  refine ⟨s1.heap.objs.size + 1, [s1.heap.objs.size + 1, s1.heap.objs.size], _, _, H1, rfl, I2, turn_enT a (s1.heap.objs.size + 1) s1.heap.objs.size xs (Nat.succ_ne_self _), ⟨⟨.none, he⟩, ⟨_, hit, rfl, rfl⟩⟩, fun b hb => ?_, q⟩
  have hle : s1.heap.objs.size ≤ b := by
    rcases List.mem_cons.1 hb with z | z
    · rw [z]; exact Nat.le_succ _
    · rw [List.mem_singleton.1 z]; exact Nat.le_refl _
  exact I1.fpOk hle (I1.hok.fresh hle)
theorem walk_enT {K : PySem.W.Frag} {a : Addr} {xs : List V} : Walk (ItEnT K a xs) xs.length (fun H => SqT K H a xs) (YPair (fun i => some (.int (i : Nat))) (fun i => xs[i]?)) where
  goes := fun i _ hi q => ⟨hi, q⟩
  stops := fun _ q => ⟨rfl, q⟩
  yields := fun i H v H' _ _ y => by
    obtain ⟨T, x, h1, h2, h3, h4⟩ := y
    exact ⟨T, .int (i : Nat), x, h1, h2, h3, rfl, h4⟩

/-- zip of two tuples of one length -/
theorem walk_zT {K : PySem.W.Frag} {a b : Addr} {xs ys : List V} {n : Nat} (h1 : xs.length = n) (h2 : ys.length = n) :
    Walk (RZ.ItzT K a b) n (fun H => SqT K H a xs ∧ SqT K H b ys) (YPair (fun i => xs[i]?) (fun i => ys[i]?)) where
  goes := fun i _ hi q => ⟨xs, ys, xs[i], ys[i], q.1, q.2, List.getElem?_eq_getElem (by omega), List.getElem?_eq_getElem (by omega)⟩
  stops := fun _ q => ⟨xs, ys, q.1, q.2, .inl (by omega)⟩
  yields := fun i H v H' _ q y => by
    obtain ⟨T, x, z, g1, g2, g3, g4, g5⟩ := y
    exact ⟨T, x, z, g1, g2, g3, g4 xs q.1, g5 ys q.2⟩
end K61

/-! Rules of our own, second part: a tuple from behind; sorted of a tuple of ints. -/
namespace K61
open PySem PySem.Spec PyProof.Rows L2

/-! ### t[::-1], t a tuple -/
section
variable {prog : Program} {w : World} {A : Around} {E : Value → Shared → Prop} {s : Shared}
theorem applied_back {sl : Addr} {k n : Nat} {u : Tok} {Q : Int × Int × Nat → Shared → Prop} (hs : s.heap.IsSliceOf sl .none .none (.int (-1) u)) (h : Q ((n : Int) - 1, -1, n) s) :
    wpAny (model prog w) A (Builtin.Slice.sliceApplied (.ref sl) (pure (n : Int))) Q E s := by
  obtain ⟨ob, hob, _, hd⟩ := id hs
  unfold Builtin.Slice.sliceApplied Builtin.Slice.sliceFields
  refine wpAny_bind (wpAny_bind (wpAny_field hob hd (x := .none) rfl (wpAny_bind (wpAny_field hob hd (x := .none) rfl (wpAny_bind (wpAny_field hob hd (x := .int (-1) u) rfl (wpAny_pure ?_)))))))
  refine wpAny_bind (slicePart_int ?_)
  show wpAny _ _ (if ((-1 : Int) == 0) = true then _ else _) _ _ s
  rw [if_neg (by decide)]
  refine wpAny_bind (slicePart_none (wpAny_bind (slicePart_none (wpAny_bind (wpAny_pure ?_)))))
  have e1 : Builtin.Slice.sliceAdjust none none (-1) (n : Int) = ((n : Int) - 1, -1) := by
    unfold Builtin.Slice.sliceAdjust
    rfl
  have e2 : Builtin.Slice.slicePlaces ((n : Int) - 1) (-1) (-1) = n := by
    unfold Builtin.Slice.slicePlaces
    rw [if_neg (by decide)]
    by_cases z : (n : Int) - 1 > -1
    · rw [if_pos z, show ((n : Int) - 1 - -1 - 1) / (- -1) + 1 = (n : Int) by rw [show (- -1 : Int) = 1 by decide, Int.ediv_one]; omega]
      exact Int.toNat_natCast n
    · rw [if_neg z]
      show (0 : Int).toNat = n
      have : n = 0 := by omega
      rw [this]; rfl
  show wpAny _ _ (match Builtin.Slice.sliceAdjust none none (-1) (n : Int) with | (lo, hi) => pure (lo, (-1 : Int), Builtin.Slice.slicePlaces lo hi (-1))) _ _ s
  rw [e1]
  show wpAny _ _ (pure ((n : Int) - 1, (-1 : Int), Builtin.Slice.slicePlaces ((n : Int) - 1) (-1) (-1))) _ _ s
  rw [e2]
  exact wpAny_pure h

theorem fmap_congr {α β : Type} {f g : α → Option β} : ∀ {l : List α}, (∀ k, k ∈ l → f k = g k) → l.filterMap f = l.filterMap g
  | [], _ => rfl
  | x :: l, h => by
    have e := fmap_congr (l := l) fun k hk => h k (List.mem_cons_of_mem _ hk)
    have e1 := h x List.mem_cons_self
    rw [List.filterMap_cons, List.filterMap_cons, e1, e]

theorem picks_back (xs : Array Value) : ((List.range xs.size).filterMap fun (k : Nat) => xs[((xs.size : Int) - 1 + (k : Int) * -1).toNat]?) = xs.toList.reverse := by
  have e : ∀ k, k ∈ List.range xs.size → xs[((xs.size : Int) - 1 + (k : Int) * -1).toNat]? = xs.toList.reverse[k]? := fun k hk => by
    have hk := List.mem_range.1 hk
    have e1 : ((xs.size : Int) - 1 + (k : Int) * -1).toNat = xs.toList.length - 1 - k := by rw [Array.length_toList]; omega
    rw [e1, List.getElem?_reverse (by rw [Array.length_toList]; exact hk), Array.getElem?_toList]
  rw [fmap_congr e]
  have l : xs.size = xs.toList.reverse.length := by simp
  rw [l]
  generalize xs.toList.reverse = ys
  clear e l
  induction ys with
  | nil => rfl
  | cons y ys ih =>
    have h0 : (y :: ys)[0]? = some y := rfl
    rw [List.length_cons, List.range_succ_eq_map, List.filterMap_cons, h0, List.filterMap_map]
    exact congrArg (y :: ·) ih

theorem item_back {t sl : Addr} {xs : Array Value} {u : Tok} {Q : Value → Shared → Prop} (ht : IsTup s.heap t xs) (hs : s.heap.IsSliceOf sl .none .none (.int (-1) u)) (hz : xs.size ≤ sizeLine)
    (h : Q (.ref s.heap.objs.size) { s with heap := s.heap.push { cls := .type "tuple", data := .seq xs.toList.reverse.toArray } }) : wpAny (model prog w) A (getItem (.ref t) (.ref sl)) Q E s := by
  have fits : sizeOk (.seq xs.toList.reverse.toArray) := by
    show xs.toList.reverse.toArray.size ≤ sizeLine
    simpa using hz
  have isSl : s.TypeIs (.ref sl) "slice" := by
    obtain ⟨ob, hob, hc, _⟩ := id hs
    exact ⟨ob, hob, hc⟩
  have answer : ∀ R : Value → Shared → Prop, (∀ v s', Q v s' → R v s') → wpAny (model prog w) A.in1 (Builtin.«tuple.__getitem__» ⟨[.ref t, .ref sl], []⟩) (fun fin s' => ∃ v, fin = .done (.ret v) ∧ R v s') E s := fun R hR => by
    show wpAny (model prog w) A.in1 (Builtin.Tuple.tupleItemsOf (Value.ref t) >>= _) _ _ s
    refine wpAny_bind (tupleItemsOf_ ht (wpAny_bind (wpAny_typeOf isSl ?_)))
    rw [if_pos (by decide)]
    refine wpAny_bind (applied_back (k := 0) (n := xs.size) hs ?_)
    show wpAny _ _ (if ((((xs.size : Int) - 1) == 0 && (-1 : Int) == 1 && xs.size == xs.size) = true) then _ else _) _ _ s
    rw [if_neg (by simp), picks_back]
    exact wpAny_bind (m := Builtin.Tuple.tupleExact _) (wpAny_newObj_type (wpAny_pure ⟨_, rfl, hR _ _ h⟩) fits)
  unfold getItem
  refine wpAny_holding (wpAny_bind (wpAny_sequenceKey ht.typeIs (by decide) (wpAny_bind (wpAny_callSpecial?_slot (name := Str.ofString "__getitem__") ht.typeIs PyProof.Rows.slot_tuple_getitem ?_))))
  exact wpAny_call_entry PyProof.Rows.slot_tuple_getitem ht.typeIs entry_tuple_getitem (answer _ fun v s' z => wpAny_pure z) (args_tuple_getitem _ _)
end

def tRevT (K : PySem.W.Frag) (te : TE) : TE := fun σ H Q => te σ H fun x H1 => ∃ a xs, x = .ref a ∧ SqT K H1 a xs ∧ ∀ p, H1 p = none → Q (.ref p) (upd H1 p (.tup xs.reverse))
theorem pe_revT {X : Cx} {e : Expr} {te : TE} {k : Nat} {p1 p2 p3 pos : Pos} (he : PE X e te) : PE X (.Subscript e (.Slice none none (some (.UnaryOp .USub (.Constant (.int 1) k p1) p2)) p3) pos) (tRevT X.K te) := by
  refine ⟨fun pins s σ H Q I h => Subscript_ (thn (he.run pins s σ H _ I h) fun v s1 ⟨x, H1, I1, r1, q1⟩ => ?_)⟩
  obtain ⟨a, xs, rfl, hx, q⟩ := q1
  cases r1
  have stp : PO X (some (.UnaryOp .USub (.Constant (.int 1) k p1) p2)) (tPart (tUn (rU fun i => .int (-i)) (tC (.int 1)))) := po_some (pe_un un_neg pe_int)
  -- the three parts: left out, left out, -1
  have out := fun s2 J => po_none.run (X := X) pins s2 σ H1 (fun o G => o = none ∧ G = H1) J ⟨rfl, rfl⟩
  refine wpAny_Slice (thn (out s1 I1) fun vl s2 ⟨_, _, I2, pl, rfl, rfl⟩ => thn (out s2 I2) fun vu s3 ⟨_, _, I3, pu, rfl, rfl⟩ => ?_)
  refine thn (stp.run pins s3 σ H1 (fun o G => o = some (-1) ∧ G = H1) I3 ⟨1, rfl, -1, rfl, rfl, rfl⟩) fun vs s4 ⟨_, _, I4, ps, rfl, rfl⟩ => ?_
  cases pl
  cases pu
  cases ps with
  | int _ tk =>
    have I5 : Inv X pins σ H1 { s4 with heap := s4.heap.push { cls := .type "slice", data := .fields #[.none, .none, .int (-1) tk] } } := I4.kept (t' := s4.toks) fun b ob z => Heap.get?_push_of_some _ z
    obtain ⟨its, r, tup, hz⟩ := I5.tuple hx
    have hl := r.length
    show wpAny (model X.prog X.w) X.A (subscriptTail e (.Slice none none (some (.UnaryOp .USub (.Constant (.int 1) k p1) p2)) p3) (.ref a) (.ref s4.heap.objs.size)) (EP X pins σ Q) X.xe { s4 with heap := s4.heap.push { cls := .type "slice", data := .fields #[.none, .none, .int (-1) tk] } }
    refine tail_any (ops := [.ref a, .ref s4.heap.objs.size]) tup.typeIs PyProof.Rows.slot_tuple_getitem.lookup ?_ (by with_unfolding_all rfl)
    refine item_back tup (Heap.IsSliceOf.new _ .none .none _) (by rw [List.size_toArray]; omega) ?_
    refine ⟨.ref _, _, I5.laid (t' := s4.toks) (o := .tup xs.reverse) (fun b ob z => Heap.get?_push_of_some _ z) (Nat.le_refl _) ?_, rfl, q _ (I5.hok.fresh (Nat.le_refl _))⟩
    refine ⟨by rw [List.length_reverse]; exact hz, its.reverse, r.reverse, ?_⟩
    exact IsTup.new _ _

/-! ### sorted(t), t a tuple of ints -/
def rSortTI (K : PySem.W.Frag) : List V → Hp → VK → Prop := fun vs H Q => ∃ (a : Addr) (ns : List Int), vs = [V.ref a] ∧ SqT K H a (ns.map V.int) ∧
  ∀ (ms : List Int) (p : Addr), ms.Perm ns → ms.Pairwise (· ≤ ·) → H p = none → Q (.ref p) (upd H p (.lst (ms.map V.int)))
theorem cr_sortTI {X : Cx} : CallR X (.builtin "sorted") (rSortTI X.K) := by
  rintro pins s σ H _ us Q I r ⟨a, ns, rfl, hs, q⟩
  obtain ⟨its, rv, tup, hz⟩ := I.tuple hs
  rw [Vals.ref1 r]
  have hi := rv.ints
  have hz2 : its.length ≤ sizeLine := by rw [← rv.length]; exact hz
  obtain ⟨ob, hob, hc, n, hd⟩ := id tup
  refine Calls.call_function_entry kind_sorted plain_sorted entry_sorted (args_sorted1 _) (show wpAny _ _ (Builtin.«sorted» _) _ _ _ from ?_)
  unfold Builtin.«sorted»
  -- the count is right; the tuple's items; a list of them; that list sorted
  refine wpAny_bind (m := checkCount "sorted" 1 1 _) (wpAny_pure (wpAny_bind (wpAny_collect_seq a (.inr rfl) hob hc hd (fun h1 k1 => ?_) (by rw [List.size_toArray]; exact hz2))))
  have ei : its.toArray.toList = its := by simp
  rw [ei]
  refine wpAny_bind (wpAny_newList ?_ hz2)
  have hoL : (h1.push (seqObj "list" its.toArray 0)).get? h1.objs.size = some (seqObj "list" its.toArray 0) := Heap.get?_push_size _ rfl
  refine wpAny_bind (wpAny_holding (wpAny_call_entry slot_list_sort ⟨_, hoL, rfl⟩ entry_list_sort
    (SrtO.list_sort_ord SrtO.swo_int hoL hz2 (fun h2 => SrtO.ints_sortable hi h2) fun out o1 o2 => ⟨_, rfl, ?_⟩) (args_list_sort _)))
  obtain ⟨k2, k3, k4⟩ := SrtO.ints_out hi o1 o2
  obtain ⟨ep, he⟩ := sortedHeap_at (vs := its) (out := out.toArray) hoL
  have few : ((out.map SrtO.iv).map V.int).length ≤ sizeLine := by
    have e := k3.length_eq
    rw [List.length_map] at hz ⊢
    omega
  have I1 : Inv X pins σ H { s with heap := h1 } := I.kept (t' := s.toks) k1
  refine wpAny_pure ⟨_, rfl, .ref _, upd H h1.objs.size (.lst ((out.map SrtO.iv).map V.int)), I1.laid (t' := s.toks) (fun b u z => ?_) (Nat.le_refl _) ⟨few, out, ep, vals_of_ints k2, he⟩, rfl, q _ _ k3 k4 (I1.hok.fresh (Nat.le_refl _))⟩
  have below := Heap.lt_size z
  exact (sortedHeap_old (Nat.ne_of_lt below) (by rw [size_push']; exact Nat.lt_succ_of_lt below)).trans (Heap.get?_push_of_some _ z)
end K61

/-! The text by places, what stands in the heap, a def's promise in short; is_whole, is_number_below, is_order, mirrored. -/
namespace K61
open PySem PySem.Spec PyProof.Rows L2

def topS (i : Nat) : Stmt := PySem.Challenge.pw_shuffletold_k61_whole_tables_undone.main.body.getD i (.Pass ⟨0, 0, 0, 0⟩)
abbrev sWhole : Stmt := topS 1
abbrev sBelow : Stmt := topS 2
abbrev sIsOrder : Stmt := topS 3
abbrev sUndone : Stmt := topS 4
abbrev sMirr : Stmt := topS 5
abbrev sPutIn : Stmt := topS 7
abbrev sTables : Stmt := topS 8
abbrev sTaken : Stmt := topS 9
abbrev sOot : Stmt := topS 10
abbrev sHand : Stmt := topS 12
abbrev sPick : Stmt := topS 13
abbrev sOf : Stmt := topS 14
abbrev sSize : Stmt := topS 15
abbrev sAny : Stmt := topS 16
abbrev sOrder : Stmt := topS 17
abbrev sSame : Stmt := topS 18
abbrev sDrawn : Stmt := topS 19
abbrev sFilled : Stmt := topS 20
abbrev sOver : Stmt := topS 21
abbrev sLaw : Stmt := topS 22

/-! ### a def that is called by its name -/
structure Cal (P : Program) (w : World) (K : PySem.W.Frag) (mg : Str → Option Value) (base : Heap) (k : Nat) (x : Str) (ps : List Str) (sp : Sp) : Prop where
  ex : ∃ f fd, mg x = some (.ref f) ∧ PySem.W.keepIn K (.ref f) = true ∧ Binds K fd ps [] ∧ FnOk P w K mg base CX0 k f fd ps sp
theorem pe_cal {X : Cx} {k : Nat} {x : Str} {ps : List Str} {sp : Sp} {p pos : Pos} {e : Expr} {es : List Expr} {t : TA} (C : Cal X.prog X.w X.K X.mg X.base k x ps sp) (hr : Room k X.A) (hg : Gl X x) (ha : PA X (e :: es) t)
    (plain : (backTo pos (starEach es X.env)).any (·.1) = false := by rfl) (first : starEach (e :: es) X.env = (false, eval e X.env) :: starEach es X.env := by rfl) (nodebug : (x == ("__debug__" : Str)) = false := by decide) :
    PE X (.Call (.Name x p) (e :: es) [] pos) (tCall sp [] E0 t) := by
  obtain ⟨f, fd, hm, hk, hb, F⟩ := C.ex
  exact pe_call F hr hg hm hk hb .nil pass0 ha nodebug first plain
theorem Cal.mono {P : Program} {w : World} {K : PySem.W.Frag} {mg : Str → Option Value} {base : Heap} {j k : Nat} {x : Str} {ps : List Str} {sp : Sp} (C : Cal P w K mg base j x ps sp) (h : j ≤ k) : Cal P w K mg base k x ps sp := by
  obtain ⟨f, fd, a, b, c, d⟩ := C.ex
  exact ⟨f, fd, a, b, c, d.mono h⟩

/-! ### rules that name the written part, for the blocks of comprehensions -/
def rLen (K : PySem.W.Frag) : List V → Hp → VK → Prop := fun xs H Q => ∃ p ys, xs = [.ref p] ∧ (SqL K H p ys ∨ SqT K H p ys) ∧ Q (.int ys.length) H
theorem call_lenK {X : Cx} {K : PySem.W.Frag} (e : X.K = K) : CallR X (.builtin "len") (rLen K) := by
  subst e
  exact call_len_seq
def rTupOf (K : PySem.W.Frag) : List V → Hp → VK → Prop := fun xs H Q => ∃ p ys, xs = [.ref p] ∧ SqL K H p ys ∧ ∀ l, H l = none → Q (.ref l) (upd H l (.tup ys))
theorem call_tupK {X : Cx} {K : PySem.W.Frag} (e : X.K = K) : CallR X (.type "tuple") (rTupOf K) := by
  subst e
  intro pins s σ H xs us Q I r h
  obtain ⟨p, ys, h1, h2, h3⟩ := h
  exact call_tuple_of pins s σ H xs us Q I r ⟨p, ys, h1, .inl ⟨h2, h3⟩⟩
def rLstOf (K : PySem.W.Frag) : List V → Hp → VK → Prop := fun xs H Q => ∃ p ys, xs = [.ref p] ∧ (SqL K H p ys ∨ SqT K H p ys) ∧ ∀ l, H l = none → Q (.ref l) (upd H l (.lst ys))
theorem call_lstK {X : Cx} {K : PySem.W.Frag} (e : X.K = K) : CallR X (.type "list") (rLstOf K) := by
  subst e
  exact call_list_of
theorem ix_listK {X : Cx} {K : PySem.W.Frag} (e : X.K = K) : IxR X (rIxL K) := by
  subst e
  exact ix_list
theorem ix_tupK {X : Cx} {K : PySem.W.Frag} (e : X.K = K) : IxR X (rIxT K) := by
  subst e
  exact ix_tup
theorem op_neDK {X : Cx} {K : PySem.W.Frag} (e : X.K = K) (hu : X.A.units + 64 < cLine) : OpR X (compareOp .NotEq) (rNeD K) := by
  subst e
  exact op_neD hu

/-! ### what stands in the heap -/
/-- a number as a value -/
def nv (n : Nat) : V := .int (n : Int)
/-- numbers as values -/
def nvs (ns : List Nat) : List V := ns.map nv
theorem nvs_int (ns : List Nat) : nvs ns = (ns.map Int.ofNat).map V.int := by
  unfold nvs
  rw [List.map_map]
  rfl
theorem nvs_len (ns : List Nat) : (nvs ns).length = ns.length := List.length_map ..
theorem nvs_get {ns : List Nat} {i : Nat} : (nvs ns)[i]? = ns[i]?.map nv := List.getElem?_map ..
theorem nvs_at {ns : List Nat} {i x : Nat} (h : ns[i]? = some x) : (nvs ns)[i]? = some (nv x) := by rw [nvs_get, h]; rfl
theorem nvs_of {ns : List Nat} {i : Nat} {v : V} (h : (nvs ns)[i]? = some v) : ∃ x, ns[i]? = some x ∧ v = nv x := by
  rw [nvs_get] at h
  cases e : ns[i]? with
  | none => rw [e] at h; cases h
  | some x => rw [e] at h; exact ⟨x, rfl, (Option.some.inj h).symm⟩
/-- at i-th places R holds -/
def At2 {α β : Type} (R : α → β → Prop) (as : List α) (bs : List β) : Prop := as.length = bs.length ∧ ∀ (i : Nat) a b, as[i]? = some a → bs[i]? = some b → R a b
theorem At2.mono {α β : Type} {R R' : α → β → Prop} {as : List α} {bs : List β} (h : At2 R as bs) (f : ∀ a b, a ∈ as → R a b → R' a b) : At2 R' as bs :=
  ⟨h.1, fun i a b ha hb => f a b (List.mem_of_getElem? ha) (h.2 i a b ha hb)⟩
theorem At2.nil {α β : Type} {R : α → β → Prop} : At2 R [] [] := ⟨rfl, fun i a b h _ => by simp at h⟩
theorem At2.get {α β : Type} {R : α → β → Prop} {as : List α} {bs : List β} (h : At2 R as bs) {i : Nat} {b : β} (hb : bs[i]? = some b) : ∃ a, as[i]? = some a ∧ R a b := by
  have hi := (List.getElem?_eq_some_iff.1 hb).1
  have hi2 : i < as.length := by rw [h.1]; exact hi
  have h1 : as[i]? = some as[i] := List.getElem?_eq_getElem hi2
  exact ⟨_, h1, h.2 i _ _ h1 hb⟩
theorem At2.getL {α β : Type} {R : α → β → Prop} {as : List α} {bs : List β} (h : At2 R as bs) {i : Nat} {a : α} (ha : as[i]? = some a) : ∃ b, bs[i]? = some b ∧ R a b := by
  have hi := (List.getElem?_eq_some_iff.1 ha).1
  have hi2 : i < bs.length := by rw [← h.1]; exact hi
  have h1 : bs[i]? = some bs[i] := List.getElem?_eq_getElem hi2
  exact ⟨_, h1, h.2 i _ _ ha h1⟩
theorem At2.snoc {α β : Type} {R : α → β → Prop} {as : List α} {bs : List β} {a : α} {b : β} (h : At2 R as bs) (r : R a b) : At2 R (as ++ [a]) (bs ++ [b]) := by
  refine ⟨by rw [List.length_append, List.length_append, h.1]; rfl, fun i x y hx hy => ?_⟩
  by_cases hi : i < as.length
  · rw [List.getElem?_append_left hi] at hx
    rw [List.getElem?_append_left (by rw [← h.1]; exact hi)] at hy
    exact h.2 i x y hx hy
  · have hl := (List.getElem?_eq_some_iff.1 hx).1
    rw [List.length_append, List.length_singleton] at hl
    have e : i = as.length := by omega
    subst e
    rw [List.getElem?_concat_length] at hx
    rw [h.1, List.getElem?_concat_length] at hy
    cases hx
    cases hy
    exact r
theorem At2.set {α β : Type} {R : α → β → Prop} {as : List α} {bs : List β} {j : Nat} {a : α} {b : β} (h : At2 R as bs) (ha : as[j]? = some a) (r : R a b) : At2 R as (bs.set j b) := by
  refine ⟨by rw [List.length_set]; exact h.1, fun i x y hx hy => ?_⟩
  by_cases e : j = i
  · subst e
    have hl := (List.getElem?_eq_some_iff.1 ha).1
    rw [List.getElem?_set_self (by rw [← h.1]; exact hl)] at hy
    rw [ha] at hx
    cases hx
    cases hy
    exact r
  · rw [List.getElem?_set_ne e] at hy
    exact h.2 i x y hx hy

/-- a tuple of numbers; a tuple of such; a list of lists of numbers, the lists at as, all apart -/
def IT (H : Hp) (a : Addr) (ns : List Nat) : Prop := H a = some (.tup (nvs ns))
def IL (H : Hp) (a : Addr) (ns : List Nat) : Prop := H a = some (.lst (nvs ns))
def TTb (H : Hp) (a : Addr) (rows : List (List Nat)) : Prop := ∃ as : List Addr, H a = some (.tup (as.map V.ref)) ∧ At2 (IT H) as rows
structure LL (H : Hp) (R : Addr) (as : List Addr) (rows : List (List Nat)) : Prop where
  at_ : H R = some (.lst (as.map V.ref))
  nd : as.Nodup
  apart : R ∉ as
  rows_ : At2 (IL H) as rows
theorem IT.same {H H' : Hp} {a : Addr} {ns : List Nat} (s : Same H H') (h : IT H a ns) : IT H' a ns := s _ _ h
theorem TTb.same {H H' : Hp} {a : Addr} {rows : List (List Nat)} (s : Same H H') (h : TTb H a rows) : TTb H' a rows := by
  obtain ⟨as, h1, h2⟩ := h
  exact ⟨as, s _ _ h1, h2.mono fun _ _ _ z => IT.same s z⟩
theorem LL.same {H H' : Hp} {R : Addr} {as : List Addr} {rows : List (List Nat)} (s : Same H H') (h : LL H R as rows) : LL H' R as rows :=
  ⟨s _ _ h.at_, h.nd, h.apart, h.rows_.mono fun _ _ _ z => s _ _ z⟩
theorem IT.sq {K : PySem.W.Frag} {H : Hp} {a : Addr} {ns : List Nat} (h : IT H a ns) : SqT K H a (nvs ns) := SqT.of h
/-- a new object does not touch what stood -/
theorem same_new {H : Hp} {p : Addr} {o : HO} (h : H p = none) : Same H (upd H p o) := fun b x e => by
  rw [upd_ne (ne_of_none e h)]
  exact e
/-- a write at an address that was free ahead -/
theorem same_upd {H H' : Hp} {p : Addr} {o : HO} (s : Same H H') (h : H p = none) : Same H (upd H' p o) := fun b x e => by
  rw [upd_ne (ne_of_none e h)]
  exact s _ _ e

section
variable {P : Program} {w : World} {K : PySem.W.Frag} {mg : Str → Option Value} {base : Heap}
/-! ### is_whole, is_number_below -/
def spWhole : Sp := fun vs H Q _ => ∃ i : Int, vs = [.int i] ∧ Q (.bl true) H
theorem scWhole : FnScope ["thing"] ["thing"] (defScope sWhole) := ⟨rfl, rfl, rfl, by decide +kernel, rfl, by decide +kernel, by decide +kernel⟩
theorem ok_whole {f : Addr} {fd : FuncData} (F : Fun K "is_whole" "is_whole" sWhole f fd) (mi : mg "isinstance" = none) (mint : mg "int" = none) (mbool : mg "bool" = none) : FnOk P w K mg base CX0 1 f fd ["thing"] spWhole := by
  refine F.ok scWhole (fun vs H Q E h => ?_) (fun cdv A outer s H vs Q E hr h => ?_)
  · obtain ⟨i, rfl, _⟩ := h
    rfl
  · obtain ⟨i, rfl, q⟩ := h
    refine ⟨_, pss_one (ps_ret (pe_and (pe_callB call_isi (by rfl) mi (by decide +kernel) (pa_cons (pv 0) (pa_cons (pe_bltn (by rfl) mint (by decide +kernel) (v := .ty "int") rfl) pa_nil)))
      (pe_one (pe_not (pe_callB call_isi (by rfl) mi (by decide +kernel) (pa_cons (pv 0) (pa_cons (pe_bltn (by rfl) mbool (by decide +kernel) (v := .ty "bool") rfl) pa_nil))))))), ?_⟩
    refine ⟨_, rfl, .int i, .ty "int", .type "int", .type "int", true, rfl, .ty "int", .base (.int i), kit_ty (by decide +kernel), true, rfl, ?_⟩
    exact iteT ⟨_, rfl, .int i, .ty "bool", .type "int", .type "bool", false, rfl, .ty "bool", .base (.int i), kit_ty (by decide +kernel), false, rfl, q⟩
end
end K61

/-! Numbers, tuples and lists of them as data for == and !=. -/
namespace K61
open PySem PySem.Spec PyProof.Rows L2

def dN (n : Nat) : PyData := .int (n : Int)
def dT (ns : List Nat) : PyData := .tuple (ns.map dN)
def dTT (rows : List (List Nat)) : PyData := .tuple (rows.map dT)
/-- fit for ==, at most k deep -/
def Fit (k : Nat) (d : PyData) : Prop := d.canLay0 = true ∧ d.depth ≤ k
theorem Fit.all {k : Nat} : ∀ {ds : List PyData}, (∀ d ∈ ds, Fit k d) → PyData.canLayAll0 ds = true ∧ PyData.depthAll ds ≤ k
  | [], _ => by simp [PyData.canLayAll0, PyData.depthAll]
  | d :: ds, h => by
    obtain ⟨h1, h2⟩ := h d (by simp)
    obtain ⟨h3, h4⟩ := Fit.all (ds := ds) fun e he => h e (by simp [he])
    refine ⟨by simp [PyData.canLayAll0, h1, h3], ?_⟩
    rw [PyData.depthAll]
    omega
theorem Fit.tuple {k : Nat} {ds : List PyData} (h : ∀ d ∈ ds, Fit k d) : Fit (k+1) (.tuple ds) := by
  obtain ⟨h1, h2⟩ := Fit.all h
  refine ⟨by rw [PyData.canLay0]; exact h1, ?_⟩
  rw [PyData.depth]
  omega
theorem Fit.list {k : Nat} {ds : List PyData} (h : ∀ d ∈ ds, Fit k d) : Fit (k+1) (.list ds) := by
  obtain ⟨h1, h2⟩ := Fit.all h
  refine ⟨by rw [PyData.canLay0]; exact h1, ?_⟩
  rw [PyData.depth]
  omega
theorem Fit.shaped {k : Nat} {d : PyData} (h : Fit k d) (hk : k ≤ 64) : SeqAt.shaped d = true := by
  unfold SeqAt.shaped
  rw [h.1, decide_eq_true (Nat.le_trans h.2 hk)]
  rfl
theorem Fit.refl {k : Nat} {d : PyData} (h : Fit k d) : PyData.eqv d d = true := SeqAt.eqv_refl d h.1
theorem fit_int (i : Int) : Fit 0 (.int i) := ⟨by simp [PyData.canLay0], by simp [PyData.depth]⟩
theorem fit_T (ns : List Nat) : Fit 1 (dT ns) := Fit.tuple fun d hd => by
  obtain ⟨n, _, rfl⟩ := List.mem_map.1 hd
  exact fit_int _
theorem fit_TT (rows : List (List Nat)) : Fit 2 (dTT rows) := Fit.tuple fun d hd => by
  obtain ⟨n, _, rfl⟩ := List.mem_map.1 hd
  exact fit_T _
theorem fit_ints (is : List Int) : Fit 1 (.list (is.map .int)) := Fit.list fun d hd => by
  obtain ⟨n, _, rfl⟩ := List.mem_map.1 hd
  exact fit_int _
theorem eqv_nil (ds : List PyData) : PyData.eqv (.list ds) (.list []) = ds.isEmpty := by
  rw [PyData.eqv]
  cases ds <;> rfl
theorem eqv_nilT (ds : List PyData) : PyData.eqv (.tuple ds) (.tuple []) = ds.isEmpty := by
  rw [PyData.eqv]
  cases ds <;> rfl

section
variable {K : PySem.W.Frag} {H : Hp}
theorem dp_ints : ∀ (is : List Int), DpAll K H (is.map V.int) (is.map .int)
  | [] => .nil
  | i :: is => .cons (.int i) (dp_ints is)
theorem dp_nvs : ∀ (ns : List Nat), DpAll K H (nvs ns) (ns.map dN)
  | [] => .nil
  | n :: ns => .cons (.int _) (dp_nvs ns)
theorem dp_T {a : Addr} {ns : List Nat} (h : IT H a ns) : Dp K H (.ref a) (dT ns) := .tup (SqT.of h) (dp_nvs ns)
theorem dp_all : ∀ {as : List Addr} {rows : List (List Nat)}, At2 (IT H) as rows → DpAll K H (as.map V.ref) (rows.map dT)
  | [], [], _ => .nil
  | [], _ :: _, h => by have := h.1; simp at this
  | _ :: _, [], h => by have := h.1; simp at this
  | a :: as, r :: rows, h => .cons (dp_T (h.2 0 a r rfl rfl)) (dp_all ⟨by simpa using h.1, fun i x y hx hy => h.2 (i+1) x y (by simpa using hx) (by simpa using hy)⟩)
theorem dp_TT {a : Addr} {rows : List (List Nat)} (h : TTb H a rows) : Dp K H (.ref a) (dTT rows) := by
  obtain ⟨as, h1, h2⟩ := h
  exact .tup (SqT.of h1) (dp_all h2)
end
end K61

/-! is_number_below, is_order, mirrored, undone. -/
namespace K61
open PySem PySem.Spec PyProof.Rows L2
section
variable {P : Program} {w : World} {K : PySem.W.Frag} {mg : Str → Option Value} {base : Heap}
def spBelow : Sp := fun vs H Q _ => ∃ i n : Int, vs = [.int i, .int n] ∧ 0 ≤ i ∧ i < n ∧ Q (.bl true) H
theorem scBelow : FnScope ["thing", "many"] ["thing", "many"] (defScope sBelow) := ⟨rfl, rfl, rfl, by decide +kernel, rfl, by decide +kernel, by decide +kernel⟩
theorem ok_below {f : Addr} {fd : FuncData} (F : Fun K "is_number_below" "is_number_below" sBelow f fd) (C : Cal P w K mg base 1 "is_whole" ["thing"] spWhole) : FnOk P w K mg base CX0 2 f fd ["thing", "many"] spBelow := by
  refine F.ok scBelow (fun vs H Q E h => ?_) (fun cdv A outer s H vs Q E hr h => ?_)
  · obtain ⟨i, n, rfl, _⟩ := h
    rfl
  · obtain ⟨i, n, rfl, h0, h1, q⟩ := h
    refine ⟨_, pss_one (ps_ret (pe_and (pe_cal C hr (by rfl) (pa_cons (pv 0) pa_nil)) (pe_one (pe_chain op_le op_lt pe_int (pv 0) (pv 1))))), ?_⟩
    refine ⟨.int i, rfl, i, rfl, true, rfl, iteT ?_⟩
    refine ⟨.int i, rfl, 0, i, rfl, rfl, _, rfl, ?_⟩
    rw [decide_eq_true h0]
    refine iteT ⟨.int n, rfl, i, n, rfl, rfl, ?_⟩
    show Q (V.bl (decide (i < n))) H
    rw [decide_eq_true h1]
    exact q

/-! ### is_order -/
def spIsOrder (K : PySem.W.Frag) : Sp := fun vs H Q _ => ∃ (a : Addr) (ns : List Nat), vs = [.ref a] ∧ IT H a ns ∧ (∀ n ∈ ns, n < ns.length) ∧ (∀ ms : List Int, ms.Perm (ns.map Int.ofNat) → ms.Pairwise (· ≤ ·) → ms = (List.range ns.length).map Int.ofNat) ∧ ns.length ≤ 1000 ∧
  ∀ H', Same H H' → Q (.bl true) H'
theorem scIsOrder : FnScope ["thing", "one"] ["thing"] (defScope sIsOrder) := ⟨rfl, rfl, rfl, by decide +kernel, rfl, by decide +kernel, by decide +kernel⟩
theorem rgV_nvs (n : Nat) : rgV 0 (n : Int) = nvs (List.range n) := by
  unfold rgV nvs
  rw [show ((n : Int) - 0).toNat = n by omega]
  refine List.map_congr_left fun i _ => ?_
  show V.int (0 + (i : Int)) = V.int (i : Int)
  rw [Int.zero_add]
theorem ok_isOrder {f : Addr} {fd : FuncData} (F : Fun K "is_order" "is_order" sIsOrder f fd) (C : Cal P w K mg base 2 "is_number_below" ["thing", "many"] spBelow) (mi : mg "isinstance" = none) (mt : mg "tuple" = none) (ma : mg "all" = none)
    (ms : mg "sorted" = none) (ml : mg "list" = none) (mr : mg "range" = none) (mlen : mg "len" = none) : FnOk P w K mg base CX0 3 f fd ["thing"] (spIsOrder K) := by
  refine F.ok scIsOrder (fun vs H Q E h => ?_) (fun cdv A outer s H vs Q E hr h => ?_)
  · obtain ⟨a, ns, rfl, _⟩ := h
    rfl
  · obtain ⟨a, ns, rfl, hT, hb, hp, hl, q⟩ := h
    refine ⟨_, pss_cons (ps_if (pw_or (pt_not (pt_val (pe_callB call_isi (by rfl) mi (by decide +kernel) (pa_cons (pv 0) (pa_cons (pe_bltn (by rfl) mt (by decide +kernel) (v := .ty "tuple") rfl) pa_nil)))))
        (pw_or1 (pt_not (pt_val (pe_callB (cr_all rfl) (by rfl) ma (by decide +kernel) (pa_cons
          (pe_lc (own := [("one", 1)]) (g := gName 1) (tt := tYes) rfl scIsOrder.nd (pi_tup (pv 0)) (blkOk_by (N := ["thing", "one"]) (sc := defScope sIsOrder) (by decide +kernel)) (fun _ _ _ _ _ => pg_name (i := 1) scIsOrder.nd rfl (Or.inl rfl)) (fun _ _ _ _ _ => pts_nil)
            (fun _ _ _ _ _ => pe_cal C hr (by rfl) (pa_cons (pv 1) (pa_cons (pe_callB (call_lenK (K := K) rfl) (by rfl) mlen PySem.boot_len (pa_cons (pv 0) pa_nil)) pa_nil)))) pa_nil)))))).pt
        (pss_one (ps_ret pe_bl)) pss_nil)
      (pss_one (ps_ret (pe_cmpR (op_eqD hr.units) (pe_callB cr_sortTI (by rfl) ms (by decide +kernel) (pa_cons (pv 0) pa_nil)) (pe_listRg rfl (by rfl) ml (prg_1 (by rfl) mr (pe_callB call_len_seq (by rfl) mlen PySem.boot_len (pa_cons (pv 0) pa_nil)))) (nomark _)))), ?_⟩
    -- isinstance(thing, tuple)
    refine ⟨.ref a, rfl, .ref a, .ty "tuple", .type "tuple", .type "tuple", true, rfl, .ty "tuple", .base (.tup hT), kit_ty (by decide +kernel), true, rfl, ?_⟩
    refine iteF ?_
    -- all([..])
    refine ⟨.ref a, rfl, a, rfl, ⟨_, hT.sq⟩, fun D nD => ?_⟩
    refine lc_tup (K := K) (a := a) (xs := nvs ns) (fun i H' => Same H H' ∧ H' D = some (.lst ((List.replicate i true).map V.bl))) ⟨same_new nD, upd_same⟩ (fun i H' _ z => SqT.of (z.1 _ _ hT)) ?_ ?_
    · intro i x H' hx ⟨sH, eD⟩
      obtain ⟨n, hn, rfl⟩ := nvs_of hx
      have hlt := hb n (List.mem_of_getElem? hn)
      have hi := (List.getElem?_eq_some_iff.1 hn).1
      refine ⟨rfl, nv n, rfl, .ref a, rfl, a, nvs ns, rfl, .inr (SqT.of (sH _ _ hT)), (n : Int), ((nvs ns).length : Int), rfl, by omega, by rw [nvs_len]; omega, ?_⟩
      refine ⟨_, eD, by rw [List.length_map, List.length_replicate]; exact small1000 (by omega), same_upd sH nD, ?_⟩
      rw [upd_same]
      simp [List.replicate_succ']
    · intro H' ⟨sH, eD⟩
      refine ⟨D, List.replicate (nvs ns).length true, rfl, SqL.of eD, ?_⟩
      have e : ((List.replicate (nvs ns).length true).all id) = true := by simp
      rw [e]
      refine ⟨true, rfl, iteF ?_⟩
      -- sorted(thing) == list(range(len(thing)))
      refine ⟨.ref a, rfl, a, ns.map Int.ofNat, rfl, ?_, fun ks p k1 k2 np => ?_⟩
      · rw [← nvs_int]
        exact SqT.of (sH _ _ hT)
      · have ek := hp ks k1 k2
        subst ek
        have s1 : Same H (upd H' p (.lst (((List.range ns.length).map Int.ofNat).map V.int))) := sH.trans (same_new np)
        refine ⟨.ref a, rfl, a, nvs ns, rfl, .inr (SqT.of (s1 _ _ hT)), _, rfl, ?_, fun r nr => ?_⟩
        · rw [nvs_len]
          exact RgOk.of_le (Int.le_refl 0) (by omega) (by decide) (by omega)
        · have npr : p ≠ r := ne_of_none upd_same nr
          rw [nvs_len, rgV_nvs, ← nvs_int] at *
          refine ⟨.list ((List.range ns.length).map dN), .list ((List.range ns.length).map dN), ?_, ?_, ?_, ?_, ?_⟩
          · exact .lst (SqL.of (by rw [upd_ne npr, upd_same])) (dp_nvs _)
          · exact .lst (SqL.of upd_same) (dp_nvs _)
          · exact (Fit.list (k := 0) fun d hd => by obtain ⟨n, _, rfl⟩ := List.mem_map.1 hd; exact fit_int _).shaped (by decide)
          · exact (Fit.list (k := 0) fun d hd => by obtain ⟨n, _, rfl⟩ := List.mem_map.1 hd; exact fit_int _).shaped (by decide)
          · rw [(Fit.list (k := 0) (ds := (List.range ns.length).map dN) fun d hd => by obtain ⟨n, _, rfl⟩ := List.mem_map.1 hd; exact fit_int _).refl]
            exact q _ (s1.trans (same_new nr))

/-! ### mirrored -/
def spMirr : Sp := fun vs H Q _ => ∃ (a : Addr) (ns : List Nat), vs = [.ref a] ∧ IT H a ns ∧ ∀ H' p, Same H H' → IT H' p ns.reverse → Q (.ref p) H'
theorem scMirr : FnScope ["order"] ["order"] (defScope sMirr) := ⟨rfl, rfl, rfl, by decide +kernel, rfl, by decide +kernel, by decide +kernel⟩
theorem ok_mirr {f : Addr} {fd : FuncData} (F : Fun K "mirrored" "mirrored" sMirr f fd) : FnOk P w K mg base CX0 1 f fd ["order"] spMirr := by
  refine F.ok scMirr (fun vs H Q E h => ?_) (fun cdv A outer s H vs Q E hr h => ?_)
  · obtain ⟨a, ns, rfl, _⟩ := h
    rfl
  · obtain ⟨a, ns, rfl, hT, q⟩ := h
    refine ⟨_, pss_one (ps_ret (pe_revT (pv 0))), ?_⟩
    refine ⟨.ref a, rfl, a, nvs ns, rfl, hT.sq, fun p np => q _ p (same_new np) ?_⟩
    show upd H p _ p = _
    rw [upd_same]
    unfold nvs
    rw [List.map_reverse]

/-! ### undone -/
/-- found behind the first i turns -/
def undo (ns : List Nat) : Nat → List Nat
  | 0 => List.replicate ns.length 0
  | i+1 => (undo ns i).set (ns.getD i 0) i
theorem undo_len (ns : List Nat) (i : Nat) : (undo ns i).length = ns.length := by
  induction i with
  | zero => exact List.length_replicate
  | succ i ih => show ((undo ns i).set _ _).length = _; rw [List.length_set]; exact ih
def spUndone : Sp := fun vs H Q _ => ∃ (a : Addr) (ns : List Nat), vs = [.ref a] ∧ IT H a ns ∧ (∀ n ∈ ns, n < ns.length) ∧ ns.length ≤ 1000 ∧ ∀ H' p, Same H H' → IT H' p (undo ns ns.length) → Q (.ref p) H'
theorem scUndone : FnScope ["order", "found", "place", "number"] ["order"] (defScope sUndone) := ⟨rfl, rfl, rfl, by decide +kernel, rfl, by decide +kernel, by decide +kernel⟩
theorem ixN_nat {n j : Nat} (h : j < n) : ixN n (j : Int) = some j := by
  unfold ixN
  rw [if_pos (by omega), if_pos (by omega)]
  rfl
theorem nvs_set (ns : List Nat) (j x : Nat) : (nvs ns).set j (nv x) = nvs (ns.set j x) := (List.map_set ..).symm
theorem ok_undone {f : Addr} {fd : FuncData} (F : Fun K "undone" "undone" sUndone f fd) (mlen : mg "len" = none) (me : mg "enumerate" = none) (mt : mg "tuple" = none) : FnOk P w K mg base CX0 1 f fd ["order"] spUndone := by
  refine F.ok scUndone (fun vs H Q E h => ?_) (fun cdv A outer s H vs Q E hr h => ?_)
  · obtain ⟨a, ns, rfl, _⟩ := h
    rfl
  · obtain ⟨a, ns, rfl, hT, hb, hl, q⟩ := h
    refine ⟨_, pss_cons (ps_set (i := 1) scUndone.nd rfl (.inl rfl) (pe_op op_rep (pe_lst (pa_cons pe_int pa_nil)) (pe_callB call_len_seq (by rfl) mlen PySem.boot_len (pa_cons (pv 0) pa_nil))))
      (pss_cons (ps_for PassesOwn.never rfl (pi_enT (by rfl) me (pa_cons (pv 0) pa_nil)) (pg_tup rfl (pgs_cons (pg_name (i := 2) scUndone.nd rfl (.inl rfl)) (pgs_cons (pg_name (i := 3) scUndone.nd rfl (.inl rfl)) pgs_nil)))
        (pss_one (ps_asg (pv 2) (pg_sub (pv 1) (pv 3) set_list))))
      (pss_one (ps_ret (pe_callTy call_tuple_of (by rfl) mt (by decide +kernel) (pa_cons (pv 1) pa_nil))))), ?_⟩
    refine ⟨by show 1 ≤ sizeLine; decide, fun l nl => ?_⟩
    have s1 : Same H (upd H l (.lst [.int 0])) := same_new nl
    refine ⟨.ref a, rfl, a, nvs ns, rfl, .inr (SqT.of (s1 _ _ hT)), l, _, [.int 0], rfl, rfl, upd_same, by rw [nvs_len]; omega, by rw [nvs_len]; omega, ?_, fun m nm => ?_⟩
    · rw [nvs_len, Int.toNat_natCast]
      show 1 * ns.length ≤ sizeLine
      rw [Nat.one_mul]
      exact Nat.le_of_lt (small1000 hl)
    · have s2 := s1.trans (same_new (o := .lst (List.replicate ((nvs ns).length : Int).toNat [V.int 0]).flatten) nm)
      have nmH : H m = none := s1.free nm
      refine ⟨.ref a, rfl, a, nvs ns, rfl, SqT.of (s2 _ _ hT), ?_⟩
      refine for_it walk_enT (fun i σ H' => ∃ y2 y3, σ = [some (.ref a), some (.ref m), y2, y3] ∧ Same H H' ∧ IL H' m (undo ns i)) ⟨none, none, rfl, s2, ?_⟩ (fun i σ H' _ ⟨_, _, _, z, _⟩ => SqT.of (z _ _ hT)) ?_ ?_
      · show upd _ m _ m = _
        rw [upd_same, nvs_len, Int.toNat_natCast]
        congr 2
        show _ = (List.replicate ns.length 0).map nv
        rw [List.map_replicate]
        induction ns.length with
        | zero => rfl
        | succ k ih => rw [List.replicate_succ, List.replicate_succ, List.flatten_cons, ih]; rfl
      · rintro i x σ H1 H2 hi ⟨y2, y3, rfl, sH, eM⟩ ⟨T, u, v, rfl, nT, rfl, e1, e2⟩
        cases e1
        obtain ⟨n, hn, rfl⟩ := nvs_of e2
        have nTm : m ≠ T := ne_of_none eM nT
        have sT : Same H1 (upd H1 T (.tup [.int (i : Nat), nv n])) := same_new nT
        refine ⟨T, [.int (i : Nat), nv n], rfl, SqT.of upd_same, rfl, .int (i : Nat), [nv n], rfl, nv n, [], rfl, rfl, ?_⟩
        refine ⟨_, rfl, .ref m, rfl, nv n, rfl, m, nvs (undo ns i), (n : Int), n, rfl, rfl, sT _ _ eM, ?_, some (.int (i : Nat)), some (nv n), rfl, ?_, ?_⟩
        · rw [nvs_len, undo_len]
          exact ixN_nat (hb n (List.mem_of_getElem? hn))
        · exact same_upd (sH.trans sT) nmH
        · show upd _ m _ m = some (.lst (nvs ((undo ns i).set (ns.getD i 0) i)))
          rw [upd_same, ← nvs_set, List.getD_eq_getElem?_getD, hn]
          rfl
      · rintro σ H1 ⟨y2, y3, rfl, sH, eM⟩
        refine ⟨.ref m, rfl, m, _, rfl, .inl ⟨SqL.of eM, fun t nt => q _ t (sH.trans (same_new nt)) ?_⟩⟩
        rw [nvs_len] at *
        exact upd_same
end
end K61

/-! put_in. -/
namespace K61
open PySem PySem.Spec PyProof.Rows L2

/-- all but what S names stands as it stood, and nothing tracked is lost -/
structure Fr (S : Addr → Prop) (H H' : Hp) : Prop where
  keep : ∀ b o, H b = some o → ¬ S b → H' b = some o
  free : ∀ b, H' b = none → H b = none
theorem Fr.refl (S : Addr → Prop) (H : Hp) : Fr S H H := ⟨fun _ _ h _ => h, fun _ h => h⟩
theorem Fr.trans {S : Addr → Prop} {H H1 H2 : Hp} (a : Fr S H H1) (b : Fr S H1 H2) : Fr S H H2 := ⟨fun c o h n => b.keep c o (a.keep c o h n) n, fun c h => a.free c (b.free c h)⟩
theorem Fr.same {S : Addr → Prop} {H H1 H2 : Hp} (a : Fr S H H1) (b : Same H1 H2) : Fr S H H2 := ⟨fun c o h n => b _ _ (a.keep c o h n), fun c h => a.free c (b.free h)⟩
theorem Fr.write {S : Addr → Prop} {H H1 : Hp} (a : Fr S H H1) {p : Addr} {o : HO} (hp : S p) : Fr S H (upd H1 p o) := by
  refine ⟨fun c u h n => ?_, fun c h => ?_⟩
  · rw [upd_ne (show c ≠ p from fun e => n (by rw [e]; exact hp))]
    exact a.keep c u h n
  · by_cases e : c = p
    · subst e; rw [upd_same] at h; cases h
    · rw [upd_ne e] at h; exact a.free c h
theorem Fr.mono {S S' : Addr → Prop} {H H' : Hp} (a : Fr S H H') (h : ∀ b o, H b = some o → S b → S' b) : Fr S' H H' := ⟨fun c o e n => a.keep c o e fun z => n (h c o e z), a.free⟩
/-- what was written was free ahead: all that stood stands -/
theorem Fr.same_of {S : Addr → Prop} {H0 H H' : Hp} (s : Same H0 H) (a : Fr S H H') (h : ∀ b o, H0 b = some o → ¬ S b) : Same H0 H' := fun b o e => a.keep b o (s _ _ e) (h b o e)

/-- the list at R and the lists in it -/
def OfL (R : Addr) (as : List Addr) : Addr → Prop := fun b => b = R ∨ b ∈ as

theorem LL.get {H : Hp} {R : Addr} {as : List Addr} {rows : List (List Nat)} (h : LL H R as rows) {i : Nat} {row : List Nat} (hr : rows[i]? = some row) : ∃ a, as[i]? = some a ∧ IL H a row := h.rows_.get hr
/-- a row written -/
theorem LL.setRow {H : Hp} {R : Addr} {as : List Addr} {rows : List (List Nat)} (h : LL H R as rows) {i : Nat} {a : Addr} {row' : List Nat} (ha : as[i]? = some a) : LL (upd H a (.lst (nvs row'))) R as (rows.set i row') := by
  have hm := List.mem_of_getElem? ha
  refine ⟨by rw [upd_ne (show R ≠ a from fun e => h.apart (by rw [e]; exact hm))]; exact h.at_, h.nd, h.apart, ?_⟩
  refine ⟨by rw [List.length_set]; exact h.rows_.1, fun j x y hx hy => ?_⟩
  by_cases e : i = j
  · subst e
    rw [ha] at hx
    cases hx
    have hi := (List.getElem?_eq_some_iff.1 ha).1
    rw [List.getElem?_set_self (by rw [← h.rows_.1]; exact hi)] at hy
    cases hy
    exact upd_same
  · rw [List.getElem?_set_ne e] at hy
    have hne : x ≠ a := fun z => e (nd_ix h.nd ha (z ▸ hx))
    show upd H a _ x = _
    rw [upd_ne hne]
    exact h.rows_.2 j x y hx hy
/-- a row put behind -/
theorem LL.addRow {H : Hp} {R p : Addr} {as : List Addr} {rows : List (List Nat)} {row : List Nat} (h : LL H R as rows) (hp : IL H p row) (hn : p ∉ as) (hR : p ≠ R) : LL (upd H R (.lst ((as ++ [p]).map V.ref))) R (as ++ [p]) (rows ++ [row]) := by
  refine ⟨upd_same, ?_, ?_, ?_⟩
  · rw [List.nodup_append]
    exact ⟨h.nd, by simp, fun a ha b hb e => hn (by rw [List.mem_singleton.1 hb] at e; rw [← e]; exact ha)⟩
  · intro z
    rcases List.mem_append.1 z with z | z
    · exact h.apart z
    · exact hR (List.mem_singleton.1 z).symm
  · have h1 : At2 (IL (upd H R (.lst ((as ++ [p]).map V.ref)))) as rows := h.rows_.mono fun a b ha z => by
      show upd H R _ a = _
      rw [upd_ne (show a ≠ R from fun e => h.apart (by rw [← e]; exact ha))]
      exact z
    exact h1.snoc (by show upd H R _ p = _; rw [upd_ne hR]; exact hp)
theorem LL.len {H : Hp} {R : Addr} {as : List Addr} {rows : List (List Nat)} (h : LL H R as rows) : as.length = rows.length := h.rows_.1

theorem take_filter {ns : List Nat} {i n : Nat} (p : Nat → Bool) (h : ns[i]? = some n) : (ns.take (i+1)).filter p = (ns.take i).filter p ++ if p n then [n] else [] := by
  rw [List.take_add_one, h, List.filter_append]
  cases hp : p n <;> simp [hp]

section
variable {P : Program} {w : World} {K : PySem.W.Frag} {mg : Str → Option Value} {base : Heap}
def spPutIn : Sp := fun vs H Q _ => ∃ (R : Addr) (as : List Addr) (rows : List (List Nat)) (x : Nat), vs = [.ref R, nv x] ∧ LL H R as rows ∧ rows.length ≤ 1000 ∧ (∀ r ∈ rows, r.length ≤ 1000) ∧
  ∀ H' as', LL H' R as' (RSK.putIn rows x).1 → (∀ c ∈ as', c ∈ as ∨ H c = none) → Fr (OfL R as) H H' → Q (nv (RSK.putIn rows x).2) H'
theorem scPutIn : FnScope ["rows", "number", "at", "row", "spot", "kept", "one"] ["rows", "number"] (defScope sPutIn) := ⟨rfl, rfl, rfl, by decide +kernel, rfl, by decide +kernel, by decide +kernel⟩
theorem ok_putIn {f : Addr} {fd : FuncData} (F : Fun K "put_in" "put_in" sPutIn f fd) (me : mg "enumerate" = none) (mlen : mg "len" = none) : FnOk P w K mg base CX0 1 f fd ["rows", "number"] spPutIn := by
  refine F.ok scPutIn (fun vs H Q E h => ?_) (fun cdv A outer s H vs Q E hr h => ?_)
  · obtain ⟨R, as, rows, x, rfl, _⟩ := h
    rfl
  · obtain ⟨R, as, rows, x, rfl, hL, hl, hlr, q⟩ := h
    refine ⟨_, pss_cons (ps_for PassesOwn.never rfl (pi_enum (by rfl) me (pa_cons (pv 0) pa_nil)) (pg_tup rfl (pgs_cons (pg_name (i := 2) scPutIn.nd rfl (.inl rfl)) (pgs_cons (pg_name (i := 3) scPutIn.nd rfl (.inl rfl)) pgs_nil)))
        (pss_cons (ps_set (i := 4) scPutIn.nd rfl (.inl rfl) (pe_callB (call_lenK (K := K) rfl) (by rfl) mlen PySem.boot_len (pa_cons
            (pe_lc (own := [("one", 6)]) (g := gName 6) rfl scPutIn.nd (pi_list (pv 3)) (blkOk_by (N := ["rows", "number", "at", "row", "spot", "kept", "one"]) (sc := defScope sPutIn) (by decide +kernel)) (fun _ _ _ _ _ => pg_name (i := 6) scPutIn.nd rfl (Or.inl rfl))
              (fun _ _ _ _ _ => pts_one (pt_cmpR op_lt (pv 6) (pv 1) (nomark _))) (fun _ _ _ _ _ => pv 6)) pa_nil)))
        (pss_cons (ps_if (pt_cmpR op_eq (pv 4) (pe_callB (call_lenK (K := K) rfl) (by rfl) mlen PySem.boot_len (pa_cons (pv 3) pa_nil)) (nomark _))
          (pss_cons (ps_expr (pe_bm PySem.F.plainAttrs_list PySem.F.slot_list_append PySem.F.type_list_append mt_append (pv 3) (pa_cons (pv 1) pa_nil))) (pss_one (ps_ret (pv 2)))) pss_nil)
        (pss_cons (ps_set (i := 5) scPutIn.nd rfl (.inl rfl) (pe_ix ix_list (pv 3) (pv 4) (fun _ _ => rfl)))
        (pss_cons (ps_asg (pv 1) (pg_sub (pv 3) (pv 4) set_list))
        (pss_one (ps_set (i := 1) scPutIn.nd rfl (.inr rfl) (pv 5))))))))
      (pss_cons (ps_expr (pe_bm PySem.F.plainAttrs_list PySem.F.slot_list_append PySem.F.type_list_append mt_append (pv 0) (pa_cons (pe_lst (pa_cons (pv 1) pa_nil)) pa_nil)))
      (pss_one (ps_ret (pe_op op_sub (pe_callB (call_lenK (K := K) rfl) (by rfl) mlen PySem.boot_len (pa_cons (pv 0) pa_nil)) pe_int)))), ?_⟩
    refine ⟨.ref R, rfl, R, as.map V.ref, rfl, SqL.of hL.at_, ?_⟩
    refine for_it walk_enum (fun i σ H1 => ∃ (y : Nat) (done : List (List Nat)) (y2 y3 y4 y5 : Option V), σ = [some (.ref R), some (nv y), y2, y3, y4, y5, none] ∧ Fr (OfL R as) H H1 ∧ done.length = i ∧ LL H1 R as (done ++ rows.drop i) ∧
        (RSK.putIn rows x).1 = done ++ (RSK.putIn (rows.drop i) y).1 ∧ (RSK.putIn rows x).2 = i + (RSK.putIn (rows.drop i) y).2)
      ⟨x, [], none, none, none, none, rfl, Fr.refl _ _, rfl, hL, rfl, (Nat.zero_add _).symm⟩ (fun i σ H1 _ ⟨_, _, _, _, _, _, _, _, _, z, _⟩ => SqL.of z.at_) ?_ ?_
    · -- a turn
      rintro i v σ H1 H2 hi ⟨y, done, y2, y3, y4, y5, rfl, fr, hd, hL1, e1, e2⟩ ⟨T, u1, u2, rfl, nT, rfl, g1, g2⟩
      cases g1
      have hlen : as.length = rows.length := hL.len
      have hi2 : i < rows.length := by rw [List.length_map] at hi; omega
      have hdrop : rows.drop i = rows[i] :: rows.drop (i+1) := List.drop_eq_getElem_cons hi2
      generalize hrow : rows[i] = row at hdrop
      have hrl : row.length ≤ 1000 := hlr row (by rw [← hrow]; exact List.getElem_mem hi2)
      obtain ⟨a, ha, hIL⟩ := hL1.get (i := i) (row := row) (by rw [hdrop, ← hd, List.getElem?_append_right (Nat.le_refl _), Nat.sub_self]; rfl)
      have hu2 : u2 = .ref a := by
        have g3 : (as.map V.ref)[i]? = some u2 := g2
        rw [List.getElem?_map, ha] at g3
        exact (Option.some.inj g3).symm
      subst hu2
      have hma := List.mem_of_getElem? ha
      have sT : Same H1 (upd H1 T (.tup [.int (i : Nat), .ref a])) := same_new nT
      refine ⟨T, [.int (i : Nat), .ref a], rfl, SqT.of upd_same, rfl, .int (i : Nat), [.ref a], rfl, .ref a, [], rfl, rfl, ?_⟩
      -- spot = len([..])
      refine ⟨.ref a, rfl, a, rfl, ⟨nvs row, SqL.of (sT _ _ hIL)⟩, fun D nD => ?_⟩
      refine lc_list (K := K) (a := a) (xs := nvs row) (fun j H3 => Same H1 H3 ∧ IL H3 D ((row.take j).filter (· < y))) ⟨sT.trans (same_new nD), upd_same⟩ (fun j H3 _ z => SqL.of (z.1 _ _ hIL)) ?_ ?_
      · rintro j v H3 hj ⟨s3, eD⟩
        obtain ⟨n, hn, rfl⟩ := nvs_of hj
        have hjl := (List.getElem?_eq_some_iff.1 hn).1
        refine ⟨rfl, nv n, rfl, nv y, rfl, (n : Int), (y : Int), rfl, rfl, _, rfl, ?_⟩
        have tf := take_filter (fun z => decide (z < y)) hn
        refine ite2 (fun hlt => ?_) (fun hlt => ?_)
        · have hlt : (n : Int) < (y : Int) := of_decide_eq_true hlt
          refine ⟨nv n, rfl, nvs ((row.take j).filter (· < y)), eD, ?_, same_upd s3 (sT.free nD), ?_⟩
          · rw [nvs_len]
            exact small1000 (Nat.le_trans (List.length_filter_le _ _) (by rw [List.length_take]; omega))
          · show upd H3 D _ D = _
            rw [upd_same, tf, decide_eq_true (show n < y by omega), if_pos rfl]
            unfold nvs
            rw [List.map_append]
            rfl
        · have hlt : ¬ (n : Int) < (y : Int) := fun z => hlt (decide_eq_true z)
          refine ⟨s3, ?_⟩
          show IL H3 D ((row.take (j+1)).filter (· < y))
          rw [tf, decide_eq_false (show ¬ n < y by omega), if_neg (by decide), List.append_nil]
          exact eD
      · rintro H3 ⟨s3, eD⟩
        rw [nvs_len, List.take_length] at eD
        have hL3 := hL1.same s3
        have hI3 : IL H3 a row := s3 _ _ hIL
        have hle := List.length_filter_le (fun z => decide (z < y)) row
        have fr3 : Fr (OfL R as) H H3 := fr.same s3
        refine ⟨D, nvs (row.filter (· < y)), rfl, .inl (SqL.of eD), ?_⟩
        rw [nvs_len]
        generalize hs : (row.filter (· < y)).length = sp at *
        -- if spot == len(row)
        refine ⟨_, rfl, .ref a, rfl, a, nvs row, rfl, .inl (SqL.of hI3), rfl, _, rfl, ?_⟩
        rw [nvs_len]
        refine ite2 (fun he => ?_) (fun he => ?_)
        · have he : sp = row.length := by
            have := V.int.inj (of_decide_eq_true he)
            omega
          have ep : RSK.putIn (rows.drop i) y = ((row ++ [y]) :: rows.drop (i+1), 0) := by
            rw [hdrop]
            unfold RSK.putIn
            rw [hs, if_pos he]
          refine ⟨.ref a, rfl, .inl ⟨rfl, _, SqL.of hI3⟩, nv y, rfl, a, nvs row, nv y, rfl, rfl, hI3, by rw [nvs_len]; exact small1000 hrl, ?_⟩
          refine ⟨_, rfl, ?_⟩
          rw [ep] at e1 e2
          have e3 : nvs row ++ [nv y] = nvs (row ++ [y]) := by unfold nvs; rw [List.map_append]; rfl
          rw [e3]
          have hL4 := hL3.setRow (row' := row ++ [y]) ha
          have e4 : (done ++ rows.drop i).set i (row ++ [y]) = (RSK.putIn rows x).1 := by
            rw [e1, hdrop, ← hd, List.set_append_right _ _ (Nat.le_refl _), Nat.sub_self]
            rfl
          rw [e4] at hL4
          have := q _ as hL4 (fun c hc => .inl hc) (fr3.write (.inr hma))
          rw [e2] at this
          exact this
        · have he : sp ≠ row.length := fun z => he (decide_eq_true (by rw [z]))
          have hlt : sp < row.length := by omega
          have hget : row[sp]? = some (row.getD sp 0) := by
            rw [List.getD_eq_getElem?_getD, List.getElem?_eq_getElem hlt]; rfl
          have ep : RSK.putIn (rows.drop i) y = (row.set sp y :: (RSK.putIn (rows.drop (i+1)) (row.getD sp 0)).1, (RSK.putIn (rows.drop (i+1)) (row.getD sp 0)).2 + 1) := by
            rw [hdrop]
            conv => lhs; unfold RSK.putIn
            rw [hs, if_neg he]
          generalize row.getD sp 0 = z at *
          refine ⟨.ref a, rfl, _, rfl, a, nvs row, (sp : Int), nv z, rfl, rfl, SqL.of hI3, at_of rfl (nvs_at hget), ?_⟩
          refine ⟨nv y, rfl, .ref a, rfl, _, rfl, a, nvs row, (sp : Int), sp, rfl, rfl, hI3, by rw [nvs_len]; exact ixN_nat hlt, ?_⟩
          refine ⟨nv z, rfl, ?_⟩
          rw [nvs_set]
          have hL4 := hL3.setRow (row' := row.set sp y) ha
          have e4 : (done ++ rows.drop i).set i (row.set sp y) = (done ++ [row.set sp y]) ++ rows.drop (i+1) := by
            rw [hdrop, ← hd, List.set_append_right _ _ (Nat.le_refl _), Nat.sub_self, List.append_assoc]
            rfl
          rw [e4] at hL4
          refine ⟨z, done ++ [row.set sp y], _, _, _, _, rfl, fr3.write (.inr hma), by rw [List.length_append, hd]; rfl, hL4, ?_, ?_⟩
          · rw [e1, ep, List.append_assoc]; rfl
          · rw [e2, ep]; omega
    · -- behind the loop
      rintro σ H1 ⟨y, done, y2, y3, y4, y5, rfl, fr, hd, hL1, e1, e2⟩
      have hlen : as.length = rows.length := hL.len
      rw [List.length_map] at *
      have hdr : rows.drop as.length = [] := by rw [List.drop_eq_nil_iff]; omega
      rw [hdr] at e1 e2 hL1
      rw [List.append_nil] at hL1
      refine ⟨.ref R, rfl, .inl ⟨rfl, _, SqL.of hL1.at_⟩, nv y, rfl, by show 1 ≤ sizeLine; decide, fun p np => ?_⟩
      have sp : Same H1 (upd H1 p (.lst [nv y])) := same_new np
      have npR : p ≠ R := (ne_of_none hL1.at_ np).symm
      have npa : p ∉ as := fun z => by
        obtain ⟨j, hj⟩ := List.getElem?_of_mem z
        obtain ⟨r, hr, hI⟩ := hL1.rows_.getL hj
        have hI : H1 p = _ := hI
        rw [np] at hI; cases hI
      refine ⟨R, _, _, rfl, rfl, sp _ _ hL1.at_, ?_, ?_⟩
      · rw [List.length_map, hlen]; exact small1000 hl
      · have hL4 := (hL1.same sp).addRow (p := p) (row := [y]) upd_same npa npR
        rw [List.map_append] at hL4
        refine ⟨.ref R, rfl, R, _, rfl, .inl (SqL.of hL4.at_), _, 1, rfl, rfl, ?_⟩
        have e5 : done ++ [[y]] = (RSK.putIn rows x).1 := e1.symm
        rw [e5] at hL4
        have := q _ (as ++ [p]) hL4 (fun c hc => ?_) ((fr.same sp).write (.inl rfl))
        · rw [e2] at this
          have e6 : V.int (((List.map V.ref (as ++ [p])).length : Int) - 1) = nv (as.length + (RSK.putIn [] y).2) := by
            show V.int _ = V.int _
            rw [List.length_map, List.length_append]
            congr 1
            show ((as.length + 1 : Nat) : Int) - 1 = ((as.length + 0 : Nat) : Int)
            omega
          show Q (V.int (((List.map V.ref (as ++ [p])).length : Int) - 1)) _
          rw [e6]
          exact this
        · rcases List.mem_append.1 hc with z | z
          · exact .inl z
          · rw [List.mem_singleton.1 z]
            exact .inr (fr.free p np)
end
end K61

/-! The comprehensions that come often: [tuple(row) for row in rows], [list(row) for row in table], [len(row) for row in table]. -/
namespace K61
open PySem PySem.Spec PyProof.Rows L2

/-- what is wanted of a new object -/
abbrev onRef (Qd : Addr → Hp → Prop) : VK := fun x H => match x with
  | .ref D => Qd D H
  | _ => False
/-- the reading of a comprehension whose iterator J has come -/
abbrev LcW (J : It) (g : TG) (tt : TT) (te : TE) (vs : List Nat) (σ : L2.St) (H1 : Hp) (Qd : Addr → Hp → Prop) : Prop := tLc (fun _ H R => R J H) g tt te vs σ H1 (onRef Qd)
theorem wipe_one {σ : L2.St} {j : Nat} {v : Option V} : wipe ((wipe σ [j]).set j v) [j] = wipe σ [j] := by
  show ((σ.set j none).set j v).set j none = σ.set j none
  rw [List.set_set, List.set_set]
theorem wiped_at {σ : L2.St} {j : Nat} {v : V} (h : j < σ.length) : ((wipe σ [j]).set j (some v))[j]? = some (some v) := by
  rw [List.getElem?_set_self (by show j < (σ.set j none).length; rw [List.length_set]; exact h)]

section
variable {K : PySem.W.Frag} {H : Hp} {j : Nat} {σ : L2.St} {Qd : Addr → Hp → Prop}
/-- [tuple(row) for row in rows] -/
theorem lc_tuples {R : Addr} {as : List Addr} {rows : List (List Nat)} (hL : LL H R as rows) (hj : j < σ.length) (hz : rows.length ≤ 1000)
    (hd : ∀ D, H D = none → ∀ H' ts, Same H H' → At2 (IT H') ts rows → H' D = some (.lst (ts.map V.ref)) → Qd D H') : LcW (Itl K R) (gName j) tYes (tCB (rTupOf K) (tCons (tVar j) tNil)) [j] σ H Qd := by
  have hlen := hL.len
  intro D nD
  refine lc_list (K := K) (a := R) (xs := as.map V.ref) (fun i H' => ∃ ts, Same H H' ∧ At2 (IT H') ts (rows.take i) ∧ H' D = some (.lst (ts.map V.ref))) ⟨[], same_new nD, At2.nil, upd_same⟩ (fun i H' _ ⟨_, z, _⟩ => SqL.of (z _ _ hL.at_)) ?_ ?_
  · rintro i v H1 hi ⟨ts, s1, h2, eD⟩
    rw [List.getElem?_map] at hi
    obtain ⟨a, ha, rfl⟩ : ∃ a, as[i]? = some a ∧ v = .ref a := by
      cases e : as[i]? with
      | none => rw [e] at hi; cases hi
      | some a => rw [e] at hi; exact ⟨a, rfl, (Option.some.inj hi).symm⟩
    obtain ⟨row, hr, hI⟩ := hL.rows_.getL ha
    refine ⟨wipe_one, .ref a, wiped_at hj, a, nvs row, rfl, SqL.of (s1 _ _ hI), fun t nt => ?_⟩
    have st : Same H1 (upd H1 t (.tup (nvs row))) := same_new nt
    have ntD : D ≠ t := ne_of_none eD nt
    have hl2 : ts.length ≤ 1000 := by rw [h2.1, List.length_take]; omega
    refine ⟨ts.map V.ref, by rw [upd_ne ntD]; exact eD, by rw [List.length_map]; exact small1000 hl2, ts ++ [t], same_upd (s1.trans st) nD, ?_, ?_⟩
    · rw [List.take_add_one, hr]
      have h3 : At2 (IT (upd (upd H1 t (.tup (nvs row))) D (.lst (ts.map V.ref ++ [.ref t])))) ts (rows.take i) := h2.mono fun b r hb z => by
        have nbD : b ≠ D := ne_of z eD (by intro q; cases q)
        show upd _ D _ b = _
        rw [upd_ne nbD]
        exact st _ _ z
      exact h3.snoc (by show upd _ D _ t = _; rw [upd_ne (Ne.symm ntD), upd_same])
    · rw [upd_same, List.map_append]; rfl
  · rintro H1 ⟨ts, s1, h2, eD⟩
    rw [List.length_map, hlen, List.take_length] at h2
    exact hd D nD H1 ts s1 h2 eD
/-- [list(row) for row in table]: new lists, all apart -/
theorem lc_lists {a : Addr} {rows : List (List Nat)} (hT : TTb H a rows) (hj : j < σ.length) (hz : rows.length ≤ 1000)
    (hd : ∀ D, H D = none → ∀ H' ts, Same H H' → LL H' D ts rows → (∀ t ∈ ts, H t = none) → Qd D H') : LcW (Itt K a) (gName j) tYes (tCB (rLstOf K) (tCons (tVar j) tNil)) [j] σ H Qd := by
  obtain ⟨as, hA, h2⟩ := hT
  intro D nD
  refine lc_tup (K := K) (a := a) (xs := as.map V.ref) (fun i H' => ∃ ts, Same H H' ∧ LL H' D ts (rows.take i) ∧ ∀ t ∈ ts, H t = none) ⟨[], same_new nD, ⟨upd_same, List.nodup_nil, by simp, At2.nil⟩, by simp⟩ (fun i H' _ ⟨_, z, _⟩ => SqT.of (z _ _ hA)) ?_ ?_
  · rintro i v H1 hi ⟨ts, s1, hL, nts⟩
    rw [List.getElem?_map] at hi
    obtain ⟨b, hb, rfl⟩ : ∃ b, as[i]? = some b ∧ v = .ref b := by
      cases e : as[i]? with
      | none => rw [e] at hi; cases hi
      | some b => rw [e] at hi; exact ⟨b, rfl, (Option.some.inj hi).symm⟩
    obtain ⟨row, hr, hI⟩ := h2.getL hb
    refine ⟨wipe_one, .ref b, wiped_at hj, b, nvs row, rfl, .inr (SqT.of (s1 _ _ hI)), fun t nt => ?_⟩
    have st : Same H1 (upd H1 t (.lst (nvs row))) := same_new nt
    have ntD : t ≠ D := (ne_of_none hL.at_ nt).symm
    have hl2 : ts.length ≤ 1000 := by rw [hL.len, List.length_take]; omega
    have ntt : t ∉ ts := fun z => by
      obtain ⟨k, hk⟩ := List.getElem?_of_mem z
      obtain ⟨r, _, q⟩ := hL.rows_.getL hk
      have q : H1 t = _ := q
      rw [nt] at q; cases q
    refine ⟨ts.map V.ref, st _ _ hL.at_, by rw [List.length_map]; exact small1000 hl2, ts ++ [t], same_upd (s1.trans st) nD, ?_, fun c hc => ?_⟩
    · have h4 := (hL.same st).addRow (p := t) (row := row) upd_same ntt ntD
      rw [List.take_add_one, hr]
      rw [List.map_append] at h4
      exact h4
    · rcases List.mem_append.1 hc with z | z
      · exact nts c z
      · rw [List.mem_singleton.1 z]; exact s1.free nt
  · rintro H1 ⟨ts, s1, hL, nts⟩
    rw [List.length_map, h2.1, List.take_length] at hL
    exact hd D nD H1 ts s1 hL nts
/-- [len(row) for row in table] -/
theorem lc_lens {a : Addr} {rows : List (List Nat)} (hT : TTb H a rows) (hj : j < σ.length) (hz : rows.length ≤ 1000)
    (hd : ∀ D, H D = none → ∀ H', Same H H' → IL H' D (rows.map List.length) → Qd D H') : LcW (Itt K a) (gName j) tYes (tCB (rLen K) (tCons (tVar j) tNil)) [j] σ H Qd := by
  obtain ⟨as, hA, h2⟩ := hT
  intro D nD
  refine lc_tup (K := K) (a := a) (xs := as.map V.ref) (fun i H' => Same H H' ∧ IL H' D ((rows.take i).map List.length)) ⟨same_new nD, upd_same⟩ (fun i H' _ ⟨z, _⟩ => SqT.of (z _ _ hA)) ?_ ?_
  · rintro i v H1 hi ⟨s1, eD⟩
    rw [List.getElem?_map] at hi
    obtain ⟨b, hb, rfl⟩ : ∃ b, as[i]? = some b ∧ v = .ref b := by
      cases e : as[i]? with
      | none => rw [e] at hi; cases hi
      | some b => rw [e] at hi; exact ⟨b, rfl, (Option.some.inj hi).symm⟩
    obtain ⟨row, hr, hI⟩ := h2.getL hb
    refine ⟨wipe_one, .ref b, wiped_at hj, b, nvs row, rfl, .inr (SqT.of (s1 _ _ hI)), ?_⟩
    refine ⟨nvs ((rows.take i).map List.length), eD, by rw [nvs_len, List.length_map, List.length_take]; exact small1000 (by omega), same_upd s1 nD, ?_⟩
    show upd _ D _ D = _
    rw [upd_same, List.take_add_one, hr, List.map_append]
    unfold nvs
    rw [List.map_append]
    congr 3
    simp [nv]
  · rintro H1 ⟨s1, eD⟩
    rw [List.length_map, h2.1, List.take_length] at eD
    exact hd D nD H1 s1 eD
end
end K61

/-! tables. -/
namespace K61
open PySem PySem.Spec PyProof.Rows L2

theorem LL.fr {S : Addr → Prop} {H H' : Hp} {R : Addr} {as : List Addr} {rows : List (List Nat)} (a : Fr S H H') (h : LL H R as rows) (hR : ¬ S R) (hs : ∀ c ∈ as, ¬ S c) : LL H' R as rows :=
  ⟨a.keep _ _ h.at_ hR, h.nd, h.apart, h.rows_.mono fun c r hc z => a.keep c _ z (hs c hc)⟩
/-- what a list of lists holds stands -/
theorem LL.tracked {H : Hp} {R : Addr} {as : List Addr} {rows : List (List Nat)} (h : LL H R as rows) {c : Addr} (hc : OfL R as c) : ∃ o, H c = some o := by
  rcases hc with z | z
  · rw [z]; exact ⟨_, h.at_⟩
  · obtain ⟨j, hj⟩ := List.getElem?_of_mem z
    obtain ⟨r, _, q⟩ := h.rows_.getL hj
    exact ⟨_, q⟩

section
variable {P : Program} {w : World} {K : PySem.W.Frag} {mg : Str → Option Value} {base : Heap}
def spTables : Sp := fun vs H Q _ => ∃ (a : Addr) (ns : List Nat), vs = [.ref a] ∧ IT H a ns ∧ ns.length ≤ 900 ∧
  ∀ H' p p1 p2, Same H H' → H' p = some (.tup [.ref p1, .ref p2]) → TTb H' p1 (RSK.tables ns).1 → TTb H' p2 (RSK.tables ns).2 → Q (.ref p) H'
theorem scTables : FnScope ["order", "rows", "places", "place", "number", "at", "row"] ["order"] (defScope sTables) := ⟨rfl, rfl, rfl, by decide +kernel, rfl, by decide +kernel, by decide +kernel⟩
/-- what holds between two turns -/
structure TabsAt (H0 H : Hp) (R Pl : Addr) (as bs : List Addr) (rows places : List (List Nat)) (i : Nat) : Prop where
  same : Same H0 H
  lr : LL H R as rows
  lp : LL H Pl bs places
  new : ∀ c, OfL R as c ∨ OfL Pl bs c → H0 c = none
  apart : ∀ c, OfL R as c → ¬ OfL Pl bs c
  len : rows.length = places.length
  few : rows.length ≤ i
  br : ∀ r ∈ rows, r.length ≤ i
  bp : ∀ r ∈ places, r.length ≤ i
theorem ok_tables {f : Addr} {fd : FuncData} (F : Fun K "tables" "tables" sTables f fd) (C : Cal P w K mg base 1 "put_in" ["rows", "number"] spPutIn) (me : mg "enumerate" = none) (mlen : mg "len" = none) (mt : mg "tuple" = none) : FnOk P w K mg base CX0 2 f fd ["order"] spTables := by
  refine F.ok scTables (fun vs H Q E h => ?_) (fun cdv A outer s H vs Q E hr h => ?_)
  · obtain ⟨a, ns, rfl, _⟩ := h
    rfl
  · obtain ⟨a, ns, rfl, hT, hl, q⟩ := h
    refine ⟨_, pss_cons (ps_set (i := 1) scTables.nd rfl (.inl rfl) (pe_lst pa_nil))
      (pss_cons (ps_set (i := 2) scTables.nd rfl (.inl rfl) (pe_lst pa_nil))
      (pss_cons (ps_for PassesOwn.never rfl (pi_enT (by rfl) me (pa_cons (pv 0) pa_nil)) (pg_tup rfl (pgs_cons (pg_name (i := 3) scTables.nd rfl (.inl rfl)) (pgs_cons (pg_name (i := 4) scTables.nd rfl (.inl rfl)) pgs_nil)))
        (pss_cons (ps_set (i := 5) scTables.nd rfl (.inl rfl) (pe_cal C hr (by rfl) (pa_cons (pv 1) (pa_cons (pv 4) pa_nil))))
        (pss_cons (ps_if (pt_cmpR op_eq (pv 5) (pe_callB (call_lenK (K := K) rfl) (by rfl) mlen PySem.boot_len (pa_cons (pv 2) pa_nil)) (nomark _))
          (pss_one (ps_expr (pe_bm PySem.F.plainAttrs_list PySem.F.slot_list_append PySem.F.type_list_append mt_append (pv 2) (pa_cons (pe_lst pa_nil) pa_nil)))) pss_nil)
        (pss_one (ps_expr (pe_bm PySem.F.plainAttrs_list PySem.F.slot_list_append PySem.F.type_list_append mt_append (pe_ix ix_list (pv 2) (pv 5) (fun _ _ => rfl)) (pa_cons (pv 3) pa_nil)))))))
      (pss_one (ps_ret (pe_tup (pa_cons
          (pe_callTy (call_tupK (K := K) rfl) (by rfl) mt (by decide +kernel) (pa_cons (pe_lc (own := [("row", 6)]) (g := gName 6) (tt := tYes) rfl scTables.nd (pi_list (pv 1)) (blkOk_by (N := ["order", "rows", "places", "place", "number", "at", "row"]) (sc := defScope sTables) (by decide +kernel))
            (fun _ _ _ _ _ => pg_name (i := 6) scTables.nd rfl (Or.inl rfl)) (fun _ _ _ _ _ => pts_nil) (fun _ _ _ _ _ => pe_callTy (call_tupK (K := K) rfl) (by rfl) mt (by decide +kernel) (pa_cons (pv 6) pa_nil))) pa_nil))
          (pa_cons
          (pe_callTy (call_tupK (K := K) rfl) (by rfl) mt (by decide +kernel) (pa_cons (pe_lc (own := [("row", 6)]) (g := gName 6) (tt := tYes) rfl scTables.nd (pi_list (pv 2)) (blkOk_by (N := ["order", "rows", "places", "place", "number", "at", "row"]) (sc := defScope sTables) (by decide +kernel))
            (fun _ _ _ _ _ => pg_name (i := 6) scTables.nd rfl (Or.inl rfl)) (fun _ _ _ _ _ => pts_nil) (fun _ _ _ _ _ => pe_callTy (call_tupK (K := K) rfl) (by rfl) mt (by decide +kernel) (pa_cons (pv 6) pa_nil))) pa_nil))
          pa_nil))))))), ?_⟩
    -- rows = [], places = []
    refine ⟨Nat.zero_le _, fun R nR => ⟨Nat.zero_le _, fun Pl nP => ?_⟩⟩
    have nPR : Pl ≠ R := (ne_of_none upd_same nP).symm
    have s1 : Same H (upd H R (.lst [])) := same_new nR
    have s2 : Same H (upd (upd H R (.lst [])) Pl (.lst [])) := s1.trans (same_new nP)
    have start : TabsAt H (upd (upd H R (.lst [])) Pl (.lst [])) R Pl [] [] [] [] 0 := by
      refine ⟨s2, ⟨by rw [upd_ne nPR.symm, upd_same]; rfl, List.nodup_nil, by simp, At2.nil⟩, ⟨upd_same, List.nodup_nil, by simp, At2.nil⟩, ?_, ?_, rfl, Nat.le_refl _, by simp, by simp⟩
      · rintro c (z | z) <;> rcases z with z | z
        · rw [z]; exact nR
        · cases z
        · rw [z]; exact s1.free nP
        · cases z
      · rintro c (z | z) (z2 | z2)
        · exact nPR (z2.symm.trans z)
        · cases z2
        · cases z
        · cases z
    refine ⟨.ref a, rfl, a, nvs ns, rfl, SqT.of (s2 _ _ hT), ?_⟩
    refine for_it walk_enT (fun i σ H1 => ∃ (as bs : List Addr) (rows places : List (List Nat)) (y3 y4 y5 : Option V), σ = [some (.ref a), some (.ref R), some (.ref Pl), y3, y4, y5, none] ∧ TabsAt H H1 R Pl as bs rows places i ∧
        RSK.tables ns = RSK.tabs (ns.drop i) i rows places)
      ⟨[], [], [], [], none, none, none, rfl, start, rfl⟩ (fun i σ H1 _ ⟨_, _, _, _, _, _, _, _, z, _⟩ => SqT.of (z.same _ _ hT)) ?_ ?_
    · -- a turn
      rintro i v σ H1 H2 hi ⟨as, bs, rows, places, y3, y4, y5, rfl, t, et⟩ ⟨T, u1, u2, rfl, nT, rfl, g1, g2⟩
      cases g1
      obtain ⟨x, hx, rfl⟩ := nvs_of g2
      have hxi := (List.getElem?_eq_some_iff.1 hx).1
      have hdrop : ns.drop i = x :: ns.drop (i+1) := by
        rw [List.drop_eq_getElem_cons hxi]
        congr 1
        exact (List.getElem?_eq_some_iff.1 hx).2
      have sT : Same H1 (upd H1 T (.tup [.int (i : Nat), nv x])) := same_new nT
      refine ⟨T, [.int (i : Nat), nv x], rfl, SqT.of upd_same, rfl, .int (i : Nat), [nv x], rfl, nv x, [], rfl, rfl, ?_⟩
      -- at = put_in(rows, number)
      refine ⟨.ref R, rfl, nv x, rfl, R, as, rows, x, rfl, t.lr.same sT, by have := t.few; omega, fun r hr => by have := t.br r hr; omega, fun H3 as' hL3 hnew fr => ?_⟩
      obtain ⟨l1, l2⟩ := RSK.putIn_len rows x
      have few' : (RSK.putIn rows x).1.length ≤ i + 1 := by have := t.few; omega
      have br' := RSK.putIn_bound (x := x) t.br
      have bp' := RSK.addAt_bound (a := (RSK.putIn rows x).2) (j := i) t.bp
      have etn : RSK.tables ns = RSK.tabs (ns.drop (i+1)) (i+1) (RSK.putIn rows x).1 (RSK.addAt places (RSK.putIn rows x).2 i) := by
        rw [et, hdrop]; rfl
      have al := RSK.addAt_len (places := places) (a := (RSK.putIn rows x).2) (i := i)
      have tlen := t.len
      generalize RSK.putIn rows x = pr at *
      obtain ⟨rows', at'⟩ := pr
      simp only at *
      have npl : ∀ c, OfL Pl bs c → ¬ OfL R as c := fun c h1 h2 => t.apart c h2 h1
      have hP3 : LL H3 Pl bs places := (t.lp.same sT).fr fr (npl Pl (.inl rfl)) fun c hc => npl c (.inr hc)
      have hnew' : ∀ c ∈ as', c ∈ as ∨ (H1 c = none ∧ c ≠ T) := fun c hc => by
        rcases hnew c hc with z | z
        · exact .inl z
        · refine .inr ⟨sT.free z, fun e => ?_⟩
          rw [e, upd_same] at z; cases z
      have same3 : Same H H3 := Fr.same_of (t.same.trans sT) fr fun b o e z => by
        rw [t.new b (.inl z)] at e; cases e
      have new3 : ∀ c, OfL R as' c → H c = none := fun c hc => by
        rcases hc with z | z
        · exact t.new c (.inl (.inl z))
        · rcases hnew' c z with z | z
          · exact t.new c (.inl (.inr z))
          · exact t.same.free z.1
      have apart3 : ∀ c, OfL R as' c → ¬ OfL Pl bs c := fun c hc z2 => by
        rcases hc with z | z
        · exact t.apart c (.inl z) z2
        · rcases hnew' c z with z | z
          · exact t.apart c (.inr z) z2
          · obtain ⟨o, ho⟩ := t.lp.tracked z2
            rw [z.1] at ho; cases ho
      -- if at == len(places)
      refine ⟨nv at', rfl, .ref Pl, rfl, Pl, bs.map V.ref, rfl, .inl (SqL.of hP3.at_), rfl, _, rfl, ?_⟩
      have hbl := hP3.len
      refine ite2 (fun he => ?_) (fun he => ?_)
      · have he : at' = places.length := by
          have h1 := V.int.inj (of_decide_eq_true he)
          rw [List.length_map] at h1
          omega
        refine ⟨.ref Pl, rfl, .inl ⟨rfl, _, SqL.of hP3.at_⟩, Nat.zero_le _, fun p np => ?_⟩
        have sp : Same H3 (upd H3 p (.lst [])) := same_new np
        have npP : p ≠ Pl := (ne_of_none hP3.at_ np).symm
        have npb : p ∉ bs := fun z => by
          obtain ⟨o, ho⟩ := hP3.tracked (c := p) (.inr z)
          rw [np] at ho; cases ho
        have npr : ¬ OfL R as' p := fun z => by
          obtain ⟨o, ho⟩ := hL3.tracked z
          rw [np] at ho; cases ho
        have hP4 := (hP3.same sp).addRow (p := p) (row := []) upd_same npb npP
        have hR4 : LL (upd (upd H3 p (.lst [])) Pl (.lst ((bs ++ [p]).map V.ref))) R as' rows' := by
          have hn : ∀ c, OfL R as' c → c ≠ Pl := fun c hc e => apart3 c hc (.inl e)
          refine ⟨by rw [upd_ne (hn R (.inl rfl))]; exact sp _ _ hL3.at_, hL3.nd, hL3.apart, hL3.rows_.mono fun c r hc z => ?_⟩
          show upd _ Pl _ c = _
          rw [upd_ne (hn c (.inr hc))]
          exact sp _ _ z
        have hnP : H Pl = none := t.new Pl (.inr (.inl rfl))
        have same4 : Same H (upd (upd H3 p (.lst [])) Pl (.lst ((bs ++ [p]).map V.ref))) := same_upd (same3.trans sp) hnP
        have hpl : (bs ++ [p])[at']? = some p := by rw [he, ← hbl, List.getElem?_concat_length]
        have hbl2 := t.len
        refine ⟨Pl, bs.map V.ref, _, rfl, rfl, sp _ _ hP3.at_, ?_, ?_⟩
        · rw [List.length_map, hbl]; exact small1000 (by have := t.few; omega)
        · rw [List.map_append] at hP4 hR4 same4
          -- places[at].append(place)
          have hIp : IL (upd (upd H3 p (.lst [])) Pl (.lst (bs.map V.ref ++ [V.ref p]))) p [] := by
            show upd _ Pl _ p = _
            rw [upd_ne npP, upd_same]; rfl
          refine ⟨.ref Pl, rfl, nv at', rfl, Pl, _, (at' : Int), .ref p, rfl, rfl, SqL.of hP4.at_, at_of rfl (by rw [List.getElem?_map, hpl]; rfl), ?_⟩
          refine ⟨.inl ⟨rfl, _, SqL.of hIp⟩, .int (i : Nat), rfl, p, [], .int (i : Nat), rfl, rfl, hIp, by decide, ?_⟩
          have hP5 := hP4.setRow (i := at') (a := p) (row' := [i]) hpl
          have hset : (places ++ [[]]).set at' [i] = RSK.addAt places at' i := by
            unfold RSK.addAt
            rw [if_pos he, he, List.set_append_right _ _ (Nat.le_refl _), Nat.sub_self]
            rfl
          rw [hset] at hP5
          have fin : ∀ c, OfL R as' c → c ≠ p := fun c hc e => npr (e ▸ hc)
          refine ⟨as', bs ++ [p], rows', RSK.addAt places at' i, _, _, _, rfl, ⟨?_, ?_, hP5, ?_, ?_, ?_, few', br', bp'⟩, etn⟩
          · exact same_upd same4 (same3.free np)
          · refine ⟨by rw [upd_ne (fin R (.inl rfl))]; exact hR4.at_, hR4.nd, hR4.apart, hR4.rows_.mono fun c r hc z => ?_⟩
            show upd _ p _ c = _
            rw [upd_ne (fin c (.inr hc))]
            exact z
          · rintro c (z | z)
            · exact new3 c z
            · rcases z with z | z
              · exact t.new c (.inr (.inl z))
              · rcases List.mem_append.1 z with z | z
                · exact t.new c (.inr (.inr z))
                · rw [List.mem_singleton.1 z]; exact same3.free np
          · rintro c hc (z | z)
            · exact apart3 c hc (.inl z)
            · rcases List.mem_append.1 z with z | z
              · exact apart3 c hc (.inr z)
              · exact fin c hc (List.mem_singleton.1 z)
          · rw [if_pos he] at al
            omega
      · have he : at' ≠ places.length := fun z => he (decide_eq_true (by rw [List.length_map, hbl, z]; rfl))
        rw [tlen] at l1
        have hlt : at' < places.length := by omega
        have hrow : places[at']? = some (places.getD at' []) := by rw [List.getD_eq_getElem?_getD, List.getElem?_eq_getElem hlt]; rfl
        obtain ⟨b, hb, hIb⟩ := hP3.get hrow
        have hbm := List.mem_of_getElem? hb
        have hblen : (places.getD at' []).length ≤ i := t.bp _ (List.mem_of_getElem? hrow)
        refine ⟨.ref Pl, rfl, nv at', rfl, Pl, bs.map V.ref, (at' : Int), .ref b, rfl, rfl, SqL.of hP3.at_, at_of rfl (by rw [List.getElem?_map, hb]; rfl), ?_⟩
        refine ⟨.inl ⟨rfl, _, SqL.of hIb⟩, .int (i : Nat), rfl, b, nvs (places.getD at' []), .int (i : Nat), rfl, rfl, hIb, by rw [nvs_len]; exact small1000 (by omega), ?_⟩
        have e3 : nvs (places.getD at' []) ++ [V.int (i : Nat)] = nvs (places.getD at' [] ++ [i]) := by unfold nvs; rw [List.map_append]; rfl
        rw [e3]
        have hP5 := hP3.setRow (i := at') (a := b) (row' := places.getD at' [] ++ [i]) hb
        have hset : places.set at' (places.getD at' [] ++ [i]) = RSK.addAt places at' i := by
          unfold RSK.addAt
          rw [if_neg he]
        rw [hset] at hP5
        have fin : ∀ c, OfL R as' c → c ≠ b := fun c hc e => apart3 c hc (.inr (e ▸ hbm))
        refine ⟨as', bs, rows', RSK.addAt places at' i, _, _, _, rfl, ⟨?_, ?_, hP5, ?_, apart3, ?_, few', br', bp'⟩, etn⟩
        · exact same_upd same3 (t.new b (.inr (.inr hbm)))
        · refine ⟨by rw [upd_ne (fin R (.inl rfl))]; exact hL3.at_, hL3.nd, hL3.apart, hL3.rows_.mono fun c r hc z => ?_⟩
          show upd _ b _ c = _
          rw [upd_ne (fin c (.inr hc))]
          exact z
        · rintro c (z | z)
          · exact new3 c z
          · exact t.new c (.inr z)
        · rw [if_neg he] at al
          omega
    · -- the end
      rintro σ H1 ⟨as, bs, rows, places, y3, y4, y5, rfl, t, et⟩
      rw [nvs_len] at *
      rw [List.drop_length] at et
      have et : RSK.tables ns = (rows, places) := et
      have q1 : rows.length ≤ 1000 := by have := t.few; omega
      have q2 : places.length ≤ 1000 := by have := t.few; have := t.len; omega
      refine ⟨.ref R, rfl, R, rfl, ⟨_, SqL.of t.lr.at_⟩, ?_⟩
      refine lc_tuples (K := K) t.lr ?_ q1 fun D nD H2 ts s2 h2 eD => ?_
      · show 6 < 7; decide
      refine ⟨D, ts.map V.ref, rfl, SqL.of eD, fun p1 np1 => ?_⟩
      have s3 : Same H2 (upd H2 p1 (.tup (ts.map V.ref))) := same_new np1
      have s13 := s2.trans s3
      refine ⟨.ref Pl, rfl, Pl, rfl, ⟨_, SqL.of (s13 _ _ t.lp.at_)⟩, ?_⟩
      refine lc_tuples (K := K) (t.lp.same s13) ?_ q2 fun D2 nD2 H4 ts2 s4 h4 eD4 => ?_
      · show 6 < 7; decide
      refine ⟨D2, ts2.map V.ref, rfl, SqL.of eD4, fun p2 np2 => ?_⟩
      have s5 : Same H4 (upd H4 p2 (.tup (ts2.map V.ref))) := same_new np2
      refine ⟨by show 2 ≤ sizeLine; decide, fun p np => ?_⟩
      have s6 : Same (upd H4 p2 (.tup (ts2.map V.ref))) (upd (upd H4 p2 (.tup (ts2.map V.ref))) p (.tup [.ref p1, .ref p2])) := same_new np
      have s36 := s4.trans (s5.trans s6)
      refine q _ p p1 p2 (t.same.trans (s13.trans s36)) upd_same ?_ ?_
      · rw [et]
        exact ⟨ts, s36 _ _ upd_same, h2.mono fun c r _ z => (s3.trans s36) _ _ z⟩
      · rw [et]
        exact ⟨ts2, s6 _ _ upd_same, h4.mono fun c r _ z => (s5.trans s6) _ _ z⟩
end
end K61

/-! taken_out. -/
namespace K61
open PySem PySem.Spec PyProof.Rows L2

theorem tkOk_drop : ∀ {rows : List (List Nat)} {a k : Nat}, RSK.TkOk rows a → k ≤ a → RSK.TkOk (rows.drop k) (a - k)
  | [], a, k, h, _ => by cases a <;> exact absurd h (by simp [RSK.TkOk])
  | row :: rest, a, 0, h, _ => h
  | row :: rest, 0, k+1, _, hk => by omega
  | row :: rest, a+1, k+1, h, hk => by
    show RSK.TkOk (rest.drop k) (a + 1 - (k + 1))
    rw [show a + 1 - (k + 1) = a - k by omega]
    exact tkOk_drop h.1 (by omega)
theorem tkOk_lt : ∀ {rows : List (List Nat)} {a : Nat}, RSK.TkOk rows a → a < rows.length
  | [], a, h => by cases a <;> exact absurd h (by simp [RSK.TkOk])
  | row :: rest, 0, _ => by simp
  | row :: rest, a+1, h => by
    have := tkOk_lt h.1
    rw [List.length_cons]; omega
theorem cut_to (xs : List V) {n : Nat} (h : n ≤ xs.length) : cutV xs none (some (n : Int)) = xs.take n := by
  unfold cutV
  rw [HT.sIx_none, HT.sIx_nat, Nat.min_eq_left h, List.drop_zero, Nat.sub_zero]

section
variable {P : Program} {w : World} {K : PySem.W.Frag} {mg : Str → Option Value} {base : Heap}
def spTaken : Sp := fun vs H Q _ => ∃ (R : Addr) (as : List Addr) (rows : List (List Nat)) (a : Nat), vs = [.ref R, nv a] ∧ LL H R as rows ∧ RSK.TkOk rows a ∧ rows.length ≤ 1000 ∧ (∀ r ∈ rows, r.length ≤ 1000) ∧
  ∀ H', LL H' R as (RSK.takenOut rows a).1 → Fr (OfL R as) H H' → Q (nv (RSK.takenOut rows a).2) H'
theorem scTaken : FnScope ["rows", "at", "number", "row", "spot", "kept", "one"] ["rows", "at"] (defScope sTaken) := ⟨rfl, rfl, rfl, by decide +kernel, rfl, by decide +kernel, by decide +kernel⟩
theorem ok_taken {f : Addr} {fd : FuncData} (F : Fun K "taken_out" "taken_out" sTaken f fd) (mlen : mg "len" = none) : FnOk P w K mg base CX0 1 f fd ["rows", "at"] spTaken := by
  refine F.ok scTaken (fun vs H Q E h => ?_) (fun cdv A outer s H vs Q E hr h => ?_)
  · obtain ⟨R, as, rows, a, rfl, _⟩ := h
    rfl
  · obtain ⟨R, as, rows, a, rfl, hL, hok, hl, hlr, q⟩ := h
    refine ⟨_, pss_cons (ps_set (i := 2) scTaken.nd rfl (.inr rfl) (pe_bm0 PySem.F.plainAttrs_list PySem.F.slot_list_pop PySem.F.type_list_pop mt_pop (pe_ix ix_list (pv 0) (pv 1) (fun _ _ => rfl))))
      (pss_cons (ps_for PassesOwn.never rfl (pi_list (pe_revL (pe_slice sl_list (pv 0) po_none (po_some (pv 1))))) (pg_name (i := 3) scTaken.nd rfl (.inl rfl))
        (pss_cons (ps_set (i := 4) scTaken.nd rfl (.inl rfl) (pe_op op_sub (pe_callB (call_lenK (K := K) rfl) (by rfl) mlen PySem.boot_len (pa_cons
            (pe_lc (own := [("one", 6)]) (g := gName 6) rfl scTaken.nd (pi_list (pv 3)) (blkOk_by (N := ["rows", "at", "number", "row", "spot", "kept", "one"]) (sc := defScope sTaken) (by decide +kernel)) (fun _ _ _ _ _ => pg_name (i := 6) scTaken.nd rfl (Or.inl rfl))
              (fun _ _ _ _ _ => pts_one (pt_cmpR op_lt (pv 6) (pv 2) (nomark _))) (fun _ _ _ _ _ => pv 6)) pa_nil)) pe_int))
        (pss_cons (ps_set (i := 5) scTaken.nd rfl (.inl rfl) (pe_ix ix_list (pv 3) (pv 4) (fun _ _ => rfl)))
        (pss_cons (ps_asg (pv 2) (pg_sub (pv 3) (pv 4) set_list))
        (pss_one (ps_set (i := 2) scTaken.nd rfl (.inr rfl) (pv 5)))))))
      (pss_one (ps_ret (pv 2)))), ?_⟩
    have hlt := tkOk_lt hok
    have hlen : as.length = rows.length := hL.len
    -- number = rows[at].pop()
    obtain ⟨row0, hrow0⟩ : ∃ r, rows[a]? = some r := ⟨_, List.getElem?_eq_getElem hlt⟩
    obtain ⟨b0, hb0, hI0⟩ := hL.get hrow0
    have hne : row0 ≠ [] := by
      have h1 := tkOk_drop hok (Nat.le_refl a)
      have hd : rows.drop a = row0 :: rows.drop (a+1) := by
        rw [List.drop_eq_getElem_cons hlt]
        congr 1
        exact (List.getElem?_eq_some_iff.1 hrow0).2
      rw [hd, Nat.sub_self] at h1
      exact h1
    have hd0 : rows.drop a = row0 :: rows.drop (a+1) := by
      rw [List.drop_eq_getElem_cons hlt]
      congr 1
      exact (List.getElem?_eq_some_iff.1 hrow0).2
    have hlast : row0[row0.length - 1]? = some (row0.getLastD 0) := by
      rw [← List.getLast?_eq_getElem?]
      cases row0 with
      | nil => exact absurd rfl hne
      | cons c r => simp [List.getLast?_cons, List.getLastD_cons]
    refine ⟨.ref R, rfl, nv a, rfl, R, as.map V.ref, (a : Int), .ref b0, rfl, rfl, SqL.of hL.at_, at_of rfl (by rw [List.getElem?_map, hb0]; rfl), ?_⟩
    refine ⟨.inl ⟨rfl, _, SqL.of hI0⟩, b0, nvs row0, nv (row0.getLastD 0), rfl, rfl, hI0, ?_, ?_⟩
    · rw [nvs_len]; exact nvs_at hlast
    · have e3 : (nvs row0).dropLast = nvs row0.dropLast := (List.map_dropLast ..).symm
      rw [e3]
      have hL1 := hL.setRow (i := a) (a := b0) (row' := row0.dropLast) hb0
      have fr1 : Fr (OfL R as) H (upd H b0 (.lst (nvs row0.dropLast))) := (Fr.refl _ _).write (.inr (List.mem_of_getElem? hb0))
      have e4 : rows.set a row0.dropLast = rows.take a ++ (RSK.takenOut (rows.drop a) 0).1 := by
        rw [hd0]
        show _ = rows.take a ++ (row0.dropLast :: rows.drop (a+1))
        rw [List.set_eq_take_append_cons_drop, if_pos hlt]
      have e5 : row0.getLastD 0 = (RSK.takenOut (rows.drop a) 0).2 := by rw [hd0]; rfl
      rw [e4] at hL1
      rw [e5]
      generalize upd H b0 (.lst (nvs row0.dropLast)) = H1 at *
      clear e3 e4 e5 hlast hI0 hb0 hne hd0
      -- for row in rows[:at][::-1]
      refine ⟨.ref R, rfl, nv a, rfl, (a : Int), rfl, R, as.map V.ref, rfl, SqL.of hL1.at_, fun S nS => ?_⟩
      have sS := same_new (o := .lst (cutV (as.map V.ref) none (some (a : Int)))) nS
      rw [cut_to _ (by rw [List.length_map]; omega)] at *
      refine ⟨S, _, rfl, SqL.of upd_same, fun Lr nLr => ?_⟩
      have sLr := same_new (o := .lst ((as.map V.ref).take a).reverse) nLr
      have s2 := sS.trans sLr
      refine ⟨Lr, rfl, ⟨_, SqL.of upd_same⟩, ?_⟩
      have hLlen : ((as.map V.ref).take a).reverse.length = a := by
        rw [List.length_reverse, List.length_take, List.length_map]; omega
      have hnLr : H1 Lr = none := sS.free nLr
      have nLrO : ¬ OfL R as Lr := fun z => by
        obtain ⟨o, ho⟩ := hL1.tracked z
        rw [hnLr] at ho; cases ho
      refine for_it walk_list (fun i σ H2 => ∃ (y3 y4 y5 : Option V), σ = [some (.ref R), some (nv a), some (nv (RSK.takenOut (rows.drop (a - i)) i).2), y3, y4, y5, none] ∧ Fr (OfL R as) H H2 ∧
          LL H2 R as (rows.take (a - i) ++ (RSK.takenOut (rows.drop (a - i)) i).1) ∧ H2 Lr = some (.lst ((as.map V.ref).take a).reverse)) ⟨none, none, none, rfl, fr1.same s2, hL1.same s2, upd_same⟩ (fun i σ H2 _ ⟨_, _, _, _, _, _, z⟩ => SqL.of z) ?_ ?_
      · rintro i v σ H2 H2' hi ⟨y3, y4, y5, rfl, fr, hL2, hLr⟩ ⟨rfl, hv⟩
        rw [hLlen] at hi
        obtain ⟨k, hk⟩ : ∃ k, a - i = k + 1 := ⟨a - i - 1, by omega⟩
        have hki : a - (i + 1) = k := by omega
        rw [hk] at hL2
        rw [hk]
        -- the list met
        have hka : k < as.length := by omega
        obtain ⟨b, hb⟩ : ∃ b, as[k]? = some b := ⟨_, List.getElem?_eq_getElem hka⟩
        have hv2 : v = .ref b := by
          rw [List.getElem?_reverse (by rw [List.length_take, List.length_map]; omega), List.length_take, List.length_map, List.getElem?_take_of_lt (by omega), List.getElem?_map,
            show min a as.length - 1 - i = k by omega, hb] at hv
          exact (Option.some.inj hv).symm
        subst hv2
        have hkr : k < rows.length := by omega
        obtain ⟨row, hrow⟩ : ∃ r, rows[k]? = some r := ⟨_, List.getElem?_eq_getElem hkr⟩
        have hdk : rows.drop k = row :: rows.drop (k+1) := by
          rw [List.drop_eq_getElem_cons hkr]
          congr 1
          exact (List.getElem?_eq_some_iff.1 hrow).2
        have hokk : 0 < (row.filter (· < (RSK.takenOut (rows.drop (k+1)) i).2)).length := by
          have h1 := tkOk_drop hok (show k ≤ a by omega)
          rw [hdk, show a - k = i + 1 by omega] at h1
          exact h1.2
        have hstep : RSK.takenOut (rows.drop k) (i+1) = (row.set ((row.filter (· < (RSK.takenOut (rows.drop (k+1)) i).2)).length - 1) (RSK.takenOut (rows.drop (k+1)) i).2 :: (RSK.takenOut (rows.drop (k+1)) i).1,
            row.getD ((row.filter (· < (RSK.takenOut (rows.drop (k+1)) i).2)).length - 1) 0) := by
          rw [hdk]; rfl
        have htk : rows.take (k+1) = rows.take k ++ [row] := by rw [List.take_add_one, hrow]; rfl
        generalize RSK.takenOut (rows.drop (k+1)) i = tk at *
        obtain ⟨tail, y⟩ := tk
        simp only at *
        have hrl : row.length ≤ 1000 := hlr row (List.mem_of_getElem? hrow)
        have hIb : IL H2' b row := by
          refine hL2.rows_.2 k b row hb ?_
          rw [htk, List.append_assoc, List.getElem?_append_right (by rw [List.length_take]; omega), List.length_take, show k - min k rows.length = 0 by omega]
          rfl
        -- spot = len([..]) - 1
        refine ⟨.ref b, rfl, b, rfl, ⟨nvs row, SqL.of hIb⟩, fun D nD => ?_⟩
        refine lc_list (K := K) (a := b) (xs := nvs row) (fun j H3 => Same H2' H3 ∧ IL H3 D ((row.take j).filter (· < y))) ⟨same_new nD, upd_same⟩ (fun j H3 _ z => SqL.of (z.1 _ _ hIb)) ?_ ?_
        · rintro j v H3 hj ⟨s3, eD⟩
          obtain ⟨n, hn, rfl⟩ := nvs_of hj
          have hjl := (List.getElem?_eq_some_iff.1 hn).1
          refine ⟨rfl, nv n, rfl, nv y, rfl, (n : Int), (y : Int), rfl, rfl, _, rfl, ?_⟩
          have tf := take_filter (fun z => decide (z < y)) hn
          refine ite2 (fun hlt => ?_) (fun hlt => ?_)
          · have hlt : (n : Int) < (y : Int) := of_decide_eq_true hlt
            refine ⟨nv n, rfl, nvs ((row.take j).filter (· < y)), eD, ?_, same_upd s3 nD, ?_⟩
            · rw [nvs_len]
              exact small1000 (Nat.le_trans (List.length_filter_le _ _) (by rw [List.length_take]; omega))
            · show upd H3 D _ D = _
              rw [upd_same, tf, decide_eq_true (show n < y by omega), if_pos rfl]
              unfold nvs
              rw [List.map_append]
              rfl
          · have hlt : ¬ (n : Int) < (y : Int) := fun z => hlt (decide_eq_true z)
            refine ⟨s3, ?_⟩
            show IL H3 D ((row.take (j+1)).filter (· < y))
            rw [tf, decide_eq_false (show ¬ n < y by omega), if_neg (by decide), List.append_nil]
            exact eD
        · rintro H3 ⟨s3, eD⟩
          rw [nvs_len, List.take_length] at eD
          have hL3 := hL2.same s3
          have hI3 : IL H3 b row := s3 _ _ hIb
          have hle := List.length_filter_le (fun z => decide (z < y)) row
          refine ⟨D, nvs (row.filter (· < y)), rfl, .inl (SqL.of eD), ?_⟩
          rw [nvs_len]
          generalize (row.filter (· < y)).length = c at *
          refine ⟨(c : Int), 1, rfl, rfl, ?_⟩
          have hlt : c - 1 < row.length := by omega
          have hsp : (c : Int) - 1 = ((c - 1 : Nat) : Int) := by omega
          have hget : row[c - 1]? = some (row.getD (c - 1) 0) := by
            rw [List.getD_eq_getElem?_getD, List.getElem?_eq_getElem hlt]; rfl
          -- kept = row[spot]; row[spot] = number; number = kept
          refine ⟨.ref b, rfl, _, rfl, b, nvs row, (c : Int) - 1, nv (row.getD (c - 1) 0), rfl, rfl, SqL.of hI3, at_of hsp (nvs_at hget), ?_⟩
          refine ⟨nv y, rfl, .ref b, rfl, _, rfl, b, nvs row, (c : Int) - 1, c - 1, rfl, rfl, hI3, by rw [nvs_len, hsp]; exact ixN_nat hlt, ?_⟩
          refine ⟨nv (row.getD (c - 1) 0), rfl, ?_⟩
          rw [nvs_set]
          have hL4 := hL3.setRow (row' := row.set (c - 1) y) hb
          have e4 : (rows.take (k+1) ++ tail).set k (row.set (c - 1) y) = rows.take k ++ (row.set (c - 1) y :: tail) := by
            have hlk : (rows.take k).length = k := by rw [List.length_take]; omega
            rw [htk, List.append_assoc, List.set_append_right _ _ (by omega), hlk, Nat.sub_self]
            rfl
          rw [e4] at hL4
          have hLr3 : H3 Lr = some (.lst ((as.map V.ref).take a).reverse) := s3 _ _ hLr
          have nbL : Lr ≠ b := fun e => nLrO (.inr (e ▸ List.mem_of_getElem? hb))
          refine ⟨some (.ref b), some (.int ((c : Int) - 1)), some (nv (row.getD (c - 1) 0)), ?_, (fr.same s3).write (.inr (List.mem_of_getElem? hb)), ?_, by rw [upd_ne nbL]; exact hLr3⟩
          · rw [hki, hstep]; rfl
          · rw [hki, hstep]; exact hL4
      · rintro σ H2 ⟨y3, y4, y5, rfl, fr, hL2, hLr⟩
        rw [hLlen, Nat.sub_self, List.take_zero, List.drop_zero] at *
        exact ⟨_, rfl, q _ hL2 fr⟩
end
end K61

/-! order_of_tables. -/
namespace K61
open PySem PySem.Spec PyProof.Rows L2

theorem takenOut_bound {n : Nat} : ∀ {rows : List (List Nat)} {a : Nat}, (∀ r ∈ rows, r.length ≤ n) → (RSK.takenOut rows a).1.length = rows.length ∧ ∀ r ∈ (RSK.takenOut rows a).1, r.length ≤ n
  | [], a, h => by cases a <;> exact ⟨rfl, by simp [RSK.takenOut]⟩
  | row :: rest, 0, h => by
    refine ⟨rfl, fun r hr => ?_⟩
    rcases List.mem_cons.1 (show r ∈ row.dropLast :: rest from hr) with z | z
    · rw [z, List.length_dropLast]
      have := h row (by simp)
      omega
    · exact h r (by simp [z])
  | row :: rest, a+1, h => by
    obtain ⟨h1, h2⟩ := takenOut_bound (rows := rest) (a := a) fun r hr => h r (by simp [hr])
    unfold RSK.takenOut
    refine ⟨by rw [List.length_cons, List.length_cons, h1], fun r hr => ?_⟩
    rcases List.mem_cons.1 hr with z | z
    · rw [z, List.length_set]; exact h row (by simp)
    · exact h2 r z
theorem filter_one {n a : Nat} {p : Nat → Bool} (ha : a < n) (pa : p a = true) (h : ∀ k, k < n → p k = true → k = a) : (List.range n).filter p = [a] := by
  refine RSK.sorted_ext (List.Pairwise.filter _ List.pairwise_lt_range) (by simp) fun v => ?_
  rw [List.mem_filter, List.mem_range, List.mem_singleton]
  constructor
  · rintro ⟨h1, h2⟩; exact h v h1 h2
  · rintro rfl; exact ⟨ha, pa⟩
theorem range_filter (p : Nat → Bool) (i : Nat) : (List.range (i+1)).filter p = (List.range i).filter p ++ if p i then [i] else [] := by
  rw [List.range_succ, List.filter_append]
  cases h : p i <;> simp [h]
theorem pg_tupK {X : Cx} {K : PySem.W.Frag} {es : List Expr} {k n : Nat} {t : TGs} {pos : Pos} (e : X.K = K) (hc : X.calm = true) (h : PGs X es t)
    (hn : (assignEach es X.env).length = n := by rfl) (hst : (assignEach es X.env).findIdx? (·.1) = none := by rfl) : PG X (.Tuple es k pos) (gTup K n t) := by
  subst e
  exact pg_tup hc h hn hst
theorem nvs_last (ns : List Nat) : atI (nvs ns) (-1) = ns.getLast?.map nv := by
  cases h : ns.getLast? with
  | none =>
    rw [List.getLast?_eq_none_iff] at h
    subst h
    rfl
  | some x =>
    obtain ⟨A, rfl⟩ : ∃ A, ns = A ++ [x] := List.getLast?_eq_some_iff.1 h
    unfold nvs
    rw [List.map_append]
    exact atI_last _ _

section
variable {P : Program} {w : World} {K : PySem.W.Frag} {mg : Str → Option Value} {base : Heap}
def spOot : Sp := fun vs H Q _ => ∃ (a b : Addr) (one other : List (List Nat)), vs = [.ref a, .ref b] ∧ TTb H a one ∧ TTb H b other ∧ RSK.OotOk (other.map List.length).sum one other ∧ one.length ≤ 900 ∧ other.length ≤ 900 ∧ (∀ r ∈ one, r.length ≤ 900) ∧
  (other.map List.length).sum ≤ 900 ∧ ∀ H' p, Same H H' → IT H' p (RSK.oot (other.map List.length).sum one other []) → Q (.ref p) H'
theorem scOot : FnScope ["one", "other", "rows", "places", "found", "place", "at", "row", "k"] ["one", "other"] (defScope sOot) := ⟨rfl, rfl, rfl, by decide +kernel, rfl, by decide +kernel, by decide +kernel⟩
/-- what holds between two turns: m places are left -/
structure OotAt (H0 H : Hp) (R Pl Fo : Addr) (as bs : List Addr) (rows places : List (List Nat)) (fs : List Nat) (m : Nat) : Prop where
  same : Same H0 H
  lr : LL H R as rows
  lp : LL H Pl bs places
  lf : IL H Fo fs
  new : ∀ c, OfL R as c ∨ OfL Pl bs c ∨ c = Fo → H0 c = none
  apart : ∀ c, OfL R as c → ¬ OfL Pl bs c
  fR : ¬ OfL R as Fo
  fP : ¬ OfL Pl bs Fo
  ok : RSK.OotOk m rows places
  few : rows.length ≤ 900
  fewp : places.length ≤ 900
  br : ∀ r ∈ rows, r.length ≤ 900
theorem ok_oot {f : Addr} {fd : FuncData} (F : Fun K "order_of_tables" "order_of_tables" sOot f fd) (C : Cal P w K mg base 1 "taken_out" ["rows", "at"] spTaken) (mlist : mg "list" = none) (mlen : mg "len" = none) (mr : mg "range" = none) (ms : mg "sum" = none)
    (me : mg "enumerate" = none) (mt : mg "tuple" = none) : FnOk P w K mg base CX0 2 f fd ["one", "other"] spOot := by
  refine F.ok scOot (fun vs H Q E h => ?_) (fun cdv A outer s H vs Q E hr h => ?_)
  · obtain ⟨a, b, one, other, rfl, _⟩ := h
    rfl
  · obtain ⟨a, b, one, other, rfl, hT1, hT2, hok, hl1, hl2, hb1, hm, q⟩ := h
    have hu := hr.units
    refine ⟨_, pss_cons (ps_setLc (i := 2) (own := [("row", 7)]) (g := gName 7) (tt := tYes) rfl scOot.nd rfl rfl (sw_true rfl rfl rfl (by decide +kernel)) (pi_tup (pv 0)) (blkOk_by (N := ["one", "other", "rows", "places", "found", "place", "at", "row", "k"]) (sc := defScope sOot) (by decide +kernel))
          (fun _ _ _ _ _ => pg_name (i := 7) scOot.nd rfl (Or.inl rfl)) (fun _ _ _ _ _ => pts_nil) (fun _ _ _ _ _ => pe_callTy (call_lstK (K := K) rfl) (by rfl) mlist (by decide +kernel) (pa_cons (pv 7) pa_nil)))
      (pss_cons (ps_setLc (i := 3) (own := [("row", 7)]) (g := gName 7) (tt := tYes) rfl scOot.nd rfl rfl (sw_true rfl rfl rfl (by decide +kernel)) (pi_tup (pv 1)) (blkOk_by (N := ["one", "other", "rows", "places", "found", "place", "at", "row", "k"]) (sc := defScope sOot) (by decide +kernel))
          (fun _ _ _ _ _ => pg_name (i := 7) scOot.nd rfl (Or.inl rfl)) (fun _ _ _ _ _ => pts_nil) (fun _ _ _ _ _ => pe_callTy (call_lstK (K := K) rfl) (by rfl) mlist (by decide +kernel) (pa_cons (pv 7) pa_nil)))
      (pss_cons (ps_set (i := 4) scOot.nd rfl (.inl rfl) (pe_lst pa_nil))
      (pss_cons (ps_for PassesOwn.never rfl (pi_range3 (by rfl) mr (pa_cons (pe_op op_sub (pe_callB (cr_sum rfl) (by rfl) ms (by decide +kernel) (pa_cons
            (pe_lc (own := [("row", 7)]) (g := gName 7) (tt := tYes) rfl scOot.nd (pi_tup (pv 1)) (blkOk_by (N := ["one", "other", "rows", "places", "found", "place", "at", "row", "k"]) (sc := defScope sOot) (by decide +kernel)) (fun _ _ _ _ _ => pg_name (i := 7) scOot.nd rfl (Or.inl rfl)) (fun _ _ _ _ _ => pts_nil)
              (fun _ _ _ _ _ => pe_callB (call_lenK (K := K) rfl) (by rfl) mlen PySem.boot_len (pa_cons (pv 7) pa_nil))) pa_nil)) pe_int) (pa_cons (pe_un un_neg pe_int) (pa_cons (pe_un un_neg pe_int) pa_nil))))
          (pg_name (i := 5) scOot.nd rfl (.inr rfl))
        (pss_cons (ps_set (i := 6) scOot.nd rfl (.inl rfl) (pe_ix ix_list
            (pe_lc (own := [("k", 8), ("row", 7)]) rfl scOot.nd (pi_enum (by rfl) me (pa_cons (pv 3) pa_nil)) (blkOk_by (N := ["one", "other", "rows", "places", "found", "place", "at", "row", "k"]) (sc := defScope sOot) (by decide +kernel))
              (fun _ _ _ _ _ => pg_tupK (K := K) (n := 2) rfl rfl (pgs_cons (pg_name (i := 8) scOot.nd rfl (Or.inl rfl)) (pgs_cons (pg_name (i := 7) scOot.nd rfl (Or.inl rfl)) pgs_nil)))
              (fun _ _ _ _ _ => pts_one (pw_and (pt_cmpR (op_neDK (K := K) rfl hu) (pv 7) (pe_lst pa_nil) (nomark _)) (pw_and1 (pt_cmpR op_eq (pe_ix (ix_listK (K := K) rfl) (pv 7) (pe_un un_neg pe_int) (fun _ _ => rfl)) (pv 5) (nomark _)))).pt)
              (fun _ _ _ _ _ => pv 8)) pe_int (fun _ _ => rfl)))
        (pss_cons (ps_expr (pe_bm0 PySem.F.plainAttrs_list PySem.F.slot_list_pop PySem.F.type_list_pop mt_pop (pe_ix ix_list (pv 3) (pv 6) (fun _ _ => rfl))))
        (pss_one (ps_expr (pe_bm PySem.F.plainAttrs_list PySem.F.slot_list_append PySem.F.type_list_append mt_append (pv 4) (pa_cons (pe_cal C hr (by rfl) (pa_cons (pv 2) (pa_cons (pv 6) pa_nil))) pa_nil)))))))
      (pss_one (ps_ret (pe_callTy (call_tupK (K := K) rfl) (by rfl) mt (by decide +kernel) (pa_cons (pe_revL (pv 4)) pa_nil))))))), ?_⟩
    -- rows, places, found
    refine ⟨.ref a, rfl, a, rfl, ⟨_, SqT.of hT1.choose_spec.1⟩, ?_⟩
    refine lc_lists (K := K) hT1 ?_ (by omega) fun R nR H1 as s1 hL1 hn1 => ?_
    · show 7 < 9; decide
    refine ⟨.ref b, rfl, b, rfl, ⟨_, SqT.of (hT2.same s1).choose_spec.1⟩, ?_⟩
    refine lc_lists (K := K) (hT2.same s1) ?_ (by omega) fun Pl nPl H2 bs s2 hL2 hn2 => ?_
    · show 7 < 9; decide
    refine ⟨Nat.zero_le _, fun Fo nFo => ?_⟩
    have s3 : Same H2 (upd H2 Fo (.lst [])) := same_new nFo
    have nRH : H R = none := nR
    have start : OotAt H (upd H2 Fo (.lst [])) R Pl Fo as bs one other [] (other.map List.length).sum := by
      have hRt := fun c => (hL1.same s2).tracked (c := c)
      have hPt := fun c => hL2.tracked (c := c)
      refine ⟨s1.trans (s2.trans s3), (hL1.same s2).same s3, hL2.same s3, upd_same, ?_, ?_, ?_, ?_, hok, hl1, hl2, hb1⟩
      · rintro c (z | z | z)
        · rcases z with z | z
          · rw [z]; exact nR
          · exact hn1 c z
        · rcases z with z | z
          · rw [z]; exact s1.free nPl
          · exact s1.free (hn2 c z)
        · rw [z]; exact s1.free (s2.free nFo)
      · intro c hc z
        obtain ⟨o, ho⟩ := hL1.tracked hc
        rcases z with z | z
        · rw [z, nPl] at ho; cases ho
        · rw [hn2 c z] at ho; cases ho
      · intro z
        obtain ⟨o, ho⟩ := hRt _ z
        rw [nFo] at ho; cases ho
      · intro z
        obtain ⟨o, ho⟩ := hPt _ z
        rw [nFo] at ho; cases ho
    generalize hH3 : upd H2 Fo (.lst []) = H3 at *
    generalize hM : (other.map List.length).sum = M at *
    -- range(sum(..) - 1, -1, -1)
    have hT2' : TTb H3 b other := hT2.same (s1.trans (s2.trans s3))
    refine ⟨.ref b, rfl, b, rfl, ⟨_, SqT.of hT2'.choose_spec.1⟩, ?_⟩
    refine lc_lens (K := K) hT2' ?_ (by omega) fun D nD H4 s4 hD => ?_
    · show 7 < 9; decide
    refine ⟨D, (other.map List.length).map Int.ofNat, rfl, by rw [← nvs_int]; exact SqL.of hD, ?_⟩
    have hsum : ∀ l : List Nat, (l.map Int.ofNat).sum = (l.sum : Int) := by
      intro l
      induction l with
      | nil => rfl
      | cons x l ih => rw [List.map_cons, List.sum_cons, List.sum_cons, ih]; show (x : Int) + _ = _; omega
    rw [hsum, hM]
    refine ⟨(M : Int), 1, rfl, rfl, 1, rfl, 1, rfl, ?_⟩
    have hrg : RgC ((M : Int) - 1) (-1) (-1) M := by
      have := RgC.neg (i := (M : Int) - 1) (j := -1) (by omega) (by omega) (by omega) (by omega)
      rwa [show ((M : Int) - 1 - -1).toNat = M by omega] at this
    refine ⟨(M : Int) - 1, -1, -1, M, rfl, hrg, ?_⟩
    have start4 : OotAt H H4 R Pl Fo as bs one other [] M := ⟨start.same.trans s4, start.lr.same s4, start.lp.same s4, s4 _ _ start.lf, start.new, start.apart, start.fR, start.fP, start.ok, start.few, start.fewp, start.br⟩
    refine for_it walk_rangeC (fun i σ H5 => ∃ (rows places : List (List Nat)) (fs : List Nat) (y5 y6 : Option V), σ = [some (.ref a), some (.ref b), some (.ref R), some (.ref Pl), some (.ref Fo), y5, y6, none, none] ∧ OotAt H H5 R Pl Fo as bs rows places fs (M - i) ∧ i ≤ M ∧ fs.length = i ∧
        RSK.oot M one other [] = RSK.oot (M - i) rows places fs.reverse) ⟨one, other, [], none, none, rfl, start4, Nat.zero_le _, rfl, rfl⟩ (fun _ _ _ _ _ => trivial) ?_ ?_
    · -- a turn
      rintro i v σ H5 H5' hi ⟨rows, places, fs, y5, y6, rfl, t, hiM, hfl, et⟩ ⟨rfl, rfl⟩
      obtain ⟨j, hj⟩ : ∃ j, M - i = j + 1 := ⟨M - i - 1, by omega⟩
      have hji : M - (i + 1) = j := by omega
      have hpl : (M : Int) - 1 + ((i : Nat) : Int) * -1 = ((j : Nat) : Int) := by omega
      rw [hj] at t et
      obtain ⟨o1, o2, o3, o4, o5⟩ := t.ok
      have hstep : RSK.oot (j+1) rows places fs.reverse = RSK.oot j (RSK.takenOut rows (RSK.lastAt places j)).1 (places.set (RSK.lastAt places j) (places.getD (RSK.lastAt places j) []).dropLast) ((RSK.takenOut rows (RSK.lastAt places j)).2 :: fs.reverse) := rfl
      rw [hstep] at et
      generalize RSK.lastAt places j = at' at *
      have hbl := t.lp.len
      refine ⟨?_, ?_⟩
      · exact .ref Pl
      refine ⟨rfl, Pl, bs.map V.ref, rfl, SqL.of t.lp.at_, fun D2 nD2 => ?_⟩
      -- at = [..][0]
      refine lc_it (walk_enum (K := K) (a := Pl) (xs := bs.map V.ref)) (fun k H6 => Same H5' H6 ∧ IL H6 D2 ((List.range k).filter fun k => decide ((places.getD k []).getLast? = some j))) ⟨same_new nD2, upd_same⟩ (fun k H6 _ z => SqL.of (z.1 _ _ t.lp.at_)) ?_ ?_
      · rintro k v H6 H7 hk ⟨s6, eD⟩ ⟨T, u1, u2, rfl, nT, rfl, g1, g2⟩
        cases g1
        rw [List.length_map] at hk
        have hkp : k < places.length := by omega
        obtain ⟨c, hc⟩ : ∃ c, bs[k]? = some c := ⟨_, List.getElem?_eq_getElem hk⟩
        have g3 : (bs.map V.ref)[k]? = some u2 := g2
        rw [List.getElem?_map, hc] at g3
        cases g3
        have hrow : places[k]? = some (places.getD k []) := by rw [List.getD_eq_getElem?_getD, List.getElem?_eq_getElem hkp]; rfl
        have hI := t.lp.rows_.2 k c _ hc hrow
        have rf := range_filter (fun k => decide ((places.getD k []).getLast? = some j)) k
        generalize places.getD k [] = row at *
        have sT : Same H6 (upd H6 T (.tup [.int (k : Nat), .ref c])) := same_new nT
        have hI7 : IL (upd H6 T (.tup [.int (k : Nat), .ref c])) c row := sT _ _ (s6 _ _ hI)
        refine ⟨T, [.int (k : Nat), .ref c], rfl, SqT.of upd_same, rfl, .int (k : Nat), [.ref c], rfl, .ref c, [], rfl, rfl, rfl, ?_⟩
        -- row != []
        refine ⟨.ref c, rfl, Nat.zero_le _, fun e ne => ?_⟩
        have se : Same (upd H6 T (.tup [.int (k : Nat), .ref c])) (upd (upd H6 T (.tup [.int (k : Nat), .ref c])) e (.lst [])) := same_new ne
        have hI8 : IL (upd (upd H6 T (.tup [.int (k : Nat), .ref c])) e (.lst [])) c row := se _ _ hI7
        have s8 := s6.trans (sT.trans se)
        have nD8 : H5' D2 = none := nD2
        have eD8 : IL (upd (upd H6 T (.tup [.int (k : Nat), .ref c])) e (.lst [])) D2 _ := (sT.trans se) _ _ eD
        refine ⟨.list (row.map dN), .list [], .lst (SqL.of hI8) (dp_nvs row), .lst (SqL.of upd_same) .nil, (Fit.list (k := 0) fun d hd => by obtain ⟨n, _, rfl⟩ := List.mem_map.1 hd; exact fit_int _).shaped (by decide),
          (Fit.list (k := 0) (ds := []) (by simp)).shaped (by decide), ?_⟩
        rw [eqv_nil]
        generalize upd (upd H6 T (.tup [.int (k : Nat), .ref c])) e (.lst []) = H8 at *
        cases row with
        | nil =>
          refine ⟨false, rfl, iteF ?_⟩
          refine iteF ⟨s8, ?_⟩
          show IL H8 D2 _
          rw [rf]
          simpa using eD8
        | cons n ns =>
          refine ⟨true, rfl, iteT ?_⟩
          have hlast : (n :: ns).getLast? = some ((n :: ns).getLast (by simp)) := List.getLast?_eq_getLast (by simp)
          refine ⟨.ref c, rfl, 1, rfl, c, nvs (n :: ns), -1, nv ((n :: ns).getLast (by simp)), rfl, rfl, SqL.of hI8, by rw [nvs_last, hlast]; rfl, ?_⟩
          rw [hlast] at rf
          generalize (n :: ns).getLast (by simp) = l at *
          refine ⟨_, rfl, rfl, _, rfl, ?_⟩
          refine ite2 (fun he => ?_) (fun he => ?_)
          · have he : l = j := by
              have h1 := V.int.inj (of_decide_eq_true he)
              rw [hpl] at h1
              omega
            refine ⟨.int (k : Nat), rfl, nvs _, eD8, ?_, same_upd s8 nD2, ?_⟩
            · rw [nvs_len]
              refine small1000 (Nat.le_trans (List.length_filter_le _ _) ?_)
              rw [List.length_range]
              have := t.fewp
              omega
            · show upd H8 D2 _ D2 = _
              rw [upd_same, rf, he]
              simp [nvs, nv]
          · have he : l ≠ j := fun z => he (decide_eq_true (by show nv l = V.int ((M : Int) - 1 + ((i : Nat) : Int) * -1); rw [hpl, z]; rfl))
            refine ⟨s8, ?_⟩
            show IL H8 D2 _
            rw [rf]
            simpa [he] using eD8
      · rintro H6 ⟨s6, eD⟩
        rw [List.length_map, hbl, filter_one (a := at') o1 (by simpa using o2) (fun k hk hp => o3 k hk (by simpa using hp))] at eD
        refine ⟨D2, nvs [at'], 0, nv at', rfl, rfl, SqL.of eD, rfl, ?_⟩
        -- places[at].pop()
        have hrow : places[at']? = some (places.getD at' []) := by rw [List.getD_eq_getElem?_getD, List.getElem?_eq_getElem o1]; rfl
        have hP6 := t.lp.same s6
        obtain ⟨c, hc, hI⟩ := hP6.get hrow
        have hcm := List.mem_of_getElem? hc
        refine ⟨.ref Pl, rfl, nv at', rfl, Pl, bs.map V.ref, (at' : Int), .ref c, rfl, rfl, SqL.of hP6.at_, at_of rfl (by rw [List.getElem?_map, hc]; rfl), ?_⟩
        refine ⟨.inl ⟨rfl, _, SqL.of hI⟩, c, nvs (places.getD at' []), nv j, rfl, rfl, hI, ?_, ?_⟩
        · rw [nvs_len]
          refine nvs_at ?_
          rw [← List.getLast?_eq_getElem?]
          exact o2
        have e3 : (nvs (places.getD at' [])).dropLast = nvs (places.getD at' []).dropLast := (List.map_dropLast ..).symm
        rw [e3]
        have hP7 := hP6.setRow (i := at') (a := c) (row' := (places.getD at' []).dropLast) hc
        have nRc : ∀ x, OfL R as x → x ≠ c := fun x hx e => t.apart x hx (.inr (e ▸ hcm))
        have hR7 : LL (upd H6 c (.lst (nvs (places.getD at' []).dropLast))) R as rows := by
          have h6 := t.lr.same s6
          refine ⟨by rw [upd_ne (nRc R (.inl rfl))]; exact h6.at_, h6.nd, h6.apart, h6.rows_.mono fun x r hx z => ?_⟩
          show upd _ c _ x = _
          rw [upd_ne (nRc x (.inr hx))]
          exact z
        have nFc : Fo ≠ c := fun e => t.fP (.inr (e ▸ hcm))
        have hF7 : IL (upd H6 c (.lst (nvs (places.getD at' []).dropLast))) Fo fs := by
          show upd _ c _ Fo = _
          rw [upd_ne nFc]
          exact s6 _ _ t.lf
        have same7 : Same H (upd H6 c (.lst (nvs (places.getD at' []).dropLast))) := same_upd (t.same.trans s6) (t.new c (.inr (.inl (.inr hcm))))
        generalize upd H6 c (.lst (nvs (places.getD at' []).dropLast)) = H7 at *
        -- found.append(taken_out(rows, at))
        have hb := takenOut_bound (a := at') t.br
        refine ⟨.ref Fo, rfl, .inl ⟨rfl, _, SqL.of hF7⟩, .ref R, rfl, nv at', rfl, R, as, rows, at', rfl, hR7, o4, by have := t.few; omega, fun r hr => by have := t.br r hr; omega, fun H8 hR8 fr8 => ?_⟩
        generalize RSK.takenOut rows at' = tk at *
        obtain ⟨rows', x⟩ := tk
        simp only at *
        have hF8 : IL H8 Fo fs := fr8.keep _ _ hF7 t.fR
        refine ⟨Fo, nvs fs, nv x, rfl, rfl, hF8, by rw [nvs_len, hfl]; exact small1000 (by omega), ?_⟩
        have e4 : nvs fs ++ [nv x] = nvs (fs ++ [x]) := by unfold nvs; rw [List.map_append]; rfl
        rw [e4]
        have npl : ∀ z, OfL Pl bs z → ¬ OfL R as z := fun z h1 h2 => t.apart z h2 h1
        have hP8 : LL H8 Pl bs (places.set at' (places.getD at' []).dropLast) := hP7.fr fr8 (npl Pl (.inl rfl)) fun z hz => npl z (.inr hz)
        have same8 : Same H H8 := Fr.same_of same7 fr8 fun z o e h => by
          rw [t.new z (.inl h)] at e; cases e
        refine ⟨rows', places.set at' (places.getD at' []).dropLast, fs ++ [x], some (.int ((M : Int) - 1 + ((i : Nat) : Int) * -1)), some (nv at'), rfl, ?_, by omega, by rw [List.length_append, hfl]; rfl, ?_⟩
        · rw [hji]
          have nRF : ∀ z, OfL R as z → z ≠ Fo := fun z h e => t.fR (e ▸ h)
          have nPF : ∀ z, OfL Pl bs z → z ≠ Fo := fun z h e => t.fP (e ▸ h)
          refine ⟨same_upd same8 (t.new Fo (.inr (.inr rfl))), ?_, ?_, upd_same, t.new, t.apart, t.fR, t.fP, o5, by rw [hb.1]; exact t.few, by rw [List.length_set]; exact t.fewp, hb.2⟩
          · refine ⟨by rw [upd_ne (nRF R (.inl rfl))]; exact hR8.at_, hR8.nd, hR8.apart, hR8.rows_.mono fun z r hz q => ?_⟩
            show upd _ Fo _ z = _
            rw [upd_ne (nRF z (.inr hz))]
            exact q
          · refine ⟨by rw [upd_ne (nPF Pl (.inl rfl))]; exact hP8.at_, hP8.nd, hP8.apart, hP8.rows_.mono fun z r hz q => ?_⟩
            show upd _ Fo _ z = _
            rw [upd_ne (nPF z (.inr hz))]
            exact q
        · rw [et, hji, List.reverse_append]; rfl
    · -- the end
      rintro σ H5 ⟨rows, places, fs, y5, y6, rfl, t, hiM, hfl, et⟩
      rw [Nat.sub_self] at et
      have et : RSK.oot M one other [] = fs.reverse := et
      refine ⟨.ref Fo, rfl, Fo, nvs fs, rfl, SqL.of t.lf, fun S nS => ?_⟩
      have sS : Same H5 (upd H5 S (.lst (nvs fs).reverse)) := same_new nS
      refine ⟨S, (nvs fs).reverse, rfl, SqL.of upd_same, fun p np => ?_⟩
      refine q _ p (t.same.trans (sS.trans (same_new np))) ?_
      rw [et]
      show upd _ p _ p = _
      rw [upd_same]
      unfold nvs
      rw [List.map_reverse]
end
end K61

/-! The law's draws: _law_hand, _law_pick, _law_of, _law_size, _law_any. -/
namespace K61
open PySem PySem.Spec PyProof.Rows L2

/-- the hand at h, its cells at L -/
structure HandAt (H : Hp) (h L : Addr) : Prop where
  ex : ∃ (cells : List Int) (seed : Int), H h = some (.lst [.ref L, .int seed]) ∧ H L = some (.lst (cells.map V.int))
  ne : h ≠ L
def OfH (h L : Addr) : Addr → Prop := fun b => b = h ∨ b = L
theorem HandAt.same {H H' : Hp} {h L : Addr} (s : Same H H') (a : HandAt H h L) : HandAt H' h L := by
  obtain ⟨⟨cells, seed, h1, h2⟩, h3⟩ := a
  exact ⟨⟨cells, seed, s _ _ h1, s _ _ h2⟩, h3⟩
theorem HandAt.fr {S : Addr → Prop} {H H' : Hp} {h L : Addr} (f : Fr S H H') (a : HandAt H h L) (h1 : ¬ S h) (h2 : ¬ S L) : HandAt H' h L := by
  obtain ⟨⟨cells, seed, g1, g2⟩, h3⟩ := a
  exact ⟨⟨cells, seed, f.keep _ _ g1 h1, f.keep _ _ g2 h2⟩, h3⟩
theorem HandAt.tracked {H : Hp} {h L : Addr} (a : HandAt H h L) {c : Addr} (hc : OfH h L c) : ∃ o, H c = some o := by
  obtain ⟨⟨cells, seed, g1, g2⟩, _⟩ := a
  rcases hc with z | z
  · rw [z]; exact ⟨_, g1⟩
  · rw [z]; exact ⟨_, g2⟩

section
variable {P : Program} {w : World} {K : PySem.W.Frag} {mg : Str → Option Value} {base : Heap}
/-! ### _law_hand -/
def spHand (K : PySem.W.Frag) : Sp := fun vs H Q _ => ∃ (a : Addr) (ns : List Int), vs = [.ref a] ∧ SqL K H a (ns.map V.int) ∧ ns.length ≤ 63 ∧ ∀ H' h L, Same H H' → HandAt H' h L → H h = none → H L = none → Q (.ref h) H'
theorem scHand : FnScope ["_law_script", "_law_seed", "_law_cell"] ["_law_script"] (defScope sHand) := ⟨rfl, rfl, rfl, by decide +kernel, rfl, by decide +kernel, by decide +kernel⟩
theorem ok_hand {f : Addr} {fd : FuncData} (F : Fun K "_law_hand" "_law_hand" sHand f fd) : FnOk P w K mg base CX0 1 f fd ["_law_script"] (spHand K) := by
  refine F.ok scHand (fun vs H Q E h => ?_) (fun cdv A outer s H vs Q E hr h => ?_)
  · obtain ⟨a, ns, rfl, _⟩ := h
    rfl
  · obtain ⟨a, ns, rfl, hS, hl, q⟩ := h
    refine ⟨_, pss_cons (ps_set (i := 1) scHand.nd rfl (.inl rfl) pe_int)
      (pss_cons (ps_for PassesOwn.never rfl (pi_list (pe_slice sl_list (pv 0) po_none (po_some pe_int))) (pg_name (i := 2) scHand.nd rfl (.inl rfl))
        (pss_one (ps_set (i := 1) scHand.nd rfl (.inl rfl) (pe_op op_mod (pe_op op_add (pe_op op_add (pe_op op_mul (pv 1) pe_int) (pe_op op_mod (pv 2) pe_int)) pe_int) pe_int))))
      (pss_one (ps_ret (pe_lst (pa_cons (pe_lc (own := [("_law_cell", 2)]) (g := gName 2) rfl scHand.nd (pi_list (pe_slice sl_list (pv 0) po_none (po_some pe_int))) (blkOk_by (N := ["_law_script", "_law_seed", "_law_cell"]) (sc := defScope sHand) (by decide +kernel))
          (fun _ _ _ _ _ => pg_name (i := 2) scHand.nd rfl (Or.inl rfl)) (fun _ _ _ _ _ => pts_one (pt_cmpR op_ge (pv 2) (pe_op op_pow pe_int pe_int) (nomark _))) (fun _ _ _ _ _ => pv 2)) (pa_cons (pv 1) pa_nil)))))), ?_⟩
    have hcut : ∃ ms : List Int, cutV (ns.map V.int) none (some 63) = ms.map V.int ∧ ms.length ≤ 63 := by
      refine ⟨(ns.drop (HT.sIx (ns.map V.int).length 0 none)).take (HT.sIx (ns.map V.int).length (ns.map V.int).length (some 63) - HT.sIx (ns.map V.int).length 0 none), ?_, ?_⟩
      · unfold cutV
        rw [List.map_take, List.map_drop]
      · rw [List.length_take, List.length_drop]; omega
    obtain ⟨ms, hms, hml⟩ := hcut
    refine ⟨.ref a, rfl, 63, rfl, a, ns.map V.int, rfl, hS, fun c nc => ?_⟩
    rw [hms]
    have sc := same_new (o := .lst (ms.map V.int)) nc
    refine ⟨c, rfl, ⟨_, SqL.of upd_same⟩, ?_⟩
    refine for_it walk_list (fun i σ H1 => ∃ (z : Int) (y2 : Option V), σ = [some (.ref a), some (.int z), y2] ∧ H1 = upd H c (.lst (ms.map V.int))) ⟨19, none, rfl, rfl⟩ (fun i σ H1 _ ⟨_, _, _, e⟩ => by rw [e]; exact SqL.of upd_same) ?_ ?_
    · rintro i v σ H1 H2 hi ⟨z, y2, rfl, rfl⟩ ⟨rfl, hv⟩
      rw [List.getElem?_map] at hv
      obtain ⟨n, hn, rfl⟩ : ∃ n, ms[i]? = some n ∧ v = .int n := by
        cases e : ms[i]? with
        | none => rw [e] at hv; cases hv
        | some n => rw [e] at hv; exact ⟨n, rfl, (Option.some.inj hv).symm⟩
      refine ⟨.int z, rfl, z, 6364136223846793, rfl, rfl, .inr ⟨by decide, by decide⟩, .int n, rfl, n, 2305843009213693951, rfl, rfl, by show (0 : Int) < 2305843009213693951; decide, _, _, rfl, rfl, _, 37, rfl, rfl, _, 2305843009213693951, rfl, rfl, by show (0 : Int) < 2305843009213693951; decide, ?_⟩
      exact ⟨_, _, rfl, rfl⟩
    · rintro σ H1 ⟨z, y2, rfl, rfl⟩
      refine ⟨.ref a, rfl, 63, rfl, a, ns.map V.int, rfl, sc.seq hS, fun c2 nc2 => ?_⟩
      rw [hms]
      have sc2 := sc.trans (same_new (o := .lst (ms.map V.int)) nc2)
      refine ⟨c2, rfl, ⟨_, SqL.of upd_same⟩, fun D nD => ?_⟩
      refine lc_list (K := K) (a := c2) (xs := ms.map V.int) (fun i H2 => Same H H2 ∧ H2 c2 = some (.lst (ms.map V.int)) ∧ ∃ cells : List Int, cells.length ≤ i ∧ H2 D = some (.lst (cells.map V.int))) ⟨sc2.trans (same_new nD), by rw [upd_ne (ne_of_none upd_same nD), upd_same], [], Nat.le_refl _, upd_same⟩ (fun i H2 _ z => SqL.of z.2.1) ?_ ?_
      · rintro i v H2 hi ⟨s2, e2, cells, hc, eD⟩
        have hil : i < ms.length := by
          have := (List.getElem?_eq_some_iff.1 hi).1
          rwa [List.length_map] at this
        rw [List.getElem?_map] at hi
        obtain ⟨n, hn, rfl⟩ : ∃ n, ms[i]? = some n ∧ v = .int n := by
          cases e : ms[i]? with
          | none => rw [e] at hi; cases hi
          | some n => rw [e] at hi; exact ⟨n, rfl, (Option.some.inj hi).symm⟩
        have nDc : c2 ≠ D := fun e => by
          rw [e, eD] at e2
          have := ne_of_none (upd_same (H := upd H c (.lst (ms.map V.int))) (a := c2) (o := .lst (ms.map V.int))) nD
          exact this e
        have hnD : H D = none := sc2.free nD
        refine ⟨rfl, .int n, rfl, 10, 18, rfl, rfl, ⟨by decide, by decide, by decide⟩, n, _, rfl, rfl, _, rfl, ?_⟩
        refine ite2 (fun _ => ?_) (fun _ => ⟨s2, e2, cells, by omega, eD⟩)
        refine ⟨.int n, rfl, cells.map V.int, eD, by rw [List.length_map]; exact small1000 (by omega), same_upd s2 hnD, by rw [upd_ne nDc]; exact e2, cells ++ [n], by rw [List.length_append, List.length_singleton]; omega, ?_⟩
        rw [upd_same, List.map_append]; rfl
      · rintro H2 ⟨s2, e2, cells, hc, eD⟩
        refine ⟨.int z, rfl, by show 2 ≤ sizeLine; decide, fun h nh => ?_⟩
        have nhD : D ≠ h := ne_of_none eD nh
        exact q _ h D (s2.trans (same_new nh)) ⟨⟨cells, z, upd_same, by rw [upd_ne nhD]; exact eD⟩, nhD.symm⟩ (s2.free nh) (sc2.free nD)

/-! ### _law_pick -/
def spPick : Sp := fun vs H Q _ => ∃ (h L : Addr) (m : Nat), vs = [.ref h, nv m] ∧ HandAt H h L ∧ 0 < m ∧ m ≤ 1000 ∧ ∀ H' k, k < m → HandAt H' h L → Fr (OfH h L) H H' → Q (nv k) H'
theorem scPick : FnScope ["_law_hand_here", "_law_many", "_law_digit", "_law_mixed"] ["_law_hand_here", "_law_many"] (defScope sPick) := ⟨rfl, rfl, rfl, by decide +kernel, rfl, by decide +kernel, by decide +kernel⟩
theorem nat_mod (i : Int) {m : Nat} (h : 0 < m) : ∃ k : Nat, k < m ∧ i % (m : Int) = (k : Int) := by
  have h1 := Int.emod_nonneg i (show (m : Int) ≠ 0 by omega)
  have h2 := Int.emod_lt_of_pos i (show (0 : Int) < m by omega)
  exact ⟨(i % (m : Int)).toNat, by omega, by omega⟩
theorem ix0 {n : Nat} (h : 0 < n) : ixN n 0 = some 0 := by
  unfold ixN
  rw [if_pos (by omega), if_pos (by omega)]
  rfl
theorem idx0 {c : Int} {cs : List Int} : seqIndex? 0 ((c :: cs).map V.int).length = some 0 := by
  rw [List.length_map, List.length_cons]
  unfold seqIndex?
  simp
theorem ok_pick {f : Addr} {fd : FuncData} (F : Fun K "_law_pick" "_law_pick" sPick f fd) : FnOk P w K mg base CX0 1 f fd ["_law_hand_here", "_law_many"] spPick := by
  refine F.ok scPick (fun vs H Q E h => ?_) (fun cdv A outer s H vs Q E hr h => ?_)
  · obtain ⟨hd, L, m, rfl, _⟩ := h
    rfl
  · obtain ⟨hd, L, m, rfl, hH, hm, hm2, q⟩ := h
    have hu := hr.units
    refine ⟨_, pss_cons (ps_while PassesOwn.never (pw_and (pt_cmpR (op_neDK (K := K) rfl hu) (pe_ix ix_list (pv 0) pe_int (fun _ _ => rfl)) (pe_lst pa_nil) (nomark _)) (pw_and1 (pt_cmpR op_eq (pe_ix ix_list (pe_ix ix_list (pv 0) pe_int (fun _ _ => rfl)) pe_int (fun _ _ => rfl)) pe_int (nomark _)))).pt
        (pss_one (ps_expr (pe_bm PySem.F.plainAttrs_list PySem.F.slot_list_pop PySem.F.type_list_pop mt_popAt (pe_ix ix_list (pv 0) pe_int (fun _ _ => rfl)) (pa_cons pe_int pa_nil)))))
      (pss_cons (ps_if (pt_cmpR (op_neDK (K := K) rfl hu) (pe_ix ix_list (pv 0) pe_int (fun _ _ => rfl)) (pe_lst pa_nil) (nomark _))
        (pss_cons (ps_set (i := 2) scPick.nd rfl (.inl rfl) (pe_op op_mod (pe_ix ix_list (pe_ix ix_list (pv 0) pe_int (fun _ _ => rfl)) pe_int (fun _ _ => rfl)) (pv 1)))
        (pss_cons (ps_asg (pe_op op_fdiv (pe_ix ix_list (pe_ix ix_list (pv 0) pe_int (fun _ _ => rfl)) pe_int (fun _ _ => rfl)) (pv 1)) (pg_sub (pe_ix ix_list (pv 0) pe_int (fun _ _ => rfl)) pe_int set_list))
        (pss_one (ps_ret (pv 2))))) pss_nil)
      (pss_cons (ps_asg (pe_op op_mod (pe_op op_add (pe_op op_mul (pe_ix ix_list (pv 0) pe_int (fun _ _ => rfl)) pe_int) pe_int) pe_int) (pg_sub (pv 0) pe_int set_list))
      (pss_cons (ps_set (i := 3) scPick.nd rfl (.inl rfl) (pe_op op_fdiv (pe_ix ix_list (pv 0) pe_int (fun _ _ => rfl)) pe_int))
      (pss_one (ps_ret (pe_op op_mod (pe_op op_fdiv (pe_op op_mod (pe_op op_mul (pv 3) (pe_op op_add (pe_op op_mod (pv 3) pe_int) pe_int)) pe_int) pe_int) (pv 1))))))), ?_⟩
    have shaped0 : ∀ cells : List Int, SeqAt.shaped (.list (cells.map .int)) = true := fun cells => (fit_ints cells).shaped (by decide)
    have shapedN : SeqAt.shaped (.list []) = true := shaped0 []
    have fits : ∀ (H1 : Hp) (cells : List Int) (seed : Int) (e : Addr), H1 hd = some (.lst [.ref L, .int seed]) → H1 L = some (.lst (cells.map V.int)) → H1 e = none → Same H1 (upd H1 e (.lst [])) := fun _ _ _ _ _ _ ne => same_new ne
    have ne := hH.ne
    -- the while
    refine ⟨fun n σ H1 => ∃ (cells : List Int) (seed : Int), n = cells.length ∧ σ = [some (.ref hd), some (nv m), none, none] ∧ H1 hd = some (.lst [.ref L, .int seed]) ∧ H1 L = some (.lst (cells.map V.int)) ∧ Fr (OfH hd L) H H1, ?_, ?_⟩
    · obtain ⟨cells, seed, h1, h2⟩ := hH.ex
      exact ⟨_, cells, seed, rfl, rfl, h1, h2, Fr.refl _ _⟩
    · rintro n σ H1 ⟨cells, seed, rfl, rfl, g1, g2, fr⟩
      -- hand[0] != []
      refine ⟨.ref hd, rfl, hd, [.ref L, .int seed], 0, .ref L, rfl, rfl, SqL.of g1, rfl, Nat.zero_le _, fun e nE => ?_⟩
      have sE := same_new (o := .lst []) nE
      refine ⟨.list (cells.map .int), .list [], .lst (SqL.of (sE _ _ g2)) (dp_ints cells), .lst (SqL.of upd_same) .nil, shaped0 cells, shapedN, ?_⟩
      rw [eqv_nil]
      have G1 := sE _ _ g1
      have G2 := sE _ _ g2
      have FR : Fr (OfH hd L) H (upd H1 e (.lst [])) := fr.same sE
      generalize upd H1 e (.lst []) = H2 at *
      cases cells with
      | nil =>
        -- empty: out of the while, and the if is not taken
        refine ⟨false, rfl, iteF ?_⟩
        refine iteF ?_
        refine ⟨.ref hd, rfl, hd, [.ref L, .int seed], 0, .ref L, rfl, rfl, SqL.of G1, rfl, Nat.zero_le _, fun e2 nE2 => ?_⟩
        have sE2 := same_new (o := .lst []) nE2
        refine ⟨.list [], .list [], .lst (SqL.of (sE2 _ _ G2)) .nil, .lst (SqL.of upd_same) .nil, shapedN, shapedN, ?_⟩
        rw [eqv_nil]
        refine ⟨false, rfl, iteF ?_⟩
        have G3 := sE2 _ _ G1
        have G4 := sE2 _ _ G2
        have FR2 := FR.same sE2
        generalize upd H2 e2 (.lst []) = H3 at *
        -- hand[1] = ..
        refine ⟨.ref hd, rfl, hd, [.ref L, .int seed], 1, .int seed, rfl, rfl, SqL.of G3, rfl, seed, 3935559000370003, rfl, rfl, .inr ⟨by decide, by decide⟩, _, 2691343689449507, rfl, rfl, _, 2305843009213693951, rfl, rfl, by show (0 : Int) < 2305843009213693951; decide, ?_⟩
        refine ⟨.ref hd, rfl, hd, [.ref L, .int seed], 1, 1, rfl, rfl, G3, rfl, ?_⟩
        have G5 : upd H3 hd (.lst [.ref L, .int ((seed * 3935559000370003 + 2691343689449507) % 2305843009213693951)]) hd = some (.lst [.ref L, .int ((seed * 3935559000370003 + 2691343689449507) % 2305843009213693951)]) := upd_same
        have G6 : upd H3 hd (.lst [.ref L, .int ((seed * 3935559000370003 + 2691343689449507) % 2305843009213693951)]) L = some (.lst (([] : List Int).map V.int)) := by rw [upd_ne ne.symm]; exact G4
        have FR3 : Fr (OfH hd L) H (upd H3 hd (.lst [.ref L, .int ((seed * 3935559000370003 + 2691343689449507) % 2305843009213693951)])) := FR2.write (.inl rfl)
        refine ⟨.ref hd, rfl, hd, [.ref L, .int ((seed * 3935559000370003 + 2691343689449507) % 2305843009213693951)], 1, .int ((seed * 3935559000370003 + 2691343689449507) % 2305843009213693951), rfl, rfl, SqL.of G5, rfl, ((seed * 3935559000370003 + 2691343689449507) % 2305843009213693951), 65537, rfl, rfl, ⟨by decide, by decide⟩, ?_⟩
        have hb := Int.emod_nonneg (((seed * 3935559000370003 + 2691343689449507) % 2305843009213693951) / 65537) (show (8191 : Int) ≠ 0 by decide)
        have hb2 := Int.emod_lt_of_pos (((seed * 3935559000370003 + 2691343689449507) % 2305843009213693951) / 65537) (show (0 : Int) < 8191 by decide)
        refine ⟨.int (((seed * 3935559000370003 + 2691343689449507) % 2305843009213693951) / 65537), rfl, .int (((seed * 3935559000370003 + 2691343689449507) % 2305843009213693951) / 65537), rfl, (((seed * 3935559000370003 + 2691343689449507) % 2305843009213693951) / 65537), 8191, rfl, rfl, by show (0 : Int) < 8191; decide, _, 3, rfl, rfl, (((seed * 3935559000370003 + 2691343689449507) % 2305843009213693951) / 65537), (((seed * 3935559000370003 + 2691343689449507) % 2305843009213693951) / 65537) % 8191 + 3, rfl, rfl, .inr ⟨by omega, by omega⟩, _, 2305843009213693921, rfl, rfl, by show (0 : Int) < 2305843009213693921; decide, _, 4099, rfl, rfl, ⟨by decide, by decide⟩, nv m, rfl, _, (m : Int), rfl, rfl, by show (0 : Int) < m; omega, ?_⟩
        obtain ⟨k, hk, ek⟩ := nat_mod ((((seed * 3935559000370003 + 2691343689449507) % 2305843009213693951) / 65537) * ((((seed * 3935559000370003 + 2691343689449507) % 2305843009213693951) / 65537) % 8191 + 3) % 2305843009213693921 / 4099) hm
        have := q _ k hk ⟨⟨[], ((seed * 3935559000370003 + 2691343689449507) % 2305843009213693951), G5, G6⟩, ne⟩ FR3
        show Q (V.int ((((seed * 3935559000370003 + 2691343689449507) % 2305843009213693951) / 65537) * ((((seed * 3935559000370003 + 2691343689449507) % 2305843009213693951) / 65537) % 8191 + 3) % 2305843009213693921 / 4099 % (m : Int))) _
        rw [ek]
        exact this
      | cons c cs =>
        refine ⟨true, rfl, iteT ?_⟩
        -- hand[0][0] == 0
        refine ⟨.ref hd, rfl, hd, [.ref L, .int seed], 0, .ref L, rfl, rfl, SqL.of G1, rfl, L, (c :: cs).map V.int, 0, .int c, rfl, rfl, SqL.of G2, atI_nat (j := 0) rfl, rfl, _, rfl, ?_⟩
        refine ite2 (fun _ => ?_) (fun _ => ?_)
        · refine ⟨fun σ' H' => ∃ (cells : List Int) (seed : Int), cells.length < (c :: cs).length ∧ σ' = [some (.ref hd), some (nv m), none, none] ∧ H' hd = some (.lst [.ref L, .int seed]) ∧ H' L = some (.lst (cells.map V.int)) ∧ Fr (OfH hd L) H H', fun σ' H' ⟨cells, seed, h1, h2⟩ => ⟨_, h1, cells, seed, rfl, h2⟩, ?_⟩
          refine ⟨.ref hd, rfl, hd, [.ref L, .int seed], 0, .ref L, rfl, rfl, SqL.of G1, rfl, .inl ⟨rfl, _, SqL.of G2⟩, L, (c :: cs).map V.int, 0, 0, .int c, rfl, rfl, G2, by decide, by decide, idx0, rfl, ?_⟩
          exact ⟨cs, seed, by rw [List.length_cons]; omega, rfl, by rw [upd_ne ne]; exact G1, upd_same, FR.write (.inr rfl)⟩
        · -- out of the while: the if is taken
          refine ⟨.ref hd, rfl, hd, [.ref L, .int seed], 0, .ref L, rfl, rfl, SqL.of G1, rfl, Nat.zero_le _, fun e2 nE2 => ?_⟩
          have sE2 := same_new (o := .lst []) nE2
          refine ⟨.list ((c :: cs).map .int), .list [], .lst (SqL.of (sE2 _ _ G2)) (dp_ints _), .lst (SqL.of upd_same) .nil, shaped0 _, shapedN, ?_⟩
          rw [eqv_nil]
          refine ⟨true, rfl, iteT ?_⟩
          have G3 := sE2 _ _ G1
          have G4 := sE2 _ _ G2
          have FR2 := FR.same sE2
          generalize upd H2 e2 (.lst []) = H3 at *
          refine ⟨.ref hd, rfl, hd, [.ref L, .int seed], 0, .ref L, rfl, rfl, SqL.of G3, rfl, L, (c :: cs).map V.int, 0, .int c, rfl, rfl, SqL.of G4, atI_nat (j := 0) rfl, nv m, rfl, c, (m : Int), rfl, rfl, by show (0 : Int) < m; omega, ?_⟩
          refine ⟨.ref hd, rfl, hd, [.ref L, .int seed], 0, .ref L, rfl, rfl, SqL.of G3, rfl, L, (c :: cs).map V.int, 0, .int c, rfl, rfl, SqL.of G4, atI_nat (j := 0) rfl, nv m, rfl, c, (m : Int), rfl, rfl, ⟨by show (0 : Int) < m; omega, by show (m : Int) < _; omega⟩, ?_⟩
          refine ⟨.ref hd, rfl, hd, [.ref L, .int seed], 0, .ref L, rfl, rfl, SqL.of G3, rfl, L, (c :: cs).map V.int, 0, 0, rfl, rfl, G4, ix0 (by rw [List.length_map, List.length_cons]; omega), ?_⟩
          refine ⟨_, rfl, ?_⟩
          obtain ⟨k, hk, ek⟩ := nat_mod c hm
          have := q _ k hk ⟨⟨c / (m : Int) :: cs, seed, by rw [upd_ne ne]; exact G3, upd_same⟩, ne⟩ (FR2.write (.inr rfl))
          show Q (V.int (c % (m : Int))) _
          rw [ek]
          exact this
end
end K61

/-! _law_of, _law_size, _law_any, _law_order. -/
namespace K61
open PySem PySem.Spec PyProof.Rows L2

theorem Fr.fresh {S : Addr → Prop} {H H1 : Hp} (a : Fr S H H1) {p : Addr} {o : HO} (hp : H p = none) : Fr S H (upd H1 p o) := by
  refine ⟨fun c u h n => ?_, fun c h => ?_⟩
  · rw [upd_ne (ne_of_none h hp)]
    exact a.keep c u h n
  · by_cases e : c = p
    · subst e; exact hp
    · rw [upd_ne e] at h; exact a.free c h
theorem HandAt.apart {H : Hp} {h L p : Addr} (a : HandAt H h L) (hp : H p = none) : ¬ OfH h L p := fun z => by
  obtain ⟨o, ho⟩ := a.tracked z
  rw [hp] at ho; cases ho

section
variable {P : Program} {w : World} {K : PySem.W.Frag} {mg : Str → Option Value} {base : Heap}
/-! ### _law_of -/
def spOf : Sp := fun vs H Q _ => ∃ (h L a : Addr) (ns : List Nat), vs = [.ref h, .ref a] ∧ HandAt H h L ∧ IL H a ns ∧ ¬ OfH h L a ∧ ns ≠ [] ∧ ns.length ≤ 1000 ∧ ∀ H' x, x ∈ ns → HandAt H' h L → Fr (OfH h L) H H' → Q (nv x) H'
theorem scOf : FnScope ["_law_hand_here", "_law_some"] ["_law_hand_here", "_law_some"] (defScope sOf) := ⟨rfl, rfl, rfl, by decide +kernel, rfl, by decide +kernel, by decide +kernel⟩
theorem ok_of {f : Addr} {fd : FuncData} (F : Fun K "_law_of" "_law_of" sOf f fd) (C : Cal P w K mg base 1 "_law_pick" ["_law_hand_here", "_law_many"] spPick) (mlen : mg "len" = none) : FnOk P w K mg base CX0 2 f fd ["_law_hand_here", "_law_some"] spOf := by
  refine F.ok scOf (fun vs H Q E h => ?_) (fun cdv A outer s H vs Q E hr h => ?_)
  · obtain ⟨h, L, a, ns, rfl, _⟩ := h
    rfl
  · obtain ⟨hd, L, a, ns, rfl, hH, hI, hn, hne, hl, q⟩ := h
    refine ⟨_, pss_one (ps_ret (pe_ix ix_list (pv 1) (pe_cal C hr (by rfl) (pa_cons (pv 0) (pa_cons (pe_callB (call_lenK (K := K) rfl) (by rfl) mlen PySem.boot_len (pa_cons (pv 1) pa_nil)) pa_nil))) (fun _ _ => rfl))), ?_⟩
    have hpos : 0 < ns.length := List.length_pos_iff.2 hne
    refine ⟨.ref a, rfl, .ref hd, rfl, .ref a, rfl, a, nvs ns, rfl, .inl (SqL.of hI), ?_⟩
    refine ⟨hd, L, ns.length, by rw [nvs_len]; rfl, hH, hpos, hl, fun H' k hk hH' fr => ?_⟩
    have hI' : IL H' a ns := fr.keep _ _ hI hn
    obtain ⟨x, hx⟩ : ∃ x, ns[k]? = some x := ⟨_, List.getElem?_eq_getElem hk⟩
    refine ⟨a, nvs ns, (k : Int), nv x, rfl, rfl, SqL.of hI', at_of rfl (nvs_at hx), ?_⟩
    exact q H' x (List.mem_of_getElem? hx) hH' fr

/-! ### _law_size -/
def spSize : Sp := fun vs H Q _ => ∃ (h L : Addr), vs = [.ref h, .int 60] ∧ HandAt H h L ∧ ∀ H' k, k ≤ 60 → HandAt H' h L → Fr (OfH h L) H H' → Q (nv k) H'
theorem scSize : FnScope ["_law_hand_here", "_law_most"] ["_law_hand_here", "_law_most"] (defScope sSize) := ⟨rfl, rfl, rfl, by decide +kernel, rfl, by decide +kernel, by decide +kernel⟩
theorem ok_size {f : Addr} {fd : FuncData} (F : Fun K "_law_size" "_law_size" sSize f fd) (C : Cal P w K mg base 1 "_law_pick" ["_law_hand_here", "_law_many"] spPick) : FnOk P w K mg base CX0 2 f fd ["_law_hand_here", "_law_most"] spSize := by
  refine F.ok scSize (fun vs H Q E h => ?_) (fun cdv A outer s H vs Q E hr h => ?_)
  · obtain ⟨h, L, rfl, _⟩ := h
    rfl
  · obtain ⟨hd, L, rfl, hH, q⟩ := h
    refine ⟨_, pss_cons (ps_if (pt_cmpR op_eq (pe_cal C hr (by rfl) (pa_cons (pv 0) (pa_cons pe_int pa_nil))) pe_int (nomark _))
        (pss_one (ps_ret (pe_op op_sub (pv 1) (pe_cal C hr (by rfl) (pa_cons (pv 0) (pa_cons pe_int pa_nil)))))) pss_nil)
      (pss_one (ps_ret (pe_cal C hr (by rfl) (pa_cons (pv 0) (pa_cons pe_int pa_nil))))), ?_⟩
    refine ⟨.ref hd, rfl, hd, L, 8, rfl, hH, by decide, by decide, fun H1 k hk hH1 fr1 => ?_⟩
    refine ⟨rfl, _, rfl, ite2 (fun _ => ?_) (fun _ => ?_)⟩
    · refine ⟨.int 60, rfl, .ref hd, rfl, hd, L, 6, rfl, hH1, by decide, by decide, fun H2 k2 hk2 hH2 fr2 => ⟨60, (k2 : Int), rfl, rfl, ?_⟩⟩
      have := q H2 (60 - k2) (by omega) hH2 (fr1.trans fr2)
      have e : nv (60 - k2) = V.int (60 - (k2 : Int)) := by
        show V.int _ = V.int _
        congr 1
        omega
      rw [e] at this
      exact this
    · exact ⟨.ref hd, rfl, hd, L, 10, rfl, hH1, by decide, by decide, fun H2 k2 hk2 hH2 fr2 => q H2 k2 (by omega) hH2 (fr1.trans fr2)⟩

/-! ### _law_any -/
def spAny : Sp := fun vs H Q _ => ∃ (h L : Addr) (m : Nat), vs = [.ref h, nv m] ∧ HandAt H h L ∧ m ≤ 100 ∧ ∀ H' p ns, HandAt H' h L → Fr (OfH h L) H H' → H p = none → IL H' p ns → RSK.Ord m ns → ns.length = m → Q (.ref p) H'
theorem scAny : FnScope ["_law_hand_here", "_law_many", "_law_order_here", "_law_k"] ["_law_hand_here", "_law_many"] (defScope sAny) := ⟨rfl, rfl, rfl, by decide +kernel, rfl, by decide +kernel, by decide +kernel⟩
theorem ok_any {f : Addr} {fd : FuncData} (F : Fun K "_law_any" "_law_any" sAny f fd) (C : Cal P w K mg base 1 "_law_pick" ["_law_hand_here", "_law_many"] spPick) (mr : mg "range" = none) : FnOk P w K mg base CX0 2 f fd ["_law_hand_here", "_law_many"] spAny := by
  refine F.ok scAny (fun vs H Q E h => ?_) (fun cdv A outer s H vs Q E hr h => ?_)
  · obtain ⟨h, L, m, rfl, _⟩ := h
    rfl
  · obtain ⟨hd, L, m, rfl, hH, hm, q⟩ := h
    refine ⟨_, pss_cons (ps_set (i := 2) scAny.nd rfl (.inl rfl) (pe_lst pa_nil))
      (pss_cons (ps_for PassesOwn.never rfl (pi_range1 (by rfl) mr (pa_cons (pv 1) pa_nil)) (pg_name (i := 3) scAny.nd rfl (.inl rfl))
        (pss_one (ps_expr (pe_bm PySem.F.plainAttrs_list PySem.F.slot_list_insert PySem.F.type_list_insert mt_insert (pv 2)
          (pa_cons (pe_cal C hr (by rfl) (pa_cons (pv 0) (pa_cons (pe_op op_add (pv 3) pe_int) pa_nil))) (pa_cons (pv 3) pa_nil))))))
      (pss_one (ps_ret (pv 2)))), ?_⟩
    refine ⟨Nat.zero_le _, fun p np => ?_⟩
    have sp := same_new (o := .lst []) np
    have hpO : ¬ OfH hd L p := hH.apart np
    refine ⟨nv m, rfl, (m : Int), rfl, by omega, by omega, ?_⟩
    rw [Int.toNat_natCast]
    refine for_it walk_range (fun i σ H1 => ∃ (ns : List Nat) (y3 : Option V), σ = [some (.ref hd), some (nv m), some (.ref p), y3] ∧ HandAt H1 hd L ∧ Fr (OfH hd L) H H1 ∧ IL H1 p ns ∧ RSK.Ord i ns ∧ ns.length = i)
      ⟨[], none, rfl, hH.same sp, (Fr.refl _ _).fresh np, upd_same, ⟨List.nodup_nil, by simp⟩, rfl⟩ (fun _ _ _ _ _ => trivial) ?_ ?_
    · rintro i v σ H1 H2 hi ⟨ns, y3, rfl, hH1, fr, hI, ho, hl⟩ ⟨rfl, rfl⟩
      have e0 : (0 : Int) + ((i : Nat) : Int) = (i : Int) := Int.zero_add _
      refine ⟨.ref p, rfl, .inl ⟨rfl, _, SqL.of hI⟩, .ref hd, rfl, _, rfl, _, 1, rfl, rfl, hd, L, i + 1, ?_, hH1, by omega, by omega, fun H3 k hk hH3 fr3 => ?_⟩
      · show [V.ref hd, V.int (0 + ((i : Nat) : Int) + 1)] = [V.ref hd, nv (i+1)]
        rw [e0]; rfl
      · have hI3 : IL H3 p ns := fr3.keep _ _ hI hpO
        refine ⟨_, rfl, p, nvs ns, (k : Int), V.int (0 + ((i : Nat) : Int)), rfl, rfl, hI3, by rw [nvs_len, hl]; exact small1000 (by omega), by omega, by omega, ?_⟩
        have e1 : (nvs ns).take (k : Int).toNat ++ [V.int (0 + ((i : Nat) : Int))] ++ (nvs ns).drop (k : Int).toNat = nvs (ns.take k ++ [i] ++ ns.drop k) := by
          rw [Int.toNat_natCast, e0]
          unfold nvs
          rw [List.map_append, List.map_append, List.map_take, List.map_drop]
          rfl
        rw [e1]
        refine ⟨ns.take k ++ [i] ++ ns.drop k, _, rfl, ?_, (fr.trans fr3).fresh np, upd_same, RSK.ord_insert ho, ?_⟩
        · exact HandAt.fr (Fr.write (S := fun b => b = p) (Fr.refl _ _) rfl) hH3 (fun e => hpO (.inl e.symm)) (fun e => hpO (.inr e.symm))
        · rw [List.length_append, List.length_append, List.length_take, List.length_drop, List.length_singleton]
          omega
    · rintro σ H1 ⟨ns, y3, rfl, hH1, fr, hI, ho, hl⟩
      exact ⟨.ref p, rfl, q H1 p ns hH1 fr np hI ho hl⟩

/-! ### _law_order -/
def spOrder : Sp := fun vs H Q _ => ∃ (h L : Addr) (m : Nat), vs = [.ref h, nv m] ∧ HandAt H h L ∧ m ≤ 60 ∧ ∀ H' p ns, HandAt H' h L → Fr (OfH h L) H H' → IT H' p ns → RSK.Ord m ns → ns.length = m → Q (.ref p) H'
abbrev nOrder : List Str := ["_law_hand_here", "_law_many", "_law_way", "_law_order_here", "_law_turn", "_law_one", "_law_other", "_law_here", "_law_row", "_law_k", "_law_cut", "_law_number"]
theorem scOrder : FnScope nOrder ["_law_hand_here", "_law_many"] (defScope sOrder) := ⟨rfl, rfl, rfl, by decide +kernel, rfl, by decide +kernel, by decide +kernel⟩
/-- between two ifs -/
structure OrdAt (H0 H : Hp) (h L p : Addr) (m : Nat) (ns : List Nat) : Prop where
  hand : HandAt H h L
  fr : Fr (OfH h L) H0 H
  it : IL H p ns
  ord : RSK.Ord m ns
  len : ns.length = m
  new : H0 p = none
def MidO (H0 : Hp) (h L : Addr) (m wy : Nat) : L2.St → Hp → Prop := fun σ H => ∃ (p : Addr) (ns : List Nat) (y4 y5 y6 y7 y8 y9 y10 : Option V),
  σ = [some (.ref h), some (nv m), some (nv wy), some (.ref p), y4, y5, y6, y7, y8, y9, y10, none] ∧ OrdAt H0 H h L p m ns
/-- the list written: still an order -/
theorem OrdAt.put {H0 H : Hp} {h L p : Addr} {m : Nat} {ns ms : List Nat} (a : OrdAt H0 H h L p m ns) (hn : ¬ OfH h L p) (ho : RSK.Ord m ms) (hl : ms.length = m) : OrdAt H0 (upd H p (.lst (nvs ms))) h L p m ms :=
  ⟨HandAt.fr (Fr.write (S := fun b => b = p) (Fr.refl _ _) rfl) a.hand (fun e => hn (.inl e.symm)) (fun e => hn (.inr e.symm)), a.fr.fresh a.new, upd_same, ho, hl, a.new⟩
theorem ok_order {f : Addr} {fd : FuncData} (F : Fun K "_law_order" "_law_order" sOrder f fd) (C : Cal P w K mg base 1 "_law_pick" ["_law_hand_here", "_law_many"] spPick) (CA : Cal P w K mg base 2 "_law_any" ["_law_hand_here", "_law_many"] spAny)
    (mr : mg "range" = none) (ml : mg "list" = none) (mi : mg "int" = none) (mt : mg "tuple" = none) : FnOk P w K mg base CX0 3 f fd ["_law_hand_here", "_law_many"] spOrder := by
  refine F.ok scOrder (fun vs H Q E h => ?_) (fun cdv A outer s H vs Q E hr h => ?_)
  · obtain ⟨h, L, m, rfl, _⟩ := h
    rfl
  · obtain ⟨hd, L, m, rfl, hH, hm, q⟩ := h
    have hr1 : Room 1 _ := hr.mono (by decide)
    refine ⟨_, pss_cons (ps_set (i := 2) scOrder.nd rfl (.inl rfl) (pe_cal C hr1 (by rfl) (pa_cons (pv 0) (pa_cons pe_int pa_nil))))
      (pss_cons (ps_set (i := 3) scOrder.nd rfl (.inl rfl) (pe_listRg rfl (by rfl) ml (prg_1 (by rfl) mr (pv 1))))
      (C8.pss_cut (ps_if (pt_cmpR op_lt (pv 2) pe_int (nomark _)) (pss_one (ps_set (i := 3) scOrder.nd rfl (.inl rfl) (pe_cal CA hr (by rfl) (pa_cons (pv 0) (pa_cons (pv 1) pa_nil))))) pss_nil)
      (C8.pss_cut (ps_if (pt_cmpR op_eq (pv 2) pe_int (nomark _))
          (pss_one (ps_for PassesOwn.never rfl (pi_range1 (by rfl) mr (pa_cons (pe_op op_mul (pe_cal C hr1 (by rfl) (pa_cons (pv 0) (pa_cons pe_int pa_nil))) (pe_callTy call_int1 (by rfl) mi (by decide +kernel) (pa_cons (pe_cmpR op_gt (pv 1) pe_int (nomark _)) pa_nil))) pa_nil)) (pg_name (i := 4) scOrder.nd rfl (.inl rfl))
            (pss_cons (ps_par (i := 5) (j := 6) (by rfl) scOrder.nd rfl rfl (by decide) rfl rfl (pa_cons (pe_cal C hr1 (by rfl) (pa_cons (pv 0) (pa_cons (pv 1) pa_nil))) (pa_cons (pe_cal C hr1 (by rfl) (pa_cons (pv 0) (pa_cons (pv 1) pa_nil))) pa_nil)) (by rfl))
            (pss_cons (ps_set (i := 7) scOrder.nd rfl (.inl rfl) (pe_ix ix_list (pv 3) (pv 5) (fun _ _ => rfl)))
            (pss_cons (ps_asg (pe_ix ix_list (pv 3) (pv 6) (fun _ _ => rfl)) (pg_sub (pv 3) (pv 5) set_list))
            (pss_one (ps_asg (pv 7) (pg_sub (pv 3) (pv 6) set_list)))))))) pss_nil)
      (C8.pss_cut (ps_if (pt_cmpR op_eq (pv 2) pe_int (nomark _)) (pss_one (ps_set (i := 3) scOrder.nd rfl (.inl rfl) (pe_revL (pv 3)))) pss_nil)
      (C8.pss_cut (ps_if (pt_cmpR op_eq (pv 2) pe_int (nomark _))
          (pss_cons (ps_set (i := 8) scOrder.nd rfl (.inl rfl) (pe_cal CA hr (by rfl) (pa_cons (pv 0) (pa_cons (pv 1) pa_nil))))
          (pss_one (ps_for PassesOwn.never rfl (pi_range1 (by rfl) mr (pa_cons (pv 1) pa_nil)) (pg_name (i := 9) scOrder.nd rfl (.inl rfl))
            (pss_one (ps_asg (pe_ix ix_list (pv 8) (pe_op op_mod (pe_op op_add (pv 9) pe_int) (pv 1)) (fun _ _ => rfl)) (pg_sub (pv 3) (pe_ix ix_list (pv 8) (pv 9) (fun _ _ => rfl)) set_list)))))) pss_nil)
      (C8.pss_cut (ps_if (pt_cmpR op_eq (pv 2) pe_int (nomark _))
          (pss_cons (ps_set (i := 10) scOrder.nd rfl (.inr rfl) (pe_cal C hr1 (by rfl) (pa_cons (pv 0) (pa_cons (pe_op op_add (pv 1) pe_int) pa_nil))))
          (pss_one (ps_set (i := 3) scOrder.nd rfl (.inl rfl) (pe_op op_cat (pe_cal CA hr (by rfl) (pa_cons (pv 0) (pa_cons (pv 10) pa_nil)))
            (pe_lc (own := [("_law_number", 11)]) (g := gName 11) (tt := tYes) rfl scOrder.nd (pi_list (pe_cal CA hr (by rfl) (pa_cons (pv 0) (pa_cons (pe_op op_sub (pv 1) (pv 10)) pa_nil)))) (blkOk_by (N := nOrder) (sc := defScope sOrder) (by decide +kernel))
              (fun _ _ _ _ _ => pg_name (i := 11) scOrder.nd rfl (Or.inl rfl)) (fun _ _ _ _ _ => pts_nil) (fun _ _ _ _ _ => pe_op op_add (pv 10) (pv 11))))))) pss_nil)
      (pss_one (ps_ret (pe_callTy (call_tupK (K := K) rfl) (by rfl) mt (by decide +kernel) (pa_cons (pv 3) pa_nil)))))))))), ?_⟩
    -- way = pick(7); order = list(range(many))
    refine ⟨.ref hd, rfl, hd, L, 7, rfl, hH, by decide, by decide, fun H1 wy hwy hH1 fr1 => ?_⟩
    refine ⟨nv m, rfl, (m : Int), rfl, RgOk.of_le (Int.le_refl 0) (by omega) (by decide) (by omega), fun p np => ?_⟩
    rw [rgV_nvs]
    have nfresh : ∀ {H2 : Hp} {p : Addr}, Fr (OfH hd L) H H2 → H2 p = none → H p = none := fun f h => f.free _ h
    have hap : ∀ {p : Addr}, H p = none → ¬ OfH hd L p := fun h => hH.apart h
    have sp0 := same_new (o := .lst (nvs (List.range m))) np
    have o0 : OrdAt H (upd H1 p (.lst (nvs (List.range m)))) hd L p m (List.range m) := ⟨hH1.same sp0, fr1.same sp0, upd_same, RSK.ord_range m, List.length_range, nfresh fr1 np⟩
    generalize upd H1 p (.lst (nvs (List.range m))) = H2 at *
    -- if way < 3
    refine ⟨MidO H hd L m wy, ?_, ?_⟩
    · refine ⟨nv wy, rfl, (wy : Int), 3, rfl, rfl, _, rfl, ite2 (fun _ => ?_) (fun _ => ⟨p, List.range m, none, none, none, none, none, none, none, rfl, o0⟩)⟩
      refine ⟨.ref hd, rfl, nv m, rfl, hd, L, m, rfl, o0.hand, by omega, fun H3 p' ns' hH3 fr3 np' hI' ho' hl' => ?_⟩
      exact ⟨p', ns', none, none, none, none, none, none, none, rfl, hH3, o0.fr.trans fr3, hI', ho', hl', nfresh o0.fr np'⟩
    -- if way == 3
    rintro σ3 H3 M3
    refine ⟨MidO H hd L m wy, ?_, ?_⟩
    · obtain ⟨p, ns, y4, y5, y6, y7, y8, y9, y10, e, o⟩ := id M3
      rw [e]
      refine ⟨nv wy, rfl, rfl, _, rfl, ite2 (fun _ => ?_) (fun _ => ⟨p, ns, y4, y5, y6, y7, y8, y9, y10, rfl, o⟩)⟩
      refine ⟨.ref hd, rfl, hd, L, 4, rfl, o.hand, by decide, by decide, fun H4 k hk hH4 fr4 => ?_⟩
      refine ⟨nv m, rfl, (m : Int), 1, rfl, rfl, .inr ⟨decide ((1 : Int) < m), rfl, ?_⟩⟩
      refine ⟨(k : Int), _, rfl, rfl, .inl ⟨by omega, by omega⟩, ?_⟩
      have hmul : (k : Int) * (if decide ((1 : Int) < m) = true then 1 else 0) = (((if 1 < m then k else 0) : Nat) : Int) := by
        by_cases h1 : 1 < m
        · rw [if_pos h1, decide_eq_true (show (1 : Int) < m by omega), if_pos rfl]; omega
        · rw [if_neg h1, decide_eq_false (show ¬ (1 : Int) < m by omega), if_neg (by decide)]; omega
      refine ⟨_, rfl, ?_⟩
      rw [hmul]
      have hif : (if 1 < m then k else 0) < 4 := by split <;> omega
      refine ⟨by omega, by omega, ?_⟩
      rw [Int.toNat_natCast]
      have o4 : OrdAt H H4 hd L p m ns := ⟨hH4, o.fr.trans fr4, fr4.keep _ _ o.it (hap o.new), o.ord, o.len, o.new⟩
      refine for_it walk_range (fun i σ H5 => ∃ (ns : List Nat) (y4 y5 y6 y7 : Option V), σ = [some (.ref hd), some (nv m), some (nv wy), some (.ref p), y4, y5, y6, y7, y8, y9, y10, none] ∧ OrdAt H H5 hd L p m ns)
        ⟨ns, y4, y5, y6, y7, rfl, o4⟩ (fun _ _ _ _ _ => trivial) ?_ ?_
      · rintro i v σ H5 H5' hi ⟨ns, y4, y5, y6, y7, rfl, o5⟩ ⟨rfl, rfl⟩
        have hm1 : 1 < m := by
          by_cases h1 : 1 < m
          · exact h1
          · rw [if_neg h1] at hi; omega
        refine ⟨.ref hd, rfl, nv m, rfl, hd, L, m, rfl, o5.hand, by omega, by omega, fun H6 a ha hH6 fr6 => ?_⟩
        refine ⟨.ref hd, rfl, nv m, rfl, hd, L, m, rfl, hH6, by omega, by omega, fun H7 b hb hH7 fr7 => ?_⟩
        refine ⟨nv a, nv b, rfl, ?_⟩
        have o7 : OrdAt H H7 hd L p m ns := ⟨hH7, o5.fr.trans (fr6.trans fr7), (fr6.trans fr7).keep _ _ o5.it (hap o5.new), o5.ord, o5.len, o5.new⟩
        have hl := o7.len
        obtain ⟨x, hx⟩ : ∃ x, ns[a]? = some x := ⟨_, List.getElem?_eq_getElem (by omega)⟩
        obtain ⟨y, hy⟩ : ∃ y, ns[b]? = some y := ⟨_, List.getElem?_eq_getElem (by omega)⟩
        refine ⟨.ref p, rfl, nv a, rfl, p, nvs ns, (a : Int), nv x, rfl, rfl, SqL.of o7.it, at_of rfl (nvs_at hx), ?_⟩
        refine ⟨.ref p, rfl, nv b, rfl, p, nvs ns, (b : Int), nv y, rfl, rfl, SqL.of o7.it, at_of rfl (nvs_at hy), ?_⟩
        refine ⟨.ref p, rfl, nv a, rfl, p, nvs ns, (a : Int), a, rfl, rfl, o7.it, by rw [nvs_len]; exact ixN_nat (by omega), ?_⟩
        rw [nvs_set]
        refine ⟨nv x, rfl, .ref p, rfl, nv b, rfl, p, nvs (ns.set a y), (b : Int), b, rfl, rfl, upd_same, by rw [nvs_len, List.length_set]; exact ixN_nat (by omega), ?_⟩
        rw [nvs_set, upd_upd]
        obtain ⟨s1, s2⟩ := RSK.ord_swap o7.ord hl hx hy
        exact ⟨_, some (.int (0 + ((i : Nat) : Int))), some (nv a), some (nv b), some (nv x), rfl, o7.put (hap o7.new) s1 s2⟩
      · rintro σ H5 ⟨ns, y4, y5, y6, y7, rfl, o5⟩
        exact ⟨p, ns, y4, y5, y6, y7, y8, y9, y10, rfl, o5⟩
    -- if way == 4
    rintro σ4 H4 M4
    refine ⟨MidO H hd L m wy, ?_, ?_⟩
    · obtain ⟨p, ns, y4, y5, y6, y7, y8, y9, y10, e, o⟩ := id M4
      rw [e]
      refine ⟨nv wy, rfl, rfl, _, rfl, ite2 (fun _ => ?_) (fun _ => ⟨p, ns, y4, y5, y6, y7, y8, y9, y10, rfl, o⟩)⟩
      refine ⟨.ref p, rfl, p, nvs ns, rfl, SqL.of o.it, fun p' np' => ?_⟩
      have e1 : (nvs ns).reverse = nvs ns.reverse := by unfold nvs; rw [List.map_reverse]
      rw [e1]
      have sp := same_new (o := .lst (nvs ns.reverse)) np'
      exact ⟨p', ns.reverse, y4, y5, y6, y7, y8, y9, y10, rfl, o.hand.same sp, o.fr.same sp, upd_same, RSK.ord_rev o.ord, by rw [List.length_reverse]; exact o.len, nfresh o.fr np'⟩
    -- if way == 5
    rintro σ5 H5 M5
    refine ⟨MidO H hd L m wy, ?_, ?_⟩
    · obtain ⟨p, ns, y4, y5, y6, y7, y8, y9, y10, e, o⟩ := id M5
      rw [e]
      refine ⟨nv wy, rfl, rfl, _, rfl, ite2 (fun _ => ?_) (fun _ => ⟨p, ns, y4, y5, y6, y7, y8, y9, y10, rfl, o⟩)⟩
      refine ⟨.ref hd, rfl, nv m, rfl, hd, L, m, rfl, o.hand, by omega, fun H6 r row hH6 fr6 nr hIr hor hlr => ?_⟩
      have hnr : H r = none := nfresh o.fr nr
      have nrp : r ≠ p := fun e => by
        have := o.it
        have h2 : H5 p = _ := this
        rw [← e, nr] at h2; cases h2
      have hIp : IL H6 p ns := fr6.keep _ _ o.it (hap o.new)
      refine ⟨nv m, rfl, (m : Int), rfl, by omega, by omega, ?_⟩
      rw [Int.toNat_natCast]
      refine for_it walk_range (fun i σ H7 => ∃ (ms : List Nat) (y9 : Option V), σ = [some (.ref hd), some (nv m), some (nv wy), some (.ref p), y4, y5, y6, y7, some (.ref r), y9, y10, none] ∧ HandAt H7 hd L ∧ Fr (OfH hd L) H H7 ∧ IL H7 p ms ∧ IL H7 r row ∧ ms.length = m ∧
          ∀ (k x y : Nat), k < i → row[k]? = some x → row[(k+1) % m]? = some y → ms[x]? = some y)
        ⟨ns, y9, rfl, hH6, o.fr.trans fr6, hIp, hIr, o.len, fun k x y h => by omega⟩ (fun _ _ _ _ _ => trivial) ?_ ?_
      · rintro i v σ H7 H7' hi ⟨ms, y9, rfl, hH7, fr7, g1, g2, hl7, hs⟩ ⟨rfl, rfl⟩
        have e0 : (0 : Int) + ((i : Nat) : Int) = (i : Int) := Int.zero_add _
        have hmod : ((0 : Int) + ((i : Nat) : Int) + 1) % (m : Int) = (((i + 1) % m : Nat) : Int) := by
          rw [e0, show (i : Int) + 1 = ((i + 1 : Nat) : Int) by omega]
          exact (Int.natCast_emod _ _).symm
        have hmlt := Nat.mod_lt (i+1) (show m > 0 by omega)
        obtain ⟨y, hy⟩ : ∃ y, row[(i+1) % m]? = some y := ⟨_, List.getElem?_eq_getElem (by omega)⟩
        obtain ⟨x, hx⟩ : ∃ x, row[i]? = some x := ⟨_, List.getElem?_eq_getElem (by omega)⟩
        have hxm := hor.2 x (List.mem_of_getElem? hx)
        refine ⟨.ref r, rfl, _, rfl, _, 1, rfl, rfl, nv m, rfl, _, (m : Int), rfl, rfl, by show (0 : Int) < m; omega, r, nvs row, _, nv y, rfl, rfl, SqL.of g2, at_of hmod (nvs_at hy), ?_⟩
        refine ⟨.ref p, rfl, .ref r, rfl, _, rfl, r, nvs row, _, nv x, rfl, rfl, SqL.of g2, at_of e0 (nvs_at hx), p, nvs ms, (x : Int), x, rfl, rfl, g1, by rw [nvs_len]; exact ixN_nat (by omega), ?_⟩
        rw [nvs_set]
        refine ⟨ms.set x y, _, rfl, ?_, fr7.fresh o.new, upd_same, by show upd _ p _ r = _; rw [upd_ne nrp]; exact g2, by rw [List.length_set]; exact hl7, fun k x' y' hk h1 h2 => ?_⟩
        · exact HandAt.fr (Fr.write (S := fun b => b = p) (Fr.refl _ _) rfl) hH7 (fun e => hap o.new (.inl e.symm)) (fun e => hap o.new (.inr e.symm))
        · by_cases hki : k = i
          · subst hki
            rw [hx] at h1
            cases h1
            rw [hy] at h2
            cases h2
            exact List.getElem?_set_self (by omega)
          · have hne : x ≠ x' := fun e => hki (RSK.nd_index hor.1 h1 (e ▸ hx))
            rw [List.getElem?_set_ne hne]
            exact hs k x' y' (by omega) h1 h2
      · rintro σ H7 ⟨ms, y9, rfl, hH7, fr7, g1, g2, hl7, hs⟩
        refine ⟨p, ms, y4, y5, y6, y7, _, y9, y10, rfl, hH7, fr7, g1, RSK.ord_cycle hor hlr hl7 (fun k x y h1 h2 => hs k x y ?_ h1 h2), hl7, o.new⟩
        have := (List.getElem?_eq_some_iff.1 h1).1
        omega
    -- if way == 6
    rintro σ6 H6 M6
    refine ⟨MidO H hd L m wy, ?_, ?_⟩
    · obtain ⟨p, ns, y4, y5, y6, y7, y8, y9, y10, e, o⟩ := id M6
      rw [e]
      refine ⟨nv wy, rfl, rfl, _, rfl, ite2 (fun _ => ?_) (fun _ => ⟨p, ns, y4, y5, y6, y7, y8, y9, y10, rfl, o⟩)⟩
      refine ⟨.ref hd, rfl, nv m, rfl, (m : Int), 1, rfl, rfl, hd, L, m + 1, rfl, o.hand, by omega, by omega, fun H7 c hc hH7 fr7 => ?_⟩
      refine ⟨.ref hd, rfl, nv c, rfl, hd, L, c, rfl, hH7, by omega, fun H8 r row hH8 fr8 nr hIr hor hlr => ?_⟩
      have hsub : V.int ((m : Int) - (c : Int)) = nv (m - c) := by
        show V.int _ = V.int _
        congr 1
        omega
      refine ⟨.ref hd, rfl, nv m, rfl, nv c, rfl, (m : Int), (c : Int), rfl, rfl, hd, L, m - c, by rw [← hsub]; rfl, hH8, by omega, fun H9 r2 row2 hH9 fr9 nr2 hIr2 hor2 hlr2 => ?_⟩
      have fr69 := o.fr.trans (fr7.trans (fr8.trans fr9))
      have hnr : H r = none := nfresh (o.fr.trans fr7) nr
      have hIr9 : IL H9 r row := fr9.keep _ _ hIr (hap hnr)
      refine ⟨r2, rfl, ⟨_, SqL.of hIr2⟩, fun D nD => ?_⟩
      refine lc_list (K := K) (a := r2) (xs := nvs row2) (fun i H10 => Same H9 H10 ∧ IL H10 D ((row2.take i).map (c + ·))) ⟨same_new nD, upd_same⟩ (fun i H10 _ z => SqL.of (z.1 _ _ hIr2)) ?_ ?_
      · rintro i v H10 hv ⟨s10, eD⟩
        obtain ⟨x, hx, rfl⟩ := nvs_of hv
        have hil := (List.getElem?_eq_some_iff.1 hx).1
        refine ⟨rfl, nv c, rfl, nv x, rfl, (c : Int), (x : Int), rfl, rfl, nvs ((row2.take i).map (c + ·)), eD, by rw [nvs_len, List.length_map, List.length_take]; exact small1000 (by omega), same_upd s10 nD, ?_⟩
        show upd _ D _ D = _
        rw [upd_same, List.take_add_one, hx, List.map_append]
        unfold nvs
        rw [List.map_append]
        congr 3
      · rintro H10 ⟨s10, eD⟩
        rw [nvs_len, List.take_length] at eD
        refine ⟨r, D, nvs row, nvs (row2.map (c + ·)), rfl, rfl, s10 _ _ hIr9, eD, ?_, fun p' np' => ?_⟩
        · rw [nvs_len, nvs_len, List.length_map]
          exact Nat.le_of_lt (small1000 (by omega))
        · have e1 : nvs row ++ nvs (row2.map (c + ·)) = nvs (row ++ row2.map (c + ·)) := by unfold nvs; rw [List.map_append]
          rw [e1]
          have s11 := s10.trans (same_new (o := .lst (nvs (row ++ row2.map (c + ·)))) np')
          refine ⟨p', row ++ row2.map (c + ·), y4, y5, y6, y7, y8, y9, _, rfl, hH9.same s11, fr69.same s11, upd_same, RSK.ord_beside (by omega) hor hor2, ?_, fr69.free _ (s10.free np')⟩
          rw [List.length_append, List.length_map]
          omega
    -- return tuple(order)
    rintro σ7 H7 ⟨p, ns, y4, y5, y6, y7, y8, y9, y10, rfl, o⟩
    refine ⟨.ref p, rfl, p, nvs ns, rfl, SqL.of o.it, fun t nt => ?_⟩
    have st := same_new (o := .tup (nvs ns)) nt
    exact q _ t ns (o.hand.same st) (o.fr.same st) upd_same o.ord o.len
end
end K61

/-! _law_same, _law_over. -/
namespace K61
open PySem PySem.Spec PyProof.Rows L2

/-- two values of one tree of tuples of ints, k deep -/
def Eqd : Nat → Hp → V → V → Prop
  | 0, _, x, y => ∃ i : Int, x = .int i ∧ y = .int i
  | k+1, H, x, y => ∃ a b xs ys, x = .ref a ∧ y = .ref b ∧ H a = some (.tup xs) ∧ H b = some (.tup ys) ∧ At2 (Eqd k H) xs ys ∧ xs.length ≤ 1000
theorem Eqd.same {H H' : Hp} (s : Same H H') : ∀ {k : Nat} {x y : V}, Eqd k H x y → Eqd k H' x y
  | 0, _, _, h => h
  | k+1, _, _, h => by
    obtain ⟨a, b, xs, ys, e1, e2, h1, h2, h3, h4⟩ := h
    exact ⟨a, b, xs, ys, e1, e2, s _ _ h1, s _ _ h2, h3.mono fun _ _ _ z => Eqd.same s z, h4⟩
theorem eqd_IT {H : Hp} {a b : Addr} {ns : List Nat} (h1 : IT H a ns) (h2 : IT H b ns) (hl : ns.length ≤ 1000) : Eqd 1 H (.ref a) (.ref b) := by
  refine ⟨a, b, nvs ns, nvs ns, rfl, rfl, h1, h2, ⟨rfl, fun i x y hx hy => ?_⟩, by rw [nvs_len]; exact hl⟩
  rw [hx] at hy
  cases hy
  obtain ⟨n, _, rfl⟩ := nvs_of hx
  exact ⟨(n : Int), rfl, rfl⟩
theorem eqd_TT {H : Hp} {a b : Addr} {rows : List (List Nat)} (h1 : TTb H a rows) (h2 : TTb H b rows) (hl : rows.length ≤ 1000) (hr : ∀ r ∈ rows, r.length ≤ 1000) : Eqd 2 H (.ref a) (.ref b) := by
  obtain ⟨as, g1, g2⟩ := h1
  obtain ⟨bs, g3, g4⟩ := h2
  refine ⟨a, b, as.map V.ref, bs.map V.ref, rfl, rfl, g1, g3, ⟨by rw [List.length_map, List.length_map, g2.1, g4.1], fun i x y hx hy => ?_⟩, by rw [List.length_map, g2.1]; exact hl⟩
  rw [List.getElem?_map] at hx hy
  cases e1 : as[i]? with
  | none => rw [e1] at hx; cases hx
  | some c =>
    cases e2 : bs[i]? with
    | none => rw [e2] at hy; cases hy
    | some d =>
      rw [e1] at hx
      rw [e2] at hy
      cases hx
      cases hy
      obtain ⟨r, hr1, hI⟩ := g2.getL e1
      exact eqd_IT hI (g4.2 i d r e2 hr1) (hr r (List.mem_of_getElem? hr1))

section
variable {P : Program} {w : World} {K : PySem.W.Frag} {mg : Str → Option Value} {base : Heap}
/-- what _law_same is worth at level k + 1: alike to k deep -/
def spSame : Nat → Sp
  | 0 => fun _ _ _ _ => False
  | k+1 => fun vs H Q _ => ∃ x y, vs = [x, y] ∧ Eqd k H x y ∧ ∀ H', Same H H' → Q (.bl true) H'
theorem scSame : FnScope ["_law_found", "_law_due", "_law_one", "_law_other"] ["_law_found", "_law_due"] (defScope sSame) := ⟨rfl, rfl, rfl, by decide +kernel, rfl, by decide +kernel, by decide +kernel⟩
theorem ok_same {f : Addr} {fd : FuncData} (F : Fun K "_law_same" "_law_same" sSame f fd) (hg : mg "_law_same" = some (.ref f)) (hb : Binds K fd ["_law_found", "_law_due"] []) (mi : mg "isinstance" = none) (mt : mg "tuple" = none) (mb : mg "bool" = none) (mint : mg "int" = none)
    (mlen : mg "len" = none) (ma : mg "all" = none) (mz : mg "zip" = none) : ∀ k : Nat, FnOk P w K mg base CX0 k f fd ["_law_found", "_law_due"] (spSame k)
  | 0 => ⟨fun _ _ _ _ h => h.elim, fun _ _ _ _ _ _ _ _ _ _ _ _ _ h => h.elim⟩
  | k+1 => by
    have C : Cal P w K mg base k "_law_same" ["_law_found", "_law_due"] (spSame k) := ⟨f, fd, hg, F.kp, hb, ok_same F hg hb mi mt mb mint mlen ma mz k⟩
    refine F.ok scSame (fun vs H Q E h => ?_) (fun cdv A outer s H vs Q E hr h => ?_)
    · obtain ⟨x, y, rfl, _⟩ := h
      rfl
    · obtain ⟨x, y, rfl, hE, q⟩ := h
      refine ⟨_, pss_cons (ps_if (pt_val (pe_callB call_isi (by rfl) mi (by decide +kernel) (pa_cons (pv 1) (pa_cons (pe_bltn (by rfl) mt (by decide +kernel) (v := .ty "tuple") rfl) pa_nil))))
          (pss_cons (ps_if (pw_or (pt_not (pt_val (pe_callB call_isi (by rfl) mi (by decide +kernel) (pa_cons (pv 0) (pa_cons (pe_bltn (by rfl) mt (by decide +kernel) (v := .ty "tuple") rfl) pa_nil)))))
              (pw_or1 (pt_cmpR op_ne (pe_callB (call_lenK (K := K) rfl) (by rfl) mlen PySem.boot_len (pa_cons (pv 0) pa_nil)) (pe_callB (call_lenK (K := K) rfl) (by rfl) mlen PySem.boot_len (pa_cons (pv 1) pa_nil)) (nomark _)))).pt (pss_one (ps_ret pe_bl)) pss_nil)
          (pss_one (ps_ret (pe_callB (cr_all rfl) (by rfl) ma (by decide +kernel) (pa_cons
            (pe_lc (own := [("_law_one", 2), ("_law_other", 3)]) (tt := tYes) rfl scSame.nd (RZ.pi_zipA (by rfl) mz (pa_cons (pv 0) (pa_cons (pv 1) pa_nil))) (blkOk_by (N := ["_law_found", "_law_due", "_law_one", "_law_other"]) (sc := defScope sSame) (by decide +kernel))
              (fun _ _ _ _ _ => pg_tupK (K := K) (n := 2) rfl rfl (pgs_cons (pg_name (i := 2) scSame.nd rfl (Or.inl rfl)) (pgs_cons (pg_name (i := 3) scSame.nd rfl (Or.inl rfl)) pgs_nil))) (fun _ _ _ _ _ => pts_nil)
              (fun _ _ _ _ _ => pe_cal C hr (by rfl) (pa_cons (pv 2) (pa_cons (pv 3) pa_nil)))) pa_nil))))) pss_nil)
        (pss_cons (ps_if (pt_val (pe_callB call_isi (by rfl) mi (by decide +kernel) (pa_cons (pv 1) (pa_cons (pe_bltn (by rfl) mb (by decide +kernel) (v := .ty "bool") rfl) pa_nil))))
          (pss_one (ps_ret (pe_and (pe_callB call_isi (by rfl) mi (by decide +kernel) (pa_cons (pv 0) (pa_cons (pe_bltn (by rfl) mb (by decide +kernel) (v := .ty "bool") rfl) pa_nil))) (pe_one (pe_cmpR op_eq (pv 0) (pv 1) (nomark _)))))) pss_nil)
        (pss_one (ps_ret (pe_and (pe_callB call_isi (by rfl) mi (by decide +kernel) (pa_cons (pv 0) (pa_cons (pe_bltn (by rfl) mint (by decide +kernel) (v := .ty "int") rfl) pa_nil)))
          (pe_and (pe_not (pe_callB call_isi (by rfl) mi (by decide +kernel) (pa_cons (pv 0) (pa_cons (pe_bltn (by rfl) mb (by decide +kernel) (v := .ty "bool") rfl) pa_nil)))) (pe_one (pe_cmpR op_eq (pv 0) (pv 1) (nomark _)))))))), ?_⟩
      cases k with
      | zero =>
        obtain ⟨i, rfl, rfl⟩ := hE
        refine ⟨.int i, rfl, .int i, .ty "tuple", .type "int", .type "tuple", false, rfl, .ty "tuple", .base (.int i), kit_ty (by decide +kernel), false, rfl, iteF ?_⟩
        refine ⟨.int i, rfl, .int i, .ty "bool", .type "int", .type "bool", false, rfl, .ty "bool", .base (.int i), kit_ty (by decide +kernel), false, rfl, iteF ?_⟩
        refine ⟨.int i, rfl, .int i, .ty "int", .type "int", .type "int", true, rfl, .ty "int", .base (.int i), kit_ty (by decide +kernel), true, rfl, iteT ?_⟩
        refine ⟨.int i, rfl, .int i, .ty "bool", .type "int", .type "bool", false, rfl, .ty "bool", .base (.int i), kit_ty (by decide +kernel), false, rfl, true, rfl, iteT ?_⟩
        refine ⟨.int i, rfl, .int i, rfl, rfl, ?_⟩
        have := q H (Same.refl H)
        show Q (.bl (decide (V.int i = V.int i))) H
        rw [decide_eq_true rfl]
        exact this
      | succ k =>
        obtain ⟨a, b, xs, ys, rfl, rfl, h1, h2, h3, h4⟩ := hE
        refine ⟨.ref b, rfl, .ref b, .ty "tuple", .type "tuple", .type "tuple", true, rfl, .ty "tuple", .base (.tup h2), kit_ty (by decide +kernel), true, rfl, iteT ?_⟩
        refine ⟨.ref a, rfl, .ref a, .ty "tuple", .type "tuple", .type "tuple", true, rfl, .ty "tuple", .base (.tup h1), kit_ty (by decide +kernel), true, rfl, iteF ?_⟩
        refine ⟨.ref a, rfl, a, xs, rfl, .inr (SqT.of h1), .ref b, rfl, b, ys, rfl, .inr (SqT.of h2), rfl, _, rfl, ?_⟩
        refine iteNS (show V.int (xs.length : Int) = V.int (ys.length : Int) by rw [h3.1]) ?_
        -- all([..])
        refine ⟨.ref a, rfl, .ref b, rfl, a, b, xs, ys, rfl, .inr ⟨SqT.of h1, SqT.of h2, fun D nD => ?_⟩⟩
        refine lc_it (walk_zT (n := xs.length) rfl h3.1.symm) (fun i H' => Same H H' ∧ H' D = some (.lst ((List.replicate i true).map V.bl))) ⟨same_new nD, upd_same⟩ (fun i H' _ z => ⟨SqT.of (z.1 _ _ h1), SqT.of (z.1 _ _ h2)⟩) ?_ ?_
        · rintro i v H1 H2 hi ⟨s1, eD⟩ ⟨T, x, y, rfl, nT, rfl, g1, g2⟩
          have hxy := h3.2 i x y g1 g2
          have sT := same_new (o := .tup [x, y]) nT
          refine ⟨T, [x, y], rfl, SqT.of upd_same, rfl, x, [y], rfl, y, [], rfl, rfl, rfl, ?_⟩
          refine ⟨x, rfl, y, rfl, x, y, rfl, hxy.same (s1.trans sT), fun H3 s3 => ?_⟩
          have s13 := s1.trans (sT.trans s3)
          refine ⟨_, s3 _ _ (sT _ _ eD), by rw [List.length_map, List.length_replicate]; exact small1000 (by omega), same_upd s13 nD, ?_⟩
          rw [upd_same]
          simp [List.replicate_succ']
        · rintro H1 ⟨s1, eD⟩
          refine ⟨D, List.replicate xs.length true, rfl, SqL.of eD, ?_⟩
          have e : ((List.replicate xs.length true).all id) = true := by simp
          rw [e]
          exact q H1 s1

/-! ### _law_over -/
theorem pi_tupK {X : Cx} {K : PySem.W.Frag} {tg l : Expr} {tl : TE} (e : X.K = K) (h : PE X l tl) : PI X tg l (iTup K tl) := by
  subst e
  exact pi_tup h
def spOver : Sp := fun vs H Q _ => ∃ (a : Addr) (grid : List (List Nat)), vs = [.ref a] ∧ TTb H a grid ∧ grid.length ≤ 900 ∧ (∀ r ∈ grid, r.length ≤ 900) ∧ ∀ H' p, Same H H' → TTb H' p (RSK.over grid) → Q (.ref p) H'
abbrev nOver : List Str := ["_law_grid", "_law_k", "_law_row"]
theorem scOver : FnScope nOver ["_law_grid"] (defScope sOver) := ⟨rfl, rfl, rfl, by decide +kernel, rfl, by decide +kernel, by decide +kernel⟩
/-- the two blocks' scopes, read off the def's own text -/
def retE : Stmt → Expr
  | .Return (some e) _ => e
  | _ => .Tuple [] 0 ⟨0, 0, 0, 0⟩
def arg0 : Expr → Expr
  | .Call _ (a :: _) _ _ => a
  | e => e
def lcElt : Expr → Expr
  | .ListComp e _ _ _ => e
  | e => e
def lcScope : Expr → Scope
  | .ListComp _ _ sc _ => sc
  | _ => defScope sOver
def outerLc : Expr := arg0 (retE ((defBody sOver).getD 1 sOver))
def scO : Scope := lcScope outerLc
def scI : Scope := lcScope (arg0 (lcElt outerLc))
theorem blkI : blkC nOver (relS scO (defScope sOver)) scI [("_law_row", 2)] = true := by decide +kernel
theorem ok_over {f : Addr} {fd : FuncData} (F : Fun K "_law_over" "_law_over" sOver f fd) (mt : mg "tuple" = none) (mr : mg "range" = none) (mlen : mg "len" = none) : FnOk P w K mg base CX0 1 f fd ["_law_grid"] spOver := by
  refine F.ok scOver (fun vs H Q E h => ?_) (fun cdv A outer s H vs Q E hr h => ?_)
  · obtain ⟨a, grid, rfl, _⟩ := h
    rfl
  · obtain ⟨a, grid, rfl, hT, hl, hlr, q⟩ := h
    have hu := hr.units
    refine ⟨_, pss_cons (ps_if (pt_cmpR (op_eqD hu) (pv 0) (pe_tup pa_nil) (nomark _)) (pss_one (ps_ret (pe_tup pa_nil))) pss_nil)
      (pss_one (ps_ret (pe_callTy (call_tupK (K := K) rfl) (by rfl) mt (by decide +kernel) (pa_cons
        (pe_lc (own := [("_law_k", 1)]) (g := gName 1) (tt := tYes) rfl scOver.nd (pi_range1 (by rfl) mr (pa_cons (pe_callB (call_lenK (K := K) rfl) (by rfl) mlen PySem.boot_len (pa_cons (pe_ix ix_tup (pv 0) pe_int (fun _ _ => rfl)) pa_nil)) pa_nil)) (blkOk_by (N := nOver) (sc := defScope sOver) (by decide +kernel))
          (fun _ _ _ _ _ => pg_name (i := 1) scOver.nd rfl (Or.inr rfl)) (fun _ _ _ _ _ => pts_nil)
          (fun _ _ _ _ _ => pe_callTy (call_tupK (K := K) rfl) (by rfl) mt (by decide +kernel) (pa_cons
            (pe_lc (own := [("_law_row", 2)]) (g := gName 2) rfl scOver.nd (pi_tupK (K := K) rfl (pv 0)) (blkOk_by blkI) (fun _ _ _ _ _ => pg_name (i := 2) scOver.nd rfl (Or.inl rfl))
              (fun _ _ _ _ _ => pts_one (pt_cmpR op_gt (pe_callB (call_lenK (K := K) rfl) (by rfl) mlen PySem.boot_len (pa_cons (pv 2) pa_nil)) (pv 1) (nomark _)))
              (fun _ _ _ _ _ => pe_ix (ix_tupK (K := K) rfl) (pv 2) (pv 1) (fun _ _ => rfl))) pa_nil))) pa_nil)))), ?_⟩
    -- if grid == ()
    refine ⟨.ref a, rfl, Nat.zero_le _, fun e ne => ?_⟩
    have se := same_new (o := .tup []) ne
    refine ⟨dTT grid, .tuple [], dp_TT (hT.same se), .tup (SqT.of upd_same) .nil, (fit_TT grid).shaped (by decide), (Fit.tuple (k := 0) (ds := []) (by simp)).shaped (by decide), ?_⟩
    have ee : PyData.eqv (dTT grid) (.tuple []) = grid.isEmpty := by
      unfold dTT
      rw [eqv_nilT]
      cases grid <;> rfl
    rw [ee]
    have hT1 := hT.same se
    generalize upd H e (.tup []) = H1 at *
    cases grid with
    | nil =>
      refine ⟨true, rfl, iteT ⟨Nat.zero_le _, fun p np => ?_⟩⟩
      exact q _ p (se.trans (same_new np)) ⟨[], upd_same, At2.nil⟩
    | cons row0 rest =>
      refine ⟨false, rfl, iteF ?_⟩
      obtain ⟨as, hA, h2⟩ := id hT1
      obtain ⟨b0, hb0, hI0⟩ := h2.get (i := 0) (b := row0) rfl
      have hl0 := hlr row0 (by simp)
      refine ⟨.ref a, rfl, a, as.map V.ref, 0, .ref b0, rfl, rfl, SqT.of hA, atI_nat (j := 0) (by rw [List.getElem?_map, hb0]; rfl), b0, nvs row0, rfl, .inr (SqT.of hI0), ?_⟩
      rw [nvs_len]
      refine ⟨(row0.length : Int), rfl, by omega, by omega, fun D nD => ?_⟩
      rw [Int.toNat_natCast]
      generalize hG : row0 :: rest = grid at *
      have hover : RSK.over grid = (List.range row0.length).map fun k => (grid.filter (fun row => k < row.length)).map fun row => row.getD k 0 := by rw [← hG]; rfl
      refine lc_range (lo := 0) (n := row0.length) (fun i H2 => ∃ ts, Same H1 H2 ∧ At2 (IT H2) ts ((RSK.over grid).take i) ∧ H2 D = some (.lst (ts.map V.ref))) ⟨[], same_new nD, At2.nil, upd_same⟩ ?_ ?_
      · rintro k H2 hk ⟨ts, s2, ht, eD⟩
        have e0 : (0 : Int) + ((k : Nat) : Int) = (k : Int) := Int.zero_add _
        refine ⟨rfl, .ref a, rfl, a, rfl, ⟨_, SqT.of (s2 _ _ hA)⟩, fun D2 nD2 => ?_⟩
        refine lc_tup (K := K) (a := a) (xs := as.map V.ref) (fun i H3 => Same H2 H3 ∧ IL H3 D2 (((grid.take i).filter (fun row => decide (k < row.length))).map fun row => row.getD k 0)) ⟨same_new nD2, upd_same⟩ (fun i H3 _ z => SqT.of (z.1 _ _ (s2 _ _ hA))) ?_ ?_
        · rintro i v H3 hv ⟨s3, eD2⟩
          rw [List.getElem?_map] at hv
          obtain ⟨b, hb, rfl⟩ : ∃ b, as[i]? = some b ∧ v = .ref b := by
            cases e : as[i]? with
            | none => rw [e] at hv; cases hv
            | some b => rw [e] at hv; exact ⟨b, rfl, (Option.some.inj hv).symm⟩
          obtain ⟨row, hrow, hI⟩ := h2.getL hb
          have hI3 : IT H3 b row := s3 _ _ (s2 _ _ hI)
          have hil := (List.getElem?_eq_some_iff.1 hrow).1
          have tf : (grid.take (i+1)).filter (fun row => decide (k < row.length)) = (grid.take i).filter (fun row => decide (k < row.length)) ++ if k < row.length then [row] else [] := by
            rw [List.take_add_one, hrow, List.filter_append]
            by_cases q : k < row.length <;> simp [q]
          refine ⟨rfl, .ref b, rfl, b, nvs row, rfl, .inr (SqT.of hI3), V.int (0 + ((k : Nat) : Int)), rfl, _, _, rfl, rfl, _, rfl, ?_⟩
          rw [nvs_len, e0]
          refine ite2 (fun hlt => ?_) (fun hlt => ?_)
          · have hlt : k < row.length := by
              have : (k : Int) < (row.length : Int) := of_decide_eq_true hlt
              omega
            have hget : row[k]? = some (row.getD k 0) := by rw [List.getD_eq_getElem?_getD, List.getElem?_eq_getElem hlt]; rfl
            refine ⟨.ref b, rfl, _, rfl, b, nvs row, (k : Int), nv (row.getD k 0), rfl, rfl, SqT.of hI3, at_of rfl (nvs_at hget), ?_⟩
            refine ⟨_, eD2, ?_, same_upd s3 nD2, ?_⟩
            · rw [nvs_len, List.length_map]
              refine small1000 (Nat.le_trans (List.length_filter_le _ _) ?_)
              rw [List.length_take]; omega
            · show upd _ D2 _ D2 = _
              rw [upd_same, tf, if_pos hlt]
              unfold nvs
              rw [List.map_append, List.map_append]
              rfl
          · have hlt : ¬ k < row.length := fun z => hlt (decide_eq_true (show (k : Int) < (row.length : Int) by omega))
            refine ⟨s3, ?_⟩
            show IL H3 D2 _
            rw [tf, if_neg hlt, List.append_nil]
            exact eD2
        · rintro H3 ⟨s3, eD2⟩
          rw [List.length_map, h2.1, List.take_length] at eD2
          refine ⟨D2, _, rfl, SqL.of eD2, fun t nt => ?_⟩
          have st := same_new (o := .tup (nvs ((grid.filter (fun row => decide (k < row.length))).map fun row => row.getD k 0))) nt
          have ntD : D ≠ t := ne_of_none (s3 _ _ eD) nt
          have hl2 : ts.length ≤ 1000 := by rw [ht.1, List.length_take]; omega
          refine ⟨ts.map V.ref, st _ _ (s3 _ _ eD), by rw [List.length_map]; exact small1000 hl2, ts ++ [t], same_upd (s2.trans (s3.trans st)) nD, ?_, ?_⟩
          · have hr : (RSK.over grid)[k]? = some ((grid.filter (fun row => decide (k < row.length))).map fun row => row.getD k 0) := by
              rw [hover, List.getElem?_map, List.getElem?_range hk]; rfl
            rw [List.take_add_one, hr]
            have h3 := ht.mono (R' := IT (upd (upd H3 t (.tup (nvs ((grid.filter (fun row => decide (k < row.length))).map fun row => row.getD k 0)))) D (.lst (ts.map V.ref ++ [.ref t])))) fun b r hb z => by
              have nbD : b ≠ D := ne_of z eD (by intro q; cases q)
              show upd _ D _ b = _
              rw [upd_ne nbD]
              exact st _ _ (s3 _ _ z)
            exact h3.snoc (by show upd _ D _ t = _; rw [upd_ne (Ne.symm ntD), upd_same])
          · rw [upd_same, List.map_append]; rfl
      · rintro H2 ⟨ts, s2, ht, eD⟩
        have hfull : (RSK.over grid).take row0.length = RSK.over grid := List.take_of_length_le (by rw [hover, List.length_map, List.length_range]; exact Nat.le_refl _)
        rw [hfull] at ht
        refine ⟨D, ts.map V.ref, rfl, SqL.of eD, fun p np => ?_⟩
        have sp := same_new (o := .tup (ts.map V.ref)) np
        exact q _ p (se.trans (s2.trans sp)) ⟨ts, upd_same, ht.mono fun b r _ z => sp _ _ z⟩
end
end K61

/-! _law_drawn_table, _law_filled. -/
namespace K61
open PySem PySem.Spec PyProof.Rows L2

theorem row_getD {rows : List (List Nat)} {k : Nat} (h : k < rows.length) : rows[k]? = some (rows.getD k []) := by
  rw [List.getD_eq_getElem?_getD, List.getElem?_eq_getElem h]; rfl
/-- a write outside the hand -/
theorem HandAt.write {H : Hp} {h L p : Addr} {o : HO} (a : HandAt H h L) (hn : ¬ OfH h L p) : HandAt (upd H p o) h L :=
  HandAt.fr (Fr.write (S := fun b => b = p) (Fr.refl _ _) rfl) a (fun e => hn (.inl e.symm)) (fun e => hn (.inr e.symm))
/-- reading len(rows[k]) -/
theorem LL.row {H : Hp} {R : Addr} {as : List Addr} {rows : List (List Nat)} (h : LL H R as rows) {k : Nat} (hk : k < rows.length) : ∃ c, as[k]? = some c ∧ IL H c (rows.getD k []) := h.get (row_getD hk)

section
variable {P : Program} {w : World} {K : PySem.W.Frag} {mg : Str → Option Value} {base : Heap}
/-! ### _law_drawn_table -/
def spDrawn : Sp := fun vs H Q _ => ∃ (h L : Addr) (m : Nat), vs = [.ref h, nv m] ∧ HandAt H h L ∧ m ≤ 60 ∧ ∀ H' p rows, HandAt H' h L → Fr (OfH h L) H H' → TTb H' p rows → RSK.Drawn m rows → Q (.ref p) H'
abbrev nDrawn : List Str := ["_law_hand_here", "_law_many", "_law_rows", "_law_number", "_law_ends", "_law_at", "_law_k", "_law_row"]
theorem scDrawn : FnScope nDrawn ["_law_hand_here", "_law_many"] (defScope sDrawn) := ⟨rfl, rfl, rfl, by decide +kernel, rfl, by decide +kernel, by decide +kernel⟩
/-- where a number may stand -/
def endsOk (rows : List (List Nat)) (k : Nat) : Bool := decide (k = 0) || decide ((rows.getD k []).length < (rows.getD (k - 1) []).length)
structure DrawAt (H0 H : Hp) (h L R : Addr) (as : List Addr) (rows : List (List Nat)) : Prop where
  hand : HandAt H h L
  fr : Fr (OfH h L) H0 H
  ll : LL H R as rows
  new : ∀ c, OfL R as c → H0 c = none
theorem DrawAt.same {H0 H H' : Hp} {h L R : Addr} {as : List Addr} {rows : List (List Nat)} (d : DrawAt H0 H h L R as rows) (s : Same H H') : DrawAt H0 H' h L R as rows := ⟨d.hand.same s, d.fr.same s, d.ll.same s, d.new⟩
/-- a number put behind a row -/
theorem DrawAt.put {H0 H : Hp} {h L R c : Addr} {as : List Addr} {rows : List (List Nat)} {k n : Nat} (d : DrawAt H0 H h L R as rows) (h0 : HandAt H0 h L) (hc : as[k]? = some c) :
    DrawAt H0 (upd H c (.lst (nvs (rows.getD k [] ++ [n])))) h L R as (rows.set k (rows.getD k [] ++ [n])) := by
  have hm := List.mem_of_getElem? hc
  exact ⟨d.hand.write (h0.apart (d.new c (.inr hm))), d.fr.fresh (d.new c (.inr hm)), d.ll.setRow hc, d.new⟩
theorem ok_drawn {f : Addr} {fd : FuncData} (F : Fun K "_law_drawn_table" "_law_drawn_table" sDrawn f fd) (C : Cal P w K mg base 2 "_law_of" ["_law_hand_here", "_law_some"] spOf) (mr : mg "range" = none) (mlen : mg "len" = none) (mt : mg "tuple" = none) :
    FnOk P w K mg base CX0 3 f fd ["_law_hand_here", "_law_many"] spDrawn := by
  refine F.ok scDrawn (fun vs H Q E h => ?_) (fun cdv A outer s H vs Q E hr h => ?_)
  · obtain ⟨h, L, m, rfl, _⟩ := h
    rfl
  · obtain ⟨hd, L, m, rfl, hH, hm, q⟩ := h
    refine ⟨_, pss_cons (ps_set (i := 2) scDrawn.nd rfl (.inr rfl) (pe_lst pa_nil))
      (pss_cons (ps_for PassesOwn.never rfl (pi_range1 (by rfl) mr (pa_cons (pv 1) pa_nil)) (pg_name (i := 3) scDrawn.nd rfl (.inl rfl))
        (pss_cons (ps_set (i := 4) scDrawn.nd rfl (.inl rfl) (pe_op op_cat
            (pe_lc (own := [("_law_k", 6)]) (g := gName 6) rfl scDrawn.nd (pi_range1 (by rfl) mr (pa_cons (pe_callB (call_lenK (K := K) rfl) (by rfl) mlen PySem.boot_len (pa_cons (pv 2) pa_nil)) pa_nil)) (blkOk_by (N := nDrawn) (sc := defScope sDrawn) (by decide +kernel)) (fun _ _ _ _ _ => pg_name (i := 6) scDrawn.nd rfl (Or.inl rfl))
              (fun _ _ _ _ _ => pts_one (pw_or (pt_cmpR op_eq (pv 6) pe_int (nomark _)) (pw_or1 (pt_cmpR op_lt (pe_callB (call_lenK (K := K) rfl) (by rfl) mlen PySem.boot_len (pa_cons (pe_ix (ix_listK (K := K) rfl) (pv 2) (pv 6) (fun _ _ => rfl)) pa_nil))
                (pe_callB (call_lenK (K := K) rfl) (by rfl) mlen PySem.boot_len (pa_cons (pe_ix (ix_listK (K := K) rfl) (pv 2) (pe_op op_sub (pv 6) pe_int) (fun _ _ => rfl)) pa_nil)) (nomark _)))).pt)
              (fun _ _ _ _ _ => pv 6))
            (pe_lst (pa_cons (pe_callB (call_lenK (K := K) rfl) (by rfl) mlen PySem.boot_len (pa_cons (pv 2) pa_nil)) pa_nil))))
        (pss_cons (ps_set (i := 5) scDrawn.nd rfl (.inl rfl) (pe_cal C hr (by rfl) (pa_cons (pv 0) (pa_cons (pv 4) pa_nil))))
        (pss_cons (ps_if (pt_cmpR op_eq (pv 5) (pe_callB (call_lenK (K := K) rfl) (by rfl) mlen PySem.boot_len (pa_cons (pv 2) pa_nil)) (nomark _))
          (pss_one (ps_expr (pe_bm PySem.F.plainAttrs_list PySem.F.slot_list_append PySem.F.type_list_append mt_append (pv 2) (pa_cons (pe_lst pa_nil) pa_nil)))) pss_nil)
        (pss_one (ps_expr (pe_bm PySem.F.plainAttrs_list PySem.F.slot_list_append PySem.F.type_list_append mt_append (pe_ix ix_list (pv 2) (pv 5) (fun _ _ => rfl)) (pa_cons (pv 3) pa_nil))))))))
      (pss_one (ps_ret (pe_callTy (call_tupK (K := K) rfl) (by rfl) mt (by decide +kernel) (pa_cons
        (pe_lc (own := [("_law_row", 7)]) (g := gName 7) (tt := tYes) rfl scDrawn.nd (pi_list (pv 2)) (blkOk_by (N := nDrawn) (sc := defScope sDrawn) (by decide +kernel)) (fun _ _ _ _ _ => pg_name (i := 7) scDrawn.nd rfl (Or.inl rfl)) (fun _ _ _ _ _ => pts_nil)
          (fun _ _ _ _ _ => pe_callTy (call_tupK (K := K) rfl) (by rfl) mt (by decide +kernel) (pa_cons (pv 7) pa_nil))) pa_nil))))), ?_⟩
    refine ⟨Nat.zero_le _, fun R nR => ?_⟩
    have s1 := same_new (o := .lst []) nR
    have hRO : ¬ OfH hd L R := hH.apart nR
    refine ⟨nv m, rfl, (m : Int), rfl, by omega, by omega, ?_⟩
    rw [Int.toNat_natCast]
    have d0 : DrawAt H (upd H R (.lst [])) hd L R [] [] := ⟨hH.same s1, (Fr.refl _ _).fresh nR, ⟨upd_same, List.nodup_nil, by simp, At2.nil⟩, fun c hc => by
      rcases hc with z | z
      · rw [z]; exact nR
      · cases z⟩
    refine for_it walk_range (fun i σ H1 => ∃ (as : List Addr) (rows : List (List Nat)) (y3 y4 y5 : Option V), σ = [some (.ref hd), some (nv m), some (.ref R), y3, y4, y5, none, none] ∧ DrawAt H H1 hd L R as rows ∧ RSK.Drawn i rows)
      ⟨[], [], none, none, none, rfl, d0, RSK.drawn_nil⟩ (fun _ _ _ _ _ => trivial) ?_ ?_
    · -- a turn
      rintro i v σ H1 H1' hi ⟨as, rows, y3, y4, y5, rfl, d, dr⟩ ⟨rfl, rfl⟩
      have e0 : (0 : Int) + ((i : Nat) : Int) = (i : Int) := Int.zero_add _
      have hlen := d.ll.len
      have hrl : rows.length ≤ i := by
        have h1 := RSK.sum_ge_len dr.2
        obtain ⟨p, t⟩ := dr.1
        rw [t.sum] at h1
        exact h1
      have hrow : ∀ r ∈ rows, r.length ≤ i := fun r hr => by
        have h1 := RSK.sum_ge_mem hr
        obtain ⟨p, t⟩ := dr.1
        rw [t.sum] at h1
        exact h1
      -- ends
      refine ⟨.ref R, rfl, R, as.map V.ref, rfl, .inl (SqL.of d.ll.at_), ((as.map V.ref).length : Int), rfl, by omega, by rw [List.length_map]; omega, fun D nD => ?_⟩
      rw [List.length_map, Int.toNat_natCast, hlen]
      refine lc_range (lo := 0) (n := rows.length) (fun k H2 => Same H1' H2 ∧ IL H2 D ((List.range k).filter (endsOk rows))) ⟨same_new nD, upd_same⟩ ?_ ?_
      · rintro k H2 hk ⟨s2, eD⟩
        have ek : (0 : Int) + ((k : Nat) : Int) = (k : Int) := Int.zero_add _
        have rf := range_filter (endsOk rows) k
        have good : ∀ H3, Same H1' H3 → IL H3 D ((List.range k).filter (endsOk rows)) → endsOk rows k = true → ∃ acc, H3 D = some (.lst acc) ∧ acc.length < sizeLine ∧ (Same H1' (upd H3 D (.lst (acc ++ [V.int (0 + ((k : Nat) : Int))]))) ∧ IL (upd H3 D (.lst (acc ++ [V.int (0 + ((k : Nat) : Int))]))) D ((List.range (k+1)).filter (endsOk rows))) := by
          intro H3 s3 e3 he
          refine ⟨_, e3, ?_, same_upd s3 nD, ?_⟩
          · rw [nvs_len]
            refine small1000 (Nat.le_trans (List.length_filter_le _ _) ?_)
            rw [List.length_range]; omega
          · show upd _ D _ D = _
            rw [upd_same, rf, he, if_pos rfl, ek]
            unfold nvs
            rw [List.map_append]
            rfl
        refine ⟨rfl, V.int (0 + ((k : Nat) : Int)), rfl, rfl, _, rfl, ?_⟩
        refine ite2 (fun h0 => ?_) (fun h0 => ?_)
        · have h0 : k = 0 := by have := V.int.inj (of_decide_eq_true h0); omega
          exact iteT ⟨_, rfl, good H2 s2 eD (by unfold endsOk; rw [decide_eq_true h0]; rfl)⟩
        · have h0 : k ≠ 0 := fun z => h0 (decide_eq_true (by rw [ek, z]; rfl))
          obtain ⟨c1, hc1, hI1⟩ := (d.ll.same s2).row hk
          obtain ⟨c2, hc2, hI2⟩ := (d.ll.same s2).row (k := k - 1) (by omega)
          have em : V.int ((k : Int) - 1) = nv (k - 1) := by
            show V.int _ = V.int _
            congr 1
            omega
          refine ⟨.ref R, rfl, V.int (0 + ((k : Nat) : Int)), rfl, R, as.map V.ref, _, .ref c1, rfl, rfl, SqL.of (s2 _ _ d.ll.at_), at_of ek (by rw [List.getElem?_map, hc1]; rfl), c1, _, rfl, .inl (SqL.of hI1), ?_⟩
          refine ⟨.ref R, rfl, V.int (0 + ((k : Nat) : Int)), rfl, _, 1, rfl, rfl, R, as.map V.ref, _, .ref c2, rfl, rfl, SqL.of (s2 _ _ d.ll.at_), at_of (j := k - 1) (by rw [ek]; omega) (by rw [List.getElem?_map, hc2]; rfl), c2, _, rfl, .inl (SqL.of hI2), ?_⟩
          rw [nvs_len, nvs_len]
          refine ⟨_, _, rfl, rfl, _, rfl, ?_⟩
          refine ite2 (fun hlt => ?_) (fun hlt => ?_)
          · have hlt : (rows.getD k []).length < (rows.getD (k - 1) []).length := by
              have := of_decide_eq_true hlt
              omega
            exact ⟨_, rfl, good H2 s2 eD (by unfold endsOk; rw [decide_eq_true hlt, Bool.or_true])⟩
          · have hlt : ¬ (rows.getD k []).length < (rows.getD (k - 1) []).length := fun z => hlt (decide_eq_true (by omega))
            refine ⟨s2, ?_⟩
            rw [rf]
            have : endsOk rows k = false := by unfold endsOk; rw [decide_eq_false hlt, decide_eq_false h0]; rfl
            rw [this, if_neg (by decide), List.append_nil]
            exact eD
      · rintro H2 ⟨s2, eD⟩
        have d2 := d.same s2
        refine ⟨.ref R, rfl, R, as.map V.ref, rfl, .inl (SqL.of d2.ll.at_), by show 1 ≤ sizeLine; decide, fun e ne => ?_⟩
        rw [List.length_map, hlen]
        have se := same_new (o := .lst [V.int (rows.length : Int)]) ne
        have hfl : ((List.range rows.length).filter (endsOk rows)).length ≤ 60 := Nat.le_trans (List.length_filter_le _ _) (by rw [List.length_range]; omega)
        refine ⟨D, e, _, _, rfl, rfl, se _ _ eD, upd_same, ?_, fun E' nE => ?_⟩
        · rw [nvs_len]
          exact Nat.le_of_lt (small1000 (by show _ + 1 ≤ 1000; omega))
        have e1 : nvs ((List.range rows.length).filter (endsOk rows)) ++ [V.int (rows.length : Int)] = nvs ((List.range rows.length).filter (endsOk rows) ++ [rows.length]) := by unfold nvs; rw [List.map_append]; rfl
        rw [e1]
        have sE := same_new (o := .lst (nvs ((List.range rows.length).filter (endsOk rows) ++ [rows.length]))) nE
        have hE : IL (upd (upd H2 e (.lst [V.int (rows.length : Int)])) E' (.lst (nvs ((List.range rows.length).filter (endsOk rows) ++ [rows.length])))) E' _ := upd_same
        have d3 := d2.same (se.trans sE)
        have hEO : ¬ OfH hd L E' := (d2.hand.same se).apart nE
        generalize upd (upd H2 e (.lst [V.int (rows.length : Int)])) E' (.lst (nvs ((List.range rows.length).filter (endsOk rows) ++ [rows.length]))) = H3 at *
        -- at = _law_of(hand, ends)
        refine ⟨.ref hd, rfl, .ref E', rfl, hd, L, E', _, rfl, d3.hand, hE, hEO, by simp, by rw [List.length_append, List.length_singleton]; omega, fun H4 at' hat hH4 fr4 => ?_⟩
        have hat' : at' = rows.length ∨ (at' < rows.length ∧ (at' = 0 ∨ (rows.getD at' []).length < (rows.getD (at' - 1) []).length)) := by
          rcases List.mem_append.1 hat with z | z
          · obtain ⟨z1, z2⟩ := List.mem_filter.1 z
            refine .inr ⟨List.mem_range.1 z1, ?_⟩
            unfold endsOk at z2
            simpa using z2
          · exact .inl (List.mem_singleton.1 z)
        have hO : ∀ c, OfL R as c → ¬ OfH hd L c := fun c hc => hH.apart (d.new c hc)
        have d4 : DrawAt H H4 hd L R as rows := ⟨hH4, d3.fr.trans fr4, d3.ll.fr fr4 (hO R (.inl rfl)) fun c hc => hO c (.inr hc), d.new⟩
        have drn := dr.add hat'
        -- if at == len(rows)
        refine ⟨nv at', rfl, .ref R, rfl, R, as.map V.ref, rfl, .inl (SqL.of d4.ll.at_), rfl, _, rfl, ?_⟩
        rw [List.length_map, hlen]
        refine ite2 (fun he => ?_) (fun he => ?_)
        · have he : at' = rows.length := by have := V.int.inj (of_decide_eq_true he); omega
          refine ⟨.ref R, rfl, .inl ⟨rfl, _, SqL.of d4.ll.at_⟩, Nat.zero_le _, fun p np => ?_⟩
          have sp := same_new (o := .lst []) np
          have d5 := d4.same sp
          have npR : p ≠ R := (ne_of_none d4.ll.at_ np).symm
          have npa : p ∉ as := fun z => by
            obtain ⟨o, ho⟩ := d4.ll.tracked (c := p) (.inr z)
            rw [np] at ho; cases ho
          have hL6 := d5.ll.addRow (p := p) (row := []) upd_same npa npR
          have hpl : (as ++ [p])[at']? = some p := by rw [he, ← hlen, List.getElem?_concat_length]
          have hpH : H p = none := d4.fr.free p np
          have d6 : DrawAt H (upd (upd H4 p (.lst [])) R (.lst ((as ++ [p]).map V.ref))) hd L R (as ++ [p]) (rows ++ [[]]) := by
            refine ⟨d5.hand.write (hO R (.inl rfl)), d5.fr.fresh (d.new R (.inl rfl)), hL6, fun c hc => ?_⟩
            rcases hc with z | z
            · exact d.new c (.inl z)
            · rcases List.mem_append.1 z with z | z
              · exact d.new c (.inr z)
              · rw [List.mem_singleton.1 z]; exact hpH
          refine ⟨R, as.map V.ref, _, rfl, rfl, sp _ _ d4.ll.at_, by rw [List.length_map, hlen]; exact small1000 (by omega), ?_⟩
          have em : (as ++ [p]).map V.ref = as.map V.ref ++ [V.ref p] := by rw [List.map_append]; rfl
          rw [em] at d6
          generalize upd (upd H4 p (.lst [])) R (.lst (as.map V.ref ++ [V.ref p])) = H6 at *
          have hgD : (rows ++ [[]]).getD at' [] = [] := by rw [he]; simp
          have hIp : IL H6 p [] := by
            have := d6.ll.rows_.2 at' p [] hpl (by rw [he, List.getElem?_concat_length])
            exact this
          refine ⟨.ref R, rfl, nv at', rfl, R, (as ++ [p]).map V.ref, (at' : Int), .ref p, rfl, rfl, SqL.of d6.ll.at_, at_of rfl (by rw [List.getElem?_map, hpl]; rfl), ?_⟩
          refine ⟨.inl ⟨rfl, _, SqL.of hIp⟩, V.int (0 + ((i : Nat) : Int)), rfl, p, [], _, rfl, rfl, hIp, by decide, ?_⟩
          have d7 := d6.put (n := i) hH hpl
          rw [hgD] at d7
          have hset : (rows ++ [[]]).set at' ([] ++ [i]) = RSK.addAt rows at' i := by
            unfold RSK.addAt
            rw [if_pos he, he, List.set_append_right _ _ (Nat.le_refl _), Nat.sub_self]
            rfl
          rw [hset] at d7
          rw [e0]
          exact ⟨as ++ [p], _, _, _, _, rfl, d7, drn⟩
        · have he : at' ≠ rows.length := fun z => he (decide_eq_true (by rw [z]; rfl))
          have hlt : at' < rows.length := by rcases hat' with z | z <;> omega
          obtain ⟨b, hb, hIb⟩ := d4.ll.row hlt
          have hbl := hrow _ (List.mem_of_getElem? (row_getD hlt))
          refine ⟨.ref R, rfl, nv at', rfl, R, as.map V.ref, (at' : Int), .ref b, rfl, rfl, SqL.of d4.ll.at_, at_of rfl (by rw [List.getElem?_map, hb]; rfl), ?_⟩
          refine ⟨.inl ⟨rfl, _, SqL.of hIb⟩, V.int (0 + ((i : Nat) : Int)), rfl, b, _, _, rfl, rfl, hIb, by rw [nvs_len]; exact small1000 (by omega), ?_⟩
          have d7 := d4.put (n := i) hH hb
          have hset : rows.set at' (rows.getD at' [] ++ [i]) = RSK.addAt rows at' i := by
            unfold RSK.addAt
            rw [if_neg he]
          rw [hset] at d7
          have e3 : nvs (rows.getD at' []) ++ [V.int (0 + ((i : Nat) : Int))] = nvs (rows.getD at' [] ++ [i]) := by rw [e0]; unfold nvs; rw [List.map_append]; rfl
          rw [e3]
          exact ⟨as, _, _, _, _, rfl, d7, drn⟩
    · -- the end
      rintro σ H1 ⟨as, rows, y3, y4, y5, rfl, d, dr⟩
      have hrl : rows.length ≤ 1000 := by
        have h1 := RSK.sum_ge_len dr.2
        obtain ⟨p, t⟩ := dr.1
        rw [t.sum] at h1
        omega
      refine ⟨.ref R, rfl, R, rfl, ⟨_, SqL.of d.ll.at_⟩, ?_⟩
      refine lc_tuples (K := K) d.ll ?_ hrl fun D nD H2 ts s2 h2 eD => ?_
      · show 7 < 8; decide
      refine ⟨D, ts.map V.ref, rfl, SqL.of eD, fun p np => ?_⟩
      have s3 := same_new (o := .tup (ts.map V.ref)) np
      have s23 := s2.trans s3
      exact q _ p rows (d.hand.same s23) (d.fr.same s23) ⟨ts, upd_same, h2.mono fun c r _ z => s3 _ _ z⟩ dr

/-! ### _law_filled -/
def spFilled : Sp := fun vs H Q _ => ∃ (h L a : Addr) (shape : List Nat), vs = [.ref h, .ref a] ∧ HandAt H h L ∧ IL H a shape ∧ ¬ OfH h L a ∧ shape.length ≤ 60 ∧ shape.sum ≤ 60 ∧ (∀ k, shape.getD (k+1) 0 ≤ shape.getD k 0) ∧
  ∀ H' p rows, HandAt H' h L → Fr (OfH h L) H H' → TTb H' p rows → RSK.Fill shape shape.sum rows → Q (.ref p) H'
abbrev nFilled : List Str := ["_law_hand_here", "_law_shape", "_law_wide", "_law_rows", "_law_number", "_law_ends", "_law_k", "_law_row"]
theorem scFilled : FnScope nFilled ["_law_hand_here", "_law_shape"] (defScope sFilled) := ⟨rfl, rfl, rfl, by decide +kernel, rfl, by decide +kernel, by decide +kernel⟩
def fillOk (shape : List Nat) (rows : List (List Nat)) (k : Nat) : Bool := decide ((rows.getD k []).length < shape.getD k 0) && endsOk rows k
theorem ok_filled {f : Addr} {fd : FuncData} (F : Fun K "_law_filled" "_law_filled" sFilled f fd) (C : Cal P w K mg base 2 "_law_of" ["_law_hand_here", "_law_some"] spOf) (mr : mg "range" = none) (ms : mg "sum" = none) (me : mg "enumerate" = none) (mlen : mg "len" = none) (mt : mg "tuple" = none) :
    FnOk P w K mg base CX0 3 f fd ["_law_hand_here", "_law_shape"] spFilled := by
  refine F.ok scFilled (fun vs H Q E h => ?_) (fun cdv A outer s H vs Q E hr h => ?_)
  · obtain ⟨h, L, a, shape, rfl, _⟩ := h
    rfl
  · obtain ⟨hd, L, a, shape, rfl, hH, hS, hSO, hsl, hss, anti, q⟩ := h
    refine ⟨_, pss_cons (ps_setLc (i := 3) (own := [("_law_wide", 2)]) (g := gName 2) (tt := tYes) rfl scFilled.nd rfl rfl (sw_true rfl rfl rfl (by decide +kernel)) (pi_list (pv 1)) (blkOk_by (N := nFilled) (sc := defScope sFilled) (by decide +kernel))
          (fun _ _ _ _ _ => pg_name (i := 2) scFilled.nd rfl (Or.inl rfl)) (fun _ _ _ _ _ => pts_nil) (fun _ _ _ _ _ => pe_lst pa_nil))
      (pss_cons (ps_for PassesOwn.never rfl (pi_range1 (by rfl) mr (pa_cons (pe_callB (cr_sum rfl) (by rfl) ms (by decide +kernel) (pa_cons (pv 1) pa_nil)) pa_nil)) (pg_name (i := 4) scFilled.nd rfl (.inl rfl))
        (pss_cons (ps_set (i := 5) scFilled.nd rfl (.inl rfl) (pe_lst pa_nil))
        (pss_cons (ps_for PassesOwn.never rfl (pi_enum (by rfl) me (pa_cons (pv 1) pa_nil)) (pg_tup rfl (pgs_cons (pg_name (i := 6) scFilled.nd rfl (.inl rfl)) (pgs_cons (pg_name (i := 2) scFilled.nd rfl (.inl rfl)) pgs_nil)))
          (pss_one (ps_if (pw_and (pt_cmpR op_lt (pe_callB (call_lenK (K := K) rfl) (by rfl) mlen PySem.boot_len (pa_cons (pe_ix ix_list (pv 3) (pv 6) (fun _ _ => rfl)) pa_nil)) (pv 2) (nomark _))
              (pw_and1 (pw_or (pt_cmpR op_eq (pv 6) pe_int (nomark _)) (pw_or1 (pt_cmpR op_lt (pe_callB (call_lenK (K := K) rfl) (by rfl) mlen PySem.boot_len (pa_cons (pe_ix ix_list (pv 3) (pv 6) (fun _ _ => rfl)) pa_nil))
                (pe_callB (call_lenK (K := K) rfl) (by rfl) mlen PySem.boot_len (pa_cons (pe_ix ix_list (pv 3) (pe_op op_sub (pv 6) pe_int) (fun _ _ => rfl)) pa_nil)) (nomark _)))).pt)).pt
            (pss_one (ps_expr (pe_bm PySem.F.plainAttrs_list PySem.F.slot_list_append PySem.F.type_list_append mt_append (pv 5) (pa_cons (pv 6) pa_nil)))) pss_nil)))
        (pss_one (ps_expr (pe_bm PySem.F.plainAttrs_list PySem.F.slot_list_append PySem.F.type_list_append mt_append (pe_ix ix_list (pv 3) (pe_cal C hr (by rfl) (pa_cons (pv 0) (pa_cons (pv 5) pa_nil))) (fun _ _ => rfl)) (pa_cons (pv 4) pa_nil)))))))
      (pss_one (ps_ret (pe_callTy (call_tupK (K := K) rfl) (by rfl) mt (by decide +kernel) (pa_cons
        (pe_lc (own := [("_law_row", 7)]) (g := gName 7) (tt := tYes) rfl scFilled.nd (pi_list (pv 3)) (blkOk_by (N := nFilled) (sc := defScope sFilled) (by decide +kernel)) (fun _ _ _ _ _ => pg_name (i := 7) scFilled.nd rfl (Or.inl rfl)) (fun _ _ _ _ _ => pts_nil)
          (fun _ _ _ _ _ => pe_callTy (call_tupK (K := K) rfl) (by rfl) mt (by decide +kernel) (pa_cons (pv 7) pa_nil))) pa_nil))))), ?_⟩
    -- rows = [[] for wide in shape]
    refine ⟨.ref a, rfl, a, rfl, ⟨_, SqL.of hS⟩, fun R nR => ?_⟩
    refine lc_list (K := K) (a := a) (xs := nvs shape) (fun i H1 => ∃ as, Same H H1 ∧ LL H1 R as (List.replicate i []) ∧ ∀ c ∈ as, H c = none) ⟨[], same_new nR, ⟨upd_same, List.nodup_nil, by simp, At2.nil⟩, by simp⟩ (fun i H1 _ ⟨_, z, _⟩ => SqL.of (z _ _ hS)) ?_ ?_
    · rintro i v H1 hv ⟨as, s1, hL, hn⟩
      have hil := (List.getElem?_eq_some_iff.1 hv).1
      rw [nvs_len] at hil
      refine ⟨rfl, Nat.zero_le _, fun p np => ?_⟩
      have sp := same_new (o := .lst []) np
      have npR : p ≠ R := (ne_of_none hL.at_ np).symm
      have npa : p ∉ as := fun z => by
        obtain ⟨o, ho⟩ := hL.tracked (c := p) (.inr z)
        rw [np] at ho; cases ho
      have hl2 : as.length ≤ 1000 := by rw [hL.len, List.length_replicate]; omega
      refine ⟨as.map V.ref, sp _ _ hL.at_, by rw [List.length_map]; exact small1000 hl2, as ++ [p], same_upd (s1.trans sp) nR, ?_, fun c hc => ?_⟩
      · have h4 := (hL.same sp).addRow (p := p) (row := []) upd_same npa npR
        rw [List.map_append] at h4
        rw [List.replicate_succ']
        exact h4
      · rcases List.mem_append.1 hc with z | z
        · exact hn c z
        · rw [List.mem_singleton.1 z]; exact s1.free np
    rintro H1 ⟨as, s1, hL, hn⟩
    rw [nvs_len] at hL
    have hsum : (shape.map Int.ofNat).sum = (shape.sum : Int) := by
      clear hS hSO hsl hss anti q hL
      induction shape with
      | nil => rfl
      | cons x l ih => rw [List.map_cons, List.sum_cons, List.sum_cons, ih]; show (x : Int) + _ = _; omega
    -- for number in range(sum(shape))
    refine ⟨.ref a, rfl, a, shape.map Int.ofNat, rfl, by rw [← nvs_int]; exact SqL.of (s1 _ _ hS), ?_⟩
    rw [hsum]
    refine ⟨(shape.sum : Int), rfl, by omega, by omega, ?_⟩
    rw [Int.toNat_natCast]
    have newR : ∀ c, OfL R as c → H c = none := fun c hc => by
      rcases hc with z | z
      · rw [z]; exact nR
      · exact hn c z
    have d0 : DrawAt H H1 hd L R as (List.replicate shape.length []) := ⟨hH.same s1, (Fr.refl _ _).same s1, hL, newR⟩
    refine for_it walk_range (fun i σ H2 => ∃ (rows : List (List Nat)) (y2 y4 y5 y6 : Option V), σ = [some (.ref hd), some (.ref a), y2, some (.ref R), y4, y5, y6, none] ∧ DrawAt H H2 hd L R as rows ∧ RSK.Fill shape i rows)
      ⟨_, none, none, none, none, rfl, d0, RSK.fill_nil shape⟩ (fun _ _ _ _ _ => trivial) ?_ ?_
    · rintro i v σ H2 H2' hi ⟨rows, y2, y4, y5, y6, rfl, d, fl⟩ ⟨rfl, rfl⟩
      have e0 : (0 : Int) + ((i : Nat) : Int) = (i : Int) := Int.zero_add _
      have hlen := d.ll.len
      have hrs := fl.len
      have hS2 : IL H2' a shape := d.fr.keep _ _ hS hSO
      have hrow : ∀ r ∈ rows, r.length ≤ i := fun r hr => by
        have h1 := RSK.sum_ge_mem hr
        obtain ⟨p, t⟩ := fl.ex
        rw [t.sum] at h1
        exact h1
      -- ends = []
      refine ⟨Nat.zero_le _, fun E' nE => ?_⟩
      have sE := same_new (o := .lst []) nE
      have hEH : H E' = none := d.fr.free E' nE
      refine ⟨.ref a, rfl, a, nvs shape, rfl, SqL.of (sE _ _ hS2), ?_⟩
      refine for_it walk_enum (fun k σ H3 => ∃ (y2 y6 : Option V), σ = [some (.ref hd), some (.ref a), y2, some (.ref R), some (.int (0 + ((i : Nat) : Int))), some (.ref E'), y6, none] ∧ Same H2' H3 ∧ IL H3 E' ((List.range k).filter (fillOk shape rows)))
        ⟨_, _, rfl, sE, upd_same⟩ (fun k σ H3 _ ⟨_, _, _, z, _⟩ => SqL.of (z _ _ hS2)) ?_ ?_
      · rintro k v σ H3 H4 hk ⟨y2, y6, rfl, s3, eE⟩ ⟨T, u1, u2, rfl, nT, rfl, g1, g2⟩
        cases g1
        obtain ⟨wd, hwd, rfl⟩ := nvs_of g2
        rw [nvs_len] at hk
        have hkr : k < rows.length := by omega
        have hsk : shape.getD k 0 = wd := by rw [List.getD_eq_getElem?_getD, hwd]; rfl
        have sT := same_new (o := .tup [.int (k : Nat), nv wd]) nT
        have s4 := s3.trans sT
        have eE4 : IL (upd H3 T (.tup [.int (k : Nat), nv wd])) E' _ := sT _ _ eE
        have d4 := d.same s4
        have rf := range_filter (fillOk shape rows) k
        refine ⟨T, [.int (k : Nat), nv wd], rfl, SqT.of upd_same, rfl, .int (k : Nat), [nv wd], rfl, nv wd, [], rfl, rfl, ?_⟩
        generalize upd H3 T (.tup [.int (k : Nat), nv wd]) = H5 at *
        have good : fillOk shape rows k = true → ∃ (y2 y6 : Option V), [some (V.ref hd), some (.ref a), some (nv wd), some (.ref R), some (.int (0 + ((i : Nat) : Int))), some (.ref E'), some (V.int (k : Nat)), none] = [some (.ref hd), some (.ref a), y2, some (.ref R), some (.int (0 + ((i : Nat) : Int))), some (.ref E'), y6, none] ∧
            Same H2' (upd H5 E' (.lst (nvs ((List.range k).filter (fillOk shape rows)) ++ [V.int (k : Nat)]))) ∧ IL (upd H5 E' (.lst (nvs ((List.range k).filter (fillOk shape rows)) ++ [V.int (k : Nat)]))) E' ((List.range (k+1)).filter (fillOk shape rows)) := by
          intro he
          refine ⟨_, _, rfl, same_upd s4 nE, ?_⟩
          show upd _ E' _ E' = _
          rw [upd_same, rf, he, if_pos rfl]
          unfold nvs
          rw [List.map_append]
          rfl
        have bad : fillOk shape rows k = false → ∃ (y2 y6 : Option V), [some (V.ref hd), some (.ref a), some (nv wd), some (.ref R), some (.int (0 + ((i : Nat) : Int))), some (.ref E'), some (V.int (k : Nat)), none] = [some (.ref hd), some (.ref a), y2, some (.ref R), some (.int (0 + ((i : Nat) : Int))), some (.ref E'), y6, none] ∧
            Same H2' H5 ∧ IL H5 E' ((List.range (k+1)).filter (fillOk shape rows)) := by
          intro he
          refine ⟨_, _, rfl, s4, ?_⟩
          rw [rf, he, if_neg (by decide), List.append_nil]
          exact eE4
        have hel : (nvs ((List.range k).filter (fillOk shape rows))).length < sizeLine := by
          rw [nvs_len]
          refine small1000 (Nat.le_trans (List.length_filter_le _ _) ?_)
          rw [List.length_range]; omega
        obtain ⟨c1, hc1, hI1⟩ := d4.ll.row hkr
        refine ⟨.ref R, rfl, .int (k : Nat), rfl, R, as.map V.ref, (k : Int), .ref c1, rfl, rfl, SqL.of d4.ll.at_, at_of rfl (by rw [List.getElem?_map, hc1]; rfl), c1, _, rfl, .inl (SqL.of hI1), nv wd, rfl, _, (wd : Int), rfl, rfl, _, rfl, ?_⟩
        rw [nvs_len]
        refine ite2 (fun hlt => ?_) (fun hlt => ?_)
        · have hlt : (rows.getD k []).length < shape.getD k 0 := by
            have := of_decide_eq_true hlt
            omega
          refine ⟨.int (k : Nat), rfl, rfl, _, rfl, ?_⟩
          refine ite2 (fun h0 => ?_) (fun h0 => ?_)
          · have h0 : k = 0 := by have := V.int.inj (of_decide_eq_true h0); omega
            refine iteT ⟨.ref E', rfl, .inl ⟨rfl, _, SqL.of eE4⟩, .int (k : Nat), rfl, E', _, _, rfl, rfl, eE4, hel, ?_⟩
            exact good (by unfold fillOk endsOk; rw [decide_eq_true hlt, decide_eq_true h0]; rfl)
          · have h0 : k ≠ 0 := fun z => h0 (decide_eq_true (by rw [z]; rfl))
            obtain ⟨c2, hc2, hI2⟩ := d4.ll.row (k := k - 1) (by omega)
            refine ⟨.ref R, rfl, .int (k : Nat), rfl, R, as.map V.ref, (k : Int), .ref c1, rfl, rfl, SqL.of d4.ll.at_, at_of rfl (by rw [List.getElem?_map, hc1]; rfl), c1, _, rfl, .inl (SqL.of hI1), ?_⟩
            refine ⟨.ref R, rfl, .int (k : Nat), rfl, (k : Int), 1, rfl, rfl, R, as.map V.ref, _, .ref c2, rfl, rfl, SqL.of d4.ll.at_, at_of (j := k - 1) (by omega) (by rw [List.getElem?_map, hc2]; rfl), c2, _, rfl, .inl (SqL.of hI2), ?_⟩
            rw [nvs_len, nvs_len]
            refine ⟨_, _, rfl, rfl, _, rfl, ?_⟩
            refine ite2 (fun hlt2 => ?_) (fun hlt2 => ?_)
            · have hlt2 : (rows.getD k []).length < (rows.getD (k - 1) []).length := by
                have := of_decide_eq_true hlt2
                omega
              refine ⟨.ref E', rfl, .inl ⟨rfl, _, SqL.of eE4⟩, .int (k : Nat), rfl, E', _, _, rfl, rfl, eE4, hel, ?_⟩
              exact good (by unfold fillOk endsOk; rw [decide_eq_true hlt, decide_eq_true hlt2, Bool.or_true]; rfl)
            · have hlt2 : ¬ (rows.getD k []).length < (rows.getD (k - 1) []).length := fun z => hlt2 (decide_eq_true (by omega))
              exact bad (by unfold fillOk endsOk; rw [decide_eq_false hlt2, decide_eq_false h0, Bool.or_false, Bool.and_false])
        · have hlt : ¬ (rows.getD k []).length < shape.getD k 0 := fun z => hlt (decide_eq_true (by omega))
          refine iteF ?_
          exact bad (by unfold fillOk; rw [decide_eq_false hlt, Bool.false_and])
      · rintro σ H3 ⟨y2, y6, rfl, s3, eE⟩
        rw [nvs_len] at eE
        have d3 := d.same s3
        have hEO : ¬ OfH hd L E' := hH.apart hEH
        have hfl : ((List.range shape.length).filter (fillOk shape rows)).length ≤ 60 := Nat.le_trans (List.length_filter_le _ _) (by rw [List.length_range]; omega)
        have hne : (List.range shape.length).filter (fillOk shape rows) ≠ [] := by
          obtain ⟨b, b1, b2, b3⟩ := fl.more hi anti
          intro z
          have hm : b ∈ (List.range shape.length).filter (fillOk shape rows) := by
            refine List.mem_filter.2 ⟨List.mem_range.2 (by omega), ?_⟩
            unfold fillOk endsOk
            simp only [Bool.and_eq_true, Bool.or_eq_true, decide_eq_true_eq]
            exact ⟨b2, b3⟩
          rw [z] at hm
          cases hm
        refine ⟨.ref R, rfl, .ref hd, rfl, .ref E', rfl, hd, L, E', _, rfl, d3.hand, eE, hEO, hne, by omega, fun H4 at' hat hH4 fr4 => ?_⟩
        obtain ⟨z1, z2⟩ := List.mem_filter.1 hat
        have hlt : at' < rows.length := by have := List.mem_range.1 z1; omega
        unfold fillOk endsOk at z2
        simp only [Bool.and_eq_true, Bool.or_eq_true, decide_eq_true_eq] at z2
        have hO : ∀ c, OfL R as c → ¬ OfH hd L c := fun c hc => hH.apart (d.new c hc)
        have d4 : DrawAt H H4 hd L R as rows := ⟨hH4, d3.fr.trans fr4, d3.ll.fr fr4 (hO R (.inl rfl)) fun c hc => hO c (.inr hc), d.new⟩
        obtain ⟨b, hb, hIb⟩ := d4.ll.row hlt
        have hbl := hrow _ (List.mem_of_getElem? (row_getD hlt))
        refine ⟨R, as.map V.ref, (at' : Int), .ref b, rfl, rfl, SqL.of d4.ll.at_, at_of rfl (by rw [List.getElem?_map, hb]; rfl), ?_⟩
        refine ⟨.inl ⟨rfl, _, SqL.of hIb⟩, V.int (0 + ((i : Nat) : Int)), rfl, b, _, _, rfl, rfl, hIb, by rw [nvs_len]; exact small1000 (by omega), ?_⟩
        have d7 := d4.put (n := i) hH hb
        have e3 : nvs (rows.getD at' []) ++ [V.int (0 + ((i : Nat) : Int))] = nvs (rows.getD at' [] ++ [i]) := by rw [e0]; unfold nvs; rw [List.map_append]; rfl
        rw [e3]
        exact ⟨_, _, _, _, _, rfl, d7, fl.add hlt z2.1 z2.2⟩
    · rintro σ H2 ⟨rows, y2, y4, y5, y6, rfl, d, fl⟩
      have hrl : rows.length ≤ 1000 := by rw [fl.len]; omega
      refine ⟨.ref R, rfl, R, rfl, ⟨_, SqL.of d.ll.at_⟩, ?_⟩
      refine lc_tuples (K := K) d.ll ?_ hrl fun D nD H3 ts s3 h3 eD => ?_
      · show 7 < 8; decide
      refine ⟨D, ts.map V.ref, rfl, SqL.of eD, fun p np => ?_⟩
      have s4 := same_new (o := .tup (ts.map V.ref)) np
      have s34 := s3.trans s4
      exact q _ p rows (d.hand.same s34) (d.fr.same s34) ⟨ts, upd_same, h3.mono fun c r _ z => s4 _ _ z⟩ fl
end
end K61

/-! law. -/
namespace K61
open PySem PySem.Spec PyProof.Rows L2

theorem undo_at {ns : List Nat} (h : RSK.Ord ns.length ns) : ∀ {j : Nat}, j ≤ ns.length → ∀ (i v : Nat), i < j → ns[i]? = some v → (undo ns j)[v]? = some i
  | 0, _, i, v, hi, _ => by omega
  | j+1, hj, i, v, hi, hv => by
    have hvb := h.2 v (List.mem_of_getElem? hv)
    show ((undo ns j).set (ns.getD j 0) j)[v]? = some i
    obtain ⟨u, hu⟩ : ∃ u, ns[j]? = some u := ⟨_, List.getElem?_eq_getElem (by omega)⟩
    have hg : ns.getD j 0 = u := by rw [List.getD_eq_getElem?_getD, hu]; rfl
    rw [hg]
    by_cases e : i = j
    · subst e
      rw [hv] at hu
      cases hu
      exact List.getElem?_set_self (by rw [undo_len]; exact hvb)
    · have hne : u ≠ v := fun z => e (RSK.nd_index h.1 hv (z ▸ hu))
      rw [List.getElem?_set_ne hne]
      exact undo_at h (by omega) i v (by omega) hv
theorem dp_pair {K : PySem.W.Frag} {H : Hp} {p p1 p2 : Addr} {A B : List (List Nat)} (h : H p = some (.tup [.ref p1, .ref p2])) (h1 : TTb H p1 A) (h2 : TTb H p2 B) : Dp K H (.ref p) (.tuple [dTT A, dTT B]) :=
  .tup (SqT.of h) (.cons (dp_TT h1) (.cons (dp_TT h2) .nil))
theorem fit_pair (A B : List (List Nat)) : Fit 3 (.tuple [dTT A, dTT B]) := Fit.tuple fun d hd => by
  rcases List.mem_cons.1 hd with z | z
  · rw [z]; exact fit_TT A
  · rw [List.mem_singleton.1 z]; exact fit_TT B
theorem eqd_pair {H : Hp} {a b a1 a2 b1 b2 : Addr} (h1 : H a = some (.tup [.ref a1, .ref a2])) (h2 : H b = some (.tup [.ref b1, .ref b2])) (g1 : Eqd 2 H (.ref a1) (.ref b1)) (g2 : Eqd 2 H (.ref a2) (.ref b2)) : Eqd 3 H (.ref a) (.ref b) := by
  refine ⟨a, b, _, _, rfl, rfl, h1, h2, ⟨rfl, fun i x y hx hy => ?_⟩, by show 2 ≤ 1000; decide⟩
  match i, hx, hy with
  | 0, hx, hy => cases hx; cases hy; exact g1
  | 1, hx, hy => cases hx; cases hy; exact g2
  | i+2, hx, _ => simp at hx

section
variable {P : Program} {w : World} {K : PySem.W.Frag} {mg : Str → Option Value} {base : Heap}
def spLaw (K : PySem.W.Frag) : Sp := fun vs H Q _ => ∃ (a : Addr) (ns : List Int), vs = [.ref a] ∧ SqL K H a (ns.map V.int) ∧ ns.length ≤ 63 ∧ ∀ H', Q (.bl true) H'
abbrev nLaw : List Str := ["_law_script", "_law_hand_here", "_law_turn", "_law_order_here", "_law_one", "_law_other", "_law_first", "_law_second", "_law_heard", "_law_row"]
theorem scLaw : FnScope nLaw ["_law_script"] (defScope sLaw) := ⟨rfl, rfl, rfl, by decide +kernel, rfl, by decide +kernel, by decide +kernel⟩
theorem ok_law {f : Addr} {fd : FuncData} (F : Fun K "law" "law" sLaw f fd) (CH : Cal P w K mg base 1 "_law_hand" ["_law_script"] (spHand K)) (CS : Cal P w K mg base 2 "_law_size" ["_law_hand_here", "_law_most"] spSize) (CO : Cal P w K mg base 3 "_law_order" ["_law_hand_here", "_law_many"] spOrder)
    (CT : Cal P w K mg base 2 "tables" ["order"] spTables) (CX : Cal P w K mg base 2 "order_of_tables" ["one", "other"] spOot) (C1 : Cal P w K mg base 2 "_law_same" ["_law_found", "_law_due"] (spSame 2)) (C3 : Cal P w K mg base 4 "_law_same" ["_law_found", "_law_due"] (spSame 4))
    (CU : Cal P w K mg base 1 "undone" ["order"] spUndone) (CM : Cal P w K mg base 1 "mirrored" ["order"] spMirr) (CV : Cal P w K mg base 1 "_law_over" ["_law_grid"] spOver) (CD : Cal P w K mg base 3 "_law_drawn_table" ["_law_hand_here", "_law_many"] spDrawn)
    (CF : Cal P w K mg base 3 "_law_filled" ["_law_hand_here", "_law_shape"] spFilled) (CI : Cal P w K mg base 3 "is_order" ["thing"] (spIsOrder K)) (mr : mg "range" = none) (mlen : mg "len" = none) (ms : mg "sum" = none) : FnOk P w K mg base CX0 5 f fd ["_law_script"] (spLaw K) := by
  refine F.ok scLaw (fun vs H Q E h => ?_) (fun cdv A outer s H vs Q E hr h => ?_)
  · obtain ⟨a, ns, rfl, _⟩ := h
    rfl
  · obtain ⟨a, ns, rfl, hS, hl, q⟩ := h
    have hu := hr.units
    have hr1 : Room 1 _ := hr.mono (by decide)
    have hr2 : Room 2 _ := hr.mono (by decide)
    have hr3 : Room 3 _ := hr.mono (by decide)
    refine ⟨_, pss_cons (ps_set (i := 1) scLaw.nd rfl (.inl rfl) (pe_cal CH hr1 (by rfl) (pa_cons (pv 0) pa_nil)))
      (pss_cons (ps_for PassesOwn.never rfl (pi_range1 (by rfl) mr (pa_cons pe_int pa_nil)) (pg_name (i := 2) scLaw.nd rfl (.inl rfl))
        (pss_cons (ps_set (i := 3) scLaw.nd rfl (.inl rfl) (pe_cal CO hr3 (by rfl) (pa_cons (pv 1) (pa_cons (pe_cal CS hr2 (by rfl) (pa_cons (pv 1) (pa_cons pe_int pa_nil))) pa_nil))))
        (pss_cons (ps_asg (pe_cal CT hr2 (by rfl) (pa_cons (pv 3) pa_nil)) (pg_tup (n := 2) rfl (pgs_cons (pg_name (i := 4) scLaw.nd rfl (.inl rfl)) (pgs_cons (pg_name (i := 5) scLaw.nd rfl (.inl rfl)) pgs_nil))))
        (pss_cons (ps_if (pw_or (pt_not (pt_val (pe_cal C1 hr2 (by rfl) (pa_cons (pe_cal CX hr2 (by rfl) (pa_cons (pv 4) (pa_cons (pv 5) pa_nil))) (pa_cons (pv 3) pa_nil)))))
            (pw_or1 (pt_cmpR (op_neDK (K := K) rfl hu) (pe_cal CT hr2 (by rfl) (pa_cons (pe_cal CU hr1 (by rfl) (pa_cons (pv 3) pa_nil)) pa_nil)) (pe_tup (pa_cons (pv 5) (pa_cons (pv 4) pa_nil))) (nomark _)))).pt (pss_one (ps_ret pe_bl)) pss_nil)
        (pss_cons (ps_if (pw_or (pt_cmpR (op_neDK (K := K) rfl hu) (pe_cal CX hr2 (by rfl) (pa_cons (pv 5) (pa_cons (pv 4) pa_nil))) (pe_cal CU hr1 (by rfl) (pa_cons (pv 3) pa_nil)) (nomark _))
            (pw_or1 (pt_cmpR (op_neDK (K := K) rfl hu) (pe_ix ix_tup (pe_cal CT hr2 (by rfl) (pa_cons (pe_cal CM hr1 (by rfl) (pa_cons (pv 3) pa_nil)) pa_nil)) pe_int (fun _ _ => rfl)) (pe_cal CV hr1 (by rfl) (pa_cons (pv 4) pa_nil)) (nomark _)))).pt (pss_one (ps_ret pe_bl)) pss_nil)
        (pss_cons (ps_set (i := 6) scLaw.nd rfl (.inl rfl) (pe_cal CD hr3 (by rfl) (pa_cons (pv 1) (pa_cons (pe_cal CS hr2 (by rfl) (pa_cons (pv 1) (pa_cons pe_int pa_nil))) pa_nil))))
        (pss_cons (ps_set (i := 7) scLaw.nd rfl (.inl rfl) (pe_cal CF hr3 (by rfl) (pa_cons (pv 1) (pa_cons
            (pe_lc (own := [("_law_row", 9)]) (g := gName 9) (tt := tYes) rfl scLaw.nd (pi_tup (pv 6)) (blkOk_by (N := nLaw) (sc := defScope sLaw) (by decide +kernel)) (fun _ _ _ _ _ => pg_name (i := 9) scLaw.nd rfl (Or.inl rfl)) (fun _ _ _ _ _ => pts_nil)
              (fun _ _ _ _ _ => pe_callB (call_lenK (K := K) rfl) (by rfl) mlen PySem.boot_len (pa_cons (pv 9) pa_nil))) pa_nil))))
        (pss_cons (ps_set (i := 8) scLaw.nd rfl (.inl rfl) (pe_cal CX hr2 (by rfl) (pa_cons (pv 6) (pa_cons (pv 7) pa_nil))))
        (pss_cons (ps_if (pw_or (pt_cmpR op_notBl (pe_cal CI hr3 (by rfl) (pa_cons (pv 8) pa_nil)) pe_bl (nomark _))
            (pw_or1 (pt_cmpR op_ne (pe_callB (call_lenK (K := K) rfl) (by rfl) mlen PySem.boot_len (pa_cons (pv 8) pa_nil)) (pe_callB (cr_sum rfl) (by rfl) ms (by decide +kernel) (pa_cons
              (pe_lc (own := [("_law_row", 9)]) (g := gName 9) (tt := tYes) rfl scLaw.nd (pi_tup (pv 6)) (blkOk_by (N := nLaw) (sc := defScope sLaw) (by decide +kernel)) (fun _ _ _ _ _ => pg_name (i := 9) scLaw.nd rfl (Or.inl rfl)) (fun _ _ _ _ _ => pts_nil)
                (fun _ _ _ _ _ => pe_callB (call_lenK (K := K) rfl) (by rfl) mlen PySem.boot_len (pa_cons (pv 9) pa_nil))) pa_nil)) (nomark _)))).pt (pss_one (ps_ret pe_bl)) pss_nil)
        (pss_one (ps_if (pw_or (pt_not (pt_val (pe_cal C3 hr (by rfl) (pa_cons (pe_cal CT hr2 (by rfl) (pa_cons (pv 8) pa_nil)) (pa_cons (pe_tup (pa_cons (pv 6) (pa_cons (pv 7) pa_nil))) pa_nil)))))
            (pw_or1 (pt_cmpR (op_neDK (K := K) rfl hu) (pe_cal CX hr2 (by rfl) (pa_cons (pv 6) (pa_cons (pv 7) pa_nil))) (pv 8) (nomark _)))).pt (pss_one (ps_ret pe_bl)) pss_nil)))))))))))
      (pss_one (ps_ret (pe_cmpR (op_eqD hu) (pe_cal CX hr2 (by rfl) (pa_cons (pe_tup pa_nil) (pa_cons (pe_tup pa_nil) pa_nil))) (pe_tup pa_nil) (nomark _))))), ?_⟩
    have shT : ∀ ns, SeqAt.shaped (dT ns) = true := fun ns => (fit_T ns).shaped (by decide)
    have shTT : ∀ rows, SeqAt.shaped (dTT rows) = true := fun rows => (fit_TT rows).shaped (by decide)
    have shP : ∀ A B, SeqAt.shaped (.tuple [dTT A, dTT B]) = true := fun A B => (fit_pair A B).shaped (by decide)
    -- hand
    refine ⟨.ref a, rfl, a, ns, rfl, hS, hl, fun H1 hd L s1 hH1 nh nL => ?_⟩
    refine ⟨3, rfl, by decide, by decide, ?_⟩
    refine for_it walk_range (fun i σ H2 => ∃ (y2 y3 y4 y5 y6 y7 y8 : Option V), σ = [some (.ref a), some (.ref hd), y2, y3, y4, y5, y6, y7, y8, none] ∧ HandAt H2 hd L) ⟨none, none, none, none, none, none, none, rfl, hH1⟩ (fun _ _ _ _ _ => trivial) ?_ ?_
    · rintro i v σ H2 H2' hi ⟨y2, y3, y4, y5, y6, y7, y8, rfl, hH2⟩ ⟨rfl, rfl⟩
      clear hH1 s1
      -- order
      refine ⟨.ref hd, rfl, .ref hd, rfl, hd, L, rfl, hH2, fun H3 m hm hH3 fr3 => ?_⟩
      refine ⟨hd, L, m, rfl, hH3, hm, fun H4 po σo hH4 fr4 hIT ho hol => ?_⟩
      clear hH2 hH3 fr3 fr4
      obtain ⟨b1, b2, b3, b4, b5⟩ := RSK.tables_bounds ho hol
      -- one, other = tables(order)
      refine ⟨.ref po, rfl, po, σo, rfl, hIT, by omega, fun H5 p p1 p2 s5 hp hT1 hT2 => ?_⟩
      refine ⟨p, [.ref p1, .ref p2], rfl, SqT.of hp, rfl, .ref p1, [.ref p2], rfl, .ref p2, [], rfl, rfl, ?_⟩
      have hIT5 := hIT.same s5
      have hH5 := hH4.same s5
      clear hIT hH4 s5 hp
      obtain ⟨o1, o2⟩ := RSK.oot_tables ho
      rw [hol] at o1 o2
      -- the order undone and mirrored, in plain
      have hol2 : RSK.Ord σo.length σo := by rw [hol]; exact ho
      obtain ⟨u1, u2, u3, u4, u5⟩ := RSK.undone_facts (τ := undo σo σo.length) ho hol (by rw [undo_len]; exact hol) (fun i v hv => undo_at hol2 (Nat.le_refl _) i v (List.getElem?_eq_some_iff.1 hv).1 hv)
      have um := RSK.tables_mirrored ho
      have hrev := RSK.ord_rev ho
      obtain ⟨c1, c2, c3, c4, c5⟩ := RSK.tables_bounds hrev (by rw [List.length_reverse]; exact hol)
      generalize hP1 : (RSK.tables σo).1 = P1 at *
      generalize hP2 : (RSK.tables σo).2 = P2 at *
      have hul : (undo σo σo.length).length = m := by rw [undo_len]; exact hol
      -- if not same(order_of_tables(one, other), order) ..
      refine ⟨.ref p1, rfl, .ref p2, rfl, p1, p2, P1, P2, rfl, hT1, hT2, by rw [b5]; exact o2, by omega, by omega, fun r hr => by have := b3 r hr; omega, by omega, fun H6 r s6 hr6 => ?_⟩
      rw [b5, o1] at hr6
      refine ⟨.ref po, rfl, .ref r, .ref po, rfl, eqd_IT hr6 (hIT5.same s6) (by omega), fun H7 s7 => ?_⟩
      have s57 := s6.trans s7
      refine ⟨true, rfl, iteF ?_⟩
      -- .. or tables(undone(order)) != (other, one)
      refine ⟨.ref po, rfl, po, σo, rfl, hIT5.same s57, by rw [hol]; exact fun n hn => ho.2 n hn, by omega, fun H8 t s8 ht8 => ?_⟩
      refine ⟨t, undo σo σo.length, rfl, ht8, by omega, fun H9 z z1 z2 s9 hz hz1 hz2 => ?_⟩
      rw [u2] at hz1 hz2
      have s59 := s57.trans (s8.trans s9)
      refine ⟨.ref p2, rfl, .ref p1, rfl, by show 2 ≤ sizeLine; decide, fun e ne => ?_⟩
      have se := same_new (o := .tup [.ref p2, .ref p1]) ne
      refine ⟨.tuple [dTT P2, dTT P1], .tuple [dTT P2, dTT P1], dp_pair (se _ _ hz) (hz1.same se) (hz2.same se), dp_pair upd_same (hT2.same (s59.trans se)) (hT1.same (s59.trans se)), shP _ _, shP _ _, ?_⟩
      rw [(fit_pair P2 P1).refl]
      have s5e := s59.trans se
      generalize upd H9 e (.tup [.ref p2, .ref p1]) = H10 at *
      refine ⟨false, rfl, iteF ?_⟩
      clear hz hz1 hz2 s9 s8 ht8 s7 s6 hr6 ne se s59 s57
      -- if order_of_tables(other, one) != undone(order) ..
      refine ⟨.ref p2, rfl, .ref p1, rfl, p2, p1, P2, P1, rfl, hT2.same s5e, hT1.same s5e, by rw [u3]; exact u5, by omega, by omega, fun r hr => by have := b4 r hr; omega, by omega, fun H11 r s11 hr11 => ?_⟩
      rw [u3, u4] at hr11
      refine ⟨.ref po, rfl, po, σo, rfl, hIT5.same (s5e.trans s11), by rw [hol]; exact fun n hn => ho.2 n hn, by omega, fun H12 t s12 ht12 => ?_⟩
      refine ⟨dT (undo σo σo.length), dT (undo σo σo.length), dp_T (hr11.same s12), dp_T ht12, shT _, shT _, ?_⟩
      rw [(fit_T (undo σo σo.length)).refl]
      refine ⟨false, rfl, iteF ?_⟩
      have s512 := s5e.trans (s11.trans s12)
      -- .. or tables(mirrored(order))[0] != over(one)
      refine ⟨.ref po, rfl, po, σo, rfl, hIT5.same s512, fun H13 v s13 hv13 => ?_⟩
      refine ⟨v, σo.reverse, rfl, hv13, by rw [List.length_reverse]; omega, fun H14 z z1 z2 s14 hz hz1 hz2 => ?_⟩
      rw [um] at hz1
      refine ⟨z, [.ref z1, .ref z2], 0, .ref z1, rfl, rfl, SqT.of hz, rfl, ?_⟩
      have s514 := s512.trans (s13.trans s14)
      refine ⟨.ref p1, rfl, p1, P1, rfl, hT1.same s514, by omega, fun r hr => by have := b3 r hr; omega, fun H15 g s15 hg => ?_⟩
      refine ⟨dTT (RSK.over P1), dTT (RSK.over P1), dp_TT (hz1.same s15), dp_TT hg, shTT _, shTT _, ?_⟩
      rw [(fit_TT (RSK.over P1)).refl]
      refine ⟨false, rfl, iteF ?_⟩
      have hH15 := hH5.same (s514.trans s15)
      clear hg hz hz1 hz2 hv13 ht12 hr11 hT1 hT2 hIT5 hH5 s514 s512 s5e s15 s14 s13 s12 s11
      -- first, second
      refine ⟨.ref hd, rfl, .ref hd, rfl, hd, L, rfl, hH15, fun H16 n hn hH16 _ => ?_⟩
      refine ⟨hd, L, n, rfl, hH16, hn, fun H17 pf F1 hH17 _ hF1 dr => ?_⟩
      have drl := RSK.sum_ge_len dr.2
      have hsum : (F1.map List.length).sum = n := by obtain ⟨⟨pp, tt⟩, _⟩ := dr; exact tt.sum
      have hrl : ∀ r ∈ F1, r.length ≤ n := fun r hr => by have := RSK.sum_ge_mem hr; omega
      rw [hsum] at drl
      refine ⟨.ref hd, rfl, .ref pf, rfl, pf, rfl, ⟨_, SqT.of hF1.choose_spec.1⟩, ?_⟩
      refine lc_lens (K := K) hF1 ?_ (by omega) fun D nD H18 s18 hD => ?_
      · show 9 < 10; decide
      have hH18 := hH17.same s18
      refine ⟨hd, L, D, F1.map List.length, rfl, hH18, hD, hH17.apart nD, by rw [List.length_map]; omega, by omega, fun k => dr.anti k, fun H19 pg F2 hH19 fr19 hF2 fl => ?_⟩
      rw [hsum] at fl
      -- the first table stands still
      have keepF : ∀ {Ha Hb : Hp} {x : Addr} {rows : List (List Nat)}, HandAt Ha hd L → Fr (OfH hd L) Ha Hb → TTb Ha x rows → TTb Hb x rows := by
        intro Ha Hb x rows hh fr ht
        obtain ⟨as, g1, g2⟩ := ht
        have nO : ∀ {c : Addr} {xs : List V}, Ha c = some (.tup xs) → ¬ OfH hd L c := by
          intro c xs hc z
          obtain ⟨⟨cells, seed, k1, k2⟩, _⟩ := hh
          rcases z with z | z
          · rw [z, k1] at hc; cases hc
          · rw [z, k2] at hc; cases hc
        exact ⟨as, fr.keep _ _ g1 (nO g1), g2.mono fun c r _ z => fr.keep _ _ z (nO z)⟩
      have hF1' : TTb H19 pf F1 := keepF hH18 fr19 (hF1.same s18)
      obtain ⟨τ, t1, t2, t3, t4, t5⟩ := RSK.drawn_filled dr fl
      have hsum2 : (F2.map List.length).sum = n := by obtain ⟨qq, tt⟩ := fl.ex; exact tt.sum
      have hF2l : F2.length ≤ n := by have := fl.len; rw [List.length_map] at this; omega
      have hF2r : ∀ r ∈ F2, r.length ≤ n := fun r hr => by have := RSK.sum_ge_mem hr; omega
      -- heard
      refine ⟨.ref pf, rfl, .ref pg, rfl, pf, pg, F1, F2, rfl, hF1', hF2, by rw [hsum2]; exact t4, by omega, by omega, fun r hr => by have := hrl r hr; omega, by omega, fun H20 ph s20 hh20 => ?_⟩
      rw [hsum2, t3] at hh20
      clear keepF
      -- is_order(heard) is not True or len(heard) != sum(..)
      refine ⟨.ref ph, rfl, ph, τ, rfl, hh20, by rw [t1]; exact fun n hn => t2.2 n hn, fun ms k1 k2 => RSK.sort_order (by rw [t1]; exact t2) k1 k2, by omega, fun H21 s21 => ?_⟩
      refine ⟨true, true, rfl, rfl, false, rfl, iteF ?_⟩
      have s1921 := s20.trans s21
      refine ⟨.ref ph, rfl, ph, nvs τ, rfl, .inr (SqT.of (s21 _ _ hh20)), .ref pf, rfl, pf, rfl, ⟨_, SqT.of (hF1'.same s1921).choose_spec.1⟩, ?_⟩
      refine lc_lens (K := K) (hF1'.same s1921) ?_ (by omega) fun D2 nD2 H22 s22 hD2 => ?_
      · show 9 < 10; decide
      refine ⟨D2, (F1.map List.length).map Int.ofNat, rfl, by rw [← nvs_int]; exact SqL.of hD2, rfl, _, rfl, ?_⟩
      have hsumI : ((F1.map List.length).map Int.ofNat).sum = (n : Int) := by
        have gen : ∀ l : List Nat, (l.map Int.ofNat).sum = (l.sum : Int) := by
          intro l
          induction l with
          | nil => rfl
          | cons x l ih => rw [List.map_cons, List.sum_cons, List.sum_cons, ih]; show (x : Int) + _ = _; omega
        rw [gen, hsum]
      refine iteNS (show V.int ((nvs τ).length : Int) = V.int ((F1.map List.length).map Int.ofNat).sum by rw [hsumI, nvs_len, t1]) ?_
      have s1922 := s1921.trans s22
      have hh22 : IT H22 ph τ := hh20.same (s21.trans s22)
      have hG1 := hF1'.same s1922
      have hG2 := hF2.same s1922
      have hH22 := hH19.same s1922
      clear hD2 hh20 hF1' hF2 s1921 s22 s21 s20 hH19 hH18 hH17 hH16 hH15 hF1 fr19 hD s18
      -- not same(tables(heard), (first, second)) ..
      refine ⟨.ref ph, rfl, ph, τ, rfl, hh22, by omega, fun H23 z z1 z2 s23 hz hz1 hz2 => ?_⟩
      rw [t5] at hz1 hz2
      have hz1 : TTb H23 z1 F1 := hz1
      have hz2 : TTb H23 z2 F2 := hz2
      refine ⟨.ref pf, rfl, .ref pg, rfl, by show 2 ≤ sizeLine; decide, fun e ne => ?_⟩
      have se := same_new (o := .tup [.ref pf, .ref pg]) ne
      have s2e := s23.trans se
      refine ⟨.ref z, .ref e, rfl, eqd_pair (se _ _ hz) upd_same (eqd_TT (hz1.same se) (hG1.same s2e) (by omega) (fun r hr => by have := hrl r hr; omega)) (eqd_TT (hz2.same se) (hG2.same s2e) (by omega) (fun r hr => by have := hF2r r hr; omega)), fun H24 s24 => ?_⟩
      refine ⟨true, rfl, iteF ?_⟩
      have s2224 := s2e.trans s24
      -- .. or order_of_tables(first, second) != heard
      refine ⟨.ref pf, rfl, .ref pg, rfl, pf, pg, F1, F2, rfl, hG1.same s2224, hG2.same s2224, by rw [hsum2]; exact t4, by omega, by omega, fun r hr => by have := hrl r hr; omega, by omega, fun H25 r s25 hr25 => ?_⟩
      rw [hsum2, t3] at hr25
      refine ⟨.ref ph, rfl, dT τ, dT τ, dp_T hr25, dp_T (hh22.same (s2224.trans s25)), shT _, shT _, ?_⟩
      rw [(fit_T τ).refl]
      refine ⟨false, rfl, iteF ?_⟩
      exact ⟨_, _, _, _, _, _, _, rfl, hH22.same (s2224.trans s25)⟩
    · -- return order_of_tables((), ()) == ()
      rintro σ H2 ⟨y2, y3, y4, y5, y6, y7, y8, rfl, hH2⟩
      refine ⟨Nat.zero_le _, fun e1 n1 => ?_⟩
      have s1' := same_new (o := .tup []) n1
      refine ⟨Nat.zero_le _, fun e2 n2 => ?_⟩
      have s2 := same_new (o := .tup []) n2
      refine ⟨e1, e2, [], [], rfl, ⟨[], s2 _ _ upd_same, At2.nil⟩, ⟨[], upd_same, At2.nil⟩, trivial, by decide, by decide, by simp, by decide, fun H3 p s3 hp => ?_⟩
      refine ⟨Nat.zero_le _, fun e3 n3 => ?_⟩
      have s4 := same_new (o := .tup []) n3
      refine ⟨dT [], .tuple [], dp_T (hp.same s4), .tup (SqT.of upd_same) .nil, shT _, (Fit.tuple (k := 0) (ds := []) (by simp)).shaped (by decide), ?_⟩
      have : PyData.eqv (dT []) (.tuple []) = true := (fit_T []).refl
      rw [this]
      exact q _
end
end K61

/-! What the top has written; the end. Printed by gen_end.py. -/
namespace K61
open PySem PySem.Spec PyProof.Rows L2
theorem all_mk {l : PySem.W.OpenLaw} {w : World} {K : PySem.W.Frag} {h : Heap} {mg : Str → Option Value} {fa f1 f2 f3 f4 f5 f6 f7 f8 f9 f10 f11 f12 f13 f14 f15 f16 f17 f18 f19 f20 : Addr} (X : K.In h) (G : h.Ns mainGlobals mg) (hfa : mg "law" = some (.ref fa))
    {od1 an1 od2 an2 od3 an3 od4 an4 od5 an5 od6 an6 od7 an7 od8 an8 od9 an9 od10 an10 od11 an11 od12 an12 od13 an13 od14 an14 od15 an15 od16 an16 od17 an17 od18 an18 od19 an19 od20 an20 : Option Addr}
    {sl1 sl2 sl3 sl4 sl5 sl6 sl7 sl8 sl9 sl10 sl11 sl12 sl13 sl14 sl15 sl16 sl17 sl18 sl19 sl20 : Array (Option Value)}
    {oc1 kV1 dc1 pm1 cd1 ct1 oc2 kV2 dc2 pm2 cd2 ct2 oc3 kV3 dc3 pm3 cd3 ct3 oc4 kV4 dc4 pm4 cd4 ct4 oc5 kV5 dc5 pm5 cd5 ct5 oc6 kV6 dc6 pm6 cd6 ct6 oc7 kV7 dc7 pm7 cd7 ct7 oc8 kV8 dc8 pm8 cd8 ct8 oc9 kV9 dc9 pm9 cd9 ct9 oc10 kV10 dc10 pm10 cd10 ct10 oc11 kV11 dc11 pm11 cd11 ct11 oc12 kV12 dc12 pm12 cd12 ct12 oc13 kV13 dc13 pm13 cd13 ct13 oc14 kV14 dc14 pm14 cd14 ct14 oc15 kV15 dc15 pm15 cd15 ct15 oc16 kV16 dc16 pm16 cd16 ct16 oc17 kV17 dc17 pm17 cd17 ct17 oc18 kV18 dc18 pm18 cd18 ct18 oc19 kV19 dc19 pm19 cd19 ct19 oc20 kV20 dc20 pm20 cd20 ct20 : Value}
    (a1 : PySem.W.nsIn K mainGlobals "is_whole" = some (some (.ref f1)))
    (l1 : K.lookup f1 = some ⟨oc1, od1, .func (PySem.W.fnOf "is_whole" "is_whole" (defArgs sWhole) (defBody sWhole) (defScope sWhole) .none kV1 dc1 pm1 an1 cd1 ct1), sl1⟩)
    (c1 : PySem.W.codeIn K cd1 "is_whole" = true) (k1 : PySem.W.keepIn K (.ref f1) = true)
    (a2 : PySem.W.nsIn K mainGlobals "is_number_below" = some (some (.ref f2)))
    (l2 : K.lookup f2 = some ⟨oc2, od2, .func (PySem.W.fnOf "is_number_below" "is_number_below" (defArgs sBelow) (defBody sBelow) (defScope sBelow) .none kV2 dc2 pm2 an2 cd2 ct2), sl2⟩)
    (c2 : PySem.W.codeIn K cd2 "is_number_below" = true) (k2 : PySem.W.keepIn K (.ref f2) = true)
    (a3 : PySem.W.nsIn K mainGlobals "is_order" = some (some (.ref f3)))
    (l3 : K.lookup f3 = some ⟨oc3, od3, .func (PySem.W.fnOf "is_order" "is_order" (defArgs sIsOrder) (defBody sIsOrder) (defScope sIsOrder) .none kV3 dc3 pm3 an3 cd3 ct3), sl3⟩)
    (c3 : PySem.W.codeIn K cd3 "is_order" = true) (k3 : PySem.W.keepIn K (.ref f3) = true)
    (a4 : PySem.W.nsIn K mainGlobals "undone" = some (some (.ref f4)))
    (l4 : K.lookup f4 = some ⟨oc4, od4, .func (PySem.W.fnOf "undone" "undone" (defArgs sUndone) (defBody sUndone) (defScope sUndone) .none kV4 dc4 pm4 an4 cd4 ct4), sl4⟩)
    (c4 : PySem.W.codeIn K cd4 "undone" = true) (k4 : PySem.W.keepIn K (.ref f4) = true)
    (a5 : PySem.W.nsIn K mainGlobals "mirrored" = some (some (.ref f5)))
    (l5 : K.lookup f5 = some ⟨oc5, od5, .func (PySem.W.fnOf "mirrored" "mirrored" (defArgs sMirr) (defBody sMirr) (defScope sMirr) .none kV5 dc5 pm5 an5 cd5 ct5), sl5⟩)
    (c5 : PySem.W.codeIn K cd5 "mirrored" = true) (k5 : PySem.W.keepIn K (.ref f5) = true)
    (a6 : PySem.W.nsIn K mainGlobals "put_in" = some (some (.ref f6)))
    (l6 : K.lookup f6 = some ⟨oc6, od6, .func (PySem.W.fnOf "put_in" "put_in" (defArgs sPutIn) (defBody sPutIn) (defScope sPutIn) .none kV6 dc6 pm6 an6 cd6 ct6), sl6⟩)
    (c6 : PySem.W.codeIn K cd6 "put_in" = true) (k6 : PySem.W.keepIn K (.ref f6) = true)
    (a7 : PySem.W.nsIn K mainGlobals "tables" = some (some (.ref f7)))
    (l7 : K.lookup f7 = some ⟨oc7, od7, .func (PySem.W.fnOf "tables" "tables" (defArgs sTables) (defBody sTables) (defScope sTables) .none kV7 dc7 pm7 an7 cd7 ct7), sl7⟩)
    (c7 : PySem.W.codeIn K cd7 "tables" = true) (k7 : PySem.W.keepIn K (.ref f7) = true)
    (a8 : PySem.W.nsIn K mainGlobals "taken_out" = some (some (.ref f8)))
    (l8 : K.lookup f8 = some ⟨oc8, od8, .func (PySem.W.fnOf "taken_out" "taken_out" (defArgs sTaken) (defBody sTaken) (defScope sTaken) .none kV8 dc8 pm8 an8 cd8 ct8), sl8⟩)
    (c8 : PySem.W.codeIn K cd8 "taken_out" = true) (k8 : PySem.W.keepIn K (.ref f8) = true)
    (a9 : PySem.W.nsIn K mainGlobals "order_of_tables" = some (some (.ref f9)))
    (l9 : K.lookup f9 = some ⟨oc9, od9, .func (PySem.W.fnOf "order_of_tables" "order_of_tables" (defArgs sOot) (defBody sOot) (defScope sOot) .none kV9 dc9 pm9 an9 cd9 ct9), sl9⟩)
    (c9 : PySem.W.codeIn K cd9 "order_of_tables" = true) (k9 : PySem.W.keepIn K (.ref f9) = true)
    (a10 : PySem.W.nsIn K mainGlobals "_law_hand" = some (some (.ref f10)))
    (l10 : K.lookup f10 = some ⟨oc10, od10, .func (PySem.W.fnOf "_law_hand" "_law_hand" (defArgs sHand) (defBody sHand) (defScope sHand) .none kV10 dc10 pm10 an10 cd10 ct10), sl10⟩)
    (c10 : PySem.W.codeIn K cd10 "_law_hand" = true) (k10 : PySem.W.keepIn K (.ref f10) = true)
    (a11 : PySem.W.nsIn K mainGlobals "_law_pick" = some (some (.ref f11)))
    (l11 : K.lookup f11 = some ⟨oc11, od11, .func (PySem.W.fnOf "_law_pick" "_law_pick" (defArgs sPick) (defBody sPick) (defScope sPick) .none kV11 dc11 pm11 an11 cd11 ct11), sl11⟩)
    (c11 : PySem.W.codeIn K cd11 "_law_pick" = true) (k11 : PySem.W.keepIn K (.ref f11) = true)
    (a12 : PySem.W.nsIn K mainGlobals "_law_of" = some (some (.ref f12)))
    (l12 : K.lookup f12 = some ⟨oc12, od12, .func (PySem.W.fnOf "_law_of" "_law_of" (defArgs sOf) (defBody sOf) (defScope sOf) .none kV12 dc12 pm12 an12 cd12 ct12), sl12⟩)
    (c12 : PySem.W.codeIn K cd12 "_law_of" = true) (k12 : PySem.W.keepIn K (.ref f12) = true)
    (a13 : PySem.W.nsIn K mainGlobals "_law_size" = some (some (.ref f13)))
    (l13 : K.lookup f13 = some ⟨oc13, od13, .func (PySem.W.fnOf "_law_size" "_law_size" (defArgs sSize) (defBody sSize) (defScope sSize) .none kV13 dc13 pm13 an13 cd13 ct13), sl13⟩)
    (c13 : PySem.W.codeIn K cd13 "_law_size" = true) (k13 : PySem.W.keepIn K (.ref f13) = true)
    (a14 : PySem.W.nsIn K mainGlobals "_law_any" = some (some (.ref f14)))
    (l14 : K.lookup f14 = some ⟨oc14, od14, .func (PySem.W.fnOf "_law_any" "_law_any" (defArgs sAny) (defBody sAny) (defScope sAny) .none kV14 dc14 pm14 an14 cd14 ct14), sl14⟩)
    (c14 : PySem.W.codeIn K cd14 "_law_any" = true) (k14 : PySem.W.keepIn K (.ref f14) = true)
    (a15 : PySem.W.nsIn K mainGlobals "_law_order" = some (some (.ref f15)))
    (l15 : K.lookup f15 = some ⟨oc15, od15, .func (PySem.W.fnOf "_law_order" "_law_order" (defArgs sOrder) (defBody sOrder) (defScope sOrder) .none kV15 dc15 pm15 an15 cd15 ct15), sl15⟩)
    (c15 : PySem.W.codeIn K cd15 "_law_order" = true) (k15 : PySem.W.keepIn K (.ref f15) = true)
    (a16 : PySem.W.nsIn K mainGlobals "_law_same" = some (some (.ref f16)))
    (l16 : K.lookup f16 = some ⟨oc16, od16, .func (PySem.W.fnOf "_law_same" "_law_same" (defArgs sSame) (defBody sSame) (defScope sSame) .none kV16 dc16 pm16 an16 cd16 ct16), sl16⟩)
    (c16 : PySem.W.codeIn K cd16 "_law_same" = true) (k16 : PySem.W.keepIn K (.ref f16) = true)
    (a17 : PySem.W.nsIn K mainGlobals "_law_drawn_table" = some (some (.ref f17)))
    (l17 : K.lookup f17 = some ⟨oc17, od17, .func (PySem.W.fnOf "_law_drawn_table" "_law_drawn_table" (defArgs sDrawn) (defBody sDrawn) (defScope sDrawn) .none kV17 dc17 pm17 an17 cd17 ct17), sl17⟩)
    (c17 : PySem.W.codeIn K cd17 "_law_drawn_table" = true) (k17 : PySem.W.keepIn K (.ref f17) = true)
    (a18 : PySem.W.nsIn K mainGlobals "_law_filled" = some (some (.ref f18)))
    (l18 : K.lookup f18 = some ⟨oc18, od18, .func (PySem.W.fnOf "_law_filled" "_law_filled" (defArgs sFilled) (defBody sFilled) (defScope sFilled) .none kV18 dc18 pm18 an18 cd18 ct18), sl18⟩)
    (c18 : PySem.W.codeIn K cd18 "_law_filled" = true) (k18 : PySem.W.keepIn K (.ref f18) = true)
    (a19 : PySem.W.nsIn K mainGlobals "_law_over" = some (some (.ref f19)))
    (l19 : K.lookup f19 = some ⟨oc19, od19, .func (PySem.W.fnOf "_law_over" "_law_over" (defArgs sOver) (defBody sOver) (defScope sOver) .none kV19 dc19 pm19 an19 cd19 ct19), sl19⟩)
    (c19 : PySem.W.codeIn K cd19 "_law_over" = true) (k19 : PySem.W.keepIn K (.ref f19) = true)
    (a20 : PySem.W.nsIn K mainGlobals "law" = some (some (.ref f20)))
    (l20 : K.lookup f20 = some ⟨oc20, od20, .func (PySem.W.fnOf "law" "law" (defArgs sLaw) (defBody sLaw) (defScope sLaw) .none kV20 dc20 pm20 an20 cd20 ct20), sl20⟩)
    (c20 : PySem.W.codeIn K cd20 "law" = true) (k20 : PySem.W.keepIn K (.ref f20) = true)
    (z_isinstance : PySem.W.nsIn K mainGlobals "isinstance" = some none)
    (z_int : PySem.W.nsIn K mainGlobals "int" = some none)
    (z_bool : PySem.W.nsIn K mainGlobals "bool" = some none)
    (z_tuple : PySem.W.nsIn K mainGlobals "tuple" = some none)
    (z_all : PySem.W.nsIn K mainGlobals "all" = some none)
    (z_sorted : PySem.W.nsIn K mainGlobals "sorted" = some none)
    (z_list : PySem.W.nsIn K mainGlobals "list" = some none)
    (z_range : PySem.W.nsIn K mainGlobals "range" = some none)
    (z_len : PySem.W.nsIn K mainGlobals "len" = some none)
    (z_enumerate : PySem.W.nsIn K mainGlobals "enumerate" = some none)
    (z_sum : PySem.W.nsIn K mainGlobals "sum" = some none)
    (z_zip : PySem.W.nsIn K mainGlobals "zip" = some none)
    : ∃ fd : FuncData, (∀ (s : Shared) (v : Value), BindsTo s fd ⟨[v], []⟩ [("_law_script", v)]) ∧ ∀ base : Heap, K.In base → base.Ns mainGlobals mg → FnOk l.prog w K mg base CX0 5 fa fd ["_law_script"] (spLaw K) := by
  have e := hfa.symm.trans (PySem.W.mg_of X G a20)
  cases e
  have m_isinstance := PySem.W.mg_none_of X G z_isinstance
  have m_int := PySem.W.mg_none_of X G z_int
  have m_bool := PySem.W.mg_none_of X G z_bool
  have m_tuple := PySem.W.mg_none_of X G z_tuple
  have m_all := PySem.W.mg_none_of X G z_all
  have m_sorted := PySem.W.mg_none_of X G z_sorted
  have m_list := PySem.W.mg_none_of X G z_list
  have m_range := PySem.W.mg_none_of X G z_range
  have m_len := PySem.W.mg_none_of X G z_len
  have m_enumerate := PySem.W.mg_none_of X G z_enumerate
  have m_sum := PySem.W.mg_none_of X G z_sum
  have m_zip := PySem.W.mg_none_of X G z_zip
  have F1 := fun_mk (st := sWhole) l1 c1 k1
  have b1 := F1.binds (ps := ["thing"]) fun _ _ _ _ _ _ us hl => match us, hl with | [_], _ => rfl
  have g1 := PySem.W.mg_of X G a1
  have F2 := fun_mk (st := sBelow) l2 c2 k2
  have b2 := F2.binds (ps := ["thing", "many"]) fun _ _ _ _ _ _ us hl => match us, hl with | [_, _], _ => rfl
  have g2 := PySem.W.mg_of X G a2
  have F3 := fun_mk (st := sIsOrder) l3 c3 k3
  have b3 := F3.binds (ps := ["thing"]) fun _ _ _ _ _ _ us hl => match us, hl with | [_], _ => rfl
  have g3 := PySem.W.mg_of X G a3
  have F4 := fun_mk (st := sUndone) l4 c4 k4
  have b4 := F4.binds (ps := ["order"]) fun _ _ _ _ _ _ us hl => match us, hl with | [_], _ => rfl
  have g4 := PySem.W.mg_of X G a4
  have F5 := fun_mk (st := sMirr) l5 c5 k5
  have b5 := F5.binds (ps := ["order"]) fun _ _ _ _ _ _ us hl => match us, hl with | [_], _ => rfl
  have g5 := PySem.W.mg_of X G a5
  have F6 := fun_mk (st := sPutIn) l6 c6 k6
  have b6 := F6.binds (ps := ["rows", "number"]) fun _ _ _ _ _ _ us hl => match us, hl with | [_, _], _ => rfl
  have g6 := PySem.W.mg_of X G a6
  have F7 := fun_mk (st := sTables) l7 c7 k7
  have b7 := F7.binds (ps := ["order"]) fun _ _ _ _ _ _ us hl => match us, hl with | [_], _ => rfl
  have g7 := PySem.W.mg_of X G a7
  have F8 := fun_mk (st := sTaken) l8 c8 k8
  have b8 := F8.binds (ps := ["rows", "at"]) fun _ _ _ _ _ _ us hl => match us, hl with | [_, _], _ => rfl
  have g8 := PySem.W.mg_of X G a8
  have F9 := fun_mk (st := sOot) l9 c9 k9
  have b9 := F9.binds (ps := ["one", "other"]) fun _ _ _ _ _ _ us hl => match us, hl with | [_, _], _ => rfl
  have g9 := PySem.W.mg_of X G a9
  have F10 := fun_mk (st := sHand) l10 c10 k10
  have b10 := F10.binds (ps := ["_law_script"]) fun _ _ _ _ _ _ us hl => match us, hl with | [_], _ => rfl
  have g10 := PySem.W.mg_of X G a10
  have F11 := fun_mk (st := sPick) l11 c11 k11
  have b11 := F11.binds (ps := ["_law_hand_here", "_law_many"]) fun _ _ _ _ _ _ us hl => match us, hl with | [_, _], _ => rfl
  have g11 := PySem.W.mg_of X G a11
  have F12 := fun_mk (st := sOf) l12 c12 k12
  have b12 := F12.binds (ps := ["_law_hand_here", "_law_some"]) fun _ _ _ _ _ _ us hl => match us, hl with | [_, _], _ => rfl
  have g12 := PySem.W.mg_of X G a12
  have F13 := fun_mk (st := sSize) l13 c13 k13
  have b13 := F13.binds (ps := ["_law_hand_here", "_law_most"]) fun _ _ _ _ _ _ us hl => match us, hl with | [_, _], _ => rfl
  have g13 := PySem.W.mg_of X G a13
  have F14 := fun_mk (st := sAny) l14 c14 k14
  have b14 := F14.binds (ps := ["_law_hand_here", "_law_many"]) fun _ _ _ _ _ _ us hl => match us, hl with | [_, _], _ => rfl
  have g14 := PySem.W.mg_of X G a14
  have F15 := fun_mk (st := sOrder) l15 c15 k15
  have b15 := F15.binds (ps := ["_law_hand_here", "_law_many"]) fun _ _ _ _ _ _ us hl => match us, hl with | [_, _], _ => rfl
  have g15 := PySem.W.mg_of X G a15
  have F16 := fun_mk (st := sSame) l16 c16 k16
  have b16 := F16.binds (ps := ["_law_found", "_law_due"]) fun _ _ _ _ _ _ us hl => match us, hl with | [_, _], _ => rfl
  have g16 := PySem.W.mg_of X G a16
  have F17 := fun_mk (st := sDrawn) l17 c17 k17
  have b17 := F17.binds (ps := ["_law_hand_here", "_law_many"]) fun _ _ _ _ _ _ us hl => match us, hl with | [_, _], _ => rfl
  have g17 := PySem.W.mg_of X G a17
  have F18 := fun_mk (st := sFilled) l18 c18 k18
  have b18 := F18.binds (ps := ["_law_hand_here", "_law_shape"]) fun _ _ _ _ _ _ us hl => match us, hl with | [_, _], _ => rfl
  have g18 := PySem.W.mg_of X G a18
  have F19 := fun_mk (st := sOver) l19 c19 k19
  have b19 := F19.binds (ps := ["_law_grid"]) fun _ _ _ _ _ _ us hl => match us, hl with | [_], _ => rfl
  have g19 := PySem.W.mg_of X G a19
  have F20 := fun_mk (st := sLaw) l20 c20 k20
  have b20 := F20.binds (ps := ["_law_script"]) fun _ _ _ _ _ _ us hl => match us, hl with | [_], _ => rfl
  have g20 := PySem.W.mg_of X G a20
  refine ⟨PySem.W.fnOf "law" "law" (defArgs sLaw) (defBody sLaw) (defScope sLaw) .none kV20 dc20 pm20 an20 cd20 ct20, fun s v => .of_eq rfl, fun base _ _ => ?_⟩
  have C1 : Cal l.prog w K mg base 1 "is_whole" ["thing"] _ := ⟨_, _, g1, k1, b1, ok_whole F1 m_isinstance m_int m_bool⟩
  have C2 : Cal l.prog w K mg base 2 "is_number_below" ["thing", "many"] _ := ⟨_, _, g2, k2, b2, ok_below F2 C1⟩
  have C3 : Cal l.prog w K mg base 3 "is_order" ["thing"] _ := ⟨_, _, g3, k3, b3, ok_isOrder F3 C2 m_isinstance m_tuple m_all m_sorted m_list m_range m_len⟩
  have C4 : Cal l.prog w K mg base 1 "undone" ["order"] _ := ⟨_, _, g4, k4, b4, ok_undone F4 m_len m_enumerate m_tuple⟩
  have C5 : Cal l.prog w K mg base 1 "mirrored" ["order"] _ := ⟨_, _, g5, k5, b5, ok_mirr F5⟩
  have C6 : Cal l.prog w K mg base 1 "put_in" ["rows", "number"] _ := ⟨_, _, g6, k6, b6, ok_putIn F6 m_enumerate m_len⟩
  have C7 : Cal l.prog w K mg base 2 "tables" ["order"] _ := ⟨_, _, g7, k7, b7, ok_tables F7 C6 m_enumerate m_len m_tuple⟩
  have C8 : Cal l.prog w K mg base 1 "taken_out" ["rows", "at"] _ := ⟨_, _, g8, k8, b8, ok_taken F8 m_len⟩
  have C9 : Cal l.prog w K mg base 2 "order_of_tables" ["one", "other"] _ := ⟨_, _, g9, k9, b9, ok_oot F9 C8 m_list m_len m_range m_sum m_enumerate m_tuple⟩
  have C10 : Cal l.prog w K mg base 1 "_law_hand" ["_law_script"] _ := ⟨_, _, g10, k10, b10, ok_hand F10⟩
  have C11 : Cal l.prog w K mg base 1 "_law_pick" ["_law_hand_here", "_law_many"] _ := ⟨_, _, g11, k11, b11, ok_pick F11⟩
  have C12 : Cal l.prog w K mg base 2 "_law_of" ["_law_hand_here", "_law_some"] _ := ⟨_, _, g12, k12, b12, ok_of F12 C11 m_len⟩
  have C13 : Cal l.prog w K mg base 2 "_law_size" ["_law_hand_here", "_law_most"] _ := ⟨_, _, g13, k13, b13, ok_size F13 C11⟩
  have C14 : Cal l.prog w K mg base 2 "_law_any" ["_law_hand_here", "_law_many"] _ := ⟨_, _, g14, k14, b14, ok_any F14 C11 m_range⟩
  have C15 : Cal l.prog w K mg base 3 "_law_order" ["_law_hand_here", "_law_many"] _ := ⟨_, _, g15, k15, b15, ok_order F15 C11 C14 m_range m_list m_int m_tuple⟩
  have C16_2 : Cal l.prog w K mg base 2 "_law_same" ["_law_found", "_law_due"] (spSame 2) := ⟨_, _, g16, k16, b16, ok_same F16 g16 b16 m_isinstance m_tuple m_bool m_int m_len m_all m_zip 2⟩
  have C16_4 : Cal l.prog w K mg base 4 "_law_same" ["_law_found", "_law_due"] (spSame 4) := ⟨_, _, g16, k16, b16, ok_same F16 g16 b16 m_isinstance m_tuple m_bool m_int m_len m_all m_zip 4⟩
  have C17 : Cal l.prog w K mg base 3 "_law_drawn_table" ["_law_hand_here", "_law_many"] _ := ⟨_, _, g17, k17, b17, ok_drawn F17 C12 m_range m_len m_tuple⟩
  have C18 : Cal l.prog w K mg base 3 "_law_filled" ["_law_hand_here", "_law_shape"] _ := ⟨_, _, g18, k18, b18, ok_filled F18 C12 m_range m_sum m_enumerate m_len m_tuple⟩
  have C19 : Cal l.prog w K mg base 1 "_law_over" ["_law_grid"] _ := ⟨_, _, g19, k19, b19, ok_over F19 m_tuple m_range m_len⟩
  exact ok_law F20 C10 C13 C15 C7 C9 C16_2 C16_4 C4 C5 C19 C17 C18 C3 m_range m_len m_sum
end K61
open PySem PySem.W PyProof.Rows
set_option maxRecDepth 100000 in
set_option maxHeartbeats 0 in
theorem PySem.Challenge.cw_shuffletold_k61_whole_tables_undone_holds : PySem.Challenge.rw_shuffletold_k61_whole_tables_undone.Holds := by
  w_on; o_law; k_head; (case hw => w_witness2)
  k_fill
  refine L2.walk_of (l := PySem.Challenge.rw_shuffletold_k61_whole_tables_undone) (n := 63) (k := 5) (x := "_law_script") (CX := fun _ => L2.CX0) (sp := fun w => K61.spLaw _) rfl (by decide) rfl ⟨rfl, by decide, by decide⟩ (fun w h Y => PySem.W.kIn_of Y) ?F (fun _ _ a ns hl _ hS => ⟨a, ns, rfl, hS, hl, fun _ => rfl⟩) (fun _ _ _ _ _ h => h)
  case F =>
    intro w mg fa h KX G hmg
    refine' K61.all_mk KX G hmg ?a1 ?l1 ?c1 ?k1 ?a2 ?l2 ?c2 ?k2 ?a3 ?l3 ?c3 ?k3 ?a4 ?l4 ?c4 ?k4 ?a5 ?l5 ?c5 ?k5 ?a6 ?l6 ?c6 ?k6 ?a7 ?l7 ?c7 ?k7 ?a8 ?l8 ?c8 ?k8 ?a9 ?l9 ?c9 ?k9 ?a10 ?l10 ?c10 ?k10 ?a11 ?l11 ?c11 ?k11 ?a12 ?l12 ?c12 ?k12 ?a13 ?l13 ?c13 ?k13 ?a14 ?l14 ?c14 ?k14 ?a15 ?l15 ?c15 ?k15 ?a16 ?l16 ?c16 ?k16 ?a17 ?l17 ?c17 ?k17 ?a18 ?l18 ?c18 ?k18 ?a19 ?l19 ?c19 ?k19 ?a20 ?l20 ?c20 ?k20 ?z_isinstance ?z_int ?z_bool ?z_tuple ?z_all ?z_sorted ?z_list ?z_range ?z_len ?z_enumerate ?z_sum ?z_zip
    (case a1 => k_is)
    (case l1 => k_is)
    (case c1 => k_is)
    (case k1 => k_is)
    (case a2 => k_is)
    (case l2 => k_is)
    (case c2 => k_is)
    (case k2 => k_is)
    (case a3 => k_is)
    (case l3 => k_is)
    (case c3 => k_is)
    (case k3 => k_is)
    (case a4 => k_is)
    (case l4 => k_is)
    (case c4 => k_is)
    (case k4 => k_is)
    (case a5 => k_is)
    (case l5 => k_is)
    (case c5 => k_is)
    (case k5 => k_is)
    (case a6 => k_is)
    (case l6 => k_is)
    (case c6 => k_is)
    (case k6 => k_is)
    (case a7 => k_is)
    (case l7 => k_is)
    (case c7 => k_is)
    (case k7 => k_is)
    (case a8 => k_is)
    (case l8 => k_is)
    (case c8 => k_is)
    (case k8 => k_is)
    (case a9 => k_is)
    (case l9 => k_is)
    (case c9 => k_is)
    (case k9 => k_is)
    (case a10 => k_is)
    (case l10 => k_is)
    (case c10 => k_is)
    (case k10 => k_is)
    (case a11 => k_is)
    (case l11 => k_is)
    (case c11 => k_is)
    (case k11 => k_is)
    (case a12 => k_is)
    (case l12 => k_is)
    (case c12 => k_is)
    (case k12 => k_is)
    (case a13 => k_is)
    (case l13 => k_is)
    (case c13 => k_is)
    (case k13 => k_is)
    (case a14 => k_is)
    (case l14 => k_is)
    (case c14 => k_is)
    (case k14 => k_is)
    (case a15 => k_is)
    (case l15 => k_is)
    (case c15 => k_is)
    (case k15 => k_is)
    (case a16 => k_is)
    (case l16 => k_is)
    (case c16 => k_is)
    (case k16 => k_is)
    (case a17 => k_is)
    (case l17 => k_is)
    (case c17 => k_is)
    (case k17 => k_is)
    (case a18 => k_is)
    (case l18 => k_is)
    (case c18 => k_is)
    (case k18 => k_is)
    (case a19 => k_is)
    (case l19 => k_is)
    (case c19 => k_is)
    (case k19 => k_is)
    (case a20 => k_is)
    (case l20 => k_is)
    (case c20 => k_is)
    (case k20 => k_is)
    (case z_isinstance => k_is)
    (case z_int => k_is)
    (case z_bool => k_is)
    (case z_tuple => k_is)
    (case z_all => k_is)
    (case z_sorted => k_is)
    (case z_list => k_is)
    (case z_range => k_is)
    (case z_len => k_is)
    (case z_enumerate => k_is)
    (case z_sum => k_is)
    (case z_zip => k_is)
