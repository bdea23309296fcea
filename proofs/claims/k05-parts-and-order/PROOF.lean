import PyProof.Rows.All
import Wide.All
import OpenK.AllK
import Wide.FinOn
import HandS.ForMost
import HandS.ForExc
import HandS.IsInst
import HandS.ExcIs
import HandS.Wide
import HandS.Style
import HandS.Evl
import HandS.More
import HandS.StrMore
import PySem.Challenge.RW_fewstones_k05_parts_and_order
set_option Elab.async false
set_option linter.all false
set_option maxRecDepth 100000
set_option maxHeartbeats 4000000
namespace Few
/-! plain mathematics of layings: no program in sight -/
/-- the load of a laying -/
def loadOf : List Int → Int
  | [] => 0
  | x :: r => 2 * loadOf r + x
def used (l : List Int) : Nat := (l.filter (fun x => decide (x ≠ 0))).length
/-- a thing of a laying -/
def Pm (x : Int) : Prop := x = 1 ∨ x = 0 ∨ x = -1
def Lay (l : List Int) : Prop := ∀ x ∈ l, Pm x
theorem Lay.tail {x : Int} {r : List Int} (h : Lay (x :: r)) : Lay r := fun y hy => h y (List.mem_cons_of_mem _ hy)
theorem Lay.head {x : Int} {r : List Int} (h : Lay (x :: r)) : Pm x := h x List.mem_cons_self
/-- neat, from the least weight on -/
def neatB : List Int → Bool
  | [] => true
  | [x] => decide (x ≠ 0)
  | x :: y :: r => (decide (x = 0) || decide (y = 0)) && neatB (y :: r)
def digit (n : Int) : Int := if n % 2 = 1 then 2 - n % 4 else 0
theorem digit_pm (n : Int) : Pm (digit n) := by
  unfold digit Pm
  split <;> omega
theorem digit_less (n : Int) (h : n ≠ 0) : ((n - digit n) / 2).natAbs < n.natAbs := by
  unfold digit
  split <;> omega
def laid (n : Int) : List Int := if h : n = 0 then [] else digit n :: laid ((n - digit n) / 2)
termination_by n.natAbs
decreasing_by exact digit_less n h
theorem laid_zero : laid 0 = [] := by
  rw [laid]
  exact dif_pos rfl
theorem laid_ne {n : Int} (h : n ≠ 0) : laid n = digit n :: laid ((n - digit n) / 2) := by
  rw [laid, dif_neg h]
theorem laid_even {n : Int} (h : n ≠ 0) : laid (2 * n) = 0 :: laid n := by
  have d : digit (2 * n) = 0 := by
    unfold digit
    rw [if_neg (by omega)]
  rw [laid_ne (show 2 * n ≠ 0 by omega), d]
  congr 2
  omega
theorem laid_41 (n : Int) : laid (4 * n + 1) = 1 :: laid (2 * n) := by
  have d : digit (4 * n + 1) = 1 := by
    unfold digit
    rw [if_pos (by omega)]
    omega
  rw [laid_ne (show 4 * n + 1 ≠ 0 by omega), d]
  congr 2
  omega
theorem laid_43 (n : Int) : laid (4 * n + 3) = -1 :: laid (2 * n + 2) := by
  have d : digit (4 * n + 3) = -1 := by
    unfold digit
    rw [if_pos (by omega)]
    omega
  rw [laid_ne (show 4 * n + 3 ≠ 0 by omega), d]
  congr 2
  omega
/-- induction along laid -/
theorem laid_ind {P : Int → Prop} (h0 : P 0) (hs : ∀ n, n ≠ 0 → P ((n - digit n) / 2) → P n) : ∀ n, P n := by
  have go : ∀ (k : Nat) (n : Int), n.natAbs ≤ k → P n := by
    intro k
    induction k with
    | zero =>
      intro n h
      have e : n = 0 := by omega
      rw [e]
      exact h0
    | succ k ih =>
      intro n h
      by_cases e : n = 0
      · rw [e]
        exact h0
      · have q := digit_less n e
        exact hs n e (ih _ (by omega))
  intro n
  exact go _ n (Nat.le_refl _)
theorem load_laid : ∀ n, loadOf (laid n) = n := by
  apply laid_ind
  · rw [laid_zero]
    rfl
  · intro n h ih
    rw [laid_ne h]
    show 2 * loadOf (laid ((n - digit n) / 2)) + digit n = n
    rw [ih]
    unfold digit
    split <;> omega
theorem lay_laid : ∀ n, Lay (laid n) := by
  apply laid_ind
  · rw [laid_zero]
    intro x hx
    cases hx
  · intro n h ih
    rw [laid_ne h]
    intro x hx
    rcases List.mem_cons.mp hx with e | e
    · rw [e]
      exact digit_pm n
    · exact ih x e
theorem laid_nil {n : Int} (h : laid n = []) : n = 0 := by
  by_cases e : n = 0
  · exact e
  · rw [laid_ne e] at h
    cases h
theorem neat_laid : ∀ n, neatB (laid n) = true := by
  apply laid_ind
  · rw [laid_zero]
    rfl
  · intro n h ih
    rw [laid_ne h]
    by_cases e : (n - digit n) / 2 = 0
    · rw [e, laid_zero]
      show decide (digit n ≠ 0) = true
      apply decide_eq_true
      unfold digit at e ⊢
      split at e <;> split <;> omega
    · rw [laid_ne e] at ih ⊢
      show ((decide (digit n = 0) || decide (digit ((n - digit n) / 2) = 0)) && neatB (digit ((n - digit n) / 2) :: laid (((n - digit n) / 2 - digit ((n - digit n) / 2)) / 2))) = true
      rw [ih, Bool.and_true]
      by_cases z : digit n = 0
      · rw [decide_eq_true z, Bool.true_or]
      · rw [Bool.or_eq_true]
        right
        apply decide_eq_true
        unfold digit at z ⊢
        split at z
        · rename_i o
          rw [if_pos o]
          rw [if_neg (by omega)]
        · exact absurd rfl z
theorem neat_tail {x : Int} {r : List Int} (h : neatB (x :: r) = true) : neatB r = true := by
  cases r with
  | nil => rfl
  | cons y r =>
    have h' : ((decide (x = 0) || decide (y = 0)) && neatB (y :: r)) = true := h
    rw [Bool.and_eq_true] at h'
    exact h'.2
theorem neat_two {x y : Int} {r : List Int} (h : neatB (x :: y :: r) = true) : x = 0 ∨ y = 0 := by
  have h' : ((decide (x = 0) || decide (y = 0)) && neatB (y :: r)) = true := h
  rw [Bool.and_eq_true, Bool.or_eq_true] at h'
  exact h'.1.imp of_decide_eq_true of_decide_eq_true
theorem neat_load_ne : ∀ {l : List Int}, Lay l → neatB l = true → l ≠ [] → loadOf l ≠ 0
  | [], _, _, h => absurd rfl h
  | [x], a, n, _ => by
    have e : x ≠ 0 := of_decide_eq_true n
    show 2 * 0 + x ≠ 0
    omega
  | x :: y :: r, a, n, _ => by
    have ih := neat_load_ne a.tail (neat_tail n) (List.cons_ne_nil y r)
    have p := a.head
    show 2 * loadOf (y :: r) + x ≠ 0
    unfold Pm at p
    omega
/-- each load has just one neat laying -/
theorem laid_load : ∀ {l : List Int}, Lay l → neatB l = true → laid (loadOf l) = l
  | [], _, _ => laid_zero
  | [x], a, n => by
    have e : x ≠ 0 := of_decide_eq_true n
    have p := a.head
    show laid (2 * 0 + x) = [x]
    rcases p with p | p | p
    · rw [p]
      have q := laid_41 0
      rw [show (2 : Int) * 0 = 0 from rfl, laid_zero] at q
      exact q
    · exact absurd p e
    · rw [p]
      have q := laid_43 (-1)
      rw [show (2 : Int) * -1 + 2 = 0 from rfl, laid_zero] at q
      exact q
  | x :: y :: r, a, n => by
    have ih := laid_load a.tail (neat_tail n)
    have ne := neat_load_ne a.tail (neat_tail n) (List.cons_ne_nil y r)
    have p := a.head
    have t := neat_two n
    show laid (2 * loadOf (y :: r) + x) = x :: y :: r
    rcases p with p | p | p
    · have hy : y = 0 := by omega
      subst hy p
      have e : loadOf (0 :: r) = 2 * loadOf r := by
        show 2 * loadOf r + 0 = 2 * loadOf r
        omega
      rw [e] at ih ⊢
      have q := laid_41 (loadOf r)
      rw [show 2 * (2 * loadOf r) + 1 = 4 * loadOf r + 1 by omega, q, ih]
    · subst p
      rw [Int.add_zero, laid_even ne, ih]
    · have hy : y = 0 := by omega
      subst hy p
      have e : loadOf (0 :: r) = 2 * loadOf r := by
        show 2 * loadOf r + 0 = 2 * loadOf r
        omega
      rw [e] at ih ⊢
      have q := laid_43 (loadOf r - 1)
      rw [show 4 * (loadOf r - 1) + 3 = 2 * (2 * loadOf r) + -1 by omega, show 2 * (loadOf r - 1) + 2 = 2 * loadOf r by omega, ih] at q
      exact q
/-! how long -/
theorem laid_len : ∀ (k : Nat) (n : Int), n.natAbs < 2 ^ k → (laid n).length ≤ k + 1
  | 0, n, h => by
    have e : n = 0 := by
      have : n.natAbs < 1 := h
      omega
    rw [e, laid_zero]
    exact Nat.zero_le _
  | k + 1, n, h => by
    by_cases e : n = 0
    · rw [e, laid_zero]
      exact Nat.zero_le _
    · rw [laid_ne e, List.length_cons]
      have h' : n.natAbs < 2 * 2 ^ k := by
        rw [Nat.pow_succ] at h
        omega
      by_cases b : ((n - digit n) / 2).natAbs < 2 ^ k
      · have := laid_len k _ b
        omega
      · -- only a half that is 2 ^ k itself
        have d := digit_pm n
        unfold Pm at d
        have e2 : ((n - digit n) / 2).natAbs = 2 ^ k := by
          unfold digit at b d ⊢
          split at b <;> rename_i o
          · rw [if_pos o]
            omega
          · rw [if_neg o]
            omega
        have : ∀ (k : Nat) (m : Int), m.natAbs = 2 ^ k → (laid m).length ≤ k + 1 := by
          intro k
          induction k with
          | zero =>
            intro m hm
            have hm' : m.natAbs = 1 := hm
            have : m = 1 ∨ m = -1 := by omega
            rcases this with z | z
            · rw [z]
              have q := laid_41 0
              rw [show (2 : Int) * 0 = 0 from rfl, laid_zero] at q
              rw [show (1 : Int) = 4 * 0 + 1 from rfl, q]
              exact Nat.le_refl _
            · rw [z]
              have q := laid_43 (-1)
              rw [show (2 : Int) * -1 + 2 = 0 from rfl, laid_zero] at q
              rw [show (-1 : Int) = 4 * -1 + 3 from rfl, q]
              exact Nat.le_refl _
          | succ k ih =>
            intro m hm
            rw [Nat.pow_succ] at hm
            have pos : 0 < 2 ^ k := Nat.two_pow_pos k
            obtain ⟨j, hj⟩ : ∃ j, m = 2 * j := ⟨m / 2, by omega⟩
            have hj0 : j ≠ 0 := by omega
            rw [hj, laid_even hj0, List.length_cons]
            have := ih j (by omega)
            omega
        have := this k _ e2
        omega
/-! as few as can be -/
def w (n : Int) : Nat := used (laid n)
theorem used_cons (x : Int) (r : List Int) : used (x :: r) = (if x = 0 then 0 else 1) + used r := by
  unfold used
  rw [List.filter_cons]
  by_cases e : x = 0
  · rw [if_neg (by simp [e]), if_pos e]
    omega
  · rw [if_pos (by simp [e]), if_neg e, List.length_cons]
    omega
theorem w_zero : w 0 = 0 := by
  unfold w
  rw [laid_zero]
  rfl
theorem w_even (n : Int) : w (2 * n) = w n := by
  by_cases e : n = 0
  · rw [e]
    rfl
  · unfold w
    rw [laid_even e, used_cons, if_pos rfl]
    omega
theorem w_41 (n : Int) : w (4 * n + 1) = w n + 1 := by
  rw [← w_even n]
  unfold w
  rw [laid_41, used_cons, if_neg (by decide)]
  omega
theorem w_43 (n : Int) : w (4 * n + 3) = w (n + 1) + 1 := by
  rw [← w_even (n + 1)]
  unfold w
  rw [laid_43, used_cons, if_neg (by decide), show 2 * (n + 1) = 2 * n + 2 by omega]
  omega
theorem w_near : ∀ (k : Nat) (n : Int), n.natAbs ≤ k → w n ≤ w (2 * n + 1) ∧ w (n + 1) ≤ w (2 * n + 1) ∧ w (2 * n + 1) ≤ w n + 1 ∧ w (2 * n + 1) ≤ w (n + 1) + 1 := by
  intro k
  induction k with
  | zero =>
    intro n h
    have e : n = 0 := by omega
    subst e
    have a := w_41 0
    rw [w_zero] at a
    rw [w_zero]
    have b : w (4 * 0 + 1) = w (0 + 1) := rfl
    have c : w (4 * 0 + 1) = w (2 * 0 + 1) := rfl
    omega
  | succ k ih =>
    intro n h
    by_cases z : n.natAbs ≤ k
    · exact ih n z
    · by_cases m1 : n = -1
      · subst m1
        have a := w_43 (-1)
        have b : w (4 * -1 + 3) = w (2 * -1 + 1) := rfl
        have c : w (-1 + 1) = w 0 := rfl
        have d : w (-1) = w (2 * -1 + 1) := rfl
        rw [c, w_zero] at a
        rw [d, c, w_zero]
        omega
      · rcases (show n % 2 = 0 ∨ n % 2 = 1 by omega) with e | e
        · obtain ⟨j, hj⟩ : ∃ j, n = 2 * j := ⟨n / 2, by omega⟩
          have q := ih j (by omega)
          subst hj
          have a := w_41 j
          have b := w_even j
          rw [show 2 * (2 * j) + 1 = 4 * j + 1 by omega]
          omega
        · obtain ⟨j, hj⟩ : ∃ j, n = 2 * j + 1 := ⟨n / 2, by omega⟩
          have q := ih j (by omega)
          subst hj
          have a := w_43 j
          have b := w_even (j + 1)
          rw [show 2 * (2 * j + 1) + 1 = 4 * j + 3 by omega, show 2 * j + 1 + 1 = 2 * (j + 1) by omega]
          omega
theorem w_step (n : Int) : w (n + 1) ≤ w n + 1 ∧ w n ≤ w (n + 1) + 1 := by
  rcases (show n % 2 = 0 ∨ n % 2 = 1 by omega) with e | e
  · obtain ⟨j, hj⟩ : ∃ j, n = 2 * j := ⟨n / 2, by omega⟩
    have q := w_near _ j (Nat.le_refl _)
    have b := w_even j
    subst hj
    omega
  · obtain ⟨j, hj⟩ : ∃ j, n = 2 * j + 1 := ⟨n / 2, by omega⟩
    have q := w_near _ j (Nat.le_refl _)
    have b := w_even (j + 1)
    subst hj
    rw [show 2 * j + 1 + 1 = 2 * (j + 1) by omega]
    omega
theorem w_put (n : Int) : w (n + 1) ≤ w n + 1 := (w_step n).1
theorem w_take (n : Int) : w (n - 1) ≤ w n + 1 := by
  have q := (w_step (n - 1)).2
  rw [show n - 1 + 1 = n by omega] at q
  exact q
/-- no laying of the same load uses fewer stones -/
theorem w_least : ∀ {l : List Int}, Lay l → w (loadOf l) ≤ used l
  | [], _ => by
    show w 0 ≤ 0
    rw [w_zero]
    exact Nat.le_refl _
  | x :: r, a => by
    have ih := w_least a.tail
    have p := a.head
    have e := w_even (loadOf r)
    rw [used_cons]
    show w (2 * loadOf r + x) ≤ _
    rcases p with p | p | p
    · subst p
      have q := w_put (2 * loadOf r)
      rw [if_neg (by decide)]
      omega
    · subst p
      rw [if_pos rfl, Int.add_zero]
      omega
    · subst p
      have q := w_take (2 * loadOf r)
      rw [if_neg (by decide)]
      rw [show 2 * loadOf r + -1 = 2 * loadOf r - 1 by omega]
      omega
/-! parted -/
theorem load_append : ∀ (a b : List Int), loadOf (a ++ b) = loadOf a + 2 ^ a.length * loadOf b
  | [], b => by
    show loadOf b = 0 + 2 ^ 0 * loadOf b
    rw [show (2 : Int) ^ 0 = 1 from rfl]
    omega
  | x :: r, b => by
    show 2 * loadOf (r ++ b) + x = 2 * loadOf r + x + 2 ^ (r.length + 1) * loadOf b
    rw [load_append r b, Int.pow_succ, Int.mul_add, Int.mul_comm (2 ^ r.length) 2, Int.mul_assoc]
    omega
theorem load_noughts (n : Nat) : loadOf (List.replicate n 0) = 0 := by
  induction n with
  | zero => rfl
  | succ n ih =>
    show 2 * loadOf (List.replicate n 0) + 0 = 0
    rw [ih]
    rfl
/-- no two neighbours used -/
def apartB : List Int → Bool
  | [] => true
  | [_] => true
  | x :: y :: r => (decide (x = 0) || decide (y = 0)) && apartB (y :: r)
theorem apart_tail {x : Int} {r : List Int} (h : apartB (x :: r) = true) : apartB r = true := by
  cases r with
  | nil => rfl
  | cons y r =>
    have h' : ((decide (x = 0) || decide (y = 0)) && apartB (y :: r)) = true := h
    rw [Bool.and_eq_true] at h'
    exact h'.2
theorem apart_two {x y : Int} {r : List Int} (h : apartB (x :: y :: r) = true) : x = 0 ∨ y = 0 := by
  have h' : ((decide (x = 0) || decide (y = 0)) && apartB (y :: r)) = true := h
  rw [Bool.and_eq_true, Bool.or_eq_true] at h'
  exact h'.1.imp of_decide_eq_true of_decide_eq_true
theorem apart_of_neat : ∀ {l : List Int}, neatB l = true → apartB l = true
  | [], _ => rfl
  | [_], _ => rfl
  | x :: y :: r, h => by
    have h' : ((decide (x = 0) || decide (y = 0)) && neatB (y :: r)) = true := h
    rw [Bool.and_eq_true] at h'
    show ((decide (x = 0) || decide (y = 0)) && apartB (y :: r)) = true
    rw [h'.1, apart_of_neat h'.2]
    rfl
theorem apart_bound : ∀ {l : List Int}, Lay l → apartB l = true → 3 * (loadOf l).natAbs < 2 ^ (l.length + 1)
  | [], _, _ => by
    show 3 * 0 < 2 ^ (0 + 1)
    decide
  | [x], a, _ => by
    have p := a.head
    show 3 * (2 * 0 + x).natAbs < 2 ^ (1 + 1)
    unfold Pm at p
    rw [show 2 ^ (1 + 1) = 4 from rfl]
    omega
  | x :: y :: r, a, n => by
    have p := a.head
    have t := apart_two n
    by_cases hx : x = 0
    · have ih := apart_bound a.tail (apart_tail n)
      subst hx
      show 3 * (2 * loadOf (y :: r) + 0).natAbs < 2 ^ ((y :: r).length + 1 + 1)
      rw [Nat.pow_succ]
      omega
    · have hy : y = 0 := by
        rcases t with t | t
        · exact absurd t hx
        · exact t
      subst hy
      have ih := apart_bound a.tail.tail (apart_tail (apart_tail n))
      show 3 * (2 * (2 * loadOf r + 0) + x).natAbs < 2 ^ (r.length + 1 + 1 + 1)
      rw [Nat.pow_succ, Nat.pow_succ]
      unfold Pm at p
      have pos : 2 ≤ 2 ^ (r.length + 1) := by
        rw [Nat.pow_succ]
        have := Nat.two_pow_pos r.length
        omega
      omega
end Few
namespace Few
/-! ended -/
def ended : List Int → List Int
  | [] => []
  | x :: r => if ended r = [] ∧ x = 0 then [] else x :: ended r
theorem ended_snoc0 : ∀ l : List Int, ended (l ++ [0]) = ended l
  | [] => by decide
  | x :: r => by
    show (if ended (r ++ [0]) = [] ∧ x = 0 then [] else x :: ended (r ++ [0])) = (if ended r = [] ∧ x = 0 then [] else x :: ended r)
    rw [ended_snoc0 r]
theorem ended_snoc : ∀ (l : List Int) {x : Int}, x ≠ 0 → ended (l ++ [x]) = l ++ [x]
  | [], x, h => by
    show (if ended [] = [] ∧ x = 0 then [] else x :: ended []) = [x]
    rw [if_neg (fun z => h z.2)]
    rfl
  | y :: r, x, h => by
    show (if ended (r ++ [x]) = [] ∧ y = 0 then [] else y :: ended (r ++ [x])) = y :: (r ++ [x])
    rw [ended_snoc r h, if_neg (fun z => by simp at z)]
/-- a list is its end's, by its last thing -/
theorem last_cases (l : List Int) : l = [] ∨ ∃ r x, l = r ++ [x] := by
  rcases List.eq_nil_or_concat l with h | ⟨r, x, h⟩
  · exact .inl h
  · exact .inr ⟨r, x, by rw [h]; simp⟩
theorem load_ended : ∀ l : List Int, loadOf (ended l) = loadOf l
  | [] => rfl
  | x :: r => by
    have ih := load_ended r
    show loadOf (if ended r = [] ∧ x = 0 then [] else x :: ended r) = 2 * loadOf r + x
    by_cases c : ended r = [] ∧ x = 0
    · rw [if_pos c]
      rw [c.1] at ih
      rw [← ih, c.2]
      rfl
    · rw [if_neg c, ← ih]
      rfl
theorem lay_ended {l : List Int} (h : Lay l) : Lay (ended l) := by
  have key : ∀ l : List Int, ∀ x ∈ ended l, x ∈ l := by
    intro l
    induction l with
    | nil =>
      intro x hx
      exact hx
    | cons y r ih =>
      intro x hx
      have hx' : x ∈ (if ended r = [] ∧ y = 0 then [] else y :: ended r) := hx
      by_cases c : ended r = [] ∧ y = 0
      · rw [if_pos c] at hx'
        cases hx'
      · rw [if_neg c] at hx'
        rcases List.mem_cons.mp hx' with e | e
        · rw [e]
          exact List.mem_cons_self
        · exact List.mem_cons_of_mem _ (ih x e)
  exact fun x hx => h x (key l x hx)
theorem ended_len : ∀ l : List Int, (ended l).length ≤ l.length
  | [] => Nat.le_refl _
  | x :: r => by
    have ih := ended_len r
    show (if ended r = [] ∧ x = 0 then [] else x :: ended r).length ≤ r.length + 1
    by_cases c : ended r = [] ∧ x = 0
    · rw [if_pos c]
      exact Nat.zero_le _
    · rw [if_neg c, List.length_cons]
      omega
/-- ended, and apart: neat -/
theorem neat_iff : ∀ l : List Int, neatB l = (apartB l && decide (ended l = l))
  | [] => by decide
  | [x] => by
    show decide (x ≠ 0) = (true && decide ((if ended [] = [] ∧ x = 0 then [] else x :: ended []) = [x]))
    rw [Bool.true_and]
    by_cases h : x = 0
    · subst h
      decide
    · rw [if_neg (fun z => h z.2)]
      simp [h, ended]
  | x :: y :: r => by
    have ih := neat_iff (y :: r)
    show ((decide (x = 0) || decide (y = 0)) && neatB (y :: r)) = (((decide (x = 0) || decide (y = 0)) && apartB (y :: r)) && decide ((if ended (y :: r) = [] ∧ x = 0 then [] else x :: ended (y :: r)) = x :: y :: r))
    rw [ih, Bool.and_assoc]
    congr 2
    by_cases c : ended (y :: r) = [] ∧ x = 0
    · rw [if_pos c, c.1]
      simp
    · rw [if_neg c]
      simp
theorem load_bound : ∀ {l : List Int}, Lay l → (loadOf l).natAbs < 2 ^ l.length
  | [], _ => by decide
  | x :: r, h => by
    have ih := load_bound h.tail
    have p := h.head
    show (2 * loadOf r + x).natAbs < 2 ^ (r.length + 1)
    rw [Nat.pow_succ]
    unfold Pm at p
    omega
theorem laid_load_len {l : List Int} (h : Lay l) : (laid (loadOf l)).length ≤ l.length + 1 := laid_len _ _ (load_bound h)
/-! a laying turned about -/
theorem lay_neg {l : List Int} (h : Lay l) : Lay (l.map fun x => -x) := by
  intro x hx
  obtain ⟨y, hy, rfl⟩ := List.mem_map.mp hx
  have := h y hy
  unfold Pm at *
  omega
theorem load_neg : ∀ l : List Int, loadOf (l.map fun x => -x) = - loadOf l
  | [] => rfl
  | x :: r => by
    show 2 * loadOf (r.map fun x => -x) + -x = -(2 * loadOf r + x)
    rw [load_neg r]
    omega
theorem lay_take {l : List Int} (h : Lay l) (n : Nat) : Lay (l.take n) := fun x hx => h x (List.mem_of_mem_take hx)
theorem lay_drop {l : List Int} (h : Lay l) (n : Nat) : Lay (l.drop n) := fun x hx => h x (List.mem_of_mem_drop hx)
theorem lay_append {a b : List Int} (h : Lay a) (h2 : Lay b) : Lay (a ++ b) := fun x hx => (List.mem_append.mp hx).elim (h x) (h2 x)
theorem lay_zeros (n : Nat) : Lay (List.replicate n 0) := fun x hx => by
  rw [(List.mem_replicate.mp hx).2]
  exact .inr (.inl rfl)
theorem lay_nil : Lay [] := fun x h => by cases h
theorem lay_cons {x : Int} {l : List Int} (p : Pm x) (h : Lay l) : Lay (x :: l) := fun y hy => by
  rcases List.mem_cons.mp hy with e | e
  · rw [e]
    exact p
  · exact h y e
end Few
namespace Few
/-- the last thing met, b where none was -/
def beforeOf (b : Int) (l : List Int) : Int := match l.getLast? with
  | some x => x
  | none => b
theorem before_take {ns : List Int} {i : Nat} {n : Int} (h : ns[i]? = some n) : beforeOf 0 (ns.take (i + 1)) = n := by
  unfold beforeOf
  rw [List.take_add_one, h]
  simp
theorem apart_snoc : ∀ (l : List Int) (x : Int), apartB (l ++ [x]) = (apartB l && (decide (beforeOf 0 l = 0) || decide (x = 0)))
  | [], x => by simp [apartB, beforeOf]
  | [y], x => by
    show ((decide (y = 0) || decide (x = 0)) && true) = (true && (decide (y = 0) || decide (x = 0)))
    rw [Bool.and_true, Bool.true_and]
  | y :: z :: r, x => by
    have ih := apart_snoc (z :: r) x
    have e : beforeOf 0 (y :: z :: r) = beforeOf 0 (z :: r) := by
      unfold beforeOf
      rw [List.getLast?_cons_cons]
    show ((decide (y = 0) || decide (z = 0)) && apartB ((z :: r) ++ [x])) = (((decide (y = 0) || decide (z = 0)) && apartB (z :: r)) && (decide (beforeOf 0 (y :: z :: r) = 0) || decide (x = 0)))
    rw [ih, e, Bool.and_assoc]
theorem apart_take_all : ∀ {l : List Int} (k : Nat), apartB (l.take k) = false → apartB l = false
  | [], k, h => by simp [apartB] at h
  | [x], k, h => by
    cases k with
    | zero => cases h
    | succ k => simp [apartB] at h
  | x :: y :: r, 0, h => by cases h
  | x :: y :: r, 1, h => by cases h
  | x :: y :: r, k + 2, h => by
    have h' : ((decide (x = 0) || decide (y = 0)) && apartB ((y :: r).take (k + 1))) = false := h
    show ((decide (x = 0) || decide (y = 0)) && apartB (y :: r)) = false
    rw [Bool.and_eq_false_iff] at h' ⊢
    exact h'.imp id fun q => apart_take_all (k + 1) q
theorem apart_step {ns : List Int} {i : Nat} {n b : Int} (h : ns[i]? = some n) (ha : apartB (ns.take i) = true) (hb : beforeOf 0 (ns.take i) = b) :
    ((!decide (b = 0) && !decide (n = 0)) = false → apartB (ns.take (i + 1)) = true) ∧ ((!decide (b = 0) && !decide (n = 0)) = true → apartB ns = false) := by
  have e : apartB (ns.take (i + 1)) = (decide (b = 0) || decide (n = 0)) := by
    rw [List.take_add_one, h, Option.toList, apart_snoc, ha, hb, Bool.true_and]
  refine ⟨fun z => ?_, fun z => apart_take_all (i + 1) ?_⟩
  · rw [e]
    revert z
    cases decide (b = 0) <;> cases decide (n = 0) <;> intro z <;> first | rfl | exact absurd z (by decide)
  · rw [e]
    revert z
    cases decide (b = 0) <;> cases decide (n = 0) <;> intro z <;> first | rfl | exact absurd z (by decide)
theorem neat_by_last (ns : List Int) {b : Int} (hb : beforeOf 0 ns = b) (ha : apartB ns = true) : neatB ns = (decide (ns = []) || !decide (b = 0)) := by
  rw [neat_iff, ha, Bool.true_and]
  rcases last_cases ns with h | ⟨r, x, h⟩
  · subst h
    rfl
  · subst h
    have e : b = x := by
      rw [← hb]
      unfold beforeOf
      simp
    subst e
    by_cases z : b = 0
    · subst z
      rw [ended_snoc0]
      have l := ended_len r
      have ne : ¬ ended r = r ++ [0] := fun q => by
        rw [q, List.length_append] at l
        simp at l
        omega
      simp [ne]
    · rw [ended_snoc r z]
      simp [z]
end Few
namespace Few
/-! a neat laying spoilt -/
theorem apart_mid : ∀ (a : List Int) {x y : Int} (b : List Int), x ≠ 0 → y ≠ 0 → apartB (a ++ x :: y :: b) = false
  | [], x, y, b, hx, hy => by
    show ((decide (x = 0) || decide (y = 0)) && apartB (y :: b)) = false
    rw [decide_eq_false hx, decide_eq_false hy]
    rfl
  | [z], x, y, b, hx, hy => by
    have ih := apart_mid [] b hx hy
    show ((decide (z = 0) || decide (x = 0)) && apartB (x :: y :: b)) = false
    have e : apartB (x :: y :: b) = false := ih
    rw [e, Bool.and_false]
  | z :: w :: r, x, y, b, hx, hy => by
    have ih := apart_mid (w :: r) b hx hy
    show ((decide (z = 0) || decide (w = 0)) && apartB (w :: (r ++ x :: y :: b))) = false
    have e : apartB (w :: (r ++ x :: y :: b)) = false := ih
    rw [e, Bool.and_false]
theorem neat_not_apart {l : List Int} (h : apartB l = false) : neatB l = false := by
  rw [neat_iff, h, Bool.false_and]
theorem ended_zeros (l : List Int) : ∀ n : Nat, ended (l ++ List.replicate n 0) = ended l
  | 0 => by simp
  | n + 1 => by
    rw [List.replicate_succ', ← List.append_assoc, ended_snoc0, ended_zeros l n]
theorem neat_zeros (l : List Int) (n : Nat) (h : 0 < n) : neatB (l ++ List.replicate n 0) = false := by
  rw [neat_iff, ended_zeros]
  have e := ended_len l
  have ne : ¬ ended l = l ++ List.replicate n 0 := fun z => by
    rw [z, List.length_append, List.length_replicate] at e
    omega
  rw [decide_eq_false ne, Bool.and_false]
/-- ended of a laying that is apart is neat -/
theorem apart_ended : ∀ {l : List Int}, apartB l = true → apartB (ended l) = true
  | [], _ => rfl
  | [x], _ => by
    show apartB (if ended [] = [] ∧ x = 0 then [] else x :: ended []) = true
    split <;> rfl
  | x :: y :: r, h => by
    have ih := apart_ended (apart_tail h)
    have t := apart_two h
    have e : ended (y :: r) = (if ended r = [] ∧ y = 0 then [] else y :: ended r) := rfl
    show apartB (if ended (y :: r) = [] ∧ x = 0 then [] else x :: ended (y :: r)) = true
    by_cases c : ended (y :: r) = [] ∧ x = 0
    · rw [if_pos c]
      rfl
    · rw [if_neg c]
      rw [e] at ih ⊢
      by_cases c2 : ended r = [] ∧ y = 0
      · rw [if_pos c2]
        rfl
      · rw [if_neg c2] at ih ⊢
        show ((decide (x = 0) || decide (y = 0)) && apartB (y :: ended r)) = true
        rw [ih, Bool.and_true, Bool.or_eq_true]
        exact t.imp decide_eq_true decide_eq_true
theorem ended_ended : ∀ l : List Int, ended (ended l) = ended l
  | [] => rfl
  | x :: r => by
    have ih := ended_ended r
    show ended (if ended r = [] ∧ x = 0 then [] else x :: ended r) = (if ended r = [] ∧ x = 0 then [] else x :: ended r)
    by_cases c : ended r = [] ∧ x = 0
    · rw [if_pos c]
      rfl
    · rw [if_neg c]
      show (if ended (ended r) = [] ∧ x = 0 then [] else x :: ended (ended r)) = x :: ended r
      rw [ih, if_neg c]
theorem neat_ended {l : List Int} (h : apartB l = true) : neatB (ended l) = true := by
  rw [neat_iff, apart_ended h, ended_ended, decide_eq_true rfl]
  rfl
theorem apart_zeros : ∀ n : Nat, apartB (List.replicate n 0) = true
  | 0 => rfl
  | 1 => rfl
  | n + 2 => by
    have ih := apart_zeros (n + 1)
    show ((decide ((0 : Int) = 0) || decide ((0 : Int) = 0)) && apartB (0 :: List.replicate n 0)) = true
    have e : apartB (0 :: List.replicate n 0) = true := ih
    rw [e]
    rfl
theorem before_snoc (l : List Int) (x : Int) : beforeOf 0 (l ++ [x]) = x := by
  unfold beforeOf
  simp
end Few
namespace Few
/-! parted -/
theorem parts_load (es : List Int) (j : Nat) : loadOf (es.drop j) * 2 ^ j + loadOf (es.take j) = loadOf es := by
  have h := load_append (es.take j) (es.drop j)
  rw [List.take_append_drop] at h
  rcases Nat.le_total j es.length with c | c
  · rw [List.length_take, Nat.min_eq_left c] at h
    rw [h, Int.mul_comm]
    omega
  · rw [List.drop_of_length_le c] at h ⊢
    have z : loadOf [] = 0 := rfl
    rw [z] at h ⊢
    rw [h]
    omega
theorem apart_take : ∀ {l : List Int} (k : Nat), apartB l = true → apartB (l.take k) = true := by
  intro l k h
  cases c : apartB (l.take k) with
  | true => rfl
  | false =>
    rw [apart_take_all k c] at h
    cases h
theorem apart_drop : ∀ {l : List Int} (k : Nat), apartB l = true → apartB (l.drop k) = true
  | [], k, h => by
    rw [List.drop_nil]
    exact h
  | x :: r, 0, h => h
  | x :: r, k + 1, h => apart_drop k (apart_tail h)
theorem low_bound {es : List Int} (h : Lay es) (ha : apartB es = true) (j : Nat) : 3 * (loadOf (es.take j)).natAbs < 2 ^ (j + 1) := by
  have b := apart_bound (lay_take h j) (apart_take j ha)
  have m : 2 ^ ((es.take j).length + 1) ≤ 2 ^ (j + 1) := Nat.pow_le_pow_right (by decide) (by rw [List.length_take]; omega)
  omega
end Few
/-! plans -/
inductive Wd where
  | dbl | put | tak
  deriving DecidableEq
namespace Few
def wstep (num : Int) (s : Int) : Wd → Int
  | .dbl => 2 * s
  | .put => s + num
  | .tak => s - num
/-- what a plan comes to with a number -/
def walkOf (num : Int) (ws : List Wd) : Int := ws.foldl (wstep num) 0
def costOf (ws : List Wd) : Nat := (ws.filter fun w => decide (w ≠ .dbl)).length
theorem walk_snoc (num : Int) (ws : List Wd) (w : Wd) : walkOf num (ws ++ [w]) = wstep num (walkOf num ws) w := by
  unfold walkOf
  rw [List.foldl_append]
  rfl
theorem cost_snoc (ws : List Wd) (w : Wd) : costOf (ws ++ [w]) = costOf ws + if w = .dbl then 0 else 1 := by
  unfold costOf
  rw [List.filter_append, List.length_append]
  by_cases h : w = .dbl
  · subst h
    rfl
  · rw [if_neg h]
    simp [h]
/-- one thing more of a laying, from its end on -/
def ptail (x : Int) : List Wd := if x = 1 then [.put] else if x = -1 then [.tak] else []
theorem ptail_1 : ptail 1 = [.put] := rfl
theorem ptail_0 : ptail 0 = [] := rfl
theorem ptail_m : ptail (-1) = [.tak] := rfl
def pstep (p : List Wd) (x : Int) : List Wd := (if p = [] then p else p ++ [.dbl]) ++ ptail x
def planAux (xs : List Int) : List Wd := xs.foldl pstep []
def planOf (n : Int) : List Wd := planAux (laid n).reverse
theorem plan_snoc (xs : List Int) (x : Int) : planAux (xs ++ [x]) = pstep (planAux xs) x := by
  unfold planAux
  rw [List.foldl_append]
  rfl
theorem pstep_walk (num : Int) {p : List Wd} {x : Int} (hx : Pm x) : walkOf num (pstep p x) = 2 * walkOf num p + x * num := by
  have e : walkOf num (if p = [] then p else p ++ [.dbl]) = 2 * walkOf num p := by
    by_cases h : p = []
    · rw [if_pos h, h]
      rfl
    · rw [if_neg h, walk_snoc]
      rfl
  unfold pstep
  rcases hx with z | z | z
  · rw [z, ptail_1, walk_snoc, e]
    show _ + num = _ + 1 * num
    omega
  · rw [z, ptail_0, List.append_nil, e]
    omega
  · rw [z, ptail_m, walk_snoc, e]
    show _ - num = _ + -1 * num
    omega
theorem pstep_cost {p : List Wd} {x : Int} (hx : Pm x) : costOf (pstep p x) = costOf p + if x = 0 then 0 else 1 := by
  have e : costOf (if p = [] then p else p ++ [.dbl]) = costOf p := by
    by_cases h : p = []
    · rw [if_pos h]
    · rw [if_neg h, cost_snoc, if_pos rfl]
      rfl
  unfold pstep
  rcases hx with z | z | z
  · rw [z, ptail_1, cost_snoc, e]
    rfl
  · rw [z, ptail_0, List.append_nil, e]
    rfl
  · rw [z, ptail_m, cost_snoc, e]
    rfl
theorem pstep_len (p : List Wd) (x : Int) : (pstep p x).length ≤ p.length + 2 := by
  unfold pstep
  rw [List.length_append]
  have a : (if p = [] then p else p ++ [.dbl]).length ≤ p.length + 1 := by
    split
    · omega
    · rw [List.length_append]
      exact Nat.le_refl _
  have b : (ptail x).length ≤ 1 := by
    unfold ptail
    split
    · exact Nat.le_refl _
    · split
      · exact Nat.le_refl _
      · exact Nat.zero_le _
  omega
theorem plan_aux (num : Int) : ∀ {l : List Int}, Lay l → walkOf num (planAux l.reverse) = loadOf l * num ∧ costOf (planAux l.reverse) = used l ∧ (planAux l.reverse).length ≤ 2 * l.length
  | [], _ => ⟨by show (0 : Int) = 0 * num; omega, rfl, Nat.le_refl _⟩
  | x :: r, h => by
    obtain ⟨a, b, c⟩ := plan_aux num h.tail
    have px := h.head
    have d := pstep_len (planAux r.reverse) x
    rw [List.reverse_cons, plan_snoc, pstep_walk num px, pstep_cost px, a, b, used_cons, List.length_cons]
    refine ⟨?_, by omega, by omega⟩
    show 2 * (loadOf r * num) + x * num = (2 * loadOf r + x) * num
    rw [Int.add_mul, Int.mul_assoc]
theorem plan_walk (num n : Int) : walkOf num (planOf n) = n * num := by
  have h := (plan_aux num (lay_laid n)).1
  rw [load_laid] at h
  exact h
theorem plan_cost (n : Int) : costOf (planOf n) = used (laid n) := (plan_aux 1 (lay_laid n)).2.1
theorem plan_len (n : Int) : (planOf n).length ≤ 2 * (laid n).length := (plan_aux 1 (lay_laid n)).2.2
/-- no plan that comes to the same load costs less -/
theorem plan_least (ws : List Wd) : w (walkOf 1 ws) ≤ costOf ws := by
  have key : ∀ (k : Nat) (ws : List Wd), ws.length = k → w (walkOf 1 ws) ≤ costOf ws := by
    intro k
    induction k with
    | zero =>
      intro ws h
      have e : ws = [] := List.length_eq_zero_iff.mp h
      rw [e]
      show w 0 ≤ 0
      rw [w_zero]
      exact Nat.le_refl _
    | succ k ih =>
      intro ws h
      rcases List.eq_nil_or_concat ws with z | ⟨r, x, z⟩
      · rw [z] at h
        cases h
      · have z' : ws = r ++ [x] := by rw [z]; simp
        subst z'
        have hr : r.length = k := by
          rw [List.length_append] at h
          simp at h
          exact h
        have q := ih r hr
        rw [walk_snoc, cost_snoc]
        cases x with
        | dbl =>
          show w (2 * walkOf 1 r) ≤ costOf r + 0
          rw [w_even]
          exact q
        | put =>
          have s := w_put (walkOf 1 r)
          show w (walkOf 1 r + 1) ≤ costOf r + 1
          omega
        | tak =>
          have s := w_take (walkOf 1 r)
          show w (walkOf 1 r - 1) ≤ costOf r + 1
          omega
  exact key _ ws rfl
theorem plan_none_less (ws : List Wd) : costOf (planOf (walkOf 1 ws)) ≤ costOf ws := by
  rw [plan_cost]
  exact plan_least ws
theorem walk_bound (ws : List Wd) : (walkOf 1 ws).natAbs < 2 ^ (2 * ws.length + 1) := by
  have key : ∀ (k : Nat) (ws : List Wd), ws.length = k → (walkOf 1 ws).natAbs < 2 ^ (2 * k + 1) := by
    intro k
    induction k with
    | zero =>
      intro ws h
      have e : ws = [] := List.length_eq_zero_iff.mp h
      rw [e]
      decide
    | succ k ih =>
      intro ws h
      rcases List.eq_nil_or_concat ws with z | ⟨r, x, z⟩
      · rw [z] at h
        cases h
      · have z' : ws = r ++ [x] := by rw [z]; simp
        subst z'
        have hr : r.length = k := by
          rw [List.length_append] at h
          simp at h
          exact h
        have q := ih r hr
        rw [walk_snoc, show 2 * (k + 1) + 1 = (2 * k + 1) + 1 + 1 by omega, Nat.pow_succ, Nat.pow_succ]
        have pos := Nat.two_pow_pos (2 * k + 1)
        generalize 2 ^ (2 * k + 1) = M at q pos
        cases x with
        | dbl =>
          show (2 * walkOf 1 r).natAbs < _
          omega
        | put =>
          show (walkOf 1 r + 1).natAbs < _
          omega
        | tak =>
          show (walkOf 1 r - 1).natAbs < _
          omega
  exact key _ ws rfl
end Few

namespace Fw
open PySem PySem.Spec PyProof.Rows L2 Evl
/-! addresses of the program's classes and constants -/
structure Ad where
  stone : Addr
  laying : Addr
  load : Addr
  plan : Addr
  text : Addr
  deed : Addr
  scale : Addr
  words : Addr
def A0 : Ad := ⟨0, 0, 0, 0, 0, 0, 0, 0⟩
/-! short words for what the operators' rules ask -/
abbrev rAddI : R2 := rI0 fun i j => .int (i + j)
abbrev rSubI : R2 := rI0 fun i j => .int (i - j)
abbrev rMulI : R2 := rI CMul fun i j => .int (i * j)
abbrev rMulW : R2 := rI CMulW fun i j => .int (i * j)
abbrev rModI : R2 := rI (fun _ j => 0 < j) fun i j => .int (i % j)
abbrev rDivI : R2 := rI CDiv fun i j => .int (i / j)
abbrev rPowI : R2 := rI CPow fun i j => .int (i ^ j.toNat)
abbrev rLtI : R2 := rI0 fun i j => .bl (decide (i < j))
abbrev rLeI : R2 := rI0 fun i j => .bl (decide (i ≤ j))
abbrev rGtI : R2 := rI0 fun i j => .bl (decide (j < i))
abbrev rGeI : R2 := rI0 fun i j => .bl (decide (j ≤ i))
abbrev rNegI : V → Hp → VK → Prop := rU fun i => .int (-i)
abbrev rIsNn : R2 := fun x y H Q => y = .non ∧ Q (.bl (decide (x = .non))) H
abbrev rNotNn : R2 := fun x y H Q => y = .non ∧ Q (.bl (!decide (x = .non))) H
abbrev rAbsI : List V → Hp → VK → Prop := fun xs H Q => ∃ i, xs = [.int i] ∧ Q (.int (if i < 0 then -i else i)) H
abbrev rIntB : List V → Hp → VK → Prop := fun xs H Q => (∃ i, xs = [.int i] ∧ Q (.int i) H) ∨ ∃ k, xs = [.bl k] ∧ Q (.int (if k then 1 else 0)) H
/-- raise of an own class's new instance -/
def tRaiseC (C : Addr) (E : XK) : TS := fun _ _ H => E (.ref C) none H
section
variable {K : PySem.W.Frag} {σ : L2.St} {H H' : Hp} {ta tb te tx : TE} {t u : TT} {x y z v : V} {r : R2}
/-! a value with something true of it -/
def EvX (te : TE) (σ : L2.St) (H : Hp) (P : V → Hp → Prop) : Prop := ∀ H1, Ex H H1 → ∀ Q : VK, (∀ v H2, Ex H1 H2 → P v H2 → Q v H2) → te σ H1 Q
def EaX (ta : TA) (σ : L2.St) (H : Hp) (P : List V → Hp → Prop) : Prop := ∀ H1, Ex H H1 → ∀ Q : List V → Hp → Prop, (∀ vs H2, Ex H1 H2 → P vs H2 → Q vs H2) → ta σ H1 Q
/-- what stays true while the heap grows -/
def Mono (P : V → Hp → Prop) : Prop := ∀ v H H', Ex H H' → P v H → P v H'
/-- a list of whole numbers -/
def IL (K : PySem.W.Frag) (ns : List Int) (v : V) (H : Hp) : Prop := ∃ a, v = .ref a ∧ SqL K H a (ns.map V.int)
/-- a list of values -/
def VL (K : PySem.W.Frag) (xs : List V) (v : V) (H : Hp) : Prop := ∃ a, v = .ref a ∧ SqL K H a xs
/-- a list that can be written -/
def ML (xs : List V) (v : V) (H : Hp) : Prop := ∃ a, v = .ref a ∧ H a = some (.lst xs)
def Is (x : V) (v : V) (_ : Hp) : Prop := v = x
theorem mono_is : Mono (Is x) := fun _ _ _ _ h => h
theorem mono_il {ns : List Int} : Mono (IL K ns) := fun _ _ _ e ⟨a, h, s⟩ => ⟨a, h, ex_l e s⟩
theorem mono_vl {xs : List V} : Mono (VL K xs) := fun _ _ _ e ⟨a, h, s⟩ => ⟨a, h, ex_l e s⟩
theorem mono_ml {xs : List V} : Mono (ML xs) := fun _ _ _ e ⟨a, h, s⟩ => ⟨a, h, e _ _ s⟩
theorem x_v (h : Ev te σ H v) : EvX te σ H (Is v) := fun H1 e Q q => h H1 e Q fun H2 e2 => q v H2 e2 rfl
theorem x_of {P : V → Hp → Prop} (h : Ev te σ H v) (m : Mono P) (p : P v H) : EvX te σ H P := fun H1 e Q q => h H1 e Q fun H2 e2 => q v H2 e2 (m _ _ _ (e.trans e2) p)
theorem x_il {a : Addr} {ns : List Int} (h : Ev te σ H (.ref a)) (p : SqL K H a (ns.map V.int)) : EvX te σ H (IL K ns) := x_of h mono_il ⟨a, rfl, p⟩
theorem x_ilL {ns : List Int} (h : EvL te σ H (ns.map V.int)) : EvX te σ H (IL K ns) := fun H1 e Q q => h H1 e Q fun p H2 _ e2 hp => q _ H2 e2 ⟨p, rfl, sq_of hp⟩
theorem x_vl {a : Addr} {xs : List V} (h : Ev te σ H (.ref a)) (p : SqL K H a xs) : EvX te σ H (VL K xs) := x_of h mono_vl ⟨a, rfl, p⟩
theorem x_vlL {xs : List V} (h : EvL te σ H xs) : EvX te σ H (VL K xs) := fun H1 e Q q => h H1 e Q fun p H2 _ e2 hp => q _ H2 e2 ⟨p, rfl, sq_of hp⟩
theorem x_ml {a : Addr} {xs : List V} (h : Ev te σ H (.ref a)) (p : H a = some (.lst xs)) : EvX te σ H (ML xs) := x_of h mono_ml ⟨a, rfl, p⟩
theorem x_mlL {xs : List V} (h : EvL te σ H xs) : EvX te σ H (ML xs) := fun H1 e Q q => h H1 e Q fun p H2 _ e2 hp => q _ H2 e2 ⟨p, rfl, hp⟩
theorem xa_nil : EaX tNil σ H (fun vs _ => vs = []) := fun H1 _ _ q => q _ H1 (Ex.refl H1) rfl
theorem xa_cons {tr : TA} {P : V → Hp → Prop} {R : List V → Hp → Prop} (h : EvX te σ H P) (m : Mono P) (hr : EaX tr σ H R) : EaX (tCons te tr) σ H (fun vs H => ∃ x r, vs = x :: r ∧ P x H ∧ R r H) := fun H1 e Q q =>
  h H1 e _ fun v H2 e2 hp => hr H2 (e.trans e2) _ fun vs H3 e3 hR => q _ H3 (e2.trans e3) ⟨v, vs, rfl, m _ _ _ e3 hp, hR⟩
theorem xa_1 {P : V → Hp → Prop} (h : EvX te σ H P) : EaX (tCons te tNil) σ H (fun vs H => ∃ x, vs = [x] ∧ P x H) := fun H1 e Q q =>
  h H1 e _ fun v H2 e2 hp => q _ H2 e2 ⟨v, rfl, hp⟩
theorem xa_2 {P R : V → Hp → Prop} (h : EvX te σ H P) (m : Mono P) (h2 : EvX tx σ H R) : EaX (tCons te (tCons tx tNil)) σ H (fun vs H => ∃ x y, vs = [x, y] ∧ P x H ∧ R y H) := fun H1 e Q q =>
  h H1 e _ fun v H2 e2 hp => h2 H2 (e.trans e2) _ fun w H3 e3 hr => q _ H3 (e2.trans e3) ⟨v, w, rfl, m _ _ _ e3 hp, hr⟩
/-! calls -/
theorem x_call1 {sp : Sp} {E : XK} {P R : V → Hp → Prop} (h : EvX te σ H P) (hs : ∀ x H1, Ex H H1 → P x H1 → ∀ Q : VK, (∀ v H2, Ex H1 H2 → R v H2 → Q v H2) → sp [x] H1 Q E) : EvX (tCall sp [] E (tCons te tNil)) σ H R := fun H1 e Q q =>
  h H1 e _ fun v H2 e2 hp => hs v H2 (e.trans e2) hp Q fun v H3 e3 hr => q v H3 (e2.trans e3) hr
theorem x_call2 {sp : Sp} {E : XK} {P P' R : V → Hp → Prop} (h : EvX te σ H P) (m : Mono P) (h2 : EvX tx σ H P') (hs : ∀ x y H1, Ex H H1 → P x H1 → P' y H1 → ∀ Q : VK, (∀ v H2, Ex H1 H2 → R v H2 → Q v H2) → sp [x, y] H1 Q E) : EvX (tCall sp [] E (tCons te (tCons tx tNil))) σ H R := fun H1 e Q q =>
  h H1 e _ fun v H2 e2 hp => h2 H2 (e.trans e2) _ fun w H3 e3 hp2 => hs v w H3 ((e.trans e2).trans e3) (m _ _ _ e3 hp) hp2 Q fun v H4 e4 hr => q v H4 ((e2.trans e3).trans e4) hr
theorem ev_call1 {sp : Sp} {E : XK} {P : V → Hp → Prop} (h : EvX te σ H P) (hs : ∀ x H1, Ex H H1 → P x H1 → ∀ Q : VK, (∀ H2, Ex H1 H2 → Q z H2) → sp [x] H1 Q E) : Ev (tCall sp [] E (tCons te tNil)) σ H z := fun H1 e Q q =>
  h H1 e _ fun v H2 e2 hp => hs v H2 (e.trans e2) hp Q fun H3 e3 => q H3 (e2.trans e3)
theorem ev_call2 {sp : Sp} {E : XK} {P P' : V → Hp → Prop} (h : EvX te σ H P) (m : Mono P) (h2 : EvX tx σ H P') (hs : ∀ x y H1, Ex H H1 → P x H1 → P' y H1 → ∀ Q : VK, (∀ H2, Ex H1 H2 → Q z H2) → sp [x, y] H1 Q E) : Ev (tCall sp [] E (tCons te (tCons tx tNil))) σ H z := fun H1 e Q q =>
  h H1 e _ fun v H2 e2 hp => h2 H2 (e.trans e2) _ fun w H3 e3 hp2 => hs v w H3 ((e.trans e2).trans e3) (m _ _ _ e3 hp) hp2 Q fun H4 e4 => q H4 ((e2.trans e3).trans e4)
theorem el_call1 {sp : Sp} {E : XK} {P : V → Hp → Prop} {xs : List V} (h : EvX te σ H P) (hs : ∀ x H1, Ex H H1 → P x H1 → ∀ Q : VK, (∀ p H2, H1 p = none → Ex H1 H2 → H2 p = some (.lst xs) → Q (.ref p) H2) → sp [x] H1 Q E) : EvL (tCall sp [] E (tCons te tNil)) σ H xs := fun H1 e Q q =>
  h H1 e _ fun v H2 e2 hp => hs v H2 (e.trans e2) hp Q fun p H3 hn e3 hx => q p H3 (fresh_back e2 hn) (e2.trans e3) hx
theorem el_call2 {sp : Sp} {E : XK} {P P' : V → Hp → Prop} {xs : List V} (h : EvX te σ H P) (m : Mono P) (h2 : EvX tx σ H P') (hs : ∀ x y H1, Ex H H1 → P x H1 → P' y H1 → ∀ Q : VK, (∀ p H2, H1 p = none → Ex H1 H2 → H2 p = some (.lst xs) → Q (.ref p) H2) → sp [x, y] H1 Q E) : EvL (tCall sp [] E (tCons te (tCons tx tNil))) σ H xs := fun H1 e Q q =>
  h H1 e _ fun v H2 e2 hp => h2 H2 (e.trans e2) _ fun w H3 e3 hp2 => hs v w H3 ((e.trans e2).trans e3) (m _ _ _ e3 hp) hp2 Q fun p H4 hn e4 hx => q p H4 (fresh_back (e2.trans e3) hn) ((e2.trans e3).trans e4) hx
/-! operations on values of which something is true -/
theorem ev_opX {P P' : V → Hp → Prop} (ha : EvX ta σ H P) (m : Mono P) (hb : EvX tb σ H P') (hr : ∀ x y H1, Ex H H1 → P x H1 → P' y H1 → RV r x y H1 z) : Ev (tOp r ta tb) σ H z := fun H1 e Q q =>
  ha H1 e _ fun x H2 e2 p => hb H2 (e.trans e2) _ fun y H3 e3 p' => hr x y H3 ((e.trans e2).trans e3) (m _ _ _ e3 p) p' H3 (Ex.refl H3) Q fun H4 e4 => q H4 ((e2.trans e3).trans e4)
theorem ev_cbX1 {r : List V → Hp → VK → Prop} {P : V → Hp → Prop} (h : EvX te σ H P) (hr : ∀ x H1, Ex H H1 → P x H1 → RC r [x] H1 z) : Ev (tCB r (tCons te tNil)) σ H z := fun H1 e Q q =>
  h H1 e _ fun v H2 e2 hp => hr v H2 (e.trans e2) hp H2 (Ex.refl H2) Q fun H3 e3 => q H3 (e2.trans e3)
theorem el_cbX1 {r : List V → Hp → VK → Prop} {P : V → Hp → Prop} {xs : List V} (h : EvX te σ H P) (hr : ∀ x H1, Ex H H1 → P x H1 → RCL r [x] H1 xs) : EvL (tCB r (tCons te tNil)) σ H xs := fun H1 e Q q =>
  h H1 e _ fun v H2 e2 hp => hr v H2 (e.trans e2) hp H2 (Ex.refl H2) Q fun p H3 hn e3 hx => q p H3 (fresh_back e2 hn) (e2.trans e3) hx
theorem rv_div {i j : Int} (h : 0 < j ∧ j < 1073741824) : RV rDivI (.int i) (.int j) H (.int (i / j)) := rv_I h
theorem rv_mod {i j : Int} (h : 0 < j) : RV rModI (.int i) (.int j) H (.int (i % j)) := rv_I h
theorem rv_mul {i j : Int} (h : CMul i j) : RV rMulI (.int i) (.int j) H (.int (i * j)) := rv_I h
theorem cmul_l {i j : Int} (h : -(2 ^ 64) < i ∧ i < 2 ^ 64) : CMul i j := .inl h
theorem cmul_r {i j : Int} (h : -(2 ^ 64) < j ∧ j < 2 ^ 64) : CMul i j := .inr h
theorem rv_isN : RV rIsNn x .non H (.bl (decide (x = .non))) := fun H1 _ _ q => ⟨rfl, q H1 (Ex.refl H1)⟩
theorem rv_notN : RV rNotNn x .non H (.bl (!decide (x = .non))) := fun H1 _ _ q => ⟨rfl, q H1 (Ex.refl H1)⟩
theorem rv_isB {a b : Bool} : RV rIsB (.bl a) (.bl b) H (.bl (decide (a = b))) := fun H1 _ _ q => ⟨a, b, rfl, rfl, q H1 (Ex.refl H1)⟩
theorem rv_notB {a b : Bool} : RV rNotB (.bl a) (.bl b) H (.bl (!decide (a = b))) := fun H1 _ _ q => ⟨a, b, rfl, rfl, q H1 (Ex.refl H1)⟩
/-- len of a list of which something is known -/
theorem ev_lenX {ns : List Int} (h : EvX te σ H (IL K ns)) : Ev (tCB (rLenS K) (tCons te tNil)) σ H (.int (ns.length : Int)) := ev_cbX1 h fun x H1 _ ⟨a, e, s⟩ H2 e2 Q q => ⟨a, _, by rw [e], .inl (ex_l e2 s), by rw [List.length_map]; exact q H2 (Ex.refl H2)⟩
theorem ev_lenV {xs : List V} (h : EvX te σ H (VL K xs)) : Ev (tCB (rLenS K) (tCons te tNil)) σ H (.int (xs.length : Int)) := ev_cbX1 h fun x H1 _ ⟨a, e, s⟩ H2 e2 Q q => ⟨a, _, by rw [e], .inl (ex_l e2 s), q H2 (Ex.refl H2)⟩
/-- list(xs) -/
theorem el_listX {xs : List V} (h : EvX te σ H (VL K xs)) : EvL (tCB (rListS K) (tCons te tNil)) σ H xs := el_cbX1 h fun x H1 _ ⟨a, e, s⟩ H2 e2 Q q => ⟨a, _, by rw [e], .inl (ex_l e2 s), fun l hl => q l _ hl (Ex.new hl) upd_same⟩
/-! two lists of whole numbers held beside one another -/
theorem dps {ns : List Int} {H : Hp} : DpAll K H (ns.map V.int) (ns.map PyData.int) := by
  induction ns with
  | nil => exact .nil
  | cons n r ih => exact .cons (.int n) ih
theorem eqv_ints : ∀ xs ys : List Int, PyData.eqvAll (xs.map PyData.int) (ys.map PyData.int) = decide (xs = ys)
  | [], [] => rfl
  | [], _ :: _ => by simp [PyData.eqvAll]
  | _ :: _, [] => by simp [PyData.eqvAll]
  | x :: xs, y :: ys => by
    have ih := eqv_ints xs ys
    show (PyData.eqv (.int x) (.int y) && PyData.eqvAll (xs.map PyData.int) (ys.map PyData.int)) = _
    rw [ih]
    have e : PyData.eqv (.int x) (.int y) = (x == y) := by simp [PyData.eqv]
    rw [e]
    by_cases h1 : x = y
    · subst h1
      by_cases h2 : xs = ys
      · subst h2
        simp
      · simp [h2]
    · simp [h1]
theorem canLay_ints : ∀ xs : List Int, PyData.canLayAll0 (xs.map PyData.int) = true
  | [] => rfl
  | x :: xs => by
    have ih := canLay_ints xs
    show (PyData.canLay0 (.int x) && PyData.canLayAll0 (xs.map PyData.int)) = true
    rw [ih]
    simp [PyData.canLay0]
theorem depth_ints : ∀ xs : List Int, PyData.depthAll (xs.map PyData.int) = 0
  | [] => rfl
  | x :: xs => by
    have ih := depth_ints xs
    show max (PyData.depth (.int x)) (PyData.depthAll (xs.map PyData.int)) = 0
    rw [ih]
    simp [PyData.depth]
theorem shaped_ints (xs : List Int) : SeqAt.shaped (.list (xs.map PyData.int)) = true := by
  unfold SeqAt.shaped
  have a : PyData.canLay0 (.list (xs.map PyData.int)) = true := canLay_ints xs
  have b : PyData.depth (.list (xs.map PyData.int)) = 1 := by
    show PyData.depthAll (xs.map PyData.int) + 1 = 1
    rw [depth_ints]
  rw [a, b]
  rfl
theorem rv_eqI {xs ys : List Int} (hx : IL K xs x H) (hy : IL K ys y H) : RV (rEqD K) x y H (.bl (decide (xs = ys))) := fun H1 e Q q => by
  obtain ⟨a, rfl, ha⟩ := hx
  obtain ⟨b, rfl, hb⟩ := hy
  refine ⟨_, _, .lst (ex_l e ha) dps, .lst (ex_l e hb) dps, shaped_ints _, shaped_ints _, ?_⟩
  have z : PyData.eqv (.list (xs.map PyData.int)) (.list (ys.map PyData.int)) = decide (xs = ys) := eqv_ints xs ys
  rw [z]
  exact q H1 (Ex.refl H1)
theorem rv_neI {xs ys : List Int} (hx : IL K xs x H) (hy : IL K ys y H) : RV (rNeD K) x y H (.bl (!decide (xs = ys))) := fun H1 e Q q => by
  obtain ⟨a, rfl, ha⟩ := hx
  obtain ⟨b, rfl, hb⟩ := hy
  refine ⟨_, _, .lst (ex_l e ha) dps, .lst (ex_l e hb) dps, shaped_ints _, shaped_ints _, ?_⟩
  have z : PyData.eqv (.list (xs.map PyData.int)) (.list (ys.map PyData.int)) = decide (xs = ys) := eqv_ints xs ys
  rw [z]
  exact q H1 (Ex.refl H1)
theorem ev_eqI {xs ys : List Int} (ha : EvX ta σ H (IL K xs)) (hb : EvX tb σ H (IL K ys)) : Ev (tOp (rEqD K) ta tb) σ H (.bl (decide (xs = ys))) := ev_opX ha mono_il hb fun _ _ _ _ p q => rv_eqI p q
theorem ev_neI {xs ys : List Int} (ha : EvX ta σ H (IL K xs)) (hb : EvX tb σ H (IL K ys)) : Ev (tOp (rNeD K) ta tb) σ H (.bl (!decide (xs = ys))) := ev_opX ha mono_il hb fun _ _ _ _ p q => rv_neI p q
/-- an item -/
theorem map_at {ns : List Int} {j : Nat} {n : Int} (h : ns[j]? = some n) : (ns.map V.int)[j]? = some (.int n) := by
  rw [List.getElem?_map, h]
  rfl
theorem of_map {ns : List Int} {j : Nat} {v : V} (h : (ns.map V.int)[j]? = some v) : ∃ n, ns[j]? = some n ∧ v = .int n := by
  rw [List.getElem?_map] at h
  cases e : ns[j]? with
  | none =>
    rw [e] at h
    cases h
  | some n =>
    rw [e] at h
    exact ⟨n, rfl, (Option.some.inj h).symm⟩
theorem ev_ix {ns : List Int} {j : Nat} {n i : Int} (ha : EvX ta σ H (IL K ns)) (hb : Ev tb σ H (.int i)) (hi : i = (j : Int)) (h : ns[j]? = some n) : Ev (tOp (rIxL K) ta tb) σ H (.int n) :=
  ev_opX ha mono_il (x_v hb) fun x y H1 _ ⟨a, e, s⟩ ey => by
    subst e
    cases ey
    exact rv_ixL s (at_of hi (map_at h))
theorem ev_ixV {xs : List V} {j : Nat} {i : Int} (ha : EvX ta σ H (VL K xs)) (hb : Ev tb σ H (.int i)) (hi : i = (j : Int)) (h : xs[j]? = some v) : Ev (tOp (rIxL K) ta tb) σ H v :=
  ev_opX ha mono_vl (x_v hb) fun x y H1 _ ⟨a, e, s⟩ ey => by
    subst e
    cases ey
    exact rv_ixL s (at_of hi h)
/-! new lists out of others -/
theorem el_catX {xs ys : List V} (ha : EvX ta σ H (ML xs)) (hb : EvX tb σ H (ML ys)) (hz : xs.length + ys.length ≤ 100000) : EvL (tOp rCat ta tb) σ H (xs ++ ys) := fun H1 e Q q =>
  ha H1 e _ fun x H2 e2 ⟨a, ex, ha⟩ => hb H2 (e.trans e2) _ fun y H3 e3 ⟨b, ey, hb⟩ =>
    ⟨a, b, xs, ys, ex, ey, e3 _ _ ha, hb, sz_of hz, fun p hp => q p _ (fresh_back (e2.trans e3) hp) ((e2.trans e3).trans (Ex.new hp)) upd_same⟩
theorem el_repX {xs : List V} {k : Int} (ha : EvX ta σ H (ML xs)) (hb : Ev tb σ H (.int k)) (h1 : -100000 ≤ k ∧ k ≤ 100000) (hz : xs.length * k.toNat ≤ 100000) : EvL (tOp rRep ta tb) σ H (List.replicate k.toNat xs).flatten := fun H1 e Q q =>
  ha H1 e _ fun x H2 e2 ⟨a, ex, ha⟩ => hb H2 (e.trans e2) _ fun H3 e3 =>
    ⟨a, k, xs, ex, rfl, e3 _ _ ha, by omega, by omega, sz_of hz, fun p hp => q p _ (fresh_back (e2.trans e3) hp) ((e2.trans e3).trans (Ex.new hp)) upd_same⟩
/-! loops over reversed(xs) -/
variable {D : Ends} {tu tw tz : TS} {g : TG}
theorem for_rv {a : Addr} {xs : List V} {σ : L2.St} (Pv : Nat → L2.St → Hp → Prop) (h0 : Pv 0 σ H) (hl : ∀ i σ H, i ≤ xs.length → Pv i σ H → SqL K H a xs)
    (hs : ∀ i x σ H, i < xs.length → xs[xs.length - 1 - i]? = some x → Pv i σ H → g x σ H fun σ2 H2 => tu { D with nx := Pv (i + 1), ct := Pv (i + 1), bk := D.nx } σ2 H2) (hd : ∀ σ H, Pv xs.length σ H → D.nx σ H) :
    ∃ W : Nat → Nat → L2.St → Hp → Prop, (∃ m, W 0 m σ H) ∧ ∀ i m σ H, W i m σ H → ((Itv K a xs.length).stop i H ∧ D.nx σ H) ∨ ((Itv K a xs.length).go i H ∧ ∃ Nx : L2.St → Hp → Prop, (∀ σ' H', Nx σ' H' → ∃ m', m' < m ∧ W (i + 1) m' σ' H') ∧
      ∀ x H', (Itv K a xs.length).yld i H x H' → g x σ H' fun σ2 H2 => tu { D with nx := Nx, ct := Nx, bk := D.nx } σ2 H2) := by
  refine ⟨fun i m σ H => m = xs.length - i ∧ i ≤ xs.length ∧ Pv i σ H, ⟨xs.length, by omega, Nat.zero_le _, h0⟩, ?_⟩
  rintro i m σ H ⟨rfl, hi, p⟩
  have hq := hl i σ H hi p
  by_cases hlt : i < xs.length
  · have hx : xs[xs.length - 1 - i]? = some (xs[xs.length - 1 - i]'(by omega)) := List.getElem?_eq_getElem (by omega)
    refine .inr ⟨⟨hlt, xs, _, hq, hx⟩, Pv (i + 1), fun σ' H' p' => ⟨xs.length - (i + 1), by omega, rfl, hlt, p'⟩, fun x H' y => ?_⟩
    obtain ⟨e, y⟩ := y
    subst e
    have z := y xs hq
    exact hs i x σ _ hlt z p
  · have e : i = xs.length := by omega
    subst e
    exact .inl ⟨Nat.le_refl _, hd σ H p⟩
end
/-! ### loops whose turns change nothing but slots -/
section
variable {K : PySem.W.Frag} {σ : L2.St} {H H' : Hp} {ta : TA} {tb te tx tl : TE} {t u : TT} {x y z v : V} {r : R2} {D : Ends} {tu tw tz : TS} {g : TG}
/-- the slots are as I says, the heap has only grown -/
def NX (H : Hp) (I : L2.St → Prop) : L2.St → Hp → Prop := fun σ2 H2 => I σ2 ∧ Ex H H2
theorem s_forP {xs : List V} {j : Nat} (h : EvX tl σ H (VL K xs)) (I : Nat → L2.St → Prop) (h0 : I 0 σ)
    (hs : ∀ H1 i x σ' H', Ex H H1 → Ex H1 H' → xs[i]? = some x → I i σ' → tu { D with nx := NX H1 (I (i + 1)), ct := NX H1 (I (i + 1)), bk := D.nx } (σ'.set j (some x)) H')
    (hd : ∀ σ' H', Ex H H' → I xs.length σ' → D.nx σ' H') : tFor (iList K tl) (gName j) tu D σ H :=
  h H (Ex.refl H) _ fun v H1 e1 ⟨a, ev, hq⟩ => ⟨a, ev, ⟨xs, hq⟩, for_list (K := K) (a := a) (xs := xs) (fun i => NX H1 (I i)) ⟨h0, Ex.refl H1⟩ (fun i σ' H' _ p => ex_l p.2 hq) (fun i x σ' H' hx p => hs H1 i x σ' H' e1 p.2 hx p.1) (fun σ' H' p => hd σ' H' (e1.trans p.2) p.1)⟩
theorem s_forRvP {xs : List V} {j : Nat} (h : EvX tl σ H (VL K xs)) (I : Nat → L2.St → Prop) (h0 : I 0 σ)
    (hs : ∀ H1 i x σ' H', Ex H H1 → Ex H1 H' → i < xs.length → xs[xs.length - 1 - i]? = some x → I i σ' → tu { D with nx := NX H1 (I (i + 1)), ct := NX H1 (I (i + 1)), bk := D.nx } (σ'.set j (some x)) H')
    (hd : ∀ σ' H', Ex H H' → I xs.length σ' → D.nx σ' H') : tFor (iRev K (tCons tl tNil)) (gName j) tu D σ H :=
  h H (Ex.refl H) _ fun v H1 e1 ⟨a, ev, hq⟩ => ⟨a, xs, by rw [ev], hq, for_rv (fun i => NX H1 (I i)) ⟨h0, Ex.refl H1⟩ (fun i σ' H' _ p => ex_l p.2 hq) (fun i x σ' H' hi hx p => hs H1 i x σ' H' e1 p.2 hi hx p.1) (fun σ' H' p => hd σ' H' (e1.trans p.2) p.1)⟩
theorem s_forRgP {n : Int} {j : Nat} (h : EvA ta σ H [.int n]) (hn : 0 ≤ n ∧ n ≤ 100000) (I : Nat → L2.St → Prop) (h0 : I 0 σ)
    (hs : ∀ H1 (i : Nat) σ' H', Ex H H1 → Ex H1 H' → (i : Int) < n → I i σ' → tu { D with nx := NX H1 (I (i + 1)), ct := NX H1 (I (i + 1)), bk := D.nx } (σ'.set j (some (.int (i : Int)))) H')
    (hd : ∀ σ' H', Ex H H' → I n.toNat σ' → D.nx σ' H') : tFor (iRng1 ta) (gName j) tu D σ H :=
  s_forR1 h hn (fun i => NX H (I i)) (fun H1 e => ⟨h0, e⟩) (fun i σ' H' hi p => hs H i σ' H' (Ex.refl H) p.2 hi p.1) (fun σ' H' p => hd σ' H' p.2 p.1)
theorem s_forRg2P {lo n : Int} {j : Nat} (h : EvA ta σ H [.int lo, .int n]) (hn : 0 ≤ lo ∧ lo ≤ 100000 ∧ -100000 ≤ n ∧ n ≤ 100000) (I : Nat → L2.St → Prop) (h0 : I 0 σ)
    (hs : ∀ H1 (i : Nat) σ' H', Ex H H1 → Ex H1 H' → lo + (i : Int) < n → I i σ' → tu { D with nx := NX H1 (I (i + 1)), ct := NX H1 (I (i + 1)), bk := D.nx } (σ'.set j (some (.int (lo + (i : Int))))) H')
    (hd : ∀ σ' H', Ex H H' → I (n - lo).toNat σ' → D.nx σ' H') : tFor (iRng2 ta) (gName j) tu D σ H :=
  s_forR2 h hn (fun i => NX H (I i)) (fun H1 e => ⟨h0, e⟩) (fun i σ' H' hi p => hs H i σ' H' (Ex.refl H) p.2 hi p.1) (fun σ' H' p => hd σ' H' p.2 p.1)
/-- .. and the rest of the block behind -/
theorem q_forP {xs : List V} {j : Nat} (h : EvX tl σ H (VL K xs)) (I : Nat → L2.St → Prop) (h0 : I 0 σ)
    (hs : ∀ H1 i x σ' H', Ex H H1 → Ex H1 H' → xs[i]? = some x → I i σ' → tu { D with nx := NX H1 (I (i + 1)), ct := NX H1 (I (i + 1)), bk := tz D } (σ'.set j (some x)) H')
    (hd : ∀ σ' H', Ex H H' → I xs.length σ' → tz D σ' H') : tSeq (tFor (iList K tl) (gName j) tu) tz D σ H := s_forP (D := { D with nx := tz D }) h I h0 hs hd
theorem q_forRvP {xs : List V} {j : Nat} (h : EvX tl σ H (VL K xs)) (I : Nat → L2.St → Prop) (h0 : I 0 σ)
    (hs : ∀ H1 i x σ' H', Ex H H1 → Ex H1 H' → i < xs.length → xs[xs.length - 1 - i]? = some x → I i σ' → tu { D with nx := NX H1 (I (i + 1)), ct := NX H1 (I (i + 1)), bk := tz D } (σ'.set j (some x)) H')
    (hd : ∀ σ' H', Ex H H' → I xs.length σ' → tz D σ' H') : tSeq (tFor (iRev K (tCons tl tNil)) (gName j) tu) tz D σ H := s_forRvP (D := { D with nx := tz D }) h I h0 hs hd
theorem q_forRgP {n : Int} {j : Nat} (h : EvA ta σ H [.int n]) (hn : 0 ≤ n ∧ n ≤ 100000) (I : Nat → L2.St → Prop) (h0 : I 0 σ)
    (hs : ∀ H1 (i : Nat) σ' H', Ex H H1 → Ex H1 H' → (i : Int) < n → I i σ' → tu { D with nx := NX H1 (I (i + 1)), ct := NX H1 (I (i + 1)), bk := tz D } (σ'.set j (some (.int (i : Int)))) H')
    (hd : ∀ σ' H', Ex H H' → I n.toNat σ' → tz D σ' H') : tSeq (tFor (iRng1 ta) (gName j) tu) tz D σ H := s_forRgP (D := { D with nx := tz D }) h hn I h0 hs hd
theorem q_forRg2P {lo n : Int} {j : Nat} (h : EvA ta σ H [.int lo, .int n]) (hn : 0 ≤ lo ∧ lo ≤ 100000 ∧ -100000 ≤ n ∧ n ≤ 100000) (I : Nat → L2.St → Prop) (h0 : I 0 σ)
    (hs : ∀ H1 (i : Nat) σ' H', Ex H H1 → Ex H1 H' → lo + (i : Int) < n → I i σ' → tu { D with nx := NX H1 (I (i + 1)), ct := NX H1 (I (i + 1)), bk := tz D } (σ'.set j (some (.int (lo + (i : Int))))) H')
    (hd : ∀ σ' H', Ex H H' → I (n - lo).toNat σ' → tz D σ' H') : tSeq (tFor (iRng2 ta) (gName j) tu) tz D σ H := s_forRg2P (D := { D with nx := tz D }) h hn I h0 hs hd
/-- the turn's end -/
theorem nx_ok {I : L2.St → Prop} {H1 : Hp} (h : I σ) (e : Ex H1 H) : NX H1 I σ H := ⟨h, e⟩
theorem s_retX {P : V → Hp → Prop} (h : EvX te σ H P) (k : ∀ v H1, Ex H H1 → P v H1 → D.rt v H1) : tRet te D σ H := h H (Ex.refl H) _ k
theorem s_asgX {P : V → Hp → Prop} {i : Nat} (h : EvX te σ H P) (k : ∀ v H1, Ex H H1 → P v H1 → D.nx (σ.set i (some v)) H1) : tAsg te (gName i) D σ H := h H (Ex.refl H) _ k
theorem q_asgX {P : V → Hp → Prop} {i : Nat} (h : EvX te σ H P) (k : ∀ v H1, Ex H H1 → P v H1 → tz D (σ.set i (some v)) H1) : tSeq (tAsg te (gName i)) tz D σ H := h H (Ex.refl H) _ k
/-! methods of lists -/
theorem s_popS {l : Addr} {xs : List V} (hl : H l = some (.lst xs)) (ha : Ev te σ H (.ref l)) (hy : xs[xs.length - 1]? = some y) (k : ∀ H1, Ex H H1 → D.nx σ (upd H1 l (.lst xs.dropLast))) : tDrop (tBM0 K "list" rPop te) D σ H :=
  ha H (Ex.refl H) _ fun H1 e1 => ⟨.inl ⟨rfl, xs, sq_of (e1 l _ hl)⟩, l, xs, y, rfl, rfl, e1 l _ hl, hy, k H1 e1⟩
theorem q_popS {l : Addr} {xs : List V} (hl : H l = some (.lst xs)) (ha : Ev te σ H (.ref l)) (hy : xs[xs.length - 1]? = some y) (k : ∀ H1, Ex H H1 → tz D σ (upd H1 l (.lst xs.dropLast))) : tSeq (tDrop (tBM0 K "list" rPop te)) tz D σ H := s_popS (D := { D with nx := tz D }) hl ha hy k
/-- an if that is not taken -/
theorem q_skip {b : Bool} (h : EvT t σ H b) (hb : b = false) (k : ∀ H1, Ex H H1 → tz D σ H1) : tSeq (tIfS t tu tNext) tz D σ H :=
  q_when h (fun z => by rw [hb] at z; cases z) fun _ => k
/-! ### what never comes back -/
def Er (te : TE) (σ : L2.St) (H : Hp) : Prop := ∀ H1, Ex H H1 → ∀ Q : VK, te σ H1 Q
theorem Er.mono (h : Er te σ H) (e : Ex H H') : Er te σ H' := fun H1 a Q => h H1 (e.trans a) Q
theorem er_asg {i : Nat} (h : Er te σ H) : tAsg te (gName i) D σ H := h H (Ex.refl H) _
theorem er_q {i : Nat} (h : Er te σ H) : tSeq (tAsg te (gName i)) tz D σ H := h H (Ex.refl H) _
theorem er_ret (h : Er te σ H) : tRet te D σ H := h H (Ex.refl H) _
theorem er_drop (h : Er te σ H) : tDrop te D σ H := h H (Ex.refl H) _
theorem er_for (h : Er te σ H) : tFor (iList K te) g tu D σ H := h H (Ex.refl H) _
theorem er_qfor (h : Er te σ H) : tSeq (tFor (iList K te) g tu) tz D σ H := h H (Ex.refl H) _
theorem er_qforRv (h : Er te σ H) : tSeq (tFor (iRev K (tCons te tNil)) g tu) tz D σ H := h H (Ex.refl H) _
theorem er_op1 (h : Er te σ H) : Er (tOp r te tb) σ H := fun H1 e Q => h H1 e _
theorem er_op2 {P : V → Hp → Prop} (ha : EvX te σ H P) (h : Er tb σ H) : Er (tOp r te tb) σ H := fun H1 e Q => ha H1 e _ fun v H2 e2 _ => h H2 (e.trans e2) _
theorem er_call {sp : Sp} {E : XK} (h : Er te σ H) {tr : TA} : Er (tCall sp [] E (tCons te tr)) σ H := fun H1 e Q => h H1 e _
theorem er_cb {rr : List V → Hp → VK → Prop} (h : Er te σ H) {tr : TA} : Er (tCB rr (tCons te tr)) σ H := fun H1 e Q => h H1 e _
theorem er_tup (h : Er te σ H) {tr : TA} : Er (tTup (tCons te tr)) σ H := fun H1 e Q => h H1 e _
theorem er_lc (h : Er te σ H) {vs : List Nat} : Er (tLc (iList K te) g t tx vs) σ H := fun H1 e Q => h H1 e _
theorem er_lcRv (h : Er te σ H) {vs : List Nat} : Er (tLc (iRev K (tCons te tNil)) g t tx vs) σ H := fun H1 e Q => h H1 e _
theorem er_call1 {sp : Sp} {E : XK} {P : V → Hp → Prop} (h : EvX te σ H P) (hs : ∀ x H1, Ex H H1 → P x H1 → ∀ Q : VK, sp [x] H1 Q E) : Er (tCall sp [] E (tCons te tNil)) σ H := fun H1 e Q => h H1 e _ fun v H2 e2 hp => hs v H2 (e.trans e2) hp Q
/-! ### what a promise says -/
def RaiseE (E : XK) (C : Addr) (H : Hp) : Prop := ∀ H', Ex H H' → E (.ref C) none H'
theorem RaiseE.mono {E : XK} {C : Addr} (h : RaiseE E C H) (e : Ex H H') : RaiseE E C H' := fun H1 a => h H1 (e.trans a)
theorem _root_.Evl.RetV.mono {Q : VK} (h : RetV v H Q) (e : Ex H H') : RetV v H' Q := fun H1 a => h H1 (e.trans a)
theorem _root_.Evl.RetL.mono {Q : VK} {xs : List V} (h : RetL xs H Q) (e : Ex H H') : RetL xs H' Q := fun p H1 hp a hx => h p H1 (fresh_back e hp) (e.trans a) hx
theorem s_retV (h : Ev te σ H v) (k : RetV v H D.rt) : tRet te D σ H := s_ret h fun H1 e => k H1 e
theorem s_retLL {xs : List V} (h : EvL te σ H xs) (k : RetL xs H D.rt) : tRet te D σ H := s_retL h fun p H1 hp e hx => k p H1 hp e hx
end
end Fw

namespace Fw
open PySem PySem.Spec PyProof.Rows L2 Evl
/-! any thing, and what kind it is -/
mutual
theorem dp_mono {K : PySem.W.Frag} {H H' : Hp} (e : Ex H H') : ∀ (d : PyData) (v : V), Dp K H v d → Dp K H' v d
  | .none, _, h => by
    cases h
    exact .non
  | .bool b, _, h => by
    cases h
    exact .bl b
  | .int i, _, h => by
    cases h
    exact .int i
  | .str x, _, h => by
    cases h
    exact .str x
  | .list ds, _, h => by
    cases h with
    | lst hs ha => exact .lst (ex_l e hs) (dpA_mono e ds _ ha)
  | .tuple ds, _, h => by
    cases h with
    | tup hs ha => exact .tup (ex_t e hs) (dpA_mono e ds _ ha)
  | .dict _, _, h => by cases h
theorem dpA_mono {K : PySem.W.Frag} {H H' : Hp} (e : Ex H H') : ∀ (ds : List PyData) (vs : List V), DpAll K H vs ds → DpAll K H' vs ds
  | [], _, h => by
    cases h
    exact .nil
  | d :: ds, _, h => by
    cases h with
    | cons h1 h2 => exact .cons (dp_mono e d _ h1) (dpA_mono e ds _ h2)
end
/-- a thing: data, or an empty dict -/
inductive Th (K : PySem.W.Frag) (H : Hp) : V → PyData → Prop
  | of {v : V} {d : PyData} (h : Dp K H v d) : Th K H v d
  | dict {a : Addr} (h : H a = some (.dK [])) : Th K H (.ref a) (.dict [])
theorem Th.mono {K : PySem.W.Frag} {H H' : Hp} {v : V} {d : PyData} (e : Ex H H') (h : Th K H v d) : Th K H' v d := by
  cases h with
  | of h => exact .of (dp_mono e _ _ h)
  | dict h => exact .dict (e _ _ h)
/-- the kind's name -/
def tyD : PyData → String
  | .none => "NoneType"
  | .bool _ => "bool"
  | .int _ => "int"
  | .str _ => "str"
  | .list _ => "list"
  | .tuple _ => "tuple"
  | .dict _ => "dict"
section
variable {K : PySem.W.Frag} {H : Hp} {v : V} {d : PyData}
theorem sq_ty {a : Addr} {xs : List V} (h : SqL K H a xs) : TyX K H (.ref a) (.type "list") := by
  rcases h with (h | ⟨o, h⟩) | ⟨o, its, n, h1, h2, _⟩
  · exact .base (.lst h)
  · exact .base (.frz h)
  · exact .kList h1 h2
theorem st_ty {a : Addr} {xs : List V} (h : SqT K H a xs) : TyX K H (.ref a) (.type "tuple") := by
  rcases h with (h | ⟨o, h⟩) | ⟨o, its, n, h1, h2, _⟩
  · exact .base (.tup h)
  · exact .fTuple h
  · exact .kTuple h1 h2
theorem Th.ty (h : Th K H v d) : TyX K H v (.type (tyD d)) := by
  cases h with
  | dict h => exact .base (.dK h)
  | of h =>
    cases h with
    | non => exact .base .non
    | bl b => exact .base (.bl b)
    | int i => exact .base (.int i)
    | str x => exact .base (.str x)
    | lst hs _ => exact sq_ty hs
    | tup hs _ => exact st_ty hs
theorem kit_all : ∀ (d : PyData), kitB (tyD d) "int" = some (tyD d == "int" || tyD d == "bool") ∧ kitB (tyD d) "bool" = some (tyD d == "bool") ∧ kitB (tyD d) "list" = some (tyD d == "list") ∧ kitB (tyD d) "str" = some (tyD d == "str") ∧ kitB (tyD d) "tuple" = some (tyD d == "tuple") := by
  have k : ∀ n ∈ ["NoneType", "bool", "int", "str", "list", "tuple", "dict"], kitB n "int" = some (n == "int" || n == "bool") ∧ kitB n "bool" = some (n == "bool") ∧ kitB n "list" = some (n == "list") ∧ kitB n "str" = some (n == "str") ∧ kitB n "tuple" = some (n == "tuple") := by decide +kernel
  intro d
  apply k
  cases d <;> simp [tyD]
/-- isinstance(x, T) of a thing -/
theorem rc_isi {T : String} {b : Bool} (h : Th K H v d) (hk : kitB (tyD d) T = some b) : RC (rIsi K) [v, .ty T] H (.bl b) := fun H1 e Q q =>
  ⟨v, .ty T, .type (tyD d), .type T, b, rfl, .ty T, (h.mono e).ty, kit_ty hk, q H1 (Ex.refl H1)⟩
variable {σ : L2.St} {te : TE}
theorem ev_isi {T : String} {b : Bool} (hv : Ev te σ H v) (h : Th K H v d) (hk : kitB (tyD d) T = some b) : Ev (tCB (rIsi K) (tCons te (tCons (tC (.ty T)) tNil))) σ H (.bl b) :=
  ev_cb (ea_cons hv (ea_cons ev_c ea_nil)) (rc_isi h hk)
theorem ev_isiX {T : String} {b : Bool} (hv : EvX te σ H (fun v H => Th K H v d)) (hk : kitB (tyD d) T = some b) : Ev (tCB (rIsi K) (tCons te (tCons (tC (.ty T)) tNil))) σ H (.bl b) := fun H1 e Q q =>
  hv H1 e _ fun v H2 e2 h => ⟨v, .ty T, .type (tyD d), .type T, b, rfl, .ty T, h.ty, kit_ty hk, q H2 e2⟩
theorem ev_isInt (hv : Ev te σ H v) (h : Th K H v d) : Ev (tCB (rIsi K) (tCons te (tCons (tC (.ty "int")) tNil))) σ H (.bl (tyD d == "int" || tyD d == "bool")) := ev_isi hv h (kit_all d).1
theorem ev_isBool (hv : Ev te σ H v) (h : Th K H v d) : Ev (tCB (rIsi K) (tCons te (tCons (tC (.ty "bool")) tNil))) σ H (.bl (tyD d == "bool")) := ev_isi hv h (kit_all d).2.1
theorem ev_isList (hv : Ev te σ H v) (h : Th K H v d) : Ev (tCB (rIsi K) (tCons te (tCons (tC (.ty "list")) tNil))) σ H (.bl (tyD d == "list")) := ev_isi hv h (kit_all d).2.2.1
theorem ev_isStr (hv : Ev te σ H v) (h : Th K H v d) : Ev (tCB (rIsi K) (tCons te (tCons (tC (.ty "str")) tNil))) σ H (.bl (tyD d == "str")) := ev_isi hv h (kit_all d).2.2.2.1
theorem ev_isTuple (hv : Ev te σ H v) (h : Th K H v d) : Ev (tCB (rIsi K) (tCons te (tCons (tC (.ty "tuple")) tNil))) σ H (.bl (tyD d == "tuple")) := ev_isi hv h (kit_all d).2.2.2.2
end
/-! which things are layings -/
def wholeD : PyData → Bool
  | .int _ => true
  | _ => false
theorem wholeD_is (d : PyData) : ((tyD d == "int" || tyD d == "bool") && !(tyD d == "bool")) = wholeD d := by
  cases d <;> simp [tyD, wholeD]
def pmD : PyData → Bool
  | .int i => decide (-1 ≤ i) && decide (i ≤ 1)
  | _ => false
def isLayD : PyData → Bool
  | .list ds => ds.all pmD
  | _ => false
theorem pm_iff (x : Int) : pmD (.int x) = true ↔ Few.Pm x := by
  show (decide (-1 ≤ x) && decide (x ≤ 1)) = true ↔ _
  rw [Bool.and_eq_true, decide_eq_true_iff, decide_eq_true_iff]
  unfold Few.Pm
  omega
theorem lay_of_all : ∀ ds : List PyData, ds.all pmD = true → ∃ ns : List Int, ds = ns.map PyData.int ∧ Few.Lay ns
  | [], _ => ⟨[], rfl, fun _ h => by cases h⟩
  | d :: ds, h => by
    rw [List.all_cons, Bool.and_eq_true] at h
    obtain ⟨ns, e, l⟩ := lay_of_all ds h.2
    cases d with
    | int i =>
      refine ⟨i :: ns, by rw [e]; rfl, fun x hx => ?_⟩
      rcases List.mem_cons.mp hx with z | z
      · rw [z]
        exact (pm_iff i).mp h.1
      · exact l x z
    | none => exact absurd h.1 (by decide)
    | bool b => exact absurd h.1 Bool.false_ne_true
    | str b => exact absurd h.1 Bool.false_ne_true
    | list b => exact absurd h.1 Bool.false_ne_true
    | tuple b => exact absurd h.1 Bool.false_ne_true
    | dict b => exact absurd h.1 Bool.false_ne_true
theorem lay_is {d : PyData} (h : isLayD d = true) : ∃ ns : List Int, d = .list (ns.map PyData.int) ∧ Few.Lay ns := by
  cases d with
  | list ds =>
    obtain ⟨ns, e, l⟩ := lay_of_all ds h
    exact ⟨ns, by rw [e], l⟩
  | none => exact absurd h Bool.false_ne_true
  | bool b => exact absurd h Bool.false_ne_true
  | int b => exact absurd h Bool.false_ne_true
  | str b => exact absurd h Bool.false_ne_true
  | tuple b => exact absurd h Bool.false_ne_true
  | dict b => exact absurd h Bool.false_ne_true
theorem lay_ints {ns : List Int} (h : Few.Lay ns) : isLayD (.list (ns.map PyData.int)) = true := by
  show (ns.map PyData.int).all pmD = true
  rw [List.all_map, List.all_eq_true]
  exact fun x hx => (pm_iff x).mpr (h x hx)
theorem ints_inj {a b : List Int} (h : a.map PyData.int = b.map PyData.int) : a = b := by
  induction a generalizing b with
  | nil =>
    cases b with
    | nil => rfl
    | cons _ _ => cases h
  | cons x xs ih =>
    cases b with
    | nil => cases h
    | cons y ys =>
      rw [List.map_cons, List.map_cons] at h
      injection h with h1 h2
      injection h1 with h1
      rw [h1, ih h2]
section
variable {K : PySem.W.Frag} {H : Hp} {v : V}
theorem dps_ints {vs : List V} : ∀ {ns : List Int}, DpAll K H vs (ns.map PyData.int) → vs = ns.map V.int := by
  induction vs with
  | nil =>
    intro ns h
    cases ns with
    | nil => rfl
    | cons n r => cases h
  | cons v vs ih =>
    intro ns h
    cases ns with
    | nil => cases h
    | cons n r =>
      cases h with
      | cons h1 h2 =>
        cases h1
        rw [ih h2]
        rfl
theorem Th.il {ns : List Int} (h : Th K H v (.list (ns.map PyData.int))) : IL K ns v H := by
  cases h with
  | of h =>
    cases h with
    | lst hs ha =>
      rw [dps_ints ha] at hs
      exact ⟨_, rfl, hs⟩
theorem il_th {ns : List Int} (h : IL K ns v H) : Th K H v (.list (ns.map PyData.int)) := by
  obtain ⟨a, rfl, hs⟩ := h
  exact .of (.lst hs dps)
theorem th_int (i : Int) : Th K H (.int i) (.int i) := .of (.int i)
theorem th_bl (b : Bool) : Th K H (.bl b) (.bool b) := .of (.bl b)
theorem th_str (x : Str) : Th K H (.str x) (.str x) := .of (.str x)
theorem th_non : Th K H .non .none := .of .non
theorem IL.vl {ns : List Int} (h : IL K ns v H) : VL K (ns.map V.int) v H := h
theorem x_vlI {te : TE} {σ : L2.St} {ns : List Int} (h : EvX te σ H (IL K ns)) : EvX te σ H (VL K (ns.map V.int)) := h
/-- an item of a list of things -/
theorem dps_at {vs : List V} {ds : List PyData} (h : DpAll K H vs ds) : ∀ {i : Nat} {x : V}, vs[i]? = some x → ∃ d, ds[i]? = some d ∧ Dp K H x d := by
  induction vs generalizing ds with
  | nil =>
    intro i x hx
    simp at hx
  | cons v vs ih =>
    intro i x hx
    cases h with
    | cons h1 h2 =>
      cases i with
      | zero =>
        have e : v = x := Option.some.inj hx
        subst e
        exact ⟨_, rfl, h1⟩
      | succ i => exact ih h2 (i := i) hx
theorem dps_len {vs : List V} {ds : List PyData} (h : DpAll K H vs ds) : vs.length = ds.length := by
  induction vs generalizing ds with
  | nil =>
    cases h
    rfl
  | cons v vs ih =>
    cases h with
    | cons h1 h2 => rw [List.length_cons, List.length_cons, ih h2]
end
end Fw

namespace Fw
open PySem PySem.Spec PyProof.Rows L2 Evl
local macro_rules | `(tactic| walk_at "rv") => `(tactic| first | exact rv_I0 | exact rv_eq rfl | exact rv_ne rfl | exact rv_mod (by omega) | exact rv_div ⟨by omega, by omega⟩ | exact rv_mul (cmul_l ⟨by omega, by omega⟩) | exact rv_mul (cmul_r ⟨by omega, by omega⟩) | exact rv_isB | exact rv_notB | exact rv_isN | exact rv_notN)
local macro_rules | `(tactic| walk_at "ev") => `(tactic| first | assumption | exact ev_c | exact ev_var rfl | (refine ev_op ?_ ?_ ?_ <;> first | (walk_at "ev"; done) | (walk_at "rv"; done)) | (refine ev_un ?_ ru_neg; walk_at "ev") | (refine ev_andV ?_ (fun _ => ?_) <;> walk_at "ev") | (refine ev_orV ?_ (fun _ => ?_) <;> walk_at "ev") | (refine ev_notV ?_; walk_at "ev"))
local macro_rules | `(tactic| walk_at "et") => `(tactic| first | assumption | (refine et_test ?_; walk_at "ev") | (refine et_B ?_; walk_at "ev") | (refine et_not ?_; walk_at "et") | (refine et_and ?_ (fun _ => ?_) <;> walk_at "et") | (refine et_or ?_ (fun _ => ?_) <;> walk_at "et"))
abbrev D0 (Q : VK) : Ends := { nx := fun _ H' => Q .non H', rt := Q }
section
variable {K : PySem.W.Frag} {A : Ad} {vs : List V} {H : Hp} {Q : VK} {E : XK}
/-! ### is_whole -/
def sp_is_whole (K : PySem.W.Frag) (A : Ad) : Sp := fun vs H Q _ => ∃ v d, vs = [v] ∧ Th K H v d ∧ RetV (.bl (wholeD d)) H Q
def t_is_whole (K : PySem.W.Frag) (A : Ad) : TS :=
  (tRet (tAndV (tCB (rIsi K) (tCons (tVar 0) (tCons (tC (.ty "int")) tNil))) (tNotV (tCB (rIsi K) (tCons (tVar 0) (tCons (tC (.ty "bool")) tNil))))))
theorem r_is_whole (h : sp_is_whole K A vs H Q E) : t_is_whole K A (D0 Q) (start ["thing"] vs) H := by
  obtain ⟨v, d, rfl, hd, k⟩ := h
  refine s_retV (v := .bl (wholeD d)) ?_ k
  rw [← wholeD_is d]
  exact ev_andV (ev_isInt (ev_var rfl) hd) fun _ => ev_notV (ev_isBool (ev_var rfl) hd)
theorem ev_is_whole {te : TE} {σ : L2.St} {v : V} {d : PyData} {E : XK} (h : Ev te σ H v) (hd : Th K H v d) : Ev (tCall (sp_is_whole K A) [] E (tCons te tNil)) σ H (.bl (wholeD d)) :=
  ev_call1 (x_v h) fun x H1 e1 ex Q q => ⟨v, d, by rw [show x = v from ex], hd.mono e1, fun H' e => q H' e⟩
/-! ### is_laying -/
def sp_is_laying (K : PySem.W.Frag) (A : Ad) : Sp := fun vs H Q _ => ∃ v d, vs = [v] ∧ Th K H v d ∧ RetV (.bl (isLayD d)) H Q
def t_is_laying (K : PySem.W.Frag) (A : Ad) : TS :=
  (tSeq (tIfS (tNot (tB (tCB (rIsi K) (tCons (tVar 0) (tCons (tC (.ty "list")) tNil))))) (tRet (tC (.bl false))) tNext)
    (tSeq (tFor (iList K (tVar 0)) (gName 1) (tIfS (tOr (tNot (tB (tCall (sp_is_whole K A) [] E0 (tCons (tVar 1) tNil)))) (tOr (tTest (tOp rLtI (tVar 1) (tUn rNegI (tC (.int 1))))) (tTest (tOp rGtI (tVar 1) (tC (.int 1)))))) (tRet (tC (.bl false))) tNext))
    (tRet (tC (.bl true)))))
theorem not_list {d : PyData} (h : (!(tyD d == "list")) = true) : isLayD d = false := by
  cases d <;> first | rfl | (exfalso; simp [tyD] at h)
theorem is_list {d : PyData} (h : (!(tyD d == "list")) = false) : ∃ ds, d = .list ds := by
  cases d <;> first | exact ⟨_, rfl⟩ | (exfalso; simp [tyD] at h)
theorem take_all {p : PyData → Bool} {ds : List PyData} {i : Nat} {d : PyData} (h : ds[i]? = some d) (ha : (ds.take i).all p = true) (hd : p d = true) : (ds.take (i + 1)).all p = true := by
  rw [List.take_add_one, h, List.all_append, ha]
  simp [hd]
theorem all_not {p : PyData → Bool} {ds : List PyData} {i : Nat} {d : PyData} (h : ds[i]? = some d) (hd : p d = false) : ds.all p = false := by
  rw [List.all_eq_false]
  exact ⟨d, List.mem_of_getElem? h, by rw [hd]; decide⟩
theorem r_is_laying (h : sp_is_laying K A vs H Q E) : t_is_laying K A (D0 Q) (start ["thing", "one"] vs) H := by
  obtain ⟨v, d, rfl, hd, k⟩ := h
  refine q_when (et_not (et_B (ev_isList (ev_var rfl) hd))) (fun hb H1 e1 => ?_) (fun hb H1 e1 => ?_)
  · rw [not_list hb] at k
    exact s_retV ev_c (k.mono e1)
  · obtain ⟨ds, rfl⟩ := is_list hb
    have hd1 := hd.mono e1
    cases hd1 with
    | of hd1 =>
      cases hd1 with
      | @lst a xs _ hs ha =>
        have hl := dps_len ha
        refine q_forP (x_vl (ev_var rfl) hs) (fun i σ' => ∃ u, σ' = [some (.ref a), u] ∧ (ds.take i).all pmD = true) ⟨none, rfl, rfl⟩ ?_ ?_
        · rintro H2 i x σ' H' e2 e3 hx ⟨u, rfl, hall⟩
          obtain ⟨d, hd, hp⟩ := dps_at ha hx
          have hp' : Th K H' x d := .of (dp_mono (e2.trans e3) _ _ hp)
          have test : EvT (tOr (tNot (tB (tCall (sp_is_whole K A) [] E0 (tCons (tVar 1) tNil)))) (tOr (tTest (tOp rLtI (tVar 1) (tUn rNegI (tC (.int 1))))) (tTest (tOp rGtI (tVar 1) (tC (.int 1)))))) [some (.ref a), some x] H' (!pmD d) := by
            have h1 : EvT (tNot (tB (tCall (sp_is_whole K A) [] E0 (tCons (tVar 1) tNil)))) [some (.ref a), some x] H' (!wholeD d) := et_not (et_B (ev_is_whole (ev_var rfl) hp'))
            by_cases w : wholeD d = true
            · cases d with
              | int i =>
                cases hp
                refine et_is (et_or h1 fun _ => et_or (et_test (ev_op (ev_var rfl) (ev_un ev_c ru_neg) rv_I0)) fun _ => et_test (ev_op (ev_var rfl) ev_c rv_I0)) ?_
                show (!true || (decide (i < -1) || decide (1 < i))) = !(decide (-1 ≤ i) && decide (i ≤ 1))
                by_cases c1 : i < -1
                · simp [c1, show ¬ -1 ≤ i by omega]
                · by_cases c2 : 1 < i
                  · simp [c1, c2, show ¬ i ≤ 1 by omega]
                  · simp [c1, c2, show -1 ≤ i by omega, show i ≤ 1 by omega]
              | none => exact absurd w Bool.false_ne_true
              | bool b => exact absurd w Bool.false_ne_true
              | str b => exact absurd w Bool.false_ne_true
              | list b => exact absurd w Bool.false_ne_true
              | tuple b => exact absurd w Bool.false_ne_true
              | dict b => exact absurd w Bool.false_ne_true
            · have w' : wholeD d = false := by simpa using w
              have p' : pmD d = false := by
                cases d <;> first | rfl | exact absurd rfl w
              rw [w'] at h1
              exact et_is (et_or (b := true) h1 fun z => by cases z) (by rw [p']; rfl)
          refine s_when test (fun hb H4 e4 => ?_) (fun hb H4 e4 => ?_)
          · have p' : pmD d = false := by simpa using hb
            have z : isLayD (.list ds) = false := all_not hd p'
            rw [z] at k
            exact s_retV ev_c (k.mono (((e1.trans e2).trans e3).trans e4))
          · have p' : pmD d = true := by simpa using hb
            exact ⟨⟨_, rfl, take_all hd hall p'⟩, e3.trans e4⟩
        · rintro σ' H' e2 ⟨u, rfl, hall⟩
          rw [hl, List.take_length] at hall
          have z : isLayD (.list ds) = true := hall
          rw [z] at k
          exact s_retV ev_c (k.mono (e1.trans e2))
theorem ev_is_laying {te : TE} {σ : L2.St} {v : V} {d : PyData} {E : XK} (h : Ev te σ H v) (hd : Th K H v d) : Ev (tCall (sp_is_laying K A) [] E (tCons te tNil)) σ H (.bl (isLayD d)) :=
  ev_call1 (x_v h) fun x H1 e1 ex Q q => ⟨v, d, by rw [show x = v from ex], hd.mono e1, fun H' e => q H' e⟩
/-! ### good_laying -/
def sp_good_laying (K : PySem.W.Frag) (A : Ad) : Sp := fun vs H Q E => ∃ v d, vs = [v] ∧ Th K H v d ∧ (isLayD d = true → RetV v H Q) ∧ (isLayD d = false → RaiseE E A.laying H)
def t_good_laying (K : PySem.W.Frag) (A : Ad) (E : XK) : TS :=
  (tSeq (tIfS (tNot (tB (tCall (sp_is_laying K A) [] E0 (tCons (tVar 0) tNil)))) (tRaiseC A.laying E) tNext)
    (tRet (tVar 0)))
theorem r_good_laying (h : sp_good_laying K A vs H Q E) : t_good_laying K A E (D0 Q) (start ["laying"] vs) H := by
  obtain ⟨v, d, rfl, hd, k1, k2⟩ := h
  refine q_when (et_not (et_B (ev_is_laying (ev_var rfl) hd))) (fun hb H1 e1 => ?_) (fun hb H1 e1 => ?_)
  · exact k2 (by simpa using hb) H1 e1
  · exact s_retV (ev_var rfl) ((k1 (by simpa using hb)).mono e1)
/-- a promise of a def upon one laying: R says what it gives -/
def LaySp (R : List Int → Hp → VK → Prop) (K : PySem.W.Frag) (A : Ad) : Sp := fun vs H Q E => ∃ v d, vs = [v] ∧ Th K H v d ∧ (∀ ns, d = .list (ns.map PyData.int) → Few.Lay ns → R ns H Q) ∧ (isLayD d = false → RaiseE E A.laying H)
section
variable {te : TE} {σ : L2.St} {ns : List Int} {v : V} {d : PyData} {R : List Int → Hp → VK → Prop}
theorem LaySp.good (h : IL K ns v H) (hl : Few.Lay ns) (hr : R ns H Q) : LaySp R K A [v] H Q E :=
  ⟨v, _, rfl, il_th h, fun ms e _ => by
    have e' : ns = ms := ints_inj (PyData.list.inj e)
    rw [← e']
    exact hr, fun z => by rw [lay_ints hl] at z; cases z⟩
theorem LaySp.bad (h : Th K H v d) (hl : isLayD d = false) (hr : RaiseE E A.laying H) : LaySp R K A [v] H Q E :=
  ⟨v, d, rfl, h, (fun ms e l => by rw [e, lay_ints l] at hl; cases hl), fun _ => hr⟩
/-- the call of good_laying in a def of that kind -/
theorem x_good (h : EvX te σ H (IL K ns)) (hl : Few.Lay ns) : EvX (tCall (sp_good_laying K A) [] E (tCons te tNil)) σ H (IL K ns) :=
  x_call1 h fun x H1 e1 hx Q q => ⟨x, _, rfl, il_th hx, fun _ H' e => q x H' e (mono_il _ _ _ e hx), fun z => by rw [lay_ints hl] at z; cases z⟩
theorem er_good (h : EvX te σ H (fun v H => Th K H v d)) (hl : isLayD d = false) (k : RaiseE E A.laying H) : Er (tCall (sp_good_laying K A) [] E (tCons te tNil)) σ H :=
  er_call1 h fun x H1 e1 hx Q => ⟨x, d, rfl, hx, (fun z => by rw [hl] at z; cases z), fun _ => k.mono e1⟩
theorem x_th {i : Nat} (h : σ[i]? = some (some v)) (hd : Th K H v d) : EvX (tVar i) σ H (fun v H => Th K H v d) := x_of (ev_var h) (fun _ _ _ e p => p.mono e) hd
theorem x_ilv {i : Nat} (h : σ[i]? = some (some v)) (hd : IL K ns v H) : EvX (tVar i) σ H (IL K ns) := x_of (ev_var h) mono_il hd
end
/-! ### load_of -/
def sp_load_of (K : PySem.W.Frag) (A : Ad) : Sp := LaySp (fun ns => RetV (.int (Few.loadOf ns))) K A
def t_load_of (K : PySem.W.Frag) (A : Ad) (E : XK) : TS :=
  (tSeq (tAsg (tC (.int 0)) (gName 1))
    (tSeq (tFor (iRev K (tCons (tCall (sp_good_laying K A) [] E (tCons (tVar 0) tNil)) tNil)) (gName 2) (tAsg (tOp rAddI (tOp rMulI (tC (.int 2)) (tVar 1)) (tVar 2)) (gName 1)))
    (tRet (tVar 1))))
theorem load_drop {ns : List Int} {i : Nat} {n : Int} (hi : i < ns.length) (h : ns[ns.length - 1 - i]? = some n) : Few.loadOf (ns.drop (ns.length - (i + 1))) = 2 * Few.loadOf (ns.drop (ns.length - i)) + n := by
  have e : ns.length - (i + 1) = ns.length - 1 - i := by omega
  have hlt : ns.length - 1 - i < ns.length := by omega
  rw [e, List.drop_eq_getElem_cons hlt]
  have e2 : ns[ns.length - 1 - i] = n := by
    rw [List.getElem?_eq_getElem hlt] at h
    exact Option.some.inj h
  show 2 * Few.loadOf (ns.drop (ns.length - 1 - i + 1)) + ns[ns.length - 1 - i] = _
  rw [e2, show ns.length - 1 - i + 1 = ns.length - i by omega]
theorem r_load_of (h : sp_load_of K A vs H Q E) : t_load_of K A E (D0 Q) (start ["laying", "load", "one"] vs) H := by
  obtain ⟨v, d, rfl, hd, k1, k2⟩ := h
  refine q_asg ev_c fun H1 e1 => ?_
  cases hl : isLayD d with
  | false => exact er_qforRv (er_good (x_th rfl (hd.mono e1)) hl ((k2 hl).mono e1))
  | true =>
    obtain ⟨ns, rfl, l⟩ := lay_is hl
    have k := k1 ns rfl l
    refine q_forRvP (x_vlI (x_good (x_ilv rfl (hd.mono e1).il) l)) (fun i σ' => ∃ u, σ' = [some v, some (.int (Few.loadOf (ns.drop (ns.length - i)))), u]) ⟨none, by rw [Nat.sub_zero, List.drop_length]; rfl⟩ ?_ ?_
    · rintro H2 i x σ' H' e2 e3 hi hx ⟨u, rfl⟩
      rw [List.length_map] at hi hx
      obtain ⟨n, hn, rfl⟩ := of_map hx
      refine s_asg (v := .int (2 * Few.loadOf (ns.drop (ns.length - i)) + n)) (ev_op (ev_op ev_c (ev_var rfl) (rv_mul (cmul_l ⟨by decide, by decide⟩))) (ev_var rfl) rv_I0) fun H4 e4 => ?_
      refine ⟨⟨some (.int n), ?_⟩, e3.trans e4⟩
      rw [load_drop hi hn]
      rfl
    · rintro σ' H' e2 ⟨u, rfl⟩
      rw [List.length_map, Nat.sub_self, List.drop_zero]
      exact s_retV (ev_var rfl) (k.mono (e1.trans e2))
theorem ev_load_of {te : TE} {σ : L2.St} {ns : List Int} (h : EvX te σ H (IL K ns)) (hl : Few.Lay ns) : Ev (tCall (sp_load_of K A) [] E (tCons te tNil)) σ H (.int (Few.loadOf ns)) :=
  ev_call1 h fun x H1 e1 hx Q q => LaySp.good hx hl fun H' e => q H' e
theorem er_load_of {te : TE} {σ : L2.St} {d : PyData} (h : EvX te σ H (fun v H => Th K H v d)) (hl : isLayD d = false) (k : RaiseE E A.laying H) : Er (tCall (sp_load_of K A) [] E (tCons te tNil)) σ H :=
  er_call1 h fun x H1 e1 hx Q => LaySp.bad hx hl (k.mono e1)
/-! ### stones -/
def sp_stones (K : PySem.W.Frag) (A : Ad) : Sp := LaySp (fun ns => RetV (.int (Few.used ns : Nat))) K A
def t_stones (K : PySem.W.Frag) (A : Ad) (E : XK) : TS :=
  (tSeq (tAsg (tC (.int 0)) (gName 1))
    (tSeq (tFor (iList K (tCall (sp_good_laying K A) [] E (tCons (tVar 0) tNil))) (gName 2) (tIfS (tTest (tOp rNe (tVar 2) (tC (.int 0)))) (tAug 1 (tC (.int 1)) (ipI fun i j => i + j)) tNext))
    (tRet (tVar 1))))
theorem used_take {ns : List Int} {i : Nat} {n : Int} (h : ns[i]? = some n) : Few.used (ns.take (i + 1)) = Few.used (ns.take i) + if n = 0 then 0 else 1 := by
  rw [List.take_add_one, h]
  unfold Few.used
  rw [List.filter_append, List.length_append]
  by_cases z : n = 0
  · subst z
    simp
  · rw [if_neg z]
    simp [z]
theorem ne_zero {n : Int} : (!decide (V.int n = V.int 0)) = !decide (n = 0) := by
  by_cases h : n = 0
  · subst h
    simp
  · rw [decide_eq_false h, decide_eq_false (fun z => h (V.int.inj z))]
theorem eq_dec {n m : Int} : decide (V.int n = V.int m) = decide (n = m) := by
  by_cases h : n = m
  · subst h
    simp
  · rw [decide_eq_false h, decide_eq_false (fun z => h (V.int.inj z))]
theorem r_stones (h : sp_stones K A vs H Q E) : t_stones K A E (D0 Q) (start ["laying", "many", "one"] vs) H := by
  obtain ⟨v, d, rfl, hd, k1, k2⟩ := h
  refine q_asg ev_c fun H1 e1 => ?_
  cases hl : isLayD d with
  | false => exact er_qfor (er_good (x_th rfl (hd.mono e1)) hl ((k2 hl).mono e1))
  | true =>
    obtain ⟨ns, rfl, l⟩ := lay_is hl
    have k := k1 ns rfl l
    refine q_forP (x_vlI (x_good (x_ilv rfl (hd.mono e1).il) l)) (fun i σ' => ∃ u, σ' = [some v, some (.int (Few.used (ns.take i) : Nat)), u]) ⟨none, rfl⟩ ?_ ?_
    · rintro H2 i x σ' H' e2 e3 hx ⟨u, rfl⟩
      obtain ⟨n, hn, rfl⟩ := of_map hx
      have step := used_take hn
      refine s_when (et_test (ev_op (ev_var rfl) ev_c (rv_ne rfl))) (fun hb H4 e4 => ?_) (fun hb H4 e4 => ?_)
      · rw [ne_zero] at hb
        have z : ¬ n = 0 := by simpa using hb
        rw [if_neg z] at step
        refine s_aug rfl ev_c fun H5 e5 => ?_
        refine ⟨⟨some (.int n), ?_⟩, (e3.trans e4).trans e5⟩
        rw [step]
        rfl
      · rw [ne_zero] at hb
        have z : n = 0 := by simpa using hb
        rw [if_pos z] at step
        refine ⟨⟨some (.int n), ?_⟩, e3.trans e4⟩
        rw [step]
        rfl
    · rintro σ' H' e2 ⟨u, rfl⟩
      rw [List.length_map, List.take_length]
      exact s_retV (ev_var rfl) (k.mono (e1.trans e2))
theorem ev_stones {te : TE} {σ : L2.St} {ns : List Int} (h : EvX te σ H (IL K ns)) (hl : Few.Lay ns) : Ev (tCall (sp_stones K A) [] E (tCons te tNil)) σ H (.int (Few.used ns : Nat)) :=
  ev_call1 h fun x H1 e1 hx Q q => LaySp.good hx hl fun H' e => q H' e
/-! ### ended -/
def sp_ended (K : PySem.W.Frag) (A : Ad) : Sp := LaySp (fun ns => RetL ((Few.ended ns).map V.int)) K A
def t_ended (K : PySem.W.Frag) (A : Ad) (E : XK) : TS :=
  (tSeq (tAsg (tCB (Evl.rListS K) (tCons (tCall (sp_good_laying K A) [] E (tCons (tVar 0) tNil)) tNil)) (gName 1))
    (tSeq (tWhile (tAnd (tTest (tOp rGtI (tCB (Evl.rLenS K) (tCons (tVar 1) tNil)) (tC (.int 0)))) (tTest (tOp rEq (tOp (rIxL K) (tVar 1) (tUn rNegI (tC (.int 1)))) (tC (.int 0))))) (tDrop (tBM0 K "list" rPop (tVar 1))))
    (tRet (tVar 1))))
theorem at_last {r : List Int} {x : Int} : atI ((r ++ [x]).map V.int) (-1) = some (.int x) := by
  rw [List.map_append]
  exact atI_last _ _
theorem dropLast_ints {r : List Int} {x : Int} : ((r ++ [x]).map V.int).dropLast = r.map V.int := by
  rw [List.map_append]
  exact List.dropLast_concat
theorem r_ended (h : sp_ended K A vs H Q E) : t_ended K A E (D0 Q) (start ["laying", "kept"] vs) H := by
  obtain ⟨v, d, rfl, hd, k1, k2⟩ := h
  cases hl : isLayD d with
  | false => exact er_q (er_cb (er_good (x_th rfl hd) hl (k2 hl)))
  | true =>
    obtain ⟨ns, rfl, l⟩ := lay_is hl
    have k : RetL ((Few.ended ns).map V.int) H Q := k1 ns rfl l
    refine q_asgL (el_listX (x_vlI (x_good (x_ilv rfl hd.il) l))) fun p H1 hp e1 hx => ?_
    refine q_while (fun m σ' H' => ∃ ks : List Int, m = ks.length ∧ Few.ended ks = Few.ended ns ∧ σ' = [some v, some (.ref p)] ∧ Ex H H' ∧ H' p = some (.lst (ks.map V.int))) ns.length ⟨ns, rfl, rfl, rfl, e1, hx⟩ ?_
    rintro m σ' H' ⟨ks, rfl, he, rfl, e2, hk⟩
    have tl : EvT (tTest (tOp rGtI (tCB (Evl.rLenS K) (tCons (tVar 1) tNil)) (tC (.int 0)))) [some v, some (.ref p)] H' (decide (0 < (ks.length : Int))) :=
      et_test (ev_op (ev_lenX (x_ilv rfl ⟨p, rfl, sq_of hk⟩)) ev_c rv_I0)
    rcases Few.last_cases ks with z | ⟨r, x, z⟩
    · subst z
      refine ⟨false, et_and (b := false) tl (fun z => by cases z), (fun z => by cases z), fun _ H4 e4 => ?_⟩
      have e0 : Few.ended ns = [] := he.symm
      rw [e0] at k
      exact s_ret (ev_var rfl) fun H5 e5 => k p H5 hp ((e2.trans e4).trans e5) (e5 _ _ (e4 _ _ hk))
    · subst z
      have lt : EvT (tTest (tOp rEq (tOp (rIxL K) (tVar 1) (tUn rNegI (tC (.int 1)))) (tC (.int 0)))) [some v, some (.ref p)] H' (decide (x = 0)) := by
        refine et_is (et_test (ev_op (ev_op (ev_var rfl) (ev_un ev_c ru_neg) (rv_ixL (sq_of hk) at_last)) ev_c (rv_eq rfl))) eq_dec
      refine ⟨decide (x = 0), et_is (et_and tl fun _ => lt) (by rw [List.length_append]; simp), fun hb H4 e4 => ?_, fun hb H4 e4 => ?_⟩
      · have hx0 : x = 0 := of_decide_eq_true hb
        subst hx0
        refine ⟨fun σ2 H2 => σ2 = [some v, some (.ref p)] ∧ Ex H H2 ∧ H2 p = some (.lst (r.map V.int)), fun σ2 H2 q => ⟨r.length, by rw [List.length_append]; simp, r, rfl, by rw [← he, Few.ended_snoc0], q.1, q.2.1, q.2.2⟩, ?_⟩
        refine s_popS (y := .int 0) (e4 _ _ hk) (ev_var rfl) ?_ fun H5 e5 => ?_
        · rw [List.length_map, List.length_append, List.map_append]
          simp
        · rw [dropLast_ints]
          exact ⟨rfl, Ex.mut ((e2.trans e4).trans e5) hp, upd_same⟩
      · have hx0 : x ≠ 0 := by simpa using hb
        have ek : r ++ [x] = Few.ended ns := by rw [← he, Few.ended_snoc r hx0]
        rw [ek] at hk
        exact s_ret (ev_var rfl) fun H5 e5 => k p H5 hp ((e2.trans e4).trans e5) (e5 _ _ (e4 _ _ hk))
theorem el_ended {te : TE} {σ : L2.St} {ns : List Int} (h : EvX te σ H (IL K ns)) (hl : Few.Lay ns) : EvL (tCall (sp_ended K A) [] E (tCons te tNil)) σ H ((Few.ended ns).map V.int) :=
  el_call1 h fun x H1 e1 hx Q q => LaySp.good hx hl fun p H' hp e hx => q p H' hp e hx
/-! ### is_neat -/
def sp_is_neat (K : PySem.W.Frag) (A : Ad) : Sp := LaySp (fun ns => RetV (.bl (Few.neatB ns))) K A
def t_is_neat (K : PySem.W.Frag) (A : Ad) (E : XK) : TS :=
  (tSeq (tAsg (tC (.int 0)) (gName 1))
    (tSeq (tFor (iList K (tCall (sp_good_laying K A) [] E (tCons (tVar 0) tNil))) (gName 2) (tSeq (tIfS (tAnd (tTest (tOp rNe (tVar 1) (tC (.int 0)))) (tTest (tOp rNe (tVar 2) (tC (.int 0))))) (tRet (tC (.bl false))) tNext)
    (tAsg (tVar 2) (gName 1))))
    (tRet (tOrV (tOp (rEqD K) (tVar 0) (tLst tNil)) (tOp rNe (tVar 1) (tC (.int 0)))))))
theorem r_is_neat (h : sp_is_neat K A vs H Q E) : t_is_neat K A E (D0 Q) (start ["laying", "before", "one"] vs) H := by
  obtain ⟨v, d, rfl, hd, k1, k2⟩ := h
  refine q_asg ev_c fun H1 e1 => ?_
  cases hl : isLayD d with
  | false => exact er_qfor (er_good (x_th rfl (hd.mono e1)) hl ((k2 hl).mono e1))
  | true =>
    obtain ⟨ns, rfl, l⟩ := lay_is hl
    have k : RetV (.bl (Few.neatB ns)) H Q := k1 ns rfl l
    refine q_forP (x_vlI (x_good (x_ilv rfl (hd.mono e1).il) l)) (fun i σ' => ∃ u b, σ' = [some v, some (.int b), u] ∧ Few.beforeOf 0 (ns.take i) = b ∧ Few.apartB (ns.take i) = true) ⟨none, 0, rfl, rfl, rfl⟩ ?_ ?_
    · rintro H2 i x σ' H' e2 e3 hx ⟨u, b, rfl, hb, ha⟩
      obtain ⟨n, hn, rfl⟩ := of_map hx
      have t1 : EvT (tAnd (tTest (tOp rNe (tVar 1) (tC (.int 0)))) (tTest (tOp rNe (tVar 2) (tC (.int 0))))) [some v, some (.int b), some (.int n)] H' (!decide (b = 0) && !decide (n = 0)) :=
        et_and (et_is (et_test (ev_op (ev_var rfl) ev_c (rv_ne rfl))) ne_zero) fun _ => et_is (et_test (ev_op (ev_var rfl) ev_c (rv_ne rfl))) ne_zero
      have st := Few.apart_step hn ha hb
      refine q_when t1 (fun hc H4 e4 => ?_) (fun hc H4 e4 => ?_)
      · have z : Few.neatB ns = false := by
          rw [Few.neat_iff, st.2 hc]
          rfl
        rw [z] at k
        exact s_retV ev_c (k.mono (((e1.trans e2).trans e3).trans e4))
      · exact s_asg (ev_var rfl) fun H5 e5 => ⟨⟨some (.int n), n, rfl, Few.before_take hn, st.1 hc⟩, (e3.trans e4).trans e5⟩
    · rintro σ' H' e2 ⟨u, b, rfl, hb, ha⟩
      rw [List.length_map, List.take_length] at hb ha
      have hq := mono_il _ _ _ (e1.trans e2) hd.il
      refine s_retV (v := .bl (Few.neatB ns)) ?_ (k.mono (e1.trans e2))
      have first : Ev (tOp (rEqD K) (tVar 0) (tLst tNil)) [some v, some (.int b), u] H' (.bl (decide (ns = []))) := ev_eqI (ys := []) (x_ilv rfl hq) (x_ilL (el_lst ea_nil (by decide)))
      refine ev_is (ev_orV first fun _ => ev_is (ev_op (ev_var rfl) ev_c (rv_ne rfl)) (by rw [ne_zero])) ?_
      rw [Few.neat_by_last ns hb ha]
theorem ev_is_neat {te : TE} {σ : L2.St} {ns : List Int} (h : EvX te σ H (IL K ns)) (hl : Few.Lay ns) : Ev (tCall (sp_is_neat K A) [] E (tCons te tNil)) σ H (.bl (Few.neatB ns)) :=
  ev_call1 h fun x H1 e1 hx Q q => LaySp.good hx hl fun H' e => q H' e
/-! ### good_load, laid -/
def sp_good_load (K : PySem.W.Frag) (A : Ad) : Sp := fun vs H Q E => ∃ v d, vs = [v] ∧ Th K H v d ∧ (wholeD d = true → RetV v H Q) ∧ (wholeD d = false → RaiseE E A.load H)
def t_good_load (K : PySem.W.Frag) (A : Ad) (E : XK) : TS :=
  (tSeq (tIfS (tNot (tB (tCall (sp_is_whole K A) [] E0 (tCons (tVar 0) tNil)))) (tRaiseC A.load E) tNext)
    (tRet (tVar 0)))
theorem r_good_load (h : sp_good_load K A vs H Q E) : t_good_load K A E (D0 Q) (start ["load"] vs) H := by
  obtain ⟨v, d, rfl, hd, k1, k2⟩ := h
  refine q_when (et_not (et_B (ev_is_whole (ev_var rfl) hd))) (fun hb H1 e1 => ?_) (fun hb H1 e1 => ?_)
  · exact k2 (by simpa using hb) H1 e1
  · exact s_retV (ev_var rfl) ((k1 (by simpa using hb)).mono e1)
/-- a promise of a def upon one load -/
def LoadSp (R : Int → Hp → VK → Prop) (K : PySem.W.Frag) (A : Ad) : Sp := fun vs H Q E => ∃ v d, vs = [v] ∧ Th K H v d ∧ (∀ n, d = .int n → R n H Q) ∧ (wholeD d = false → RaiseE E A.load H)
theorem whole_is {d : PyData} (h : wholeD d = true) : ∃ n, d = .int n := by
  cases d <;> first | exact ⟨_, rfl⟩ | cases h
theorem th_int_is {v : V} {n : Int} (h : Th K H v (.int n)) : v = .int n := by
  cases h with
  | of h =>
    cases h
    rfl
section
variable {te : TE} {σ : L2.St} {n : Int} {v : V} {d : PyData} {R : Int → Hp → VK → Prop}
theorem LoadSp.good (hr : R n H Q) : LoadSp R K A [.int n] H Q E := ⟨.int n, .int n, rfl, th_int n, (fun m e => by cases e; exact hr), fun z => by cases z⟩
theorem LoadSp.bad (h : Th K H v d) (hl : wholeD d = false) (hr : RaiseE E A.load H) : LoadSp R K A [v] H Q E := ⟨v, d, rfl, h, (fun m e => by rw [e] at hl; cases hl), fun _ => hr⟩
theorem ev_goodload (h : Ev te σ H (.int n)) : Ev (tCall (sp_good_load K A) [] E (tCons te tNil)) σ H (.int n) :=
  ev_call1 (x_v h) fun x H1 e1 hx Q q => ⟨.int n, .int n, by rw [show x = V.int n from hx], th_int n, (fun _ H' e => q H' e), fun z => by cases z⟩
theorem er_goodload (h : EvX te σ H (fun v H => Th K H v d)) (hl : wholeD d = false) (k : RaiseE E A.load H) : Er (tCall (sp_good_load K A) [] E (tCons te tNil)) σ H :=
  er_call1 h fun x H1 e1 hx Q => ⟨x, d, rfl, hx, (fun z => by rw [hl] at z; cases z), fun _ => k.mono e1⟩
end
def sp_laid (K : PySem.W.Frag) (A : Ad) : Sp := LoadSp (fun n H Q => (Few.laid n).length < 100000 ∧ RetL ((Few.laid n).map V.int) H Q) K A
def t_laid (K : PySem.W.Frag) (A : Ad) (E : XK) : TS :=
  (tSeq (tAsg (tCall (sp_good_load K A) [] E (tCons (tVar 0) tNil)) (gName 1))
    (tSeq (tAsg (tLst tNil) (gName 2))
    (tSeq (tWhile (tTest (tOp rNe (tVar 1) (tC (.int 0)))) (tSeq (tAsg (tC (.int 0)) (gName 3))
    (tSeq (tIfS (tTest (tOp rEq (tOp rModI (tVar 1) (tC (.int 2))) (tC (.int 1)))) (tAsg (tOp rSubI (tC (.int 2)) (tOp rModI (tVar 1) (tC (.int 4)))) (gName 3)) tNext)
    (tSeq (tDrop (tBM K "list" rAppend (tVar 2) (tCons (tVar 3) tNil)))
    (tAsg (tOp rDivI (tOp rSubI (tVar 1) (tVar 3)) (tC (.int 2))) (gName 1))))))
    (tRet (tVar 2)))))
theorem r_laid (h : sp_laid K A vs H Q E) : t_laid K A E (D0 Q) (start ["load", "rest", "found", "one"] vs) H := by
  obtain ⟨v, d, rfl, hd, k1, k2⟩ := h
  cases hl : wholeD d with
  | false => exact er_q (er_goodload (x_th rfl hd) hl (k2 hl))
  | true =>
    obtain ⟨n, rfl⟩ := whole_is hl
    obtain ⟨hlen, k⟩ := k1 n rfl
    have hv := th_int_is hd
    subst hv
    refine q_asg (ev_goodload (ev_var rfl)) fun H1 e1 => ?_
    refine q_asgL (xs := []) (el_lst ea_nil (by decide)) fun p H2 hp e2 hx => ?_
    refine q_while (fun m σ' H' => ∃ (r : Int) (l : List Int) (u : Option V), m = r.natAbs ∧ l ++ Few.laid r = Few.laid n ∧ σ' = [some (.int n), some (.int r), some (.ref p), u] ∧ Ex H1 H' ∧ H' p = some (.lst (l.map V.int))) n.natAbs ⟨n, [], none, rfl, rfl, rfl, e2, hx⟩ ?_
    rintro m σ' H' ⟨r, l, u, rfl, he, rfl, e3, hk⟩
    refine ⟨!decide (r = 0), et_is (et_test (ev_op (ev_var rfl) ev_c (rv_ne rfl))) ne_zero, fun hb H4 e4 => ?_, fun hb H4 e4 => ?_⟩
    · have hr : r ≠ 0 := by simpa using hb
      have e0 := Few.laid_ne hr
      refine ⟨fun σ2 H2 => ∃ u, σ2 = [some (.int n), some (.int ((r - Few.digit r) / 2)), some (.ref p), u] ∧ Ex H1 H2 ∧ H2 p = some (.lst ((l ++ [Few.digit r]).map V.int)), fun σ2 H2 ⟨u, q1, q2, q3⟩ => ⟨_, Few.digit_less r hr, _, l ++ [Few.digit r], u, rfl, by rw [← he, e0]; simp, q1, q2, q3⟩, ?_⟩
      have hlt : (l.map V.int).length < 100000 := by
        have e5 : (l ++ Few.laid r).length = (Few.laid n).length := by rw [he]
        rw [List.length_append] at e5
        rw [List.length_map]
        omega
      refine q_asg ev_c fun H5 e5 => ?_
      refine q_ifAsg (v := .int (Few.digit r)) (b := decide (r % 2 = 1)) (et_is (et_test (ev_op (ev_op (ev_var rfl) ev_c (rv_mod (by decide))) ev_c (rv_eq rfl))) eq_dec) (fun hm => ?_) (fun hm => ?_) fun H6 e6 => ?_
      · have o : r % 2 = 1 := of_decide_eq_true hm
        refine ev_is (ev_op ev_c (ev_op (ev_var rfl) ev_c (rv_mod (by decide))) rv_I0) ?_
        unfold Few.digit
        rw [if_pos o]
      · have o : ¬ r % 2 = 1 := by simpa using hm
        unfold Few.digit
        rw [if_neg o]
        rfl
      · refine q_app (xs := l.map V.int) (e6 _ _ (e5 _ _ (e4 _ _ hk))) (ev_var rfl) (ev_var rfl) hlt fun H7 e7 => ?_
        refine s_asg (ev_op (ev_op (ev_var rfl) (ev_var rfl) rv_I0) ev_c (rv_div ⟨by decide, by decide⟩)) fun H8 e8 => ?_
        have hp1 : H1 p = none := hp
        refine ⟨some (.int (Few.digit r)), rfl, (Ex.mut ((((e3.trans e4).trans e5).trans e6).trans e7) hp1).trans e8, e8 _ _ ?_⟩
        rw [upd_same, List.map_append]
        rfl
    · have hr : r = 0 := by simpa using hb
      subst hr
      rw [Few.laid_zero, List.append_nil] at he
      rw [he] at hk
      exact s_ret (ev_var rfl) fun H5 e5 => k p H5 (fresh_back e1 hp) (((e1.trans e3).trans e4).trans e5) (e5 _ _ (e4 _ _ hk))
theorem el_laid {te : TE} {σ : L2.St} {n : Int} (h : Ev te σ H (.int n)) (hl : (Few.laid n).length < 100000) : EvL (tCall (sp_laid K A) [] E (tCons te tNil)) σ H ((Few.laid n).map V.int) :=
  el_call1 (x_v h) fun x H1 e1 hx Q q => by
    rw [show x = V.int n from hx]
    exact LoadSp.good ⟨hl, fun p H' hp e hx => q p H' hp e hx⟩
theorem er_laid {te : TE} {σ : L2.St} {d : PyData} (h : EvX te σ H (fun v H => Th K H v d)) (hl : wholeD d = false) (k : RaiseE E A.load H) : Er (tCall (sp_laid K A) [] E (tCons te tNil)) σ H :=
  er_call1 h fun x H1 e1 hx Q => LoadSp.bad hx hl (k.mono e1)
end
end Fw

namespace Fw
open PySem PySem.Spec PyProof.Rows L2 Evl
/-! comprehensions -/
section
variable {K : PySem.W.Frag} {σ : L2.St} {H H' : Hp} {ta : TA} {tb te tx tl : TE} {t u : TT} {x y z v : V}
def CwV (H : Hp) (xs : List V) (Dl : Addr) (H' : Hp) : Prop := H Dl = none ∧ Ex H H' ∧ H' Dl = some (.lst xs)
theorem cwv_turn {H H' : Hp} {acc : List V} {b : Bool} {y : V} {Dl : Addr} {σ2 : L2.St} (p : CwV H acc Dl H') (hi : acc.length < 50000) (ht : EvT t σ2 H b) (he : b = true → Ev te σ2 H y) (R : Hp → Prop) (hR : ∀ H2, CwV H (if b = true then acc ++ [y] else acc) Dl H2 → R H2) :
    t σ2 H' fun b H3 => if b = true then te σ2 H3 fun y H4 => ∃ acc, H4 Dl = some (.lst acc) ∧ acc.length < sizeLine ∧ R (upd H4 Dl (.lst (acc ++ [y]))) else R H3 := by
  obtain ⟨p1, p2, p3⟩ := p
  refine ht H' p2 _ fun H3 e3 => ?_
  cases hb : b with
  | true =>
    show te σ2 H3 fun y H4 => ∃ acc, H4 Dl = some (.lst acc) ∧ acc.length < sizeLine ∧ R (upd H4 Dl (.lst (acc ++ [y])))
    refine he hb H3 (p2.trans e3) _ fun H4 e4 => ⟨acc, e4 Dl _ (e3 Dl _ p3), sz_lt (by omega), hR _ ⟨p1, Ex.mut ((p2.trans e3).trans e4) p1, ?_⟩⟩
    rw [hb, if_pos rfl]
    exact upd_same
  | false =>
    show R H3
    refine hR _ ⟨p1, p2.trans e3, ?_⟩
    rw [hb, if_neg (by decide)]
    exact e3 Dl _ p3
theorem filt_take {f : V → Bool} {g : V → V} {xs : List V} {i : Nat} {x : V} (h : xs[i]? = some x) : ((xs.take (i + 1)).filter f).map g = if f x = true then ((xs.take i).filter f).map g ++ [g x] else ((xs.take i).filter f).map g := by
  rw [List.take_add_one, h, List.filter_append]
  show List.map g (List.filter f (List.take i xs) ++ List.filter f [x]) = _
  by_cases c : f x = true
  · rw [if_pos c, List.filter_cons, if_pos c, List.map_append]
    rfl
  · rw [if_neg c, List.filter_cons, if_neg c]
    simp
theorem filt_len {f : V → Bool} {g : V → V} {xs : List V} {i : Nat} : (((xs.take i).filter f).map g).length ≤ xs.length := by
  rw [List.length_map]
  have h := List.length_filter_le f (xs.take i)
  have h2 : (xs.take i).length ≤ xs.length := by
    rw [List.length_take]
    omega
  omega
theorem el_lcV {xs : List V} {j : Nat} {vs : List Nat} (f : V → Bool) (g : V → V) (h : EvX tl σ H (VL K xs)) (hz : xs.length ≤ 40000) (hw : ∀ x, wipe ((wipe σ vs).set j (some x)) vs = wipe σ vs)
    (ht : ∀ (x : V) H1, Ex H H1 → x ∈ xs → EvT t ((wipe σ vs).set j (some x)) H1 (f x)) (he : ∀ (x : V) H1, Ex H H1 → x ∈ xs → f x = true → Ev te ((wipe σ vs).set j (some x)) H1 (g x)) :
    EvL (tLc (iList K tl) (gName j) t te vs) σ H ((xs.filter f).map g) := fun H0 e Q q => h H0 e _ fun v H1 e1 ⟨a, ev, hx⟩ => ⟨a, ev, ⟨xs, hx⟩, fun Dl hD =>
  lc_list (xs := xs) (fun i => CwV H1 (((xs.take i).filter f).map g) Dl) ⟨hD, Ex.new hD, upd_same⟩ (fun i H' _ p => ex_l p.2.1 hx) (fun i x H' hi p => ⟨hw x, by
    refine cwv_turn (b := f x) (y := g x) p (by have := @filt_len f g xs i; omega) (ht x H1 (e.trans e1) (List.mem_of_getElem? hi)) (fun hf => he x H1 (e.trans e1) (List.mem_of_getElem? hi) hf) _ fun H2 p2 => ?_
    rw [filt_take hi]
    exact p2⟩) (fun H' p => q Dl H' (fresh_back e1 p.1) (e1.trans p.2.1) (by have z := p.2.2; rw [List.take_length] at z; exact z))⟩
theorem el_lcI {ns : List Int} {j : Nat} {vs : List Nat} (f : Int → Bool) (g : Int → V) (h : EvX tl σ H (IL K ns)) (hz : ns.length ≤ 40000) (hw : ∀ x, wipe ((wipe σ vs).set j (some x)) vs = wipe σ vs)
    (ht : ∀ (n : Int) H1, Ex H H1 → n ∈ ns → EvT t ((wipe σ vs).set j (some (.int n))) H1 (f n)) (he : ∀ (n : Int) H1, Ex H H1 → n ∈ ns → f n = true → Ev te ((wipe σ vs).set j (some (.int n))) H1 (g n)) :
    EvL (tLc (iList K tl) (gName j) t te vs) σ H ((ns.filter f).map g) := by
  have key := el_lcV (xs := ns.map V.int) (fun x => match x with | .int n => f n | _ => false) (fun x => match x with | .int n => g n | _ => x) (x_vlI h) (by rw [List.length_map]; exact hz) hw (t := t) (te := te) (fun x H1 e hx => by
    obtain ⟨n, hn, rfl⟩ := List.mem_map.mp hx
    exact ht n H1 e hn) (fun x H1 e hx hf => by
    obtain ⟨n, hn, rfl⟩ := List.mem_map.mp hx
    exact he n H1 e hn hf)
  rw [List.filter_map, List.map_map] at key
  exact key
theorem et_yes : EvT tYes σ H true := fun H1 _ Q q => q H1 (Ex.refl H1)
/-- without a test -/
theorem el_lcI0 {ns : List Int} {j : Nat} {vs : List Nat} (g : Int → V) (h : EvX tl σ H (IL K ns)) (hz : ns.length ≤ 40000) (hw : ∀ x, wipe ((wipe σ vs).set j (some x)) vs = wipe σ vs)
    (he : ∀ (n : Int) H1, Ex H H1 → n ∈ ns → Ev te ((wipe σ vs).set j (some (.int n))) H1 (g n)) :
    EvL (tLc (iList K tl) (gName j) tYes te vs) σ H (ns.map g) := by
  have k := el_lcI (t := tYes) (te := te) (fun _ => true) g h hz hw (fun _ _ _ _ => et_yes) (fun n H1 e hn _ => he n H1 e hn)
  rw [List.filter_eq_self.mpr (fun _ _ => rfl)] at k
  exact k
/-- slices -/
theorem cut_to {xs : List V} {n : Nat} : cutV xs none (some (n : Int)) = xs.take n := by
  unfold cutV
  rw [HT.sIx_none, HT.sIx_nat, List.drop_zero, Nat.sub_zero]
  rcases Nat.le_total n xs.length with h | h
  · rw [Nat.min_eq_left h]
  · rw [Nat.min_eq_right h, List.take_length, List.take_of_length_le h]
theorem cut_from {xs : List V} {n : Nat} : cutV xs (some (n : Int)) none = xs.drop n := by
  unfold cutV
  rw [HT.sIx_none, HT.sIx_nat]
  rcases Nat.le_total n xs.length with h | h
  · rw [Nat.min_eq_left h]
    exact List.take_of_length_le (by rw [List.length_drop]; exact Nat.le_refl _)
  · rw [Nat.min_eq_right h, List.drop_length, List.drop_of_length_le h]
    simp
theorem el_to {ns : List Int} {n : Nat} {i : Int} (h : EvX te σ H (IL K ns)) (hb : Ev tb σ H (.int i)) (hi : i = (n : Int)) : EvL (tSl (rSlL K) te tNoPart (tPart tb)) σ H ((ns.take n).map V.int) := fun H1 e Q q =>
  h H1 e _ fun v H2 e2 hv => (eo_none (σ := σ) (H := H)) H2 (e.trans e2) _ fun H3 e3 => (eo_some hb) H3 ((e.trans e2).trans e3) _ fun H4 e4 => by
    obtain ⟨a, rfl, hs⟩ := hv
    refine ⟨a, _, rfl, ex_l (e3.trans e4) hs, fun p hp => q p _ (fresh_back ((e2.trans e3).trans e4) hp) (((e2.trans e3).trans e4).trans (Ex.new hp)) ?_⟩
    rw [upd_same, hi, cut_to, List.map_take]
theorem el_from {ns : List Int} {n : Nat} {i : Int} (h : EvX te σ H (IL K ns)) (hb : Ev tb σ H (.int i)) (hi : i = (n : Int)) : EvL (tSl (rSlL K) te (tPart tb) tNoPart) σ H ((ns.drop n).map V.int) := fun H1 e Q q =>
  h H1 e _ fun v H2 e2 hv => (eo_some hb) H2 (e.trans e2) _ fun H3 e3 => (eo_none (σ := σ) (H := H)) H3 ((e.trans e2).trans e3) _ fun H4 e4 => by
    obtain ⟨a, rfl, hs⟩ := hv
    refine ⟨a, _, rfl, ex_l (e3.trans e4) hs, fun p hp => q p _ (fresh_back ((e2.trans e3).trans e4) hp) (((e2.trans e3).trans e4).trans (Ex.new hp)) ?_⟩
    rw [upd_same, hi, cut_from, List.map_drop]
end
end Fw

namespace Fw
open PySem PySem.Spec PyProof.Rows L2 Evl
/-! the lists that a def has made, written out: all else is as it was -/
def Led (H0 H : Hp) (ps : List (Addr × List V)) : Prop := Ex H0 H ∧ (∀ q ∈ ps, H0 q.1 = none ∧ H q.1 = some (.lst q.2)) ∧ (ps.map (·.1)).Nodup
section
variable {H0 H H1 : Hp} {ps : List (Addr × List V)} {p : Addr} {xs ys : List V}
theorem Led.nil (H : Hp) : Led H H [] := ⟨Ex.refl H, (fun q h => by cases h), List.nodup_nil⟩
theorem Led.ext (h : Led H0 H ps) : Ex H0 H := h.1
theorem Led.ex (h : Led H0 H ps) (e : Ex H H1) : Led H0 H1 ps := ⟨h.1.trans e, fun q hq => ⟨(h.2.1 q hq).1, e _ _ (h.2.1 q hq).2⟩, h.2.2⟩
theorem Led.new (h : Led H0 H ps) (hp : H p = none) (e : Ex H H1) (hx : H1 p = some (.lst xs)) : Led H0 H1 ((p, xs) :: ps) := by
  refine ⟨h.1.trans e, fun q hq => ?_, ?_⟩
  · rcases List.mem_cons.mp hq with z | z
    · rw [z]
      exact ⟨fresh_back h.1 hp, hx⟩
    · exact ⟨(h.2.1 q z).1, e _ _ (h.2.1 q z).2⟩
  · rw [List.map_cons, List.nodup_cons]
    refine ⟨fun z => ?_, h.2.2⟩
    obtain ⟨q, hq, eq⟩ := List.mem_map.mp z
    have a := (h.2.1 q hq).2
    rw [eq, hp] at a
    cases a
theorem Led.at (h : Led H0 H ps) (i : Nat) (hi : ps[i]? = some (p, xs)) : H p = some (.lst xs) := (h.2.1 _ (List.mem_of_getElem? hi)).2
theorem Led.free (h : Led H0 H ps) (i : Nat) (hi : ps[i]? = some (p, xs)) : H0 p = none := (h.2.1 _ (List.mem_of_getElem? hi)).1
theorem set_keys : ∀ {ps : List (Addr × List V)} {i : Nat} {p : Addr} {xs ys : List V}, ps[i]? = some (p, xs) → (ps.set i (p, ys)).map (·.1) = ps.map (·.1)
  | [], i, p, xs, ys, h => by simp at h
  | q :: r, 0, p, xs, ys, h => by
    have e : q = (p, xs) := Option.some.inj h
    rw [e]
    rfl
  | q :: r, i + 1, p, xs, ys, h => by
    have ih := set_keys (ps := r) (i := i) (p := p) (xs := xs) (ys := ys) h
    show q.1 :: (r.set i (p, ys)).map (·.1) = q.1 :: r.map (·.1)
    rw [ih]
theorem mem_set_of {ps : List (Addr × List V)} {i : Nat} {a : Addr × List V} {q : Addr × List V} (h : q ∈ ps.set i a) : q = a ∨ ∃ j, j ≠ i ∧ ps[j]? = some q := by
  obtain ⟨j, hj⟩ := List.getElem?_of_mem h
  by_cases e : j = i
  · subst e
    left
    rw [List.getElem?_set_self'] at hj
    cases z : ps[j]? with
    | none =>
      rw [z] at hj
      cases hj
    | some w =>
      rw [z] at hj
      exact (Option.some.inj hj).symm
  · right
    rw [List.getElem?_set_ne (Ne.symm e)] at hj
    exact ⟨j, e, hj⟩
theorem Led.put (h : Led H0 H ps) (i : Nat) (ys : List V) (hi : ps[i]? = some (p, xs)) : Led H0 (upd H p (.lst ys)) (ps.set i (p, ys)) := by
  refine ⟨Ex.mut h.1 (h.free i hi), fun q hq => ?_, ?_⟩
  · rcases mem_set_of hq with z | ⟨j, hj, z⟩
    · rw [z]
      exact ⟨h.free i hi, upd_same⟩
    · have ne : q.1 ≠ p := fun eq => by
        have a : (ps.map (·.1))[j]? = some p := by
          rw [List.getElem?_map, z]
          exact congrArg some eq
        have b : (ps.map (·.1))[i]? = some p := by
          rw [List.getElem?_map, hi]
          rfl
        exact hj (nd_ix h.2.2 a b)
      rw [upd_ne ne]
      exact h.2.1 q (List.mem_of_getElem? z)
  · rw [set_keys hi]
    exact h.2.2
variable {K : PySem.W.Frag} {ns : List Int}
theorem Led.il (h : Led H0 H ps) (i : Nat) (hi : ps[i]? = some (p, ns.map V.int)) : IL K ns (.ref p) H := ⟨p, rfl, sq_of (h.at i hi)⟩
end
/-! ### helpers that most laws have -/
section
variable {K : PySem.W.Frag} {A : Ad} {vs : List V} {H : Hp} {Q : VK} {E : XK}
/-! _law_cell_at -/
def cellAt (ns : List Int) (k : Nat) : Int := ns.getD k 0
def sp_l_cell_at (K : PySem.W.Frag) (A : Ad) : Sp := fun vs H Q _ => ∃ v ns, ∃ k : Nat, vs = [v, .int (k : Int)] ∧ IL K ns v H ∧ RetV (.int (cellAt ns k)) H Q
def t_l_cell_at (K : PySem.W.Frag) (A : Ad) : TS :=
  (tSeq (tIfS (tTest (tOp rLtI (tVar 1) (tCB (Evl.rLenS K) (tCons (tVar 0) tNil)))) (tRet (tOp (rIxL K) (tVar 0) (tVar 1))) tNext)
    (tRet (tC (.int 0))))
theorem r_l_cell_at (h : sp_l_cell_at K A vs H Q E) : t_l_cell_at K A (D0 Q) (start ["_law_script", "_law_k"] vs) H := by
  obtain ⟨v, ns, j, rfl, hv, k⟩ := h
  refine q_when (et_test (ev_op (ev_var rfl) (ev_lenX (x_ilv rfl hv)) rv_I0)) (fun hb H1 e1 => ?_) (fun hb H1 e1 => ?_)
  · have hb' : (j : Int) < (ns.length : Int) := of_decide_eq_true hb
    have hj : j < ns.length := by omega
    have g : ns[j]? = some (cellAt ns j) := by
      unfold cellAt
      rw [List.getD_eq_getElem?_getD, List.getElem?_eq_getElem hj]
      rfl
    exact s_retV (ev_ix (x_ilv rfl (mono_il _ _ _ e1 hv)) (ev_var rfl) rfl g) (k.mono e1)
  · have hb' : ¬ (j : Int) < (ns.length : Int) := of_decide_eq_false hb
    have hj : ns.length ≤ j := by omega
    have g : cellAt ns j = 0 := by
      unfold cellAt
      rw [List.getD_eq_getElem?_getD, List.getElem?_eq_none hj]
      rfl
    rw [g] at k
    exact s_retV ev_c (k.mono e1)
theorem ev_cell {te tx : TE} {σ : L2.St} {ns : List Int} {k : Nat} {i : Int} (h : EvX te σ H (IL K ns)) (h2 : Ev tx σ H (.int i)) (hi : i = (k : Int)) : Ev (tCall (sp_l_cell_at K A) [] E (tCons te (tCons tx tNil))) σ H (.int (cellAt ns k)) :=
  ev_call2 h mono_il (x_v h2) fun x y H1 e1 hx hy Q q => ⟨x, ns, k, by rw [show y = V.int i from hy, hi], hx, fun H' e => q H' e⟩
/-! _law_whole -/
def sp_l_whole (K : PySem.W.Frag) (A : Ad) : Sp := sp_is_whole K A
def t_l_whole (K : PySem.W.Frag) (A : Ad) : TS :=
  (tRet (tAndV (tCB (rIsi K) (tCons (tVar 0) (tCons (tC (.ty "int")) tNil))) (tNotV (tCB (rIsi K) (tCons (tVar 0) (tCons (tC (.ty "bool")) tNil))))))
theorem r_l_whole (h : sp_l_whole K A vs H Q E) : t_l_whole K A (D0 Q) (start ["_law_found"] vs) H := r_is_whole h
theorem ev_l_whole {te : TE} {σ : L2.St} {n : Int} {E : XK} (h : Ev te σ H (.int n)) : Ev (tCall (sp_l_whole K A) [] E (tCons te tNil)) σ H (.bl true) := ev_is_whole h (th_int n)
/-! _law_load, by reversed -/
def sp_l_load (K : PySem.W.Frag) (A : Ad) : Sp := fun vs H Q _ => ∃ v ns, vs = [v] ∧ IL K ns v H ∧ RetV (.int (Few.loadOf ns)) H Q
def t_l_load (K : PySem.W.Frag) (A : Ad) : TS :=
  (tSeq (tAsg (tC (.int 0)) (gName 1))
    (tSeq (tFor (iRev K (tCons (tVar 0) tNil)) (gName 2) (tAsg (tOp rAddI (tOp rMulI (tC (.int 2)) (tVar 1)) (tVar 2)) (gName 1)))
    (tRet (tVar 1))))
theorem r_l_load (h : sp_l_load K A vs H Q E) : t_l_load K A (D0 Q) (start ["_law_things_here", "_law_load_here", "_law_thing"] vs) H := by
  obtain ⟨v, ns, rfl, hv, k⟩ := h
  refine q_asg ev_c fun H1 e1 => ?_
  refine q_forRvP (x_vlI (x_ilv rfl (mono_il _ _ _ e1 hv))) (fun i σ' => ∃ u, σ' = [some v, some (.int (Few.loadOf (ns.drop (ns.length - i)))), u]) ⟨none, by rw [Nat.sub_zero, List.drop_length]; rfl⟩ ?_ ?_
  · rintro H2 i x σ' H' e2 e3 hi hx ⟨u, rfl⟩
    rw [List.length_map] at hi hx
    obtain ⟨n, hn, rfl⟩ := of_map hx
    refine s_asg (v := .int (2 * Few.loadOf (ns.drop (ns.length - i)) + n)) (ev_op (ev_op ev_c (ev_var rfl) (rv_mul (cmul_l ⟨by decide, by decide⟩))) (ev_var rfl) rv_I0) fun H4 e4 => ?_
    refine ⟨⟨some (.int n), ?_⟩, e3.trans e4⟩
    rw [load_drop hi hn]
    rfl
  · rintro σ' H' e2 ⟨u, rfl⟩
    rw [List.length_map, Nat.sub_self, List.drop_zero]
    exact s_retV (ev_var rfl) (k.mono (e1.trans e2))
theorem ev_l_load {te : TE} {σ : L2.St} {ns : List Int} (h : EvX te σ H (IL K ns)) : Ev (tCall (sp_l_load K A) [] E (tCons te tNil)) σ H (.int (Few.loadOf ns)) :=
  ev_call1 h fun x H1 e1 hx Q q => ⟨x, ns, rfl, hx, fun H' e => q H' e⟩
/-! _law_ended -/
def sp_l_ended (K : PySem.W.Frag) (A : Ad) : Sp := fun vs H Q _ => ∃ v ns, vs = [v] ∧ IL K ns v H ∧ ns.length ≤ 100000 ∧ RetL ((Few.ended ns).map V.int) H Q
def t_l_ended (K : PySem.W.Frag) (A : Ad) : TS :=
  (tSeq (tAsg (tC (.int 0)) (gName 1))
    (tSeq (tFor (iRng1 (tCons (tCB (Evl.rLenS K) (tCons (tVar 0) tNil)) tNil)) (gName 2) (tIfS (tTest (tOp rNe (tOp (rIxL K) (tVar 0) (tVar 2)) (tC (.int 0)))) (tAsg (tOp rAddI (tVar 2) (tC (.int 1))) (gName 1)) tNext))
    (tRet (tSl (rSlL K) (tVar 0) tNoPart (tPart (tVar 1))))))
theorem r_l_ended (h : sp_l_ended K A vs H Q E) : t_l_ended K A (D0 Q) (start ["_law_things_here", "_law_size", "_law_k"] vs) H := by
  obtain ⟨v, ns, rfl, hv, hlen, k⟩ := h
  refine q_asg ev_c fun H1 e1 => ?_
  have hv1 := mono_il _ _ _ e1 hv
  refine q_forRgP (n := (ns.length : Int)) (ea_cons (ev_lenX (x_ilv rfl hv1)) ea_nil) ⟨by omega, by omega⟩ (fun i σ' => ∃ u, ∃ s : Nat, σ' = [some v, some (.int (s : Int)), u] ∧ s ≤ i ∧ ns.take s = Few.ended (ns.take i)) ⟨none, 0, rfl, Nat.le_refl _, rfl⟩ ?_ ?_
  · rintro H2 i σ' H' e2 e3 hi ⟨u, s, rfl, hs, he⟩
    have hi' : i < ns.length := by omega
    have g : ns[i]? = some ns[i] := List.getElem?_eq_getElem hi'
    have hv2 := mono_il _ _ _ (e2.trans e3) hv1
    have tk : ns.take (i + 1) = ns.take i ++ [ns[i]] := by
      rw [List.take_add_one, g]
      rfl
    refine s_when (et_is (et_test (ev_op (ev_ix (x_ilv rfl hv2) (ev_var rfl) rfl g) ev_c (rv_ne rfl))) ne_zero) (fun hb H4 e4 => ?_) (fun hb H4 e4 => ?_)
    · have z : ns[i] ≠ 0 := by simpa using hb
      refine s_asg (v := .int ((i + 1 : Nat) : Int)) (ev_op (ev_var rfl) ev_c rv_I0) fun H5 e5 => ?_
      refine ⟨⟨some (.int (i : Int)), i + 1, rfl, Nat.le_refl _, ?_⟩, (e3.trans e4).trans e5⟩
      rw [tk, Few.ended_snoc _ z]
    · have z : ns[i] = 0 := by simpa using hb
      refine ⟨⟨some (.int (i : Int)), s, rfl, Nat.le_succ_of_le hs, ?_⟩, e3.trans e4⟩
      rw [tk, z, Few.ended_snoc0, he]
  · rintro σ' H' e2 ⟨u, s, rfl, hs, he⟩
    have e0 : ns.take ((ns.length : Int).toNat) = ns := by
      rw [Int.toNat_natCast]
      exact List.take_length
    rw [e0] at he
    rw [← he] at k
    exact s_retLL (el_to (x_ilv rfl (mono_il _ _ _ e2 hv1)) (ev_var rfl) rfl) (k.mono (e1.trans e2))
theorem el_l_ended {te : TE} {σ : L2.St} {ns : List Int} (h : EvX te σ H (IL K ns)) (hl : ns.length ≤ 100000) : EvL (tCall (sp_l_ended K A) [] E (tCons te tNil)) σ H ((Few.ended ns).map V.int) :=
  el_call1 h fun x H1 e1 hx Q q => ⟨x, ns, rfl, hx, hl, fun p H' hp e hx => q p H' hp e hx⟩
/-! _law_alike -/
def sp_l_alike (K : PySem.W.Frag) (A : Ad) : Sp := fun vs H Q _ => ∃ v w xs ys, vs = [v, w] ∧ IL K xs v H ∧ IL K ys w H ∧ ys.length ≤ 100000 ∧ RetV (.bl (decide (xs = ys))) H Q
def t_l_alike (K : PySem.W.Frag) (A : Ad) : TS :=
  (tSeq (tIfS (tOr (tNot (tB (tCB (rIsi K) (tCons (tVar 0) (tCons (tC (.ty "list")) tNil))))) (tTest (tOp rNe (tCB (Evl.rLenS K) (tCons (tVar 0) tNil)) (tCB (Evl.rLenS K) (tCons (tVar 1) tNil))))) (tRet (tC (.bl false))) tNext)
    (tSeq (tFor (iRng1 (tCons (tCB (Evl.rLenS K) (tCons (tVar 1) tNil)) tNil)) (gName 2) (tIfS (tOr (tNot (tB (tCall (sp_l_whole K A) [] E0 (tCons (tOp (rIxL K) (tVar 0) (tVar 2)) tNil)))) (tTest (tOp rNe (tOp (rIxL K) (tVar 0) (tVar 2)) (tOp (rIxL K) (tVar 1) (tVar 2))))) (tRet (tC (.bl false))) tNext))
    (tRet (tC (.bl true)))))
theorem take_eq_step {xs ys : List Int} {i : Nat} (hx : i < xs.length) (hy : i < ys.length) (h : xs.take i = ys.take i) (e : xs[i] = ys[i]) : xs.take (i + 1) = ys.take (i + 1) := by
  rw [List.take_add_one, List.take_add_one, h, List.getElem?_eq_getElem hx, List.getElem?_eq_getElem hy, e]
theorem r_l_alike (h : sp_l_alike K A vs H Q E) : t_l_alike K A (D0 Q) (start ["_law_found", "_law_due", "_law_k"] vs) H := by
  obtain ⟨v, w, xs, ys, rfl, hv, hw, hlen, k⟩ := h
  have hnl : decide (V.int (xs.length : Int) = V.int (ys.length : Int)) = decide (xs.length = ys.length) := by
    rw [eq_dec]
    by_cases c : xs.length = ys.length
    · rw [c]
      simp
    · rw [decide_eq_false c, decide_eq_false (by omega)]
  refine q_when (b := !decide (xs.length = ys.length)) (et_is (et_or (et_not (et_B (ev_isList (ev_var rfl) (il_th hv)))) fun _ => et_test (ev_op (ev_lenX (x_ilv rfl hv)) (ev_lenX (x_ilv rfl hw)) (rv_ne rfl))) (by rw [hnl]; simp [tyD])) (fun hb H1 e1 => ?_) (fun hb H1 e1 => ?_)
  · have z : xs ≠ ys := fun e => by
      rw [e] at hb
      simp at hb
    rw [decide_eq_false z] at k
    exact s_retV ev_c (k.mono e1)
  · have hl : xs.length = ys.length := by simpa using hb
    have hv1 := mono_il _ _ _ e1 hv
    have hw1 := mono_il _ _ _ e1 hw
    refine q_forRgP (n := (ys.length : Int)) (ea_cons (ev_lenX (x_ilv rfl hw1)) ea_nil) ⟨by omega, by omega⟩ (fun i σ' => ∃ u, σ' = [some v, some w, u] ∧ xs.take i = ys.take i) ⟨none, rfl, rfl⟩ ?_ ?_
    · rintro H2 i σ' H' e2 e3 hi ⟨u, rfl, he⟩
      have hy' : i < ys.length := by omega
      have hx' : i < xs.length := by omega
      have g1 : xs[i]? = some xs[i] := List.getElem?_eq_getElem hx'
      have g2 : ys[i]? = some ys[i] := List.getElem?_eq_getElem hy'
      have hv2 := mono_il _ _ _ (e2.trans e3) hv1
      have hw2 := mono_il _ _ _ (e2.trans e3) hw1
      have ix1 : Ev (tOp (rIxL K) (tVar 0) (tVar 2)) [some v, some w, some (.int (i : Int))] H' (.int xs[i]) := ev_ix (x_ilv rfl hv2) (ev_var rfl) rfl g1
      have ix2 : Ev (tOp (rIxL K) (tVar 1) (tVar 2)) [some v, some w, some (.int (i : Int))] H' (.int ys[i]) := ev_ix (x_ilv rfl hw2) (ev_var rfl) rfl g2
      refine s_when (b := !decide (xs[i] = ys[i])) (et_is (et_or (et_not (et_B (ev_l_whole ix1))) fun _ => et_test (ev_op ix1 ix2 (rv_ne rfl))) (by rw [eq_dec]; rfl)) (fun hb H4 e4 => ?_) (fun hb H4 e4 => ?_)
      · have z : xs ≠ ys := fun e => by
          subst e
          simp at hb
        rw [decide_eq_false z] at k
        exact s_retV ev_c (k.mono (((e1.trans e2).trans e3).trans e4))
      · have z : xs[i] = ys[i] := by simpa using hb
        exact ⟨⟨some (.int (i : Int)), rfl, take_eq_step hx' hy' he z⟩, e3.trans e4⟩
    · rintro σ' H' e2 ⟨u, rfl, he⟩
      rw [Int.toNat_natCast, List.take_length, ← hl, List.take_length] at he
      rw [decide_eq_true he] at k
      exact s_retV ev_c (k.mono (e1.trans e2))
theorem ev_alike {te tx : TE} {σ : L2.St} {xs ys : List Int} (h : EvX te σ H (IL K xs)) (h2 : EvX tx σ H (IL K ys)) (hl : ys.length ≤ 100000) : Ev (tCall (sp_l_alike K A) [] E (tCons te (tCons tx tNil))) σ H (.bl (decide (xs = ys))) :=
  ev_call2 h mono_il h2 fun x y H1 e1 hx hy Q q => ⟨x, y, xs, ys, rfl, hx, hy, hl, fun H' e => q H' e⟩
end
end Fw

namespace Fw
open PySem PySem.Spec PyProof.Rows L2 Evl
/-! errors caught -/
theorem pss_pre {X : Cx} {sts : List Stmt} {p : Prop} {t : TS} (h : p → PSs X sts t) : PSs X sts (fun D σ H => p ∧ t D σ H) := ⟨fun pins s σ H D I w => (h w.1).run pins s σ H D I w.2⟩
/-- an except suite that is met with an error of the class at D alone -/
def sufC (D : Addr) (ts : Addr → TS) : Addr → Value → Option Addr → TS := fun a cls d D' σ H => (cls = .ref D ∧ d = none) ∧ ts a D' σ H
def tTryC (K : PySem.W.Frag) (D S : Addr) (i : Nat) (tb : WX → TS) (ts : Addr → TS) : TS := fun D' σ H => tb (wAs K (.ref S) i (sufC D ts) (fun _ _ _ _ => False) D') D' σ H
/-- what the written part says of the error class at D, asked of the others -/
structure Caught (K : PySem.W.Frag) (A : Ad) (D : Addr) (b1 b2 b3 b4 b5 : Bool) : Prop where
  te : PySem.W.exmOne K (.ref D) (.ref A.stone) = some true
  ve : PySem.W.kitOne K (.ref D) (.type "ValueError") = some true
  ly : PySem.W.kitOne K (.ref D) (.ref A.laying) = some b1
  lo : PySem.W.kitOne K (.ref D) (.ref A.load) = some b2
  pl : PySem.W.kitOne K (.ref D) (.ref A.plan) = some b3
  tx : PySem.W.kitOne K (.ref D) (.ref A.text) = some b4
  de : PySem.W.kitOne K (.ref D) (.ref A.deed) = some b5
theorem kit_ref {K : PySem.W.Frag} {D C : Addr} {b : Bool} (hd : PySem.W.hasDictIn K C = true) (ht : PySem.W.typeIn K (.ref C) = some (.type "type")) (hs : PySem.W.subIn K (.ref D) (.ref C) = some b) (self : PySem.W.subIn K (.ref D) (.ref D) = some true) : PySem.W.kitOne K (.ref D) (.ref C) = some b := by
  unfold PySem.W.kitOne
  by_cases e : (Value.ref D == Value.ref C) = true
  · rw [if_pos e]
    have e' : D = C := Value.ref.inj (beq_iff_eq.mp e)
    rw [← e', self] at hs
    exact hs
  · rw [if_neg e]
    obtain ⟨cd, hc, _⟩ := PySem.W.any_some hd
    show (if ((PySem.W.clsIn K C).isSome && PySem.W.typeIn K (.ref C) == some (.type "type")) = true then PySem.W.subIn K (.ref D) (.ref C) else none) = some b
    rw [hc, ht, if_pos (by simp)]
    exact hs
theorem kit_type {K : PySem.W.Frag} {D : Addr} {T : String} {b : Bool} (hm : PySem.W.kitMeta T = true) (hs : PySem.W.subIn K (.ref D) (.type T) = some b) : PySem.W.kitOne K (.ref D) (.type T) = some b := by
  unfold PySem.W.kitOne
  rw [if_neg (by intro z; cases beq_iff_eq.mp z)]
  show (if PySem.W.kitMeta T = true then PySem.W.subIn K (.ref D) (.type T) else none) = some b
  rw [if_pos hm]
  exact hs
section
variable {K : PySem.W.Frag} {A : Ad} {σ : L2.St} {H H' : Hp} {ta : TA} {tb te tx tl : TE} {D : Ends} {tz : TS}
theorem ev_isE {C a : Addr} {i : Nat} {n : String} {b : Bool} (h : σ[i]? = some (some (.ref a))) (hk : PySem.W.kitOne K (.ref C) (.type n) = some b) : Ev (tCB (rIsE K C a) (tCons (tVar i) (tCons (tC (.ty n)) tNil))) σ H (.bl b) :=
  ev_cb (ea_cons (ev_var h) (ea_cons ev_c ea_nil)) fun H1 _ Q q => ⟨.ty n, .type n, b, rfl, (fun u r => r), hk, q H1 (Ex.refl H1)⟩
theorem ev_isEC {C a c : Addr} {i : Nat} {b : Bool} (h : σ[i]? = some (some (.ref a))) (hk : PySem.W.kitOne K (.ref C) (.ref c) = some b) : Ev (tCB (rIsE K C a) (tCons (tVar i) (tCons (tC (.ref c)) tNil))) σ H (.bl b) :=
  ev_cb (ea_cons (ev_var h) (ea_cons ev_c ea_nil)) fun H1 _ Q q => ⟨.ref c, .ref c, b, rfl, (fun u r => r), hk, q H1 (Ex.refl H1)⟩
/-- a try whose body is a call that raises D -/
theorem q_tryDrop {C S : Addr} {i : Nat} {sp : Sp} {P : V → Hp → Prop} {ts : Addr → TS} (h : EvX te σ H P) (hs : ∀ x H1, Ex H H1 → P x H1 → ∀ (Q : VK) (E : XK), RaiseE E C H1 → sp [x] H1 Q E) (ht : PySem.W.exmOne K (.ref C) (.ref S) = some true)
    (k : ∀ a H1, Ex H H1 → H1 a = none → ts a { nx := fun σ' H' => tz D (σ'.set i none) H', rt := D.rt, bk := fun σ' H' => D.bk (σ'.set i none) H', ct := fun σ' H' => D.ct (σ'.set i none) H' } (σ.set i (some (.ref a))) H1) :
    tSeq (tTryC K C S i (fun W => tDrop (tCallS sp (WE W) (tCons te tNil))) ts) tz D σ H :=
  h H (Ex.refl H) _ fun v H1 e1 hp => hs v H1 e1 hp _ _ fun H2 e2 => ⟨true, ht, fun _ a ha => ⟨⟨rfl, rfl⟩, k a H2 (e1.trans e2) ha⟩, fun z => by cases z⟩
/-- .. that runs through -/
theorem q_tryThru {C S : Addr} {i : Nat} {sp : Sp} {P : V → Hp → Prop} {ts : Addr → TS} (h : EvX te σ H P) (hs : ∀ x H1, Ex H H1 → P x H1 → ∀ (Q : VK) (E : XK), (∀ v H2, Ex H1 H2 → Q v H2) → sp [x] H1 Q E)
    (k : ∀ H1, Ex H H1 → tz D σ H1) : tSeq (tTryC K C S i (fun W => tDrop (tCallS sp (WE W) (tCons te tNil))) ts) tz D σ H :=
  h H (Ex.refl H) _ fun v H1 e1 hp => hs v H1 e1 hp _ _ fun v H2 e2 => k H2 (e1.trans e2)
/-! lists of things -/
inductive ThAll (K : PySem.W.Frag) (H : Hp) : List V → List PyData → Prop
  | nil : ThAll K H [] []
  | cons {v : V} {vs : List V} {d : PyData} {ds : List PyData} : Th K H v d → ThAll K H vs ds → ThAll K H (v :: vs) (d :: ds)
theorem ThAll.mono (e : Ex H H') : ∀ {vs : List V} {ds : List PyData}, ThAll K H vs ds → ThAll K H' vs ds
  | _, _, .nil => .nil
  | _, _, .cons a b => .cons (a.mono e) (b.mono e)
theorem ThAll.at : ∀ {vs : List V} {ds : List PyData}, ThAll K H vs ds → ∀ {i : Nat} {x : V}, vs[i]? = some x → ∃ d, ds[i]? = some d ∧ Th K H x d
  | _, _, .nil, i, x, h => by simp at h
  | _, _, .cons a b, 0, x, h => ⟨_, rfl, by have e := Option.some.inj h; rw [← e]; exact a⟩
  | _, _, .cons a b, i + 1, x, h => ThAll.at b (i := i) (x := x) h
theorem ThAll.length : ∀ {vs : List V} {ds : List PyData}, ThAll K H vs ds → vs.length = ds.length
  | _, _, .nil => rfl
  | _, _, .cons a b => by rw [List.length_cons, List.length_cons, ThAll.length b]
abbrev ThP (K : PySem.W.Frag) (d : PyData) : V → Hp → Prop := fun v H => Th K H v d
theorem mono_th {d : PyData} : Mono (ThP K d) := fun _ _ _ e p => p.mono e
theorem xt_c {v : V} {d : PyData} (h : ∀ H, Th K H v d) : EvX (tC v) σ H (ThP K d) := x_of ev_c mono_th (h H)
theorem xt_nil : EaX tNil σ H (fun vs H => ThAll K H vs []) := fun H1 _ _ q => q _ H1 (Ex.refl H1) .nil
theorem xt_cons {tr : TA} {d : PyData} {ds : List PyData} (h : EvX te σ H (ThP K d)) (hr : EaX tr σ H (fun vs H => ThAll K H vs ds)) : EaX (tCons te tr) σ H (fun vs H => ThAll K H vs (d :: ds)) := fun H1 e Q q =>
  h H1 e _ fun v H2 e2 hp => hr H2 (e.trans e2) _ fun vs H3 e3 hR => q _ H3 (e2.trans e3) (.cons (hp.mono e3) hR)
/-- a list of things -/
def ThL (K : PySem.W.Frag) (ds : List PyData) : V → Hp → Prop := fun v H => ∃ a xs, v = .ref a ∧ SqL K H a xs ∧ ThAll K H xs ds
theorem mono_thl {ds : List PyData} : Mono (ThL K ds) := fun _ _ _ e ⟨a, xs, h, s, t⟩ => ⟨a, xs, h, ex_l e s, t.mono e⟩
theorem xt_lst {ds : List PyData} (h : EaX ta σ H (fun vs H => ThAll K H vs ds)) (hz : ds.length ≤ 100000) : EvX (tLst ta) σ H (ThL K ds) := fun H1 e Q q =>
  h H1 e _ fun vs H2 e2 hr => ⟨sz_of (by rw [hr.length]; exact hz), fun p hp => q _ _ (e2.trans (Ex.new hp)) ⟨p, vs, rfl, sq_of upd_same, hr.mono (Ex.new hp)⟩⟩
/-- [5], (5,): things -/
theorem dpa_of : ∀ {vs : List V} {ds : List PyData}, ThAll K H vs ds → (∀ d ∈ ds, d ≠ .dict []) → DpAll K H vs ds
  | _, _, .nil, _ => .nil
  | _, _, .cons (d := d) a b, h => .cons (by
      cases a with
      | of a => exact a
      | dict a => exact absurd rfl (h _ List.mem_cons_self)) (dpa_of b fun d hd => h d (List.mem_cons_of_mem _ hd))
theorem xt_lstD {ds : List PyData} (h : EaX ta σ H (fun vs H => ThAll K H vs ds)) (hz : ds.length ≤ 100000) (hd : ∀ d ∈ ds, d ≠ .dict []) : EvX (tLst ta) σ H (ThP K (.list ds)) := fun H1 e Q q =>
  h H1 e _ fun vs H2 e2 hr => ⟨sz_of (by rw [hr.length]; exact hz), fun p hp => q _ _ (e2.trans (Ex.new hp)) (.of (.lst (sq_of upd_same) (dpa_of (hr.mono (Ex.new hp)) hd)))⟩
theorem xt_tup {ds : List PyData} (h : EaX ta σ H (fun vs H => ThAll K H vs ds)) (hz : ds.length ≤ 100000) (hd : ∀ d ∈ ds, d ≠ .dict []) : EvX (tTup ta) σ H (ThP K (.tuple ds)) := fun H1 e Q q =>
  h H1 e _ fun vs H2 e2 hr => ⟨sz_of (by rw [hr.length]; exact hz), fun p hp => q _ _ (e2.trans (Ex.new hp)) (.of (.tup (st_of upd_same) (dpa_of (hr.mono (Ex.new hp)) hd)))⟩
abbrev tDictN : TE := tDNewK
theorem xt_dict : EvX tDictN σ H (ThP K (.dict [])) := fun H1 e Q q p hp => q _ _ (Ex.new hp) (.dict upd_same)
/-- a loop over things -/
theorem q_forTh {ds : List PyData} {j : Nat} {tu : TS} (h : EvX tl σ H (ThL K ds)) (I : Nat → L2.St → Prop) (h0 : I 0 σ)
    (hs : ∀ H1 i x d σ' H', Ex H H1 → Ex H1 H' → ds[i]? = some d → Th K H' x d → I i σ' → tu { D with nx := NX H1 (I (i + 1)), ct := NX H1 (I (i + 1)), bk := tz D } (σ'.set j (some x)) H')
    (hd : ∀ σ' H', Ex H H' → I ds.length σ' → tz D σ' H') : tSeq (tFor (iList K tl) (gName j) tu) tz D σ H :=
  h H (Ex.refl H) _ fun v H1 e1 ⟨a, xs, ev, hq, ht⟩ => ⟨a, ev, ⟨xs, hq⟩, for_list (K := K) (D := { D with nx := tz D }) (a := a) (xs := xs) (fun i => NX H1 (I i)) ⟨h0, Ex.refl H1⟩ (fun i σ' H' _ p => ex_l p.2 hq) (fun i x σ' H' hx p => by
    obtain ⟨d, hd, th⟩ := ht.at hx
    exact hs H1 i x d σ' H' e1 p.2 hd (th.mono p.2) p.1) (fun σ' H' p => by
    have hp := p.1
    rw [ht.length] at hp
    exact hd σ' H' (e1.trans p.2) hp)⟩
/-- == of two lists of truths -/
theorem dps_bl {bs : List Bool} : DpAll K H (bs.map V.bl) (bs.map PyData.bool) := by
  induction bs with
  | nil => exact .nil
  | cons n r ih => exact .cons (.bl n) ih
theorem ev_eqB {xs ys : List Bool} (ha : EvX te σ H (VL K (xs.map V.bl))) (hb : EvX tb σ H (VL K (ys.map V.bl))) (s1 : SeqAt.shaped (.list (xs.map PyData.bool)) = true) (s2 : SeqAt.shaped (.list (ys.map PyData.bool)) = true) :
    Ev (tOp (rEqD K) te tb) σ H (.bl (PyData.eqvAll (xs.map PyData.bool) (ys.map PyData.bool))) := ev_opX ha mono_vl hb fun x y H1 _ ⟨a, ea, p⟩ ⟨b, eb, q⟩ H2 e2 Q k => by
  subst ea eb
  refine ⟨_, _, .lst (ex_l e2 p) dps_bl, .lst (ex_l e2 q) dps_bl, s1, s2, ?_⟩
  have z : PyData.eqv (.list (xs.map PyData.bool)) (.list (ys.map PyData.bool)) = PyData.eqvAll (xs.map PyData.bool) (ys.map PyData.bool) := by simp [PyData.eqv]
  rw [z]
  exact k H2 (Ex.refl H2)
/-- xs.insert(i, y) -/
abbrev rInsert : V → List V → Hp → VK → Prop := fun x vs H Q => ∃ (l : Addr) (xs : List V) (i : Int) (y : V), x = .ref l ∧ vs = [.int i, y] ∧ H l = some (.lst xs) ∧ xs.length < sizeLine ∧ 0 ≤ i ∧ i < 2 ^ 63 ∧ Q .non (upd H l (.lst (xs.take i.toNat ++ [y] ++ xs.drop i.toNat)))
theorem q_ins0 {l : Addr} {xs : List V} {v : V} (hl : H l = some (.lst xs)) (ha : Ev te σ H (.ref l)) (hi : Ev tb σ H (.int 0)) (hv : Ev tx σ H v) (hz : xs.length < 100000) (k : ∀ H1, Ex H H1 → tz D σ (upd H1 l (.lst (v :: xs)))) :
    tSeq (tDrop (tBM K "list" rInsert te (tCons tb (tCons tx tNil)))) tz D σ H := ha H (Ex.refl H) _ fun H1 e1 =>
  ⟨Or.inl ⟨rfl, xs, sq_of (e1 l _ hl)⟩, hi H1 e1 _ fun H2 e2 => hv H2 (e1.trans e2) _ fun H3 e3 => ⟨l, xs, 0, v, rfl, rfl, e3 _ _ (e2 l _ (e1 l _ hl)), sz_lt hz, by decide, by decide, k H3 ((e1.trans e2).trans e3)⟩⟩
end
end Fw

namespace Fw
open PySem PySem.Spec PyProof.Rows L2 Evl
section
variable {K : PySem.W.Frag} {A : Ad} {vs : List V} {H : Hp} {Q : VK} {E : XK}
/-! _law_power -/
def sp_l_power (K : PySem.W.Frag) (A : Ad) : Sp := fun vs H Q _ => ∃ k : Nat, vs = [.int (k : Int)] ∧ k ≤ 100000 ∧ RetV (.int (2 ^ k)) H Q
def t_l_power (K : PySem.W.Frag) (A : Ad) : TS :=
  (tSeq (tAsg (tC (.int 1)) (gName 1))
    (tSeq (tFor (iRng1 (tCons (tVar 0) tNil)) (gName 2) (tAsg (tOp rAddI (tVar 1) (tVar 1)) (gName 1)))
    (tRet (tVar 1))))
theorem pow_step (i : Nat) : (2 : Int) ^ i + 2 ^ i = 2 ^ (i + 1) := by
  rw [Int.pow_succ]
  omega
theorem r_l_power (h : sp_l_power K A vs H Q E) : t_l_power K A (D0 Q) (start ["_law_k", "_law_found", "_law_j"] vs) H := by
  obtain ⟨n, rfl, hn, k⟩ := h
  refine q_asg ev_c fun H1 e1 => ?_
  refine q_forRgP (n := (n : Int)) (ea_cons (ev_var rfl) ea_nil) ⟨by omega, by omega⟩ (fun i σ' => ∃ u, σ' = [some (.int (n : Int)), some (.int (2 ^ i)), u]) ⟨none, rfl⟩ ?_ ?_
  · rintro H2 i σ' H' e2 e3 hi ⟨u, rfl⟩
    refine s_asg (ev_op (ev_var rfl) (ev_var rfl) rv_I0) fun H4 e4 => ⟨⟨some (.int (i : Int)), ?_⟩, e3.trans e4⟩
    rw [← pow_step]
    rfl
  · rintro σ' H' e2 ⟨u, rfl⟩
    rw [Int.toNat_natCast]
    exact s_retV (ev_var rfl) (k.mono (e1.trans e2))
theorem ev_power {te : TE} {σ : L2.St} {i : Int} {k : Nat} (h : Ev te σ H (.int i)) (hi : i = (k : Int)) (hk : k ≤ 100000) : Ev (tCall (sp_l_power K A) [] E (tCons te tNil)) σ H (.int (2 ^ k)) :=
  ev_call1 (x_v h) fun x H1 e1 hx Q q => ⟨k, by rw [show x = V.int i from hx, hi], hk, fun H' e => q H' e⟩
/-! _law_neat (by things, then by range(1, n)) -/
def sp_l_neat (K : PySem.W.Frag) (A : Ad) : Sp := fun vs H Q _ => ∃ v ns, vs = [v] ∧ IL K ns v H ∧ Few.Lay ns ∧ ns.length ≤ 100000 ∧ RetV (.bl (Few.neatB ns)) H Q
def t_l_neat (K : PySem.W.Frag) (A : Ad) : TS :=
  (tSeq (tIfS (tNot (tB (tCB (rIsi K) (tCons (tVar 0) (tCons (tC (.ty "list")) tNil))))) (tRet (tC (.bl false))) tNext)
    (tSeq (tFor (iList K (tVar 0)) (gName 1) (tIfS (tOr (tNot (tB (tCall (sp_l_whole K A) [] E0 (tCons (tVar 1) tNil)))) (tOr (tTest (tOp rLtI (tVar 1) (tUn rNegI (tC (.int 1))))) (tTest (tOp rGtI (tVar 1) (tC (.int 1)))))) (tRet (tC (.bl false))) tNext))
    (tSeq (tFor (iRng2 (tCons (tC (.int 1)) (tCons (tCB (Evl.rLenS K) (tCons (tVar 0) tNil)) tNil))) (gName 2) (tIfS (tAnd (tTest (tOp rNe (tOp (rIxL K) (tVar 0) (tVar 2)) (tC (.int 0)))) (tTest (tOp rNe (tOp (rIxL K) (tVar 0) (tOp rSubI (tVar 2) (tC (.int 1)))) (tC (.int 0))))) (tRet (tC (.bl false))) tNext))
    (tRet (tOrV (tOp (rEqD K) (tVar 0) (tLst tNil)) (tOp rNe (tOp (rIxL K) (tVar 0) (tUn rNegI (tC (.int 1)))) (tC (.int 0))))))))
theorem lay_test {n : Int} (h : Few.Pm n) : (!true || (decide (n < -1) || decide (1 < n))) = false := by
  unfold Few.Pm at h
  simp
  omega
theorem before_at {ns : List Int} {i : Nat} (hi : i < ns.length) : Few.beforeOf 0 (ns.take (i + 1)) = ns[i] := Few.before_take (List.getElem?_eq_getElem hi)
/-- found == [] or found[-1] != 0 -/
theorem ev_lastOr {σ : L2.St} {ns : List Int} {i : Nat} (hv : ∃ v, σ[i]? = some (some v) ∧ IL K ns v H) : Ev (tOrV (tOp (rEqD K) (tVar i) (tLst tNil)) (tOp rNe (tOp (rIxL K) (tVar i) (tUn rNegI (tC (.int 1)))) (tC (.int 0)))) σ H (.bl (decide (ns = []) || !decide (Few.beforeOf 0 ns = 0))) := by
  obtain ⟨v, hs, hv⟩ := hv
  have first : Ev (tOp (rEqD K) (tVar i) (tLst tNil)) σ H (.bl (decide (ns = []))) := ev_eqI (ys := []) (x_ilv hs hv) (x_ilL (el_lst ea_nil (by decide)))
  rcases Few.last_cases ns with z | ⟨r, x, z⟩
  · subst z
    exact ev_orV (a := true) first fun z => by cases z
  · subst z
    obtain ⟨a, rfl, hs'⟩ := hv
    have e : Few.beforeOf 0 (r ++ [x]) = x := by
      unfold Few.beforeOf
      simp
    rw [e]
    exact ev_orV first fun _ => ev_is (ev_op (ev_op (ev_var hs) (ev_un ev_c ru_neg) (rv_ixL hs' at_last)) ev_c (rv_ne rfl)) (by rw [ne_zero])
theorem r_l_neat (h : sp_l_neat K A vs H Q E) : t_l_neat K A (D0 Q) (start ["_law_found", "_law_thing", "_law_k"] vs) H := by
  obtain ⟨v, ns, rfl, hv, hl, hz, k⟩ := h
  refine q_skip (et_not (et_B (ev_isList (ev_var rfl) (il_th hv)))) (by simp [tyD]) fun H1 e1 => ?_
  have hv1 := mono_il _ _ _ e1 hv
  refine q_forP (x_vlI (x_ilv rfl hv1)) (fun i σ' => ∃ u, σ' = [some v, u, none]) ⟨none, rfl⟩ ?_ ?_
  · rintro H2 i x σ' H' e2 e3 hx ⟨u, rfl⟩
    obtain ⟨n, hn, rfl⟩ := of_map hx
    have pm := hl n (List.mem_of_getElem? hn)
    refine s_when (et_or (et_not (et_B (ev_l_whole (ev_var rfl)))) fun _ => et_or (et_test (ev_op (ev_var rfl) (ev_un ev_c ru_neg) rv_I0)) fun _ => et_test (ev_op (ev_var rfl) ev_c rv_I0)) (fun hb H4 e4 => ?_) (fun hb H4 e4 => ?_)
    · have z := lay_test pm
      rw [z] at hb
      cases hb
    · exact ⟨⟨some (.int n), rfl⟩, e3.trans e4⟩
  · rintro σ' H' e2 ⟨u, rfl⟩
    have hv2 := mono_il _ _ _ e2 hv1
    refine q_forRg2P (lo := 1) (n := (ns.length : Int)) (ea_cons ev_c (ea_cons (ev_lenX (x_ilv rfl hv2)) ea_nil)) ⟨by omega, by omega, by omega, by omega⟩ (fun i σ' => ∃ u2, σ' = [some v, u, u2] ∧ Few.apartB (ns.take (i + 1)) = true) ⟨none, rfl, ?_⟩ ?_ ?_
    · cases ns with
      | nil => rfl
      | cons n r => rfl
    · rintro H3 i σ' H4 e3 e4 hi ⟨u2, rfl, ha⟩
      have hi1 : i + 1 < ns.length := by omega
      have g1 : ns[i + 1]? = some ns[i + 1] := List.getElem?_eq_getElem hi1
      have g0 : ns[i]? = some ns[i] := List.getElem?_eq_getElem (by omega)
      have hv4 := mono_il _ _ _ (e3.trans e4) hv2
      have st := Few.apart_step g1 ha (before_at (by omega))
      refine s_when (b := !decide (ns[i] = 0) && !decide (ns[i + 1] = 0)) ?_ (fun hb H5 e5 => ?_) (fun hb H5 e5 => ?_)
      · refine et_is (et_and (et_is (et_test (ev_op (ev_ix (j := i + 1) (x_ilv rfl hv4) (ev_var rfl) (by omega) g1) ev_c (rv_ne rfl))) ne_zero) fun _ => et_is (et_test (ev_op (ev_ix (j := i) (x_ilv rfl hv4) (ev_op (ev_var rfl) ev_c rv_I0) (by omega) g0) ev_c (rv_ne rfl))) ne_zero) ?_
        rw [Bool.and_comm]
      · have z : Few.neatB ns = false := by
          rw [Few.neat_iff, st.2 hb]
          rfl
        rw [z] at k
        exact s_retV ev_c (k.mono ((((e1.trans e2).trans e3).trans e4).trans e5))
      · exact ⟨⟨some (.int (1 + (i : Int))), rfl, st.1 hb⟩, e4.trans e5⟩
    · rintro σ' H5 e3 ⟨u2, rfl, ha⟩
      have ha' : Few.apartB ns = true := by
        rw [List.take_of_length_le (by omega)] at ha
        exact ha
      rw [Few.neat_by_last ns rfl ha'] at k
      exact s_retV (ev_lastOr ⟨v, rfl, mono_il _ _ _ e3 hv2⟩) (k.mono ((e1.trans e2).trans e3))
theorem ev_neat {te : TE} {σ : L2.St} {ns : List Int} (h : EvX te σ H (IL K ns)) (hl : Few.Lay ns) (hz : ns.length ≤ 100000) : Ev (tCall (sp_l_neat K A) [] E (tCons te tNil)) σ H (.bl (Few.neatB ns)) :=
  ev_call1 h fun x H1 e1 hx Q q => ⟨x, ns, rfl, hx, hl, hz, fun H' e => q H' e⟩
/-! small things -/
theorem lay_mod (ns : List Int) : Few.Lay (ns.map fun c => c % 3 - 1) := by
  intro x hx
  obtain ⟨y, _, rfl⟩ := List.mem_map.mp hx
  unfold Few.Pm
  omega
theorem pm_mod (c : Int) : Few.Pm (c % 3 - 1) := by
  unfold Few.Pm
  omega
theorem map_snoc (ts : List Int) (x : Int) : ts.map V.int ++ [V.int x] = (ts ++ [x]).map V.int := by rw [List.map_append]; rfl
theorem len_mapI (l : List Int) : (l.map V.int).length = l.length := List.length_map ..
theorem mod_nat (c : Int) (m : Nat) (hm : 0 < m) : ∃ k : Nat, c % (m : Int) = (k : Int) ∧ k < m := by
  have b1 := Int.emod_nonneg c (show (m : Int) ≠ 0 by omega)
  have b2 := Int.emod_lt_of_pos c (show (0 : Int) < (m : Int) by omega)
  exact ⟨(c % (m : Int)).toNat, by omega, by omega⟩
theorem rep_zero (n : Nat) : (List.replicate n [V.int 0]).flatten = (List.replicate n (0 : Int)).map V.int := by
  induction n with
  | zero => rfl
  | succ n ih =>
    rw [List.replicate_succ, List.replicate_succ, List.flatten_cons, ih]
    rfl
/-- [0] * n -/
theorem el_zeros {tb : TE} {σ : L2.St} {n : Int} (hb : Ev tb σ H (.int n)) (h : 0 ≤ n ∧ n ≤ 100000) : EvL (tOp rRep (tLst (tCons (tC (.int 0)) tNil)) tb) σ H ((List.replicate n.toNat (0 : Int)).map V.int) := by
  rw [← rep_zero]
  exact el_repX (x_mlL (el_lst (ea_cons ev_c ea_nil) (by decide))) hb ⟨by omega, by omega⟩ (by rw [show ([V.int 0] : List V).length = 1 from rfl]; omega)
/-! xs.clear(), xs.extend(ys) -/
section
variable {σ : L2.St} {te tb : TE} {D : Ends} {tz : TS}
theorem q_clear {l : Addr} {xs : List V} (hl : H l = some (.lst xs)) (ha : Ev te σ H (.ref l)) (k : ∀ H1, Ex H H1 → tz D σ (upd H1 l (.lst []))) : tSeq (tDrop (tBM0 K "list" rClear te)) tz D σ H :=
  ha H (Ex.refl H) _ fun H1 e1 => ⟨.inl ⟨rfl, xs, sq_of (e1 l _ hl)⟩, l, xs, rfl, rfl, e1 l _ hl, k H1 e1⟩
theorem q_extend {l b : Addr} {xs ys : List V} (hl : H l = some (.lst xs)) (hb : H b = some (.lst ys)) (ha : Ev te σ H (.ref l)) (hy : Ev tb σ H (.ref b)) (hz : xs.length + ys.length ≤ 100000) (k : ∀ H1, Ex H H1 → tz D σ (upd H1 l (.lst (xs ++ ys)))) : tSeq (tDrop (tBM K "list" rExtend te (tCons tb tNil))) tz D σ H :=
  ha H (Ex.refl H) _ fun H1 e1 => ⟨.inl ⟨rfl, xs, sq_of (e1 l _ hl)⟩, hy H1 e1 _ fun H2 e2 => ⟨l, b, xs, ys, rfl, rfl, e2 _ _ (e1 l _ hl), e2 _ _ (e1 b _ hb), sz_of hz, k H2 (e1.trans e2)⟩⟩
end
/-- a new list of whole numbers of which P is true -/
def RetN (P : List Int → Prop) (H : Hp) (Q : VK) : Prop := ∀ p H' ts, H p = none → Ex H H' → H' p = some (.lst (ts.map V.int)) → P ts → Q (.ref p) H'
def EvN (te : TE) (σ : L2.St) (H : Hp) (P : List Int → Prop) : Prop := ∀ H1, Ex H H1 → ∀ Q : VK, (∀ p H2 ts, H1 p = none → Ex H1 H2 → H2 p = some (.lst (ts.map V.int)) → P ts → Q (.ref p) H2) → te σ H1 Q
theorem q_asgN {te : TE} {σ : L2.St} {D : Ends} {tz : TS} {i : Nat} {P : List Int → Prop} (h : EvN te σ H P) (k : ∀ p H1 ts, H p = none → Ex H H1 → H1 p = some (.lst (ts.map V.int)) → P ts → tz D (σ.set i (some (.ref p))) H1) : tSeq (tAsg te (gName i)) tz D σ H := h H (Ex.refl H) _ k
theorem en_call1 {sp : Sp} {te : TE} {σ : L2.St} {P : V → Hp → Prop} {R : List Int → Prop} (h : EvX te σ H P) (hs : ∀ x H1, Ex H H1 → P x H1 → ∀ Q : VK, RetN R H1 Q → sp [x] H1 Q E) : EvN (tCall sp [] E (tCons te tNil)) σ H R := fun H1 e Q q =>
  h H1 e _ fun v H2 e2 hp => hs v H2 (e.trans e2) hp Q fun p H3 ts hn e3 hx hr => q p H3 ts (fresh_back e2 hn) (e2.trans e3) hx hr
theorem en_call2 {sp : Sp} {te tx : TE} {σ : L2.St} {P P' : V → Hp → Prop} {R : List Int → Prop} (h : EvX te σ H P) (m : Mono P) (h2 : EvX tx σ H P') (hs : ∀ x y H1, Ex H H1 → P x H1 → P' y H1 → ∀ Q : VK, RetN R H1 Q → sp [x, y] H1 Q E) : EvN (tCall sp [] E (tCons te (tCons tx tNil))) σ H R := fun H1 e Q q =>
  h H1 e _ fun v H2 e2 hp => h2 H2 (e.trans e2) _ fun w H3 e3 hp2 => hs v w H3 ((e.trans e2).trans e3) (m _ _ _ e3 hp) hp2 Q fun p H4 ts hn e4 hx hr => q p H4 ts (fresh_back (e2.trans e3) hn) ((e2.trans e3).trans e4) hx hr
theorem x_newL {te : TE} {σ : L2.St} {xs : List V} (h : EvL te σ H xs) : EvX te σ H (fun v H' => ∃ p, v = .ref p ∧ H p = none ∧ H' p = some (.lst xs)) := fun H1 e Q q => h H1 e Q fun p H2 hp e2 hx => q _ H2 e2 ⟨p, rfl, fresh_back e hp, hx⟩
/-- if c: x = e, and the rest from what both ways come to -/
theorem q_ifX {te : TE} {t : TT} {σ : L2.St} {D : Ends} {tz : TS} {b : Bool} {i : Nat} {P : V → Hp → Prop} (h : EvT t σ H b) (h1 : b = true → EvX te σ H P) (Mid : L2.St → Hp → Prop) (k1 : b = true → ∀ v H1, Ex H H1 → P v H1 → Mid (σ.set i (some v)) H1) (k0 : b = false → ∀ H1, Ex H H1 → Mid σ H1) (rest : ∀ σ' H', Mid σ' H' → tz D σ' H') :
    tSeq (tIfS t (tAsg te (gName i)) tNext) tz D σ H :=
  q_when h (fun hb H1 e1 => h1 hb H1 e1 _ fun v H2 e2 hp => rest _ _ (k1 hb v H2 (e1.trans e2) hp)) (fun hb H1 e1 => rest _ _ (k0 hb H1 e1))
end
end Fw

namespace Fw
open PySem PySem.Spec PyProof.Rows L2 Evl
section
variable {K : PySem.W.Frag} {A : Ad} {vs : List V} {H : Hp} {Q : VK} {E : XK}
/-! ### neat -/
def sp_neat (K : PySem.W.Frag) (A : Ad) : Sp := LaySp (fun ns H Q => ns.length ≤ 50000 ∧ RetL ((Few.laid (Few.loadOf ns)).map V.int) H Q) K A
def t_neat (K : PySem.W.Frag) (A : Ad) (E : XK) : TS :=
  (tRet (tCall (sp_laid K A) [] E (tCons (tCall (sp_load_of K A) [] E (tCons (tVar 0) tNil)) tNil)))
theorem r_neat (h : sp_neat K A vs H Q E) : t_neat K A E (D0 Q) (start ["laying"] vs) H := by
  obtain ⟨v, d, rfl, hd, k1, k2⟩ := h
  cases hl : isLayD d with
  | false => exact er_ret (er_call (er_load_of (x_th rfl hd) hl (k2 hl)))
  | true =>
    obtain ⟨ns, rfl, l⟩ := lay_is hl
    obtain ⟨hz, k⟩ := k1 ns rfl l
    have := Few.laid_load_len l
    exact s_retLL (el_laid (ev_load_of (x_ilv rfl hd.il) l) (by omega)) k
theorem el_neat {te : TE} {σ : L2.St} {ns : List Int} (h : EvX te σ H (IL K ns)) (hl : Few.Lay ns) (hz : ns.length ≤ 50000) : EvL (tCall (sp_neat K A) [] E (tCons te tNil)) σ H ((Few.laid (Few.loadOf ns)).map V.int) :=
  el_call1 h fun x H1 e1 hx Q q => LaySp.good hx hl ⟨hz, fun p H' hp e hx => q p H' hp e hx⟩
/-! ### turned -/
def sp_turned (K : PySem.W.Frag) (A : Ad) : Sp := LaySp (fun ns H Q => ns.length ≤ 40000 ∧ RetL ((ns.map fun x => -x).map V.int) H Q) K A
def t_turned (K : PySem.W.Frag) (A : Ad) (E : XK) : TS :=
  (tRet (tLc (iList K (tCall (sp_good_laying K A) [] E (tCons (tVar 0) tNil))) (gName 1) tYes (tUn rNegI (tVar 1)) [1]))
theorem r_turned (h : sp_turned K A vs H Q E) : t_turned K A E (D0 Q) (start ["laying", "one"] vs) H := by
  obtain ⟨v, d, rfl, hd, k1, k2⟩ := h
  cases hl : isLayD d with
  | false => exact er_ret (er_lc (er_good (x_th rfl hd) hl (k2 hl)))
  | true =>
    obtain ⟨ns, rfl, l⟩ := lay_is hl
    obtain ⟨hz, k⟩ := k1 ns rfl l
    have em : (ns.map fun x => -x).map V.int = ns.map fun n => V.int (-n) := by rw [List.map_map]; rfl
    rw [em] at k
    exact s_retLL (el_lcI0 (fun n => V.int (-n)) (x_good (x_ilv rfl hd.il) l) hz (fun _ => rfl) (fun n H1 _ _ => ev_un (ev_var rfl) ru_neg)) k
theorem el_turned {te : TE} {σ : L2.St} {ns : List Int} (h : EvX te σ H (IL K ns)) (hl : Few.Lay ns) (hz : ns.length ≤ 40000) : EvL (tCall (sp_turned K A) [] E (tCons te tNil)) σ H ((ns.map fun x => -x).map V.int) :=
  el_call1 h fun x H1 e1 hx Q q => LaySp.good hx hl ⟨hz, fun p H' hp e hx => q p H' hp e hx⟩
/-! ### two layings -/
def Lay2Sp (R : List Int → List Int → Hp → VK → Prop) (K : PySem.W.Frag) (A : Ad) : Sp := fun vs H Q E => ∃ v w d e, vs = [v, w] ∧ Th K H v d ∧ Th K H w e ∧ (∀ xs ys, d = .list (xs.map PyData.int) → Few.Lay xs → e = .list (ys.map PyData.int) → Few.Lay ys → R xs ys H Q) ∧ ((isLayD d && isLayD e) = false → RaiseE E A.laying H)
theorem Lay2Sp.good {R : List Int → List Int → Hp → VK → Prop} {xs ys : List Int} {v w : V} (h : IL K xs v H) (h2 : IL K ys w H) (hl : Few.Lay xs) (hl2 : Few.Lay ys) (hr : R xs ys H Q) : Lay2Sp R K A [v, w] H Q E :=
  ⟨v, w, _, _, rfl, il_th h, il_th h2, (fun a b e1 _ e2 _ => by
    have e1' : xs = a := ints_inj (PyData.list.inj e1)
    have e2' : ys = b := ints_inj (PyData.list.inj e2)
    rw [← e1', ← e2']
    exact hr), fun z => by rw [lay_ints hl, lay_ints hl2] at z; cases z⟩
theorem Lay2Sp.bad {R : List Int → List Int → Hp → VK → Prop} {d e : PyData} {v w : V} (h : Th K H v d) (h2 : Th K H w e) (hl : (isLayD d && isLayD e) = false) (hr : RaiseE E A.laying H) : Lay2Sp R K A [v, w] H Q E :=
  ⟨v, w, d, e, rfl, h, h2, (fun a b e1 l1 e2 l2 => by rw [e1, e2, lay_ints l1, lay_ints l2] at hl; cases hl), fun _ => hr⟩
/-! ### plus -/
def sp_plus (K : PySem.W.Frag) (A : Ad) : Sp := Lay2Sp (fun xs ys H Q => (xs.length ≤ 40000 ∧ ys.length ≤ 40000) ∧ RetL ((Few.laid (Few.loadOf xs + Few.loadOf ys)).map V.int) H Q) K A
def t_plus (K : PySem.W.Frag) (A : Ad) (E : XK) : TS :=
  (tRet (tCall (sp_laid K A) [] E (tCons (tOp rAddI (tCall (sp_load_of K A) [] E (tCons (tVar 0) tNil)) (tCall (sp_load_of K A) [] E (tCons (tVar 1) tNil))) tNil)))
theorem plus_len {xs ys : List Int} (hx : Few.Lay xs) (hy : Few.Lay ys) (h1 : xs.length ≤ 40000) (h2 : ys.length ≤ 40000) : (Few.laid (Few.loadOf xs + Few.loadOf ys)).length ≤ 40002 := by
  have b1 := Few.load_bound hx
  have b2 := Few.load_bound hy
  have m1 : 2 ^ xs.length ≤ 2 ^ 40000 := Nat.pow_le_pow_right (by decide) h1
  have m2 : 2 ^ ys.length ≤ 2 ^ 40000 := Nat.pow_le_pow_right (by decide) h2
  refine Few.laid_len 40001 _ ?_
  rw [Nat.pow_succ]
  generalize 2 ^ 40000 = M at m1 m2
  omega
theorem r_plus (h : sp_plus K A vs H Q E) : t_plus K A E (D0 Q) (start ["one", "other"] vs) H := by
  obtain ⟨v, w, d, e, rfl, hd, he, k1, k2⟩ := h
  cases hl : isLayD d with
  | false => exact er_ret (er_call (er_op1 (er_load_of (x_th rfl hd) hl (k2 (by rw [hl]; rfl)))))
  | true =>
    obtain ⟨xs, rfl, lx⟩ := lay_is hl
    cases hl2 : isLayD e with
    | false => exact er_ret (er_call (er_op2 (x_v (ev_load_of (x_ilv rfl hd.il) lx)) (er_load_of (x_th rfl he) hl2 (k2 (by rw [hl2, Bool.and_false])))))
    | true =>
      obtain ⟨ys, rfl, ly⟩ := lay_is hl2
      obtain ⟨⟨hz, hz2⟩, k⟩ := k1 xs ys rfl lx rfl ly
      have := plus_len lx ly hz hz2
      exact s_retLL (el_laid (ev_op (ev_load_of (x_ilv rfl hd.il) lx) (ev_load_of (x_ilv rfl he.il) ly) rv_I0) (by omega)) k
theorem el_plus {te tx : TE} {σ : L2.St} {xs ys : List Int} (h : EvX te σ H (IL K xs)) (h2 : EvX tx σ H (IL K ys)) (hl : Few.Lay xs) (hl2 : Few.Lay ys) (hz : xs.length ≤ 40000) (hz2 : ys.length ≤ 40000) : EvL (tCall (sp_plus K A) [] E (tCons te (tCons tx tNil))) σ H ((Few.laid (Few.loadOf xs + Few.loadOf ys)).map V.int) :=
  el_call2 h mono_il h2 fun x y H1 e1 hx hy Q q => Lay2Sp.good hx hy hl hl2 ⟨⟨hz, hz2⟩, fun p H' hp e hx => q p H' hp e hx⟩
/-! ### heavier -/
def sgn (a b : Int) : Int := if b < a then 1 else if a < b then -1 else 0
def sp_heavier (K : PySem.W.Frag) (A : Ad) : Sp := Lay2Sp (fun xs ys H Q => RetV (.int (sgn (Few.loadOf xs) (Few.loadOf ys))) H Q) K A
def t_heavier (K : PySem.W.Frag) (A : Ad) (E : XK) : TS :=
  (tSeq (tAsg (tCall (sp_load_of K A) [] E (tCons (tVar 0) tNil)) (gName 2))
    (tSeq (tAsg (tCall (sp_load_of K A) [] E (tCons (tVar 1) tNil)) (gName 3))
    (tSeq (tIfS (tTest (tOp rGtI (tVar 2) (tVar 3))) (tRet (tC (.int 1))) tNext)
    (tSeq (tIfS (tTest (tOp rLtI (tVar 2) (tVar 3))) (tRet (tUn rNegI (tC (.int 1)))) tNext)
    (tRet (tC (.int 0)))))))
theorem r_heavier (h : sp_heavier K A vs H Q E) : t_heavier K A E (D0 Q) (start ["one", "other", "first", "second"] vs) H := by
  obtain ⟨v, w, d, e, rfl, hd, he, k1, k2⟩ := h
  cases hl : isLayD d with
  | false => exact er_q (er_load_of (x_th rfl hd) hl (k2 (by rw [hl]; rfl)))
  | true =>
    obtain ⟨xs, rfl, lx⟩ := lay_is hl
    refine q_asg (ev_load_of (x_ilv rfl hd.il) lx) fun H1 e1 => ?_
    have he1 := he.mono e1
    cases hl2 : isLayD e with
    | false => exact er_q (er_load_of (x_th rfl he1) hl2 ((k2 (by rw [hl2, Bool.and_false])).mono e1))
    | true =>
      obtain ⟨ys, rfl, ly⟩ := lay_is hl2
      have k : RetV (.int (sgn (Few.loadOf xs) (Few.loadOf ys))) H Q := k1 xs ys rfl lx rfl ly
      refine q_asg (ev_load_of (x_ilv rfl he1.il) ly) fun H2 e2 => ?_
      unfold sgn at k
      refine q_when (et_test (ev_op (ev_var rfl) (ev_var rfl) rv_I0)) (fun hb H3 e3 => ?_) (fun hb H3 e3 => ?_)
      · rw [if_pos (of_decide_eq_true hb)] at k
        exact s_retV ev_c (k.mono ((e1.trans e2).trans e3))
      · rw [if_neg (of_decide_eq_false hb)] at k
        refine q_when (et_test (ev_op (ev_var rfl) (ev_var rfl) rv_I0)) (fun hb H4 e4 => ?_) (fun hb H4 e4 => ?_)
        · rw [if_pos (of_decide_eq_true hb)] at k
          exact s_retV (ev_un ev_c ru_neg) (k.mono (((e1.trans e2).trans e3).trans e4))
        · rw [if_neg (of_decide_eq_false hb)] at k
          exact s_retV ev_c (k.mono (((e1.trans e2).trans e3).trans e4))
theorem ev_heavier {te tx : TE} {σ : L2.St} {xs ys : List Int} (h : EvX te σ H (IL K xs)) (h2 : EvX tx σ H (IL K ys)) (hl : Few.Lay xs) (hl2 : Few.Lay ys) : Ev (tCall (sp_heavier K A) [] E (tCons te (tCons tx tNil))) σ H (.int (sgn (Few.loadOf xs) (Few.loadOf ys))) :=
  ev_call2 h mono_il h2 fun x y H1 e1 hx hy Q q => Lay2Sp.good hx hy hl hl2 fun H' e => q H' e
/-! ### parted -/
/-- a new tuple of two new lists -/
def RetT2 (xs ys : List V) (H : Hp) (Q : VK) : Prop := ∀ t p q H', H t = none → (∀ H0 ps, Led H0 H ps → Led H0 H' ((q, ys) :: (p, xs) :: ps)) → H' t = some (.tup [.ref p, .ref q]) → Q (.ref t) H'
def sp_parted (K : PySem.W.Frag) (A : Ad) : Sp := fun vs H Q E => ∃ v d, ∃ j : Nat, vs = [v, .int (j : Int)] ∧ Th K H v d ∧ (∀ ns, d = .list (ns.map PyData.int) → Few.Lay ns → RetT2 ((Few.ended (ns.drop j)).map V.int) ((Few.ended (ns.take j)).map V.int) H Q) ∧ (isLayD d = false → RaiseE E A.laying H)
def t_parted (K : PySem.W.Frag) (A : Ad) (E : XK) : TS :=
  (tSeq (tAsg (tCall (sp_good_laying K A) [] E (tCons (tVar 0) tNil)) (gName 2))
    (tRet (tTup (tCons (tCall (sp_ended K A) [] E (tCons (tSl (rSlL K) (tVar 2) (tPart (tVar 1)) tNoPart) tNil)) (tCons (tCall (sp_ended K A) [] E (tCons (tSl (rSlL K) (tVar 2) tNoPart (tPart (tVar 1))) tNil)) tNil)))))
theorem Led.tup {H0 H' : Hp} {ps : List (Addr × List V)} {t : Addr} {o : HO} (h : Led H0 H ps) (ht : H t = none) : Led H0 (upd H t o) ps := h.ex (Ex.new ht)
theorem r_parted (h : sp_parted K A vs H Q E) : t_parted K A E (D0 Q) (start ["laying", "place", "things"] vs) H := by
  obtain ⟨v, d, j, rfl, hd, k1, k2⟩ := h
  cases hl : isLayD d with
  | false => exact er_q (er_good (x_th rfl hd) hl (k2 hl))
  | true =>
    obtain ⟨ns, rfl, l⟩ := lay_is hl
    have k := k1 ns rfl l
    refine q_asgX (x_good (x_ilv rfl hd.il) l) fun w H1 e1 hw => ?_
    have up : EvL (tCall (sp_ended K A) [] E (tCons (tSl (rSlL K) (tVar 2) (tPart (tVar 1)) tNoPart) tNil)) [some v, some (.int (j : Int)), some w] H1 ((Few.ended (ns.drop j)).map V.int) := el_ended (x_ilL (el_from (x_ilv rfl hw) (ev_var rfl) rfl)) (Few.lay_drop l j)
    have lo : EvL (tCall (sp_ended K A) [] E (tCons (tSl (rSlL K) (tVar 2) tNoPart (tPart (tVar 1))) tNil)) [some v, some (.int (j : Int)), some w] H1 ((Few.ended (ns.take j)).map V.int) := el_ended (x_ilL (el_to (x_ilv rfl hw) (ev_var rfl) rfl)) (Few.lay_take l j)
    refine up H1 (Ex.refl H1) _ fun p H2 hp e2 hx => lo H2 e2 _ fun q H3 hq e3 hy => ⟨by show 2 ≤ sizeLine; decide, fun t ht => ?_⟩
    refine k t p q _ (fresh_back ((e1.trans e2).trans e3) ht) (fun H0 ps L => ?_) upd_same
    exact (((L.ex e1).new hp e2 hx).new hq e3 hy).tup (H' := H) ht
theorem er_parted {te tb : TE} {σ : L2.St} {d : PyData} {j : Nat} (h : EvX te σ H (ThP K d)) (h2 : Ev tb σ H (.int (j : Int))) (hl : isLayD d = false) (k : RaiseE E A.laying H) : Er (tCall (sp_parted K A) [] E (tCons te (tCons tb tNil))) σ H := fun H1 e Q =>
  h H1 e _ fun v H2 e2 hp => h2 H2 (e.trans e2) _ fun H3 e3 => ⟨v, d, j, rfl, hp.mono e3, (fun ns e l => by rw [e, lay_ints l] at hl; cases hl), fun _ => k.mono ((e.trans e2).trans e3)⟩
/-- its call -/
theorem q_parted {te tb : TE} {σ : L2.St} {D : Ends} {tz : TS} {i : Nat} {ns : List Int} {j : Nat} (h : EvX te σ H (IL K ns)) (h2 : Ev tb σ H (.int (j : Int))) (hl : Few.Lay ns)
    (k : ∀ t p q H', H t = none → (∀ H0 ps, Led H0 H ps → Led H0 H' ((q, (Few.ended (ns.take j)).map V.int) :: (p, (Few.ended (ns.drop j)).map V.int) :: ps)) → H' t = some (.tup [.ref p, .ref q]) → tz D (σ.set i (some (.ref t))) H') :
    tSeq (tAsg (tCall (sp_parted K A) [] E (tCons te (tCons tb tNil))) (gName i)) tz D σ H :=
  h H (Ex.refl H) _ fun v H2 e2 hp => h2 H2 e2 _ fun H3 e3 => ⟨v, _, j, rfl, (il_th hp).mono e3, (fun ms e _ => by
    have e' : ns = ms := ints_inj (PyData.list.inj e)
    rw [← e']
    exact fun t p q H' ht g hx => k t p q H' (fresh_back (e2.trans e3) ht) (fun H0 ps L => g H0 ps ((L.ex e2).ex e3)) hx), fun z => by rw [lay_ints hl] at z; cases z⟩
end
end Fw

namespace Fw
open PySem PySem.Spec PyProof.Rows L2 Evl
/-! lists of lists of whole numbers -/
inductive ILs (K : PySem.W.Frag) (H : Hp) : List V → List (List Int) → Prop
  | nil : ILs K H [] []
  | cons {v : V} {vs : List V} {ns : List Int} {nss : List (List Int)} : IL K ns v H → ILs K H vs nss → ILs K H (v :: vs) (ns :: nss)
section
variable {K : PySem.W.Frag} {A : Ad} {σ : L2.St} {H H' : Hp} {ta : TA} {tb te tx tl : TE} {D : Ends} {tz : TS}
theorem ILs.mono (e : Ex H H') : ∀ {vs : List V} {nss : List (List Int)}, ILs K H vs nss → ILs K H' vs nss
  | _, _, .nil => .nil
  | _, _, .cons a b => .cons (mono_il _ _ _ e a) (b.mono e)
theorem ILs.length : ∀ {vs : List V} {nss : List (List Int)}, ILs K H vs nss → vs.length = nss.length
  | _, _, .nil => rfl
  | _, _, .cons a b => by rw [List.length_cons, List.length_cons, ILs.length b]
theorem ILs.at : ∀ {vs : List V} {nss : List (List Int)}, ILs K H vs nss → ∀ {i : Nat} {ns : List Int}, nss[i]? = some ns → ∃ v, vs[i]? = some v ∧ IL K ns v H
  | _, _, .nil, i, x, h => by simp at h
  | _, _, .cons a b, 0, x, h => ⟨_, rfl, by have e := Option.some.inj h; rw [← e]; exact a⟩
  | _, _, .cons a b, i + 1, x, h => ILs.at b (i := i) (ns := x) h
theorem ILs.dpa : ∀ {vs : List V} {nss : List (List Int)}, ILs K H vs nss → DpAll K H vs (nss.map fun ns => PyData.list (ns.map PyData.int))
  | _, _, .nil => .nil
  | _, _, .cons ⟨a, ev, hs⟩ b => by
    subst ev
    exact .cons (.lst hs dps) (ILs.dpa b)
def ILL (K : PySem.W.Frag) (nss : List (List Int)) : V → Hp → Prop := fun v H => ∃ a xs, v = .ref a ∧ SqL K H a xs ∧ ILs K H xs nss
theorem mono_ill {nss : List (List Int)} : Mono (ILL K nss) := fun _ _ _ e ⟨a, xs, h, s, t⟩ => ⟨a, xs, h, ex_l e s, t.mono e⟩
theorem xi_nil : EaX tNil σ H (fun vs H => ILs K H vs []) := fun H1 _ _ q => q _ H1 (Ex.refl H1) .nil
theorem xi_cons {tr : TA} {ns : List Int} {nss : List (List Int)} (h : EvX te σ H (IL K ns)) (hr : EaX tr σ H (fun vs H => ILs K H vs nss)) : EaX (tCons te tr) σ H (fun vs H => ILs K H vs (ns :: nss)) := fun H1 e Q q =>
  h H1 e _ fun v H2 e2 hp => hr H2 (e.trans e2) _ fun vs H3 e3 hR => q _ H3 (e2.trans e3) (.cons (mono_il _ _ _ e3 hp) hR)
theorem xi_lst {nss : List (List Int)} (h : EaX ta σ H (fun vs H => ILs K H vs nss)) (hz : nss.length ≤ 100000) : EvX (tLst ta) σ H (ILL K nss) := fun H1 e Q q =>
  h H1 e _ fun vs H2 e2 hr => ⟨sz_of (by rw [hr.length]; exact hz), fun p hp => q _ _ (e2.trans (Ex.new hp)) ⟨p, vs, rfl, sq_of upd_same, hr.mono (Ex.new hp)⟩⟩
theorem eqv_lists : ∀ xs ys : List (List Int), PyData.eqvAll (xs.map fun ns => PyData.list (ns.map PyData.int)) (ys.map fun ns => PyData.list (ns.map PyData.int)) = decide (xs = ys)
  | [], [] => rfl
  | [], _ :: _ => by simp [PyData.eqvAll]
  | _ :: _, [] => by simp [PyData.eqvAll]
  | x :: xs, y :: ys => by
    have ih := eqv_lists xs ys
    show (PyData.eqv (.list (x.map PyData.int)) (.list (y.map PyData.int)) && PyData.eqvAll (xs.map fun ns => PyData.list (ns.map PyData.int)) (ys.map fun ns => PyData.list (ns.map PyData.int))) = _
    have e : PyData.eqv (.list (x.map PyData.int)) (.list (y.map PyData.int)) = decide (x = y) := eqv_ints x y
    rw [ih, e]
    by_cases h1 : x = y
    · subst h1
      by_cases h2 : xs = ys
      · subst h2
        simp
      · simp [h2]
    · simp [h1]
theorem shaped_lists (xs : List (List Int)) : SeqAt.shaped (.list (xs.map fun ns => PyData.list (ns.map PyData.int))) = true := by
  have a : ∀ xs : List (List Int), PyData.canLayAll0 (xs.map fun ns => PyData.list (ns.map PyData.int)) = true := by
    intro xs
    induction xs with
    | nil => rfl
    | cons x xs ih =>
      show (PyData.canLayAll0 (x.map PyData.int) && PyData.canLayAll0 (xs.map fun ns => PyData.list (ns.map PyData.int))) = true
      rw [ih, canLay_ints]
      rfl
  have b : ∀ xs : List (List Int), PyData.depthAll (xs.map fun ns => PyData.list (ns.map PyData.int)) ≤ 1 := by
    intro xs
    induction xs with
    | nil => exact Nat.zero_le _
    | cons x xs ih =>
      show max (PyData.depthAll (x.map PyData.int) + 1) (PyData.depthAll (xs.map fun ns => PyData.list (ns.map PyData.int))) ≤ 1
      rw [depth_ints]
      omega
  unfold SeqAt.shaped
  have a' : PyData.canLay0 (.list (xs.map fun ns => PyData.list (ns.map PyData.int))) = true := a xs
  have b' : PyData.depth (.list (xs.map fun ns => PyData.list (ns.map PyData.int))) ≤ 2 := by
    show PyData.depthAll (xs.map fun ns => PyData.list (ns.map PyData.int)) + 1 ≤ 2
    have := b xs
    omega
  rw [a', Bool.true_and]
  exact decide_eq_true (by omega)
theorem ev_eqLL {xs ys : List (List Int)} (ha : EvX te σ H (ILL K xs)) (hb : EvX tb σ H (ILL K ys)) : Ev (tOp (rEqD K) te tb) σ H (.bl (decide (xs = ys))) := ev_opX ha mono_ill hb fun x y H1 _ ⟨a, as, ea, sa, ia⟩ ⟨b, bs, eb, sb, ib⟩ H2 e2 Q k => by
  subst ea eb
  refine ⟨_, _, .lst (ex_l e2 sa) (ia.mono e2).dpa, .lst (ex_l e2 sb) (ib.mono e2).dpa, shaped_lists xs, shaped_lists ys, ?_⟩
  have z : PyData.eqv (.list (xs.map fun ns => PyData.list (ns.map PyData.int))) (.list (ys.map fun ns => PyData.list (ns.map PyData.int))) = decide (xs = ys) := eqv_lists xs ys
  rw [z]
  exact k H2 (Ex.refl H2)
theorem x_ixLL {nss : List (List Int)} {ns : List Int} {j : Nat} {i : Int} (ha : EvX te σ H (ILL K nss)) (hb : Ev tb σ H (.int i)) (hi : i = (j : Int)) (h : nss[j]? = some ns) : EvX (tOp (rIxL K) te tb) σ H (IL K ns) := fun H1 e Q q =>
  ha H1 e _ fun v H2 e2 hv => hb H2 (e.trans e2) _ fun H3 e3 => by
    obtain ⟨a, xs, rfl, hs, hI⟩ := hv
    obtain ⟨x, hx, hn⟩ := hI.at h
    exact ⟨a, xs, i, x, rfl, rfl, ex_l e3 hs, at_of hi hx, q x H3 (e2.trans e3) (mono_il _ _ _ e3 hn)⟩
/-! a display of new lists, written into the ledger -/
def Grow (H H' : Hp) (qs : List (Addr × List V)) : Prop := ∀ H0 ps, Led H0 H ps → Led H0 H' (qs ++ ps)
theorem q_asgD3 {t1 t2 t3 : TE} {i : Nat} {xs1 xs2 xs3 : List V} (h1 : EvL t1 σ H xs1) (h2 : EvL t2 σ H xs2) (h3 : EvL t3 σ H xs3)
    (k : ∀ p1 p2 p3 p H', Grow H H' [(p, [.ref p1, .ref p2, .ref p3]), (p3, xs3), (p2, xs2), (p1, xs1)] → tz D (σ.set i (some (.ref p))) H') : tSeq (tAsg (tLst (tCons t1 (tCons t2 (tCons t3 tNil)))) (gName i)) tz D σ H :=
  h1 H (Ex.refl H) _ fun p1 H1 hp1 e1 hx1 => h2 H1 e1 _ fun p2 H2 hp2 e2 hx2 => h3 H2 (e1.trans e2) _ fun p3 H3 hp3 e3 hx3 =>
    ⟨by show 3 ≤ sizeLine; decide, fun p hp => k p1 p2 p3 p _ fun H0 ps L => (((L.new hp1 e1 hx1).new hp2 e2 hx2).new hp3 e3 hx3).new hp (Ex.new hp) upd_same⟩
theorem Led.ill {H0 : Hp} {ps : List (Addr × List V)} {p : Addr} {xs : List V} {nss : List (List Int)} (L : Led H0 H ps) (i : Nat) (hi : ps[i]? = some (p, xs)) (h : ILs K H xs nss) : ILL K nss (.ref p) H := ⟨p, xs, rfl, sq_of (L.at i hi), h⟩
theorem x_illv {v : V} {nss : List (List Int)} {i : Nat} (h : σ[i]? = some (some v)) (hd : ILL K nss v H) : EvX (tVar i) σ H (ILL K nss) := x_of (ev_var h) mono_ill hd
/-! the ledger in another order, or less of it -/
theorem Led.sub {H0 : Hp} {ps qs : List (Addr × List V)} (L : Led H0 H ps) (h : qs.Sublist ps) : Led H0 H qs := ⟨L.1, fun q hq => L.2.1 q (h.subset hq), (h.map _).nodup L.2.2⟩
theorem Led.perm {H0 : Hp} {ps qs : List (Addr × List V)} (L : Led H0 H ps) (h : qs.Perm ps) : Led H0 H qs := ⟨L.1, fun q hq => L.2.1 q (h.subset hq), (h.map _).nodup_iff.mpr L.2.2⟩
theorem erase_perm {α : Type} : ∀ {l : List α} {i : Nat} {x : α}, l[i]? = some x → (x :: l.eraseIdx i).Perm l
  | [], i, x, h => by simp at h
  | a :: r, 0, x, h => by
    have e : a = x := Option.some.inj h
    rw [e]
    exact List.Perm.refl _
  | a :: r, i + 1, x, h => by
    have ih := erase_perm (l := r) (i := i) (x := x) h
    exact (List.Perm.swap a x _).trans (ih.cons a)
/-- if c: x = [0] * n + x, the list in the ledger either way -/
theorem q_pad {H0 : Hp} {ps : List (Addr × List V)} {t : TT} {b : Bool} {i l : Nat} {p : Addr} {xs : List Int} {n : Int} (L : Led H0 H ps) (hl : ps[l]? = some (p, xs.map V.int)) (h : EvT t σ H b) (hi : σ[i]? = some (some (.ref p))) (hn : Ev tb σ H (.int n)) (hb : 0 ≤ n ∧ n ≤ 300) (hz : xs.length ≤ 1000) (hself : σ.set i (some (.ref p)) = σ)
    (k : ∀ q H1 (m : Nat), m ≤ 300 → Led H0 H1 ((q, (List.replicate m 0 ++ xs).map V.int) :: ps.eraseIdx l) → tz D (σ.set i (some (.ref q))) H1) :
    tSeq (tIfS t (tAsg (tOp rCat (tOp rRep (tLst (tCons (tC (.int 0)) tNil)) tb) (tVar i)) (gName i)) tNext) tz D σ H := by
  refine q_when h (fun _ H1 e1 => ?_) (fun _ H1 e1 => ?_)
  · refine s_asgL (el_catX (x_mlL (el_zeros (hn.mono e1) ⟨by omega, by omega⟩)) (x_ml (ev_var hi) (e1 _ _ (L.at l hl))) (by rw [len_mapI, len_mapI, List.length_replicate]; omega)) fun q H2 hq e2 hy => ?_
    rw [← List.map_append] at hy
    exact k q H2 _ (by omega) (((L.ex e1).new hq e2 hy).sub ((List.eraseIdx_sublist ps l).cons_cons _))
  · have g := k p H1 0 (by omega) ((L.ex e1).perm (erase_perm hl))
    rw [hself] at g
    exact g
end
end Fw

namespace Fw
open PySem PySem.Spec PyProof.Rows L2 Evl
section
variable {K : PySem.W.Frag} {A : Ad} {vs : List V} {H H' : Hp} {Q : VK} {E : XK}
/-! _law_apart -/
def sp_l_apart (K : PySem.W.Frag) (A : Ad) : Sp := fun vs H Q _ => ∃ v ns, vs = [v] ∧ IL K ns v H ∧ Few.Lay ns ∧ ns.length ≤ 100000 ∧ RetV (.bl (Few.neatB ns)) H Q
def t_l_apart (K : PySem.W.Frag) (A : Ad) : TS :=
  (tSeq (tFor (iRng2 (tCons (tC (.int 1)) (tCons (tCB (Evl.rLenS K) (tCons (tVar 0) tNil)) tNil))) (gName 1) (tIfS (tAnd (tTest (tOp rNe (tOp (rIxL K) (tVar 0) (tVar 1)) (tC (.int 0)))) (tTest (tOp rNe (tOp (rIxL K) (tVar 0) (tOp rSubI (tVar 1) (tC (.int 1)))) (tC (.int 0))))) (tRet (tC (.bl false))) tNext))
    (tRet (tOrV (tOp (rEqD K) (tVar 0) (tLst tNil)) (tOp rNe (tOp (rIxL K) (tVar 0) (tUn rNegI (tC (.int 1)))) (tC (.int 0))))))

theorem r_l_apart (h : sp_l_apart K A vs H Q E) : t_l_apart K A (D0 Q) (start ["_law_things", "_law_k"] vs) H := by
  obtain ⟨v, ns, rfl, hv, hl, hz, k⟩ := h
  refine q_forRg2P (lo := 1) (n := (ns.length : Int)) (ea_cons ev_c (ea_cons (ev_lenX (x_ilv rfl hv)) ea_nil)) ⟨by omega, by omega, by omega, by omega⟩ (fun i σ' => ∃ u2, σ' = [some v, u2] ∧ Few.apartB (ns.take (i + 1)) = true) ⟨none, rfl, ?_⟩ ?_ ?_
  · cases ns with
    | nil => rfl
    | cons n r => rfl
  · rintro H3 i σ' H4 e3 e4 hi ⟨u2, rfl, ha⟩
    have hi1 : i + 1 < ns.length := by omega
    have g1 : ns[i + 1]? = some ns[i + 1] := List.getElem?_eq_getElem hi1
    have g0 : ns[i]? = some ns[i] := List.getElem?_eq_getElem (by omega)
    have hv4 := mono_il _ _ _ (e3.trans e4) hv
    have st := Few.apart_step g1 ha (before_at (by omega))
    refine s_when (b := !decide (ns[i] = 0) && !decide (ns[i + 1] = 0)) ?_ (fun hb H5 e5 => ?_) (fun hb H5 e5 => ?_)
    · refine et_is (et_and (et_is (et_test (ev_op (ev_ix (j := i + 1) (x_ilv rfl hv4) (ev_var rfl) (by omega) g1) ev_c (rv_ne rfl))) ne_zero) fun _ => et_is (et_test (ev_op (ev_ix (j := i) (x_ilv rfl hv4) (ev_op (ev_var rfl) ev_c rv_I0) (by omega) g0) ev_c (rv_ne rfl))) ne_zero) ?_
      rw [Bool.and_comm]
    · have z : Few.neatB ns = false := by
        rw [Few.neat_iff, st.2 hb]
        rfl
      rw [z] at k
      exact s_retV ev_c (k.mono ((e3.trans e4).trans e5))
    · exact ⟨⟨some (.int (1 + (i : Int))), rfl, st.1 hb⟩, e4.trans e5⟩
  · rintro σ' H5 e3 ⟨u2, rfl, ha⟩
    have ha' : Few.apartB ns = true := by
      rw [List.take_of_length_le (by omega)] at ha
      exact ha
    rw [Few.neat_by_last ns rfl ha'] at k
    exact s_retV (ev_lastOr ⟨v, rfl, mono_il _ _ _ e3 hv⟩) (k.mono e3)
theorem ev_apart {te : TE} {σ : L2.St} {ns : List Int} (h : EvX te σ H (IL K ns)) (hl : Few.Lay ns) (hz : ns.length ≤ 100000) : Ev (tCall (sp_l_apart K A) [] E (tCons te tNil)) σ H (.bl (Few.neatB ns)) :=
  ev_call1 h fun x H1 e1 hx Q q => ⟨x, ns, rfl, hx, hl, hz, fun H' e => q H' e⟩
/-! _law_parted: a tuple of two lists -/
def T2 (K : PySem.W.Frag) (xs ys : List Int) (v : V) (H : Hp) : Prop := ∃ t p q, v = .ref t ∧ SqT K H t [.ref p, .ref q] ∧ IL K xs (.ref p) H ∧ IL K ys (.ref q) H
theorem mono_t2 {xs ys : List Int} : Mono (T2 K xs ys) := fun _ _ _ e ⟨t, p, q, h, s, a, b⟩ => ⟨t, p, q, h, ex_t e s, mono_il _ _ _ e a, mono_il _ _ _ e b⟩
theorem T2.th {xs ys : List Int} {v : V} (h : T2 K xs ys v H) : Th K H v (.tuple [.list (xs.map PyData.int), .list (ys.map PyData.int)]) := by
  obtain ⟨t, p, q, rfl, s, ⟨a, ea, sa⟩, ⟨b, eb, sb⟩⟩ := h
  cases ea
  cases eb
  exact .of (.tup s (.cons (.lst sa dps) (.cons (.lst sb dps) .nil)))
section
variable {σ : L2.St} {te tb : TE} {xs ys : List Int}
theorem x_t2v {v : V} {i : Nat} (h : σ[i]? = some (some v)) (hd : T2 K xs ys v H) : EvX (tVar i) σ H (T2 K xs ys) := x_of (ev_var h) mono_t2 hd
theorem x_t2_0 (h : EvX te σ H (T2 K xs ys)) : EvX (tOp (rIxT K) te (tC (.int 0))) σ H (IL K xs) := fun H1 e Q q => h H1 e _ fun v H2 e2 ⟨t, p, r, ev, s, a, b⟩ => ⟨t, _, 0, .ref p, ev, rfl, s, atI_nat (j := 0) rfl, q _ H2 e2 a⟩
theorem x_t2_1 (h : EvX te σ H (T2 K xs ys)) : EvX (tOp (rIxT K) te (tC (.int 1))) σ H (IL K ys) := fun H1 e Q q => h H1 e _ fun v H2 e2 ⟨t, p, r, ev, s, a, b⟩ => ⟨t, _, 1, .ref r, ev, rfl, s, atI_nat (j := 1) rfl, q _ H2 e2 b⟩
theorem ev_lenT2 (h : EvX te σ H (T2 K xs ys)) : Ev (tCB (rLenS K) (tCons te tNil)) σ H (.int 2) := ev_cbX1 h fun x H1 _ ⟨t, p, r, ev, s, a, b⟩ H2 e2 Q q => ⟨t, _, by rw [ev], .inr (ex_t e2 s), q H2 (Ex.refl H2)⟩
end
def sp_l_parted (K : PySem.W.Frag) (A : Ad) : Sp := fun vs H Q _ => ∃ v w ns, ∃ j : Nat, vs = [v, w, .int (j : Int)] ∧ T2 K (Few.ended (ns.drop j)) (Few.ended (ns.take j)) v H ∧ IL K ns w H ∧ ns.length ≤ 100000 ∧ RetV (.bl true) H Q
def t_l_parted (K : PySem.W.Frag) (A : Ad) : TS :=
  (tSeq (tIfS (tOr (tNot (tB (tCB (rIsi K) (tCons (tVar 0) (tCons (tC (.ty "tuple")) tNil))))) (tTest (tOp rNe (tCB (Evl.rLenS K) (tCons (tVar 0) tNil)) (tC (.int 2))))) (tRet (tC (.bl false))) tNext)
    (tRet (tAndV (tCall (sp_l_alike K A) [] E0 (tCons (tOp (rIxT K) (tVar 0) (tC (.int 0))) (tCons (tCall (sp_l_ended K A) [] E0 (tCons (tSl (rSlL K) (tVar 1) (tPart (tVar 2)) tNoPart) tNil)) tNil))) (tCall (sp_l_alike K A) [] E0 (tCons (tOp (rIxT K) (tVar 0) (tC (.int 1))) (tCons (tCall (sp_l_ended K A) [] E0 (tCons (tSl (rSlL K) (tVar 1) tNoPart (tPart (tVar 2))) tNil)) tNil))))))

theorem r_l_parted (h : sp_l_parted K A vs H Q E) : t_l_parted K A (D0 Q) (start ["_law_found", "_law_things", "_law_place"] vs) H := by
  obtain ⟨v, w, ns, j, rfl, hv, hw, hz, k⟩ := h
  refine q_skip (et_or (et_not (et_B (ev_isTuple (ev_var rfl) hv.th))) fun _ => et_test (ev_op (ev_lenT2 (x_t2v rfl hv)) ev_c (rv_ne rfl))) (by simp [tyD]) fun H1 e1 => ?_
  have hv1 := mono_t2 _ _ _ e1 hv
  have hw1 := mono_il _ _ _ e1 hw
  have l1 := Few.ended_len (ns.drop j)
  have l2 := Few.ended_len (ns.take j)
  rw [List.length_drop] at l1
  rw [List.length_take] at l2
  refine s_retV (v := .bl true) (ev_is (ev_andV (ev_alike (x_t2_0 (x_t2v rfl hv1)) (x_ilL (el_l_ended (x_ilL (el_from (n := j) (x_ilv rfl hw1) (ev_var rfl) rfl)) (by rw [List.length_drop]; omega))) (by omega)) fun _ =>
    ev_alike (x_t2_1 (x_t2v rfl hv1)) (x_ilL (el_l_ended (x_ilL (el_to (n := j) (x_ilv rfl hw1) (ev_var rfl) rfl)) (by rw [List.length_take]; omega))) (by omega)) (by simp)) (k.mono e1)
theorem ev_l_parted {te tx tb : TE} {σ : L2.St} {ns : List Int} {j : Nat} (h : EvX te σ H (T2 K (Few.ended (ns.drop j)) (Few.ended (ns.take j)))) (h2 : EvX tx σ H (IL K ns)) (h3 : Ev tb σ H (.int (j : Int))) (hz : ns.length ≤ 100000) :
    Ev (tCall (sp_l_parted K A) [] E (tCons te (tCons tx (tCons tb tNil)))) σ H (.bl true) := fun H1 e Q q =>
  h H1 e _ fun v H2 e2 p => h2 H2 (e.trans e2) _ fun w H3 e3 p2 => h3 H3 ((e.trans e2).trans e3) _ fun H4 e4 => ⟨v, w, ns, j, rfl, mono_t2 _ _ _ (e3.trans e4) p, mono_il _ _ _ e4 p2, hz, fun H5 e5 => q H5 (((e2.trans e3).trans e4).trans e5)⟩
theorem led_t2 {H0 : Hp} {ps : List (Addr × List V)} {t p q : Addr} {xs ys : List Int} {i j : Nat} (L : Led H0 H ps) (ht : H t = some (.tup [.ref p, .ref q])) (hi : ps[i]? = some (p, xs.map V.int)) (hj : ps[j]? = some (q, ys.map V.int)) : T2 K xs ys (.ref t) H :=
  ⟨t, p, q, rfl, st_of ht, L.il i hi, L.il j hj⟩
/-! _law_parts -/
def sp_l_parts (K : PySem.W.Frag) (A : Ad) : Sp := fun vs H Q _ => ∃ v ns, ∃ j : Nat, vs = [v, .int (j : Int)] ∧ IL K ns v H ∧ Few.Lay ns ∧ ns.length ≤ 1000 ∧ j ≤ 1000 ∧ RetV (.bl true) H Q
def t_l_parts (K : PySem.W.Frag) (A : Ad) : TS :=
  (tSeq (tAsg (tCB (Evl.rListS K) (tCons (tVar 0) tNil)) (gName 2))
    (tSeq (tAsg (tCall (sp_parted K A) [] E0 (tCons (tVar 0) (tCons (tVar 1) tNil))) (gName 3))
    (tSeq (tIfS (tOr (tNot (tB (tCall (sp_l_parted K A) [] E0 (tCons (tVar 3) (tCons (tVar 2) (tCons (tVar 1) tNil)))))) (tNot (tB (tCall (sp_l_alike K A) [] E0 (tCons (tVar 0) (tCons (tVar 2) tNil)))))) (tRet (tC (.bl false))) tNext)
    (tSeq (tAsg (tCall (sp_neat K A) [] E0 (tCons (tVar 0) tNil)) (gName 4))
    (tSeq (tAsg (tCall (sp_parted K A) [] E0 (tCons (tVar 4) (tCons (tVar 1) tNil))) (gName 5))
    (tSeq (tIfS (tNot (tB (tCall (sp_l_parted K A) [] E0 (tCons (tVar 5) (tCons (tVar 4) (tCons (tVar 1) tNil)))))) (tRet (tC (.bl false))) tNext)
    (tSeq (tAsg (tCall (sp_load_of K A) [] E0 (tCons (tOp (rIxT K) (tVar 5) (tC (.int 1))) tNil)) (gName 6))
    (tSeq (tIfS (tTest (tOp rNe (tOp rAddI (tOp rMulW (tCall (sp_load_of K A) [] E0 (tCons (tOp (rIxT K) (tVar 5) (tC (.int 0))) tNil)) (tCall (sp_l_power K A) [] E0 (tCons (tVar 1) tNil))) (tVar 6)) (tCall (sp_l_load K A) [] E0 (tCons (tVar 2) tNil)))) (tRet (tC (.bl false))) tNext)
    (tSeq (tIfS (tOr (tNot (tB (tCall (sp_l_apart K A) [] E0 (tCons (tOp (rIxT K) (tVar 5) (tC (.int 0))) tNil)))) (tNot (tB (tCall (sp_l_apart K A) [] E0 (tCons (tOp (rIxT K) (tVar 5) (tC (.int 1))) tNil))))) (tRet (tC (.bl false))) tNext)
    (tRet (tOp rLtI (tOp rMulI (tC (.int 3)) (tCB rAbsI (tCons (tVar 6) tNil))) (tCall (sp_l_power K A) [] E0 (tCons (tOp rAddI (tVar 1) (tC (.int 1))) tNil)))))))))))))

theorem rv_mulW {i j : Int} (h : CMulW i j) : RV rMulW (.int i) (.int j) H (.int (i * j)) := rv_I h
theorem ev_abs {te : TE} {σ : L2.St} {i : Int} (h : Ev te σ H (.int i)) : Ev (tCB rAbsI (tCons te tNil)) σ H (.int (i.natAbs : Int)) := ev_is (ev_cb (ea_cons h ea_nil) fun H1 _ Q q => ⟨i, rfl, q H1 (Ex.refl H1)⟩) (by
  congr 1
  split <;> omega)
theorem log_of {n : Int} {k : Nat} (h : n.natAbs < 2 ^ k) (hk : 0 < k) : n.natAbs.log2 < k := by
  by_cases z : n.natAbs = 0
  · rw [z]
    simpa using hk
  · exact (Nat.log2_lt z).mpr h
theorem r_l_parts (h : sp_l_parts K A vs H Q E) : t_l_parts K A (D0 Q) (start ["_law_handed", "_law_place", "_law_things", "_law_found", "_law_even", "_law_parts_here", "_law_low"] vs) H := by
  obtain ⟨v, ns, j, rfl, hv, hl, hz, hj, k⟩ := h
  refine q_asgL (el_listX (x_vlI (x_ilv rfl hv))) fun p1 H1 hp1 e1 hx1 => ?_
  have L1 := (Led.nil H).new hp1 e1 hx1
  have hv1 := mono_il _ _ _ e1 hv
  refine q_parted (j := j) (x_ilv rfl hv1) (ev_var rfl) hl fun t1 a1 b1 H2 ht1 g2 hT1 => ?_
  have L2 := g2 _ _ L1
  have hv2 := mono_il _ _ _ L2.ext hv
  refine q_skip (et_or (et_not (et_B (ev_l_parted (j := j) (x_t2v rfl (led_t2 L2 hT1 (i := 1) (j := 0) rfl rfl)) (x_ilv rfl (L2.il 2 rfl)) (ev_var rfl) (by omega)))) fun _ => et_not (et_B (ev_alike (x_ilv rfl hv2) (x_ilv rfl (L2.il 2 rfl)) (by omega)))) (by simp) fun H3 e3 => ?_
  have L3 := L2.ex e3
  have hv3 := mono_il _ _ _ L3.ext hv
  have hel := Few.laid_load_len hl
  refine q_asgL (el_neat (x_ilv rfl hv3) hl (by omega)) fun p2 H4 hp2 e4 hx2 => ?_
  have L4 := L3.new hp2 e4 hx2
  have hle := Few.lay_laid (Few.loadOf ns)
  have hae := Few.apart_of_neat (Few.neat_laid (Few.loadOf ns))
  have hld := Few.load_laid (Few.loadOf ns)
  generalize Few.laid (Few.loadOf ns) = es at hel hx2 L4 hle hae hld
  refine q_parted (j := j) (x_ilv rfl (L4.il 0 rfl)) (ev_var rfl) hle fun t2 a2 b2 H5 ht2 g5 hT2 => ?_
  have L5 := g5 _ _ L4
  have hT5 := led_t2 (K := K) L5 hT2 (i := 1) (j := 0) rfl rfl
  refine q_skip (et_not (et_B (ev_l_parted (j := j) (x_t2v rfl hT5) (x_ilv rfl (L5.il 2 rfl)) (ev_var rfl) (by omega)))) rfl fun H6 e6 => ?_
  have L6 := L5.ex e6
  have hT6 := mono_t2 _ _ _ e6 hT5
  have lup := Few.lay_ended (Few.lay_drop hle j)
  have llo := Few.lay_ended (Few.lay_take hle j)
  refine q_asg (ev_load_of (x_t2_1 (x_t2v rfl hT6)) llo) fun H7 e7 => ?_
  have L7 := L6.ex e7
  have hT7 := mono_t2 _ _ _ e7 hT6
  have zup : (Few.ended (es.drop j)).length ≤ 1001 := by
    have := Few.ended_len (es.drop j)
    rw [List.length_drop] at this
    omega
  have zlo : (Few.ended (es.take j)).length ≤ 1001 := by
    have := Few.ended_len (es.take j)
    rw [List.length_take] at this
    omega
  have bup : (Few.loadOf (Few.ended (es.drop j))).natAbs < 2 ^ 1001 := by
    have b := Few.load_bound lup
    have m : 2 ^ (Few.ended (es.drop j)).length ≤ 2 ^ 1001 := Nat.pow_le_pow_right (by decide) zup
    exact Nat.lt_of_lt_of_le b m
  have bj : ((2 : Int) ^ j).natAbs < 2 ^ (j + 1) := by
    have e : ((2 : Int) ^ j).natAbs = 2 ^ j := by
      rw [Int.natAbs_pow]
      rfl
    rw [e, Nat.pow_succ]
    have := Nat.two_pow_pos j
    omega
  have sum : Few.loadOf (Few.ended (es.drop j)) * 2 ^ j + Few.loadOf (Few.ended (es.take j)) = Few.loadOf ns := by
    rw [Few.load_ended, Few.load_ended, Few.parts_load, hld]
  refine q_skip (et_test (ev_op (ev_op (ev_op (ev_load_of (x_t2_0 (x_t2v rfl hT7)) lup) (ev_power (k := j) (ev_var rfl) rfl (by omega)) (rv_mulW (wide_mul bup bj (by decide) (by omega) (by omega)))) (ev_var rfl) rv_I0) (ev_l_load (x_ilv rfl (L7.il 5 rfl))) (rv_ne rfl))) (by rw [eq_dec, sum]; simp) fun H8 e8 => ?_
  have hT8 := mono_t2 _ _ _ e8 hT7
  have L8 := L7.ex e8
  refine q_skip (et_or (et_not (et_B (ev_apart (x_t2_0 (x_t2v rfl hT8)) lup (by omega)))) fun _ => et_not (et_B (ev_apart (x_t2_1 (x_t2v rfl hT8)) llo (by omega)))) (by rw [Few.neat_ended (Few.apart_drop j hae), Few.neat_ended (Few.apart_take j hae)]; rfl) fun H9 e9 => ?_
  have low := Few.low_bound hle hae j
  refine s_retV (v := .bl true) (ev_is (ev_op (ev_op ev_c (ev_abs (ev_var rfl)) (rv_mul (cmul_l ⟨by decide, by decide⟩))) (ev_power (k := j + 1) (ev_op (ev_var rfl) ev_c rv_I0) rfl (by omega)) rv_I0) ?_) (k.mono (L8.ext.trans e9))
  congr 1
  apply decide_eq_true
  rw [Few.load_ended]
  have c : ((2 ^ (j + 1) : Nat) : Int) = 2 ^ (j + 1) := by rw [Int.natCast_pow]; rfl
  rw [← c]
  omega
theorem ev_parts {te tb : TE} {σ : L2.St} {ns : List Int} {j : Nat} (h : EvX te σ H (IL K ns)) (h2 : Ev tb σ H (.int (j : Int))) (hl : Few.Lay ns) (hz : ns.length ≤ 1000) (hj : j ≤ 1000) : Ev (tCall (sp_l_parts K A) [] E (tCons te (tCons tb tNil))) σ H (.bl true) :=
  ev_call2 h mono_il (x_v h2) fun x y H1 e1 hx hy Q q => ⟨x, ns, j, by rw [show y = V.int (j : Int) from hy], hx, hl, hz, hj, fun H' e => q H' e⟩
/-! _law_order -/
def sp_l_order (K : PySem.W.Frag) (A : Ad) : Sp := fun vs H Q _ => ∃ v w xs ys, vs = [v, w] ∧ IL K xs v H ∧ IL K ys w H ∧ (Few.Lay xs ∧ Few.Lay ys) ∧ RetV (.bl true) H Q
def t_l_order (K : PySem.W.Frag) (A : Ad) : TS :=
  (tSeq (tAsg (tLst (tCons (tCB (Evl.rListS K) (tCons (tVar 0) tNil)) (tCons (tCB (Evl.rListS K) (tCons (tVar 1) tNil)) tNil))) (gName 2))
    (tSeq (tAsg (tCall (sp_l_load K A) [] E0 (tCons (tVar 0) tNil)) (gName 3))
    (tSeq (tAsg (tCall (sp_l_load K A) [] E0 (tCons (tVar 1) tNil)) (gName 4))
    (tSeq (tAsg (tOp rSubI (tCB rIntB (tCons (tOp rGtI (tVar 3) (tVar 4)) tNil)) (tCB rIntB (tCons (tOp rLtI (tVar 3) (tVar 4)) tNil))) (gName 5))
    (tSeq (tAsg (tCall (sp_heavier K A) [] E0 (tCons (tVar 0) (tCons (tVar 1) tNil))) (gName 6))
    (tSeq (tAsg (tCall (sp_heavier K A) [] E0 (tCons (tVar 1) (tCons (tVar 0) tNil))) (gName 7))
    (tSeq (tIfS (tOr (tNot (tB (tCall (sp_l_whole K A) [] E0 (tCons (tVar 6) tNil)))) (tOr (tTest (tOp rNe (tVar 6) (tVar 5))) (tOr (tNot (tB (tCall (sp_l_whole K A) [] E0 (tCons (tVar 7) tNil)))) (tTest (tOp rNe (tOp rAddI (tVar 7) (tVar 5)) (tC (.int 0))))))) (tRet (tC (.bl false))) tNext)
    (tRet (tOp (rEqD K) (tLst (tCons (tVar 0) (tCons (tVar 1) tNil))) (tVar 2))))))))))

theorem ev_intB {te : TE} {σ : L2.St} {b : Bool} (h : Ev te σ H (.bl b)) : Ev (tCB rIntB (tCons te tNil)) σ H (.int (if b then 1 else 0)) := ev_cb (ea_cons h ea_nil) fun H1 _ Q q => .inr ⟨b, rfl, q H1 (Ex.refl H1)⟩
theorem due_is (a b : Int) : (if decide (b < a) = true then (1 : Int) else 0) - (if decide (a < b) = true then 1 else 0) = sgn a b := by
  unfold sgn
  by_cases c1 : b < a
  · have c2 : ¬ a < b := by omega
    simp [c1, c2]
  · by_cases c2 : a < b
    · simp [c1, c2]
    · simp [c1, c2]
theorem sgn_swap (a b : Int) : sgn b a + sgn a b = 0 := by
  unfold sgn
  by_cases c1 : b < a
  · have c2 : ¬ a < b := by omega
    simp [c1, c2]
  · by_cases c2 : a < b
    · simp [c1, c2]
    · simp [c1, c2]
theorem r_l_order (h : sp_l_order K A vs H Q E) : t_l_order K A (D0 Q) (start ["_law_one", "_law_other", "_law_kept", "_law_here", "_law_there", "_law_due", "_law_found", "_law_back"] vs) H := by
  obtain ⟨v, w, xs, ys, rfl, hv, hw, ⟨hlx, hly⟩, k⟩ := h
  refine q_asgX (P := ILL K [xs, ys]) (xi_lst (xi_cons (x_ilL (el_listX (x_vlI (x_ilv rfl hv)))) (xi_cons (x_ilL (el_listX (x_vlI (x_ilv rfl hw)))) xi_nil)) (by simp)) fun kp H1 e1 hk => ?_
  have hv1 := mono_il _ _ _ e1 hv
  have hw1 := mono_il _ _ _ e1 hw
  refine q_asg (ev_l_load (x_ilv rfl hv1)) fun H2 e2 => ?_
  have hv2 := mono_il _ _ _ e2 hv1
  have hw2 := mono_il _ _ _ e2 hw1
  refine q_asg (ev_l_load (x_ilv rfl hw2)) fun H3 e3 => ?_
  have hv3 := mono_il _ _ _ e3 hv2
  have hw3 := mono_il _ _ _ e3 hw2
  refine q_asg (v := .int (sgn (Few.loadOf xs) (Few.loadOf ys))) (ev_is (ev_op (ev_intB (ev_op (ev_var rfl) (ev_var rfl) rv_I0)) (ev_intB (ev_op (ev_var rfl) (ev_var rfl) rv_I0)) rv_I0) (by rw [due_is])) fun H4 e4 => ?_
  have hv4 := mono_il _ _ _ e4 hv3
  have hw4 := mono_il _ _ _ e4 hw3
  refine q_asg (ev_heavier (x_ilv rfl hv4) (x_ilv rfl hw4) hlx hly) fun H5 e5 => ?_
  have hv5 := mono_il _ _ _ e5 hv4
  have hw5 := mono_il _ _ _ e5 hw4
  refine q_asg (ev_heavier (x_ilv rfl hw5) (x_ilv rfl hv5) hly hlx) fun H6 e6 => ?_
  refine q_skip (et_or (et_not (et_B (ev_l_whole (ev_var rfl)))) fun _ => et_or (et_test (ev_op (ev_var rfl) (ev_var rfl) (rv_ne rfl))) fun _ => et_or (et_not (et_B (ev_l_whole (ev_var rfl)))) fun _ => et_test (ev_op (ev_op (ev_var rfl) (ev_var rfl) rv_I0) ev_c (rv_ne rfl))) (by rw [sgn_swap]; simp) fun H7 e7 => ?_
  have e17 := (((((e2.trans e3).trans e4).trans e5).trans e6).trans e7)
  have hv7 := mono_il _ _ _ e17 hv1
  have hw7 := mono_il _ _ _ e17 hw1
  exact s_retV (v := .bl true) (ev_is (ev_eqLL (xi_lst (xi_cons (x_ilv rfl hv7) (xi_cons (x_ilv rfl hw7) xi_nil)) (by simp)) (x_illv rfl (mono_ill _ _ _ e17 hk))) (by simp)) (k.mono (e1.trans e17))
theorem ev_order {te tx : TE} {σ : L2.St} {xs ys : List Int} (h : EvX te σ H (IL K xs)) (h2 : EvX tx σ H (IL K ys)) (hl : Few.Lay xs) (hl2 : Few.Lay ys) : Ev (tCall (sp_l_order K A) [] E (tCons te (tCons tx tNil))) σ H (.bl true) :=
  ev_call2 h mono_il h2 fun x y H1 e1 hx hy Q q => ⟨x, y, xs, ys, rfl, hx, hy, ⟨hl, hl2⟩, fun H' e => q H' e⟩
/-! law -/
def sp_law (K : PySem.W.Frag) (A : Ad) : Sp := fun vs H Q _ => ∃ v ns, vs = [v] ∧ IL K ns v H ∧ ns.length ≤ 63 ∧ RetV (.bl true) H Q
def t_law (K : PySem.W.Frag) (A : Ad) : TS :=
  (tSeq (tAsg (tLc (iList K (tSl (rSlL K) (tVar 0) tNoPart (tPart (tC (.int 84))))) (gName 1) tYes (tOp rSubI (tOp rModI (tVar 1) (tC (.int 3))) (tC (.int 1))) [1]) (gName 2))
    (tSeq (tAsg (tOp rDivI (tCall (sp_l_cell_at K A) [] E0 (tCons (tVar 0) (tCons (tC (.int 0)) tNil))) (tC (.int 3))) (gName 1))
    (tSeq (tIfS (tTest (tOp rEq (tOp rModI (tVar 1) (tC (.int 4))) (tC (.int 1)))) (tAsg (tOp rCat (tOp rRep (tLst (tCons (tC (.int 0)) tNil)) (tOp rModI (tOp rDivI (tVar 1) (tC (.int 4))) (tC (.int 291)))) (tVar 2)) (gName 2)) tNext)
    (tSeq (tAsg (tOp rDivI (tCall (sp_l_cell_at K A) [] E0 (tCons (tVar 0) (tCons (tC (.int 1)) tNil))) (tC (.int 3))) (gName 3))
    (tSeq (tAsg (tOp rModI (tOp rDivI (tVar 3) (tC (.int 2))) (tOp (rIxL K) (tLst (tCons (tC (.int 401)) (tCons (tOp rAddI (tCB (Evl.rLenS K) (tCons (tVar 2) tNil)) (tC (.int 2))) tNil))) (tOp rModI (tVar 3) (tC (.int 2))))) (gName 4))
    (tSeq (tAsg (tCB (Evl.rListS K) (tCons (tVar 2) tNil)) (gName 5))
    (tSeq (tAsg (tCall (sp_parted K A) [] E0 (tCons (tVar 5) (tCons (tVar 4) tNil))) (gName 6))
    (tSeq (tIfS (tOr (tNot (tB (tCall (sp_l_parted K A) [] E0 (tCons (tVar 6) (tCons (tVar 2) (tCons (tVar 4) tNil)))))) (tNot (tB (tCall (sp_l_parts K A) [] E0 (tCons (tVar 5) (tCons (tVar 4) tNil)))))) (tRet (tC (.bl false))) tNext)
    (tSeq (tDrop (tBM K "list" rAppend (tVar 5) (tCons (tC (.int 1)) tNil)))
    (tSeq (tIfS (tNot (tB (tCall (sp_l_parts K A) [] E0 (tCons (tVar 5) (tCons (tVar 4) tNil))))) (tRet (tC (.bl false))) tNext)
    (tSeq (tIfS (tNot (tB (tCall (sp_l_parted K A) [] E0 (tCons (tVar 6) (tCons (tVar 2) (tCons (tVar 4) tNil)))))) (tRet (tC (.bl false))) tNext)
    (tSeq (tAsg (tCB (Evl.rListS K) (tCons (tOp (rIxT K) (tVar 6) (tC (.int 1))) tNil)) (gName 7))
    (tSeq (tDrop (tBM K "list" rAppend (tOp (rIxT K) (tVar 6) (tC (.int 0))) (tCons (tC (.int 1)) tNil)))
    (tSeq (tIfS (tTest (tOp (rNeD K) (tOp (rIxT K) (tVar 6) (tC (.int 1))) (tVar 7))) (tRet (tC (.bl false))) tNext)
    (tSeq (tAsg (tOp rModI (tOp rDivI (tCall (sp_l_cell_at K A) [] E0 (tCons (tVar 0) (tCons (tC (.int 2)) tNil))) (tC (.int 3))) (tOp rAddI (tCB (Evl.rLenS K) (tCons (tVar 2) tNil)) (tC (.int 1)))) (gName 8))
    (tSeq (tIfS (tOr (tNot (tB (tCall (sp_l_order K A) [] E0 (tCons (tSl (rSlL K) (tVar 2) tNoPart (tPart (tVar 8))) (tCons (tSl (rSlL K) (tVar 2) (tPart (tVar 8)) tNoPart) tNil))))) (tNot (tB (tCall (sp_l_order K A) [] E0 (tCons (tVar 2) (tCons (tVar 2) tNil)))))) (tRet (tC (.bl false))) tNext)
    (tSeq (tIfS (tNot (tB (tCall (sp_l_order K A) [] E0 (tCons (tVar 5) (tCons (tOp rCat (tVar 2) (tLst (tCons (tUn rNegI (tC (.int 1))) (tCons (tC (.int 1)) tNil)))) tNil))))) (tRet (tC (.bl false))) tNext)
    (tSeq (tAsg (tOp rModI (tOp rDivI (tCall (sp_l_cell_at K A) [] E0 (tCons (tVar 0) (tCons (tC (.int 3)) tNil))) (tC (.int 3))) (tCB (Evl.rLenS K) (tCons (tVar 5) tNil))) (gName 9))
    (tSeq (tAsg (tCB (Evl.rListS K) (tCons (tVar 5) tNil)) (gName 10))
    (tSeq (tAsg (tOp rSubI (tOp rModI (tOp rDivI (tCall (sp_l_cell_at K A) [] E0 (tCons (tVar 0) (tCons (tC (.int 4)) tNil))) (tC (.int 3))) (tC (.int 3))) (tC (.int 1))) (gSub (tVar 10) (tVar 9) rSetL))
    (tSeq (tIfS (tNot (tB (tCall (sp_l_order K A) [] E0 (tCons (tVar 10) (tCons (tVar 5) tNil))))) (tRet (tC (.bl false))) tNext)
    (tSeq (tAsg (tC (.int 0)) (gSub (tVar 5) (tVar 9) rSetL))
    (tRet (tCall (sp_l_order K A) [] E0 (tCons (tVar 10) (tCons (tVar 5) tNil))))))))))))))))))))))))))

theorem r_law (h : sp_law K A vs H Q E) : t_law K A (D0 Q) (start ["_law_script", "_law_cell", "_law_things", "_law_number", "_law_place", "_law_handed", "_law_first", "_law_kept", "_law_cut", "_law_at", "_law_other"] vs) H := by
  obtain ⟨v, ns, rfl, hv, hns, k⟩ := h
  have em : (ns.take 84).map (fun c => V.int (c % 3 - 1)) = ((ns.take 84).map fun c => c % 3 - 1).map V.int := by rw [List.map_map]; rfl
  refine q_asgL (xs := ((ns.take 84).map fun c => c % 3 - 1).map V.int) (by
    rw [← em]
    exact el_lcI0 (ns := ns.take 84) (fun c => V.int (c % 3 - 1)) (x_ilL (el_to (n := 84) (x_ilv rfl hv) ev_c rfl)) (by rw [List.length_take]; omega) (fun _ => rfl) (fun n H1 _ _ => ev_op (ev_op (ev_var rfl) ev_c (rv_mod (by decide))) ev_c rv_I0)) fun p0 H1 hp0 e1 hx0 => ?_
  have hts := lay_mod (ns.take 84)
  have hzt : ((ns.take 84).map fun c => c % 3 - 1).length ≤ 63 := by
    rw [List.length_map, List.length_take]
    omega
  generalize (ns.take 84).map (fun c => c % 3 - 1) = ts0 at hx0 hts hzt
  have L1 := (Led.nil H).new hp0 e1 hx0
  have hv1 := mono_il _ _ _ e1 hv
  refine q_asg (ev_op (ev_cell (k := 0) (x_ilv rfl hv1) ev_c rfl) ev_c (rv_div ⟨by decide, by decide⟩)) fun H2 e2 => ?_
  have L2 := L1.ex e2
  generalize cellAt ns 0 / 3 = c
  refine q_pad (l := 0) (i := 2) L2 rfl (et_test (ev_op (ev_op (ev_var rfl) ev_c (rv_mod (by decide))) ev_c (rv_eq rfl))) rfl (ev_op (ev_op (ev_var rfl) ev_c (rv_div ⟨by decide, by decide⟩)) ev_c (rv_mod (by decide))) ⟨by omega, by omega⟩ (by omega) rfl fun p1 H3 m hm L3 => ?_
  have hl := Few.lay_append (Few.lay_zeros m) hts
  have hz : (List.replicate m 0 ++ ts0).length ≤ 363 := by
    rw [List.length_append, List.length_replicate]
    omega
  generalize List.replicate m 0 ++ ts0 = ts at L3 hl hz
  have L3' : Led H H3 [(p1, ts.map V.int)] := L3
  have hv3 := mono_il _ _ _ L3'.ext hv
  refine q_asg (ev_op (ev_cell (k := 1) (x_ilv rfl hv3) ev_c rfl) ev_c (rv_div ⟨by decide, by decide⟩)) fun H4 e4 => ?_
  have L4 := L3'.ex e4
  generalize cellAt ns 1 / 3 = num
  obtain ⟨a, ha, hal⟩ := mod_nat num 2 (by decide)
  obtain ⟨md, hmd, hmd0⟩ : ∃ md : Nat, ([401, (ts.length : Int) + 2] : List Int)[a]? = some (md : Int) ∧ 0 < md ∧ md ≤ 500 := by
    have : a = 0 ∨ a = 1 := by omega
    rcases this with z | z
    · rw [z]
      exact ⟨401, rfl, by decide, by decide⟩
    · rw [z]
      exact ⟨ts.length + 2, rfl, by omega, by omega⟩
  obtain ⟨j, hj, hjl⟩ := mod_nat (num / 2) md hmd0.1
  refine q_asg (v := .int (j : Int)) (ev_is (ev_op (ev_op (ev_var rfl) ev_c (rv_div ⟨by decide, by decide⟩)) (ev_ix (ns := [401, (ts.length : Int) + 2]) (j := a) (x_ilL (el_lst (ea_cons ev_c (ea_cons (ev_op (ev_lenX (x_ilv rfl (L4.il 0 rfl))) ev_c rv_I0) ea_nil)) (by simp))) (ev_op (ev_var rfl) ev_c (rv_mod (by decide))) ha hmd) (rv_mod (by omega))) (congrArg V.int hj)) fun H5 e5 => ?_
  have L5 := L4.ex e5
  refine q_asgL (el_listX (x_vlI (x_ilv rfl (L5.il 0 rfl)))) fun p2 H6 hp2 e6 hx2 => ?_
  have L6 := L5.new hp2 e6 hx2
  refine q_parted (j := j) (x_ilv rfl (L6.il 0 rfl)) (ev_var rfl) hl fun t a1 b1 H7 ht g7 hT => ?_
  have L7 := g7 _ _ L6
  -- b1 lower, a1 upper, p2 handed, p1 things
  refine q_skip (et_or (et_not (et_B (ev_l_parted (j := j) (x_t2v rfl (led_t2 L7 hT (i := 1) (j := 0) rfl rfl)) (x_ilv rfl (L7.il 3 rfl)) (ev_var rfl) (by omega)))) fun _ => et_not (et_B (ev_parts (x_ilv rfl (L7.il 2 rfl)) (ev_var rfl) hl (by omega) (by omega)))) rfl fun H8 e8 => ?_
  have L8 := L7.ex e8
  have hT8 := e8 _ _ hT
  refine q_app (L8.at 2 rfl) (ev_var rfl) ev_c (by rw [len_mapI]; omega) fun H9 e9 => ?_
  have L9 := (L8.ex e9).put 2 (ts.map V.int ++ [V.int 1]) rfl
  have hT9 : (upd H9 p2 (.lst (ts.map V.int ++ [V.int 1]))) t = some (.tup [.ref a1, .ref b1]) := by
    rw [upd_ne (ne_of (e9 _ _ hT8) ((L8.ex e9).at 2 rfl) (by intro z; cases z))]
    exact e9 _ _ hT8
  rw [map_snoc] at L9 hT9 ⊢
  have hl1 : Few.Lay (ts ++ [1]) := Few.lay_append hl (Few.lay_cons (.inl rfl) Few.lay_nil)
  have hz1 : (ts ++ [1]).length = ts.length + 1 := by simp
  refine q_skip (et_not (et_B (ev_parts (x_ilv rfl (L9.il 2 rfl)) (ev_var rfl) hl1 (by omega) (by omega)))) rfl fun H10 e10 => ?_
  have L10 := L9.ex e10
  have hT10 := e10 _ _ hT9
  refine q_skip (et_not (et_B (ev_l_parted (j := j) (x_t2v rfl (led_t2 L10 hT10 (i := 1) (j := 0) rfl rfl)) (x_ilv rfl (L10.il 3 rfl)) (ev_var rfl) (by omega)))) rfl fun H11 e11 => ?_
  have L11 := L10.ex e11
  have hT11 := e11 _ _ hT10
  refine q_asgL (el_listX (x_vlI (x_t2_1 (x_t2v rfl (led_t2 L11 hT11 (i := 1) (j := 0) rfl rfl))))) fun p3 H12 hp3 e12 hx3 => ?_
  have L12 := L11.new hp3 e12 hx3
  have hT12 := e12 _ _ hT11
  have le0 := Few.ended_len (ts.drop j)
  rw [List.length_drop] at le0
  refine q_app (L12.at 2 rfl) (ev_op (ev_var rfl) ev_c (rv_ixT (st_of hT12) (atI_nat (j := 0) rfl))) ev_c (by rw [len_mapI]; omega) fun H13 e13 => ?_
  have L13 := (L12.ex e13).put 2 ((Few.ended (ts.drop j)).map V.int ++ [V.int 1]) rfl
  have hT13 : (upd H13 a1 (.lst ((Few.ended (ts.drop j)).map V.int ++ [V.int 1]))) t = some (.tup [.ref a1, .ref b1]) := by
    rw [upd_ne (ne_of (e13 _ _ hT12) ((L12.ex e13).at 2 rfl) (by intro z; cases z))]
    exact e13 _ _ hT12
  rw [map_snoc] at L13 hT13 ⊢
  refine q_skip (et_test (ev_neI (x_t2_1 (x_t2v rfl (led_t2 L13 hT13 (i := 2) (j := 1) rfl rfl))) (x_ilv rfl (L13.il 0 rfl)))) (by simp) fun H14 e14 => ?_
  have L14 := L13.ex e14
  have hv14 := mono_il _ _ _ L14.ext hv
  obtain ⟨cut, hcut, hcutl⟩ := mod_nat (cellAt ns 2 / 3) (ts.length + 1) (by omega)
  refine q_asg (v := .int (cut : Int)) (ev_is (ev_op (ev_op (ev_cell (k := 2) (x_ilv rfl hv14) ev_c rfl) ev_c (rv_div ⟨by decide, by decide⟩)) (ev_op (ev_lenX (x_ilv rfl (L14.il 4 rfl))) ev_c rv_I0) (rv_mod (by omega))) (congrArg V.int hcut)) fun H15 e15 => ?_
  have L15 := L14.ex e15
  refine q_skip (et_or (et_not (et_B (ev_order (x_ilL (el_to (n := cut) (x_ilv rfl (L15.il 4 rfl)) (ev_var rfl) rfl)) (x_ilL (el_from (n := cut) (x_ilv rfl (L15.il 4 rfl)) (ev_var rfl) rfl)) (Few.lay_take hl _) (Few.lay_drop hl _)))) fun _ => et_not (et_B (ev_order (x_ilv rfl (L15.il 4 rfl)) (x_ilv rfl (L15.il 4 rfl)) hl hl))) rfl fun H16 e16 => ?_
  have L16 := L15.ex e16
  have hl2 : Few.Lay (ts ++ [-1, 1]) := Few.lay_append hl (Few.lay_cons (.inr (.inr rfl)) (Few.lay_cons (.inl rfl) Few.lay_nil))
  have e2 : ts.map V.int ++ [V.int (-1), V.int 1] = (ts ++ [-1, 1]).map V.int := by rw [List.map_append]; rfl
  refine q_skip (et_not (et_B (ev_order (ys := ts ++ [-1, 1]) (x_ilv rfl (L16.il 3 rfl)) (x_ilL (by
    rw [← e2]
    exact el_catX (x_ml (ev_var rfl) (L16.at 4 rfl)) (x_mlL (el_lst (ea_cons (ev_un ev_c ru_neg) (ea_cons ev_c ea_nil)) (by simp))) (by rw [len_mapI]; simp; omega))) hl1 hl2))) rfl fun H17 e17 => ?_
  have L17 := L16.ex e17
  have hv17 := mono_il _ _ _ L17.ext hv
  obtain ⟨i, hi, hil⟩ := mod_nat (cellAt ns 3 / 3) (ts ++ [1]).length (by omega)
  refine q_asg (v := .int (i : Int)) (ev_is (ev_op (ev_op (ev_cell (k := 3) (x_ilv rfl hv17) ev_c rfl) ev_c (rv_div ⟨by decide, by decide⟩)) (ev_lenX (x_ilv rfl (L17.il 3 rfl))) (rv_mod (by omega))) (congrArg V.int hi)) fun H18 e18 => ?_
  have L18 := L17.ex e18
  refine q_asgL (el_listX (x_vlI (x_ilv rfl (L18.il 3 rfl)))) fun p4 H19 hp4 e19 hx4 => ?_
  have L19 := L18.new hp4 e19 hx4
  have hv19 := mono_il _ _ _ L19.ext hv
  have hjm : i < ((ts ++ [1]).map V.int).length := by
    rw [len_mapI]
    exact hil
  have pm4 := pm_mod (cellAt ns 4 / 3)
  refine q_setL (L19.at 0 rfl) (ev_op (ev_op (ev_op (ev_cell (k := 4) (x_ilv rfl hv19) ev_c rfl) ev_c (rv_div ⟨by decide, by decide⟩)) ev_c (rv_mod (by decide))) ev_c rv_I0) (ev_var rfl) (ev_var rfl) hjm fun H20 e20 => ?_
  have L20 := (L19.ex e20).put 0 (((ts ++ [1]).map V.int).set i (V.int (cellAt ns 4 / 3 % 3 - 1))) rfl
  generalize cellAt ns 4 / 3 % 3 - 1 = x at pm4 L20
  rw [← List.map_set] at L20 ⊢
  have lay_set : ∀ y : Int, Few.Pm y → Few.Lay ((ts ++ [1]).set i y) := fun y py z hz' => by
    rcases List.mem_or_eq_of_mem_set hz' with w | w
    · exact hl1 z w
    · rw [w]
      exact py
  refine q_skip (et_not (et_B (ev_order (x_ilv rfl (L20.il 0 rfl)) (x_ilv rfl (L20.il 4 rfl)) (lay_set x pm4) hl1))) rfl fun H21 e21 => ?_
  have L21 := L20.ex e21
  refine q_setL (L21.at 4 rfl) ev_c (ev_var rfl) (ev_var rfl) hjm fun H22 e22 => ?_
  have L22 := (L21.ex e22).put 4 (((ts ++ [1]).map V.int).set i (V.int 0)) rfl
  rw [← List.map_set] at L22 ⊢
  exact s_retV (ev_order (x_ilv rfl (L22.il 0 rfl)) (x_ilv rfl (L22.il 4 rfl)) (lay_set x pm4) (lay_set 0 (.inr (.inl rfl)))) (k.mono L22.ext)
end
end Fw

namespace Law
open PySem PySem.Spec PyProof.Rows L2 Evl Fw
def topS (i : Nat) : Stmt := PySem.Challenge.pw_fewstones_k05_parts_and_order.main.body.getD i (.Pass ⟨0, 0, 0, 0⟩)
abbrev s_is_whole : Stmt := topS 5
abbrev n_is_whole : List Str := ["thing"]
theorem sc_is_whole : FnScope n_is_whole ["thing"] (defScope s_is_whole) := ⟨rfl, rfl, rfl, by decide +kernel, rfl, by decide +kernel, by decide +kernel⟩
abbrev s_is_laying : Stmt := topS 6
abbrev n_is_laying : List Str := ["thing", "one"]
theorem sc_is_laying : FnScope n_is_laying ["thing"] (defScope s_is_laying) := ⟨rfl, rfl, rfl, by decide +kernel, rfl, by decide +kernel, by decide +kernel⟩
abbrev s_good_laying : Stmt := topS 7
abbrev n_good_laying : List Str := ["laying"]
theorem sc_good_laying : FnScope n_good_laying ["laying"] (defScope s_good_laying) := ⟨rfl, rfl, rfl, by decide +kernel, rfl, by decide +kernel, by decide +kernel⟩
abbrev s_good_load : Stmt := topS 8
abbrev n_good_load : List Str := ["load"]
theorem sc_good_load : FnScope n_good_load ["load"] (defScope s_good_load) := ⟨rfl, rfl, rfl, by decide +kernel, rfl, by decide +kernel, by decide +kernel⟩
abbrev s_load_of : Stmt := topS 9
abbrev n_load_of : List Str := ["laying", "load", "one"]
theorem sc_load_of : FnScope n_load_of ["laying"] (defScope s_load_of) := ⟨rfl, rfl, rfl, by decide +kernel, rfl, by decide +kernel, by decide +kernel⟩
abbrev s_ended : Stmt := topS 10
abbrev n_ended : List Str := ["laying", "kept"]
theorem sc_ended : FnScope n_ended ["laying"] (defScope s_ended) := ⟨rfl, rfl, rfl, by decide +kernel, rfl, by decide +kernel, by decide +kernel⟩
abbrev s_laid : Stmt := topS 11
abbrev n_laid : List Str := ["load", "rest", "found", "one"]
theorem sc_laid : FnScope n_laid ["load"] (defScope s_laid) := ⟨rfl, rfl, rfl, by decide +kernel, rfl, by decide +kernel, by decide +kernel⟩
abbrev s_neat : Stmt := topS 13
abbrev n_neat : List Str := ["laying"]
theorem sc_neat : FnScope n_neat ["laying"] (defScope s_neat) := ⟨rfl, rfl, rfl, by decide +kernel, rfl, by decide +kernel, by decide +kernel⟩
abbrev s_heavier : Stmt := topS 14
abbrev n_heavier : List Str := ["one", "other", "first", "second"]
theorem sc_heavier : FnScope n_heavier ["one", "other"] (defScope s_heavier) := ⟨rfl, rfl, rfl, by decide +kernel, rfl, by decide +kernel, by decide +kernel⟩
abbrev s_parted : Stmt := topS 15
abbrev n_parted : List Str := ["laying", "place", "things"]
theorem sc_parted : FnScope n_parted ["laying", "place"] (defScope s_parted) := ⟨rfl, rfl, rfl, by decide +kernel, rfl, by decide +kernel, by decide +kernel⟩
abbrev s_l_cell_at : Stmt := topS 17
abbrev n_l_cell_at : List Str := ["_law_script", "_law_k"]
theorem sc_l_cell_at : FnScope n_l_cell_at ["_law_script", "_law_k"] (defScope s_l_cell_at) := ⟨rfl, rfl, rfl, by decide +kernel, rfl, by decide +kernel, by decide +kernel⟩
abbrev s_l_whole : Stmt := topS 18
abbrev n_l_whole : List Str := ["_law_found"]
theorem sc_l_whole : FnScope n_l_whole ["_law_found"] (defScope s_l_whole) := ⟨rfl, rfl, rfl, by decide +kernel, rfl, by decide +kernel, by decide +kernel⟩
abbrev s_l_load : Stmt := topS 19
abbrev n_l_load : List Str := ["_law_things", "_law_load_here", "_law_thing"]
theorem sc_l_load : FnScope n_l_load ["_law_things"] (defScope s_l_load) := ⟨rfl, rfl, rfl, by decide +kernel, rfl, by decide +kernel, by decide +kernel⟩
abbrev s_l_power : Stmt := topS 20
abbrev n_l_power : List Str := ["_law_k", "_law_found", "_law_j"]
theorem sc_l_power : FnScope n_l_power ["_law_k"] (defScope s_l_power) := ⟨rfl, rfl, rfl, by decide +kernel, rfl, by decide +kernel, by decide +kernel⟩
abbrev s_l_ended : Stmt := topS 21
abbrev n_l_ended : List Str := ["_law_things", "_law_size", "_law_k"]
theorem sc_l_ended : FnScope n_l_ended ["_law_things"] (defScope s_l_ended) := ⟨rfl, rfl, rfl, by decide +kernel, rfl, by decide +kernel, by decide +kernel⟩
abbrev s_l_alike : Stmt := topS 22
abbrev n_l_alike : List Str := ["_law_found", "_law_due", "_law_k"]
theorem sc_l_alike : FnScope n_l_alike ["_law_found", "_law_due"] (defScope s_l_alike) := ⟨rfl, rfl, rfl, by decide +kernel, rfl, by decide +kernel, by decide +kernel⟩
abbrev s_l_apart : Stmt := topS 23
abbrev n_l_apart : List Str := ["_law_things", "_law_k"]
theorem sc_l_apart : FnScope n_l_apart ["_law_things"] (defScope s_l_apart) := ⟨rfl, rfl, rfl, by decide +kernel, rfl, by decide +kernel, by decide +kernel⟩
abbrev s_l_parted : Stmt := topS 24
abbrev n_l_parted : List Str := ["_law_found", "_law_things", "_law_place"]
theorem sc_l_parted : FnScope n_l_parted ["_law_found", "_law_things", "_law_place"] (defScope s_l_parted) := ⟨rfl, rfl, rfl, by decide +kernel, rfl, by decide +kernel, by decide +kernel⟩
abbrev s_l_parts : Stmt := topS 25
abbrev n_l_parts : List Str := ["_law_handed", "_law_place", "_law_things", "_law_found", "_law_even", "_law_parts_here", "_law_low"]
theorem sc_l_parts : FnScope n_l_parts ["_law_handed", "_law_place"] (defScope s_l_parts) := ⟨rfl, rfl, rfl, by decide +kernel, rfl, by decide +kernel, by decide +kernel⟩
abbrev s_l_order : Stmt := topS 26
abbrev n_l_order : List Str := ["_law_one", "_law_other", "_law_kept", "_law_here", "_law_there", "_law_due", "_law_found", "_law_back"]
theorem sc_l_order : FnScope n_l_order ["_law_one", "_law_other"] (defScope s_l_order) := ⟨rfl, rfl, rfl, by decide +kernel, rfl, by decide +kernel, by decide +kernel⟩
abbrev s_law : Stmt := topS 27
abbrev n_law : List Str := ["_law_script", "_law_cell", "_law_things", "_law_number", "_law_place", "_law_handed", "_law_first", "_law_kept", "_law_cut", "_law_at", "_law_other"]
theorem sc_law : FnScope n_law ["_law_script"] (defScope s_law) := ⟨rfl, rfl, rfl, by decide +kernel, rfl, by decide +kernel, by decide +kernel⟩
structure Fs where
  a_is_whole : Addr
  d_is_whole : FuncData
  a_is_laying : Addr
  d_is_laying : FuncData
  a_good_laying : Addr
  d_good_laying : FuncData
  a_good_load : Addr
  d_good_load : FuncData
  a_load_of : Addr
  d_load_of : FuncData
  a_ended : Addr
  d_ended : FuncData
  a_laid : Addr
  d_laid : FuncData
  a_neat : Addr
  d_neat : FuncData
  a_heavier : Addr
  d_heavier : FuncData
  a_parted : Addr
  d_parted : FuncData
  a_l_cell_at : Addr
  d_l_cell_at : FuncData
  a_l_whole : Addr
  d_l_whole : FuncData
  a_l_load : Addr
  d_l_load : FuncData
  a_l_power : Addr
  d_l_power : FuncData
  a_l_ended : Addr
  d_l_ended : FuncData
  a_l_alike : Addr
  d_l_alike : FuncData
  a_l_apart : Addr
  d_l_apart : FuncData
  a_l_parted : Addr
  d_l_parted : FuncData
  a_l_parts : Addr
  d_l_parts : FuncData
  a_l_order : Addr
  d_l_order : FuncData
  a_law : Addr
  d_law : FuncData
structure Txt (K : PySem.W.Frag) (mg : Str → Option Value) (A : Ad) (F : Fs) : Prop where
  f_is_whole : Fun K "is_whole" "is_whole" s_is_whole F.a_is_whole F.d_is_whole
  b_is_whole : Binds K F.d_is_whole ["thing"] []
  g_is_whole : mg "is_whole" = some (.ref F.a_is_whole)
  f_is_laying : Fun K "is_laying" "is_laying" s_is_laying F.a_is_laying F.d_is_laying
  b_is_laying : Binds K F.d_is_laying ["thing"] []
  g_is_laying : mg "is_laying" = some (.ref F.a_is_laying)
  f_good_laying : Fun K "good_laying" "good_laying" s_good_laying F.a_good_laying F.d_good_laying
  b_good_laying : Binds K F.d_good_laying ["laying"] []
  g_good_laying : mg "good_laying" = some (.ref F.a_good_laying)
  f_good_load : Fun K "good_load" "good_load" s_good_load F.a_good_load F.d_good_load
  b_good_load : Binds K F.d_good_load ["load"] []
  g_good_load : mg "good_load" = some (.ref F.a_good_load)
  f_load_of : Fun K "load_of" "load_of" s_load_of F.a_load_of F.d_load_of
  b_load_of : Binds K F.d_load_of ["laying"] []
  g_load_of : mg "load_of" = some (.ref F.a_load_of)
  f_ended : Fun K "ended" "ended" s_ended F.a_ended F.d_ended
  b_ended : Binds K F.d_ended ["laying"] []
  g_ended : mg "ended" = some (.ref F.a_ended)
  f_laid : Fun K "laid" "laid" s_laid F.a_laid F.d_laid
  b_laid : Binds K F.d_laid ["load"] []
  g_laid : mg "laid" = some (.ref F.a_laid)
  f_neat : Fun K "neat" "neat" s_neat F.a_neat F.d_neat
  b_neat : Binds K F.d_neat ["laying"] []
  g_neat : mg "neat" = some (.ref F.a_neat)
  f_heavier : Fun K "heavier" "heavier" s_heavier F.a_heavier F.d_heavier
  b_heavier : Binds K F.d_heavier ["one", "other"] []
  g_heavier : mg "heavier" = some (.ref F.a_heavier)
  f_parted : Fun K "parted" "parted" s_parted F.a_parted F.d_parted
  b_parted : Binds K F.d_parted ["laying", "place"] []
  g_parted : mg "parted" = some (.ref F.a_parted)
  f_l_cell_at : Fun K "_law_cell_at" "_law_cell_at" s_l_cell_at F.a_l_cell_at F.d_l_cell_at
  b_l_cell_at : Binds K F.d_l_cell_at ["_law_script", "_law_k"] []
  g_l_cell_at : mg "_law_cell_at" = some (.ref F.a_l_cell_at)
  f_l_whole : Fun K "_law_whole" "_law_whole" s_l_whole F.a_l_whole F.d_l_whole
  b_l_whole : Binds K F.d_l_whole ["_law_found"] []
  g_l_whole : mg "_law_whole" = some (.ref F.a_l_whole)
  f_l_load : Fun K "_law_load" "_law_load" s_l_load F.a_l_load F.d_l_load
  b_l_load : Binds K F.d_l_load ["_law_things"] []
  g_l_load : mg "_law_load" = some (.ref F.a_l_load)
  f_l_power : Fun K "_law_power" "_law_power" s_l_power F.a_l_power F.d_l_power
  b_l_power : Binds K F.d_l_power ["_law_k"] []
  g_l_power : mg "_law_power" = some (.ref F.a_l_power)
  f_l_ended : Fun K "_law_ended" "_law_ended" s_l_ended F.a_l_ended F.d_l_ended
  b_l_ended : Binds K F.d_l_ended ["_law_things"] []
  g_l_ended : mg "_law_ended" = some (.ref F.a_l_ended)
  f_l_alike : Fun K "_law_alike" "_law_alike" s_l_alike F.a_l_alike F.d_l_alike
  b_l_alike : Binds K F.d_l_alike ["_law_found", "_law_due"] []
  g_l_alike : mg "_law_alike" = some (.ref F.a_l_alike)
  f_l_apart : Fun K "_law_apart" "_law_apart" s_l_apart F.a_l_apart F.d_l_apart
  b_l_apart : Binds K F.d_l_apart ["_law_things"] []
  g_l_apart : mg "_law_apart" = some (.ref F.a_l_apart)
  f_l_parted : Fun K "_law_parted" "_law_parted" s_l_parted F.a_l_parted F.d_l_parted
  b_l_parted : Binds K F.d_l_parted ["_law_found", "_law_things", "_law_place"] []
  g_l_parted : mg "_law_parted" = some (.ref F.a_l_parted)
  f_l_parts : Fun K "_law_parts" "_law_parts" s_l_parts F.a_l_parts F.d_l_parts
  b_l_parts : Binds K F.d_l_parts ["_law_handed", "_law_place"] []
  g_l_parts : mg "_law_parts" = some (.ref F.a_l_parts)
  f_l_order : Fun K "_law_order" "_law_order" s_l_order F.a_l_order F.d_l_order
  b_l_order : Binds K F.d_l_order ["_law_one", "_law_other"] []
  g_l_order : mg "_law_order" = some (.ref F.a_l_order)
  f_law : Fun K "law" "law" s_law F.a_law F.d_law
  b_law : Binds K F.d_law ["_law_script"] []
  g_law : mg "law" = some (.ref F.a_law)
  n_abs : mg "abs" = none
  n_bool : mg "bool" = none
  n_int : mg "int" = none
  n_isinstance : mg "isinstance" = none
  n_len : mg "len" = none
  n_list : mg "list" = none
  n_range : mg "range" = none
  n_reversed : mg "reversed" = none
  n_tuple : mg "tuple" = none
  g_NoLaying : mg "NoLaying" = some (.ref A.laying)
  x_NoLaying : PySem.W.excIn K A.laying [.type "ValueError", .type "Exception", .type "BaseException", .type "object"] "ValueError.__new__" = true
  k_NoLaying : PySem.W.keepIn K (.ref A.laying) = true
  s_NoLaying : PySem.W.subIn K (.ref A.laying) (.type "BaseException") = some true
  t_NoLaying : PySem.W.typeIn K (.ref A.laying) = some (.type "type")
  g_NoLoad : mg "NoLoad" = some (.ref A.load)
  x_NoLoad : PySem.W.excIn K A.load [.type "ValueError", .type "Exception", .type "BaseException", .type "object"] "ValueError.__new__" = true
  k_NoLoad : PySem.W.keepIn K (.ref A.load) = true
  s_NoLoad : PySem.W.subIn K (.ref A.load) (.type "BaseException") = some true
  t_NoLoad : PySem.W.typeIn K (.ref A.load) = some (.type "type")
section
variable {P : Program} {w : World} {K : PySem.W.Frag} {mg : Str → Option Value} {base : Heap} {A : Ad} {F : Fs}
theorem ok_is_whole (T : Txt K mg A F) : FnOk P w K mg base CX0 1 F.a_is_whole F.d_is_whole ["thing"] (sp_is_whole K A) := by
  refine T.f_is_whole.ok sc_is_whole (fun vs H Q E h => ?_) (fun cdv Ar outer s H vs Q E hr h => ⟨t_is_whole K A, ?_, r_is_whole h⟩)
  · first | (obtain ⟨_, rfl, _⟩ := h; rfl) | (obtain ⟨_, _, rfl, _⟩ := h; rfl) | (obtain ⟨_, _, _, rfl, _⟩ := h; rfl) | (obtain ⟨_, _, _, _, rfl, _⟩ := h; rfl) | (obtain ⟨_, _, _, _, _, rfl, _⟩ := h; rfl) | (obtain ⟨_, _, _, _, _, _, rfl, _⟩ := h; rfl) | (obtain ⟨_, _, _, _, _, _, _, rfl, _⟩ := h; rfl) | (obtain ⟨_, _, _, _, _, _, _, _, rfl, _⟩ := h; rfl)
  · exact (pss_one (ps_ret (pe_and (pe_callB call_isi (by rfl) T.n_isinstance (by decide +kernel) (pa_cons (pv 0) (pa_cons (pe_bltn (by rfl) T.n_int (by decide +kernel) rfl) pa_nil))) (pe_one (pe_not (pe_callB call_isi (by rfl) T.n_isinstance (by decide +kernel) (pa_cons (pv 0) (pa_cons (pe_bltn (by rfl) T.n_bool (by decide +kernel) rfl) pa_nil))))))))
theorem ok_is_laying (T : Txt K mg A F) : FnOk P w K mg base CX0 2 F.a_is_laying F.d_is_laying ["thing"] (sp_is_laying K A) := by
  refine T.f_is_laying.ok sc_is_laying (fun vs H Q E h => ?_) (fun cdv Ar outer s H vs Q E hr h => ⟨t_is_laying K A, ?_, r_is_laying h⟩)
  · first | (obtain ⟨_, rfl, _⟩ := h; rfl) | (obtain ⟨_, _, rfl, _⟩ := h; rfl) | (obtain ⟨_, _, _, rfl, _⟩ := h; rfl) | (obtain ⟨_, _, _, _, rfl, _⟩ := h; rfl) | (obtain ⟨_, _, _, _, _, rfl, _⟩ := h; rfl) | (obtain ⟨_, _, _, _, _, _, rfl, _⟩ := h; rfl) | (obtain ⟨_, _, _, _, _, _, _, rfl, _⟩ := h; rfl) | (obtain ⟨_, _, _, _, _, _, _, _, rfl, _⟩ := h; rfl)
  · exact (pss_cons (ps_if (pt_not (pt_val (pe_callB call_isi (by rfl) T.n_isinstance (by decide +kernel) (pa_cons (pv 0) (pa_cons (pe_bltn (by rfl) T.n_list (by decide +kernel) rfl) pa_nil))))) (pss_one (ps_ret pe_bl)) pss_nil)
    (pss_cons (ps_for PassesOwn.never rfl (pi_list (pv 0)) (pg_name (i := 1) sc_is_laying.nd rfl (Or.inl rfl)) (pss_one (ps_if (PW.pt (pw_or (pt_not (pt_val (pe_call (ok_is_whole T) (hr.mono (by decide)) rfl T.g_is_whole T.f_is_whole.kp T.b_is_whole .nil pass0 (pa_cons (pv 1) pa_nil)))) (pw_or (pt_cmpR op_lt (pv 1) (pe_un un_neg pe_int) (nomark _)) (pw_or1 (pt_cmpR op_gt (pv 1) pe_int (nomark _)))))) (pss_one (ps_ret pe_bl)) pss_nil)))
    (pss_one (ps_ret pe_bl))))
theorem ok_good_laying (T : Txt K mg A F) : FnOk P w K mg base (L2.CX P w) 3 F.a_good_laying F.d_good_laying ["laying"] (sp_good_laying K A) := by
  refine T.f_good_laying.okX sc_good_laying (fun vs H Q E h => ?_) (fun cdv Ar outer s H vs Q E hr h => ⟨t_good_laying K A E, ?_, r_good_laying h⟩)
  · first | (obtain ⟨_, rfl, _⟩ := h; rfl) | (obtain ⟨_, _, rfl, _⟩ := h; rfl) | (obtain ⟨_, _, _, rfl, _⟩ := h; rfl) | (obtain ⟨_, _, _, _, rfl, _⟩ := h; rfl) | (obtain ⟨_, _, _, _, _, rfl, _⟩ := h; rfl) | (obtain ⟨_, _, _, _, _, _, rfl, _⟩ := h; rfl) | (obtain ⟨_, _, _, _, _, _, _, rfl, _⟩ := h; rfl) | (obtain ⟨_, _, _, _, _, _, _, _, rfl, _⟩ := h; rfl)
  · exact (pss_cons (ps_if (pt_not (pt_val (pe_call (ok_is_laying T) (hr.mono (by decide)) rfl T.g_is_laying T.f_is_laying.kp T.b_is_laying .nil pass0 (pa_cons (pv 0) pa_nil)))) (pss_one (ps_raise rfl (takes_of rfl rfl rfl rfl) (pmk_own PySem.F.excBase_ValueError T.x_NoLaying T.g_NoLaying T.k_NoLaying (raises_own T.s_NoLaying T.t_NoLaying) (by rfl)))) pss_nil)
    (pss_one (ps_ret (pv 0))))
theorem ok_good_load (T : Txt K mg A F) : FnOk P w K mg base (L2.CX P w) 2 F.a_good_load F.d_good_load ["load"] (sp_good_load K A) := by
  refine T.f_good_load.okX sc_good_load (fun vs H Q E h => ?_) (fun cdv Ar outer s H vs Q E hr h => ⟨t_good_load K A E, ?_, r_good_load h⟩)
  · first | (obtain ⟨_, rfl, _⟩ := h; rfl) | (obtain ⟨_, _, rfl, _⟩ := h; rfl) | (obtain ⟨_, _, _, rfl, _⟩ := h; rfl) | (obtain ⟨_, _, _, _, rfl, _⟩ := h; rfl) | (obtain ⟨_, _, _, _, _, rfl, _⟩ := h; rfl) | (obtain ⟨_, _, _, _, _, _, rfl, _⟩ := h; rfl) | (obtain ⟨_, _, _, _, _, _, _, rfl, _⟩ := h; rfl) | (obtain ⟨_, _, _, _, _, _, _, _, rfl, _⟩ := h; rfl)
  · exact (pss_cons (ps_if (pt_not (pt_val (pe_call (ok_is_whole T) (hr.mono (by decide)) rfl T.g_is_whole T.f_is_whole.kp T.b_is_whole .nil pass0 (pa_cons (pv 0) pa_nil)))) (pss_one (ps_raise rfl (takes_of rfl rfl rfl rfl) (pmk_own PySem.F.excBase_ValueError T.x_NoLoad T.g_NoLoad T.k_NoLoad (raises_own T.s_NoLoad T.t_NoLoad) (by rfl)))) pss_nil)
    (pss_one (ps_ret (pv 0))))
theorem ok_load_of (T : Txt K mg A F) : FnOk P w K mg base (L2.CX P w) 4 F.a_load_of F.d_load_of ["laying"] (sp_load_of K A) := by
  refine T.f_load_of.okX sc_load_of (fun vs H Q E h => ?_) (fun cdv Ar outer s H vs Q E hr h => ⟨t_load_of K A E, ?_, r_load_of h⟩)
  · first | (obtain ⟨_, rfl, _⟩ := h; rfl) | (obtain ⟨_, _, rfl, _⟩ := h; rfl) | (obtain ⟨_, _, _, rfl, _⟩ := h; rfl) | (obtain ⟨_, _, _, _, rfl, _⟩ := h; rfl) | (obtain ⟨_, _, _, _, _, rfl, _⟩ := h; rfl) | (obtain ⟨_, _, _, _, _, _, rfl, _⟩ := h; rfl) | (obtain ⟨_, _, _, _, _, _, _, rfl, _⟩ := h; rfl) | (obtain ⟨_, _, _, _, _, _, _, _, rfl, _⟩ := h; rfl)
  · exact (pss_cons (ps_set (i := 1) sc_load_of.nd rfl (Or.inl rfl) pe_int)
    (pss_cons (ps_for (passes_of rfl) rfl (pi_reversed (by rfl) T.n_reversed (pa_cons (pe_call (ok_good_laying T) (hr.mono (by decide)) rfl T.g_good_laying T.f_good_laying.kp T.b_good_laying .nil (passes_call (takes_of rfl rfl rfl rfl) (fun _ _ _ _ h => h)) (pa_cons (pv 0) pa_nil)) pa_nil)) (pg_name (i := 2) sc_load_of.nd rfl (Or.inl rfl)) (pss_one (ps_set (i := 1) sc_load_of.nd rfl (Or.inl rfl) (pe_op op_add (pe_op op_mul pe_int (pv 1)) (pv 2)))))
    (pss_one (ps_ret (pv 1)))))
theorem ok_ended (T : Txt K mg A F) : FnOk P w K mg base (L2.CX P w) 4 F.a_ended F.d_ended ["laying"] (sp_ended K A) := by
  refine T.f_ended.okX sc_ended (fun vs H Q E h => ?_) (fun cdv Ar outer s H vs Q E hr h => ⟨t_ended K A E, ?_, r_ended h⟩)
  · first | (obtain ⟨_, rfl, _⟩ := h; rfl) | (obtain ⟨_, _, rfl, _⟩ := h; rfl) | (obtain ⟨_, _, _, rfl, _⟩ := h; rfl) | (obtain ⟨_, _, _, _, rfl, _⟩ := h; rfl) | (obtain ⟨_, _, _, _, _, rfl, _⟩ := h; rfl) | (obtain ⟨_, _, _, _, _, _, rfl, _⟩ := h; rfl) | (obtain ⟨_, _, _, _, _, _, _, rfl, _⟩ := h; rfl) | (obtain ⟨_, _, _, _, _, _, _, _, rfl, _⟩ := h; rfl)
  · exact (pss_cons (ps_set (i := 1) sc_ended.nd rfl (Or.inl rfl) (pe_callTy call_list_of (by rfl) T.n_list (by decide +kernel) (pa_cons (pe_call (ok_good_laying T) (hr.mono (by decide)) rfl T.g_good_laying T.f_good_laying.kp T.b_good_laying .nil (passes_call (takes_of rfl rfl rfl rfl) (fun _ _ _ _ h => h)) (pa_cons (pv 0) pa_nil)) pa_nil)))
    (pss_cons (ps_while (passes_of rfl) (PW.pt (pw_and (pt_cmpR op_gt (pe_callB call_len_seq (by rfl) T.n_len (by decide +kernel) (pa_cons (pv 1) pa_nil)) pe_int (nomark _)) (pw_and1 (pt_cmpR op_eq (pe_ix ix_list (pv 1) (pe_un un_neg pe_int) (fun _ _ => rfl)) pe_int (nomark _))))) (pss_one (ps_expr (pe_bm0 PySem.F.plainAttrs_list PySem.F.slot_list_pop PySem.F.type_list_pop mt_pop (pv 1)))))
    (pss_one (ps_ret (pv 1)))))
theorem ok_laid (T : Txt K mg A F) : FnOk P w K mg base (L2.CX P w) 3 F.a_laid F.d_laid ["load"] (sp_laid K A) := by
  refine T.f_laid.okX sc_laid (fun vs H Q E h => ?_) (fun cdv Ar outer s H vs Q E hr h => ⟨t_laid K A E, ?_, r_laid h⟩)
  · first | (obtain ⟨_, rfl, _⟩ := h; rfl) | (obtain ⟨_, _, rfl, _⟩ := h; rfl) | (obtain ⟨_, _, _, rfl, _⟩ := h; rfl) | (obtain ⟨_, _, _, _, rfl, _⟩ := h; rfl) | (obtain ⟨_, _, _, _, _, rfl, _⟩ := h; rfl) | (obtain ⟨_, _, _, _, _, _, rfl, _⟩ := h; rfl) | (obtain ⟨_, _, _, _, _, _, _, rfl, _⟩ := h; rfl) | (obtain ⟨_, _, _, _, _, _, _, _, rfl, _⟩ := h; rfl)
  · exact (pss_cons (ps_set (i := 1) sc_laid.nd rfl (Or.inl rfl) (pe_call (ok_good_load T) (hr.mono (by decide)) rfl T.g_good_load T.f_good_load.kp T.b_good_load .nil (passes_call (takes_of rfl rfl rfl rfl) (fun _ _ _ _ h => h)) (pa_cons (pv 0) pa_nil)))
    (pss_cons (ps_set (i := 2) sc_laid.nd rfl (Or.inl rfl) (pe_lst pa_nil))
    (pss_cons (ps_while (passes_of rfl) (pt_cmpR op_ne (pv 1) pe_int (nomark _)) (pss_cons (ps_set (i := 3) sc_laid.nd rfl (Or.inl rfl) pe_int)
    (pss_cons (ps_if (pt_cmpR op_eq (pe_op op_mod (pv 1) pe_int) pe_int (nomark _)) (pss_one (ps_set (i := 3) sc_laid.nd rfl (Or.inl rfl) (pe_op op_sub pe_int (pe_op op_mod (pv 1) pe_int)))) pss_nil)
    (pss_cons (ps_expr (pe_bm PySem.F.plainAttrs_list PySem.F.slot_list_append PySem.F.type_list_append mt_append (pv 2) (pa_cons (pv 3) pa_nil)))
    (pss_one (ps_set (i := 1) sc_laid.nd rfl (Or.inl rfl) (pe_op op_fdiv (pe_op op_sub (pv 1) (pv 3)) pe_int)))))))
    (pss_one (ps_ret (pv 2))))))
theorem ok_neat (T : Txt K mg A F) : FnOk P w K mg base (L2.CX P w) 5 F.a_neat F.d_neat ["laying"] (sp_neat K A) := by
  refine T.f_neat.okX sc_neat (fun vs H Q E h => ?_) (fun cdv Ar outer s H vs Q E hr h => ⟨t_neat K A E, ?_, r_neat h⟩)
  · first | (obtain ⟨_, rfl, _⟩ := h; rfl) | (obtain ⟨_, _, rfl, _⟩ := h; rfl) | (obtain ⟨_, _, _, rfl, _⟩ := h; rfl) | (obtain ⟨_, _, _, _, rfl, _⟩ := h; rfl) | (obtain ⟨_, _, _, _, _, rfl, _⟩ := h; rfl) | (obtain ⟨_, _, _, _, _, _, rfl, _⟩ := h; rfl) | (obtain ⟨_, _, _, _, _, _, _, rfl, _⟩ := h; rfl) | (obtain ⟨_, _, _, _, _, _, _, _, rfl, _⟩ := h; rfl)
  · exact (pss_one (ps_ret (pe_call (ok_laid T) (hr.mono (by decide)) rfl T.g_laid T.f_laid.kp T.b_laid .nil (passes_call (takes_of rfl rfl rfl rfl) (fun _ _ _ _ h => h)) (pa_cons (pe_call (ok_load_of T) (hr.mono (by decide)) rfl T.g_load_of T.f_load_of.kp T.b_load_of .nil (passes_call (takes_of rfl rfl rfl rfl) (fun _ _ _ _ h => h)) (pa_cons (pv 0) pa_nil)) pa_nil))))
theorem ok_heavier (T : Txt K mg A F) : FnOk P w K mg base (L2.CX P w) 5 F.a_heavier F.d_heavier ["one", "other"] (sp_heavier K A) := by
  refine T.f_heavier.okX sc_heavier (fun vs H Q E h => ?_) (fun cdv Ar outer s H vs Q E hr h => ⟨t_heavier K A E, ?_, r_heavier h⟩)
  · first | (obtain ⟨_, rfl, _⟩ := h; rfl) | (obtain ⟨_, _, rfl, _⟩ := h; rfl) | (obtain ⟨_, _, _, rfl, _⟩ := h; rfl) | (obtain ⟨_, _, _, _, rfl, _⟩ := h; rfl) | (obtain ⟨_, _, _, _, _, rfl, _⟩ := h; rfl) | (obtain ⟨_, _, _, _, _, _, rfl, _⟩ := h; rfl) | (obtain ⟨_, _, _, _, _, _, _, rfl, _⟩ := h; rfl) | (obtain ⟨_, _, _, _, _, _, _, _, rfl, _⟩ := h; rfl)
  · exact (pss_cons (ps_set (i := 2) sc_heavier.nd rfl (Or.inl rfl) (pe_call (ok_load_of T) (hr.mono (by decide)) rfl T.g_load_of T.f_load_of.kp T.b_load_of .nil (passes_call (takes_of rfl rfl rfl rfl) (fun _ _ _ _ h => h)) (pa_cons (pv 0) pa_nil)))
    (pss_cons (ps_set (i := 3) sc_heavier.nd rfl (Or.inl rfl) (pe_call (ok_load_of T) (hr.mono (by decide)) rfl T.g_load_of T.f_load_of.kp T.b_load_of .nil (passes_call (takes_of rfl rfl rfl rfl) (fun _ _ _ _ h => h)) (pa_cons (pv 1) pa_nil)))
    (pss_cons (ps_if (pt_cmpR op_gt (pv 2) (pv 3) (nomark _)) (pss_one (ps_ret pe_int)) pss_nil)
    (pss_cons (ps_if (pt_cmpR op_lt (pv 2) (pv 3) (nomark _)) (pss_one (ps_ret (pe_un un_neg pe_int))) pss_nil)
    (pss_one (ps_ret pe_int))))))
theorem ok_parted (T : Txt K mg A F) : FnOk P w K mg base (L2.CX P w) 5 F.a_parted F.d_parted ["laying", "place"] (sp_parted K A) := by
  refine T.f_parted.okX sc_parted (fun vs H Q E h => ?_) (fun cdv Ar outer s H vs Q E hr h => ⟨t_parted K A E, ?_, r_parted h⟩)
  · first | (obtain ⟨_, rfl, _⟩ := h; rfl) | (obtain ⟨_, _, rfl, _⟩ := h; rfl) | (obtain ⟨_, _, _, rfl, _⟩ := h; rfl) | (obtain ⟨_, _, _, _, rfl, _⟩ := h; rfl) | (obtain ⟨_, _, _, _, _, rfl, _⟩ := h; rfl) | (obtain ⟨_, _, _, _, _, _, rfl, _⟩ := h; rfl) | (obtain ⟨_, _, _, _, _, _, _, rfl, _⟩ := h; rfl) | (obtain ⟨_, _, _, _, _, _, _, _, rfl, _⟩ := h; rfl)
  · exact (pss_cons (ps_set (i := 2) sc_parted.nd rfl (Or.inl rfl) (pe_call (ok_good_laying T) (hr.mono (by decide)) rfl T.g_good_laying T.f_good_laying.kp T.b_good_laying .nil (passes_call (takes_of rfl rfl rfl rfl) (fun _ _ _ _ h => h)) (pa_cons (pv 0) pa_nil)))
    (pss_one (ps_ret (pe_tup (pa_cons (pe_call (ok_ended T) (hr.mono (by decide)) rfl T.g_ended T.f_ended.kp T.b_ended .nil (passes_call (takes_of rfl rfl rfl rfl) (fun _ _ _ _ h => h)) (pa_cons (pe_slice sl_list (pv 2) (po_some (pv 1)) po_none) pa_nil)) (pa_cons (pe_call (ok_ended T) (hr.mono (by decide)) rfl T.g_ended T.f_ended.kp T.b_ended .nil (passes_call (takes_of rfl rfl rfl rfl) (fun _ _ _ _ h => h)) (pa_cons (pe_slice sl_list (pv 2) po_none (po_some (pv 1))) pa_nil)) pa_nil))))))
theorem ok_l_cell_at (T : Txt K mg A F) : FnOk P w K mg base CX0 1 F.a_l_cell_at F.d_l_cell_at ["_law_script", "_law_k"] (sp_l_cell_at K A) := by
  refine T.f_l_cell_at.ok sc_l_cell_at (fun vs H Q E h => ?_) (fun cdv Ar outer s H vs Q E hr h => ⟨t_l_cell_at K A, ?_, r_l_cell_at h⟩)
  · first | (obtain ⟨_, rfl, _⟩ := h; rfl) | (obtain ⟨_, _, rfl, _⟩ := h; rfl) | (obtain ⟨_, _, _, rfl, _⟩ := h; rfl) | (obtain ⟨_, _, _, _, rfl, _⟩ := h; rfl) | (obtain ⟨_, _, _, _, _, rfl, _⟩ := h; rfl) | (obtain ⟨_, _, _, _, _, _, rfl, _⟩ := h; rfl) | (obtain ⟨_, _, _, _, _, _, _, rfl, _⟩ := h; rfl) | (obtain ⟨_, _, _, _, _, _, _, _, rfl, _⟩ := h; rfl)
  · exact (pss_cons (ps_if (pt_cmpR op_lt (pv 1) (pe_callB call_len_seq (by rfl) T.n_len (by decide +kernel) (pa_cons (pv 0) pa_nil)) (nomark _)) (pss_one (ps_ret (pe_ix ix_list (pv 0) (pv 1) (fun _ _ => rfl)))) pss_nil)
    (pss_one (ps_ret pe_int)))
theorem ok_l_whole (T : Txt K mg A F) : FnOk P w K mg base CX0 1 F.a_l_whole F.d_l_whole ["_law_found"] (sp_l_whole K A) := by
  refine T.f_l_whole.ok sc_l_whole (fun vs H Q E h => ?_) (fun cdv Ar outer s H vs Q E hr h => ⟨t_l_whole K A, ?_, r_l_whole h⟩)
  · first | (obtain ⟨_, rfl, _⟩ := h; rfl) | (obtain ⟨_, _, rfl, _⟩ := h; rfl) | (obtain ⟨_, _, _, rfl, _⟩ := h; rfl) | (obtain ⟨_, _, _, _, rfl, _⟩ := h; rfl) | (obtain ⟨_, _, _, _, _, rfl, _⟩ := h; rfl) | (obtain ⟨_, _, _, _, _, _, rfl, _⟩ := h; rfl) | (obtain ⟨_, _, _, _, _, _, _, rfl, _⟩ := h; rfl) | (obtain ⟨_, _, _, _, _, _, _, _, rfl, _⟩ := h; rfl)
  · exact (pss_one (ps_ret (pe_and (pe_callB call_isi (by rfl) T.n_isinstance (by decide +kernel) (pa_cons (pv 0) (pa_cons (pe_bltn (by rfl) T.n_int (by decide +kernel) rfl) pa_nil))) (pe_one (pe_not (pe_callB call_isi (by rfl) T.n_isinstance (by decide +kernel) (pa_cons (pv 0) (pa_cons (pe_bltn (by rfl) T.n_bool (by decide +kernel) rfl) pa_nil))))))))
theorem ok_l_load (T : Txt K mg A F) : FnOk P w K mg base CX0 1 F.a_l_load F.d_l_load ["_law_things"] (sp_l_load K A) := by
  refine T.f_l_load.ok sc_l_load (fun vs H Q E h => ?_) (fun cdv Ar outer s H vs Q E hr h => ⟨t_l_load K A, ?_, r_l_load h⟩)
  · first | (obtain ⟨_, rfl, _⟩ := h; rfl) | (obtain ⟨_, _, rfl, _⟩ := h; rfl) | (obtain ⟨_, _, _, rfl, _⟩ := h; rfl) | (obtain ⟨_, _, _, _, rfl, _⟩ := h; rfl) | (obtain ⟨_, _, _, _, _, rfl, _⟩ := h; rfl) | (obtain ⟨_, _, _, _, _, _, rfl, _⟩ := h; rfl) | (obtain ⟨_, _, _, _, _, _, _, rfl, _⟩ := h; rfl) | (obtain ⟨_, _, _, _, _, _, _, _, rfl, _⟩ := h; rfl)
  · exact (pss_cons (ps_set (i := 1) sc_l_load.nd rfl (Or.inl rfl) pe_int)
    (pss_cons (ps_for PassesOwn.never rfl (pi_reversed (by rfl) T.n_reversed (pa_cons (pv 0) pa_nil)) (pg_name (i := 2) sc_l_load.nd rfl (Or.inl rfl)) (pss_one (ps_set (i := 1) sc_l_load.nd rfl (Or.inl rfl) (pe_op op_add (pe_op op_mul pe_int (pv 1)) (pv 2)))))
    (pss_one (ps_ret (pv 1)))))
theorem ok_l_power (T : Txt K mg A F) : FnOk P w K mg base CX0 1 F.a_l_power F.d_l_power ["_law_k"] (sp_l_power K A) := by
  refine T.f_l_power.ok sc_l_power (fun vs H Q E h => ?_) (fun cdv Ar outer s H vs Q E hr h => ⟨t_l_power K A, ?_, r_l_power h⟩)
  · first | (obtain ⟨_, rfl, _⟩ := h; rfl) | (obtain ⟨_, _, rfl, _⟩ := h; rfl) | (obtain ⟨_, _, _, rfl, _⟩ := h; rfl) | (obtain ⟨_, _, _, _, rfl, _⟩ := h; rfl) | (obtain ⟨_, _, _, _, _, rfl, _⟩ := h; rfl) | (obtain ⟨_, _, _, _, _, _, rfl, _⟩ := h; rfl) | (obtain ⟨_, _, _, _, _, _, _, rfl, _⟩ := h; rfl) | (obtain ⟨_, _, _, _, _, _, _, _, rfl, _⟩ := h; rfl)
  · exact (pss_cons (ps_set (i := 1) sc_l_power.nd rfl (Or.inl rfl) pe_int)
    (pss_cons (ps_for PassesOwn.never rfl (pi_range1 (by rfl) T.n_range (pa_cons (pv 0) pa_nil)) (pg_name (i := 2) sc_l_power.nd rfl (Or.inl rfl)) (pss_one (ps_set (i := 1) sc_l_power.nd rfl (Or.inl rfl) (pe_op op_add (pv 1) (pv 1)))))
    (pss_one (ps_ret (pv 1)))))
theorem ok_l_ended (T : Txt K mg A F) : FnOk P w K mg base CX0 1 F.a_l_ended F.d_l_ended ["_law_things"] (sp_l_ended K A) := by
  refine T.f_l_ended.ok sc_l_ended (fun vs H Q E h => ?_) (fun cdv Ar outer s H vs Q E hr h => ⟨t_l_ended K A, ?_, r_l_ended h⟩)
  · first | (obtain ⟨_, rfl, _⟩ := h; rfl) | (obtain ⟨_, _, rfl, _⟩ := h; rfl) | (obtain ⟨_, _, _, rfl, _⟩ := h; rfl) | (obtain ⟨_, _, _, _, rfl, _⟩ := h; rfl) | (obtain ⟨_, _, _, _, _, rfl, _⟩ := h; rfl) | (obtain ⟨_, _, _, _, _, _, rfl, _⟩ := h; rfl) | (obtain ⟨_, _, _, _, _, _, _, rfl, _⟩ := h; rfl) | (obtain ⟨_, _, _, _, _, _, _, _, rfl, _⟩ := h; rfl)
  · exact (pss_cons (ps_set (i := 1) sc_l_ended.nd rfl (Or.inl rfl) pe_int)
    (pss_cons (ps_for PassesOwn.never rfl (pi_range1 (by rfl) T.n_range (pa_cons (pe_callB call_len_seq (by rfl) T.n_len (by decide +kernel) (pa_cons (pv 0) pa_nil)) pa_nil)) (pg_name (i := 2) sc_l_ended.nd rfl (Or.inl rfl)) (pss_one (ps_if (pt_cmpR op_ne (pe_ix ix_list (pv 0) (pv 2) (fun _ _ => rfl)) pe_int (nomark _)) (pss_one (ps_set (i := 1) sc_l_ended.nd rfl (Or.inl rfl) (pe_op op_add (pv 2) pe_int))) pss_nil)))
    (pss_one (ps_ret (pe_slice sl_list (pv 0) po_none (po_some (pv 1)))))))
theorem ok_l_alike (T : Txt K mg A F) : FnOk P w K mg base CX0 2 F.a_l_alike F.d_l_alike ["_law_found", "_law_due"] (sp_l_alike K A) := by
  refine T.f_l_alike.ok sc_l_alike (fun vs H Q E h => ?_) (fun cdv Ar outer s H vs Q E hr h => ⟨t_l_alike K A, ?_, r_l_alike h⟩)
  · first | (obtain ⟨_, rfl, _⟩ := h; rfl) | (obtain ⟨_, _, rfl, _⟩ := h; rfl) | (obtain ⟨_, _, _, rfl, _⟩ := h; rfl) | (obtain ⟨_, _, _, _, rfl, _⟩ := h; rfl) | (obtain ⟨_, _, _, _, _, rfl, _⟩ := h; rfl) | (obtain ⟨_, _, _, _, _, _, rfl, _⟩ := h; rfl) | (obtain ⟨_, _, _, _, _, _, _, rfl, _⟩ := h; rfl) | (obtain ⟨_, _, _, _, _, _, _, _, rfl, _⟩ := h; rfl)
  · exact (pss_cons (ps_if (PW.pt (pw_or (pt_not (pt_val (pe_callB call_isi (by rfl) T.n_isinstance (by decide +kernel) (pa_cons (pv 0) (pa_cons (pe_bltn (by rfl) T.n_list (by decide +kernel) rfl) pa_nil))))) (pw_or1 (pt_cmpR op_ne (pe_callB call_len_seq (by rfl) T.n_len (by decide +kernel) (pa_cons (pv 0) pa_nil)) (pe_callB call_len_seq (by rfl) T.n_len (by decide +kernel) (pa_cons (pv 1) pa_nil)) (nomark _))))) (pss_one (ps_ret pe_bl)) pss_nil)
    (pss_cons (ps_for PassesOwn.never rfl (pi_range1 (by rfl) T.n_range (pa_cons (pe_callB call_len_seq (by rfl) T.n_len (by decide +kernel) (pa_cons (pv 1) pa_nil)) pa_nil)) (pg_name (i := 2) sc_l_alike.nd rfl (Or.inl rfl)) (pss_one (ps_if (PW.pt (pw_or (pt_not (pt_val (pe_call (ok_l_whole T) (hr.mono (by decide)) rfl T.g_l_whole T.f_l_whole.kp T.b_l_whole .nil pass0 (pa_cons (pe_ix ix_list (pv 0) (pv 2) (fun _ _ => rfl)) pa_nil)))) (pw_or1 (pt_cmpR op_ne (pe_ix ix_list (pv 0) (pv 2) (fun _ _ => rfl)) (pe_ix ix_list (pv 1) (pv 2) (fun _ _ => rfl)) (nomark _))))) (pss_one (ps_ret pe_bl)) pss_nil)))
    (pss_one (ps_ret pe_bl))))
theorem ok_l_apart (T : Txt K mg A F) : FnOk P w K mg base CX0 1 F.a_l_apart F.d_l_apart ["_law_things"] (sp_l_apart K A) := by
  refine T.f_l_apart.ok sc_l_apart (fun vs H Q E h => ?_) (fun cdv Ar outer s H vs Q E hr h => ⟨t_l_apart K A, ?_, r_l_apart h⟩)
  · first | (obtain ⟨_, rfl, _⟩ := h; rfl) | (obtain ⟨_, _, rfl, _⟩ := h; rfl) | (obtain ⟨_, _, _, rfl, _⟩ := h; rfl) | (obtain ⟨_, _, _, _, rfl, _⟩ := h; rfl) | (obtain ⟨_, _, _, _, _, rfl, _⟩ := h; rfl) | (obtain ⟨_, _, _, _, _, _, rfl, _⟩ := h; rfl) | (obtain ⟨_, _, _, _, _, _, _, rfl, _⟩ := h; rfl) | (obtain ⟨_, _, _, _, _, _, _, _, rfl, _⟩ := h; rfl)
  · exact (pss_cons (ps_for PassesOwn.never rfl (pi_range2 (by rfl) T.n_range (pa_cons pe_int (pa_cons (pe_callB call_len_seq (by rfl) T.n_len (by decide +kernel) (pa_cons (pv 0) pa_nil)) pa_nil))) (pg_name (i := 1) sc_l_apart.nd rfl (Or.inl rfl)) (pss_one (ps_if (PW.pt (pw_and (pt_cmpR op_ne (pe_ix ix_list (pv 0) (pv 1) (fun _ _ => rfl)) pe_int (nomark _)) (pw_and1 (pt_cmpR op_ne (pe_ix ix_list (pv 0) (pe_op op_sub (pv 1) pe_int) (fun _ _ => rfl)) pe_int (nomark _))))) (pss_one (ps_ret pe_bl)) pss_nil)))
    (pss_one (ps_ret (pe_or (pe_cmpR (op_eqD hr.units) (pv 0) (pe_lst pa_nil) (nomark _)) (pe_one (pe_cmpR op_ne (pe_ix ix_list (pv 0) (pe_un un_neg pe_int) (fun _ _ => rfl)) pe_int (nomark _)))))))
theorem ok_l_parted (T : Txt K mg A F) : FnOk P w K mg base CX0 3 F.a_l_parted F.d_l_parted ["_law_found", "_law_things", "_law_place"] (sp_l_parted K A) := by
  refine T.f_l_parted.ok sc_l_parted (fun vs H Q E h => ?_) (fun cdv Ar outer s H vs Q E hr h => ⟨t_l_parted K A, ?_, r_l_parted h⟩)
  · first | (obtain ⟨_, rfl, _⟩ := h; rfl) | (obtain ⟨_, _, rfl, _⟩ := h; rfl) | (obtain ⟨_, _, _, rfl, _⟩ := h; rfl) | (obtain ⟨_, _, _, _, rfl, _⟩ := h; rfl) | (obtain ⟨_, _, _, _, _, rfl, _⟩ := h; rfl) | (obtain ⟨_, _, _, _, _, _, rfl, _⟩ := h; rfl) | (obtain ⟨_, _, _, _, _, _, _, rfl, _⟩ := h; rfl) | (obtain ⟨_, _, _, _, _, _, _, _, rfl, _⟩ := h; rfl)
  · exact (pss_cons (ps_if (PW.pt (pw_or (pt_not (pt_val (pe_callB call_isi (by rfl) T.n_isinstance (by decide +kernel) (pa_cons (pv 0) (pa_cons (pe_bltn (by rfl) T.n_tuple (by decide +kernel) rfl) pa_nil))))) (pw_or1 (pt_cmpR op_ne (pe_callB call_len_seq (by rfl) T.n_len (by decide +kernel) (pa_cons (pv 0) pa_nil)) pe_int (nomark _))))) (pss_one (ps_ret pe_bl)) pss_nil)
    (pss_one (ps_ret (pe_and (pe_call (ok_l_alike T) (hr.mono (by decide)) rfl T.g_l_alike T.f_l_alike.kp T.b_l_alike .nil pass0 (pa_cons (pe_ix ix_tup (pv 0) pe_int (fun _ _ => rfl)) (pa_cons (pe_call (ok_l_ended T) (hr.mono (by decide)) rfl T.g_l_ended T.f_l_ended.kp T.b_l_ended .nil pass0 (pa_cons (pe_slice sl_list (pv 1) (po_some (pv 2)) po_none) pa_nil)) pa_nil))) (pe_one (pe_call (ok_l_alike T) (hr.mono (by decide)) rfl T.g_l_alike T.f_l_alike.kp T.b_l_alike .nil pass0 (pa_cons (pe_ix ix_tup (pv 0) pe_int (fun _ _ => rfl)) (pa_cons (pe_call (ok_l_ended T) (hr.mono (by decide)) rfl T.g_l_ended T.f_l_ended.kp T.b_l_ended .nil pass0 (pa_cons (pe_slice sl_list (pv 1) po_none (po_some (pv 2))) pa_nil)) pa_nil))))))))
theorem ok_l_parts (T : Txt K mg A F) : FnOk P w K mg base CX0 6 F.a_l_parts F.d_l_parts ["_law_handed", "_law_place"] (sp_l_parts K A) := by
  refine T.f_l_parts.ok sc_l_parts (fun vs H Q E h => ?_) (fun cdv Ar outer s H vs Q E hr h => ⟨t_l_parts K A, ?_, r_l_parts h⟩)
  · first | (obtain ⟨_, rfl, _⟩ := h; rfl) | (obtain ⟨_, _, rfl, _⟩ := h; rfl) | (obtain ⟨_, _, _, rfl, _⟩ := h; rfl) | (obtain ⟨_, _, _, _, rfl, _⟩ := h; rfl) | (obtain ⟨_, _, _, _, _, rfl, _⟩ := h; rfl) | (obtain ⟨_, _, _, _, _, _, rfl, _⟩ := h; rfl) | (obtain ⟨_, _, _, _, _, _, _, rfl, _⟩ := h; rfl) | (obtain ⟨_, _, _, _, _, _, _, _, rfl, _⟩ := h; rfl)
  · exact (pss_cons (ps_set (i := 2) sc_l_parts.nd rfl (Or.inl rfl) (pe_callTy call_list_of (by rfl) T.n_list (by decide +kernel) (pa_cons (pv 0) pa_nil)))
    (pss_cons (ps_set (i := 3) sc_l_parts.nd rfl (Or.inl rfl) (pe_call (ok_parted T) (hr.mono (by decide)) rfl T.g_parted T.f_parted.kp T.b_parted .nil passL (pa_cons (pv 0) (pa_cons (pv 1) pa_nil))))
    (pss_cons (ps_if (PW.pt (pw_or (pt_not (pt_val (pe_call (ok_l_parted T) (hr.mono (by decide)) rfl T.g_l_parted T.f_l_parted.kp T.b_l_parted .nil pass0 (pa_cons (pv 3) (pa_cons (pv 2) (pa_cons (pv 1) pa_nil)))))) (pw_or1 (pt_not (pt_val (pe_call (ok_l_alike T) (hr.mono (by decide)) rfl T.g_l_alike T.f_l_alike.kp T.b_l_alike .nil pass0 (pa_cons (pv 0) (pa_cons (pv 2) pa_nil)))))))) (pss_one (ps_ret pe_bl)) pss_nil)
    (pss_cons (ps_set (i := 4) sc_l_parts.nd rfl (Or.inl rfl) (pe_call (ok_neat T) (hr.mono (by decide)) rfl T.g_neat T.f_neat.kp T.b_neat .nil passL (pa_cons (pv 0) pa_nil)))
    (pss_cons (ps_set (i := 5) sc_l_parts.nd rfl (Or.inl rfl) (pe_call (ok_parted T) (hr.mono (by decide)) rfl T.g_parted T.f_parted.kp T.b_parted .nil passL (pa_cons (pv 4) (pa_cons (pv 1) pa_nil))))
    (pss_cons (ps_if (pt_not (pt_val (pe_call (ok_l_parted T) (hr.mono (by decide)) rfl T.g_l_parted T.f_l_parted.kp T.b_l_parted .nil pass0 (pa_cons (pv 5) (pa_cons (pv 4) (pa_cons (pv 1) pa_nil)))))) (pss_one (ps_ret pe_bl)) pss_nil)
    (pss_cons (ps_set (i := 6) sc_l_parts.nd rfl (Or.inl rfl) (pe_call (ok_load_of T) (hr.mono (by decide)) rfl T.g_load_of T.f_load_of.kp T.b_load_of .nil passL (pa_cons (pe_ix ix_tup (pv 5) pe_int (fun _ _ => rfl)) pa_nil)))
    (pss_cons (ps_if (pt_cmpR op_ne (pe_op op_add (pe_op op_mulW (pe_call (ok_load_of T) (hr.mono (by decide)) rfl T.g_load_of T.f_load_of.kp T.b_load_of .nil passL (pa_cons (pe_ix ix_tup (pv 5) pe_int (fun _ _ => rfl)) pa_nil)) (pe_call (ok_l_power T) (hr.mono (by decide)) rfl T.g_l_power T.f_l_power.kp T.b_l_power .nil pass0 (pa_cons (pv 1) pa_nil))) (pv 6)) (pe_call (ok_l_load T) (hr.mono (by decide)) rfl T.g_l_load T.f_l_load.kp T.b_l_load .nil pass0 (pa_cons (pv 2) pa_nil)) (nomark _)) (pss_one (ps_ret pe_bl)) pss_nil)
    (pss_cons (ps_if (PW.pt (pw_or (pt_not (pt_val (pe_call (ok_l_apart T) (hr.mono (by decide)) rfl T.g_l_apart T.f_l_apart.kp T.b_l_apart .nil pass0 (pa_cons (pe_ix ix_tup (pv 5) pe_int (fun _ _ => rfl)) pa_nil)))) (pw_or1 (pt_not (pt_val (pe_call (ok_l_apart T) (hr.mono (by decide)) rfl T.g_l_apart T.f_l_apart.kp T.b_l_apart .nil pass0 (pa_cons (pe_ix ix_tup (pv 5) pe_int (fun _ _ => rfl)) pa_nil))))))) (pss_one (ps_ret pe_bl)) pss_nil)
    (pss_one (ps_ret (pe_cmpR op_lt (pe_op op_mul pe_int (pe_callB call_abs (by rfl) T.n_abs (by decide +kernel) (pa_cons (pv 6) pa_nil))) (pe_call (ok_l_power T) (hr.mono (by decide)) rfl T.g_l_power T.f_l_power.kp T.b_l_power .nil pass0 (pa_cons (pe_op op_add (pv 1) pe_int) pa_nil)) (nomark _)))))))))))))
theorem ok_l_order (T : Txt K mg A F) : FnOk P w K mg base CX0 6 F.a_l_order F.d_l_order ["_law_one", "_law_other"] (sp_l_order K A) := by
  refine T.f_l_order.ok sc_l_order (fun vs H Q E h => ?_) (fun cdv Ar outer s H vs Q E hr h => ⟨t_l_order K A, ?_, r_l_order h⟩)
  · first | (obtain ⟨_, rfl, _⟩ := h; rfl) | (obtain ⟨_, _, rfl, _⟩ := h; rfl) | (obtain ⟨_, _, _, rfl, _⟩ := h; rfl) | (obtain ⟨_, _, _, _, rfl, _⟩ := h; rfl) | (obtain ⟨_, _, _, _, _, rfl, _⟩ := h; rfl) | (obtain ⟨_, _, _, _, _, _, rfl, _⟩ := h; rfl) | (obtain ⟨_, _, _, _, _, _, _, rfl, _⟩ := h; rfl) | (obtain ⟨_, _, _, _, _, _, _, _, rfl, _⟩ := h; rfl)
  · exact (pss_cons (ps_set (i := 2) sc_l_order.nd rfl (Or.inl rfl) (pe_lst (pa_cons (pe_callTy call_list_of (by rfl) T.n_list (by decide +kernel) (pa_cons (pv 0) pa_nil)) (pa_cons (pe_callTy call_list_of (by rfl) T.n_list (by decide +kernel) (pa_cons (pv 1) pa_nil)) pa_nil))))
    (pss_cons (ps_set (i := 3) sc_l_order.nd rfl (Or.inl rfl) (pe_call (ok_l_load T) (hr.mono (by decide)) rfl T.g_l_load T.f_l_load.kp T.b_l_load .nil pass0 (pa_cons (pv 0) pa_nil)))
    (pss_cons (ps_set (i := 4) sc_l_order.nd rfl (Or.inl rfl) (pe_call (ok_l_load T) (hr.mono (by decide)) rfl T.g_l_load T.f_l_load.kp T.b_l_load .nil pass0 (pa_cons (pv 1) pa_nil)))
    (pss_cons (ps_set (i := 5) sc_l_order.nd rfl (Or.inl rfl) (pe_op op_sub (pe_callTy call_int1 (by rfl) T.n_int (by decide +kernel) (pa_cons (pe_cmpR op_gt (pv 3) (pv 4) (nomark _)) pa_nil)) (pe_callTy call_int1 (by rfl) T.n_int (by decide +kernel) (pa_cons (pe_cmpR op_lt (pv 3) (pv 4) (nomark _)) pa_nil))))
    (pss_cons (ps_set (i := 6) sc_l_order.nd rfl (Or.inl rfl) (pe_call (ok_heavier T) (hr.mono (by decide)) rfl T.g_heavier T.f_heavier.kp T.b_heavier .nil passL (pa_cons (pv 0) (pa_cons (pv 1) pa_nil))))
    (pss_cons (ps_set (i := 7) sc_l_order.nd rfl (Or.inl rfl) (pe_call (ok_heavier T) (hr.mono (by decide)) rfl T.g_heavier T.f_heavier.kp T.b_heavier .nil passL (pa_cons (pv 1) (pa_cons (pv 0) pa_nil))))
    (pss_cons (ps_if (PW.pt (pw_or (pt_not (pt_val (pe_call (ok_l_whole T) (hr.mono (by decide)) rfl T.g_l_whole T.f_l_whole.kp T.b_l_whole .nil pass0 (pa_cons (pv 6) pa_nil)))) (pw_or (pt_cmpR op_ne (pv 6) (pv 5) (nomark _)) (pw_or (pt_not (pt_val (pe_call (ok_l_whole T) (hr.mono (by decide)) rfl T.g_l_whole T.f_l_whole.kp T.b_l_whole .nil pass0 (pa_cons (pv 7) pa_nil)))) (pw_or1 (pt_cmpR op_ne (pe_op op_add (pv 7) (pv 5)) pe_int (nomark _))))))) (pss_one (ps_ret pe_bl)) pss_nil)
    (pss_one (ps_ret (pe_cmpR (op_eqD hr.units) (pe_lst (pa_cons (pv 0) (pa_cons (pv 1) pa_nil))) (pv 2) (nomark _)))))))))))
theorem ok_law (T : Txt K mg A F) : FnOk P w K mg base CX0 7 F.a_law F.d_law ["_law_script"] (sp_law K A) := by
  refine T.f_law.ok sc_law (fun vs H Q E h => ?_) (fun cdv Ar outer s H vs Q E hr h => ⟨t_law K A, ?_, r_law h⟩)
  · first | (obtain ⟨_, rfl, _⟩ := h; rfl) | (obtain ⟨_, _, rfl, _⟩ := h; rfl) | (obtain ⟨_, _, _, rfl, _⟩ := h; rfl) | (obtain ⟨_, _, _, _, rfl, _⟩ := h; rfl) | (obtain ⟨_, _, _, _, _, rfl, _⟩ := h; rfl) | (obtain ⟨_, _, _, _, _, _, rfl, _⟩ := h; rfl) | (obtain ⟨_, _, _, _, _, _, _, rfl, _⟩ := h; rfl) | (obtain ⟨_, _, _, _, _, _, _, _, rfl, _⟩ := h; rfl)
  · exact (pss_cons (ps_setLc (i := 2) (own := [("_law_cell", 1)]) (g := gName 1) (tt := tYes) (by rfl) sc_law.nd rfl rfl (sw_true rfl rfl rfl (by decide +kernel)) (pi_list (pe_slice sl_list (pv 0) po_none (po_some pe_int))) (blkOk_by (own := [("_law_cell", 1)]) (N := n_law) (sc := defScope s_law) (by decide +kernel)) (fun _ _ _ _ _ => pg_name (i := 1) sc_law.nd rfl (Or.inl rfl)) (fun _ _ _ _ _ => pts_nil) (fun _ _ _ _ _ => (pe_op op_sub (pe_op op_mod (pv 1) pe_int) pe_int)))
    (pss_cons (ps_set (i := 1) sc_law.nd rfl (Or.inl rfl) (pe_op op_fdiv (pe_call (ok_l_cell_at T) (hr.mono (by decide)) rfl T.g_l_cell_at T.f_l_cell_at.kp T.b_l_cell_at .nil pass0 (pa_cons (pv 0) (pa_cons pe_int pa_nil))) pe_int))
    (pss_cons (ps_if (pt_cmpR op_eq (pe_op op_mod (pv 1) pe_int) pe_int (nomark _)) (pss_one (ps_set (i := 2) sc_law.nd rfl (Or.inl rfl) (pe_op op_cat (pe_op op_rep (pe_lst (pa_cons pe_int pa_nil)) (pe_op op_mod (pe_op op_fdiv (pv 1) pe_int) pe_int)) (pv 2)))) pss_nil)
    (pss_cons (ps_set (i := 3) sc_law.nd rfl (Or.inl rfl) (pe_op op_fdiv (pe_call (ok_l_cell_at T) (hr.mono (by decide)) rfl T.g_l_cell_at T.f_l_cell_at.kp T.b_l_cell_at .nil pass0 (pa_cons (pv 0) (pa_cons pe_int pa_nil))) pe_int))
    (pss_cons (ps_set (i := 4) sc_law.nd rfl (Or.inl rfl) (pe_op op_mod (pe_op op_fdiv (pv 3) pe_int) (pe_ix ix_list (pe_lst (pa_cons pe_int (pa_cons (pe_op op_add (pe_callB call_len_seq (by rfl) T.n_len (by decide +kernel) (pa_cons (pv 2) pa_nil)) pe_int) pa_nil))) (pe_op op_mod (pv 3) pe_int) (fun _ _ => rfl))))
    (pss_cons (ps_set (i := 5) sc_law.nd rfl (Or.inl rfl) (pe_callTy call_list_of (by rfl) T.n_list (by decide +kernel) (pa_cons (pv 2) pa_nil)))
    (pss_cons (ps_set (i := 6) sc_law.nd rfl (Or.inl rfl) (pe_call (ok_parted T) (hr.mono (by decide)) rfl T.g_parted T.f_parted.kp T.b_parted .nil passL (pa_cons (pv 5) (pa_cons (pv 4) pa_nil))))
    (pss_cons (ps_if (PW.pt (pw_or (pt_not (pt_val (pe_call (ok_l_parted T) (hr.mono (by decide)) rfl T.g_l_parted T.f_l_parted.kp T.b_l_parted .nil pass0 (pa_cons (pv 6) (pa_cons (pv 2) (pa_cons (pv 4) pa_nil)))))) (pw_or1 (pt_not (pt_val (pe_call (ok_l_parts T) (hr.mono (by decide)) rfl T.g_l_parts T.f_l_parts.kp T.b_l_parts .nil pass0 (pa_cons (pv 5) (pa_cons (pv 4) pa_nil)))))))) (pss_one (ps_ret pe_bl)) pss_nil)
    (pss_cons (ps_expr (pe_bm PySem.F.plainAttrs_list PySem.F.slot_list_append PySem.F.type_list_append mt_append (pv 5) (pa_cons pe_int pa_nil)))
    (pss_cons (ps_if (pt_not (pt_val (pe_call (ok_l_parts T) (hr.mono (by decide)) rfl T.g_l_parts T.f_l_parts.kp T.b_l_parts .nil pass0 (pa_cons (pv 5) (pa_cons (pv 4) pa_nil))))) (pss_one (ps_ret pe_bl)) pss_nil)
    (pss_cons (ps_if (pt_not (pt_val (pe_call (ok_l_parted T) (hr.mono (by decide)) rfl T.g_l_parted T.f_l_parted.kp T.b_l_parted .nil pass0 (pa_cons (pv 6) (pa_cons (pv 2) (pa_cons (pv 4) pa_nil)))))) (pss_one (ps_ret pe_bl)) pss_nil)
    (pss_cons (ps_set (i := 7) sc_law.nd rfl (Or.inl rfl) (pe_callTy call_list_of (by rfl) T.n_list (by decide +kernel) (pa_cons (pe_ix ix_tup (pv 6) pe_int (fun _ _ => rfl)) pa_nil)))
    (pss_cons (ps_expr (pe_bm PySem.F.plainAttrs_list PySem.F.slot_list_append PySem.F.type_list_append mt_append (pe_ix ix_tup (pv 6) pe_int (fun _ _ => rfl)) (pa_cons pe_int pa_nil)))
    (pss_cons (ps_if (pt_cmpR (op_neD hr.units) (pe_ix ix_tup (pv 6) pe_int (fun _ _ => rfl)) (pv 7) (nomark _)) (pss_one (ps_ret pe_bl)) pss_nil)
    (pss_cons (ps_set (i := 8) sc_law.nd rfl (Or.inl rfl) (pe_op op_mod (pe_op op_fdiv (pe_call (ok_l_cell_at T) (hr.mono (by decide)) rfl T.g_l_cell_at T.f_l_cell_at.kp T.b_l_cell_at .nil pass0 (pa_cons (pv 0) (pa_cons pe_int pa_nil))) pe_int) (pe_op op_add (pe_callB call_len_seq (by rfl) T.n_len (by decide +kernel) (pa_cons (pv 2) pa_nil)) pe_int)))
    (pss_cons (ps_if (PW.pt (pw_or (pt_not (pt_val (pe_call (ok_l_order T) (hr.mono (by decide)) rfl T.g_l_order T.f_l_order.kp T.b_l_order .nil pass0 (pa_cons (pe_slice sl_list (pv 2) po_none (po_some (pv 8))) (pa_cons (pe_slice sl_list (pv 2) (po_some (pv 8)) po_none) pa_nil))))) (pw_or1 (pt_not (pt_val (pe_call (ok_l_order T) (hr.mono (by decide)) rfl T.g_l_order T.f_l_order.kp T.b_l_order .nil pass0 (pa_cons (pv 2) (pa_cons (pv 2) pa_nil)))))))) (pss_one (ps_ret pe_bl)) pss_nil)
    (pss_cons (ps_if (pt_not (pt_val (pe_call (ok_l_order T) (hr.mono (by decide)) rfl T.g_l_order T.f_l_order.kp T.b_l_order .nil pass0 (pa_cons (pv 5) (pa_cons (pe_op op_cat (pv 2) (pe_lst (pa_cons (pe_un un_neg pe_int) (pa_cons pe_int pa_nil)))) pa_nil))))) (pss_one (ps_ret pe_bl)) pss_nil)
    (pss_cons (ps_set (i := 9) sc_law.nd rfl (Or.inl rfl) (pe_op op_mod (pe_op op_fdiv (pe_call (ok_l_cell_at T) (hr.mono (by decide)) rfl T.g_l_cell_at T.f_l_cell_at.kp T.b_l_cell_at .nil pass0 (pa_cons (pv 0) (pa_cons pe_int pa_nil))) pe_int) (pe_callB call_len_seq (by rfl) T.n_len (by decide +kernel) (pa_cons (pv 5) pa_nil))))
    (pss_cons (ps_set (i := 10) sc_law.nd rfl (Or.inl rfl) (pe_callTy call_list_of (by rfl) T.n_list (by decide +kernel) (pa_cons (pv 5) pa_nil)))
    (pss_cons (ps_asg (pe_op op_sub (pe_op op_mod (pe_op op_fdiv (pe_call (ok_l_cell_at T) (hr.mono (by decide)) rfl T.g_l_cell_at T.f_l_cell_at.kp T.b_l_cell_at .nil pass0 (pa_cons (pv 0) (pa_cons pe_int pa_nil))) pe_int) pe_int) pe_int) (pg_sub (pv 10) (pv 9) set_list))
    (pss_cons (ps_if (pt_not (pt_val (pe_call (ok_l_order T) (hr.mono (by decide)) rfl T.g_l_order T.f_l_order.kp T.b_l_order .nil pass0 (pa_cons (pv 10) (pa_cons (pv 5) pa_nil))))) (pss_one (ps_ret pe_bl)) pss_nil)
    (pss_cons (ps_asg pe_int (pg_sub (pv 5) (pv 9) set_list))
    (pss_one (ps_ret (pe_call (ok_l_order T) (hr.mono (by decide)) rfl T.g_l_order T.f_l_order.kp T.b_l_order .nil pass0 (pa_cons (pv 10) (pa_cons (pv 5) pa_nil)))))))))))))))))))))))))))
end
theorem all_mk {l : PySem.W.OpenLaw} {w : World} {K : PySem.W.Frag} {h : Heap} {mg : Str → Option Value} {fa : Addr} (X : K.In h) (G : h.Ns mainGlobals mg) (hfa : mg "law" = some (.ref fa))
    {f0 : Addr} {od0 an0 : Option Addr} {sl0 : Array (Option Value)} {oc0 kV0 dc0 pm0 cd0 ct0 : Value}
    (a0 : PySem.W.nsIn K mainGlobals "is_whole" = some (some (.ref f0)))
    (l0 : K.lookup f0 = some ⟨oc0, od0, .func (PySem.W.fnOf "is_whole" "is_whole" (defArgs s_is_whole) (defBody s_is_whole) (defScope s_is_whole) .none kV0 dc0 pm0 an0 cd0 ct0), sl0⟩)
    (c0 : PySem.W.codeIn K cd0 "is_whole" = true) (k0 : PySem.W.keepIn K (.ref f0) = true)
    {f1 : Addr} {od1 an1 : Option Addr} {sl1 : Array (Option Value)} {oc1 kV1 dc1 pm1 cd1 ct1 : Value}
    (a1 : PySem.W.nsIn K mainGlobals "is_laying" = some (some (.ref f1)))
    (l1 : K.lookup f1 = some ⟨oc1, od1, .func (PySem.W.fnOf "is_laying" "is_laying" (defArgs s_is_laying) (defBody s_is_laying) (defScope s_is_laying) .none kV1 dc1 pm1 an1 cd1 ct1), sl1⟩)
    (c1 : PySem.W.codeIn K cd1 "is_laying" = true) (k1 : PySem.W.keepIn K (.ref f1) = true)
    {f2 : Addr} {od2 an2 : Option Addr} {sl2 : Array (Option Value)} {oc2 kV2 dc2 pm2 cd2 ct2 : Value}
    (a2 : PySem.W.nsIn K mainGlobals "good_laying" = some (some (.ref f2)))
    (l2 : K.lookup f2 = some ⟨oc2, od2, .func (PySem.W.fnOf "good_laying" "good_laying" (defArgs s_good_laying) (defBody s_good_laying) (defScope s_good_laying) .none kV2 dc2 pm2 an2 cd2 ct2), sl2⟩)
    (c2 : PySem.W.codeIn K cd2 "good_laying" = true) (k2 : PySem.W.keepIn K (.ref f2) = true)
    {f3 : Addr} {od3 an3 : Option Addr} {sl3 : Array (Option Value)} {oc3 kV3 dc3 pm3 cd3 ct3 : Value}
    (a3 : PySem.W.nsIn K mainGlobals "good_load" = some (some (.ref f3)))
    (l3 : K.lookup f3 = some ⟨oc3, od3, .func (PySem.W.fnOf "good_load" "good_load" (defArgs s_good_load) (defBody s_good_load) (defScope s_good_load) .none kV3 dc3 pm3 an3 cd3 ct3), sl3⟩)
    (c3 : PySem.W.codeIn K cd3 "good_load" = true) (k3 : PySem.W.keepIn K (.ref f3) = true)
    {f4 : Addr} {od4 an4 : Option Addr} {sl4 : Array (Option Value)} {oc4 kV4 dc4 pm4 cd4 ct4 : Value}
    (a4 : PySem.W.nsIn K mainGlobals "load_of" = some (some (.ref f4)))
    (l4 : K.lookup f4 = some ⟨oc4, od4, .func (PySem.W.fnOf "load_of" "load_of" (defArgs s_load_of) (defBody s_load_of) (defScope s_load_of) .none kV4 dc4 pm4 an4 cd4 ct4), sl4⟩)
    (c4 : PySem.W.codeIn K cd4 "load_of" = true) (k4 : PySem.W.keepIn K (.ref f4) = true)
    {f5 : Addr} {od5 an5 : Option Addr} {sl5 : Array (Option Value)} {oc5 kV5 dc5 pm5 cd5 ct5 : Value}
    (a5 : PySem.W.nsIn K mainGlobals "ended" = some (some (.ref f5)))
    (l5 : K.lookup f5 = some ⟨oc5, od5, .func (PySem.W.fnOf "ended" "ended" (defArgs s_ended) (defBody s_ended) (defScope s_ended) .none kV5 dc5 pm5 an5 cd5 ct5), sl5⟩)
    (c5 : PySem.W.codeIn K cd5 "ended" = true) (k5 : PySem.W.keepIn K (.ref f5) = true)
    {f6 : Addr} {od6 an6 : Option Addr} {sl6 : Array (Option Value)} {oc6 kV6 dc6 pm6 cd6 ct6 : Value}
    (a6 : PySem.W.nsIn K mainGlobals "laid" = some (some (.ref f6)))
    (l6 : K.lookup f6 = some ⟨oc6, od6, .func (PySem.W.fnOf "laid" "laid" (defArgs s_laid) (defBody s_laid) (defScope s_laid) .none kV6 dc6 pm6 an6 cd6 ct6), sl6⟩)
    (c6 : PySem.W.codeIn K cd6 "laid" = true) (k6 : PySem.W.keepIn K (.ref f6) = true)
    {f7 : Addr} {od7 an7 : Option Addr} {sl7 : Array (Option Value)} {oc7 kV7 dc7 pm7 cd7 ct7 : Value}
    (a7 : PySem.W.nsIn K mainGlobals "neat" = some (some (.ref f7)))
    (l7 : K.lookup f7 = some ⟨oc7, od7, .func (PySem.W.fnOf "neat" "neat" (defArgs s_neat) (defBody s_neat) (defScope s_neat) .none kV7 dc7 pm7 an7 cd7 ct7), sl7⟩)
    (c7 : PySem.W.codeIn K cd7 "neat" = true) (k7 : PySem.W.keepIn K (.ref f7) = true)
    {f8 : Addr} {od8 an8 : Option Addr} {sl8 : Array (Option Value)} {oc8 kV8 dc8 pm8 cd8 ct8 : Value}
    (a8 : PySem.W.nsIn K mainGlobals "heavier" = some (some (.ref f8)))
    (l8 : K.lookup f8 = some ⟨oc8, od8, .func (PySem.W.fnOf "heavier" "heavier" (defArgs s_heavier) (defBody s_heavier) (defScope s_heavier) .none kV8 dc8 pm8 an8 cd8 ct8), sl8⟩)
    (c8 : PySem.W.codeIn K cd8 "heavier" = true) (k8 : PySem.W.keepIn K (.ref f8) = true)
    {f9 : Addr} {od9 an9 : Option Addr} {sl9 : Array (Option Value)} {oc9 kV9 dc9 pm9 cd9 ct9 : Value}
    (a9 : PySem.W.nsIn K mainGlobals "parted" = some (some (.ref f9)))
    (l9 : K.lookup f9 = some ⟨oc9, od9, .func (PySem.W.fnOf "parted" "parted" (defArgs s_parted) (defBody s_parted) (defScope s_parted) .none kV9 dc9 pm9 an9 cd9 ct9), sl9⟩)
    (c9 : PySem.W.codeIn K cd9 "parted" = true) (k9 : PySem.W.keepIn K (.ref f9) = true)
    {f10 : Addr} {od10 an10 : Option Addr} {sl10 : Array (Option Value)} {oc10 kV10 dc10 pm10 cd10 ct10 : Value}
    (a10 : PySem.W.nsIn K mainGlobals "_law_cell_at" = some (some (.ref f10)))
    (l10 : K.lookup f10 = some ⟨oc10, od10, .func (PySem.W.fnOf "_law_cell_at" "_law_cell_at" (defArgs s_l_cell_at) (defBody s_l_cell_at) (defScope s_l_cell_at) .none kV10 dc10 pm10 an10 cd10 ct10), sl10⟩)
    (c10 : PySem.W.codeIn K cd10 "_law_cell_at" = true) (k10 : PySem.W.keepIn K (.ref f10) = true)
    {f11 : Addr} {od11 an11 : Option Addr} {sl11 : Array (Option Value)} {oc11 kV11 dc11 pm11 cd11 ct11 : Value}
    (a11 : PySem.W.nsIn K mainGlobals "_law_whole" = some (some (.ref f11)))
    (l11 : K.lookup f11 = some ⟨oc11, od11, .func (PySem.W.fnOf "_law_whole" "_law_whole" (defArgs s_l_whole) (defBody s_l_whole) (defScope s_l_whole) .none kV11 dc11 pm11 an11 cd11 ct11), sl11⟩)
    (c11 : PySem.W.codeIn K cd11 "_law_whole" = true) (k11 : PySem.W.keepIn K (.ref f11) = true)
    {f12 : Addr} {od12 an12 : Option Addr} {sl12 : Array (Option Value)} {oc12 kV12 dc12 pm12 cd12 ct12 : Value}
    (a12 : PySem.W.nsIn K mainGlobals "_law_load" = some (some (.ref f12)))
    (l12 : K.lookup f12 = some ⟨oc12, od12, .func (PySem.W.fnOf "_law_load" "_law_load" (defArgs s_l_load) (defBody s_l_load) (defScope s_l_load) .none kV12 dc12 pm12 an12 cd12 ct12), sl12⟩)
    (c12 : PySem.W.codeIn K cd12 "_law_load" = true) (k12 : PySem.W.keepIn K (.ref f12) = true)
    {f13 : Addr} {od13 an13 : Option Addr} {sl13 : Array (Option Value)} {oc13 kV13 dc13 pm13 cd13 ct13 : Value}
    (a13 : PySem.W.nsIn K mainGlobals "_law_power" = some (some (.ref f13)))
    (l13 : K.lookup f13 = some ⟨oc13, od13, .func (PySem.W.fnOf "_law_power" "_law_power" (defArgs s_l_power) (defBody s_l_power) (defScope s_l_power) .none kV13 dc13 pm13 an13 cd13 ct13), sl13⟩)
    (c13 : PySem.W.codeIn K cd13 "_law_power" = true) (k13 : PySem.W.keepIn K (.ref f13) = true)
    {f14 : Addr} {od14 an14 : Option Addr} {sl14 : Array (Option Value)} {oc14 kV14 dc14 pm14 cd14 ct14 : Value}
    (a14 : PySem.W.nsIn K mainGlobals "_law_ended" = some (some (.ref f14)))
    (l14 : K.lookup f14 = some ⟨oc14, od14, .func (PySem.W.fnOf "_law_ended" "_law_ended" (defArgs s_l_ended) (defBody s_l_ended) (defScope s_l_ended) .none kV14 dc14 pm14 an14 cd14 ct14), sl14⟩)
    (c14 : PySem.W.codeIn K cd14 "_law_ended" = true) (k14 : PySem.W.keepIn K (.ref f14) = true)
    {f15 : Addr} {od15 an15 : Option Addr} {sl15 : Array (Option Value)} {oc15 kV15 dc15 pm15 cd15 ct15 : Value}
    (a15 : PySem.W.nsIn K mainGlobals "_law_alike" = some (some (.ref f15)))
    (l15 : K.lookup f15 = some ⟨oc15, od15, .func (PySem.W.fnOf "_law_alike" "_law_alike" (defArgs s_l_alike) (defBody s_l_alike) (defScope s_l_alike) .none kV15 dc15 pm15 an15 cd15 ct15), sl15⟩)
    (c15 : PySem.W.codeIn K cd15 "_law_alike" = true) (k15 : PySem.W.keepIn K (.ref f15) = true)
    {f16 : Addr} {od16 an16 : Option Addr} {sl16 : Array (Option Value)} {oc16 kV16 dc16 pm16 cd16 ct16 : Value}
    (a16 : PySem.W.nsIn K mainGlobals "_law_apart" = some (some (.ref f16)))
    (l16 : K.lookup f16 = some ⟨oc16, od16, .func (PySem.W.fnOf "_law_apart" "_law_apart" (defArgs s_l_apart) (defBody s_l_apart) (defScope s_l_apart) .none kV16 dc16 pm16 an16 cd16 ct16), sl16⟩)
    (c16 : PySem.W.codeIn K cd16 "_law_apart" = true) (k16 : PySem.W.keepIn K (.ref f16) = true)
    {f17 : Addr} {od17 an17 : Option Addr} {sl17 : Array (Option Value)} {oc17 kV17 dc17 pm17 cd17 ct17 : Value}
    (a17 : PySem.W.nsIn K mainGlobals "_law_parted" = some (some (.ref f17)))
    (l17 : K.lookup f17 = some ⟨oc17, od17, .func (PySem.W.fnOf "_law_parted" "_law_parted" (defArgs s_l_parted) (defBody s_l_parted) (defScope s_l_parted) .none kV17 dc17 pm17 an17 cd17 ct17), sl17⟩)
    (c17 : PySem.W.codeIn K cd17 "_law_parted" = true) (k17 : PySem.W.keepIn K (.ref f17) = true)
    {f18 : Addr} {od18 an18 : Option Addr} {sl18 : Array (Option Value)} {oc18 kV18 dc18 pm18 cd18 ct18 : Value}
    (a18 : PySem.W.nsIn K mainGlobals "_law_parts" = some (some (.ref f18)))
    (l18 : K.lookup f18 = some ⟨oc18, od18, .func (PySem.W.fnOf "_law_parts" "_law_parts" (defArgs s_l_parts) (defBody s_l_parts) (defScope s_l_parts) .none kV18 dc18 pm18 an18 cd18 ct18), sl18⟩)
    (c18 : PySem.W.codeIn K cd18 "_law_parts" = true) (k18 : PySem.W.keepIn K (.ref f18) = true)
    {f19 : Addr} {od19 an19 : Option Addr} {sl19 : Array (Option Value)} {oc19 kV19 dc19 pm19 cd19 ct19 : Value}
    (a19 : PySem.W.nsIn K mainGlobals "_law_order" = some (some (.ref f19)))
    (l19 : K.lookup f19 = some ⟨oc19, od19, .func (PySem.W.fnOf "_law_order" "_law_order" (defArgs s_l_order) (defBody s_l_order) (defScope s_l_order) .none kV19 dc19 pm19 an19 cd19 ct19), sl19⟩)
    (c19 : PySem.W.codeIn K cd19 "_law_order" = true) (k19 : PySem.W.keepIn K (.ref f19) = true)
    {f20 : Addr} {od20 an20 : Option Addr} {sl20 : Array (Option Value)} {oc20 kV20 dc20 pm20 cd20 ct20 : Value}
    (a20 : PySem.W.nsIn K mainGlobals "law" = some (some (.ref f20)))
    (l20 : K.lookup f20 = some ⟨oc20, od20, .func (PySem.W.fnOf "law" "law" (defArgs s_law) (defBody s_law) (defScope s_law) .none kV20 dc20 pm20 an20 cd20 ct20), sl20⟩)
    (c20 : PySem.W.codeIn K cd20 "law" = true) (k20 : PySem.W.keepIn K (.ref f20) = true)
    {C_NoLaying : Addr} (ga_NoLaying : PySem.W.nsIn K mainGlobals "NoLaying" = some (some (.ref C_NoLaying)))
    (gx_NoLaying : PySem.W.excIn K C_NoLaying [.type "ValueError", .type "Exception", .type "BaseException", .type "object"] "ValueError.__new__" = true) (gk_NoLaying : PySem.W.keepIn K (.ref C_NoLaying) = true)
    (gs_NoLaying : PySem.W.subIn K (.ref C_NoLaying) (.type "BaseException") = some true) (gt_NoLaying : PySem.W.typeIn K (.ref C_NoLaying) = some (.type "type"))
    {C_NoLoad : Addr} (ga_NoLoad : PySem.W.nsIn K mainGlobals "NoLoad" = some (some (.ref C_NoLoad)))
    (gx_NoLoad : PySem.W.excIn K C_NoLoad [.type "ValueError", .type "Exception", .type "BaseException", .type "object"] "ValueError.__new__" = true) (gk_NoLoad : PySem.W.keepIn K (.ref C_NoLoad) = true)
    (gs_NoLoad : PySem.W.subIn K (.ref C_NoLoad) (.type "BaseException") = some true) (gt_NoLoad : PySem.W.typeIn K (.ref C_NoLoad) = some (.type "type"))
    (z_abs : PySem.W.nsIn K mainGlobals "abs" = some none)
    (z_bool : PySem.W.nsIn K mainGlobals "bool" = some none)
    (z_int : PySem.W.nsIn K mainGlobals "int" = some none)
    (z_isinstance : PySem.W.nsIn K mainGlobals "isinstance" = some none)
    (z_len : PySem.W.nsIn K mainGlobals "len" = some none)
    (z_list : PySem.W.nsIn K mainGlobals "list" = some none)
    (z_range : PySem.W.nsIn K mainGlobals "range" = some none)
    (z_reversed : PySem.W.nsIn K mainGlobals "reversed" = some none)
    (z_tuple : PySem.W.nsIn K mainGlobals "tuple" = some none)
    : ∃ fd : FuncData, (∀ (s : Shared) (v : Value), BindsTo s fd ⟨[v], []⟩ [("_law_script", v)]) ∧ ∀ base : Heap, K.In base → base.Ns mainGlobals mg → FnOk l.prog w K mg base CX0 7 fa fd ["_law_script"] (sp_law K A0) := by
  have e := hfa.symm.trans (PySem.W.mg_of X G a20)
  cases e
  have F0 := fun_mk (st := s_is_whole) l0 c0 k0
  have B0 := F0.binds (ps := ["thing"]) fun _ _ _ _ _ _ us hl => match us, hl with | [_], _ => rfl
  have F1 := fun_mk (st := s_is_laying) l1 c1 k1
  have B1 := F1.binds (ps := ["thing"]) fun _ _ _ _ _ _ us hl => match us, hl with | [_], _ => rfl
  have F2 := fun_mk (st := s_good_laying) l2 c2 k2
  have B2 := F2.binds (ps := ["laying"]) fun _ _ _ _ _ _ us hl => match us, hl with | [_], _ => rfl
  have F3 := fun_mk (st := s_good_load) l3 c3 k3
  have B3 := F3.binds (ps := ["load"]) fun _ _ _ _ _ _ us hl => match us, hl with | [_], _ => rfl
  have F4 := fun_mk (st := s_load_of) l4 c4 k4
  have B4 := F4.binds (ps := ["laying"]) fun _ _ _ _ _ _ us hl => match us, hl with | [_], _ => rfl
  have F5 := fun_mk (st := s_ended) l5 c5 k5
  have B5 := F5.binds (ps := ["laying"]) fun _ _ _ _ _ _ us hl => match us, hl with | [_], _ => rfl
  have F6 := fun_mk (st := s_laid) l6 c6 k6
  have B6 := F6.binds (ps := ["load"]) fun _ _ _ _ _ _ us hl => match us, hl with | [_], _ => rfl
  have F7 := fun_mk (st := s_neat) l7 c7 k7
  have B7 := F7.binds (ps := ["laying"]) fun _ _ _ _ _ _ us hl => match us, hl with | [_], _ => rfl
  have F8 := fun_mk (st := s_heavier) l8 c8 k8
  have B8 := F8.binds (ps := ["one", "other"]) fun _ _ _ _ _ _ us hl => match us, hl with | [_, _], _ => rfl
  have F9 := fun_mk (st := s_parted) l9 c9 k9
  have B9 := F9.binds (ps := ["laying", "place"]) fun _ _ _ _ _ _ us hl => match us, hl with | [_, _], _ => rfl
  have F10 := fun_mk (st := s_l_cell_at) l10 c10 k10
  have B10 := F10.binds (ps := ["_law_script", "_law_k"]) fun _ _ _ _ _ _ us hl => match us, hl with | [_, _], _ => rfl
  have F11 := fun_mk (st := s_l_whole) l11 c11 k11
  have B11 := F11.binds (ps := ["_law_found"]) fun _ _ _ _ _ _ us hl => match us, hl with | [_], _ => rfl
  have F12 := fun_mk (st := s_l_load) l12 c12 k12
  have B12 := F12.binds (ps := ["_law_things"]) fun _ _ _ _ _ _ us hl => match us, hl with | [_], _ => rfl
  have F13 := fun_mk (st := s_l_power) l13 c13 k13
  have B13 := F13.binds (ps := ["_law_k"]) fun _ _ _ _ _ _ us hl => match us, hl with | [_], _ => rfl
  have F14 := fun_mk (st := s_l_ended) l14 c14 k14
  have B14 := F14.binds (ps := ["_law_things"]) fun _ _ _ _ _ _ us hl => match us, hl with | [_], _ => rfl
  have F15 := fun_mk (st := s_l_alike) l15 c15 k15
  have B15 := F15.binds (ps := ["_law_found", "_law_due"]) fun _ _ _ _ _ _ us hl => match us, hl with | [_, _], _ => rfl
  have F16 := fun_mk (st := s_l_apart) l16 c16 k16
  have B16 := F16.binds (ps := ["_law_things"]) fun _ _ _ _ _ _ us hl => match us, hl with | [_], _ => rfl
  have F17 := fun_mk (st := s_l_parted) l17 c17 k17
  have B17 := F17.binds (ps := ["_law_found", "_law_things", "_law_place"]) fun _ _ _ _ _ _ us hl => match us, hl with | [_, _, _], _ => rfl
  have F18 := fun_mk (st := s_l_parts) l18 c18 k18
  have B18 := F18.binds (ps := ["_law_handed", "_law_place"]) fun _ _ _ _ _ _ us hl => match us, hl with | [_, _], _ => rfl
  have F19 := fun_mk (st := s_l_order) l19 c19 k19
  have B19 := F19.binds (ps := ["_law_one", "_law_other"]) fun _ _ _ _ _ _ us hl => match us, hl with | [_, _], _ => rfl
  have F20 := fun_mk (st := s_law) l20 c20 k20
  have B20 := F20.binds (ps := ["_law_script"]) fun _ _ _ _ _ _ us hl => match us, hl with | [_], _ => rfl
  let A : Ad := { stone := 0, laying := C_NoLaying, load := C_NoLoad, plan := 0, text := 0, deed := 0, scale := 0, words := 0 }
  let F : Fs := { a_is_whole := f0, d_is_whole := PySem.W.fnOf "is_whole" "is_whole" (defArgs s_is_whole) (defBody s_is_whole) (defScope s_is_whole) .none kV0 dc0 pm0 an0 cd0 ct0, a_is_laying := f1, d_is_laying := PySem.W.fnOf "is_laying" "is_laying" (defArgs s_is_laying) (defBody s_is_laying) (defScope s_is_laying) .none kV1 dc1 pm1 an1 cd1 ct1, a_good_laying := f2, d_good_laying := PySem.W.fnOf "good_laying" "good_laying" (defArgs s_good_laying) (defBody s_good_laying) (defScope s_good_laying) .none kV2 dc2 pm2 an2 cd2 ct2, a_good_load := f3, d_good_load := PySem.W.fnOf "good_load" "good_load" (defArgs s_good_load) (defBody s_good_load) (defScope s_good_load) .none kV3 dc3 pm3 an3 cd3 ct3, a_load_of := f4, d_load_of := PySem.W.fnOf "load_of" "load_of" (defArgs s_load_of) (defBody s_load_of) (defScope s_load_of) .none kV4 dc4 pm4 an4 cd4 ct4, a_ended := f5, d_ended := PySem.W.fnOf "ended" "ended" (defArgs s_ended) (defBody s_ended) (defScope s_ended) .none kV5 dc5 pm5 an5 cd5 ct5, a_laid := f6, d_laid := PySem.W.fnOf "laid" "laid" (defArgs s_laid) (defBody s_laid) (defScope s_laid) .none kV6 dc6 pm6 an6 cd6 ct6, a_neat := f7, d_neat := PySem.W.fnOf "neat" "neat" (defArgs s_neat) (defBody s_neat) (defScope s_neat) .none kV7 dc7 pm7 an7 cd7 ct7, a_heavier := f8, d_heavier := PySem.W.fnOf "heavier" "heavier" (defArgs s_heavier) (defBody s_heavier) (defScope s_heavier) .none kV8 dc8 pm8 an8 cd8 ct8, a_parted := f9, d_parted := PySem.W.fnOf "parted" "parted" (defArgs s_parted) (defBody s_parted) (defScope s_parted) .none kV9 dc9 pm9 an9 cd9 ct9, a_l_cell_at := f10, d_l_cell_at := PySem.W.fnOf "_law_cell_at" "_law_cell_at" (defArgs s_l_cell_at) (defBody s_l_cell_at) (defScope s_l_cell_at) .none kV10 dc10 pm10 an10 cd10 ct10, a_l_whole := f11, d_l_whole := PySem.W.fnOf "_law_whole" "_law_whole" (defArgs s_l_whole) (defBody s_l_whole) (defScope s_l_whole) .none kV11 dc11 pm11 an11 cd11 ct11, a_l_load := f12, d_l_load := PySem.W.fnOf "_law_load" "_law_load" (defArgs s_l_load) (defBody s_l_load) (defScope s_l_load) .none kV12 dc12 pm12 an12 cd12 ct12, a_l_power := f13, d_l_power := PySem.W.fnOf "_law_power" "_law_power" (defArgs s_l_power) (defBody s_l_power) (defScope s_l_power) .none kV13 dc13 pm13 an13 cd13 ct13, a_l_ended := f14, d_l_ended := PySem.W.fnOf "_law_ended" "_law_ended" (defArgs s_l_ended) (defBody s_l_ended) (defScope s_l_ended) .none kV14 dc14 pm14 an14 cd14 ct14, a_l_alike := f15, d_l_alike := PySem.W.fnOf "_law_alike" "_law_alike" (defArgs s_l_alike) (defBody s_l_alike) (defScope s_l_alike) .none kV15 dc15 pm15 an15 cd15 ct15, a_l_apart := f16, d_l_apart := PySem.W.fnOf "_law_apart" "_law_apart" (defArgs s_l_apart) (defBody s_l_apart) (defScope s_l_apart) .none kV16 dc16 pm16 an16 cd16 ct16, a_l_parted := f17, d_l_parted := PySem.W.fnOf "_law_parted" "_law_parted" (defArgs s_l_parted) (defBody s_l_parted) (defScope s_l_parted) .none kV17 dc17 pm17 an17 cd17 ct17, a_l_parts := f18, d_l_parts := PySem.W.fnOf "_law_parts" "_law_parts" (defArgs s_l_parts) (defBody s_l_parts) (defScope s_l_parts) .none kV18 dc18 pm18 an18 cd18 ct18, a_l_order := f19, d_l_order := PySem.W.fnOf "_law_order" "_law_order" (defArgs s_l_order) (defBody s_l_order) (defScope s_l_order) .none kV19 dc19 pm19 an19 cd19 ct19, a_law := fa, d_law := PySem.W.fnOf "law" "law" (defArgs s_law) (defBody s_law) (defScope s_law) .none kV20 dc20 pm20 an20 cd20 ct20 }
  have T : Txt K mg A F := { f_is_whole := F0, b_is_whole := B0, g_is_whole := PySem.W.mg_of X G a0, f_is_laying := F1, b_is_laying := B1, g_is_laying := PySem.W.mg_of X G a1, f_good_laying := F2, b_good_laying := B2, g_good_laying := PySem.W.mg_of X G a2, f_good_load := F3, b_good_load := B3, g_good_load := PySem.W.mg_of X G a3, f_load_of := F4, b_load_of := B4, g_load_of := PySem.W.mg_of X G a4, f_ended := F5, b_ended := B5, g_ended := PySem.W.mg_of X G a5, f_laid := F6, b_laid := B6, g_laid := PySem.W.mg_of X G a6, f_neat := F7, b_neat := B7, g_neat := PySem.W.mg_of X G a7, f_heavier := F8, b_heavier := B8, g_heavier := PySem.W.mg_of X G a8, f_parted := F9, b_parted := B9, g_parted := PySem.W.mg_of X G a9, f_l_cell_at := F10, b_l_cell_at := B10, g_l_cell_at := PySem.W.mg_of X G a10, f_l_whole := F11, b_l_whole := B11, g_l_whole := PySem.W.mg_of X G a11, f_l_load := F12, b_l_load := B12, g_l_load := PySem.W.mg_of X G a12, f_l_power := F13, b_l_power := B13, g_l_power := PySem.W.mg_of X G a13, f_l_ended := F14, b_l_ended := B14, g_l_ended := PySem.W.mg_of X G a14, f_l_alike := F15, b_l_alike := B15, g_l_alike := PySem.W.mg_of X G a15, f_l_apart := F16, b_l_apart := B16, g_l_apart := PySem.W.mg_of X G a16, f_l_parted := F17, b_l_parted := B17, g_l_parted := PySem.W.mg_of X G a17, f_l_parts := F18, b_l_parts := B18, g_l_parts := PySem.W.mg_of X G a18, f_l_order := F19, b_l_order := B19, g_l_order := PySem.W.mg_of X G a19, f_law := F20, b_law := B20, g_law := PySem.W.mg_of X G a20, n_abs := PySem.W.mg_none_of X G z_abs, n_bool := PySem.W.mg_none_of X G z_bool, n_int := PySem.W.mg_none_of X G z_int, n_isinstance := PySem.W.mg_none_of X G z_isinstance, n_len := PySem.W.mg_none_of X G z_len, n_list := PySem.W.mg_none_of X G z_list, n_range := PySem.W.mg_none_of X G z_range, n_reversed := PySem.W.mg_none_of X G z_reversed, n_tuple := PySem.W.mg_none_of X G z_tuple, g_NoLaying := PySem.W.mg_of X G ga_NoLaying, x_NoLaying := gx_NoLaying, k_NoLaying := gk_NoLaying, s_NoLaying := gs_NoLaying, t_NoLaying := gt_NoLaying, g_NoLoad := PySem.W.mg_of X G ga_NoLoad, x_NoLoad := gx_NoLoad, k_NoLoad := gk_NoLoad, s_NoLoad := gs_NoLoad, t_NoLoad := gt_NoLoad }
  exact ⟨_, fun s v => .of_eq rfl, fun base _ _ => ok_law T⟩
end Law
open PySem PySem.W PyProof.Rows
set_option maxRecDepth 100000 in
set_option maxHeartbeats 0 in
theorem PySem.Challenge.cw_fewstones_k05_parts_and_order_holds : PySem.Challenge.rw_fewstones_k05_parts_and_order.Holds := by
  w_on; o_law; k_head; (case hw => w_witness2)
  k_fill
  refine L2.walk_of (l := PySem.Challenge.rw_fewstones_k05_parts_and_order) (n := 63) (k := 7) (x := "_law_script") (CX := fun _ => L2.CX0) (sp := fun w => Fw.sp_law _ Fw.A0) rfl (by decide) rfl ⟨rfl, by decide, by decide⟩ (fun w h Y => PySem.W.kIn_of Y) ?F (fun _ _ a ns hl _ hS => ⟨.ref a, ns, rfl, ⟨a, rfl, hS⟩, hl, fun _ _ => rfl⟩) (fun _ _ _ _ _ h => h)
  case F =>
    intro w mg fa h KX G hmg
    refine' Law.all_mk KX G hmg ?a0 ?l0 ?c0 ?k0 ?a1 ?l1 ?c1 ?k1 ?a2 ?l2 ?c2 ?k2 ?a3 ?l3 ?c3 ?k3 ?a4 ?l4 ?c4 ?k4 ?a5 ?l5 ?c5 ?k5 ?a6 ?l6 ?c6 ?k6 ?a7 ?l7 ?c7 ?k7 ?a8 ?l8 ?c8 ?k8 ?a9 ?l9 ?c9 ?k9 ?a10 ?l10 ?c10 ?k10 ?a11 ?l11 ?c11 ?k11 ?a12 ?l12 ?c12 ?k12 ?a13 ?l13 ?c13 ?k13 ?a14 ?l14 ?c14 ?k14 ?a15 ?l15 ?c15 ?k15 ?a16 ?l16 ?c16 ?k16 ?a17 ?l17 ?c17 ?k17 ?a18 ?l18 ?c18 ?k18 ?a19 ?l19 ?c19 ?k19 ?a20 ?l20 ?c20 ?k20 ?ga_NoLaying ?gx_NoLaying ?gk_NoLaying ?gs_NoLaying ?gt_NoLaying ?ga_NoLoad ?gx_NoLoad ?gk_NoLoad ?gs_NoLoad ?gt_NoLoad ?z_abs ?z_bool ?z_int ?z_isinstance ?z_len ?z_list ?z_range ?z_reversed ?z_tuple
    (case a0 => k_is)
    (case l0 => k_is)
    (case c0 => k_is)
    (case k0 => k_is)
    (case a1 => k_is)
    (case l1 => k_is)
    (case c1 => k_is)
    (case k1 => k_is)
    (case a2 => k_is)
    (case l2 => k_is)
    (case c2 => k_is)
    (case k2 => k_is)
    (case a3 => k_is)
    (case l3 => k_is)
    (case c3 => k_is)
    (case k3 => k_is)
    (case a4 => k_is)
    (case l4 => k_is)
    (case c4 => k_is)
    (case k4 => k_is)
    (case a5 => k_is)
    (case l5 => k_is)
    (case c5 => k_is)
    (case k5 => k_is)
    (case a6 => k_is)
    (case l6 => k_is)
    (case c6 => k_is)
    (case k6 => k_is)
    (case a7 => k_is)
    (case l7 => k_is)
    (case c7 => k_is)
    (case k7 => k_is)
    (case a8 => k_is)
    (case l8 => k_is)
    (case c8 => k_is)
    (case k8 => k_is)
    (case a9 => k_is)
    (case l9 => k_is)
    (case c9 => k_is)
    (case k9 => k_is)
    (case a10 => k_is)
    (case l10 => k_is)
    (case c10 => k_is)
    (case k10 => k_is)
    (case a11 => k_is)
    (case l11 => k_is)
    (case c11 => k_is)
    (case k11 => k_is)
    (case a12 => k_is)
    (case l12 => k_is)
    (case c12 => k_is)
    (case k12 => k_is)
    (case a13 => k_is)
    (case l13 => k_is)
    (case c13 => k_is)
    (case k13 => k_is)
    (case a14 => k_is)
    (case l14 => k_is)
    (case c14 => k_is)
    (case k14 => k_is)
    (case a15 => k_is)
    (case l15 => k_is)
    (case c15 => k_is)
    (case k15 => k_is)
    (case a16 => k_is)
    (case l16 => k_is)
    (case c16 => k_is)
    (case k16 => k_is)
    (case a17 => k_is)
    (case l17 => k_is)
    (case c17 => k_is)
    (case k17 => k_is)
    (case a18 => k_is)
    (case l18 => k_is)
    (case c18 => k_is)
    (case k18 => k_is)
    (case a19 => k_is)
    (case l19 => k_is)
    (case c19 => k_is)
    (case k19 => k_is)
    (case a20 => k_is)
    (case l20 => k_is)
    (case c20 => k_is)
    (case k20 => k_is)
    (case ga_NoLaying => k_is)
    (case gx_NoLaying => k_exc)
    (case gk_NoLaying => k_is)
    (case gs_NoLaying => k_is)
    (case gt_NoLaying => k_is)
    (case ga_NoLoad => k_is)
    (case gx_NoLoad => k_exc)
    (case gk_NoLoad => k_is)
    (case gs_NoLoad => k_is)
    (case gt_NoLoad => k_is)
    (case z_abs => k_is)
    (case z_bool => k_is)
    (case z_int => k_is)
    (case z_isinstance => k_is)
    (case z_len => k_is)
    (case z_list => k_is)
    (case z_range => k_is)
    (case z_reversed => k_is)
    (case z_tuple => k_is)
#print axioms PySem.Challenge.cw_fewstones_k05_parts_and_order_holds

