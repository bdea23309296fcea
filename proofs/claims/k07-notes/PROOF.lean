import PyProof.Rows.All
import Wide.All
import OpenK.AllK
import Wide.FinOn
import HandS.ForMost
import HandS.ForExc
import HandS.IsInst
import HandS.ExcIs
import HandS.Wide
import HandS.Style
import HandS.Evl
import HandS.More
import HandS.StrMore
import HandS.Deep
import HandS.Defaults
import HandS.CallSlots
import HandS.Rev
import KE.GoesRaise
import PySem.Challenge.RW_fewstones_k07_notes
set_option Elab.async false
set_option linter.all false
set_option maxRecDepth 100000
set_option maxHeartbeats 4000000
namespace Few
/-! plain mathematics of layings: no program in sight -/
/-- the load of a laying -/
def loadOf : List Int → Int
  | [] => 0
  | x :: r => 2 * loadOf r + x
def used (l : List Int) : Nat := (l.filter (fun x => decide (x ≠ 0))).length
/-- a thing of a laying -/
def Pm (x : Int) : Prop := x = 1 ∨ x = 0 ∨ x = -1
def Lay (l : List Int) : Prop := ∀ x ∈ l, Pm x
theorem Lay.tail {x : Int} {r : List Int} (h : Lay (x :: r)) : Lay r := fun y hy => h y (List.mem_cons_of_mem _ hy)
theorem Lay.head {x : Int} {r : List Int} (h : Lay (x :: r)) : Pm x := h x List.mem_cons_self
/-- neat, from the least weight on -/
def neatB : List Int → Bool
  | [] => true
  | [x] => decide (x ≠ 0)
  | x :: y :: r => (decide (x = 0) || decide (y = 0)) && neatB (y :: r)
def digit (n : Int) : Int := if n % 2 = 1 then 2 - n % 4 else 0
theorem digit_pm (n : Int) : Pm (digit n) := by
  unfold digit Pm
  split <;> omega
theorem digit_less (n : Int) (h : n ≠ 0) : ((n - digit n) / 2).natAbs < n.natAbs := by
  unfold digit
  split <;> omega
def laid (n : Int) : List Int := if h : n = 0 then [] else digit n :: laid ((n - digit n) / 2)
termination_by n.natAbs
decreasing_by exact digit_less n h
theorem laid_zero : laid 0 = [] := by
  rw [laid]
  exact dif_pos rfl
theorem laid_ne {n : Int} (h : n ≠ 0) : laid n = digit n :: laid ((n - digit n) / 2) := by
  rw [laid, dif_neg h]
theorem laid_even {n : Int} (h : n ≠ 0) : laid (2 * n) = 0 :: laid n := by
  have d : digit (2 * n) = 0 := by
    unfold digit
    rw [if_neg (by omega)]
  rw [laid_ne (show 2 * n ≠ 0 by omega), d]
  congr 2
  omega
theorem laid_41 (n : Int) : laid (4 * n + 1) = 1 :: laid (2 * n) := by
  have d : digit (4 * n + 1) = 1 := by
    unfold digit
    rw [if_pos (by omega)]
    omega
  rw [laid_ne (show 4 * n + 1 ≠ 0 by omega), d]
  congr 2
  omega
theorem laid_43 (n : Int) : laid (4 * n + 3) = -1 :: laid (2 * n + 2) := by
  have d : digit (4 * n + 3) = -1 := by
    unfold digit
    rw [if_pos (by omega)]
    omega
  rw [laid_ne (show 4 * n + 3 ≠ 0 by omega), d]
  congr 2
  omega
/-- induction along laid -/
theorem laid_ind {P : Int → Prop} (h0 : P 0) (hs : ∀ n, n ≠ 0 → P ((n - digit n) / 2) → P n) : ∀ n, P n := by
  have go : ∀ (k : Nat) (n : Int), n.natAbs ≤ k → P n := by
    intro k
    induction k with
    | zero =>
      intro n h
      have e : n = 0 := by omega
      rw [e]
      exact h0
    | succ k ih =>
      intro n h
      by_cases e : n = 0
      · rw [e]
        exact h0
      · have q := digit_less n e
        exact hs n e (ih _ (by omega))
  intro n
  exact go _ n (Nat.le_refl _)
theorem load_laid : ∀ n, loadOf (laid n) = n := by
  apply laid_ind
  · rw [laid_zero]
    rfl
  · intro n h ih
    rw [laid_ne h]
    show 2 * loadOf (laid ((n - digit n) / 2)) + digit n = n
    rw [ih]
    unfold digit
    split <;> omega
theorem lay_laid : ∀ n, Lay (laid n) := by
  apply laid_ind
  · rw [laid_zero]
    intro x hx
    cases hx
  · intro n h ih
    rw [laid_ne h]
    intro x hx
    rcases List.mem_cons.mp hx with e | e
    · rw [e]
      exact digit_pm n
    · exact ih x e
theorem laid_nil {n : Int} (h : laid n = []) : n = 0 := by
  by_cases e : n = 0
  · exact e
  · rw [laid_ne e] at h
    cases h
theorem neat_laid : ∀ n, neatB (laid n) = true := by
  apply laid_ind
  · rw [laid_zero]
    rfl
  · intro n h ih
    rw [laid_ne h]
    by_cases e : (n - digit n) / 2 = 0
    · rw [e, laid_zero]
      show decide (digit n ≠ 0) = true
      apply decide_eq_true
      unfold digit at e ⊢
      split at e <;> split <;> omega
    · rw [laid_ne e] at ih ⊢
      show ((decide (digit n = 0) || decide (digit ((n - digit n) / 2) = 0)) && neatB (digit ((n - digit n) / 2) :: laid (((n - digit n) / 2 - digit ((n - digit n) / 2)) / 2))) = true
      rw [ih, Bool.and_true]
      by_cases z : digit n = 0
      · rw [decide_eq_true z, Bool.true_or]
      · rw [Bool.or_eq_true]
        right
        apply decide_eq_true
        unfold digit at z ⊢
        split at z
        · rename_i o
          rw [if_pos o]
          rw [if_neg (by omega)]
        · exact absurd rfl z
theorem neat_tail {x : Int} {r : List Int} (h : neatB (x :: r) = true) : neatB r = true := by
  cases r with
  | nil => rfl
  | cons y r =>
    have h' : ((decide (x = 0) || decide (y = 0)) && neatB (y :: r)) = true := h
    rw [Bool.and_eq_true] at h'
    exact h'.2
theorem neat_two {x y : Int} {r : List Int} (h : neatB (x :: y :: r) = true) : x = 0 ∨ y = 0 := by
  have h' : ((decide (x = 0) || decide (y = 0)) && neatB (y :: r)) = true := h
  rw [Bool.and_eq_true, Bool.or_eq_true] at h'
  exact h'.1.imp of_decide_eq_true of_decide_eq_true
theorem neat_load_ne : ∀ {l : List Int}, Lay l → neatB l = true → l ≠ [] → loadOf l ≠ 0
  | [], _, _, h => absurd rfl h
  | [x], a, n, _ => by
    have e : x ≠ 0 := of_decide_eq_true n
    show 2 * 0 + x ≠ 0
    omega
  | x :: y :: r, a, n, _ => by
    have ih := neat_load_ne a.tail (neat_tail n) (List.cons_ne_nil y r)
    have p := a.head
    show 2 * loadOf (y :: r) + x ≠ 0
    unfold Pm at p
    omega
/-- each load has just one neat laying -/
theorem laid_load : ∀ {l : List Int}, Lay l → neatB l = true → laid (loadOf l) = l
  | [], _, _ => laid_zero
  | [x], a, n => by
    have e : x ≠ 0 := of_decide_eq_true n
    have p := a.head
    show laid (2 * 0 + x) = [x]
    rcases p with p | p | p
    · rw [p]
      have q := laid_41 0
      rw [show (2 : Int) * 0 = 0 from rfl, laid_zero] at q
      exact q
    · exact absurd p e
    · rw [p]
      have q := laid_43 (-1)
      rw [show (2 : Int) * -1 + 2 = 0 from rfl, laid_zero] at q
      exact q
  | x :: y :: r, a, n => by
    have ih := laid_load a.tail (neat_tail n)
    have ne := neat_load_ne a.tail (neat_tail n) (List.cons_ne_nil y r)
    have p := a.head
    have t := neat_two n
    show laid (2 * loadOf (y :: r) + x) = x :: y :: r
    rcases p with p | p | p
    · have hy : y = 0 := by omega
      subst hy p
      have e : loadOf (0 :: r) = 2 * loadOf r := by
        show 2 * loadOf r + 0 = 2 * loadOf r
        omega
      rw [e] at ih ⊢
      have q := laid_41 (loadOf r)
      rw [show 2 * (2 * loadOf r) + 1 = 4 * loadOf r + 1 by omega, q, ih]
    · subst p
      rw [Int.add_zero, laid_even ne, ih]
    · have hy : y = 0 := by omega
      subst hy p
      have e : loadOf (0 :: r) = 2 * loadOf r := by
        show 2 * loadOf r + 0 = 2 * loadOf r
        omega
      rw [e] at ih ⊢
      have q := laid_43 (loadOf r - 1)
      rw [show 4 * (loadOf r - 1) + 3 = 2 * (2 * loadOf r) + -1 by omega, show 2 * (loadOf r - 1) + 2 = 2 * loadOf r by omega, ih] at q
      exact q
/-! how long -/
theorem laid_len : ∀ (k : Nat) (n : Int), n.natAbs < 2 ^ k → (laid n).length ≤ k + 1
  | 0, n, h => by
    have e : n = 0 := by
      have : n.natAbs < 1 := h
      omega
    rw [e, laid_zero]
    exact Nat.zero_le _
  | k + 1, n, h => by
    by_cases e : n = 0
    · rw [e, laid_zero]
      exact Nat.zero_le _
    · rw [laid_ne e, List.length_cons]
      have h' : n.natAbs < 2 * 2 ^ k := by
        rw [Nat.pow_succ] at h
        omega
      by_cases b : ((n - digit n) / 2).natAbs < 2 ^ k
      · have := laid_len k _ b
        omega
      · -- only a half that is 2 ^ k itself
        have d := digit_pm n
        unfold Pm at d
        have e2 : ((n - digit n) / 2).natAbs = 2 ^ k := by
          unfold digit at b d ⊢
          split at b <;> rename_i o
          · rw [if_pos o]
            omega
          · rw [if_neg o]
            omega
        have : ∀ (k : Nat) (m : Int), m.natAbs = 2 ^ k → (laid m).length ≤ k + 1 := by
          intro k
          induction k with
          | zero =>
            intro m hm
            have hm' : m.natAbs = 1 := hm
            have : m = 1 ∨ m = -1 := by omega
            rcases this with z | z
            · rw [z]
              have q := laid_41 0
              rw [show (2 : Int) * 0 = 0 from rfl, laid_zero] at q
              rw [show (1 : Int) = 4 * 0 + 1 from rfl, q]
              exact Nat.le_refl _
            · rw [z]
              have q := laid_43 (-1)
              rw [show (2 : Int) * -1 + 2 = 0 from rfl, laid_zero] at q
              rw [show (-1 : Int) = 4 * -1 + 3 from rfl, q]
              exact Nat.le_refl _
          | succ k ih =>
            intro m hm
            rw [Nat.pow_succ] at hm
            have pos : 0 < 2 ^ k := Nat.two_pow_pos k
            obtain ⟨j, hj⟩ : ∃ j, m = 2 * j := ⟨m / 2, by omega⟩
            have hj0 : j ≠ 0 := by omega
            rw [hj, laid_even hj0, List.length_cons]
            have := ih j (by omega)
            omega
        have := this k _ e2
        omega
/-! as few as can be -/
def w (n : Int) : Nat := used (laid n)
theorem used_cons (x : Int) (r : List Int) : used (x :: r) = (if x = 0 then 0 else 1) + used r := by
  unfold used
  rw [List.filter_cons]
  by_cases e : x = 0
  · rw [if_neg (by simp [e]), if_pos e]
    omega
  · rw [if_pos (by simp [e]), if_neg e, List.length_cons]
    omega
theorem w_zero : w 0 = 0 := by
  unfold w
  rw [laid_zero]
  rfl
theorem w_even (n : Int) : w (2 * n) = w n := by
  by_cases e : n = 0
  · rw [e]
    rfl
  · unfold w
    rw [laid_even e, used_cons, if_pos rfl]
    omega
theorem w_41 (n : Int) : w (4 * n + 1) = w n + 1 := by
  rw [← w_even n]
  unfold w
  rw [laid_41, used_cons, if_neg (by decide)]
  omega
theorem w_43 (n : Int) : w (4 * n + 3) = w (n + 1) + 1 := by
  rw [← w_even (n + 1)]
  unfold w
  rw [laid_43, used_cons, if_neg (by decide), show 2 * (n + 1) = 2 * n + 2 by omega]
  omega
theorem w_near : ∀ (k : Nat) (n : Int), n.natAbs ≤ k → w n ≤ w (2 * n + 1) ∧ w (n + 1) ≤ w (2 * n + 1) ∧ w (2 * n + 1) ≤ w n + 1 ∧ w (2 * n + 1) ≤ w (n + 1) + 1 := by
  intro k
  induction k with
  | zero =>
    intro n h
    have e : n = 0 := by omega
    subst e
    have a := w_41 0
    rw [w_zero] at a
    rw [w_zero]
    have b : w (4 * 0 + 1) = w (0 + 1) := rfl
    have c : w (4 * 0 + 1) = w (2 * 0 + 1) := rfl
    omega
  | succ k ih =>
    intro n h
    by_cases z : n.natAbs ≤ k
    · exact ih n z
    · by_cases m1 : n = -1
      · subst m1
        have a := w_43 (-1)
        have b : w (4 * -1 + 3) = w (2 * -1 + 1) := rfl
        have c : w (-1 + 1) = w 0 := rfl
        have d : w (-1) = w (2 * -1 + 1) := rfl
        rw [c, w_zero] at a
        rw [d, c, w_zero]
        omega
      · rcases (show n % 2 = 0 ∨ n % 2 = 1 by omega) with e | e
        · obtain ⟨j, hj⟩ : ∃ j, n = 2 * j := ⟨n / 2, by omega⟩
          have q := ih j (by omega)
          subst hj
          have a := w_41 j
          have b := w_even j
          rw [show 2 * (2 * j) + 1 = 4 * j + 1 by omega]
          omega
        · obtain ⟨j, hj⟩ : ∃ j, n = 2 * j + 1 := ⟨n / 2, by omega⟩
          have q := ih j (by omega)
          subst hj
          have a := w_43 j
          have b := w_even (j + 1)
          rw [show 2 * (2 * j + 1) + 1 = 4 * j + 3 by omega, show 2 * j + 1 + 1 = 2 * (j + 1) by omega]
          omega
theorem w_step (n : Int) : w (n + 1) ≤ w n + 1 ∧ w n ≤ w (n + 1) + 1 := by
  rcases (show n % 2 = 0 ∨ n % 2 = 1 by omega) with e | e
  · obtain ⟨j, hj⟩ : ∃ j, n = 2 * j := ⟨n / 2, by omega⟩
    have q := w_near _ j (Nat.le_refl _)
    have b := w_even j
    subst hj
    omega
  · obtain ⟨j, hj⟩ : ∃ j, n = 2 * j + 1 := ⟨n / 2, by omega⟩
    have q := w_near _ j (Nat.le_refl _)
    have b := w_even (j + 1)
    subst hj
    rw [show 2 * j + 1 + 1 = 2 * (j + 1) by omega]
    omega
theorem w_put (n : Int) : w (n + 1) ≤ w n + 1 := (w_step n).1
theorem w_take (n : Int) : w (n - 1) ≤ w n + 1 := by
  have q := (w_step (n - 1)).2
  rw [show n - 1 + 1 = n by omega] at q
  exact q
/-- no laying of the same load uses fewer stones -/
theorem w_least : ∀ {l : List Int}, Lay l → w (loadOf l) ≤ used l
  | [], _ => by
    show w 0 ≤ 0
    rw [w_zero]
    exact Nat.le_refl _
  | x :: r, a => by
    have ih := w_least a.tail
    have p := a.head
    have e := w_even (loadOf r)
    rw [used_cons]
    show w (2 * loadOf r + x) ≤ _
    rcases p with p | p | p
    · subst p
      have q := w_put (2 * loadOf r)
      rw [if_neg (by decide)]
      omega
    · subst p
      rw [if_pos rfl, Int.add_zero]
      omega
    · subst p
      have q := w_take (2 * loadOf r)
      rw [if_neg (by decide)]
      rw [show 2 * loadOf r + -1 = 2 * loadOf r - 1 by omega]
      omega
/-! parted -/
theorem load_append : ∀ (a b : List Int), loadOf (a ++ b) = loadOf a + 2 ^ a.length * loadOf b
  | [], b => by
    show loadOf b = 0 + 2 ^ 0 * loadOf b
    rw [show (2 : Int) ^ 0 = 1 from rfl]
    omega
  | x :: r, b => by
    show 2 * loadOf (r ++ b) + x = 2 * loadOf r + x + 2 ^ (r.length + 1) * loadOf b
    rw [load_append r b, Int.pow_succ, Int.mul_add, Int.mul_comm (2 ^ r.length) 2, Int.mul_assoc]
    omega
theorem load_noughts (n : Nat) : loadOf (List.replicate n 0) = 0 := by
  induction n with
  | zero => rfl
  | succ n ih =>
    show 2 * loadOf (List.replicate n 0) + 0 = 0
    rw [ih]
    rfl
/-- no two neighbours used -/
def apartB : List Int → Bool
  | [] => true
  | [_] => true
  | x :: y :: r => (decide (x = 0) || decide (y = 0)) && apartB (y :: r)
theorem apart_tail {x : Int} {r : List Int} (h : apartB (x :: r) = true) : apartB r = true := by
  cases r with
  | nil => rfl
  | cons y r =>
    have h' : ((decide (x = 0) || decide (y = 0)) && apartB (y :: r)) = true := h
    rw [Bool.and_eq_true] at h'
    exact h'.2
theorem apart_two {x y : Int} {r : List Int} (h : apartB (x :: y :: r) = true) : x = 0 ∨ y = 0 := by
  have h' : ((decide (x = 0) || decide (y = 0)) && apartB (y :: r)) = true := h
  rw [Bool.and_eq_true, Bool.or_eq_true] at h'
  exact h'.1.imp of_decide_eq_true of_decide_eq_true
theorem apart_of_neat : ∀ {l : List Int}, neatB l = true → apartB l = true
  | [], _ => rfl
  | [_], _ => rfl
  | x :: y :: r, h => by
    have h' : ((decide (x = 0) || decide (y = 0)) && neatB (y :: r)) = true := h
    rw [Bool.and_eq_true] at h'
    show ((decide (x = 0) || decide (y = 0)) && apartB (y :: r)) = true
    rw [h'.1, apart_of_neat h'.2]
    rfl
theorem apart_bound : ∀ {l : List Int}, Lay l → apartB l = true → 3 * (loadOf l).natAbs < 2 ^ (l.length + 1)
  | [], _, _ => by
    show 3 * 0 < 2 ^ (0 + 1)
    decide
  | [x], a, _ => by
    have p := a.head
    show 3 * (2 * 0 + x).natAbs < 2 ^ (1 + 1)
    unfold Pm at p
    rw [show 2 ^ (1 + 1) = 4 from rfl]
    omega
  | x :: y :: r, a, n => by
    have p := a.head
    have t := apart_two n
    by_cases hx : x = 0
    · have ih := apart_bound a.tail (apart_tail n)
      subst hx
      show 3 * (2 * loadOf (y :: r) + 0).natAbs < 2 ^ ((y :: r).length + 1 + 1)
      rw [Nat.pow_succ]
      omega
    · have hy : y = 0 := by
        rcases t with t | t
        · exact absurd t hx
        · exact t
      subst hy
      have ih := apart_bound a.tail.tail (apart_tail (apart_tail n))
      show 3 * (2 * (2 * loadOf r + 0) + x).natAbs < 2 ^ (r.length + 1 + 1 + 1)
      rw [Nat.pow_succ, Nat.pow_succ]
      unfold Pm at p
      have pos : 2 ≤ 2 ^ (r.length + 1) := by
        rw [Nat.pow_succ]
        have := Nat.two_pow_pos r.length
        omega
      omega
end Few
namespace Few
/-! ended -/
def ended : List Int → List Int
  | [] => []
  | x :: r => if ended r = [] ∧ x = 0 then [] else x :: ended r
theorem ended_snoc0 : ∀ l : List Int, ended (l ++ [0]) = ended l
  | [] => by decide
  | x :: r => by
    show (if ended (r ++ [0]) = [] ∧ x = 0 then [] else x :: ended (r ++ [0])) = (if ended r = [] ∧ x = 0 then [] else x :: ended r)
    rw [ended_snoc0 r]
theorem ended_snoc : ∀ (l : List Int) {x : Int}, x ≠ 0 → ended (l ++ [x]) = l ++ [x]
  | [], x, h => by
    show (if ended [] = [] ∧ x = 0 then [] else x :: ended []) = [x]
    rw [if_neg (fun z => h z.2)]
    rfl
  | y :: r, x, h => by
    show (if ended (r ++ [x]) = [] ∧ y = 0 then [] else y :: ended (r ++ [x])) = y :: (r ++ [x])
    rw [ended_snoc r h, if_neg (fun z => by simp at z)]
/-- a list is its end's, by its last thing -/
theorem last_cases (l : List Int) : l = [] ∨ ∃ r x, l = r ++ [x] := by
  rcases List.eq_nil_or_concat l with h | ⟨r, x, h⟩
  · exact .inl h
  · exact .inr ⟨r, x, by rw [h]; simp⟩
theorem load_ended : ∀ l : List Int, loadOf (ended l) = loadOf l
  | [] => rfl
  | x :: r => by
    have ih := load_ended r
    show loadOf (if ended r = [] ∧ x = 0 then [] else x :: ended r) = 2 * loadOf r + x
    by_cases c : ended r = [] ∧ x = 0
    · rw [if_pos c]
      rw [c.1] at ih
      rw [← ih, c.2]
      rfl
    · rw [if_neg c, ← ih]
      rfl
theorem lay_ended {l : List Int} (h : Lay l) : Lay (ended l) := by
  have key : ∀ l : List Int, ∀ x ∈ ended l, x ∈ l := by
    intro l
    induction l with
    | nil =>
      intro x hx
      exact hx
    | cons y r ih =>
      intro x hx
      have hx' : x ∈ (if ended r = [] ∧ y = 0 then [] else y :: ended r) := hx
      by_cases c : ended r = [] ∧ y = 0
      · rw [if_pos c] at hx'
        cases hx'
      · rw [if_neg c] at hx'
        rcases List.mem_cons.mp hx' with e | e
        · rw [e]
          exact List.mem_cons_self
        · exact List.mem_cons_of_mem _ (ih x e)
  exact fun x hx => h x (key l x hx)
theorem ended_len : ∀ l : List Int, (ended l).length ≤ l.length
  | [] => Nat.le_refl _
  | x :: r => by
    have ih := ended_len r
    show (if ended r = [] ∧ x = 0 then [] else x :: ended r).length ≤ r.length + 1
    by_cases c : ended r = [] ∧ x = 0
    · rw [if_pos c]
      exact Nat.zero_le _
    · rw [if_neg c, List.length_cons]
      omega
/-- ended, and apart: neat -/
theorem neat_iff : ∀ l : List Int, neatB l = (apartB l && decide (ended l = l))
  | [] => by decide
  | [x] => by
    show decide (x ≠ 0) = (true && decide ((if ended [] = [] ∧ x = 0 then [] else x :: ended []) = [x]))
    rw [Bool.true_and]
    by_cases h : x = 0
    · subst h
      decide
    · rw [if_neg (fun z => h z.2)]
      simp [h, ended]
  | x :: y :: r => by
    have ih := neat_iff (y :: r)
    show ((decide (x = 0) || decide (y = 0)) && neatB (y :: r)) = (((decide (x = 0) || decide (y = 0)) && apartB (y :: r)) && decide ((if ended (y :: r) = [] ∧ x = 0 then [] else x :: ended (y :: r)) = x :: y :: r))
    rw [ih, Bool.and_assoc]
    congr 2
    by_cases c : ended (y :: r) = [] ∧ x = 0
    · rw [if_pos c, c.1]
      simp
    · rw [if_neg c]
      simp
theorem load_bound : ∀ {l : List Int}, Lay l → (loadOf l).natAbs < 2 ^ l.length
  | [], _ => by decide
  | x :: r, h => by
    have ih := load_bound h.tail
    have p := h.head
    show (2 * loadOf r + x).natAbs < 2 ^ (r.length + 1)
    rw [Nat.pow_succ]
    unfold Pm at p
    omega
theorem laid_load_len {l : List Int} (h : Lay l) : (laid (loadOf l)).length ≤ l.length + 1 := laid_len _ _ (load_bound h)
/-! a laying turned about -/
theorem lay_neg {l : List Int} (h : Lay l) : Lay (l.map fun x => -x) := by
  intro x hx
  obtain ⟨y, hy, rfl⟩ := List.mem_map.mp hx
  have := h y hy
  unfold Pm at *
  omega
theorem load_neg : ∀ l : List Int, loadOf (l.map fun x => -x) = - loadOf l
  | [] => rfl
  | x :: r => by
    show 2 * loadOf (r.map fun x => -x) + -x = -(2 * loadOf r + x)
    rw [load_neg r]
    omega
theorem lay_take {l : List Int} (h : Lay l) (n : Nat) : Lay (l.take n) := fun x hx => h x (List.mem_of_mem_take hx)
theorem lay_drop {l : List Int} (h : Lay l) (n : Nat) : Lay (l.drop n) := fun x hx => h x (List.mem_of_mem_drop hx)
theorem lay_append {a b : List Int} (h : Lay a) (h2 : Lay b) : Lay (a ++ b) := fun x hx => (List.mem_append.mp hx).elim (h x) (h2 x)
theorem lay_zeros (n : Nat) : Lay (List.replicate n 0) := fun x hx => by
  rw [(List.mem_replicate.mp hx).2]
  exact .inr (.inl rfl)
theorem lay_nil : Lay [] := fun x h => by cases h
theorem lay_cons {x : Int} {l : List Int} (p : Pm x) (h : Lay l) : Lay (x :: l) := fun y hy => by
  rcases List.mem_cons.mp hy with e | e
  · rw [e]
    exact p
  · exact h y e
end Few
namespace Few
/-- the last thing met, b where none was -/
def beforeOf (b : Int) (l : List Int) : Int := match l.getLast? with
  | some x => x
  | none => b
theorem before_take {ns : List Int} {i : Nat} {n : Int} (h : ns[i]? = some n) : beforeOf 0 (ns.take (i + 1)) = n := by
  unfold beforeOf
  rw [List.take_add_one, h]
  simp
theorem apart_snoc : ∀ (l : List Int) (x : Int), apartB (l ++ [x]) = (apartB l && (decide (beforeOf 0 l = 0) || decide (x = 0)))
  | [], x => by simp [apartB, beforeOf]
  | [y], x => by
    show ((decide (y = 0) || decide (x = 0)) && true) = (true && (decide (y = 0) || decide (x = 0)))
    rw [Bool.and_true, Bool.true_and]
  | y :: z :: r, x => by
    have ih := apart_snoc (z :: r) x
    have e : beforeOf 0 (y :: z :: r) = beforeOf 0 (z :: r) := by
      unfold beforeOf
      rw [List.getLast?_cons_cons]
    show ((decide (y = 0) || decide (z = 0)) && apartB ((z :: r) ++ [x])) = (((decide (y = 0) || decide (z = 0)) && apartB (z :: r)) && (decide (beforeOf 0 (y :: z :: r) = 0) || decide (x = 0)))
    rw [ih, e, Bool.and_assoc]
theorem apart_take_all : ∀ {l : List Int} (k : Nat), apartB (l.take k) = false → apartB l = false
  | [], k, h => by simp [apartB] at h
  | [x], k, h => by
    cases k with
    | zero => cases h
    | succ k => simp [apartB] at h
  | x :: y :: r, 0, h => by cases h
  | x :: y :: r, 1, h => by cases h
  | x :: y :: r, k + 2, h => by
    have h' : ((decide (x = 0) || decide (y = 0)) && apartB ((y :: r).take (k + 1))) = false := h
    show ((decide (x = 0) || decide (y = 0)) && apartB (y :: r)) = false
    rw [Bool.and_eq_false_iff] at h' ⊢
    exact h'.imp id fun q => apart_take_all (k + 1) q
theorem apart_step {ns : List Int} {i : Nat} {n b : Int} (h : ns[i]? = some n) (ha : apartB (ns.take i) = true) (hb : beforeOf 0 (ns.take i) = b) :
    ((!decide (b = 0) && !decide (n = 0)) = false → apartB (ns.take (i + 1)) = true) ∧ ((!decide (b = 0) && !decide (n = 0)) = true → apartB ns = false) := by
  have e : apartB (ns.take (i + 1)) = (decide (b = 0) || decide (n = 0)) := by
    rw [List.take_add_one, h, Option.toList, apart_snoc, ha, hb, Bool.true_and]
  refine ⟨fun z => ?_, fun z => apart_take_all (i + 1) ?_⟩
  · rw [e]
    revert z
    cases decide (b = 0) <;> cases decide (n = 0) <;> intro z <;> first | rfl | exact absurd z (by decide)
  · rw [e]
    revert z
    cases decide (b = 0) <;> cases decide (n = 0) <;> intro z <;> first | rfl | exact absurd z (by decide)
theorem neat_by_last (ns : List Int) {b : Int} (hb : beforeOf 0 ns = b) (ha : apartB ns = true) : neatB ns = (decide (ns = []) || !decide (b = 0)) := by
  rw [neat_iff, ha, Bool.true_and]
  rcases last_cases ns with h | ⟨r, x, h⟩
  · subst h
    rfl
  · subst h
    have e : b = x := by
      rw [← hb]
      unfold beforeOf
      simp
    subst e
    by_cases z : b = 0
    · subst z
      rw [ended_snoc0]
      have l := ended_len r
      have ne : ¬ ended r = r ++ [0] := fun q => by
        rw [q, List.length_append] at l
        simp at l
        omega
      simp [ne]
    · rw [ended_snoc r z]
      simp [z]
end Few
namespace Few
/-! a neat laying spoilt -/
theorem apart_mid : ∀ (a : List Int) {x y : Int} (b : List Int), x ≠ 0 → y ≠ 0 → apartB (a ++ x :: y :: b) = false
  | [], x, y, b, hx, hy => by
    show ((decide (x = 0) || decide (y = 0)) && apartB (y :: b)) = false
    rw [decide_eq_false hx, decide_eq_false hy]
    rfl
  | [z], x, y, b, hx, hy => by
    have ih := apart_mid [] b hx hy
    show ((decide (z = 0) || decide (x = 0)) && apartB (x :: y :: b)) = false
    have e : apartB (x :: y :: b) = false := ih
    rw [e, Bool.and_false]
  | z :: w :: r, x, y, b, hx, hy => by
    have ih := apart_mid (w :: r) b hx hy
    show ((decide (z = 0) || decide (w = 0)) && apartB (w :: (r ++ x :: y :: b))) = false
    have e : apartB (w :: (r ++ x :: y :: b)) = false := ih
    rw [e, Bool.and_false]
theorem neat_not_apart {l : List Int} (h : apartB l = false) : neatB l = false := by
  rw [neat_iff, h, Bool.false_and]
theorem ended_zeros (l : List Int) : ∀ n : Nat, ended (l ++ List.replicate n 0) = ended l
  | 0 => by simp
  | n + 1 => by
    rw [List.replicate_succ', ← List.append_assoc, ended_snoc0, ended_zeros l n]
theorem neat_zeros (l : List Int) (n : Nat) (h : 0 < n) : neatB (l ++ List.replicate n 0) = false := by
  rw [neat_iff, ended_zeros]
  have e := ended_len l
  have ne : ¬ ended l = l ++ List.replicate n 0 := fun z => by
    rw [z, List.length_append, List.length_replicate] at e
    omega
  rw [decide_eq_false ne, Bool.and_false]
/-- ended of a laying that is apart is neat -/
theorem apart_ended : ∀ {l : List Int}, apartB l = true → apartB (ended l) = true
  | [], _ => rfl
  | [x], _ => by
    show apartB (if ended [] = [] ∧ x = 0 then [] else x :: ended []) = true
    split <;> rfl
  | x :: y :: r, h => by
    have ih := apart_ended (apart_tail h)
    have t := apart_two h
    have e : ended (y :: r) = (if ended r = [] ∧ y = 0 then [] else y :: ended r) := rfl
    show apartB (if ended (y :: r) = [] ∧ x = 0 then [] else x :: ended (y :: r)) = true
    by_cases c : ended (y :: r) = [] ∧ x = 0
    · rw [if_pos c]
      rfl
    · rw [if_neg c]
      rw [e] at ih ⊢
      by_cases c2 : ended r = [] ∧ y = 0
      · rw [if_pos c2]
        rfl
      · rw [if_neg c2] at ih ⊢
        show ((decide (x = 0) || decide (y = 0)) && apartB (y :: ended r)) = true
        rw [ih, Bool.and_true, Bool.or_eq_true]
        exact t.imp decide_eq_true decide_eq_true
theorem ended_ended : ∀ l : List Int, ended (ended l) = ended l
  | [] => rfl
  | x :: r => by
    have ih := ended_ended r
    show ended (if ended r = [] ∧ x = 0 then [] else x :: ended r) = (if ended r = [] ∧ x = 0 then [] else x :: ended r)
    by_cases c : ended r = [] ∧ x = 0
    · rw [if_pos c]
      rfl
    · rw [if_neg c]
      show (if ended (ended r) = [] ∧ x = 0 then [] else x :: ended (ended r)) = x :: ended r
      rw [ih, if_neg c]
theorem neat_ended {l : List Int} (h : apartB l = true) : neatB (ended l) = true := by
  rw [neat_iff, apart_ended h, ended_ended, decide_eq_true rfl]
  rfl
theorem apart_zeros : ∀ n : Nat, apartB (List.replicate n 0) = true
  | 0 => rfl
  | 1 => rfl
  | n + 2 => by
    have ih := apart_zeros (n + 1)
    show ((decide ((0 : Int) = 0) || decide ((0 : Int) = 0)) && apartB (0 :: List.replicate n 0)) = true
    have e : apartB (0 :: List.replicate n 0) = true := ih
    rw [e]
    rfl
theorem before_snoc (l : List Int) (x : Int) : beforeOf 0 (l ++ [x]) = x := by
  unfold beforeOf
  simp
end Few
namespace Few
/-! parted -/
theorem parts_load (es : List Int) (j : Nat) : loadOf (es.drop j) * 2 ^ j + loadOf (es.take j) = loadOf es := by
  have h := load_append (es.take j) (es.drop j)
  rw [List.take_append_drop] at h
  rcases Nat.le_total j es.length with c | c
  · rw [List.length_take, Nat.min_eq_left c] at h
    rw [h, Int.mul_comm]
    omega
  · rw [List.drop_of_length_le c] at h ⊢
    have z : loadOf [] = 0 := rfl
    rw [z] at h ⊢
    rw [h]
    omega
theorem apart_take : ∀ {l : List Int} (k : Nat), apartB l = true → apartB (l.take k) = true := by
  intro l k h
  cases c : apartB (l.take k) with
  | true => rfl
  | false =>
    rw [apart_take_all k c] at h
    cases h
theorem apart_drop : ∀ {l : List Int} (k : Nat), apartB l = true → apartB (l.drop k) = true
  | [], k, h => by
    rw [List.drop_nil]
    exact h
  | x :: r, 0, h => h
  | x :: r, k + 1, h => apart_drop k (apart_tail h)
theorem low_bound {es : List Int} (h : Lay es) (ha : apartB es = true) (j : Nat) : 3 * (loadOf (es.take j)).natAbs < 2 ^ (j + 1) := by
  have b := apart_bound (lay_take h j) (apart_take j ha)
  have m : 2 ^ ((es.take j).length + 1) ≤ 2 ^ (j + 1) := Nat.pow_le_pow_right (by decide) (by rw [List.length_take]; omega)
  omega
end Few
/-! plans -/
inductive Wd where
  | dbl | put | tak
  deriving DecidableEq
namespace Few
def wstep (num : Int) (s : Int) : Wd → Int
  | .dbl => 2 * s
  | .put => s + num
  | .tak => s - num
/-- what a plan comes to with a number -/
def walkOf (num : Int) (ws : List Wd) : Int := ws.foldl (wstep num) 0
def costOf (ws : List Wd) : Nat := (ws.filter fun w => decide (w ≠ .dbl)).length
theorem walk_snoc (num : Int) (ws : List Wd) (w : Wd) : walkOf num (ws ++ [w]) = wstep num (walkOf num ws) w := by
  unfold walkOf
  rw [List.foldl_append]
  rfl
theorem cost_snoc (ws : List Wd) (w : Wd) : costOf (ws ++ [w]) = costOf ws + if w = .dbl then 0 else 1 := by
  unfold costOf
  rw [List.filter_append, List.length_append]
  by_cases h : w = .dbl
  · subst h
    rfl
  · rw [if_neg h]
    simp [h]
/-- one thing more of a laying, from its end on -/
def ptail (x : Int) : List Wd := if x = 1 then [.put] else if x = -1 then [.tak] else []
theorem ptail_1 : ptail 1 = [.put] := rfl
theorem ptail_0 : ptail 0 = [] := rfl
theorem ptail_m : ptail (-1) = [.tak] := rfl
def pstep (p : List Wd) (x : Int) : List Wd := (if p = [] then p else p ++ [.dbl]) ++ ptail x
def planAux (xs : List Int) : List Wd := xs.foldl pstep []
def planOf (n : Int) : List Wd := planAux (laid n).reverse
theorem plan_snoc (xs : List Int) (x : Int) : planAux (xs ++ [x]) = pstep (planAux xs) x := by
  unfold planAux
  rw [List.foldl_append]
  rfl
theorem pstep_walk (num : Int) {p : List Wd} {x : Int} (hx : Pm x) : walkOf num (pstep p x) = 2 * walkOf num p + x * num := by
  have e : walkOf num (if p = [] then p else p ++ [.dbl]) = 2 * walkOf num p := by
    by_cases h : p = []
    · rw [if_pos h, h]
      rfl
    · rw [if_neg h, walk_snoc]
      rfl
  unfold pstep
  rcases hx with z | z | z
  · rw [z, ptail_1, walk_snoc, e]
    show _ + num = _ + 1 * num
    omega
  · rw [z, ptail_0, List.append_nil, e]
    omega
  · rw [z, ptail_m, walk_snoc, e]
    show _ - num = _ + -1 * num
    omega
theorem pstep_cost {p : List Wd} {x : Int} (hx : Pm x) : costOf (pstep p x) = costOf p + if x = 0 then 0 else 1 := by
  have e : costOf (if p = [] then p else p ++ [.dbl]) = costOf p := by
    by_cases h : p = []
    · rw [if_pos h]
    · rw [if_neg h, cost_snoc, if_pos rfl]
      rfl
  unfold pstep
  rcases hx with z | z | z
  · rw [z, ptail_1, cost_snoc, e]
    rfl
  · rw [z, ptail_0, List.append_nil, e]
    rfl
  · rw [z, ptail_m, cost_snoc, e]
    rfl
theorem pstep_len (p : List Wd) (x : Int) : (pstep p x).length ≤ p.length + 2 := by
  unfold pstep
  rw [List.length_append]
  have a : (if p = [] then p else p ++ [.dbl]).length ≤ p.length + 1 := by
    split
    · omega
    · rw [List.length_append]
      exact Nat.le_refl _
  have b : (ptail x).length ≤ 1 := by
    unfold ptail
    split
    · exact Nat.le_refl _
    · split
      · exact Nat.le_refl _
      · exact Nat.zero_le _
  omega
theorem plan_aux (num : Int) : ∀ {l : List Int}, Lay l → walkOf num (planAux l.reverse) = loadOf l * num ∧ costOf (planAux l.reverse) = used l ∧ (planAux l.reverse).length ≤ 2 * l.length
  | [], _ => ⟨by show (0 : Int) = 0 * num; omega, rfl, Nat.le_refl _⟩
  | x :: r, h => by
    obtain ⟨a, b, c⟩ := plan_aux num h.tail
    have px := h.head
    have d := pstep_len (planAux r.reverse) x
    rw [List.reverse_cons, plan_snoc, pstep_walk num px, pstep_cost px, a, b, used_cons, List.length_cons]
    refine ⟨?_, by omega, by omega⟩
    show 2 * (loadOf r * num) + x * num = (2 * loadOf r + x) * num
    rw [Int.add_mul, Int.mul_assoc]
theorem plan_walk (num n : Int) : walkOf num (planOf n) = n * num := by
  have h := (plan_aux num (lay_laid n)).1
  rw [load_laid] at h
  exact h
theorem plan_cost (n : Int) : costOf (planOf n) = used (laid n) := (plan_aux 1 (lay_laid n)).2.1
theorem plan_len (n : Int) : (planOf n).length ≤ 2 * (laid n).length := (plan_aux 1 (lay_laid n)).2.2
/-- no plan that comes to the same load costs less -/
theorem plan_least (ws : List Wd) : w (walkOf 1 ws) ≤ costOf ws := by
  have key : ∀ (k : Nat) (ws : List Wd), ws.length = k → w (walkOf 1 ws) ≤ costOf ws := by
    intro k
    induction k with
    | zero =>
      intro ws h
      have e : ws = [] := List.length_eq_zero_iff.mp h
      rw [e]
      show w 0 ≤ 0
      rw [w_zero]
      exact Nat.le_refl _
    | succ k ih =>
      intro ws h
      rcases List.eq_nil_or_concat ws with z | ⟨r, x, z⟩
      · rw [z] at h
        cases h
      · have z' : ws = r ++ [x] := by rw [z]; simp
        subst z'
        have hr : r.length = k := by
          rw [List.length_append] at h
          simp at h
          exact h
        have q := ih r hr
        rw [walk_snoc, cost_snoc]
        cases x with
        | dbl =>
          show w (2 * walkOf 1 r) ≤ costOf r + 0
          rw [w_even]
          exact q
        | put =>
          have s := w_put (walkOf 1 r)
          show w (walkOf 1 r + 1) ≤ costOf r + 1
          omega
        | tak =>
          have s := w_take (walkOf 1 r)
          show w (walkOf 1 r - 1) ≤ costOf r + 1
          omega
  exact key _ ws rfl
theorem plan_none_less (ws : List Wd) : costOf (planOf (walkOf 1 ws)) ≤ costOf ws := by
  rw [plan_cost]
  exact plan_least ws
theorem walk_bound (ws : List Wd) : (walkOf 1 ws).natAbs < 2 ^ (2 * ws.length + 1) := by
  have key : ∀ (k : Nat) (ws : List Wd), ws.length = k → (walkOf 1 ws).natAbs < 2 ^ (2 * k + 1) := by
    intro k
    induction k with
    | zero =>
      intro ws h
      have e : ws = [] := List.length_eq_zero_iff.mp h
      rw [e]
      decide
    | succ k ih =>
      intro ws h
      rcases List.eq_nil_or_concat ws with z | ⟨r, x, z⟩
      · rw [z] at h
        cases h
      · have z' : ws = r ++ [x] := by rw [z]; simp
        subst z'
        have hr : r.length = k := by
          rw [List.length_append] at h
          simp at h
          exact h
        have q := ih r hr
        rw [walk_snoc, show 2 * (k + 1) + 1 = (2 * k + 1) + 1 + 1 by omega, Nat.pow_succ, Nat.pow_succ]
        have pos := Nat.two_pow_pos (2 * k + 1)
        generalize 2 ^ (2 * k + 1) = M at q pos
        cases x with
        | dbl =>
          show (2 * walkOf 1 r).natAbs < _
          omega
        | put =>
          show (walkOf 1 r + 1).natAbs < _
          omega
        | tak =>
          show (walkOf 1 r - 1).natAbs < _
          omega
  exact key _ ws rfl
end Few

namespace Fw
open PySem PySem.Spec PyProof.Rows L2 Evl
/-! addresses of the program's classes and constants -/
structure Ad where
  stone : Addr
  laying : Addr
  load : Addr
  plan : Addr
  text : Addr
  deed : Addr
  scale : Addr
  words : Addr
def A0 : Ad := ⟨0, 0, 0, 0, 0, 0, 0, 0⟩
/-! short words for what the operators' rules ask -/
abbrev rAddI : R2 := rI0 fun i j => .int (i + j)
abbrev rSubI : R2 := rI0 fun i j => .int (i - j)
abbrev rMulI : R2 := rI CMul fun i j => .int (i * j)
abbrev rMulW : R2 := rI CMulW fun i j => .int (i * j)
abbrev rModI : R2 := rI (fun _ j => 0 < j) fun i j => .int (i % j)
abbrev rDivI : R2 := rI CDiv fun i j => .int (i / j)
abbrev rPowI : R2 := rI CPow fun i j => .int (i ^ j.toNat)
abbrev rLtI : R2 := rI0 fun i j => .bl (decide (i < j))
abbrev rLeI : R2 := rI0 fun i j => .bl (decide (i ≤ j))
abbrev rGtI : R2 := rI0 fun i j => .bl (decide (j < i))
abbrev rGeI : R2 := rI0 fun i j => .bl (decide (j ≤ i))
abbrev rNegI : V → Hp → VK → Prop := rU fun i => .int (-i)
abbrev rIsNn : R2 := fun x y H Q => y = .non ∧ Q (.bl (decide (x = .non))) H
abbrev rNotNn : R2 := fun x y H Q => y = .non ∧ Q (.bl (!decide (x = .non))) H
abbrev rAbsI : List V → Hp → VK → Prop := fun xs H Q => ∃ i, xs = [.int i] ∧ Q (.int (if i < 0 then -i else i)) H
abbrev rIntB : List V → Hp → VK → Prop := fun xs H Q => (∃ i, xs = [.int i] ∧ Q (.int i) H) ∨ ∃ k, xs = [.bl k] ∧ Q (.int (if k then 1 else 0)) H
/-- raise of an own class's new instance -/
def tRaiseC (C : Addr) (E : XK) : TS := fun _ _ H => E (.ref C) none H
section
variable {K : PySem.W.Frag} {σ : L2.St} {H H' : Hp} {ta tb te tx : TE} {t u : TT} {x y z v : V} {r : R2}
/-! a value with something true of it -/
def EvX (te : TE) (σ : L2.St) (H : Hp) (P : V → Hp → Prop) : Prop := ∀ H1, Ex H H1 → ∀ Q : VK, (∀ v H2, Ex H1 H2 → P v H2 → Q v H2) → te σ H1 Q
def EaX (ta : TA) (σ : L2.St) (H : Hp) (P : List V → Hp → Prop) : Prop := ∀ H1, Ex H H1 → ∀ Q : List V → Hp → Prop, (∀ vs H2, Ex H1 H2 → P vs H2 → Q vs H2) → ta σ H1 Q
/-- what stays true while the heap grows -/
def Mono (P : V → Hp → Prop) : Prop := ∀ v H H', Ex H H' → P v H → P v H'
/-- a list of whole numbers -/
def IL (K : PySem.W.Frag) (ns : List Int) (v : V) (H : Hp) : Prop := ∃ a, v = .ref a ∧ SqL K H a (ns.map V.int)
/-- a list of values -/
def VL (K : PySem.W.Frag) (xs : List V) (v : V) (H : Hp) : Prop := ∃ a, v = .ref a ∧ SqL K H a xs
/-- a list that can be written -/
def ML (xs : List V) (v : V) (H : Hp) : Prop := ∃ a, v = .ref a ∧ H a = some (.lst xs)
def Is (x : V) (v : V) (_ : Hp) : Prop := v = x
theorem mono_is : Mono (Is x) := fun _ _ _ _ h => h
theorem mono_il {ns : List Int} : Mono (IL K ns) := fun _ _ _ e ⟨a, h, s⟩ => ⟨a, h, ex_l e s⟩
theorem mono_vl {xs : List V} : Mono (VL K xs) := fun _ _ _ e ⟨a, h, s⟩ => ⟨a, h, ex_l e s⟩
theorem mono_ml {xs : List V} : Mono (ML xs) := fun _ _ _ e ⟨a, h, s⟩ => ⟨a, h, e _ _ s⟩
theorem x_v (h : Ev te σ H v) : EvX te σ H (Is v) := fun H1 e Q q => h H1 e Q fun H2 e2 => q v H2 e2 rfl
theorem x_of {P : V → Hp → Prop} (h : Ev te σ H v) (m : Mono P) (p : P v H) : EvX te σ H P := fun H1 e Q q => h H1 e Q fun H2 e2 => q v H2 e2 (m _ _ _ (e.trans e2) p)
theorem x_il {a : Addr} {ns : List Int} (h : Ev te σ H (.ref a)) (p : SqL K H a (ns.map V.int)) : EvX te σ H (IL K ns) := x_of h mono_il ⟨a, rfl, p⟩
theorem x_ilL {ns : List Int} (h : EvL te σ H (ns.map V.int)) : EvX te σ H (IL K ns) := fun H1 e Q q => h H1 e Q fun p H2 _ e2 hp => q _ H2 e2 ⟨p, rfl, sq_of hp⟩
theorem x_vl {a : Addr} {xs : List V} (h : Ev te σ H (.ref a)) (p : SqL K H a xs) : EvX te σ H (VL K xs) := x_of h mono_vl ⟨a, rfl, p⟩
theorem x_vlL {xs : List V} (h : EvL te σ H xs) : EvX te σ H (VL K xs) := fun H1 e Q q => h H1 e Q fun p H2 _ e2 hp => q _ H2 e2 ⟨p, rfl, sq_of hp⟩
theorem x_ml {a : Addr} {xs : List V} (h : Ev te σ H (.ref a)) (p : H a = some (.lst xs)) : EvX te σ H (ML xs) := x_of h mono_ml ⟨a, rfl, p⟩
theorem x_mlL {xs : List V} (h : EvL te σ H xs) : EvX te σ H (ML xs) := fun H1 e Q q => h H1 e Q fun p H2 _ e2 hp => q _ H2 e2 ⟨p, rfl, hp⟩
theorem xa_nil : EaX tNil σ H (fun vs _ => vs = []) := fun H1 _ _ q => q _ H1 (Ex.refl H1) rfl
theorem xa_cons {tr : TA} {P : V → Hp → Prop} {R : List V → Hp → Prop} (h : EvX te σ H P) (m : Mono P) (hr : EaX tr σ H R) : EaX (tCons te tr) σ H (fun vs H => ∃ x r, vs = x :: r ∧ P x H ∧ R r H) := fun H1 e Q q =>
  h H1 e _ fun v H2 e2 hp => hr H2 (e.trans e2) _ fun vs H3 e3 hR => q _ H3 (e2.trans e3) ⟨v, vs, rfl, m _ _ _ e3 hp, hR⟩
theorem xa_1 {P : V → Hp → Prop} (h : EvX te σ H P) : EaX (tCons te tNil) σ H (fun vs H => ∃ x, vs = [x] ∧ P x H) := fun H1 e Q q =>
  h H1 e _ fun v H2 e2 hp => q _ H2 e2 ⟨v, rfl, hp⟩
theorem xa_2 {P R : V → Hp → Prop} (h : EvX te σ H P) (m : Mono P) (h2 : EvX tx σ H R) : EaX (tCons te (tCons tx tNil)) σ H (fun vs H => ∃ x y, vs = [x, y] ∧ P x H ∧ R y H) := fun H1 e Q q =>
  h H1 e _ fun v H2 e2 hp => h2 H2 (e.trans e2) _ fun w H3 e3 hr => q _ H3 (e2.trans e3) ⟨v, w, rfl, m _ _ _ e3 hp, hr⟩
/-! calls -/
theorem x_call1 {sp : Sp} {E : XK} {P R : V → Hp → Prop} (h : EvX te σ H P) (hs : ∀ x H1, Ex H H1 → P x H1 → ∀ Q : VK, (∀ v H2, Ex H1 H2 → R v H2 → Q v H2) → sp [x] H1 Q E) : EvX (tCall sp [] E (tCons te tNil)) σ H R := fun H1 e Q q =>
  h H1 e _ fun v H2 e2 hp => hs v H2 (e.trans e2) hp Q fun v H3 e3 hr => q v H3 (e2.trans e3) hr
theorem x_call2 {sp : Sp} {E : XK} {P P' R : V → Hp → Prop} (h : EvX te σ H P) (m : Mono P) (h2 : EvX tx σ H P') (hs : ∀ x y H1, Ex H H1 → P x H1 → P' y H1 → ∀ Q : VK, (∀ v H2, Ex H1 H2 → R v H2 → Q v H2) → sp [x, y] H1 Q E) : EvX (tCall sp [] E (tCons te (tCons tx tNil))) σ H R := fun H1 e Q q =>
  h H1 e _ fun v H2 e2 hp => h2 H2 (e.trans e2) _ fun w H3 e3 hp2 => hs v w H3 ((e.trans e2).trans e3) (m _ _ _ e3 hp) hp2 Q fun v H4 e4 hr => q v H4 ((e2.trans e3).trans e4) hr
theorem ev_call1 {sp : Sp} {E : XK} {P : V → Hp → Prop} (h : EvX te σ H P) (hs : ∀ x H1, Ex H H1 → P x H1 → ∀ Q : VK, (∀ H2, Ex H1 H2 → Q z H2) → sp [x] H1 Q E) : Ev (tCall sp [] E (tCons te tNil)) σ H z := fun H1 e Q q =>
  h H1 e _ fun v H2 e2 hp => hs v H2 (e.trans e2) hp Q fun H3 e3 => q H3 (e2.trans e3)
theorem ev_call2 {sp : Sp} {E : XK} {P P' : V → Hp → Prop} (h : EvX te σ H P) (m : Mono P) (h2 : EvX tx σ H P') (hs : ∀ x y H1, Ex H H1 → P x H1 → P' y H1 → ∀ Q : VK, (∀ H2, Ex H1 H2 → Q z H2) → sp [x, y] H1 Q E) : Ev (tCall sp [] E (tCons te (tCons tx tNil))) σ H z := fun H1 e Q q =>
  h H1 e _ fun v H2 e2 hp => h2 H2 (e.trans e2) _ fun w H3 e3 hp2 => hs v w H3 ((e.trans e2).trans e3) (m _ _ _ e3 hp) hp2 Q fun H4 e4 => q H4 ((e2.trans e3).trans e4)
theorem el_call1 {sp : Sp} {E : XK} {P : V → Hp → Prop} {xs : List V} (h : EvX te σ H P) (hs : ∀ x H1, Ex H H1 → P x H1 → ∀ Q : VK, (∀ p H2, H1 p = none → Ex H1 H2 → H2 p = some (.lst xs) → Q (.ref p) H2) → sp [x] H1 Q E) : EvL (tCall sp [] E (tCons te tNil)) σ H xs := fun H1 e Q q =>
  h H1 e _ fun v H2 e2 hp => hs v H2 (e.trans e2) hp Q fun p H3 hn e3 hx => q p H3 (fresh_back e2 hn) (e2.trans e3) hx
theorem el_call2 {sp : Sp} {E : XK} {P P' : V → Hp → Prop} {xs : List V} (h : EvX te σ H P) (m : Mono P) (h2 : EvX tx σ H P') (hs : ∀ x y H1, Ex H H1 → P x H1 → P' y H1 → ∀ Q : VK, (∀ p H2, H1 p = none → Ex H1 H2 → H2 p = some (.lst xs) → Q (.ref p) H2) → sp [x, y] H1 Q E) : EvL (tCall sp [] E (tCons te (tCons tx tNil))) σ H xs := fun H1 e Q q =>
  h H1 e _ fun v H2 e2 hp => h2 H2 (e.trans e2) _ fun w H3 e3 hp2 => hs v w H3 ((e.trans e2).trans e3) (m _ _ _ e3 hp) hp2 Q fun p H4 hn e4 hx => q p H4 (fresh_back (e2.trans e3) hn) ((e2.trans e3).trans e4) hx
/-! operations on values of which something is true -/
theorem ev_opX {P P' : V → Hp → Prop} (ha : EvX ta σ H P) (m : Mono P) (hb : EvX tb σ H P') (hr : ∀ x y H1, Ex H H1 → P x H1 → P' y H1 → RV r x y H1 z) : Ev (tOp r ta tb) σ H z := fun H1 e Q q =>
  ha H1 e _ fun x H2 e2 p => hb H2 (e.trans e2) _ fun y H3 e3 p' => hr x y H3 ((e.trans e2).trans e3) (m _ _ _ e3 p) p' H3 (Ex.refl H3) Q fun H4 e4 => q H4 ((e2.trans e3).trans e4)
theorem ev_cbX1 {r : List V → Hp → VK → Prop} {P : V → Hp → Prop} (h : EvX te σ H P) (hr : ∀ x H1, Ex H H1 → P x H1 → RC r [x] H1 z) : Ev (tCB r (tCons te tNil)) σ H z := fun H1 e Q q =>
  h H1 e _ fun v H2 e2 hp => hr v H2 (e.trans e2) hp H2 (Ex.refl H2) Q fun H3 e3 => q H3 (e2.trans e3)
theorem el_cbX1 {r : List V → Hp → VK → Prop} {P : V → Hp → Prop} {xs : List V} (h : EvX te σ H P) (hr : ∀ x H1, Ex H H1 → P x H1 → RCL r [x] H1 xs) : EvL (tCB r (tCons te tNil)) σ H xs := fun H1 e Q q =>
  h H1 e _ fun v H2 e2 hp => hr v H2 (e.trans e2) hp H2 (Ex.refl H2) Q fun p H3 hn e3 hx => q p H3 (fresh_back e2 hn) (e2.trans e3) hx
theorem rv_div {i j : Int} (h : 0 < j ∧ j < 1073741824) : RV rDivI (.int i) (.int j) H (.int (i / j)) := rv_I h
theorem rv_mod {i j : Int} (h : 0 < j) : RV rModI (.int i) (.int j) H (.int (i % j)) := rv_I h
theorem rv_mul {i j : Int} (h : CMul i j) : RV rMulI (.int i) (.int j) H (.int (i * j)) := rv_I h
theorem cmul_l {i j : Int} (h : -(2 ^ 64) < i ∧ i < 2 ^ 64) : CMul i j := .inl h
theorem cmul_r {i j : Int} (h : -(2 ^ 64) < j ∧ j < 2 ^ 64) : CMul i j := .inr h
theorem rv_isN : RV rIsNn x .non H (.bl (decide (x = .non))) := fun H1 _ _ q => ⟨rfl, q H1 (Ex.refl H1)⟩
theorem rv_notN : RV rNotNn x .non H (.bl (!decide (x = .non))) := fun H1 _ _ q => ⟨rfl, q H1 (Ex.refl H1)⟩
theorem rv_isB {a b : Bool} : RV rIsB (.bl a) (.bl b) H (.bl (decide (a = b))) := fun H1 _ _ q => ⟨a, b, rfl, rfl, q H1 (Ex.refl H1)⟩
theorem rv_notB {a b : Bool} : RV rNotB (.bl a) (.bl b) H (.bl (!decide (a = b))) := fun H1 _ _ q => ⟨a, b, rfl, rfl, q H1 (Ex.refl H1)⟩
/-- len of a list of which something is known -/
theorem ev_lenX {ns : List Int} (h : EvX te σ H (IL K ns)) : Ev (tCB (rLenS K) (tCons te tNil)) σ H (.int (ns.length : Int)) := ev_cbX1 h fun x H1 _ ⟨a, e, s⟩ H2 e2 Q q => ⟨a, _, by rw [e], .inl (ex_l e2 s), by rw [List.length_map]; exact q H2 (Ex.refl H2)⟩
theorem ev_lenV {xs : List V} (h : EvX te σ H (VL K xs)) : Ev (tCB (rLenS K) (tCons te tNil)) σ H (.int (xs.length : Int)) := ev_cbX1 h fun x H1 _ ⟨a, e, s⟩ H2 e2 Q q => ⟨a, _, by rw [e], .inl (ex_l e2 s), q H2 (Ex.refl H2)⟩
/-- list(xs) -/
theorem el_listX {xs : List V} (h : EvX te σ H (VL K xs)) : EvL (tCB (rListS K) (tCons te tNil)) σ H xs := el_cbX1 h fun x H1 _ ⟨a, e, s⟩ H2 e2 Q q => ⟨a, _, by rw [e], .inl (ex_l e2 s), fun l hl => q l _ hl (Ex.new hl) upd_same⟩
/-! two lists of whole numbers held beside one another -/
theorem dps {ns : List Int} {H : Hp} : DpAll K H (ns.map V.int) (ns.map PyData.int) := by
  induction ns with
  | nil => exact .nil
  | cons n r ih => exact .cons (.int n) ih
theorem eqv_ints : ∀ xs ys : List Int, PyData.eqvAll (xs.map PyData.int) (ys.map PyData.int) = decide (xs = ys)
  | [], [] => rfl
  | [], _ :: _ => by simp [PyData.eqvAll]
  | _ :: _, [] => by simp [PyData.eqvAll]
  | x :: xs, y :: ys => by
    have ih := eqv_ints xs ys
    show (PyData.eqv (.int x) (.int y) && PyData.eqvAll (xs.map PyData.int) (ys.map PyData.int)) = _
    rw [ih]
    have e : PyData.eqv (.int x) (.int y) = (x == y) := by simp [PyData.eqv]
    rw [e]
    by_cases h1 : x = y
    · subst h1
      by_cases h2 : xs = ys
      · subst h2
        simp
      · simp [h2]
    · simp [h1]
theorem canLay_ints : ∀ xs : List Int, PyData.canLayAll0 (xs.map PyData.int) = true
  | [] => rfl
  | x :: xs => by
    have ih := canLay_ints xs
    show (PyData.canLay0 (.int x) && PyData.canLayAll0 (xs.map PyData.int)) = true
    rw [ih]
    simp [PyData.canLay0]
theorem depth_ints : ∀ xs : List Int, PyData.depthAll (xs.map PyData.int) = 0
  | [] => rfl
  | x :: xs => by
    have ih := depth_ints xs
    show max (PyData.depth (.int x)) (PyData.depthAll (xs.map PyData.int)) = 0
    rw [ih]
    simp [PyData.depth]
theorem shaped_ints (xs : List Int) : SeqAt.shaped (.list (xs.map PyData.int)) = true := by
  unfold SeqAt.shaped
  have a : PyData.canLay0 (.list (xs.map PyData.int)) = true := canLay_ints xs
  have b : PyData.depth (.list (xs.map PyData.int)) = 1 := by
    show PyData.depthAll (xs.map PyData.int) + 1 = 1
    rw [depth_ints]
  rw [a, b]
  rfl
theorem rv_eqI {xs ys : List Int} (hx : IL K xs x H) (hy : IL K ys y H) : RV (rEqD K) x y H (.bl (decide (xs = ys))) := fun H1 e Q q => by
  obtain ⟨a, rfl, ha⟩ := hx
  obtain ⟨b, rfl, hb⟩ := hy
  refine ⟨_, _, .lst (ex_l e ha) dps, .lst (ex_l e hb) dps, shaped_ints _, shaped_ints _, ?_⟩
  have z : PyData.eqv (.list (xs.map PyData.int)) (.list (ys.map PyData.int)) = decide (xs = ys) := eqv_ints xs ys
  rw [z]
  exact q H1 (Ex.refl H1)
theorem rv_neI {xs ys : List Int} (hx : IL K xs x H) (hy : IL K ys y H) : RV (rNeD K) x y H (.bl (!decide (xs = ys))) := fun H1 e Q q => by
  obtain ⟨a, rfl, ha⟩ := hx
  obtain ⟨b, rfl, hb⟩ := hy
  refine ⟨_, _, .lst (ex_l e ha) dps, .lst (ex_l e hb) dps, shaped_ints _, shaped_ints _, ?_⟩
  have z : PyData.eqv (.list (xs.map PyData.int)) (.list (ys.map PyData.int)) = decide (xs = ys) := eqv_ints xs ys
  rw [z]
  exact q H1 (Ex.refl H1)
theorem ev_eqI {xs ys : List Int} (ha : EvX ta σ H (IL K xs)) (hb : EvX tb σ H (IL K ys)) : Ev (tOp (rEqD K) ta tb) σ H (.bl (decide (xs = ys))) := ev_opX ha mono_il hb fun _ _ _ _ p q => rv_eqI p q
theorem ev_neI {xs ys : List Int} (ha : EvX ta σ H (IL K xs)) (hb : EvX tb σ H (IL K ys)) : Ev (tOp (rNeD K) ta tb) σ H (.bl (!decide (xs = ys))) := ev_opX ha mono_il hb fun _ _ _ _ p q => rv_neI p q
/-- an item -/
theorem map_at {ns : List Int} {j : Nat} {n : Int} (h : ns[j]? = some n) : (ns.map V.int)[j]? = some (.int n) := by
  rw [List.getElem?_map, h]
  rfl
theorem of_map {ns : List Int} {j : Nat} {v : V} (h : (ns.map V.int)[j]? = some v) : ∃ n, ns[j]? = some n ∧ v = .int n := by
  rw [List.getElem?_map] at h
  cases e : ns[j]? with
  | none =>
    rw [e] at h
    cases h
  | some n =>
    rw [e] at h
    exact ⟨n, rfl, (Option.some.inj h).symm⟩
theorem ev_ix {ns : List Int} {j : Nat} {n i : Int} (ha : EvX ta σ H (IL K ns)) (hb : Ev tb σ H (.int i)) (hi : i = (j : Int)) (h : ns[j]? = some n) : Ev (tOp (rIxL K) ta tb) σ H (.int n) :=
  ev_opX ha mono_il (x_v hb) fun x y H1 _ ⟨a, e, s⟩ ey => by
    subst e
    cases ey
    exact rv_ixL s (at_of hi (map_at h))
theorem ev_ixV {xs : List V} {j : Nat} {i : Int} (ha : EvX ta σ H (VL K xs)) (hb : Ev tb σ H (.int i)) (hi : i = (j : Int)) (h : xs[j]? = some v) : Ev (tOp (rIxL K) ta tb) σ H v :=
  ev_opX ha mono_vl (x_v hb) fun x y H1 _ ⟨a, e, s⟩ ey => by
    subst e
    cases ey
    exact rv_ixL s (at_of hi h)
/-! new lists out of others -/
theorem el_catX {xs ys : List V} (ha : EvX ta σ H (ML xs)) (hb : EvX tb σ H (ML ys)) (hz : xs.length + ys.length ≤ 100000) : EvL (tOp rCat ta tb) σ H (xs ++ ys) := fun H1 e Q q =>
  ha H1 e _ fun x H2 e2 ⟨a, ex, ha⟩ => hb H2 (e.trans e2) _ fun y H3 e3 ⟨b, ey, hb⟩ =>
    ⟨a, b, xs, ys, ex, ey, e3 _ _ ha, hb, sz_of hz, fun p hp => q p _ (fresh_back (e2.trans e3) hp) ((e2.trans e3).trans (Ex.new hp)) upd_same⟩
theorem el_repX {xs : List V} {k : Int} (ha : EvX ta σ H (ML xs)) (hb : Ev tb σ H (.int k)) (h1 : -100000 ≤ k ∧ k ≤ 100000) (hz : xs.length * k.toNat ≤ 100000) : EvL (tOp rRep ta tb) σ H (List.replicate k.toNat xs).flatten := fun H1 e Q q =>
  ha H1 e _ fun x H2 e2 ⟨a, ex, ha⟩ => hb H2 (e.trans e2) _ fun H3 e3 =>
    ⟨a, k, xs, ex, rfl, e3 _ _ ha, by omega, by omega, sz_of hz, fun p hp => q p _ (fresh_back (e2.trans e3) hp) ((e2.trans e3).trans (Ex.new hp)) upd_same⟩
/-! loops over reversed(xs) -/
variable {D : Ends} {tu tw tz : TS} {g : TG}
theorem for_rv {a : Addr} {xs : List V} {σ : L2.St} (Pv : Nat → L2.St → Hp → Prop) (h0 : Pv 0 σ H) (hl : ∀ i σ H, i ≤ xs.length → Pv i σ H → SqL K H a xs)
    (hs : ∀ i x σ H, i < xs.length → xs[xs.length - 1 - i]? = some x → Pv i σ H → g x σ H fun σ2 H2 => tu { D with nx := Pv (i + 1), ct := Pv (i + 1), bk := D.nx } σ2 H2) (hd : ∀ σ H, Pv xs.length σ H → D.nx σ H) :
    ∃ W : Nat → Nat → L2.St → Hp → Prop, (∃ m, W 0 m σ H) ∧ ∀ i m σ H, W i m σ H → ((Itv K a xs.length).stop i H ∧ D.nx σ H) ∨ ((Itv K a xs.length).go i H ∧ ∃ Nx : L2.St → Hp → Prop, (∀ σ' H', Nx σ' H' → ∃ m', m' < m ∧ W (i + 1) m' σ' H') ∧
      ∀ x H', (Itv K a xs.length).yld i H x H' → g x σ H' fun σ2 H2 => tu { D with nx := Nx, ct := Nx, bk := D.nx } σ2 H2) := by
  refine ⟨fun i m σ H => m = xs.length - i ∧ i ≤ xs.length ∧ Pv i σ H, ⟨xs.length, by omega, Nat.zero_le _, h0⟩, ?_⟩
  rintro i m σ H ⟨rfl, hi, p⟩
  have hq := hl i σ H hi p
  by_cases hlt : i < xs.length
  · have hx : xs[xs.length - 1 - i]? = some (xs[xs.length - 1 - i]'(by omega)) := List.getElem?_eq_getElem (by omega)
    refine .inr ⟨⟨hlt, xs, _, hq, hx⟩, Pv (i + 1), fun σ' H' p' => ⟨xs.length - (i + 1), by omega, rfl, hlt, p'⟩, fun x H' y => ?_⟩
    obtain ⟨e, y⟩ := y
    subst e
    have z := y xs hq
    exact hs i x σ _ hlt z p
  · have e : i = xs.length := by omega
    subst e
    exact .inl ⟨Nat.le_refl _, hd σ H p⟩
end
/-! ### loops whose turns change nothing but slots -/
section
variable {K : PySem.W.Frag} {σ : L2.St} {H H' : Hp} {ta : TA} {tb te tx tl : TE} {t u : TT} {x y z v : V} {r : R2} {D : Ends} {tu tw tz : TS} {g : TG}
/-- the slots are as I says, the heap has only grown -/
def NX (H : Hp) (I : L2.St → Prop) : L2.St → Hp → Prop := fun σ2 H2 => I σ2 ∧ Ex H H2
theorem s_forP {xs : List V} {j : Nat} (h : EvX tl σ H (VL K xs)) (I : Nat → L2.St → Prop) (h0 : I 0 σ)
    (hs : ∀ H1 i x σ' H', Ex H H1 → Ex H1 H' → xs[i]? = some x → I i σ' → tu { D with nx := NX H1 (I (i + 1)), ct := NX H1 (I (i + 1)), bk := D.nx } (σ'.set j (some x)) H')
    (hd : ∀ σ' H', Ex H H' → I xs.length σ' → D.nx σ' H') : tFor (iList K tl) (gName j) tu D σ H :=
  h H (Ex.refl H) _ fun v H1 e1 ⟨a, ev, hq⟩ => ⟨a, ev, ⟨xs, hq⟩, for_list (K := K) (a := a) (xs := xs) (fun i => NX H1 (I i)) ⟨h0, Ex.refl H1⟩ (fun i σ' H' _ p => ex_l p.2 hq) (fun i x σ' H' hx p => hs H1 i x σ' H' e1 p.2 hx p.1) (fun σ' H' p => hd σ' H' (e1.trans p.2) p.1)⟩
theorem s_forRvP {xs : List V} {j : Nat} (h : EvX tl σ H (VL K xs)) (I : Nat → L2.St → Prop) (h0 : I 0 σ)
    (hs : ∀ H1 i x σ' H', Ex H H1 → Ex H1 H' → i < xs.length → xs[xs.length - 1 - i]? = some x → I i σ' → tu { D with nx := NX H1 (I (i + 1)), ct := NX H1 (I (i + 1)), bk := D.nx } (σ'.set j (some x)) H')
    (hd : ∀ σ' H', Ex H H' → I xs.length σ' → D.nx σ' H') : tFor (iRev K (tCons tl tNil)) (gName j) tu D σ H :=
  h H (Ex.refl H) _ fun v H1 e1 ⟨a, ev, hq⟩ => ⟨a, xs, by rw [ev], hq, for_rv (fun i => NX H1 (I i)) ⟨h0, Ex.refl H1⟩ (fun i σ' H' _ p => ex_l p.2 hq) (fun i x σ' H' hi hx p => hs H1 i x σ' H' e1 p.2 hi hx p.1) (fun σ' H' p => hd σ' H' (e1.trans p.2) p.1)⟩
theorem s_forRgP {n : Int} {j : Nat} (h : EvA ta σ H [.int n]) (hn : 0 ≤ n ∧ n ≤ 100000) (I : Nat → L2.St → Prop) (h0 : I 0 σ)
    (hs : ∀ H1 (i : Nat) σ' H', Ex H H1 → Ex H1 H' → (i : Int) < n → I i σ' → tu { D with nx := NX H1 (I (i + 1)), ct := NX H1 (I (i + 1)), bk := D.nx } (σ'.set j (some (.int (i : Int)))) H')
    (hd : ∀ σ' H', Ex H H' → I n.toNat σ' → D.nx σ' H') : tFor (iRng1 ta) (gName j) tu D σ H :=
  s_forR1 h hn (fun i => NX H (I i)) (fun H1 e => ⟨h0, e⟩) (fun i σ' H' hi p => hs H i σ' H' (Ex.refl H) p.2 hi p.1) (fun σ' H' p => hd σ' H' p.2 p.1)
theorem s_forRg2P {lo n : Int} {j : Nat} (h : EvA ta σ H [.int lo, .int n]) (hn : 0 ≤ lo ∧ lo ≤ 100000 ∧ -100000 ≤ n ∧ n ≤ 100000) (I : Nat → L2.St → Prop) (h0 : I 0 σ)
    (hs : ∀ H1 (i : Nat) σ' H', Ex H H1 → Ex H1 H' → lo + (i : Int) < n → I i σ' → tu { D with nx := NX H1 (I (i + 1)), ct := NX H1 (I (i + 1)), bk := D.nx } (σ'.set j (some (.int (lo + (i : Int))))) H')
    (hd : ∀ σ' H', Ex H H' → I (n - lo).toNat σ' → D.nx σ' H') : tFor (iRng2 ta) (gName j) tu D σ H :=
  s_forR2 h hn (fun i => NX H (I i)) (fun H1 e => ⟨h0, e⟩) (fun i σ' H' hi p => hs H i σ' H' (Ex.refl H) p.2 hi p.1) (fun σ' H' p => hd σ' H' p.2 p.1)
/-- .. and the rest of the block behind -/
theorem q_forP {xs : List V} {j : Nat} (h : EvX tl σ H (VL K xs)) (I : Nat → L2.St → Prop) (h0 : I 0 σ)
    (hs : ∀ H1 i x σ' H', Ex H H1 → Ex H1 H' → xs[i]? = some x → I i σ' → tu { D with nx := NX H1 (I (i + 1)), ct := NX H1 (I (i + 1)), bk := tz D } (σ'.set j (some x)) H')
    (hd : ∀ σ' H', Ex H H' → I xs.length σ' → tz D σ' H') : tSeq (tFor (iList K tl) (gName j) tu) tz D σ H := s_forP (D := { D with nx := tz D }) h I h0 hs hd
theorem q_forRvP {xs : List V} {j : Nat} (h : EvX tl σ H (VL K xs)) (I : Nat → L2.St → Prop) (h0 : I 0 σ)
    (hs : ∀ H1 i x σ' H', Ex H H1 → Ex H1 H' → i < xs.length → xs[xs.length - 1 - i]? = some x → I i σ' → tu { D with nx := NX H1 (I (i + 1)), ct := NX H1 (I (i + 1)), bk := tz D } (σ'.set j (some x)) H')
    (hd : ∀ σ' H', Ex H H' → I xs.length σ' → tz D σ' H') : tSeq (tFor (iRev K (tCons tl tNil)) (gName j) tu) tz D σ H := s_forRvP (D := { D with nx := tz D }) h I h0 hs hd
theorem q_forRgP {n : Int} {j : Nat} (h : EvA ta σ H [.int n]) (hn : 0 ≤ n ∧ n ≤ 100000) (I : Nat → L2.St → Prop) (h0 : I 0 σ)
    (hs : ∀ H1 (i : Nat) σ' H', Ex H H1 → Ex H1 H' → (i : Int) < n → I i σ' → tu { D with nx := NX H1 (I (i + 1)), ct := NX H1 (I (i + 1)), bk := tz D } (σ'.set j (some (.int (i : Int)))) H')
    (hd : ∀ σ' H', Ex H H' → I n.toNat σ' → tz D σ' H') : tSeq (tFor (iRng1 ta) (gName j) tu) tz D σ H := s_forRgP (D := { D with nx := tz D }) h hn I h0 hs hd
theorem q_forRg2P {lo n : Int} {j : Nat} (h : EvA ta σ H [.int lo, .int n]) (hn : 0 ≤ lo ∧ lo ≤ 100000 ∧ -100000 ≤ n ∧ n ≤ 100000) (I : Nat → L2.St → Prop) (h0 : I 0 σ)
    (hs : ∀ H1 (i : Nat) σ' H', Ex H H1 → Ex H1 H' → lo + (i : Int) < n → I i σ' → tu { D with nx := NX H1 (I (i + 1)), ct := NX H1 (I (i + 1)), bk := tz D } (σ'.set j (some (.int (lo + (i : Int))))) H')
    (hd : ∀ σ' H', Ex H H' → I (n - lo).toNat σ' → tz D σ' H') : tSeq (tFor (iRng2 ta) (gName j) tu) tz D σ H := s_forRg2P (D := { D with nx := tz D }) h hn I h0 hs hd
/-- the turn's end -/
theorem nx_ok {I : L2.St → Prop} {H1 : Hp} (h : I σ) (e : Ex H1 H) : NX H1 I σ H := ⟨h, e⟩
theorem s_retX {P : V → Hp → Prop} (h : EvX te σ H P) (k : ∀ v H1, Ex H H1 → P v H1 → D.rt v H1) : tRet te D σ H := h H (Ex.refl H) _ k
theorem s_asgX {P : V → Hp → Prop} {i : Nat} (h : EvX te σ H P) (k : ∀ v H1, Ex H H1 → P v H1 → D.nx (σ.set i (some v)) H1) : tAsg te (gName i) D σ H := h H (Ex.refl H) _ k
theorem q_asgX {P : V → Hp → Prop} {i : Nat} (h : EvX te σ H P) (k : ∀ v H1, Ex H H1 → P v H1 → tz D (σ.set i (some v)) H1) : tSeq (tAsg te (gName i)) tz D σ H := h H (Ex.refl H) _ k
/-! methods of lists -/
theorem s_popS {l : Addr} {xs : List V} (hl : H l = some (.lst xs)) (ha : Ev te σ H (.ref l)) (hy : xs[xs.length - 1]? = some y) (k : ∀ H1, Ex H H1 → D.nx σ (upd H1 l (.lst xs.dropLast))) : tDrop (tBM0 K "list" rPop te) D σ H :=
  ha H (Ex.refl H) _ fun H1 e1 => ⟨.inl ⟨rfl, xs, sq_of (e1 l _ hl)⟩, l, xs, y, rfl, rfl, e1 l _ hl, hy, k H1 e1⟩
theorem q_popS {l : Addr} {xs : List V} (hl : H l = some (.lst xs)) (ha : Ev te σ H (.ref l)) (hy : xs[xs.length - 1]? = some y) (k : ∀ H1, Ex H H1 → tz D σ (upd H1 l (.lst xs.dropLast))) : tSeq (tDrop (tBM0 K "list" rPop te)) tz D σ H := s_popS (D := { D with nx := tz D }) hl ha hy k
/-- an if that is not taken -/
theorem q_skip {b : Bool} (h : EvT t σ H b) (hb : b = false) (k : ∀ H1, Ex H H1 → tz D σ H1) : tSeq (tIfS t tu tNext) tz D σ H :=
  q_when h (fun z => by rw [hb] at z; cases z) fun _ => k
/-! ### what never comes back -/
def Er (te : TE) (σ : L2.St) (H : Hp) : Prop := ∀ H1, Ex H H1 → ∀ Q : VK, te σ H1 Q
theorem Er.mono (h : Er te σ H) (e : Ex H H') : Er te σ H' := fun H1 a Q => h H1 (e.trans a) Q
theorem er_asg {i : Nat} (h : Er te σ H) : tAsg te (gName i) D σ H := h H (Ex.refl H) _
theorem er_q {i : Nat} (h : Er te σ H) : tSeq (tAsg te (gName i)) tz D σ H := h H (Ex.refl H) _
theorem er_ret (h : Er te σ H) : tRet te D σ H := h H (Ex.refl H) _
theorem er_drop (h : Er te σ H) : tDrop te D σ H := h H (Ex.refl H) _
theorem er_for (h : Er te σ H) : tFor (iList K te) g tu D σ H := h H (Ex.refl H) _
theorem er_qfor (h : Er te σ H) : tSeq (tFor (iList K te) g tu) tz D σ H := h H (Ex.refl H) _
theorem er_qforRv (h : Er te σ H) : tSeq (tFor (iRev K (tCons te tNil)) g tu) tz D σ H := h H (Ex.refl H) _
theorem er_op1 (h : Er te σ H) : Er (tOp r te tb) σ H := fun H1 e Q => h H1 e _
theorem er_op2 {P : V → Hp → Prop} (ha : EvX te σ H P) (h : Er tb σ H) : Er (tOp r te tb) σ H := fun H1 e Q => ha H1 e _ fun v H2 e2 _ => h H2 (e.trans e2) _
theorem er_call {sp : Sp} {E : XK} (h : Er te σ H) {tr : TA} : Er (tCall sp [] E (tCons te tr)) σ H := fun H1 e Q => h H1 e _
theorem er_cb {rr : List V → Hp → VK → Prop} (h : Er te σ H) {tr : TA} : Er (tCB rr (tCons te tr)) σ H := fun H1 e Q => h H1 e _
theorem er_tup (h : Er te σ H) {tr : TA} : Er (tTup (tCons te tr)) σ H := fun H1 e Q => h H1 e _
theorem er_lc (h : Er te σ H) {vs : List Nat} : Er (tLc (iList K te) g t tx vs) σ H := fun H1 e Q => h H1 e _
theorem er_lcRv (h : Er te σ H) {vs : List Nat} : Er (tLc (iRev K (tCons te tNil)) g t tx vs) σ H := fun H1 e Q => h H1 e _
theorem er_call1 {sp : Sp} {E : XK} {P : V → Hp → Prop} (h : EvX te σ H P) (hs : ∀ x H1, Ex H H1 → P x H1 → ∀ Q : VK, sp [x] H1 Q E) : Er (tCall sp [] E (tCons te tNil)) σ H := fun H1 e Q => h H1 e _ fun v H2 e2 hp => hs v H2 (e.trans e2) hp Q
/-! ### what a promise says -/
def RaiseE (E : XK) (C : Addr) (H : Hp) : Prop := ∀ H', Ex H H' → E (.ref C) none H'
theorem RaiseE.mono {E : XK} {C : Addr} (h : RaiseE E C H) (e : Ex H H') : RaiseE E C H' := fun H1 a => h H1 (e.trans a)
theorem _root_.Evl.RetV.mono {Q : VK} (h : RetV v H Q) (e : Ex H H') : RetV v H' Q := fun H1 a => h H1 (e.trans a)
theorem _root_.Evl.RetL.mono {Q : VK} {xs : List V} (h : RetL xs H Q) (e : Ex H H') : RetL xs H' Q := fun p H1 hp a hx => h p H1 (fresh_back e hp) (e.trans a) hx
theorem s_retV (h : Ev te σ H v) (k : RetV v H D.rt) : tRet te D σ H := s_ret h fun H1 e => k H1 e
theorem s_retLL {xs : List V} (h : EvL te σ H xs) (k : RetL xs H D.rt) : tRet te D σ H := s_retL h fun p H1 hp e hx => k p H1 hp e hx
end
end Fw

namespace Fw
open PySem PySem.Spec PyProof.Rows L2 Evl
/-! any thing, and what kind it is -/
mutual
theorem dp_mono {K : PySem.W.Frag} {H H' : Hp} (e : Ex H H') : ∀ (d : PyData) (v : V), Dp K H v d → Dp K H' v d
  | .none, _, h => by
    cases h
    exact .non
  | .bool b, _, h => by
    cases h
    exact .bl b
  | .int i, _, h => by
    cases h
    exact .int i
  | .str x, _, h => by
    cases h
    exact .str x
  | .list ds, _, h => by
    cases h with
    | lst hs ha => exact .lst (ex_l e hs) (dpA_mono e ds _ ha)
  | .tuple ds, _, h => by
    cases h with
    | tup hs ha => exact .tup (ex_t e hs) (dpA_mono e ds _ ha)
  | .dict _, _, h => by cases h
theorem dpA_mono {K : PySem.W.Frag} {H H' : Hp} (e : Ex H H') : ∀ (ds : List PyData) (vs : List V), DpAll K H vs ds → DpAll K H' vs ds
  | [], _, h => by
    cases h
    exact .nil
  | d :: ds, _, h => by
    cases h with
    | cons h1 h2 => exact .cons (dp_mono e d _ h1) (dpA_mono e ds _ h2)
end
/-- a thing: data, or an empty dict -/
inductive Th (K : PySem.W.Frag) (H : Hp) : V → PyData → Prop
  | of {v : V} {d : PyData} (h : Dp K H v d) : Th K H v d
  | dict {a : Addr} {kvs : List (Key × V)} (h : H a = some (.dK kvs)) : Th K H (.ref a) (.dict [])
theorem Th.mono {K : PySem.W.Frag} {H H' : Hp} {v : V} {d : PyData} (e : Ex H H') (h : Th K H v d) : Th K H' v d := by
  cases h with
  | of h => exact .of (dp_mono e _ _ h)
  | dict h => exact .dict (e _ _ h)
/-- the kind's name -/
def tyD : PyData → String
  | .none => "NoneType"
  | .bool _ => "bool"
  | .int _ => "int"
  | .str _ => "str"
  | .list _ => "list"
  | .tuple _ => "tuple"
  | .dict _ => "dict"
section
variable {K : PySem.W.Frag} {H : Hp} {v : V} {d : PyData}
theorem sq_ty {a : Addr} {xs : List V} (h : SqL K H a xs) : TyX K H (.ref a) (.type "list") := by
  rcases h with (h | ⟨o, h⟩) | ⟨o, its, n, h1, h2, _⟩
  · exact .base (.lst h)
  · exact .base (.frz h)
  · exact .kList h1 h2
theorem st_ty {a : Addr} {xs : List V} (h : SqT K H a xs) : TyX K H (.ref a) (.type "tuple") := by
  rcases h with (h | ⟨o, h⟩) | ⟨o, its, n, h1, h2, _⟩
  · exact .base (.tup h)
  · exact .fTuple h
  · exact .kTuple h1 h2
theorem Th.ty (h : Th K H v d) : TyX K H v (.type (tyD d)) := by
  cases h with
  | dict h => exact .base (.dK h)
  | of h =>
    cases h with
    | non => exact .base .non
    | bl b => exact .base (.bl b)
    | int i => exact .base (.int i)
    | str x => exact .base (.str x)
    | lst hs _ => exact sq_ty hs
    | tup hs _ => exact st_ty hs
theorem kit_all : ∀ (d : PyData), kitB (tyD d) "int" = some (tyD d == "int" || tyD d == "bool") ∧ kitB (tyD d) "bool" = some (tyD d == "bool") ∧ kitB (tyD d) "list" = some (tyD d == "list") ∧ kitB (tyD d) "str" = some (tyD d == "str") ∧ kitB (tyD d) "tuple" = some (tyD d == "tuple") := by
  have k : ∀ n ∈ ["NoneType", "bool", "int", "str", "list", "tuple", "dict"], kitB n "int" = some (n == "int" || n == "bool") ∧ kitB n "bool" = some (n == "bool") ∧ kitB n "list" = some (n == "list") ∧ kitB n "str" = some (n == "str") ∧ kitB n "tuple" = some (n == "tuple") := by decide +kernel
  intro d
  apply k
  cases d <;> simp [tyD]
/-- isinstance(x, T) of a thing -/
theorem rc_isi {T : String} {b : Bool} (h : Th K H v d) (hk : kitB (tyD d) T = some b) : RC (rIsi K) [v, .ty T] H (.bl b) := fun H1 e Q q =>
  ⟨v, .ty T, .type (tyD d), .type T, b, rfl, .ty T, (h.mono e).ty, kit_ty hk, q H1 (Ex.refl H1)⟩
variable {σ : L2.St} {te : TE}
theorem ev_isi {T : String} {b : Bool} (hv : Ev te σ H v) (h : Th K H v d) (hk : kitB (tyD d) T = some b) : Ev (tCB (rIsi K) (tCons te (tCons (tC (.ty T)) tNil))) σ H (.bl b) :=
  ev_cb (ea_cons hv (ea_cons ev_c ea_nil)) (rc_isi h hk)
theorem ev_isiX {T : String} {b : Bool} (hv : EvX te σ H (fun v H => Th K H v d)) (hk : kitB (tyD d) T = some b) : Ev (tCB (rIsi K) (tCons te (tCons (tC (.ty T)) tNil))) σ H (.bl b) := fun H1 e Q q =>
  hv H1 e _ fun v H2 e2 h => ⟨v, .ty T, .type (tyD d), .type T, b, rfl, .ty T, h.ty, kit_ty hk, q H2 e2⟩
theorem ev_isInt (hv : Ev te σ H v) (h : Th K H v d) : Ev (tCB (rIsi K) (tCons te (tCons (tC (.ty "int")) tNil))) σ H (.bl (tyD d == "int" || tyD d == "bool")) := ev_isi hv h (kit_all d).1
theorem ev_isBool (hv : Ev te σ H v) (h : Th K H v d) : Ev (tCB (rIsi K) (tCons te (tCons (tC (.ty "bool")) tNil))) σ H (.bl (tyD d == "bool")) := ev_isi hv h (kit_all d).2.1
theorem ev_isList (hv : Ev te σ H v) (h : Th K H v d) : Ev (tCB (rIsi K) (tCons te (tCons (tC (.ty "list")) tNil))) σ H (.bl (tyD d == "list")) := ev_isi hv h (kit_all d).2.2.1
theorem ev_isStr (hv : Ev te σ H v) (h : Th K H v d) : Ev (tCB (rIsi K) (tCons te (tCons (tC (.ty "str")) tNil))) σ H (.bl (tyD d == "str")) := ev_isi hv h (kit_all d).2.2.2.1
theorem ev_isTuple (hv : Ev te σ H v) (h : Th K H v d) : Ev (tCB (rIsi K) (tCons te (tCons (tC (.ty "tuple")) tNil))) σ H (.bl (tyD d == "tuple")) := ev_isi hv h (kit_all d).2.2.2.2
end
/-! which things are layings -/
def wholeD : PyData → Bool
  | .int _ => true
  | _ => false
theorem wholeD_is (d : PyData) : ((tyD d == "int" || tyD d == "bool") && !(tyD d == "bool")) = wholeD d := by
  cases d <;> simp [tyD, wholeD]
def pmD : PyData → Bool
  | .int i => decide (-1 ≤ i) && decide (i ≤ 1)
  | _ => false
def isLayD : PyData → Bool
  | .list ds => ds.all pmD
  | _ => false
theorem pm_iff (x : Int) : pmD (.int x) = true ↔ Few.Pm x := by
  show (decide (-1 ≤ x) && decide (x ≤ 1)) = true ↔ _
  rw [Bool.and_eq_true, decide_eq_true_iff, decide_eq_true_iff]
  unfold Few.Pm
  omega
theorem lay_of_all : ∀ ds : List PyData, ds.all pmD = true → ∃ ns : List Int, ds = ns.map PyData.int ∧ Few.Lay ns
  | [], _ => ⟨[], rfl, fun _ h => by cases h⟩
  | d :: ds, h => by
    rw [List.all_cons, Bool.and_eq_true] at h
    obtain ⟨ns, e, l⟩ := lay_of_all ds h.2
    cases d with
    | int i =>
      refine ⟨i :: ns, by rw [e]; rfl, fun x hx => ?_⟩
      rcases List.mem_cons.mp hx with z | z
      · rw [z]
        exact (pm_iff i).mp h.1
      · exact l x z
    | none => exact absurd h.1 (by decide)
    | bool b => exact absurd h.1 Bool.false_ne_true
    | str b => exact absurd h.1 Bool.false_ne_true
    | list b => exact absurd h.1 Bool.false_ne_true
    | tuple b => exact absurd h.1 Bool.false_ne_true
    | dict b => exact absurd h.1 Bool.false_ne_true
theorem lay_is {d : PyData} (h : isLayD d = true) : ∃ ns : List Int, d = .list (ns.map PyData.int) ∧ Few.Lay ns := by
  cases d with
  | list ds =>
    obtain ⟨ns, e, l⟩ := lay_of_all ds h
    exact ⟨ns, by rw [e], l⟩
  | none => exact absurd h Bool.false_ne_true
  | bool b => exact absurd h Bool.false_ne_true
  | int b => exact absurd h Bool.false_ne_true
  | str b => exact absurd h Bool.false_ne_true
  | tuple b => exact absurd h Bool.false_ne_true
  | dict b => exact absurd h Bool.false_ne_true
theorem lay_ints {ns : List Int} (h : Few.Lay ns) : isLayD (.list (ns.map PyData.int)) = true := by
  show (ns.map PyData.int).all pmD = true
  rw [List.all_map, List.all_eq_true]
  exact fun x hx => (pm_iff x).mpr (h x hx)
theorem ints_inj {a b : List Int} (h : a.map PyData.int = b.map PyData.int) : a = b := by
  induction a generalizing b with
  | nil =>
    cases b with
    | nil => rfl
    | cons _ _ => cases h
  | cons x xs ih =>
    cases b with
    | nil => cases h
    | cons y ys =>
      rw [List.map_cons, List.map_cons] at h
      injection h with h1 h2
      injection h1 with h1
      rw [h1, ih h2]
section
variable {K : PySem.W.Frag} {H : Hp} {v : V}
theorem dps_ints {vs : List V} : ∀ {ns : List Int}, DpAll K H vs (ns.map PyData.int) → vs = ns.map V.int := by
  induction vs with
  | nil =>
    intro ns h
    cases ns with
    | nil => rfl
    | cons n r => cases h
  | cons v vs ih =>
    intro ns h
    cases ns with
    | nil => cases h
    | cons n r =>
      cases h with
      | cons h1 h2 =>
        cases h1
        rw [ih h2]
        rfl
theorem Th.il {ns : List Int} (h : Th K H v (.list (ns.map PyData.int))) : IL K ns v H := by
  cases h with
  | of h =>
    cases h with
    | lst hs ha =>
      rw [dps_ints ha] at hs
      exact ⟨_, rfl, hs⟩
theorem il_th {ns : List Int} (h : IL K ns v H) : Th K H v (.list (ns.map PyData.int)) := by
  obtain ⟨a, rfl, hs⟩ := h
  exact .of (.lst hs dps)
theorem th_int (i : Int) : Th K H (.int i) (.int i) := .of (.int i)
theorem th_bl (b : Bool) : Th K H (.bl b) (.bool b) := .of (.bl b)
theorem th_str (x : Str) : Th K H (.str x) (.str x) := .of (.str x)
theorem th_non : Th K H .non .none := .of .non
theorem IL.vl {ns : List Int} (h : IL K ns v H) : VL K (ns.map V.int) v H := h
theorem x_vlI {te : TE} {σ : L2.St} {ns : List Int} (h : EvX te σ H (IL K ns)) : EvX te σ H (VL K (ns.map V.int)) := h
/-- an item of a list of things -/
theorem dps_at {vs : List V} {ds : List PyData} (h : DpAll K H vs ds) : ∀ {i : Nat} {x : V}, vs[i]? = some x → ∃ d, ds[i]? = some d ∧ Dp K H x d := by
  induction vs generalizing ds with
  | nil =>
    intro i x hx
    simp at hx
  | cons v vs ih =>
    intro i x hx
    cases h with
    | cons h1 h2 =>
      cases i with
      | zero =>
        have e : v = x := Option.some.inj hx
        subst e
        exact ⟨_, rfl, h1⟩
      | succ i => exact ih h2 (i := i) hx
theorem dps_len {vs : List V} {ds : List PyData} (h : DpAll K H vs ds) : vs.length = ds.length := by
  induction vs generalizing ds with
  | nil =>
    cases h
    rfl
  | cons v vs ih =>
    cases h with
    | cons h1 h2 => rw [List.length_cons, List.length_cons, ih h2]
end
end Fw

namespace Fw
open PySem PySem.Spec PyProof.Rows L2 Evl
local macro_rules | `(tactic| walk_at "rv") => `(tactic| first | exact rv_I0 | exact rv_eq rfl | exact rv_ne rfl | exact rv_mod (by omega) | exact rv_div ⟨by omega, by omega⟩ | exact rv_mul (cmul_l ⟨by omega, by omega⟩) | exact rv_mul (cmul_r ⟨by omega, by omega⟩) | exact rv_isB | exact rv_notB | exact rv_isN | exact rv_notN)
local macro_rules | `(tactic| walk_at "ev") => `(tactic| first | assumption | exact ev_c | exact ev_var rfl | (refine ev_op ?_ ?_ ?_ <;> first | (walk_at "ev"; done) | (walk_at "rv"; done)) | (refine ev_un ?_ ru_neg; walk_at "ev") | (refine ev_andV ?_ (fun _ => ?_) <;> walk_at "ev") | (refine ev_orV ?_ (fun _ => ?_) <;> walk_at "ev") | (refine ev_notV ?_; walk_at "ev"))
local macro_rules | `(tactic| walk_at "et") => `(tactic| first | assumption | (refine et_test ?_; walk_at "ev") | (refine et_B ?_; walk_at "ev") | (refine et_not ?_; walk_at "et") | (refine et_and ?_ (fun _ => ?_) <;> walk_at "et") | (refine et_or ?_ (fun _ => ?_) <;> walk_at "et"))
abbrev D0 (Q : VK) : Ends := { nx := fun _ H' => Q .non H', rt := Q }
section
variable {K : PySem.W.Frag} {A : Ad} {vs : List V} {H : Hp} {Q : VK} {E : XK}
/-! ### is_whole -/
def sp_is_whole (K : PySem.W.Frag) (A : Ad) : Sp := fun vs H Q _ => ∃ v d, vs = [v] ∧ Th K H v d ∧ RetV (.bl (wholeD d)) H Q
def t_is_whole (K : PySem.W.Frag) (A : Ad) : TS :=
  (tRet (tAndV (tCB (rIsi K) (tCons (tVar 0) (tCons (tC (.ty "int")) tNil))) (tNotV (tCB (rIsi K) (tCons (tVar 0) (tCons (tC (.ty "bool")) tNil))))))
theorem r_is_whole (h : sp_is_whole K A vs H Q E) : t_is_whole K A (D0 Q) (start ["thing"] vs) H := by
  obtain ⟨v, d, rfl, hd, k⟩ := h
  refine s_retV (v := .bl (wholeD d)) ?_ k
  rw [← wholeD_is d]
  exact ev_andV (ev_isInt (ev_var rfl) hd) fun _ => ev_notV (ev_isBool (ev_var rfl) hd)
theorem ev_is_whole {te : TE} {σ : L2.St} {v : V} {d : PyData} {E : XK} (h : Ev te σ H v) (hd : Th K H v d) : Ev (tCall (sp_is_whole K A) [] E (tCons te tNil)) σ H (.bl (wholeD d)) :=
  ev_call1 (x_v h) fun x H1 e1 ex Q q => ⟨v, d, by rw [show x = v from ex], hd.mono e1, fun H' e => q H' e⟩
/-! ### is_laying -/
def sp_is_laying (K : PySem.W.Frag) (A : Ad) : Sp := fun vs H Q _ => ∃ v d, vs = [v] ∧ Th K H v d ∧ RetV (.bl (isLayD d)) H Q
def t_is_laying (K : PySem.W.Frag) (A : Ad) : TS :=
  (tSeq (tIfS (tNot (tB (tCB (rIsi K) (tCons (tVar 0) (tCons (tC (.ty "list")) tNil))))) (tRet (tC (.bl false))) tNext)
    (tSeq (tFor (iList K (tVar 0)) (gName 1) (tIfS (tOr (tNot (tB (tCall (sp_is_whole K A) [] E0 (tCons (tVar 1) tNil)))) (tOr (tTest (tOp rLtI (tVar 1) (tUn rNegI (tC (.int 1))))) (tTest (tOp rGtI (tVar 1) (tC (.int 1)))))) (tRet (tC (.bl false))) tNext))
    (tRet (tC (.bl true)))))
theorem not_list {d : PyData} (h : (!(tyD d == "list")) = true) : isLayD d = false := by
  cases d <;> first | rfl | (exfalso; simp [tyD] at h)
theorem is_list {d : PyData} (h : (!(tyD d == "list")) = false) : ∃ ds, d = .list ds := by
  cases d <;> first | exact ⟨_, rfl⟩ | (exfalso; simp [tyD] at h)
theorem take_all {p : PyData → Bool} {ds : List PyData} {i : Nat} {d : PyData} (h : ds[i]? = some d) (ha : (ds.take i).all p = true) (hd : p d = true) : (ds.take (i + 1)).all p = true := by
  rw [List.take_add_one, h, List.all_append, ha]
  simp [hd]
theorem all_not {p : PyData → Bool} {ds : List PyData} {i : Nat} {d : PyData} (h : ds[i]? = some d) (hd : p d = false) : ds.all p = false := by
  rw [List.all_eq_false]
  exact ⟨d, List.mem_of_getElem? h, by rw [hd]; decide⟩
theorem r_is_laying (h : sp_is_laying K A vs H Q E) : t_is_laying K A (D0 Q) (start ["thing", "one"] vs) H := by
  obtain ⟨v, d, rfl, hd, k⟩ := h
  refine q_when (et_not (et_B (ev_isList (ev_var rfl) hd))) (fun hb H1 e1 => ?_) (fun hb H1 e1 => ?_)
  · rw [not_list hb] at k
    exact s_retV ev_c (k.mono e1)
  · obtain ⟨ds, rfl⟩ := is_list hb
    have hd1 := hd.mono e1
    cases hd1 with
    | of hd1 =>
      cases hd1 with
      | @lst a xs _ hs ha =>
        have hl := dps_len ha
        refine q_forP (x_vl (ev_var rfl) hs) (fun i σ' => ∃ u, σ' = [some (.ref a), u] ∧ (ds.take i).all pmD = true) ⟨none, rfl, rfl⟩ ?_ ?_
        · rintro H2 i x σ' H' e2 e3 hx ⟨u, rfl, hall⟩
          obtain ⟨d, hd, hp⟩ := dps_at ha hx
          have hp' : Th K H' x d := .of (dp_mono (e2.trans e3) _ _ hp)
          have test : EvT (tOr (tNot (tB (tCall (sp_is_whole K A) [] E0 (tCons (tVar 1) tNil)))) (tOr (tTest (tOp rLtI (tVar 1) (tUn rNegI (tC (.int 1))))) (tTest (tOp rGtI (tVar 1) (tC (.int 1)))))) [some (.ref a), some x] H' (!pmD d) := by
            have h1 : EvT (tNot (tB (tCall (sp_is_whole K A) [] E0 (tCons (tVar 1) tNil)))) [some (.ref a), some x] H' (!wholeD d) := et_not (et_B (ev_is_whole (ev_var rfl) hp'))
            by_cases w : wholeD d = true
            · cases d with
              | int i =>
                cases hp
                refine et_is (et_or h1 fun _ => et_or (et_test (ev_op (ev_var rfl) (ev_un ev_c ru_neg) rv_I0)) fun _ => et_test (ev_op (ev_var rfl) ev_c rv_I0)) ?_
                show (!true || (decide (i < -1) || decide (1 < i))) = !(decide (-1 ≤ i) && decide (i ≤ 1))
                by_cases c1 : i < -1
                · simp [c1, show ¬ -1 ≤ i by omega]
                · by_cases c2 : 1 < i
                  · simp [c1, c2, show ¬ i ≤ 1 by omega]
                  · simp [c1, c2, show -1 ≤ i by omega, show i ≤ 1 by omega]
              | none => exact absurd w Bool.false_ne_true
              | bool b => exact absurd w Bool.false_ne_true
              | str b => exact absurd w Bool.false_ne_true
              | list b => exact absurd w Bool.false_ne_true
              | tuple b => exact absurd w Bool.false_ne_true
              | dict b => exact absurd w Bool.false_ne_true
            · have w' : wholeD d = false := by simpa using w
              have p' : pmD d = false := by
                cases d <;> first | rfl | exact absurd rfl w
              rw [w'] at h1
              exact et_is (et_or (b := true) h1 fun z => by cases z) (by rw [p']; rfl)
          refine s_when test (fun hb H4 e4 => ?_) (fun hb H4 e4 => ?_)
          · have p' : pmD d = false := by simpa using hb
            have z : isLayD (.list ds) = false := all_not hd p'
            rw [z] at k
            exact s_retV ev_c (k.mono (((e1.trans e2).trans e3).trans e4))
          · have p' : pmD d = true := by simpa using hb
            exact ⟨⟨_, rfl, take_all hd hall p'⟩, e3.trans e4⟩
        · rintro σ' H' e2 ⟨u, rfl, hall⟩
          rw [hl, List.take_length] at hall
          have z : isLayD (.list ds) = true := hall
          rw [z] at k
          exact s_retV ev_c (k.mono (e1.trans e2))
theorem ev_is_laying {te : TE} {σ : L2.St} {v : V} {d : PyData} {E : XK} (h : Ev te σ H v) (hd : Th K H v d) : Ev (tCall (sp_is_laying K A) [] E (tCons te tNil)) σ H (.bl (isLayD d)) :=
  ev_call1 (x_v h) fun x H1 e1 ex Q q => ⟨v, d, by rw [show x = v from ex], hd.mono e1, fun H' e => q H' e⟩
/-! ### good_laying -/
def sp_good_laying (K : PySem.W.Frag) (A : Ad) : Sp := fun vs H Q E => ∃ v d, vs = [v] ∧ Th K H v d ∧ (isLayD d = true → RetV v H Q) ∧ (isLayD d = false → RaiseE E A.laying H)
def t_good_laying (K : PySem.W.Frag) (A : Ad) (E : XK) : TS :=
  (tSeq (tIfS (tNot (tB (tCall (sp_is_laying K A) [] E0 (tCons (tVar 0) tNil)))) (tRaiseC A.laying E) tNext)
    (tRet (tVar 0)))
theorem r_good_laying (h : sp_good_laying K A vs H Q E) : t_good_laying K A E (D0 Q) (start ["laying"] vs) H := by
  obtain ⟨v, d, rfl, hd, k1, k2⟩ := h
  refine q_when (et_not (et_B (ev_is_laying (ev_var rfl) hd))) (fun hb H1 e1 => ?_) (fun hb H1 e1 => ?_)
  · exact k2 (by simpa using hb) H1 e1
  · exact s_retV (ev_var rfl) ((k1 (by simpa using hb)).mono e1)
/-- a promise of a def upon one laying: R says what it gives -/
def LaySp (R : List Int → Hp → VK → Prop) (K : PySem.W.Frag) (A : Ad) : Sp := fun vs H Q E => ∃ v d, vs = [v] ∧ Th K H v d ∧ (∀ ns, d = .list (ns.map PyData.int) → Few.Lay ns → R ns H Q) ∧ (isLayD d = false → RaiseE E A.laying H)
section
variable {te : TE} {σ : L2.St} {ns : List Int} {v : V} {d : PyData} {R : List Int → Hp → VK → Prop}
theorem LaySp.good (h : IL K ns v H) (hl : Few.Lay ns) (hr : R ns H Q) : LaySp R K A [v] H Q E :=
  ⟨v, _, rfl, il_th h, fun ms e _ => by
    have e' : ns = ms := ints_inj (PyData.list.inj e)
    rw [← e']
    exact hr, fun z => by rw [lay_ints hl] at z; cases z⟩
theorem LaySp.bad (h : Th K H v d) (hl : isLayD d = false) (hr : RaiseE E A.laying H) : LaySp R K A [v] H Q E :=
  ⟨v, d, rfl, h, (fun ms e l => by rw [e, lay_ints l] at hl; cases hl), fun _ => hr⟩
/-- the call of good_laying in a def of that kind -/
theorem x_good (h : EvX te σ H (IL K ns)) (hl : Few.Lay ns) : EvX (tCall (sp_good_laying K A) [] E (tCons te tNil)) σ H (IL K ns) :=
  x_call1 h fun x H1 e1 hx Q q => ⟨x, _, rfl, il_th hx, fun _ H' e => q x H' e (mono_il _ _ _ e hx), fun z => by rw [lay_ints hl] at z; cases z⟩
theorem er_good (h : EvX te σ H (fun v H => Th K H v d)) (hl : isLayD d = false) (k : RaiseE E A.laying H) : Er (tCall (sp_good_laying K A) [] E (tCons te tNil)) σ H :=
  er_call1 h fun x H1 e1 hx Q => ⟨x, d, rfl, hx, (fun z => by rw [hl] at z; cases z), fun _ => k.mono e1⟩
theorem x_th {i : Nat} (h : σ[i]? = some (some v)) (hd : Th K H v d) : EvX (tVar i) σ H (fun v H => Th K H v d) := x_of (ev_var h) (fun _ _ _ e p => p.mono e) hd
theorem x_ilv {i : Nat} (h : σ[i]? = some (some v)) (hd : IL K ns v H) : EvX (tVar i) σ H (IL K ns) := x_of (ev_var h) mono_il hd
end
/-! ### load_of -/
def sp_load_of (K : PySem.W.Frag) (A : Ad) : Sp := LaySp (fun ns => RetV (.int (Few.loadOf ns))) K A
def t_load_of (K : PySem.W.Frag) (A : Ad) (E : XK) : TS :=
  (tSeq (tAsg (tC (.int 0)) (gName 1))
    (tSeq (tFor (iRev K (tCons (tCall (sp_good_laying K A) [] E (tCons (tVar 0) tNil)) tNil)) (gName 2) (tAsg (tOp rAddI (tOp rMulI (tC (.int 2)) (tVar 1)) (tVar 2)) (gName 1)))
    (tRet (tVar 1))))
theorem load_drop {ns : List Int} {i : Nat} {n : Int} (hi : i < ns.length) (h : ns[ns.length - 1 - i]? = some n) : Few.loadOf (ns.drop (ns.length - (i + 1))) = 2 * Few.loadOf (ns.drop (ns.length - i)) + n := by
  have e : ns.length - (i + 1) = ns.length - 1 - i := by omega
  have hlt : ns.length - 1 - i < ns.length := by omega
  rw [e, List.drop_eq_getElem_cons hlt]
  have e2 : ns[ns.length - 1 - i] = n := by
    rw [List.getElem?_eq_getElem hlt] at h
    exact Option.some.inj h
  show 2 * Few.loadOf (ns.drop (ns.length - 1 - i + 1)) + ns[ns.length - 1 - i] = _
  rw [e2, show ns.length - 1 - i + 1 = ns.length - i by omega]
theorem r_load_of (h : sp_load_of K A vs H Q E) : t_load_of K A E (D0 Q) (start ["laying", "load", "one"] vs) H := by
  obtain ⟨v, d, rfl, hd, k1, k2⟩ := h
  refine q_asg ev_c fun H1 e1 => ?_
  cases hl : isLayD d with
  | false => exact er_qforRv (er_good (x_th rfl (hd.mono e1)) hl ((k2 hl).mono e1))
  | true =>
    obtain ⟨ns, rfl, l⟩ := lay_is hl
    have k := k1 ns rfl l
    refine q_forRvP (x_vlI (x_good (x_ilv rfl (hd.mono e1).il) l)) (fun i σ' => ∃ u, σ' = [some v, some (.int (Few.loadOf (ns.drop (ns.length - i)))), u]) ⟨none, by rw [Nat.sub_zero, List.drop_length]; rfl⟩ ?_ ?_
    · rintro H2 i x σ' H' e2 e3 hi hx ⟨u, rfl⟩
      rw [List.length_map] at hi hx
      obtain ⟨n, hn, rfl⟩ := of_map hx
      refine s_asg (v := .int (2 * Few.loadOf (ns.drop (ns.length - i)) + n)) (ev_op (ev_op ev_c (ev_var rfl) (rv_mul (cmul_l ⟨by decide, by decide⟩))) (ev_var rfl) rv_I0) fun H4 e4 => ?_
      refine ⟨⟨some (.int n), ?_⟩, e3.trans e4⟩
      rw [load_drop hi hn]
      rfl
    · rintro σ' H' e2 ⟨u, rfl⟩
      rw [List.length_map, Nat.sub_self, List.drop_zero]
      exact s_retV (ev_var rfl) (k.mono (e1.trans e2))
theorem ev_load_of {te : TE} {σ : L2.St} {ns : List Int} (h : EvX te σ H (IL K ns)) (hl : Few.Lay ns) : Ev (tCall (sp_load_of K A) [] E (tCons te tNil)) σ H (.int (Few.loadOf ns)) :=
  ev_call1 h fun x H1 e1 hx Q q => LaySp.good hx hl fun H' e => q H' e
theorem er_load_of {te : TE} {σ : L2.St} {d : PyData} (h : EvX te σ H (fun v H => Th K H v d)) (hl : isLayD d = false) (k : RaiseE E A.laying H) : Er (tCall (sp_load_of K A) [] E (tCons te tNil)) σ H :=
  er_call1 h fun x H1 e1 hx Q => LaySp.bad hx hl (k.mono e1)
/-! ### stones -/
def sp_stones (K : PySem.W.Frag) (A : Ad) : Sp := LaySp (fun ns => RetV (.int (Few.used ns : Nat))) K A
def t_stones (K : PySem.W.Frag) (A : Ad) (E : XK) : TS :=
  (tSeq (tAsg (tC (.int 0)) (gName 1))
    (tSeq (tFor (iList K (tCall (sp_good_laying K A) [] E (tCons (tVar 0) tNil))) (gName 2) (tIfS (tTest (tOp rNe (tVar 2) (tC (.int 0)))) (tAug 1 (tC (.int 1)) (ipI fun i j => i + j)) tNext))
    (tRet (tVar 1))))
theorem used_take {ns : List Int} {i : Nat} {n : Int} (h : ns[i]? = some n) : Few.used (ns.take (i + 1)) = Few.used (ns.take i) + if n = 0 then 0 else 1 := by
  rw [List.take_add_one, h]
  unfold Few.used
  rw [List.filter_append, List.length_append]
  by_cases z : n = 0
  · subst z
    simp
  · rw [if_neg z]
    simp [z]
theorem ne_zero {n : Int} : (!decide (V.int n = V.int 0)) = !decide (n = 0) := by
  by_cases h : n = 0
  · subst h
    simp
  · rw [decide_eq_false h, decide_eq_false (fun z => h (V.int.inj z))]
theorem eq_dec {n m : Int} : decide (V.int n = V.int m) = decide (n = m) := by
  by_cases h : n = m
  · subst h
    simp
  · rw [decide_eq_false h, decide_eq_false (fun z => h (V.int.inj z))]
theorem r_stones (h : sp_stones K A vs H Q E) : t_stones K A E (D0 Q) (start ["laying", "many", "one"] vs) H := by
  obtain ⟨v, d, rfl, hd, k1, k2⟩ := h
  refine q_asg ev_c fun H1 e1 => ?_
  cases hl : isLayD d with
  | false => exact er_qfor (er_good (x_th rfl (hd.mono e1)) hl ((k2 hl).mono e1))
  | true =>
    obtain ⟨ns, rfl, l⟩ := lay_is hl
    have k := k1 ns rfl l
    refine q_forP (x_vlI (x_good (x_ilv rfl (hd.mono e1).il) l)) (fun i σ' => ∃ u, σ' = [some v, some (.int (Few.used (ns.take i) : Nat)), u]) ⟨none, rfl⟩ ?_ ?_
    · rintro H2 i x σ' H' e2 e3 hx ⟨u, rfl⟩
      obtain ⟨n, hn, rfl⟩ := of_map hx
      have step := used_take hn
      refine s_when (et_test (ev_op (ev_var rfl) ev_c (rv_ne rfl))) (fun hb H4 e4 => ?_) (fun hb H4 e4 => ?_)
      · rw [ne_zero] at hb
        have z : ¬ n = 0 := by simpa using hb
        rw [if_neg z] at step
        refine s_aug rfl ev_c fun H5 e5 => ?_
        refine ⟨⟨some (.int n), ?_⟩, (e3.trans e4).trans e5⟩
        rw [step]
        rfl
      · rw [ne_zero] at hb
        have z : n = 0 := by simpa using hb
        rw [if_pos z] at step
        refine ⟨⟨some (.int n), ?_⟩, e3.trans e4⟩
        rw [step]
        rfl
    · rintro σ' H' e2 ⟨u, rfl⟩
      rw [List.length_map, List.take_length]
      exact s_retV (ev_var rfl) (k.mono (e1.trans e2))
theorem ev_stones {te : TE} {σ : L2.St} {ns : List Int} (h : EvX te σ H (IL K ns)) (hl : Few.Lay ns) : Ev (tCall (sp_stones K A) [] E (tCons te tNil)) σ H (.int (Few.used ns : Nat)) :=
  ev_call1 h fun x H1 e1 hx Q q => LaySp.good hx hl fun H' e => q H' e
/-! ### ended -/
def sp_ended (K : PySem.W.Frag) (A : Ad) : Sp := LaySp (fun ns => RetL ((Few.ended ns).map V.int)) K A
def t_ended (K : PySem.W.Frag) (A : Ad) (E : XK) : TS :=
  (tSeq (tAsg (tCB (Evl.rListS K) (tCons (tCall (sp_good_laying K A) [] E (tCons (tVar 0) tNil)) tNil)) (gName 1))
    (tSeq (tWhile (tAnd (tTest (tOp rGtI (tCB (Evl.rLenS K) (tCons (tVar 1) tNil)) (tC (.int 0)))) (tTest (tOp rEq (tOp (rIxL K) (tVar 1) (tUn rNegI (tC (.int 1)))) (tC (.int 0))))) (tDrop (tBM0 K "list" rPop (tVar 1))))
    (tRet (tVar 1))))
theorem at_last {r : List Int} {x : Int} : atI ((r ++ [x]).map V.int) (-1) = some (.int x) := by
  rw [List.map_append]
  exact atI_last _ _
theorem dropLast_ints {r : List Int} {x : Int} : ((r ++ [x]).map V.int).dropLast = r.map V.int := by
  rw [List.map_append]
  exact List.dropLast_concat
theorem r_ended (h : sp_ended K A vs H Q E) : t_ended K A E (D0 Q) (start ["laying", "kept"] vs) H := by
  obtain ⟨v, d, rfl, hd, k1, k2⟩ := h
  cases hl : isLayD d with
  | false => exact er_q (er_cb (er_good (x_th rfl hd) hl (k2 hl)))
  | true =>
    obtain ⟨ns, rfl, l⟩ := lay_is hl
    have k : RetL ((Few.ended ns).map V.int) H Q := k1 ns rfl l
    refine q_asgL (el_listX (x_vlI (x_good (x_ilv rfl hd.il) l))) fun p H1 hp e1 hx => ?_
    refine q_while (fun m σ' H' => ∃ ks : List Int, m = ks.length ∧ Few.ended ks = Few.ended ns ∧ σ' = [some v, some (.ref p)] ∧ Ex H H' ∧ H' p = some (.lst (ks.map V.int))) ns.length ⟨ns, rfl, rfl, rfl, e1, hx⟩ ?_
    rintro m σ' H' ⟨ks, rfl, he, rfl, e2, hk⟩
    have tl : EvT (tTest (tOp rGtI (tCB (Evl.rLenS K) (tCons (tVar 1) tNil)) (tC (.int 0)))) [some v, some (.ref p)] H' (decide (0 < (ks.length : Int))) :=
      et_test (ev_op (ev_lenX (x_ilv rfl ⟨p, rfl, sq_of hk⟩)) ev_c rv_I0)
    rcases Few.last_cases ks with z | ⟨r, x, z⟩
    · subst z
      refine ⟨false, et_and (b := false) tl (fun z => by cases z), (fun z => by cases z), fun _ H4 e4 => ?_⟩
      have e0 : Few.ended ns = [] := he.symm
      rw [e0] at k
      exact s_ret (ev_var rfl) fun H5 e5 => k p H5 hp ((e2.trans e4).trans e5) (e5 _ _ (e4 _ _ hk))
    · subst z
      have lt : EvT (tTest (tOp rEq (tOp (rIxL K) (tVar 1) (tUn rNegI (tC (.int 1)))) (tC (.int 0)))) [some v, some (.ref p)] H' (decide (x = 0)) := by
        refine et_is (et_test (ev_op (ev_op (ev_var rfl) (ev_un ev_c ru_neg) (rv_ixL (sq_of hk) at_last)) ev_c (rv_eq rfl))) eq_dec
      refine ⟨decide (x = 0), et_is (et_and tl fun _ => lt) (by rw [List.length_append]; simp), fun hb H4 e4 => ?_, fun hb H4 e4 => ?_⟩
      · have hx0 : x = 0 := of_decide_eq_true hb
        subst hx0
        refine ⟨fun σ2 H2 => σ2 = [some v, some (.ref p)] ∧ Ex H H2 ∧ H2 p = some (.lst (r.map V.int)), fun σ2 H2 q => ⟨r.length, by rw [List.length_append]; simp, r, rfl, by rw [← he, Few.ended_snoc0], q.1, q.2.1, q.2.2⟩, ?_⟩
        refine s_popS (y := .int 0) (e4 _ _ hk) (ev_var rfl) ?_ fun H5 e5 => ?_
        · rw [List.length_map, List.length_append, List.map_append]
          simp
        · rw [dropLast_ints]
          exact ⟨rfl, Ex.mut ((e2.trans e4).trans e5) hp, upd_same⟩
      · have hx0 : x ≠ 0 := by simpa using hb
        have ek : r ++ [x] = Few.ended ns := by rw [← he, Few.ended_snoc r hx0]
        rw [ek] at hk
        exact s_ret (ev_var rfl) fun H5 e5 => k p H5 hp ((e2.trans e4).trans e5) (e5 _ _ (e4 _ _ hk))
theorem el_ended {te : TE} {σ : L2.St} {ns : List Int} (h : EvX te σ H (IL K ns)) (hl : Few.Lay ns) : EvL (tCall (sp_ended K A) [] E (tCons te tNil)) σ H ((Few.ended ns).map V.int) :=
  el_call1 h fun x H1 e1 hx Q q => LaySp.good hx hl fun p H' hp e hx => q p H' hp e hx
/-! ### is_neat -/
def sp_is_neat (K : PySem.W.Frag) (A : Ad) : Sp := LaySp (fun ns => RetV (.bl (Few.neatB ns))) K A
def t_is_neat (K : PySem.W.Frag) (A : Ad) (E : XK) : TS :=
  (tSeq (tAsg (tC (.int 0)) (gName 1))
    (tSeq (tFor (iList K (tCall (sp_good_laying K A) [] E (tCons (tVar 0) tNil))) (gName 2) (tSeq (tIfS (tAnd (tTest (tOp rNe (tVar 1) (tC (.int 0)))) (tTest (tOp rNe (tVar 2) (tC (.int 0))))) (tRet (tC (.bl false))) tNext)
    (tAsg (tVar 2) (gName 1))))
    (tRet (tOrV (tOp (rEqD K) (tVar 0) (tLst tNil)) (tOp rNe (tVar 1) (tC (.int 0)))))))
theorem r_is_neat (h : sp_is_neat K A vs H Q E) : t_is_neat K A E (D0 Q) (start ["laying", "before", "one"] vs) H := by
  obtain ⟨v, d, rfl, hd, k1, k2⟩ := h
  refine q_asg ev_c fun H1 e1 => ?_
  cases hl : isLayD d with
  | false => exact er_qfor (er_good (x_th rfl (hd.mono e1)) hl ((k2 hl).mono e1))
  | true =>
    obtain ⟨ns, rfl, l⟩ := lay_is hl
    have k : RetV (.bl (Few.neatB ns)) H Q := k1 ns rfl l
    refine q_forP (x_vlI (x_good (x_ilv rfl (hd.mono e1).il) l)) (fun i σ' => ∃ u b, σ' = [some v, some (.int b), u] ∧ Few.beforeOf 0 (ns.take i) = b ∧ Few.apartB (ns.take i) = true) ⟨none, 0, rfl, rfl, rfl⟩ ?_ ?_
    · rintro H2 i x σ' H' e2 e3 hx ⟨u, b, rfl, hb, ha⟩
      obtain ⟨n, hn, rfl⟩ := of_map hx
      have t1 : EvT (tAnd (tTest (tOp rNe (tVar 1) (tC (.int 0)))) (tTest (tOp rNe (tVar 2) (tC (.int 0))))) [some v, some (.int b), some (.int n)] H' (!decide (b = 0) && !decide (n = 0)) :=
        et_and (et_is (et_test (ev_op (ev_var rfl) ev_c (rv_ne rfl))) ne_zero) fun _ => et_is (et_test (ev_op (ev_var rfl) ev_c (rv_ne rfl))) ne_zero
      have st := Few.apart_step hn ha hb
      refine q_when t1 (fun hc H4 e4 => ?_) (fun hc H4 e4 => ?_)
      · have z : Few.neatB ns = false := by
          rw [Few.neat_iff, st.2 hc]
          rfl
        rw [z] at k
        exact s_retV ev_c (k.mono (((e1.trans e2).trans e3).trans e4))
      · exact s_asg (ev_var rfl) fun H5 e5 => ⟨⟨some (.int n), n, rfl, Few.before_take hn, st.1 hc⟩, (e3.trans e4).trans e5⟩
    · rintro σ' H' e2 ⟨u, b, rfl, hb, ha⟩
      rw [List.length_map, List.take_length] at hb ha
      have hq := mono_il _ _ _ (e1.trans e2) hd.il
      refine s_retV (v := .bl (Few.neatB ns)) ?_ (k.mono (e1.trans e2))
      have first : Ev (tOp (rEqD K) (tVar 0) (tLst tNil)) [some v, some (.int b), u] H' (.bl (decide (ns = []))) := ev_eqI (ys := []) (x_ilv rfl hq) (x_ilL (el_lst ea_nil (by decide)))
      refine ev_is (ev_orV first fun _ => ev_is (ev_op (ev_var rfl) ev_c (rv_ne rfl)) (by rw [ne_zero])) ?_
      rw [Few.neat_by_last ns hb ha]
theorem ev_is_neat {te : TE} {σ : L2.St} {ns : List Int} (h : EvX te σ H (IL K ns)) (hl : Few.Lay ns) : Ev (tCall (sp_is_neat K A) [] E (tCons te tNil)) σ H (.bl (Few.neatB ns)) :=
  ev_call1 h fun x H1 e1 hx Q q => LaySp.good hx hl fun H' e => q H' e
/-! ### good_load, laid -/
def sp_good_load (K : PySem.W.Frag) (A : Ad) : Sp := fun vs H Q E => ∃ v d, vs = [v] ∧ Th K H v d ∧ (wholeD d = true → RetV v H Q) ∧ (wholeD d = false → RaiseE E A.load H)
def t_good_load (K : PySem.W.Frag) (A : Ad) (E : XK) : TS :=
  (tSeq (tIfS (tNot (tB (tCall (sp_is_whole K A) [] E0 (tCons (tVar 0) tNil)))) (tRaiseC A.load E) tNext)
    (tRet (tVar 0)))
theorem r_good_load (h : sp_good_load K A vs H Q E) : t_good_load K A E (D0 Q) (start ["load"] vs) H := by
  obtain ⟨v, d, rfl, hd, k1, k2⟩ := h
  refine q_when (et_not (et_B (ev_is_whole (ev_var rfl) hd))) (fun hb H1 e1 => ?_) (fun hb H1 e1 => ?_)
  · exact k2 (by simpa using hb) H1 e1
  · exact s_retV (ev_var rfl) ((k1 (by simpa using hb)).mono e1)
/-- a promise of a def upon one load -/
def LoadSp (R : Int → Hp → VK → Prop) (K : PySem.W.Frag) (A : Ad) : Sp := fun vs H Q E => ∃ v d, vs = [v] ∧ Th K H v d ∧ (∀ n, d = .int n → R n H Q) ∧ (wholeD d = false → RaiseE E A.load H)
theorem whole_is {d : PyData} (h : wholeD d = true) : ∃ n, d = .int n := by
  cases d <;> first | exact ⟨_, rfl⟩ | cases h
theorem th_int_is {v : V} {n : Int} (h : Th K H v (.int n)) : v = .int n := by
  cases h with
  | of h =>
    cases h
    rfl
section
variable {te : TE} {σ : L2.St} {n : Int} {v : V} {d : PyData} {R : Int → Hp → VK → Prop}
theorem LoadSp.good (hr : R n H Q) : LoadSp R K A [.int n] H Q E := ⟨.int n, .int n, rfl, th_int n, (fun m e => by cases e; exact hr), fun z => by cases z⟩
theorem LoadSp.bad (h : Th K H v d) (hl : wholeD d = false) (hr : RaiseE E A.load H) : LoadSp R K A [v] H Q E := ⟨v, d, rfl, h, (fun m e => by rw [e] at hl; cases hl), fun _ => hr⟩
theorem ev_goodload (h : Ev te σ H (.int n)) : Ev (tCall (sp_good_load K A) [] E (tCons te tNil)) σ H (.int n) :=
  ev_call1 (x_v h) fun x H1 e1 hx Q q => ⟨.int n, .int n, by rw [show x = V.int n from hx], th_int n, (fun _ H' e => q H' e), fun z => by cases z⟩
theorem er_goodload (h : EvX te σ H (fun v H => Th K H v d)) (hl : wholeD d = false) (k : RaiseE E A.load H) : Er (tCall (sp_good_load K A) [] E (tCons te tNil)) σ H :=
  er_call1 h fun x H1 e1 hx Q => ⟨x, d, rfl, hx, (fun z => by rw [hl] at z; cases z), fun _ => k.mono e1⟩
end
def sp_laid (K : PySem.W.Frag) (A : Ad) : Sp := LoadSp (fun n H Q => (Few.laid n).length < 100000 ∧ RetL ((Few.laid n).map V.int) H Q) K A
def t_laid (K : PySem.W.Frag) (A : Ad) (E : XK) : TS :=
  (tSeq (tAsg (tCall (sp_good_load K A) [] E (tCons (tVar 0) tNil)) (gName 1))
    (tSeq (tAsg (tLst tNil) (gName 2))
    (tSeq (tWhile (tTest (tOp rNe (tVar 1) (tC (.int 0)))) (tSeq (tAsg (tC (.int 0)) (gName 3))
    (tSeq (tIfS (tTest (tOp rEq (tOp rModI (tVar 1) (tC (.int 2))) (tC (.int 1)))) (tAsg (tOp rSubI (tC (.int 2)) (tOp rModI (tVar 1) (tC (.int 4)))) (gName 3)) tNext)
    (tSeq (tDrop (tBM K "list" rAppend (tVar 2) (tCons (tVar 3) tNil)))
    (tAsg (tOp rDivI (tOp rSubI (tVar 1) (tVar 3)) (tC (.int 2))) (gName 1))))))
    (tRet (tVar 2)))))
theorem r_laid (h : sp_laid K A vs H Q E) : t_laid K A E (D0 Q) (start ["load", "rest", "found", "one"] vs) H := by
  obtain ⟨v, d, rfl, hd, k1, k2⟩ := h
  cases hl : wholeD d with
  | false => exact er_q (er_goodload (x_th rfl hd) hl (k2 hl))
  | true =>
    obtain ⟨n, rfl⟩ := whole_is hl
    obtain ⟨hlen, k⟩ := k1 n rfl
    have hv := th_int_is hd
    subst hv
    refine q_asg (ev_goodload (ev_var rfl)) fun H1 e1 => ?_
    refine q_asgL (xs := []) (el_lst ea_nil (by decide)) fun p H2 hp e2 hx => ?_
    refine q_while (fun m σ' H' => ∃ (r : Int) (l : List Int) (u : Option V), m = r.natAbs ∧ l ++ Few.laid r = Few.laid n ∧ σ' = [some (.int n), some (.int r), some (.ref p), u] ∧ Ex H1 H' ∧ H' p = some (.lst (l.map V.int))) n.natAbs ⟨n, [], none, rfl, rfl, rfl, e2, hx⟩ ?_
    rintro m σ' H' ⟨r, l, u, rfl, he, rfl, e3, hk⟩
    refine ⟨!decide (r = 0), et_is (et_test (ev_op (ev_var rfl) ev_c (rv_ne rfl))) ne_zero, fun hb H4 e4 => ?_, fun hb H4 e4 => ?_⟩
    · have hr : r ≠ 0 := by simpa using hb
      have e0 := Few.laid_ne hr
      refine ⟨fun σ2 H2 => ∃ u, σ2 = [some (.int n), some (.int ((r - Few.digit r) / 2)), some (.ref p), u] ∧ Ex H1 H2 ∧ H2 p = some (.lst ((l ++ [Few.digit r]).map V.int)), fun σ2 H2 ⟨u, q1, q2, q3⟩ => ⟨_, Few.digit_less r hr, _, l ++ [Few.digit r], u, rfl, by rw [← he, e0]; simp, q1, q2, q3⟩, ?_⟩
      have hlt : (l.map V.int).length < 100000 := by
        have e5 : (l ++ Few.laid r).length = (Few.laid n).length := by rw [he]
        rw [List.length_append] at e5
        rw [List.length_map]
        omega
      refine q_asg ev_c fun H5 e5 => ?_
      refine q_ifAsg (v := .int (Few.digit r)) (b := decide (r % 2 = 1)) (et_is (et_test (ev_op (ev_op (ev_var rfl) ev_c (rv_mod (by decide))) ev_c (rv_eq rfl))) eq_dec) (fun hm => ?_) (fun hm => ?_) fun H6 e6 => ?_
      · have o : r % 2 = 1 := of_decide_eq_true hm
        refine ev_is (ev_op ev_c (ev_op (ev_var rfl) ev_c (rv_mod (by decide))) rv_I0) ?_
        unfold Few.digit
        rw [if_pos o]
      · have o : ¬ r % 2 = 1 := by simpa using hm
        unfold Few.digit
        rw [if_neg o]
        rfl
      · refine q_app (xs := l.map V.int) (e6 _ _ (e5 _ _ (e4 _ _ hk))) (ev_var rfl) (ev_var rfl) hlt fun H7 e7 => ?_
        refine s_asg (ev_op (ev_op (ev_var rfl) (ev_var rfl) rv_I0) ev_c (rv_div ⟨by decide, by decide⟩)) fun H8 e8 => ?_
        have hp1 : H1 p = none := hp
        refine ⟨some (.int (Few.digit r)), rfl, (Ex.mut ((((e3.trans e4).trans e5).trans e6).trans e7) hp1).trans e8, e8 _ _ ?_⟩
        rw [upd_same, List.map_append]
        rfl
    · have hr : r = 0 := by simpa using hb
      subst hr
      rw [Few.laid_zero, List.append_nil] at he
      rw [he] at hk
      exact s_ret (ev_var rfl) fun H5 e5 => k p H5 (fresh_back e1 hp) (((e1.trans e3).trans e4).trans e5) (e5 _ _ (e4 _ _ hk))
theorem el_laid {te : TE} {σ : L2.St} {n : Int} (h : Ev te σ H (.int n)) (hl : (Few.laid n).length < 100000) : EvL (tCall (sp_laid K A) [] E (tCons te tNil)) σ H ((Few.laid n).map V.int) :=
  el_call1 (x_v h) fun x H1 e1 hx Q q => by
    rw [show x = V.int n from hx]
    exact LoadSp.good ⟨hl, fun p H' hp e hx => q p H' hp e hx⟩
theorem er_laid {te : TE} {σ : L2.St} {d : PyData} (h : EvX te σ H (fun v H => Th K H v d)) (hl : wholeD d = false) (k : RaiseE E A.load H) : Er (tCall (sp_laid K A) [] E (tCons te tNil)) σ H :=
  er_call1 h fun x H1 e1 hx Q => LoadSp.bad hx hl (k.mono e1)
end
end Fw

namespace Fw
open PySem PySem.Spec PyProof.Rows L2 Evl
/-! comprehensions -/
section
variable {K : PySem.W.Frag} {σ : L2.St} {H H' : Hp} {ta : TA} {tb te tx tl : TE} {t u : TT} {x y z v : V}
def CwV (H : Hp) (xs : List V) (Dl : Addr) (H' : Hp) : Prop := H Dl = none ∧ Ex H H' ∧ H' Dl = some (.lst xs)
theorem cwv_turn {H H' : Hp} {acc : List V} {b : Bool} {y : V} {Dl : Addr} {σ2 : L2.St} (p : CwV H acc Dl H') (hi : acc.length < 50000) (ht : EvT t σ2 H b) (he : b = true → Ev te σ2 H y) (R : Hp → Prop) (hR : ∀ H2, CwV H (if b = true then acc ++ [y] else acc) Dl H2 → R H2) :
    t σ2 H' fun b H3 => if b = true then te σ2 H3 fun y H4 => ∃ acc, H4 Dl = some (.lst acc) ∧ acc.length < sizeLine ∧ R (upd H4 Dl (.lst (acc ++ [y]))) else R H3 := by
  obtain ⟨p1, p2, p3⟩ := p
  refine ht H' p2 _ fun H3 e3 => ?_
  cases hb : b with
  | true =>
    show te σ2 H3 fun y H4 => ∃ acc, H4 Dl = some (.lst acc) ∧ acc.length < sizeLine ∧ R (upd H4 Dl (.lst (acc ++ [y])))
    refine he hb H3 (p2.trans e3) _ fun H4 e4 => ⟨acc, e4 Dl _ (e3 Dl _ p3), sz_lt (by omega), hR _ ⟨p1, Ex.mut ((p2.trans e3).trans e4) p1, ?_⟩⟩
    rw [hb, if_pos rfl]
    exact upd_same
  | false =>
    show R H3
    refine hR _ ⟨p1, p2.trans e3, ?_⟩
    rw [hb, if_neg (by decide)]
    exact e3 Dl _ p3
theorem filt_take {f : V → Bool} {g : V → V} {xs : List V} {i : Nat} {x : V} (h : xs[i]? = some x) : ((xs.take (i + 1)).filter f).map g = if f x = true then ((xs.take i).filter f).map g ++ [g x] else ((xs.take i).filter f).map g := by
  rw [List.take_add_one, h, List.filter_append]
  show List.map g (List.filter f (List.take i xs) ++ List.filter f [x]) = _
  by_cases c : f x = true
  · rw [if_pos c, List.filter_cons, if_pos c, List.map_append]
    rfl
  · rw [if_neg c, List.filter_cons, if_neg c]
    simp
theorem filt_len {f : V → Bool} {g : V → V} {xs : List V} {i : Nat} : (((xs.take i).filter f).map g).length ≤ xs.length := by
  rw [List.length_map]
  have h := List.length_filter_le f (xs.take i)
  have h2 : (xs.take i).length ≤ xs.length := by
    rw [List.length_take]
    omega
  omega
theorem el_lcV {xs : List V} {j : Nat} {vs : List Nat} (f : V → Bool) (g : V → V) (h : EvX tl σ H (VL K xs)) (hz : xs.length ≤ 40000) (hw : ∀ x, wipe ((wipe σ vs).set j (some x)) vs = wipe σ vs)
    (ht : ∀ (x : V) H1, Ex H H1 → x ∈ xs → EvT t ((wipe σ vs).set j (some x)) H1 (f x)) (he : ∀ (x : V) H1, Ex H H1 → x ∈ xs → f x = true → Ev te ((wipe σ vs).set j (some x)) H1 (g x)) :
    EvL (tLc (iList K tl) (gName j) t te vs) σ H ((xs.filter f).map g) := fun H0 e Q q => h H0 e _ fun v H1 e1 ⟨a, ev, hx⟩ => ⟨a, ev, ⟨xs, hx⟩, fun Dl hD =>
  lc_list (xs := xs) (fun i => CwV H1 (((xs.take i).filter f).map g) Dl) ⟨hD, Ex.new hD, upd_same⟩ (fun i H' _ p => ex_l p.2.1 hx) (fun i x H' hi p => ⟨hw x, by
    refine cwv_turn (b := f x) (y := g x) p (by have := @filt_len f g xs i; omega) (ht x H1 (e.trans e1) (List.mem_of_getElem? hi)) (fun hf => he x H1 (e.trans e1) (List.mem_of_getElem? hi) hf) _ fun H2 p2 => ?_
    rw [filt_take hi]
    exact p2⟩) (fun H' p => q Dl H' (fresh_back e1 p.1) (e1.trans p.2.1) (by have z := p.2.2; rw [List.take_length] at z; exact z))⟩
theorem el_lcI {ns : List Int} {j : Nat} {vs : List Nat} (f : Int → Bool) (g : Int → V) (h : EvX tl σ H (IL K ns)) (hz : ns.length ≤ 40000) (hw : ∀ x, wipe ((wipe σ vs).set j (some x)) vs = wipe σ vs)
    (ht : ∀ (n : Int) H1, Ex H H1 → n ∈ ns → EvT t ((wipe σ vs).set j (some (.int n))) H1 (f n)) (he : ∀ (n : Int) H1, Ex H H1 → n ∈ ns → f n = true → Ev te ((wipe σ vs).set j (some (.int n))) H1 (g n)) :
    EvL (tLc (iList K tl) (gName j) t te vs) σ H ((ns.filter f).map g) := by
  have key := el_lcV (xs := ns.map V.int) (fun x => match x with | .int n => f n | _ => false) (fun x => match x with | .int n => g n | _ => x) (x_vlI h) (by rw [List.length_map]; exact hz) hw (t := t) (te := te) (fun x H1 e hx => by
    obtain ⟨n, hn, rfl⟩ := List.mem_map.mp hx
    exact ht n H1 e hn) (fun x H1 e hx hf => by
    obtain ⟨n, hn, rfl⟩ := List.mem_map.mp hx
    exact he n H1 e hn hf)
  rw [List.filter_map, List.map_map] at key
  exact key
theorem et_yes : EvT tYes σ H true := fun H1 _ Q q => q H1 (Ex.refl H1)
/-- without a test -/
theorem el_lcI0 {ns : List Int} {j : Nat} {vs : List Nat} (g : Int → V) (h : EvX tl σ H (IL K ns)) (hz : ns.length ≤ 40000) (hw : ∀ x, wipe ((wipe σ vs).set j (some x)) vs = wipe σ vs)
    (he : ∀ (n : Int) H1, Ex H H1 → n ∈ ns → Ev te ((wipe σ vs).set j (some (.int n))) H1 (g n)) :
    EvL (tLc (iList K tl) (gName j) tYes te vs) σ H (ns.map g) := by
  have k := el_lcI (t := tYes) (te := te) (fun _ => true) g h hz hw (fun _ _ _ _ => et_yes) (fun n H1 e hn _ => he n H1 e hn)
  rw [List.filter_eq_self.mpr (fun _ _ => rfl)] at k
  exact k
/-- slices -/
theorem cut_to {xs : List V} {n : Nat} : cutV xs none (some (n : Int)) = xs.take n := by
  unfold cutV
  rw [HT.sIx_none, HT.sIx_nat, List.drop_zero, Nat.sub_zero]
  rcases Nat.le_total n xs.length with h | h
  · rw [Nat.min_eq_left h]
  · rw [Nat.min_eq_right h, List.take_length, List.take_of_length_le h]
theorem cut_from {xs : List V} {n : Nat} : cutV xs (some (n : Int)) none = xs.drop n := by
  unfold cutV
  rw [HT.sIx_none, HT.sIx_nat]
  rcases Nat.le_total n xs.length with h | h
  · rw [Nat.min_eq_left h]
    exact List.take_of_length_le (by rw [List.length_drop]; exact Nat.le_refl _)
  · rw [Nat.min_eq_right h, List.drop_length, List.drop_of_length_le h]
    simp
theorem el_to {ns : List Int} {n : Nat} {i : Int} (h : EvX te σ H (IL K ns)) (hb : Ev tb σ H (.int i)) (hi : i = (n : Int)) : EvL (tSl (rSlL K) te tNoPart (tPart tb)) σ H ((ns.take n).map V.int) := fun H1 e Q q =>
  h H1 e _ fun v H2 e2 hv => (eo_none (σ := σ) (H := H)) H2 (e.trans e2) _ fun H3 e3 => (eo_some hb) H3 ((e.trans e2).trans e3) _ fun H4 e4 => by
    obtain ⟨a, rfl, hs⟩ := hv
    refine ⟨a, _, rfl, ex_l (e3.trans e4) hs, fun p hp => q p _ (fresh_back ((e2.trans e3).trans e4) hp) (((e2.trans e3).trans e4).trans (Ex.new hp)) ?_⟩
    rw [upd_same, hi, cut_to, List.map_take]
theorem el_from {ns : List Int} {n : Nat} {i : Int} (h : EvX te σ H (IL K ns)) (hb : Ev tb σ H (.int i)) (hi : i = (n : Int)) : EvL (tSl (rSlL K) te (tPart tb) tNoPart) σ H ((ns.drop n).map V.int) := fun H1 e Q q =>
  h H1 e _ fun v H2 e2 hv => (eo_some hb) H2 (e.trans e2) _ fun H3 e3 => (eo_none (σ := σ) (H := H)) H3 ((e.trans e2).trans e3) _ fun H4 e4 => by
    obtain ⟨a, rfl, hs⟩ := hv
    refine ⟨a, _, rfl, ex_l (e3.trans e4) hs, fun p hp => q p _ (fresh_back ((e2.trans e3).trans e4) hp) (((e2.trans e3).trans e4).trans (Ex.new hp)) ?_⟩
    rw [upd_same, hi, cut_from, List.map_drop]
end
end Fw

namespace Fw
open PySem PySem.Spec PyProof.Rows L2 Evl
/-! the lists that a def has made, written out: all else is as it was -/
def Led (H0 H : Hp) (ps : List (Addr × List V)) : Prop := Ex H0 H ∧ (∀ q ∈ ps, H0 q.1 = none ∧ H q.1 = some (.lst q.2)) ∧ (ps.map (·.1)).Nodup
section
variable {H0 H H1 : Hp} {ps : List (Addr × List V)} {p : Addr} {xs ys : List V}
theorem Led.nil (H : Hp) : Led H H [] := ⟨Ex.refl H, (fun q h => by cases h), List.nodup_nil⟩
theorem Led.ext (h : Led H0 H ps) : Ex H0 H := h.1
theorem Led.ex (h : Led H0 H ps) (e : Ex H H1) : Led H0 H1 ps := ⟨h.1.trans e, fun q hq => ⟨(h.2.1 q hq).1, e _ _ (h.2.1 q hq).2⟩, h.2.2⟩
theorem Led.new (h : Led H0 H ps) (hp : H p = none) (e : Ex H H1) (hx : H1 p = some (.lst xs)) : Led H0 H1 ((p, xs) :: ps) := by
  refine ⟨h.1.trans e, fun q hq => ?_, ?_⟩
  · rcases List.mem_cons.mp hq with z | z
    · rw [z]
      exact ⟨fresh_back h.1 hp, hx⟩
    · exact ⟨(h.2.1 q z).1, e _ _ (h.2.1 q z).2⟩
  · rw [List.map_cons, List.nodup_cons]
    refine ⟨fun z => ?_, h.2.2⟩
    obtain ⟨q, hq, eq⟩ := List.mem_map.mp z
    have a := (h.2.1 q hq).2
    rw [eq, hp] at a
    cases a
theorem Led.at (h : Led H0 H ps) (i : Nat) (hi : ps[i]? = some (p, xs)) : H p = some (.lst xs) := (h.2.1 _ (List.mem_of_getElem? hi)).2
theorem Led.free (h : Led H0 H ps) (i : Nat) (hi : ps[i]? = some (p, xs)) : H0 p = none := (h.2.1 _ (List.mem_of_getElem? hi)).1
theorem set_keys : ∀ {ps : List (Addr × List V)} {i : Nat} {p : Addr} {xs ys : List V}, ps[i]? = some (p, xs) → (ps.set i (p, ys)).map (·.1) = ps.map (·.1)
  | [], i, p, xs, ys, h => by simp at h
  | q :: r, 0, p, xs, ys, h => by
    have e : q = (p, xs) := Option.some.inj h
    rw [e]
    rfl
  | q :: r, i + 1, p, xs, ys, h => by
    have ih := set_keys (ps := r) (i := i) (p := p) (xs := xs) (ys := ys) h
    show q.1 :: (r.set i (p, ys)).map (·.1) = q.1 :: r.map (·.1)
    rw [ih]
theorem mem_set_of {ps : List (Addr × List V)} {i : Nat} {a : Addr × List V} {q : Addr × List V} (h : q ∈ ps.set i a) : q = a ∨ ∃ j, j ≠ i ∧ ps[j]? = some q := by
  obtain ⟨j, hj⟩ := List.getElem?_of_mem h
  by_cases e : j = i
  · subst e
    left
    rw [List.getElem?_set_self'] at hj
    cases z : ps[j]? with
    | none =>
      rw [z] at hj
      cases hj
    | some w =>
      rw [z] at hj
      exact (Option.some.inj hj).symm
  · right
    rw [List.getElem?_set_ne (Ne.symm e)] at hj
    exact ⟨j, e, hj⟩
theorem Led.put (h : Led H0 H ps) (i : Nat) (ys : List V) (hi : ps[i]? = some (p, xs)) : Led H0 (upd H p (.lst ys)) (ps.set i (p, ys)) := by
  refine ⟨Ex.mut h.1 (h.free i hi), fun q hq => ?_, ?_⟩
  · rcases mem_set_of hq with z | ⟨j, hj, z⟩
    · rw [z]
      exact ⟨h.free i hi, upd_same⟩
    · have ne : q.1 ≠ p := fun eq => by
        have a : (ps.map (·.1))[j]? = some p := by
          rw [List.getElem?_map, z]
          exact congrArg some eq
        have b : (ps.map (·.1))[i]? = some p := by
          rw [List.getElem?_map, hi]
          rfl
        exact hj (nd_ix h.2.2 a b)
      rw [upd_ne ne]
      exact h.2.1 q (List.mem_of_getElem? z)
  · rw [set_keys hi]
    exact h.2.2
variable {K : PySem.W.Frag} {ns : List Int}
theorem Led.il (h : Led H0 H ps) (i : Nat) (hi : ps[i]? = some (p, ns.map V.int)) : IL K ns (.ref p) H := ⟨p, rfl, sq_of (h.at i hi)⟩
end
/-! ### helpers that most laws have -/
section
variable {K : PySem.W.Frag} {A : Ad} {vs : List V} {H : Hp} {Q : VK} {E : XK}
/-! _law_cell_at -/
def cellAt (ns : List Int) (k : Nat) : Int := ns.getD k 0
def sp_l_cell_at (K : PySem.W.Frag) (A : Ad) : Sp := fun vs H Q _ => ∃ v ns, ∃ k : Nat, vs = [v, .int (k : Int)] ∧ IL K ns v H ∧ RetV (.int (cellAt ns k)) H Q
def t_l_cell_at (K : PySem.W.Frag) (A : Ad) : TS :=
  (tSeq (tIfS (tTest (tOp rLtI (tVar 1) (tCB (Evl.rLenS K) (tCons (tVar 0) tNil)))) (tRet (tOp (rIxL K) (tVar 0) (tVar 1))) tNext)
    (tRet (tC (.int 0))))
theorem r_l_cell_at (h : sp_l_cell_at K A vs H Q E) : t_l_cell_at K A (D0 Q) (start ["_law_script", "_law_k"] vs) H := by
  obtain ⟨v, ns, j, rfl, hv, k⟩ := h
  refine q_when (et_test (ev_op (ev_var rfl) (ev_lenX (x_ilv rfl hv)) rv_I0)) (fun hb H1 e1 => ?_) (fun hb H1 e1 => ?_)
  · have hb' : (j : Int) < (ns.length : Int) := of_decide_eq_true hb
    have hj : j < ns.length := by omega
    have g : ns[j]? = some (cellAt ns j) := by
      unfold cellAt
      rw [List.getD_eq_getElem?_getD, List.getElem?_eq_getElem hj]
      rfl
    exact s_retV (ev_ix (x_ilv rfl (mono_il _ _ _ e1 hv)) (ev_var rfl) rfl g) (k.mono e1)
  · have hb' : ¬ (j : Int) < (ns.length : Int) := of_decide_eq_false hb
    have hj : ns.length ≤ j := by omega
    have g : cellAt ns j = 0 := by
      unfold cellAt
      rw [List.getD_eq_getElem?_getD, List.getElem?_eq_none hj]
      rfl
    rw [g] at k
    exact s_retV ev_c (k.mono e1)
theorem ev_cell {te tx : TE} {σ : L2.St} {ns : List Int} {k : Nat} {i : Int} (h : EvX te σ H (IL K ns)) (h2 : Ev tx σ H (.int i)) (hi : i = (k : Int)) : Ev (tCall (sp_l_cell_at K A) [] E (tCons te (tCons tx tNil))) σ H (.int (cellAt ns k)) :=
  ev_call2 h mono_il (x_v h2) fun x y H1 e1 hx hy Q q => ⟨x, ns, k, by rw [show y = V.int i from hy, hi], hx, fun H' e => q H' e⟩
/-! _law_whole -/
def sp_l_whole (K : PySem.W.Frag) (A : Ad) : Sp := sp_is_whole K A
def t_l_whole (K : PySem.W.Frag) (A : Ad) : TS :=
  (tRet (tAndV (tCB (rIsi K) (tCons (tVar 0) (tCons (tC (.ty "int")) tNil))) (tNotV (tCB (rIsi K) (tCons (tVar 0) (tCons (tC (.ty "bool")) tNil))))))
theorem r_l_whole (h : sp_l_whole K A vs H Q E) : t_l_whole K A (D0 Q) (start ["_law_found"] vs) H := r_is_whole h
theorem ev_l_whole {te : TE} {σ : L2.St} {n : Int} {E : XK} (h : Ev te σ H (.int n)) : Ev (tCall (sp_l_whole K A) [] E (tCons te tNil)) σ H (.bl true) := ev_is_whole h (th_int n)
/-! _law_load, by reversed -/
def sp_l_load (K : PySem.W.Frag) (A : Ad) : Sp := fun vs H Q _ => ∃ v ns, vs = [v] ∧ IL K ns v H ∧ RetV (.int (Few.loadOf ns)) H Q
def t_l_load (K : PySem.W.Frag) (A : Ad) : TS :=
  (tSeq (tAsg (tC (.int 0)) (gName 1))
    (tSeq (tFor (iRev K (tCons (tVar 0) tNil)) (gName 2) (tAsg (tOp rAddI (tOp rMulI (tC (.int 2)) (tVar 1)) (tVar 2)) (gName 1)))
    (tRet (tVar 1))))
theorem r_l_load (h : sp_l_load K A vs H Q E) : t_l_load K A (D0 Q) (start ["_law_things_here", "_law_load_here", "_law_thing"] vs) H := by
  obtain ⟨v, ns, rfl, hv, k⟩ := h
  refine q_asg ev_c fun H1 e1 => ?_
  refine q_forRvP (x_vlI (x_ilv rfl (mono_il _ _ _ e1 hv))) (fun i σ' => ∃ u, σ' = [some v, some (.int (Few.loadOf (ns.drop (ns.length - i)))), u]) ⟨none, by rw [Nat.sub_zero, List.drop_length]; rfl⟩ ?_ ?_
  · rintro H2 i x σ' H' e2 e3 hi hx ⟨u, rfl⟩
    rw [List.length_map] at hi hx
    obtain ⟨n, hn, rfl⟩ := of_map hx
    refine s_asg (v := .int (2 * Few.loadOf (ns.drop (ns.length - i)) + n)) (ev_op (ev_op ev_c (ev_var rfl) (rv_mul (cmul_l ⟨by decide, by decide⟩))) (ev_var rfl) rv_I0) fun H4 e4 => ?_
    refine ⟨⟨some (.int n), ?_⟩, e3.trans e4⟩
    rw [load_drop hi hn]
    rfl
  · rintro σ' H' e2 ⟨u, rfl⟩
    rw [List.length_map, Nat.sub_self, List.drop_zero]
    exact s_retV (ev_var rfl) (k.mono (e1.trans e2))
theorem ev_l_load {te : TE} {σ : L2.St} {ns : List Int} (h : EvX te σ H (IL K ns)) : Ev (tCall (sp_l_load K A) [] E (tCons te tNil)) σ H (.int (Few.loadOf ns)) :=
  ev_call1 h fun x H1 e1 hx Q q => ⟨x, ns, rfl, hx, fun H' e => q H' e⟩
/-! _law_ended -/
def sp_l_ended (K : PySem.W.Frag) (A : Ad) : Sp := fun vs H Q _ => ∃ v ns, vs = [v] ∧ IL K ns v H ∧ ns.length ≤ 100000 ∧ RetL ((Few.ended ns).map V.int) H Q
def t_l_ended (K : PySem.W.Frag) (A : Ad) : TS :=
  (tSeq (tAsg (tC (.int 0)) (gName 1))
    (tSeq (tFor (iRng1 (tCons (tCB (Evl.rLenS K) (tCons (tVar 0) tNil)) tNil)) (gName 2) (tIfS (tTest (tOp rNe (tOp (rIxL K) (tVar 0) (tVar 2)) (tC (.int 0)))) (tAsg (tOp rAddI (tVar 2) (tC (.int 1))) (gName 1)) tNext))
    (tRet (tSl (rSlL K) (tVar 0) tNoPart (tPart (tVar 1))))))
theorem r_l_ended (h : sp_l_ended K A vs H Q E) : t_l_ended K A (D0 Q) (start ["_law_things_here", "_law_size", "_law_k"] vs) H := by
  obtain ⟨v, ns, rfl, hv, hlen, k⟩ := h
  refine q_asg ev_c fun H1 e1 => ?_
  have hv1 := mono_il _ _ _ e1 hv
  refine q_forRgP (n := (ns.length : Int)) (ea_cons (ev_lenX (x_ilv rfl hv1)) ea_nil) ⟨by omega, by omega⟩ (fun i σ' => ∃ u, ∃ s : Nat, σ' = [some v, some (.int (s : Int)), u] ∧ s ≤ i ∧ ns.take s = Few.ended (ns.take i)) ⟨none, 0, rfl, Nat.le_refl _, rfl⟩ ?_ ?_
  · rintro H2 i σ' H' e2 e3 hi ⟨u, s, rfl, hs, he⟩
    have hi' : i < ns.length := by omega
    have g : ns[i]? = some ns[i] := List.getElem?_eq_getElem hi'
    have hv2 := mono_il _ _ _ (e2.trans e3) hv1
    have tk : ns.take (i + 1) = ns.take i ++ [ns[i]] := by
      rw [List.take_add_one, g]
      rfl
    refine s_when (et_is (et_test (ev_op (ev_ix (x_ilv rfl hv2) (ev_var rfl) rfl g) ev_c (rv_ne rfl))) ne_zero) (fun hb H4 e4 => ?_) (fun hb H4 e4 => ?_)
    · have z : ns[i] ≠ 0 := by simpa using hb
      refine s_asg (v := .int ((i + 1 : Nat) : Int)) (ev_op (ev_var rfl) ev_c rv_I0) fun H5 e5 => ?_
      refine ⟨⟨some (.int (i : Int)), i + 1, rfl, Nat.le_refl _, ?_⟩, (e3.trans e4).trans e5⟩
      rw [tk, Few.ended_snoc _ z]
    · have z : ns[i] = 0 := by simpa using hb
      refine ⟨⟨some (.int (i : Int)), s, rfl, Nat.le_succ_of_le hs, ?_⟩, e3.trans e4⟩
      rw [tk, z, Few.ended_snoc0, he]
  · rintro σ' H' e2 ⟨u, s, rfl, hs, he⟩
    have e0 : ns.take ((ns.length : Int).toNat) = ns := by
      rw [Int.toNat_natCast]
      exact List.take_length
    rw [e0] at he
    rw [← he] at k
    exact s_retLL (el_to (x_ilv rfl (mono_il _ _ _ e2 hv1)) (ev_var rfl) rfl) (k.mono (e1.trans e2))
theorem el_l_ended {te : TE} {σ : L2.St} {ns : List Int} (h : EvX te σ H (IL K ns)) (hl : ns.length ≤ 100000) : EvL (tCall (sp_l_ended K A) [] E (tCons te tNil)) σ H ((Few.ended ns).map V.int) :=
  el_call1 h fun x H1 e1 hx Q q => ⟨x, ns, rfl, hx, hl, fun p H' hp e hx => q p H' hp e hx⟩
/-! _law_alike -/
def sp_l_alike (K : PySem.W.Frag) (A : Ad) : Sp := fun vs H Q _ => ∃ v w xs ys, vs = [v, w] ∧ IL K xs v H ∧ IL K ys w H ∧ ys.length ≤ 100000 ∧ RetV (.bl (decide (xs = ys))) H Q
def t_l_alike (K : PySem.W.Frag) (A : Ad) : TS :=
  (tSeq (tIfS (tOr (tNot (tB (tCB (rIsi K) (tCons (tVar 0) (tCons (tC (.ty "list")) tNil))))) (tTest (tOp rNe (tCB (Evl.rLenS K) (tCons (tVar 0) tNil)) (tCB (Evl.rLenS K) (tCons (tVar 1) tNil))))) (tRet (tC (.bl false))) tNext)
    (tSeq (tFor (iRng1 (tCons (tCB (Evl.rLenS K) (tCons (tVar 1) tNil)) tNil)) (gName 2) (tIfS (tOr (tNot (tB (tCall (sp_l_whole K A) [] E0 (tCons (tOp (rIxL K) (tVar 0) (tVar 2)) tNil)))) (tTest (tOp rNe (tOp (rIxL K) (tVar 0) (tVar 2)) (tOp (rIxL K) (tVar 1) (tVar 2))))) (tRet (tC (.bl false))) tNext))
    (tRet (tC (.bl true)))))
theorem take_eq_step {xs ys : List Int} {i : Nat} (hx : i < xs.length) (hy : i < ys.length) (h : xs.take i = ys.take i) (e : xs[i] = ys[i]) : xs.take (i + 1) = ys.take (i + 1) := by
  rw [List.take_add_one, List.take_add_one, h, List.getElem?_eq_getElem hx, List.getElem?_eq_getElem hy, e]
theorem r_l_alike (h : sp_l_alike K A vs H Q E) : t_l_alike K A (D0 Q) (start ["_law_found", "_law_due", "_law_k"] vs) H := by
  obtain ⟨v, w, xs, ys, rfl, hv, hw, hlen, k⟩ := h
  have hnl : decide (V.int (xs.length : Int) = V.int (ys.length : Int)) = decide (xs.length = ys.length) := by
    rw [eq_dec]
    by_cases c : xs.length = ys.length
    · rw [c]
      simp
    · rw [decide_eq_false c, decide_eq_false (by omega)]
  refine q_when (b := !decide (xs.length = ys.length)) (et_is (et_or (et_not (et_B (ev_isList (ev_var rfl) (il_th hv)))) fun _ => et_test (ev_op (ev_lenX (x_ilv rfl hv)) (ev_lenX (x_ilv rfl hw)) (rv_ne rfl))) (by rw [hnl]; simp [tyD])) (fun hb H1 e1 => ?_) (fun hb H1 e1 => ?_)
  · have z : xs ≠ ys := fun e => by
      rw [e] at hb
      simp at hb
    rw [decide_eq_false z] at k
    exact s_retV ev_c (k.mono e1)
  · have hl : xs.length = ys.length := by simpa using hb
    have hv1 := mono_il _ _ _ e1 hv
    have hw1 := mono_il _ _ _ e1 hw
    refine q_forRgP (n := (ys.length : Int)) (ea_cons (ev_lenX (x_ilv rfl hw1)) ea_nil) ⟨by omega, by omega⟩ (fun i σ' => ∃ u, σ' = [some v, some w, u] ∧ xs.take i = ys.take i) ⟨none, rfl, rfl⟩ ?_ ?_
    · rintro H2 i σ' H' e2 e3 hi ⟨u, rfl, he⟩
      have hy' : i < ys.length := by omega
      have hx' : i < xs.length := by omega
      have g1 : xs[i]? = some xs[i] := List.getElem?_eq_getElem hx'
      have g2 : ys[i]? = some ys[i] := List.getElem?_eq_getElem hy'
      have hv2 := mono_il _ _ _ (e2.trans e3) hv1
      have hw2 := mono_il _ _ _ (e2.trans e3) hw1
      have ix1 : Ev (tOp (rIxL K) (tVar 0) (tVar 2)) [some v, some w, some (.int (i : Int))] H' (.int xs[i]) := ev_ix (x_ilv rfl hv2) (ev_var rfl) rfl g1
      have ix2 : Ev (tOp (rIxL K) (tVar 1) (tVar 2)) [some v, some w, some (.int (i : Int))] H' (.int ys[i]) := ev_ix (x_ilv rfl hw2) (ev_var rfl) rfl g2
      refine s_when (b := !decide (xs[i] = ys[i])) (et_is (et_or (et_not (et_B (ev_l_whole ix1))) fun _ => et_test (ev_op ix1 ix2 (rv_ne rfl))) (by rw [eq_dec]; rfl)) (fun hb H4 e4 => ?_) (fun hb H4 e4 => ?_)
      · have z : xs ≠ ys := fun e => by
          subst e
          simp at hb
        rw [decide_eq_false z] at k
        exact s_retV ev_c (k.mono (((e1.trans e2).trans e3).trans e4))
      · have z : xs[i] = ys[i] := by simpa using hb
        exact ⟨⟨some (.int (i : Int)), rfl, take_eq_step hx' hy' he z⟩, e3.trans e4⟩
    · rintro σ' H' e2 ⟨u, rfl, he⟩
      rw [Int.toNat_natCast, List.take_length, ← hl, List.take_length] at he
      rw [decide_eq_true he] at k
      exact s_retV ev_c (k.mono (e1.trans e2))
theorem ev_alike {te tx : TE} {σ : L2.St} {xs ys : List Int} (h : EvX te σ H (IL K xs)) (h2 : EvX tx σ H (IL K ys)) (hl : ys.length ≤ 100000) : Ev (tCall (sp_l_alike K A) [] E (tCons te (tCons tx tNil))) σ H (.bl (decide (xs = ys))) :=
  ev_call2 h mono_il h2 fun x y H1 e1 hx hy Q q => ⟨x, y, xs, ys, rfl, hx, hy, hl, fun H' e => q H' e⟩
end
end Fw

namespace Fw
open PySem PySem.Spec PyProof.Rows L2 Evl
/-! errors caught -/
theorem pss_pre {X : Cx} {sts : List Stmt} {p : Prop} {t : TS} (h : p → PSs X sts t) : PSs X sts (fun D σ H => p ∧ t D σ H) := ⟨fun pins s σ H D I w => (h w.1).run pins s σ H D I w.2⟩
/-- an except suite that is met with an error of the class at D alone -/
def sufC (D : Addr) (ts : Addr → TS) : Addr → Value → Option Addr → TS := fun a cls d D' σ H => (cls = .ref D ∧ d = none) ∧ ts a D' σ H
def tTryC (K : PySem.W.Frag) (D S : Addr) (i : Nat) (tb : WX → TS) (ts : Addr → TS) : TS := fun D' σ H => tb (wAs K (.ref S) i (sufC D ts) (fun _ _ _ _ => False) D') D' σ H
/-- what the written part says of the error class at D, asked of the others -/
structure Caught (K : PySem.W.Frag) (A : Ad) (D : Addr) (b1 b2 b3 b4 b5 : Bool) : Prop where
  te : PySem.W.exmOne K (.ref D) (.ref A.stone) = some true
  ve : PySem.W.kitOne K (.ref D) (.type "ValueError") = some true
  ly : PySem.W.kitOne K (.ref D) (.ref A.laying) = some b1
  lo : PySem.W.kitOne K (.ref D) (.ref A.load) = some b2
  pl : PySem.W.kitOne K (.ref D) (.ref A.plan) = some b3
  tx : PySem.W.kitOne K (.ref D) (.ref A.text) = some b4
  de : PySem.W.kitOne K (.ref D) (.ref A.deed) = some b5
theorem kit_ref {K : PySem.W.Frag} {D C : Addr} {b : Bool} (hd : PySem.W.hasDictIn K C = true) (ht : PySem.W.typeIn K (.ref C) = some (.type "type")) (hs : PySem.W.subIn K (.ref D) (.ref C) = some b) (self : PySem.W.subIn K (.ref D) (.ref D) = some true) : PySem.W.kitOne K (.ref D) (.ref C) = some b := by
  unfold PySem.W.kitOne
  by_cases e : (Value.ref D == Value.ref C) = true
  · rw [if_pos e]
    have e' : D = C := Value.ref.inj (beq_iff_eq.mp e)
    rw [← e', self] at hs
    exact hs
  · rw [if_neg e]
    obtain ⟨cd, hc, _⟩ := PySem.W.any_some hd
    show (if ((PySem.W.clsIn K C).isSome && PySem.W.typeIn K (.ref C) == some (.type "type")) = true then PySem.W.subIn K (.ref D) (.ref C) else none) = some b
    rw [hc, ht, if_pos (by simp)]
    exact hs
theorem kit_type {K : PySem.W.Frag} {D : Addr} {T : String} {b : Bool} (hm : PySem.W.kitMeta T = true) (hs : PySem.W.subIn K (.ref D) (.type T) = some b) : PySem.W.kitOne K (.ref D) (.type T) = some b := by
  unfold PySem.W.kitOne
  rw [if_neg (by intro z; cases beq_iff_eq.mp z)]
  show (if PySem.W.kitMeta T = true then PySem.W.subIn K (.ref D) (.type T) else none) = some b
  rw [if_pos hm]
  exact hs
section
variable {K : PySem.W.Frag} {A : Ad} {σ : L2.St} {H H' : Hp} {ta : TA} {tb te tx tl : TE} {D : Ends} {tz : TS}
theorem ev_isE {C a : Addr} {i : Nat} {n : String} {b : Bool} (h : σ[i]? = some (some (.ref a))) (hk : PySem.W.kitOne K (.ref C) (.type n) = some b) : Ev (tCB (rIsE K C a) (tCons (tVar i) (tCons (tC (.ty n)) tNil))) σ H (.bl b) :=
  ev_cb (ea_cons (ev_var h) (ea_cons ev_c ea_nil)) fun H1 _ Q q => ⟨.ty n, .type n, b, rfl, (fun u r => r), hk, q H1 (Ex.refl H1)⟩
theorem ev_isEC {C a c : Addr} {i : Nat} {b : Bool} (h : σ[i]? = some (some (.ref a))) (hk : PySem.W.kitOne K (.ref C) (.ref c) = some b) : Ev (tCB (rIsE K C a) (tCons (tVar i) (tCons (tC (.ref c)) tNil))) σ H (.bl b) :=
  ev_cb (ea_cons (ev_var h) (ea_cons ev_c ea_nil)) fun H1 _ Q q => ⟨.ref c, .ref c, b, rfl, (fun u r => r), hk, q H1 (Ex.refl H1)⟩
/-- a try whose body is a call that raises D -/
theorem q_tryDrop {C S : Addr} {i : Nat} {sp : Sp} {P : V → Hp → Prop} {ts : Addr → TS} (h : EvX te σ H P) (hs : ∀ x H1, Ex H H1 → P x H1 → ∀ (Q : VK) (E : XK), RaiseE E C H1 → sp [x] H1 Q E) (ht : PySem.W.exmOne K (.ref C) (.ref S) = some true)
    (k : ∀ a H1, Ex H H1 → H1 a = none → ts a { nx := fun σ' H' => tz D (σ'.set i none) H', rt := D.rt, bk := fun σ' H' => D.bk (σ'.set i none) H', ct := fun σ' H' => D.ct (σ'.set i none) H' } (σ.set i (some (.ref a))) H1) :
    tSeq (tTryC K C S i (fun W => tDrop (tCallS sp (WE W) (tCons te tNil))) ts) tz D σ H :=
  h H (Ex.refl H) _ fun v H1 e1 hp => hs v H1 e1 hp _ _ fun H2 e2 => ⟨true, ht, fun _ a ha => ⟨⟨rfl, rfl⟩, k a H2 (e1.trans e2) ha⟩, fun z => by cases z⟩
/-- .. that runs through -/
theorem q_tryThru {C S : Addr} {i : Nat} {sp : Sp} {P : V → Hp → Prop} {ts : Addr → TS} (h : EvX te σ H P) (hs : ∀ x H1, Ex H H1 → P x H1 → ∀ (Q : VK) (E : XK), (∀ v H2, Ex H1 H2 → Q v H2) → sp [x] H1 Q E)
    (k : ∀ H1, Ex H H1 → tz D σ H1) : tSeq (tTryC K C S i (fun W => tDrop (tCallS sp (WE W) (tCons te tNil))) ts) tz D σ H :=
  h H (Ex.refl H) _ fun v H1 e1 hp => hs v H1 e1 hp _ _ fun v H2 e2 => k H2 (e1.trans e2)
/-! lists of things -/
inductive ThAll (K : PySem.W.Frag) (H : Hp) : List V → List PyData → Prop
  | nil : ThAll K H [] []
  | cons {v : V} {vs : List V} {d : PyData} {ds : List PyData} : Th K H v d → ThAll K H vs ds → ThAll K H (v :: vs) (d :: ds)
theorem ThAll.mono (e : Ex H H') : ∀ {vs : List V} {ds : List PyData}, ThAll K H vs ds → ThAll K H' vs ds
  | _, _, .nil => .nil
  | _, _, .cons a b => .cons (a.mono e) (b.mono e)
theorem ThAll.at : ∀ {vs : List V} {ds : List PyData}, ThAll K H vs ds → ∀ {i : Nat} {x : V}, vs[i]? = some x → ∃ d, ds[i]? = some d ∧ Th K H x d
  | _, _, .nil, i, x, h => by simp at h
  | _, _, .cons a b, 0, x, h => ⟨_, rfl, by have e := Option.some.inj h; rw [← e]; exact a⟩
  | _, _, .cons a b, i + 1, x, h => ThAll.at b (i := i) (x := x) h
theorem ThAll.length : ∀ {vs : List V} {ds : List PyData}, ThAll K H vs ds → vs.length = ds.length
  | _, _, .nil => rfl
  | _, _, .cons a b => by rw [List.length_cons, List.length_cons, ThAll.length b]
abbrev ThP (K : PySem.W.Frag) (d : PyData) : V → Hp → Prop := fun v H => Th K H v d
theorem mono_th {d : PyData} : Mono (ThP K d) := fun _ _ _ e p => p.mono e
theorem xt_c {v : V} {d : PyData} (h : ∀ H, Th K H v d) : EvX (tC v) σ H (ThP K d) := x_of ev_c mono_th (h H)
theorem xt_nil : EaX tNil σ H (fun vs H => ThAll K H vs []) := fun H1 _ _ q => q _ H1 (Ex.refl H1) .nil
theorem xt_cons {tr : TA} {d : PyData} {ds : List PyData} (h : EvX te σ H (ThP K d)) (hr : EaX tr σ H (fun vs H => ThAll K H vs ds)) : EaX (tCons te tr) σ H (fun vs H => ThAll K H vs (d :: ds)) := fun H1 e Q q =>
  h H1 e _ fun v H2 e2 hp => hr H2 (e.trans e2) _ fun vs H3 e3 hR => q _ H3 (e2.trans e3) (.cons (hp.mono e3) hR)
/-- a list of things -/
def ThL (K : PySem.W.Frag) (ds : List PyData) : V → Hp → Prop := fun v H => ∃ a xs, v = .ref a ∧ SqL K H a xs ∧ ThAll K H xs ds
theorem mono_thl {ds : List PyData} : Mono (ThL K ds) := fun _ _ _ e ⟨a, xs, h, s, t⟩ => ⟨a, xs, h, ex_l e s, t.mono e⟩
theorem xt_lst {ds : List PyData} (h : EaX ta σ H (fun vs H => ThAll K H vs ds)) (hz : ds.length ≤ 100000) : EvX (tLst ta) σ H (ThL K ds) := fun H1 e Q q =>
  h H1 e _ fun vs H2 e2 hr => ⟨sz_of (by rw [hr.length]; exact hz), fun p hp => q _ _ (e2.trans (Ex.new hp)) ⟨p, vs, rfl, sq_of upd_same, hr.mono (Ex.new hp)⟩⟩
/-- [5], (5,): things -/
theorem dpa_of : ∀ {vs : List V} {ds : List PyData}, ThAll K H vs ds → (∀ d ∈ ds, d ≠ .dict []) → DpAll K H vs ds
  | _, _, .nil, _ => .nil
  | _, _, .cons (d := d) a b, h => .cons (by
      cases a with
      | of a => exact a
      | dict a => exact absurd rfl (h _ List.mem_cons_self)) (dpa_of b fun d hd => h d (List.mem_cons_of_mem _ hd))
theorem xt_lstD {ds : List PyData} (h : EaX ta σ H (fun vs H => ThAll K H vs ds)) (hz : ds.length ≤ 100000) (hd : ∀ d ∈ ds, d ≠ .dict []) : EvX (tLst ta) σ H (ThP K (.list ds)) := fun H1 e Q q =>
  h H1 e _ fun vs H2 e2 hr => ⟨sz_of (by rw [hr.length]; exact hz), fun p hp => q _ _ (e2.trans (Ex.new hp)) (.of (.lst (sq_of upd_same) (dpa_of (hr.mono (Ex.new hp)) hd)))⟩
theorem xt_tup {ds : List PyData} (h : EaX ta σ H (fun vs H => ThAll K H vs ds)) (hz : ds.length ≤ 100000) (hd : ∀ d ∈ ds, d ≠ .dict []) : EvX (tTup ta) σ H (ThP K (.tuple ds)) := fun H1 e Q q =>
  h H1 e _ fun vs H2 e2 hr => ⟨sz_of (by rw [hr.length]; exact hz), fun p hp => q _ _ (e2.trans (Ex.new hp)) (.of (.tup (st_of upd_same) (dpa_of (hr.mono (Ex.new hp)) hd)))⟩
abbrev tDictN : TE := tDNewK
theorem xt_dict : EvX tDictN σ H (ThP K (.dict [])) := fun H1 e Q q p hp => q _ _ (Ex.new hp) (.dict upd_same)
/-- a loop over things -/
theorem q_forTh {ds : List PyData} {j : Nat} {tu : TS} (h : EvX tl σ H (ThL K ds)) (I : Nat → L2.St → Prop) (h0 : I 0 σ)
    (hs : ∀ H1 i x d σ' H', Ex H H1 → Ex H1 H' → ds[i]? = some d → Th K H' x d → I i σ' → tu { D with nx := NX H1 (I (i + 1)), ct := NX H1 (I (i + 1)), bk := tz D } (σ'.set j (some x)) H')
    (hd : ∀ σ' H', Ex H H' → I ds.length σ' → tz D σ' H') : tSeq (tFor (iList K tl) (gName j) tu) tz D σ H :=
  h H (Ex.refl H) _ fun v H1 e1 ⟨a, xs, ev, hq, ht⟩ => ⟨a, ev, ⟨xs, hq⟩, for_list (K := K) (D := { D with nx := tz D }) (a := a) (xs := xs) (fun i => NX H1 (I i)) ⟨h0, Ex.refl H1⟩ (fun i σ' H' _ p => ex_l p.2 hq) (fun i x σ' H' hx p => by
    obtain ⟨d, hd, th⟩ := ht.at hx
    exact hs H1 i x d σ' H' e1 p.2 hd (th.mono p.2) p.1) (fun σ' H' p => by
    have hp := p.1
    rw [ht.length] at hp
    exact hd σ' H' (e1.trans p.2) hp)⟩
/-- == of two lists of truths -/
theorem dps_bl {bs : List Bool} : DpAll K H (bs.map V.bl) (bs.map PyData.bool) := by
  induction bs with
  | nil => exact .nil
  | cons n r ih => exact .cons (.bl n) ih
theorem ev_eqB {xs ys : List Bool} (ha : EvX te σ H (VL K (xs.map V.bl))) (hb : EvX tb σ H (VL K (ys.map V.bl))) (s1 : SeqAt.shaped (.list (xs.map PyData.bool)) = true) (s2 : SeqAt.shaped (.list (ys.map PyData.bool)) = true) :
    Ev (tOp (rEqD K) te tb) σ H (.bl (PyData.eqvAll (xs.map PyData.bool) (ys.map PyData.bool))) := ev_opX ha mono_vl hb fun x y H1 _ ⟨a, ea, p⟩ ⟨b, eb, q⟩ H2 e2 Q k => by
  subst ea eb
  refine ⟨_, _, .lst (ex_l e2 p) dps_bl, .lst (ex_l e2 q) dps_bl, s1, s2, ?_⟩
  have z : PyData.eqv (.list (xs.map PyData.bool)) (.list (ys.map PyData.bool)) = PyData.eqvAll (xs.map PyData.bool) (ys.map PyData.bool) := by simp [PyData.eqv]
  rw [z]
  exact k H2 (Ex.refl H2)
/-- xs.insert(i, y) -/
abbrev rInsert : V → List V → Hp → VK → Prop := fun x vs H Q => ∃ (l : Addr) (xs : List V) (i : Int) (y : V), x = .ref l ∧ vs = [.int i, y] ∧ H l = some (.lst xs) ∧ xs.length < sizeLine ∧ 0 ≤ i ∧ i < 2 ^ 63 ∧ Q .non (upd H l (.lst (xs.take i.toNat ++ [y] ++ xs.drop i.toNat)))
theorem q_ins0 {l : Addr} {xs : List V} {v : V} (hl : H l = some (.lst xs)) (ha : Ev te σ H (.ref l)) (hi : Ev tb σ H (.int 0)) (hv : Ev tx σ H v) (hz : xs.length < 100000) (k : ∀ H1, Ex H H1 → tz D σ (upd H1 l (.lst (v :: xs)))) :
    tSeq (tDrop (tBM K "list" rInsert te (tCons tb (tCons tx tNil)))) tz D σ H := ha H (Ex.refl H) _ fun H1 e1 =>
  ⟨Or.inl ⟨rfl, xs, sq_of (e1 l _ hl)⟩, hi H1 e1 _ fun H2 e2 => hv H2 (e1.trans e2) _ fun H3 e3 => ⟨l, xs, 0, v, rfl, rfl, e3 _ _ (e2 l _ (e1 l _ hl)), sz_lt hz, by decide, by decide, k H3 ((e1.trans e2).trans e3)⟩⟩
end
end Fw

namespace Fw
open PySem PySem.Spec PyProof.Rows L2 Evl
section
variable {K : PySem.W.Frag} {A : Ad} {vs : List V} {H : Hp} {Q : VK} {E : XK}
/-! _law_power -/
def sp_l_power (K : PySem.W.Frag) (A : Ad) : Sp := fun vs H Q _ => ∃ k : Nat, vs = [.int (k : Int)] ∧ k ≤ 100000 ∧ RetV (.int (2 ^ k)) H Q
def t_l_power (K : PySem.W.Frag) (A : Ad) : TS :=
  (tSeq (tAsg (tC (.int 1)) (gName 1))
    (tSeq (tFor (iRng1 (tCons (tVar 0) tNil)) (gName 2) (tAsg (tOp rAddI (tVar 1) (tVar 1)) (gName 1)))
    (tRet (tVar 1))))
theorem pow_step (i : Nat) : (2 : Int) ^ i + 2 ^ i = 2 ^ (i + 1) := by
  rw [Int.pow_succ]
  omega
theorem r_l_power (h : sp_l_power K A vs H Q E) : t_l_power K A (D0 Q) (start ["_law_k", "_law_found", "_law_j"] vs) H := by
  obtain ⟨n, rfl, hn, k⟩ := h
  refine q_asg ev_c fun H1 e1 => ?_
  refine q_forRgP (n := (n : Int)) (ea_cons (ev_var rfl) ea_nil) ⟨by omega, by omega⟩ (fun i σ' => ∃ u, σ' = [some (.int (n : Int)), some (.int (2 ^ i)), u]) ⟨none, rfl⟩ ?_ ?_
  · rintro H2 i σ' H' e2 e3 hi ⟨u, rfl⟩
    refine s_asg (ev_op (ev_var rfl) (ev_var rfl) rv_I0) fun H4 e4 => ⟨⟨some (.int (i : Int)), ?_⟩, e3.trans e4⟩
    rw [← pow_step]
    rfl
  · rintro σ' H' e2 ⟨u, rfl⟩
    rw [Int.toNat_natCast]
    exact s_retV (ev_var rfl) (k.mono (e1.trans e2))
theorem ev_power {te : TE} {σ : L2.St} {i : Int} {k : Nat} (h : Ev te σ H (.int i)) (hi : i = (k : Int)) (hk : k ≤ 100000) : Ev (tCall (sp_l_power K A) [] E (tCons te tNil)) σ H (.int (2 ^ k)) :=
  ev_call1 (x_v h) fun x H1 e1 hx Q q => ⟨k, by rw [show x = V.int i from hx, hi], hk, fun H' e => q H' e⟩
/-! _law_neat (by things, then by range(1, n)) -/
def sp_l_neat (K : PySem.W.Frag) (A : Ad) : Sp := fun vs H Q _ => ∃ v ns, vs = [v] ∧ IL K ns v H ∧ Few.Lay ns ∧ ns.length ≤ 100000 ∧ RetV (.bl (Few.neatB ns)) H Q
def t_l_neat (K : PySem.W.Frag) (A : Ad) : TS :=
  (tSeq (tIfS (tNot (tB (tCB (rIsi K) (tCons (tVar 0) (tCons (tC (.ty "list")) tNil))))) (tRet (tC (.bl false))) tNext)
    (tSeq (tFor (iList K (tVar 0)) (gName 1) (tIfS (tOr (tNot (tB (tCall (sp_l_whole K A) [] E0 (tCons (tVar 1) tNil)))) (tOr (tTest (tOp rLtI (tVar 1) (tUn rNegI (tC (.int 1))))) (tTest (tOp rGtI (tVar 1) (tC (.int 1)))))) (tRet (tC (.bl false))) tNext))
    (tSeq (tFor (iRng2 (tCons (tC (.int 1)) (tCons (tCB (Evl.rLenS K) (tCons (tVar 0) tNil)) tNil))) (gName 2) (tIfS (tAnd (tTest (tOp rNe (tOp (rIxL K) (tVar 0) (tVar 2)) (tC (.int 0)))) (tTest (tOp rNe (tOp (rIxL K) (tVar 0) (tOp rSubI (tVar 2) (tC (.int 1)))) (tC (.int 0))))) (tRet (tC (.bl false))) tNext))
    (tRet (tOrV (tOp (rEqD K) (tVar 0) (tLst tNil)) (tOp rNe (tOp (rIxL K) (tVar 0) (tUn rNegI (tC (.int 1)))) (tC (.int 0))))))))
theorem lay_test {n : Int} (h : Few.Pm n) : (!true || (decide (n < -1) || decide (1 < n))) = false := by
  unfold Few.Pm at h
  simp
  omega
theorem before_at {ns : List Int} {i : Nat} (hi : i < ns.length) : Few.beforeOf 0 (ns.take (i + 1)) = ns[i] := Few.before_take (List.getElem?_eq_getElem hi)
/-- found == [] or found[-1] != 0 -/
theorem ev_lastOr {σ : L2.St} {ns : List Int} {i : Nat} (hv : ∃ v, σ[i]? = some (some v) ∧ IL K ns v H) : Ev (tOrV (tOp (rEqD K) (tVar i) (tLst tNil)) (tOp rNe (tOp (rIxL K) (tVar i) (tUn rNegI (tC (.int 1)))) (tC (.int 0)))) σ H (.bl (decide (ns = []) || !decide (Few.beforeOf 0 ns = 0))) := by
  obtain ⟨v, hs, hv⟩ := hv
  have first : Ev (tOp (rEqD K) (tVar i) (tLst tNil)) σ H (.bl (decide (ns = []))) := ev_eqI (ys := []) (x_ilv hs hv) (x_ilL (el_lst ea_nil (by decide)))
  rcases Few.last_cases ns with z | ⟨r, x, z⟩
  · subst z
    exact ev_orV (a := true) first fun z => by cases z
  · subst z
    obtain ⟨a, rfl, hs'⟩ := hv
    have e : Few.beforeOf 0 (r ++ [x]) = x := by
      unfold Few.beforeOf
      simp
    rw [e]
    exact ev_orV first fun _ => ev_is (ev_op (ev_op (ev_var hs) (ev_un ev_c ru_neg) (rv_ixL hs' at_last)) ev_c (rv_ne rfl)) (by rw [ne_zero])
theorem r_l_neat (h : sp_l_neat K A vs H Q E) : t_l_neat K A (D0 Q) (start ["_law_found", "_law_thing", "_law_k"] vs) H := by
  obtain ⟨v, ns, rfl, hv, hl, hz, k⟩ := h
  refine q_skip (et_not (et_B (ev_isList (ev_var rfl) (il_th hv)))) (by simp [tyD]) fun H1 e1 => ?_
  have hv1 := mono_il _ _ _ e1 hv
  refine q_forP (x_vlI (x_ilv rfl hv1)) (fun i σ' => ∃ u, σ' = [some v, u, none]) ⟨none, rfl⟩ ?_ ?_
  · rintro H2 i x σ' H' e2 e3 hx ⟨u, rfl⟩
    obtain ⟨n, hn, rfl⟩ := of_map hx
    have pm := hl n (List.mem_of_getElem? hn)
    refine s_when (et_or (et_not (et_B (ev_l_whole (ev_var rfl)))) fun _ => et_or (et_test (ev_op (ev_var rfl) (ev_un ev_c ru_neg) rv_I0)) fun _ => et_test (ev_op (ev_var rfl) ev_c rv_I0)) (fun hb H4 e4 => ?_) (fun hb H4 e4 => ?_)
    · have z := lay_test pm
      rw [z] at hb
      cases hb
    · exact ⟨⟨some (.int n), rfl⟩, e3.trans e4⟩
  · rintro σ' H' e2 ⟨u, rfl⟩
    have hv2 := mono_il _ _ _ e2 hv1
    refine q_forRg2P (lo := 1) (n := (ns.length : Int)) (ea_cons ev_c (ea_cons (ev_lenX (x_ilv rfl hv2)) ea_nil)) ⟨by omega, by omega, by omega, by omega⟩ (fun i σ' => ∃ u2, σ' = [some v, u, u2] ∧ Few.apartB (ns.take (i + 1)) = true) ⟨none, rfl, ?_⟩ ?_ ?_
    · cases ns with
      | nil => rfl
      | cons n r => rfl
    · rintro H3 i σ' H4 e3 e4 hi ⟨u2, rfl, ha⟩
      have hi1 : i + 1 < ns.length := by omega
      have g1 : ns[i + 1]? = some ns[i + 1] := List.getElem?_eq_getElem hi1
      have g0 : ns[i]? = some ns[i] := List.getElem?_eq_getElem (by omega)
      have hv4 := mono_il _ _ _ (e3.trans e4) hv2
      have st := Few.apart_step g1 ha (before_at (by omega))
      refine s_when (b := !decide (ns[i] = 0) && !decide (ns[i + 1] = 0)) ?_ (fun hb H5 e5 => ?_) (fun hb H5 e5 => ?_)
      · refine et_is (et_and (et_is (et_test (ev_op (ev_ix (j := i + 1) (x_ilv rfl hv4) (ev_var rfl) (by omega) g1) ev_c (rv_ne rfl))) ne_zero) fun _ => et_is (et_test (ev_op (ev_ix (j := i) (x_ilv rfl hv4) (ev_op (ev_var rfl) ev_c rv_I0) (by omega) g0) ev_c (rv_ne rfl))) ne_zero) ?_
        rw [Bool.and_comm]
      · have z : Few.neatB ns = false := by
          rw [Few.neat_iff, st.2 hb]
          rfl
        rw [z] at k
        exact s_retV ev_c (k.mono ((((e1.trans e2).trans e3).trans e4).trans e5))
      · exact ⟨⟨some (.int (1 + (i : Int))), rfl, st.1 hb⟩, e4.trans e5⟩
    · rintro σ' H5 e3 ⟨u2, rfl, ha⟩
      have ha' : Few.apartB ns = true := by
        rw [List.take_of_length_le (by omega)] at ha
        exact ha
      rw [Few.neat_by_last ns rfl ha'] at k
      exact s_retV (ev_lastOr ⟨v, rfl, mono_il _ _ _ e3 hv2⟩) (k.mono ((e1.trans e2).trans e3))
theorem ev_neat {te : TE} {σ : L2.St} {ns : List Int} (h : EvX te σ H (IL K ns)) (hl : Few.Lay ns) (hz : ns.length ≤ 100000) : Ev (tCall (sp_l_neat K A) [] E (tCons te tNil)) σ H (.bl (Few.neatB ns)) :=
  ev_call1 h fun x H1 e1 hx Q q => ⟨x, ns, rfl, hx, hl, hz, fun H' e => q H' e⟩
/-! small things -/
theorem lay_mod (ns : List Int) : Few.Lay (ns.map fun c => c % 3 - 1) := by
  intro x hx
  obtain ⟨y, _, rfl⟩ := List.mem_map.mp hx
  unfold Few.Pm
  omega
theorem pm_mod (c : Int) : Few.Pm (c % 3 - 1) := by
  unfold Few.Pm
  omega
theorem map_snoc (ts : List Int) (x : Int) : ts.map V.int ++ [V.int x] = (ts ++ [x]).map V.int := by rw [List.map_append]; rfl
theorem len_mapI (l : List Int) : (l.map V.int).length = l.length := List.length_map ..
theorem mod_nat (c : Int) (m : Nat) (hm : 0 < m) : ∃ k : Nat, c % (m : Int) = (k : Int) ∧ k < m := by
  have b1 := Int.emod_nonneg c (show (m : Int) ≠ 0 by omega)
  have b2 := Int.emod_lt_of_pos c (show (0 : Int) < (m : Int) by omega)
  exact ⟨(c % (m : Int)).toNat, by omega, by omega⟩
theorem rep_zero (n : Nat) : (List.replicate n [V.int 0]).flatten = (List.replicate n (0 : Int)).map V.int := by
  induction n with
  | zero => rfl
  | succ n ih =>
    rw [List.replicate_succ, List.replicate_succ, List.flatten_cons, ih]
    rfl
/-- [0] * n -/
theorem el_zeros {tb : TE} {σ : L2.St} {n : Int} (hb : Ev tb σ H (.int n)) (h : 0 ≤ n ∧ n ≤ 100000) : EvL (tOp rRep (tLst (tCons (tC (.int 0)) tNil)) tb) σ H ((List.replicate n.toNat (0 : Int)).map V.int) := by
  rw [← rep_zero]
  exact el_repX (x_mlL (el_lst (ea_cons ev_c ea_nil) (by decide))) hb ⟨by omega, by omega⟩ (by rw [show ([V.int 0] : List V).length = 1 from rfl]; omega)
/-! xs.clear(), xs.extend(ys) -/
section
variable {σ : L2.St} {te tb : TE} {D : Ends} {tz : TS}
theorem q_clear {l : Addr} {xs : List V} (hl : H l = some (.lst xs)) (ha : Ev te σ H (.ref l)) (k : ∀ H1, Ex H H1 → tz D σ (upd H1 l (.lst []))) : tSeq (tDrop (tBM0 K "list" rClear te)) tz D σ H :=
  ha H (Ex.refl H) _ fun H1 e1 => ⟨.inl ⟨rfl, xs, sq_of (e1 l _ hl)⟩, l, xs, rfl, rfl, e1 l _ hl, k H1 e1⟩
theorem q_extend {l b : Addr} {xs ys : List V} (hl : H l = some (.lst xs)) (hb : H b = some (.lst ys)) (ha : Ev te σ H (.ref l)) (hy : Ev tb σ H (.ref b)) (hz : xs.length + ys.length ≤ 100000) (k : ∀ H1, Ex H H1 → tz D σ (upd H1 l (.lst (xs ++ ys)))) : tSeq (tDrop (tBM K "list" rExtend te (tCons tb tNil))) tz D σ H :=
  ha H (Ex.refl H) _ fun H1 e1 => ⟨.inl ⟨rfl, xs, sq_of (e1 l _ hl)⟩, hy H1 e1 _ fun H2 e2 => ⟨l, b, xs, ys, rfl, rfl, e2 _ _ (e1 l _ hl), e2 _ _ (e1 b _ hb), sz_of hz, k H2 (e1.trans e2)⟩⟩
end
/-- a new list of whole numbers of which P is true -/
def RetN (P : List Int → Prop) (H : Hp) (Q : VK) : Prop := ∀ p H' ts, H p = none → Ex H H' → H' p = some (.lst (ts.map V.int)) → P ts → Q (.ref p) H'
def EvN (te : TE) (σ : L2.St) (H : Hp) (P : List Int → Prop) : Prop := ∀ H1, Ex H H1 → ∀ Q : VK, (∀ p H2 ts, H1 p = none → Ex H1 H2 → H2 p = some (.lst (ts.map V.int)) → P ts → Q (.ref p) H2) → te σ H1 Q
theorem q_asgN {te : TE} {σ : L2.St} {D : Ends} {tz : TS} {i : Nat} {P : List Int → Prop} (h : EvN te σ H P) (k : ∀ p H1 ts, H p = none → Ex H H1 → H1 p = some (.lst (ts.map V.int)) → P ts → tz D (σ.set i (some (.ref p))) H1) : tSeq (tAsg te (gName i)) tz D σ H := h H (Ex.refl H) _ k
theorem en_call1 {sp : Sp} {te : TE} {σ : L2.St} {P : V → Hp → Prop} {R : List Int → Prop} (h : EvX te σ H P) (hs : ∀ x H1, Ex H H1 → P x H1 → ∀ Q : VK, RetN R H1 Q → sp [x] H1 Q E) : EvN (tCall sp [] E (tCons te tNil)) σ H R := fun H1 e Q q =>
  h H1 e _ fun v H2 e2 hp => hs v H2 (e.trans e2) hp Q fun p H3 ts hn e3 hx hr => q p H3 ts (fresh_back e2 hn) (e2.trans e3) hx hr
theorem en_call2 {sp : Sp} {te tx : TE} {σ : L2.St} {P P' : V → Hp → Prop} {R : List Int → Prop} (h : EvX te σ H P) (m : Mono P) (h2 : EvX tx σ H P') (hs : ∀ x y H1, Ex H H1 → P x H1 → P' y H1 → ∀ Q : VK, RetN R H1 Q → sp [x, y] H1 Q E) : EvN (tCall sp [] E (tCons te (tCons tx tNil))) σ H R := fun H1 e Q q =>
  h H1 e _ fun v H2 e2 hp => h2 H2 (e.trans e2) _ fun w H3 e3 hp2 => hs v w H3 ((e.trans e2).trans e3) (m _ _ _ e3 hp) hp2 Q fun p H4 ts hn e4 hx hr => q p H4 ts (fresh_back (e2.trans e3) hn) ((e2.trans e3).trans e4) hx hr
theorem x_newL {te : TE} {σ : L2.St} {xs : List V} (h : EvL te σ H xs) : EvX te σ H (fun v H' => ∃ p, v = .ref p ∧ H p = none ∧ H' p = some (.lst xs)) := fun H1 e Q q => h H1 e Q fun p H2 hp e2 hx => q _ H2 e2 ⟨p, rfl, fresh_back e hp, hx⟩
/-- if c: x = e, and the rest from what both ways come to -/
theorem q_ifX {te : TE} {t : TT} {σ : L2.St} {D : Ends} {tz : TS} {b : Bool} {i : Nat} {P : V → Hp → Prop} (h : EvT t σ H b) (h1 : b = true → EvX te σ H P) (Mid : L2.St → Hp → Prop) (k1 : b = true → ∀ v H1, Ex H H1 → P v H1 → Mid (σ.set i (some v)) H1) (k0 : b = false → ∀ H1, Ex H H1 → Mid σ H1) (rest : ∀ σ' H', Mid σ' H' → tz D σ' H') :
    tSeq (tIfS t (tAsg te (gName i)) tNext) tz D σ H :=
  q_when h (fun hb H1 e1 => h1 hb H1 e1 _ fun v H2 e2 hp => rest _ _ (k1 hb v H2 (e1.trans e2) hp)) (fun hb H1 e1 => rest _ _ (k0 hb H1 e1))
end
end Fw

namespace Fw
open PySem PySem.Spec PyProof.Rows L2 Evl
section
variable {K : PySem.W.Frag} {A : Ad} {vs : List V} {H : Hp} {Q : VK} {E : XK}
/-! ### neat -/
def sp_neat (K : PySem.W.Frag) (A : Ad) : Sp := LaySp (fun ns H Q => ns.length ≤ 50000 ∧ RetL ((Few.laid (Few.loadOf ns)).map V.int) H Q) K A
def t_neat (K : PySem.W.Frag) (A : Ad) (E : XK) : TS :=
  (tRet (tCall (sp_laid K A) [] E (tCons (tCall (sp_load_of K A) [] E (tCons (tVar 0) tNil)) tNil)))
theorem r_neat (h : sp_neat K A vs H Q E) : t_neat K A E (D0 Q) (start ["laying"] vs) H := by
  obtain ⟨v, d, rfl, hd, k1, k2⟩ := h
  cases hl : isLayD d with
  | false => exact er_ret (er_call (er_load_of (x_th rfl hd) hl (k2 hl)))
  | true =>
    obtain ⟨ns, rfl, l⟩ := lay_is hl
    obtain ⟨hz, k⟩ := k1 ns rfl l
    have := Few.laid_load_len l
    exact s_retLL (el_laid (ev_load_of (x_ilv rfl hd.il) l) (by omega)) k
theorem el_neat {te : TE} {σ : L2.St} {ns : List Int} (h : EvX te σ H (IL K ns)) (hl : Few.Lay ns) (hz : ns.length ≤ 50000) : EvL (tCall (sp_neat K A) [] E (tCons te tNil)) σ H ((Few.laid (Few.loadOf ns)).map V.int) :=
  el_call1 h fun x H1 e1 hx Q q => LaySp.good hx hl ⟨hz, fun p H' hp e hx => q p H' hp e hx⟩
/-! ### turned -/
def sp_turned (K : PySem.W.Frag) (A : Ad) : Sp := LaySp (fun ns H Q => ns.length ≤ 40000 ∧ RetL ((ns.map fun x => -x).map V.int) H Q) K A
def t_turned (K : PySem.W.Frag) (A : Ad) (E : XK) : TS :=
  (tRet (tLc (iList K (tCall (sp_good_laying K A) [] E (tCons (tVar 0) tNil))) (gName 1) tYes (tUn rNegI (tVar 1)) [1]))
theorem r_turned (h : sp_turned K A vs H Q E) : t_turned K A E (D0 Q) (start ["laying", "one"] vs) H := by
  obtain ⟨v, d, rfl, hd, k1, k2⟩ := h
  cases hl : isLayD d with
  | false => exact er_ret (er_lc (er_good (x_th rfl hd) hl (k2 hl)))
  | true =>
    obtain ⟨ns, rfl, l⟩ := lay_is hl
    obtain ⟨hz, k⟩ := k1 ns rfl l
    have em : (ns.map fun x => -x).map V.int = ns.map fun n => V.int (-n) := by rw [List.map_map]; rfl
    rw [em] at k
    exact s_retLL (el_lcI0 (fun n => V.int (-n)) (x_good (x_ilv rfl hd.il) l) hz (fun _ => rfl) (fun n H1 _ _ => ev_un (ev_var rfl) ru_neg)) k
theorem el_turned {te : TE} {σ : L2.St} {ns : List Int} (h : EvX te σ H (IL K ns)) (hl : Few.Lay ns) (hz : ns.length ≤ 40000) : EvL (tCall (sp_turned K A) [] E (tCons te tNil)) σ H ((ns.map fun x => -x).map V.int) :=
  el_call1 h fun x H1 e1 hx Q q => LaySp.good hx hl ⟨hz, fun p H' hp e hx => q p H' hp e hx⟩
/-! ### two layings -/
def Lay2Sp (R : List Int → List Int → Hp → VK → Prop) (K : PySem.W.Frag) (A : Ad) : Sp := fun vs H Q E => ∃ v w d e, vs = [v, w] ∧ Th K H v d ∧ Th K H w e ∧ (∀ xs ys, d = .list (xs.map PyData.int) → Few.Lay xs → e = .list (ys.map PyData.int) → Few.Lay ys → R xs ys H Q) ∧ ((isLayD d && isLayD e) = false → RaiseE E A.laying H)
theorem Lay2Sp.good {R : List Int → List Int → Hp → VK → Prop} {xs ys : List Int} {v w : V} (h : IL K xs v H) (h2 : IL K ys w H) (hl : Few.Lay xs) (hl2 : Few.Lay ys) (hr : R xs ys H Q) : Lay2Sp R K A [v, w] H Q E :=
  ⟨v, w, _, _, rfl, il_th h, il_th h2, (fun a b e1 _ e2 _ => by
    have e1' : xs = a := ints_inj (PyData.list.inj e1)
    have e2' : ys = b := ints_inj (PyData.list.inj e2)
    rw [← e1', ← e2']
    exact hr), fun z => by rw [lay_ints hl, lay_ints hl2] at z; cases z⟩
theorem Lay2Sp.bad {R : List Int → List Int → Hp → VK → Prop} {d e : PyData} {v w : V} (h : Th K H v d) (h2 : Th K H w e) (hl : (isLayD d && isLayD e) = false) (hr : RaiseE E A.laying H) : Lay2Sp R K A [v, w] H Q E :=
  ⟨v, w, d, e, rfl, h, h2, (fun a b e1 l1 e2 l2 => by rw [e1, e2, lay_ints l1, lay_ints l2] at hl; cases hl), fun _ => hr⟩
/-! ### plus -/
def sp_plus (K : PySem.W.Frag) (A : Ad) : Sp := Lay2Sp (fun xs ys H Q => (xs.length ≤ 40000 ∧ ys.length ≤ 40000) ∧ RetL ((Few.laid (Few.loadOf xs + Few.loadOf ys)).map V.int) H Q) K A
def t_plus (K : PySem.W.Frag) (A : Ad) (E : XK) : TS :=
  (tRet (tCall (sp_laid K A) [] E (tCons (tOp rAddI (tCall (sp_load_of K A) [] E (tCons (tVar 0) tNil)) (tCall (sp_load_of K A) [] E (tCons (tVar 1) tNil))) tNil)))
theorem plus_len {xs ys : List Int} (hx : Few.Lay xs) (hy : Few.Lay ys) (h1 : xs.length ≤ 40000) (h2 : ys.length ≤ 40000) : (Few.laid (Few.loadOf xs + Few.loadOf ys)).length ≤ 40002 := by
  have b1 := Few.load_bound hx
  have b2 := Few.load_bound hy
  have m1 : 2 ^ xs.length ≤ 2 ^ 40000 := Nat.pow_le_pow_right (by decide) h1
  have m2 : 2 ^ ys.length ≤ 2 ^ 40000 := Nat.pow_le_pow_right (by decide) h2
  refine Few.laid_len 40001 _ ?_
  rw [Nat.pow_succ]
  generalize 2 ^ 40000 = M at m1 m2
  omega
theorem r_plus (h : sp_plus K A vs H Q E) : t_plus K A E (D0 Q) (start ["one", "other"] vs) H := by
  obtain ⟨v, w, d, e, rfl, hd, he, k1, k2⟩ := h
  cases hl : isLayD d with
  | false => exact er_ret (er_call (er_op1 (er_load_of (x_th rfl hd) hl (k2 (by rw [hl]; rfl)))))
  | true =>
    obtain ⟨xs, rfl, lx⟩ := lay_is hl
    cases hl2 : isLayD e with
    | false => exact er_ret (er_call (er_op2 (x_v (ev_load_of (x_ilv rfl hd.il) lx)) (er_load_of (x_th rfl he) hl2 (k2 (by rw [hl2, Bool.and_false])))))
    | true =>
      obtain ⟨ys, rfl, ly⟩ := lay_is hl2
      obtain ⟨⟨hz, hz2⟩, k⟩ := k1 xs ys rfl lx rfl ly
      have := plus_len lx ly hz hz2
      exact s_retLL (el_laid (ev_op (ev_load_of (x_ilv rfl hd.il) lx) (ev_load_of (x_ilv rfl he.il) ly) rv_I0) (by omega)) k
theorem el_plus {te tx : TE} {σ : L2.St} {xs ys : List Int} (h : EvX te σ H (IL K xs)) (h2 : EvX tx σ H (IL K ys)) (hl : Few.Lay xs) (hl2 : Few.Lay ys) (hz : xs.length ≤ 40000) (hz2 : ys.length ≤ 40000) : EvL (tCall (sp_plus K A) [] E (tCons te (tCons tx tNil))) σ H ((Few.laid (Few.loadOf xs + Few.loadOf ys)).map V.int) :=
  el_call2 h mono_il h2 fun x y H1 e1 hx hy Q q => Lay2Sp.good hx hy hl hl2 ⟨⟨hz, hz2⟩, fun p H' hp e hx => q p H' hp e hx⟩
/-! ### heavier -/
def sgn (a b : Int) : Int := if b < a then 1 else if a < b then -1 else 0
def sp_heavier (K : PySem.W.Frag) (A : Ad) : Sp := Lay2Sp (fun xs ys H Q => RetV (.int (sgn (Few.loadOf xs) (Few.loadOf ys))) H Q) K A
def t_heavier (K : PySem.W.Frag) (A : Ad) (E : XK) : TS :=
  (tSeq (tAsg (tCall (sp_load_of K A) [] E (tCons (tVar 0) tNil)) (gName 2))
    (tSeq (tAsg (tCall (sp_load_of K A) [] E (tCons (tVar 1) tNil)) (gName 3))
    (tSeq (tIfS (tTest (tOp rGtI (tVar 2) (tVar 3))) (tRet (tC (.int 1))) tNext)
    (tSeq (tIfS (tTest (tOp rLtI (tVar 2) (tVar 3))) (tRet (tUn rNegI (tC (.int 1)))) tNext)
    (tRet (tC (.int 0)))))))
theorem r_heavier (h : sp_heavier K A vs H Q E) : t_heavier K A E (D0 Q) (start ["one", "other", "first", "second"] vs) H := by
  obtain ⟨v, w, d, e, rfl, hd, he, k1, k2⟩ := h
  cases hl : isLayD d with
  | false => exact er_q (er_load_of (x_th rfl hd) hl (k2 (by rw [hl]; rfl)))
  | true =>
    obtain ⟨xs, rfl, lx⟩ := lay_is hl
    refine q_asg (ev_load_of (x_ilv rfl hd.il) lx) fun H1 e1 => ?_
    have he1 := he.mono e1
    cases hl2 : isLayD e with
    | false => exact er_q (er_load_of (x_th rfl he1) hl2 ((k2 (by rw [hl2, Bool.and_false])).mono e1))
    | true =>
      obtain ⟨ys, rfl, ly⟩ := lay_is hl2
      have k : RetV (.int (sgn (Few.loadOf xs) (Few.loadOf ys))) H Q := k1 xs ys rfl lx rfl ly
      refine q_asg (ev_load_of (x_ilv rfl he1.il) ly) fun H2 e2 => ?_
      unfold sgn at k
      refine q_when (et_test (ev_op (ev_var rfl) (ev_var rfl) rv_I0)) (fun hb H3 e3 => ?_) (fun hb H3 e3 => ?_)
      · rw [if_pos (of_decide_eq_true hb)] at k
        exact s_retV ev_c (k.mono ((e1.trans e2).trans e3))
      · rw [if_neg (of_decide_eq_false hb)] at k
        refine q_when (et_test (ev_op (ev_var rfl) (ev_var rfl) rv_I0)) (fun hb H4 e4 => ?_) (fun hb H4 e4 => ?_)
        · rw [if_pos (of_decide_eq_true hb)] at k
          exact s_retV (ev_un ev_c ru_neg) (k.mono (((e1.trans e2).trans e3).trans e4))
        · rw [if_neg (of_decide_eq_false hb)] at k
          exact s_retV ev_c (k.mono (((e1.trans e2).trans e3).trans e4))
theorem ev_heavier {te tx : TE} {σ : L2.St} {xs ys : List Int} (h : EvX te σ H (IL K xs)) (h2 : EvX tx σ H (IL K ys)) (hl : Few.Lay xs) (hl2 : Few.Lay ys) : Ev (tCall (sp_heavier K A) [] E (tCons te (tCons tx tNil))) σ H (.int (sgn (Few.loadOf xs) (Few.loadOf ys))) :=
  ev_call2 h mono_il h2 fun x y H1 e1 hx hy Q q => Lay2Sp.good hx hy hl hl2 fun H' e => q H' e
/-! ### parted -/
/-- a new tuple of two new lists -/
def RetT2 (xs ys : List V) (H : Hp) (Q : VK) : Prop := ∀ t p q H', H t = none → (∀ H0 ps, Led H0 H ps → Led H0 H' ((q, ys) :: (p, xs) :: ps)) → H' t = some (.tup [.ref p, .ref q]) → Q (.ref t) H'
def sp_parted (K : PySem.W.Frag) (A : Ad) : Sp := fun vs H Q E => ∃ v d, ∃ j : Nat, vs = [v, .int (j : Int)] ∧ Th K H v d ∧ (∀ ns, d = .list (ns.map PyData.int) → Few.Lay ns → RetT2 ((Few.ended (ns.drop j)).map V.int) ((Few.ended (ns.take j)).map V.int) H Q) ∧ (isLayD d = false → RaiseE E A.laying H)
def t_parted (K : PySem.W.Frag) (A : Ad) (E : XK) : TS :=
  (tSeq (tAsg (tCall (sp_good_laying K A) [] E (tCons (tVar 0) tNil)) (gName 2))
    (tRet (tTup (tCons (tCall (sp_ended K A) [] E (tCons (tSl (rSlL K) (tVar 2) (tPart (tVar 1)) tNoPart) tNil)) (tCons (tCall (sp_ended K A) [] E (tCons (tSl (rSlL K) (tVar 2) tNoPart (tPart (tVar 1))) tNil)) tNil)))))
theorem Led.tup {H0 H' : Hp} {ps : List (Addr × List V)} {t : Addr} {o : HO} (h : Led H0 H ps) (ht : H t = none) : Led H0 (upd H t o) ps := h.ex (Ex.new ht)
theorem r_parted (h : sp_parted K A vs H Q E) : t_parted K A E (D0 Q) (start ["laying", "place", "things"] vs) H := by
  obtain ⟨v, d, j, rfl, hd, k1, k2⟩ := h
  cases hl : isLayD d with
  | false => exact er_q (er_good (x_th rfl hd) hl (k2 hl))
  | true =>
    obtain ⟨ns, rfl, l⟩ := lay_is hl
    have k := k1 ns rfl l
    refine q_asgX (x_good (x_ilv rfl hd.il) l) fun w H1 e1 hw => ?_
    have up : EvL (tCall (sp_ended K A) [] E (tCons (tSl (rSlL K) (tVar 2) (tPart (tVar 1)) tNoPart) tNil)) [some v, some (.int (j : Int)), some w] H1 ((Few.ended (ns.drop j)).map V.int) := el_ended (x_ilL (el_from (x_ilv rfl hw) (ev_var rfl) rfl)) (Few.lay_drop l j)
    have lo : EvL (tCall (sp_ended K A) [] E (tCons (tSl (rSlL K) (tVar 2) tNoPart (tPart (tVar 1))) tNil)) [some v, some (.int (j : Int)), some w] H1 ((Few.ended (ns.take j)).map V.int) := el_ended (x_ilL (el_to (x_ilv rfl hw) (ev_var rfl) rfl)) (Few.lay_take l j)
    refine up H1 (Ex.refl H1) _ fun p H2 hp e2 hx => lo H2 e2 _ fun q H3 hq e3 hy => ⟨by show 2 ≤ sizeLine; decide, fun t ht => ?_⟩
    refine k t p q _ (fresh_back ((e1.trans e2).trans e3) ht) (fun H0 ps L => ?_) upd_same
    exact (((L.ex e1).new hp e2 hx).new hq e3 hy).tup (H' := H) ht
theorem er_parted {te tb : TE} {σ : L2.St} {d : PyData} {j : Nat} (h : EvX te σ H (ThP K d)) (h2 : Ev tb σ H (.int (j : Int))) (hl : isLayD d = false) (k : RaiseE E A.laying H) : Er (tCall (sp_parted K A) [] E (tCons te (tCons tb tNil))) σ H := fun H1 e Q =>
  h H1 e _ fun v H2 e2 hp => h2 H2 (e.trans e2) _ fun H3 e3 => ⟨v, d, j, rfl, hp.mono e3, (fun ns e l => by rw [e, lay_ints l] at hl; cases hl), fun _ => k.mono ((e.trans e2).trans e3)⟩
/-- its call -/
theorem q_parted {te tb : TE} {σ : L2.St} {D : Ends} {tz : TS} {i : Nat} {ns : List Int} {j : Nat} (h : EvX te σ H (IL K ns)) (h2 : Ev tb σ H (.int (j : Int))) (hl : Few.Lay ns)
    (k : ∀ t p q H', H t = none → (∀ H0 ps, Led H0 H ps → Led H0 H' ((q, (Few.ended (ns.take j)).map V.int) :: (p, (Few.ended (ns.drop j)).map V.int) :: ps)) → H' t = some (.tup [.ref p, .ref q]) → tz D (σ.set i (some (.ref t))) H') :
    tSeq (tAsg (tCall (sp_parted K A) [] E (tCons te (tCons tb tNil))) (gName i)) tz D σ H :=
  h H (Ex.refl H) _ fun v H2 e2 hp => h2 H2 e2 _ fun H3 e3 => ⟨v, _, j, rfl, (il_th hp).mono e3, (fun ms e _ => by
    have e' : ns = ms := ints_inj (PyData.list.inj e)
    rw [← e']
    exact fun t p q H' ht g hx => k t p q H' (fresh_back (e2.trans e3) ht) (fun H0 ps L => g H0 ps ((L.ex e2).ex e3)) hx), fun z => by rw [lay_ints hl] at z; cases z⟩
end
end Fw

namespace Fw
open PySem PySem.Spec PyProof.Rows L2 Evl
/-! lists of lists of whole numbers -/
inductive ILs (K : PySem.W.Frag) (H : Hp) : List V → List (List Int) → Prop
  | nil : ILs K H [] []
  | cons {v : V} {vs : List V} {ns : List Int} {nss : List (List Int)} : IL K ns v H → ILs K H vs nss → ILs K H (v :: vs) (ns :: nss)
section
variable {K : PySem.W.Frag} {A : Ad} {σ : L2.St} {H H' : Hp} {ta : TA} {tb te tx tl : TE} {D : Ends} {tz : TS}
theorem ILs.mono (e : Ex H H') : ∀ {vs : List V} {nss : List (List Int)}, ILs K H vs nss → ILs K H' vs nss
  | _, _, .nil => .nil
  | _, _, .cons a b => .cons (mono_il _ _ _ e a) (b.mono e)
theorem ILs.length : ∀ {vs : List V} {nss : List (List Int)}, ILs K H vs nss → vs.length = nss.length
  | _, _, .nil => rfl
  | _, _, .cons a b => by rw [List.length_cons, List.length_cons, ILs.length b]
theorem ILs.at : ∀ {vs : List V} {nss : List (List Int)}, ILs K H vs nss → ∀ {i : Nat} {ns : List Int}, nss[i]? = some ns → ∃ v, vs[i]? = some v ∧ IL K ns v H
  | _, _, .nil, i, x, h => by simp at h
  | _, _, .cons a b, 0, x, h => ⟨_, rfl, by have e := Option.some.inj h; rw [← e]; exact a⟩
  | _, _, .cons a b, i + 1, x, h => ILs.at b (i := i) (ns := x) h
theorem ILs.dpa : ∀ {vs : List V} {nss : List (List Int)}, ILs K H vs nss → DpAll K H vs (nss.map fun ns => PyData.list (ns.map PyData.int))
  | _, _, .nil => .nil
  | _, _, .cons ⟨a, ev, hs⟩ b => by
    subst ev
    exact .cons (.lst hs dps) (ILs.dpa b)
def ILL (K : PySem.W.Frag) (nss : List (List Int)) : V → Hp → Prop := fun v H => ∃ a xs, v = .ref a ∧ SqL K H a xs ∧ ILs K H xs nss
theorem mono_ill {nss : List (List Int)} : Mono (ILL K nss) := fun _ _ _ e ⟨a, xs, h, s, t⟩ => ⟨a, xs, h, ex_l e s, t.mono e⟩
theorem xi_nil : EaX tNil σ H (fun vs H => ILs K H vs []) := fun H1 _ _ q => q _ H1 (Ex.refl H1) .nil
theorem xi_cons {tr : TA} {ns : List Int} {nss : List (List Int)} (h : EvX te σ H (IL K ns)) (hr : EaX tr σ H (fun vs H => ILs K H vs nss)) : EaX (tCons te tr) σ H (fun vs H => ILs K H vs (ns :: nss)) := fun H1 e Q q =>
  h H1 e _ fun v H2 e2 hp => hr H2 (e.trans e2) _ fun vs H3 e3 hR => q _ H3 (e2.trans e3) (.cons (mono_il _ _ _ e3 hp) hR)
theorem xi_lst {nss : List (List Int)} (h : EaX ta σ H (fun vs H => ILs K H vs nss)) (hz : nss.length ≤ 100000) : EvX (tLst ta) σ H (ILL K nss) := fun H1 e Q q =>
  h H1 e _ fun vs H2 e2 hr => ⟨sz_of (by rw [hr.length]; exact hz), fun p hp => q _ _ (e2.trans (Ex.new hp)) ⟨p, vs, rfl, sq_of upd_same, hr.mono (Ex.new hp)⟩⟩
theorem eqv_lists : ∀ xs ys : List (List Int), PyData.eqvAll (xs.map fun ns => PyData.list (ns.map PyData.int)) (ys.map fun ns => PyData.list (ns.map PyData.int)) = decide (xs = ys)
  | [], [] => rfl
  | [], _ :: _ => by simp [PyData.eqvAll]
  | _ :: _, [] => by simp [PyData.eqvAll]
  | x :: xs, y :: ys => by
    have ih := eqv_lists xs ys
    show (PyData.eqv (.list (x.map PyData.int)) (.list (y.map PyData.int)) && PyData.eqvAll (xs.map fun ns => PyData.list (ns.map PyData.int)) (ys.map fun ns => PyData.list (ns.map PyData.int))) = _
    have e : PyData.eqv (.list (x.map PyData.int)) (.list (y.map PyData.int)) = decide (x = y) := eqv_ints x y
    rw [ih, e]
    by_cases h1 : x = y
    · subst h1
      by_cases h2 : xs = ys
      · subst h2
        simp
      · simp [h2]
    · simp [h1]
theorem shaped_lists (xs : List (List Int)) : SeqAt.shaped (.list (xs.map fun ns => PyData.list (ns.map PyData.int))) = true := by
  have a : ∀ xs : List (List Int), PyData.canLayAll0 (xs.map fun ns => PyData.list (ns.map PyData.int)) = true := by
    intro xs
    induction xs with
    | nil => rfl
    | cons x xs ih =>
      show (PyData.canLayAll0 (x.map PyData.int) && PyData.canLayAll0 (xs.map fun ns => PyData.list (ns.map PyData.int))) = true
      rw [ih, canLay_ints]
      rfl
  have b : ∀ xs : List (List Int), PyData.depthAll (xs.map fun ns => PyData.list (ns.map PyData.int)) ≤ 1 := by
    intro xs
    induction xs with
    | nil => exact Nat.zero_le _
    | cons x xs ih =>
      show max (PyData.depthAll (x.map PyData.int) + 1) (PyData.depthAll (xs.map fun ns => PyData.list (ns.map PyData.int))) ≤ 1
      rw [depth_ints]
      omega
  unfold SeqAt.shaped
  have a' : PyData.canLay0 (.list (xs.map fun ns => PyData.list (ns.map PyData.int))) = true := a xs
  have b' : PyData.depth (.list (xs.map fun ns => PyData.list (ns.map PyData.int))) ≤ 2 := by
    show PyData.depthAll (xs.map fun ns => PyData.list (ns.map PyData.int)) + 1 ≤ 2
    have := b xs
    omega
  rw [a', Bool.true_and]
  exact decide_eq_true (by omega)
theorem ev_eqLL {xs ys : List (List Int)} (ha : EvX te σ H (ILL K xs)) (hb : EvX tb σ H (ILL K ys)) : Ev (tOp (rEqD K) te tb) σ H (.bl (decide (xs = ys))) := ev_opX ha mono_ill hb fun x y H1 _ ⟨a, as, ea, sa, ia⟩ ⟨b, bs, eb, sb, ib⟩ H2 e2 Q k => by
  subst ea eb
  refine ⟨_, _, .lst (ex_l e2 sa) (ia.mono e2).dpa, .lst (ex_l e2 sb) (ib.mono e2).dpa, shaped_lists xs, shaped_lists ys, ?_⟩
  have z : PyData.eqv (.list (xs.map fun ns => PyData.list (ns.map PyData.int))) (.list (ys.map fun ns => PyData.list (ns.map PyData.int))) = decide (xs = ys) := eqv_lists xs ys
  rw [z]
  exact k H2 (Ex.refl H2)
theorem x_ixLL {nss : List (List Int)} {ns : List Int} {j : Nat} {i : Int} (ha : EvX te σ H (ILL K nss)) (hb : Ev tb σ H (.int i)) (hi : i = (j : Int)) (h : nss[j]? = some ns) : EvX (tOp (rIxL K) te tb) σ H (IL K ns) := fun H1 e Q q =>
  ha H1 e _ fun v H2 e2 hv => hb H2 (e.trans e2) _ fun H3 e3 => by
    obtain ⟨a, xs, rfl, hs, hI⟩ := hv
    obtain ⟨x, hx, hn⟩ := hI.at h
    exact ⟨a, xs, i, x, rfl, rfl, ex_l e3 hs, at_of hi hx, q x H3 (e2.trans e3) (mono_il _ _ _ e3 hn)⟩
/-! a display of new lists, written into the ledger -/
def Grow (H H' : Hp) (qs : List (Addr × List V)) : Prop := ∀ H0 ps, Led H0 H ps → Led H0 H' (qs ++ ps)
theorem q_asgD3 {t1 t2 t3 : TE} {i : Nat} {xs1 xs2 xs3 : List V} (h1 : EvL t1 σ H xs1) (h2 : EvL t2 σ H xs2) (h3 : EvL t3 σ H xs3)
    (k : ∀ p1 p2 p3 p H', Grow H H' [(p, [.ref p1, .ref p2, .ref p3]), (p3, xs3), (p2, xs2), (p1, xs1)] → tz D (σ.set i (some (.ref p))) H') : tSeq (tAsg (tLst (tCons t1 (tCons t2 (tCons t3 tNil)))) (gName i)) tz D σ H :=
  h1 H (Ex.refl H) _ fun p1 H1 hp1 e1 hx1 => h2 H1 e1 _ fun p2 H2 hp2 e2 hx2 => h3 H2 (e1.trans e2) _ fun p3 H3 hp3 e3 hx3 =>
    ⟨by show 3 ≤ sizeLine; decide, fun p hp => k p1 p2 p3 p _ fun H0 ps L => (((L.new hp1 e1 hx1).new hp2 e2 hx2).new hp3 e3 hx3).new hp (Ex.new hp) upd_same⟩
theorem Led.ill {H0 : Hp} {ps : List (Addr × List V)} {p : Addr} {xs : List V} {nss : List (List Int)} (L : Led H0 H ps) (i : Nat) (hi : ps[i]? = some (p, xs)) (h : ILs K H xs nss) : ILL K nss (.ref p) H := ⟨p, xs, rfl, sq_of (L.at i hi), h⟩
theorem x_illv {v : V} {nss : List (List Int)} {i : Nat} (h : σ[i]? = some (some v)) (hd : ILL K nss v H) : EvX (tVar i) σ H (ILL K nss) := x_of (ev_var h) mono_ill hd
/-! the ledger in another order, or less of it -/
theorem Led.sub {H0 : Hp} {ps qs : List (Addr × List V)} (L : Led H0 H ps) (h : qs.Sublist ps) : Led H0 H qs := ⟨L.1, fun q hq => L.2.1 q (h.subset hq), (h.map _).nodup L.2.2⟩
theorem Led.perm {H0 : Hp} {ps qs : List (Addr × List V)} (L : Led H0 H ps) (h : qs.Perm ps) : Led H0 H qs := ⟨L.1, fun q hq => L.2.1 q (h.subset hq), (h.map _).nodup_iff.mpr L.2.2⟩
theorem erase_perm {α : Type} : ∀ {l : List α} {i : Nat} {x : α}, l[i]? = some x → (x :: l.eraseIdx i).Perm l
  | [], i, x, h => by simp at h
  | a :: r, 0, x, h => by
    have e : a = x := Option.some.inj h
    rw [e]
    exact List.Perm.refl _
  | a :: r, i + 1, x, h => by
    have ih := erase_perm (l := r) (i := i) (x := x) h
    exact (List.Perm.swap a x _).trans (ih.cons a)
/-- if c: x = [0] * n + x, the list in the ledger either way -/
theorem q_pad {H0 : Hp} {ps : List (Addr × List V)} {t : TT} {b : Bool} {i l : Nat} {p : Addr} {xs : List Int} {n : Int} (L : Led H0 H ps) (hl : ps[l]? = some (p, xs.map V.int)) (h : EvT t σ H b) (hi : σ[i]? = some (some (.ref p))) (hn : Ev tb σ H (.int n)) (hb : 0 ≤ n ∧ n ≤ 300) (hz : xs.length ≤ 1000) (hself : σ.set i (some (.ref p)) = σ)
    (k : ∀ q H1 (m : Nat), m ≤ 300 → Led H0 H1 ((q, (List.replicate m 0 ++ xs).map V.int) :: ps.eraseIdx l) → tz D (σ.set i (some (.ref q))) H1) :
    tSeq (tIfS t (tAsg (tOp rCat (tOp rRep (tLst (tCons (tC (.int 0)) tNil)) tb) (tVar i)) (gName i)) tNext) tz D σ H := by
  refine q_when h (fun _ H1 e1 => ?_) (fun _ H1 e1 => ?_)
  · refine s_asgL (el_catX (x_mlL (el_zeros (hn.mono e1) ⟨by omega, by omega⟩)) (x_ml (ev_var hi) (e1 _ _ (L.at l hl))) (by rw [len_mapI, len_mapI, List.length_replicate]; omega)) fun q H2 hq e2 hy => ?_
    rw [← List.map_append] at hy
    exact k q H2 _ (by omega) (((L.ex e1).new hq e2 hy).sub ((List.eraseIdx_sublist ps l).cons_cons _))
  · have g := k p H1 0 (by omega) ((L.ex e1).perm (erase_perm hl))
    rw [hself] at g
    exact g
end
end Fw

namespace Fw
open PySem PySem.Spec PyProof.Rows L2 Evl
/-! plans -/
def rNotInT (K : PySem.W.Frag) : R2 := fun x y H Q => ∃ d ds, Dp K H x d ∧ Dp K H y (.tuple ds) ∧ SeqAt.shaped d = true ∧ SeqAt.shaped (.tuple ds) = true ∧ Q (.bl (!ds.any fun z => PyData.eqv z d)) H
theorem op_notInT {X : Cx} (hu : X.A.units + 65 < cLine) : OpR X (compareOp .NotIn) (rNotInT X.K) := by
  intro pins s σ H x y v u Q I rx ry h
  obtain ⟨d, ds, hd, he, sd, se, q⟩ := h
  obtain ⟨as, r1⟩ := Dp.reads I d x v hd rx
  obtain ⟨bs, r2⟩ := Dp.reads I (.tuple ds) y u he ry
  exact SeqAt.notIn_tuple_reads r2 r1 (SeqAt.canLay_of_shaped se) (SeqAt.canLay_of_shaped sd) (room_in_shaped sd hu) ⟨.bl _, H, I, rfl, q⟩
theorem room65 {k : Nat} {A : Around} (r : Room k A) : A.units + 65 < cLine := by
  have := r.un
  omega
def WordsIn (K : PySem.W.Frag) (A : Ad) : Prop := ∃ (dW : Option Addr) (t1 t2 t3 : Tok) (n : Nat) (sl : Array (Option Value)), K.lookup A.words = some ⟨.type "tuple", dW, .seq #[.str "double" t1, .str "put" t2, .str "take" t3] n, sl⟩
theorem words_mk {K : PySem.W.Frag} {A : Ad} {dW : Option Addr} {t1 t2 t3 : Tok} {n : Nat} {sl : Array (Option Value)} (h : K.lookup A.words = some ⟨.type "tuple", dW, .seq #[.str "double" t1, .str "put" t2, .str "take" t3] n, sl⟩) : WordsIn K A := ⟨dW, t1, t2, t3, n, sl, h⟩
theorem words_sq {K : PySem.W.Frag} {A : Ad} (W : WordsIn K A) (H : Hp) : SqT K H A.words [.str "double", .str "put", .str "take"] := by
  obtain ⟨dW, t1, t2, t3, n, sl, h⟩ := W
  exact .inr ⟨_, _, n, h, rfl, rfl, by show 3 ≤ sizeLine; decide, .cons ⟨t1, rfl⟩ (.cons ⟨t2, rfl⟩ (.cons ⟨t3, rfl⟩ .nil))⟩
/-! words as values, as data -/
def wS : Wd → Str
  | .dbl => "double"
  | .put => "put"
  | .tak => "take"
def wV (w : Wd) : V := .str (wS w)
def wD (w : Wd) : PyData := .str (wS w)
theorem wS_inj (a b : Wd) : (wS a = wS b) ↔ a = b := by
  cases a <;> cases b <;> first | (simp; done) | (refine ⟨fun h => absurd h (by decide +kernel), fun h => by cases h⟩)
theorem wV_eq (a b : Wd) : decide (wV a = wV b) = decide (a = b) := by
  by_cases h : a = b
  · subst h
    simp
  · rw [decide_eq_false h, decide_eq_false]
    intro z
    exact h ((wS_inj a b).mp (V.str.inj z))
theorem wV_dbl (a : Wd) : decide (wV a = V.str "double") = decide (a = .dbl) := wV_eq a .dbl
theorem wV_put (a : Wd) : decide (wV a = V.str "put") = decide (a = .put) := wV_eq a .put
theorem wV_tak (a : Wd) : decide (wV a = V.str "take") = decide (a = .tak) := wV_eq a .tak
/-- is it a word? -/
def wordD (d : PyData) : Bool := [PyData.str "double", .str "put", .str "take"].any fun z => PyData.eqv z d
theorem word_wD (w : Wd) : wordD (wD w) = true := by cases w <;> decide +kernel
theorem word_is {d : PyData} (h : wordD d = true) : ∃ w, d = wD w := by
  cases d with
  | str x =>
    have h' : (PyData.eqv (.str "double") (.str x) || (PyData.eqv (.str "put") (.str x) || (PyData.eqv (.str "take") (.str x) || false))) = true := h
    simp only [PyData.eqv, Bool.or_eq_true, beq_iff_eq, Bool.or_false] at h'
    rcases h' with z | z | z
    · exact ⟨.dbl, by rw [← z]; rfl⟩
    · exact ⟨.put, by rw [← z]; rfl⟩
    · exact ⟨.tak, by rw [← z]; rfl⟩
  | none => exact absurd h (by simp [wordD, PyData.eqv])
  | bool b => exact absurd h (by simp [wordD, PyData.eqv])
  | int b => exact absurd h (by simp [wordD, PyData.eqv])
  | list b => exact absurd h (by simp [wordD, PyData.eqv])
  | tuple b => exact absurd h (by simp [wordD, PyData.eqv])
  | dict b => exact absurd h (by simp [wordD, PyData.eqv])
def isPlanD : PyData → Bool
  | .list ds => ds.all wordD
  | _ => false
theorem plan_is_all : ∀ ds : List PyData, ds.all wordD = true → ∃ ws : List Wd, ds = ws.map wD
  | [], _ => ⟨[], rfl⟩
  | d :: ds, h => by
    rw [List.all_cons, Bool.and_eq_true] at h
    obtain ⟨w, e⟩ := word_is h.1
    obtain ⟨ws, es⟩ := plan_is_all ds h.2
    exact ⟨w :: ws, by rw [e, es]; rfl⟩
theorem plan_is {d : PyData} (h : isPlanD d = true) : ∃ ws : List Wd, d = .list (ws.map wD) := by
  cases d with
  | list ds =>
    obtain ⟨ws, e⟩ := plan_is_all ds h
    exact ⟨ws, by rw [e]⟩
  | none => exact absurd h Bool.false_ne_true
  | bool b => exact absurd h Bool.false_ne_true
  | int b => exact absurd h Bool.false_ne_true
  | str b => exact absurd h Bool.false_ne_true
  | tuple b => exact absurd h Bool.false_ne_true
  | dict b => exact absurd h Bool.false_ne_true
theorem plan_words (ws : List Wd) : isPlanD (.list (ws.map wD)) = true := by
  show (ws.map wD).all wordD = true
  rw [List.all_map, List.all_eq_true]
  exact fun w _ => word_wD w
theorem wD_inj {a b : Wd} (h : wD a = wD b) : a = b := (wS_inj a b).mp (PyData.str.inj h)
theorem wDs_inj {a b : List Wd} (h : a.map wD = b.map wD) : a = b := by
  induction a generalizing b with
  | nil =>
    cases b with
    | nil => rfl
    | cons _ _ => cases h
  | cons x xs ih =>
    cases b with
    | nil => cases h
    | cons y ys =>
      rw [List.map_cons, List.map_cons] at h
      injection h with h1 h2
      rw [wD_inj h1, ih h2]
theorem shaped_word (w : Wd) : SeqAt.shaped (wD w) = true := by cases w <;> decide +kernel
theorem shaped_wordsT : SeqAt.shaped (.tuple [.str "double", .str "put", .str "take"]) = true := by decide +kernel
section
variable {K : PySem.W.Frag} {A : Ad} {vs : List V} {H H' : Hp} {Q : VK} {E : XK}
/-- a list of words -/
def WL (K : PySem.W.Frag) (ws : List Wd) (v : V) (H : Hp) : Prop := ∃ a, v = .ref a ∧ SqL K H a (ws.map wV)
theorem mono_wl {ws : List Wd} : Mono (WL K ws) := fun _ _ _ e ⟨a, h, s⟩ => ⟨a, h, ex_l e s⟩
theorem dpw {ws : List Wd} : DpAll K H (ws.map wV) (ws.map wD) := by
  induction ws with
  | nil => exact .nil
  | cons w r ih => exact .cons (.str (wS w)) ih
theorem wl_th {ws : List Wd} {v : V} (h : WL K ws v H) : Th K H v (.list (ws.map wD)) := by
  obtain ⟨a, rfl, hs⟩ := h
  exact .of (.lst hs dpw)
theorem dpw_inv {xs : List V} : ∀ {ws : List Wd}, DpAll K H xs (ws.map wD) → xs = ws.map wV := by
  induction xs with
  | nil =>
    intro ws h
    cases ws with
    | nil => rfl
    | cons w r => cases h
  | cons x xs ih =>
    intro ws h
    cases ws with
    | nil => cases h
    | cons w r =>
      cases h with
      | cons h1 h2 =>
        rw [ih h2]
        cases w <;> (cases h1; rfl)
theorem Th.wl {ws : List Wd} {v : V} (h : Th K H v (.list (ws.map wD))) : WL K ws v H := by
  cases h with
  | of h =>
    cases h with
    | lst hs ha =>
      rw [dpw_inv ha] at hs
      exact ⟨_, rfl, hs⟩
/-- every thing of a list can be held beside a word -/
def ShD (d : PyData) : Prop := ∀ ds, d = .list ds → ∀ x ∈ ds, SeqAt.shaped x = true
theorem shd_words (ws : List Wd) : ShD (.list (ws.map wD)) := fun ds e x hx => by
  cases e
  obtain ⟨w, _, rfl⟩ := List.mem_map.mp hx
  exact shaped_word w
/-! ### good_plan -/
def sp_good_plan (K : PySem.W.Frag) (A : Ad) : Sp := fun vs H Q E => ∃ v d, vs = [v] ∧ Th K H v d ∧ ShD d ∧ (isPlanD d = true → RetV v H Q) ∧ (isPlanD d = false → RaiseE E A.plan H)
def t_good_plan (K : PySem.W.Frag) (A : Ad) (E : XK) : TS :=
  (tSeq (tIfS (tNot (tB (tCB (rIsi K) (tCons (tVar 0) (tCons (tC (.ty "list")) tNil))))) (tRaiseC A.plan E) tNext)
    (tSeq (tFor (iList K (tVar 0)) (gName 1) (tIfS (tTest (tOp (rNotInT K) (tVar 1) (tC (.ref A.words)))) (tRaiseC A.plan E) tNext))
    (tRet (tVar 0))))

theorem not_plan {d : PyData} (h : (!(tyD d == "list")) = true) : isPlanD d = false := by
  cases d <;> first | rfl | (exfalso; simp [tyD] at h)
theorem r_good_plan (W : WordsIn K A) (h : sp_good_plan K A vs H Q E) : t_good_plan K A E (D0 Q) (start ["plan", "word"] vs) H := by
  obtain ⟨v, d, rfl, hd, hsh, k1, k2⟩ := h
  refine q_when (et_not (et_B (ev_isList (ev_var rfl) hd))) (fun hb H1 e1 => k2 (not_plan hb) H1 e1) (fun hb H1 e1 => ?_)
  obtain ⟨ds, rfl⟩ := is_list hb
  have hd1 := hd.mono e1
  cases hd1 with
  | of hd1 =>
    cases hd1 with
    | @lst a xs _ hs ha =>
      have hl := dps_len ha
      refine q_forP (x_vl (ev_var rfl) hs) (fun i σ' => ∃ u, σ' = [some (.ref a), u] ∧ (ds.take i).all wordD = true) ⟨none, rfl, rfl⟩ ?_ ?_
      · rintro H2 i x σ' H' e2 e3 hx ⟨u, rfl, hall⟩
        obtain ⟨d, hd, hp⟩ := dps_at ha hx
        have hp' := dp_mono (e2.trans e3) _ _ hp
        have hshd : SeqAt.shaped d = true := hsh ds rfl d (List.mem_of_getElem? hd)
        have t1 : EvT (tTest (tOp (rNotInT K) (tVar 1) (tC (.ref A.words)))) [some (.ref a), some x] H' (!wordD d) :=
          et_test (ev_op (ev_var rfl) ev_c fun H4 e4 Q q => ⟨d, [.str "double", .str "put", .str "take"], dp_mono e4 _ _ hp', .tup (words_sq W H4) (.cons (.str _) (.cons (.str _) (.cons (.str _) .nil))), hshd, shaped_wordsT, q H4 (Ex.refl H4)⟩)
        refine s_when t1 (fun hb H4 e4 => ?_) (fun hb H4 e4 => ?_)
        · have p' : wordD d = false := by simpa using hb
          exact k2 (all_not hd p') H4 (((e1.trans e2).trans e3).trans e4)
        · have p' : wordD d = true := by simpa using hb
          exact ⟨⟨_, rfl, take_all hd hall p'⟩, e3.trans e4⟩
      · rintro σ' H' e2 ⟨u, rfl, hall⟩
        rw [hl, List.take_length] at hall
        exact s_retV (ev_var rfl) ((k1 hall).mono (e1.trans e2))
section
variable {te : TE} {σ : L2.St} {ws : List Wd} {d : PyData}
theorem x_goodplan (h : EvX te σ H (WL K ws)) : EvX (tCall (sp_good_plan K A) [] E (tCons te tNil)) σ H (WL K ws) :=
  x_call1 h fun x H1 e1 hx Q q => ⟨x, _, rfl, wl_th hx, shd_words ws, (fun _ H' e => q x H' e (mono_wl _ _ _ e hx)), fun z => by rw [plan_words] at z; cases z⟩
theorem er_goodplan (h : EvX te σ H (ThP K d)) (hs : ShD d) (hl : isPlanD d = false) (k : RaiseE E A.plan H) : Er (tCall (sp_good_plan K A) [] E (tCons te tNil)) σ H :=
  er_call1 h fun x H1 e1 hx Q => ⟨x, d, rfl, hx, hs, (fun z => by rw [hl] at z; cases z), fun _ => k.mono e1⟩
theorem x_vlW (h : EvX te σ H (WL K ws)) : EvX te σ H (VL K (ws.map wV)) := h
theorem x_wlv {v : V} {i : Nat} (h : σ[i]? = some (some v)) (hd : WL K ws v H) : EvX (tVar i) σ H (WL K ws) := x_of (ev_var h) mono_wl hd
theorem x_wlL (h : EvL te σ H (ws.map wV)) : EvX te σ H (WL K ws) := fun H1 e Q q => h H1 e Q fun p H2 _ e2 hp => q _ H2 e2 ⟨p, rfl, sq_of hp⟩
theorem of_mapW {j : Nat} {v : V} (h : (ws.map wV)[j]? = some v) : ∃ w, ws[j]? = some w ∧ v = wV w := by
  rw [List.getElem?_map] at h
  cases e : ws[j]? with
  | none =>
    rw [e] at h
    cases h
  | some n =>
    rw [e] at h
    exact ⟨n, rfl, (Option.some.inj h).symm⟩
end
/-! ### walked -/
def PlanSp (R : List Wd → Hp → VK → Prop) (d : PyData) (A : Ad) (H : Hp) (Q : VK) (E : XK) : Prop := ShD d ∧ (∀ ws, d = .list (ws.map wD) → R ws H Q) ∧ (isPlanD d = false → RaiseE E A.plan H)
def sp_walked (K : PySem.W.Frag) (A : Ad) : Sp := fun vs H Q E => ∃ v d num, vs = [v, .int num] ∧ Th K H v d ∧ PlanSp (fun ws => RetV (.int (Few.walkOf num ws))) d A H Q E
def t_walked (K : PySem.W.Frag) (A : Ad) (E : XK) : TS :=
  (tSeq (tAsg (tC (.int 0)) (gName 2))
    (tSeq (tFor (iList K (tCall (sp_good_plan K A) [] E (tCons (tVar 0) tNil))) (gName 3) (tIfS (tTest (tOp rEq (tVar 3) (tC (.str "double")))) (tAsg (tOp rMulI (tC (.int 2)) (tVar 2)) (gName 2)) (tIfS (tTest (tOp rEq (tVar 3) (tC (.str "put")))) (tAug 2 (tVar 1) (ipI fun i j => i + j)) (tAug 2 (tVar 1) (ipI fun i j => i - j)))))
    (tRet (tVar 2))))

theorem take_snoc {α : Type} {l : List α} {i : Nat} {x : α} (h : l[i]? = some x) : l.take (i + 1) = l.take i ++ [x] := by
  rw [List.take_add_one, h]
  rfl
theorem r_walked (h : sp_walked K A vs H Q E) : t_walked K A E (D0 Q) (start ["plan", "number", "found", "word"] vs) H := by
  obtain ⟨v, d, num, rfl, hd, hsh, k1, k2⟩ := h
  refine q_asg ev_c fun H1 e1 => ?_
  cases hl : isPlanD d with
  | false => exact er_qfor (er_goodplan (x_th rfl (hd.mono e1)) hsh hl ((k2 hl).mono e1))
  | true =>
    obtain ⟨ws, rfl⟩ := plan_is hl
    have k : RetV (.int (Few.walkOf num ws)) H Q := k1 ws rfl
    refine q_forP (x_vlW (x_goodplan (x_wlv rfl (hd.mono e1).wl))) (fun i σ' => ∃ u, σ' = [some v, some (.int num), some (.int (Few.walkOf num (ws.take i))), u]) ⟨none, rfl⟩ ?_ ?_
    · rintro H2 i x σ' H' e2 e3 hx ⟨u, rfl⟩
      obtain ⟨w, hw, rfl⟩ := of_mapW hx
      have step : Few.walkOf num (ws.take (i + 1)) = Few.wstep num (Few.walkOf num (ws.take i)) w := by rw [take_snoc hw, Few.walk_snoc]
      refine s_if (et_is (et_test (ev_op (ev_var rfl) ev_c (rv_eq rfl))) (wV_dbl w)) (fun hb H4 e4 => ?_) (fun hb H4 e4 => ?_)
      · have z : w = .dbl := of_decide_eq_true hb
        subst z
        refine s_asg (ev_op ev_c (ev_var rfl) (rv_mul (cmul_l ⟨by decide, by decide⟩))) fun H5 e5 => ⟨⟨some (wV .dbl), ?_⟩, (e3.trans e4).trans e5⟩
        rw [step]
        rfl
      · have z : w ≠ .dbl := of_decide_eq_false hb
        refine s_if (et_is (et_test (ev_op (ev_var rfl) ev_c (rv_eq rfl))) (wV_put w)) (fun hb2 H5 e5 => ?_) (fun hb2 H5 e5 => ?_)
        · have z2 : w = .put := of_decide_eq_true hb2
          subst z2
          refine s_aug rfl (ev_var rfl) fun H6 e6 => ⟨⟨some (wV .put), ?_⟩, ((e3.trans e4).trans e5).trans e6⟩
          rw [step]
          rfl
        · have z2 : w ≠ .put := of_decide_eq_false hb2
          have z3 : w = .tak := by cases w <;> first | rfl | exact absurd rfl z | exact absurd rfl z2
          subst z3
          refine s_aug rfl (ev_var rfl) fun H6 e6 => ⟨⟨some (wV .tak), ?_⟩, ((e3.trans e4).trans e5).trans e6⟩
          rw [step]
          rfl
    · rintro σ' H' e2 ⟨u, rfl⟩
      rw [List.length_map, List.take_length]
      exact s_retV (ev_var rfl) (k.mono (e1.trans e2))
section
variable {te tx : TE} {σ : L2.St} {ws : List Wd} {d : PyData} {num : Int}
theorem PlanSp.good {R : List Wd → Hp → VK → Prop} (hr : R ws H Q) : PlanSp R (.list (ws.map wD)) A H Q E := ⟨shd_words ws, (fun ms e => by
    have e' : ws = ms := wDs_inj (PyData.list.inj e)
    rw [← e']
    exact hr), fun z => by rw [plan_words] at z; cases z⟩
theorem PlanSp.bad {R : List Wd → Hp → VK → Prop} (hs : ShD d) (hl : isPlanD d = false) (hr : RaiseE E A.plan H) : PlanSp R d A H Q E := ⟨hs, (fun ws e => by rw [e, plan_words] at hl; cases hl), fun _ => hr⟩
theorem ev_walked (h : EvX te σ H (WL K ws)) (h2 : Ev tx σ H (.int num)) : Ev (tCall (sp_walked K A) [] E (tCons te (tCons tx tNil))) σ H (.int (Few.walkOf num ws)) :=
  ev_call2 h mono_wl (x_v h2) fun x y H1 e1 hx hy Q q => ⟨x, _, num, by rw [show y = V.int num from hy], wl_th hx, .good fun H' e => q H' e⟩
theorem ev_walked1 (h : EvX te σ H (WL K ws)) : Ev (tCall (sp_walked K A) [.int 1] E (tCons te tNil)) σ H (.int (Few.walkOf 1 ws)) := fun H1 e Q q =>
  h H1 e _ fun v H2 e2 hp => ⟨v, _, 1, rfl, wl_th hp, .good fun H' e' => q H' (e2.trans e')⟩
end
/-! ### cost -/
def sp_cost (K : PySem.W.Frag) (A : Ad) : Sp := fun vs H Q E => ∃ v d, vs = [v] ∧ Th K H v d ∧ PlanSp (fun ws => RetV (.int (Few.costOf ws : Nat))) d A H Q E
def t_cost (K : PySem.W.Frag) (A : Ad) (E : XK) : TS :=
  (tSeq (tAsg (tC (.int 0)) (gName 1))
    (tSeq (tFor (iList K (tCall (sp_good_plan K A) [] E (tCons (tVar 0) tNil))) (gName 2) (tIfS (tTest (tOp rNe (tVar 2) (tC (.str "double")))) (tAug 1 (tC (.int 1)) (ipI fun i j => i + j)) tNext))
    (tRet (tVar 1))))

theorem r_cost (h : sp_cost K A vs H Q E) : t_cost K A E (D0 Q) (start ["plan", "many", "word"] vs) H := by
  obtain ⟨v, d, rfl, hd, hsh, k1, k2⟩ := h
  refine q_asg ev_c fun H1 e1 => ?_
  cases hl : isPlanD d with
  | false => exact er_qfor (er_goodplan (x_th rfl (hd.mono e1)) hsh hl ((k2 hl).mono e1))
  | true =>
    obtain ⟨ws, rfl⟩ := plan_is hl
    have k : RetV (.int (Few.costOf ws : Nat)) H Q := k1 ws rfl
    refine q_forP (x_vlW (x_goodplan (x_wlv rfl (hd.mono e1).wl))) (fun i σ' => ∃ u, σ' = [some v, some (.int (Few.costOf (ws.take i) : Nat)), u]) ⟨none, rfl⟩ ?_ ?_
    · rintro H2 i x σ' H' e2 e3 hx ⟨u, rfl⟩
      obtain ⟨w, hw, rfl⟩ := of_mapW hx
      have step : Few.costOf (ws.take (i + 1)) = Few.costOf (ws.take i) + if w = .dbl then 0 else 1 := by rw [take_snoc hw, Few.cost_snoc]
      refine s_when (b := !decide (w = .dbl)) (et_is (et_test (ev_op (ev_var rfl) ev_c (rv_ne rfl))) (by rw [wV_dbl])) (fun hb H4 e4 => ?_) (fun hb H4 e4 => ?_)
      · have z : w ≠ .dbl := by simpa using hb
        rw [if_neg z] at step
        refine s_aug rfl ev_c fun H5 e5 => ⟨⟨some (wV w), ?_⟩, (e3.trans e4).trans e5⟩
        rw [step]
        rfl
      · have z : w = .dbl := by simpa using hb
        rw [if_pos z] at step
        refine ⟨⟨some (wV w), ?_⟩, e3.trans e4⟩
        rw [step]
        rfl
    · rintro σ' H' e2 ⟨u, rfl⟩
      rw [List.length_map, List.take_length]
      exact s_retV (ev_var rfl) (k.mono (e1.trans e2))
theorem ev_cost {te : TE} {σ : L2.St} {ws : List Wd} (h : EvX te σ H (WL K ws)) : Ev (tCall (sp_cost K A) [] E (tCons te tNil)) σ H (.int (Few.costOf ws : Nat)) :=
  ev_call1 h fun x H1 e1 hx Q q => ⟨x, _, rfl, wl_th hx, .good fun H' e => q H' e⟩
/-! ### plan_of -/
def sp_plan_of (K : PySem.W.Frag) (A : Ad) : Sp := LoadSp (fun n H Q => (Few.laid n).length ≤ 20000 ∧ RetL ((Few.planOf n).map wV) H Q) K A
def t_plan_of (K : PySem.W.Frag) (A : Ad) (E : XK) : TS :=
  (tSeq (tAsg (tLst tNil) (gName 1))
    (tSeq (tFor (iRev K (tCons (tCall (sp_laid K A) [] E (tCons (tVar 0) tNil)) tNil)) (gName 2) (tSeq (tIfS (tTest (tOp (rNeD K) (tVar 1) (tLst tNil))) (tDrop (tBM K "list" rAppend (tVar 1) (tCons (tC (.str "double")) tNil))) tNext)
    (tSeq (tIfS (tTest (tOp rEq (tVar 2) (tC (.int 1)))) (tDrop (tBM K "list" rAppend (tVar 1) (tCons (tC (.str "put")) tNil))) tNext)
    (tIfS (tTest (tOp rEq (tVar 2) (tUn rNegI (tC (.int 1))))) (tDrop (tBM K "list" rAppend (tVar 1) (tCons (tC (.str "take")) tNil))) tNext))))
    (tRet (tVar 1))))

theorem shaped_words : ∀ ws : List Wd, SeqAt.shaped (.list (ws.map wD)) = true := by
  have a : ∀ ws : List Wd, PyData.canLayAll0 (ws.map wD) = true := by
    intro ws
    induction ws with
    | nil => rfl
    | cons x xs ih =>
      show (PyData.canLay0 (wD x) && PyData.canLayAll0 (xs.map wD)) = true
      rw [ih, SeqAt.canLay_of_shaped (shaped_word x)]
      rfl
  have b : ∀ ws : List Wd, PyData.depthAll (ws.map wD) = 0 := by
    intro ws
    induction ws with
    | nil => rfl
    | cons x xs ih =>
      show max (PyData.depth (wD x)) (PyData.depthAll (xs.map wD)) = 0
      rw [ih]
      cases x <;> rfl
  intro ws
  unfold SeqAt.shaped
  have a' : PyData.canLay0 (.list (ws.map wD)) = true := a ws
  have b' : PyData.depth (.list (ws.map wD)) = 1 := by
    show PyData.depthAll (ws.map wD) + 1 = 1
    rw [b]
  rw [a', b']
  rfl
theorem eqv_words : ∀ xs ys : List Wd, PyData.eqvAll (xs.map wD) (ys.map wD) = decide (xs = ys)
  | [], [] => rfl
  | [], _ :: _ => by simp [PyData.eqvAll]
  | _ :: _, [] => by simp [PyData.eqvAll]
  | x :: xs, y :: ys => by
    have ih := eqv_words xs ys
    show (PyData.eqv (wD x) (wD y) && PyData.eqvAll (xs.map wD) (ys.map wD)) = _
    have e : PyData.eqv (wD x) (wD y) = decide (x = y) := by
      show (wS x == wS y) = decide (x = y)
      by_cases h : x = y
      · subst h
        simp
      · rw [decide_eq_false h]
        exact beq_eq_false_iff_ne.mpr fun z => h ((wS_inj x y).mp z)
    rw [ih, e]
    by_cases h1 : x = y
    · subst h1
      by_cases h2 : xs = ys
      · subst h2
        simp
      · simp [h2]
    · simp [h1]
section
variable {te tb : TE} {σ : L2.St} {xs ys : List Wd}
theorem ev_eqW (ha : EvX te σ H (WL K xs)) (hb : EvX tb σ H (WL K ys)) : Ev (tOp (rEqD K) te tb) σ H (.bl (decide (xs = ys))) := ev_opX ha mono_wl hb fun x y H1 _ ⟨a, ea, sa⟩ ⟨b, eb, sb⟩ H2 e2 Q k => by
  subst ea eb
  refine ⟨_, _, .lst (ex_l e2 sa) dpw, .lst (ex_l e2 sb) dpw, shaped_words xs, shaped_words ys, ?_⟩
  have z : PyData.eqv (.list (xs.map wD)) (.list (ys.map wD)) = decide (xs = ys) := eqv_words xs ys
  rw [z]
  exact k H2 (Ex.refl H2)
theorem ev_neW (ha : EvX te σ H (WL K xs)) (hb : EvX tb σ H (WL K ys)) : Ev (tOp (rNeD K) te tb) σ H (.bl (!decide (xs = ys))) := ev_opX ha mono_wl hb fun x y H1 _ ⟨a, ea, sa⟩ ⟨b, eb, sb⟩ H2 e2 Q k => by
  subst ea eb
  refine ⟨_, _, .lst (ex_l e2 sa) dpw, .lst (ex_l e2 sb) dpw, shaped_words xs, shaped_words ys, ?_⟩
  have z : PyData.eqv (.list (xs.map wD)) (.list (ys.map wD)) = decide (xs = ys) := eqv_words xs ys
  rw [z]
  exact k H2 (Ex.refl H2)
theorem Led.wl {H0 : Hp} {ps : List (Addr × List V)} {p : Addr} {ws : List Wd} (L : Led H0 H ps) (i : Nat) (hi : ps[i]? = some (p, ws.map wV)) : WL K ws (.ref p) H := ⟨p, rfl, sq_of (L.at i hi)⟩
theorem mapW_snoc (ws : List Wd) (w : Wd) : ws.map wV ++ [wV w] = (ws ++ [w]).map wV := by rw [List.map_append]; rfl
theorem len_mapW (ws : List Wd) : (ws.map wV).length = ws.length := List.length_map ..
/-- a loop over reversed(xs), any word of the turn -/
theorem q_forRvL {D : Ends} {tl : TE} {tu tz : TS} {xs : List V} {j : Nat} (h : EvL tl σ H xs) (Pv : Addr → Nat → L2.St → Hp → Prop) (h0 : ∀ p H1, H p = none → Ex H H1 → H1 p = some (.lst xs) → Pv p 0 σ H1) (hl : ∀ p i σ' H', i ≤ xs.length → Pv p i σ' H' → SqL K H' p xs)
    (hs : ∀ p i x σ' H', i < xs.length → xs[xs.length - 1 - i]? = some x → Pv p i σ' H' → tu { D with nx := Pv p (i + 1), ct := Pv p (i + 1), bk := tz D } (σ'.set j (some x)) H') (hd : ∀ p σ' H', Pv p xs.length σ' H' → tz D σ' H') : tSeq (tFor (iRev K (tCons tl tNil)) (gName j) tu) tz D σ H :=
  h H (Ex.refl H) _ fun p H1 hp e1 hx => ⟨p, xs, rfl, sq_of hx, for_rv (D := { D with nx := tz D }) (Pv p) (h0 p H1 hp e1 hx) (hl p) (hs p) (hd p)⟩
end
theorem plan_drop {ns : List Int} {i : Nat} {n : Int} (hi : i < ns.length) (h : ns[ns.length - 1 - i]? = some n) : Few.planAux (ns.drop (ns.length - (i + 1))).reverse = Few.pstep (Few.planAux (ns.drop (ns.length - i)).reverse) n := by
  have e : ns.length - (i + 1) = ns.length - 1 - i := by omega
  have hlt : ns.length - 1 - i < ns.length := by omega
  rw [e, List.drop_eq_getElem_cons hlt]
  have e2 : ns[ns.length - 1 - i] = n := by
    rw [List.getElem?_eq_getElem hlt] at h
    exact Option.some.inj h
  rw [e2, List.reverse_cons, Few.plan_snoc, show ns.length - 1 - i + 1 = ns.length - i by omega]
theorem r_plan_of (h : sp_plan_of K A vs H Q E) : t_plan_of K A E (D0 Q) (start ["load", "plan", "one"] vs) H := by
  obtain ⟨v, d, rfl, hd, k1, k2⟩ := h
  refine q_asgL (xs := []) (el_lst ea_nil (by decide)) fun p H1 hp e1 hx => ?_
  cases hl : wholeD d with
  | false => exact er_qforRv (er_laid (x_th rfl (hd.mono e1)) hl ((k2 hl).mono e1))
  | true =>
    obtain ⟨n, rfl⟩ := whole_is hl
    obtain ⟨hz, k⟩ := k1 n rfl
    have hv := th_int_is hd
    subst hv
    have L1 := (Led.nil H).new hp e1 hx
    have hlay := Few.lay_laid n
    refine q_forRvL (xs := (Few.laid n).map V.int) (el_laid (ev_var rfl) (by omega))
      (fun a i σ' H' => ∃ u, σ' = [some (.int n), some (.ref p), u] ∧ Led H H' [(a, (Few.laid n).map V.int), (p, (Few.planAux ((Few.laid n).drop ((Few.laid n).length - i)).reverse).map wV)]) ?_ (fun a i σ' H' _ ⟨u, _, L⟩ => sq_of (L.at 0 rfl)) ?_ ?_
    · intro a H2 ha e2 hy
      refine ⟨none, rfl, ?_⟩
      rw [Nat.sub_zero, List.drop_length]
      exact L1.new ha e2 hy
    · rintro a i x σ' H' hi hx' ⟨u, rfl, L⟩
      rw [List.length_map] at hi hx'
      obtain ⟨m, hm, rfl⟩ := of_map hx'
      have pm := hlay m (List.mem_of_getElem? hm)
      have step := plan_drop hi hm
      have plen : (Few.planAux ((Few.laid n).drop ((Few.laid n).length - i)).reverse).length ≤ 40000 := by
        have := (Few.plan_aux 1 (Few.lay_drop hlay ((Few.laid n).length - i))).2.2
        rw [List.length_drop] at this
        omega
      rw [step]
      generalize Few.planAux ((Few.laid n).drop ((Few.laid n).length - i)).reverse = pl at L plen
      -- the doubling
      have dbl : ∀ (D : Ends) (tz : TS), (∀ H4 ws, Led H H4 [(a, (Few.laid n).map V.int), (p, ws.map wV)] → ws = (if pl = [] then pl else pl ++ [.dbl]) → tz D [some (.int n), some (.ref p), some (.int m)] H4) →
          tSeq (tIfS (tTest (tOp (rNeD K) (tVar 1) (tLst tNil))) (tDrop (tBM K "list" rAppend (tVar 1) (tCons (tC (.str "double")) tNil))) tNext) tz D [some (.int n), some (.ref p), some (.int m)] H' := by
        intro D tz hk
        refine q_when (et_test (ev_neW (ys := []) (x_wlv rfl (L.wl 1 rfl)) (x_wlL (el_lst ea_nil (by decide))))) (fun hb H4 e4 => ?_) (fun hb H4 e4 => ?_)
        · have z : pl ≠ [] := by simpa using hb
          refine s_app ((L.ex e4).at 1 rfl) (ev_var rfl) ev_c (by rw [len_mapW]; omega) fun H5 e5 => ?_
          have L5 := ((L.ex e4).ex e5).put 1 ((pl ++ [Wd.dbl]).map wV) rfl
          rw [show pl.map wV ++ [V.str "double"] = List.map wV (pl ++ [Wd.dbl]) from mapW_snoc pl Wd.dbl]
          exact hk _ _ L5 (by rw [if_neg z])
        · have z : pl = [] := by simpa using hb
          exact hk H4 pl (L.ex e4) (by rw [if_pos z])
      refine dbl _ _ fun H4 ws L4 hws => ?_
      have wlen : ws.length ≤ 40001 := by
        rw [hws]
        split
        · omega
        · rw [List.length_append]
          simp
          omega
      have fin : Few.pstep pl m = ws ++ Few.ptail m := by rw [hws]; rfl
      rw [fin]
      rcases pm with z | z | z
      · subst z
        refine q_when (et_is (et_test (ev_op (ev_var rfl) ev_c (rv_eq rfl))) eq_dec) (fun hb H5 e5 => ?_) (fun hb => by cases hb)
        refine s_app ((L4.ex e5).at 1 rfl) (ev_var rfl) ev_c (by rw [len_mapW]; omega) fun H6 e6 => ?_
        have L6 := ((L4.ex e5).ex e6).put 1 ((ws ++ [Wd.put]).map wV) rfl
        rw [show ws.map wV ++ [V.str "put"] = List.map wV (ws ++ [Wd.put]) from mapW_snoc ws Wd.put]
        refine s_when (et_is (et_test (ev_op (ev_var rfl) (ev_un ev_c ru_neg) (rv_eq rfl))) eq_dec) (fun hb => by cases hb) (fun _ H7 e7 => ⟨_, rfl, L6.ex e7⟩)
      · subst z
        refine q_when (et_is (et_test (ev_op (ev_var rfl) ev_c (rv_eq rfl))) eq_dec) (fun hb => by cases hb) (fun hb H5 e5 => ?_)
        refine s_when (et_is (et_test (ev_op (ev_var rfl) (ev_un ev_c ru_neg) (rv_eq rfl))) eq_dec) (fun hb => by cases hb) (fun _ H7 e7 => ⟨_, rfl, ?_⟩)
        rw [Few.ptail_0, List.append_nil]
        exact (L4.ex e5).ex e7
      · subst z
        refine q_when (et_is (et_test (ev_op (ev_var rfl) ev_c (rv_eq rfl))) eq_dec) (fun hb => by cases hb) (fun hb H5 e5 => ?_)
        refine s_when (et_is (et_test (ev_op (ev_var rfl) (ev_un ev_c ru_neg) (rv_eq rfl))) eq_dec) (fun _ H7 e7 => ?_) (fun hb => by cases hb)
        refine s_app (((L4.ex e5).ex e7).at 1 rfl) (ev_var rfl) ev_c (by rw [len_mapW]; omega) fun H8 e8 => ?_
        have L8 := (((L4.ex e5).ex e7).ex e8).put 1 ((ws ++ [Wd.tak]).map wV) rfl
        rw [show ws.map wV ++ [V.str "take"] = List.map wV (ws ++ [Wd.tak]) from mapW_snoc ws Wd.tak]
        exact ⟨_, rfl, L8⟩
    · rintro a σ' H' ⟨u, rfl, L⟩
      rw [List.length_map, Nat.sub_self, List.drop_zero] at L
      exact s_ret (ev_var rfl) fun H5 e5 => k p H5 hp (L.ext.trans e5) (e5 _ _ (L.at 1 rfl))
theorem el_plan_of {te : TE} {σ : L2.St} {n : Int} (h : Ev te σ H (.int n)) (hl : (Few.laid n).length ≤ 20000) : EvL (tCall (sp_plan_of K A) [] E (tCons te tNil)) σ H ((Few.planOf n).map wV) :=
  el_call1 (x_v h) fun x H1 e1 hx Q q => by
    rw [show x = V.int n from hx]
    exact LoadSp.good ⟨hl, fun p H' hp e hx => q p H' hp e hx⟩
end
end Fw

namespace Fw
open PySem PySem.Spec PyProof.Rows L2 Evl
section
variable {K : PySem.W.Frag} {A : Ad} {vs : List V} {H H' : Hp} {Q : VK} {E : XK}
/-! _law_spent -/
def sp_l_spent (K : PySem.W.Frag) (A : Ad) : Sp := fun vs H Q _ => ∃ v ws, vs = [v] ∧ WL K ws v H ∧ ws.length ≤ 40000 ∧ RetV (.int (Few.costOf ws : Nat)) H Q
def t_l_spent (K : PySem.W.Frag) (A : Ad) : TS :=
  (tRet (tCB (Evl.rLenS K) (tCons (tLc (iList K (tVar 0)) (gName 1) (tTest (tOp rNe (tVar 1) (tC (.str "double")))) (tVar 1) [1]) tNil)))
theorem spent_len (ws : List Wd) : (((ws.map wV).filter fun x => !decide (x = V.str "double")).map fun x => x).length = Few.costOf ws := by
  rw [List.length_map, List.filter_map, List.length_map]
  unfold Few.costOf
  congr 1
  apply List.filter_congr
  intro w _
  show (!decide (wV w = V.str "double")) = decide (w ≠ .dbl)
  rw [wV_dbl]
  simp
theorem r_l_spent (h : sp_l_spent K A vs H Q E) : t_l_spent K A (D0 Q) (start ["_law_plan", "_law_word"] vs) H := by
  obtain ⟨v, ws, rfl, hv, hz, k⟩ := h
  refine s_retV (v := .int (Few.costOf ws : Nat)) ?_ k
  refine ev_is (ev_lenV (x_vlL (el_lcV (xs := ws.map wV) (fun x => !decide (x = V.str "double")) (fun x => x) (x_vlW (x_wlv rfl hv)) (by rw [len_mapW]; exact hz) (fun _ => rfl) (fun x H1 _ hx => et_test (ev_op (ev_var rfl) ev_c (rv_ne ?_))) (fun x H1 _ _ _ => ev_var rfl)))) ?_
  · obtain ⟨w, _, rfl⟩ := List.mem_map.mp hx
    rfl
  · rw [spent_len]
theorem ev_spent {te : TE} {σ : L2.St} {ws : List Wd} (h : EvX te σ H (WL K ws)) (hz : ws.length ≤ 40000) : Ev (tCall (sp_l_spent K A) [] E (tCons te tNil)) σ H (.int (Few.costOf ws : Nat)) :=
  ev_call1 h fun x H1 e1 hx Q q => ⟨x, ws, rfl, hx, hz, fun H' e => q H' e⟩
/-! _law_words -/
def sp_l_words (K : PySem.W.Frag) (A : Ad) : Sp := fun vs H Q _ => ∃ v ws, vs = [v] ∧ WL K ws v H ∧ RetV (.bl true) H Q
def t_l_words (K : PySem.W.Frag) (A : Ad) : TS :=
  (tSeq (tIfS (tNot (tB (tCB (rIsi K) (tCons (tVar 0) (tCons (tC (.ty "list")) tNil))))) (tRet (tC (.bl false))) tNext)
    (tSeq (tFor (iList K (tVar 0)) (gName 1) (tIfS (tOr (tNot (tB (tCB (rIsi K) (tCons (tVar 1) (tCons (tC (.ty "str")) tNil))))) (tTest (tOp (rIn K true) (tVar 1) (tTup (tCons (tC (.str "double")) (tCons (tC (.str "put")) (tCons (tC (.str "take")) tNil))))))) (tRet (tC (.bl false))) tNext))
    (tRet (tC (.bl true)))))
theorem word_in (w : Wd) : inV (wV w) [.str "double", .str "put", .str "take"] = true := by cases w <;> decide +kernel
theorem r_l_words (h : sp_l_words K A vs H Q E) : t_l_words K A (D0 Q) (start ["_law_plan", "_law_word"] vs) H := by
  obtain ⟨v, ws, rfl, hv, k⟩ := h
  refine q_skip (et_not (et_B (ev_isList (ev_var rfl) (wl_th hv)))) (by simp [tyD]) fun H1 e1 => ?_
  refine q_forP (x_vlW (x_wlv rfl (mono_wl _ _ _ e1 hv))) (fun i σ' => ∃ u, σ' = [some v, u]) ⟨none, rfl⟩ ?_ ?_
  · rintro H2 i x σ' H' e2 e3 hx ⟨u, rfl⟩
    obtain ⟨w, hw, rfl⟩ := of_mapW hx
    refine s_when (b := false) (et_is (et_or (et_not (et_B (ev_isStr (d := .str (wS w)) (ev_var rfl) (th_str (wS w))))) fun _ => et_test (ev_niU (ev_var rfl) (eu_tup (ea_cons ev_c (ea_cons ev_c (ea_cons ev_c ea_nil))) (by decide)) rfl (by rfl))) ?_) (fun hb => by cases hb) (fun _ H4 e4 => ⟨⟨_, rfl⟩, e3.trans e4⟩)
    rw [word_in]
    simp [tyD]
  · rintro σ' H' e2 ⟨u, rfl⟩
    exact s_retV ev_c (k.mono (e1.trans e2))
theorem ev_words {te : TE} {σ : L2.St} {ws : List Wd} (h : EvX te σ H (WL K ws)) : Ev (tCall (sp_l_words K A) [] E (tCons te tNil)) σ H (.bl true) :=
  ev_call1 h fun x H1 e1 hx Q q => ⟨x, ws, rfl, hx, fun H' e => q H' e⟩
/-! _law_alike of two whole numbers -/
def sp_l_alikeI (K : PySem.W.Frag) (A : Ad) : Sp := fun vs H Q _ => ∃ a b : Int, vs = [.int a, .int b] ∧ RetV (.bl (decide (a = b))) H Q
def t_l_alikeI (K : PySem.W.Frag) (A : Ad) : TS :=
  (tRet (tAndV (tCall (sp_l_whole K A) [] E0 (tCons (tVar 0) tNil)) (tOp rEq (tVar 0) (tVar 1))))
theorem r_l_alikeI (h : sp_l_alikeI K A vs H Q E) : t_l_alikeI K A (D0 Q) (start ["_law_found", "_law_due"] vs) H := by
  obtain ⟨a, b, rfl, k⟩ := h
  exact s_retV (v := .bl (decide (a = b))) (ev_is (ev_andV (ev_l_whole (ev_var rfl)) fun _ => ev_op (ev_var rfl) (ev_var rfl) (rv_eq rfl)) (by rw [eq_dec]; simp)) k
theorem ev_alikeI {te tx : TE} {σ : L2.St} {a b : Int} (h : Ev te σ H (.int a)) (h2 : Ev tx σ H (.int b)) : Ev (tCall (sp_l_alikeI K A) [] E (tCons te (tCons tx tNil))) σ H (.bl (decide (a = b))) :=
  ev_call2 (x_v h) mono_is (x_v h2) fun x y H1 e1 hx hy Q q => ⟨a, b, by rw [show x = V.int a from hx, show y = V.int b from hy], fun H' e => q H' e⟩
/-! drawn words -/
def wdOf (c : Int) : Wd := if c % 3 = 0 then .dbl else if c % 3 = 1 then .put else .tak
section
variable {σ : L2.St} {te tb : TE}
/-- ["double", "put", "take"][c % 3] -/
theorem ev_word {c : Int} (h : Ev te σ H (.int c)) : Ev (tOp (rIxL K) (tLst (tCons (tC (.str "double")) (tCons (tC (.str "put")) (tCons (tC (.str "take")) tNil)))) (tOp rModI te (tC (.int 3)))) σ H (wV (wdOf c)) := by
  obtain ⟨j, hj, hl⟩ := mod_nat c 3 (by decide)
  refine ev_ixV (xs := [.str "double", .str "put", .str "take"]) (j := j) (x_vlL (el_lst (ea_cons ev_c (ea_cons ev_c (ea_cons ev_c ea_nil))) (by decide))) (ev_op h ev_c (rv_mod (by decide))) hj ?_
  have hj' : c % 3 = (j : Int) := hj
  have : j = 0 ∨ j = 1 ∨ j = 2 := by omega
  unfold wdOf
  rw [hj']
  rcases this with z | z | z <;> subst z <;> rfl
theorem el_toV {xs : List V} {n : Nat} {i : Int} (h : EvX te σ H (VL K xs)) (hb : Ev tb σ H (.int i)) (hi : i = (n : Int)) : EvL (tSl (rSlL K) te tNoPart (tPart tb)) σ H (xs.take n) := fun H1 e Q q =>
  h H1 e _ fun v H2 e2 hv => (eo_none (σ := σ) (H := H)) H2 (e.trans e2) _ fun H3 e3 => (eo_some hb) H3 ((e.trans e2).trans e3) _ fun H4 e4 => by
    obtain ⟨a, rfl, hs⟩ := hv
    refine ⟨a, _, rfl, ex_l (e3.trans e4) hs, fun p hp => q p _ (fresh_back ((e2.trans e3).trans e4) hp) (((e2.trans e3).trans e4).trans (Ex.new hp)) ?_⟩
    rw [upd_same, hi, cut_to]
theorem x_revL {ns : List Int} (h : EvX te σ H (IL K ns)) : EvL (tRevL K te) σ H (ns.reverse.map V.int) := fun H1 e Q q => h H1 e _ fun v H2 e2 ⟨a, ev, hs⟩ => ⟨a, _, ev, hs, fun p hp => q p _ (fresh_back e2 hp) (e2.trans (Ex.new hp)) (by rw [upd_same, List.map_reverse])⟩
end
theorem rep_map {α β : Type} (f : α → β) (l : List α) (n : Nat) : (List.replicate n (l.map f)).flatten = ((List.replicate n l).flatten).map f := by
  induction n with
  | zero => rfl
  | succ n ih => rw [List.replicate_succ, List.replicate_succ, List.flatten_cons, List.flatten_cons, ih, List.map_append]
theorem rep_len {α : Type} (l : List α) (n : Nat) : ((List.replicate n l).flatten).length = n * l.length := by
  induction n with
  | zero => simp
  | succ n ih => rw [List.replicate_succ, List.flatten_cons, List.length_append, ih, Nat.succ_mul, Nat.add_comm]
theorem mem_rep {α : Type} {l : List α} {n : Nat} {x : α} (h : x ∈ (List.replicate n l).flatten) : x ∈ l := by
  obtain ⟨m, hm, hx⟩ := List.mem_flatten.mp h
  rw [(List.mem_replicate.mp hm).2] at hx
  exact hx
/-! _law_sum, by a list turned about -/
def sp_l_sum (K : PySem.W.Frag) (A : Ad) : Sp := fun vs H Q _ => ∃ v ns, vs = [v] ∧ IL K ns v H ∧ RetV (.int (Few.loadOf ns)) H Q
def t_l_sum (K : PySem.W.Frag) (A : Ad) : TS :=
  (tSeq (tAsg (tC (.int 0)) (gName 1))
    (tSeq (tFor (iList K (tRevL K (tVar 0))) (gName 2) (tAsg (tOp rAddI (tOp rAddI (tVar 1) (tVar 1)) (tVar 2)) (gName 1)))
    (tRet (tVar 1))))
theorem r_l_sum (h : sp_l_sum K A vs H Q E) : t_l_sum K A (D0 Q) (start ["_law_things", "_law_found", "_law_thing"] vs) H := by
  obtain ⟨v, ns, rfl, hv, k⟩ := h
  refine q_asg ev_c fun H1 e1 => ?_
  refine q_forP (x_vlI (x_ilL (x_revL (x_ilv rfl (mono_il _ _ _ e1 hv))))) (fun i σ' => ∃ u, σ' = [some v, some (.int (Few.loadOf (ns.reverse.take i).reverse)), u]) ⟨none, rfl⟩ ?_ ?_
  · rintro H2 i x σ' H' e2 e3 hx ⟨u, rfl⟩
    obtain ⟨n, hn, rfl⟩ := of_map hx
    have st : Few.loadOf (ns.reverse.take (i + 1)).reverse = Few.loadOf (ns.reverse.take i).reverse + Few.loadOf (ns.reverse.take i).reverse + n := by
      rw [take_snoc hn, List.reverse_append]
      show 2 * Few.loadOf (ns.reverse.take i).reverse + n = _
      omega
    refine s_asg (ev_op (ev_op (ev_var rfl) (ev_var rfl) rv_I0) (ev_var rfl) rv_I0) fun H4 e4 => ⟨⟨some (.int n), ?_⟩, e3.trans e4⟩
    rw [st]
    rfl
  · rintro σ' H' e2 ⟨u, rfl⟩
    rw [List.length_map, List.take_length, List.reverse_reverse]
    exact s_retV (ev_var rfl) (k.mono (e1.trans e2))
theorem ev_sum {te : TE} {σ : L2.St} {ns : List Int} (h : EvX te σ H (IL K ns)) : Ev (tCall (sp_l_sum K A) [] E (tCons te tNil)) σ H (.int (Few.loadOf ns)) :=
  ev_call1 h fun x H1 e1 hx Q q => ⟨x, ns, rfl, hx, fun H' e => q H' e⟩
/-! _law_neat by one loop over the places -/
def sp_l_neatK (K : PySem.W.Frag) (A : Ad) : Sp := fun vs H Q _ => ∃ v ns, vs = [v] ∧ IL K ns v H ∧ Few.Lay ns ∧ ns.length ≤ 100000 ∧ RetV (.bl (Few.neatB ns)) H Q
def t_l_neatK (K : PySem.W.Frag) (A : Ad) : TS :=
  (tSeq (tIfS (tNot (tB (tCB (rIsi K) (tCons (tVar 0) (tCons (tC (.ty "list")) tNil))))) (tRet (tC (.bl false))) tNext)
    (tSeq (tFor (iRng1 (tCons (tCB (Evl.rLenS K) (tCons (tVar 0) tNil)) tNil)) (gName 1) (tSeq (tIfS (tOr (tNot (tB (tCall (sp_l_whole K A) [] E0 (tCons (tOp (rIxL K) (tVar 0) (tVar 1)) tNil)))) (tTest (tOp (rIn K true) (tOp (rIxL K) (tVar 0) (tVar 1)) (tTup (tCons (tC (.int 1)) (tCons (tC (.int 0)) (tCons (tUn rNegI (tC (.int 1))) tNil))))))) (tRet (tC (.bl false))) tNext)
    (tIfS (tAnd (tTest (tOp rGtI (tVar 1) (tC (.int 0)))) (tAnd (tTest (tOp rNe (tOp (rIxL K) (tVar 0) (tOp rSubI (tVar 1) (tC (.int 1)))) (tC (.int 0)))) (tTest (tOp rNe (tOp (rIxL K) (tVar 0) (tVar 1)) (tC (.int 0)))))) (tRet (tC (.bl false))) tNext)))
    (tRet (tOrV (tOp rEq (tCB (Evl.rLenS K) (tCons (tVar 0) tNil)) (tC (.int 0))) (tOp rNe (tOp (rIxL K) (tVar 0) (tUn rNegI (tC (.int 1)))) (tC (.int 0)))))))
theorem pm_in {n : Int} (h : Few.Pm n) : inV (.int n) [.int 1, .int 0, .int (-1)] = true := by
  rcases h with z | z | z <;> subst z <;> decide +kernel
theorem r_l_neatK (h : sp_l_neatK K A vs H Q E) : t_l_neatK K A (D0 Q) (start ["_law_things", "_law_k"] vs) H := by
  obtain ⟨v, ns, rfl, hv, hl, hz, k⟩ := h
  refine q_skip (et_not (et_B (ev_isList (ev_var rfl) (il_th hv)))) (by simp [tyD]) fun H1 e1 => ?_
  have hv1 := mono_il _ _ _ e1 hv
  refine q_forRgP (n := (ns.length : Int)) (ea_cons (ev_lenX (x_ilv rfl hv1)) ea_nil) ⟨by omega, by omega⟩ (fun i σ' => ∃ u, σ' = [some v, u] ∧ Few.apartB (ns.take i) = true) ⟨none, rfl, rfl⟩ ?_ ?_
  · rintro H2 i σ' H' e2 e3 hi ⟨u, rfl, ha⟩
    have hi1 : i < ns.length := by omega
    have g1 : ns[i]? = some ns[i] := List.getElem?_eq_getElem hi1
    have hv2 := mono_il _ _ _ (e2.trans e3) hv1
    have pm := hl ns[i] (List.getElem_mem hi1)
    have at_ : ∀ H4, Ex H' H4 → Ev (tOp (rIxL K) (tVar 0) (tVar 1)) [some v, some (.int (i : Int))] H4 (.int ns[i]) := fun H4 e4 => ev_ix (j := i) (x_ilv rfl (mono_il _ _ _ e4 hv2)) (ev_var rfl) rfl g1
    have at0 := at_ H' (Ex.refl H')
    refine q_skip (et_is (et_or (et_not (et_B (ev_l_whole at0))) fun _ => et_test (ev_niU at0 (eu_tup (ea_cons ev_c (ea_cons ev_c (ea_cons (ev_un ev_c ru_neg) ea_nil))) (by decide)) rfl (by rfl))) (by rw [pm_in pm]; rfl)) rfl fun H4 e4 => ?_
    have st := Few.apart_step g1 ha rfl
    have hv4 := mono_il _ _ _ e4 hv2
    have at4 := at_ H4 e4
    have test : EvT (tAnd (tTest (tOp rGtI (tVar 1) (tC (.int 0)))) (tAnd (tTest (tOp rNe (tOp (rIxL K) (tVar 0) (tOp rSubI (tVar 1) (tC (.int 1)))) (tC (.int 0)))) (tTest (tOp rNe (tOp (rIxL K) (tVar 0) (tVar 1)) (tC (.int 0)))))) [some v, some (.int (i : Int))] H4 (!decide (Few.beforeOf 0 (ns.take i) = 0) && !decide (ns[i] = 0)) := by
      have t0 : EvT (tTest (tOp rGtI (tVar 1) (tC (.int 0)))) [some v, some (.int (i : Int))] H4 (decide (0 < (i : Int))) := et_test (ev_op (ev_var rfl) ev_c rv_I0)
      cases i with
      | zero => exact et_is (et_and (b := false) t0 fun z => by cases z) rfl
      | succ j =>
        have g0 : ns[j]? = some ns[j] := List.getElem?_eq_getElem (by omega)
        rw [before_at (by omega)]
        refine et_is (et_and t0 fun _ => et_and (et_is (et_test (ev_op (ev_ix (j := j) (x_ilv rfl hv4) (ev_op (ev_var rfl) ev_c rv_I0) (by omega) g0) ev_c (rv_ne rfl))) ne_zero) fun _ => et_is (et_test (ev_op at4 ev_c (rv_ne rfl))) ne_zero) ?_
        rw [decide_eq_true (show (0 : Int) < ((j + 1 : Nat) : Int) by omega)]
        rfl
    refine s_when test (fun hb H5 e5 => ?_) (fun hb H5 e5 => ⟨⟨_, rfl, st.1 hb⟩, (e3.trans e4).trans e5⟩)
    have z : Few.neatB ns = false := by
      rw [Few.neat_iff, st.2 hb]
      rfl
    rw [z] at k
    exact s_retV ev_c (k.mono ((((e1.trans e2).trans e3).trans e4).trans e5))
  · rintro σ' H' e2 ⟨u, rfl, ha⟩
    have ha' : Few.apartB ns = true := by
      rw [Int.toNat_natCast, List.take_length] at ha
      exact ha
    rw [Few.neat_by_last ns rfl ha'] at k
    have hv2 := mono_il _ _ _ e2 hv1
    refine s_retV (v := .bl (decide (ns = []) || !decide (Few.beforeOf 0 ns = 0))) ?_ (k.mono (e1.trans e2))
    have first : Ev (tOp rEq (tCB (Evl.rLenS K) (tCons (tVar 0) tNil)) (tC (.int 0))) [some v, u] H' (.bl (decide (ns = []))) := by
      refine ev_is (ev_op (ev_lenX (x_ilv rfl hv2)) ev_c (rv_eq rfl)) ?_
      rw [eq_dec]
      cases ns with
      | nil => rfl
      | cons n r =>
        rw [decide_eq_false (show ¬ (((n :: r).length : Nat) : Int) = 0 by rw [List.length_cons]; omega)]
        simp
    rcases Few.last_cases ns with z | ⟨r, x, z⟩
    · subst z
      exact ev_orV (a := true) first fun z => by cases z
    · subst z
      obtain ⟨a, rfl, hs'⟩ := hv2
      rw [Few.before_snoc]
      exact ev_orV first fun _ => ev_is (ev_op (ev_op (ev_var rfl) (ev_un ev_c ru_neg) (rv_ixL hs' at_last)) ev_c (rv_ne rfl)) (by rw [ne_zero])
theorem ev_neatK {te : TE} {σ : L2.St} {ns : List Int} (h : EvX te σ H (IL K ns)) (hl : Few.Lay ns) (hz : ns.length ≤ 100000) : Ev (tCall (sp_l_neatK K A) [] E (tCons te tNil)) σ H (.bl (Few.neatB ns)) :=
  ev_call1 h fun x H1 e1 hx Q q => ⟨x, ns, rfl, hx, hl, hz, fun H' e => q H' e⟩
end
end Fw

namespace Fw
open PySem PySem.Spec PyProof.Rows L2 Evl
/-! a thing put into a list, things drawn from a list of things -/
section
variable {K : PySem.W.Frag} {A : Ad} {σ : L2.St} {H H' : Hp} {ta : TA} {tb te tx tl : TE} {D : Ends} {tz : TS} {Q : VK} {E : XK}
theorem el_fromV {xs : List V} {n : Nat} {i : Int} (h : EvX te σ H (VL K xs)) (hb : Ev tb σ H (.int i)) (hi : i = (n : Int)) : EvL (tSl (rSlL K) te (tPart tb) tNoPart) σ H (xs.drop n) := fun H1 e Q q =>
  h H1 e _ fun v H2 e2 hv => (eo_some hb) H2 (e.trans e2) _ fun H3 e3 => (eo_none (σ := σ) (H := H)) H3 ((e.trans e2).trans e3) _ fun H4 e4 => by
    obtain ⟨a, rfl, hs⟩ := hv
    refine ⟨a, _, rfl, ex_l (e3.trans e4) hs, fun p hp => q p _ (fresh_back ((e2.trans e3).trans e4) hp) (((e2.trans e3).trans e4).trans (Ex.new hp)) ?_⟩
    rw [upd_same, hi, cut_from]
/-- xs[a:b], some whole numbers of it -/
theorem el_part {ns : List Int} {i j : Int} (h : EvX te σ H (IL K ns)) (ha : Ev tb σ H (.int i)) (hb : Ev tx σ H (.int j)) : ∃ ms : List Int, ms.length ≤ ns.length ∧ EvL (tSl (rSlL K) te (tPart tb) (tPart tx)) σ H (ms.map V.int) := by
  refine ⟨(ns.drop (HT.sIx ns.length 0 (some i))).take (HT.sIx ns.length ns.length (some j) - HT.sIx ns.length 0 (some i)), ?_, fun H1 e Q q => h H1 e _ fun v H2 e2 hv => (eo_some ha) H2 (e.trans e2) _ fun H3 e3 => (eo_some hb) H3 ((e.trans e2).trans e3) _ fun H4 e4 => ?_⟩
  · rw [List.length_take, List.length_drop]
    omega
  · obtain ⟨a', rfl, hs⟩ := hv
    refine ⟨a', _, rfl, ex_l (e3.trans e4) hs, fun p hp => q p _ (fresh_back ((e2.trans e3).trans e4) hp) (((e2.trans e3).trans e4).trans (Ex.new hp)) ?_⟩
    rw [upd_same]
    unfold cutV
    rw [len_mapI, List.map_take, List.map_drop]
/-- xs[:n] + [e] + xs[n:] -/
theorem x_putin {xs : List V} {n : Nat} {i : Int} {P : V → Hp → Prop} (h : EvX te σ H (VL K xs)) (hb : Ev tb σ H (.int i)) (hi : i = (n : Int)) (hx : EvX tx σ H P) (m : Mono P) (hz : xs.length ≤ 30000) :
    EvX (tOp rCat (tOp rCat (tSl (rSlL K) te tNoPart (tPart tb)) (tLst (tCons tx tNil))) (tSl (rSlL K) te (tPart tb) tNoPart)) σ H (fun v H' => ∃ p x, v = .ref p ∧ H p = none ∧ H' p = some (.lst (xs.take n ++ [x] ++ xs.drop n)) ∧ P x H') := fun H1 e Q q =>
  (el_toV h hb hi) H1 e _ fun p1 H2 hp1 e2 hx1 => hx H2 (e.trans e2) _ fun x H3 e3 px => ⟨by show 1 ≤ sizeLine; decide, fun p2 hp2 => by
    have e4 : Ex H3 (upd H3 p2 (.lst [x])) := Ex.new hp2
    have z1 : (xs.take n).length ≤ 30000 := by
      rw [List.length_take]
      omega
    have z2 : (xs.drop n).length ≤ 30000 := by
      rw [List.length_drop]
      omega
    refine ⟨p1, p2, xs.take n, [x], rfl, rfl, e4 _ _ (e3 _ _ hx1), upd_same, sz_of (by show (xs.take n).length + 1 ≤ 100000; omega), fun p3 hp3 => ?_⟩
    have e5 := Ex.new (o := .lst (xs.take n ++ [x])) hp3
    have f5 := (((e.trans e2).trans e3).trans e4).trans e5
    refine (el_fromV h hb hi) _ f5 _ fun p4 H6 hp4 e6 hx4 => ?_
    refine ⟨p3, p4, xs.take n ++ [x], xs.drop n, rfl, rfl, e6 _ _ upd_same, hx4, sz_of (by rw [List.length_append]; show (xs.take n).length + 1 + (xs.drop n).length ≤ 100000; omega), fun p5 hp5 => ?_⟩
    have e7 := Ex.new (o := .lst (xs.take n ++ [x] ++ xs.drop n)) hp5
    exact q _ _ ((((e2.trans e3).trans e4).trans e5).trans (e6.trans e7)) ⟨p5, x, rfl, fresh_back (f5.trans e6) hp5, upd_same, m _ _ _ ((e4.trans e5).trans (e6.trans e7)) px⟩⟩
/-- [a, b, ..][i] of things -/
theorem x_ixTh {ds : List PyData} {d : PyData} {j : Nat} {i : Int} (h : EvX te σ H (ThL K ds)) (hb : Ev tb σ H (.int i)) (hi : i = (j : Int)) (hd : ds[j]? = some d) : EvX (tOp (rIxL K) te tb) σ H (ThP K d) := fun H1 e Q q =>
  h H1 e _ fun v H2 e2 ⟨a, xs, ev, hs, ht⟩ => hb H2 (e.trans e2) _ fun H3 e3 => by
    subst ev
    have hl := ht.length
    have hj : j < xs.length := by
      have := (List.getElem?_eq_some_iff.mp hd).1
      omega
    have hx : xs[j]? = some xs[j] := List.getElem?_eq_getElem hj
    obtain ⟨d', hd', th⟩ := ht.at hx
    rw [hd] at hd'
    cases hd'
    exact ⟨a, xs, i, xs[j], rfl, rfl, ex_l e3 hs, at_of hi hx, q _ H3 (e2.trans e3) (th.mono e3)⟩
theorem dpa_app : ∀ {vs ws : List V} {ds es : List PyData}, DpAll K H vs ds → DpAll K H ws es → DpAll K H (vs ++ ws) (ds ++ es)
  | _, _, _, _, .nil, h => h
  | _, _, _, _, .cons a b, h => .cons a (dpa_app b h)
theorem dpa_mono (e : Ex H H') {vs : List V} {ds : List PyData} (h : DpAll K H vs ds) : DpAll K H' vs ds := dpA_mono e ds vs h
/-- what is told of a thing by an unknown value -/
def RetP (P : V → Hp → Prop) (H : Hp) (Q : VK) : Prop := ∀ v H', Ex H H' → P v H' → Q v H'
theorem RetP.mono {P : V → Hp → Prop} (h : RetP P H Q) (e : Ex H H') : RetP P H' Q := fun v H1 a p => h v H1 (e.trans a) p
theorem s_retP {P : V → Hp → Prop} (h : EvX te σ H P) (k : RetP P H D.rt) : tRet te D σ H := h H (Ex.refl H) _ fun v H1 e p => k v H1 e p
theorem x_weak {P R : V → Hp → Prop} (h : EvX te σ H P) (w : ∀ v H', P v H' → R v H') : EvX te σ H R := fun H1 e Q q => h H1 e Q fun v H2 e2 p => q v H2 e2 (w v H2 p)
/-- a value, whatever it is -/
def AnyV : V → Hp → Prop := fun _ _ => True
theorem any_v {v : V} (h : Ev te σ H v) : EvX te σ H AnyV := fun H1 e Q q => h H1 e Q fun H2 e2 => q v H2 e2 trivial
theorem any_l {xs : List V} (h : EvL te σ H xs) : EvX te σ H AnyV := fun H1 e Q q => h H1 e Q fun p H2 _ e2 _ => q _ H2 e2 trivial
/-! data that can be held beside one another -/
def Flat1 (d : PyData) : Prop := d.canLay0 = true ∧ d.depth ≤ 1
theorem flat_int (i : Int) : Flat1 (.int i) := ⟨rfl, by simp [PyData.depth]⟩
theorem shaped_flat {ds : List PyData} (h : ∀ d ∈ ds, Flat1 d) : SeqAt.shaped (.list ds) = true := by
  have a : ∀ ds : List PyData, (∀ d ∈ ds, Flat1 d) → PyData.canLayAll0 ds = true ∧ PyData.depthAll ds ≤ 1 := by
    intro ds
    induction ds with
    | nil => exact fun _ => ⟨rfl, Nat.zero_le _⟩
    | cons x xs ih =>
      intro h
      obtain ⟨i1, i2⟩ := ih fun y hy => h y (List.mem_cons_of_mem _ hy)
      obtain ⟨x1, x2⟩ := h x List.mem_cons_self
      refine ⟨?_, ?_⟩
      · show (PyData.canLay0 x && PyData.canLayAll0 xs) = true
        rw [i1, x1]
        rfl
      · show max (PyData.depth x) (PyData.depthAll xs) ≤ 1
        omega
  obtain ⟨a1, a2⟩ := a ds h
  have b : PyData.depth (.list ds) ≤ 64 := by
    show PyData.depthAll ds + 1 ≤ 64
    omega
  unfold SeqAt.shaped
  have a' : PyData.canLay0 (.list ds) = true := a1
  rw [a', decide_eq_true b]
  rfl
theorem rv_pow {i j : Int} (h : CPow i j) : RV rPowI (.int i) (.int j) H (.int (i ^ j.toNat)) := rv_I h
theorem rv_mulW {i j : Int} (h : CMulW i j) : RV rMulW (.int i) (.int j) H (.int (i * j)) := rv_I h
theorem ev_ten50 : Ev (tOp rPowI (tC (.int 10)) (tC (.int 50))) σ H (.int (10 ^ 50)) := ev_op ev_c ev_c (rv_pow ⟨by decide, by decide, by decide⟩)
theorem ten50 : ((10 : Int) ^ 50).natAbs < 2 ^ 170 := by decide +kernel
theorem shaped_of {d : PyData} (h : Flat1 d) : SeqAt.shaped d = true := by
  unfold SeqAt.shaped
  rw [h.1, decide_eq_true (Nat.le_trans h.2 (by decide))]
  rfl
end
end Fw

/-! an error that was caught and given another name: it is known behind its except clause -/
namespace Fw
open PySem PySem.Spec PyProof.Rows L2 Evl
/-- at a stands an error of the class cls that was raised and caught -/
def ExK (cls : Value) (a : Addr) : HO := .ext fun h => ∃ (o : Obj) (fs : Array Value), h.get? a = some o ∧ (o.cls = cls ∧ o.dict = none) ∧ o.data = .fields fs
section
variable {X : Cx} {pins : List (Addr × Obj)} {σ : L2.St} {H : Hp} {s sI : Shared} {B : Heap} {a : Addr} {cls : Value}
/-- from now on the heap tells of a thing that nobody knew at the entry -/
theorem Known.track {u : HO} (I : Inv X pins σ H s) (old : X.s_0.heap.get? a = none) (fr : X.env.locals ≠ a) (cl : ∀ x c, X.env.cells.lookup x = some c → c ≠ a) (pn : ∀ p ∈ X.pn ++ pins, p.1 ≠ a) (no : H a = none)
    (ok : ObjOk X.prog X.w (upd H a u) s.heap a u) : Inv X pins σ (upd H a u) s where
  ok := I.ok
  os := I.os
  bare := I.bare
  loc := I.loc
  cell := I.cell
  len := I.len
  free := (upd_ne fr).trans I.free
  freeC := fun x c h => (upd_ne (cl x c h)).trans (I.freeC x c h)
  pin := fun p hp => by
    have ⟨h1, h2, h3⟩ := I.pin p hp
    exact ⟨h1, (upd_ne (pn p hp)).trans h2, h3⟩
  hok := fun b v hv => by
    by_cases h : b = a
    · subst h
      cases upd_same.symm.trans hv
      exact ok
    · exact (I.hok b v ((upd_ne h).symm.trans hv)).stay (fun _ _ _ e => e) (fun c e => (upd_ne (ne_of_none e no)).trans e) (fun c _ e => (upd_ne (ne_of_none e no)).trans e)
  base :=
    { keep := I.base.keep
      slot := I.base.slot
      there := I.base.there
      free := fun b v hv hn hx => (upd_ne (fun z => by rw [z, old] at hv; cases hv)).trans (I.base.free b v hv hn hx)
      tups := fun b xs hv => (upd_ne (ne_of_none (I.base.tups b xs hv) no)).trans (I.base.tups b xs hv)
      frzs := fun b v w hv => (upd_ne (ne_of_none (I.base.frzs b v w hv) no)).trans (I.base.frzs b v w hv)
      tbls := fun b ps hv => (I.base.tbls b ps hv).imp fun m hm => (upd_ne (ne_of_none hm no)).trans hm }
/-- an error in the air over the ground B, sI the state without it -/
structure Fallen (X : Cx) (pins : List (Addr × Obj)) (B : Heap) (sI : Shared) (a : Addr) (σ : L2.St) (H : Hp) (cls : Value) (s : Shared) : Prop where
  inv : Inv X pins σ H sI
  ground : ∀ b o, sI.heap.get? b = some o → b ∉ frs X.stack → B.get? b = some o
  slots : sI.heap.UpToSlots s.heap
  fly : HandSPX.FlyingZ B X.stack a (Zc cls none) s.heap
  none_ : H a = none
  os : s.os = sI.os
  gens : AllBare s.gens
namespace Fallen
variable (F : Fallen X pins B sI a σ H cls s)
include F
theorem here : Inv X pins σ H s := F.inv.landed F.ground F.fly.1 F.slots F.os F.gens
theorem obj : ∃ o, s.heap.get? a = some o ∧ Zc cls none o ∧ ∃ fs, o.data = .fields fs := by
  have ⟨o, fs, h1, h2, h3⟩ := F.fly.there
  exact ⟨o, h1, h2, fs, h3⟩
theorem off : a ∉ frs X.stack := fun m => by
  have ⟨o, h1, _, fs, h3⟩ := F.obj
  have ⟨_, u, hu, no⟩ := F.fly.2.2.1.mem m
  cases h1.symm.trans hu
  exact no fs h3
theorem unmet : sI.heap.get? a = none := by
  rcases h : sI.heap.get? a with _ | o
  · rfl
  · cases F.fly.2.1.symm.trans (F.ground a o h F.off)
theorem old (hx : X.ex = []) : X.s_0.heap.get? a = none := by
  rcases h : X.s_0.heap.get? a with _ | o
  · rfl
  · obtain ⟨u, hu⟩ := F.inv.base.there a o h (by rw [hx]; exact List.not_mem_nil)
    cases F.unmet.symm.trans hu
theorem cells (x : Str) (c : Addr) (h : X.env.cells.lookup x = some c) : c ≠ a := fun z => by
  obtain ⟨v, o, ho, _⟩ := F.inv.cell x c h
  subst z
  cases F.unmet.symm.trans ho
theorem pinned (p : Addr × Obj) (hp : p ∈ X.pn ++ pins) : p.1 ≠ a := fun z => by
  have h := (F.inv.pin p hp).1
  rw [z] at h
  cases F.unmet.symm.trans h
theorem frame (hs : X.stack = X.env :: X.outer) (hf : X.env.frame = some X.env.locals) : X.env.locals ≠ a := fun z => F.off (by
  rw [hs]
  exact List.mem_filterMap.mpr ⟨X.env, List.mem_cons_self, by rw [hf, z]⟩)
theorem outer (hs : X.stack = X.env :: X.outer) : a ∉ X.fs := fun m => F.off (by
  obtain ⟨e, he, q⟩ := List.mem_filterMap.mp m
  rw [hs]
  exact List.mem_filterMap.mpr ⟨e, List.mem_cons_of_mem _ he, q⟩)
/-- it moves on, all else as it was -/
theorem onward {h : Heap} (fl : HandSPX.FlyingZ B X.stack a (Zc cls none) h) (up : s.heap.UpToSlots h) : Fallen X pins B sI a σ H cls { s with heap := h } :=
  ⟨F.inv, F.ground, F.slots.trans up, fl, F.none_, F.os, F.gens⟩
/-- in the except suite it is pinned -/
theorem suite (hs : X.stack = X.env :: X.outer) (hf : X.env.frame = some X.env.locals) : ∃ o, s.heap.get? a = some o ∧ Zc cls none o ∧ (∃ fs, o.data = .fields fs) ∧ Inv (X.suite a ((a, o) :: (X.pn ++ pins))) [] σ H s := by
  have ⟨o, h1, h2, fs, h3⟩ := F.obj
  exact ⟨o, h1, h2, ⟨fs, h3⟩, F.here.suite h1 h3 F.none_ (F.frame hs hf).symm (F.outer hs)⟩
/-- behind the suite it is known -/
theorem behind {o : Obj} {σ2 : L2.St} {H2 : Hp} {s2 : Shared} (hs : X.stack = X.env :: X.outer) (hf : X.env.frame = some X.env.locals) (hx : X.ex = []) (z : Zc cls none o) (d : ∃ fs, o.data = .fields fs) (J : Inv (X.suite a ((a, o) :: (X.pn ++ pins))) [] σ2 H2 s2) :
    H2 a = none ∧ Inv X pins σ2 (upd H2 a (ExK cls a)) s2 := by
  have ⟨g, n, _⟩ := J.pin (a, o) (List.mem_append_left _ List.mem_cons_self)
  obtain ⟨fs, d⟩ := d
  exact ⟨n, Known.track (J.unsuite F.inv.ok) (F.old hx) (F.frame hs hf) F.cells F.pinned n ⟨⟨o, fs, g, z, d⟩, ⟨o, g⟩, fun _ _ ⟨v, gs, h1, h2⟩ k => ⟨v, gs, k v h1, h2⟩⟩⟩
end Fallen
/-- what 'except C as n: suite' wants of an error: it is of the class; the suite runs through to its end -/
def wKeep (K : PySem.W.Frag) (c : Value) (i : Nat) (ts : Addr → TS) (D : Ends) : WX := fun cls d σ H =>
  PySem.W.exmOne K cls c = some true ∧ d = none ∧ ∀ a, H a = none → ts a ⟨fun σ2 H2 => H2 a = none → D.nx (σ2.set i none) (upd H2 a (ExK cls a)), fun _ _ => False, fun _ _ => False, fun _ _ => False⟩ (σ.set i (some (.ref a))) H
theorem ps_try_keep {x n : Str} {c : Value} {i : Nat} {body suite : List Stmt} {b₀ : Stmt} {np pos pos' : Pos} {tb : WX → TS} {ts : Addr → TS} (hs : X.stack = X.env :: X.outer) (hf : X.env.frame = some X.env.locals) (hx : X.ex = []) (hN : X.N.Nodup) (hi : X.N[i]? = some n) (hn : X.env.kindOf n = some .local)
    (hg : Gl X x) (hd : (x == ("__debug__" : Str)) = false) (hm : X.mg x = some c)
    (hb : ∀ W pn xe, Takes (X.tr pn xe) W → PassesOwn (model X.prog X.w) X.A X.env xe → PSs (X.tr pn xe) body (tb W))
    (ht : ∀ (a : Addr) (o : Obj) (pn : List (Addr × Obj)), PSs (X.suite a ((a, o) :: pn)) (b₀ :: suite) (ts a)) :
    PS X (.Try body [.ExceptHandler (some (.Name x np)) (some n) (b₀ :: suite) pos'] [] [] pos) (fun D σ H => tb (wKeep X.K c i ts D) D σ H) := by
  constructor
  intro pins s σ H D I h
  refine wpAny_Try_except (wpAny_mono ((hb (wKeep X.K c i ts D) (X.pn ++ pins) _ (fun u s1 air => ?air) PassesOwn.looking).run [] s σ H D (I.toTry _) h) (fun f s1 r => ?thru) fun _ _ z => z)
  case thru =>
    cases f
    case next => exact wpAny_execs_nil (r.imp fun _ ⟨H1, J, q⟩ => ⟨H1, J.ofTry I.ok, q⟩)
    case brk => exact r.imp fun _ ⟨H1, J, q⟩ => ⟨H1, J.ofTry I.ok, q⟩
    case cont => exact r.imp fun _ ⟨H1, J, q⟩ => ⟨H1, J.ofTry I.ok, q⟩
    case ret => exact r.imp fun _ ⟨σ1, H1, J, q⟩ => ⟨σ1, H1, J.ofTry I.ok, q⟩
  case air =>
    obtain ⟨a, B, sI, _, σ1, H1, cls, _, rfl, J, gr, up, sky, na, os, ag, hit, rfl, go⟩ := air
    have J1 : Inv X pins σ1 H1 sI := J.ofTry I.ok
    change wpAny _ X.A (noteFrame (.ref a) X.env) _ _ _
    refine Sky.land (L := X.env.locals) Zc.steady (I.ok.frames.trans (congrArg some hs)) hf (hs ▸ sky) fun h3 fl3 up3 => ?_
    have F3 : Fallen X pins B sI a σ1 H1 cls { s1 with heap := h3 } := ⟨J1, gr, up.trans up3, by rw [hs]; exact fl3, na, os, ag⟩
    obtain ⟨o3, g3, z3, _, S3⟩ := F3.suite hs hf
    refine wpAny_handleBy_cons (codeAny_handlers_test (ld_glob (X := X.suite a ((a, o3) :: (X.pn ++ pins))) S3 hg hm ?_ hd)) (fun z => nomatch z)
    have ty : PySem.W.Looks (model X.prog X.w) h3 (typeOf (.ref a)) cls := fun _ _ _ _ k q => wpAny_typeOf_ref (k _ _ g3) (by rw [z3.1]; exact q)
    refine (PySem.W.exm_one (M := model X.prog X.w) F3.here.kIn ty hit).here (codeAny_handlers_suite_as (HandSPX.lands_againZ (hs ▸ F3.fly) fun h4 fl4 up4 => ?_))
    have F4 : Fallen X pins B sI a σ1 H1 cls { s1 with heap := h4 } := F3.onward (by rw [hs]; exact fl4) up4
    obtain ⟨o, _, z, dt, S4⟩ := F4.suite hs hf
    refine store_ok (X := X.suite a ((a, o) :: (X.pn ++ pins))) (v := .ref a) S4 hN hi (.inl hn) rfl (fun s5 S5 => ?_) (.inr hn)
    refine wpAny_mono ((ht a o (X.pn ++ pins)).run [] s5 _ H1 _ S5 (go a na)) (fun f s6 r => ?_) (fun _ _ z => z.elim)
    cases f
    case next =>
      obtain ⟨σ6, H6, S6, q⟩ := r
      obtain ⟨n6, J6⟩ := F4.behind hs hf hx z dt S6
      exact gone_ok J6 hN hi hn fun s7 J7 => ⟨_, _, J7, q n6⟩
    case brk => exact r.elim fun _ ⟨_, _, q⟩ => q.elim
    case cont => exact r.elim fun _ ⟨_, _, q⟩ => q.elim
    case ret => exact r.elim fun _ ⟨_, _, _, _, q⟩ => q.elim
end
/-- isinstance(x, c) of an error that is known -/
def rIsK (K : PySem.W.Frag) : List V → Hp → VK → Prop := fun xs H Q => ∃ (a D : Addr) (c : V) (cv : Value) (b : Bool), xs = [.ref a, c] ∧ H a = some (ExK (.ref D) a) ∧ ExcC K D ∧ (∀ u, RelV c u → u = cv) ∧ PySem.W.kitOne K (.ref D) cv = some b ∧ Q (.bl b) H
theorem call_isK {X : Cx} : CallR X (.builtin "isinstance") (rIsK X.K) := fun pins s σ H xs us Q I r h => by
  obtain ⟨a, D, c, cv, b, rfl, ha, C, hc, hk, q⟩ := h
  obtain ⟨⟨o, fs, g, ⟨oc, od⟩, dt⟩, _⟩ := I.hok a _ ha
  match us, r with
  | [u, w], .cons ru (.cons rw_ .nil) =>
    cases ru
    cases hc w rw_
    have at_ : PySem.W.InstAt s.heap a o D none := by
      rcases o with ⟨c1, c2, c3, c4⟩
      cases oc
      cases od
      cases dt
      exact ⟨g, rfl, rfl, trivial⟩
    exact PySem.W.kia_one (PySem.W.handS_kitx_exc C.hg C.hk C.hs C.hd C.ha C.hn C.ht C.hm) I.kIn at_ hk (fun z => nomatch z) fun t => ⟨.bl b, H, I.kept (t' := t) fun _ _ e => e, rfl, q⟩
def tTryK (K : PySem.W.Frag) (S : Addr) (i : Nat) (tb : WX → TS) (ts : Addr → TS) : TS := fun D σ H => tb (wKeep K (.ref S) i ts D) D σ H
section
variable {K : PySem.W.Frag} {A : Ad} {σ : L2.St} {H H' : Hp} {ta : TA} {tb te tx : TE} {D : Ends} {tz : TS}
/-- 'except S as e: x = e', met by an error of the class at C -/
theorem keep_go {C S : Addr} {i j : Nat} {σ : L2.St} (ht : PySem.W.exmOne K (.ref C) (.ref S) = some true) (hi : i < σ.length) (hij : i ≠ j) (k : ∀ a H1, Ex H H1 → H1 a = some (ExK (.ref C) a) → D.nx ((σ.set i none).set j (some (.ref a))) H1) :
    wKeep K (.ref S) i (fun _ => tAsg (tVar i) (gName j)) D (.ref C) none σ H := ⟨ht, rfl, fun a ha => s_asg (v := .ref a) (ev_var (List.getElem?_set_self hi)) fun H1 e1 hn => by
  have e : ((σ.set i (some (V.ref a))).set j (some (V.ref a))).set i none = (σ.set i none).set j (some (V.ref a)) := by
    rw [List.set_comm _ _ (Ne.symm hij), List.set_set]
  rw [e]
  exact k a _ (e1.trans (Ex.new hn)) upd_same⟩
/-- a call in the body of such a try that raises -/
theorem drop_raise {C : Addr} {W : WX} {sp : Sp} {xs : List V} (h : EvA ta σ H xs) (hs : ∀ H1, Ex H H1 → ∀ (Q : VK) (E : XK), RaiseE E C H1 → sp xs H1 Q E) (k : ∀ H1, Ex H H1 → W (.ref C) none σ H1) : tDrop (tCallS sp (WE W) ta) D σ H :=
  h H (Ex.refl H) _ fun H1 e1 => hs H1 e1 _ _ fun H2 e2 => k H2 (e1.trans e2)
theorem drop_raiseD {C : Addr} {W : WX} {sp : Sp} {xs dvs : List V} (h : EvA ta σ H xs) (hs : ∀ H1, Ex H H1 → ∀ (Q : VK) (E : XK), RaiseE E C H1 → sp (xs ++ dvs) H1 Q E) (k : ∀ H1, Ex H H1 → W (.ref C) none σ H1) : tDrop (tCallSD sp dvs (WE W) ta) D σ H :=
  h H (Ex.refl H) _ fun H1 e1 => hs H1 e1 _ _ fun H2 e2 => k H2 (e1.trans e2)
theorem ev_isK {C a : Addr} {i : Nat} {n : String} {b : Bool} (h : σ[i]? = some (some (.ref a))) (ha : H a = some (ExK (.ref C) a)) (xc : ExcC K C) (hk : PySem.W.kitOne K (.ref C) (.type n) = some b) : Ev (tCB (rIsK K) (tCons (tVar i) (tCons (tC (.ty n)) tNil))) σ H (.bl b) :=
  ev_cb (ea_cons (ev_var h) (ea_cons ev_c ea_nil)) fun H1 e Q q => ⟨a, C, .ty n, .type n, b, rfl, e _ _ ha, xc, (fun u r => r), hk, q H1 (Ex.refl H1)⟩
theorem ev_isKC {C a c : Addr} {i : Nat} {b : Bool} (h : σ[i]? = some (some (.ref a))) (ha : H a = some (ExK (.ref C) a)) (xc : ExcC K C) (hk : PySem.W.kitOne K (.ref C) (.ref c) = some b) : Ev (tCB (rIsK K) (tCons (tVar i) (tCons (tC (.ref c)) tNil))) σ H (.bl b) :=
  ev_cb (ea_cons (ev_var h) (ea_cons ev_c ea_nil)) fun H1 e Q q => ⟨a, C, .ref c, .ref c, b, rfl, e _ _ ha, xc, (fun u r => r), hk, q H1 (Ex.refl H1)⟩
end
end Fw

namespace Fw
open PySem PySem.Spec PyProof.Rows L2 Evl
/-! layings shown as texts -/
def sgS (n : Int) : Str := if n = 1 then "+" else if n = -1 then "-" else "0"
def shownOf (ns : List Int) : Str := if Few.ended ns = [] then "0" else Txt.join "" ((Few.ended ns).reverse.map sgS)
section
variable {K : PySem.W.Frag} {A : Ad} {vs : List V} {H H' : Hp} {Q : VK} {E : XK}
def sp_sign_of (K : PySem.W.Frag) (A : Ad) : Sp := fun vs H Q _ => ∃ n : Int, vs = [.int n] ∧ RetV (.str (sgS n)) H Q
def t_sign_of (K : PySem.W.Frag) (A : Ad) : TS :=
  (tSeq (tIfS (tTest (tOp rEq (tVar 0) (tC (.int 1)))) (tRet (tC (.str "+"))) tNext)
    (tSeq (tIfS (tTest (tOp rEq (tVar 0) (tUn rNegI (tC (.int 1))))) (tRet (tC (.str "-"))) tNext)
    (tRet (tC (.str "0")))))
theorem r_sign_of (h : sp_sign_of K A vs H Q E) : t_sign_of K A (D0 Q) (start ["one"] vs) H := by
  obtain ⟨n, rfl, k⟩ := h
  unfold sgS at k
  refine q_when (et_is (et_test (ev_op (ev_var rfl) ev_c (rv_eq rfl))) eq_dec) (fun hb H1 e1 => ?_) (fun hb H1 e1 => ?_)
  · rw [if_pos (of_decide_eq_true hb)] at k
    exact s_retV ev_c (k.mono e1)
  · rw [if_neg (of_decide_eq_false hb)] at k
    refine q_when (et_is (et_test (ev_op (ev_var rfl) (ev_un ev_c ru_neg) (rv_eq rfl))) eq_dec) (fun hb H2 e2 => ?_) (fun hb H2 e2 => ?_)
    · rw [if_pos (of_decide_eq_true hb)] at k
      exact s_retV ev_c (k.mono (e1.trans e2))
    · rw [if_neg (of_decide_eq_false hb)] at k
      exact s_retV ev_c (k.mono (e1.trans e2))
theorem ev_sign {te : TE} {σ : L2.St} {n : Int} (h : Ev te σ H (.int n)) : Ev (tCall (sp_sign_of K A) [] E (tCons te tNil)) σ H (.str (sgS n)) :=
  ev_call1 (x_v h) fun x H1 e1 hx Q q => ⟨n, by rw [show x = V.int n from hx], fun H' e => q H' e⟩
/-- [e for x in reversed(xs)] -/
theorem el_lcRv {ta : TA} {tl te : TE} {σ : L2.St} {ns : List Int} {j : Nat} {vs : List Nat} (g : Int → V) (h : EvX tl σ H (IL K ns)) (hz : ns.length ≤ 40000) (hw : ∀ x, wipe ((wipe σ vs).set j (some x)) vs = wipe σ vs)
    (he : ∀ (n : Int) H1, Ex H H1 → n ∈ ns → Ev te ((wipe σ vs).set j (some (.int n))) H1 (g n)) : EvL (tLc (iRev K (tCons tl tNil)) (gName j) tYes te vs) σ H (ns.reverse.map g) := fun H0 e Q q =>
  h H0 e _ fun v H1 e1 ⟨a, ev, hs⟩ => ⟨a, ns.map V.int, by rw [ev], hs, fun Dl hD =>
    ⟨fun i m H' => m = ns.length - i ∧ i ≤ ns.length ∧ CwV H1 ((ns.reverse.take i).map g) Dl H', ⟨ns.length, rfl, Nat.zero_le _, hD, Ex.new hD, upd_same⟩, by
      rintro i m H' ⟨rfl, hi, p⟩
      rw [len_mapI]
      by_cases hlt : i < ns.length
      · have hx : ns[ns.length - 1 - i]? = some (ns[ns.length - 1 - i]'(by omega)) := List.getElem?_eq_getElem (by omega)
        have hs' := ex_l p.2.1 hs
        have hr : ns.reverse[i]? = some (ns[ns.length - 1 - i]'(by omega)) := by rw [List.getElem?_reverse hlt, hx]
        refine .inr ⟨⟨hlt, _, _, hs', map_at hx⟩, fun H2 => CwV H1 ((ns.reverse.take (i + 1)).map g) Dl H2, fun H2 p' => ⟨ns.length - (i + 1), by omega, rfl, hlt, p'⟩, fun x H2 y => ?_⟩
        obtain ⟨e2, y⟩ := y
        subst e2
        have z := y _ hs'
        rw [map_at hx] at z
        cases z
        refine ⟨hw _, ?_⟩
        refine cwv_turn (b := true) (y := g (ns[ns.length - 1 - i]'(by omega))) p (by rw [List.length_map, List.length_take]; omega) et_yes (fun _ => he _ H1 (e.trans e1) (List.getElem_mem _)) _ fun H3 p3 => ?_
        rw [take_snoc hr, List.map_append]
        exact p3
      · have z : i = ns.length := by omega
        subst z
        have p3 := p.2.2
        rw [← List.length_reverse, List.take_length] at p3
        exact .inl ⟨Nat.le_refl _, q Dl H' (fresh_back e1 p.1) (e1.trans p.2.1) p3⟩⟩⟩
/-! lists of texts -/
theorem dpS {ss : List Str} : DpAll K H (ss.map V.str) (ss.map PyData.str) := by
  induction ss with
  | nil => exact .nil
  | cons w r ih => exact .cons (.str w) ih
theorem shaped_strs {ss : List Str} (h : ∀ x ∈ ss, SeqAt.shaped (.str x) = true) : SeqAt.shaped (.list (ss.map PyData.str)) = true := by
  have a : ∀ ss : List Str, (∀ x ∈ ss, SeqAt.shaped (.str x) = true) → PyData.canLayAll0 (ss.map PyData.str) = true ∧ PyData.depthAll (ss.map PyData.str) = 0 := by
    intro ss
    induction ss with
    | nil => exact fun _ => ⟨rfl, rfl⟩
    | cons x xs ih =>
      intro h
      obtain ⟨i1, i2⟩ := ih fun y hy => h y (List.mem_cons_of_mem _ hy)
      refine ⟨?_, ?_⟩
      · show (PyData.canLay0 (.str x) && PyData.canLayAll0 (xs.map PyData.str)) = true
        rw [i1, SeqAt.canLay_of_shaped (h x List.mem_cons_self)]
        rfl
      · show max (PyData.depth (.str x)) (PyData.depthAll (xs.map PyData.str)) = 0
        rw [i2]
        simp [PyData.depth]
  obtain ⟨a1, a2⟩ := a ss h
  unfold SeqAt.shaped
  have a' : PyData.canLay0 (.list (ss.map PyData.str)) = true := a1
  have b' : PyData.depth (.list (ss.map PyData.str)) = 1 := by
    show PyData.depthAll (ss.map PyData.str) + 1 = 1
    rw [a2]
  rw [a', b']
  rfl
theorem shaped_sg (n : Int) : SeqAt.shaped (.str (sgS n)) = true := by
  unfold sgS
  split
  · decide +kernel
  · split <;> decide +kernel
/-- xs == [] of texts -/
theorem ev_nilS {te : TE} {σ : L2.St} {ss : List Str} (h : EvX te σ H (VL K (ss.map V.str))) (hs : ∀ x ∈ ss, SeqAt.shaped (.str x) = true) : Ev (tOp (rEqD K) te (tLst tNil)) σ H (.bl (decide (ss = []))) := ev_opX (P' := VL K []) h mono_vl (x_vlL (el_lst ea_nil (by decide))) fun x y H1 _ ⟨a, ea, p⟩ ⟨b, eb, q⟩ H2 e2 Q k => by
  subst ea eb
  refine ⟨_, _, .lst (ex_l e2 p) dpS, .lst (ex_l e2 q) .nil, shaped_strs hs, rfl, ?_⟩
  have z : PyData.eqv (.list (ss.map PyData.str)) (.list []) = decide (ss = []) := by
    cases ss with
    | nil => rfl
    | cons s r => simp [PyData.eqv, PyData.eqvAll]
  rw [z]
  exact k H2 (Ex.refl H2)
/-- sep.join(xs) -/
def rJoin (K : PySem.W.Frag) : V → List V → Hp → VK → Prop := fun x xs H Q => ∃ (a : Str) (p : Addr) (ys : List Str), x = .str a ∧ xs = [.ref p] ∧ (SqL K H p (ys.map V.str) ∨ SqT K H p (ys.map V.str)) ∧ (ys.map (·.length)).sum + ys.length * a.length ≤ 16777216 ∧ Q (.str (Txt.join a ys)) H
theorem ev_join {to te : TE} {σ : L2.St} {ss : List Str} {a : Str} (ho : Ev to σ H (.str a)) (h : EvX te σ H (VL K (ss.map V.str))) (hz : (ss.map (·.length)).sum + ss.length * a.length ≤ 16777216) : Ev (tM1 (rJoin K) to te) σ H (.str (Txt.join a ss)) := fun H1 e Q q =>
  ho H1 e _ fun H2 e2 => ⟨⟨a, rfl⟩, h H2 (e.trans e2) _ fun v H3 e3 ⟨p, ev, hs⟩ => ⟨a, p, ss, rfl, by rw [ev], .inl hs, hz, q H3 (e2.trans e3)⟩⟩
theorem sg_len (n : Int) : (sgS n).length = 1 := by
  unfold sgS
  split
  · rfl
  · split <;> rfl
theorem sg_sum (ns : List Int) : ((ns.map sgS).map (·.length)).sum = ns.length := by
  induction ns with
  | nil => rfl
  | cons n r ih =>
    rw [List.map_cons, List.map_cons, List.sum_cons, ih, sg_len, List.length_cons]
    omega
def sp_shown (K : PySem.W.Frag) (A : Ad) : Sp := LaySp (fun ns H Q => ns.length ≤ 40000 ∧ RetV (.str (shownOf ns)) H Q) K A
def t_shown (K : PySem.W.Frag) (A : Ad) (E : XK) : TS :=
  (tSeq (tAsg (tLc (iRev K (tCons (tCall (sp_ended K A) [] E (tCons (tVar 0) tNil)) tNil)) (gName 2) tYes (tCall (sp_sign_of K A) [] E0 (tCons (tVar 2) tNil)) [2]) (gName 1))
    (tSeq (tIfS (tTest (tOp (rEqD K) (tVar 1) (tLst tNil))) (tRet (tC (.str "0"))) tNext)
    (tRet (tM1 (rJoin K) (tC (.str "")) (tVar 1)))))
theorem er_lcRv2 {te tl tx : TE} {σ : L2.St} {g : TG} {t : TT} {vs : List Nat} (h : Er tl σ H) : Er (tLc (iRev K (tCons tl tNil)) g t tx vs) σ H := fun H1 e Q => h H1 e _
theorem er_ended {te : TE} {σ : L2.St} {d : PyData} (h : EvX te σ H (fun v H => Th K H v d)) (hl : isLayD d = false) (k : RaiseE E A.laying H) : Er (tCall (sp_ended K A) [] E (tCons te tNil)) σ H :=
  er_call1 h fun x H1 e1 hx Q => LaySp.bad hx hl (k.mono e1)
theorem r_shown (h : sp_shown K A vs H Q E) : t_shown K A E (D0 Q) (start ["laying", "signs", "one"] vs) H := by
  obtain ⟨v, d, rfl, hd, k1, k2⟩ := h
  cases hl : isLayD d with
  | false => exact er_q (er_lcRv2 (te := tC .non) (er_ended (x_th rfl hd) hl (k2 hl)))
  | true =>
    obtain ⟨ns, rfl, l⟩ := lay_is hl
    obtain ⟨hz, k⟩ := k1 ns rfl l
    have ez := Few.ended_len ns
    have em : (Few.ended ns).reverse.map (fun n => V.str (sgS n)) = ((Few.ended ns).reverse.map sgS).map V.str := by rw [List.map_map]; rfl
    have sh : ∀ x ∈ (Few.ended ns).reverse.map sgS, SeqAt.shaped (.str x) = true := fun x hx => by
      obtain ⟨n, _, rfl⟩ := List.mem_map.mp hx
      exact shaped_sg n
    refine q_asgL (xs := ((Few.ended ns).reverse.map sgS).map V.str) (by
      rw [← em]
      exact el_lcRv (ta := tNil) (ns := Few.ended ns) (fun n => V.str (sgS n)) (x_ilL (el_ended (x_ilv rfl hd.il) l)) (by omega) (fun _ => rfl) (fun n H1 _ _ => ev_sign (ev_var rfl))) fun p H1 hp e1 hx => ?_
    have vl : ∀ H2, Ex H1 H2 → EvX (tVar 1) [some v, some (.ref p), none] H2 (VL K (((Few.ended ns).reverse.map sgS).map V.str)) := fun H2 e2 => x_vl (ev_var rfl) (sq_of (e2 _ _ hx))
    unfold shownOf at k
    have nil_iff : ((Few.ended ns).reverse.map sgS = []) ↔ Few.ended ns = [] := by simp
    refine q_when (et_test (ev_nilS (vl H1 (Ex.refl H1)) sh)) (fun hb H2 e2 => ?_) (fun hb H2 e2 => ?_)
    · rw [if_pos (nil_iff.mp (of_decide_eq_true hb))] at k
      exact s_retV ev_c (k.mono (e1.trans e2))
    · rw [if_neg (fun z => of_decide_eq_false hb (nil_iff.mpr z))] at k
      refine s_retV (ev_join ev_c (vl H2 e2) ?_) (k.mono (e1.trans e2))
      rw [sg_sum, List.length_reverse]
      show (Few.ended ns).length + _ * 0 ≤ 16777216
      omega
theorem ev_shown {te : TE} {σ : L2.St} {ns : List Int} (h : EvX te σ H (IL K ns)) (hl : Few.Lay ns) (hz : ns.length ≤ 40000) : Ev (tCall (sp_shown K A) [] E (tCons te tNil)) σ H (.str (shownOf ns)) :=
  ev_call1 h fun x H1 e1 hx Q q => LaySp.good hx hl ⟨hz, fun H' e => q H' e⟩
end
end Fw

/-! a list comprehension whose element may raise -/
namespace Fw
open PySem PySem.Spec PyProof.Rows L2 Evl
/-- flying at one ground: flying at another -/
theorem sky_flies {B B' h : Heap} {l : List Env} {a L : Addr} {Z Z' : Obj → Prop} (f : HandSPX.FlyingZ B' l a Z' h) (k : Sky B l a Z L h) : HandSPX.FlyingZ B l a Z h := by
  obtain ⟨_, _, _, o, fs, T, oT, ts, g, _, dt, tb, _, _, gT, dT, none3⟩ := f
  rcases k with ⟨_, _, _, o2, fs2, g2, _, dt2, tb2⟩ | k | ⟨_, _, _, o2, fs2, T2, oT2, ts2, g2, _, dt2, tb2, _, _, gT2, dT2, at3⟩
  · cases g.symm.trans g2
    cases dt.symm.trans dt2
    cases tb.symm.trans tb2
  · exact k
  · cases g.symm.trans g2
    cases dt.symm.trans dt2
    cases tb.symm.trans tb2
    cases gT.symm.trans gT2
    cases dT.symm.trans dT2
    cases none3.symm.trans at3
abbrev blkE (X : Cx) (s : Shared) (H : Hp) (scope : Scope) (ce : Env) (fp : List Addr) (xe : Value → Shared → Prop) : Cx := { X.blk s H scope ce fp with xe := xe }
section
variable {X : Cx} {pins : List (Addr × Obj)} {σ : L2.St} {H : Hp} {s : Shared} {scope : Scope} {ce : Env} {fp : List Addr} {E : XK}
/-- what a call in the element raises goes out through the block, into the def's air -/
theorem passes_block (st : X.stack = X.env :: X.outer) (ef : X.env.frame = some X.env.locals) (tk : Takes X (fun c d _ H => E c d H)) (I : Inv X pins σ H s) (cf : ce.frame = X.env.frame)
    (fc : ∀ H1 : Hp, H1 ce.locals = none → FpOk X pins H1 ce.locals) (nfr : ce.locals ∉ frs X.stack) (fpo : ∀ b ∈ fp, FpOk X pins H b) :
    Passes (L2.CX X.prog X.w) (blkE X s H scope ce fp (notedBy (model X.prog X.w) X.A ce (CompFails (model X.prog X.w) X.A X.xe ce))) E := by
  intro p1 σ1 H1 s1 u s2 J c
  obtain ⟨a, B, sI, p2, σ2, H2, cls, d, rfl, J2, nb, up, sky, na, os, ag, w⟩ := XE.of_call (W := fun c d _ H => E c d H) J (fun _ _ _ z => z) c
  obtain ⟨a', B0, _, _, _, ea, f0, _⟩ := c
  cases ea
  have fl : HandSPX.FlyingZ B X.stack a (Zc cls d) s2.heap := sky_flies f0 sky
  have I2 : Inv X pins σ H2 sI := I.call' (ch := fp) J2.os J2.base J2.hok J2.bare fun b hb =>
    have ⟨_, q1, _, q3, q4, q5⟩ := fpo b hb
    ⟨q3, q1, q4, q5⟩
  obtain ⟨m, ns, _⟩ := J2.loc
  have ns : sI.heap.Ns ce.locals m := ns
  have fr : X.A.frames = some (X.env :: X.outer) := I.ok.frames.trans (congrArg some st)
  show wpAny _ X.A (noteFrame (.ref a) ce) _ _ s2
  rw [noteFrame_env _ cf]
  refine HandSPX.looks_onZ Zc.steady fr ef (st ▸ fl) fun h1 held1 up1 => ?_
  refine ⟨m, (up.trans up1).ns ns, fun h2 m2 ns2 sb => ?_⟩
  obtain ⟨oC, es, ep, gC, dC, _⟩ := id ns2
  obtain ⟨oI, _, _, gI, dI, _⟩ := id ns
  have bC : B.get? ce.locals = some oI := nb _ _ gI nfr
  have live : oC.isFreed = false := Obj.isFreed_of_dict dC
  have b2s := Heap.get?_update_self (fun _ => oC) bC live
  have g2s := Heap.get?_update_self (fun _ => oC) gI live
  have b2o : ∀ b, b ≠ ce.locals → (B.update ce.locals fun _ => oC).get? b = B.get? b := fun b q => Heap.get?_update_other _ _ q.symm
  have g2o : ∀ b, b ≠ ce.locals → (sI.heap.update ce.locals fun _ => oC).get? b = sI.heap.get? b := fun b q => Heap.get?_update_other _ _ q.symm
  have nC : H2 ce.locals = none := J2.free
  obtain ⟨q0, q1, _, q3, q4, q5⟩ := fc H2 nC
  have I3 : Inv X pins σ H2 { sI with heap := sI.heap.update ce.locals fun _ => oC } := I2.turned (t' := sI.toks) (fun b o hb e => (g2o b hb).trans e) q0 q1 q3 q4 q5
  obtain ⟨w1, w2, w3, oe, fs, T, oT, ts, w4, w5, w6, w7, w8, w9, w10, w11, w12⟩ := held1
  have neC : ∀ b, B.get? b = none → b ≠ ce.locals := fun b z q => by
    rw [q, bC] at z
    cases z
  have held2 : HandSPX.HeldZ (B.update ce.locals fun _ => oC) (X.env :: X.outer) a (Zc cls d) X.env.locals h2 := by
    refine ⟨fun b o e => ?_, (b2o _ (neC _ w2)).trans w2, funFrames_none (Heap.FunFrames.sameBut sb ns2 w3) (fun L hL => ?_), oe, fs, T, oT, ts, (sb.2 _ (neC _ w2)).trans w4, w5, w6, w7, (b2o _ (neC _ w8)).trans w8, w9, (sb.2 _ (neC _ w8)).trans w10, w11, w12⟩
    · by_cases q : b = ce.locals
      · subst q
        exact gC.trans (b2s.symm.trans e)
      · exact (sb.2 _ q).trans (w1 _ _ ((b2o _ q).symm.trans e))
    · have z := (w3.mem hL).1
      exact (b2o _ (neC _ z)).trans z
  unfold PySem.passOn
  refine wpAny_bind (wpAny_field ((sb.2 _ (neC _ w2)).trans w4) w6 w7 ?_)
  rw [if_neg (show ¬ ((Value.ref T == Value.none) = true) from by simp), cf, ef]
  refine wpAny_bind (HandSPX.setFlight_onZ held2 fun h3 held3 up3 => wpAny_throw (tk _ _ ⟨a, _, _, pins, σ, H2, cls, d, rfl, I3, fun b o e z => ?_, fun b o e nf => ?_, .inr (.inr (st ▸ held3)), na, os, ag, w⟩))
  · by_cases q : b = ce.locals
    · subst q
      exact b2s.trans (g2s.symm.trans e)
    · exact (b2o _ q).trans (nb _ _ ((g2o _ q).symm.trans e) z)
  · by_cases q : b = ce.locals
    · subst q
      cases g2s.symm.trans e
      exact up3 _ _ gC nf
    · obtain ⟨sl, z⟩ := (up.trans up1) b o ((g2o _ q).symm.trans e) nf
      obtain ⟨sl3, z3⟩ := up3 b _ ((sb.2 _ q).trans z) nf
      exact ⟨sl3, z3⟩
/-- the def's own state at another wish -/
theorem Inv.wished {s0 : Shared} {H0 : Hp} (I : Inv (X.blk s0 H0 scope ce fp) [] σ H s) (xe : Value → Shared → Prop) : Inv (blkE X s0 H0 scope ce fp xe) [] σ H s := I.toTry xe
end
section
variable {X : Cx}
theorem pe_lcE {elt tg iter : Expr} {ifs : List Expr} {scope : Scope} {own : List (Str × Nat)} {pos : Pos} {wi : TI} {g : TG} {tt : TT} {te : TE} {E : XK} (st : X.stack = X.env :: X.outer) (ef : X.env.frame = some X.env.locals) (tk : Takes X (fun c d _ H => E c d H))
    (hc : X.calm = true) (hN : X.N.Nodup) (hi : PI X tg iter wi) (ok : BlkOk X.N X.env.scope scope own)
    (hg : ∀ s H C cl fp xe, PG (blkE X s H scope (compEnvC scope cl C X.env) fp xe) tg g)
    (ht : ∀ s H C cl fp xe, PTs (blkE X s H scope (compEnvC scope cl C X.env) fp xe) ifs tt)
    (he : ∀ s H C cl fp xe, Passes (L2.CX X.prog X.w) (blkE X s H scope (compEnvC scope cl C X.env) fp xe) E → PE (blkE X s H scope (compEnvC scope cl C X.env) fp xe) elt te)
    (hs : ∀ x, foldedSetIterable iter X.env x = pure x := by intro _; rfl) :
    PE X (.ListComp elt [⟨tg, iter, ifs, 0⟩] scope pos) (tLc wi g tt te (own.map (·.2))) := by
  constructor
  intro pins s σ H Q I h
  have cap : ∀ y ∈ scope.names, y.2 = .free → ∃ c, X.env.cells.lookup y.1 = some c := fun y hy e => I.ok.has _ ((ok.free y hy e).imp id id)
  rw [eval_ListComp]
  refine comprehension_at (use := none) rfl hs (closure_ok cap) ok.kind (fun y hy e => (ok.uniq y hy).trans (congrArg some e)) (thn (hi.run pins s σ H _ I h) fun _ s1 z => thn z fun _ s2 r => ?_)
  obtain ⟨it, fp, tn, J, H2, rfl, I2, T, st2, f2, go⟩ := r
  refine wpAny_newObj_type (newEnv_comp ?_) (Nat.zero_le _)
  -- the new list stands at D, the block's names at C
  obtain ⟨D, eD⟩ : ∃ D, D = s2.heap.objs.size := ⟨_, rfl⟩
  rw [← eD]
  obtain ⟨W, ⟨m0, w0⟩, turn⟩ := go D (I2.hok.fresh (Nat.le_of_eq eD.symm))
  obtain ⟨s3, e3⟩ : ∃ s3 : Shared, s3 = { s2 with heap := s2.heap.push { cls := .type "list", data := .seq ([] : List Value).toArray } } := ⟨_, rfl⟩
  obtain ⟨H3, eH⟩ : ∃ H3, H3 = upd H2 D (.lst []) := ⟨_, rfl⟩
  have old3 : ∀ b o, s2.heap.get? b = some o → s3.heap.get? b = some o := fun b o e => by
    rw [e3]
    exact Heap.get?_push_of_some _ e
  have new3 : s3.heap.get? D = some { cls := .type "list", data := .seq ([] : List Value).toArray } := by
    rw [e3, eD]
    exact Heap.get?_push_size _ rfl
  have I3 : Inv X pins σ H3 s3 := by
    have z := I2.laid (h' := s3.heap) (t' := s2.toks) (a := D) (o := .lst []) old3 (Nat.le_of_eq eD.symm) ⟨Nat.zero_le _, [], 0, .nil, new3⟩
    rw [← eH] at z
    rw [e3] at z ⊢
    exact z
  have f3 : ∀ b ∈ fp, FpOk X pins H3 b ∧ b < s3.heap.objs.size := fun b hb => by
    obtain ⟨o, e, _⟩ := T.obj _ _ st2 b hb
    refine ⟨⟨?_, (f2 b hb).2⟩, Heap.lt_size (old3 b o e)⟩
    rw [eH, upd_ne (fun z => by rw [z, eD] at e; exact absurd (Heap.lt_size e) (Nat.lt_irrefl _))]
    exact (f2 b hb).1
  have st3 : tn 0 s3.heap := T.keep _ _ _ st2 fun b _ o e => old3 b o e
  obtain ⟨C, eC⟩ : ∃ C, C = s3.heap.objs.size := ⟨_, rfl⟩
  obtain ⟨cl, ecl⟩ : ∃ cl, cl = cellsFrom (s3.heap.objs.size + 1) scope.names (cloFrom X.env.cells scope.names []) := ⟨_, rfl⟩
  obtain ⟨ce, ece⟩ : ∃ ce, ce = compEnvC scope cl C X.env := ⟨_, rfl⟩
  have cL : ce.locals = C := by rw [ece]; rfl
  have cF : ce.frame = X.env.frame := by rw [ece]; rfl
  obtain ⟨xe, exe⟩ : ∃ xe, xe = notedBy (model X.prog X.w) X.A ce (CompFails (model X.prog X.w) X.A X.xe ce) := ⟨_, rfl⟩
  obtain ⟨s4, e4⟩ : ∃ s4 : Shared, s4 = { s3 with heap := pushCells (s3.heap.push { cls := .type "dict", data := .dict #[] }) scope.names } := ⟨_, rfl⟩
  have fC : ∀ H1 : Hp, H1 ce.locals = none → FpOk X pins H1 ce.locals := fun H1 z => I3.fpOk (by rw [cL, eC]; exact Nat.le_refl _) z
  have nfr : ce.locals ∉ frs X.stack := fun m => by
    obtain ⟨_, o, z, _⟩ := I3.stack.mem m
    have := Heap.lt_size z
    rw [cL, eC] at this
    exact Nat.lt_irrefl _ this
  have pb : Passes (L2.CX X.prog X.w) (blkE X s3 H3 scope ce fp xe) E := by
    rw [exe]
    exact passes_block st ef tk I3 cF fC nfr fun b hb => (f3 b hb).1
  have I4 : Inv (blkE X s3 H3 scope ce fp xe) [] (wipe σ (own.map (·.2))) H3 s4 := by
    have z := block_start I3 ok hN f3
    rw [← eC] at z
    rw [e4, ece, ecl, ← eC]
    exact Inv.wished z xe
  have st4 : tn 0 s4.heap := T.keep _ _ _ st3 fun b _ o e => by
    rw [e4]
    exact pushCells_keeps _ _ _ _ (Heap.get?_push_of_some _ e)
  have gE := hg s3 H3 C cl fp xe
  have tE := ht s3 H3 C cl fp xe
  have vE := he s3 H3 C cl fp xe
  rw [← ece] at gE tE vE
  have vE := vE pb
  have own0 : ∀ {σ' : L2.St} {H' : Hp} {s' : Shared}, Inv (blkE X s3 H3 scope ce fp xe) [] σ' H' s' → (∀ b ∈ fp, H' b = none) → ∀ b ∈ fp, FpOk (blkE X s3 H3 scope ce fp xe) [] H' b := fun J n b hb =>
    ⟨n b hb, (J.ok.exf b hb).1, J.ok.exfs b hb, .inl hb, fun x c e => (J.ok.exf b hb).2 x c e, fun q hq => nomatch hq⟩
  rw [← e3]
  have start : codeAny (model X.prog X.w) X.A (.compLoop (.ListComp elt [⟨tg, iter, ifs, 0⟩] scope pos) 0 (.ref it) (.ref D) ce) (compEnds (model X.prog X.w) X.A X.xe none (EP X pins σ Q) (.ref D) ce) s4 := by
    subst exe
    refine compLoop_any (fun n s' => ∃ i H', Inv (blkE X s3 H3 scope ce fp (notedBy (model X.prog X.w) X.A ce (CompFails (model X.prog X.w) X.A X.xe ce))) [] (wipe σ (own.map (·.2))) H' s' ∧ tn i s'.heap ∧ (∀ b ∈ fp, H' b = none) ∧ W i n H') ?_ m0 ⟨0, H3, I4, st4, fun b hb => (f3 b hb).1.1, by rw [eH]; exact w0⟩
    rintro n s5 ⟨i, H5, J5, t5, n5, w5⟩
    rcases turn i n H5 w5 with ⟨stop, q⟩ | ⟨goes, Nx, less, step⟩
    · refine thn (T.done (blkE X s3 H3 scope ce fp (notedBy (model X.prog X.w) X.A ce (CompFails (model X.prog X.w) X.A X.xe ce))) rfl rfl rfl hc i [] s5 _ H5 _ J5 (own0 J5 n5) t5 stop) fun r s6 ⟨er, J6⟩ => ?_
      subst er
      obtain ⟨m, ns, _⟩ := J6.loc
      have K6 : Inv X pins σ H5 s6 := I3.call' (ch := fp) J6.os J6.base J6.hok J6.bare fun b hb =>
        have ⟨_, q1, _, q3, q4, q5⟩ := (f3 b hb).1
        ⟨q3, q1, q4, q5⟩
      obtain ⟨q0, q1, _, q3, q4, q5⟩ := fC H5 J6.free
      exact ⟨m, ns, fun h6 sb => ⟨.ref D, H5, K6.turned (t' := s6.toks) (fun b o hb e => (sb.2 b hb).trans e) q0 q1 q3 q4 q5, rfl, q⟩⟩
    · refine thn (T.item (blkE X s3 H3 scope ce fp (notedBy (model X.prog X.w) X.A ce (CompFails (model X.prog X.w) X.A X.xe ce))) rfl rfl rfl hc i [] s5 _ H5 _ J5 (own0 J5 n5) t5 goes) fun r s6 ⟨u, er, z⟩ => ?_
      subst er
      refine thn z fun _ s7 ⟨x, H7, J7, r7, y7, t7, n7⟩ => ?_
      refine thn (gE.run _ s7 _ H7 x u _ (J7.pinned (own0 J7 n7) (T.obj _ _ t7)) r7 (step x H7 y7)) fun _ s8 ⟨σ8, H8, J8, same, q8⟩ => ?_
      refine thn (tE.run _ s8 σ8 H8 _ J8 q8) fun b s9 ⟨H9, J9, q9⟩ => ?_
      have round : ∀ {s' : Shared} {H' : Hp}, Inv (blkE X s3 H3 scope ce fp (notedBy (model X.prog X.w) X.A ce (CompFails (model X.prog X.w) X.A X.xe ce))) ([] ++ pinsAt fp s7.heap) σ8 H' s' → Nx H' → ∃ k, k < n ∧ ∃ j H', Inv (blkE X s3 H3 scope ce fp (notedBy (model X.prog X.w) X.A ce (CompFails (model X.prog X.w) X.A X.xe ce))) [] (wipe σ (own.map (·.2))) H' s' ∧ tn j s'.heap ∧ (∀ b ∈ fp, H' b = none) ∧ W j k H' := fun {s' H'} J' nx => by
        obtain ⟨k, lt, w'⟩ := less H' nx
        have still : ∀ b ∈ fp, ∀ o, s7.heap.get? b = some o → s'.heap.get? b = some o ∧ H' b = none := fun b hb o e =>
          have z := J'.pin (b, o) (List.mem_append_right _ (List.mem_append_right _ (mem_pinsAt hb e)))
          ⟨z.1, z.2.1⟩
        have J2 := (Inv.unpinned (pins := []) J').weak (σ' := wipe σ (own.map (·.2))) (by rw [← same, wipe_length]) fun j v e => (wipe_some (same.symm ▸ e)).1
        exact ⟨k, lt, i + 1, H', J2, T.keep _ _ _ t7 fun b hb o e => (still b hb o e).1, fun b hb => have ⟨o, e, _⟩ := T.obj _ _ t7 b hb; (still b hb o e).2, w'⟩
      cases b with
      | false =>
        rw [if_neg Bool.false_ne_true] at q9 ⊢
        exact round J9 q9
      | true =>
        rw [if_pos rfl] at q9 ⊢
        refine thn (vE.run _ s9 σ8 H9 _ J9 q9) fun y s10 ⟨yv, H10, J10, ry, acc, atD, lt, nx⟩ => ?_
        exact app_ok (X := blkE X s3 H3 scope ce fp (notedBy (model X.prog X.w) X.A ce (CompFails (model X.prog X.w) X.A X.xe ce))) J10 atD lt ry fun s11 J11 => round J11 nx
  have all := codeAny_compStart_list start (T.self X.A 0 _ _ _ st4 start)
  rw [e4, ece, ecl, eC] at all
  exact all
end
end Fw

/-! a text from its end -/
namespace Fw
open PySem PySem.Spec PyProof.Rows L2 Evl
theorem str_no_rev : typeLookup (.type "str") "__reversed__" = pure none := by
  rw [typeLookup_type, builtinLookup_eq_fast]
  kernel_rfl
def backO (x : Str) (t : Tok) (i : Int) : Obj := { cls := .type "reversed", data := .fields #[.str x t, rawInt i] }
/-- at a, a text's walk from its end: the next place is i -/
def BackAt (h : Heap) (a : Addr) (x : Str) (t : Tok) (i : Int) : Prop := ∃ o, h.get? a = some o ∧ o.cls = .type "reversed" ∧ o.data = .fields #[.str x t, rawInt i]
section
variable {prog : Program} {w : World} {A : Around} {E : Value → Shared → Prop} {s : Shared} {x : Str} {t : Tok} {a : Addr} {i : Int}
theorem BackAt.ty (b : BackAt s.heap a x t i) : s.TypeIs (.ref a) "reversed" := b.imp fun _ ⟨g, c, _⟩ => ⟨g, c⟩
theorem code_back {Q : Value → Shared → Prop} (hx : x.length ≤ sizeLine) (k : Q (.ref s.heap.objs.size) { s with heap := s.heap.push (backO x t ((x.length : Int) - 1)), toks := s.toks + 1 + 1 }) :
    codeAny (model prog w) A (.call (.builtin "reversed.__new__") ⟨[.type "reversed", .str x t], []⟩) (wants Q E) s := by
  have fits : ¬ (x.length : Int) ≥ 2 ^ 63 := by
    rw [sizeLine_eq] at hx
    omega
  refine codeAny_of_tree (wpAny_bind (wpAny_of_eq (F.newCall_reversed_1 _) (wpAny_pure ⟨plainId_quiet F.plain_reversed_new _, codeAny_builtin F.entry_reversed_new ?_⟩)))
  rw [Around.under_plainId F.plain_reversed_new _]
  unfold Builtin.«reversed.__new__»
  refine wpAny_bind (wpAny_of_eq (newClass_reversed _) (wpAny_bind (wpAny_of_eq (a := ()) (by first | rfl | kernel_rfl) (wpAny_bind (wpAny_of_eq (a := ()) (by first | rfl | kernel_rfl) ?_)))))
  refine wpAny_bind (wpAny_specialOf (typeIs_str s x t) str_no_rev (wpAny_bind ?_))
  wp_delta
  refine wpAny_bind (wpAny_isInstance (T := "str") (U := "dict") (b := false) (typeIs_str s x t) PySem.F.sub_str_dict ?_)
  try dsimp only
  try rw [if_neg Bool.false_ne_true]
  try dsimp only
  refine wpAny_bind (wpAny_specialOf (typeIs_str s x t) PySem.F.slot_str_getitem.lookup ?_)
  try dsimp only
  try rw [if_pos (by decide +kernel)]
  refine wpAny_pure ?_
  try dsimp only
  try rw [if_neg (by decide)]
  try dsimp only
  refine wpAny_bind (PyProof.Rows.len_str fits (wpAny_bind (wpAny_of_eq (a := some ((x.length : Nat) : Int)) rfl ?_)))
  try dsimp only
  refine wpAny_bind ?_
  show wpAny _ _ (newObj (.type "reversed") (.fields #[.str x t, rawInt ((x.length : Int) - 1)])) _ _ _
  exact wpAny_newObj_type (wpAny_pure k)
theorem call_back {Q : Value → Shared → Prop} (hx : x.length ≤ sizeLine) (k : Q (.ref s.heap.objs.size) { s with heap := s.heap.push (backO x t ((x.length : Int) - 1)), toks := s.toks + 1 + 1 }) :
    wpAny (model prog w) A (call (.type "reversed") [.str x t]) Q E s := by
  refine callType_codes (Q₁ := fun o s1 => s1.TypeIs o "reversed" ∧ Q o s1) RT.called_rt (F.typeCall_reversed_1 _) F.entry_object_init (code_back (A := A.in1) hx ⟨⟨_, Heap.get?_push_size _ rfl, rfl⟩, k⟩) fun o s1 h1 => ?_
  exact ⟨h1.1, F.args_object_init_2 o _, object_init_meets RT.called_rt.init.lookup RT.called_rt.made (by decide) prog w A.in1 _ s1 ⟨h1.1, rfl, h1.2⟩⟩
theorem iter_back {Q : Value → Shared → Prop} (b : BackAt s.heap a x t i) (k : Q (.ref a) s) : wpAny (model prog w) A (pyIter (.ref a)) Q E s :=
  wpAny_pyIter_slot b.ty RT.slot_rt_iter (wpAny_call_entry RT.slot_rt_iter b.ty RT.entry_rt_iter (wpAny_pure ⟨_, rfl, "reversed", _, b.ty, RT.slot_rt_next.lookup, k⟩) (RT.args_rt_iter _))
theorem next_back {n : Nat} {c : Nat} {Q : Option Value → Shared → Prop} (b : BackAt s.heap a x t (n : Int)) (hc : x.cps[n]? = some c) (hx : x.length ≤ sizeLine)
    (k : ∀ h, BackAt h a x t ((n : Int) - 1) → Heap.SameBut a s.heap h → Q (some (.str ⟨#[c]⟩ (s.toks + 1))) { s with heap := h, toks := s.toks + 1 + 1 }) : wpAny (model prog w) A (pyNext (.ref a)) Q E s := by
  have ⟨o, g, oc, dt⟩ := id b
  have lt : n < x.length := (Array.getElem?_eq_some_iff.mp hc).1
  rw [sizeLine_eq] at hx
  unfold pyNext
  refine wpAny_bind (wpAny_attempt (wpAny_callSpecial?_slot (name := Str.ofString "__next__") b.ty RT.slot_rt_next (wpAny_call_entry RT.slot_rt_next b.ty RT.entry_rt_next ?_ (RT.args_rt_next _))))
  unfold Builtin.«reversed.__next__»
  refine wpAny_bind (wpAny_of_eq (a := (Value.ref a, [])) rfl (wpAny_bind (wpAny_field g dt (x := .str x t) rfl (wpAny_bind (wpAny_field g dt (x := rawInt (n : Int)) rfl ?_)))))
  show wpAny _ _ (if (n : Int) < 0 then _ else _) _ _ s
  rw [if_neg (by omega)]
  refine wpAny_bind (wpAny_specialOf (typeIs_str s x t) PySem.F.slot_str_getitem.lookup ?_)
  try dsimp only
  try rw [if_neg (by decide)]
  try dsimp only
  refine wpAny_bind (wpAny_mkInt (wpAny_bind (wpAny_attempt ?_)))
  have at_ : seqIndex? (n : Int) x.length = some n := seqIndex_of (by omega) (by omega)
  refine PyProof.Rows.getItem_str (s := { s with toks := s.toks + 1 }) (c := c) (by
    rw [decide_eq_false (by omega), decide_eq_false (by omega)]
    rfl) (by rw [at_]; exact hc) ?_
  try dsimp only
  refine wpAny_bind (wpAny_field (s := { s with toks := s.toks + 1 + 1 }) g dt (x := rawInt (n : Int)) rfl ?_)
  try dsimp only
  refine wpAny_bind (wpAny_setField (s := { s with toks := s.toks + 1 + 1 }) g dt (by simp) ?_)
  have last : BackAt (s.heap.update a (Obj.mapFields (·.setIfInBounds 1 (rawInt ((n : Int) - 1))))) a x t ((n : Int) - 1) := ⟨_, Heap.get?_update_self _ g (Obj.isFreed_of_fields (Obj.data_mapFields dt _)), (Obj.cls_mapFields ..).trans oc, by
    rw [Obj.data_mapFields dt]
    simp⟩
  first
  | exact wpAny_pure ⟨_, rfl, wpAny_pure (k _ last (Heap.SameBut.update ..))⟩
  | exact wpAny_bind (wpAny_pure (wpAny_pure ⟨_, rfl, wpAny_pure (k _ last (Heap.SameBut.update ..))⟩))
theorem end_back {Q : Option Value → Shared → Prop} (hh : A.handled = none) (b : BackAt s.heap a x t (-1)) (k : ∀ h, Heap.ExtBut a s.heap h → Q none { s with heap := h }) : wpAny (model prog w) A (pyNext (.ref a)) Q E s := by
  have ⟨o, g, oc, dt⟩ := id b
  unfold pyNext
  refine wpAny_bind (wpAny_attempt (wpAny_callSpecial?_slot (name := Str.ofString "__next__") b.ty RT.slot_rt_next (wpAny_call_entry RT.slot_rt_next b.ty RT.entry_rt_next ?_ (RT.args_rt_next _))))
  unfold Builtin.«reversed.__next__»
  refine wpAny_bind (wpAny_of_eq (a := (Value.ref a, [])) rfl (wpAny_bind (wpAny_field g dt (x := .str x t) rfl (wpAny_bind (wpAny_field g dt (x := rawInt (-1)) rfl ?_)))))
  show wpAny _ _ (if (-1 : Int) < 0 then _ else _) _ _ s
  rw [if_pos (by decide)]
  refine wpAny_bind (wpAny_rule (wpAny_bind ?_))
  wp_delta
  refine wpAny_bind (wpAny_setField g dt (by simp) ?_)
  have g2 := Heap.get?_update_self (Obj.mapFields (·.setIfInBounds 1 (rawInt (-1)))) g (Obj.isFreed_of_fields (Obj.data_mapFields dt _))
  refine wpAny_setField (s := { s with heap := s.heap.update a (Obj.mapFields (·.setIfInBounds 1 (rawInt (-1)))) }) g2 (Obj.data_mapFields dt _) (by simp) ?_
  try dsimp only
  first
  | show wpAny _ _ (newExc (.type "StopIteration") [] >>= _) _ _ _
  | (refine wpAny_bind ?_; show wpAny _ _ (newExc (.type "StopIteration") [] >>= _) _ _ _)
  | (refine wpAny_bind ?_; wp_delta; show wpAny _ _ (newExc (.type "StopIteration") [] >>= _) _ _ _)
  refine wpAny_bind ?_
  simp only [newExc, newTuple]
  refine wpAny_bind (wpAny_newObj_type ?_ (by size_fits))
  refine wpAny_bind (m := firstArgMember _ _) (wpAny_of_eq (a := Value.none) (by first | rfl | (simp only [firstArgMember]; rfl)) (wpAny_newObj_type ?_ (by size_fits)))
  simp only [raiseNew]
  refine wpAny_bind (wpAny_handled ?_)
  first | rw [show A.in1.handled = none from hh] | rw [hh]
  refine wpAny_bind (wpAny_pure ?_)
  refine wpAny_throw ?_
  refine wpAny_bind (wpAny_isInstance (b := true) (T := "StopIteration") ⟨_, Heap.get?_push_size _ rfl, rfl⟩ isSubtype_stop ?_)
  refine wpAny_pure (k _ ?_)
  exact (Heap.ExtBut.push (Heap.ExtBut.push (fun b ob hb e => (Heap.get?_update_other _ _ (Ne.symm hb)).trans ((Heap.get?_update_other _ _ (Ne.symm hb)).trans e)) _) _)
end
def Itb (x : Str) : It := ⟨fun i _ => i < x.length, fun i H v H' => H' = H ∧ ∃ c, x.cps[x.length - 1 - i]? = some c ∧ v = .str ⟨#[c]⟩, fun i _ => x.length ≤ i⟩
theorem turn_back {P : Program} {w : World} {K : PySem.W.Frag} {tg : Expr} {x : Str} {t : Tok} (hx : x.length ≤ sizeLine) (a : Addr) : Turn P w K tg (Itb x) [a] a (fun i h => i ≤ x.length ∧ BackAt h a x t ((x.length : Int) - 1 - (i : Nat))) where
  mem := List.mem_singleton.mpr rfl
  obj := fun i h ⟨_, o, g, _, dt⟩ b hb => by
    cases List.mem_singleton.mp hb
    exact ⟨o, g, fun v z => nomatch (dt.symm.trans z)⟩
  keep := fun i h h' ⟨q, o, g, r⟩ k => ⟨q, o, k a (List.mem_singleton.mpr rfl) o g, r⟩
  item := by
    intro X hP hw hK hc i pins s σ H E I free st go
    subst hP hw hK
    obtain ⟨le, b⟩ := st
    have go : i < x.length := go
    have e1 : (x.length : Int) - 1 - ((i : Nat) : Int) = ((x.length - 1 - i : Nat) : Int) := by omega
    have hc : x.cps[x.length - 1 - i]? = some (x.cps[x.length - 1 - i]'(show _ < x.length by omega)) := Array.getElem?_eq_getElem _
    obtain ⟨f0, f1, f2, f3, f4, f5⟩ := free a (List.mem_singleton.mpr rfl)
    rw [e1] at b
    refine next_back b hc hx fun h b2 sb => ?_
    have e2 : ((x.length - 1 - i : Nat) : Int) - 1 = (x.length : Int) - 1 - ((i + 1 : Nat) : Int) := by omega
    rw [e2] at b2
    have J : Inv X pins σ H { s with heap := h, toks := s.toks + 1 + 1 } := I.turned (t' := s.toks + 1 + 1) (fun c o hb e => (sb.2 c hb).trans e) f0 f1 f3 f4 f5
    obtain ⟨o, g, oc, dt⟩ := id b2
    exact ⟨_, rfl, go_of (s := { s with heap := h, toks := s.toks + 1 + 1 }) g oc dt (by decide) ⟨.str ⟨#[_]⟩, H, J, ⟨_, rfl⟩, ⟨rfl, _, hc, rfl⟩, ⟨go, b2⟩, fun c hb => (free c hb).1⟩⟩
  done := by
    intro X hP hw hK hc i pins s σ H E I free st stop
    subst hP hw hK
    obtain ⟨le, b⟩ := st
    have stop : x.length ≤ i := stop
    obtain ⟨f0, f1, f2, f3, f4, f5⟩ := free a (List.mem_singleton.mpr rfl)
    rw [show (x.length : Int) - 1 - ((i : Nat) : Int) = -1 by omega] at b
    exact end_back (I.ok.hd hc) b fun h eb => ⟨rfl, I.turned (t' := s.toks) (fun c o hb e => eb c o hb e) f0 f1 f3 f4 f5⟩
  self := fun A i s Q E st k => iter_back st.2 k
/-- reversed(x), x a text -/
def iBack (te : TE) : TI := fun σ H R => te σ H fun v H1 => ∃ x, v = .str x ∧ x.length ≤ sizeLine ∧ R (Itb x) H1
theorem pi_back {X : Cx} {tg e : Expr} {te : TE} {p pos : Pos} (gl : Gl X "reversed") (nm : X.mg "reversed" = none) (he : PE X e te) (hs : starEach [e] X.env = (false, eval e X.env) :: starEach [] X.env := by rfl) :
    PI X tg (.Call (.Name "reversed" p) [e] [] pos) (iBack te) := by
  constructor
  intro pins s σ H R I h
  refine Call_ (ld_blt I gl nm PyProof.Rows.boot_reversed (PyProof.Rows.callWith_type1 (args_cons (thn (he.run pins s σ H _ I h) fun u s1 ⟨v, H1, J, r, x, ev, hx, q⟩ => args_nil ?_) hs) hs rfl))
  subst ev
  obtain ⟨t, rfl⟩ := r
  refine call_back hx (iter_back (i := (x.length : Int) - 1) ⟨_, Heap.get?_push_size _ rfl, rfl, rfl⟩ (pi_one (tk := s1.toks + 1 + 1) J _ (turn_back (t := t) hx _) ⟨Nat.zero_le _, ?_⟩ q))
  rw [show (x.length : Int) - 1 - ((0 : Nat) : Int) = (x.length : Int) - 1 by omega]
  exact ⟨_, Heap.get?_push_size _ rfl, rfl, rfl⟩
end Fw

/-! layings read from texts -/
namespace Few
/-- ended has no nought at its end -/
theorem ended_last : ∀ r : List Int, ended r.reverse = [] ∨ ∃ s m, ended r.reverse = s ++ [m] ∧ m ≠ 0
  | [] => .inl rfl
  | n :: r => by
    rw [List.reverse_cons]
    by_cases z : n = 0
    · subst z
      rw [ended_snoc0]
      exact ended_last r
    · rw [ended_snoc _ z]
      exact .inr ⟨_, _, rfl, z⟩
end Few
namespace Fw
open PySem PySem.Spec PyProof.Rows L2 Evl
def okC (c : Nat) : Bool := decide (c = 43) || (decide (c = 45) || decide (c = 48))
def tvC (c : Nat) : Int := if c = 43 then 1 else if c = 45 then -1 else 0
def scI (n : Int) : Nat := if n = 1 then 43 else if n = -1 then 45 else 48
def txt (l : List Int) : Str := ⟨(l.map scI).toArray⟩
theorem txt_list (l : List Int) : (txt l).cps.toList = l.map scI := by simp [txt]
theorem ok_sc (n : Int) : okC (scI n) = true := by
  unfold scI
  split
  · rfl
  · split <;> rfl
theorem tv_sc {n : Int} (h : Few.Pm n) : tvC (scI n) = n := by
  rcases h with rfl | rfl | rfl <;> rfl
theorem s_plus : ("+" : Str) = ⟨#[43]⟩ := by decide +kernel
theorem s_minus : ("-" : Str) = ⟨#[45]⟩ := by decide +kernel
theorem s_nought : ("0" : Str) = ⟨#[48]⟩ := by decide +kernel
theorem s_empty : ("" : Str) = ⟨#[]⟩ := by decide +kernel
theorem s_three : ("-0+" : Str) = ⟨#[45, 48, 43]⟩ := by decide +kernel
theorem sg_txt (n : Int) : sgS n = ⟨#[scI n]⟩ := by
  unfold sgS scI
  rw [s_plus, s_minus, s_nought]
  split
  · rfl
  · split <;> rfl
theorem sgn_eq {c d : Nat} : decide (V.str ⟨#[c]⟩ = V.str ⟨#[d]⟩) = decide (c = d) := by
  by_cases h : c = d
  · subst h
    rw [decide_eq_true rfl, decide_eq_true rfl]
  · rw [decide_eq_false h, decide_eq_false]
    intro z
    injection z with z
    injection z with z
    exact h (by simpa using z)
theorem str_eq {x y : Str} : decide (V.str x = V.str y) = decide (x = y) := by
  by_cases h : x = y
  · subst h
    rw [decide_eq_true rfl, decide_eq_true rfl]
  · rw [decide_eq_false h, decide_eq_false]
    intro z
    injection z with z
    exact h z
/-- the laying that a text shows -/
def readOf (x : Str) : Option (List Int) :=
  if x = "0" then some [] else if x = "" then none else if x.cps.toList[0]? = some 48 then none else if x.cps.toList.all okC = true then some (x.cps.toList.reverse.map tvC) else none
theorem join_txt (l : List Int) : Txt.join "" (l.map sgS) = txt l := by
  have key : ∀ (l : List Int) (a : Array Nat), (l.map sgS).foldl (fun acc p => acc ++ ("" : Str).cps ++ p.cps) a = a ++ (l.map scI).toArray := by
    intro l
    induction l with
    | nil =>
      intro a
      simp
    | cons n r ih =>
      intro a
      rw [List.map_cons, List.foldl_cons, ih, sg_txt, s_empty]
      simp
  unfold Txt.join Builtin.Str.glued txt
  cases l with
  | nil => rfl
  | cons n r =>
    rw [List.map_cons, List.drop_succ_cons, List.drop_zero, key]
    show Str.mk ((sgS n).cps ++ _) = _
    rw [sg_txt]
    simp
theorem shown_txt (ns : List Int) : shownOf ns = if Few.ended ns = [] then ("0" : Str) else txt (Few.ended ns).reverse := by
  unfold shownOf
  rw [join_txt]
theorem read_shown {ns : List Int} (h : Few.Lay ns) : readOf (shownOf ns) = some (Few.ended ns) := by
  rw [shown_txt]
  have le := Few.lay_ended h
  have last := Few.ended_last ns.reverse
  rw [List.reverse_reverse] at last
  generalize Few.ended ns = e at le last
  rcases last with rfl | ⟨s, m, rfl, mz⟩
  · rw [if_pos rfl]
    unfold readOf
    rw [if_pos rfl]
  rw [if_neg (by simp)]
  have sc0 : scI m ≠ 48 := by
    rcases le m (by simp) with rfl | rfl | rfl
    · decide
    · exact absurd rfl mz
    · decide
  have l0 : (txt (s ++ [m]).reverse).cps.toList = scI m :: s.reverse.map scI := by
    rw [txt_list]
    simp
  have ne0 : txt (s ++ [m]).reverse ≠ "0" := fun z => by
    rw [z, s_nought] at l0
    injection l0 with l0 _
    exact sc0 l0.symm
  have ne1 : txt (s ++ [m]).reverse ≠ "" := fun z => by
    rw [z, s_empty] at l0
    cases l0
  unfold readOf
  rw [if_neg ne0, if_neg ne1, l0, if_neg (by
    intro z
    injection z with z
    exact sc0 z), if_pos (by
    simp [ok_sc])]
  congr 1
  rw [List.reverse_cons, List.map_append, ← List.map_reverse, List.reverse_reverse, List.map_map, List.map_cons, List.map_nil, tv_sc (le m (by simp))]
  congr 1
  have : ∀ x ∈ s, (tvC ∘ scI) x = x := fun x hx => tv_sc (le x (by simp [hx]))
  rw [List.map_congr_left this]
  simp
/-- lstrip("0") of the signs -/
theorem lstrip_txt {r : List Int} (h : ∀ n ∈ r, Few.Pm n) : Txt.lstripChars (txt r) "0" = txt (Few.ended r.reverse).reverse := by
  have key : ∀ r : List Int, (∀ n ∈ r, Few.Pm n) → (r.map scI).dropWhile (("0" : Str).cps.contains) = (Few.ended r.reverse).reverse.map scI := by
    intro r
    induction r with
    | nil => exact fun _ => rfl
    | cons n r ih =>
      intro h
      rw [List.reverse_cons, List.map_cons, List.dropWhile_cons, s_nought]
      rcases h n List.mem_cons_self with rfl | rfl | rfl
      · rw [Few.ended_snoc _ (by decide)]
        simp [scI]
      · rw [Few.ended_snoc0, ← ih fun m hm => h m (List.mem_cons_of_mem _ hm), s_nought]
        simp [scI]
      · rw [Few.ended_snoc _ (by decide)]
        simp [scI]
  show Txt.stripBy ("0" : Str).cps.contains true false (txt r) = _
  rw [stripBy_eq]
  unfold stripHi stripLo Builtin.Str.strSub
  simp only [if_true, Bool.false_eq_true, if_false]
  have cut : ∀ (l : List Nat) (p : Nat → Bool), l.drop (l.takeWhile p).length = l.dropWhile p := fun l p => by
    induction l with
    | nil => rfl
    | cons c l ih =>
      rw [List.takeWhile_cons, List.dropWhile_cons]
      cases p c with
      | true => exact ih
      | false => rfl
  unfold txt
  rw [← key r h, ← cut]
  show Str.mk ((r.map scI).toArray.extract _ (r.map scI).toArray.size) = _
  simp
  exact List.take_of_length_le (by simp)
/-! texts in the machine -/
abbrev rAddS2 : R2 := fun x y H Q => ∃ i j, x = .str i ∧ y = .str j ∧ i.length + j.length ≤ sizeLine ∧ Q (.str (i ++ j)) H
abbrev rNotInSg : R2 := fun x y H Q => ∃ (c : Nat) (z : Str), x = .str ⟨#[c]⟩ ∧ y = .str z ∧ Q (.bl (!decide (c ∈ z.cps.toList))) H
abbrev rLstrip : V → List V → Hp → VK → Prop := fun x xs H Q => ∃ a b, x = .str a ∧ xs = [.str b] ∧ a.length ≤ sizeLine ∧ Q (.str (Txt.lstripChars a b)) H
abbrev rFind : V → List V → Hp → VK → Prop := fun x xs H Q => ∃ a b, x = .str a ∧ xs = [.str b] ∧ Q (.int (Txt.find a b)) H
abbrev rLenT (K : PySem.W.Frag) : List V → Hp → VK → Prop := fun xs H Q => ∃ x n, xs = [x] ∧ LenV K x H n ∧ Q (.int n) H
/-- a text, k times over: its length is known -/
def rRepS : R2 := fun x y H Q => ∃ (w : Str) (k : Int), x = .str w ∧ y = .int k ∧ 1 ≤ k ∧ k ≤ 8 ∧ w.length ≤ 100000 ∧ ∀ z : Str, z.length ≤ 8 * w.length → Q (.str z) H
theorem op_repS {X : Cx} : OpR X (binaryOp .Mult) rRepS := by
  intro pins s σ H x y v u Q I rx ry h
  obtain ⟨w, k, rfl, rfl, k1, k2, hw, q⟩ := h
  obtain ⟨t, rfl⟩ := rx
  obtain ⟨t', rfl⟩ := ry
  obtain ⟨n, rfl⟩ : ∃ n : Nat, k = (n : Int) := ⟨k.toNat, by omega⟩
  have many : w.length * n ≤ 8 * w.length := by
    rw [Nat.mul_comm]
    exact Nat.mul_le_mul_right _ (by omega)
  have line := sizeLine_eq
  have rep : ∀ (n : Nat) (a : Array Nat), ((List.replicate n w.cps).foldl (· ++ ·) a).size = a.size + n * w.length := fun n => by
    induction n with
    | zero =>
      intro a
      simp
    | succ n ih =>
      intro a
      rw [List.replicate_succ, List.foldl_cons, ih, Array.size_append, Nat.add_mul]
      show a.size + w.length + n * w.length = _
      omega
  refine PySem.P.mul_str (by rw [decide_eq_false (by omega), decide_eq_false (by omega)]; rfl) (fun _ _ => ?_) (fun _ _ => ?_) ?_
  · have z : (w.length : Int) ≤ ((2 : Int) ^ 63 - 1) / (n : Int) := Int.le_ediv_of_mul_le (by omega) (by
      have : ((w.length * n : Nat) : Int) ≤ ((8 * w.length : Nat) : Int) := by exact_mod_cast many
      rw [Int.natCast_mul] at this
      omega)
    omega
  · unfold Builtin.Str.tooLong
    rw [Int.toNat_natCast]
    exact decide_eq_false (by omega)
  · rw [if_neg (by omega)]
    split
    · exact ⟨.str w, H, I, ⟨_, rfl⟩, q w (by omega)⟩
    · have l := rep n #[]
      have l : (Str.mk ((List.replicate n w.cps).foldl (· ++ ·) #[])).length ≤ 8 * w.length := by
        show Array.size _ ≤ _
        rw [l, Nat.mul_comm n]
        simpa using many
      exact ⟨by rw [Int.toNat_natCast]; omega, .str _, H, I.tok _, ⟨_, rfl⟩, q _ (by rw [Int.toNat_natCast]; exact l)⟩
section
variable {K : PySem.W.Frag} {A : Ad} {vs : List V} {H H' : Hp} {Q : VK} {E : XK} {σ : L2.St} {te tx tl ta tb : TE} {D : Ends} {tu tz : TS} {g : TG}
theorem ev_addS {x y : Str} (ha : Ev ta σ H (.str x)) (hb : Ev tb σ H (.str y)) (hz : x.length + y.length ≤ 100000) : Ev (tOp rAddS2 ta tb) σ H (.str (x ++ y)) := ev_op ha hb fun H1 _ Q q => ⟨x, y, rfl, rfl, sz_of hz, q H1 (Ex.refl H1)⟩
theorem ev_lstrip {x y : Str} (ha : Ev ta σ H (.str x)) (hb : Ev tb σ H (.str y)) (hz : x.length ≤ 100000) : Ev (tM1 rLstrip ta tb) σ H (.str (Txt.lstripChars x y)) := fun H1 e Q q =>
  ha H1 e _ fun H2 e2 => ⟨⟨x, rfl⟩, hb H2 (e.trans e2) _ fun H3 e3 => ⟨x, y, rfl, rfl, sz_of hz, q H3 (e2.trans e3)⟩⟩
theorem ev_find {x y : Str} (ha : Ev ta σ H (.str x)) (hb : Ev tb σ H (.str y)) : Ev (tM1 rFind ta tb) σ H (.int (Txt.find x y)) := fun H1 e Q q =>
  ha H1 e _ fun H2 e2 => ⟨⟨x, rfl⟩, hb H2 (e.trans e2) _ fun H3 e3 => ⟨x, y, rfl, rfl, q H3 (e2.trans e3)⟩⟩
theorem ev_lenT {x : Str} (h : Ev te σ H (.str x)) (hz : x.length ≤ 100000) : Ev (tCB (rLenT K) (tCons te tNil)) σ H (.int (x.length : Int)) :=
  ev_cbX1 (x_v h) fun u H1 _ eu H2 _ Q q => ⟨u, x.length, rfl, by rw [show u = V.str x from eu]; exact ⟨sz_of hz, rfl⟩, q H2 (Ex.refl H2)⟩
theorem th_str_is {v : V} {x : Str} (h : Th K H v (.str x)) : v = .str x := by
  cases h with
  | of h =>
    cases h
    rfl
/-- [e for c in reversed(x)] of a text, the element may raise -/
theorem lc_back {x : Str} {j : Nat} {vs : List Nat} {ok : Nat → Bool} {g : Nat → V} (h : Ev tl σ H (.str x)) (hx : x.length ≤ 40000) (hw : ∀ y, wipe ((wipe σ vs).set j (some y)) vs = wipe σ vs)
    (he : ∀ c H1, Ex H H1 → ok c = true → Ev te ((wipe σ vs).set j (some (.str ⟨#[c]⟩))) H1 (g c)) (bad : ∀ c H1, Ex H H1 → c ∈ x.cps.toList → ok c = false → Er te ((wipe σ vs).set j (some (.str ⟨#[c]⟩))) H1) :
    ∀ H0, Ex H H0 → ∀ Q : VK, (x.cps.toList.all ok = true → ∀ p H2, H0 p = none → Ex H0 H2 → H2 p = some (.lst (x.cps.toList.reverse.map g)) → Q (.ref p) H2) → tLc (iBack tl) (gName j) tYes te vs σ H0 Q := fun H0 e Q q =>
  h H0 e _ fun H1 e1 => ⟨x, rfl, sz_of (by omega), fun Dl hD => by
    have ll : x.cps.toList.reverse.length = x.length := by
      rw [List.length_reverse, Array.length_toList]
      rfl
    refine ⟨fun i m H' => m = x.length - i ∧ i ≤ x.length ∧ CwV H1 ((x.cps.toList.reverse.take i).map g) Dl H' ∧ ∀ c ∈ x.cps.toList.reverse.take i, ok c = true, ⟨x.length, rfl, Nat.zero_le _, ⟨hD, Ex.new hD, upd_same⟩, fun c hc => by simp at hc⟩, ?_⟩
    rintro i m H' ⟨rfl, hi, p, al⟩
    by_cases lt : i < x.length
    · have hr : x.cps.toList.reverse[i]? = some (x.cps.toList.reverse[i]'(by rw [ll]; exact lt)) := List.getElem?_eq_getElem _
      generalize x.cps.toList.reverse[i]'(by rw [ll]; exact lt) = c at hr
      have hc : x.cps[x.length - 1 - i]? = some c := by
        rw [List.getElem?_reverse (by rw [Array.length_toList]; exact lt), Array.length_toList, Array.getElem?_toList] at hr
        exact hr
      cases hk : ok c with
      | true =>
        refine .inr ⟨lt, fun H2 => CwV H1 ((x.cps.toList.reverse.take (i + 1)).map g) Dl H2, fun H2 p' => ⟨x.length - (i + 1), by omega, rfl, lt, p', fun d hd => ?_⟩, fun v H2 y => ?_⟩
        · rw [take_snoc hr] at hd
          rcases List.mem_append.mp hd with z | z
          · exact al d z
          · rw [List.mem_singleton.mp z]
            exact hk
        · obtain ⟨eh, d, hd, ev⟩ := y
          rw [hc] at hd
          cases hd
          subst eh ev
          refine ⟨hw _, cwv_turn (b := true) (y := g c) p (by rw [List.length_map, List.length_take]; omega) et_yes (fun _ => he c H1 (e.trans e1) hk) _ fun H3 p3 => ?_⟩
          rw [take_snoc hr, List.map_append]
          exact p3
      | false =>
        refine .inr ⟨lt, fun _ => False, fun _ z => z.elim, fun v H2 y => ?_⟩
        obtain ⟨eh, d, hd, ev⟩ := y
        rw [hc] at hd
        cases hd
        subst eh ev
        exact ⟨hw _, bad c _ ((e.trans e1).trans p.2.1) (List.mem_reverse.mp (List.mem_of_getElem? hr)) hk _ (Ex.refl _) _⟩
    · have z : i = x.length := by omega
      subst z
      rw [← ll, List.take_length] at p al
      exact .inl ⟨Nat.le_refl _, q (List.all_eq_true.mpr fun c hc => al c (List.mem_reverse.mpr hc)) Dl H' (fresh_back e1 p.1) (e1.trans p.2.1) p.2.2⟩⟩
def sp_thing_of (K : PySem.W.Frag) (A : Ad) : Sp := fun vs H Q E => ∃ c : Nat, vs = [.str ⟨#[c]⟩] ∧ (okC c = true → RetV (.int (tvC c)) H Q) ∧ (okC c = false → RaiseE E A.text H)
def t_thing_of (K : PySem.W.Frag) (A : Ad) (E : XK) : TS :=
  (tSeq (tIfS (tTest (tOp rEq (tVar 0) (tC (.str "+")))) (tRet (tC (.int 1))) tNext)
    (tSeq (tIfS (tTest (tOp rEq (tVar 0) (tC (.str "-")))) (tRet (tUn rNegI (tC (.int 1)))) tNext)
    (tSeq (tIfS (tTest (tOp rEq (tVar 0) (tC (.str "0")))) (tRet (tC (.int 0))) tNext)
    (tRaiseC A.text E))))
theorem r_thing_of (h : sp_thing_of K A vs H Q E) : t_thing_of K A E (D0 Q) (start ["sign"] vs) H := by
  obtain ⟨c, rfl, k1, k2⟩ := h
  refine q_when (et_is (b := decide (c = 43)) (et_test (ev_op (ev_var rfl) ev_c (rv_eq rfl))) (by rw [s_plus]; exact sgn_eq)) (fun hb H1 e1 => ?_) (fun hb H1 e1 => ?_)
  · cases of_decide_eq_true hb
    exact s_retV ev_c ((k1 rfl).mono e1)
  have n1 := of_decide_eq_false hb
  refine q_when (et_is (b := decide (c = 45)) (et_test (ev_op (ev_var rfl) ev_c (rv_eq rfl))) (by rw [s_minus]; exact sgn_eq)) (fun hb H2 e2 => ?_) (fun hb H2 e2 => ?_)
  · cases of_decide_eq_true hb
    exact s_retV (ev_un ev_c ru_neg) ((k1 rfl).mono (e1.trans e2))
  have n2 := of_decide_eq_false hb
  refine q_when (et_is (b := decide (c = 48)) (et_test (ev_op (ev_var rfl) ev_c (rv_eq rfl))) (by rw [s_nought]; exact sgn_eq)) (fun hb H3 e3 => ?_) (fun hb H3 e3 => ?_)
  · cases of_decide_eq_true hb
    exact s_retV ev_c ((k1 rfl).mono ((e1.trans e2).trans e3))
  have n3 := of_decide_eq_false hb
  exact k2 (by
    unfold okC
    rw [decide_eq_false n1, decide_eq_false n2, decide_eq_false n3]
    rfl) H3 ((e1.trans e2).trans e3)
theorem ev_thing_of {c : Nat} (h : Ev te σ H (.str ⟨#[c]⟩)) (ok : okC c = true) : Ev (tCall (sp_thing_of K A) [] E (tCons te tNil)) σ H (.int (tvC c)) :=
  ev_call1 (x_v h) fun x H1 e1 hx Q q => ⟨c, by rw [show x = V.str ⟨#[c]⟩ from hx], fun _ H' e => q H' e, fun z => by rw [ok] at z; cases z⟩
theorem er_thing_of {c : Nat} (h : Ev te σ H (.str ⟨#[c]⟩)) (no : okC c = false) (k : RaiseE E A.text H) : Er (tCall (sp_thing_of K A) [] E (tCons te tNil)) σ H :=
  er_call1 (x_v h) fun x H1 e1 hx Q => ⟨c, by rw [show x = V.str ⟨#[c]⟩ from hx], fun z => (by rw [no] at z; cases z), fun _ => k.mono e1⟩
def sp_read (K : PySem.W.Frag) (A : Ad) : Sp := fun vs H Q E => ∃ v d, vs = [v] ∧ Th K H v d ∧ (∀ x, d = .str x → x.length ≤ 40000 ∧ (∀ ns, readOf x = some ns → RetL (ns.map V.int) H Q) ∧ (readOf x = none → RaiseE E A.text H)) ∧ ((tyD d == "str") = false → RaiseE E A.text H)
def t_read (K : PySem.W.Frag) (A : Ad) (E : XK) : TS :=
  (tSeq (tIfS (tOr (tNot (tB (tCB (rIsi K) (tCons (tVar 0) (tCons (tC (.ty "str")) tNil))))) (tTest (tOp rEq (tVar 0) (tC (.str ""))))) (tRaiseC A.text E) tNext)
    (tSeq (tIfS (tTest (tOp rEq (tVar 0) (tC (.str "0")))) (tRet (tLst tNil)) tNext)
    (tSeq (tIfS (tTest (tOp rEq (tOp rIxS (tVar 0) (tC (.int 0))) (tC (.str "0")))) (tRaiseC A.text E) tNext)
    (tRet (tLc (iBack (tVar 0)) (gName 1) tYes (tCall (sp_thing_of K A) [] E (tCons (tVar 1) tNil)) [1])))))
theorem str_first {x : Str} (h : x ≠ "") : ∃ c, x.cps.toList[0]? = some c := by
  rcases e : x.cps.toList with _ | ⟨c, r⟩
  · exfalso
    apply h
    rw [s_empty]
    obtain ⟨a⟩ := x
    congr 1
    exact Array.toList_eq_nil_iff.mp e
  · exact ⟨c, rfl⟩
theorem at_first {l : List Nat} {c : Nat} (h : l[0]? = some c) : atI l 0 = some c := by
  obtain ⟨lt, _⟩ := List.getElem?_eq_some_iff.mp h
  unfold atI ixN
  rw [if_pos (by omega), if_pos (by omega)]
  exact h
theorem r_read (h : sp_read K A vs H Q E) : t_read K A E (D0 Q) (start ["text", "sign"] vs) H := by
  obtain ⟨v, d, rfl, hd, k1, k2⟩ := h
  cases ty : (tyD d == "str") with
  | false =>
    refine q_when (b := true) (et_is (et_or (b := true) (et_not (et_B (ev_isStr (ev_var rfl) hd))) fun z => by rw [ty] at z; cases z) (by rw [ty]; rfl)) (fun _ H1 e1 => k2 ty H1 e1) fun z => by cases z
  | true =>
    obtain ⟨x, rfl⟩ : ∃ x, d = .str x := by
      cases d with
      | str x => exact ⟨x, rfl⟩
      | _ => simp [tyD] at ty
    cases th_str_is hd
    obtain ⟨hx, ks, kn⟩ := k1 x rfl
    refine q_when (et_is (et_or (et_not (et_B (ev_isStr (ev_var rfl) hd))) fun _ => et_test (ev_op (ev_var rfl) ev_c (rv_eq rfl))) (b := decide (x = "")) (by rw [str_eq]; rfl)) (fun hb H1 e1 => ?_) (fun hb H1 e1 => ?_)
    · have z := of_decide_eq_true hb
      exact kn (by
        subst z
        decide +kernel) H1 e1
    have ne := of_decide_eq_false hb
    refine q_when (et_is (et_test (ev_op (ev_var rfl) ev_c (rv_eq rfl))) str_eq) (fun hb H2 e2 => ?_) (fun hb H2 e2 => ?_)
    · have z := of_decide_eq_true hb
      refine s_retL (xs := []) (el_lst ea_nil (by decide)) (RetL.mono (ks [] ?_) (e1.trans e2))
      unfold readOf
      rw [if_pos z]
    have ne0 := of_decide_eq_false hb
    obtain ⟨c, hc⟩ := str_first ne
    refine q_when (et_is (b := decide (c = 48)) (et_test (ev_op (ev_op (ev_var rfl) ev_c (rv_ixS (by omega) (at_first hc))) ev_c (rv_eq rfl))) (by rw [s_nought]; exact sgn_eq)) (fun hb H3 e3 => ?_) (fun hb H3 e3 => ?_)
    · have z := of_decide_eq_true hb
      refine kn ?_ H3 ((e1.trans e2).trans e3)
      unfold readOf
      rw [if_neg ne0, if_neg ne, hc, z, if_pos rfl]
    have nc := of_decide_eq_false hb
    have rd : readOf x = if x.cps.toList.all okC = true then some (x.cps.toList.reverse.map tvC) else none := by
      unfold readOf
      rw [if_neg ne0, if_neg ne, hc, if_neg (fun z => nc (Option.some.inj z))]
    refine lc_back (ok := okC) (g := fun c => V.int (tvC c)) (ev_var rfl) hx (fun _ => rfl) (fun c H4 _ ok => ev_thing_of (ev_var rfl) ok) (fun c H4 e4 hm no => ?_) H3 (Ex.refl _) _ fun al p H4 hp e4 hl => ?_
    · refine er_thing_of (ev_var rfl) no (kn ?_ |>.mono (((e1.trans e2).trans e3).trans e4))
      rw [rd, if_neg fun z => ?_]
      have := List.all_eq_true.mp z c hm
      rw [no] at this
      cases this
    · rw [if_pos al] at rd
      refine ks _ rd p H4 (fresh_back ((e1.trans e2).trans e3) hp) (((e1.trans e2).trans e3).trans e4) ?_
      rw [List.map_map]
      exact hl
end
end Fw

namespace Fw
open PySem PySem.Spec PyProof.Rows L2 Evl
section
variable {K : PySem.W.Frag} {A : Ad} {vs : List V} {H H' : Hp} {Q : VK} {E : XK} {σ : L2.St} {te tx ta tb tl : TE} {D : Ends} {tu tz : TS} {g : TG}
/-! _law_things -/
def ThingsL (ts : List Int) : Prop := Few.Lay ts ∧ ts.length ≤ 400
def sp_l_things (K : PySem.W.Frag) (A : Ad) : Sp := fun vs H Q _ => ∃ v ns, vs = [v] ∧ IL K ns v H ∧ ns.length ≤ 63 ∧ RetN ThingsL H Q
def t_l_things (K : PySem.W.Frag) (A : Ad) : TS :=
  (tSeq (tAsg (tLc (iList K (tSl (rSlL K) (tVar 0) (tPart (tC (.int 5))) (tPart (tC (.int 89))))) (gName 1) tYes (tOp rSubI (tOp rModI (tVar 1) (tC (.int 3))) (tC (.int 1))) [1]) (gName 2))
    (tSeq (tAsg (tCall (sp_l_cell_at K A) [] E0 (tCons (tVar 0) (tCons (tC (.int 3)) tNil))) (gName 1))
    (tRet (tOp rCat (tOp rRep (tVar 2) (tOp rAddI (tC (.int 1)) (tOp rModI (tVar 1) (tC (.int 4))))) (tOp rRep (tLst (tCons (tC (.int 0)) tNil)) (tOp rModI (tOp rDivI (tVar 1) (tC (.int 4))) (tC (.int 4))))))))
theorem r_l_things (h : sp_l_things K A vs H Q E) : t_l_things K A (D0 Q) (start ["_law_script", "_law_cell", "_law_row"] vs) H := by
  obtain ⟨v, ns, rfl, hv, hz, k⟩ := h
  obtain ⟨ms, hms, hsl⟩ := el_part (K := K) (te := tVar 0) (σ := [some v, none, none]) (x_ilv rfl hv) (ev_c (v := .int 5)) (ev_c (v := .int 89))
  have em : ms.map (fun c => V.int (c % 3 - 1)) = (ms.map fun c => c % 3 - 1).map V.int := by rw [List.map_map]; rfl
  have rl : Few.Lay (ms.map fun c => c % 3 - 1) := fun x hx => by
    obtain ⟨c, _, rfl⟩ := List.mem_map.mp hx
    unfold Few.Pm
    omega
  have rz : (ms.map fun c => c % 3 - 1).length ≤ 63 := by
    rw [List.length_map]
    omega
  refine q_asgL (xs := (ms.map fun c => c % 3 - 1).map V.int) (by
    rw [← em]
    exact el_lcI0 (ns := ms) (fun c => V.int (c % 3 - 1)) (x_ilL hsl) (by omega) (fun _ => rfl) (fun n H1 _ _ => ev_op (ev_op (ev_var rfl) ev_c (rv_mod (by decide))) ev_c rv_I0)) fun p H1 hp e1 hx => ?_
  generalize (ms.map fun c => c % 3 - 1) = row at rl rz hx
  have hv1 := mono_il _ _ _ e1 hv
  refine q_asg (ev_cell (k := 3) (x_ilv rfl hv1) ev_c rfl) fun H2 e2 => ?_
  generalize cellAt ns 3 = c
  have hx2 := e2 _ _ hx
  have m1 : (List.replicate (1 + c % 4).toNat row).flatten.length ≤ 252 := by
    rw [rep_len]
    have : (1 + c % 4).toNat ≤ 4 := by omega
    calc (1 + c % 4).toNat * row.length ≤ 4 * 63 := Nat.mul_le_mul this rz
      _ ≤ 252 := by decide
  have m2 : row.length * (1 + c % 4).toNat ≤ 252 := by
    rw [rep_len] at m1
    rw [Nat.mul_comm]
    exact m1
  refine s_retL (xs := ((List.replicate (1 + c % 4).toNat row).flatten ++ List.replicate (c / 4 % 4).toNat (0 : Int)).map V.int) (by
    rw [List.map_append, ← rep_map]
    exact el_catX (x_mlL (el_repX (x_ml (ev_var rfl) hx2) (ev_op ev_c (ev_op (ev_var rfl) ev_c (rv_mod (by decide))) rv_I0) ⟨by omega, by omega⟩ (by rw [List.length_map]; omega))) (x_mlL (el_zeros (ev_op (ev_op (ev_var rfl) ev_c (rv_div ⟨by decide, by decide⟩)) ev_c (rv_mod (by decide))) ⟨by omega, by omega⟩)) (by rw [rep_map, List.length_map, List.length_map, List.length_replicate]; omega)) fun q H3 hq e3 hy => k q H3 _ (fresh_back (e1.trans e2) hq) ((e1.trans e2).trans e3) hy ⟨Few.lay_append (fun x hx => rl x (mem_rep hx)) (Few.lay_zeros _), by rw [List.length_append, List.length_replicate]; omega⟩
theorem en_things {ns : List Int} (h : EvX te σ H (IL K ns)) (hz : ns.length ≤ 63) : EvN (tCall (sp_l_things K A) [] E (tCons te tNil)) σ H ThingsL :=
  en_call1 h fun x H1 e1 hx Q q => ⟨x, ns, rfl, hx, hz, q⟩
/-! _law_ended, by slices -/
def sp_l_endedT (K : PySem.W.Frag) (A : Ad) : Sp := fun vs H Q _ => ∃ v ns, vs = [v] ∧ IL K ns v H ∧ ns.length ≤ 100000 ∧ RetL ((Few.ended ns).map V.int) H Q
def t_l_endedT (K : PySem.W.Frag) (A : Ad) : TS :=
  (tSeq (tAsg (tLst tNil) (gName 1))
    (tSeq (tFor (iRng1 (tCons (tCB (Evl.rLenS K) (tCons (tVar 0) tNil)) tNil)) (gName 2) (tIfS (tTest (tOp rNe (tOp (rIxL K) (tVar 0) (tVar 2)) (tC (.int 0)))) (tAsg (tSl (rSlL K) (tVar 0) tNoPart (tPart (tOp rAddI (tVar 2) (tC (.int 1))))) (gName 1)) tNext))
    (tRet (tVar 1))))
theorem r_l_endedT (h : sp_l_endedT K A vs H Q E) : t_l_endedT K A (D0 Q) (start ["_law_things_here", "_law_found", "_law_k"] vs) H := by
  obtain ⟨v, ns, rfl, hv, hz, k⟩ := h
  refine q_asgL (xs := []) (el_lst ea_nil (by decide)) fun p0 H1 hp0 e1 hx0 => ?_
  have hv1 := mono_il _ _ _ e1 hv
  refine s_forR1 (D := { D0 Q with nx := (tRet (tVar 1)) (D0 Q) }) (n := (ns.length : Int)) (ea_cons (ev_lenX (x_ilv rfl hv1)) ea_nil) ⟨by omega, by omega⟩
    (fun i σ' H' => ∃ p u, σ' = [some v, some (.ref p), u] ∧ H p = none ∧ Ex H H' ∧ H' p = some (.lst ((Few.ended (ns.take i)).map V.int))) (fun H2 e2 => ⟨p0, none, rfl, hp0, e1.trans e2, e2 _ _ hx0⟩) ?_ ?_
  · rintro i σ' H2 hi ⟨p, u, rfl, hp, e2, hx⟩
    have hi' : i < ns.length := by omega
    have gt : ns[i]? = some ns[i] := List.getElem?_eq_getElem hi'
    have hv2 := mono_il _ _ _ e2 hv
    have tk : ns.take (i + 1) = ns.take i ++ [ns[i]] := by
      rw [List.take_add_one, gt]
      rfl
    refine s_when (et_is (et_test (ev_op (ev_ix (x_ilv rfl hv2) (ev_var rfl) rfl gt) ev_c (rv_ne rfl))) ne_zero) (fun hb H4 e4 => ?_) (fun hb H4 e4 => ?_)
    · have nz : ns[i] ≠ 0 := by simpa using hb
      refine s_asgL (el_to (n := i + 1) (x_ilv rfl (mono_il _ _ _ e4 hv2)) (ev_op (ev_var rfl) ev_c rv_I0) (by omega)) fun q H5 hq e5 hy => ⟨q, _, rfl, fresh_back (e2.trans e4) hq, (e2.trans e4).trans e5, ?_⟩
      rw [tk, Few.ended_snoc _ nz, ← tk]
      exact hy
    · have nz : ns[i] = 0 := by simpa using hb
      refine ⟨p, _, rfl, hp, e2.trans e4, ?_⟩
      rw [tk, nz, Few.ended_snoc0]
      exact e4 _ _ hx
  · rintro σ' H2 ⟨p, u, rfl, hp, e2, hx⟩
    rw [Int.toNat_natCast, List.take_length] at hx
    exact s_ret (ev_var rfl) fun H3 e3 => k p H3 hp (e2.trans e3) (e3 _ _ hx)
theorem el_l_endedT {ns : List Int} (h : EvX te σ H (IL K ns)) (hz : ns.length ≤ 100000) : EvL (tCall (sp_l_endedT K A) [] E (tCons te tNil)) σ H ((Few.ended ns).map V.int) :=
  el_call1 h fun x H1 e1 hx Q q => ⟨x, ns, rfl, hx, hz, fun p H' hp e hx => q p H' hp e hx⟩
/-! _law_shown -/
theorem three_at {n : Int} (h : Few.Pm n) : atI ("-0+" : Str).cps.toList (n + 1) = some (scI n) := by
  rw [s_three]
  rcases h with rfl | rfl | rfl <;> decide
def sp_l_shown (K : PySem.W.Frag) (A : Ad) : Sp := fun vs H Q _ => ∃ v ns, vs = [v] ∧ IL K ns v H ∧ Few.Lay ns ∧ ns.length ≤ 40000 ∧ RetV (.str (shownOf ns)) H Q
def t_l_shown (K : PySem.W.Frag) (A : Ad) : TS :=
  (tSeq (tAsg (tC (.str "")) (gName 1))
    (tSeq (tFor (iList K (tVar 0)) (gName 2) (tAsg (tOp rAddS2 (tOp rIxS (tC (.str "-0+")) (tOp rAddI (tVar 2) (tC (.int 1)))) (tVar 1)) (gName 1)))
    (tSeq (tAsg (tM1 rLstrip (tVar 1) (tC (.str "0"))) (gName 1))
    (tSeq (tIfS (tTest (tOp rEq (tVar 1) (tC (.str "")))) (tRet (tC (.str "0"))) tNext)
    (tRet (tVar 1))))))
theorem txt_len (l : List Int) : (txt l).length = l.length := by
  show ((l.map scI).toArray).size = l.length
  simp
theorem r_l_shown (h : sp_l_shown K A vs H Q E) : t_l_shown K A (D0 Q) (start ["_law_things_here", "_law_found", "_law_thing"] vs) H := by
  obtain ⟨v, ns, rfl, hv, hl, hz, k⟩ := h
  refine q_asg ev_c fun H1 e1 => ?_
  have hv1 := mono_il _ _ _ e1 hv
  refine q_forP (xs := ns.map V.int) (x_vlI (x_ilv rfl hv1)) (fun i σ' => ∃ u, σ' = [some v, some (.str (txt (ns.take i).reverse)), u]) ⟨none, by rw [s_empty]; rfl⟩ ?_ ?_
  · rintro H2 i x σ' H3 e2 e3 hx ⟨u, rfl⟩
    obtain ⟨n, hn, rfl⟩ := of_map hx
    have pn := hl n (List.mem_of_getElem? hn)
    have tk : ns.take (i + 1) = ns.take i ++ [n] := take_snoc hn
    have tl : (ns.take i).length ≤ 40000 := by
      rw [List.length_take]
      omega
    refine s_asg (v := .str (⟨#[scI n]⟩ ++ txt (ns.take i).reverse)) (ev_addS (ev_op ev_c (ev_op (ev_var rfl) ev_c rv_I0) (rv_ixS (by decide +kernel) (three_at pn))) (ev_var rfl) (by rw [txt_len, List.length_reverse]; show 1 + _ ≤ 100000; omega)) fun H4 e4 => ⟨⟨some (.int n), ?_⟩, e3.trans e4⟩
    rw [tk]
    have : (⟨#[scI n]⟩ : Str) ++ txt (ns.take i).reverse = txt (ns.take i ++ [n]).reverse := by
      show Str.mk (#[scI n] ++ _) = _
      simp [txt]
    rw [this]
    rfl
  · rintro σ' H2 e2 ⟨u, rfl⟩
    rw [len_mapI, List.take_length]
    refine q_asg (ev_lstrip (ev_var rfl) ev_c (by rw [txt_len, List.length_reverse]; omega)) fun H3 e3 => ?_
    rw [lstrip_txt (fun n hn => hl n (List.mem_reverse.mp hn)), List.reverse_reverse]
    rw [shown_txt] at k
    refine q_when (et_is (b := decide (Few.ended ns = [])) (et_test (ev_op (ev_var rfl) ev_c (rv_eq rfl))) ?_) (fun hb H4 e4 => ?_) (fun hb H4 e4 => ?_)
    · rw [str_eq, s_empty, Bool.eq_iff_iff, decide_eq_true_iff, decide_eq_true_iff]
      constructor
      · intro z
        have := congrArg (fun s : Str => s.cps.toList) z
        simpa [txt] using this
      · intro z
        rw [z]
        rfl
    · rw [if_pos (of_decide_eq_true hb)] at k
      exact s_retV ev_c (k.mono (((e1.trans e2).trans e3).trans e4))
    · rw [if_neg (of_decide_eq_false hb)] at k
      exact s_retV (ev_var rfl) (k.mono (((e1.trans e2).trans e3).trans e4))
theorem ev_l_shown {ns : List Int} (h : EvX te σ H (IL K ns)) (hl : Few.Lay ns) (hz : ns.length ≤ 40000) : Ev (tCall (sp_l_shown K A) [] E (tCons te tNil)) σ H (.str (shownOf ns)) :=
  ev_call1 h fun x H1 e1 hx Q q => ⟨x, ns, rfl, hx, hl, hz, fun H' e => q H' e⟩
/-! _law_laying_of -/
theorem for_signs {x : Str} {σ : L2.St} (Pv : Nat → L2.St → Hp → Prop) (h0 : Pv 0 σ H)
    (hs : ∀ i c σ H, x.cps.toList[i]? = some c → Pv i σ H → g (.str ⟨#[c]⟩) σ H fun σ2 H2 => tu { D with nx := Pv (i + 1), ct := Pv (i + 1), bk := D.nx } σ2 H2) (hd : ∀ σ H, Pv x.length σ H → D.nx σ H) :
    ∃ W : Nat → Nat → L2.St → Hp → Prop, (∃ m, W 0 m σ H) ∧ ∀ i m σ H, W i m σ H → ((Its x).stop i H ∧ D.nx σ H) ∨ ((Its x).go i H ∧ ∃ Nx : L2.St → Hp → Prop, (∀ σ' H', Nx σ' H' → ∃ m', m' < m ∧ W (i + 1) m' σ' H') ∧
      ∀ v H', (Its x).yld i H v H' → g v σ H' fun σ2 H2 => tu { D with nx := Nx, ct := Nx, bk := D.nx } σ2 H2) := by
  refine ⟨fun i m σ H => m = x.length - i ∧ i ≤ x.length ∧ Pv i σ H, ⟨x.length, rfl, Nat.zero_le _, h0⟩, ?_⟩
  rintro i m σ H ⟨rfl, hi, p⟩
  by_cases lt : i < x.length
  · refine .inr ⟨lt, Pv (i + 1), fun σ' H' p' => ⟨x.length - (i + 1), by omega, rfl, lt, p'⟩, fun v H' y => ?_⟩
    obtain ⟨e, c, hc, ev⟩ := y
    subst e ev
    exact hs i c σ _ (by rw [Array.getElem?_toList]; exact hc) p
  · have e : i = x.length := by omega
    subst e
    exact .inl ⟨Nat.le_refl _, hd σ H p⟩
theorem q_forS {x : Str} (h : Ev tl σ H (.str x)) (Pv : Nat → L2.St → Hp → Prop) (h0 : ∀ H1, Ex H H1 → Pv 0 σ H1)
    (hs : ∀ i c σ H, x.cps.toList[i]? = some c → Pv i σ H → g (.str ⟨#[c]⟩) σ H fun σ2 H2 => tu { D with nx := Pv (i + 1), ct := Pv (i + 1), bk := tz D } σ2 H2) (hd : ∀ σ H, Pv x.length σ H → tz D σ H) : tSeq (tFor (iStr tl) g tu) tz D σ H :=
  h H (Ex.refl H) _ fun H1 e1 => ⟨x, rfl, for_signs (D := { D with nx := tz D }) Pv (h0 H1 e1) hs hd⟩
theorem find_three {c : Nat} (h : okC c = true) : Txt.find "-0+" ⟨#[c]⟩ - 1 = tvC c := by
  rw [s_three]
  unfold okC at h
  simp only [Bool.or_eq_true, decide_eq_true_eq] at h
  rcases h with rfl | rfl | rfl <;> decide +kernel
theorem in_three (c : Nat) : (!decide (c ∈ ("-0+" : Str).cps.toList)) = !okC c := by
  rw [s_three]
  unfold okC
  congr 1
  rw [Bool.eq_iff_iff]
  simp
  omega
def sp_l_laying_of (K : PySem.W.Frag) (A : Ad) : Sp := fun vs H Q _ => ∃ x : Str, vs = [.str x] ∧ x.length ≤ 40000 ∧ (∀ ms, readOf x = some ms → RetL (ms.map V.int) H Q) ∧ (readOf x = none → RetV .non H Q)
def t_l_laying_of (K : PySem.W.Frag) (A : Ad) : TS :=
  (tSeq (tIfS (tTest (tOp rEq (tVar 0) (tC (.str "0")))) (tRet (tLst tNil)) tNext)
    (tSeq (tIfS (tOr (tTest (tOp rEq (tVar 0) (tC (.str "")))) (tTest (tOp rEq (tOp rIxS (tVar 0) (tC (.int 0))) (tC (.str "0"))))) (tRet (tC .non)) tNext)
    (tSeq (tAsg (tLst tNil) (gName 1))
    (tSeq (tFor (iStr (tVar 0)) (gName 2) (tSeq (tIfS (tTest (tOp rNotInSg (tVar 2) (tC (.str "-0+")))) (tRet (tC .non)) tNext)
    (tDrop (tBM K "list" rAppend (tVar 1) (tCons (tOp rSubI (tM1 rFind (tC (.str "-0+")) (tVar 2)) (tC (.int 1))) tNil)))))
    (tRet (tRevL K (tVar 1)))))))
theorem r_l_laying_of (h : sp_l_laying_of K A vs H Q E) : t_l_laying_of K A (D0 Q) (start ["_law_line_here", "_law_found", "_law_sign"] vs) H := by
  obtain ⟨x, rfl, hz, k1, k2⟩ := h
  refine q_when (et_is (et_test (ev_op (ev_var rfl) ev_c (rv_eq rfl))) str_eq) (fun hb H1 e1 => ?_) (fun hb H1 e1 => ?_)
  · have z := of_decide_eq_true hb
    refine s_retL (xs := []) (el_lst ea_nil (by decide)) (RetL.mono (k1 [] ?_) e1)
    unfold readOf
    rw [if_pos z]
  have ne0 := of_decide_eq_false hb
  by_cases ne : x = ""
  · refine q_when (b := true) (et_is (et_or (b := true) (et_is (et_test (ev_op (ev_var rfl) ev_c (rv_eq rfl))) str_eq) fun z => absurd ne (of_decide_eq_false z)) (by rw [decide_eq_true ne]; rfl)) (fun _ H2 e2 => s_retV ev_c ((k2 ?_).mono (e1.trans e2))) (fun z => by cases z)
    unfold readOf
    rw [if_neg ne0, if_pos ne]
  obtain ⟨c, hc⟩ := str_first ne
  refine q_when (et_is (b := decide (c = 48)) (et_or (et_is (et_test (ev_op (ev_var rfl) ev_c (rv_eq rfl))) str_eq) fun _ => et_is (b := decide (c = 48)) (et_test (ev_op (ev_op (ev_var rfl) ev_c (rv_ixS (by omega) (at_first hc))) ev_c (rv_eq rfl))) (by rw [s_nought]; exact sgn_eq)) (by rw [decide_eq_false ne]; rfl)) (fun hb H2 e2 => ?_) (fun hb H2 e2 => ?_)
  · have z := of_decide_eq_true hb
    refine s_retV ev_c ((k2 ?_).mono (e1.trans e2))
    unfold readOf
    rw [if_neg ne0, if_neg ne, hc, z, if_pos rfl]
  have nc := of_decide_eq_false hb
  have rd : readOf x = if x.cps.toList.all okC = true then some (x.cps.toList.reverse.map tvC) else none := by
    unfold readOf
    rw [if_neg ne0, if_neg ne, hc, if_neg (fun z => nc (Option.some.inj z))]
  refine q_asgL (xs := []) (el_lst ea_nil (by decide)) fun p H3 hp e3 hx => ?_
  have e02 := e1.trans e2
  have hp0 := fresh_back e02 hp
  have ll : x.cps.toList.length = x.length := Array.length_toList
  refine q_forS (x := x) (ev_var rfl) (fun i σ' H' => ∃ u, σ' = [some (.str x), some (.ref p), u] ∧ (∀ c ∈ x.cps.toList.take i, okC c = true) ∧ Ex H H' ∧ H' p = some (.lst (((x.cps.toList.take i).map tvC).map V.int))) (fun H4 e4 => ⟨none, rfl, fun c hc => (by simp at hc), (e02.trans e3).trans e4, e4 _ _ hx⟩) ?_ ?_
  · rintro i c σ' H5 hc ⟨u, rfl, al, e5, hl⟩
    have lt : i < x.length := by
      rw [← ll]
      exact (List.getElem?_eq_some_iff.mp hc).1
    refine q_when (et_is (b := !okC c) (et_test (ev_op (ev_var rfl) ev_c fun H6 _ Q q => ⟨c, "-0+", rfl, rfl, q H6 (Ex.refl H6)⟩)) (in_three c)) (fun hb H6 e6 => ?_) (fun hb H6 e6 => ?_)
    · refine s_retV ev_c ((k2 ?_).mono (e5.trans e6))
      rw [rd, if_neg fun z => ?_]
      have := List.all_eq_true.mp z c (List.mem_of_getElem? hc)
      rw [this] at hb
      cases hb
    · have ok : okC c = true := by simpa using hb
      refine s_app (e6 _ _ hl) (ev_var rfl) (v := .int (tvC c)) (ev_is (ev_op (ev_find ev_c (ev_var rfl)) ev_c rv_I0) (by rw [find_three ok])) (by rw [List.length_map, List.length_map, List.length_take]; omega) fun H7 e7 => ?_
      refine ⟨_, rfl, fun d hd => ?_, ((e5.trans e6).trans e7).mut hp0, ?_⟩
      · rw [take_snoc hc] at hd
        rcases List.mem_append.mp hd with z | z
        · exact al d z
        · rw [List.mem_singleton.mp z]
          exact ok
      · rw [upd_same, take_snoc hc, List.map_append, List.map_append]
        rfl
  · rintro σ' H5 ⟨u, rfl, al, e5, hl⟩
    rw [← ll, List.take_length] at al hl
    rw [if_pos (List.all_eq_true.mpr al)] at rd
    refine s_retL (x_revL (K := K) (x_ilv (ns := x.cps.toList.map tvC) rfl ⟨p, rfl, sq_of hl⟩)) fun q H6 hq e6 hy => k1 _ rd q H6 (fresh_back e5 hq) (e5.trans e6) ?_
    rw [List.map_reverse]
    exact hy
theorem read_len {x : Str} {ms : List Int} (h : readOf x = some ms) : ms.length ≤ x.length := by
  have ll : x.cps.toList.length = x.length := Array.length_toList
  unfold readOf at h
  split at h
  · cases h
    exact Nat.zero_le _
  · split at h
    · cases h
    · split at h
      · cases h
      · split at h
        · cases h
          rw [List.length_map, List.length_reverse, ll]
          exact Nat.le_refl _
        · cases h
theorem el_l_laying_of {x : Str} {ms : List Int} (h : Ev te σ H (.str x)) (hz : x.length ≤ 40000) (rd : readOf x = some ms) : EvL (tCall (sp_l_laying_of K A) [] E (tCons te tNil)) σ H (ms.map V.int) :=
  el_call1 (x_v h) fun u H1 e1 hu Q q => ⟨x, by rw [show u = V.str x from hu], hz, fun ns z => (by rw [rd] at z; cases z; exact fun p H' hp e hx => q p H' hp e hx), fun z => by rw [rd] at z; cases z⟩
theorem ev_l_laying_of {x : Str} (h : Ev te σ H (.str x)) (hz : x.length ≤ 40000) (rd : readOf x = none) : Ev (tCall (sp_l_laying_of K A) [] E (tCons te tNil)) σ H .non :=
  ev_call1 (x_v h) fun u H1 e1 hu Q q => ⟨x, by rw [show u = V.str x from hu], hz, fun ns z => (by rw [rd] at z; cases z), fun _ H' e => q H' e⟩
theorem el_read {x : Str} {ms : List Int} (h : Ev te σ H (.str x)) (hz : x.length ≤ 40000) (rd : readOf x = some ms) : EvL (tCall (sp_read K A) [] E (tCons te tNil)) σ H (ms.map V.int) :=
  el_call1 (x_v h) fun u H1 e1 hu Q q => ⟨.str x, .str x, by rw [show u = V.str x from hu], th_str x, fun y ey => (by
    cases ey
    exact ⟨hz, fun ns z => (by rw [rd] at z; cases z; exact fun p H' hp e hx => q p H' hp e hx), fun z => by rw [rd] at z; cases z⟩), fun z => by cases z⟩
/-! _law_same, of two that are alike -/
def sp_l_same (K : PySem.W.Frag) (A : Ad) : Sp := fun vs H Q _ => ∃ v w xs, vs = [v, w] ∧ IL K xs v H ∧ IL K xs w H ∧ xs.length ≤ 100000 ∧ RetV (.bl true) H Q
def t_l_same (K : PySem.W.Frag) (A : Ad) : TS :=
  (tSeq (tIfS (tOr (tNot (tB (tCB (rIsi K) (tCons (tVar 0) (tCons (tC (.ty "list")) tNil))))) (tTest (tOp rNe (tCB (Evl.rLenS K) (tCons (tVar 0) tNil)) (tCB (Evl.rLenS K) (tCons (tVar 1) tNil))))) (tRet (tC (.bl false))) tNext)
    (tSeq (tFor (iRng1 (tCons (tCB (Evl.rLenS K) (tCons (tVar 1) tNil)) tNil)) (gName 2) (tIfS (tOr (tNot (tB (tCall (sp_l_whole K A) [] E0 (tCons (tOp (rIxL K) (tVar 0) (tVar 2)) tNil)))) (tTest (tOp rNe (tOp (rIxL K) (tVar 0) (tVar 2)) (tOp (rIxL K) (tVar 1) (tVar 2))))) (tRet (tC (.bl false))) tNext))
    (tRet (tC (.bl true)))))
theorem r_l_same (h : sp_l_same K A vs H Q E) : t_l_same K A (D0 Q) (start ["_law_found", "_law_due", "_law_k"] vs) H := by
  obtain ⟨v, w, xs, rfl, hv, hw, hz, k⟩ := h
  refine q_skip (et_or (et_not (et_B (ev_isList (ev_var rfl) (il_th hv)))) fun _ => et_test (ev_op (ev_lenX (x_ilv rfl hv)) (ev_lenX (x_ilv rfl hw)) (rv_ne rfl))) (by rw [decide_eq_true rfl]; rfl) fun H1 e1 => ?_
  have hv1 := mono_il _ _ _ e1 hv
  have hw1 := mono_il _ _ _ e1 hw
  refine q_forRgP (n := (xs.length : Int)) (ea_cons (ev_lenX (x_ilv rfl hw1)) ea_nil) ⟨by omega, by omega⟩ (fun i σ' => ∃ u, σ' = [some v, some w, u]) ⟨none, rfl⟩ ?_ ?_
  · rintro H2 i σ' H3 e2 e3 hi ⟨u, rfl⟩
    have hi' : i < xs.length := by omega
    have gt : xs[i]? = some xs[i] := List.getElem?_eq_getElem hi'
    have hv3 := mono_il _ _ _ (e2.trans e3) hv1
    have hw3 := mono_il _ _ _ (e2.trans e3) hw1
    exact s_when (et_is (b := false) (et_or (et_not (et_B (ev_l_whole (ev_ix (x_ilv rfl hv3) (ev_var rfl) rfl gt)))) fun _ => et_test (ev_op (ev_ix (x_ilv rfl hv3) (ev_var rfl) rfl gt) (ev_ix (x_ilv rfl hw3) (ev_var rfl) rfl gt) (rv_ne rfl))) (by rw [decide_eq_true rfl]; rfl)) (fun hb => by cases hb) (fun _ H4 e4 => ⟨⟨_, rfl⟩, e3.trans e4⟩)
  · rintro σ' H2 e2 ⟨u, rfl⟩
    exact s_retV ev_c (k.mono (e1.trans e2))
theorem ev_same {xs : List Int} (h : EvX te σ H (IL K xs)) (h2 : EvX tx σ H (IL K xs)) (hz : xs.length ≤ 100000) : Ev (tCall (sp_l_same K A) [] E (tCons te (tCons tx tNil))) σ H (.bl true) :=
  ev_call2 h mono_il h2 fun x y H1 e1 hx hy Q q => ⟨x, y, xs, rfl, hx, hy, hz, fun H' e => q H' e⟩
/-! texts of which but the length is known -/
def StrN (n : Nat) : V → Hp → Prop := fun v _ => ∃ w : Str, v = .str w ∧ w.length ≤ n
theorem mono_sn {n : Nat} : Mono (StrN n) := fun _ _ _ _ p => p
theorem xs_ev {n : Nat} {w : Str} (h : Ev te σ H (.str w)) (hz : w.length ≤ n) : EvX te σ H (StrN n) := x_of h mono_sn ⟨w, rfl, hz⟩
theorem xs_add {n m : Nat} (h : EvX te σ H (StrN n)) (h2 : EvX tx σ H (StrN m)) (hz : n + m ≤ 100000) : EvX (tOp rAddS2 te tx) σ H (StrN (n + m)) := fun H1 e Q q =>
  h H1 e _ fun v H2 e2 ⟨w, ev, hw⟩ => h2 H2 (e.trans e2) _ fun u H3 e3 ⟨z, eu, hu⟩ => by
    subst ev eu
    refine ⟨w, z, rfl, rfl, sz_of (by omega), q _ H3 (e2.trans e3) ⟨w ++ z, rfl, ?_⟩⟩
    show (w.cps ++ z.cps).size ≤ n + m
    rw [Array.size_append]
    exact Nat.add_le_add hw hu
theorem xs_to {n : Nat} {i : Int} (h : EvX te σ H (StrN n)) (hb : Ev tb σ H (.int i)) (hz : n ≤ 100000) : EvX (tSl rSlS te tNoPart (tPart tb)) σ H (StrN n) := fun H1 e Q q =>
  h H1 e _ fun v H2 e2 ⟨w, ev, hw⟩ => (eo_none (σ := σ) (H := H)) H2 (e.trans e2) _ fun H3 e3 => (eo_some hb) H3 ((e.trans e2).trans e3) _ fun H4 e4 =>
    ⟨w, ev, sz_of (by omega), q _ H4 ((e2.trans e3).trans e4) ⟨_, rfl, Nat.le_trans (cutS_length w _ _) hw⟩⟩
theorem xs_from {n : Nat} {i : Int} (h : EvX te σ H (StrN n)) (hb : Ev tb σ H (.int i)) (hz : n ≤ 100000) : EvX (tSl rSlS te (tPart tb) tNoPart) σ H (StrN n) := fun H1 e Q q =>
  h H1 e _ fun v H2 e2 ⟨w, ev, hw⟩ => (eo_some hb) H2 (e.trans e2) _ fun H3 e3 => (eo_none (σ := σ) (H := H)) H3 ((e.trans e2).trans e3) _ fun H4 e4 =>
    ⟨w, ev, sz_of (by omega), q _ H4 ((e2.trans e3).trans e4) ⟨_, rfl, Nat.le_trans (cutS_length w _ _) hw⟩⟩
theorem xs_rep {n : Nat} {k : Int} (h : EvX te σ H (StrN n)) (hb : Ev tb σ H (.int k)) (hk : 1 ≤ k ∧ k ≤ 8) (hz : n ≤ 10000) : EvX (tOp rRepS te tb) σ H (StrN (8 * n)) := fun H1 e Q q =>
  h H1 e _ fun v H2 e2 ⟨w, ev, hw⟩ => hb H2 (e.trans e2) _ fun H3 e3 => ⟨w, k, ev, rfl, hk.1, hk.2, by omega, fun z hl => q _ H3 (e2.trans e3) ⟨z, rfl, by omega⟩⟩
theorem at_nat {l : List Nat} {i : Int} {j c : Nat} (hi : i = (j : Int)) (h : l[j]? = some c) : atI l i = some c := by
  obtain ⟨lt, _⟩ := List.getElem?_eq_some_iff.mp h
  subst hi
  unfold atI ixN
  rw [if_pos (by omega), if_pos (by omega)]
  exact h
/-! _law_sign_by -/
def sp_l_sign_by (K : PySem.W.Frag) (A : Ad) : Sp := fun vs H Q _ => ∃ c : Int, vs = [.int c] ∧ RetP (StrN 1) H Q
def t_l_sign_by (K : PySem.W.Frag) (A : Ad) : TS :=
  (tSeq (tAsg (tC (.str " !\"#$&'()*+,-./0123456789:;<=>?@ABCDEFGHIJKLMNOPQRSTUVWXYZ[\\]^_`")) (gName 1))
    (tSeq (tAsg (tOp rAddS2 (tVar 1) (tC (.str "abcdefghijklmnopqrstuvwxyz{|}~\n\t"))) (gName 1))
    (tRet (tOp rIxS (tVar 1) (tOp rModI (tVar 0) (tC (.int 96)))))))
theorem r_l_sign_by (h : sp_l_sign_by K A vs H Q E) : t_l_sign_by K A (D0 Q) (start ["_law_cell", "_law_some"] vs) H := by
  obtain ⟨c, rfl, k⟩ := h
  refine q_asg ev_c fun H1 e1 => ?_
  refine q_asg (ev_addS (ev_var rfl) ev_c (by decide +kernel)) fun H2 e2 => ?_
  generalize hw : (Str.ofString " !\"#$&'()*+,-./0123456789:;<=>?@ABCDEFGHIJKLMNOPQRSTUVWXYZ[\\]^_`" ++ Str.ofString "abcdefghijklmnopqrstuvwxyz{|}~\n\t") = w
  have hl : w.cps.toList.length = 96 := by
    rw [← hw]
    decide +kernel
  obtain ⟨j, hj, hjl⟩ := mod_nat c 96 (by decide)
  have gt : w.cps.toList[j]? = some (w.cps.toList[j]'(by omega)) := List.getElem?_eq_getElem (by omega)
  have wl : w.length ≤ 100000 := by
    have : w.cps.toList.length = w.length := Array.length_toList
    omega
  exact s_retP (xs_ev (w := ⟨#[w.cps.toList[j]'(by omega)]⟩) (ev_op (ev_var rfl) (ev_op (ev_var rfl) ev_c (rv_mod (by decide))) (rv_ixS wl (at_nat hj gt))) (Nat.le_refl _)) (k.mono (e1.trans e2))
theorem xs_sign_by {c : Int} (h : Ev te σ H (.int c)) : EvX (tCall (sp_l_sign_by K A) [] E (tCons te tNil)) σ H (StrN 1) :=
  x_call1 (x_v h) fun x H1 e1 hx Q q => ⟨c, by rw [show x = V.int c from hx], fun v H2 e2 p => q v H2 e2 p⟩
/-! _law_line -/
def pick (i : Int) : Nat := if i = 0 then 45 else if i = 1 then 48 else 43
theorem pick_at (c : Int) : atI ("-0+" : Str).cps.toList (c % 3) = some (pick (c % 3)) := by
  rw [s_three]
  have : c % 3 = 0 ∨ c % 3 = 1 ∨ c % 3 = 2 := by omega
  rcases this with z | z | z <;> rw [z] <;> decide
def shortS : List Str := ["", "0", "00", "+", "-", "0+", "+0", "000-"]
def sp_l_line (K : PySem.W.Frag) (A : Ad) : Sp := fun vs H Q _ => ∃ v ns, vs = [v] ∧ IL K ns v H ∧ ns.length ≤ 63 ∧ RetP (StrN 2000) H Q
def t_l_line (K : PySem.W.Frag) (A : Ad) : TS :=
  (tSeq (tAsg (tOp rModI (tCall (sp_l_cell_at K A) [] E0 (tCons (tVar 0) (tCons (tC (.int 0)) tNil))) (tC (.int 7))) (gName 1))
    (tSeq (tAsg (tM1 (rJoin K) (tC (.str "")) (tLc (iList K (tSl (rSlL K) (tVar 0) (tPart (tC (.int 5))) (tPart (tC (.int 89))))) (gName 4) tYes (tOp rIxS (tC (.str "-0+")) (tOp rModI (tOp rDivI (tVar 4) (tC (.int 3))) (tC (.int 3)))) [4])) (gName 2))
    (tSeq (tAsg (tOp rRepS (tVar 2) (tOp rAddI (tC (.int 1)) (tOp rModI (tOp rDivI (tCall (sp_l_cell_at K A) [] E0 (tCons (tVar 0) (tCons (tC (.int 0)) tNil))) (tC (.int 7))) (tC (.int 4))))) (gName 2))
    (tSeq (tIfS (tTest (tOp rEq (tVar 1) (tC (.int 1)))) (tRet (tOp rAddS2 (tC (.str "0")) (tVar 2))) tNext)
    (tSeq (tIfS (tTest (tOp rEq (tVar 1) (tC (.int 2)))) (tRet (tOp (rIxL K) (tLst (tCons (tC (.str "")) (tCons (tC (.str "0")) (tCons (tC (.str "00")) (tCons (tC (.str "+")) (tCons (tC (.str "-")) (tCons (tC (.str "0+")) (tCons (tC (.str "+0")) (tCons (tC (.str "000-")) tNil))))))))) (tOp rModI (tCall (sp_l_cell_at K A) [] E0 (tCons (tVar 0) (tCons (tC (.int 1)) tNil))) (tC (.int 8))))) tNext)
    (tSeq (tIfS (tTest (tOp rNe (tVar 1) (tC (.int 3)))) (tAsg (tM1 rLstrip (tVar 2) (tC (.str "0"))) (gName 2)) tNext)
    (tSeq (tAsg (tOp rModI (tCall (sp_l_cell_at K A) [] E0 (tCons (tVar 0) (tCons (tC (.int 1)) tNil))) (tOp rAddI (tCB (rLenT K) (tCons (tVar 2) tNil)) (tC (.int 1)))) (gName 3))
    (tSeq (tIfS (tTest (tOp rEq (tVar 1) (tC (.int 4)))) (tRet (tOp rAddS2 (tOp rAddS2 (tSl rSlS (tVar 2) tNoPart (tPart (tVar 3))) (tCall (sp_l_sign_by K A) [] E0 (tCons (tCall (sp_l_cell_at K A) [] E0 (tCons (tVar 0) (tCons (tC (.int 2)) tNil))) tNil))) (tSl rSlS (tVar 2) (tPart (tVar 3)) tNoPart))) tNext)
    (tSeq (tIfS (tTest (tOp rEq (tVar 1) (tC (.int 5)))) (tRet (tOp rAddS2 (tOp rAddS2 (tSl rSlS (tVar 2) tNoPart (tPart (tVar 3))) (tCall (sp_l_sign_by K A) [] E0 (tCons (tCall (sp_l_cell_at K A) [] E0 (tCons (tVar 0) (tCons (tC (.int 2)) tNil))) tNil))) (tSl rSlS (tVar 2) (tPart (tOp rAddI (tVar 3) (tC (.int 1)))) tNoPart))) tNext)
    (tRet (tVar 2)))))))))))
theorem r_l_line (h : sp_l_line K A vs H Q E) : t_l_line K A (D0 Q) (start ["_law_script", "_law_way", "_law_row", "_law_at", "_law_cell"] vs) H := by
  obtain ⟨v, ns, rfl, hv, hz, k⟩ := h
  refine q_asg (ev_op (ev_cell (k := 0) (x_ilv rfl hv) ev_c rfl) ev_c (rv_mod (by decide))) fun H1 e1 => ?_
  have hv1 := mono_il _ _ _ e1 hv
  generalize hway : cellAt ns 0 % 7 = way
  obtain ⟨ms, hms, hsl⟩ := el_part (K := K) (te := tVar 0) (σ := [some v, some (.int way), none, none, none]) (x_ilv rfl hv1) (ev_c (v := .int 5)) (ev_c (v := .int 89))
  have em : ms.map (fun c => V.str ⟨#[pick (c / 3 % 3)]⟩) = (ms.map fun c => (⟨#[pick (c / 3 % 3)]⟩ : Str)).map V.str := by rw [List.map_map]; rfl
  have sm : ∀ l : List Int, ((l.map fun c => (⟨#[pick (c / 3 % 3)]⟩ : Str)).map (·.length)).sum = l.length := fun l => by
    induction l with
    | nil => rfl
    | cons n r ih =>
      rw [List.map_cons, List.map_cons, List.sum_cons, ih, List.length_cons]
      show 1 + r.length = _
      omega
  have e0 : ("" : Str).length = 0 := by decide +kernel
  have jl : (Txt.join "" (ms.map fun c => (⟨#[pick (c / 3 % 3)]⟩ : Str))).length ≤ 63 := by
    have z := StrLaws.join_length_le "" (ms.map fun c => (⟨#[pick (c / 3 % 3)]⟩ : Str))
    rw [sm, e0, Nat.mul_zero] at z
    show (Builtin.Str.glued _ _).length ≤ 63
    rw [StrLaws.glued_eq_join]
    omega
  refine q_asgX (P := StrN 63) (xs_ev (ev_join ev_c (x_vlL (by
    rw [← em]
    exact el_lcI0 (ns := ms) (fun c => V.str ⟨#[pick (c / 3 % 3)]⟩) (x_ilL hsl) (by omega) (fun _ => rfl) (fun n H2 _ _ => ev_op ev_c (ev_op (ev_op (ev_var rfl) ev_c (rv_div ⟨by decide, by decide⟩)) ev_c (rv_mod (by decide))) (rv_ixS (by decide +kernel) (pick_at _))))) (by rw [sm, e0]; omega)) jl) fun w1 H2 e2 ⟨w, ew, hw⟩ => ?_
  subst ew
  have hv2 := mono_il _ _ _ e2 hv1
  refine q_asgX (xs_rep (n := 63) (xs_ev (ev_var rfl) hw) (ev_op ev_c (ev_op (ev_op (ev_cell (k := 0) (x_ilv rfl hv2) ev_c rfl) ev_c (rv_div ⟨by decide, by decide⟩)) ev_c (rv_mod (by decide))) rv_I0) ⟨by omega, by omega⟩ (by decide)) fun w2 H3 e3 ⟨r, er, hr⟩ => ?_
  subst er
  have hv3 := mono_il _ _ _ e3 hv2
  have e13 := (e1.trans e2).trans e3
  refine q_when (et_test (ev_op (ev_var rfl) ev_c (rv_eq rfl))) (fun _ H4 e4 => ?_) (fun _ H4 e4 => ?_)
  · exact s_retP (x_weak (xs_add (n := 1) (xs_ev ev_c (by decide +kernel)) (xs_ev (ev_var rfl) hr) (by decide)) fun _ _ ⟨u, a, b⟩ => ⟨u, a, by omega⟩) (k.mono (e13.trans e4))
  have hv4 := mono_il _ _ _ e4 hv3
  refine q_when (et_test (ev_op (ev_var rfl) ev_c (rv_eq rfl))) (fun _ H5 e5 => ?_) (fun _ H5 e5 => ?_)
  · obtain ⟨j, hj, hjl⟩ := mod_nat (cellAt ns 1) 8 (by decide)
    have gt : (shortS.map V.str)[j]? = some ((shortS.map V.str)[j]'hjl) := List.getElem?_eq_getElem hjl
    have gl : ∀ s ∈ shortS, s.length ≤ 2000 := by decide +kernel
    have gv : (shortS.map V.str)[j]'hjl = V.str (shortS[j]'hjl) := List.getElem_map ..
    rw [gv] at gt
    exact s_retP (xs_ev (ev_ixV (x_vlL (el_lst (vs := shortS.map V.str) (ea_cons ev_c (ea_cons ev_c (ea_cons ev_c (ea_cons ev_c (ea_cons ev_c (ea_cons ev_c (ea_cons ev_c (ea_cons ev_c ea_nil)))))))) (by decide))) (ev_op (ev_cell (k := 1) (x_ilv rfl (mono_il _ _ _ e5 hv4)) ev_c rfl) ev_c (rv_mod (by decide))) hj gt) (gl _ (List.getElem_mem _))) (k.mono ((e13.trans e4).trans e5))
  have hv5 := mono_il _ _ _ e5 hv4
  have rest : ∀ (r : Str) H6, Ex H5 H6 → r.length ≤ 504 → (tSeq (tAsg (tOp rModI (tCall (sp_l_cell_at K A) [] E0 (tCons (tVar 0) (tCons (tC (.int 1)) tNil))) (tOp rAddI (tCB (rLenT K) (tCons (tVar 2) tNil)) (tC (.int 1)))) (gName 3))
    (tSeq (tIfS (tTest (tOp rEq (tVar 1) (tC (.int 4)))) (tRet (tOp rAddS2 (tOp rAddS2 (tSl rSlS (tVar 2) tNoPart (tPart (tVar 3))) (tCall (sp_l_sign_by K A) [] E0 (tCons (tCall (sp_l_cell_at K A) [] E0 (tCons (tVar 0) (tCons (tC (.int 2)) tNil))) tNil))) (tSl rSlS (tVar 2) (tPart (tVar 3)) tNoPart))) tNext)
    (tSeq (tIfS (tTest (tOp rEq (tVar 1) (tC (.int 5)))) (tRet (tOp rAddS2 (tOp rAddS2 (tSl rSlS (tVar 2) tNoPart (tPart (tVar 3))) (tCall (sp_l_sign_by K A) [] E0 (tCons (tCall (sp_l_cell_at K A) [] E0 (tCons (tVar 0) (tCons (tC (.int 2)) tNil))) tNil))) (tSl rSlS (tVar 2) (tPart (tOp rAddI (tVar 3) (tC (.int 1)))) tNoPart))) tNext)
    (tRet (tVar 2))))) (D0 Q) [some v, some (.int way), some (.str r), none, none] H6 := fun r H6 e6 hr => by
    have hv6 := mono_il _ _ _ e6 hv5
    have e16 := ((e13.trans e4).trans e5).trans e6
    obtain ⟨n, hn, hnl⟩ := mod_nat (cellAt ns 1) (r.length + 1) (by omega)
    refine q_asg (v := .int (n : Int)) (ev_is (ev_op (ev_cell (k := 1) (x_ilv rfl hv6) ev_c rfl) (ev_op (ev_lenT (ev_var rfl) (by omega)) ev_c rv_I0) (rv_mod (by omega))) (congrArg V.int hn)) fun H7 e7 => ?_
    have hv7 := mono_il _ _ _ e7 hv6
    refine q_when (et_test (ev_op (ev_var rfl) ev_c (rv_eq rfl))) (fun _ H8 e8 => ?_) (fun _ H8 e8 => ?_)
    · exact s_retP (x_weak (xs_add (xs_add (xs_to (xs_ev (ev_var rfl) hr) (ev_var rfl) (by decide)) (xs_sign_by (ev_cell (k := 2) (x_ilv rfl (mono_il _ _ _ e8 hv7)) ev_c rfl)) (by decide)) (xs_from (xs_ev (ev_var rfl) hr) (ev_var rfl) (by decide)) (by decide)) fun _ _ ⟨u, a, b⟩ => ⟨u, a, by omega⟩) (k.mono ((e16.trans e7).trans e8))
    have hv8 := mono_il _ _ _ e8 hv7
    refine q_when (et_test (ev_op (ev_var rfl) ev_c (rv_eq rfl))) (fun _ H9 e9 => ?_) (fun _ H9 e9 => ?_)
    · exact s_retP (x_weak (xs_add (xs_add (xs_to (xs_ev (ev_var rfl) hr) (ev_var rfl) (by decide)) (xs_sign_by (ev_cell (k := 2) (x_ilv rfl (mono_il _ _ _ e9 hv8)) ev_c rfl)) (by decide)) (xs_from (xs_ev (ev_var rfl) hr) (ev_op (ev_var rfl) ev_c rv_I0) (by decide)) (by decide)) fun _ _ ⟨u, a, b⟩ => ⟨u, a, by omega⟩) (k.mono (((e16.trans e7).trans e8).trans e9))
    exact s_retP (xs_ev (ev_var rfl) (by omega)) (k.mono (((e16.trans e7).trans e8).trans e9))
  refine q_when (et_test (ev_op (ev_var rfl) ev_c (rv_ne rfl))) (fun _ H6 e6 => ?_) (fun _ H6 e6 => rest _ H6 e6 hr)
  exact s_asg (ev_lstrip (ev_var rfl) ev_c (by omega)) fun H7 e7 => rest _ H7 (e6.trans e7) (Nat.le_trans (len_lstripChars _ _) hr)
theorem xs_line {ns : List Int} (h : EvX te σ H (IL K ns)) (hz : ns.length ≤ 63) : EvX (tCall (sp_l_line K A) [] E (tCons te tNil)) σ H (StrN 2000) :=
  x_call1 h fun x H1 e1 hx Q q => ⟨x, ns, rfl, hx, hz, fun v H2 e2 p => q v H2 e2 p⟩
/-! _law_spoilt -/
theorem xt_str {s : Str} : EvX (tC (.str s)) σ H (ThP K (.str s)) := xt_c fun _ => th_str s
theorem int_data {i : Int} : ∀ d ∈ [PyData.int i], d ≠ .dict [] := fun d hd z => by
  rw [List.mem_singleton.mp hd] at z
  cases z
theorem str_data {s : Str} : ∀ d ∈ [PyData.str s], d ≠ .dict [] := fun d hd z => by
  rw [List.mem_singleton.mp hd] at z
  cases z
def badT : List PyData := [.int 2, .int (-2), .bool true, .bool false, .none, .str "+", .list [.int 1], .int (10 ^ 30), .tuple [.int 0]]
theorem badT_all : ∀ d ∈ badT, pmD d = false ∧ d ≠ .dict [] := by
  intro d hd
  simp only [badT, List.mem_cons, List.not_mem_nil, or_false] at hd
  rcases hd with rfl | rfl | rfl | rfl | rfl | rfl | rfl | rfl | rfl <;> exact ⟨by first | rfl | decide +kernel, fun z => by cases z⟩
def noLs : List PyData := [.none, .str "+0-", .tuple [.int 1, .int 0, .int (-1)], .int 1]
theorem noLs_all : ∀ d ∈ noLs, isLayD d = false := by
  intro d hd
  simp only [noLs, List.mem_cons, List.not_mem_nil, or_false] at hd
  rcases hd with rfl | rfl | rfl | rfl <;> rfl
def NoLayT (K : PySem.W.Frag) : V → Hp → Prop := fun v H => ∃ d, Th K H v d ∧ isLayD d = false
def BadT (K : PySem.W.Frag) : V → Hp → Prop := fun v H => ∃ d, Dp K H v d ∧ pmD d = false
theorem mono_badT : Mono (BadT K) := fun _ _ _ e ⟨d, h, a⟩ => ⟨d, dp_mono e _ _ h, a⟩
theorem badT_of {v : V} {d : PyData} (h : Th K H v d) (a : pmD d = false) (b : d ≠ .dict []) : BadT K v H := by
  cases h with
  | of h => exact ⟨d, h, a⟩
  | dict h => exact absurd rfl b
def sp_l_spoilt (K : PySem.W.Frag) (A : Ad) : Sp := fun vs H Q _ => ∃ v ns c, vs = [v, .int c] ∧ IL K ns v H ∧ ns.length ≤ 30000 ∧ RetP (NoLayT K) H Q
def t_l_spoilt (K : PySem.W.Frag) (A : Ad) : TS :=
  (tSeq (tAsg (tOp rModI (tVar 1) (tC (.int 13))) (gName 2))
    (tSeq (tIfS (tTest (tOp rLtI (tVar 2) (tC (.int 9)))) (tSeq (tAsg (tOp rModI (tOp rDivI (tVar 1) (tC (.int 13))) (tOp rAddI (tCB (Evl.rLenS K) (tCons (tVar 0) tNil)) (tC (.int 1)))) (gName 3))
    (tRet (tOp rCat (tOp rCat (tSl (rSlL K) (tVar 0) tNoPart (tPart (tVar 3))) (tLst (tCons (tOp (rIxL K) (tLst (tCons (tC (.int 2)) (tCons (tUn rNegI (tC (.int 2))) (tCons (tC (.bl true)) (tCons (tC (.bl false)) (tCons (tC .non) (tCons (tC (.str "+")) (tCons (tLst (tCons (tC (.int 1)) tNil)) (tCons (tOp rPowI (tC (.int 10)) (tC (.int 30))) (tCons (tTup (tCons (tC (.int 0)) tNil)) tNil)))))))))) (tVar 2)) tNil))) (tSl (rSlL K) (tVar 0) (tPart (tVar 3)) tNoPart)))) tNext)
    (tRet (tOp (rIxL K) (tLst (tCons (tC .non) (tCons (tC (.str "+0-")) (tCons (tTup (tCons (tC (.int 1)) (tCons (tC (.int 0)) (tCons (tUn rNegI (tC (.int 1))) tNil)))) (tCons (tC (.int 1)) tNil))))) (tOp rSubI (tVar 2) (tC (.int 9)))))))
theorem r_l_spoilt (h : sp_l_spoilt K A vs H Q E) : t_l_spoilt K A (D0 Q) (start ["_law_things_here", "_law_cell", "_law_way", "_law_at"] vs) H := by
  obtain ⟨v, ns, c, rfl, hv, hz, k⟩ := h
  obtain ⟨j, hj, hjl⟩ := mod_nat c 13 (by decide)
  refine q_asg (v := .int (j : Int)) (ev_is (ev_op (ev_var rfl) ev_c (rv_mod (by decide))) (congrArg V.int hj)) fun H1 e1 => ?_
  have hv1 := mono_il _ _ _ e1 hv
  refine q_when (et_test (ev_op (ev_var rfl) ev_c rv_I0)) (fun hb H2 e2 => ?_) (fun hb H2 e2 => ?_)
  · have lt : (j : Int) < 9 := of_decide_eq_true hb
    have lt' : j < badT.length := by
      show j < 9
      omega
    have gd : badT[j]? = some badT[j] := List.getElem?_eq_getElem lt'
    obtain ⟨b1, b2⟩ := badT_all _ (List.getElem_mem lt')
    have hv2 := mono_il _ _ _ e2 hv1
    obtain ⟨n, hn, hnl⟩ := mod_nat (c / 13) (ns.length + 1) (by omega)
    refine q_asg (v := .int (n : Int)) (ev_is (ev_op (ev_op (ev_var rfl) ev_c (rv_div ⟨by decide, by decide⟩)) (ev_op (ev_lenX (x_ilv rfl hv2)) ev_c rv_I0) (rv_mod (by omega))) (congrArg V.int hn)) fun H3 e3 => ?_
    have hv3 := mono_il _ _ _ e3 hv2
    refine s_retP (x_weak (x_putin (n := n) (P := BadT K) (x_vlI (x_ilv rfl hv3)) (ev_var rfl) rfl (x_weak (x_ixTh (K := K) (ds := badT) (j := j) (xt_lst (xt_cons (xt_c fun _ => th_int 2) (xt_cons (x_of (ev_un ev_c ru_neg) mono_th (th_int (-2))) (xt_cons (xt_c fun _ => th_bl true) (xt_cons (xt_c fun _ => th_bl false) (xt_cons (xt_c fun _ => th_non) (xt_cons xt_str (xt_cons (xt_lstD (xt_cons (xt_c fun _ => th_int 1) xt_nil) (by decide) int_data) (xt_cons (x_of (ev_op ev_c ev_c (rv_pow ⟨by decide, by decide, by decide⟩)) mono_th (th_int (10 ^ 30))) (xt_cons (xt_tup (xt_cons (xt_c fun _ => th_int 0) xt_nil) (by decide) int_data) xt_nil))))))))) (by decide)) (ev_var rfl) rfl gd) fun w H4 th => badT_of th b1 b2) mono_badT (by rw [len_mapI]; exact hz)) ?_) (k.mono ((e1.trans e2).trans e3))
    rintro u H5 ⟨p, x, rfl, _, hx, bd, hbd, w0⟩
    refine ⟨.list ((ns.take n).map PyData.int ++ [bd] ++ (ns.drop n).map PyData.int), .of (.lst (sq_of hx) (dpa_app (dpa_app ?_ (.cons hbd .nil)) ?_)), ?_⟩
    · rw [← List.map_take]
      exact dps
    · rw [← List.map_drop]
      exact dps
    · show ((ns.take n).map PyData.int ++ [bd] ++ (ns.drop n).map PyData.int).all pmD = false
      rw [List.all_append, List.all_append, List.all_cons, w0]
      simp
  · have ge : ¬ (j : Int) < 9 := of_decide_eq_false hb
    have lt' : j - 9 < noLs.length := by
      show j - 9 < 4
      omega
    have gd : noLs[j - 9]? = some noLs[j - 9] := List.getElem?_eq_getElem lt'
    have b1 := noLs_all _ (List.getElem_mem lt')
    refine s_retP (x_weak (x_ixTh (K := K) (ds := noLs) (j := j - 9) (i := (j : Int) - 9) (xt_lst (xt_cons (xt_c fun _ => th_non) (xt_cons xt_str (xt_cons (xt_tup (xt_cons (xt_c fun _ => th_int 1) (xt_cons (xt_c fun _ => th_int 0) (xt_cons (x_of (ev_un ev_c ru_neg) mono_th (th_int (-1))) xt_nil))) (by decide) (fun d hd z => by subst z; simp at hd)) (xt_cons (xt_c fun _ => th_int 1) xt_nil)))) (by decide)) (ev_op (ev_var rfl) ev_c rv_I0) (by omega) gd) (fun w H3 th => ⟨_, th, b1⟩)) (k.mono (e1.trans e2))
theorem x_spoilt {ns : List Int} {c : Int} (h : EvX te σ H (IL K ns)) (h2 : Ev tx σ H (.int c)) (hz : ns.length ≤ 30000) : EvX (tCall (sp_l_spoilt K A) [] E (tCons te (tCons tx tNil))) σ H (NoLayT K) :=
  x_call2 h mono_il (x_v h2) fun x y H1 e1 hx hy Q q => ⟨x, ns, c, by rw [show y = V.int c from hy], hx, hz, fun v H2 e2 p => q v H2 e2 p⟩
/-! what is refused -/
def sp_l_others (K : PySem.W.Frag) (A : Ad) : Sp := fun vs H Q _ => ∃ (a C : Addr) (b1 b2 b3 b4 b5 : Bool), vs = [.ref a] ∧ H a = some (ExK (.ref C) a) ∧ ExcC K C ∧ Caught K A C b1 b2 b3 b4 b5 ∧ RetV (.bl (b2 || (b3 || b5))) H Q
def t_l_others (K : PySem.W.Frag) (A : Ad) : TS :=
  (tRet (tOrV (tCB (rIsK K) (tCons (tVar 0) (tCons (tC (.ref A.load)) tNil))) (tOrV (tCB (rIsK K) (tCons (tVar 0) (tCons (tC (.ref A.plan)) tNil))) (tCB (rIsK K) (tCons (tVar 0) (tCons (tC (.ref A.deed)) tNil))))))
theorem r_l_others (h : sp_l_others K A vs H Q E) : t_l_others K A (D0 Q) (start ["_law_caught"] vs) H := by
  obtain ⟨a, C, b1, b2, b3, b4, b5, rfl, ha, xc, ct, k⟩ := h
  exact s_retV (ev_orV (ev_isKC rfl ha xc ct.lo) fun _ => ev_orV (ev_isKC rfl ha xc ct.pl) fun _ => ev_isKC rfl ha xc ct.de) k
theorem ev_others {a C : Addr} {b1 b2 b3 b4 b5 : Bool} {i : Nat} (h : σ[i]? = some (some (.ref a))) (ha : H a = some (ExK (.ref C) a)) (xc : ExcC K C) (ct : Caught K A C b1 b2 b3 b4 b5) : Ev (tCall (sp_l_others K A) [] E (tCons (tVar i) tNil)) σ H (.bl (b2 || (b3 || b5))) :=
  ev_call1 (x_v (ev_var h)) fun x H1 e1 hx Q q => ⟨a, C, b1, b2, b3, b4, b5, by rw [show x = V.ref a from hx], e1 _ _ ha, xc, ct, fun H' e => q H' e⟩
def NoTxt (d : PyData) : Prop := ∀ x, d = .str x → x.length ≤ 40000 ∧ readOf x = none
def sp_l_text_refused (K : PySem.W.Frag) (A : Ad) : Sp := fun vs H Q _ => ∃ v d, vs = [v] ∧ Th K H v d ∧ NoTxt d ∧ RetV (.bl true) H Q
def t_l_text_refused (K : PySem.W.Frag) (A : Ad) : TS :=
  (tSeq (tAsg (tC .non) (gName 1))
    (tSeq (tTryK K A.stone 2 (fun W => (tDrop (tCallS (sp_read K A) (WE W) (tCons (tVar 0) tNil)))) (fun a => (tAsg (tVar 2) (gName 1))))
    (tSeq (tIfS (tOr (tNot (tB (tCB (rIsK K) (tCons (tVar 1) (tCons (tC (.ref A.text)) tNil))))) (tNot (tB (tCB (rIsK K) (tCons (tVar 1) (tCons (tC (.ty "ValueError")) tNil)))))) (tRet (tC (.bl false))) tNext)
    (tRet (tAndV (tNotV (tCB (rIsK K) (tCons (tVar 1) (tCons (tC (.ref A.laying)) tNil)))) (tNotV (tCall (sp_l_others K A) [] E0 (tCons (tVar 1) tNil))))))))
theorem r_l_text_refused (xc : ExcC K A.text) (ct : Caught K A A.text false false false true false) (h : sp_l_text_refused K A vs H Q E) : t_l_text_refused K A (D0 Q) (start ["_law_line_here", "_law_caught", "e"] vs) H := by
  obtain ⟨v, d, rfl, hd, hn, k⟩ := h
  refine q_asg ev_c fun H1 e1 => ?_
  have hd1 := hd.mono e1
  refine drop_raise (C := A.text) (ea_cons (ev_var rfl) ea_nil) (fun H2 e2 Q E q => ⟨v, d, rfl, hd1.mono e2, fun x ex => ⟨(hn x ex).1, fun ns z => (by rw [(hn x ex).2] at z; cases z), fun _ => q⟩, fun _ => q⟩) fun H2 e2 => keep_go ct.te (by show 2 < 3; decide) (by decide) fun a H3 e3 ha => ?_
  refine q_skip (et_or (et_not (et_B (ev_isKC rfl ha xc ct.tx))) fun _ => et_not (et_B (ev_isK rfl ha xc ct.ve))) rfl fun H4 e4 => ?_
  have ha4 := e4 _ _ ha
  exact s_retV (v := .bl true) (ev_andV (a := true) (b := true) (ev_notV (a := false) (ev_isKC rfl ha4 xc ct.ly)) fun _ => ev_notV (a := false) (ev_others rfl ha4 xc ct)) (k.mono (((e1.trans e2).trans e3).trans e4))
theorem ev_text_refused {d : PyData} (h : EvX te σ H (ThP K d)) (hn : NoTxt d) : Ev (tCall (sp_l_text_refused K A) [] E (tCons te tNil)) σ H (.bl true) :=
  ev_call1 h fun x H1 e1 hx Q q => ⟨x, d, rfl, hx, hn, fun H' e => q H' e⟩
def sp_l_laying_refused (K : PySem.W.Frag) (A : Ad) : Sp := fun vs H Q _ => ∃ v d, vs = [v] ∧ Th K H v d ∧ isLayD d = false ∧ RetV (.bl true) H Q
def t_l_laying_refused (K : PySem.W.Frag) (A : Ad) : TS :=
  (tSeq (tAsg (tC .non) (gName 1))
    (tSeq (tTryK K A.stone 2 (fun W => (tDrop (tCallS (sp_shown K A) (WE W) (tCons (tVar 0) tNil)))) (fun a => (tAsg (tVar 2) (gName 1))))
    (tSeq (tIfS (tOr (tNot (tB (tCB (rIsK K) (tCons (tVar 1) (tCons (tC (.ref A.laying)) tNil))))) (tNot (tB (tCB (rIsK K) (tCons (tVar 1) (tCons (tC (.ty "ValueError")) tNil)))))) (tRet (tC (.bl false))) tNext)
    (tRet (tAndV (tNotV (tCB (rIsK K) (tCons (tVar 1) (tCons (tC (.ref A.text)) tNil)))) (tNotV (tCall (sp_l_others K A) [] E0 (tCons (tVar 1) tNil))))))))
theorem r_l_laying_refused (xc : ExcC K A.laying) (ct : Caught K A A.laying true false false false false) (h : sp_l_laying_refused K A vs H Q E) : t_l_laying_refused K A (D0 Q) (start ["_law_things_here", "_law_caught", "e"] vs) H := by
  obtain ⟨v, d, rfl, hd, hn, k⟩ := h
  refine q_asg ev_c fun H1 e1 => ?_
  have hd1 := hd.mono e1
  refine drop_raise (C := A.laying) (ea_cons (ev_var rfl) ea_nil) (fun H2 e2 Q E q => LaySp.bad (hd1.mono e2) hn q) fun H2 e2 => keep_go ct.te (by show 2 < 3; decide) (by decide) fun a H3 e3 ha => ?_
  refine q_skip (et_or (et_not (et_B (ev_isKC rfl ha xc ct.ly))) fun _ => et_not (et_B (ev_isK rfl ha xc ct.ve))) rfl fun H4 e4 => ?_
  have ha4 := e4 _ _ ha
  exact s_retV (v := .bl true) (ev_andV (a := true) (b := true) (ev_notV (a := false) (ev_isKC rfl ha4 xc ct.tx)) fun _ => ev_notV (a := false) (ev_others rfl ha4 xc ct)) (k.mono (((e1.trans e2).trans e3).trans e4))
theorem ev_laying_refused (h : EvX te σ H (NoLayT K)) : Ev (tCall (sp_l_laying_refused K A) [] E (tCons te tNil)) σ H (.bl true) :=
  ev_call1 h fun x H1 e1 ⟨d, hx, hn⟩ Q q => ⟨x, d, rfl, hx, hn, fun H' e => q H' e⟩
/-! _law_read -/
def sp_l_read (K : PySem.W.Frag) (A : Ad) : Sp := fun vs H Q _ => ∃ x : Str, vs = [.str x] ∧ x.length ≤ 30000 ∧ RetV (.bl true) H Q
def t_l_read (K : PySem.W.Frag) (A : Ad) : TS :=
  (tSeq (tAsg (tCall (sp_l_laying_of K A) [] E0 (tCons (tVar 0) tNil)) (gName 1))
    (tSeq (tIfS (tTest (tOp rIsNn (tVar 1) (tC .non))) (tRet (tCall (sp_l_text_refused K A) [] E0 (tCons (tVar 0) tNil))) tNext)
    (tSeq (tAsg (tCall (sp_read K A) [] E0 (tCons (tVar 0) tNil)) (gName 2))
    (tSeq (tIfS (tNot (tB (tCall (sp_l_same K A) [] E0 (tCons (tVar 2) (tCons (tVar 1) tNil))))) (tRet (tC (.bl false))) tNext)
    (tSeq (tDrop (tBM K "list" rAppend (tVar 2) (tCons (tC (.int 1)) tNil)))
    (tRet (tCall (sp_l_same K A) [] E0 (tCons (tCall (sp_read K A) [] E0 (tCons (tVar 0) tNil)) (tCons (tVar 1) tNil)))))))))
theorem r_l_read (h : sp_l_read K A vs H Q E) : t_l_read K A (D0 Q) (start ["_law_line_here", "_law_due", "_law_found"] vs) H := by
  obtain ⟨x, rfl, hz, k⟩ := h
  cases rd : readOf x with
  | none =>
    refine q_asg (ev_l_laying_of (ev_var rfl) (by omega) rd) fun H1 e1 => ?_
    refine q_when (b := true) (et_is (et_test (ev_op (ev_var rfl) ev_c rv_isN)) (by simp)) (fun _ H2 e2 => ?_) (fun z => by cases z)
    exact s_retV (ev_text_refused (d := .str x) (x_th rfl (th_str x)) fun y ey => by
      cases ey
      exact ⟨by omega, rd⟩) (k.mono (e1.trans e2))
  | some ms =>
    have ml := read_len rd
    refine q_asgL (el_l_laying_of (ev_var rfl) (by omega) rd) fun p1 H1 hp1 e1 hx1 => ?_
    have L1 := (Led.nil H).new hp1 e1 hx1
    refine q_skip (et_test (ev_op (ev_var rfl) ev_c rv_isN)) (by simp) fun H2 e2 => ?_
    have L2 := L1.ex e2
    refine q_asgL (el_read (ev_var rfl) (by omega) rd) fun p2 H3 hp2 e3 hx2 => ?_
    have L3 := L2.new hp2 e3 hx2
    refine q_skip (et_not (et_B (ev_same (x_ilv rfl (L3.il 0 rfl)) (x_ilv rfl (L3.il 1 rfl)) (by omega)))) rfl fun H4 e4 => ?_
    have L4 := L3.ex e4
    refine q_app (L4.at 0 rfl) (ev_var rfl) ev_c (by rw [len_mapI]; omega) fun H5 e5 => ?_
    have L5 := (L4.ex e5).put 0 (ms.map V.int ++ [V.int 1]) rfl
    exact s_retV (ev_same (x_ilL (el_read (ev_var rfl) (by omega) rd)) (x_ilv rfl (L5.il 1 rfl)) (by omega)) (k.mono L5.ext)
theorem ev_l_read {x : Str} (h : Ev te σ H (.str x)) (hz : x.length ≤ 30000) : Ev (tCall (sp_l_read K A) [] E (tCons te tNil)) σ H (.bl true) :=
  ev_call1 (x_v h) fun u H1 e1 hu Q q => ⟨x, by rw [show u = V.str x from hu], hz, fun H' e => q H' e⟩
/-! law -/
def oddT : List PyData := [.none, .int 0, .int 1, .bool true, .list [.str "+"], .tuple [.str "+", .str "-"], .dict [], .list []]
theorem oddT_all : ∀ d ∈ oddT, NoTxt d := by
  intro d hd x ex
  subst ex
  simp [oddT] at hd
def sp_law (K : PySem.W.Frag) (A : Ad) : Sp := fun vs H Q _ => ∃ v ns, vs = [v] ∧ IL K ns v H ∧ ns.length ≤ 63 ∧ RetV (.bl true) H Q
def t_law (K : PySem.W.Frag) (A : Ad) : TS :=
  (tSeq (tAsg (tCall (sp_l_things K A) [] E0 (tCons (tVar 0) tNil)) (gName 1))
    (tSeq (tAsg (tCall (sp_l_line K A) [] E0 (tCons (tVar 0) tNil)) (gName 2))
    (tSeq (tIfS (tNot (tB (tCall (sp_l_read K A) [] E0 (tCons (tVar 2) tNil)))) (tRet (tC (.bl false))) tNext)
    (tSeq (tIfS (tNot (tB (tCall (sp_l_laying_refused K A) [] E0 (tCons (tCall (sp_l_spoilt K A) [] E0 (tCons (tVar 1) (tCons (tCall (sp_l_cell_at K A) [] E0 (tCons (tVar 0) (tCons (tC (.int 4)) tNil))) tNil))) tNil)))) (tRet (tC (.bl false))) tNext)
    (tSeq (tAsg (tOp (rIxL K) (tLst (tCons (tC .non) (tCons (tC (.int 0)) (tCons (tC (.int 1)) (tCons (tC (.bl true)) (tCons (tLst (tCons (tC (.str "+")) tNil)) (tCons (tTup (tCons (tC (.str "+")) (tCons (tC (.str "-")) tNil))) (tCons tDictN (tCons (tLst tNil) tNil))))))))) (tOp rModI (tOp rDivI (tCall (sp_l_cell_at K A) [] E0 (tCons (tVar 0) (tCons (tC (.int 3)) tNil))) (tC (.int 16))) (tC (.int 8)))) (gName 3))
    (tSeq (tIfS (tNot (tB (tCall (sp_l_text_refused K A) [] E0 (tCons (tVar 3) tNil)))) (tRet (tC (.bl false))) tNext)
    (tSeq (tAsg (tCB (Evl.rListS K) (tCons (tVar 1) tNil)) (gName 4))
    (tSeq (tAsg (tCall (sp_shown K A) [] E0 (tCons (tVar 4) tNil)) (gName 5))
    (tSeq (tIfS (tOr (tNot (tB (tCB (rIsi K) (tCons (tVar 5) (tCons (tC (.ty "str")) tNil))))) (tOr (tTest (tOp rNe (tVar 5) (tCall (sp_l_shown K A) [] E0 (tCons (tVar 1) tNil)))) (tTest (tOp (rNeD K) (tVar 4) (tVar 1))))) (tRet (tC (.bl false))) tNext)
    (tRet (tAndV (tCall (sp_l_same K A) [] E0 (tCons (tCall (sp_read K A) [] E0 (tCons (tVar 5) tNil)) (tCons (tCall (sp_l_endedT K A) [] E0 (tCons (tVar 1) tNil)) tNil))) (tCall (sp_l_read K A) [] E0 (tCons (tVar 2) tNil)))))))))))))
theorem r_law (h : sp_law K A vs H Q E) : t_law K A (D0 Q) (start ["_law_script", "_law_things_here", "_law_line_here", "_law_odd", "_law_handed", "_law_told"] vs) H := by
  obtain ⟨v, ns, rfl, hv, hns, k⟩ := h
  refine q_asgN (en_things (x_ilv rfl hv) hns) fun p1 H1 ts hp1 e1 hx1 ⟨tl, tz⟩ => ?_
  have L1 := (Led.nil H).new hp1 e1 hx1
  have hv1 := mono_il _ _ _ e1 hv
  refine q_asgX (xs_line (x_ilv rfl hv1) hns) fun lv H2 e2 ⟨x, ex, hxl⟩ => ?_
  subst ex
  have L2 := L1.ex e2
  have hv2 := mono_il _ _ _ e2 hv1
  refine q_skip (et_not (et_B (ev_l_read (ev_var rfl) (by omega)))) rfl fun H3 e3 => ?_
  have L3 := L2.ex e3
  have hv3 := mono_il _ _ _ e3 hv2
  refine q_skip (et_not (et_B (ev_laying_refused (x_spoilt (x_ilv rfl (L3.il 0 rfl)) (ev_cell (k := 4) (x_ilv rfl hv3) ev_c rfl) (by omega))))) rfl fun H4 e4 => ?_
  have L4 := L3.ex e4
  have hv4 := mono_il _ _ _ e4 hv3
  obtain ⟨j, hj, hjl⟩ := mod_nat (cellAt ns 3 / 16) 8 (by decide)
  have lt' : j < oddT.length := hjl
  have gd : oddT[j]? = some oddT[j] := List.getElem?_eq_getElem lt'
  have b1 := oddT_all _ (List.getElem_mem lt')
  refine q_asgX (P := ThP K oddT[j]) (x_ixTh (K := K) (ds := oddT) (j := j) (xt_lst (xt_cons (xt_c fun _ => th_non) (xt_cons (xt_c fun _ => th_int 0) (xt_cons (xt_c fun _ => th_int 1) (xt_cons (xt_c fun _ => th_bl true) (xt_cons (xt_lstD (xt_cons xt_str xt_nil) (by decide) str_data) (xt_cons (xt_tup (xt_cons xt_str (xt_cons xt_str xt_nil)) (by decide) (fun d hd z => by subst z; simp at hd)) (xt_cons xt_dict (xt_cons (xt_lstD xt_nil (by decide) (fun d hd => by cases hd)) xt_nil)))))))) (by decide)) (ev_op (ev_op (ev_cell (k := 3) (x_ilv rfl hv4) ev_c rfl) ev_c (rv_div ⟨by decide, by decide⟩)) ev_c (rv_mod (by decide))) hj gd) fun ov H5 e5 ho => ?_
  refine q_skip (et_not (et_B (ev_text_refused (x_th rfl ho) b1))) rfl fun H6 e6 => ?_
  have L6 := (L4.ex e5).ex e6
  refine q_asgL (el_listX (x_vlI (x_ilv rfl (L6.il 0 rfl)))) fun p2 H7 hp2 e7 hx2 => ?_
  have L7 := L6.new hp2 e7 hx2
  refine q_asg (ev_shown (x_ilv rfl (L7.il 0 rfl)) tl (by omega)) fun H8 e8 => ?_
  have L8 := L7.ex e8
  refine q_skip (et_or (et_not (et_B (ev_isStr (ev_var rfl) (th_str _)))) fun _ => et_or (et_test (ev_op (ev_var rfl) (ev_l_shown (x_ilv rfl (L8.il 1 rfl)) tl (by omega)) (rv_ne rfl))) fun _ => et_test (ev_neI (x_ilv rfl (L8.il 0 rfl)) (x_ilv rfl (L8.il 1 rfl)))) (by rw [decide_eq_true rfl, decide_eq_true rfl]; rfl) fun H9 e9 => ?_
  have L9 := L8.ex e9
  have el := Few.ended_len ts
  have sl : (shownOf ts).length ≤ 40000 := by
    rw [shown_txt]
    split
    · decide +kernel
    · rw [txt_len, List.length_reverse]
      omega
  exact s_retV (v := .bl true) (ev_andV (a := true) (b := true) (ev_same (x_ilL (el_read (ev_var rfl) sl (read_shown tl))) (x_ilL (el_l_endedT (x_ilv rfl (L9.il 1 rfl)) (by omega))) (by omega)) fun _ => ev_l_read (ev_var rfl) (by omega)) (k.mono L9.ext)
end
end Fw

namespace Law
open PySem PySem.Spec PyProof.Rows L2 Evl Fw
def topS (i : Nat) : Stmt := PySem.Challenge.pw_fewstones_k07_notes.main.body.getD i (.Pass ⟨0, 0, 0, 0⟩)
abbrev s_is_whole : Stmt := topS 8
abbrev n_is_whole : List Str := ["thing"]
theorem sc_is_whole : FnScope n_is_whole ["thing"] (defScope s_is_whole) := ⟨rfl, rfl, rfl, by decide +kernel, rfl, by decide +kernel, by decide +kernel⟩
abbrev s_is_laying : Stmt := topS 9
abbrev n_is_laying : List Str := ["thing", "one"]
theorem sc_is_laying : FnScope n_is_laying ["thing"] (defScope s_is_laying) := ⟨rfl, rfl, rfl, by decide +kernel, rfl, by decide +kernel, by decide +kernel⟩
abbrev s_good_laying : Stmt := topS 10
abbrev n_good_laying : List Str := ["laying"]
theorem sc_good_laying : FnScope n_good_laying ["laying"] (defScope s_good_laying) := ⟨rfl, rfl, rfl, by decide +kernel, rfl, by decide +kernel, by decide +kernel⟩
abbrev s_ended : Stmt := topS 11
abbrev n_ended : List Str := ["laying", "kept"]
theorem sc_ended : FnScope n_ended ["laying"] (defScope s_ended) := ⟨rfl, rfl, rfl, by decide +kernel, rfl, by decide +kernel, by decide +kernel⟩
abbrev s_sign_of : Stmt := topS 13
abbrev n_sign_of : List Str := ["one"]
theorem sc_sign_of : FnScope n_sign_of ["one"] (defScope s_sign_of) := ⟨rfl, rfl, rfl, by decide +kernel, rfl, by decide +kernel, by decide +kernel⟩
abbrev s_shown : Stmt := topS 14
abbrev n_shown : List Str := ["laying", "signs", "one"]
theorem sc_shown : FnScope n_shown ["laying"] (defScope s_shown) := ⟨rfl, rfl, rfl, by decide +kernel, rfl, by decide +kernel, by decide +kernel⟩
abbrev s_thing_of : Stmt := topS 15
abbrev n_thing_of : List Str := ["sign"]
theorem sc_thing_of : FnScope n_thing_of ["sign"] (defScope s_thing_of) := ⟨rfl, rfl, rfl, by decide +kernel, rfl, by decide +kernel, by decide +kernel⟩
abbrev s_read : Stmt := topS 16
abbrev n_read : List Str := ["text", "sign"]
theorem sc_read : FnScope n_read ["text"] (defScope s_read) := ⟨rfl, rfl, rfl, by decide +kernel, rfl, by decide +kernel, by decide +kernel⟩
abbrev s_l_cell_at : Stmt := topS 18
abbrev n_l_cell_at : List Str := ["_law_script", "_law_k"]
theorem sc_l_cell_at : FnScope n_l_cell_at ["_law_script", "_law_k"] (defScope s_l_cell_at) := ⟨rfl, rfl, rfl, by decide +kernel, rfl, by decide +kernel, by decide +kernel⟩
abbrev s_l_whole : Stmt := topS 19
abbrev n_l_whole : List Str := ["_law_found"]
theorem sc_l_whole : FnScope n_l_whole ["_law_found"] (defScope s_l_whole) := ⟨rfl, rfl, rfl, by decide +kernel, rfl, by decide +kernel, by decide +kernel⟩
abbrev s_l_things : Stmt := topS 20
abbrev n_l_things : List Str := ["_law_script", "_law_cell", "_law_row"]
theorem sc_l_things : FnScope n_l_things ["_law_script"] (defScope s_l_things) := ⟨rfl, rfl, rfl, by decide +kernel, rfl, by decide +kernel, by decide +kernel⟩
abbrev s_l_endedT : Stmt := topS 21
abbrev n_l_endedT : List Str := ["_law_things_here", "_law_found", "_law_k"]
theorem sc_l_endedT : FnScope n_l_endedT ["_law_things_here"] (defScope s_l_endedT) := ⟨rfl, rfl, rfl, by decide +kernel, rfl, by decide +kernel, by decide +kernel⟩
abbrev s_l_shown : Stmt := topS 22
abbrev n_l_shown : List Str := ["_law_things_here", "_law_found", "_law_thing"]
theorem sc_l_shown : FnScope n_l_shown ["_law_things_here"] (defScope s_l_shown) := ⟨rfl, rfl, rfl, by decide +kernel, rfl, by decide +kernel, by decide +kernel⟩
abbrev s_l_laying_of : Stmt := topS 23
abbrev n_l_laying_of : List Str := ["_law_line_here", "_law_found", "_law_sign"]
theorem sc_l_laying_of : FnScope n_l_laying_of ["_law_line_here"] (defScope s_l_laying_of) := ⟨rfl, rfl, rfl, by decide +kernel, rfl, by decide +kernel, by decide +kernel⟩
abbrev s_l_same : Stmt := topS 24
abbrev n_l_same : List Str := ["_law_found", "_law_due", "_law_k"]
theorem sc_l_same : FnScope n_l_same ["_law_found", "_law_due"] (defScope s_l_same) := ⟨rfl, rfl, rfl, by decide +kernel, rfl, by decide +kernel, by decide +kernel⟩
abbrev s_l_sign_by : Stmt := topS 25
abbrev n_l_sign_by : List Str := ["_law_cell", "_law_some"]
theorem sc_l_sign_by : FnScope n_l_sign_by ["_law_cell"] (defScope s_l_sign_by) := ⟨rfl, rfl, rfl, by decide +kernel, rfl, by decide +kernel, by decide +kernel⟩
abbrev s_l_line : Stmt := topS 26
abbrev n_l_line : List Str := ["_law_script", "_law_way", "_law_row", "_law_at", "_law_cell"]
theorem sc_l_line : FnScope n_l_line ["_law_script"] (defScope s_l_line) := ⟨rfl, rfl, rfl, by decide +kernel, rfl, by decide +kernel, by decide +kernel⟩
abbrev s_l_spoilt : Stmt := topS 27
abbrev n_l_spoilt : List Str := ["_law_things_here", "_law_cell", "_law_way", "_law_at"]
theorem sc_l_spoilt : FnScope n_l_spoilt ["_law_things_here", "_law_cell"] (defScope s_l_spoilt) := ⟨rfl, rfl, rfl, by decide +kernel, rfl, by decide +kernel, by decide +kernel⟩
abbrev s_l_others : Stmt := topS 28
abbrev n_l_others : List Str := ["_law_caught"]
theorem sc_l_others : FnScope n_l_others ["_law_caught"] (defScope s_l_others) := ⟨rfl, rfl, rfl, by decide +kernel, rfl, by decide +kernel, by decide +kernel⟩
abbrev s_l_text_refused : Stmt := topS 29
abbrev n_l_text_refused : List Str := ["_law_line_here", "_law_caught", "e"]
theorem sc_l_text_refused : FnScope n_l_text_refused ["_law_line_here"] (defScope s_l_text_refused) := ⟨rfl, rfl, rfl, by decide +kernel, rfl, by decide +kernel, by decide +kernel⟩
abbrev s_l_laying_refused : Stmt := topS 30
abbrev n_l_laying_refused : List Str := ["_law_things_here", "_law_caught", "e"]
theorem sc_l_laying_refused : FnScope n_l_laying_refused ["_law_things_here"] (defScope s_l_laying_refused) := ⟨rfl, rfl, rfl, by decide +kernel, rfl, by decide +kernel, by decide +kernel⟩
abbrev s_l_read : Stmt := topS 31
abbrev n_l_read : List Str := ["_law_line_here", "_law_due", "_law_found"]
theorem sc_l_read : FnScope n_l_read ["_law_line_here"] (defScope s_l_read) := ⟨rfl, rfl, rfl, by decide +kernel, rfl, by decide +kernel, by decide +kernel⟩
abbrev s_law : Stmt := topS 32
abbrev n_law : List Str := ["_law_script", "_law_things_here", "_law_line_here", "_law_odd", "_law_handed", "_law_told"]
theorem sc_law : FnScope n_law ["_law_script"] (defScope s_law) := ⟨rfl, rfl, rfl, by decide +kernel, rfl, by decide +kernel, by decide +kernel⟩
structure Fs where
  a_is_whole : Addr
  d_is_whole : FuncData
  a_is_laying : Addr
  d_is_laying : FuncData
  a_good_laying : Addr
  d_good_laying : FuncData
  a_ended : Addr
  d_ended : FuncData
  a_sign_of : Addr
  d_sign_of : FuncData
  a_shown : Addr
  d_shown : FuncData
  a_thing_of : Addr
  d_thing_of : FuncData
  a_read : Addr
  d_read : FuncData
  a_l_cell_at : Addr
  d_l_cell_at : FuncData
  a_l_whole : Addr
  d_l_whole : FuncData
  a_l_things : Addr
  d_l_things : FuncData
  a_l_endedT : Addr
  d_l_endedT : FuncData
  a_l_shown : Addr
  d_l_shown : FuncData
  a_l_laying_of : Addr
  d_l_laying_of : FuncData
  a_l_same : Addr
  d_l_same : FuncData
  a_l_sign_by : Addr
  d_l_sign_by : FuncData
  a_l_line : Addr
  d_l_line : FuncData
  a_l_spoilt : Addr
  d_l_spoilt : FuncData
  a_l_others : Addr
  d_l_others : FuncData
  a_l_text_refused : Addr
  d_l_text_refused : FuncData
  a_l_laying_refused : Addr
  d_l_laying_refused : FuncData
  a_l_read : Addr
  d_l_read : FuncData
  a_law : Addr
  d_law : FuncData
structure Txt (K : PySem.W.Frag) (mg : Str → Option Value) (A : Ad) (F : Fs) : Prop where
  f_is_whole : Fun K "is_whole" "is_whole" s_is_whole F.a_is_whole F.d_is_whole
  b_is_whole : Binds K F.d_is_whole ["thing"] []
  g_is_whole : mg "is_whole" = some (.ref F.a_is_whole)
  f_is_laying : Fun K "is_laying" "is_laying" s_is_laying F.a_is_laying F.d_is_laying
  b_is_laying : Binds K F.d_is_laying ["thing"] []
  g_is_laying : mg "is_laying" = some (.ref F.a_is_laying)
  f_good_laying : Fun K "good_laying" "good_laying" s_good_laying F.a_good_laying F.d_good_laying
  b_good_laying : Binds K F.d_good_laying ["laying"] []
  g_good_laying : mg "good_laying" = some (.ref F.a_good_laying)
  f_ended : Fun K "ended" "ended" s_ended F.a_ended F.d_ended
  b_ended : Binds K F.d_ended ["laying"] []
  g_ended : mg "ended" = some (.ref F.a_ended)
  f_sign_of : Fun K "sign_of" "sign_of" s_sign_of F.a_sign_of F.d_sign_of
  b_sign_of : Binds K F.d_sign_of ["one"] []
  g_sign_of : mg "sign_of" = some (.ref F.a_sign_of)
  f_shown : Fun K "shown" "shown" s_shown F.a_shown F.d_shown
  b_shown : Binds K F.d_shown ["laying"] []
  g_shown : mg "shown" = some (.ref F.a_shown)
  f_thing_of : Fun K "thing_of" "thing_of" s_thing_of F.a_thing_of F.d_thing_of
  b_thing_of : Binds K F.d_thing_of ["sign"] []
  g_thing_of : mg "thing_of" = some (.ref F.a_thing_of)
  f_read : Fun K "read" "read" s_read F.a_read F.d_read
  b_read : Binds K F.d_read ["text"] []
  g_read : mg "read" = some (.ref F.a_read)
  f_l_cell_at : Fun K "_law_cell_at" "_law_cell_at" s_l_cell_at F.a_l_cell_at F.d_l_cell_at
  b_l_cell_at : Binds K F.d_l_cell_at ["_law_script", "_law_k"] []
  g_l_cell_at : mg "_law_cell_at" = some (.ref F.a_l_cell_at)
  f_l_whole : Fun K "_law_whole" "_law_whole" s_l_whole F.a_l_whole F.d_l_whole
  b_l_whole : Binds K F.d_l_whole ["_law_found"] []
  g_l_whole : mg "_law_whole" = some (.ref F.a_l_whole)
  f_l_things : Fun K "_law_things" "_law_things" s_l_things F.a_l_things F.d_l_things
  b_l_things : Binds K F.d_l_things ["_law_script"] []
  g_l_things : mg "_law_things" = some (.ref F.a_l_things)
  f_l_endedT : Fun K "_law_ended" "_law_ended" s_l_endedT F.a_l_endedT F.d_l_endedT
  b_l_endedT : Binds K F.d_l_endedT ["_law_things_here"] []
  g_l_endedT : mg "_law_ended" = some (.ref F.a_l_endedT)
  f_l_shown : Fun K "_law_shown" "_law_shown" s_l_shown F.a_l_shown F.d_l_shown
  b_l_shown : Binds K F.d_l_shown ["_law_things_here"] []
  g_l_shown : mg "_law_shown" = some (.ref F.a_l_shown)
  f_l_laying_of : Fun K "_law_laying_of" "_law_laying_of" s_l_laying_of F.a_l_laying_of F.d_l_laying_of
  b_l_laying_of : Binds K F.d_l_laying_of ["_law_line_here"] []
  g_l_laying_of : mg "_law_laying_of" = some (.ref F.a_l_laying_of)
  f_l_same : Fun K "_law_same" "_law_same" s_l_same F.a_l_same F.d_l_same
  b_l_same : Binds K F.d_l_same ["_law_found", "_law_due"] []
  g_l_same : mg "_law_same" = some (.ref F.a_l_same)
  f_l_sign_by : Fun K "_law_sign_by" "_law_sign_by" s_l_sign_by F.a_l_sign_by F.d_l_sign_by
  b_l_sign_by : Binds K F.d_l_sign_by ["_law_cell"] []
  g_l_sign_by : mg "_law_sign_by" = some (.ref F.a_l_sign_by)
  f_l_line : Fun K "_law_line" "_law_line" s_l_line F.a_l_line F.d_l_line
  b_l_line : Binds K F.d_l_line ["_law_script"] []
  g_l_line : mg "_law_line" = some (.ref F.a_l_line)
  f_l_spoilt : Fun K "_law_spoilt" "_law_spoilt" s_l_spoilt F.a_l_spoilt F.d_l_spoilt
  b_l_spoilt : Binds K F.d_l_spoilt ["_law_things_here", "_law_cell"] []
  g_l_spoilt : mg "_law_spoilt" = some (.ref F.a_l_spoilt)
  f_l_others : Fun K "_law_others" "_law_others" s_l_others F.a_l_others F.d_l_others
  b_l_others : Binds K F.d_l_others ["_law_caught"] []
  g_l_others : mg "_law_others" = some (.ref F.a_l_others)
  f_l_text_refused : Fun K "_law_text_refused" "_law_text_refused" s_l_text_refused F.a_l_text_refused F.d_l_text_refused
  b_l_text_refused : Binds K F.d_l_text_refused ["_law_line_here"] []
  g_l_text_refused : mg "_law_text_refused" = some (.ref F.a_l_text_refused)
  f_l_laying_refused : Fun K "_law_laying_refused" "_law_laying_refused" s_l_laying_refused F.a_l_laying_refused F.d_l_laying_refused
  b_l_laying_refused : Binds K F.d_l_laying_refused ["_law_things_here"] []
  g_l_laying_refused : mg "_law_laying_refused" = some (.ref F.a_l_laying_refused)
  f_l_read : Fun K "_law_read" "_law_read" s_l_read F.a_l_read F.d_l_read
  b_l_read : Binds K F.d_l_read ["_law_line_here"] []
  g_l_read : mg "_law_read" = some (.ref F.a_l_read)
  f_law : Fun K "law" "law" s_law F.a_law F.d_law
  b_law : Binds K F.d_law ["_law_script"] []
  g_law : mg "law" = some (.ref F.a_law)
  n_ValueError : mg "ValueError" = none
  n_bool : mg "bool" = none
  n_int : mg "int" = none
  n_isinstance : mg "isinstance" = none
  n_len : mg "len" = none
  n_list : mg "list" = none
  n_range : mg "range" = none
  n_reversed : mg "reversed" = none
  n_str : mg "str" = none
  g_NoDeed : mg "NoDeed" = some (.ref A.deed)
  x_NoDeed : PySem.W.excIn K A.deed [.type "ValueError", .type "Exception", .type "BaseException", .type "object"] "ValueError.__new__" = true
  k_NoDeed : PySem.W.keepIn K (.ref A.deed) = true
  s_NoDeed : PySem.W.subIn K (.ref A.deed) (.type "BaseException") = some true
  t_NoDeed : PySem.W.typeIn K (.ref A.deed) = some (.type "type")
  g_NoLaying : mg "NoLaying" = some (.ref A.laying)
  x_NoLaying : PySem.W.excIn K A.laying [.type "ValueError", .type "Exception", .type "BaseException", .type "object"] "ValueError.__new__" = true
  k_NoLaying : PySem.W.keepIn K (.ref A.laying) = true
  s_NoLaying : PySem.W.subIn K (.ref A.laying) (.type "BaseException") = some true
  t_NoLaying : PySem.W.typeIn K (.ref A.laying) = some (.type "type")
  g_NoLoad : mg "NoLoad" = some (.ref A.load)
  x_NoLoad : PySem.W.excIn K A.load [.type "ValueError", .type "Exception", .type "BaseException", .type "object"] "ValueError.__new__" = true
  k_NoLoad : PySem.W.keepIn K (.ref A.load) = true
  s_NoLoad : PySem.W.subIn K (.ref A.load) (.type "BaseException") = some true
  t_NoLoad : PySem.W.typeIn K (.ref A.load) = some (.type "type")
  g_NoPlan : mg "NoPlan" = some (.ref A.plan)
  x_NoPlan : PySem.W.excIn K A.plan [.type "ValueError", .type "Exception", .type "BaseException", .type "object"] "ValueError.__new__" = true
  k_NoPlan : PySem.W.keepIn K (.ref A.plan) = true
  s_NoPlan : PySem.W.subIn K (.ref A.plan) (.type "BaseException") = some true
  t_NoPlan : PySem.W.typeIn K (.ref A.plan) = some (.type "type")
  g_NoText : mg "NoText" = some (.ref A.text)
  x_NoText : PySem.W.excIn K A.text [.type "ValueError", .type "Exception", .type "BaseException", .type "object"] "ValueError.__new__" = true
  k_NoText : PySem.W.keepIn K (.ref A.text) = true
  s_NoText : PySem.W.subIn K (.ref A.text) (.type "BaseException") = some true
  t_NoText : PySem.W.typeIn K (.ref A.text) = some (.type "type")
  g_StoneError : mg "StoneError" = some (.ref A.stone)
  x_StoneError : PySem.W.excIn K A.stone [.type "ValueError", .type "Exception", .type "BaseException", .type "object"] "ValueError.__new__" = true
  k_StoneError : PySem.W.keepIn K (.ref A.stone) = true
  s_StoneError : PySem.W.subIn K (.ref A.stone) (.type "BaseException") = some true
  t_StoneError : PySem.W.typeIn K (.ref A.stone) = some (.type "type")
  xc_laying : ExcC K A.laying
  ct_laying : Caught K A A.laying true false false false false
  xc_text : ExcC K A.text
  ct_text : Caught K A A.text false false false true false
section
variable {P : Program} {w : World} {K : PySem.W.Frag} {mg : Str → Option Value} {base : Heap} {A : Ad} {F : Fs}
theorem ok_is_whole (T : Txt K mg A F) : FnOk P w K mg base CX0 1 F.a_is_whole F.d_is_whole ["thing"] (sp_is_whole K A) := by
  refine T.f_is_whole.ok sc_is_whole (fun vs H Q E h => ?_) (fun cdv Ar outer s H vs Q E hr h => ⟨t_is_whole K A, ?_, r_is_whole h⟩)
  · first | (obtain ⟨_, rfl, _⟩ := h; rfl) | (obtain ⟨_, _, rfl, _⟩ := h; rfl) | (obtain ⟨_, _, _, rfl, _⟩ := h; rfl) | (obtain ⟨_, _, _, _, rfl, _⟩ := h; rfl) | (obtain ⟨_, _, _, _, _, rfl, _⟩ := h; rfl) | (obtain ⟨_, _, _, _, _, _, rfl, _⟩ := h; rfl) | (obtain ⟨_, _, _, _, _, _, _, rfl, _⟩ := h; rfl) | (obtain ⟨_, _, _, _, _, _, _, _, rfl, _⟩ := h; rfl) | (obtain ⟨_, _, _, _, _, _, _, _, _, _, _, _, _, _, _, _, _, _, rfl, _⟩ := h; rfl) | (obtain ⟨_, _, _, _, _, _, _, _, _, rfl, _⟩ := h; rfl) | (obtain ⟨_, _, _, _, _, _, _, _, _, _, rfl, _⟩ := h; rfl) | (obtain ⟨_, _, _, _, _, _, _, _, _, _, _, rfl, _⟩ := h; rfl) | (obtain ⟨_, _, _, _, _, _, _, _, _, _, _, _, rfl, _⟩ := h; rfl) | (obtain ⟨_, _, _, _, _, _, _, _, _, _, _, _, _, rfl, _⟩ := h; rfl) | (obtain ⟨_, _, _, _, _, _, _, _, _, _, _, _, _, _, rfl, _⟩ := h; rfl) | (obtain ⟨_, _, _, _, _, _, _, _, _, _, _, _, _, _, _, rfl, _⟩ := h; rfl) | (obtain ⟨_, _, _, _, _, _, _, _, _, _, _, _, _, _, _, _, rfl, _⟩ := h; rfl) | (obtain ⟨_, _, _, _, _, _, _, _, _, _, _, _, _, _, _, _, _, rfl, _⟩ := h; rfl)
  · exact (pss_one (ps_ret (pe_and (pe_callB call_isi (by rfl) T.n_isinstance (by decide +kernel) (pa_cons (pv 0) (pa_cons (pe_bltn (by rfl) T.n_int (by decide +kernel) rfl) pa_nil))) (pe_one (pe_not (pe_callB call_isi (by rfl) T.n_isinstance (by decide +kernel) (pa_cons (pv 0) (pa_cons (pe_bltn (by rfl) T.n_bool (by decide +kernel) rfl) pa_nil))))))))
theorem ok_is_laying (T : Txt K mg A F) : FnOk P w K mg base CX0 2 F.a_is_laying F.d_is_laying ["thing"] (sp_is_laying K A) := by
  refine T.f_is_laying.ok sc_is_laying (fun vs H Q E h => ?_) (fun cdv Ar outer s H vs Q E hr h => ⟨t_is_laying K A, ?_, r_is_laying h⟩)
  · first | (obtain ⟨_, rfl, _⟩ := h; rfl) | (obtain ⟨_, _, rfl, _⟩ := h; rfl) | (obtain ⟨_, _, _, rfl, _⟩ := h; rfl) | (obtain ⟨_, _, _, _, rfl, _⟩ := h; rfl) | (obtain ⟨_, _, _, _, _, rfl, _⟩ := h; rfl) | (obtain ⟨_, _, _, _, _, _, rfl, _⟩ := h; rfl) | (obtain ⟨_, _, _, _, _, _, _, rfl, _⟩ := h; rfl) | (obtain ⟨_, _, _, _, _, _, _, _, rfl, _⟩ := h; rfl) | (obtain ⟨_, _, _, _, _, _, _, _, _, _, _, _, _, _, _, _, _, _, rfl, _⟩ := h; rfl) | (obtain ⟨_, _, _, _, _, _, _, _, _, rfl, _⟩ := h; rfl) | (obtain ⟨_, _, _, _, _, _, _, _, _, _, rfl, _⟩ := h; rfl) | (obtain ⟨_, _, _, _, _, _, _, _, _, _, _, rfl, _⟩ := h; rfl) | (obtain ⟨_, _, _, _, _, _, _, _, _, _, _, _, rfl, _⟩ := h; rfl) | (obtain ⟨_, _, _, _, _, _, _, _, _, _, _, _, _, rfl, _⟩ := h; rfl) | (obtain ⟨_, _, _, _, _, _, _, _, _, _, _, _, _, _, rfl, _⟩ := h; rfl) | (obtain ⟨_, _, _, _, _, _, _, _, _, _, _, _, _, _, _, rfl, _⟩ := h; rfl) | (obtain ⟨_, _, _, _, _, _, _, _, _, _, _, _, _, _, _, _, rfl, _⟩ := h; rfl) | (obtain ⟨_, _, _, _, _, _, _, _, _, _, _, _, _, _, _, _, _, rfl, _⟩ := h; rfl)
  · exact (pss_cons (ps_if (pt_not (pt_val (pe_callB call_isi (by rfl) T.n_isinstance (by decide +kernel) (pa_cons (pv 0) (pa_cons (pe_bltn (by rfl) T.n_list (by decide +kernel) rfl) pa_nil))))) (pss_one (ps_ret pe_bl)) pss_nil)
    (pss_cons (ps_for PassesOwn.never rfl (pi_list (pv 0)) (pg_name (i := 1) sc_is_laying.nd rfl (Or.inl rfl)) (pss_one (ps_if (PW.pt (pw_or (pt_not (pt_val (pe_call (ok_is_whole T) (hr.mono (by decide)) rfl T.g_is_whole T.f_is_whole.kp T.b_is_whole .nil pass0 (pa_cons (pv 1) pa_nil)))) (pw_or (pt_cmpR op_lt (pv 1) (pe_un un_neg pe_int) (nomark _)) (pw_or1 (pt_cmpR op_gt (pv 1) pe_int (nomark _)))))) (pss_one (ps_ret pe_bl)) pss_nil)))
    (pss_one (ps_ret pe_bl))))
theorem ok_good_laying (T : Txt K mg A F) : FnOk P w K mg base (L2.CX P w) 3 F.a_good_laying F.d_good_laying ["laying"] (sp_good_laying K A) := by
  refine T.f_good_laying.okX sc_good_laying (fun vs H Q E h => ?_) (fun cdv Ar outer s H vs Q E hr h => ⟨t_good_laying K A E, ?_, r_good_laying h⟩)
  · first | (obtain ⟨_, rfl, _⟩ := h; rfl) | (obtain ⟨_, _, rfl, _⟩ := h; rfl) | (obtain ⟨_, _, _, rfl, _⟩ := h; rfl) | (obtain ⟨_, _, _, _, rfl, _⟩ := h; rfl) | (obtain ⟨_, _, _, _, _, rfl, _⟩ := h; rfl) | (obtain ⟨_, _, _, _, _, _, rfl, _⟩ := h; rfl) | (obtain ⟨_, _, _, _, _, _, _, rfl, _⟩ := h; rfl) | (obtain ⟨_, _, _, _, _, _, _, _, rfl, _⟩ := h; rfl) | (obtain ⟨_, _, _, _, _, _, _, _, _, _, _, _, _, _, _, _, _, _, rfl, _⟩ := h; rfl) | (obtain ⟨_, _, _, _, _, _, _, _, _, rfl, _⟩ := h; rfl) | (obtain ⟨_, _, _, _, _, _, _, _, _, _, rfl, _⟩ := h; rfl) | (obtain ⟨_, _, _, _, _, _, _, _, _, _, _, rfl, _⟩ := h; rfl) | (obtain ⟨_, _, _, _, _, _, _, _, _, _, _, _, rfl, _⟩ := h; rfl) | (obtain ⟨_, _, _, _, _, _, _, _, _, _, _, _, _, rfl, _⟩ := h; rfl) | (obtain ⟨_, _, _, _, _, _, _, _, _, _, _, _, _, _, rfl, _⟩ := h; rfl) | (obtain ⟨_, _, _, _, _, _, _, _, _, _, _, _, _, _, _, rfl, _⟩ := h; rfl) | (obtain ⟨_, _, _, _, _, _, _, _, _, _, _, _, _, _, _, _, rfl, _⟩ := h; rfl) | (obtain ⟨_, _, _, _, _, _, _, _, _, _, _, _, _, _, _, _, _, rfl, _⟩ := h; rfl)
  · exact (pss_cons (ps_if (pt_not (pt_val (pe_call (ok_is_laying T) (hr.mono (by decide)) rfl T.g_is_laying T.f_is_laying.kp T.b_is_laying .nil pass0 (pa_cons (pv 0) pa_nil)))) (pss_one (ps_raise rfl (takes_of rfl rfl rfl rfl) (pmk_own PySem.F.excBase_ValueError T.x_NoLaying T.g_NoLaying T.k_NoLaying (raises_own T.s_NoLaying T.t_NoLaying) (by rfl)))) pss_nil)
    (pss_one (ps_ret (pv 0))))
theorem ok_ended (T : Txt K mg A F) : FnOk P w K mg base (L2.CX P w) 4 F.a_ended F.d_ended ["laying"] (sp_ended K A) := by
  refine T.f_ended.okX sc_ended (fun vs H Q E h => ?_) (fun cdv Ar outer s H vs Q E hr h => ⟨t_ended K A E, ?_, r_ended h⟩)
  · first | (obtain ⟨_, rfl, _⟩ := h; rfl) | (obtain ⟨_, _, rfl, _⟩ := h; rfl) | (obtain ⟨_, _, _, rfl, _⟩ := h; rfl) | (obtain ⟨_, _, _, _, rfl, _⟩ := h; rfl) | (obtain ⟨_, _, _, _, _, rfl, _⟩ := h; rfl) | (obtain ⟨_, _, _, _, _, _, rfl, _⟩ := h; rfl) | (obtain ⟨_, _, _, _, _, _, _, rfl, _⟩ := h; rfl) | (obtain ⟨_, _, _, _, _, _, _, _, rfl, _⟩ := h; rfl) | (obtain ⟨_, _, _, _, _, _, _, _, _, _, _, _, _, _, _, _, _, _, rfl, _⟩ := h; rfl) | (obtain ⟨_, _, _, _, _, _, _, _, _, rfl, _⟩ := h; rfl) | (obtain ⟨_, _, _, _, _, _, _, _, _, _, rfl, _⟩ := h; rfl) | (obtain ⟨_, _, _, _, _, _, _, _, _, _, _, rfl, _⟩ := h; rfl) | (obtain ⟨_, _, _, _, _, _, _, _, _, _, _, _, rfl, _⟩ := h; rfl) | (obtain ⟨_, _, _, _, _, _, _, _, _, _, _, _, _, rfl, _⟩ := h; rfl) | (obtain ⟨_, _, _, _, _, _, _, _, _, _, _, _, _, _, rfl, _⟩ := h; rfl) | (obtain ⟨_, _, _, _, _, _, _, _, _, _, _, _, _, _, _, rfl, _⟩ := h; rfl) | (obtain ⟨_, _, _, _, _, _, _, _, _, _, _, _, _, _, _, _, rfl, _⟩ := h; rfl) | (obtain ⟨_, _, _, _, _, _, _, _, _, _, _, _, _, _, _, _, _, rfl, _⟩ := h; rfl)
  · exact (pss_cons (ps_set (i := 1) sc_ended.nd rfl (Or.inl rfl) (pe_callTy call_list_of (by rfl) T.n_list (by decide +kernel) (pa_cons (pe_call (ok_good_laying T) (hr.mono (by decide)) rfl T.g_good_laying T.f_good_laying.kp T.b_good_laying .nil (passes_call (takes_of rfl rfl rfl rfl) (fun _ _ _ _ h => h)) (pa_cons (pv 0) pa_nil)) pa_nil)))
    (pss_cons (ps_while (passes_of rfl) (PW.pt (pw_and (pt_cmpR op_gt (pe_callB call_len_seq (by rfl) T.n_len (by decide +kernel) (pa_cons (pv 1) pa_nil)) pe_int (nomark _)) (pw_and1 (pt_cmpR op_eq (pe_ix ix_list (pv 1) (pe_un un_neg pe_int) (fun _ _ => rfl)) pe_int (nomark _))))) (pss_one (ps_expr (pe_bm0 PySem.F.plainAttrs_list PySem.F.slot_list_pop PySem.F.type_list_pop mt_pop (pv 1)))))
    (pss_one (ps_ret (pv 1)))))
theorem ok_sign_of (T : Txt K mg A F) : FnOk P w K mg base CX0 1 F.a_sign_of F.d_sign_of ["one"] (sp_sign_of K A) := by
  refine T.f_sign_of.ok sc_sign_of (fun vs H Q E h => ?_) (fun cdv Ar outer s H vs Q E hr h => ⟨t_sign_of K A, ?_, r_sign_of h⟩)
  · first | (obtain ⟨_, rfl, _⟩ := h; rfl) | (obtain ⟨_, _, rfl, _⟩ := h; rfl) | (obtain ⟨_, _, _, rfl, _⟩ := h; rfl) | (obtain ⟨_, _, _, _, rfl, _⟩ := h; rfl) | (obtain ⟨_, _, _, _, _, rfl, _⟩ := h; rfl) | (obtain ⟨_, _, _, _, _, _, rfl, _⟩ := h; rfl) | (obtain ⟨_, _, _, _, _, _, _, rfl, _⟩ := h; rfl) | (obtain ⟨_, _, _, _, _, _, _, _, rfl, _⟩ := h; rfl) | (obtain ⟨_, _, _, _, _, _, _, _, _, _, _, _, _, _, _, _, _, _, rfl, _⟩ := h; rfl) | (obtain ⟨_, _, _, _, _, _, _, _, _, rfl, _⟩ := h; rfl) | (obtain ⟨_, _, _, _, _, _, _, _, _, _, rfl, _⟩ := h; rfl) | (obtain ⟨_, _, _, _, _, _, _, _, _, _, _, rfl, _⟩ := h; rfl) | (obtain ⟨_, _, _, _, _, _, _, _, _, _, _, _, rfl, _⟩ := h; rfl) | (obtain ⟨_, _, _, _, _, _, _, _, _, _, _, _, _, rfl, _⟩ := h; rfl) | (obtain ⟨_, _, _, _, _, _, _, _, _, _, _, _, _, _, rfl, _⟩ := h; rfl) | (obtain ⟨_, _, _, _, _, _, _, _, _, _, _, _, _, _, _, rfl, _⟩ := h; rfl) | (obtain ⟨_, _, _, _, _, _, _, _, _, _, _, _, _, _, _, _, rfl, _⟩ := h; rfl) | (obtain ⟨_, _, _, _, _, _, _, _, _, _, _, _, _, _, _, _, _, rfl, _⟩ := h; rfl)
  · exact (pss_cons (ps_if (pt_cmpR op_eq (pv 0) pe_int (nomark _)) (pss_one (ps_ret pe_str)) pss_nil)
    (pss_cons (ps_if (pt_cmpR op_eq (pv 0) (pe_un un_neg pe_int) (nomark _)) (pss_one (ps_ret pe_str)) pss_nil)
    (pss_one (ps_ret pe_str))))
theorem ok_shown (T : Txt K mg A F) : FnOk P w K mg base (L2.CX P w) 5 F.a_shown F.d_shown ["laying"] (sp_shown K A) := by
  refine T.f_shown.okX sc_shown (fun vs H Q E h => ?_) (fun cdv Ar outer s H vs Q E hr h => ⟨t_shown K A E, ?_, r_shown h⟩)
  · first | (obtain ⟨_, rfl, _⟩ := h; rfl) | (obtain ⟨_, _, rfl, _⟩ := h; rfl) | (obtain ⟨_, _, _, rfl, _⟩ := h; rfl) | (obtain ⟨_, _, _, _, rfl, _⟩ := h; rfl) | (obtain ⟨_, _, _, _, _, rfl, _⟩ := h; rfl) | (obtain ⟨_, _, _, _, _, _, rfl, _⟩ := h; rfl) | (obtain ⟨_, _, _, _, _, _, _, rfl, _⟩ := h; rfl) | (obtain ⟨_, _, _, _, _, _, _, _, rfl, _⟩ := h; rfl) | (obtain ⟨_, _, _, _, _, _, _, _, _, _, _, _, _, _, _, _, _, _, rfl, _⟩ := h; rfl) | (obtain ⟨_, _, _, _, _, _, _, _, _, rfl, _⟩ := h; rfl) | (obtain ⟨_, _, _, _, _, _, _, _, _, _, rfl, _⟩ := h; rfl) | (obtain ⟨_, _, _, _, _, _, _, _, _, _, _, rfl, _⟩ := h; rfl) | (obtain ⟨_, _, _, _, _, _, _, _, _, _, _, _, rfl, _⟩ := h; rfl) | (obtain ⟨_, _, _, _, _, _, _, _, _, _, _, _, _, rfl, _⟩ := h; rfl) | (obtain ⟨_, _, _, _, _, _, _, _, _, _, _, _, _, _, rfl, _⟩ := h; rfl) | (obtain ⟨_, _, _, _, _, _, _, _, _, _, _, _, _, _, _, rfl, _⟩ := h; rfl) | (obtain ⟨_, _, _, _, _, _, _, _, _, _, _, _, _, _, _, _, rfl, _⟩ := h; rfl) | (obtain ⟨_, _, _, _, _, _, _, _, _, _, _, _, _, _, _, _, _, rfl, _⟩ := h; rfl)
  · exact (pss_cons (ps_setLc (i := 1) (own := [("one", 2)]) (g := gName 2) (tt := tYes) (by rfl) sc_shown.nd rfl rfl (sw_true rfl rfl rfl (by decide +kernel)) (pi_reversed (by rfl) T.n_reversed (pa_cons (pe_call (ok_ended T) (hr.mono (by decide)) rfl T.g_ended T.f_ended.kp T.b_ended .nil (passes_call (takes_of rfl rfl rfl rfl) (fun _ _ _ _ h => h)) (pa_cons (pv 0) pa_nil)) pa_nil)) (blkOk_by (own := [("one", 2)]) (N := n_shown) (sc := defScope s_shown) (by decide +kernel)) (fun _ _ _ _ _ => pg_name (i := 2) sc_shown.nd rfl (Or.inl rfl)) (fun _ _ _ _ _ => pts_nil) (fun _ _ _ _ _ => (pe_call (ok_sign_of T) (hr.mono (by decide)) rfl T.g_sign_of T.f_sign_of.kp T.b_sign_of .nil pass0 (pa_cons (pv 2) pa_nil))))
    (pss_cons (ps_if (pt_cmpR (op_eqD hr.units) (pv 1) (pe_lst pa_nil) (nomark _)) (pss_one (ps_ret pe_str)) pss_nil)
    (pss_one (ps_ret (pe_join pe_str (pv 1))))))
theorem ok_thing_of (T : Txt K mg A F) : FnOk P w K mg base (L2.CX P w) 1 F.a_thing_of F.d_thing_of ["sign"] (sp_thing_of K A) := by
  refine T.f_thing_of.okX sc_thing_of (fun vs H Q E h => ?_) (fun cdv Ar outer s H vs Q E hr h => ⟨t_thing_of K A E, ?_, r_thing_of h⟩)
  · first | (obtain ⟨_, rfl, _⟩ := h; rfl) | (obtain ⟨_, _, rfl, _⟩ := h; rfl) | (obtain ⟨_, _, _, rfl, _⟩ := h; rfl) | (obtain ⟨_, _, _, _, rfl, _⟩ := h; rfl) | (obtain ⟨_, _, _, _, _, rfl, _⟩ := h; rfl) | (obtain ⟨_, _, _, _, _, _, rfl, _⟩ := h; rfl) | (obtain ⟨_, _, _, _, _, _, _, rfl, _⟩ := h; rfl) | (obtain ⟨_, _, _, _, _, _, _, _, rfl, _⟩ := h; rfl) | (obtain ⟨_, _, _, _, _, _, _, _, _, _, _, _, _, _, _, _, _, _, rfl, _⟩ := h; rfl) | (obtain ⟨_, _, _, _, _, _, _, _, _, rfl, _⟩ := h; rfl) | (obtain ⟨_, _, _, _, _, _, _, _, _, _, rfl, _⟩ := h; rfl) | (obtain ⟨_, _, _, _, _, _, _, _, _, _, _, rfl, _⟩ := h; rfl) | (obtain ⟨_, _, _, _, _, _, _, _, _, _, _, _, rfl, _⟩ := h; rfl) | (obtain ⟨_, _, _, _, _, _, _, _, _, _, _, _, _, rfl, _⟩ := h; rfl) | (obtain ⟨_, _, _, _, _, _, _, _, _, _, _, _, _, _, rfl, _⟩ := h; rfl) | (obtain ⟨_, _, _, _, _, _, _, _, _, _, _, _, _, _, _, rfl, _⟩ := h; rfl) | (obtain ⟨_, _, _, _, _, _, _, _, _, _, _, _, _, _, _, _, rfl, _⟩ := h; rfl) | (obtain ⟨_, _, _, _, _, _, _, _, _, _, _, _, _, _, _, _, _, rfl, _⟩ := h; rfl)
  · exact (pss_cons (ps_if (pt_cmpR op_eq (pv 0) pe_str (nomark _)) (pss_one (ps_ret pe_int)) pss_nil)
    (pss_cons (ps_if (pt_cmpR op_eq (pv 0) pe_str (nomark _)) (pss_one (ps_ret (pe_un un_neg pe_int))) pss_nil)
    (pss_cons (ps_if (pt_cmpR op_eq (pv 0) pe_str (nomark _)) (pss_one (ps_ret pe_int)) pss_nil)
    (pss_one (ps_raise rfl (takes_of rfl rfl rfl rfl) (pmk_own PySem.F.excBase_ValueError T.x_NoText T.g_NoText T.k_NoText (raises_own T.s_NoText T.t_NoText) (by rfl)))))))
theorem ok_read (T : Txt K mg A F) : FnOk P w K mg base (L2.CX P w) 2 F.a_read F.d_read ["text"] (sp_read K A) := by
  refine T.f_read.okX sc_read (fun vs H Q E h => ?_) (fun cdv Ar outer s H vs Q E hr h => ⟨t_read K A E, ?_, r_read h⟩)
  · first | (obtain ⟨_, rfl, _⟩ := h; rfl) | (obtain ⟨_, _, rfl, _⟩ := h; rfl) | (obtain ⟨_, _, _, rfl, _⟩ := h; rfl) | (obtain ⟨_, _, _, _, rfl, _⟩ := h; rfl) | (obtain ⟨_, _, _, _, _, rfl, _⟩ := h; rfl) | (obtain ⟨_, _, _, _, _, _, rfl, _⟩ := h; rfl) | (obtain ⟨_, _, _, _, _, _, _, rfl, _⟩ := h; rfl) | (obtain ⟨_, _, _, _, _, _, _, _, rfl, _⟩ := h; rfl) | (obtain ⟨_, _, _, _, _, _, _, _, _, _, _, _, _, _, _, _, _, _, rfl, _⟩ := h; rfl) | (obtain ⟨_, _, _, _, _, _, _, _, _, rfl, _⟩ := h; rfl) | (obtain ⟨_, _, _, _, _, _, _, _, _, _, rfl, _⟩ := h; rfl) | (obtain ⟨_, _, _, _, _, _, _, _, _, _, _, rfl, _⟩ := h; rfl) | (obtain ⟨_, _, _, _, _, _, _, _, _, _, _, _, rfl, _⟩ := h; rfl) | (obtain ⟨_, _, _, _, _, _, _, _, _, _, _, _, _, rfl, _⟩ := h; rfl) | (obtain ⟨_, _, _, _, _, _, _, _, _, _, _, _, _, _, rfl, _⟩ := h; rfl) | (obtain ⟨_, _, _, _, _, _, _, _, _, _, _, _, _, _, _, rfl, _⟩ := h; rfl) | (obtain ⟨_, _, _, _, _, _, _, _, _, _, _, _, _, _, _, _, rfl, _⟩ := h; rfl) | (obtain ⟨_, _, _, _, _, _, _, _, _, _, _, _, _, _, _, _, _, rfl, _⟩ := h; rfl)
  · exact (pss_cons (ps_if (PW.pt (pw_or (pt_not (pt_val (pe_callB call_isi (by rfl) T.n_isinstance (by decide +kernel) (pa_cons (pv 0) (pa_cons (pe_bltn (by rfl) T.n_str (by decide +kernel) rfl) pa_nil))))) (pw_or1 (pt_cmpR op_eq (pv 0) pe_str (nomark _))))) (pss_one (ps_raise rfl (takes_of rfl rfl rfl rfl) (pmk_own PySem.F.excBase_ValueError T.x_NoText T.g_NoText T.k_NoText (raises_own T.s_NoText T.t_NoText) (by rfl)))) pss_nil)
    (pss_cons (ps_if (pt_cmpR op_eq (pv 0) pe_str (nomark _)) (pss_one (ps_ret (pe_lst pa_nil))) pss_nil)
    (pss_cons (ps_if (pt_cmpR op_eq (pe_ix ix_str (pv 0) pe_int (fun _ _ => rfl)) pe_str (nomark _)) (pss_one (ps_raise rfl (takes_of rfl rfl rfl rfl) (pmk_own PySem.F.excBase_ValueError T.x_NoText T.g_NoText T.k_NoText (raises_own T.s_NoText T.t_NoText) (by rfl)))) pss_nil)
    (pss_one (ps_ret (pe_lcE (own := [("sign", 1)]) (g := gName 1) (tt := tYes) rfl rfl (takes_of rfl rfl rfl rfl) (by rfl) sc_read.nd (pi_back (by rfl) T.n_reversed (pv 0)) (blkOk_by (own := [("sign", 1)]) (N := n_read) (sc := defScope s_read) (by decide +kernel)) (fun _ _ _ _ _ _ => pg_name (i := 1) sc_read.nd rfl (Or.inl rfl)) (fun _ _ _ _ _ _ => pts_nil) (fun _ _ _ _ _ _ pb => (pe_call (ok_thing_of T) (hr.mono (by decide)) rfl T.g_thing_of T.f_thing_of.kp T.b_thing_of .nil pb (pa_cons (pv 1) pa_nil)))))))))
theorem ok_l_cell_at (T : Txt K mg A F) : FnOk P w K mg base CX0 1 F.a_l_cell_at F.d_l_cell_at ["_law_script", "_law_k"] (sp_l_cell_at K A) := by
  refine T.f_l_cell_at.ok sc_l_cell_at (fun vs H Q E h => ?_) (fun cdv Ar outer s H vs Q E hr h => ⟨t_l_cell_at K A, ?_, r_l_cell_at h⟩)
  · first | (obtain ⟨_, rfl, _⟩ := h; rfl) | (obtain ⟨_, _, rfl, _⟩ := h; rfl) | (obtain ⟨_, _, _, rfl, _⟩ := h; rfl) | (obtain ⟨_, _, _, _, rfl, _⟩ := h; rfl) | (obtain ⟨_, _, _, _, _, rfl, _⟩ := h; rfl) | (obtain ⟨_, _, _, _, _, _, rfl, _⟩ := h; rfl) | (obtain ⟨_, _, _, _, _, _, _, rfl, _⟩ := h; rfl) | (obtain ⟨_, _, _, _, _, _, _, _, rfl, _⟩ := h; rfl) | (obtain ⟨_, _, _, _, _, _, _, _, _, _, _, _, _, _, _, _, _, _, rfl, _⟩ := h; rfl) | (obtain ⟨_, _, _, _, _, _, _, _, _, rfl, _⟩ := h; rfl) | (obtain ⟨_, _, _, _, _, _, _, _, _, _, rfl, _⟩ := h; rfl) | (obtain ⟨_, _, _, _, _, _, _, _, _, _, _, rfl, _⟩ := h; rfl) | (obtain ⟨_, _, _, _, _, _, _, _, _, _, _, _, rfl, _⟩ := h; rfl) | (obtain ⟨_, _, _, _, _, _, _, _, _, _, _, _, _, rfl, _⟩ := h; rfl) | (obtain ⟨_, _, _, _, _, _, _, _, _, _, _, _, _, _, rfl, _⟩ := h; rfl) | (obtain ⟨_, _, _, _, _, _, _, _, _, _, _, _, _, _, _, rfl, _⟩ := h; rfl) | (obtain ⟨_, _, _, _, _, _, _, _, _, _, _, _, _, _, _, _, rfl, _⟩ := h; rfl) | (obtain ⟨_, _, _, _, _, _, _, _, _, _, _, _, _, _, _, _, _, rfl, _⟩ := h; rfl)
  · exact (pss_cons (ps_if (pt_cmpR op_lt (pv 1) (pe_callB call_len_seq (by rfl) T.n_len (by decide +kernel) (pa_cons (pv 0) pa_nil)) (nomark _)) (pss_one (ps_ret (pe_ix ix_list (pv 0) (pv 1) (fun _ _ => rfl)))) pss_nil)
    (pss_one (ps_ret pe_int)))
theorem ok_l_whole (T : Txt K mg A F) : FnOk P w K mg base CX0 1 F.a_l_whole F.d_l_whole ["_law_found"] (sp_l_whole K A) := by
  refine T.f_l_whole.ok sc_l_whole (fun vs H Q E h => ?_) (fun cdv Ar outer s H vs Q E hr h => ⟨t_l_whole K A, ?_, r_l_whole h⟩)
  · first | (obtain ⟨_, rfl, _⟩ := h; rfl) | (obtain ⟨_, _, rfl, _⟩ := h; rfl) | (obtain ⟨_, _, _, rfl, _⟩ := h; rfl) | (obtain ⟨_, _, _, _, rfl, _⟩ := h; rfl) | (obtain ⟨_, _, _, _, _, rfl, _⟩ := h; rfl) | (obtain ⟨_, _, _, _, _, _, rfl, _⟩ := h; rfl) | (obtain ⟨_, _, _, _, _, _, _, rfl, _⟩ := h; rfl) | (obtain ⟨_, _, _, _, _, _, _, _, rfl, _⟩ := h; rfl) | (obtain ⟨_, _, _, _, _, _, _, _, _, _, _, _, _, _, _, _, _, _, rfl, _⟩ := h; rfl) | (obtain ⟨_, _, _, _, _, _, _, _, _, rfl, _⟩ := h; rfl) | (obtain ⟨_, _, _, _, _, _, _, _, _, _, rfl, _⟩ := h; rfl) | (obtain ⟨_, _, _, _, _, _, _, _, _, _, _, rfl, _⟩ := h; rfl) | (obtain ⟨_, _, _, _, _, _, _, _, _, _, _, _, rfl, _⟩ := h; rfl) | (obtain ⟨_, _, _, _, _, _, _, _, _, _, _, _, _, rfl, _⟩ := h; rfl) | (obtain ⟨_, _, _, _, _, _, _, _, _, _, _, _, _, _, rfl, _⟩ := h; rfl) | (obtain ⟨_, _, _, _, _, _, _, _, _, _, _, _, _, _, _, rfl, _⟩ := h; rfl) | (obtain ⟨_, _, _, _, _, _, _, _, _, _, _, _, _, _, _, _, rfl, _⟩ := h; rfl) | (obtain ⟨_, _, _, _, _, _, _, _, _, _, _, _, _, _, _, _, _, rfl, _⟩ := h; rfl)
  · exact (pss_one (ps_ret (pe_and (pe_callB call_isi (by rfl) T.n_isinstance (by decide +kernel) (pa_cons (pv 0) (pa_cons (pe_bltn (by rfl) T.n_int (by decide +kernel) rfl) pa_nil))) (pe_one (pe_not (pe_callB call_isi (by rfl) T.n_isinstance (by decide +kernel) (pa_cons (pv 0) (pa_cons (pe_bltn (by rfl) T.n_bool (by decide +kernel) rfl) pa_nil))))))))
theorem ok_l_things (T : Txt K mg A F) : FnOk P w K mg base CX0 2 F.a_l_things F.d_l_things ["_law_script"] (sp_l_things K A) := by
  refine T.f_l_things.ok sc_l_things (fun vs H Q E h => ?_) (fun cdv Ar outer s H vs Q E hr h => ⟨t_l_things K A, ?_, r_l_things h⟩)
  · first | (obtain ⟨_, rfl, _⟩ := h; rfl) | (obtain ⟨_, _, rfl, _⟩ := h; rfl) | (obtain ⟨_, _, _, rfl, _⟩ := h; rfl) | (obtain ⟨_, _, _, _, rfl, _⟩ := h; rfl) | (obtain ⟨_, _, _, _, _, rfl, _⟩ := h; rfl) | (obtain ⟨_, _, _, _, _, _, rfl, _⟩ := h; rfl) | (obtain ⟨_, _, _, _, _, _, _, rfl, _⟩ := h; rfl) | (obtain ⟨_, _, _, _, _, _, _, _, rfl, _⟩ := h; rfl) | (obtain ⟨_, _, _, _, _, _, _, _, _, _, _, _, _, _, _, _, _, _, rfl, _⟩ := h; rfl) | (obtain ⟨_, _, _, _, _, _, _, _, _, rfl, _⟩ := h; rfl) | (obtain ⟨_, _, _, _, _, _, _, _, _, _, rfl, _⟩ := h; rfl) | (obtain ⟨_, _, _, _, _, _, _, _, _, _, _, rfl, _⟩ := h; rfl) | (obtain ⟨_, _, _, _, _, _, _, _, _, _, _, _, rfl, _⟩ := h; rfl) | (obtain ⟨_, _, _, _, _, _, _, _, _, _, _, _, _, rfl, _⟩ := h; rfl) | (obtain ⟨_, _, _, _, _, _, _, _, _, _, _, _, _, _, rfl, _⟩ := h; rfl) | (obtain ⟨_, _, _, _, _, _, _, _, _, _, _, _, _, _, _, rfl, _⟩ := h; rfl) | (obtain ⟨_, _, _, _, _, _, _, _, _, _, _, _, _, _, _, _, rfl, _⟩ := h; rfl) | (obtain ⟨_, _, _, _, _, _, _, _, _, _, _, _, _, _, _, _, _, rfl, _⟩ := h; rfl)
  · exact (pss_cons (ps_setLc (i := 2) (own := [("_law_cell", 1)]) (g := gName 1) (tt := tYes) (by rfl) sc_l_things.nd rfl rfl (sw_true rfl rfl rfl (by decide +kernel)) (pi_list (pe_slice sl_list (pv 0) (po_some pe_int) (po_some pe_int))) (blkOk_by (own := [("_law_cell", 1)]) (N := n_l_things) (sc := defScope s_l_things) (by decide +kernel)) (fun _ _ _ _ _ => pg_name (i := 1) sc_l_things.nd rfl (Or.inl rfl)) (fun _ _ _ _ _ => pts_nil) (fun _ _ _ _ _ => (pe_op op_sub (pe_op op_mod (pv 1) pe_int) pe_int)))
    (pss_cons (ps_set (i := 1) sc_l_things.nd rfl (Or.inl rfl) (pe_call (ok_l_cell_at T) (hr.mono (by decide)) rfl T.g_l_cell_at T.f_l_cell_at.kp T.b_l_cell_at .nil pass0 (pa_cons (pv 0) (pa_cons pe_int pa_nil))))
    (pss_one (ps_ret (pe_op op_cat (pe_op op_rep (pv 2) (pe_op op_add pe_int (pe_op op_mod (pv 1) pe_int))) (pe_op op_rep (pe_lst (pa_cons pe_int pa_nil)) (pe_op op_mod (pe_op op_fdiv (pv 1) pe_int) pe_int)))))))
theorem ok_l_endedT (T : Txt K mg A F) : FnOk P w K mg base CX0 1 F.a_l_endedT F.d_l_endedT ["_law_things_here"] (sp_l_endedT K A) := by
  refine T.f_l_endedT.ok sc_l_endedT (fun vs H Q E h => ?_) (fun cdv Ar outer s H vs Q E hr h => ⟨t_l_endedT K A, ?_, r_l_endedT h⟩)
  · first | (obtain ⟨_, rfl, _⟩ := h; rfl) | (obtain ⟨_, _, rfl, _⟩ := h; rfl) | (obtain ⟨_, _, _, rfl, _⟩ := h; rfl) | (obtain ⟨_, _, _, _, rfl, _⟩ := h; rfl) | (obtain ⟨_, _, _, _, _, rfl, _⟩ := h; rfl) | (obtain ⟨_, _, _, _, _, _, rfl, _⟩ := h; rfl) | (obtain ⟨_, _, _, _, _, _, _, rfl, _⟩ := h; rfl) | (obtain ⟨_, _, _, _, _, _, _, _, rfl, _⟩ := h; rfl) | (obtain ⟨_, _, _, _, _, _, _, _, _, _, _, _, _, _, _, _, _, _, rfl, _⟩ := h; rfl) | (obtain ⟨_, _, _, _, _, _, _, _, _, rfl, _⟩ := h; rfl) | (obtain ⟨_, _, _, _, _, _, _, _, _, _, rfl, _⟩ := h; rfl) | (obtain ⟨_, _, _, _, _, _, _, _, _, _, _, rfl, _⟩ := h; rfl) | (obtain ⟨_, _, _, _, _, _, _, _, _, _, _, _, rfl, _⟩ := h; rfl) | (obtain ⟨_, _, _, _, _, _, _, _, _, _, _, _, _, rfl, _⟩ := h; rfl) | (obtain ⟨_, _, _, _, _, _, _, _, _, _, _, _, _, _, rfl, _⟩ := h; rfl) | (obtain ⟨_, _, _, _, _, _, _, _, _, _, _, _, _, _, _, rfl, _⟩ := h; rfl) | (obtain ⟨_, _, _, _, _, _, _, _, _, _, _, _, _, _, _, _, rfl, _⟩ := h; rfl) | (obtain ⟨_, _, _, _, _, _, _, _, _, _, _, _, _, _, _, _, _, rfl, _⟩ := h; rfl)
  · exact (pss_cons (ps_set (i := 1) sc_l_endedT.nd rfl (Or.inl rfl) (pe_lst pa_nil))
    (pss_cons (ps_for PassesOwn.never rfl (pi_range1 (by rfl) T.n_range (pa_cons (pe_callB call_len_seq (by rfl) T.n_len (by decide +kernel) (pa_cons (pv 0) pa_nil)) pa_nil)) (pg_name (i := 2) sc_l_endedT.nd rfl (Or.inl rfl)) (pss_one (ps_if (pt_cmpR op_ne (pe_ix ix_list (pv 0) (pv 2) (fun _ _ => rfl)) pe_int (nomark _)) (pss_one (ps_set (i := 1) sc_l_endedT.nd rfl (Or.inl rfl) (pe_slice sl_list (pv 0) po_none (po_some (pe_op op_add (pv 2) pe_int))))) pss_nil)))
    (pss_one (ps_ret (pv 1)))))
theorem ok_l_shown (T : Txt K mg A F) : FnOk P w K mg base CX0 1 F.a_l_shown F.d_l_shown ["_law_things_here"] (sp_l_shown K A) := by
  refine T.f_l_shown.ok sc_l_shown (fun vs H Q E h => ?_) (fun cdv Ar outer s H vs Q E hr h => ⟨t_l_shown K A, ?_, r_l_shown h⟩)
  · first | (obtain ⟨_, rfl, _⟩ := h; rfl) | (obtain ⟨_, _, rfl, _⟩ := h; rfl) | (obtain ⟨_, _, _, rfl, _⟩ := h; rfl) | (obtain ⟨_, _, _, _, rfl, _⟩ := h; rfl) | (obtain ⟨_, _, _, _, _, rfl, _⟩ := h; rfl) | (obtain ⟨_, _, _, _, _, _, rfl, _⟩ := h; rfl) | (obtain ⟨_, _, _, _, _, _, _, rfl, _⟩ := h; rfl) | (obtain ⟨_, _, _, _, _, _, _, _, rfl, _⟩ := h; rfl) | (obtain ⟨_, _, _, _, _, _, _, _, _, _, _, _, _, _, _, _, _, _, rfl, _⟩ := h; rfl) | (obtain ⟨_, _, _, _, _, _, _, _, _, rfl, _⟩ := h; rfl) | (obtain ⟨_, _, _, _, _, _, _, _, _, _, rfl, _⟩ := h; rfl) | (obtain ⟨_, _, _, _, _, _, _, _, _, _, _, rfl, _⟩ := h; rfl) | (obtain ⟨_, _, _, _, _, _, _, _, _, _, _, _, rfl, _⟩ := h; rfl) | (obtain ⟨_, _, _, _, _, _, _, _, _, _, _, _, _, rfl, _⟩ := h; rfl) | (obtain ⟨_, _, _, _, _, _, _, _, _, _, _, _, _, _, rfl, _⟩ := h; rfl) | (obtain ⟨_, _, _, _, _, _, _, _, _, _, _, _, _, _, _, rfl, _⟩ := h; rfl) | (obtain ⟨_, _, _, _, _, _, _, _, _, _, _, _, _, _, _, _, rfl, _⟩ := h; rfl) | (obtain ⟨_, _, _, _, _, _, _, _, _, _, _, _, _, _, _, _, _, rfl, _⟩ := h; rfl)
  · exact (pss_cons (ps_set (i := 1) sc_l_shown.nd rfl (Or.inl rfl) pe_str)
    (pss_cons (ps_for PassesOwn.never rfl (pi_list (pv 0)) (pg_name (i := 2) sc_l_shown.nd rfl (Or.inl rfl)) (pss_one (ps_set (i := 1) sc_l_shown.nd rfl (Or.inl rfl) (pe_op op_add_str (pe_ix ix_str pe_str (pe_op op_add (pv 2) pe_int) (fun _ _ => rfl)) (pv 1)))))
    (pss_cons (ps_set (i := 1) sc_l_shown.nd rfl (Or.inl rfl) (pe_m1 PySem.F.slot_str_lstrip PySem.F.type_str_lstrip mt_lstripChars (pv 1) pe_str))
    (pss_cons (ps_if (pt_cmpR op_eq (pv 1) pe_str (nomark _)) (pss_one (ps_ret pe_str)) pss_nil)
    (pss_one (ps_ret (pv 1)))))))
theorem ok_l_laying_of (T : Txt K mg A F) : FnOk P w K mg base CX0 1 F.a_l_laying_of F.d_l_laying_of ["_law_line_here"] (sp_l_laying_of K A) := by
  refine T.f_l_laying_of.ok sc_l_laying_of (fun vs H Q E h => ?_) (fun cdv Ar outer s H vs Q E hr h => ⟨t_l_laying_of K A, ?_, r_l_laying_of h⟩)
  · first | (obtain ⟨_, rfl, _⟩ := h; rfl) | (obtain ⟨_, _, rfl, _⟩ := h; rfl) | (obtain ⟨_, _, _, rfl, _⟩ := h; rfl) | (obtain ⟨_, _, _, _, rfl, _⟩ := h; rfl) | (obtain ⟨_, _, _, _, _, rfl, _⟩ := h; rfl) | (obtain ⟨_, _, _, _, _, _, rfl, _⟩ := h; rfl) | (obtain ⟨_, _, _, _, _, _, _, rfl, _⟩ := h; rfl) | (obtain ⟨_, _, _, _, _, _, _, _, rfl, _⟩ := h; rfl) | (obtain ⟨_, _, _, _, _, _, _, _, _, _, _, _, _, _, _, _, _, _, rfl, _⟩ := h; rfl) | (obtain ⟨_, _, _, _, _, _, _, _, _, rfl, _⟩ := h; rfl) | (obtain ⟨_, _, _, _, _, _, _, _, _, _, rfl, _⟩ := h; rfl) | (obtain ⟨_, _, _, _, _, _, _, _, _, _, _, rfl, _⟩ := h; rfl) | (obtain ⟨_, _, _, _, _, _, _, _, _, _, _, _, rfl, _⟩ := h; rfl) | (obtain ⟨_, _, _, _, _, _, _, _, _, _, _, _, _, rfl, _⟩ := h; rfl) | (obtain ⟨_, _, _, _, _, _, _, _, _, _, _, _, _, _, rfl, _⟩ := h; rfl) | (obtain ⟨_, _, _, _, _, _, _, _, _, _, _, _, _, _, _, rfl, _⟩ := h; rfl) | (obtain ⟨_, _, _, _, _, _, _, _, _, _, _, _, _, _, _, _, rfl, _⟩ := h; rfl) | (obtain ⟨_, _, _, _, _, _, _, _, _, _, _, _, _, _, _, _, _, rfl, _⟩ := h; rfl)
  · exact (pss_cons (ps_if (pt_cmpR op_eq (pv 0) pe_str (nomark _)) (pss_one (ps_ret (pe_lst pa_nil))) pss_nil)
    (pss_cons (ps_if (PW.pt (pw_or (pt_cmpR op_eq (pv 0) pe_str (nomark _)) (pw_or1 (pt_cmpR op_eq (pe_ix ix_str (pv 0) pe_int (fun _ _ => rfl)) pe_str (nomark _))))) (pss_one (ps_ret pe_non)) pss_nil)
    (pss_cons (ps_set (i := 1) sc_l_laying_of.nd rfl (Or.inl rfl) (pe_lst pa_nil))
    (pss_cons (ps_for PassesOwn.never rfl (pi_str (pv 0)) (pg_name (i := 2) sc_l_laying_of.nd rfl (Or.inl rfl)) (pss_cons (ps_if (pt_cmpR op_notIn_sign (pv 2) pe_str (by rfl)) (pss_one (ps_ret pe_non)) pss_nil)
    (pss_one (ps_expr (pe_bm PySem.F.plainAttrs_list PySem.F.slot_list_append PySem.F.type_list_append mt_append (pv 1) (pa_cons (pe_op op_sub (pe_m1 PySem.F.slot_str_find PySem.F.type_str_find mt_find pe_str (pv 2)) pe_int) pa_nil))))))
    (pss_one (ps_ret (pe_revL (pv 1))))))))
theorem ok_l_same (T : Txt K mg A F) : FnOk P w K mg base CX0 2 F.a_l_same F.d_l_same ["_law_found", "_law_due"] (sp_l_same K A) := by
  refine T.f_l_same.ok sc_l_same (fun vs H Q E h => ?_) (fun cdv Ar outer s H vs Q E hr h => ⟨t_l_same K A, ?_, r_l_same h⟩)
  · first | (obtain ⟨_, rfl, _⟩ := h; rfl) | (obtain ⟨_, _, rfl, _⟩ := h; rfl) | (obtain ⟨_, _, _, rfl, _⟩ := h; rfl) | (obtain ⟨_, _, _, _, rfl, _⟩ := h; rfl) | (obtain ⟨_, _, _, _, _, rfl, _⟩ := h; rfl) | (obtain ⟨_, _, _, _, _, _, rfl, _⟩ := h; rfl) | (obtain ⟨_, _, _, _, _, _, _, rfl, _⟩ := h; rfl) | (obtain ⟨_, _, _, _, _, _, _, _, rfl, _⟩ := h; rfl) | (obtain ⟨_, _, _, _, _, _, _, _, _, _, _, _, _, _, _, _, _, _, rfl, _⟩ := h; rfl) | (obtain ⟨_, _, _, _, _, _, _, _, _, rfl, _⟩ := h; rfl) | (obtain ⟨_, _, _, _, _, _, _, _, _, _, rfl, _⟩ := h; rfl) | (obtain ⟨_, _, _, _, _, _, _, _, _, _, _, rfl, _⟩ := h; rfl) | (obtain ⟨_, _, _, _, _, _, _, _, _, _, _, _, rfl, _⟩ := h; rfl) | (obtain ⟨_, _, _, _, _, _, _, _, _, _, _, _, _, rfl, _⟩ := h; rfl) | (obtain ⟨_, _, _, _, _, _, _, _, _, _, _, _, _, _, rfl, _⟩ := h; rfl) | (obtain ⟨_, _, _, _, _, _, _, _, _, _, _, _, _, _, _, rfl, _⟩ := h; rfl) | (obtain ⟨_, _, _, _, _, _, _, _, _, _, _, _, _, _, _, _, rfl, _⟩ := h; rfl) | (obtain ⟨_, _, _, _, _, _, _, _, _, _, _, _, _, _, _, _, _, rfl, _⟩ := h; rfl)
  · exact (pss_cons (ps_if (PW.pt (pw_or (pt_not (pt_val (pe_callB call_isi (by rfl) T.n_isinstance (by decide +kernel) (pa_cons (pv 0) (pa_cons (pe_bltn (by rfl) T.n_list (by decide +kernel) rfl) pa_nil))))) (pw_or1 (pt_cmpR op_ne (pe_callB call_len_seq (by rfl) T.n_len (by decide +kernel) (pa_cons (pv 0) pa_nil)) (pe_callB call_len_seq (by rfl) T.n_len (by decide +kernel) (pa_cons (pv 1) pa_nil)) (nomark _))))) (pss_one (ps_ret pe_bl)) pss_nil)
    (pss_cons (ps_for PassesOwn.never rfl (pi_range1 (by rfl) T.n_range (pa_cons (pe_callB call_len_seq (by rfl) T.n_len (by decide +kernel) (pa_cons (pv 1) pa_nil)) pa_nil)) (pg_name (i := 2) sc_l_same.nd rfl (Or.inl rfl)) (pss_one (ps_if (PW.pt (pw_or (pt_not (pt_val (pe_call (ok_l_whole T) (hr.mono (by decide)) rfl T.g_l_whole T.f_l_whole.kp T.b_l_whole .nil pass0 (pa_cons (pe_ix ix_list (pv 0) (pv 2) (fun _ _ => rfl)) pa_nil)))) (pw_or1 (pt_cmpR op_ne (pe_ix ix_list (pv 0) (pv 2) (fun _ _ => rfl)) (pe_ix ix_list (pv 1) (pv 2) (fun _ _ => rfl)) (nomark _))))) (pss_one (ps_ret pe_bl)) pss_nil)))
    (pss_one (ps_ret pe_bl))))
theorem ok_l_sign_by (T : Txt K mg A F) : FnOk P w K mg base CX0 1 F.a_l_sign_by F.d_l_sign_by ["_law_cell"] (sp_l_sign_by K A) := by
  refine T.f_l_sign_by.ok sc_l_sign_by (fun vs H Q E h => ?_) (fun cdv Ar outer s H vs Q E hr h => ⟨t_l_sign_by K A, ?_, r_l_sign_by h⟩)
  · first | (obtain ⟨_, rfl, _⟩ := h; rfl) | (obtain ⟨_, _, rfl, _⟩ := h; rfl) | (obtain ⟨_, _, _, rfl, _⟩ := h; rfl) | (obtain ⟨_, _, _, _, rfl, _⟩ := h; rfl) | (obtain ⟨_, _, _, _, _, rfl, _⟩ := h; rfl) | (obtain ⟨_, _, _, _, _, _, rfl, _⟩ := h; rfl) | (obtain ⟨_, _, _, _, _, _, _, rfl, _⟩ := h; rfl) | (obtain ⟨_, _, _, _, _, _, _, _, rfl, _⟩ := h; rfl) | (obtain ⟨_, _, _, _, _, _, _, _, _, _, _, _, _, _, _, _, _, _, rfl, _⟩ := h; rfl) | (obtain ⟨_, _, _, _, _, _, _, _, _, rfl, _⟩ := h; rfl) | (obtain ⟨_, _, _, _, _, _, _, _, _, _, rfl, _⟩ := h; rfl) | (obtain ⟨_, _, _, _, _, _, _, _, _, _, _, rfl, _⟩ := h; rfl) | (obtain ⟨_, _, _, _, _, _, _, _, _, _, _, _, rfl, _⟩ := h; rfl) | (obtain ⟨_, _, _, _, _, _, _, _, _, _, _, _, _, rfl, _⟩ := h; rfl) | (obtain ⟨_, _, _, _, _, _, _, _, _, _, _, _, _, _, rfl, _⟩ := h; rfl) | (obtain ⟨_, _, _, _, _, _, _, _, _, _, _, _, _, _, _, rfl, _⟩ := h; rfl) | (obtain ⟨_, _, _, _, _, _, _, _, _, _, _, _, _, _, _, _, rfl, _⟩ := h; rfl) | (obtain ⟨_, _, _, _, _, _, _, _, _, _, _, _, _, _, _, _, _, rfl, _⟩ := h; rfl)
  · exact (pss_cons (ps_set (i := 1) sc_l_sign_by.nd rfl (Or.inl rfl) pe_str)
    (pss_cons (ps_set (i := 1) sc_l_sign_by.nd rfl (Or.inl rfl) (pe_op op_add_str (pv 1) pe_str))
    (pss_one (ps_ret (pe_ix ix_str (pv 1) (pe_op op_mod (pv 0) pe_int) (fun _ _ => rfl))))))
theorem ok_l_line (T : Txt K mg A F) : FnOk P w K mg base CX0 2 F.a_l_line F.d_l_line ["_law_script"] (sp_l_line K A) := by
  refine T.f_l_line.ok sc_l_line (fun vs H Q E h => ?_) (fun cdv Ar outer s H vs Q E hr h => ⟨t_l_line K A, ?_, r_l_line h⟩)
  · first | (obtain ⟨_, rfl, _⟩ := h; rfl) | (obtain ⟨_, _, rfl, _⟩ := h; rfl) | (obtain ⟨_, _, _, rfl, _⟩ := h; rfl) | (obtain ⟨_, _, _, _, rfl, _⟩ := h; rfl) | (obtain ⟨_, _, _, _, _, rfl, _⟩ := h; rfl) | (obtain ⟨_, _, _, _, _, _, rfl, _⟩ := h; rfl) | (obtain ⟨_, _, _, _, _, _, _, rfl, _⟩ := h; rfl) | (obtain ⟨_, _, _, _, _, _, _, _, rfl, _⟩ := h; rfl) | (obtain ⟨_, _, _, _, _, _, _, _, _, _, _, _, _, _, _, _, _, _, rfl, _⟩ := h; rfl) | (obtain ⟨_, _, _, _, _, _, _, _, _, rfl, _⟩ := h; rfl) | (obtain ⟨_, _, _, _, _, _, _, _, _, _, rfl, _⟩ := h; rfl) | (obtain ⟨_, _, _, _, _, _, _, _, _, _, _, rfl, _⟩ := h; rfl) | (obtain ⟨_, _, _, _, _, _, _, _, _, _, _, _, rfl, _⟩ := h; rfl) | (obtain ⟨_, _, _, _, _, _, _, _, _, _, _, _, _, rfl, _⟩ := h; rfl) | (obtain ⟨_, _, _, _, _, _, _, _, _, _, _, _, _, _, rfl, _⟩ := h; rfl) | (obtain ⟨_, _, _, _, _, _, _, _, _, _, _, _, _, _, _, rfl, _⟩ := h; rfl) | (obtain ⟨_, _, _, _, _, _, _, _, _, _, _, _, _, _, _, _, rfl, _⟩ := h; rfl) | (obtain ⟨_, _, _, _, _, _, _, _, _, _, _, _, _, _, _, _, _, rfl, _⟩ := h; rfl)
  · exact (pss_cons (ps_set (i := 1) sc_l_line.nd rfl (Or.inl rfl) (pe_op op_mod (pe_call (ok_l_cell_at T) (hr.mono (by decide)) rfl T.g_l_cell_at T.f_l_cell_at.kp T.b_l_cell_at .nil pass0 (pa_cons (pv 0) (pa_cons pe_int pa_nil))) pe_int))
    (pss_cons (ps_set (i := 2) sc_l_line.nd rfl (Or.inl rfl) (pe_join pe_str (pe_lc (own := [("_law_cell", 4)]) (g := gName 4) (tt := tYes) (by rfl) sc_l_line.nd (pi_list (pe_slice sl_list (pv 0) (po_some pe_int) (po_some pe_int))) (blkOk_by (own := [("_law_cell", 4)]) (N := n_l_line) (sc := defScope s_l_line) (by decide +kernel)) (fun _ _ _ _ _ => pg_name (i := 4) sc_l_line.nd rfl (Or.inl rfl)) (fun _ _ _ _ _ => pts_nil) (fun _ _ _ _ _ => (pe_ix ix_str pe_str (pe_op op_mod (pe_op op_fdiv (pv 4) pe_int) pe_int) (fun _ _ => rfl))))))
    (pss_cons (ps_set (i := 2) sc_l_line.nd rfl (Or.inl rfl) (pe_op op_repS (pv 2) (pe_op op_add pe_int (pe_op op_mod (pe_op op_fdiv (pe_call (ok_l_cell_at T) (hr.mono (by decide)) rfl T.g_l_cell_at T.f_l_cell_at.kp T.b_l_cell_at .nil pass0 (pa_cons (pv 0) (pa_cons pe_int pa_nil))) pe_int) pe_int))))
    (pss_cons (ps_if (pt_cmpR op_eq (pv 1) pe_int (nomark _)) (pss_one (ps_ret (pe_op op_add_str pe_str (pv 2)))) pss_nil)
    (pss_cons (ps_if (pt_cmpR op_eq (pv 1) pe_int (nomark _)) (pss_one (ps_ret (pe_ix ix_list (pe_lst (pa_cons pe_str (pa_cons pe_str (pa_cons pe_str (pa_cons pe_str (pa_cons pe_str (pa_cons pe_str (pa_cons pe_str (pa_cons pe_str pa_nil))))))))) (pe_op op_mod (pe_call (ok_l_cell_at T) (hr.mono (by decide)) rfl T.g_l_cell_at T.f_l_cell_at.kp T.b_l_cell_at .nil pass0 (pa_cons (pv 0) (pa_cons pe_int pa_nil))) pe_int) (fun _ _ => rfl)))) pss_nil)
    (pss_cons (ps_if (pt_cmpR op_ne (pv 1) pe_int (nomark _)) (pss_one (ps_set (i := 2) sc_l_line.nd rfl (Or.inl rfl) (pe_m1 PySem.F.slot_str_lstrip PySem.F.type_str_lstrip mt_lstripChars (pv 2) pe_str))) pss_nil)
    (pss_cons (ps_set (i := 3) sc_l_line.nd rfl (Or.inl rfl) (pe_op op_mod (pe_call (ok_l_cell_at T) (hr.mono (by decide)) rfl T.g_l_cell_at T.f_l_cell_at.kp T.b_l_cell_at .nil pass0 (pa_cons (pv 0) (pa_cons pe_int pa_nil))) (pe_op op_add (pe_callB call_len (by rfl) T.n_len (by decide +kernel) (pa_cons (pv 2) pa_nil)) pe_int)))
    (pss_cons (ps_if (pt_cmpR op_eq (pv 1) pe_int (nomark _)) (pss_one (ps_ret (pe_op op_add_str (pe_op op_add_str (pe_slice sl_str (pv 2) po_none (po_some (pv 3))) (pe_call (ok_l_sign_by T) (hr.mono (by decide)) rfl T.g_l_sign_by T.f_l_sign_by.kp T.b_l_sign_by .nil pass0 (pa_cons (pe_call (ok_l_cell_at T) (hr.mono (by decide)) rfl T.g_l_cell_at T.f_l_cell_at.kp T.b_l_cell_at .nil pass0 (pa_cons (pv 0) (pa_cons pe_int pa_nil))) pa_nil))) (pe_slice sl_str (pv 2) (po_some (pv 3)) po_none)))) pss_nil)
    (pss_cons (ps_if (pt_cmpR op_eq (pv 1) pe_int (nomark _)) (pss_one (ps_ret (pe_op op_add_str (pe_op op_add_str (pe_slice sl_str (pv 2) po_none (po_some (pv 3))) (pe_call (ok_l_sign_by T) (hr.mono (by decide)) rfl T.g_l_sign_by T.f_l_sign_by.kp T.b_l_sign_by .nil pass0 (pa_cons (pe_call (ok_l_cell_at T) (hr.mono (by decide)) rfl T.g_l_cell_at T.f_l_cell_at.kp T.b_l_cell_at .nil pass0 (pa_cons (pv 0) (pa_cons pe_int pa_nil))) pa_nil))) (pe_slice sl_str (pv 2) (po_some (pe_op op_add (pv 3) pe_int)) po_none)))) pss_nil)
    (pss_one (ps_ret (pv 2))))))))))))
theorem ok_l_spoilt (T : Txt K mg A F) : FnOk P w K mg base CX0 1 F.a_l_spoilt F.d_l_spoilt ["_law_things_here", "_law_cell"] (sp_l_spoilt K A) := by
  refine T.f_l_spoilt.ok sc_l_spoilt (fun vs H Q E h => ?_) (fun cdv Ar outer s H vs Q E hr h => ⟨t_l_spoilt K A, ?_, r_l_spoilt h⟩)
  · first | (obtain ⟨_, rfl, _⟩ := h; rfl) | (obtain ⟨_, _, rfl, _⟩ := h; rfl) | (obtain ⟨_, _, _, rfl, _⟩ := h; rfl) | (obtain ⟨_, _, _, _, rfl, _⟩ := h; rfl) | (obtain ⟨_, _, _, _, _, rfl, _⟩ := h; rfl) | (obtain ⟨_, _, _, _, _, _, rfl, _⟩ := h; rfl) | (obtain ⟨_, _, _, _, _, _, _, rfl, _⟩ := h; rfl) | (obtain ⟨_, _, _, _, _, _, _, _, rfl, _⟩ := h; rfl) | (obtain ⟨_, _, _, _, _, _, _, _, _, _, _, _, _, _, _, _, _, _, rfl, _⟩ := h; rfl) | (obtain ⟨_, _, _, _, _, _, _, _, _, rfl, _⟩ := h; rfl) | (obtain ⟨_, _, _, _, _, _, _, _, _, _, rfl, _⟩ := h; rfl) | (obtain ⟨_, _, _, _, _, _, _, _, _, _, _, rfl, _⟩ := h; rfl) | (obtain ⟨_, _, _, _, _, _, _, _, _, _, _, _, rfl, _⟩ := h; rfl) | (obtain ⟨_, _, _, _, _, _, _, _, _, _, _, _, _, rfl, _⟩ := h; rfl) | (obtain ⟨_, _, _, _, _, _, _, _, _, _, _, _, _, _, rfl, _⟩ := h; rfl) | (obtain ⟨_, _, _, _, _, _, _, _, _, _, _, _, _, _, _, rfl, _⟩ := h; rfl) | (obtain ⟨_, _, _, _, _, _, _, _, _, _, _, _, _, _, _, _, rfl, _⟩ := h; rfl) | (obtain ⟨_, _, _, _, _, _, _, _, _, _, _, _, _, _, _, _, _, rfl, _⟩ := h; rfl)
  · exact (pss_cons (ps_set (i := 2) sc_l_spoilt.nd rfl (Or.inl rfl) (pe_op op_mod (pv 1) pe_int))
    (pss_cons (ps_if (pt_cmpR op_lt (pv 2) pe_int (nomark _)) (pss_cons (ps_set (i := 3) sc_l_spoilt.nd rfl (Or.inl rfl) (pe_op op_mod (pe_op op_fdiv (pv 1) pe_int) (pe_op op_add (pe_callB call_len_seq (by rfl) T.n_len (by decide +kernel) (pa_cons (pv 0) pa_nil)) pe_int)))
    (pss_one (ps_ret (pe_op op_cat (pe_op op_cat (pe_slice sl_list (pv 0) po_none (po_some (pv 3))) (pe_lst (pa_cons (pe_ix ix_list (pe_lst (pa_cons pe_int (pa_cons (pe_un un_neg pe_int) (pa_cons pe_bl (pa_cons pe_bl (pa_cons pe_non (pa_cons pe_str (pa_cons (pe_lst (pa_cons pe_int pa_nil)) (pa_cons (pe_op op_pow pe_int pe_int) (pa_cons (pe_tup (pa_cons pe_int pa_nil)) pa_nil)))))))))) (pv 2) (fun _ _ => rfl)) pa_nil))) (pe_slice sl_list (pv 0) (po_some (pv 3)) po_none))))) pss_nil)
    (pss_one (ps_ret (pe_ix ix_list (pe_lst (pa_cons pe_non (pa_cons pe_str (pa_cons (pe_tup (pa_cons pe_int (pa_cons pe_int (pa_cons (pe_un un_neg pe_int) pa_nil)))) (pa_cons pe_int pa_nil))))) (pe_op op_sub (pv 2) pe_int) (fun _ _ => rfl))))))
theorem ok_l_others (T : Txt K mg A F) : FnOk P w K mg base CX0 1 F.a_l_others F.d_l_others ["_law_caught"] (sp_l_others K A) := by
  refine T.f_l_others.ok sc_l_others (fun vs H Q E h => ?_) (fun cdv Ar outer s H vs Q E hr h => ⟨t_l_others K A, ?_, r_l_others h⟩)
  · first | (obtain ⟨_, rfl, _⟩ := h; rfl) | (obtain ⟨_, _, rfl, _⟩ := h; rfl) | (obtain ⟨_, _, _, rfl, _⟩ := h; rfl) | (obtain ⟨_, _, _, _, rfl, _⟩ := h; rfl) | (obtain ⟨_, _, _, _, _, rfl, _⟩ := h; rfl) | (obtain ⟨_, _, _, _, _, _, rfl, _⟩ := h; rfl) | (obtain ⟨_, _, _, _, _, _, _, rfl, _⟩ := h; rfl) | (obtain ⟨_, _, _, _, _, _, _, _, rfl, _⟩ := h; rfl) | (obtain ⟨_, _, _, _, _, _, _, _, _, _, _, _, _, _, _, _, _, _, rfl, _⟩ := h; rfl) | (obtain ⟨_, _, _, _, _, _, _, _, _, rfl, _⟩ := h; rfl) | (obtain ⟨_, _, _, _, _, _, _, _, _, _, rfl, _⟩ := h; rfl) | (obtain ⟨_, _, _, _, _, _, _, _, _, _, _, rfl, _⟩ := h; rfl) | (obtain ⟨_, _, _, _, _, _, _, _, _, _, _, _, rfl, _⟩ := h; rfl) | (obtain ⟨_, _, _, _, _, _, _, _, _, _, _, _, _, rfl, _⟩ := h; rfl) | (obtain ⟨_, _, _, _, _, _, _, _, _, _, _, _, _, _, rfl, _⟩ := h; rfl) | (obtain ⟨_, _, _, _, _, _, _, _, _, _, _, _, _, _, _, rfl, _⟩ := h; rfl) | (obtain ⟨_, _, _, _, _, _, _, _, _, _, _, _, _, _, _, _, rfl, _⟩ := h; rfl) | (obtain ⟨_, _, _, _, _, _, _, _, _, _, _, _, _, _, _, _, _, rfl, _⟩ := h; rfl)
  · exact (pss_one (ps_ret (pe_or (pe_callB call_isK (by rfl) T.n_isinstance (by decide +kernel) (pa_cons (pv 0) (pa_cons (pe_glob rfl T.g_NoLoad rfl) pa_nil))) (pe_or (pe_callB call_isK (by rfl) T.n_isinstance (by decide +kernel) (pa_cons (pv 0) (pa_cons (pe_glob rfl T.g_NoPlan rfl) pa_nil))) (pe_one (pe_callB call_isK (by rfl) T.n_isinstance (by decide +kernel) (pa_cons (pv 0) (pa_cons (pe_glob rfl T.g_NoDeed rfl) pa_nil))))))))
theorem ok_l_text_refused (T : Txt K mg A F) : FnOk P w K mg base CX0 3 F.a_l_text_refused F.d_l_text_refused ["_law_line_here"] (sp_l_text_refused K A) := by
  refine T.f_l_text_refused.ok sc_l_text_refused (fun vs H Q E h => ?_) (fun cdv Ar outer s H vs Q E hr h => ⟨t_l_text_refused K A, ?_, r_l_text_refused T.xc_text T.ct_text h⟩)
  · first | (obtain ⟨_, rfl, _⟩ := h; rfl) | (obtain ⟨_, _, rfl, _⟩ := h; rfl) | (obtain ⟨_, _, _, rfl, _⟩ := h; rfl) | (obtain ⟨_, _, _, _, rfl, _⟩ := h; rfl) | (obtain ⟨_, _, _, _, _, rfl, _⟩ := h; rfl) | (obtain ⟨_, _, _, _, _, _, rfl, _⟩ := h; rfl) | (obtain ⟨_, _, _, _, _, _, _, rfl, _⟩ := h; rfl) | (obtain ⟨_, _, _, _, _, _, _, _, rfl, _⟩ := h; rfl) | (obtain ⟨_, _, _, _, _, _, _, _, _, _, _, _, _, _, _, _, _, _, rfl, _⟩ := h; rfl) | (obtain ⟨_, _, _, _, _, _, _, _, _, rfl, _⟩ := h; rfl) | (obtain ⟨_, _, _, _, _, _, _, _, _, _, rfl, _⟩ := h; rfl) | (obtain ⟨_, _, _, _, _, _, _, _, _, _, _, rfl, _⟩ := h; rfl) | (obtain ⟨_, _, _, _, _, _, _, _, _, _, _, _, rfl, _⟩ := h; rfl) | (obtain ⟨_, _, _, _, _, _, _, _, _, _, _, _, _, rfl, _⟩ := h; rfl) | (obtain ⟨_, _, _, _, _, _, _, _, _, _, _, _, _, _, rfl, _⟩ := h; rfl) | (obtain ⟨_, _, _, _, _, _, _, _, _, _, _, _, _, _, _, rfl, _⟩ := h; rfl) | (obtain ⟨_, _, _, _, _, _, _, _, _, _, _, _, _, _, _, _, rfl, _⟩ := h; rfl) | (obtain ⟨_, _, _, _, _, _, _, _, _, _, _, _, _, _, _, _, _, rfl, _⟩ := h; rfl)
  · exact (pss_cons (ps_set (i := 1) sc_l_text_refused.nd rfl (Or.inl rfl) pe_non)
    (pss_cons (ps_try_keep (i := 2) (tb := fun W => (tDrop (tCallS (sp_read K A) (WE W) (tCons (tVar 0) tNil)))) (ts := fun a => (tAsg (tVar 2) (gName 1))) rfl rfl rfl sc_l_text_refused.nd rfl rfl (by rfl) (by decide) T.g_StoneError (fun W pn xe tk _ => (pss_one (ps_expr (pe_callS (ok_read T) (hr.mono (by decide)) rfl T.g_read T.f_read.kp T.b_read (fun σ => passAt tk σ) (pa_cons (pv 0) pa_nil))))) (fun a o pn => (pss_one (ps_set (i := 1) sc_l_text_refused.nd rfl (Or.inl rfl) (pv 2)))))
    (pss_cons (ps_if (PW.pt (pw_or (pt_not (pt_val (pe_callB call_isK (by rfl) T.n_isinstance (by decide +kernel) (pa_cons (pv 1) (pa_cons (pe_glob rfl T.g_NoText rfl) pa_nil))))) (pw_or1 (pt_not (pt_val (pe_callB call_isK (by rfl) T.n_isinstance (by decide +kernel) (pa_cons (pv 1) (pa_cons (pe_bltn (by rfl) T.n_ValueError (by decide +kernel) rfl) pa_nil)))))))) (pss_one (ps_ret pe_bl)) pss_nil)
    (pss_one (ps_ret (pe_and (pe_not (pe_callB call_isK (by rfl) T.n_isinstance (by decide +kernel) (pa_cons (pv 1) (pa_cons (pe_glob rfl T.g_NoLaying rfl) pa_nil)))) (pe_one (pe_not (pe_call (ok_l_others T) (hr.mono (by decide)) rfl T.g_l_others T.f_l_others.kp T.b_l_others .nil pass0 (pa_cons (pv 1) pa_nil))))))))))
theorem ok_l_laying_refused (T : Txt K mg A F) : FnOk P w K mg base CX0 6 F.a_l_laying_refused F.d_l_laying_refused ["_law_things_here"] (sp_l_laying_refused K A) := by
  refine T.f_l_laying_refused.ok sc_l_laying_refused (fun vs H Q E h => ?_) (fun cdv Ar outer s H vs Q E hr h => ⟨t_l_laying_refused K A, ?_, r_l_laying_refused T.xc_laying T.ct_laying h⟩)
  · first | (obtain ⟨_, rfl, _⟩ := h; rfl) | (obtain ⟨_, _, rfl, _⟩ := h; rfl) | (obtain ⟨_, _, _, rfl, _⟩ := h; rfl) | (obtain ⟨_, _, _, _, rfl, _⟩ := h; rfl) | (obtain ⟨_, _, _, _, _, rfl, _⟩ := h; rfl) | (obtain ⟨_, _, _, _, _, _, rfl, _⟩ := h; rfl) | (obtain ⟨_, _, _, _, _, _, _, rfl, _⟩ := h; rfl) | (obtain ⟨_, _, _, _, _, _, _, _, rfl, _⟩ := h; rfl) | (obtain ⟨_, _, _, _, _, _, _, _, _, _, _, _, _, _, _, _, _, _, rfl, _⟩ := h; rfl) | (obtain ⟨_, _, _, _, _, _, _, _, _, rfl, _⟩ := h; rfl) | (obtain ⟨_, _, _, _, _, _, _, _, _, _, rfl, _⟩ := h; rfl) | (obtain ⟨_, _, _, _, _, _, _, _, _, _, _, rfl, _⟩ := h; rfl) | (obtain ⟨_, _, _, _, _, _, _, _, _, _, _, _, rfl, _⟩ := h; rfl) | (obtain ⟨_, _, _, _, _, _, _, _, _, _, _, _, _, rfl, _⟩ := h; rfl) | (obtain ⟨_, _, _, _, _, _, _, _, _, _, _, _, _, _, rfl, _⟩ := h; rfl) | (obtain ⟨_, _, _, _, _, _, _, _, _, _, _, _, _, _, _, rfl, _⟩ := h; rfl) | (obtain ⟨_, _, _, _, _, _, _, _, _, _, _, _, _, _, _, _, rfl, _⟩ := h; rfl) | (obtain ⟨_, _, _, _, _, _, _, _, _, _, _, _, _, _, _, _, _, rfl, _⟩ := h; rfl)
  · exact (pss_cons (ps_set (i := 1) sc_l_laying_refused.nd rfl (Or.inl rfl) pe_non)
    (pss_cons (ps_try_keep (i := 2) (tb := fun W => (tDrop (tCallS (sp_shown K A) (WE W) (tCons (tVar 0) tNil)))) (ts := fun a => (tAsg (tVar 2) (gName 1))) rfl rfl rfl sc_l_laying_refused.nd rfl rfl (by rfl) (by decide) T.g_StoneError (fun W pn xe tk _ => (pss_one (ps_expr (pe_callS (ok_shown T) (hr.mono (by decide)) rfl T.g_shown T.f_shown.kp T.b_shown (fun σ => passAt tk σ) (pa_cons (pv 0) pa_nil))))) (fun a o pn => (pss_one (ps_set (i := 1) sc_l_laying_refused.nd rfl (Or.inl rfl) (pv 2)))))
    (pss_cons (ps_if (PW.pt (pw_or (pt_not (pt_val (pe_callB call_isK (by rfl) T.n_isinstance (by decide +kernel) (pa_cons (pv 1) (pa_cons (pe_glob rfl T.g_NoLaying rfl) pa_nil))))) (pw_or1 (pt_not (pt_val (pe_callB call_isK (by rfl) T.n_isinstance (by decide +kernel) (pa_cons (pv 1) (pa_cons (pe_bltn (by rfl) T.n_ValueError (by decide +kernel) rfl) pa_nil)))))))) (pss_one (ps_ret pe_bl)) pss_nil)
    (pss_one (ps_ret (pe_and (pe_not (pe_callB call_isK (by rfl) T.n_isinstance (by decide +kernel) (pa_cons (pv 1) (pa_cons (pe_glob rfl T.g_NoText rfl) pa_nil)))) (pe_one (pe_not (pe_call (ok_l_others T) (hr.mono (by decide)) rfl T.g_l_others T.f_l_others.kp T.b_l_others .nil pass0 (pa_cons (pv 1) pa_nil))))))))))
theorem ok_l_read (T : Txt K mg A F) : FnOk P w K mg base CX0 4 F.a_l_read F.d_l_read ["_law_line_here"] (sp_l_read K A) := by
  refine T.f_l_read.ok sc_l_read (fun vs H Q E h => ?_) (fun cdv Ar outer s H vs Q E hr h => ⟨t_l_read K A, ?_, r_l_read h⟩)
  · first | (obtain ⟨_, rfl, _⟩ := h; rfl) | (obtain ⟨_, _, rfl, _⟩ := h; rfl) | (obtain ⟨_, _, _, rfl, _⟩ := h; rfl) | (obtain ⟨_, _, _, _, rfl, _⟩ := h; rfl) | (obtain ⟨_, _, _, _, _, rfl, _⟩ := h; rfl) | (obtain ⟨_, _, _, _, _, _, rfl, _⟩ := h; rfl) | (obtain ⟨_, _, _, _, _, _, _, rfl, _⟩ := h; rfl) | (obtain ⟨_, _, _, _, _, _, _, _, rfl, _⟩ := h; rfl) | (obtain ⟨_, _, _, _, _, _, _, _, _, _, _, _, _, _, _, _, _, _, rfl, _⟩ := h; rfl) | (obtain ⟨_, _, _, _, _, _, _, _, _, rfl, _⟩ := h; rfl) | (obtain ⟨_, _, _, _, _, _, _, _, _, _, rfl, _⟩ := h; rfl) | (obtain ⟨_, _, _, _, _, _, _, _, _, _, _, rfl, _⟩ := h; rfl) | (obtain ⟨_, _, _, _, _, _, _, _, _, _, _, _, rfl, _⟩ := h; rfl) | (obtain ⟨_, _, _, _, _, _, _, _, _, _, _, _, _, rfl, _⟩ := h; rfl) | (obtain ⟨_, _, _, _, _, _, _, _, _, _, _, _, _, _, rfl, _⟩ := h; rfl) | (obtain ⟨_, _, _, _, _, _, _, _, _, _, _, _, _, _, _, rfl, _⟩ := h; rfl) | (obtain ⟨_, _, _, _, _, _, _, _, _, _, _, _, _, _, _, _, rfl, _⟩ := h; rfl) | (obtain ⟨_, _, _, _, _, _, _, _, _, _, _, _, _, _, _, _, _, rfl, _⟩ := h; rfl)
  · exact (pss_cons (ps_set (i := 1) sc_l_read.nd rfl (Or.inl rfl) (pe_call (ok_l_laying_of T) (hr.mono (by decide)) rfl T.g_l_laying_of T.f_l_laying_of.kp T.b_l_laying_of .nil pass0 (pa_cons (pv 0) pa_nil)))
    (pss_cons (ps_if (pt_cmpR op_isN (pv 1) pe_non (nomark _)) (pss_one (ps_ret (pe_call (ok_l_text_refused T) (hr.mono (by decide)) rfl T.g_l_text_refused T.f_l_text_refused.kp T.b_l_text_refused .nil pass0 (pa_cons (pv 0) pa_nil)))) pss_nil)
    (pss_cons (ps_set (i := 2) sc_l_read.nd rfl (Or.inl rfl) (pe_call (ok_read T) (hr.mono (by decide)) rfl T.g_read T.f_read.kp T.b_read .nil passL (pa_cons (pv 0) pa_nil)))
    (pss_cons (ps_if (pt_not (pt_val (pe_call (ok_l_same T) (hr.mono (by decide)) rfl T.g_l_same T.f_l_same.kp T.b_l_same .nil pass0 (pa_cons (pv 2) (pa_cons (pv 1) pa_nil))))) (pss_one (ps_ret pe_bl)) pss_nil)
    (pss_cons (ps_expr (pe_bm PySem.F.plainAttrs_list PySem.F.slot_list_append PySem.F.type_list_append mt_append (pv 2) (pa_cons pe_int pa_nil)))
    (pss_one (ps_ret (pe_call (ok_l_same T) (hr.mono (by decide)) rfl T.g_l_same T.f_l_same.kp T.b_l_same .nil pass0 (pa_cons (pe_call (ok_read T) (hr.mono (by decide)) rfl T.g_read T.f_read.kp T.b_read .nil passL (pa_cons (pv 0) pa_nil)) (pa_cons (pv 1) pa_nil))))))))))
theorem ok_law (T : Txt K mg A F) : FnOk P w K mg base CX0 7 F.a_law F.d_law ["_law_script"] (sp_law K A) := by
  refine T.f_law.ok sc_law (fun vs H Q E h => ?_) (fun cdv Ar outer s H vs Q E hr h => ⟨t_law K A, ?_, r_law h⟩)
  · first | (obtain ⟨_, rfl, _⟩ := h; rfl) | (obtain ⟨_, _, rfl, _⟩ := h; rfl) | (obtain ⟨_, _, _, rfl, _⟩ := h; rfl) | (obtain ⟨_, _, _, _, rfl, _⟩ := h; rfl) | (obtain ⟨_, _, _, _, _, rfl, _⟩ := h; rfl) | (obtain ⟨_, _, _, _, _, _, rfl, _⟩ := h; rfl) | (obtain ⟨_, _, _, _, _, _, _, rfl, _⟩ := h; rfl) | (obtain ⟨_, _, _, _, _, _, _, _, rfl, _⟩ := h; rfl) | (obtain ⟨_, _, _, _, _, _, _, _, _, _, _, _, _, _, _, _, _, _, rfl, _⟩ := h; rfl) | (obtain ⟨_, _, _, _, _, _, _, _, _, rfl, _⟩ := h; rfl) | (obtain ⟨_, _, _, _, _, _, _, _, _, _, rfl, _⟩ := h; rfl) | (obtain ⟨_, _, _, _, _, _, _, _, _, _, _, rfl, _⟩ := h; rfl) | (obtain ⟨_, _, _, _, _, _, _, _, _, _, _, _, rfl, _⟩ := h; rfl) | (obtain ⟨_, _, _, _, _, _, _, _, _, _, _, _, _, rfl, _⟩ := h; rfl) | (obtain ⟨_, _, _, _, _, _, _, _, _, _, _, _, _, _, rfl, _⟩ := h; rfl) | (obtain ⟨_, _, _, _, _, _, _, _, _, _, _, _, _, _, _, rfl, _⟩ := h; rfl) | (obtain ⟨_, _, _, _, _, _, _, _, _, _, _, _, _, _, _, _, rfl, _⟩ := h; rfl) | (obtain ⟨_, _, _, _, _, _, _, _, _, _, _, _, _, _, _, _, _, rfl, _⟩ := h; rfl)
  · exact (pss_cons (ps_set (i := 1) sc_law.nd rfl (Or.inl rfl) (pe_call (ok_l_things T) (hr.mono (by decide)) rfl T.g_l_things T.f_l_things.kp T.b_l_things .nil pass0 (pa_cons (pv 0) pa_nil)))
    (pss_cons (ps_set (i := 2) sc_law.nd rfl (Or.inl rfl) (pe_call (ok_l_line T) (hr.mono (by decide)) rfl T.g_l_line T.f_l_line.kp T.b_l_line .nil pass0 (pa_cons (pv 0) pa_nil)))
    (pss_cons (ps_if (pt_not (pt_val (pe_call (ok_l_read T) (hr.mono (by decide)) rfl T.g_l_read T.f_l_read.kp T.b_l_read .nil pass0 (pa_cons (pv 2) pa_nil)))) (pss_one (ps_ret pe_bl)) pss_nil)
    (pss_cons (ps_if (pt_not (pt_val (pe_call (ok_l_laying_refused T) (hr.mono (by decide)) rfl T.g_l_laying_refused T.f_l_laying_refused.kp T.b_l_laying_refused .nil pass0 (pa_cons (pe_call (ok_l_spoilt T) (hr.mono (by decide)) rfl T.g_l_spoilt T.f_l_spoilt.kp T.b_l_spoilt .nil pass0 (pa_cons (pv 1) (pa_cons (pe_call (ok_l_cell_at T) (hr.mono (by decide)) rfl T.g_l_cell_at T.f_l_cell_at.kp T.b_l_cell_at .nil pass0 (pa_cons (pv 0) (pa_cons pe_int pa_nil))) pa_nil))) pa_nil)))) (pss_one (ps_ret pe_bl)) pss_nil)
    (pss_cons (ps_set (i := 3) sc_law.nd rfl (Or.inl rfl) (pe_ix ix_list (pe_lst (pa_cons pe_non (pa_cons pe_int (pa_cons pe_int (pa_cons pe_bl (pa_cons (pe_lst (pa_cons pe_str pa_nil)) (pa_cons (pe_tup (pa_cons pe_str (pa_cons pe_str pa_nil))) (pa_cons pe_dnewK (pa_cons (pe_lst pa_nil) pa_nil))))))))) (pe_op op_mod (pe_op op_fdiv (pe_call (ok_l_cell_at T) (hr.mono (by decide)) rfl T.g_l_cell_at T.f_l_cell_at.kp T.b_l_cell_at .nil pass0 (pa_cons (pv 0) (pa_cons pe_int pa_nil))) pe_int) pe_int) (fun _ _ => rfl)))
    (pss_cons (ps_if (pt_not (pt_val (pe_call (ok_l_text_refused T) (hr.mono (by decide)) rfl T.g_l_text_refused T.f_l_text_refused.kp T.b_l_text_refused .nil pass0 (pa_cons (pv 3) pa_nil)))) (pss_one (ps_ret pe_bl)) pss_nil)
    (pss_cons (ps_set (i := 4) sc_law.nd rfl (Or.inl rfl) (pe_callTy call_list_of (by rfl) T.n_list (by decide +kernel) (pa_cons (pv 1) pa_nil)))
    (pss_cons (ps_set (i := 5) sc_law.nd rfl (Or.inl rfl) (pe_call (ok_shown T) (hr.mono (by decide)) rfl T.g_shown T.f_shown.kp T.b_shown .nil passL (pa_cons (pv 4) pa_nil)))
    (pss_cons (ps_if (PW.pt (pw_or (pt_not (pt_val (pe_callB call_isi (by rfl) T.n_isinstance (by decide +kernel) (pa_cons (pv 5) (pa_cons (pe_bltn (by rfl) T.n_str (by decide +kernel) rfl) pa_nil))))) (pw_or (pt_cmpR op_ne (pv 5) (pe_call (ok_l_shown T) (hr.mono (by decide)) rfl T.g_l_shown T.f_l_shown.kp T.b_l_shown .nil pass0 (pa_cons (pv 1) pa_nil)) (nomark _)) (pw_or1 (pt_cmpR (op_neD hr.units) (pv 4) (pv 1) (nomark _)))))) (pss_one (ps_ret pe_bl)) pss_nil)
    (pss_one (ps_ret (pe_and (pe_call (ok_l_same T) (hr.mono (by decide)) rfl T.g_l_same T.f_l_same.kp T.b_l_same .nil pass0 (pa_cons (pe_call (ok_read T) (hr.mono (by decide)) rfl T.g_read T.f_read.kp T.b_read .nil passL (pa_cons (pv 5) pa_nil)) (pa_cons (pe_call (ok_l_endedT T) (hr.mono (by decide)) rfl T.g_l_endedT T.f_l_endedT.kp T.b_l_endedT .nil pass0 (pa_cons (pv 1) pa_nil)) pa_nil))) (pe_one (pe_call (ok_l_read T) (hr.mono (by decide)) rfl T.g_l_read T.f_l_read.kp T.b_l_read .nil pass0 (pa_cons (pv 2) pa_nil)))))))))))))))
end
theorem all_mk {l : PySem.W.OpenLaw} {w : World} {K : PySem.W.Frag} {h : Heap} {mg : Str → Option Value} {fa : Addr} (X : K.In h) (G : h.Ns mainGlobals mg) (hfa : mg "law" = some (.ref fa))
    {f0 : Addr} {od0 an0 : Option Addr} {sl0 : Array (Option Value)} {oc0 kV0 dc0 pm0 cd0 ct0 : Value}
    (a0 : PySem.W.nsIn K mainGlobals "is_whole" = some (some (.ref f0)))
    (l0 : K.lookup f0 = some ⟨oc0, od0, .func (PySem.W.fnOf "is_whole" "is_whole" (defArgs s_is_whole) (defBody s_is_whole) (defScope s_is_whole) .none kV0 dc0 pm0 an0 cd0 ct0), sl0⟩)
    (c0 : PySem.W.codeIn K cd0 "is_whole" = true) (k0 : PySem.W.keepIn K (.ref f0) = true)
    {f1 : Addr} {od1 an1 : Option Addr} {sl1 : Array (Option Value)} {oc1 kV1 dc1 pm1 cd1 ct1 : Value}
    (a1 : PySem.W.nsIn K mainGlobals "is_laying" = some (some (.ref f1)))
    (l1 : K.lookup f1 = some ⟨oc1, od1, .func (PySem.W.fnOf "is_laying" "is_laying" (defArgs s_is_laying) (defBody s_is_laying) (defScope s_is_laying) .none kV1 dc1 pm1 an1 cd1 ct1), sl1⟩)
    (c1 : PySem.W.codeIn K cd1 "is_laying" = true) (k1 : PySem.W.keepIn K (.ref f1) = true)
    {f2 : Addr} {od2 an2 : Option Addr} {sl2 : Array (Option Value)} {oc2 kV2 dc2 pm2 cd2 ct2 : Value}
    (a2 : PySem.W.nsIn K mainGlobals "good_laying" = some (some (.ref f2)))
    (l2 : K.lookup f2 = some ⟨oc2, od2, .func (PySem.W.fnOf "good_laying" "good_laying" (defArgs s_good_laying) (defBody s_good_laying) (defScope s_good_laying) .none kV2 dc2 pm2 an2 cd2 ct2), sl2⟩)
    (c2 : PySem.W.codeIn K cd2 "good_laying" = true) (k2 : PySem.W.keepIn K (.ref f2) = true)
    {f3 : Addr} {od3 an3 : Option Addr} {sl3 : Array (Option Value)} {oc3 kV3 dc3 pm3 cd3 ct3 : Value}
    (a3 : PySem.W.nsIn K mainGlobals "ended" = some (some (.ref f3)))
    (l3 : K.lookup f3 = some ⟨oc3, od3, .func (PySem.W.fnOf "ended" "ended" (defArgs s_ended) (defBody s_ended) (defScope s_ended) .none kV3 dc3 pm3 an3 cd3 ct3), sl3⟩)
    (c3 : PySem.W.codeIn K cd3 "ended" = true) (k3 : PySem.W.keepIn K (.ref f3) = true)
    {f4 : Addr} {od4 an4 : Option Addr} {sl4 : Array (Option Value)} {oc4 kV4 dc4 pm4 cd4 ct4 : Value}
    (a4 : PySem.W.nsIn K mainGlobals "sign_of" = some (some (.ref f4)))
    (l4 : K.lookup f4 = some ⟨oc4, od4, .func (PySem.W.fnOf "sign_of" "sign_of" (defArgs s_sign_of) (defBody s_sign_of) (defScope s_sign_of) .none kV4 dc4 pm4 an4 cd4 ct4), sl4⟩)
    (c4 : PySem.W.codeIn K cd4 "sign_of" = true) (k4 : PySem.W.keepIn K (.ref f4) = true)
    {f5 : Addr} {od5 an5 : Option Addr} {sl5 : Array (Option Value)} {oc5 kV5 dc5 pm5 cd5 ct5 : Value}
    (a5 : PySem.W.nsIn K mainGlobals "shown" = some (some (.ref f5)))
    (l5 : K.lookup f5 = some ⟨oc5, od5, .func (PySem.W.fnOf "shown" "shown" (defArgs s_shown) (defBody s_shown) (defScope s_shown) .none kV5 dc5 pm5 an5 cd5 ct5), sl5⟩)
    (c5 : PySem.W.codeIn K cd5 "shown" = true) (k5 : PySem.W.keepIn K (.ref f5) = true)
    {f6 : Addr} {od6 an6 : Option Addr} {sl6 : Array (Option Value)} {oc6 kV6 dc6 pm6 cd6 ct6 : Value}
    (a6 : PySem.W.nsIn K mainGlobals "thing_of" = some (some (.ref f6)))
    (l6 : K.lookup f6 = some ⟨oc6, od6, .func (PySem.W.fnOf "thing_of" "thing_of" (defArgs s_thing_of) (defBody s_thing_of) (defScope s_thing_of) .none kV6 dc6 pm6 an6 cd6 ct6), sl6⟩)
    (c6 : PySem.W.codeIn K cd6 "thing_of" = true) (k6 : PySem.W.keepIn K (.ref f6) = true)
    {f7 : Addr} {od7 an7 : Option Addr} {sl7 : Array (Option Value)} {oc7 kV7 dc7 pm7 cd7 ct7 : Value}
    (a7 : PySem.W.nsIn K mainGlobals "read" = some (some (.ref f7)))
    (l7 : K.lookup f7 = some ⟨oc7, od7, .func (PySem.W.fnOf "read" "read" (defArgs s_read) (defBody s_read) (defScope s_read) .none kV7 dc7 pm7 an7 cd7 ct7), sl7⟩)
    (c7 : PySem.W.codeIn K cd7 "read" = true) (k7 : PySem.W.keepIn K (.ref f7) = true)
    {f8 : Addr} {od8 an8 : Option Addr} {sl8 : Array (Option Value)} {oc8 kV8 dc8 pm8 cd8 ct8 : Value}
    (a8 : PySem.W.nsIn K mainGlobals "_law_cell_at" = some (some (.ref f8)))
    (l8 : K.lookup f8 = some ⟨oc8, od8, .func (PySem.W.fnOf "_law_cell_at" "_law_cell_at" (defArgs s_l_cell_at) (defBody s_l_cell_at) (defScope s_l_cell_at) .none kV8 dc8 pm8 an8 cd8 ct8), sl8⟩)
    (c8 : PySem.W.codeIn K cd8 "_law_cell_at" = true) (k8 : PySem.W.keepIn K (.ref f8) = true)
    {f9 : Addr} {od9 an9 : Option Addr} {sl9 : Array (Option Value)} {oc9 kV9 dc9 pm9 cd9 ct9 : Value}
    (a9 : PySem.W.nsIn K mainGlobals "_law_whole" = some (some (.ref f9)))
    (l9 : K.lookup f9 = some ⟨oc9, od9, .func (PySem.W.fnOf "_law_whole" "_law_whole" (defArgs s_l_whole) (defBody s_l_whole) (defScope s_l_whole) .none kV9 dc9 pm9 an9 cd9 ct9), sl9⟩)
    (c9 : PySem.W.codeIn K cd9 "_law_whole" = true) (k9 : PySem.W.keepIn K (.ref f9) = true)
    {f10 : Addr} {od10 an10 : Option Addr} {sl10 : Array (Option Value)} {oc10 kV10 dc10 pm10 cd10 ct10 : Value}
    (a10 : PySem.W.nsIn K mainGlobals "_law_things" = some (some (.ref f10)))
    (l10 : K.lookup f10 = some ⟨oc10, od10, .func (PySem.W.fnOf "_law_things" "_law_things" (defArgs s_l_things) (defBody s_l_things) (defScope s_l_things) .none kV10 dc10 pm10 an10 cd10 ct10), sl10⟩)
    (c10 : PySem.W.codeIn K cd10 "_law_things" = true) (k10 : PySem.W.keepIn K (.ref f10) = true)
    {f11 : Addr} {od11 an11 : Option Addr} {sl11 : Array (Option Value)} {oc11 kV11 dc11 pm11 cd11 ct11 : Value}
    (a11 : PySem.W.nsIn K mainGlobals "_law_ended" = some (some (.ref f11)))
    (l11 : K.lookup f11 = some ⟨oc11, od11, .func (PySem.W.fnOf "_law_ended" "_law_ended" (defArgs s_l_endedT) (defBody s_l_endedT) (defScope s_l_endedT) .none kV11 dc11 pm11 an11 cd11 ct11), sl11⟩)
    (c11 : PySem.W.codeIn K cd11 "_law_ended" = true) (k11 : PySem.W.keepIn K (.ref f11) = true)
    {f12 : Addr} {od12 an12 : Option Addr} {sl12 : Array (Option Value)} {oc12 kV12 dc12 pm12 cd12 ct12 : Value}
    (a12 : PySem.W.nsIn K mainGlobals "_law_shown" = some (some (.ref f12)))
    (l12 : K.lookup f12 = some ⟨oc12, od12, .func (PySem.W.fnOf "_law_shown" "_law_shown" (defArgs s_l_shown) (defBody s_l_shown) (defScope s_l_shown) .none kV12 dc12 pm12 an12 cd12 ct12), sl12⟩)
    (c12 : PySem.W.codeIn K cd12 "_law_shown" = true) (k12 : PySem.W.keepIn K (.ref f12) = true)
    {f13 : Addr} {od13 an13 : Option Addr} {sl13 : Array (Option Value)} {oc13 kV13 dc13 pm13 cd13 ct13 : Value}
    (a13 : PySem.W.nsIn K mainGlobals "_law_laying_of" = some (some (.ref f13)))
    (l13 : K.lookup f13 = some ⟨oc13, od13, .func (PySem.W.fnOf "_law_laying_of" "_law_laying_of" (defArgs s_l_laying_of) (defBody s_l_laying_of) (defScope s_l_laying_of) .none kV13 dc13 pm13 an13 cd13 ct13), sl13⟩)
    (c13 : PySem.W.codeIn K cd13 "_law_laying_of" = true) (k13 : PySem.W.keepIn K (.ref f13) = true)
    {f14 : Addr} {od14 an14 : Option Addr} {sl14 : Array (Option Value)} {oc14 kV14 dc14 pm14 cd14 ct14 : Value}
    (a14 : PySem.W.nsIn K mainGlobals "_law_same" = some (some (.ref f14)))
    (l14 : K.lookup f14 = some ⟨oc14, od14, .func (PySem.W.fnOf "_law_same" "_law_same" (defArgs s_l_same) (defBody s_l_same) (defScope s_l_same) .none kV14 dc14 pm14 an14 cd14 ct14), sl14⟩)
    (c14 : PySem.W.codeIn K cd14 "_law_same" = true) (k14 : PySem.W.keepIn K (.ref f14) = true)
    {f15 : Addr} {od15 an15 : Option Addr} {sl15 : Array (Option Value)} {oc15 kV15 dc15 pm15 cd15 ct15 : Value}
    (a15 : PySem.W.nsIn K mainGlobals "_law_sign_by" = some (some (.ref f15)))
    (l15 : K.lookup f15 = some ⟨oc15, od15, .func (PySem.W.fnOf "_law_sign_by" "_law_sign_by" (defArgs s_l_sign_by) (defBody s_l_sign_by) (defScope s_l_sign_by) .none kV15 dc15 pm15 an15 cd15 ct15), sl15⟩)
    (c15 : PySem.W.codeIn K cd15 "_law_sign_by" = true) (k15 : PySem.W.keepIn K (.ref f15) = true)
    {f16 : Addr} {od16 an16 : Option Addr} {sl16 : Array (Option Value)} {oc16 kV16 dc16 pm16 cd16 ct16 : Value}
    (a16 : PySem.W.nsIn K mainGlobals "_law_line" = some (some (.ref f16)))
    (l16 : K.lookup f16 = some ⟨oc16, od16, .func (PySem.W.fnOf "_law_line" "_law_line" (defArgs s_l_line) (defBody s_l_line) (defScope s_l_line) .none kV16 dc16 pm16 an16 cd16 ct16), sl16⟩)
    (c16 : PySem.W.codeIn K cd16 "_law_line" = true) (k16 : PySem.W.keepIn K (.ref f16) = true)
    {f17 : Addr} {od17 an17 : Option Addr} {sl17 : Array (Option Value)} {oc17 kV17 dc17 pm17 cd17 ct17 : Value}
    (a17 : PySem.W.nsIn K mainGlobals "_law_spoilt" = some (some (.ref f17)))
    (l17 : K.lookup f17 = some ⟨oc17, od17, .func (PySem.W.fnOf "_law_spoilt" "_law_spoilt" (defArgs s_l_spoilt) (defBody s_l_spoilt) (defScope s_l_spoilt) .none kV17 dc17 pm17 an17 cd17 ct17), sl17⟩)
    (c17 : PySem.W.codeIn K cd17 "_law_spoilt" = true) (k17 : PySem.W.keepIn K (.ref f17) = true)
    {f18 : Addr} {od18 an18 : Option Addr} {sl18 : Array (Option Value)} {oc18 kV18 dc18 pm18 cd18 ct18 : Value}
    (a18 : PySem.W.nsIn K mainGlobals "_law_others" = some (some (.ref f18)))
    (l18 : K.lookup f18 = some ⟨oc18, od18, .func (PySem.W.fnOf "_law_others" "_law_others" (defArgs s_l_others) (defBody s_l_others) (defScope s_l_others) .none kV18 dc18 pm18 an18 cd18 ct18), sl18⟩)
    (c18 : PySem.W.codeIn K cd18 "_law_others" = true) (k18 : PySem.W.keepIn K (.ref f18) = true)
    {f19 : Addr} {od19 an19 : Option Addr} {sl19 : Array (Option Value)} {oc19 kV19 dc19 pm19 cd19 ct19 : Value}
    (a19 : PySem.W.nsIn K mainGlobals "_law_text_refused" = some (some (.ref f19)))
    (l19 : K.lookup f19 = some ⟨oc19, od19, .func (PySem.W.fnOf "_law_text_refused" "_law_text_refused" (defArgs s_l_text_refused) (defBody s_l_text_refused) (defScope s_l_text_refused) .none kV19 dc19 pm19 an19 cd19 ct19), sl19⟩)
    (c19 : PySem.W.codeIn K cd19 "_law_text_refused" = true) (k19 : PySem.W.keepIn K (.ref f19) = true)
    {f20 : Addr} {od20 an20 : Option Addr} {sl20 : Array (Option Value)} {oc20 kV20 dc20 pm20 cd20 ct20 : Value}
    (a20 : PySem.W.nsIn K mainGlobals "_law_laying_refused" = some (some (.ref f20)))
    (l20 : K.lookup f20 = some ⟨oc20, od20, .func (PySem.W.fnOf "_law_laying_refused" "_law_laying_refused" (defArgs s_l_laying_refused) (defBody s_l_laying_refused) (defScope s_l_laying_refused) .none kV20 dc20 pm20 an20 cd20 ct20), sl20⟩)
    (c20 : PySem.W.codeIn K cd20 "_law_laying_refused" = true) (k20 : PySem.W.keepIn K (.ref f20) = true)
    {f21 : Addr} {od21 an21 : Option Addr} {sl21 : Array (Option Value)} {oc21 kV21 dc21 pm21 cd21 ct21 : Value}
    (a21 : PySem.W.nsIn K mainGlobals "_law_read" = some (some (.ref f21)))
    (l21 : K.lookup f21 = some ⟨oc21, od21, .func (PySem.W.fnOf "_law_read" "_law_read" (defArgs s_l_read) (defBody s_l_read) (defScope s_l_read) .none kV21 dc21 pm21 an21 cd21 ct21), sl21⟩)
    (c21 : PySem.W.codeIn K cd21 "_law_read" = true) (k21 : PySem.W.keepIn K (.ref f21) = true)
    {f22 : Addr} {od22 an22 : Option Addr} {sl22 : Array (Option Value)} {oc22 kV22 dc22 pm22 cd22 ct22 : Value}
    (a22 : PySem.W.nsIn K mainGlobals "law" = some (some (.ref f22)))
    (l22 : K.lookup f22 = some ⟨oc22, od22, .func (PySem.W.fnOf "law" "law" (defArgs s_law) (defBody s_law) (defScope s_law) .none kV22 dc22 pm22 an22 cd22 ct22), sl22⟩)
    (c22 : PySem.W.codeIn K cd22 "law" = true) (k22 : PySem.W.keepIn K (.ref f22) = true)
    {C_NoDeed : Addr} (ga_NoDeed : PySem.W.nsIn K mainGlobals "NoDeed" = some (some (.ref C_NoDeed)))
    (gx_NoDeed : PySem.W.excIn K C_NoDeed [.type "ValueError", .type "Exception", .type "BaseException", .type "object"] "ValueError.__new__" = true) (gk_NoDeed : PySem.W.keepIn K (.ref C_NoDeed) = true)
    (gs_NoDeed : PySem.W.subIn K (.ref C_NoDeed) (.type "BaseException") = some true) (gt_NoDeed : PySem.W.typeIn K (.ref C_NoDeed) = some (.type "type"))
    {C_NoLaying : Addr} (ga_NoLaying : PySem.W.nsIn K mainGlobals "NoLaying" = some (some (.ref C_NoLaying)))
    (gx_NoLaying : PySem.W.excIn K C_NoLaying [.type "ValueError", .type "Exception", .type "BaseException", .type "object"] "ValueError.__new__" = true) (gk_NoLaying : PySem.W.keepIn K (.ref C_NoLaying) = true)
    (gs_NoLaying : PySem.W.subIn K (.ref C_NoLaying) (.type "BaseException") = some true) (gt_NoLaying : PySem.W.typeIn K (.ref C_NoLaying) = some (.type "type"))
    {C_NoLoad : Addr} (ga_NoLoad : PySem.W.nsIn K mainGlobals "NoLoad" = some (some (.ref C_NoLoad)))
    (gx_NoLoad : PySem.W.excIn K C_NoLoad [.type "ValueError", .type "Exception", .type "BaseException", .type "object"] "ValueError.__new__" = true) (gk_NoLoad : PySem.W.keepIn K (.ref C_NoLoad) = true)
    (gs_NoLoad : PySem.W.subIn K (.ref C_NoLoad) (.type "BaseException") = some true) (gt_NoLoad : PySem.W.typeIn K (.ref C_NoLoad) = some (.type "type"))
    {C_NoPlan : Addr} (ga_NoPlan : PySem.W.nsIn K mainGlobals "NoPlan" = some (some (.ref C_NoPlan)))
    (gx_NoPlan : PySem.W.excIn K C_NoPlan [.type "ValueError", .type "Exception", .type "BaseException", .type "object"] "ValueError.__new__" = true) (gk_NoPlan : PySem.W.keepIn K (.ref C_NoPlan) = true)
    (gs_NoPlan : PySem.W.subIn K (.ref C_NoPlan) (.type "BaseException") = some true) (gt_NoPlan : PySem.W.typeIn K (.ref C_NoPlan) = some (.type "type"))
    {C_NoText : Addr} (ga_NoText : PySem.W.nsIn K mainGlobals "NoText" = some (some (.ref C_NoText)))
    (gx_NoText : PySem.W.excIn K C_NoText [.type "ValueError", .type "Exception", .type "BaseException", .type "object"] "ValueError.__new__" = true) (gk_NoText : PySem.W.keepIn K (.ref C_NoText) = true)
    (gs_NoText : PySem.W.subIn K (.ref C_NoText) (.type "BaseException") = some true) (gt_NoText : PySem.W.typeIn K (.ref C_NoText) = some (.type "type"))
    {C_StoneError : Addr} (ga_StoneError : PySem.W.nsIn K mainGlobals "StoneError" = some (some (.ref C_StoneError)))
    (gx_StoneError : PySem.W.excIn K C_StoneError [.type "ValueError", .type "Exception", .type "BaseException", .type "object"] "ValueError.__new__" = true) (gk_StoneError : PySem.W.keepIn K (.ref C_StoneError) = true)
    (gs_StoneError : PySem.W.subIn K (.ref C_StoneError) (.type "BaseException") = some true) (gt_StoneError : PySem.W.typeIn K (.ref C_StoneError) = some (.type "type"))
    (hd_NoDeed : PySem.W.hasDictIn K C_NoDeed = true)
    (hd_NoLaying : PySem.W.hasDictIn K C_NoLaying = true)
    (hd_NoLoad : PySem.W.hasDictIn K C_NoLoad = true)
    (hd_NoPlan : PySem.W.hasDictIn K C_NoPlan = true)
    (hd_NoText : PySem.W.hasDictIn K C_NoText = true)
    (hd_StoneError : PySem.W.hasDictIn K C_StoneError = true)
    (hn_ : PySem.W.specialIn K (.builtin "object.__class__") "__get__" = some (some (.builtin "getset_descriptor.__get__"))) (ht_ : PySem.W.takesIn K (.builtin "object.__class__") = some true)
    (hg_laying : PySem.W.findIn K (.ref C_NoLaying) "__getattribute__" = some (some (.builtin "BaseException.__getattribute__")))
    (hk_laying : PySem.W.findIn K (.ref C_NoLaying) "__getattr__" = some none)
    (ha_laying : PySem.W.findIn K (.ref C_NoLaying) "__class__" = some (some (.builtin "object.__class__")))
    (hm_laying : PySem.W.mroIn K C_NoLaying (.type "object") = some true)
    (sv_laying : PySem.W.subIn K (.ref C_NoLaying) (.type "ValueError") = some true)
    (su_NoDeed_laying : PySem.W.subIn K (.ref C_NoLaying) (.ref C_NoDeed) = some false)
    (su_NoLaying_laying : PySem.W.subIn K (.ref C_NoLaying) (.ref C_NoLaying) = some true)
    (su_NoLoad_laying : PySem.W.subIn K (.ref C_NoLaying) (.ref C_NoLoad) = some false)
    (su_NoPlan_laying : PySem.W.subIn K (.ref C_NoLaying) (.ref C_NoPlan) = some false)
    (su_NoText_laying : PySem.W.subIn K (.ref C_NoLaying) (.ref C_NoText) = some false)
    (su_StoneError_laying : PySem.W.subIn K (.ref C_NoLaying) (.ref C_StoneError) = some true)
    (hg_text : PySem.W.findIn K (.ref C_NoText) "__getattribute__" = some (some (.builtin "BaseException.__getattribute__")))
    (hk_text : PySem.W.findIn K (.ref C_NoText) "__getattr__" = some none)
    (ha_text : PySem.W.findIn K (.ref C_NoText) "__class__" = some (some (.builtin "object.__class__")))
    (hm_text : PySem.W.mroIn K C_NoText (.type "object") = some true)
    (sv_text : PySem.W.subIn K (.ref C_NoText) (.type "ValueError") = some true)
    (su_NoDeed_text : PySem.W.subIn K (.ref C_NoText) (.ref C_NoDeed) = some false)
    (su_NoLaying_text : PySem.W.subIn K (.ref C_NoText) (.ref C_NoLaying) = some false)
    (su_NoLoad_text : PySem.W.subIn K (.ref C_NoText) (.ref C_NoLoad) = some false)
    (su_NoPlan_text : PySem.W.subIn K (.ref C_NoText) (.ref C_NoPlan) = some false)
    (su_NoText_text : PySem.W.subIn K (.ref C_NoText) (.ref C_NoText) = some true)
    (su_StoneError_text : PySem.W.subIn K (.ref C_NoText) (.ref C_StoneError) = some true)
    (z_ValueError : PySem.W.nsIn K mainGlobals "ValueError" = some none)
    (z_bool : PySem.W.nsIn K mainGlobals "bool" = some none)
    (z_int : PySem.W.nsIn K mainGlobals "int" = some none)
    (z_isinstance : PySem.W.nsIn K mainGlobals "isinstance" = some none)
    (z_len : PySem.W.nsIn K mainGlobals "len" = some none)
    (z_list : PySem.W.nsIn K mainGlobals "list" = some none)
    (z_range : PySem.W.nsIn K mainGlobals "range" = some none)
    (z_reversed : PySem.W.nsIn K mainGlobals "reversed" = some none)
    (z_str : PySem.W.nsIn K mainGlobals "str" = some none)
    : ∃ fd : FuncData, (∀ (s : Shared) (v : Value), BindsTo s fd ⟨[v], []⟩ [("_law_script", v)]) ∧ ∀ base : Heap, K.In base → base.Ns mainGlobals mg → FnOk l.prog w K mg base CX0 7 fa fd ["_law_script"] (sp_law K A0) := by
  have e := hfa.symm.trans (PySem.W.mg_of X G a22)
  cases e
  have F0 := fun_mk (st := s_is_whole) l0 c0 k0
  have B0 := F0.binds (ps := ["thing"]) fun _ _ _ _ _ _ us hl => match us, hl with | [_], _ => rfl
  have F1 := fun_mk (st := s_is_laying) l1 c1 k1
  have B1 := F1.binds (ps := ["thing"]) fun _ _ _ _ _ _ us hl => match us, hl with | [_], _ => rfl
  have F2 := fun_mk (st := s_good_laying) l2 c2 k2
  have B2 := F2.binds (ps := ["laying"]) fun _ _ _ _ _ _ us hl => match us, hl with | [_], _ => rfl
  have F3 := fun_mk (st := s_ended) l3 c3 k3
  have B3 := F3.binds (ps := ["laying"]) fun _ _ _ _ _ _ us hl => match us, hl with | [_], _ => rfl
  have F4 := fun_mk (st := s_sign_of) l4 c4 k4
  have B4 := F4.binds (ps := ["one"]) fun _ _ _ _ _ _ us hl => match us, hl with | [_], _ => rfl
  have F5 := fun_mk (st := s_shown) l5 c5 k5
  have B5 := F5.binds (ps := ["laying"]) fun _ _ _ _ _ _ us hl => match us, hl with | [_], _ => rfl
  have F6 := fun_mk (st := s_thing_of) l6 c6 k6
  have B6 := F6.binds (ps := ["sign"]) fun _ _ _ _ _ _ us hl => match us, hl with | [_], _ => rfl
  have F7 := fun_mk (st := s_read) l7 c7 k7
  have B7 := F7.binds (ps := ["text"]) fun _ _ _ _ _ _ us hl => match us, hl with | [_], _ => rfl
  have F8 := fun_mk (st := s_l_cell_at) l8 c8 k8
  have B8 := F8.binds (ps := ["_law_script", "_law_k"]) fun _ _ _ _ _ _ us hl => match us, hl with | [_, _], _ => rfl
  have F9 := fun_mk (st := s_l_whole) l9 c9 k9
  have B9 := F9.binds (ps := ["_law_found"]) fun _ _ _ _ _ _ us hl => match us, hl with | [_], _ => rfl
  have F10 := fun_mk (st := s_l_things) l10 c10 k10
  have B10 := F10.binds (ps := ["_law_script"]) fun _ _ _ _ _ _ us hl => match us, hl with | [_], _ => rfl
  have F11 := fun_mk (st := s_l_endedT) l11 c11 k11
  have B11 := F11.binds (ps := ["_law_things_here"]) fun _ _ _ _ _ _ us hl => match us, hl with | [_], _ => rfl
  have F12 := fun_mk (st := s_l_shown) l12 c12 k12
  have B12 := F12.binds (ps := ["_law_things_here"]) fun _ _ _ _ _ _ us hl => match us, hl with | [_], _ => rfl
  have F13 := fun_mk (st := s_l_laying_of) l13 c13 k13
  have B13 := F13.binds (ps := ["_law_line_here"]) fun _ _ _ _ _ _ us hl => match us, hl with | [_], _ => rfl
  have F14 := fun_mk (st := s_l_same) l14 c14 k14
  have B14 := F14.binds (ps := ["_law_found", "_law_due"]) fun _ _ _ _ _ _ us hl => match us, hl with | [_, _], _ => rfl
  have F15 := fun_mk (st := s_l_sign_by) l15 c15 k15
  have B15 := F15.binds (ps := ["_law_cell"]) fun _ _ _ _ _ _ us hl => match us, hl with | [_], _ => rfl
  have F16 := fun_mk (st := s_l_line) l16 c16 k16
  have B16 := F16.binds (ps := ["_law_script"]) fun _ _ _ _ _ _ us hl => match us, hl with | [_], _ => rfl
  have F17 := fun_mk (st := s_l_spoilt) l17 c17 k17
  have B17 := F17.binds (ps := ["_law_things_here", "_law_cell"]) fun _ _ _ _ _ _ us hl => match us, hl with | [_, _], _ => rfl
  have F18 := fun_mk (st := s_l_others) l18 c18 k18
  have B18 := F18.binds (ps := ["_law_caught"]) fun _ _ _ _ _ _ us hl => match us, hl with | [_], _ => rfl
  have F19 := fun_mk (st := s_l_text_refused) l19 c19 k19
  have B19 := F19.binds (ps := ["_law_line_here"]) fun _ _ _ _ _ _ us hl => match us, hl with | [_], _ => rfl
  have F20 := fun_mk (st := s_l_laying_refused) l20 c20 k20
  have B20 := F20.binds (ps := ["_law_things_here"]) fun _ _ _ _ _ _ us hl => match us, hl with | [_], _ => rfl
  have F21 := fun_mk (st := s_l_read) l21 c21 k21
  have B21 := F21.binds (ps := ["_law_line_here"]) fun _ _ _ _ _ _ us hl => match us, hl with | [_], _ => rfl
  have F22 := fun_mk (st := s_law) l22 c22 k22
  have B22 := F22.binds (ps := ["_law_script"]) fun _ _ _ _ _ _ us hl => match us, hl with | [_], _ => rfl
  let A : Ad := { stone := C_StoneError, laying := C_NoLaying, load := C_NoLoad, plan := C_NoPlan, text := C_NoText, deed := C_NoDeed, scale := 0, words := 0 }
  let F : Fs := { a_is_whole := f0, d_is_whole := PySem.W.fnOf "is_whole" "is_whole" (defArgs s_is_whole) (defBody s_is_whole) (defScope s_is_whole) .none kV0 dc0 pm0 an0 cd0 ct0, a_is_laying := f1, d_is_laying := PySem.W.fnOf "is_laying" "is_laying" (defArgs s_is_laying) (defBody s_is_laying) (defScope s_is_laying) .none kV1 dc1 pm1 an1 cd1 ct1, a_good_laying := f2, d_good_laying := PySem.W.fnOf "good_laying" "good_laying" (defArgs s_good_laying) (defBody s_good_laying) (defScope s_good_laying) .none kV2 dc2 pm2 an2 cd2 ct2, a_ended := f3, d_ended := PySem.W.fnOf "ended" "ended" (defArgs s_ended) (defBody s_ended) (defScope s_ended) .none kV3 dc3 pm3 an3 cd3 ct3, a_sign_of := f4, d_sign_of := PySem.W.fnOf "sign_of" "sign_of" (defArgs s_sign_of) (defBody s_sign_of) (defScope s_sign_of) .none kV4 dc4 pm4 an4 cd4 ct4, a_shown := f5, d_shown := PySem.W.fnOf "shown" "shown" (defArgs s_shown) (defBody s_shown) (defScope s_shown) .none kV5 dc5 pm5 an5 cd5 ct5, a_thing_of := f6, d_thing_of := PySem.W.fnOf "thing_of" "thing_of" (defArgs s_thing_of) (defBody s_thing_of) (defScope s_thing_of) .none kV6 dc6 pm6 an6 cd6 ct6, a_read := f7, d_read := PySem.W.fnOf "read" "read" (defArgs s_read) (defBody s_read) (defScope s_read) .none kV7 dc7 pm7 an7 cd7 ct7, a_l_cell_at := f8, d_l_cell_at := PySem.W.fnOf "_law_cell_at" "_law_cell_at" (defArgs s_l_cell_at) (defBody s_l_cell_at) (defScope s_l_cell_at) .none kV8 dc8 pm8 an8 cd8 ct8, a_l_whole := f9, d_l_whole := PySem.W.fnOf "_law_whole" "_law_whole" (defArgs s_l_whole) (defBody s_l_whole) (defScope s_l_whole) .none kV9 dc9 pm9 an9 cd9 ct9, a_l_things := f10, d_l_things := PySem.W.fnOf "_law_things" "_law_things" (defArgs s_l_things) (defBody s_l_things) (defScope s_l_things) .none kV10 dc10 pm10 an10 cd10 ct10, a_l_endedT := f11, d_l_endedT := PySem.W.fnOf "_law_ended" "_law_ended" (defArgs s_l_endedT) (defBody s_l_endedT) (defScope s_l_endedT) .none kV11 dc11 pm11 an11 cd11 ct11, a_l_shown := f12, d_l_shown := PySem.W.fnOf "_law_shown" "_law_shown" (defArgs s_l_shown) (defBody s_l_shown) (defScope s_l_shown) .none kV12 dc12 pm12 an12 cd12 ct12, a_l_laying_of := f13, d_l_laying_of := PySem.W.fnOf "_law_laying_of" "_law_laying_of" (defArgs s_l_laying_of) (defBody s_l_laying_of) (defScope s_l_laying_of) .none kV13 dc13 pm13 an13 cd13 ct13, a_l_same := f14, d_l_same := PySem.W.fnOf "_law_same" "_law_same" (defArgs s_l_same) (defBody s_l_same) (defScope s_l_same) .none kV14 dc14 pm14 an14 cd14 ct14, a_l_sign_by := f15, d_l_sign_by := PySem.W.fnOf "_law_sign_by" "_law_sign_by" (defArgs s_l_sign_by) (defBody s_l_sign_by) (defScope s_l_sign_by) .none kV15 dc15 pm15 an15 cd15 ct15, a_l_line := f16, d_l_line := PySem.W.fnOf "_law_line" "_law_line" (defArgs s_l_line) (defBody s_l_line) (defScope s_l_line) .none kV16 dc16 pm16 an16 cd16 ct16, a_l_spoilt := f17, d_l_spoilt := PySem.W.fnOf "_law_spoilt" "_law_spoilt" (defArgs s_l_spoilt) (defBody s_l_spoilt) (defScope s_l_spoilt) .none kV17 dc17 pm17 an17 cd17 ct17, a_l_others := f18, d_l_others := PySem.W.fnOf "_law_others" "_law_others" (defArgs s_l_others) (defBody s_l_others) (defScope s_l_others) .none kV18 dc18 pm18 an18 cd18 ct18, a_l_text_refused := f19, d_l_text_refused := PySem.W.fnOf "_law_text_refused" "_law_text_refused" (defArgs s_l_text_refused) (defBody s_l_text_refused) (defScope s_l_text_refused) .none kV19 dc19 pm19 an19 cd19 ct19, a_l_laying_refused := f20, d_l_laying_refused := PySem.W.fnOf "_law_laying_refused" "_law_laying_refused" (defArgs s_l_laying_refused) (defBody s_l_laying_refused) (defScope s_l_laying_refused) .none kV20 dc20 pm20 an20 cd20 ct20, a_l_read := f21, d_l_read := PySem.W.fnOf "_law_read" "_law_read" (defArgs s_l_read) (defBody s_l_read) (defScope s_l_read) .none kV21 dc21 pm21 an21 cd21 ct21, a_law := fa, d_law := PySem.W.fnOf "law" "law" (defArgs s_law) (defBody s_law) (defScope s_law) .none kV22 dc22 pm22 an22 cd22 ct22 }
  have T : Txt K mg A F := { f_is_whole := F0, b_is_whole := B0, g_is_whole := PySem.W.mg_of X G a0, f_is_laying := F1, b_is_laying := B1, g_is_laying := PySem.W.mg_of X G a1, f_good_laying := F2, b_good_laying := B2, g_good_laying := PySem.W.mg_of X G a2, f_ended := F3, b_ended := B3, g_ended := PySem.W.mg_of X G a3, f_sign_of := F4, b_sign_of := B4, g_sign_of := PySem.W.mg_of X G a4, f_shown := F5, b_shown := B5, g_shown := PySem.W.mg_of X G a5, f_thing_of := F6, b_thing_of := B6, g_thing_of := PySem.W.mg_of X G a6, f_read := F7, b_read := B7, g_read := PySem.W.mg_of X G a7, f_l_cell_at := F8, b_l_cell_at := B8, g_l_cell_at := PySem.W.mg_of X G a8, f_l_whole := F9, b_l_whole := B9, g_l_whole := PySem.W.mg_of X G a9, f_l_things := F10, b_l_things := B10, g_l_things := PySem.W.mg_of X G a10, f_l_endedT := F11, b_l_endedT := B11, g_l_endedT := PySem.W.mg_of X G a11, f_l_shown := F12, b_l_shown := B12, g_l_shown := PySem.W.mg_of X G a12, f_l_laying_of := F13, b_l_laying_of := B13, g_l_laying_of := PySem.W.mg_of X G a13, f_l_same := F14, b_l_same := B14, g_l_same := PySem.W.mg_of X G a14, f_l_sign_by := F15, b_l_sign_by := B15, g_l_sign_by := PySem.W.mg_of X G a15, f_l_line := F16, b_l_line := B16, g_l_line := PySem.W.mg_of X G a16, f_l_spoilt := F17, b_l_spoilt := B17, g_l_spoilt := PySem.W.mg_of X G a17, f_l_others := F18, b_l_others := B18, g_l_others := PySem.W.mg_of X G a18, f_l_text_refused := F19, b_l_text_refused := B19, g_l_text_refused := PySem.W.mg_of X G a19, f_l_laying_refused := F20, b_l_laying_refused := B20, g_l_laying_refused := PySem.W.mg_of X G a20, f_l_read := F21, b_l_read := B21, g_l_read := PySem.W.mg_of X G a21, f_law := F22, b_law := B22, g_law := PySem.W.mg_of X G a22, n_ValueError := PySem.W.mg_none_of X G z_ValueError, n_bool := PySem.W.mg_none_of X G z_bool, n_int := PySem.W.mg_none_of X G z_int, n_isinstance := PySem.W.mg_none_of X G z_isinstance, n_len := PySem.W.mg_none_of X G z_len, n_list := PySem.W.mg_none_of X G z_list, n_range := PySem.W.mg_none_of X G z_range, n_reversed := PySem.W.mg_none_of X G z_reversed, n_str := PySem.W.mg_none_of X G z_str, g_NoDeed := PySem.W.mg_of X G ga_NoDeed, x_NoDeed := gx_NoDeed, k_NoDeed := gk_NoDeed, s_NoDeed := gs_NoDeed, t_NoDeed := gt_NoDeed, g_NoLaying := PySem.W.mg_of X G ga_NoLaying, x_NoLaying := gx_NoLaying, k_NoLaying := gk_NoLaying, s_NoLaying := gs_NoLaying, t_NoLaying := gt_NoLaying, g_NoLoad := PySem.W.mg_of X G ga_NoLoad, x_NoLoad := gx_NoLoad, k_NoLoad := gk_NoLoad, s_NoLoad := gs_NoLoad, t_NoLoad := gt_NoLoad, g_NoPlan := PySem.W.mg_of X G ga_NoPlan, x_NoPlan := gx_NoPlan, k_NoPlan := gk_NoPlan, s_NoPlan := gs_NoPlan, t_NoPlan := gt_NoPlan, g_NoText := PySem.W.mg_of X G ga_NoText, x_NoText := gx_NoText, k_NoText := gk_NoText, s_NoText := gs_NoText, t_NoText := gt_NoText, g_StoneError := PySem.W.mg_of X G ga_StoneError, x_StoneError := gx_StoneError, k_StoneError := gk_StoneError, s_StoneError := gs_StoneError, t_StoneError := gt_StoneError, xc_laying := ⟨hg_laying, hk_laying, gs_NoLaying, hd_NoLaying, ha_laying, hn_, ht_, hm_laying⟩, ct_laying := ⟨PySem.W.exm_ref gs_StoneError hd_StoneError gt_StoneError su_StoneError_laying, kit_type (by decide +kernel) sv_laying, kit_ref hd_NoLaying gt_NoLaying su_NoLaying_laying su_NoLaying_laying, kit_ref hd_NoLoad gt_NoLoad su_NoLoad_laying su_NoLaying_laying, kit_ref hd_NoPlan gt_NoPlan su_NoPlan_laying su_NoLaying_laying, kit_ref hd_NoText gt_NoText su_NoText_laying su_NoLaying_laying, kit_ref hd_NoDeed gt_NoDeed su_NoDeed_laying su_NoLaying_laying⟩, xc_text := ⟨hg_text, hk_text, gs_NoText, hd_NoText, ha_text, hn_, ht_, hm_text⟩, ct_text := ⟨PySem.W.exm_ref gs_StoneError hd_StoneError gt_StoneError su_StoneError_text, kit_type (by decide +kernel) sv_text, kit_ref hd_NoLaying gt_NoLaying su_NoLaying_text su_NoText_text, kit_ref hd_NoLoad gt_NoLoad su_NoLoad_text su_NoText_text, kit_ref hd_NoPlan gt_NoPlan su_NoPlan_text su_NoText_text, kit_ref hd_NoText gt_NoText su_NoText_text su_NoText_text, kit_ref hd_NoDeed gt_NoDeed su_NoDeed_text su_NoText_text⟩ }
  exact ⟨_, fun s v => .of_eq rfl, fun base _ _ => ok_law T⟩
end Law
open PySem PySem.W PyProof.Rows
set_option maxRecDepth 100000 in
set_option maxHeartbeats 0 in
theorem PySem.Challenge.cw_fewstones_k07_notes_holds : PySem.Challenge.rw_fewstones_k07_notes.Holds := by
  w_on; o_law; k_head; (case hw => w_witness2)
  k_fill
  refine L2.walk_of (l := PySem.Challenge.rw_fewstones_k07_notes) (n := 63) (k := 7) (x := "_law_script") (CX := fun _ => L2.CX0) (sp := fun w => Fw.sp_law _ Fw.A0) rfl (by decide) rfl ⟨rfl, by decide, by decide⟩ (fun w h Y => PySem.W.kIn_of Y) ?F (fun _ _ a ns hl _ hS => ⟨.ref a, ns, rfl, ⟨a, rfl, hS⟩, hl, fun _ _ => rfl⟩) (fun _ _ _ _ _ h => h)
  case F =>
    intro w mg fa h KX G hmg
    refine' Law.all_mk KX G hmg ?a0 ?l0 ?c0 ?k0 ?a1 ?l1 ?c1 ?k1 ?a2 ?l2 ?c2 ?k2 ?a3 ?l3 ?c3 ?k3 ?a4 ?l4 ?c4 ?k4 ?a5 ?l5 ?c5 ?k5 ?a6 ?l6 ?c6 ?k6 ?a7 ?l7 ?c7 ?k7 ?a8 ?l8 ?c8 ?k8 ?a9 ?l9 ?c9 ?k9 ?a10 ?l10 ?c10 ?k10 ?a11 ?l11 ?c11 ?k11 ?a12 ?l12 ?c12 ?k12 ?a13 ?l13 ?c13 ?k13 ?a14 ?l14 ?c14 ?k14 ?a15 ?l15 ?c15 ?k15 ?a16 ?l16 ?c16 ?k16 ?a17 ?l17 ?c17 ?k17 ?a18 ?l18 ?c18 ?k18 ?a19 ?l19 ?c19 ?k19 ?a20 ?l20 ?c20 ?k20 ?a21 ?l21 ?c21 ?k21 ?a22 ?l22 ?c22 ?k22 ?ga_NoDeed ?gx_NoDeed ?gk_NoDeed ?gs_NoDeed ?gt_NoDeed ?ga_NoLaying ?gx_NoLaying ?gk_NoLaying ?gs_NoLaying ?gt_NoLaying ?ga_NoLoad ?gx_NoLoad ?gk_NoLoad ?gs_NoLoad ?gt_NoLoad ?ga_NoPlan ?gx_NoPlan ?gk_NoPlan ?gs_NoPlan ?gt_NoPlan ?ga_NoText ?gx_NoText ?gk_NoText ?gs_NoText ?gt_NoText ?ga_StoneError ?gx_StoneError ?gk_StoneError ?gs_StoneError ?gt_StoneError ?hd_NoDeed ?hd_NoLaying ?hd_NoLoad ?hd_NoPlan ?hd_NoText ?hd_StoneError ?hn_ ?ht_ ?hg_laying ?hk_laying ?ha_laying ?hm_laying ?sv_laying ?su_NoDeed_laying ?su_NoLaying_laying ?su_NoLoad_laying ?su_NoPlan_laying ?su_NoText_laying ?su_StoneError_laying ?hg_text ?hk_text ?ha_text ?hm_text ?sv_text ?su_NoDeed_text ?su_NoLaying_text ?su_NoLoad_text ?su_NoPlan_text ?su_NoText_text ?su_StoneError_text ?z_ValueError ?z_bool ?z_int ?z_isinstance ?z_len ?z_list ?z_range ?z_reversed ?z_str
    (case a0 => k_is)
    (case l0 => k_is)
    (case c0 => k_is)
    (case k0 => k_is)
    (case a1 => k_is)
    (case l1 => k_is)
    (case c1 => k_is)
    (case k1 => k_is)
    (case a2 => k_is)
    (case l2 => k_is)
    (case c2 => k_is)
    (case k2 => k_is)
    (case a3 => k_is)
    (case l3 => k_is)
    (case c3 => k_is)
    (case k3 => k_is)
    (case a4 => k_is)
    (case l4 => k_is)
    (case c4 => k_is)
    (case k4 => k_is)
    (case a5 => k_is)
    (case l5 => k_is)
    (case c5 => k_is)
    (case k5 => k_is)
    (case a6 => k_is)
    (case l6 => k_is)
    (case c6 => k_is)
    (case k6 => k_is)
    (case a7 => k_is)
    (case l7 => k_is)
    (case c7 => k_is)
    (case k7 => k_is)
    (case a8 => k_is)
    (case l8 => k_is)
    (case c8 => k_is)
    (case k8 => k_is)
    (case a9 => k_is)
    (case l9 => k_is)
    (case c9 => k_is)
    (case k9 => k_is)
    (case a10 => k_is)
    (case l10 => k_is)
    (case c10 => k_is)
    (case k10 => k_is)
    (case a11 => k_is)
    (case l11 => k_is)
    (case c11 => k_is)
    (case k11 => k_is)
    (case a12 => k_is)
    (case l12 => k_is)
    (case c12 => k_is)
    (case k12 => k_is)
    (case a13 => k_is)
    (case l13 => k_is)
    (case c13 => k_is)
    (case k13 => k_is)
    (case a14 => k_is)
    (case l14 => k_is)
    (case c14 => k_is)
    (case k14 => k_is)
    (case a15 => k_is)
    (case l15 => k_is)
    (case c15 => k_is)
    (case k15 => k_is)
    (case a16 => k_is)
    (case l16 => k_is)
    (case c16 => k_is)
    (case k16 => k_is)
    (case a17 => k_is)
    (case l17 => k_is)
    (case c17 => k_is)
    (case k17 => k_is)
    (case a18 => k_is)
    (case l18 => k_is)
    (case c18 => k_is)
    (case k18 => k_is)
    (case a19 => k_is)
    (case l19 => k_is)
    (case c19 => k_is)
    (case k19 => k_is)
    (case a20 => k_is)
    (case l20 => k_is)
    (case c20 => k_is)
    (case k20 => k_is)
    (case a21 => k_is)
    (case l21 => k_is)
    (case c21 => k_is)
    (case k21 => k_is)
    (case a22 => k_is)
    (case l22 => k_is)
    (case c22 => k_is)
    (case k22 => k_is)
    (case ga_NoDeed => k_is)
    (case gx_NoDeed => k_exc)
    (case gk_NoDeed => k_is)
    (case gs_NoDeed => k_is)
    (case gt_NoDeed => k_is)
    (case ga_NoLaying => k_is)
    (case gx_NoLaying => k_exc)
    (case gk_NoLaying => k_is)
    (case gs_NoLaying => k_is)
    (case gt_NoLaying => k_is)
    (case ga_NoLoad => k_is)
    (case gx_NoLoad => k_exc)
    (case gk_NoLoad => k_is)
    (case gs_NoLoad => k_is)
    (case gt_NoLoad => k_is)
    (case ga_NoPlan => k_is)
    (case gx_NoPlan => k_exc)
    (case gk_NoPlan => k_is)
    (case gs_NoPlan => k_is)
    (case gt_NoPlan => k_is)
    (case ga_NoText => k_is)
    (case gx_NoText => k_exc)
    (case gk_NoText => k_is)
    (case gs_NoText => k_is)
    (case gt_NoText => k_is)
    (case ga_StoneError => k_is)
    (case gx_StoneError => k_exc)
    (case gk_StoneError => k_is)
    (case gs_StoneError => k_is)
    (case gt_StoneError => k_is)
    (case hd_NoDeed => k_is)
    (case hd_NoLaying => k_is)
    (case hd_NoLoad => k_is)
    (case hd_NoPlan => k_is)
    (case hd_NoText => k_is)
    (case hd_StoneError => k_is)
    (case hn_ => k_is)
    (case ht_ => k_is)
    (case hg_laying => k_is)
    (case hk_laying => k_is)
    (case ha_laying => k_is)
    (case hm_laying => k_is)
    (case sv_laying => k_is)
    (case su_NoDeed_laying => k_is)
    (case su_NoLaying_laying => k_is)
    (case su_NoLoad_laying => k_is)
    (case su_NoPlan_laying => k_is)
    (case su_NoText_laying => k_is)
    (case su_StoneError_laying => k_is)
    (case hg_text => k_is)
    (case hk_text => k_is)
    (case ha_text => k_is)
    (case hm_text => k_is)
    (case sv_text => k_is)
    (case su_NoDeed_text => k_is)
    (case su_NoLaying_text => k_is)
    (case su_NoLoad_text => k_is)
    (case su_NoPlan_text => k_is)
    (case su_NoText_text => k_is)
    (case su_StoneError_text => k_is)
    (case z_ValueError => k_is)
    (case z_bool => k_is)
    (case z_int => k_is)
    (case z_isinstance => k_is)
    (case z_len => k_is)
    (case z_list => k_is)
    (case z_range => k_is)
    (case z_reversed => k_is)
    (case z_str => k_is)
#print axioms PySem.Challenge.cw_fewstones_k07_notes_holds

