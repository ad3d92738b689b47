import PyProof.Rows.All
import HandS.Words
import Wide.All
import OpenK.AllK
import Wide.FinOn
import KE.KStateDown
import KE.KMathGC
import KE.KTupSum
import HandS.ForMost
import HandS.Exc
import HandS.TryOnly
import HandS.ExcOwn
import HandS.ExcField
import HandS.WordsExc
import HandS.Defaults
import HandS.Star
import HandS.GenList
import HandS.StrMore
import HandS.IsInst
import HandS.TupAny
import HandS.ClsMeth
import HandS.WideBits
import KE.KExcSuper
import HandS.ExcSuper
import HandS.FStr
import HandS.MakeKw
import HandS.MakeKwOnly
import HandS.GenYield
import HandS.HeadHook1
import HandS.HeadHook2
import HandS.Head0
import HandS.Head1
import HandS.Head2
import HandS.Head3
import HandS.HeadEnd
import PySem.Challenge.RW_carrylog_k29_whole_count_of_safe_words
/-! The mathematics, first part: sums of budgets, the gaps of the newest play. No Python here. -/
namespace Cm
set_option maxRecDepth 10000
/-- the budget of put t -/
def bA (bs : List Nat) (i : Nat) : Nat := bs.getD (i % bs.length) 0
def tot (bs : List Nat) (s : Nat) : Nat → Nat
  | 0 => 0
  | n + 1 => tot bs s n + bA bs (s + n)
theorem tot_add (bs : List Nat) (s a : Nat) : ∀ b, tot bs s (a + b) = tot bs s a + tot bs (s + a) b
  | 0 => rfl
  | b + 1 => by
    show tot bs s (a + b) + bA bs (s + (a + b)) = tot bs s a + (tot bs (s + a) b + bA bs (s + a + b))
    rw [tot_add bs s a b, Nat.add_assoc s a b]
    omega
theorem bA_per (bs : List Nat) (i : Nat) : bA bs (i + bs.length) = bA bs i := by
  unfold bA
  rw [Nat.add_mod_right]
theorem bA_mod (bs : List Nat) (i : Nat) : bA bs (i % bs.length) = bA bs i := by
  unfold bA
  rw [Nat.mod_mod]
theorem bA_mod_add (bs : List Nat) (s i : Nat) : bA bs (s % bs.length + i) = bA bs (s + i) := by
  unfold bA
  rw [Nat.mod_add_mod]
theorem tot_mod (bs : List Nat) (s : Nat) : ∀ n, tot bs (s % bs.length) n = tot bs s n
  | 0 => rfl
  | n + 1 => by
    show tot bs (s % bs.length) n + bA bs (s % bs.length + n) = tot bs s n + bA bs (s + n)
    rw [tot_mod bs s n, bA_mod_add]
theorem tot_congr {bs : List Nat} {s s' : Nat} (h : s % bs.length = s' % bs.length) (n : Nat) : tot bs s n = tot bs s' n := by
  rw [← tot_mod bs s, h, tot_mod]
theorem tot_mono (bs : List Nat) (s : Nat) {a b : Nat} (h : a ≤ b) : tot bs s a ≤ tot bs s b := by
  obtain ⟨c, rfl⟩ : ∃ c, b = a + c := ⟨b - a, by omega⟩
  rw [tot_add]
  omega
/-- all windows of c budgets sum to at least x -/
def AllW (bs : List Nat) (c x : Nat) : Prop := ∀ s, x ≤ tot bs s c
theorem allW_of {bs : List Nat} {c x : Nat} (hl : 0 < bs.length) (s₀ : Nat) (h : ∀ i, i < bs.length → x ≤ tot bs (s₀ + i) c) : AllW bs c x := by
  intro s
  have h1 : s₀ % bs.length < bs.length := Nat.mod_lt _ hl
  have h2 : s % bs.length < bs.length := Nat.mod_lt _ hl
  by_cases hc : s₀ % bs.length ≤ s % bs.length
  · have h3 := h (s % bs.length - s₀ % bs.length) (by omega)
    rw [tot_congr (s' := s) ?_] at h3
    · exact h3
    · rw [Nat.add_mod, Nat.mod_eq_of_lt (a := s % bs.length - s₀ % bs.length) (by omega)]
      rw [show s₀ % bs.length + (s % bs.length - s₀ % bs.length) = s % bs.length by omega, Nat.mod_mod]
  · have h3 := h (bs.length + s % bs.length - s₀ % bs.length) (by omega)
    rw [tot_congr (s' := s) ?_] at h3
    · exact h3
    · rw [Nat.add_mod, Nat.mod_eq_of_lt (a := bs.length + s % bs.length - s₀ % bs.length) (by omega)]
      rw [show s₀ % bs.length + (bs.length + s % bs.length - s₀ % bs.length) = s % bs.length + bs.length by omega, Nat.add_mod_right, Nat.mod_mod]
/-- a poor window lies among any bs.length windows in a row -/
theorem poor_from {bs : List Nat} {c x s : Nat} (hl : 0 < bs.length) (h : tot bs s c < x) (s₀ : Nat) : ∃ i, i < bs.length ∧ tot bs (s₀ + i) c < x := by
  refine Classical.byContradiction fun hn => ?_
  have h2 := allW_of (x := x) (c := c) hl s₀ fun i hi => Nat.le_of_not_lt fun z => hn ⟨i, hi, z⟩
  exact absurd (h2 s) (Nat.not_le_of_lt h)

/-! ### the gaps: at time t the j-th newest one has gap t j zeros behind it -/
section
variable (bs : List Nat) (ph n N : Nat) (g0 : Nat → Nat)
def gap : Nat → Nat → Nat
  | 0, j => g0 j
  | t + 1, j => if j ≤ bA bs (ph + t) then 0 else if n + t < N then gap t (j - bA bs (ph + t) - 1) else gap t (j - bA bs (ph + t)) + 1
theorem gap_fill : ∀ (t j : Nat), t ≤ N - n → gap bs ph n N g0 t j = if tot bs ph t + t ≤ j then g0 (j - (tot bs ph t + t)) else 0
  | 0, j, _ => by
    show g0 j = if 0 + 0 ≤ j then g0 (j - (0 + 0)) else 0
    rw [if_pos (by omega)]
    rfl
  | t + 1, j, h => by
    show (if j ≤ bA bs (ph + t) then 0 else if n + t < N then gap bs ph n N g0 t (j - bA bs (ph + t) - 1) else gap bs ph n N g0 t (j - bA bs (ph + t)) + 1) = if tot bs ph t + bA bs (ph + t) + (t + 1) ≤ j then g0 (j - (tot bs ph t + bA bs (ph + t) + (t + 1))) else 0
    by_cases h1 : j ≤ bA bs (ph + t)
    · rw [if_pos h1, if_neg (by omega)]
    · rw [if_neg h1, if_pos (by omega), gap_fill t _ (by omega)]
      by_cases h2 : tot bs ph t + bA bs (ph + t) + (t + 1) ≤ j
      · rw [if_pos h2, if_pos (by omega)]
        congr 1
        omega
      · rw [if_neg h2, if_neg (by omega)]
theorem gap_far (s : Nat) (hs : N ≤ n + s) : ∀ (c j : Nat), tot bs (ph + s) c < j → gap bs ph n N g0 (s + c) j = c + gap bs ph n N g0 s (j - tot bs (ph + s) c)
  | 0, j, h => by
    show gap bs ph n N g0 s j = 0 + gap bs ph n N g0 s (j - 0)
    rw [Nat.zero_add, Nat.sub_zero]
  | c + 1, j, h => by
    have h' : tot bs (ph + s) c + bA bs (ph + s + c) < j := h
    show (if j ≤ bA bs (ph + (s + c)) then 0 else if n + (s + c) < N then gap bs ph n N g0 (s + c) (j - bA bs (ph + (s + c)) - 1) else gap bs ph n N g0 (s + c) (j - bA bs (ph + (s + c))) + 1) = c + 1 + gap bs ph n N g0 s (j - (tot bs (ph + s) c + bA bs (ph + s + c)))
    rw [← Nat.add_assoc ph s c, if_neg (by omega), if_neg (by omega), gap_far s hs c _ (by omega)]
    rw [show j - bA bs (ph + s + c) - tot bs (ph + s) c = j - (tot bs (ph + s) c + bA bs (ph + s + c)) by omega]
    omega
theorem gap_near (s : Nat) (hs : N ≤ n + s) : ∀ (c j : Nat), 1 ≤ j → j ≤ tot bs (ph + s) c → gap bs ph n N g0 (s + c) j + 1 ≤ c
  | 0, j, h1, h => by
    have h' : j ≤ 0 := h
    omega
  | c + 1, j, h1, h => by
    have h' : j ≤ tot bs (ph + s) c + bA bs (ph + s + c) := h
    show (if j ≤ bA bs (ph + (s + c)) then 0 else if n + (s + c) < N then gap bs ph n N g0 (s + c) (j - bA bs (ph + (s + c)) - 1) else gap bs ph n N g0 (s + c) (j - bA bs (ph + (s + c))) + 1) + 1 ≤ c + 1
    rw [← Nat.add_assoc ph s c]
    by_cases h2 : j ≤ bA bs (ph + s + c)
    · rw [if_pos h2]
      omega
    · rw [if_neg h2, if_neg (by omega)]
      have := gap_near s hs c (j - bA bs (ph + s + c)) (by omega) (by omega)
      omega
/-- the length ahead of put t -/
def lenAt (t : Nat) : Nat := if n + t = 0 then 0 else min (n + t) N + gap bs ph n N g0 t (min (n + t) N - 1)
end
section
variable {bs : List Nat} {ph n N m : Nat} {g0 : Nat → Nat} (hn : n ≤ N) (hN : 2 ≤ N)
include hn hN
/-- while an old record is at the tail -/
theorem len_old {t : Nat} (h : tot bs ph t < min n (N - 1)) : lenAt bs ph n N g0 t = n + t + g0 (n - 1 - tot bs ph t) := by
  unfold lenAt
  rw [if_neg (by omega)]
  by_cases ht : t ≤ N - n
  · rw [gap_fill bs ph n N g0 t _ ht, Nat.min_eq_left (by omega), if_pos (by omega)]
    congr 2
    omega
  · obtain ⟨u, rfl⟩ : ∃ u, t = (N - n) + u := ⟨t - (N - n), by omega⟩
    rw [tot_add] at h ⊢
    rw [Nat.min_eq_right (a := n + (N - n + u)) (by omega), gap_far bs ph n N g0 (N - n) (by omega) u _ (by omega), gap_fill bs ph n N g0 (N - n) _ (Nat.le_refl _), if_pos (by omega)]
    rw [show N - 1 - tot bs (ph + (N - n)) u - (tot bs ph (N - n) + (N - n)) = n - 1 - (tot bs ph (N - n) + tot bs (ph + (N - n)) u) by omega]
    omega
/-- the rule holds and no old record blocks: never full -/
theorem len_safe (hm : N ≤ m) (hr : AllW bs (m - N) (N - 1)) (hb : ∀ t, t < m → tot bs ph t < min n (N - 1) → n + t + g0 (n - 1 - tot bs ph t) < m) (t : Nat) : lenAt bs ph n N g0 t < m := by
  have hmN : N < m := by
    refine Classical.byContradiction fun hc => ?_
    have h0 := hr 0
    rw [show m - N = 0 by omega] at h0
    have h1 : N - 1 ≤ 0 := h0
    omega
  by_cases ho : tot bs ph t < min n (N - 1)
  · rw [len_old hn hN ho]
    refine hb t ?_ ho
    refine Classical.byContradiction fun hc => ?_
    have h1 := hr ph
    have h2 := tot_mono bs ph (show m - N ≤ t by omega)
    omega
  · unfold lenAt
    split
    · omega
    · by_cases ht : t ≤ N - n
      · rw [gap_fill bs ph n N g0 t _ ht, Nat.min_eq_left (by omega)]
        by_cases hj : tot bs ph t + t ≤ n + t - 1
        · have e1 : n = N := by omega
          have e2 : t = 0 := by omega
          subst e2
          have e3 : tot bs ph 0 = 0 := rfl
          omega
        · rw [if_neg hj]
          omega
      · obtain ⟨u, rfl⟩ : ∃ u, t = (N - n) + u := ⟨t - (N - n), by omega⟩
        rw [Nat.min_eq_right (a := n + (N - n + u)) (by omega)]
        by_cases hu : m - N ≤ u
        · have h1 := gap_near bs ph n N g0 (N - n + u - (m - N)) (by omega) (m - N) (N - 1) (by omega) (hr _)
          rw [show N - n + u - (m - N) + (m - N) = N - n + u by omega] at h1
          omega
        · by_cases hw : tot bs (ph + (N - n)) u < N - 1
          · rw [tot_add] at ho
            rw [gap_far bs ph n N g0 (N - n) (by omega) u _ hw, gap_fill bs ph n N g0 (N - n) _ (Nat.le_refl _)]
            by_cases hj : tot bs ph (N - n) + (N - n) ≤ N - 1 - tot bs (ph + (N - n)) u
            · have e1 : n = N := by omega
              have e2 : N - n = 0 := by omega
              rw [e2] at hw ho
              have e3 : tot bs ph 0 = 0 := rfl
              have e4 : ph + 0 = ph := rfl
              rw [e4] at hw ho
              omega
            · rw [if_neg hj]
              omega
          · have h1 := gap_near bs ph n N g0 (N - n) (by omega) u (N - 1) (by omega) (by omega)
            omega
/-- too few places: full when all keys live -/
theorem len_few : N ≤ lenAt bs ph n N g0 (N - n) := by
  unfold lenAt
  rw [if_neg (by omega), Nat.min_eq_right (a := n + (N - n)) (by omega)]
  omega
/-- a poor window fills the log -/
theorem len_poor {s : Nat} (hm : N ≤ m) (hs : N - n ≤ s) (h : tot bs (ph + s) (m - N) < N - 1) : m ≤ lenAt bs ph n N g0 (s + (m - N)) := by
  unfold lenAt
  rw [if_neg (by omega), Nat.min_eq_right (a := n + (s + (m - N))) (by omega), gap_far bs ph n N g0 s (by omega) _ _ h]
  omega
end
end Cm
/-! The mathematics, second part: words as lists of signs, their depths, the newest play against the rule. -/
namespace Cm
/-- the depths of the ones, from the tail -/
def dep : List Bool → List Nat
  | [] => []
  | true :: w => (w.length + 1) :: dep w
  | false :: w => dep w
def trim : List Bool → List Bool
  | false :: w => trim w
  | w => w
def Norm (w : List Bool) : Prop := ∀ b r, w = b :: r → b = true
def ones (w : List Bool) : Nat := (dep w).length
def relAt : List Bool → Nat → List Bool
  | [], _ => []
  | true :: w, 0 => false :: w
  | true :: w, i + 1 => true :: relAt w i
  | false :: w, i => false :: relAt w i
def carryW (w : List Bool) (m : Nat) : List Bool := if w = [] ∨ m ≤ w.length then w else trim (w.tail ++ [true])
def carryN (w : List Bool) (m : Nat) : Nat → List Bool
  | 0 => w
  | k + 1 => carryW (carryN w m k) m
def relO (w : List Bool) : Option Nat → List Bool
  | none => w
  | some i => trim (relAt w i)
def putW (w : List Bool) (which : Option Nat) (count m : Nat) (late : Bool) : Option (List Bool) :=
  if late then
    if m ≤ w.length then none else some (carryN (relO (w ++ [true]) which) m (min count (ones (relO (w ++ [true]) which) - 1)))
  else
    if m ≤ (carryN (relO w which) m (min count (ones (relO w which)))).length then none else some (carryN (relO w which) m (min count (ones (relO w which))) ++ [true])
def newestW (w : List Bool) (N : Nat) : Option Nat := if ones w = N then some (ones w - 1) else none
/-- how many of the next k puts complete -/
def plays (bs : List Nat) (ph N m : Nat) (late : Bool) : Nat → List Bool → Nat → Nat
  | 0, _, _ => 0
  | k + 1, w, t => match putW w (newestW w N) (bA bs (ph + t)) m late with
    | none => 0
    | some w' => 1 + plays bs ph N m late k w' (t + 1)

theorem dep_trim : ∀ w, dep (trim w) = dep w
  | [] => rfl
  | true :: _ => rfl
  | false :: w => dep_trim w
theorem trim_len : ∀ w, (trim w).length ≤ w.length
  | [] => Nat.le_refl _
  | true :: _ => Nat.le_refl _
  | false :: w => Nat.le_succ_of_le (trim_len w)
theorem trim_norm : ∀ w, Norm (trim w)
  | [] => fun b r h => by cases h
  | true :: _ => fun b r h => by
    injection h with h1 h2
    exact h1.symm
  | false :: w => trim_norm w
theorem trim_of : ∀ {w}, Norm w → trim w = w
  | [], _ => rfl
  | true :: _, _ => rfl
  | false :: w, h => by cases h false w rfl
theorem dep_app : ∀ w, dep (w ++ [true]) = (dep w).map (· + 1) ++ [1]
  | [] => rfl
  | true :: w => by
    show ((w ++ [true]).length + 1) :: dep (w ++ [true]) = (w.length + 1 + 1) :: ((dep w).map (· + 1) ++ [1])
    rw [dep_app w, List.length_append]
    rfl
  | false :: w => dep_app w
theorem relAt_len : ∀ (w : List Bool) (i : Nat), (relAt w i).length = w.length
  | [], _ => rfl
  | true :: w, 0 => rfl
  | true :: w, i + 1 => congrArg Nat.succ (relAt_len w i)
  | false :: w, i => congrArg Nat.succ (relAt_len w i)
theorem dep_relAt : ∀ (w : List Bool) (i : Nat), dep (relAt w i) = (dep w).eraseIdx i
  | [], i => by simp [relAt, dep]
  | true :: w, 0 => rfl
  | true :: w, i + 1 => by
    show ((relAt w i).length + 1) :: dep (relAt w i) = (w.length + 1) :: (dep w).eraseIdx i
    rw [relAt_len, dep_relAt w i]
  | false :: w, i => dep_relAt w i
theorem norm_dep {w : List Bool} (h : Norm w) : w = [] ∨ ∃ r, w = true :: r := by
  cases w with
  | nil => exact .inl rfl
  | cons b r =>
    have := h b r rfl
    subst this
    exact .inr ⟨r, rfl⟩
theorem len_head {w : List Bool} (h : Norm w) {d : Nat} {l : List Nat} (e : dep w = d :: l) : w.length = d := by
  rcases norm_dep h with rfl | ⟨r, rfl⟩
  · cases e
  · injection e
theorem norm_nil {w : List Bool} (h : Norm w) (e : dep w = []) : w = [] := by
  rcases norm_dep h with rfl | ⟨r, rfl⟩
  · rfl
  · cases e
theorem norm_app {w : List Bool} (h : Norm w) : Norm (w ++ [true]) := by
  intro b r e
  cases w with
  | nil =>
    injection e with e1 e2
    exact e1.symm
  | cons c l =>
    injection e with e1 e2
    rw [← e1]
    exact h c l rfl
theorem dep_bound : ∀ w, ∀ d ∈ dep w, 1 ≤ d ∧ d ≤ w.length
  | [], d, h => by cases h
  | true :: w, d, h => by
    rcases List.mem_cons.mp h with rfl | h
    · exact ⟨by omega, Nat.le_refl _⟩
    · obtain ⟨h1, h2⟩ := dep_bound w d h
      exact ⟨h1, Nat.le_succ_of_le h2⟩
  | false :: w, d, h => by
    obtain ⟨h1, h2⟩ := dep_bound w d h
    exact ⟨h1, Nat.le_succ_of_le h2⟩
theorem dep_ge : ∀ (w : List Bool) (i d : Nat), (dep w)[i]? = some d → ones w ≤ d + i
  | [], i, d, h => by cases h
  | true :: w, 0, d, h => by
    have e : w.length + 1 = d := Option.some.inj h
    show (dep w).length + 1 ≤ d + 0
    have h2 : ∀ w, (dep w).length ≤ w.length := by
      intro w
      induction w with
      | nil => exact Nat.le_refl _
      | cons b r ih =>
        cases b with
        | true => exact Nat.succ_le_succ ih
        | false => exact Nat.le_succ_of_le ih
    have := h2 w
    omega
  | true :: w, i + 1, d, h => by
    have := dep_ge w i d h
    show (dep w).length + 1 ≤ d + (i + 1)
    unfold ones at this
    omega
  | false :: w, i, d, h => dep_ge w i d h
theorem ones_le (w : List Bool) : ones w ≤ w.length := by
  unfold ones
  induction w with
  | nil => exact Nat.le_refl _
  | cons b r ih =>
    cases b with
    | true => exact Nat.succ_le_succ ih
    | false => exact Nat.le_succ_of_le ih

/-! ### carrying -/
def desc : Nat → List Nat
  | 0 => []
  | k + 1 => (k + 1) :: desc k
theorem desc_len : ∀ k, (desc k).length = k
  | 0 => rfl
  | k + 1 => congrArg Nat.succ (desc_len k)
theorem desc_up : ∀ k, (desc k).map (· + 1) ++ [1] = desc (k + 1)
  | 0 => rfl
  | k + 1 => by
    show (k + 1 + 1) :: ((desc k).map (· + 1) ++ [1]) = (k + 1 + 1) :: desc (k + 1)
    rw [desc_up k]
theorem desc_get : ∀ (k i : Nat), i < k → (desc k)[i]? = some (k - i)
  | 0, i, h => by omega
  | k + 1, 0, h => rfl
  | k + 1, i + 1, h => by
    show (desc k)[i]? = some (k + 1 - (i + 1))
    rw [desc_get k i (by omega)]
    congr 1
    omega
theorem carry_one {w : List Bool} {m : Nat} (h : Norm w) (hm : w.length < m) {d : Nat} {l : List Nat} (e : dep w = d :: l) : dep (carryW w m) = l.map (· + 1) ++ [1] ∧ Norm (carryW w m) ∧ (carryW w m).length < m := by
  rcases norm_dep h with rfl | ⟨r, rfl⟩
  · cases e
  · have e1 : carryW (true :: r) m = trim (r ++ [true]) := if_neg (by
      intro z
      rcases z with z | z
      · cases z
      · omega)
    rw [e1, dep_trim, dep_app]
    injection e with _ e2
    refine ⟨by rw [e2], trim_norm _, ?_⟩
    have := trim_len (r ++ [true])
    rw [List.length_append] at this
    have h2 : (true :: r).length = r.length + 1 := rfl
    have h3 : [true].length = 1 := rfl
    omega
theorem carry_many {w : List Bool} {m : Nat} (h : Norm w) (hm : w.length < m) : ∀ k, k ≤ ones w → dep (carryN w m k) = ((dep w).drop k).map (· + k) ++ desc k ∧ Norm (carryN w m k) ∧ (carryN w m k).length < m
  | 0, _ => by
    refine ⟨?_, h, hm⟩
    show dep w = ((dep w).drop 0).map (· + 0) ++ []
    simp
  | k + 1, hk => by
    obtain ⟨h1, h2, h3⟩ := carry_many h hm k (by omega)
    have hk2 : k < (dep w).length := hk
    have e0 : (dep w).drop k = (dep w)[k] :: (dep w).drop (k + 1) := List.drop_eq_getElem_cons hk2
    rw [e0] at h1
    obtain ⟨q1, q2, q3⟩ := carry_one h2 h3 h1
    refine ⟨?_, q2, q3⟩
    show dep (carryW (carryN w m k) m) = _
    have q1' : dep (carryW (carryN w m k) m) = (((dep w).drop (k + 1)).map (· + k) ++ desc k).map (· + 1) ++ [1] := q1
    rw [q1', List.map_append, List.append_assoc, desc_up, List.map_map]
    rfl
theorem carry_full {w : List Bool} {m : Nat} (hm : m ≤ w.length) : ∀ k, carryN w m k = w
  | 0 => rfl
  | k + 1 => by
    show carryW (carryN w m k) m = w
    rw [carry_full hm k]
    exact if_pos (.inr hm)
theorem carry_nil {m : Nat} : ∀ k, carryN [] m k = []
  | 0 => rfl
  | k + 1 => by
    show carryW (carryN [] m k) m = []
    rw [carry_nil k]
    exact if_pos (.inl rfl)

/-! ### the newest play, by depths -/
/-- the others, by depths -/
def oth (N : Nat) (D : List Nat) : List Nat := if D.length = N then D.dropLast else D
def stepD (b N : Nat) (D : List Nat) : List Nat := ((oth N D).drop (min b (oth N D).length)).map (· + (min b (oth N D).length + 1)) ++ desc (min b (oth N D).length + 1)
theorem erase_last : ∀ (l : List Nat), l.eraseIdx (l.length - 1) = l.dropLast
  | [] => rfl
  | [a] => rfl
  | a :: b :: r => by
    show a :: (b :: r).eraseIdx ((b :: r).length - 1) = a :: (b :: r).dropLast
    rw [erase_last (b :: r)]
theorem oth_dep {w : List Bool} {N : Nat} : dep (relO w (newestW w N)) = oth N (dep w) := by
  unfold newestW oth ones
  split
  · show dep (trim (relAt w _)) = _
    rw [dep_trim, dep_relAt, erase_last]
  · rfl
theorem oth_len {N : Nat} {D : List Nat} (hN : 1 ≤ N) (h : D.length ≤ N) : (oth N D).length + 1 = min (D.length + 1) N := by
  unfold oth
  split
  · rw [List.length_dropLast]
    omega
  · omega
theorem relAt_head : ∀ {w : List Bool} {i : Nat}, 0 < i → Norm w → Norm (relAt w i)
  | [], i, _, h => fun b r e => by cases e
  | true :: w, 0, h0, h => by omega
  | true :: w, i + 1, h0, h => fun b r e => by
    injection e with e1 e2
    exact e1.symm
  | false :: w, i, _, h => by cases h false w rfl
theorem relO_norm {w : List Bool} (h : Norm w) : ∀ o, Norm (relO w o)
  | none => h
  | some i => trim_norm _
theorem oth_wlen {w : List Bool} {N : Nat} (h : Norm w) (hN : 2 ≤ N) : (relO w (newestW w N)).length = w.length := by
  unfold newestW
  split
  · rename_i e
    show (trim (relAt w (ones w - 1))).length = w.length
    rw [trim_of (relAt_head (by omega) h), relAt_len]
  · rfl
theorem put_early {w : List Bool} {N m b : Nat} (h : Norm w) (hN : 2 ≤ N) (hm : w.length < m) : ∃ w', putW w (newestW w N) b m false = some w' ∧ Norm w' ∧ dep w' = stepD b N (dep w) := by
  have h1 := relO_norm h (newestW w N)
  have h2 := oth_wlen h hN
  obtain ⟨q1, q2, q3⟩ := carry_many h1 (by rw [h2]; exact hm) (min b (ones (relO w (newestW w N)))) (Nat.min_le_right _ _)
  refine ⟨carryN (relO w (newestW w N)) m (min b (ones (relO w (newestW w N)))) ++ [true], ?_, norm_app q2, ?_⟩
  · unfold putW
    rw [if_neg Bool.false_ne_true, if_neg (by omega)]
  · rw [dep_app, q1]
    unfold ones stepD
    rw [oth_dep, List.map_append, List.append_assoc, desc_up, List.map_map]
    rfl
theorem put_early_full {w : List Bool} {N m b : Nat} (h : Norm w) (hN : 2 ≤ N) (hm : m ≤ w.length) : putW w (newestW w N) b m false = none := by
  have h2 := oth_wlen h hN
  unfold putW
  rw [if_neg Bool.false_ne_true, carry_full (by rw [h2]; exact hm), if_pos (by rw [h2]; exact hm)]
theorem late_dep {w : List Bool} {N : Nat} (h : Norm w) (hN : 2 ≤ N) : dep (relO (w ++ [true]) (newestW w N)) = (oth N (dep w)).map (· + 1) ++ [1] ∧ (relO (w ++ [true]) (newestW w N)).length = w.length + 1 := by
  unfold newestW
  split
  · rename_i e
    refine ⟨?_, ?_⟩
    · show dep (trim (relAt (w ++ [true]) (ones w - 1))) = _
      rw [dep_trim, dep_relAt, dep_app]
      unfold oth
      unfold ones at e ⊢
      rw [if_pos e, List.eraseIdx_append_of_lt_length (by rw [List.length_map]; omega)]
      congr 1
      have q := erase_last ((dep w).map (· + 1))
      rw [List.length_map] at q
      rw [q, List.map_dropLast]
    · show (trim (relAt (w ++ [true]) (ones w - 1))).length = _
      rw [trim_of (relAt_head (by omega) (norm_app h)), relAt_len, List.length_append]
      rfl
  · rename_i e
    refine ⟨?_, ?_⟩
    · show dep (w ++ [true]) = _
      unfold oth
      rw [if_neg (show ¬ (dep w).length = N from e), dep_app]
    · show (w ++ [true]).length = _
      rw [List.length_append]
      rfl
theorem put_late {w : List Bool} {N m b : Nat} (h : Norm w) (hN : 2 ≤ N) (hm : w.length < m) : ∃ w', putW w (newestW w N) b (m + 1) true = some w' ∧ Norm w' ∧ dep w' = stepD b N (dep w) ∧ w'.length ≤ m := by
  obtain ⟨e1, e2⟩ := late_dep h hN
  have h1 := relO_norm (norm_app h) (newestW w N)
  have eo : ones (relO (w ++ [true]) (newestW w N)) = (oth N (dep w)).length + 1 := by
    unfold ones
    rw [e1, List.length_append, List.length_map]
    rfl
  have hk : min b (ones (relO (w ++ [true]) (newestW w N)) - 1) = min b (oth N (dep w)).length := by
    rw [eo]
    omega
  obtain ⟨q1, q2, q3⟩ := carry_many (m := m + 1) h1 (by omega) (min b (oth N (dep w)).length) (by omega)
  refine ⟨_, ?_, q2, ?_, Nat.le_of_lt_succ q3⟩
  · unfold putW
    rw [if_pos rfl, if_neg (by omega), hk]
  · rw [q1, e1]
    unfold stepD
    rw [List.drop_append_of_le_length (by rw [List.length_map]; omega), List.map_append, List.append_assoc, ← List.map_drop, List.map_map]
    congr 1
    · apply List.map_congr_left
      intro x _
      show x + 1 + min b (oth N (dep w)).length = x + (min b (oth N (dep w)).length + 1)
      omega
    · show [1 + min b (oth N (dep w)).length] ++ desc _ = (min b (oth N (dep w)).length + 1) :: desc _
      rw [Nat.add_comm]
      rfl
theorem put_late_edge {w : List Bool} {N m b : Nat} (h : Norm w) (hN : 2 ≤ N) (hm : w.length = m) : ∃ w', putW w (newestW w N) b (m + 1) true = some w' ∧ w'.length = m + 1 := by
  obtain ⟨e1, e2⟩ := late_dep h hN
  refine ⟨relO (w ++ [true]) (newestW w N), ?_, by omega⟩
  unfold putW
  rw [if_pos rfl, if_neg (by omega), carry_full (by omega)]
theorem put_late_full {w : List Bool} {o : Option Nat} {m b : Nat} (hm : m ≤ w.length) : putW w o b m true = none := by
  unfold putW
  rw [if_pos rfl, if_pos hm]

/-! ### depths by gaps -/
/-- the depth of the j-th newest -/
abbrev Rp (w : List Bool) (n : Nat) (e : Nat → Nat) : Prop := (dep w).length = n ∧ ∀ j, j < n → (dep w)[n - 1 - j]? = some (e j + j + 1)
theorem rp_step {w w' : List Bool} {bs : List Nat} {ph n N t : Nat} {g0 : Nat → Nat} (hN : 1 ≤ N) (hn : n ≤ N) (h : Rp w (min (n + t) N) (gap bs ph n N g0 t)) (e : dep w' = stepD (bA bs (ph + t)) N (dep w)) : Rp w' (min (n + (t + 1)) N) (gap bs ph n N g0 (t + 1)) := by
  obtain ⟨h1, h2⟩ := h
  have hl := oth_len (D := dep w) hN (by omega)
  rw [h1] at hl
  have hl2 : (oth N (dep w)).length + 1 = min (n + (t + 1)) N := by omega
  generalize hb : bA bs (ph + t) = b at e
  generalize hr : (oth N (dep w)).length = r at hl2
  have en : min (n + (t + 1)) N = r + 1 := hl2.symm
  rw [en]
  unfold stepD at e
  rw [hr] at e
  have lenL : (((oth N (dep w)).drop (min b r)).map (· + (min b r + 1))).length = r - min b r := by
    rw [List.length_map, List.length_drop, hr]
  refine ⟨?_, fun j hj => ?_⟩
  · rw [e, List.length_append, lenL, desc_len]
    omega
  · rw [e]
    show _ = some ((if j ≤ bA bs (ph + t) then 0 else if n + t < N then gap bs ph n N g0 t (j - bA bs (ph + t) - 1) else gap bs ph n N g0 t (j - bA bs (ph + t)) + 1) + j + 1)
    rw [hb]
    by_cases hjb : j ≤ b
    · rw [if_pos hjb, List.getElem?_append_right (by rw [lenL]; omega), lenL, desc_get _ _ (by omega)]
      congr 1
      omega
    · rw [if_neg hjb, List.getElem?_append_left (by rw [lenL]; omega), List.getElem?_map, List.getElem?_drop]
      have em : min b r = b := by omega
      rw [em]
      have idx : b + (r + 1 - 1 - j) = r + b - j := by omega
      rw [idx]
      by_cases hf : n + t < N
      · have eo : oth N (dep w) = dep w := by
          unfold oth
          rw [if_neg (by omega)]
        have hr2 : r = n + t := by
          rw [eo, h1] at hr
          omega
        rw [if_pos hf, eo]
        have h3 := h2 (j - b - 1) (by omega)
        rw [show min (n + t) N - 1 - (j - b - 1) = r + b - j by omega] at h3
        rw [h3]
        show some (gap bs ph n N g0 t (j - b - 1) + (j - b - 1) + 1 + (b + 1)) = _
        congr 1
        omega
      · have eo : oth N (dep w) = (dep w).dropLast := by
          unfold oth
          rw [if_pos (by omega)]
        have hr2 : r = N - 1 := by
          rw [eo, List.length_dropLast, h1] at hr
          omega
        rw [if_neg hf, eo, List.getElem?_dropLast, if_pos (by omega)]
        have h3 := h2 (j - b) (by omega)
        rw [show min (n + t) N - 1 - (j - b) = r + b - j by omega] at h3
        rw [h3]
        show some (gap bs ph n N g0 t (j - b) + (j - b) + 1 + (b + 1)) = _
        congr 1
        omega
theorem rp_len {w : List Bool} {bs : List Nat} {ph n N t : Nat} {g0 : Nat → Nat} (hw : Norm w) (h : Rp w (min (n + t) N) (gap bs ph n N g0 t)) (hN : 1 ≤ N) : w.length = lenAt bs ph n N g0 t := by
  obtain ⟨h1, h2⟩ := h
  unfold lenAt
  split
  · rename_i h0
    have e : dep w = [] := List.eq_nil_of_length_eq_zero (by omega)
    rw [norm_nil hw e]
    rfl
  · have h3 := h2 (min (n + t) N - 1) (by omega)
    rw [Nat.sub_self] at h3
    cases e : dep w with
    | nil =>
      rw [e] at h3
      cases h3
    | cons d l =>
      rw [e] at h3
      have h4 : d = _ := Option.some.inj h3
      rw [len_head hw e, h4]
      omega
/-- the gaps of a word -/
def gap0 (w : List Bool) (j : Nat) : Nat := (dep w).getD (ones w - 1 - j) 0 - (j + 1)
theorem rp_zero (w : List Bool) {bs : List Nat} {ph N : Nat} (hN : ones w ≤ N) : Rp w (min (ones w + 0) N) (gap bs ph (ones w) N (gap0 w) 0) := by
  rw [show min (ones w + 0) N = ones w by omega]
  refine ⟨rfl, fun j hj => ?_⟩
  have hi : ones w - 1 - j < (dep w).length := by
    show ones w - 1 - j < ones w
    omega
  have e : (dep w)[ones w - 1 - j]? = some (dep w)[ones w - 1 - j] := List.getElem?_eq_getElem hi
  have h1 := dep_ge w _ _ e
  rw [e]
  show some _ = some ((dep w).getD (ones w - 1 - j) 0 - (j + 1) + j + 1)
  rw [List.getD_eq_getElem?_getD, e]
  show some _ = some ((dep w)[ones w - 1 - j] - (j + 1) + j + 1)
  congr 1
  omega
end Cm
/-! The mathematics, third part: a window's sum by whole turns and a rest. -/
namespace Cm
theorem getD_dbl {bs : List Nat} {i : Nat} (h : i < bs.length + bs.length) : (bs ++ bs).getD i 0 = bA bs i := by
  unfold bA
  rw [List.getD_eq_getElem?_getD, List.getD_eq_getElem?_getD]
  by_cases hi : i < bs.length
  · rw [List.getElem?_append_left hi, Nat.mod_eq_of_lt hi]
  · rw [List.getElem?_append_right (by omega)]
    congr 2
    rw [Nat.mod_eq_sub_mod (by omega), Nat.mod_eq_of_lt (by omega)]
theorem take_one_more {l : List Nat} {r : Nat} (h : r < l.length) : (l.take (r + 1)).sum = (l.take r).sum + l.getD r 0 := by
  rw [List.take_add_one, List.sum_append, List.getD_eq_getElem?_getD, List.getElem?_eq_getElem h]
  simp
theorem tot_part {bs : List Nat} (hl : 0 < bs.length) (s : Nat) : ∀ r, r ≤ bs.length → tot bs s r = (((bs ++ bs).drop (s % bs.length)).take r).sum
  | 0, _ => rfl
  | r + 1, h => by
    have hs : s % bs.length < bs.length := Nat.mod_lt _ hl
    have len : ((bs ++ bs).drop (s % bs.length)).length = bs.length + bs.length - s % bs.length := by rw [List.length_drop, List.length_append]
    rw [take_one_more (by omega), ← tot_part hl s r (by omega)]
    show tot bs s r + bA bs (s + r) = _
    congr 1
    rw [List.getD_eq_getElem?_getD, List.getElem?_drop, ← List.getD_eq_getElem?_getD, getD_dbl (by omega), bA_mod_add]
theorem tot_turn {bs : List Nat} (hl : 0 < bs.length) (s : Nat) : tot bs s bs.length = bs.sum := by
  have hs : s % bs.length < bs.length := Nat.mod_lt _ hl
  rw [tot_part hl s _ (Nat.le_refl _), List.drop_append_of_le_length (by omega), List.take_append, List.take_of_length_le (by rw [List.length_drop]; omega), List.sum_append, List.length_drop]
  have e : bs.sum = (bs.take (s % bs.length) ++ bs.drop (s % bs.length)).sum := by rw [List.take_append_drop]
  rw [e, List.sum_append, show bs.length - (bs.length - s % bs.length) = s % bs.length by omega]
  omega
theorem tot_turns {bs : List Nat} (hl : 0 < bs.length) : ∀ (k s r : Nat), tot bs s (k * bs.length + r) = k * bs.sum + tot bs s r
  | 0, s, r => by rw [Nat.zero_mul, Nat.zero_mul, Nat.zero_add, Nat.zero_add]
  | k + 1, s, r => by
    rw [Nat.succ_mul, Nat.succ_mul, show k * bs.length + bs.length + r = bs.length + (k * bs.length + r) by omega, tot_add, tot_turn hl, tot_congr (s' := s) (by rw [Nat.add_mod_right]), tot_turns hl k s r]
    omega
theorem tot_window {bs : List Nat} (hl : 0 < bs.length) (s n : Nat) : tot bs s n = n / bs.length * bs.sum + (((bs ++ bs).drop (s % bs.length)).take (n % bs.length)).sum := by
  have e : n / bs.length * bs.length + n % bs.length = n := by
    rw [Nat.mul_comm]
    exact Nat.div_add_mod n bs.length
  have h := tot_turns hl (n / bs.length) s (n % bs.length)
  rw [e] at h
  rw [h, tot_part hl s _ (Nat.le_of_lt (Nat.mod_lt _ hl))]
theorem sum_cast : ∀ l : List Nat, (l.map fun (n : Nat) => (n : Int)).sum = ((l.sum : Nat) : Int)
  | [] => rfl
  | a :: l => by
    rw [List.map_cons, List.sum_cons, List.sum_cons, sum_cast l]
    omega
end Cm
/-! The mathematics: the formula of the program as truth values. -/
namespace Cm
def mOf (p : Nat) (late : Bool) : Nat := if late then p - 1 else p
def goesB (bs : List Nat) (N m : Nat) : Bool := decide (N ≤ m) && (List.range bs.length).all fun i => decide (N - 1 ≤ tot bs i (m - N))
theorem goesB_of {bs : List Nat} {N m z : Nat} (hN : N ≤ m) (h1 : ∃ i, i < bs.length ∧ z = tot bs i (m - N)) (h2 : ∀ i, i < bs.length → z ≤ tot bs i (m - N)) : goesB bs N m = decide (N - 1 ≤ z) := by
  unfold goesB
  rw [decide_eq_true hN, Bool.true_and]
  obtain ⟨i, hi, rfl⟩ := h1
  by_cases q : N - 1 ≤ tot bs i (m - N)
  · rw [decide_eq_true q]
    refine List.all_eq_true.mpr fun j hj => decide_eq_true ?_
    have := h2 j (List.mem_range.mp hj)
    omega
  · rw [decide_eq_false q]
    refine Bool.eq_false_iff.mpr fun z => q ?_
    exact of_decide_eq_true (List.all_eq_true.mp z i (List.mem_range.mpr hi))
def blockedB (bs : List Nat) (ph N m : Nat) (D : List Nat) (t : Nat) : Bool := decide (tot bs ph t < min D.length (N - 1)) && decide (m ≤ D.getD (tot bs ph t) 0 + tot bs ph t + t)
def shortB (bs : List Nat) (ph N m t : Nat) : Bool := decide (m < N) || decide (tot bs (ph + t - (m - N)) (m - N) < N - 1)
def anyBlocked (bs : List Nat) (ph N m : Nat) (D : List Nat) : Bool := (List.range m).any fun t => blockedB bs ph N m D t
def anyShort (bs : List Nat) (ph N m n : Nat) : Bool := (List.range bs.length).any fun i => shortB bs ph N m (m - n + i)
def safeB (bs : List Nat) (ph N p : Nat) (late : Bool) (w : List Bool) : Bool :=
  !(late && decide (w.length = p)) && !(anyBlocked bs ph N (mOf p late) (dep w) || anyShort bs ph N (mOf p late) (ones w))
end Cm
/-! The mathematics: words in order, caps, rows of totals. -/
namespace Cm
/-- the words of p signs with n ones, in order -/
def Ew : Nat → Nat → List (List Bool)
  | 0, 0 => [[]]
  | 0, _ + 1 => []
  | p + 1, 0 => (Ew p 0).map (false :: ·)
  | p + 1, n + 1 => (Ew p (n + 1)).map (false :: ·) ++ (Ew p n).map (true :: ·)
def ch (p n : Nat) : Nat := (Ew p n).length
theorem ch_00 : ch 0 0 = 1 := rfl
theorem ch_0s (n : Nat) : ch 0 (n + 1) = 0 := rfl
theorem ch_s0 (p : Nat) : ch (p + 1) 0 = ch p 0 := List.length_map _
theorem ch_ss (p n : Nat) : ch (p + 1) (n + 1) = ch p (n + 1) + ch p n := by
  show ((Ew p (n + 1)).map (false :: ·) ++ (Ew p n).map (true :: ·)).length = _
  rw [List.length_append, List.length_map, List.length_map]
  rfl
theorem ch_0 : ∀ p, ch p 0 = 1
  | 0 => rfl
  | p + 1 => (ch_s0 p).trans (ch_0 p)
/-- the word of rank r -/
def wAt : Nat → Nat → Nat → List Bool
  | 0, _, _ => []
  | b + 1, r, n => if r < ch b n then false :: wAt b r n else true :: wAt b (r - ch b n) (n - 1)
theorem wAt_f {b r n : Nat} (h : r < ch b n) : wAt (b + 1) r n = false :: wAt b r n := if_pos h
theorem wAt_t {b r n : Nat} (h : ¬ r < ch b n) : wAt (b + 1) r n = true :: wAt b (r - ch b n) (n - 1) := if_neg h
theorem wAt_len : ∀ (p r n : Nat), (wAt p r n).length = p
  | 0, _, _ => rfl
  | b + 1, r, n => by
    unfold wAt
    split
    · exact congrArg Nat.succ (wAt_len b r n)
    · exact congrArg Nat.succ (wAt_len b _ _)
theorem wAt_get : ∀ (p r n : Nat), r < ch p n → (Ew p n)[r]? = some (wAt p r n)
  | 0, r, 0, h => by
    have e : r = 0 := by
      have := ch_00
      omega
    subst e
    rfl
  | 0, r, n + 1, h => by
    rw [ch_0s] at h
    omega
  | p + 1, r, 0, h => by
    rw [ch_s0] at h
    show ((Ew p 0).map (false :: ·))[r]? = _
    rw [List.getElem?_map, wAt_get p r 0 h, wAt_f h]
    rfl
  | p + 1, r, n + 1, h => by
    rw [ch_ss] at h
    show ((Ew p (n + 1)).map (false :: ·) ++ (Ew p n).map (true :: ·))[r]? = _
    by_cases q : r < ch p (n + 1)
    · rw [List.getElem?_append_left (by rw [List.length_map]; exact q), List.getElem?_map, wAt_get p r (n + 1) q, wAt_f q]
      rfl
    · have e : ((Ew p (n + 1)).map (false :: ·)).length = ch p (n + 1) := List.length_map _
      rw [List.getElem?_append_right (by rw [e]; omega), e, List.getElem?_map, wAt_get p _ n (by omega), wAt_t q]
      rfl
/-- in the true branch there is a one left, and the rank fits -/
theorem wAt_true {b r n : Nat} (h : r < ch (b + 1) n) (q : ¬ r < ch b n) : ∃ k, n = k + 1 ∧ r - ch b n < ch b k := by
  cases n with
  | zero =>
    rw [ch_s0] at h
    exact absurd h q
  | succ k =>
    rw [ch_ss] at h
    exact ⟨k, rfl, by omega⟩
/-! ### caps -/
def capsN (bs : List Nat) (ph N m n : Nat) : Nat → List Int
  | 0 => List.replicate n (m : Int)
  | t + 1 => if tot bs ph t < min n (N - 1) then
      (capsN bs ph N m n t).set (tot bs ph t) (if (m : Int) - 1 - (tot bs ph t : Int) - (t : Int) < (capsN bs ph N m n t).getD (tot bs ph t) 0 then (m : Int) - 1 - (tot bs ph t : Int) - (t : Int) else (capsN bs ph N m n t).getD (tot bs ph t) 0)
    else capsN bs ph N m n t
theorem caps_len (bs : List Nat) (ph N m n : Nat) : ∀ t, (capsN bs ph N m n t).length = n
  | 0 => List.length_replicate
  | t + 1 => by
    unfold capsN
    split
    · rw [List.length_set]
      exact caps_len bs ph N m n t
    · exact caps_len bs ph N m n t
theorem caps_stop {bs : List Nat} {ph N m n t : Nat} (h : min n (N - 1) ≤ tot bs ph t) : ∀ k, capsN bs ph N m n (t + k) = capsN bs ph N m n t
  | 0 => rfl
  | k + 1 => by
    have := tot_mono bs ph (show t ≤ t + k by omega)
    have e : capsN bs ph N m n (t + k + 1) = capsN bs ph N m n (t + k) := if_neg (by omega)
    exact e.trans (caps_stop h k)
/-! ### rows -/
def rowN (prev : List Nat) (cap : Int) : Nat → List Nat
  | 0 => [0]
  | d + 1 => rowN prev cap d ++ [(rowN prev cap d).getD d 0 + (if ((d + 1 : Nat) : Int) ≤ cap then prev.getD d 0 else 0)]
theorem row_len (prev : List Nat) (cap : Int) : ∀ d, (rowN prev cap d).length = d + 1
  | 0 => rfl
  | d + 1 => by
    unfold rowN
    rw [List.length_append, row_len prev cap d]
    rfl
def totals (m : Nat) (caps : List Int) : List Nat := caps.foldr (fun cap prev => rowN prev cap m) (List.replicate (m + 1) 1)
theorem totals_len (m : Nat) (caps : List Int) : (totals m caps).length = m + 1 := by
  cases caps with
  | nil => exact List.length_replicate
  | cons c cs => exact row_len _ _ m
def cntSafe (bs : List Nat) (ph N p n : Nat) (late : Bool) : Nat :=
  if goesB bs N (mOf p late) then (totals (mOf p late) (capsN bs ph N (mOf p late) n (mOf p late))).getD (mOf p late) 0 else 0
end Cm
namespace Cm
theorem ew_mem : ∀ {p n : Nat} {w : List Bool}, w ∈ Ew p n → ones w = n ∧ w.length = p
  | 0, 0, w, h => by
    rw [List.mem_singleton.mp h]
    exact ⟨rfl, rfl⟩
  | 0, n + 1, w, h => by cases h
  | p + 1, 0, w, h => by
    obtain ⟨v, hv, rfl⟩ := List.mem_map.mp h
    obtain ⟨h1, h2⟩ := ew_mem hv
    exact ⟨h1, congrArg Nat.succ h2⟩
  | p + 1, n + 1, w, h => by
    rcases List.mem_append.mp h with h | h
    · obtain ⟨v, hv, rfl⟩ := List.mem_map.mp h
      obtain ⟨h1, h2⟩ := ew_mem hv
      exact ⟨h1, congrArg Nat.succ h2⟩
    · obtain ⟨v, hv, rfl⟩ := List.mem_map.mp h
      obtain ⟨h1, h2⟩ := ew_mem hv
      exact ⟨congrArg Nat.succ h1, congrArg Nat.succ h2⟩
theorem wAt_mem {p r n : Nat} (h : r < ch p n) : wAt p r n ∈ Ew p n := List.mem_of_getElem? (wAt_get p r n h)
theorem ones_trim (w : List Bool) : ones (trim w) = ones w := congrArg List.length (dep_trim w)
/-- the safe ones of all words, in order -/
def safeList (bs : List Nat) (ph N p n : Nat) (late : Bool) : List (List Bool) := ((Ew p n).map trim).filter (safeB bs ph N p late)
def safeUpTo (bs : List Nat) (ph N p n : Nat) (late : Bool) (i : Nat) : List (List Bool) := (((Ew p n).take i).map trim).filter (safeB bs ph N p late)
theorem safe_step {bs : List Nat} {ph N p n : Nat} {late : Bool} {i : Nat} (h : i < ch p n) : safeUpTo bs ph N p n late (i + 1) = safeUpTo bs ph N p n late i ++ (if safeB bs ph N p late (trim (wAt p i n)) then [trim (wAt p i n)] else []) := by
  unfold safeUpTo
  rw [List.take_add_one, wAt_get p i n h, List.map_append, List.filter_append]
  congr 1
  show List.filter _ [trim (wAt p i n)] = _
  by_cases q : safeB bs ph N p late (trim (wAt p i n)) = true
  · rw [if_pos q, List.filter_cons_of_pos q]
    rfl
  · rw [if_neg q, List.filter_cons_of_neg q]
    rfl
theorem safe_all (bs : List Nat) (ph N p n : Nat) (late : Bool) : safeUpTo bs ph N p n late (ch p n) = safeList bs ph N p n late := by
  unfold safeUpTo safeList ch
  rw [List.take_length]
theorem safe_len (bs : List Nat) (ph N p n : Nat) (late : Bool) (i : Nat) : (safeUpTo bs ph N p n late i).length ≤ ch p n := by
  unfold safeUpTo ch
  refine Nat.le_trans (List.length_filter_le _ _) ?_
  rw [List.length_map, List.length_take]
  omega
end Cm
/-! The mathematics: what the law's own words do to texts. -/
namespace Cm
/-- the last place of a 0 with a 1 behind it -/
def lastFT : List Bool → Option Nat
  | [] => none
  | b :: r => match lastFT r with
    | some i => some (i + 1)
    | none => if b = false ∧ r.head? = some true then some 0 else none
theorem lastFT_ex : ∀ w : List Bool, ∀ k, w[k]? = some false → w[k + 1]? = some true → ∃ i, lastFT w = some i ∧ i < w.length
  | [], k, h, _ => by cases h
  | b :: r, k, h, g => by
    unfold lastFT
    cases e : lastFT r with
    | some j =>
      refine ⟨j + 1, rfl, ?_⟩
      have key : ∀ (l : List Bool) (i : Nat), lastFT l = some i → i < l.length := by
        intro l
        induction l with
        | nil => intro i z; cases z
        | cons a l ih =>
          intro i z
          unfold lastFT at z
          cases q : lastFT l with
          | some j =>
            rw [q] at z
            have : j + 1 = i := Option.some.inj z
            have := ih j q
            show i < l.length + 1
            omega
          | none =>
            rw [q] at z
            have z' : (if a = false ∧ l.head? = some true then some 0 else none) = some i := z
            split at z'
            · have : 0 = i := Option.some.inj z'
              show i < l.length + 1
              omega
            · cases z'
      have := key r j e
      show j + 1 < r.length + 1
      omega
    | none =>
      cases k with
      | succ k =>
        obtain ⟨i, hi, _⟩ := lastFT_ex r k h g
        rw [e] at hi
        cases hi
      | zero =>
        have hb : b = false := Option.some.inj h
        have hr : r.head? = some true := by
          cases r with
          | nil => cases g
          | cons x y => exact g
        refine ⟨0, ?_, Nat.zero_lt_succ _⟩
        show (if b = false ∧ r.head? = some true then some 0 else none) = some 0
        rw [if_pos ⟨hb, hr⟩]
theorem carry_le (w : List Bool) (m : Nat) : (carryW w m).length ≤ w.length := by
  unfold carryW
  split
  · exact Nat.le_refl _
  · rename_i h
    refine Nat.le_trans (trim_len _) ?_
    cases w with
    | nil => exact absurd (Or.inl rfl) h
    | cons b r =>
      rw [List.length_append]
      exact Nat.le_refl _
theorem carryN_le (w : List Bool) (m : Nat) : ∀ k, (carryN w m k).length ≤ w.length
  | 0 => Nat.le_refl _
  | k + 1 => Nat.le_trans (carry_le _ m) (carryN_le w m k)
theorem relO_le (w : List Bool) (o : Option Nat) : (relO w o).length ≤ w.length := by
  cases o with
  | none => exact Nat.le_refl _
  | some i =>
    refine Nat.le_trans (trim_len _) ?_
    rw [relAt_len]
    exact Nat.le_refl _
theorem put_le {w w' : List Bool} {o : Option Nat} {b m : Nat} {late : Bool} (h : putW w o b m late = some w') : w'.length ≤ m := by
  unfold putW at h
  cases late with
  | true =>
    rw [if_pos rfl] at h
    split at h
    · cases h
    · rename_i q
      have e := Option.some.inj h
      rw [← e]
      refine Nat.le_trans (carryN_le _ _ _) (Nat.le_trans (relO_le _ _) ?_)
      rw [List.length_append]
      show w.length + 1 ≤ m
      omega
  | false =>
    rw [if_neg Bool.false_ne_true] at h
    split at h
    · cases h
    · rename_i q
      have e := Option.some.inj h
      rw [← e, List.length_append]
      show _ + 1 ≤ m
      omega
/-- the places of the ones -/
def posF : List Bool → List Nat
  | [] => []
  | true :: r => 0 :: (posF r).map (· + 1)
  | false :: r => (posF r).map (· + 1)
def posP (w : List Bool) (i : Nat) : List Nat := (List.range i).filter fun j => decide (w[j]? = some true)
theorem posP_step {w : List Bool} {i : Nat} {b : Bool} (h : w[i]? = some b) : posP w (i + 1) = posP w i ++ (if b then [i] else []) := by
  unfold posP
  rw [List.range_succ, List.filter_append]
  congr 1
  cases b with
  | true =>
    rw [List.filter_cons_of_pos (by rw [h]; rfl)]
    rfl
  | false =>
    rw [List.filter_cons_of_neg (by rw [h]; decide)]
    rfl
theorem posP_all : ∀ w : List Bool, posP w w.length = posF w
  | [] => rfl
  | b :: r => by
    have ih := posP_all r
    have e : posP (b :: r) (b :: r).length = (if b then [0] else []) ++ (posP r r.length).map (· + 1) := by
      unfold posP
      rw [List.length_cons, List.range_succ_eq_map, List.filter_cons, List.filter_map]
      cases b <;> rfl
    rw [e, ih]
    cases b <;> rfl
theorem posF_len : ∀ w : List Bool, (posF w).length = ones w
  | [] => rfl
  | true :: r => by
    show ((posF r).map (· + 1)).length + 1 = (dep r).length + 1
    rw [List.length_map, posF_len r]
    rfl
  | false :: r => by
    show ((posF r).map (· + 1)).length = (dep r).length
    rw [List.length_map, posF_len r]
    rfl
theorem rel_pos : ∀ {w : List Bool} {i s : Nat}, (posF w)[i]? = some s → relAt w i = w.take s ++ false :: w.drop (s + 1) ∧ s < w.length
  | [], i, s, h => by simp [posF] at h
  | true :: r, 0, s, h => by
    have e : 0 = s := Option.some.inj h
    subst e
    exact ⟨rfl, Nat.zero_lt_succ _⟩
  | true :: r, i + 1, s, h => by
    have h' : ((posF r).map (· + 1))[i]? = some s := h
    rw [List.getElem?_map] at h'
    cases q : (posF r)[i]? with
    | none =>
      rw [q] at h'
      cases h'
    | some z =>
      rw [q] at h'
      have e : z + 1 = s := Option.some.inj h'
      subst e
      obtain ⟨h1, h2⟩ := rel_pos q
      refine ⟨?_, Nat.succ_lt_succ h2⟩
      show true :: relAt r i = _
      rw [h1]
      rfl
  | false :: r, i, s, h => by
    have h' : ((posF r).map (· + 1))[i]? = some s := h
    rw [List.getElem?_map] at h'
    cases q : (posF r)[i]? with
    | none =>
      rw [q] at h'
      cases h'
    | some z =>
      rw [q] at h'
      have e : z + 1 = s := Option.some.inj h'
      subst e
      obtain ⟨h1, h2⟩ := rel_pos q
      refine ⟨?_, Nat.succ_lt_succ h2⟩
      show false :: relAt r i = _
      rw [h1]
      rfl
/-- the next word -/
def folAt (w : List Bool) (i : Nat) : List Bool :=
  trim ((false :: w).take i ++ [true, false] ++ List.replicate (((false :: w).drop (i + 2)).length - ones ((false :: w).drop (i + 2))) false ++ List.replicate (ones ((false :: w).drop (i + 2))) true)
def fol (w : List Bool) : List Bool := folAt w ((lastFT (false :: w)).getD 0)
theorem fol_len {w : List Bool} {i : Nat} : (folAt w i).length ≤ w.length + 3 := by
  unfold folAt
  refine Nat.le_trans (trim_len _) ?_
  have h := ones_le ((false :: w).drop (i + 2))
  rw [List.length_append, List.length_append, List.length_append, List.length_replicate, List.length_replicate, List.length_take]
  rw [List.length_drop] at h ⊢
  rw [List.length_cons] at h ⊢
  show min i (w.length + 1) + 2 + _ + _ ≤ _
  omega
theorem trim_head : ∀ (a b : List Bool), ∃ r, trim (a ++ true :: b) = true :: r
  | [], b => ⟨b, rfl⟩
  | true :: a, b => ⟨a ++ true :: b, rfl⟩
  | false :: a, b => trim_head a b
theorem fol_head (w : List Bool) (i : Nat) : ∃ r, folAt w i = true :: r := by
  unfold folAt
  rw [List.append_assoc, List.append_assoc]
  exact trim_head _ _
/-- the words one after the other -/
def gen (p : Nat) : Nat → List Bool → List (List Bool)
  | 0, _ => []
  | k + 1, w => if p < w.length then [] else w :: gen p k (fol w)
def allWords (p n : Nat) : List (List Bool) := if n = 0 then [[]] else gen p 260 (List.replicate n true)
theorem all_words : ∀ p : Fin 11, ∀ n : Fin 6, n.val ≤ p.val → allWords p.val n.val = (Ew p.val n.val).map trim := by decide +kernel
end Cm
/-! The mathematics: the rule as truth value. -/
namespace Cm
theorem goes_iff {bs : List Nat} (hl : 0 < bs.length) {N m : Nat} : goesB bs N m = true ↔ N ≤ m ∧ AllW bs (m - N) (N - 1) := by
  unfold goesB
  rw [Bool.and_eq_true]
  constructor
  · rintro ⟨h1, h2⟩
    refine ⟨of_decide_eq_true h1, allW_of hl 0 fun i hi => ?_⟩
    rw [Nat.zero_add]
    exact of_decide_eq_true (List.all_eq_true.mp h2 i (List.mem_range.mpr hi))
  · rintro ⟨h1, h2⟩
    exact ⟨decide_eq_true h1, List.all_eq_true.mpr fun i _ => decide_eq_true (h2 i)⟩
/-- with the rule one turn more changes no cap -/
theorem caps_one_more {bs : List Nat} {ph N m n : Nat} (h1 : N ≤ m) (h2 : AllW bs (m - N) (N - 1)) : capsN bs ph N m n (m + 1) = capsN bs ph N m n m := by
  have := h2 ph
  have := tot_mono bs ph (show m - N ≤ m by omega)
  exact if_neg (by omega)
end Cm
/-! The mathematics: the newest play completes all its puts just where the formula says safe. -/
namespace Cm
theorem plays_early {bs : List Nat} {ph n N m : Nat} {g0 : Nat → Nat} (hn : n ≤ N) (hN : 2 ≤ N) : ∀ (k t : Nat) (w : List Bool), Norm w → Rp w (min (n + t) N) (gap bs ph n N g0 t) →
    (plays bs ph N m false k w t = k ↔ ∀ i, i < k → lenAt bs ph n N g0 (t + i) < m)
  | 0, t, w, hw, h => ⟨fun _ i z => absurd z (Nat.not_lt_zero i), fun _ => rfl⟩
  | k + 1, t, w, hw, h => by
    have hl := rp_len hw h (by omega)
    by_cases q : w.length < m
    · obtain ⟨w', e, hw', hd⟩ := put_early (b := bA bs (ph + t)) hw hN q
      have h' := rp_step (by omega) hn h hd
      have ih := plays_early (m := m) hn hN k (t + 1) w' hw' h'
      have ep : plays bs ph N m false (k + 1) w t = 1 + plays bs ph N m false k w' (t + 1) := by
        show (match putW w (newestW w N) (bA bs (ph + t)) m false with
          | none => 0
          | some w' => 1 + plays bs ph N m false k w' (t + 1)) = _
        rw [e]
      rw [ep]
      constructor
      · intro z i hi
        cases i with
        | zero =>
          rw [Nat.add_zero, ← hl]
          exact q
        | succ i =>
          have := ih.mp (by omega) i (by omega)
          rw [show t + (i + 1) = t + 1 + i by omega]
          exact this
      · intro z
        have := ih.mpr fun i hi => by
          have := z (i + 1) (by omega)
          rw [show t + (i + 1) = t + 1 + i by omega] at this
          exact this
        omega
    · have e := put_early_full (b := bA bs (ph + t)) hw hN (Nat.le_of_not_lt q)
      have ep : plays bs ph N m false (k + 1) w t = 0 := by
        show (match putW w (newestW w N) (bA bs (ph + t)) m false with
          | none => 0
          | some w' => 1 + plays bs ph N m false k w' (t + 1)) = _
        rw [e]
      rw [ep]
      constructor
      · intro z
        omega
      · intro z
        have := z 0 (by omega)
        rw [Nat.add_zero, ← hl] at this
        exact absurd this q
theorem plays_late {bs : List Nat} {ph n N m : Nat} {g0 : Nat → Nat} (hn : n ≤ N) (hN : 2 ≤ N) : ∀ (k t : Nat) (w : List Bool), Norm w → Rp w (min (n + t) N) (gap bs ph n N g0 t) →
    (plays bs ph N (m + 1) true (k + 1) w t = k + 1 ↔ w.length ≤ m ∧ ∀ i, i < k → lenAt bs ph n N g0 (t + i) < m)
  | k, t, w, hw, h => by
    have hl := rp_len hw h (by omega)
    have estep : plays bs ph N (m + 1) true (k + 1) w t = (match putW w (newestW w N) (bA bs (ph + t)) (m + 1) true with
        | none => 0
        | some w' => 1 + plays bs ph N (m + 1) true k w' (t + 1)) := rfl
    by_cases q : w.length < m
    · obtain ⟨w', e, hw', hd, hle⟩ := put_late (b := bA bs (ph + t)) hw hN q
      have h' := rp_step (by omega) hn h hd
      rw [estep, e]
      cases k with
      | zero => exact ⟨fun _ => ⟨by omega, fun i z => absurd z (Nat.not_lt_zero i)⟩, fun _ => rfl⟩
      | succ k =>
        have ih := plays_late (m := m) hn hN k (t + 1) w' hw' h'
        show 1 + plays bs ph N (m + 1) true (k + 1) w' (t + 1) = k + 1 + 1 ↔ _
        constructor
        · intro z
          obtain ⟨_, z2⟩ := ih.mp (by omega)
          refine ⟨by omega, fun i hi => ?_⟩
          cases i with
          | zero =>
            rw [Nat.add_zero, ← hl]
            exact q
          | succ i =>
            rw [show t + (i + 1) = t + 1 + i by omega]
            exact z2 i (by omega)
        · rintro ⟨_, z2⟩
          have := ih.mpr ⟨hle, fun i hi => by
            have := z2 (i + 1) (by omega)
            rw [show t + (i + 1) = t + 1 + i by omega] at this
            exact this⟩
          omega
    · by_cases q2 : w.length = m
      · obtain ⟨w', e, hlen⟩ := put_late_edge (b := bA bs (ph + t)) hw hN q2
        rw [estep, e]
        cases k with
        | zero => exact ⟨fun _ => ⟨by omega, fun i z => absurd z (Nat.not_lt_zero i)⟩, fun _ => rfl⟩
        | succ k =>
          have e2 := put_late_full (o := newestW w' N) (b := bA bs (ph + (t + 1))) (m := m + 1) (w := w') (by omega)
          have ep : plays bs ph N (m + 1) true (k + 1) w' (t + 1) = 0 := by
            show (match putW w' (newestW w' N) (bA bs (ph + (t + 1))) (m + 1) true with
              | none => 0
              | some w'' => 1 + plays bs ph N (m + 1) true k w'' (t + 1 + 1)) = _
            rw [e2]
          show 1 + plays bs ph N (m + 1) true (k + 1) w' (t + 1) = k + 1 + 1 ↔ _
          rw [ep]
          constructor
          · intro z
            omega
          · rintro ⟨_, z2⟩
            have := z2 0 (by omega)
            rw [Nat.add_zero, ← hl] at this
            omega
      · have e := put_late_full (o := newestW w N) (b := bA bs (ph + t)) (m := m + 1) (w := w) (by omega)
        rw [estep, e]
        constructor
        · intro z
          have z' : 0 = k + 1 := z
          omega
        · rintro ⟨z1, _⟩
          omega
/-- the old record's place, by gaps -/
theorem gap_old {w : List Bool} {W t : Nat} (h : W < ones w) : ones w + t + gap0 w (ones w - 1 - W) = (dep w).getD W 0 + W + t := by
  unfold gap0
  have e : ones w - 1 - (ones w - 1 - W) = W := by omega
  rw [e]
  have hi : W < (dep w).length := h
  have e2 : (dep w)[W]? = some (dep w)[W] := List.getElem?_eq_getElem hi
  have h1 := dep_ge w _ _ e2
  rw [List.getD_eq_getElem?_getD, e2]
  show ones w + t + ((dep w)[W] - (ones w - 1 - W + 1)) = (dep w)[W] + W + t
  omega
theorem any_iff {f : Nat → Bool} {n : Nat} : (List.range n).any f = true ↔ ∃ i, i < n ∧ f i = true := by
  rw [List.any_eq_true]
  exact ⟨fun ⟨i, h1, h2⟩ => ⟨i, List.mem_range.mp h1, h2⟩, fun ⟨i, h1, h2⟩ => ⟨i, List.mem_range.mpr h1, h2⟩⟩
theorem blocked_iff {bs : List Nat} {ph N m t : Nat} {D : List Nat} : blockedB bs ph N m D t = true ↔ tot bs ph t < min D.length (N - 1) ∧ m ≤ D.getD (tot bs ph t) 0 + tot bs ph t + t := by
  unfold blockedB
  rw [Bool.and_eq_true, decide_eq_true_iff, decide_eq_true_iff]
theorem short_iff {bs : List Nat} {ph N m t : Nat} : shortB bs ph N m t = true ↔ m < N ∨ tot bs (ph + t - (m - N)) (m - N) < N - 1 := by
  unfold shortB
  rw [Bool.or_eq_true, decide_eq_true_iff, decide_eq_true_iff]
/-- no window is short just where the rule holds -/
theorem short_goes {bs : List Nat} (hl : 0 < bs.length) {ph N m n : Nat} (hn : n ≤ N) : anyShort bs ph N m n = !goesB bs N m := by
  cases hg : goesB bs N m with
  | true =>
    obtain ⟨h1, h2⟩ := (goes_iff hl).mp hg
    refine Bool.eq_false_iff.mpr fun z => ?_
    obtain ⟨i, _, hi⟩ := any_iff.mp z
    rcases short_iff.mp hi with h | h
    · omega
    · exact absurd (h2 _) (Nat.not_le_of_lt h)
  | false =>
    refine any_iff.mpr ?_
    by_cases q : m < N
    · exact ⟨0, hl, short_iff.mpr (.inl q)⟩
    · have hA : ¬ AllW bs (m - N) (N - 1) := fun z => by
        have := (goes_iff hl).mpr ⟨by omega, z⟩
        rw [hg] at this
        cases this
      obtain ⟨s, hs⟩ : ∃ s, tot bs s (m - N) < N - 1 := Classical.byContradiction fun z => hA fun s => Nat.le_of_not_lt fun y => z ⟨s, y⟩
      obtain ⟨i, h1, h2⟩ := poor_from hl hs (ph + (m - n) - (m - N))
      refine ⟨i, h1, short_iff.mpr (.inr ?_)⟩
      rw [show ph + (m - n + i) - (m - N) = ph + (m - n) - (m - N) + i by omega]
      exact h2
section
variable {bs : List Nat} {ph N p m : Nat} {late : Bool} {w : List Bool}
/-- two keys or more: the word is never full just where there is the rule and no old record blocks -/
theorem full_iff (hl : 0 < bs.length) (hN : 2 ≤ N) (ho : ones w ≤ N) {k : Nat} (hk : m + bs.length ≤ k) (hkN : N < k) :
    (∀ i, i < k → lenAt bs ph (ones w) N (gap0 w) i < m) ↔ (anyBlocked bs ph N m (dep w) || anyShort bs ph N m (ones w)) = false := by
  rw [short_goes hl ho]
  constructor
  · intro h
    refine Bool.or_eq_false_iff.mpr ⟨Bool.eq_false_iff.mpr fun z => ?_, ?_⟩
    · obtain ⟨t, ht, hb⟩ := any_iff.mp z
      obtain ⟨b1, b2⟩ := blocked_iff.mp hb
      have e := len_old (g0 := gap0 w) ho hN b1
      have hW : tot bs ph t < ones w := by
        have : (dep w).length = ones w := rfl
        omega
      rw [gap_old hW] at e
      have := h t (by omega)
      omega
    · cases hg : goesB bs N m with
      | true => rfl
      | false =>
        exfalso
        by_cases q : m < N
        · have h1 := len_few (bs := bs) (ph := ph) (g0 := gap0 w) ho hN
          have := h (N - ones w) (by omega)
          omega
        · have hA : ¬ AllW bs (m - N) (N - 1) := fun z => by
            have := (goes_iff hl).mpr ⟨by omega, z⟩
            rw [hg] at this
            cases this
          obtain ⟨s, hs⟩ : ∃ s, tot bs s (m - N) < N - 1 := Classical.byContradiction fun z => hA fun s => Nat.le_of_not_lt fun y => z ⟨s, y⟩
          obtain ⟨i, h1, h2⟩ := poor_from hl hs (ph + (N - ones w))
          have h3 := len_poor (g0 := gap0 w) ho hN (s := N - ones w + i) (m := m) (by omega) (by omega) (by rw [← Nat.add_assoc]; exact h2)
          have := h (N - ones w + i + (m - N)) (by omega)
          omega
  · intro h
    obtain ⟨h1, h2⟩ := Bool.or_eq_false_iff.mp h
    have hg : goesB bs N m = true := by
      cases q : goesB bs N m with
      | true => rfl
      | false =>
        rw [q] at h2
        cases h2
    obtain ⟨g1, g2⟩ := (goes_iff hl).mp hg
    intro i _
    refine len_safe ho hN g1 g2 (fun t ht hb => ?_) i
    have hW : tot bs ph t < ones w := by omega
    rw [gap_old hW]
    refine Nat.lt_of_not_le fun z => ?_
    have : anyBlocked bs ph N m (dep w) = true := any_iff.mpr ⟨t, ht, blocked_iff.mpr ⟨hb, z⟩⟩
    rw [h1] at this
    cases this
theorem norm_one {v : List Bool} (h : Norm v) (e : dep v = [1]) : v = [true] := by
  rcases norm_dep h with rfl | ⟨r, rfl⟩
  · cases e
  · have e' : (r.length + 1) :: dep r = [1] := e
    injection e' with e1 e2
    have : r = [] := List.eq_nil_of_length_eq_zero (by omega)
    rw [this]
theorem one_early {v : List Bool} {b m : Nat} (h : Norm v) (ho : ones v ≤ 1) (hm : 1 ≤ m) : putW v (newestW v 1) b m false = some [true] := by
  have e : relO v (newestW v 1) = [] := by
    refine norm_nil (relO_norm h _) ?_
    rw [oth_dep]
    unfold oth ones at *
    split
    · cases q : dep v with
      | nil => rfl
      | cons a l =>
        rename_i z
        rw [q] at z
        have z2 : l.length + 1 = 1 := z
        have : l = [] := List.eq_nil_of_length_eq_zero (by omega)
        rw [this]
        rfl
    · exact List.eq_nil_of_length_eq_zero (by omega)
  unfold putW
  rw [if_neg Bool.false_ne_true, e, carry_nil, if_neg (by show ¬ m ≤ 0; omega)]
  rfl
theorem one_late {v : List Bool} {b p : Nat} (h : Norm v) (ho : ones v ≤ 1) (hm : v.length < p) : putW v (newestW v 1) b p true = some [true] := by
  have e : relO (v ++ [true]) (newestW v 1) = [true] := by
    refine norm_one (relO_norm (norm_app h) _) ?_
    unfold newestW
    split
    · rename_i z
      show dep (trim (relAt (v ++ [true]) (ones v - 1))) = _
      rw [dep_trim, dep_relAt, dep_app, z]
      unfold ones at z
      cases q : dep v with
      | nil =>
        rw [q] at z
        cases z
      | cons a l =>
        rw [q] at z
        have z2 : l.length + 1 = 1 := z
        have : l = [] := List.eq_nil_of_length_eq_zero (by omega)
        rw [this]
        rfl
    · rename_i z
      show dep (v ++ [true]) = _
      have : dep v = [] := List.eq_nil_of_length_eq_zero (by unfold ones at *; omega)
      rw [dep_app, this]
      rfl
  unfold putW
  rw [if_pos rfl, if_neg (by omega), e]
  have e2 : ones [true] - 1 = 0 := rfl
  rw [e2, Nat.min_zero]
  rfl
theorem one_plays_early {m : Nat} (hm : 1 ≤ m) : ∀ (k t : Nat) (v : List Bool), Norm v → ones v ≤ 1 → plays bs ph 1 m false k v t = k
  | 0, _, _, _, _ => rfl
  | k + 1, t, v, h, ho => by
    show (match putW v (newestW v 1) (bA bs (ph + t)) m false with
      | none => 0
      | some w' => 1 + plays bs ph 1 m false k w' (t + 1)) = _
    rw [one_early h ho hm]
    show 1 + plays bs ph 1 m false k [true] (t + 1) = _
    rw [one_plays_early hm k (t + 1) [true] (fun b r e => by injection e with e1 e2; exact e1.symm) (Nat.le_refl 1)]
    omega
theorem one_plays_late {p : Nat} (hm : 2 ≤ p) : ∀ (k t : Nat) (v : List Bool), Norm v → ones v ≤ 1 → v.length < p → plays bs ph 1 p true k v t = k
  | 0, _, _, _, _, _ => rfl
  | k + 1, t, v, h, ho, hv => by
    show (match putW v (newestW v 1) (bA bs (ph + t)) p true with
      | none => 0
      | some w' => 1 + plays bs ph 1 p true k w' (t + 1)) = _
    rw [one_late h ho hv]
    show 1 + plays bs ph 1 p true k [true] (t + 1) = _
    rw [one_plays_late hm k (t + 1) [true] (fun b r e => by injection e with e1 e2; exact e1.symm) (Nat.le_refl 1) (by show 1 < p; omega)]
    omega
/-- THE LAW'S PLAY: the newest play completes places + budgets + 2 puts just where the word is safe -/
theorem play_safe (hl : 0 < bs.length) (hN : 1 ≤ N) (hNp : N ≤ p) (hw : Norm w) (hwp : w.length ≤ p) (ho : ones w ≤ N) :
    (plays bs ph N p late (p + bs.length + 2) w 0 = p + bs.length + 2) ↔ safeB bs ph N p late w = true := by
  have hrp := rp_zero w (bs := bs) (ph := ph) ho
  by_cases h2 : 2 ≤ N
  · cases late with
    | false =>
      rw [plays_early ho h2 _ 0 w hw hrp]
      have hf := full_iff (bs := bs) (ph := ph) (m := p) hl h2 ho (k := p + bs.length + 2) (by omega) (by omega)
      have e : (∀ i, i < p + bs.length + 2 → lenAt bs ph (ones w) N (gap0 w) (0 + i) < p) ↔ (∀ i, i < p + bs.length + 2 → lenAt bs ph (ones w) N (gap0 w) i < p) := by
        constructor
        · intro z i hi
          have := z i hi
          rwa [Nat.zero_add] at this
        · intro z i hi
          rw [Nat.zero_add]
          exact z i hi
      rw [e, hf]
      unfold safeB
      show _ ↔ (!(false && decide (w.length = p)) && !(anyBlocked bs ph N p (dep w) || anyShort bs ph N p (ones w))) = true
      rw [Bool.false_and]
      cases (anyBlocked bs ph N p (dep w) || anyShort bs ph N p (ones w)) <;> simp
    | true =>
      obtain ⟨m, rfl⟩ : ∃ m, p = m + 1 := ⟨p - 1, by omega⟩
      have h3 := plays_late (bs := bs) (m := m) ho h2 (m + 1 + bs.length + 1) 0 w hw hrp
      rw [show m + 1 + bs.length + 2 = m + 1 + bs.length + 1 + 1 by omega, h3]
      have hf := full_iff (bs := bs) (ph := ph) (m := m) hl h2 ho (k := m + 1 + bs.length + 1) (by omega) (by omega)
      have e : (∀ i, i < m + 1 + bs.length + 1 → lenAt bs ph (ones w) N (gap0 w) (0 + i) < m) ↔ (∀ i, i < m + 1 + bs.length + 1 → lenAt bs ph (ones w) N (gap0 w) i < m) := by
        constructor
        · intro z i hi
          have := z i hi
          rwa [Nat.zero_add] at this
        · intro z i hi
          rw [Nat.zero_add]
          exact z i hi
      rw [e, hf]
      unfold safeB
      show _ ↔ (!(true && decide (w.length = m + 1)) && !(anyBlocked bs ph N m (dep w) || anyShort bs ph N m (ones w))) = true
      rw [Bool.true_and]
      by_cases q : w.length = m + 1
      · rw [decide_eq_true q]
        constructor
        · rintro ⟨z, _⟩
          omega
        · intro z
          cases z
      · rw [decide_eq_false q]
        constructor
        · rintro ⟨_, z⟩
          rw [z]
          rfl
        · intro z
          refine ⟨by omega, ?_⟩
          cases y : (anyBlocked bs ph N m (dep w) || anyShort bs ph N m (ones w)) with
          | false => rfl
          | true =>
            rw [y] at z
            cases z
  · have e1 : N = 1 := by omega
    subst e1
    have nob : ∀ m, anyBlocked bs ph 1 m (dep w) = false := fun m => Bool.eq_false_iff.mpr fun z => by
      obtain ⟨t, _, hb⟩ := any_iff.mp z
      have := (blocked_iff.mp hb).1
      omega
    have gs : ∀ m, anyShort bs ph 1 m (ones w) = decide (m < 1) := fun m => by
      rw [short_goes hl ho]
      by_cases q : m < 1
      · rw [decide_eq_true q]
        have : goesB bs 1 m = false := by
          unfold goesB
          rw [decide_eq_false (by omega), Bool.false_and]
        rw [this]
        rfl
      · rw [decide_eq_false q]
        have : goesB bs 1 m = true := (goes_iff hl).mpr ⟨by omega, fun s => Nat.zero_le _⟩
        rw [this]
        rfl
    unfold safeB
    rw [nob, gs, Bool.false_or]
    cases late with
    | false =>
      rw [one_plays_early (by omega) _ _ _ hw ho]
      refine ⟨fun _ => ?_, fun _ => rfl⟩
      show (!(false && decide (w.length = p)) && !decide (p < 1)) = true
      rw [Bool.false_and, decide_eq_false (by omega)]
      rfl
    | true =>
      show _ ↔ (!(true && decide (w.length = p)) && !decide (p - 1 < 1)) = true
      rw [Bool.true_and]
      have step : ∀ (k t : Nat) (v : List Bool), plays bs ph 1 p true (k + 1) v t = (match putW v (newestW v 1) (bA bs (ph + t)) p true with
        | none => 0
        | some w' => 1 + plays bs ph 1 p true k w' (t + 1)) := fun k t v => rfl
      by_cases q : w.length = p
      · rw [decide_eq_true q, step (p + bs.length + 1), put_late_full (by omega)]
        constructor
        · intro z
          have z' : 0 = p + bs.length + 2 := z
          omega
        · intro z
          cases z
      · rw [decide_eq_false q]
        by_cases q2 : 2 ≤ p
        · rw [one_plays_late q2 _ _ _ hw ho (by omega)]
          refine ⟨fun _ => ?_, fun _ => rfl⟩
          rw [decide_eq_false (by omega)]
          rfl
        · rw [step (p + bs.length + 1), one_late hw ho (by omega)]
          show 1 + plays bs ph 1 p true (p + bs.length + 1) [true] (0 + 1) = p + bs.length + 2 ↔ _
          rw [step (p + bs.length), put_late_full (by show p ≤ 1; omega)]
          constructor
          · intro z
            have z' : 1 + 0 = p + bs.length + 2 := z
            omega
          · intro z
            rw [decide_eq_true (show p - 1 < 1 by omega)] at z
            cases z
end
end Cm
/-! The mathematics: the count by caps is the number of safe words. -/
namespace Cm
def meets : List Nat → List Int → Bool
  | [], _ => true
  | _ :: _, [] => true
  | d :: ds, c :: cs => decide ((d : Int) ≤ c) && meets ds cs
theorem row_pre (prev : List Nat) (cap : Int) {d : Nat} : ∀ k, (rowN prev cap (d + k)).getD d 0 = (rowN prev cap d).getD d 0
  | 0 => rfl
  | k + 1 => by
    have e : rowN prev cap (d + (k + 1)) = rowN prev cap (d + k) ++ [(rowN prev cap (d + k)).getD (d + k) 0 + (if ((d + k + 1 : Nat) : Int) ≤ cap then prev.getD (d + k) 0 else 0)] := rfl
    rw [e, List.getD_eq_getElem?_getD, List.getElem?_append_left (by rw [row_len]; omega), ← List.getD_eq_getElem?_getD, row_pre prev cap k]
theorem row_zero (prev : List Nat) (cap : Int) (m : Nat) : (rowN prev cap m).getD 0 0 = 0 := by
  have := row_pre prev cap (d := 0) m
  rw [Nat.zero_add] at this
  rw [this]
  rfl
theorem row_succ (prev : List Nat) (cap : Int) {d m : Nat} (h : d + 1 ≤ m) : (rowN prev cap m).getD (d + 1) 0 = (rowN prev cap m).getD d 0 + (if ((d + 1 : Nat) : Int) ≤ cap then prev.getD d 0 else 0) := by
  obtain ⟨k, rfl⟩ : ∃ k, m = d + 1 + k := ⟨m - (d + 1), by omega⟩
  rw [row_pre, show d + 1 + k = d + (1 + k) by omega, row_pre]
  show (rowN prev cap d ++ [_]).getD (d + 1) 0 = _
  rw [List.getD_eq_getElem?_getD, List.getElem?_append_right (by rw [row_len]; exact Nat.le_refl _), row_len, Nat.sub_self]
  rfl
/-- the words of d signs that meet the caps -/
def cnt (caps : List Int) (d : Nat) : Nat := ((Ew d caps.length).filter fun w => meets (dep w) caps).length
theorem cnt_ss (c : Int) (cs : List Int) (d : Nat) : cnt (c :: cs) (d + 1) = cnt (c :: cs) d + (if ((d + 1 : Nat) : Int) ≤ c then cnt cs d else 0) := by
  unfold cnt
  show (((Ew d (cs.length + 1)).map (false :: ·) ++ (Ew d cs.length).map (true :: ·)).filter fun w => meets (dep w) (c :: cs)).length = _
  rw [List.filter_append, List.length_append, List.filter_map, List.filter_map, List.length_map, List.length_map]
  congr 1
  by_cases q : ((d + 1 : Nat) : Int) ≤ c
  · rw [if_pos q]
    congr 1
    refine List.filter_congr fun w hw => ?_
    obtain ⟨_, h2⟩ := ew_mem hw
    show (decide (((w.length + 1 : Nat) : Int) ≤ c) && meets (dep w) cs) = _
    rw [h2, decide_eq_true q, Bool.true_and]
  · rw [if_neg q]
    have : (Ew d cs.length).filter ((fun w => meets (dep w) (c :: cs)) ∘ (true :: ·)) = [] := by
      refine List.filter_eq_nil_iff.mpr fun w hw z => ?_
      obtain ⟨_, h2⟩ := ew_mem hw
      have z' : (decide (((w.length + 1 : Nat) : Int) ≤ c) && meets (dep w) cs) = true := z
      rw [h2, decide_eq_false q, Bool.false_and] at z'
      cases z'
    rw [this]
    rfl
theorem cnt_nil (d : Nat) : cnt [] d = 1 := by
  unfold cnt
  have h1 : ch d 0 = 1 := ch_0 d
  have : (Ew d ([] : List Int).length).filter (fun w => meets (dep w) []) = Ew d 0 := by
    refine List.filter_eq_self.mpr fun w hw => ?_
    have h := (ew_mem hw).1
    have e : dep w = [] := List.eq_nil_of_length_eq_zero h
    rw [e]
    rfl
  rw [this]
  exact h1
theorem totals_cnt {m : Nat} : ∀ (caps : List Int) (d : Nat), d ≤ m → (totals m caps).getD d 0 = cnt caps d
  | [], d, h => by
    rw [cnt_nil]
    show (List.replicate (m + 1) 1).getD d 0 = 1
    rw [List.getD_eq_getElem?_getD, List.getElem?_replicate, if_pos (by omega)]
    rfl
  | c :: cs, 0, h => by
    show (rowN (totals m cs) c m).getD 0 0 = _
    rw [row_zero]
    rfl
  | c :: cs, d + 1, h => by
    rw [cnt_ss, ← totals_cnt (m := m) (c :: cs) d (by omega), ← totals_cnt (m := m) cs d (by omega)]
    exact row_succ (totals m cs) c h
/-- one place more, with the caps below it, adds no word -/
theorem cnt_more {caps : List Int} {m : Nat} (h : ∀ c r, caps = c :: r → c ≤ (m : Int)) : cnt caps (m + 1) = cnt caps m := by
  cases caps with
  | nil => rw [cnt_nil, cnt_nil]
  | cons c cs =>
    have := h c cs rfl
    rw [cnt_ss, if_neg (by omega)]
    rfl
/-! ### what a cap says -/
theorem caps_iff {bs : List Nat} {ph N m n : Nat} {i d : Nat} (hi : i < n) : ∀ T, ((d : Int) ≤ (capsN bs ph N m n T).getD i 0 ↔ d ≤ m ∧ ∀ t, t < T → tot bs ph t = i → i < N - 1 → d + i + t < m)
  | 0 => by
    have e : (capsN bs ph N m n 0).getD i 0 = (m : Int) := by
      show (List.replicate n (m : Int)).getD i 0 = _
      rw [List.getD_eq_getElem?_getD, List.getElem?_replicate, if_pos hi]
      rfl
    rw [e]
    exact ⟨fun h => ⟨Int.ofNat_le.mp h, fun t z => absurd z (Nat.not_lt_zero t)⟩, fun h => Int.ofNat_le.mpr h.1⟩
  | T + 1 => by
    have ih := caps_iff (bs := bs) (ph := ph) (N := N) (m := m) (d := d) hi T
    have clen := caps_len bs ph N m n T
    have last : ∀ {P : Nat → Prop}, (∀ t, t < T + 1 → P t) ↔ (∀ t, t < T → P t) ∧ P T := fun {P} =>
      ⟨fun h => ⟨fun t ht => h t (by omega), h T (by omega)⟩, fun h t ht => by
        by_cases q : t < T
        · exact h.1 t q
        · have : t = T := by omega
          rw [this]
          exact h.2⟩
    rw [last, ← and_assoc, ← ih]
    have e : capsN bs ph N m n (T + 1) = if tot bs ph T < min n (N - 1) then
      (capsN bs ph N m n T).set (tot bs ph T) (if (m : Int) - 1 - (tot bs ph T : Int) - (T : Int) < (capsN bs ph N m n T).getD (tot bs ph T) 0 then (m : Int) - 1 - (tot bs ph T : Int) - (T : Int) else (capsN bs ph N m n T).getD (tot bs ph T) 0)
      else capsN bs ph N m n T := rfl
    rw [e]
    by_cases q : tot bs ph T < min n (N - 1)
    · rw [if_pos q]
      by_cases q2 : tot bs ph T = i
      · have e3 : ∀ X : Int, ((capsN bs ph N m n T).set (tot bs ph T) X).getD i 0 = X := fun X => by
          rw [q2, List.getD_eq_getElem?_getD, List.getElem?_set_self (by omega)]
          rfl
        rw [e3, q2]
        generalize (capsN bs ph N m n T).getD i 0 = c0
        rw [q2] at q
        constructor
        · intro h
          split at h
          · exact ⟨by omega, fun _ _ => by omega⟩
          · exact ⟨h, fun _ _ => by omega⟩
        · rintro ⟨h1, h2⟩
          have := h2 rfl (by omega)
          split <;> omega
      · rw [List.getD_eq_getElem?_getD, List.getElem?_set_ne q2, ← List.getD_eq_getElem?_getD]
        exact ⟨fun h => ⟨h, fun z => absurd z q2⟩, fun h => h.1⟩
    · rw [if_neg q]
      exact ⟨fun h => ⟨h, fun z1 z2 => by omega⟩, fun h => h.1⟩
theorem meets_iff : ∀ (D : List Nat) (caps : List Int), D.length = caps.length → (meets D caps = true ↔ ∀ i, i < D.length → ((D.getD i 0 : Nat) : Int) ≤ caps.getD i 0)
  | [], caps, h => ⟨fun _ i z => absurd z (Nat.not_lt_zero i), fun _ => rfl⟩
  | d :: ds, [], h => by cases h
  | d :: ds, c :: cs, h => by
    have ih := meets_iff ds cs (Nat.succ.inj h)
    show (decide ((d : Int) ≤ c) && meets ds cs) = true ↔ _
    rw [Bool.and_eq_true, decide_eq_true_iff, ih]
    constructor
    · rintro ⟨h1, h2⟩ i hi
      cases i with
      | zero => exact h1
      | succ i => exact h2 i (Nat.lt_of_succ_lt_succ hi)
    · intro z
      exact ⟨z 0 (Nat.zero_lt_succ _), fun i hi => z (i + 1) (Nat.succ_lt_succ hi)⟩
section
variable {bs : List Nat} {ph N p : Nat} {late : Bool}
/-- a word is safe just where the rule holds and its depths meet the caps -/
theorem safe_meets (hl : 0 < bs.length) (hN : 1 ≤ N) (hNp : N ≤ p) {w : List Bool} (hw : Norm w) (hwp : w.length ≤ p) (ho : ones w ≤ N) (hg : goesB bs N (mOf p late) = true) :
    safeB bs ph N p late w = meets (dep w) (capsN bs ph N (mOf p late) (ones w) (mOf p late)) := by
  have e1 : anyShort bs ph N (mOf p late) (ones w) = false := by
    rw [short_goes hl ho, hg]
    rfl
  have hmle : mOf p late ≤ p := by
    unfold mOf
    split <;> omega
  refine Bool.eq_iff_iff.mpr ?_
  rw [meets_iff _ _ (by rw [caps_len]; rfl)]
  unfold safeB
  rw [e1, Bool.or_false, Bool.and_eq_true, Bool.not_eq_true', Bool.not_eq_true']
  have hmem : ∀ i, i < (dep w).length → ∃ d, (dep w)[i]? = some d ∧ (dep w).getD i 0 = d ∧ d ≤ w.length := fun i hi => by
    have e : (dep w)[i]? = some (dep w)[i] := List.getElem?_eq_getElem hi
    exact ⟨_, e, by rw [List.getD_eq_getElem?_getD, e]; rfl, (dep_bound w _ (List.getElem_mem hi)).2⟩
  constructor
  · rintro ⟨h1, h2⟩ i hi
    obtain ⟨d, e, ed, hd⟩ := hmem i hi
    rw [caps_iff (show i < ones w from hi), ed]
    refine ⟨?_, fun t ht htot hiN => Nat.lt_of_not_le fun z => ?_⟩
    · cases late with
      | false => exact Nat.le_trans hd hwp
      | true =>
        have h1' : (true && decide (w.length = p)) = false := h1
        rw [Bool.true_and] at h1'
        have := of_decide_eq_false h1'
        show d ≤ p - 1
        omega
    · have hb : blockedB bs ph N (mOf p late) (dep w) t = true := blocked_iff.mpr ⟨by rw [htot]; omega, by rw [htot, ed]; exact z⟩
      have : anyBlocked bs ph N (mOf p late) (dep w) = true := any_iff.mpr ⟨t, ht, hb⟩
      rw [h2] at this
      cases this
  · intro h
    constructor
    · cases late with
      | false => rfl
      | true =>
        refine Bool.eq_false_iff.mpr fun z => ?_
        have z' : decide (w.length = p) = true := by
          rw [Bool.true_and] at z
          exact z
        have hlen := of_decide_eq_true z'
        rcases norm_dep hw with rfl | ⟨r, rfl⟩
        · have : 0 = p := hlen
          omega
        · have h0 := h 0 (Nat.zero_lt_succ _)
          rw [caps_iff (show 0 < ones (true :: r) from Nat.zero_lt_succ _)] at h0
          have h0' : r.length + 1 ≤ p - 1 := h0.1
          have : r.length + 1 = p := hlen
          omega
    · refine Bool.eq_false_iff.mpr fun z => ?_
      obtain ⟨t, ht, hb⟩ := any_iff.mp z
      obtain ⟨b1, b2⟩ := blocked_iff.mp hb
      have hi : tot bs ph t < (dep w).length := by omega
      have h0 := h _ hi
      rw [caps_iff (show tot bs ph t < ones w from hi)] at h0
      have := h0.2 t ht rfl (by omega)
      omega
/-- THE COUNT -/
theorem count_safe_is (hl : 0 < bs.length) (hN : 1 ≤ N) (hNp : N ≤ p) {n : Nat} (hn : n ≤ N) : (safeList bs ph N p n late).length = cntSafe bs ph N p n late := by
  unfold safeList cntSafe
  rw [List.filter_map, List.length_map]
  cases hg : goesB bs N (mOf p late) with
  | false =>
    rw [if_neg Bool.false_ne_true]
    have : (Ew p n).filter (safeB bs ph N p late ∘ trim) = [] := by
      refine List.filter_eq_nil_iff.mpr fun w hw z => ?_
      have h1 := (ew_mem hw).1
      have e1 : anyShort bs ph N (mOf p late) (ones (trim w)) = true := by
        rw [short_goes hl (by rw [ones_trim]; omega), hg]
        rfl
      have z' : safeB bs ph N p late (trim w) = true := z
      unfold safeB at z'
      rw [e1, Bool.or_true] at z'
      rw [Bool.and_eq_true] at z'
      cases z'.2
    rw [this]
    rfl
  | true =>
    rw [if_pos rfl, totals_cnt _ _ (Nat.le_refl _)]
    have hE : (Ew p n).filter (safeB bs ph N p late ∘ trim) = (Ew p n).filter fun w => meets (dep w) (capsN bs ph N (mOf p late) n (mOf p late)) := by
      refine List.filter_congr fun w hw => ?_
      obtain ⟨h1, h2⟩ := ew_mem hw
      have h3 := trim_len w
      show safeB bs ph N p late (trim w) = _
      rw [safe_meets hl hN hNp (trim_norm w) (by omega) (by rw [ones_trim]; omega) hg, dep_trim, ones_trim, h1]
    rw [hE]
    have e2 : ((Ew p n).filter fun w => meets (dep w) (capsN bs ph N (mOf p late) n (mOf p late))).length = cnt (capsN bs ph N (mOf p late) n (mOf p late)) p := by
      unfold cnt
      rw [caps_len]
    rw [e2]
    cases late with
    | false => rfl
    | true =>
      obtain ⟨m, rfl⟩ : ∃ m, p = m + 1 := ⟨p - 1, by omega⟩
      show cnt (capsN bs ph N m n m) (m + 1) = cnt (capsN bs ph N m n m) m
      refine cnt_more fun c r e => ?_
      have hn0 : 0 < n := by
        have := caps_len bs ph N m n m
        rw [e] at this
        have : r.length + 1 = n := this
        omega
      refine Int.not_lt.mp fun z => ?_
      have h0 := (caps_iff (bs := bs) (ph := ph) (N := N) (m := m) (d := m + 1) hn0 m).mp (by
        rw [e]
        show ((m + 1 : Nat) : Int) ≤ c
        omega)
      omega
end
end Cm
set_option Elab.async false
set_option maxRecDepth 100000
/-! The text by places. -/
namespace Cl
open PySem L2
abbrev PR : Program := PySem.Challenge.pw_carrylog_k29_whole_count_of_safe_words
def top (i : Nat) : Stmt := PR.main.body.getD i (.Pass ⟨0, 0, 0, 0⟩)
end Cl
set_option Elab.async false
set_option linter.all false
set_option maxRecDepth 100000
set_option maxHeartbeats 4000000
/-! Rules that the hand layer lacks: calls of a global that holds a builtin, own len and own plus, sum of a tuple, C(*xs), a generator called with keywords. -/
namespace Cl
open PySem PySem.Spec PyProof.Rows L2
section
variable {X : Cx} {x : Str} {p pos : Pos} {e : Expr} {es : List Expr} {t : TA} {id : String} {r : List V → Hp → VK → Prop}
/-- f(e, ..), f a global name that an import bound to a builtin -/
theorem pe_callG (hc : CallR X (.builtin id) r) (hg : Gl X x) (hm : X.mg x = some (.builtin id)) (ha : PA X (e :: es) t) (hdb : (x == ("__debug__" : Str)) = false := by decide)
    (he : starEach (e :: es) X.env = (false, eval e X.env) :: starEach es X.env := by rfl) (hpl : (backTo pos (starEach es X.env)).any (·.1) = false := by rfl) :
    PE X (.Call (.Name x p) (e :: es) [] pos) (tCB r t) := by
  refine ⟨fun pins s σ H Q I h => wpAny_Call_Name_kw (ld_glob I hg hm ?_ hdb)⟩
  refine PyProof.Rows.callWith_builtin1 ?_ he hpl
  exact thn (ha.run pos pins s σ H _ I h) fun us s1 hh => by
    obtain ⟨vs, H1, I1, r1, q1⟩ := hh
    exact hc pins s1 σ H1 vs us Q I1 r1 q1
/-- math.comb of small numbers -/
def rComb : List V → Hp → VK → Prop := fun xs H Q => ∃ a b : Int, xs = [.int a, .int b] ∧ 0 ≤ a ∧ a < 2 ^ 62 ∧ 0 ≤ b ∧ b ≤ 9000 ∧ Q (.int (PySem.W.mcComb a b)) H
theorem call_comb : CallR X (.builtin "math.comb") rComb := by
  intro pins s σ H vs us Q I rv hq
  obtain ⟨a, b, rfl, a0, a1, b0, b1, q⟩ := hq
  obtain ⟨u1, u2, rfl, r1, r2⟩ := vals2 rv
  obtain ⟨t1, rfl⟩ := r1
  obtain ⟨t2, rfl⟩ := r2
  exact PySem.W.mc_comb a0 b0 (by omega) (.inl b1) fun _ => ⟨.int _, H, I.tok _, ⟨_, rfl⟩, q⟩
/-- sum of a tuple of ints -/
def rSumT (K : PySem.W.Frag) : List V → Hp → VK → Prop := fun xs H Q => ∃ (a : Addr) (ns : List Int), xs = [.ref a] ∧ SqT K H a (ns.map V.int) ∧ Q (.int ns.sum) H
theorem call_sumT (hc : X.calm = true) : CallR X (.builtin "sum") (rSumT X.K) := by
  intro pins s σ H vs us Q I rv hq
  obtain ⟨a, ns, rfl, hs, q⟩ := hq
  obtain ⟨u, rfl, ru⟩ := vals1 rv
  obtain rfl : u = Value.ref a := ru
  obtain ⟨its, r2, ht, _⟩ := I.tuple hs
  have hi := intsAre_of r2
  obtain ⟨xs, hx⟩ := hi.allInts.items
  have hl : s.heap.IsTuple a its.toArray := ht
  have hn : numsOf its.toArray.toList = ns := by
    rw [show its.toArray.toList = its from rfl]
    exact hi.numsOf
  rw [hx] at hl hn
  rw [nums_intItems] at hn
  refine PySem.W.ktm_sumG (I.ok.hd hc) hl fun h' tk t' hk => ?_
  refine ⟨.int ns.sum, H, I.kept (t' := tk) hk, ⟨t', ?_⟩, q⟩
  rw [preSum_eq, List.take_of_length_le (by simp), hn]
end

section
variable {X : Cx} {CX : CXT} {k : Nat} {f C : Addr} {fd : FuncData} {ps : List Str} {sp : Sp}
/-- behind a call inside a builtin's own frame -/
theorem run_in1 {pins : List (Addr × Obj)} {σ : L2.St} {H : Hp} {s : Shared} {Q : VK} {us : List Value} {vs : List V} {Q' : Value → Shared → Prop} (F : FnOk X.prog X.w X.K X.mg X.base CX k f fd ps sp) (hr : Room (k + 1) X.A) (hb : Binds X.K fd ps [])
    (hx : Passes CX X E0) (I : Inv X pins σ H s) (r : Vals vs us) (h : sp vs H Q E0) (hQ : ∀ v H' u s', Inv X pins σ H' s' → RelV v u → Q v H' → Q' u s') : wpAny (model X.prog X.w) X.A.in1 (call (.ref f) us) Q' X.xe s := by
  have hl : us.length = ps.length := by
    rw [← r.length]
    exact F.len _ _ _ _ h
  have bb := hb s us I.kIn (by rw [List.append_nil]; exact hl)
  rw [List.append_nil] at bb
  refine wpAny_call (codeAny_mono (F.run X.A.in1 X.stack s H ⟨us, []⟩ us vs Q E0 hr.in1 I.env0.in1 bb r h) fun z s' hz => ?_)
  cases z with
  | error e => exact hx pins σ H s e s' I hz
  | ok fl =>
    cases fl with
    | ret u =>
      obtain ⟨v, H', I', rv, q⟩ := I.after hz
      exact hQ v H' u s' I' rv q
    | next => exact False.elim hz
    | brk => exact False.elim hz
    | cont => exact False.elim hz
/-- len(o), o an instance whose class writes __len__ -/
def rLenI (C : Addr) (sp : Sp) : List V → Hp → VK → Prop := fun xs H Q => ∃ (a dx : Addr) (fs : List (Str × V)), xs = [.ref a] ∧ H a = some (.ins C dx fs) ∧ sp [.ref a] H (fun v H' => ∃ n : Int, v = .int n ∧ (0 ≤ n ∧ n < 2 ^ 63) ∧ Q (.int n) H') E0
theorem call_lenI (hs : PySem.W.findIn X.K (.ref C) "__len__" = some (some (.ref f))) (hf : PySem.W.isFn X.K (.ref f) = true) (F : FnOk X.prog X.w X.K X.mg X.base CX k f fd ps sp) (hr : Room (k + 1) X.A) (hb : Binds X.K fd ps []) (hx : Passes CX X E0) :
    CallR X (.builtin "len") (rLenI C sp) := by
  intro pins s σ H vs us Q I rv hq
  obtain ⟨a, dx, fs, rfl, ha, q⟩ := hq
  obtain ⟨u, rfl, ru⟩ := vals1 rv
  obtain rfl : u = Value.ref a := ru
  obtain ⟨mA, J, _⟩ := ins_get I.hok ha
  obtain ⟨od, J, _⟩ := J.look
  obtain ⟨m, hF⟩ := I.fr
  refine PySem.W.len_K hF I.ok.mod.kin J hs hf ?_
  refine run_in1 F hr hb hx I rv q fun v H' w s' I' rw' hh => ?_
  obtain ⟨n, rfl, hn, q2⟩ := hh
  obtain ⟨t, rfl⟩ := rw'
  exact ⟨hn, ⟨.int n, H', I'.tok _, ⟨_, rfl⟩, q2⟩⟩
/-- a + b, two instances of one class that writes __add__ -/
def rAddI (C : Addr) (sp : Sp) : R2 := fun x y H Q => ∃ (a b dx dy : Addr) (fs gs : List (Str × V)), x = .ref a ∧ y = .ref b ∧ H a = some (.ins C dx fs) ∧ H b = some (.ins C dy gs) ∧ sp [.ref a, .ref b] H (fun v H' => ∃ c, v = .ref c ∧ Q v H') E0
theorem op_addI (hc : PySem.W.selfFirst X.K C = true) (hs : PySem.W.findIn X.K (.ref C) (PySem.dunder "add") = some (some (.ref f))) (hf : PySem.W.isFn X.K (.ref f) = true) (F : FnOk X.prog X.w X.K X.mg X.base CX k f fd ps sp) (hr : Room k X.A)
    (hb : Binds X.K fd ps []) (hx : Passes CX X E0) : OpR X (binaryOp .Add) (rAddI C sp) := by
  intro pins s σ H x y v u Q I rx ry hq
  obtain ⟨a, b, dx, dy, fs, gs, rfl, rfl, ha, hb', q⟩ := hq
  cases rx
  cases ry
  obtain ⟨mA, J, _⟩ := ins_get I.hok ha
  obtain ⟨mB, J', _⟩ := ins_get I.hok hb'
  obtain ⟨od, J, _⟩ := J.look
  obtain ⟨od', J', _⟩ := J'.look
  obtain ⟨m, hF⟩ := I.fr
  refine PySem.W.binop_K hF I.ok.mod.kin J J'.type hc hs hf ?_
  have r2 : Vals [V.ref a, V.ref b] ([Value.ref a, Value.ref b] ++ []) := .cons rfl (.cons rfl .nil)
  refine wpAny_mono (run_fn (us := [Value.ref a, Value.ref b]) (vs := [V.ref a, V.ref b]) (ds := []) (dvs := []) F hr hb .nil hx I (.cons rfl (.cons rfl .nil)) q) (fun w s' hw => ?_) fun _ _ z => z
  obtain ⟨v, H', I', rv, c, rfl, q2⟩ := hw
  obtain rfl : w = Value.ref c := rv
  exact ⟨.ref c, H', I', rfl, q2⟩
/-- C(*xs) -/
def tMakeS (K : PySem.W.Frag) (C : Addr) (sp : Sp) (E : XK) (te : TE) : TE := fun σ H Q => te σ H fun y H1 => ∃ a xs, y = V.ref a ∧ (SqT K H1 a xs ∨ SqL K H1 a xs) ∧ ∀ x dx, H1 x = Option.none → H1 dx = Option.none → dx ≠ x →
  sp (V.ref x :: xs) (upd (upd H1 dx (.own x)) x (.ins C dx [])) (fun v H2 => v = .non ∧ Q (.ref x) H2) E
theorem pe_makeS {E : XK} {x : Str} {e : Expr} {te : TE} {p pos sp_ : Pos} (M : Mk X.K C f) (F : FnR X.prog X.w X.K X.mg X.base CX k f sp) (hr : Room (k + 1) X.A) (hg : Gl X x) (hm : X.mg x = some (.ref C)) (hx : Passes CX X E) (he : PE X e te)
    (hdb : (x == ("__debug__" : Str)) = false := by decide) (hst : starEach [.Starred e sp_] X.env = [(true, eval e X.env)] := by rfl) :
    PE X (.Call (.Name x p) [.Starred e sp_] [] pos) (tMakeS X.K C sp E te) := by
  refine ⟨fun pins s σ H Q I h => wpAny_Call_Name_kw (ld_glob I hg hm ?_ hdb)⟩
  refine PySem.W.callWith_S (h₀ := X.base) I.ok.mod.kin M.kp (thn (he.run pins s σ H _ I h) fun v s1 hh => ?_) hst
  obtain ⟨y, H1, I1, ry, a, xs, rfl, hxs, q⟩ := hh
  obtain rfl : v = Value.ref a := ry
  exact StX.star_any I1 hxs fun us s2 I2 rv => ⟨I2.kIn, StX.run_makeR M F hr hx I2 rv q⟩
end

section
variable {X : Cx} {k n : Nat} {f : Addr} {fd : FuncData} {ps ks : List Str} {sp : SpG} {E : XK} {x : Str} {p pos : Pos} {e : Expr} {es : List Expr} {kws : List Keyword} {t tk : TA} {g : List Value → List Value → List Value} {gV : List V → List V → List V}
/-- f(e, .., k = v, ..) of a generator def -/
def tCallGN (n m : Nat) (sp : SpG) (gV : List V → List V → List V) (E : XK) (t tk : TA) : TGen := fun σ H cont => t σ H fun vs H1 => tk σ H1 fun zs H2 => vs.length = n ∧ zs.length = m ∧ sp (gV vs zs) H2 cont E
theorem pgen_callN (F : GFn X.prog X.w X.K X.mg X.base k f fd ps sp) (hr : Room k X.A) (hg : Gl X x) (hm : X.mg x = some (.ref f)) (hk : PySem.W.keepIn X.K (.ref f) = true) (hb : KBn X.K fd ps n ks g gV)
    (ha : PA X (e :: es) t) (hkw : PK X kws tk) (hall : (backToKw pos (keywordEach kws X.env)).all (·.1.isSome) = true := by rfl) (hks : (backToKw pos (keywordEach kws X.env)).filterMap (·.1) = ks := by rfl)
    (hdb : (x == ("__debug__" : Str)) = false := by decide) (he : starEach (e :: es) X.env = (false, eval e X.env) :: starEach es X.env := by rfl)
    (hpl : ((backTo pos (starEach (e :: es) X.env)).any (·.1) || (backToKw pos (keywordEach kws X.env)).any (·.1.isNone)) = false := by rfl) :
    PGen X k (.Call (.Name x p) (e :: es) kws pos) (tCallGN n ks.length sp gV E t tk) E := by
  refine ⟨fun pins s σ H cont I h => wpAny_Call_Name_kw (ld_glob I hg hm ?_ hdb)⟩
  refine PySem.W.callWith_KW (h₀ := X.base) I.ok.mod.kin hk hall (thn (ha.run pos pins s σ H _ I h) fun us s1 hh => ?_) hpl he
  obtain ⟨vs, H1, I1, r, q⟩ := hh
  refine thn (hkw.run pos pins s1 σ H1 _ I1 q) fun ws s2 hh2 => ?_
  obtain ⟨zs, H2, I2, rz, l1, l2, q2⟩ := hh2
  refine ⟨I2.kIn, ?_⟩
  rw [hks]
  have r2 := hb.rel r rz
  refine wpAny_call (codeAny_mono (F.run X.A X.stack s2 H2 ⟨us, ks.zip ws⟩ (g us ws) (gV vs zs) cont E hr I2.env0 (hb.to s2 us ws I2.kIn (r.length.symm.trans l1) (rz.length.symm.trans l2)) r2 q2) fun z s' hz => ?_)
  cases z with
  | error e => exact False.elim hz
  | ok fl =>
    cases fl with
    | ret u => exact ⟨H2, s2, [], I2, .nil, hz⟩
    | next => exact False.elim hz
    | brk => exact False.elim hz
    | cont => exact False.elim hz
end
end Cl
set_option Elab.async false
set_option linter.all false
set_option maxRecDepth 100000
set_option maxHeartbeats 4000000
/-! if and for in the body of a generator def. -/
namespace Cl
open PySem PySem.Spec PyProof.Rows L2 GenW
section
variable {X : Cx}
def tGIf (tc : TT) (t u : TGn) : TGn := fun D ys σ H => tc σ H fun b H1 => if b = true then t D ys σ H1 else u D ys σ H1
theorem gs_if {c : Expr} {a b : List Stmt} {pos : Pos} {tc : TT} {t u : TGn} (hc : PT X c tc) (ha : GSs X a t) (hb : GSs X b u) : GS X (.If c a b pos) (tGIf tc t u) := by
  refine ⟨fun A S ip R n ys s₀ cd fs K J gd lv s σ H D g hn k hI ht => ?_⟩
  obtain ⟨acc, cc, r, I⟩ := hI
  show Seg _ _ _ _ n s₀ cd (.at pos fun _ => (isTrue c X.env (eval c X.env) >>= fun z => if z = true then execs a X.env else execs b X.env).wrap K J gd lv) fs s
  refine seg_at (seg_bind_wrap ?_)
  rw [g.over]
  refine wpAny_mono (hc.run _ s σ H _ I ht) (fun z s' hz => ?_) fun x s' hx => k.exc n s₀ x s' hx
  obtain ⟨H1, I1, q⟩ := hz
  cases z with
  | true => exact ha.run A S ip R n ys s₀ cd fs K J gd lv s' σ H1 D g hn k ⟨acc, cc, r, I1⟩ q
  | false => exact hb.run A S ip R n ys s₀ cd fs K J gd lv s' σ H1 D g hn k ⟨acc, cc, r, I1⟩ q
/-- for: the word speaks of the turn, a measure, what is out, the slots, the heap -/
def tGFor (wi : TI) (g : TG) (tb : TGn) : TGn := fun D ys σ H => wi σ H fun J H1 => ∃ W : Nat → Nat → List V → L2.St → Hp → Prop, (∃ m, W 0 m ys σ H1) ∧ ∀ i m ys σ H, W i m ys σ H →
  (J.stop i H ∧ D.nx ys σ H) ∨ (J.go i H ∧ ∃ N : List V → L2.St → Hp → Prop, (∀ ys' σ' H', N ys' σ' H' → ∃ m', m' < m ∧ W (i + 1) m' ys' σ' H') ∧
    ∀ x H', J.yld i H x H' → g x σ H' fun σ2 H2 => tb { D with nx := N, ct := N, bk := D.nx } ys σ2 H2)
theorem gs_for {tg iter : Expr} {body : List Stmt} {pos : Pos} {wi : TI} {g : TG} {tb : TGn} (hp : PassesOwn (model X.prog X.w) X.A X.env X.xe) (hc : X.calm = true) (hi : PI X tg iter wi) (hg : PG X tg g) (hb : GSs X body tb)
    (hs : ∀ x, foldedSetIterable iter X.env x = pure x := by intro _; rfl) : GS X (.For tg iter body [] pos) (tGFor wi g tb) := by
  refine ⟨fun A S ip R n ys s₀ c fs K J gd lv s σ H D gc hn k hI ht => ?_⟩
  obtain ⟨acc, cc, r, I⟩ := hI
  show Seg _ _ _ _ n s₀ c (.at pos fun _ => (eval iter X.env >>= fun v => foldedSetIterable iter X.env v >>= fun x => standAt iter.pos >>= fun _ => holding [x] (pyIter x) >>= fun it => runOwn (.forLoop tg it body [] X.env) X.env).wrap K J gd lv) fs s
  refine seg_at (seg_bind_wrap ?_)
  rw [gc.over]
  refine wpAny_mono (hi.run _ s σ H _ I ht) (fun v s1 hv => ?_) fun x s' hx => k.exc n s₀ x s' hx
  refine seg_bind_wrap (wpAny_of_eq (hs v) ?_)
  refine seg_bind_wrap (wpAny_standAt ?_)
  refine seg_bind_wrap (wpAny_holding ?_)
  rw [gc.over]
  refine wpAny_mono hv (fun itv s2 h2 => ?_) fun x s' hx => k.exc n s₀ x s' hx
  obtain ⟨it, fp, tn, Jt, H2, rfl, I2, T, st2, f2, W, ⟨m0, w0⟩, turn⟩ := h2
  refine seg_call fun p => ?_
  have gl := fun (kk : Result → Sem PySem.Fin) => gc_loop (k := kk) (c' := .forLoop tg (.ref it) body [] X.env) (l := lv []) (kp := []) (p := p) gc rfl rfl
  have gb := fun (kk : Result → Sem PySem.Fin) => gc_loop (k := kk) (c' := .block [] X.env) (l := lv []) (kp := []) (p := p) gc rfl rfl
  have hSfp : ∀ b ∈ fp, b ≠ S := fun b hb z => (f2 b hb).2.2.2.2.2 (S, lstObj acc cc) (List.mem_append_right _ List.mem_cons_self) z.symm
  have stat : ∀ {acc' : Array Value} {cc' : Nat} {H' : Hp}, (∀ b ∈ fp, H' b = none) → ∀ b ∈ fp, FpOk X ((S, lstObj acc' cc') :: ip) H' b := fun {acc' cc' H'} hn b hb => by
    obtain ⟨_, f1, f3, f4, f5, f6⟩ := f2 b hb
    refine ⟨hn b hb, f1, f3, f4, f5, fun p hp => ?_⟩
    rcases List.mem_append.mp hp with z | z
    · exact f6 p (List.mem_append_left _ z)
    · rcases List.mem_cons.mp z with z | z
      · rw [z]
        exact Ne.symm (hSfp b hb)
      · exact f6 p (List.mem_append_right _ (List.mem_cons_of_mem _ z))
  have loop : ∀ (m n : Nat) (i : Nat) (ys : List V) (s₀ s : Shared) (σ : L2.St) (H : Hp), n + ys.length = sizeLine → W i m ys σ H → GI X S ip ys σ H s → tn i s.heap → (∀ b ∈ fp, H b = none) →
      Seg (model X.prog X.w) A R (GY X S) n s₀ (.forLoop tg (.ref it) body [] X.env) ((model X.prog X.w).den (.forLoop tg (.ref it) body [] X.env))
        (.ret (fun r => ((match r with | .ok f => (.pure f : Sem Flow) | .error e => .raise e).onRaise (cameBack X.env)).wrap K J gd lv) none (gd false) (lv []) c p [] :: fs) s := by
    intro m
    induction m using Nat.strongRecOn with
    | ind m ih =>
      intro n i ys s₀ s σ H hn w hI hst hfr
      have ee : ∀ (n : Nat) (s₀ : Shared) (x : Value) (s' : Shared), X.xe x s' → Seg (model X.prog X.w) A R (GY X S) n s₀ (.forLoop tg (.ref it) body [] X.env)
          ((do noteFrame x X.env; theTreesLotGoes x : Sem Unit).wrap (fun _ => .raise x) .raise id id)
          (.ret (fun r => ((match r with | .ok f => (.pure f : Sem Flow) | .error e => .raise e).onRaise (cameBack X.env)).wrap K J gd lv) none (gd false) (lv []) c p [] :: fs) s' := fun n s₀ x s' hx => by
        refine seg_wrap ?_
        rw [(gl _).over]
        refine wpAny_bind (wpAny_mono (hp x s' hx) (fun _ s'' hcb => wpAny_theTreesLotGoes ?_) fun y s'' hcb => ?_)
        · exact seg_leaf (.error x) (seg_cameBack gc k hcb)
        · exact seg_leaf (.error y) (seg_cameBack gc k hcb)
      have ee' : ∀ (n : Nat) (s₀ : Shared) (x : Value) (s' : Shared), X.xe x s' → Seg (model X.prog X.w) A R (GY X S) n s₀ (.forLoop tg (.ref it) body [] X.env)
          ((do noteFrame x X.env; theTreesLotGoes x : Sem Unit).bind fun _ => (.raise x : Sem PySem.Fin))
          (.ret (fun r => ((match r with | .ok f => (.pure f : Sem Flow) | .error e => .raise e).onRaise (cameBack X.env)).wrap K J gd lv) none (gd false) (lv []) c p [] :: fs) s' := fun n s₀ x s' hx => by
        rw [Sem.bind_eq_wrap]
        exact ee n s₀ x s' hx
      obtain ⟨acc, cc, r, I⟩ := hI
      show Seg _ A R _ n s₀ _ ((forTurn tg (.ref it) body [] X.env).onRaise (fun x => do noteFrame x X.env; theTreesLotGoes x)) _ s
      unfold forTurn
      rw [Sem.onRaise_eq_wrap]
      refine seg_bind_wrap (wpAny_standAt ?_)
      refine seg_bind_wrap ?_
      rw [(gl _).over]
      rcases turn i m ys σ H w with ⟨stop, qn⟩ | ⟨go, N, hN, step⟩
      · refine wpAny_onRaise (wpAny_mono (T.done X rfl rfl rfl hc i _ s σ H X.xe I (stat hfr) hst stop) (fun z s4 hz => ?_) fun x s' hx => wpAny_standAt (ee' n s₀ x s' hx))
        obtain ⟨rfl, I4⟩ := hz
        refine seg_again rfl ?_
        show Seg _ A R _ n s₀ _ (((execs [] X.env).onRaise (fun x => do noteFrame x X.env; theTreesLotGoes x)) >>= fun f => (pure (.done f) : Sem PySem.Fin)) _ s4
        rw [Sem.onRaise_eq_wrap, Sem.bind_eq_wrap', Sem.wrap_wrap]
        refine seg_execs_nil ?_
        exact seg_leaf (.ok .next) (k.ok n ys s₀ s4 .next hn ⟨σ, H, ⟨acc, cc, r, I4⟩, qn⟩)
      · refine wpAny_onRaise (wpAny_mono (T.item X rfl rfl rfl hc i _ s σ H X.xe I (stat hfr) hst go) (fun z s4 hz => ?_) fun x s' hx => wpAny_standAt (ee' n s₀ x s' hx))
        obtain ⟨u, rfl, h4⟩ := hz
        refine seg_bind_wrap ?_
        rw [(gl _).over]
        refine wpAny_mono h4 (fun _ s5 h5 => ?_) fun x s' hx => ee' n s₀ x s' hx
        obtain ⟨x, H5, I5, r5, y5, st5, fr5⟩ := h5
        have I5' := I5.pinned (stat fr5) (T.obj _ _ st5)
        refine seg_bind_wrap ?_
        rw [(gl _).over]
        refine wpAny_mono (hg.run _ s5 σ H5 x u _ I5' r5 (step x H5 y5)) (fun _ s6 h6 => ?_) fun x s' hx => ee' n s₀ x s' hx
        obtain ⟨σ6, H6, I6, q6⟩ := h6
        rw [Sem.bind_eq_wrap', Sem.wrap_wrap]
        have hip : ∀ p ∈ ip ++ pinsAt fp s5.heap, p.1 ≠ S := fun p hp => by
          rcases List.mem_append.mp hp with z | z
          · exact gc.ip p z
          · exact hSfp p.1 (of_pinsAt z).1
        have gl' := fun (kk : Result → Sem PySem.Fin) => gc_loop (k := kk) (c' := .forLoop tg (.ref it) body [] X.env) (l := lv []) (kp := []) (p := p) (⟨gc.pn, hip, gc.apart, gc.over, gc.split, gc.guard, gc.gd⟩ : GC X S (ip ++ pinsAt fp s5.heap) A c fs gd) rfl rfl
        have weak : ∀ {zs : List V} {σ7 : L2.St} {H7 : Hp} {s7 : Shared}, GI X S (ip ++ pinsAt fp s5.heap) zs σ7 H7 s7 → GI X S ip zs σ7 H7 s7 := fun {zs σ7 H7 s7} z => by
          obtain ⟨a7, c7, r7, I7⟩ := z
          exact ⟨a7, c7, r7, I7.pins_of fun p hp => I7.pin p (List.mem_append_right _ (by
            rcases List.mem_cons.mp hp with y | y
            · rw [y]
              exact List.mem_cons_self
            · exact List.mem_cons_of_mem _ (List.mem_append_left _ y)))⟩
        have again : ∀ {n' : Nat} {s₀' : Shared} {zs : List V} {σ7 : L2.St} {H7 : Hp} {s7 : Shared}, n' + zs.length = sizeLine → GI X S (ip ++ pinsAt fp s5.heap) zs σ7 H7 s7 → N zs σ7 H7 → Seg (model X.prog X.w) A R (GY X S) n' s₀' (.forLoop tg (.ref it) body [] X.env) (.pure (.again (.forLoop tg (.ref it) body [] X.env)))
            (.ret (fun r => ((match r with | .ok f => (.pure f : Sem Flow) | .error e => .raise e).onRaise (cameBack X.env)).wrap K J gd lv) none (gd false) (lv []) c p [] :: fs) s7 := fun {n' s₀' zs σ7 H7 s7} hn' z nz => by
          obtain ⟨m', hm, w7⟩ := hN zs σ7 H7 nz
          obtain ⟨a7, c7, r7, I7⟩ := id z
          have pinIn : ∀ b ∈ fp, ∀ o, s5.heap.get? b = some o → (b, o) ∈ X.pn ++ ((S, lstObj a7 c7) :: (ip ++ pinsAt fp s5.heap)) := fun b hb o e =>
            List.mem_append_right _ (List.mem_cons_of_mem _ (List.mem_append_right _ (mem_pinsAt hb e)))
          refine seg_again rfl (ih m' hm n' (i + 1) zs s₀' s7 σ7 H7 hn' w7 (weak z) (T.keep _ _ _ st5 fun b hb o e => (I7.pin (b, o) (pinIn b hb o e)).1) fun b hb => ?_)
          obtain ⟨o, e, d⟩ := T.obj _ _ st5 b hb
          exact (I7.pin (b, o) (pinIn b hb o e)).2.1
        refine hb.run A S (ip ++ pinsAt fp s5.heap) R n ys s₀ _ _ _ _ id id s6 σ6 H6 { D with nx := N, ct := N, bk := D.nx } (gl' _) hn ⟨fun n' ys' s₀' s7 f hn' hs' => ?_, fun n' s₀' x s7 hx => ?_⟩ ⟨acc, cc, r, ?_⟩ q6
        · cases f with
          | next =>
            obtain ⟨σ7, H7, I7, n7⟩ := hs'
            exact again hn' I7 n7
          | cont =>
            obtain ⟨σ7, H7, I7, n7⟩ := hs'
            exact again hn' I7 n7
          | brk =>
            obtain ⟨σ7, H7, I7, n7⟩ := hs'
            exact seg_leaf (.ok .next) (k.ok n' ys' s₀' s7 .next hn' ⟨σ7, H7, weak I7, n7⟩)
          | ret v =>
            obtain ⟨v7, σ7, H7, I7, r7, n7⟩ := hs'
            exact seg_leaf (.ok (.ret v)) (k.ok n' ys' s₀' s7 (.ret v) hn' ⟨v7, σ7, H7, weak I7, r7, n7⟩)
        · exact ee' n' s₀' x s7 hx
        · exact I6
  exact loop m0 n 0 ys s₀ s2 σ H2 hn w0 ⟨acc, cc, r, I2⟩ st2 fun b hb => (f2 b hb).1
end
end Cl
set_option Elab.async false
set_option linter.all false
set_option maxRecDepth 100000
set_option maxHeartbeats 4000000
/-! enumerate(text), text * int. -/
namespace Cl
open PySem PySem.Spec PyProof.Rows L2
/-- the signs of a text, each with its place in a new pair -/
def Itse (x : Str) : It := ⟨fun i _ => i < x.cps.size, fun i H v H' => ∃ T c, v = .ref T ∧ H T = none ∧ x.cps[i]? = some c ∧ H' = upd H T (.tup [.int (i : Nat), .str ⟨#[c]⟩]), fun i _ => i = x.cps.size⟩
theorem draws_str {prog : Program} {w : World} {A : Around} (hh : A.handled = none) (it : Addr) (x : Str) (t : Tok) {ty : String} (hty : ty = "str_ascii_iterator" ∨ ty = "str_iterator") :
    Draws prog w A it [it] x.cps.size (fun i v => ∃ c u, x.cps[i]? = some c ∧ v = .str ⟨#[c]⟩ u) (fun i h => h.IsStrIter it ty x t i) := by
  rcases hty with e | e
  · rw [e]
    exact Draws.strAscii hh it x t
  · rw [e]
    exact Draws.strWide hh it x t
theorem turn_enumS {P : Program} {w : World} {K : PySem.W.Frag} {elts : List Expr} {kk : Nat} {tpos : Pos} (e it : Addr) (x : Str) (t : Tok) (ty : String) (hty : ty = "str_ascii_iterator" ∨ ty = "str_iterator") :
    Turn P w K (.Tuple elts kk tpos) (Itse x) [e, it] e (fun i h => (∃ old, IsEnum h e it ((i : Nat) : Int) old) ∧ h.IsStrIter it ty x t i ∧ e ≠ it) where
  mem := List.mem_cons_self
  obj := fun i h st b hb => by
    obtain ⟨⟨old, he⟩, ⟨o, ho, hc, hd⟩, _⟩ := st
    rcases List.mem_cons.mp hb with z | z
    · rw [z]
      exact ⟨_, he, fun v q => nomatch q⟩
    · have z2 : b = it := List.mem_singleton.mp z
      exact ⟨o, by rw [z2]; exact ho, fun v q => by rw [hd] at q; cases q⟩
  keep := fun i h h' st k => by
    obtain ⟨⟨old, he⟩, ⟨o, ho, r⟩, hne⟩ := st
    exact ⟨⟨old, k e List.mem_cons_self _ he⟩, ⟨o, k it (List.mem_cons_of_mem _ List.mem_cons_self) o ho, r⟩, hne⟩
  item := by
    intro X hP hw hK hc i pins s σ H E I hf st hg
    subst hP hw hK
    obtain ⟨⟨old, he⟩, hit, hne⟩ := st
    have D := draws_str (prog := X.prog) (w := X.w) (A := X.A.in1) (I.ok.hd hc) it x t hty
    have hel : e < s.heap.objs.size := Heap.lt_size he
    have hil : it < s.heap.objs.size := by
      obtain ⟨_, q, _⟩ := hit
      exact Heap.lt_size q
    refine wpAny_pyNext_enum_itemD D he hit hg hne (fun z => hne (List.mem_singleton.mp z)) fun v h' tk hv ho hit' hT hsz hk => ?_
    obtain ⟨c, u, hcx, rfl⟩ := hv
    refine ⟨_, rfl, wpAny_letOwnedTupleGo_enum (s := { s with heap := h', toks := tk + 1 }) ho fun h'' he' sb => ?_⟩
    have hT2 : h''.get? s.heap.objs.size = some { cls := .type "tuple", data := .seq #[.int i tk, .str ⟨#[c]⟩ u] } := (sb.2 _ (Nat.ne_of_gt hel)).trans hT
    have new : ObjOk X.prog X.w (upd H s.heap.objs.size (.tup [.int (i : Nat), .str ⟨#[c]⟩])) h'' s.heap.objs.size (.tup [.int (i : Nat), .str ⟨#[c]⟩]) :=
      ⟨by show 2 ≤ sizeLine; decide, [.int i tk, .str ⟨#[c]⟩ u], .cons ⟨_, rfl⟩ (.cons ⟨_, rfl⟩ .nil), ⟨_, hT2, rfl, _, rfl⟩⟩
    have I1 : Inv X pins σ (upd H s.heap.objs.size (.tup [.int (i : Nat), .str ⟨#[c]⟩])) { s with heap := h'', toks := tk + 1 } :=
      I.turnedNew (ch := [e, it]) (fun b ob hb q => (sb.2 b (fun z => hb (by simp [z]))).trans (hk b ob (fun z => hb (by simp [z])) (fun z => hb (by simp [z])) q)) hf (Nat.le_refl _) new
    refine ⟨.ref s.heap.objs.size, _, I1, rfl, ⟨_, c, rfl, I.hok.fresh (Nat.le_refl _), hcx, rfl⟩, ⟨⟨.str ⟨#[c]⟩ u, ?_⟩, ?_, hne⟩, fun b hb => ?_⟩
    · have e1 : ((i + 1 : Nat) : Int) = (i : Int) + 1 := by omega
      rw [e1]
      exact he'
    · obtain ⟨o, ho2, r2⟩ := hit'
      exact ⟨o, (sb.2 it (Ne.symm hne)).trans ho2, r2⟩
    · have hb' : b < s.heap.objs.size := by
        rcases List.mem_cons.mp hb with z | z
        · rw [z]
          exact hel
        · rw [List.mem_singleton.mp z]
          exact hil
      rw [upd_ne (Nat.ne_of_lt hb')]
      exact (hf b hb).1
  done := by
    intro X hP hw hK hc i pins s σ H E I hf st hg
    subst hP hw hK
    obtain ⟨⟨old, he⟩, hit, hne⟩ := st
    have D := draws_str (prog := X.prog) (w := X.w) (A := X.A.in1) (I.ok.hd hc) it x t hty
    obtain ⟨f0, f1, f2, f3, f4, f5⟩ := hf it (List.mem_cons_of_mem _ List.mem_cons_self)
    have hg2 : i = x.cps.size := hg
    rw [hg2] at hit
    exact wpAny_pyNext_enum_endD D he hit fun h' eb => ⟨rfl, I.turned (t' := s.toks) (fun b o hb q => eb b o hb q) f0 f1 f3 f4 f5⟩
  self := fun A i s Q E st h => by
    obtain ⟨⟨_, he⟩, _⟩ := st
    exact wpAny_pyIter_enum he h
def iEnumS (ta : TA) : TI := fun σ H R => ta σ H fun vs H1 => ∃ x, vs = [.str x] ∧ R (Itse x) H1
theorem pi_enumS {X : Cx} {e : Expr} {ta : TA} {p pos tpos : Pos} {elts : List Expr} {kk : Nat} (hg : Gl X "enumerate") (hm : X.mg "enumerate" = none) (ha : PA X [e] ta) (hs : starEach [e] X.env = [(false, eval e X.env)] := by rfl) :
    PI X (.Tuple elts kk tpos) (.Call (.Name "enumerate" p) [e] [] pos) (iEnumS ta) := by
  refine ⟨fun pins s σ H R I h => Call_ (ld_blt I hg hm boot_enumerate (PyProof.Rows.callWith_type1 (thn (ha.run pos pins s σ H _ I h) fun us s1 hh => ?_) hs rfl))⟩
  obtain ⟨vs, H1, I1, r1, x, rfl, q⟩ := hh
  obtain ⟨u, rfl, ru⟩ := vals1 r1
  obtain ⟨t, rfl⟩ := ru
  refine call_enumerate_str fun h' he hit hsz hk => wpAny_pyIter_enum he ?_
  have I2 : Inv X pins σ H1 { s1 with heap := h' } := I1.kept (t' := s1.toks) hk
  have hty : strIterType x = "str_ascii_iterator" ∨ strIterType x = "str_iterator" := by
    unfold strIterType
    cases x.cps.all (· < 128) with
    | true => exact .inl rfl
    | false => exact .inr rfl
  refine ⟨s1.heap.objs.size + 1, [s1.heap.objs.size + 1, s1.heap.objs.size], _, _, H1, rfl, I2, turn_enumS (s1.heap.objs.size + 1) s1.heap.objs.size x t _ hty, ⟨⟨.none, he⟩, hit, Nat.succ_ne_self _⟩, fun b hb => ?_, q⟩
  have hle : s1.heap.objs.size ≤ b := by
    rcases List.mem_cons.mp hb with z | z
    · rw [z]
      exact Nat.le_succ _
    · rw [List.mem_singleton.mp z]
      exact Nat.le_refl _
  exact I1.fpOk hle (I1.hok.fresh hle)
/-- a one-sign text times a number -/
theorem rep_fold (c : Nat) : ∀ (n : Nat) (acc : Array Nat), (List.replicate n #[c]).foldl (· ++ ·) acc = (acc.toList ++ List.replicate n c).toArray
  | 0, acc => by simp
  | n + 1, acc => by
    rw [List.replicate_succ, List.foldl_cons, rep_fold c n, List.replicate_succ]
    simp
theorem op_mulS {X : Cx} : OpR X (binaryOp .Mult) (fun x y H Q => ∃ (c : Nat) (n : Nat), x = .str ⟨#[c]⟩ ∧ y = .int (n : Int) ∧ n ≤ 1000 ∧ Q (.str ⟨(List.replicate n c).toArray⟩) H) := by
  intro pins s σ H x y v u Q I rx ry h
  obtain ⟨c, n, rfl, rfl, hn, q⟩ := h
  obtain ⟨t, rfl⟩ := rx
  obtain ⟨t', rfl⟩ := ry
  have hl : (⟨#[c]⟩ : Str).length = 1 := rfl
  refine PySem.P.mul_str ?_ (fun h1 h2 => ?_) (fun h1 h2 => ?_) ?_
  · have h1 : ¬ ((n : Int) < -(2 ^ 63 : Int)) := by omega
    have h2 : ¬ ((n : Int) ≥ 2 ^ 63) := by omega
    rw [decide_eq_false h1, decide_eq_false h2]
    rfl
  · rw [hl]
    have : (1 : Int) ≤ (2 ^ 63 - 1) / (n : Int) := by
      have h3 : (0 : Int) < n := by omega
      rw [Int.le_ediv_iff_mul_le h3]
      omega
    omega
  · rw [hl]
    unfold Builtin.Str.tooLong
    have e : ((n : Int)).toNat = n := by omega
    rw [e]
    have : sizeLine = 16777216 := sizeLine_eq
    first
      | exact decide_eq_false (by omega)
      | (simp only [decide_eq_false_iff_not]; omega)
  · by_cases h0 : n = 0
    · subst h0
      rw [if_pos (by decide)]
      exact ⟨by decide, .str Str.empty, H, I.tok _, ⟨_, rfl⟩, q⟩
    · rw [if_neg (by omega)]
      by_cases h1 : n = 1
      · subst h1
        rw [if_pos (by rfl)]
        exact ⟨.str ⟨#[c]⟩, H, I, ⟨_, rfl⟩, q⟩
      · rw [if_neg (by rw [hl]; simp; omega)]
        have e : ((n : Int)).toNat = n := by omega
        rw [e, rep_fold]
        refine ⟨?_, .str ⟨(List.replicate n c).toArray⟩, H, I.tok _, ⟨_, rfl⟩, q⟩
        show (List.replicate n c).toArray.size ≤ sizeLine
        rw [List.size_toArray, List.length_replicate, sizeLine_eq]
        omega
end Cl
set_option Elab.async false
set_option linter.all false
set_option maxRecDepth 100000
set_option maxHeartbeats 4000000
/-! InvalidInput: its __init__ (super().__init__(f'..'), then self.field), raised, its field read. -/
namespace Cl
open PySem PySem.W PySem.Calls PyProof.Rows PySem.HandSPX
abbrev sII : Stmt := L2.inClass (top 4) 0
/-- what the written part tells of InvalidInput, its __init__ at fI, that def's code object and class cell -/
structure InvC (K : Frag) (mg : Str → Option Value) (C fI cda cc : Addr) : Prop where
  gC : mg "InvalidInput" = some (.ref C)
  gS : mg "super" = none
  cls : ∃ nm q N bs bm sn sub ab col dd k0 k1 k2 k3 k5, K.lookup C = some (excClassObj nm q C N bs bm true sn sub ab col dd k0 k1 k2 k3 k5 "ValueError.__new__") ∧ refsVE bm = true
  sa : findIn K (.ref C) "__setattr__" = some (some (.builtin "object.__setattr__"))
  noF : findIn K (.ref C) "field" = some none
  iC : findIn K (.ref C) "__init__" = some (some (.ref fI))
  tI : typeIn K (.ref fI) = some (.type "function")
  kC : keepIn K (.ref C) = true
  exC : subIn K (.ref C) (.type "BaseException") = some true
  veC : subIn K (.ref C) (.type "ValueError") = some true
  tyC : typeIn K (.ref C) = some (.type "type")
  self : mroIn K C (.ref C) = some true
  sup : ks_superIn K C C "__init__" = some (some (.builtin "ValueError.__init__"))
  third : nsIn K cStatics "thirdparty.any" = some none
  fn : ∃ (oc : Value) (od : Option Addr) (doc pm : Value) (an : Option Addr) (ct : Value) (osl : Array (Option Value)),
    K.lookup fI = some ⟨oc, od, .func (ksFn "__init__" "InvalidInput.__init__" (L2.defArgs sII) (L2.defBody sII) (L2.defScope sII) .none .none doc pm an (.ref cda) ct cc), osl⟩ ∧ codeIn K (.ref cda) "InvalidInput.__init__" = true
  code : ∃ (ccl : Value) (cdd : Option Addr) (vs : Array Value) (ccs : Array (Option Value)) (file : Str) (tf : Tok), K.lookup cda = some ⟨ccl, cdd, .fields vs, ccs⟩ ∧ vs[2]? = some (.str file tf) ∧ (PR.main.file == file) = true
  cell : ∃ (cl : Value) (cld : Option Addr) (csl : Array (Option Value)), K.lookup cc = some ⟨cl, cld, .cell (some (.ref C)), csl⟩
/-- what __init__ leaves of a fresh exception at x -/
structure InvEnd (h h' : Heap) (x C : Addr) (v : Value) : Prop where
  keep : ∀ b o, b ≠ x → h.get? b = some o → h'.get? b = some o
  ex : ∃ dx t1, h'.get? x = some { cls := .ref C, dict := some dx, data := .fields #[.ref t1, .none, .none, .none, .bool false, .none] } ∧ h.objs.size ≤ dx ∧ dx ≠ x ∧ h'.Ns1 dx (fun y => if y = "field" then some v else none)
section
variable {prog : Program} {w : World} {A : Around} {E : Value → Shared → Prop} {R : Result → Shared → Prop} {s : Shared} {K : Frag} {mg mb : Str → Option Value} {C fI cda cc : Addr}
theorem tops_super : (PR.main.scope.names.lookup ("super" : Str)).isSome = false := by decide +kernel
theorem inv_call_bound {u e t0 : Addr} {rest : List Value} {Q : Value → Shared → Prop} {h : Heap} {g : Array GenState} {d : Drawn} {t : Nat} {os : OsState} {nm q : Str} {N : Addr} {bs bm : List Value} {sn : List Str} {sub : List Value} {ab : Bool} {col : Option Bool} {dd : Option Addr} {k0 k1 k2 k3 k5 : Option Value}
    (hC : h.get? C = some (excClassObj nm q C N bs bm true sn sub ab col dd k0 k1 k2 k3 k5 "ValueError.__new__")) (he : h.get? e = some (excO C t0)) (hu : h.get? u = some (kxs_mw "ValueError.__init__" e)) (hrest : rest.length ≤ sizeLine)
    (hq : ∀ h' t1, (∀ b o, b ≠ e → h.get? b = some o → h'.get? b = some o) → h'.get? e = some (excO C t1) → Q .none ⟨h', g, d, t, os⟩) :
    wpAny (model prog w) A (call (.ref u) rest) Q E ⟨h, g, d, t, os⟩ := by
  refine wpAny_call (codeAny_of_tree ?_)
  show wpAny _ A.in1 (callAny (.ref u) ⟨rest, []⟩) _ _ _
  simp only [callAny]
  refine wpAny_bind (wpAny_load hu ?_)
  simp only [kxs_mw, show (Value.type "method-wrapper" == Value.type "method" || Value.type "method-wrapper" == Value.type "builtin_function_or_method" || Value.type "method-wrapper" == Value.type "method-wrapper") = true by decide, if_true]
  refine KFB.if_so (by decide) ?_
  refine wpAny_bind (ESX.check_bound F.excBase_ValueError hC he rfl ?_)
  refine wpAny_bind (wpAny_pure (wpAny_pure ?_))
  refine ⟨Code.quiet_builtin _ (by decide +kernel), codeAny_builtin F.excBase_ValueError.initEntry ?_⟩
  rw [Around.under_plainId F.excBase_ValueError.init.plain _]
  wp_walk
  refine hq _ h.objs.size (fun b o hb ho => ?_) ?_
  · rw [Heap.get?_update_other _ _ (Ne.symm hb)]
    exact Heap.get?_push_of_some _ ho
  · rw [Heap.get?_update_self _ (Heap.get?_push_of_some _ he) rfl]
    rfl
abbrev iiEnv (L f : Addr) (cda cc : Addr) : Env := ksEnv "InvalidInput.__init__" (L2.defScope sII) L f (.ref cda) cc
/-- super().__init__(f'..'): all but the exception's own record is kept -/
theorem inv_super {x t0 L : Addr} {z : Str} {tz : Tok} {st : Stmt} {rest : List Stmt} (hst : L2.defBody sII = st :: rest) (T : InvC K mg C fI cda cc) (X : K.In s.heap) (G : s.heap.Ns mainGlobals mg) (B : s.heap.Ns builtinsNs mb) (hB : mb "super" = bootBuiltins "super")
    (hx : s.heap.get? x = some (excO C t0)) (hz : z.length ≤ 1000) (hns : s.heap.Ns L (fun y => ([("self", Value.ref x), ("field", Value.str z tz)] : List (Str × Value)).reverse.lookup y)) :
    _root_.PySem.wpAt (model PR w) A (.func (L2.defBody sII) (iiEnv L fI cda cc)) (exec st (iiEnv L fI cda cc)) (fun f s' => f = .next ∧ ∃ h' tk t1, s' = { s with heap := h', toks := tk } ∧ (∀ b o, b ≠ x → s.heap.get? b = some o → h'.get? b = some o) ∧ h'.get? x = some (excO C t1)) (fun _ _ => False) s := by
  obtain ⟨oc, od, doc, pm, an, ct, osl, ho, hcd⟩ := T.fn
  obtain ⟨nm, q, N, bs, bm, sn, sub, ab, col, dd, k0, k1, k2, k3, k5, hC, hbm⟩ := T.cls
  obtain ⟨ccl, cdd, vs, ccs, file, tf, hcode, hvs, hfile⟩ := T.code
  obtain ⟨cl, cld, csl, hcell⟩ := T.cell
  have hcl : clsIn K C = some { name := nm, bases := bs, mro := .ref C :: bm, ns := N, qualname := q, hasDict := true, slotNames := sn, subclasses := sub, abstract := ab, collection := col, hasDel := false } := by
    unfold clsIn
    rw [hC] <;> rfl
  have xC : x ≠ C := fun e => by
    have e1 := X _ _ hC
    rw [← e, hx] at e1
    cases e1
  have hst2 : L2.defBody sII = _ :: _ := rfl
  obtain ⟨rfl, -⟩ := List.cons.inj (hst2.symm.trans hst)
  refine ks_wpAt_Expr_any (ks_wpAt_MethodCall (ks_wpAt_super_base (env := iiEnv L fI cda cc) rfl rfl rfl rfl (X _ _ ho) rfl rfl rfl (X _ _ hcode) rfl hvs hfile tops_super ?_))
  refine ks_loadName_global rfl rfl (loadGlobal_builtin (env := iiEnv L fI cda cc) G T.gS B (hB.trans PyProof.Rows.Boot.«super») ⟨rfl, ?_⟩)
  refine wpAny_loadName_free rfl rfl rfl ⟨_, X _ _ hcell, rfl⟩ ?_
  refine wpAny_loadName_local rfl rfl hns (v := .ref x) rfl ?_
  refine ks_wpAny_isType_cls (X _ _ hC) rfl ⟨rfl, ?_⟩
  obtain ⟨hp, g, d, tk0, os⟩ := s
  refine ks_wpAny_call_super (X _ _ hC) rfl hx rfl (fun c e => by cases e) (looks_mroIn X T.self) (fun h₂ hso k₂ => ?_)
  have X₂ : K.In h₂ := X.keeps k₂
  have hsup := T.sup
  unfold ks_superIn at hsup
  rw [hcl] at hsup
  have I₂ : InstAt h₂ x (excO C t0) C none := ⟨k₂ _ _ hx, rfl, rfl, trivial⟩
  refine kxs_getMethod kxs_ValueError hso (looks_opaque X₂ T.third) (l₀ := .ref C :: bm) (fun A Q E s' kk qq => wpAny_bind ((looks_clsIn X₂ hcl) A _ E s' kk (wpAny_pure qq))) rfl X₂ hsup (I₂.type.andThen (looks_subIn X₂ T.veC)) xC (by decide +kernel) ?_
  have k₃ : ∀ b o, h₂.get? b = some o → (h₂.push (kxs_mw "ValueError.__init__" x)).get? b = some o := fun b o e => Heap.get?_push_of_some _ e
  have hu : (h₂.push (kxs_mw "ValueError.__init__" x)).get? h₂.objs.size = some (kxs_mw "ValueError.__init__" x) := Heap.get?_push_at rfl rfl
  refine kxs_callWith (i := "ValueError.__init__") (x := x) rfl (evalArgs_plain ?_)
  refine PySem.Calls.spliced_cons (PySem.wpAny_JoinedStr (pos := ⟨11, 25, 11, 52⟩) ?_)
  have hns₃ : (h₂.push (kxs_mw "ValueError.__init__" x)).Ns L (fun y => ([("self", Value.ref x), ("field", Value.str z tz)] : List (Str × Value)).reverse.lookup y) := (hns.keeps k₂).keeps k₃
  have z17 : (("invalid value of " : Str)).length = 17 := by decide +kernel
  have sl : sizeLine = 16777216 := sizeLine_eq
  have le1 : (Str.empty ++ ("invalid value of " : Str)).length ≤ sizeLine := by
    rw [Str.length_append, z17, sl]
    show 0 + 17 ≤ 16777216
    omega
  have le2 : (Str.empty ++ ("invalid value of " : Str) ++ z).length ≤ sizeLine := by
    rw [Str.length_append, Str.length_append, z17, sl]
    show 0 + 17 + z.length ≤ 16777216
    omega
  have zl : z.length ≤ sizeLine := by
    rw [sl]
    omega
  refine PySem.Calls.Constant_str ⟨_, _, rfl, le1, ?_⟩
  refine wpAny_FormattedValue_plain ?_
  refine wpAny_Name (wpAny_loadName_local rfl rfl hns₃ (v := .str z tz) rfl ?_) (by decide +kernel)
  have kk : ∀ b o, hp.get? b = some o → (h₂.push (kxs_mw "ValueError.__init__" x)).get? b = some o := fun b o e => k₃ b o (k₂ b o e)
  have tail : ∀ (tk : Nat) (tk2 : Tok), wpAny (model PR w) A (call (.ref h₂.objs.size) ([] ++ [Value.str (Str.empty ++ ("invalid value of " : Str) ++ z) tk2]) [])
      (fun _ s' => Flow.next = Flow.next ∧ ∃ h' tk t1, s' = ⟨h', g, d, tk, os⟩ ∧ (∀ b o, b ≠ x → hp.get? b = some o → h'.get? b = some o) ∧ h'.get? x = some (excO C t1)) (fun _ _ => False) ⟨h₂.push (kxs_mw "ValueError.__init__" x), g, d, tk, os⟩ := fun tk tk2 =>
    inv_call_bound (X₂.keeps k₃ _ _ hC) (k₃ _ _ (k₂ _ _ hx)) hu (by rw [sl]; show 1 ≤ 16777216; omega) fun h' t1 q1 q2 => ⟨rfl, h', tk, t1, rfl, fun b o hb e => q1 b o hb (kk b o e), q2⟩
  refine wpAny_formatField_str ⟨z, _, rfl, le2, le2, PySem.Calls.spliced_nil ⟨?_, ?_⟩⟩ ⟨z, _, rfl, le2, le2, PySem.Calls.spliced_nil ⟨?_, ?_⟩⟩ zl
  · exact hu
  · exact tail _ _
  · exact hu
  · exact tail _ _
theorem inv_init {x t0 : Addr} {z : Str} {tz : Tok} (T : InvC K mg C fI cda cc) (X : K.In s.heap) (G : s.heap.Ns mainGlobals mg) (B : s.heap.Ns builtinsNs mb) (hB : mb "super" = bootBuiltins "super") (hlim : s.heap.NoLimit) (hx : s.heap.get? x = some (excO C t0)) (hnx : K.lookup x = none) (hz : z.length ≤ 1000) (hroom : A.depth < recursionLimit)
    (hq : ∀ h' tk, InvEnd s.heap h' x C (.str z tz) → R (.ok (.ret .none)) { s with heap := h', toks := tk }) :
    codeAny (model PR w) A (.call (.ref fI) ⟨[.ref x, .str z tz], []⟩) R s := by
  obtain ⟨oc, od, doc, pm, an, ct, osl, ho, hcd⟩ := id T.fn
  obtain ⟨nm, q, N, bs, bm, sn, sub, ab, col, dd, k0, k1, k2, k3, k5, hC, hbm⟩ := id T.cls
  have hcl : clsIn K C = some { name := nm, bases := bs, mro := .ref C :: bm, ns := N, qualname := q, hasDict := true, slotNames := sn, subclasses := sub, abstract := ab, collection := col, hasDel := false } := by
    unfold clsIn
    rw [hC] <;> rfl
  refine ks_codeAny_call_defAt (fd := ksFn "__init__" "InvalidInput.__init__" (L2.defArgs sII) (L2.defBody sII) (L2.defScope sII) .none .none doc pm an (.ref cda) ct cc) (body := L2.defBody sII) (binds := [("self", .ref x), ("field", .str z tz)])
    hroom (X _ _ ho) rfl hlim (codeRec_of X hcd) rfl (BindsTo.of_eq (by first | rfl | with_unfolding_all rfl)) (show ∀ y ∈ (L2.defScope sII).names, y.2 ≠ NameKind.cell by decide +kernel) (fun y hy => ?_) (fun h₁ hns k => ?_)
  · rcases List.mem_cons.mp hy with e | hy
    · rw [e]
      show (L2.defScope sII).names.lookup ("self" : Str) = some NameKind.local
      decide +kernel
    · rw [List.mem_singleton.mp hy]
      show (L2.defScope sII).names.lookup ("field" : Str) = some NameKind.local
      decide +kernel
  show _root_.PySem.wpAt _ _ _ (execs (_ :: _) (iiEnv s.heap.objs.size fI cda cc)) _ _ _
  refine ks_wpAt_execs_cons (ks_wpAt_mono (inv_super (s := { s with heap := h₁, toks := s.toks + 2 }) rfl T (X.keeps k) (G.keeps k) (B.keeps k) hB (k _ _ hx) hz hns) (fun f s' hs => ?_) fun _ _ e => e.elim)
  obtain ⟨rfl, h₂, tk₂, t1, rfl, k₂, hx₂⟩ := hs
  have hxL : s.heap.objs.size ≠ x := Nat.ne_of_gt (Heap.lt_size hx)
  have X₂ : K.In h₂ := fun b o e => k₂ b o (fun z => by rw [z, hnx] at e; cases e) ((X.keeps k) b o e)
  have hns₂ : h₂.Ns s.heap.objs.size (fun y => ([("self", Value.ref x), ("field", Value.str z tz)] : List (Str × Value)).reverse.lookup y) := by
    obtain ⟨o, es, ep, ho', r⟩ := hns
    exact ⟨o, es, ep, k₂ _ o hxL ho', r⟩
  refine wpAt_of_wpAny ?_
  refine wpAny_execs_cons (plainObj_wpAny_Assign_Attribute ?_)
  refine wpAny_Name (wpAny_loadName_local rfl rfl hns₂ (v := .str z tz) rfl ?_) (by decide +kernel)
  refine wpAny_Name (wpAny_loadName_local rfl rfl hns₂ (v := .ref x) rfl ?_) (by decide +kernel)
  refine set_plain X₂ (ox := excO C t1) (od := none) ⟨hx₂, rfl, rfl, trivial⟩ T.sa ?_
  refine exc_osa X₂ hx₂ hcl (show refsVE (.ref C :: bm) = true from hbm) rfl T.noF (fun h₃ tk₃ dx k₃ dn dne hx₃ hn₃ => ?_)
  refine wpAny_execs_nil (hq h₃ tk₃ ⟨fun b o hb e => k₃ b o hb (k₂ b o hb (k b o e)), dx, t1, hx₃, ?_, dne, hn₃⟩)
  obtain ⟨oL, _, _, hoL, _⟩ := hns₂
  have z1 := Heap.lt_size hoL
  exact Nat.le_of_lt (Nat.lt_of_lt_of_le z1 dn)
end
end Cl
set_option Elab.async false
set_option linter.all false
set_option maxRecDepth 100000
set_option maxHeartbeats 4000000
/-! InvalidInput(field) raised. -/
namespace Cl
open PySem PySem.Spec PyProof.Rows L2
section
variable {X : Cx} {C fI cda cc : Addr}
/-- InvalidInput(e): a new exception; its own dict d holds the field -/
def tMkII (C : Addr) (ta : TA) : L2.St → Hp → XK → Prop := fun σ H Q => ta σ H fun vs H1 => ∃ z : Str, vs = [.str z] ∧ z.length ≤ 1000 ∧ ∀ d, H1 d = none → Q (.ref C) (some d) (upd H1 d (.xd [(("field" : Str), .str z)]))
theorem fresh_K {pins : List (Addr × Obj)} {σ : L2.St} {H : Hp} {s : Shared} (I : Inv X pins σ H s) {b : Addr} (h : s.heap.objs.size ≤ b) : X.K.lookup b = none := by
  cases e : X.K.lookup b with
  | none => rfl
  | some o =>
    have q : s.heap.get? b = some o := I.kIn b o e
    exact absurd (Nat.lt_of_lt_of_le (Heap.lt_size q) h) (Nat.lt_irrefl _)
theorem relO_field {z : Str} {tz : Tok} (f : Str) : RelO (List.lookup f [(("field" : Str), V.str z)]) (if f = "field" then some (Value.str z tz) else none) := by
  by_cases h : f = "field"
  · subst h
    rw [if_pos rfl, List.lookup_cons, beq_self_eq_true]
    exact ⟨tz, rfl⟩
  · rw [if_neg h]
    have e : (f == ("field" : Str)) = false := beq_eq_false_iff_ne.mpr h
    rw [List.lookup_cons, e]
    trivial
theorem pmk_ii {e : Expr} {es : List Expr} {ta : TA} {p pos : Pos} {k : Nat} (hP : X.prog = PR) (T : InvC X.K X.mg C fI cda cc) (hr : Room (k + 1) X.A) (ha : PA X (e :: es) ta) (hg : Gl X "InvalidInput" := by rfl)
    (he : starEach (e :: es) X.env = (false, eval e X.env) :: starEach es X.env := by rfl) (hpl : (backTo pos (starEach es X.env)).any (·.1) = false := by rfl) :
    PMk X (.Call (.Name "InvalidInput" p) (e :: es) [] pos) (tMkII C ta) := by
  intro pins s σ H Q I h
  refine wpAny_Call_Name_kw (ld_glob I hg T.gC ?_)
  refine PySem.W.callWith_K (h₀ := X.base) I.ok.mod.kin T.kC (thn (ha.run pos pins s σ H _ I h) fun us s1 hh => ?_) he hpl
  obtain ⟨vs, H1, I1, r1, z, rfl, hz, q1⟩ := hh
  obtain ⟨u, rfl, ru⟩ := vals1 r1
  obtain ⟨tz, rfl⟩ := ru
  refine ⟨I1.kIn, ?_⟩
  show wpAny _ _ (call (.ref C) [.str z tz]) _ _ _
  have hlim := I1.nolimit
  have hG : s1.heap.Ns mainGlobals X.mg := I1.mod.glob.keeps I1.bk
  obtain ⟨mb, hB0, hB1⟩ := I1.mod.blt
  have hB : s1.heap.Ns builtinsNs mb := hB0.keeps I1.bk
  have hKx : X.K.lookup (s1.heap.objs.size + 1) = none := fresh_K I1 (Nat.le_succ _)
  have dp := hr.dp
  obtain ⟨hp, g, dr, tk, os⟩ := s1
  have kk : ∀ b o, hp.get? b = some o → ((hp.push (PySem.W.kdv_tup [Value.str z tz])).push (PySem.HandSPX.excO C hp.objs.size)).get? b = some o := fun b o e => Heap.get?_push_of_some _ (Heap.get?_push_of_some _ e)
  have hget : ((hp.push (PySem.W.kdv_tup [Value.str z tz])).push (PySem.HandSPX.excO C hp.objs.size)).get? (hp.objs.size + 1) = some (PySem.HandSPX.excO C hp.objs.size) := by heap_get
  obtain ⟨nm, qn, N, bs, bm, sn, sub, ab, col, dd, k0, k1, k2, k3, k5, hC, hbm⟩ := T.cls
  have one : [Value.str z tz].length ≤ sizeLine := by
    rw [sizeLine_eq]
    show 1 ≤ 16777216
    omega
  refine wpAny_call (PySem.HandSPX.call_own F.excBase_ValueError (fun Y => PySem.HandSPX.refsVE_contains Y bm hbm) (I1.kIn _ _ hC) (PySem.W.looks_findIn I1.kIn T.iC) (fun self => PySem.W.bind_fn I1.kIn self T.tI) one ?_)
  rw [hP]
  refine inv_init (s := ⟨(hp.push (PySem.W.kdv_tup [Value.str z tz])).push (PySem.HandSPX.excO C hp.objs.size), g, dr, tk, os⟩) T (I1.kIn.keeps kk) (hG.keeps kk) (hB.keeps kk) (hB1 "super" (by decide +kernel)) (hlim.keeps kk) hget hKx hz ?_ fun h' tk' M => ?_
  · show (X.A.under _).depth < recursionLimit
    rw [make_depth]
    omega
  · refine ⟨rfl, ?_⟩
    show MkP X pins σ Q (.ref (hp.objs.size + 1)) ⟨h', g, dr, tk', os⟩
    obtain ⟨dx, t1, hx, dn, dne, hns⟩ := M.ex
    obtain ⟨G', g1, g2⟩ := restrict h' fun b => decide (b ≠ hp.objs.size + 1)
    have gk : ∀ b, b ≠ hp.objs.size + 1 → G'.get? b = h'.get? b := fun b hb => g1 b (decide_eq_true hb)
    have ge : G'.get? (hp.objs.size + 1) = none := g2 _ (by simp)
    have ne1 : ∀ {b o}, hp.get? b = some o → b ≠ hp.objs.size + 1 := fun {b o} q => Nat.ne_of_lt (Nat.lt_succ_of_lt (Heap.lt_size q))
    have old : ∀ b o, hp.get? b = some o → G'.get? b = some o := fun b o q => (gk b (ne1 q)).trans (M.keep b o (ne1 q) (kk b o q))
    have dbig : hp.objs.size ≤ dx := by
      have z1 : hp.objs.size + 1 + 1 ≤ dx := by
        first
          | exact dn
          | (simpa only [Heap.size_push] using dn)
      omega
    have ob : ObjOk X.prog X.w (upd H1 dx (.xd [(("field" : Str), .str z)])) G' dx (.xd [(("field" : Str), .str z)]) :=
      ⟨_, hns.at (fun o q => (gk dx dne).trans q), fun f => relO_field f⟩
    have J : Inv X pins σ (upd H1 dx (.xd [(("field" : Str), .str z)])) ⟨G', g, dr, tk', os⟩ := I1.laid (t' := tk') old dbig ob
    refine ⟨hp.objs.size + 1, _, _, ⟨G', g, dr, tk', os⟩, _, .ref C, some dx, rfl, J, fun b o q => ?_, ge, hx, ⟨rfl, rfl⟩, rfl, rfl, ?_, rfl, I1.bare, raises_own T.exC T.tyC, q1 dx (I1.hok.fresh dbig)⟩
    · by_cases hb : b = hp.objs.size + 1
      · have q' : G'.get? b = some o := q
        rw [hb, ge] at q'
        cases q'
      · exact (gk b hb).symm.trans q
    · rw [upd_ne (Ne.symm dne)]
      exact I1.hok.fresh (Nat.le_succ _)
/-- raise InvalidInput(e) -/
def tRaiseII (C : Addr) (W : WX) (ta : TA) : TS := fun _ σ H => tMkII C ta σ H fun cls d H' => W cls d σ H'
theorem ps_raiseII {e : Expr} {es : List Expr} {ta : TA} {W : WX} {p pos pos2 : Pos} {k : Nat} (hP : X.prog = PR) (hc : X.calm = true) (T : InvC X.K X.mg C fI cda cc) (hr : Room (k + 1) X.A) (tk : Takes X W) (ha : PA X (e :: es) ta) (hg : Gl X "InvalidInput" := by rfl)
    (he : starEach (e :: es) X.env = (false, eval e X.env) :: starEach es X.env := by rfl) (hpl : (backTo pos (starEach es X.env)).any (·.1) = false := by rfl) :
    PS X (.Raise (some (.Call (.Name "InvalidInput" p) (e :: es) [] pos)) none pos2) (tRaiseII C W ta) := ps_raise hc tk (pmk_ii hP T hr ha hg he hpl)
end
end Cl
set_option Elab.async false
set_option linter.all false
set_option maxRecDepth 100000
set_option maxHeartbeats 4000000
/-! What the top leaves (Fx), a def that keeps its promise (Dd, Dk, De), its call. -/
namespace Cl
open PySem PySem.Spec PyProof.Rows L2
structure Ctx where
  w : World
  K : PySem.W.Frag
  mg : Str → Option Value
  base : Heap
  C : Addr
  CI : Addr
  fI : Addr
  cda : Addr
  cc : Addr
  mc : Value
  fR : Addr
abbrev CR (c : Ctx) : CXT := L2.CX PR c.w
/-- a def of the module as it stands -/
structure Df (c : Ctx) (x : Str) (st : Stmt) (dvs : List V) (kws : List (Str × V)) : Prop where
  ex : ∃ f fd, FunD c.K x x (defArgs st) (defBody st) (defScope st) dvs kws f fd ∧ c.mg x = some (.ref f)
/-- a method of Round -/
structure Dm (c : Ctx) (m q : Str) (st : Stmt) : Prop where
  ex : ∃ f fd, FunD c.K m q (defArgs st) (defBody st) (defScope st) [] [] f fd ∧ Meth c.K c.C m f
/-- a def that keeps sp, called with the defaults dvs -/
structure Dd (c : Ctx) (k : Nat) (x : Str) (ps : List Str) (dvs : List V) (sp : Sp) : Prop where
  ex : ∃ f fd ds, FnOk PR c.w c.K c.mg c.base (CR c) k f fd ps sp ∧ c.mg x = some (.ref f) ∧ PySem.W.keepIn c.K (.ref f) = true ∧ Vals dvs ds ∧ Binds c.K fd ps ds
/-- .. called with keywords -/
structure Dk (c : Ctx) (k : Nat) (x : Str) (ps : List Str) (n : Nat) (ks : List Str) (gV : List V → List V → List V) (sp : Sp) : Prop where
  ex : ∃ f fd g, FnOk PR c.w c.K c.mg c.base (CR c) k f fd ps sp ∧ c.mg x = some (.ref f) ∧ PySem.W.keepIn c.K (.ref f) = true ∧ KBn c.K fd ps n ks g gV
/-- a method that keeps sp -/
structure De (c : Ctx) (k : Nat) (m : Str) (ps : List Str) (sp : Sp) : Prop where
  ex : ∃ f fd, FnOk PR c.w c.K c.mg c.base (CR c) k f fd ps sp ∧ Meth c.K c.C m f ∧ Binds c.K fd ps []
/-- the context of a body -/
structure Fits (X : Cx) (c : Ctx) : Prop where
  p : X.prog = PR
  w : X.w = c.w
  K : X.K = c.K
  g : X.mg = c.mg
  b : X.base = c.base
theorem Fits.fn {X : Cx} {c : Ctx} (F : Fits X c) {k : Nat} {f : Addr} {fd : FuncData} {ps : List Str} {sp : Sp} (h : FnOk PR c.w c.K c.mg c.base (CR c) k f fd ps sp) : FnOk X.prog X.w X.K X.mg X.base (L2.CX X.prog X.w) k f fd ps sp := by
  rw [F.p, F.w, F.K, F.g, F.b]
  exact h
section
variable {X : Cx} {c : Ctx} {k n : Nat} {x m : Str} {ps ks : List Str} {dvs : List V} {gV : List V → List V → List V} {sp : Sp} {E : XK} {p pos apos : Pos} {e o : Expr} {es : List Expr} {kws : List Keyword} {t tk : TA} {ta : TE}
theorem pcD (D : Dd c k x ps dvs sp) (F : Fits X c) (hr : Room k X.A) (hg : Gl X x) (hx : Passes (L2.CX X.prog X.w) X E) (ha : PA X (e :: es) t) (hdb : (x == ("__debug__" : Str)) = false := by decide)
    (he : starEach (e :: es) X.env = (false, eval e X.env) :: starEach es X.env := by rfl) (hpl : (backTo pos (starEach es X.env)).any (·.1) = false := by rfl) :
    PE X (.Call (.Name x p) (e :: es) [] pos) (tCall sp dvs E t) := by
  obtain ⟨f, fd, ds, G, hm, hk, hv, hb⟩ := D.ex
  exact pe_call (F.fn G) hr hg (by rw [F.g]; exact hm) (by rw [F.K]; exact hk) (by rw [F.K]; exact hb) hv hx ha hdb he hpl
theorem pcK (D : Dk c k x ps n ks gV sp) (F : Fits X c) (hr : Room k X.A) (hg : Gl X x) (hx : Passes (L2.CX X.prog X.w) X E) (ha : PA X (e :: es) t) (hkw : PK X kws tk)
    (hall : (backToKw pos (keywordEach kws X.env)).all (·.1.isSome) = true := by rfl) (hks : (backToKw pos (keywordEach kws X.env)).filterMap (·.1) = ks := by rfl)
    (hdb : (x == ("__debug__" : Str)) = false := by decide) (he : starEach (e :: es) X.env = (false, eval e X.env) :: starEach es X.env := by rfl)
    (hpl : ((backTo pos (starEach (e :: es) X.env)).any (·.1) || (backToKw pos (keywordEach kws X.env)).any (·.1.isNone)) = false := by rfl) :
    PE X (.Call (.Name x p) (e :: es) kws pos) (tCallN n ks.length sp gV E t tk) := by
  obtain ⟨f, fd, g, G, hm, hk, hb⟩ := D.ex
  exact pe_callN (F.fn G) hr hg (by rw [F.g]; exact hm) (by rw [F.K]; exact hk) (by rw [F.K]; exact hb) hx ha hkw hall hks hdb he hpl
theorem pcM {pl : Sem Bool} (D : De c k m ps sp) (cl : Cls c.K c.C) (F : Fits X c) (hr : Room k X.A) (hx : Passes (L2.CX X.prog X.w) X E) (he : PE X o ta) (ha : PA X (e :: es) t)
    (hst : starEach (e :: es) X.env = (false, eval e X.env) :: starEach es X.env := by rfl) (hpl : (backTo pos (starEach es X.env)).any (·.1) = false := by rfl)
    (ht : eval (.Call (.Attribute o m apos) (e :: es) [] pos) X.env = (do
      let ov ← eval o X.env
      standAt apos.atName
      let (f, first) ← holding [ov] (getMethod ov m pl)
      callWith pos f first (backTo pos (starEach (e :: es) X.env)) (backToKw pos (keywordEach [] X.env))) := by rfl) :
    PE X (.Call (.Attribute o m apos) (e :: es) [] pos) (tMeth c.C m sp [] E ta t) := by
  obtain ⟨f, fd, G, hm, hb⟩ := D.ex
  exact pe_meth he (by rw [F.K]; exact cl) (by rw [F.K]; exact hm) (F.fn G) hr (by rw [F.K]; exact hb) .nil hx ha hst hpl ht
/-- len(o) of a Round -/
theorem pcLen (D : De c k "__len__" ps sp) (F : Fits X c) (hr : Room (k + 1) X.A) : CallR X (.builtin "len") (rLenI c.C sp) := by
  obtain ⟨f, fd, G, hm, hb⟩ := D.ex
  exact call_lenI (by rw [F.K]; exact hm.at_) (by rw [F.K]; exact hm.fn) (F.fn G) hr (by rw [F.K]; exact hb) passL
theorem pcAdd (D : De c k "__add__" ps sp) (F : Fits X c) (hsf : PySem.W.selfFirst c.K c.C = true) (hr : Room k X.A) : OpR X (binaryOp .Add) (rAddI c.C sp) := by
  obtain ⟨f, fd, G, hm, hb⟩ := D.ex
  exact op_addI (by rw [F.K]; exact hsf) (by rw [F.K]; exact hm.at_) (by rw [F.K]; exact hm.fn) (F.fn G) hr (by rw [F.K]; exact hb) passL
end
section
variable {c : Ctx} {x m q : Str} {st : Stmt} {N ps : List Str} {k : Nat} {sp : Sp} {dvs : List V} {kws : List (Str × V)}
abbrev bodyCx (c : Ctx) (N : List Str) (q : Str) (st : Stmt) (f : Addr) (cdv : Value) (A : Around) (outer : List Env) (s : Shared) (H : Hp) (E : XK) : Cx := cxOf (CR c) PR c.w c.K c.mg c.base N q (defScope st) f cdv A outer s H E
theorem fits_body {f : Addr} {cdv : Value} {A : Around} {outer : List Env} {s : Shared} {H : Hp} {E : XK} : Fits (bodyCx c N q st f cdv A outer s H E) c := ⟨rfl, rfl, rfl, rfl, rfl⟩
theorem fits_nox {f : Addr} {cdv : Value} {A : Around} {outer : List Env} {s : Shared} {H : Hp} {E : XK} : Fits (bodyCx c N q st f cdv A outer s H E).nox c := ⟨rfl, rfl, rfl, rfl, rfl⟩
/-- a def of which nothing leaves but its value -/
theorem Df.ok {f : Addr} {fd : FuncData} (F : FunD c.K x q (defArgs st) (defBody st) (defScope st) dvs kws f fd) (S : FnScope N ps (defScope st)) (len : ∀ vs H Q E, sp vs H Q E → vs.length = ps.length)
    (hbody : ∀ (f : Addr) (cdv : Value) (A : Around) (outer : List Env) (s : Shared) (H : Hp) (vs : List V) (Q : VK) (E : XK), Room k (A.deeper (envOfC q (defScope st) s.heap.objs.size f cdv)) → sp vs H Q E →
      ∃ t, PSs (bodyCx c N q st f cdv A outer s H E).nox (defBody st) t ∧ t { nx := fun _ H' => Q .non H', rt := Q } (start N vs) H) : FnOk PR c.w c.K c.mg c.base (CR c) (k + 1) f fd ps sp :=
  F.ok S len fun cdv A outer s H vs Q E hr h => by
    obtain ⟨t, h1, h2⟩ := hbody f cdv A outer s H vs Q E hr h
    exact ⟨t, PSs.nox h1, h2⟩
theorem Df.okX {f : Addr} {fd : FuncData} (F : FunD c.K x q (defArgs st) (defBody st) (defScope st) dvs kws f fd) (S : FnScope N ps (defScope st)) (len : ∀ vs H Q E, sp vs H Q E → vs.length = ps.length)
    (hbody : ∀ (f : Addr) (cdv : Value) (A : Around) (outer : List Env) (s : Shared) (H : Hp) (vs : List V) (Q : VK) (E : XK), Room k (A.deeper (envOfC q (defScope st) s.heap.objs.size f cdv)) → sp vs H Q E →
      ∃ t, PSs (bodyCx c N q st f cdv A outer s H E) (defBody st) t ∧ t { nx := fun _ H' => Q .non H', rt := Q } (start N vs) H) : FnOk PR c.w c.K c.mg c.base (CR c) (k + 1) f fd ps sp :=
  F.ok S len fun cdv A outer s H vs Q E hr h => hbody f cdv A outer s H vs Q E hr h
theorem Dd.mono {j : Nat} (D : Dd c j x ps dvs sp) (h : j ≤ k) : Dd c k x ps dvs sp := by
  obtain ⟨f, fd, ds, G, hm, hk, hv, hb⟩ := D.ex
  exact ⟨f, fd, ds, G.mono h, hm, hk, hv, hb⟩
/-- no defaults -/
theorem Dd.of (D : Df c x st [] kws) (ok : ∀ f fd, FunD c.K x x (defArgs st) (defBody st) (defScope st) [] kws f fd → FnOk PR c.w c.K c.mg c.base (CR c) k f fd ps sp)
    (h : ∀ (kV doc pm : Value) (an : Option Addr) (cdv ct : Value) (us : List Value), us.length = ps.length → bindArgs (PySem.W.fnOf x x (defArgs st) (defBody st) (defScope st) .none kV doc pm an cdv ct) ⟨us, []⟩ = pure (ps.zip us)) : Dd c k x ps [] sp := by
  obtain ⟨f, fd, F, hm⟩ := D.ex
  exact ⟨f, fd, [], ok f fd F, hm, F.kp, .nil, F.bindsN h⟩
theorem De.of (D : Dm c m q st) (ok : ∀ f fd, FunD c.K m q (defArgs st) (defBody st) (defScope st) [] [] f fd → FnOk PR c.w c.K c.mg c.base (CR c) k f fd ps sp)
    (h : ∀ (kV doc pm : Value) (an : Option Addr) (cdv ct : Value) (us : List Value), us.length = ps.length → bindArgs (PySem.W.fnOf m q (defArgs st) (defBody st) (defScope st) .none kV doc pm an cdv ct) ⟨us, []⟩ = pure (ps.zip us)) : De c k m ps sp := by
  obtain ⟨f, fd, F, hm⟩ := D.ex
  exact ⟨f, fd, ok f fd F, hm, F.bindsN h⟩
end
/-! ### values -/
abbrev natV (n : Nat) : V := .int (n : Int)
def tx (w : List Bool) : Str := ⟨(w.map fun b => if b then 49 else 48).toArray⟩
theorem Same.seqT {K : PySem.W.Frag} {H H' : Hp} {a : Addr} {xs : List V} (e : Same H H') (h : SqT K H a xs) : SqT K H' a xs := by
  rcases h with (h | ⟨o, h⟩) | h
  · exact .inl (.inl (e _ _ h))
  · exact .inl (.inr ⟨o, e _ _ h⟩)
  · exact .inr h
theorem Same.upd {H H' : Hp} {p : Addr} {o : HO} (e : Same H H') (h : H p = none) : Same H (upd H' p o) := fun b u q => by
  rw [upd_ne (ne_of_none q h)]
  exact e b u q
theorem Same.new {H : Hp} {p : Addr} {o : HO} (h : H p = none) : Same H (L2.upd H p o) := fun b u q => by
  rw [upd_ne (ne_of_none q h)]
  exact q
/-- a Round of the budgets bs at a -/
def Rd (c : Ctx) (H : Hp) (a : Addr) (bs : List Nat) : Prop := (0 < bs.length ∧ bs.length ≤ 12) ∧ ∃ dx T, H a = some (.ins c.C dx [("_budgets", .ref T)]) ∧ SqT c.K H T (bs.map natV)
theorem Rd.same {c : Ctx} {H H' : Hp} {a : Addr} {bs : List Nat} (h : Rd c H a bs) (e : Same H H') : Rd c H' a bs := by
  obtain ⟨h1, dx, T, h2, h3⟩ := h
  exact ⟨h1, dx, T, e _ _ h2, Same.seqT e h3⟩
end Cl
set_option Elab.async false
set_option linter.all false
set_option maxRecDepth 100000
set_option maxHeartbeats 4000000
/-! The defs' texts, their slots; what the top leaves (Fx). -/
namespace Cl
open PySem PySem.Spec PyProof.Rows L2
/-- what isinstance of a Round asks -/
structure IsiR (c : Ctx) : Prop where
  ha : PySem.W.findIn c.K (.ref c.C) "__class__" = some (some (.builtin "object.__class__"))
  hn : PySem.W.specialIn c.K (.builtin "object.__class__") "__get__" = some (some (.builtin "getset_descriptor.__get__"))
  htk : PySem.W.takesIn c.K (.builtin "object.__class__") = some true
  hm : PySem.W.mroIn c.K c.C (.type "object") = some true
abbrev st_at_least : Stmt := top 6
abbrev N_at_least : List Str := ["value", "least", "field"]
theorem sc_at_least : FnScope N_at_least ["value", "least", "field"] (defScope st_at_least) := ⟨rfl, rfl, rfl, by decide +kernel, rfl, by decide +kernel, by decide +kernel⟩
abbrev st_at_most : Stmt := top 7
abbrev N_at_most : List Str := ["value", "most", "field"]
theorem sc_at_most : FnScope N_at_most ["value", "most", "field"] (defScope st_at_most) := ⟨rfl, rfl, rfl, by decide +kernel, rfl, by decide +kernel, by decide +kernel⟩
abbrev st_whole_number : Stmt := top 8
abbrev N_whole_number : List Str := ["value", "field"]
theorem sc_whole_number : FnScope N_whole_number ["value", "field"] (defScope st_whole_number) := ⟨rfl, rfl, rfl, by decide +kernel, rfl, by decide +kernel, by decide +kernel⟩
abbrev st_good_word : Stmt := top 9
abbrev N_good_word : List Str := ["word", "field"]
theorem sc_good_word : FnScope N_good_word ["word", "field"] (defScope st_good_word) := ⟨rfl, rfl, rfl, by decide +kernel, rfl, by decide +kernel, by decide +kernel⟩
abbrev st_normal : Stmt := top 11
abbrev N_normal : List Str := ["text"]
theorem sc_normal : FnScope N_normal ["text"] (defScope st_normal) := ⟨rfl, rfl, rfl, by decide +kernel, rfl, by decide +kernel, by decide +kernel⟩
abbrev st_living : Stmt := top 12
abbrev N_living : List Str := ["word"]
theorem sc_living : FnScope N_living ["word"] (defScope st_living) := ⟨rfl, rfl, rfl, by decide +kernel, rfl, by decide +kernel, by decide +kernel⟩
abbrev st_depths : Stmt := top 13
abbrev N_depths : List Str := ["word"]
theorem sc_depths : FnScope N_depths ["word"] (defScope st_depths) := ⟨rfl, rfl, rfl, by decide +kernel, rfl, by decide +kernel, by decide +kernel⟩
abbrev st__trimmed : Stmt := top 14
abbrev N__trimmed : List Str := ["text"]
theorem sc__trimmed : FnScope N__trimmed ["text"] (defScope st__trimmed) := ⟨rfl, rfl, rfl, by decide +kernel, rfl, by decide +kernel, by decide +kernel⟩
abbrev st__ones : Stmt := top 15
abbrev N__ones : List Str := ["word"]
theorem sc__ones : FnScope N__ones ["word"] (defScope st__ones) := ⟨rfl, rfl, rfl, by decide +kernel, rfl, by decide +kernel, by decide +kernel⟩
abbrev st__depth_list : Stmt := top 16
abbrev N__depth_list : List Str := ["word", "place", "mark"]
theorem sc__depth_list : FnScope N__depth_list ["word"] (defScope st__depth_list) := ⟨rfl, rfl, rfl, by decide +kernel, rfl, by decide +kernel, by decide +kernel⟩
abbrev st_check_standing : Stmt := top 18
abbrev N_check_standing : List Str := ["word", "places", "limit", "phase", "most"]
theorem sc_check_standing : FnScope N_check_standing ["word", "places", "limit", "phase", "most"] (defScope st_check_standing) := ⟨rfl, rfl, rfl, by decide +kernel, rfl, by decide +kernel, by decide +kernel⟩
abbrev st_counted_places : Stmt := top 19
abbrev N_counted_places : List Str := ["places", "late"]
theorem sc_counted_places : FnScope N_counted_places ["places", "late"] (defScope st_counted_places) := ⟨rfl, rfl, rfl, by decide +kernel, rfl, by decide +kernel, by decide +kernel⟩
abbrev st_blocked_now : Stmt := top 20
abbrev N_blocked_now : List Str := ["t", "spots", "counted", "limit", "budgets", "phase", "carried"]
theorem sc_blocked_now : FnScope N_blocked_now ["t", "spots", "counted", "limit", "budgets", "phase"] (defScope st_blocked_now) := ⟨rfl, rfl, rfl, by decide +kernel, rfl, by decide +kernel, by decide +kernel⟩
abbrev st_short_now : Stmt := top 21
abbrev N_short_now : List Str := ["t", "ones", "counted", "limit", "budgets", "phase", "window"]
theorem sc_short_now : FnScope N_short_now ["t", "ones", "counted", "limit", "budgets", "phase"] (defScope st_short_now) := ⟨rfl, rfl, rfl, by decide +kernel, rfl, by decide +kernel, by decide +kernel⟩
abbrev st_blocked_at : Stmt := top 22
abbrev N_blocked_at : List Str := ["word", "places", "limit", "budgets", "phase", "late", "counted", "spots", "t"]
theorem sc_blocked_at : FnScope N_blocked_at ["word", "places", "limit", "budgets", "phase", "late"] (defScope st_blocked_at) := ⟨rfl, rfl, rfl, by decide +kernel, rfl, by decide +kernel, by decide +kernel⟩
abbrev st_short_at : Stmt := top 23
abbrev N_short_at : List Str := ["word", "places", "limit", "budgets", "phase", "late", "counted", "ones", "first", "t"]
theorem sc_short_at : FnScope N_short_at ["word", "places", "limit", "budgets", "phase", "late"] (defScope st_short_at) := ⟨rfl, rfl, rfl, by decide +kernel, rfl, by decide +kernel, by decide +kernel⟩
abbrev st_critical_put : Stmt := top 24
abbrev N_critical_put : List Str := ["word", "places", "limit", "budgets", "phase", "late", "blocked", "short"]
theorem sc_critical_put : FnScope N_critical_put ["word", "places", "limit", "budgets", "phase", "late"] (defScope st_critical_put) := ⟨rfl, rfl, rfl, by decide +kernel, rfl, by decide +kernel, by decide +kernel⟩
abbrev st_life : Stmt := top 25
abbrev N_life : List Str := ["word", "places", "limit", "budgets", "phase", "late", "critical"]
theorem sc_life : FnScope N_life ["word", "places", "limit", "budgets", "phase", "late"] (defScope st_life) := ⟨rfl, rfl, rfl, by decide +kernel, rfl, by decide +kernel, by decide +kernel⟩
abbrev st_safe : Stmt := top 26
abbrev N_safe : List Str := ["word", "places", "limit", "budgets", "phase", "late"]
theorem sc_safe : FnScope N_safe ["word", "places", "limit", "budgets", "phase", "late"] (defScope st_safe) := ⟨rfl, rfl, rfl, by decide +kernel, rfl, by decide +kernel, by decide +kernel⟩
abbrev st_R_init : Stmt := inClass (top 28) 1
abbrev N_R_init : List Str := ["self", "budgets", "budget"]
theorem sc_R_init : FnScope N_R_init ["self", "budgets"] (defScope st_R_init) := ⟨rfl, rfl, rfl, by decide +kernel, rfl, by decide +kernel, by decide +kernel⟩
abbrev st_R_len : Stmt := inClass (top 28) 4
abbrev N_R_len : List Str := ["self"]
theorem sc_R_len : FnScope N_R_len ["self"] (defScope st_R_len) := ⟨rfl, rfl, rfl, by decide +kernel, rfl, by decide +kernel, by decide +kernel⟩
abbrev st_R_add : Stmt := inClass (top 28) 6
abbrev N_R_add : List Str := ["self", "other", "joined"]
theorem sc_R_add : FnScope N_R_add ["self", "other"] (defScope st_R_add) := ⟨rfl, rfl, rfl, by decide +kernel, rfl, by decide +kernel, by decide +kernel⟩
abbrev st_R_total : Stmt := inClass (top 28) 9
abbrev N_R_total : List Str := ["self", "start", "count"]
theorem sc_R_total : FnScope N_R_total ["self", "start", "count"] (defScope st_R_total) := ⟨rfl, rfl, rfl, by decide +kernel, rfl, by decide +kernel, by decide +kernel⟩
abbrev st_R_least : Stmt := inClass (top 28) 10
abbrev N_R_least : List Str := ["self", "count"]
theorem sc_R_least : FnScope N_R_least ["self", "count"] (defScope st_R_least) := ⟨rfl, rfl, rfl, by decide +kernel, rfl, by decide +kernel, by decide +kernel⟩
abbrev st_R__window : Stmt := inClass (top 28) 13
abbrev N_R__window : List Str := ["self", "start", "count", "turns", "rest", "first", "twice"]
theorem sc_R__window : FnScope N_R__window ["self", "start", "count"] (defScope st_R__window) := ⟨rfl, rfl, rfl, by decide +kernel, rfl, by decide +kernel, by decide +kernel⟩
abbrev st_R__windows : Stmt := inClass (top 28) 14
abbrev N_R__windows : List Str := ["self", "count", "start"]
theorem sc_R__windows : FnScope N_R__windows ["self", "count"] (defScope st_R__windows) := ⟨rfl, rfl, rfl, by decide +kernel, rfl, by decide +kernel, by decide +kernel⟩
abbrev st_effective : Stmt := top 30
abbrev N_effective : List Str := ["places", "limit", "late", "tears", "readers"]
theorem sc_effective : FnScope N_effective ["places", "limit", "late", "tears", "readers"] (defScope st_effective) := ⟨rfl, rfl, rfl, by decide +kernel, rfl, by decide +kernel, by decide +kernel⟩
abbrev st_ring_goes_on : Stmt := top 31
abbrev N_ring_goes_on : List Str := ["places", "limit", "budgets", "late", "tears", "readers", "room", "needed"]
theorem sc_ring_goes_on : FnScope N_ring_goes_on ["places", "limit", "budgets", "late", "tears", "readers"] (defScope st_ring_goes_on) := ⟨rfl, rfl, rfl, by decide +kernel, rfl, by decide +kernel, by decide +kernel⟩
abbrev st__check_order : Stmt := top 32
abbrev N__check_order : List Str := ["late", "tears", "readers"]
theorem sc__check_order : FnScope N__check_order ["late", "tears", "readers"] (defScope st__check_order) := ⟨rfl, rfl, rfl, by decide +kernel, rfl, by decide +kernel, by decide +kernel⟩
abbrev st__lost_places : Stmt := top 33
abbrev N__lost_places : List Str := ["late", "tears"]
theorem sc__lost_places : FnScope N__lost_places ["late", "tears"] (defScope st__lost_places) := ⟨rfl, rfl, rfl, by decide +kernel, rfl, by decide +kernel, by decide +kernel⟩
abbrev st_check_counting : Stmt := top 35
abbrev N_check_counting : List Str := ["places", "limit", "phase", "count"]
theorem sc_check_counting : FnScope N_check_counting ["places", "limit", "phase", "count"] (defScope st_check_counting) := ⟨rfl, rfl, rfl, by decide +kernel, rfl, by decide +kernel, by decide +kernel⟩
abbrev st_count_words : Stmt := top 36
abbrev N_count_words : List Str := ["places", "count"]
theorem sc_count_words : FnScope N_count_words ["places", "count"] (defScope st_count_words) := ⟨rfl, rfl, rfl, by decide +kernel, rfl, by decide +kernel, by decide +kernel⟩
abbrev st_depth_caps : Stmt := top 37
abbrev N_depth_caps : List Str := ["counted", "limit", "budgets", "phase", "count", "caps", "t", "carried"]
theorem sc_depth_caps : FnScope N_depth_caps ["counted", "limit", "budgets", "phase", "count"] (defScope st_depth_caps) := ⟨rfl, rfl, rfl, by decide +kernel, rfl, by decide +kernel, by decide +kernel⟩
abbrev st_count_safe : Stmt := top 38
abbrev N_count_safe : List Str := ["places", "limit", "budgets", "phase", "count", "late", "counted", "totals", "cap", "summed", "depth", "lists"]
theorem sc_count_safe : FnScope N_count_safe ["places", "limit", "budgets", "phase", "count", "late"] (defScope st_count_safe) := ⟨rfl, rfl, rfl, by decide +kernel, rfl, by decide +kernel, by decide +kernel⟩
abbrev st_safe_words : Stmt := top 39
abbrev N_safe_words : List Str := ["places", "limit", "budgets", "phase", "count", "late", "rank", "word"]
theorem sc_safe_words : GScope N_safe_words ["places", "limit", "budgets", "phase", "count", "late"] (defScope st_safe_words) := ⟨rfl, rfl, rfl, by decide +kernel, rfl, by decide +kernel, by decide +kernel⟩
abbrev st_word_at : Stmt := top 40
abbrev N_word_at : List Str := ["rank", "places", "count", "signs", "left", "ones", "below", "smaller"]
theorem sc_word_at : FnScope N_word_at ["rank", "places", "count"] (defScope st_word_at) := ⟨rfl, rfl, rfl, by decide +kernel, rfl, by decide +kernel, by decide +kernel⟩
abbrev st__law_bag : Stmt := top 42
abbrev N__law_bag : List Str := ["_law_script", "_law_cells", "_law_cell"]
theorem sc__law_bag : FnScope N__law_bag ["_law_script"] (defScope st__law_bag) := ⟨rfl, rfl, rfl, by decide +kernel, rfl, by decide +kernel, by decide +kernel⟩
abbrev st__law_take : Stmt := top 43
abbrev N__law_take : List Str := ["_law_bag_here", "_law_size", "_law_cells", "_law_cell", "_law_mixed", "_law_drawn"]
theorem sc__law_take : FnScope N__law_take ["_law_bag_here", "_law_size"] (defScope st__law_take) := ⟨rfl, rfl, rfl, by decide +kernel, rfl, by decide +kernel, by decide +kernel⟩
abbrev st__law_budgets : Stmt := top 44
abbrev N__law_budgets : List Str := ["_law_bag_here", "_law_size", "_law_top", "_law_budgets_here", "_law_k"]
theorem sc__law_budgets : FnScope N__law_budgets ["_law_bag_here"] (defScope st__law_budgets) := ⟨rfl, rfl, rfl, by decide +kernel, rfl, by decide +kernel, by decide +kernel⟩
abbrev st__law_round : Stmt := top 45
abbrev N__law_round : List Str := ["_law_budgets_here", "_law_made", "_law_budget"]
theorem sc__law_round : FnScope N__law_round ["_law_budgets_here"] (defScope st__law_round) := ⟨rfl, rfl, rfl, by decide +kernel, rfl, by decide +kernel, by decide +kernel⟩
abbrev st__law_enough : Stmt := top 46
abbrev N__law_enough : List Str := ["_law_budgets_here", "_law_need", "_law_sums", "_law_size", "_law_budget", "_law_k"]
theorem sc__law_enough : FnScope N__law_enough ["_law_budgets_here", "_law_need"] (defScope st__law_enough) := ⟨rfl, rfl, rfl, by decide +kernel, rfl, by decide +kernel, by decide +kernel⟩
abbrev st__law_terms : Stmt := top 47
abbrev N__law_terms : List Str := ["_law_bag_here", "_law_wide", "_law_budgets_here", "_law_limit", "_law_places"]
theorem sc__law_terms : FnScope N__law_terms ["_law_bag_here", "_law_wide"] (defScope st__law_terms) := ⟨rfl, rfl, rfl, by decide +kernel, rfl, by decide +kernel, by decide +kernel⟩
abbrev st__law_carried : Stmt := top 48
abbrev N__law_carried : List Str := ["_law_word", "_law_places"]
theorem sc__law_carried : FnScope N__law_carried ["_law_word", "_law_places"] (defScope st__law_carried) := ⟨rfl, rfl, rfl, by decide +kernel, rfl, by decide +kernel, by decide +kernel⟩
abbrev st__law_released : Stmt := top 49
abbrev N__law_released : List Str := ["_law_word", "_law_which", "_law_spot", "_law_k"]
theorem sc__law_released : FnScope N__law_released ["_law_word", "_law_which"] (defScope st__law_released) := ⟨rfl, rfl, rfl, by decide +kernel, rfl, by decide +kernel, by decide +kernel⟩
abbrev st__law_put : Stmt := top 50
abbrev N__law_put : List Str := ["_law_word", "_law_which", "_law_count", "_law_places", "_law_is_late", "_law_others", "_law_k"]
theorem sc__law_put : FnScope N__law_put ["_law_word", "_law_which", "_law_count", "_law_places", "_law_is_late"] (defScope st__law_put) := ⟨rfl, rfl, rfl, by decide +kernel, rfl, by decide +kernel, by decide +kernel⟩
abbrev st__law_newest : Stmt := top 51
abbrev N__law_newest : List Str := ["_law_word", "_law_limit", "_law_ones"]
theorem sc__law_newest : FnScope N__law_newest ["_law_word", "_law_limit"] (defScope st__law_newest) := ⟨rfl, rfl, rfl, by decide +kernel, rfl, by decide +kernel, by decide +kernel⟩
abbrev st__law_play : Stmt := top 52
abbrev N__law_play : List Str := ["_law_word", "_law_phase", "_law_terms_here", "_law_is_late", "_law_most", "_law_budgets_here", "_law_words", "_law_t", "_law_budget"]
theorem sc__law_play : FnScope N__law_play ["_law_word", "_law_phase", "_law_terms_here", "_law_is_late", "_law_most"] (defScope st__law_play) := ⟨rfl, rfl, rfl, by decide +kernel, rfl, by decide +kernel, by decide +kernel⟩
abbrev st__law_is : Stmt := top 53
abbrev N__law_is : List Str := ["_law_told", "_law_due"]
theorem sc__law_is : FnScope N__law_is ["_law_told", "_law_due"] (defScope st__law_is) := ⟨rfl, rfl, rfl, by decide +kernel, rfl, by decide +kernel, by decide +kernel⟩
abbrev st__law_following : Stmt := top 54
abbrev N__law_following : List Str := ["_law_word", "_law_text", "_law_at", "_law_tail", "_law_zeros"]
theorem sc__law_following : FnScope N__law_following ["_law_word"] (defScope st__law_following) := ⟨rfl, rfl, rfl, by decide +kernel, rfl, by decide +kernel, by decide +kernel⟩
abbrev st__law_all_words : Stmt := top 55
abbrev N__law_all_words : List Str := ["_law_places", "_law_count", "_law_words", "_law_word", "_law_k"]
theorem sc__law_all_words : FnScope N__law_all_words ["_law_places", "_law_count"] (defScope st__law_all_words) := ⟨rfl, rfl, rfl, by decide +kernel, rfl, by decide +kernel, by decide +kernel⟩
abbrev st__law_counted : Stmt := top 56
abbrev N__law_counted : List Str := ["_law_terms_here", "_law_phase", "_law_count", "_law_is_late", "_law_budgets_here", "_law_limit", "_law_places", "_law_room", "_law_k", "_law_tops", "_law_total", "_law_t", "_law_depth", "_law_sums", "_law_row"]
theorem sc__law_counted : FnScope N__law_counted ["_law_terms_here", "_law_phase", "_law_count", "_law_is_late"] (defScope st__law_counted) := ⟨rfl, rfl, rfl, by decide +kernel, rfl, by decide +kernel, by decide +kernel⟩
abbrev st__law_few : Stmt := top 57
abbrev N__law_few : List Str := ["_law_bag_here", "_law_budgets_here", "_law_limit", "_law_most", "_law_places"]
theorem sc__law_few : FnScope N__law_few ["_law_bag_here", "_law_budgets_here"] (defScope st__law_few) := ⟨rfl, rfl, rfl, by decide +kernel, rfl, by decide +kernel, by decide +kernel⟩
abbrev st__law_listed : Stmt := top 58
abbrev N__law_listed : List Str := ["_law_terms_here", "_law_made", "_law_phase", "_law_count", "_law_is_late", "_law_budgets_here", "_law_limit", "_law_places", "_law_far", "_law_words", "_law_due", "_law_told", "_law_k", "_law_word"]
theorem sc__law_listed : FnScope N__law_listed ["_law_terms_here", "_law_made", "_law_phase", "_law_count", "_law_is_late"] (defScope st__law_listed) := ⟨rfl, rfl, rfl, by decide +kernel, rfl, by decide +kernel, by decide +kernel⟩
abbrev st__law_fault : Stmt := top 59
abbrev N__law_fault : List Str := ["_law_row", "_law_places", "_law_limit", "_law_phase", "_law_count"]
theorem sc__law_fault : FnScope N__law_fault ["_law_row"] (defScope st__law_fault) := ⟨rfl, rfl, rfl, by decide +kernel, rfl, by decide +kernel, by decide +kernel⟩
abbrev st__law_refused : Stmt := top 60
abbrev N__law_refused : List Str := ["_law_which", "_law_row", "_law_made", "_law_is_late", "_law_places", "_law_limit", "_law_phase", "_law_count", "raised"]
theorem sc__law_refused : FnScope N__law_refused ["_law_which", "_law_row", "_law_made", "_law_is_late"] (defScope st__law_refused) := ⟨rfl, rfl, rfl, by decide +kernel, rfl, by decide +kernel, by decide +kernel⟩
abbrev st__law_refusals : Stmt := top 61
abbrev N__law_refusals : List Str := ["_law_bag_here", "_law_terms_here", "_law_made", "_law_is_late", "_law_row", "_law_k", "_law_at", "_law_due", "_law_which", "_law_told"]
theorem sc__law_refusals : FnScope N__law_refusals ["_law_bag_here", "_law_terms_here", "_law_made", "_law_is_late"] (defScope st__law_refusals) := ⟨rfl, rfl, rfl, by decide +kernel, rfl, by decide +kernel, by decide +kernel⟩
abbrev st_law : Stmt := top 62
abbrev N_law : List Str := ["_law_script", "_law_bag_here", "_law_budgets_here", "_law_made", "_law_is_late", "_law_phase", "_law_few_here", "_law_terms_here", "_law_many", "_law_count", "_law_due", "_law_told"]
theorem sc_law : FnScope N_law ["_law_script"] (defScope st_law) := ⟨rfl, rfl, rfl, by decide +kernel, rfl, by decide +kernel, by decide +kernel⟩
structure Fx (c : Ctx) : Prop where
  inv : InvC c.K c.mg c.CI c.fI c.cda c.cc
  gR : c.mg "Round" = some (.ref c.C)
  comb : c.mg "comb" = some (.builtin "math.comb")
  cls : Cls c.K c.C
  nb : NoAttr c.K c.C "_budgets"
  mkR : Mk c.K c.C c.fR
  sf : PySem.W.selfFirst c.K c.C = true
  cr : ClX.CRead c.K c.C c.mc
  most : ∃ u, ClX.CVal c.K c.C c.mc "MOST" (.int 12) u
  xf : XfC c.K c.CI
  exm : PySem.W.exmOne c.K (.ref c.CI) (.ref c.CI) = some true
  nstop : PySem.W.subIn c.K (.ref c.CI) (.type "StopIteration") = some false
  dR_init : ∃ fd, FunD c.K "__init__" "Round.__init__" (defArgs st_R_init) (defBody st_R_init) (defScope st_R_init) [] [] c.fR fd
  f_len : c.mg "len" = none
  f_min : c.mg "min" = none
  f_max : c.mg "max" = none
  f_sum : c.mg "sum" = none
  f_range : c.mg "range" = none
  f_int : c.mg "int" = none
  f_list : c.mg "list" = none
  f_isinstance : c.mg "isinstance" = none
  f_reversed : c.mg "reversed" = none
  f_divmod : c.mg "divmod" = none
  f_enumerate : c.mg "enumerate" = none
  f_tuple : c.mg "tuple" = none
  f_abs : c.mg "abs" = none
  f_bool : c.mg "bool" = none
  f_str : c.mg "str" = none
  hn : IsiR c
  d_at_least : Df c "at_least" st_at_least [] []
  d_at_most : Df c "at_most" st_at_most [] []
  d_whole_number : Df c "whole_number" st_whole_number [] []
  d_good_word : Df c "good_word" st_good_word [] []
  d_normal : Df c "normal" st_normal [] []
  d_living : Df c "living" st_living [] []
  d_depths : Df c "depths" st_depths [] []
  d__trimmed : Df c "_trimmed" st__trimmed [] []
  d__ones : Df c "_ones" st__ones [] []
  d__depth_list : Df c "_depth_list" st__depth_list [] []
  d_check_standing : Df c "check_standing" st_check_standing [.int 0] []
  d_counted_places : Df c "counted_places" st_counted_places [] []
  d_blocked_now : Df c "blocked_now" st_blocked_now [] []
  d_short_now : Df c "short_now" st_short_now [] []
  d_blocked_at : Df c "blocked_at" st_blocked_at [.int 0] [("late", .bl false)]
  d_short_at : Df c "short_at" st_short_at [.int 0] [("late", .bl false)]
  d_critical_put : Df c "critical_put" st_critical_put [] []
  d_life : Df c "life" st_life [.int 0] [("late", .bl false)]
  d_safe : Df c "safe" st_safe [.int 0] [("late", .bl false)]
  d_R_len : Dm c "__len__" "Round.__len__" st_R_len
  d_R_add : Dm c "__add__" "Round.__add__" st_R_add
  d_R_total : Dm c "total" "Round.total" st_R_total
  d_R_least : Dm c "least" "Round.least" st_R_least
  d_R__window : Dm c "_window" "Round._window" st_R__window
  d_R__windows : Dm c "_windows" "Round._windows" st_R__windows
  d_effective : Df c "effective" st_effective [] [("late", .bl false), ("tears", .int 0), ("readers", .int 0)]
  d_ring_goes_on : Df c "ring_goes_on" st_ring_goes_on [] [("late", .bl false), ("tears", .int 0), ("readers", .int 0)]
  d__check_order : Df c "_check_order" st__check_order [] []
  d__lost_places : Df c "_lost_places" st__lost_places [] []
  d_check_counting : Df c "check_counting" st_check_counting [] []
  d_count_words : Df c "count_words" st_count_words [] []
  d_depth_caps : Df c "depth_caps" st_depth_caps [] []
  d_count_safe : Df c "count_safe" st_count_safe [] [("late", .bl false)]
  d_safe_words : Df c "safe_words" st_safe_words [] [("late", .bl false)]
  d_word_at : Df c "word_at" st_word_at [] []
  d__law_bag : Df c "_law_bag" st__law_bag [] []
  d__law_take : Df c "_law_take" st__law_take [] []
  d__law_budgets : Df c "_law_budgets" st__law_budgets [] []
  d__law_round : Df c "_law_round" st__law_round [] []
  d__law_enough : Df c "_law_enough" st__law_enough [] []
  d__law_terms : Df c "_law_terms" st__law_terms [] []
  d__law_carried : Df c "_law_carried" st__law_carried [] []
  d__law_released : Df c "_law_released" st__law_released [] []
  d__law_put : Df c "_law_put" st__law_put [] []
  d__law_newest : Df c "_law_newest" st__law_newest [] []
  d__law_play : Df c "_law_play" st__law_play [] []
  d__law_is : Df c "_law_is" st__law_is [] []
  d__law_following : Df c "_law_following" st__law_following [] []
  d__law_all_words : Df c "_law_all_words" st__law_all_words [] []
  d__law_counted : Df c "_law_counted" st__law_counted [] []
  d__law_few : Df c "_law_few" st__law_few [] []
  d__law_listed : Df c "_law_listed" st__law_listed [] []
  d__law_fault : Df c "_law_fault" st__law_fault [] []
  d__law_refused : Df c "_law_refused" st__law_refused [] []
  d__law_refusals : Df c "_law_refusals" st__law_refusals [] []
  d_law : Df c "law" st_law [] []
section
variable {X : Cx} {c : Ctx} {k : Nat} {x : Str} {sp : Sp} {E : XK} {p pos sp_ : Pos} {e : Expr} {es : List Expr} {t : TA} {te : TE}
theorem Fits.fnR (F : Fits X c) {f : Addr} (h : FnR PR c.w c.K c.mg c.base (CR c) k f sp) : FnR X.prog X.w X.K X.mg X.base (L2.CX X.prog X.w) k f sp := by
  rw [F.p, F.w, F.K, F.g, F.b]
  exact h
theorem pcMkR (G : FnR PR c.w c.K c.mg c.base (CR c) k c.fR sp) (M : Mk c.K c.C c.fR) (F : Fits X c) (hr : Room (k + 1) X.A) (hg : Gl X x) (hm : c.mg x = some (.ref c.C)) (hx : Passes (L2.CX X.prog X.w) X E) (ha : PA X (e :: es) t)
    (hdb : (x == ("__debug__" : Str)) = false := by decide) (he : starEach (e :: es) X.env = (false, eval e X.env) :: starEach es X.env := by rfl) (hpl : (backTo pos (starEach es X.env)).any (·.1) = false := by rfl) :
    PE X (.Call (.Name x p) (e :: es) [] pos) (StX.tMakeR c.C sp E t) := StX.pe_makeR (by rw [F.K]; exact M) (F.fnR G) hr hg (by rw [F.g]; exact hm) hx ha hdb he hpl
theorem pcMkS (G : FnR PR c.w c.K c.mg c.base (CR c) k c.fR sp) (M : Mk c.K c.C c.fR) (F : Fits X c) (hr : Room (k + 1) X.A) (hg : Gl X x) (hm : c.mg x = some (.ref c.C)) (hx : Passes (L2.CX X.prog X.w) X E) (ha : PE X e te)
    (hdb : (x == ("__debug__" : Str)) = false := by decide) (hst : starEach [.Starred e sp_] X.env = [(true, eval e X.env)] := by rfl) :
    PE X (.Call (.Name x p) [.Starred e sp_] [] pos) (tMakeS c.K c.C sp E te) := by
  have z := pe_makeS (pos := pos) (p := p) (by rw [F.K]; exact M : Mk X.K c.C c.fR) (F.fnR G) hr hg (by rw [F.g]; exact hm) hx ha hdb hst
  rw [F.K] at z
  exact z
end
end Cl
set_option Elab.async false
set_option linter.all false
set_option maxRecDepth 100000
set_option maxHeartbeats 4000000
/-! Texts of the signs 0 and 1 as lists of truth values. -/
namespace Cl
open PySem PySem.Spec PyProof.Rows L2 Cm
def sg (b : Bool) : Nat := if b then 49 else 48
theorem tl_tx (w : List Bool) : (tx w).cps.toList = w.map sg := rfl
theorem tx_len (w : List Bool) : (tx w).length = w.length := by
  show (w.map _).toArray.size = _
  rw [List.size_toArray, List.length_map]
theorem sg_inj {a b : Bool} (h : sg a = sg b) : a = b := by
  cases a <;> cases b <;> first | rfl | cases h
theorem map_sg_inj : ∀ {a b : List Bool}, a.map sg = b.map sg → a = b
  | [], [], _ => rfl
  | [], _ :: _, h => by cases h
  | _ :: _, [], h => by cases h
  | x :: a, y :: b, h => by
    rw [List.map_cons, List.map_cons] at h
    injection h with h1 h2
    rw [sg_inj h1, map_sg_inj h2]
theorem tx_inj {a b : List Bool} (h : tx a = tx b) : a = b := map_sg_inj (congrArg (fun z : Str => z.cps.toList) h)
theorem tx_eq (a b : List Bool) : decide (V.str (tx a) = V.str (tx b)) = decide (a = b) := by
  by_cases h : a = b
  · subst h
    simp
  · rw [decide_eq_false h, decide_eq_false]
    intro z
    injection z with z
    exact h (tx_inj z)
theorem ext_tx {x : Str} {w : List Bool} (h : x.cps.toList = w.map sg) : x = tx w := TL.ext_tl h
theorem tx_app (a b : List Bool) : tx a ++ tx b = tx (a ++ b) := ext_tx (by
  have z := TL.tl_append (tx a) (tx b)
  show (tx a ++ tx b).cps.toList = _
  rw [List.map_append]
  exact z)
theorem s1 : ("1" : Str) = ⟨#[49]⟩ := by decide +kernel
theorem s0 : ("0" : Str) = ⟨#[48]⟩ := by decide +kernel
theorem s1x : ("1" : Str) = tx [true] := by decide +kernel
theorem s0x : ("0" : Str) = tx [false] := by decide +kernel
theorem s01 : ("01" : Str) = ⟨#[48, 49]⟩ := by decide +kernel
theorem s10x : ("10" : Str) = tx [true, false] := by decide +kernel
theorem sEx : ("" : Str) = tx [] := by decide +kernel
theorem cnt1 : ∀ w : List Bool, cnt 49 (w.map sg) = (ones w : Int)
  | [] => rfl
  | true :: w => by
    rw [List.map_cons, cnt_cons, cnt1 w]
    show 1 + ((dep w).length : Int) = (((dep w).length + 1 : Nat) : Int)
    omega
  | false :: w => by
    rw [List.map_cons, cnt_cons, cnt1 w]
    show 0 + ((dep w).length : Int) = ((dep w).length : Int)
    omega
theorem cnt0 : ∀ w : List Bool, cnt 48 (w.map sg) = ((w.length - ones w : Nat) : Int)
  | [] => rfl
  | true :: w => by
    rw [List.map_cons, cnt_cons, cnt0 w]
    have h1 := ones_le w
    show 0 + ((w.length - ones w : Nat) : Int) = (((w.length + 1) - ((dep w).length + 1) : Nat) : Int)
    unfold ones at h1 ⊢
    omega
  | false :: w => by
    rw [List.map_cons, cnt_cons, cnt0 w]
    have h1 := ones_le w
    show 1 + ((w.length - ones w : Nat) : Int) = (((w.length + 1) - (dep w).length : Nat) : Int)
    unfold ones at h1 ⊢
    omega
theorem tx_count1 (w : List Bool) : Txt.count (tx w) "1" = (ones w : Int) := by
  rw [s1, count_cnt]
  exact cnt1 w
theorem tx_count0 (w : List Bool) : Txt.count (tx w) "0" = ((w.length - ones w : Nat) : Int) := by
  rw [s0, count_cnt]
  exact cnt0 w
theorem takeW (w : List Bool) : ∃ k, ((w.map sg).takeWhile (#[48] : Array Nat).contains).length = k ∧ trim w = w.drop k := by
  induction w with
  | nil => exact ⟨0, rfl, rfl⟩
  | cons b w ih =>
    obtain ⟨k, h1, h2⟩ := ih
    cases b with
    | true =>
      refine ⟨0, ?_, rfl⟩
      show ((49 :: w.map sg).takeWhile (#[48] : Array Nat).contains).length = 0
      rw [List.takeWhile_cons, if_neg (by decide +kernel)]
      rfl
    | false =>
      refine ⟨k + 1, ?_, h2⟩
      show ((48 :: w.map sg).takeWhile (#[48] : Array Nat).contains).length = k + 1
      rw [List.takeWhile_cons, if_pos (by decide +kernel), List.length_cons, h1]
theorem tx_lstrip (w : List Bool) : Txt.lstripChars (tx w) "0" = tx (trim w) := by
  obtain ⟨k, h1, h2⟩ := takeW w
  unfold Txt.lstripChars
  rw [s0, PyProof.Rows.stripBy_eq]
  refine ext_tx ?_
  rw [StrLaws.strSub_toList]
  have e1 : PySem.stripLo (#[48] : Array Nat).contains true (tx w) = k := by
    rw [← h1]
    rfl
  have e2 : PySem.stripHi (#[48] : Array Nat).contains false (tx w) k = (tx w).length := rfl
  show ((tx w).cps.toList.drop (PySem.stripLo (#[48] : Array Nat).contains true (tx w))).take (PySem.stripHi (#[48] : Array Nat).contains false (tx w) (PySem.stripLo (#[48] : Array Nat).contains true (tx w)) - PySem.stripLo (#[48] : Array Nat).contains true (tx w)) = _
  rw [e1, e2, h2, tl_tx, tx_len, ← List.map_drop, List.take_of_length_le]
  rw [List.length_map, List.length_drop]
  exact Nat.le_refl _
theorem all01 (w : List Bool) : (w.map sg).takeWhile (#[48, 49] : Array Nat).contains = w.map sg := by
  induction w with
  | nil => rfl
  | cons b w ih =>
    rw [List.map_cons, List.takeWhile_cons, if_pos (by cases b <;> decide +kernel), ih]
theorem tx_strip (w : List Bool) : Txt.stripChars (tx w) "01" = tx [] := by
  unfold Txt.stripChars
  rw [s01, PyProof.Rows.stripBy_eq]
  refine ext_tx ?_
  rw [StrLaws.strSub_toList]
  have e1 : PySem.stripLo (#[48, 49] : Array Nat).contains true (tx w) = w.length := by
    have z := congrArg List.length (all01 w)
    rw [List.length_map] at z
    exact z
  show ((tx w).cps.toList.drop (PySem.stripLo (#[48, 49] : Array Nat).contains true (tx w))).take _ = _
  rw [e1, tl_tx, List.drop_of_length_le (by rw [List.length_map]; exact Nat.le_refl _), List.take_nil]
  rfl
theorem tx_start {w : List Bool} (h : Norm w) : Txt.startswith (tx w) "0" = false := by
  rcases norm_dep h with rfl | ⟨r, rfl⟩
  · decide +kernel
  · unfold Txt.startswith
    have e : Builtin.Str.subAt (tx (true :: r)) "0" 0 = false := by
      rw [s0]
      have z := StrLaws.subAt_eq (tx (true :: r)) ⟨#[48]⟩ 0
      rw [z]
      rfl
    rw [e, Bool.and_false]
theorem tx_cut (w : List Bool) (i j : Nat) : cutS (tx w) (some (i : Int)) (some (j : Int)) = tx ((w.drop (min i w.length)).take (min j w.length - min i w.length)) := by
  refine ext_tx ?_
  show ((tx w).cps.toList.drop (HT.sIx (tx w).length 0 (some (i : Int)))).take (HT.sIx (tx w).length (tx w).length (some (j : Int)) - HT.sIx (tx w).length 0 (some (i : Int))) = _
  rw [HT.sIx_nat, HT.sIx_nat, tl_tx, tx_len, List.map_take, List.map_drop]
theorem tx_cutTo (w : List Bool) (j : Nat) : cutS (tx w) none (some (j : Int)) = tx (w.take j) := by
  refine ext_tx ?_
  show ((tx w).cps.toList.drop (HT.sIx (tx w).length 0 none)).take (HT.sIx (tx w).length (tx w).length (some (j : Int)) - HT.sIx (tx w).length 0 none) = _
  rw [HT.sIx_nat, HT.sIx_none, tl_tx, tx_len, List.map_take, List.drop_zero, Nat.sub_zero, List.take_eq_take_min, List.length_map, Nat.min_assoc, Nat.min_self, ← List.length_map (f := sg) (as := w), ← List.take_eq_take_min]
theorem tx_cutFrom (w : List Bool) (i : Nat) : cutS (tx w) (some (i : Int)) none = tx (w.drop i) := by
  refine ext_tx ?_
  show ((tx w).cps.toList.drop (HT.sIx (tx w).length 0 (some (i : Int)))).take (HT.sIx (tx w).length (tx w).length none - HT.sIx (tx w).length 0 (some (i : Int))) = _
  rw [HT.sIx_nat, HT.sIx_none, tl_tx, tx_len, List.map_drop, List.take_of_length_le (by rw [List.length_drop, List.length_map]; exact Nat.le_refl _)]
  by_cases h : i ≤ w.length
  · rw [Nat.min_eq_left h]
  · rw [List.drop_of_length_le (by rw [List.length_map]; omega), List.drop_of_length_le (by rw [List.length_map]; omega)]
theorem tx_item {w : List Bool} {i : Nat} {b : Bool} (h : w[i]? = some b) : atI (tx w).cps.toList (i : Int) = some (sg b) := by
  refine atI_nat ?_
  rw [tl_tx, List.getElem?_map, h]
  rfl
theorem sg_tx (b : Bool) : (⟨#[sg b]⟩ : Str) = tx [b] := by
  cases b <;> rfl
theorem tx_rep (b : Bool) (n : Nat) : (⟨(List.replicate n (sg b)).toArray⟩ : Str) = tx (List.replicate n b) := by
  refine ext_tx ?_
  show List.replicate n (sg b) = _
  rw [List.map_replicate]
theorem lastFT_at : ∀ {w : List Bool} {i : Nat}, lastFT w = some i → w[i]? = some false ∧ w[i + 1]? = some true ∧ ∀ k, i < k → ¬ (w[k]? = some false ∧ w[k + 1]? = some true)
  | [], i, h => by cases h
  | b :: r, i, h => by
    unfold lastFT at h
    cases e : lastFT r with
    | some j =>
      rw [e] at h
      have ei : j + 1 = i := Option.some.inj h
      subst ei
      obtain ⟨h1, h2, h3⟩ := lastFT_at e
      refine ⟨h1, h2, fun k hk z => ?_⟩
      obtain ⟨k, rfl⟩ : ∃ m, k = m + 1 := ⟨k - 1, by omega⟩
      exact h3 k (by omega) z
    | none =>
      rw [e] at h
      by_cases c : b = false ∧ r.head? = some true
      · have h' : (if b = false ∧ r.head? = some true then some 0 else none) = some i := h
        rw [if_pos c] at h'
        have ei : 0 = i := Option.some.inj h'
        subst ei
        obtain ⟨rfl, c2⟩ := c
        refine ⟨rfl, ?_, fun k hk z => ?_⟩
        · cases r with
          | nil => cases c2
          | cons x y => exact c2
        · obtain ⟨k, rfl⟩ : ∃ m, k = m + 1 := ⟨k - 1, by omega⟩
          have z1 : r[k]? = some false := z.1
          have z2 : r[k + 1]? = some true := z.2
          exact lastFT_none e k ⟨z1, z2⟩
      · have h' : (if b = false ∧ r.head? = some true then some 0 else none) = some i := h
        rw [if_neg c] at h'
        cases h'
where
  lastFT_none : ∀ {w : List Bool}, lastFT w = none → ∀ k, ¬ (w[k]? = some false ∧ w[k + 1]? = some true)
    | [], _, k, z => by simp at z
    | b :: r, h, k, z => by
      unfold lastFT at h
      cases e : lastFT r with
      | some j =>
        rw [e] at h
        cases h
      | none =>
        rw [e] at h
        have h' : (if b = false ∧ r.head? = some true then some 0 else none) = none := h
        cases k with
        | zero =>
          have c : b = false ∧ r.head? = some true := by
            refine ⟨Option.some.inj z.1, ?_⟩
            have z2 : r[0]? = some true := z.2
            cases r with
            | nil => cases z2
            | cons x y => exact z2
          rw [if_pos c] at h'
          cases h'
        | succ k => exact lastFT_none e k z
theorem at01 (w : List Bool) (i : Nat) : StrLaws.At (tx w) "01" (tx w).length i ↔ (w[i]? = some false ∧ w[i + 1]? = some true) := by
  rw [s01, TL.at_iff (by decide)]
  show TL.pre [48, 49] ((w.map sg).drop i) = true ↔ _
  rw [← List.map_drop]
  have e0 : w[i]? = (w.drop i)[0]? := by rw [List.getElem?_drop, Nat.add_zero]
  have e1 : w[i + 1]? = (w.drop i)[1]? := by rw [List.getElem?_drop]
  rw [e0, e1]
  cases w.drop i with
  | nil => simp [TL.pre]
  | cons a r =>
    cases r with
    | nil => cases a <;> simp [TL.pre, sg]
    | cons b s => cases a <;> cases b <;> simp [TL.pre, sg]
theorem tx_rfind {w : List Bool} {i : Nat} (h : lastFT w = some i) : Txt.rfind (tx w) "01" = (i : Int) := by
  obtain ⟨h1, h2, h3⟩ := lastFT_at h
  rcases StrLaws.last_spec (tx w) "01" with ⟨_, z⟩ | ⟨j, e, a, z⟩
  · exact absurd ((at01 w i).mpr ⟨h1, h2⟩) (z i)
  · have a' := (at01 w j).mp a
    have ej : j = i := by
      refine Nat.le_antisymm ?_ ?_
      · exact Nat.le_of_not_lt fun q => h3 j q a'
      · exact Nat.le_of_not_lt fun q => z i q ((at01 w i).mpr ⟨h1, h2⟩)
    subst ej
    unfold Txt.rfind
    rw [e]
theorem tx_join : ∀ (bs : List Bool), Txt.join "" (bs.map fun b => tx [b]) = tx bs := by
  intro bs
  rw [TL.join_eq]
  refine ext_tx ?_
  have z := TL.tl_join "" (bs.map fun b => tx [b])
  show (Str.join "" (bs.map fun b => tx [b])).cps.toList = _
  have e0 : ("" : Str).cps.toList = [] := by decide +kernel
  have key : ∀ l : List Bool, TL.joinL [] ((l.map fun b => tx [b]).map TL.tl) = l.map sg := by
    intro l
    induction l with
    | nil => rfl
    | cons b l ih =>
      cases l with
      | nil => rfl
      | cons c l =>
        show [sg b] ++ ([] ++ TL.joinL [] (((c :: l).map fun b => tx [b]).map TL.tl)) = _
        rw [ih]
        rfl
  have z2 : (Str.join "" (bs.map fun b => tx [b])).cps.toList = TL.joinL [] ((bs.map fun b => tx [b]).map TL.tl) := by
    rw [← e0]
    exact z
  rw [z2, key]
end Cl
set_option Elab.async false
set_option linter.all false
set_option maxRecDepth 100000
set_option maxHeartbeats 4000000
/-! Checks and words. -/
namespace Cl
open PySem PySem.Spec PyProof.Rows L2 Cm
abbrev iiX (c : Ctx) (E : XK) (H : Hp) (z : Str) : Prop := ∀ d, H d = none → E (.ref c.CI) (some d) (upd H d (.xd [(("field" : Str), .str z)]))
def sp_at_least (c : Ctx) : Sp := fun vs H Q E => ∃ (v l : Int) (z : Str), vs = [.int v, .int l, .str z] ∧ z.length ≤ 1000 ∧ (l ≤ v → Q .non H) ∧ (v < l → iiX c E H z)
def sp_at_most (c : Ctx) : Sp := fun vs H Q E => ∃ (v l : Int) (z : Str), vs = [.int v, .int l, .str z] ∧ z.length ≤ 1000 ∧ (v ≤ l → Q .non H) ∧ (l < v → iiX c E H z)
def sp_whole_number (c : Ctx) : Sp := fun vs H Q _ => ∃ (v : Int) (z : Str), vs = [.int v, .str z] ∧ Q .non H
def sp_good_word (c : Ctx) : Sp := fun vs H Q _ => ∃ (w : List Bool) (z : Str), vs = [.str (tx w), .str z] ∧ Norm w ∧ w.length ≤ 1000 ∧ Q .non H
def sp__trimmed (c : Ctx) : Sp := fun vs H Q _ => ∃ (w : List Bool), vs = [.str (tx w)] ∧ w.length ≤ 1000 ∧ Q (.str (tx (trim w))) H
def sp__ones (c : Ctx) : Sp := fun vs H Q _ => ∃ (w : List Bool), vs = [.str (tx w)] ∧ Q (natV (ones w)) H
def sp_normal (c : Ctx) : Sp := fun vs H Q _ => ∃ (w : List Bool), vs = [.str (tx w)] ∧ w.length ≤ 1000 ∧ Q (.str (tx (trim w))) H
def sp_living (c : Ctx) : Sp := fun vs H Q _ => ∃ (w : List Bool), vs = [.str (tx w)] ∧ Norm w ∧ w.length ≤ 1000 ∧ Q (natV (ones w)) H
def sp_counted_places (c : Ctx) : Sp := fun vs H Q _ => ∃ (p : Nat) (late : Bool), vs = [natV p, .bl late] ∧ 1 ≤ p ∧ Q (natV (mOf p late)) H
theorem sz1000 {n : Nat} (h : n ≤ 1000) : n ≤ sizeLine := Nat.le_of_lt (small1000 h)
theorem fld_len : ("word" : Str).length ≤ 1000 ∧ ("places" : Str).length ≤ 1000 ∧ ("limit" : Str).length ≤ 1000 ∧ ("phase" : Str).length ≤ 1000 ∧ ("most" : Str).length ≤ 1000 ∧ ("count" : Str).length ≤ 1000 := by decide +kernel
theorem ifT {A B : Prop} {b : Bool} (h : b = true) (a : A) : if b = true then A else B := by
  rw [if_pos h]
  exact a
theorem ifF {A B : Prop} {b : Bool} (h : b = false) (a : B) : if b = true then A else B := by
  rw [h, if_neg Bool.false_ne_true]
  exact a
theorem ifB {A B : Prop} {b : Bool} (h1 : b = true → A) (h2 : b = false → B) : if b = true then A else B := by
  cases b with
  | true => exact iteT (h1 rfl)
  | false => exact iteF (h2 rfl)
theorem eqT {a b : Int} (h : a = b) : decide (V.int a = V.int b) = true := decide_eq_true (congrArg V.int h)
theorem eqF {a b : Int} (h : a ≠ b) : decide (V.int a = V.int b) = false := decide_eq_false fun z => h (by injection z)
theorem neT {a b : Int} (h : a ≠ b) : (!decide (V.int a = V.int b)) = true := by rw [eqF h]; rfl
theorem neF {a b : Int} (h : a = b) : (!decide (V.int a = V.int b)) = false := by rw [eqT h]; rfl
theorem cv {Q : VK} {a b : V} {H : Hp} (h : Q a H) (e : a = b) : Q b H := e ▸ h
theorem cvi {Q : VK} {a b : Int} {H : Hp} (h : Q (.int a) H) (e : a = b) : Q (.int b) H := e ▸ h
theorem cvK {G : V → Hp → Prop} {a b : Int} {H : Hp} (e : a = b) (h : G (.int b) H) : G (.int a) H := e ▸ h
theorem cvb {Q : VK} {a b : Bool} {H : Hp} (h : Q (.bl a) H) (e : a = b) : Q (.bl b) H := e ▸ h
section
variable {c : Ctx}
theorem dd_at_least (T : Fx c) : Dd c 2 "at_least" ["value", "least", "field"] [] (sp_at_least c) := by
  refine Dd.of (st := st_at_least) T.d_at_least (fun f fd F => Df.okX (k := 1) F sc_at_least (fun vs H Q E h => ?_) (fun f cdv A outer s H vs Q E hr h => ⟨_, (pss_one (ps_if (pt_cmpR op_lt (pv 0) (pv 1) (nomark _)) (pss_one (ps_raiseII rfl rfl T.inv hr (takes_of rfl rfl rfl rfl) (pa_cons (pv 2) pa_nil))) pss_nil)), ?_⟩)) (fun _ _ _ _ _ _ us hl => match us, hl with | [_, _, _], _ => rfl)
  · obtain ⟨v, l, z, rfl, _⟩ := h
    rfl
  · obtain ⟨v, l, z, rfl, hz, h1, h2⟩ := h
    refine ⟨_, rfl, _, rfl, _, _, rfl, rfl, _, rfl, ?_⟩
    by_cases q : v < l
    · rw [decide_eq_true q]
      exact iteT ⟨_, rfl, _, rfl, hz, h2 q⟩
    · rw [decide_eq_false q]
      exact iteF (h1 (by omega))
theorem dd_at_most (T : Fx c) : Dd c 2 "at_most" ["value", "most", "field"] [] (sp_at_most c) := by
  refine Dd.of (st := st_at_most) T.d_at_most (fun f fd F => Df.okX (k := 1) F sc_at_most (fun vs H Q E h => ?_) (fun f cdv A outer s H vs Q E hr h => ⟨_, (pss_one (ps_if (pt_cmpR op_gt (pv 0) (pv 1) (nomark _)) (pss_one (ps_raiseII rfl rfl T.inv hr (takes_of rfl rfl rfl rfl) (pa_cons (pv 2) pa_nil))) pss_nil)), ?_⟩)) (fun _ _ _ _ _ _ us hl => match us, hl with | [_, _, _], _ => rfl)
  · obtain ⟨v, l, z, rfl, _⟩ := h
    rfl
  · obtain ⟨v, l, z, rfl, hz, h1, h2⟩ := h
    refine ⟨_, rfl, _, rfl, _, _, rfl, rfl, _, rfl, ?_⟩
    by_cases q : l < v
    · rw [decide_eq_true q]
      exact iteT ⟨_, rfl, _, rfl, hz, h2 q⟩
    · rw [decide_eq_false q]
      exact iteF (h1 (by omega))
theorem dd_whole_number (T : Fx c) : Dd c 2 "whole_number" ["value", "field"] [] (sp_whole_number c) := by
  refine Dd.of (st := st_whole_number) T.d_whole_number (fun f fd F => Df.ok (k := 1) F sc_whole_number (fun vs H Q E h => ?_) (fun f cdv A outer s H vs Q E hr h => ⟨_, (pss_one (ps_if (PW.pt (pw_or (pt_val (pe_callB call_isi (by rfl) T.f_isinstance (by decide +kernel) (pa_cons (pv 0) (pa_cons (pe_bltn (v := .ty "bool") (by rfl) T.f_bool (by decide +kernel) rfl) pa_nil)))) (pw_or1 (pt_not (pt_val (pe_callB call_isi (by rfl) T.f_isinstance (by decide +kernel) (pa_cons (pv 0) (pa_cons (pe_bltn (v := .ty "int") (by rfl) T.f_int (by decide +kernel) rfl) pa_nil)))))))) (pss_one ps_never) pss_nil)), ?_⟩)) (fun _ _ _ _ _ _ us hl => match us, hl with | [_, _], _ => rfl)
  · obtain ⟨v, z, rfl, _⟩ := h
    rfl
  · obtain ⟨v, z, rfl, h1⟩ := h
    refine ⟨_, rfl, _, _, _, _, false, rfl, .ty _, .base (.int _), kit_ty (by decide +kernel), _, rfl, ?_⟩
    refine iteF ⟨_, rfl, _, _, _, _, true, rfl, .ty _, .base (.int _), kit_ty (by decide +kernel), _, rfl, ?_⟩
    exact iteF h1
theorem dd_good_word (T : Fx c) : Dd c 2 "good_word" ["word", "field"] [] (sp_good_word c) := by
  refine Dd.of (st := st_good_word) T.d_good_word (fun f fd F => Df.ok (k := 1) F sc_good_word (fun vs H Q E h => ?_) (fun f cdv A outer s H vs Q E hr h => ⟨_, (pss_one (ps_if (PW.pt (pw_or (pt_val (pe_bm PySem.F.plainAttrs_str PySem.F.slot_str_startswith PySem.F.type_str_startswith mt_startswith (pv 0) (pa_cons pe_str pa_nil))) (pw_or1 (pt_cmpR op_ne (pe_bm PySem.F.plainAttrs_str PySem.F.slot_str_strip PySem.F.type_str_strip mt_stripChars (pv 0) (pa_cons pe_str pa_nil)) pe_str (nomark _))))) (pss_one ps_never) pss_nil)), ?_⟩)) (fun _ _ _ _ _ _ us hl => match us, hl with | [_, _], _ => rfl)
  · obtain ⟨w, z, rfl, _⟩ := h
    rfl
  · obtain ⟨w, z, rfl, hw, hl, h1⟩ := h
    refine ⟨_, rfl, rfl, _, _, rfl, rfl, _, rfl, ?_⟩
    rw [tx_start hw]
    refine iteF ⟨_, rfl, rfl, _, _, rfl, rfl, by rw [tx_len]; exact sz1000 hl, ?_⟩
    rw [tx_strip, sEx]
    refine ⟨rfl, _, rfl, ?_⟩
    rw [tx_eq]
    exact iteF h1
theorem dd__trimmed (T : Fx c) : Dd c 1 "_trimmed" ["text"] [] (sp__trimmed c) := by
  refine Dd.of (st := st__trimmed) T.d__trimmed (fun f fd F => Df.ok (k := 0) F sc__trimmed (fun vs H Q E h => ?_) (fun f cdv A outer s H vs Q E hr h => ⟨_, (pss_one (ps_ret (pe_bm PySem.F.plainAttrs_str PySem.F.slot_str_lstrip PySem.F.type_str_lstrip mt_lstripChars (pv 0) (pa_cons pe_str pa_nil)))), ?_⟩)) (fun _ _ _ _ _ _ us hl => match us, hl with | [_], _ => rfl)
  · obtain ⟨w, rfl, _⟩ := h
    rfl
  · obtain ⟨w, rfl, hl, h1⟩ := h
    refine ⟨_, rfl, rfl, _, _, rfl, rfl, by rw [tx_len]; exact sz1000 hl, ?_⟩
    rw [tx_lstrip]
    exact h1
theorem dd__ones (T : Fx c) : Dd c 1 "_ones" ["word"] [] (sp__ones c) := by
  refine Dd.of (st := st__ones) T.d__ones (fun f fd F => Df.ok (k := 0) F sc__ones (fun vs H Q E h => ?_) (fun f cdv A outer s H vs Q E hr h => ⟨_, (pss_one (ps_ret (pe_bm PySem.F.plainAttrs_str PySem.F.slot_str_count PySem.F.type_str_count mt_count (pv 0) (pa_cons pe_str pa_nil)))), ?_⟩)) (fun _ _ _ _ _ _ us hl => match us, hl with | [_], _ => rfl)
  · obtain ⟨w, rfl, _⟩ := h
    rfl
  · obtain ⟨w, rfl, h1⟩ := h
    refine ⟨_, rfl, rfl, _, _, rfl, rfl, ?_⟩
    rw [tx_count1]
    exact h1
theorem dd_normal (T : Fx c) : Dd c 3 "normal" ["text"] [] (sp_normal c) := by
  refine Dd.of (st := st_normal) T.d_normal (fun f fd F => Df.ok (k := 2) F sc_normal (fun vs H Q E h => ?_) (fun f cdv A outer s H vs Q E hr h => ⟨_, (pss_cons (ps_if (pt_cmpR op_ne (pe_op op_add (pe_bm PySem.F.plainAttrs_str PySem.F.slot_str_count PySem.F.type_str_count mt_count (pv 0) (pa_cons pe_str pa_nil)) (pe_bm PySem.F.plainAttrs_str PySem.F.slot_str_count PySem.F.type_str_count mt_count (pv 0) (pa_cons pe_str pa_nil))) (pe_callB call_len (by rfl) T.f_len (by decide +kernel) (pa_cons (pv 0) pa_nil)) (nomark _)) (pss_one ps_never) pss_nil) (pss_one (ps_ret (pcD (dd__trimmed T) (Fits.mk rfl rfl rfl rfl rfl) (hr.mono (by decide)) rfl passL (pa_cons (pv 0) pa_nil))))), ?_⟩)) (fun _ _ _ _ _ _ us hl => match us, hl with | [_], _ => rfl)
  · obtain ⟨w, rfl, _⟩ := h
    rfl
  · obtain ⟨w, rfl, hl, h1⟩ := h
    refine ⟨_, rfl, rfl, _, _, rfl, rfl, ?_⟩
    rw [tx_count0]
    refine ⟨_, rfl, rfl, _, _, rfl, rfl, ?_⟩
    rw [tx_count1]
    refine ⟨_, _, rfl, rfl, _, rfl, _, _, rfl, ⟨by rw [tx_len]; exact sz1000 hl, rfl⟩, ?_⟩
    rw [tx_len]
    refine ⟨rfl, _, rfl, ?_⟩
    have e := ones_le w
    exact ifF (neF (by omega)) ⟨_, rfl, _, rfl, hl, h1⟩
theorem dd_living (T : Fx c) : Dd c 3 "living" ["word"] [] (sp_living c) := by
  refine Dd.of (st := st_living) T.d_living (fun f fd F => Df.ok (k := 2) F sc_living (fun vs H Q E h => ?_) (fun f cdv A outer s H vs Q E hr h => ⟨_, (pss_cons (ps_expr (pcD (dd_good_word T) (Fits.mk rfl rfl rfl rfl rfl) (hr.mono (by decide)) rfl passL (pa_cons (pv 0) (pa_cons pe_str pa_nil)))) (pss_one (ps_ret (pcD (dd__ones T) (Fits.mk rfl rfl rfl rfl rfl) (hr.mono (by decide)) rfl passL (pa_cons (pv 0) pa_nil))))), ?_⟩)) (fun _ _ _ _ _ _ us hl => match us, hl with | [_], _ => rfl)
  · obtain ⟨w, rfl, _⟩ := h
    rfl
  · obtain ⟨w, rfl, hw, hl, h1⟩ := h
    exact ⟨_, rfl, _, _, rfl, hw, hl, _, rfl, _, rfl, h1⟩
theorem dd_counted_places (T : Fx c) : Dd c 1 "counted_places" ["places", "late"] [] (sp_counted_places c) := by
  refine Dd.of (st := st_counted_places) T.d_counted_places (fun f fd F => Df.ok (k := 0) F sc_counted_places (fun vs H Q E h => ?_) (fun f cdv A outer s H vs Q E hr h => ⟨_, (pss_cons (ps_if (pt_val (pv 1)) (pss_one (ps_ret (pe_op op_sub (pv 0) pe_int))) pss_nil) (pss_one (ps_ret (pv 0)))), ?_⟩)) (fun _ _ _ _ _ _ us hl => match us, hl with | [_, _], _ => rfl)
  · obtain ⟨p, late, rfl, _⟩ := h
    rfl
  · obtain ⟨p, late, rfl, hp, h1⟩ := h
    refine ⟨_, rfl, _, rfl, ?_⟩
    cases late with
    | true =>
      refine iteT ⟨_, rfl, _, _, rfl, rfl, ?_⟩
      exact cvi (Q := Q) h1 (by show ((p - 1 : Nat) : Int) = (p : Int) - 1; omega)
    | false => exact iteF ⟨_, rfl, h1⟩
end
end Cl
set_option Elab.async false
set_option linter.all false
set_option maxRecDepth 100000
set_option maxHeartbeats 4000000
/-! Depths, the standing's checks. -/
namespace Cl
open PySem PySem.Spec PyProof.Rows L2 Cm
/-- the depths of the ones among the first i signs -/
def dpre : List Bool → Nat → List Nat
  | _, 0 => []
  | [], _ + 1 => []
  | true :: r, i + 1 => (r.length + 1) :: dpre r i
  | false :: r, i + 1 => dpre r i
theorem dpre_all : ∀ w : List Bool, dpre w w.length = dep w
  | [] => rfl
  | true :: r => congrArg (List.cons (r.length + 1)) (dpre_all r)
  | false :: r => dpre_all r
theorem dpre_step : ∀ {w : List Bool} {i : Nat} {b : Bool}, w[i]? = some b → dpre w (i + 1) = dpre w i ++ (if b then [w.length - i] else [])
  | [], i, b, h => by cases h
  | a :: r, 0, b, h => by
    have e : a = b := Option.some.inj h
    subst e
    cases a <;> first | rfl | (cases r <;> rfl)
  | a :: r, i + 1, b, h => by
    have z := dpre_step (w := r) (i := i) (b := b) h
    have e : (a :: r).length - (i + 1) = r.length - i := by
      rw [List.length_cons]
      omega
    rw [e]
    cases a with
    | true =>
      show (r.length + 1) :: dpre r (i + 1) = (r.length + 1) :: dpre r i ++ _
      rw [z]
      rfl
    | false => exact z
theorem dpre_len : ∀ (w : List Bool) (i : Nat), (dpre w i).length ≤ w.length
  | [], i => by cases i <;> exact Nat.zero_le _
  | _ :: _, 0 => Nat.zero_le _
  | true :: r, i + 1 => Nat.succ_le_succ (dpre_len r i)
  | false :: r, i + 1 => Nat.le_succ_of_le (dpre_len r i)
def sp__depth_list (c : Ctx) : Sp := fun vs H Q _ => ∃ (w : List Bool), vs = [.str (tx w)] ∧ w.length ≤ 1000 ∧ ∀ H' p, Same H H' → H p = none → H' p = some (.lst ((dep w).map natV)) → Q (.ref p) H'
def sp_depths (c : Ctx) : Sp := fun vs H Q _ => ∃ (w : List Bool), vs = [.str (tx w)] ∧ Norm w ∧ w.length ≤ 1000 ∧ ∀ H' p, Same H H' → H p = none → H' p = some (.lst ((dep w).map natV)) → Q (.ref p) H'
def StOk (w : List Bool) (p N : Nat) : Prop := Norm w ∧ 1 ≤ N ∧ N ≤ p ∧ w.length ≤ p ∧ ones w ≤ N ∧ p ≤ 1000
def sp_check_standing (c : Ctx) : Sp := fun vs H Q _ => ∃ (w : List Bool) (p N ph : Nat), vs = [.str (tx w), natV p, natV N, natV ph, .int 0] ∧ StOk w p N ∧ Q .non H
section
variable {c : Ctx}
theorem dd__depth_list (T : Fx c) : Dd c 3 "_depth_list" ["word"] [] (sp__depth_list c) := by
  refine Dd.of (st := st__depth_list) T.d__depth_list (fun f fd F => Df.ok (k := 2) F sc__depth_list (fun vs H Q E h => ?_) (fun f cdv A outer s H vs Q E hr h => ⟨_, (pss_one (ps_ret (pe_lc (own := [("place", 1), ("mark", 2)]) (g := gTup c.K 2 (gCons (gName 1) (gCons (gName 2) gNil))) rfl sc__depth_list.nd (pi_enumS (by rfl) T.f_enumerate (pa_cons (pv 0) pa_nil)) (blkOk_by (N := N__depth_list) (sc := defScope st__depth_list) (by decide +kernel)) (fun _ _ _ _ _ => (pg_tup rfl (pgs_cons (pg_name (i := 1) sc__depth_list.nd rfl (Or.inl rfl)) (pgs_cons (pg_name (i := 2) sc__depth_list.nd rfl (Or.inl rfl)) pgs_nil)))) (fun _ _ _ _ _ => (pts_one (pt_cmpR op_eq (pv 2) pe_str (nomark _)))) (fun _ _ _ _ _ => (pe_op op_sub (pe_callB (id := "len") (r := rLen c.K) call_len (by rfl) T.f_len (by decide +kernel) (pa_cons (pv 0) pa_nil)) (pv 1)))))), ?_⟩)) (fun _ _ _ _ _ _ us hl => match us, hl with | [_], _ => rfl)
  · obtain ⟨w, rfl, _⟩ := h
    rfl
  · obtain ⟨w, rfl, hl, hQ⟩ := h
    refine ⟨_, rfl, _, rfl, fun D hD => ⟨fun i m H' => m = w.length - i ∧ i ≤ w.length ∧ Same H H' ∧ H' D = some (.lst ((dpre w i).map natV)), ⟨_, rfl, Nat.zero_le _, Same.new hD, ?_⟩, ?_⟩⟩
    · have e0 : dpre w 0 = [] := by cases w <;> rfl
      rw [e0]
      exact upd_same
    · rintro i m H1 ⟨rfl, hi, hS, hD1⟩
      have hsz : (tx w).cps.size = w.length := tx_len w
      by_cases hlt : i < w.length
      · refine .inr ⟨by show i < (tx w).cps.size; omega, fun H' => Same H H' ∧ H' D = some (.lst ((dpre w (i + 1)).map natV)), fun H' q => ⟨_, by omega, rfl, hlt, q.1, q.2⟩, ?_⟩
        rintro x H2 ⟨Tp, ch, rfl, hT, hch, rfl⟩
        obtain ⟨b, hb⟩ : ∃ b, w[i]? = some b := ⟨_, List.getElem?_eq_getElem hlt⟩
        have ech : ch = sg b := by
          have z : (tx w).cps[i]? = some (sg b) := by
            rw [← Array.getElem?_toList, tl_tx, List.getElem?_map, hb]
            rfl
          rw [z] at hch
          exact (Option.some.inj hch).symm
        subst ech
        have hne : D ≠ Tp := ne_of_none hD1 hT
        have hS2 : Same H (L2.upd H1 Tp (.tup [.int (i : Int), .str ⟨#[sg b]⟩])) := fun a o q => by
          rw [upd_ne (ne_of_none (hS a o q) hT)]
          exact hS a o q
        refine ⟨Tp, _, rfl, .inl (.inl upd_same), rfl, _, _, rfl, _, _, rfl, rfl, rfl, _, rfl, rfl, _, rfl, ?_⟩
        rw [sg_tx, s1x, tx_eq]
        have st := dpre_step hb
        cases b with
        | true =>
          refine ifT (decide_eq_true rfl) ⟨_, rfl, _, _, rfl, ⟨by rw [tx_len]; exact sz1000 hl, rfl⟩, _, rfl, _, _, rfl, rfl, _, by rw [upd_ne hne]; exact hD1, ?_, ?_⟩
          · rw [List.length_map]
            exact small1000 (Nat.le_trans (dpre_len w i) hl)
          · refine ⟨fun a o q => ?_, ?_⟩
            · rw [upd_ne (ne_of_none q hD)]
              exact hS2 a o q
            · rw [upd_same, st]
              congr 2
              show _ = List.map natV (dpre w i ++ [w.length - i])
              rw [List.map_append]
              congr 1
              show [V.int _] = [V.int _]
              rw [tx_len]
              congr 2
              omega
        | false =>
          refine ifF (decide_eq_false (by decide)) ⟨hS2, ?_⟩
          rw [upd_ne hne, st, hD1]
          congr 2
          show _ = List.map natV (dpre w i ++ [])
          rw [List.append_nil]
      · have ei : i = w.length := by omega
        subst ei
        refine .inl ⟨hsz.symm, ?_⟩
        rw [dpre_all] at hD1
        exact hQ H1 D hS hD hD1
theorem dd_depths (T : Fx c) : Dd c 4 "depths" ["word"] [] (sp_depths c) := by
  refine Dd.of (st := st_depths) T.d_depths (fun f fd F => Df.ok (k := 3) F sc_depths (fun vs H Q E h => ?_) (fun f cdv A outer s H vs Q E hr h => ⟨_, (pss_cons (ps_expr (pcD (dd_good_word T) (Fits.mk rfl rfl rfl rfl rfl) (hr.mono (by decide)) rfl passL (pa_cons (pv 0) (pa_cons pe_str pa_nil)))) (pss_one (ps_ret (pcD (dd__depth_list T) (Fits.mk rfl rfl rfl rfl rfl) (hr.mono (by decide)) rfl passL (pa_cons (pv 0) pa_nil))))), ?_⟩)) (fun _ _ _ _ _ _ us hl => match us, hl with | [_], _ => rfl)
  · obtain ⟨w, rfl, _⟩ := h
    rfl
  · obtain ⟨w, rfl, hw, hl, h1⟩ := h
    exact ⟨_, rfl, _, _, rfl, hw, hl, _, rfl, _, rfl, hl, h1⟩
theorem ok_check_standing (T : Fx c) {f : Addr} {fd : FuncData} (F : FunD c.K "check_standing" "check_standing" (defArgs st_check_standing) (defBody st_check_standing) (defScope st_check_standing) [.int 0] [] f fd) : FnOk PR c.w c.K c.mg c.base (CR c) 4 f fd ["word", "places", "limit", "phase", "most"] (sp_check_standing c) := by
  refine Df.ok (k := 3) F sc_check_standing (fun vs H Q E h => ?_) (fun f cdv A outer s H vs Q E hr h => ⟨_, (pss_cons (ps_expr (pcD (dd_good_word T) (Fits.mk rfl rfl rfl rfl rfl) (hr.mono (by decide)) rfl passL (pa_cons (pv 0) (pa_cons pe_str pa_nil)))) (pss_cons (ps_expr (pcD (dd_at_least T) (Fits.mk rfl rfl rfl rfl rfl) (hr.mono (by decide)) rfl passL (pa_cons (pv 1) (pa_cons pe_int (pa_cons pe_str pa_nil))))) (pss_cons (ps_expr (pcD (dd_at_least T) (Fits.mk rfl rfl rfl rfl rfl) (hr.mono (by decide)) rfl passL (pa_cons (pv 2) (pa_cons pe_int (pa_cons pe_str pa_nil))))) (pss_cons (ps_expr (pcD (dd_at_least T) (Fits.mk rfl rfl rfl rfl rfl) (hr.mono (by decide)) rfl passL (pa_cons (pv 3) (pa_cons pe_int (pa_cons pe_str pa_nil))))) (pss_cons (ps_expr (pcD (dd_at_least T) (Fits.mk rfl rfl rfl rfl rfl) (hr.mono (by decide)) rfl passL (pa_cons (pv 4) (pa_cons pe_int (pa_cons pe_str pa_nil))))) (pss_cons (ps_expr (pcD (dd_at_most T) (Fits.mk rfl rfl rfl rfl rfl) (hr.mono (by decide)) rfl passL (pa_cons (pe_callB call_len (by rfl) T.f_len (by decide +kernel) (pa_cons (pv 0) pa_nil)) (pa_cons (pv 1) (pa_cons pe_str pa_nil))))) (pss_cons (ps_expr (pcD (dd_at_most T) (Fits.mk rfl rfl rfl rfl rfl) (hr.mono (by decide)) rfl passL (pa_cons (pcD (dd_living T) (Fits.mk rfl rfl rfl rfl rfl) (hr.mono (by decide)) rfl passL (pa_cons (pv 0) pa_nil)) (pa_cons (pv 2) (pa_cons pe_str pa_nil))))) (pss_one (ps_expr (pcD (dd_at_most T) (Fits.mk rfl rfl rfl rfl rfl) (hr.mono (by decide)) rfl passL (pa_cons (pv 2) (pa_cons (pv 1) (pa_cons pe_str pa_nil))))))))))))), ?_⟩)
  · obtain ⟨w, p, N, ph, rfl, _⟩ := h
    rfl
  · obtain ⟨w, p, N, ph, rfl, ⟨hw, hN, hNp, hwp, ho, hp⟩, hQ⟩ := h
    obtain ⟨f1, f2, f3, f4, f5, f6⟩ := fld_len
    refine ⟨_, rfl, _, _, rfl, hw, by omega, ?_⟩
    refine ⟨_, rfl, _, _, _, rfl, f2, fun _ => ?_, fun z => absurd z (by omega)⟩
    refine ⟨_, rfl, _, _, _, rfl, f3, fun _ => ?_, fun z => absurd z (by omega)⟩
    refine ⟨_, rfl, _, _, _, rfl, f4, fun _ => ?_, fun z => absurd z (by omega)⟩
    refine ⟨_, rfl, _, _, _, rfl, f5, fun _ => ?_, fun z => absurd z (by omega)⟩
    refine ⟨_, rfl, _, _, rfl, ⟨by rw [tx_len]; exact sz1000 (by omega), rfl⟩, _, rfl, _, _, _, rfl, f1, fun _ => ?_, fun z => absurd z (by rw [tx_len]; omega)⟩
    refine ⟨_, rfl, _, rfl, hw, by omega, _, rfl, _, _, _, rfl, f1, fun _ => ?_, fun z => absurd z (by omega)⟩
    exact ⟨_, rfl, _, rfl, _, _, _, rfl, f3, fun _ => hQ, fun z => absurd z (by omega)⟩
theorem ds_check_standing (T : Fx c) : Dd c 4 "check_standing" ["word", "places", "limit", "phase", "most"] [.int 0] (sp_check_standing c) := by
  obtain ⟨f, fd, F, hm⟩ := T.d_check_standing.ex
  obtain ⟨ds, h1, h2⟩ := F.binds1 (ps := ["word", "places", "limit", "phase", "most"]) 4 0 (by simp) rfl fun Tp kV doc pm an cdv ct us its hu hi => match us, its, hu, hi with
    | [_, _, _, _], [_], _, _ => ⟨_, rfl, rfl⟩
  exact ⟨f, fd, ds, ok_check_standing T F, hm, F.kp, h1, h2⟩
end
end Cl
set_option Elab.async false
set_option linter.all false
set_option maxRecDepth 100000
set_option maxHeartbeats 4000000
/-! Rounds. -/
namespace Cl
open PySem PySem.Spec PyProof.Rows L2 Cm
theorem natV_int (bs : List Nat) : bs.map natV = (bs.map fun (n : Nat) => (n : Int)).map V.int := by
  rw [List.map_map]
  rfl
abbrev bsInt (bs : List Nat) : List Int := bs.map fun (n : Nat) => (n : Int)
/-- Round.__init__ within -/
def sp_R_init0 (c : Ctx) : Sp := fun vs H Q _ => ∃ (x p dx : Addr) (bs : List Nat), vs = [.ref x, .ref p] ∧ H x = some (.ins c.C dx []) ∧ H p = some (.tup (bs.map natV)) ∧ (0 < bs.length ∧ bs.length ≤ 12) ∧
  Q .non (upd H x (.ins c.C dx [("_budgets", .ref p)]))
def sp_R (c : Ctx) : Sp := fun vs H Q _ => ∃ (x dx : Addr) (bs : List Nat), vs = .ref x :: bs.map natV ∧ H x = some (.ins c.C dx []) ∧ (0 < bs.length ∧ bs.length ≤ 12) ∧
  ∀ p, H p = none → Q .non (upd (upd H p (.tup (bs.map natV))) x (.ins c.C dx [("_budgets", .ref p)]))
def sp_R_len (c : Ctx) : Sp := fun vs H Q _ => ∃ (a : Addr) (bs : List Nat), vs = [.ref a] ∧ Rd c H a bs ∧ Q (natV bs.length) H
def sp_R__window (c : Ctx) : Sp := fun vs H Q _ => ∃ (a : Addr) (bs : List Nat) (s n : Nat), vs = [.ref a, natV s, natV n] ∧ Rd c H a bs ∧ n ≤ 1000 ∧ ∀ H', Same H H' → Q (natV (tot bs s n)) H'
def sp_R__windows (c : Ctx) : Sp := fun vs H Q _ => ∃ (a : Addr) (bs : List Nat) (n : Nat), vs = [.ref a, natV n] ∧ Rd c H a bs ∧ n ≤ 1000 ∧ ∀ H' p, Same H H' → H' p = some (.lst (((List.range bs.length).map fun s => tot bs s n).map natV)) → Q (.ref p) H'
def sp_R_total (c : Ctx) : Sp := sp_R__window c
def sp_R_least (c : Ctx) : Sp := fun vs H Q _ => ∃ (a : Addr) (bs : List Nat) (n : Nat), vs = [.ref a, natV n] ∧ Rd c H a bs ∧ n ≤ 1000 ∧ ∀ H' z, Same H H' → (∃ i, i < bs.length ∧ z = tot bs i n) → (∀ i, i < bs.length → z ≤ tot bs i n) → Q (natV z) H'
def sp_R_add (c : Ctx) : Sp := fun vs H Q _ => ∃ (a b : Addr) (xs ys : List Nat), vs = [.ref a, .ref b] ∧ Rd c H a xs ∧ Rd c H b ys ∧ xs.length + ys.length ≤ 12 ∧ ∀ H' r, Same H H' → Rd c H' r (xs ++ ys) → Q (.ref r) H'
theorem fld_len2 : ("budgets" : Str).length ≤ 1000 ∧ ("start" : Str).length ≤ 1000 ∧ ("count" : Str).length ≤ 1000 := by decide +kernel
section
variable {c : Ctx}
theorem init_R (T : Fx c) : FnR PR c.w c.K c.mg c.base (CR c) 3 c.fR (sp_R c) := by
  obtain ⟨fd, F⟩ := T.dR_init
  obtain ⟨oc, od, dV, kV, doc, pm, an, cdv, ct, osl, rfl, lk, hcd, hD, hK⟩ := F.ex
  rcases hD with ⟨_, rfl⟩ | ⟨e, _⟩
  · refine FnR.imp (StX.fn_star (k := 2) (ps := ["self"]) (pv := "budgets") (sp := sp_R_init0 c) lk hcd sc_R_init StX.cxUp (StX.bind_star1 (B := fun us => bindArgs (PySem.W.fnOf "__init__" "Round.__init__" (defArgs st_R_init) (defBody st_R_init) (defScope st_R_init) .none kV doc pm an cdv ct) ⟨us, []⟩) (p1 := "self") (pv := "budgets") (fun _ => rfl) (fun _ _ _ => rfl)) ?_) ?_
    · intro A outer s H vs Q E hr h
      have key : ∃ t, PSs (bodyCx c N_R_init "Round.__init__" st_R_init c.fR cdv A outer s H E).nox (defBody st_R_init) t ∧ t { nx := fun _ H' => Q .non H', rt := Q } (start N_R_init vs) H := by
        refine ⟨_, (pss_cons (ps_if (pt_not (pt_chain op_le op_le pe_int (pe_callB call_len (by rfl) T.f_len (by decide +kernel) (pa_cons (pv 1) pa_nil)) (ClX.pe_cval (pe_glob (v := .ref c.C) rfl T.gR rfl)))) (pss_one ps_never) pss_nil) (pss_cons (ps_for PassesOwn.never rfl (pi_tup (pv 1)) (pg_name (i := 2) sc_R_init.nd rfl (Or.inl rfl)) (pss_cons (ps_expr (pcD (dd_whole_number T) (Fits.mk rfl rfl rfl rfl rfl) (hr.mono (by decide)) rfl passL (pa_cons (pv 2) (pa_cons pe_str pa_nil)))) (pss_one (ps_expr (pcD (dd_at_least T) (Fits.mk rfl rfl rfl rfl rfl) (hr.mono (by decide)) rfl passL (pa_cons (pv 2) (pa_cons pe_int (pa_cons pe_str pa_nil)))))))) (pss_one (ps_fld (pv 0) (pe_callTy call_tupleT (by rfl) T.f_tuple (by decide +kernel) (pa_cons (pv 1) pa_nil)) rfl)))), ?_⟩
        obtain ⟨x, p, dx, bs, rfl, hx, hp, ⟨hb1, hb2⟩, hQ⟩ := h
        obtain ⟨u, hu⟩ := T.most
        have hS : SqT c.K H p (bs.map natV) := .inl (.inl hp)
        have hxp : x ≠ p := fun z => by
          rw [z, hp] at hx
          cases hx
        refine ⟨_, rfl, _, _, rfl, .inr ⟨_, hS, rfl⟩, _, _, rfl, rfl, _, rfl, ?_⟩
        rw [List.length_map]
        refine ifT (decide_eq_true (by omega)) ⟨_, _, _, _, rfl, T.cr, hu, _, _, rfl, rfl, _, rfl, ?_⟩
        rw [decide_eq_true (show ((bs.length : Nat) : Int) ≤ 12 by omega)]
        refine iteF ⟨_, rfl, p, rfl, ⟨_, hS⟩, for_tup (K := c.K) (a := p) (xs := bs.map natV) (fun i σ H' => ∃ v : Option V, σ = [some (.ref x), some (.ref p), v] ∧ H' = H) ⟨none, rfl, rfl⟩ (fun i σ H' _ ⟨_, _, e⟩ => by rw [e]; exact hS) ?_ ?_⟩
        · rintro i y σ H' hi ⟨v, rfl, rfl⟩
          obtain ⟨z, rfl⟩ : ∃ z : Nat, y = natV z := by
            rw [List.getElem?_map] at hi
            cases q : bs[i]? with
            | none =>
              rw [q] at hi
              cases hi
            | some z =>
              rw [q] at hi
              exact ⟨z, (Option.some.inj hi).symm⟩
          refine ⟨_, rfl, _, _, rfl, ?_⟩
          exact ⟨_, rfl, _, _, _, rfl, fld_len2.1, fun _ => ⟨_, rfl, rfl⟩, fun z => absurd z (by omega)⟩
        · rintro σ H' ⟨v, rfl, rfl⟩
          refine ⟨_, rfl, _, _, rfl, hS, _, rfl, _, _, _, _, rfl, hx, T.cls, T.nb, by decide, hQ⟩
      obtain ⟨t, h1, h2⟩ := key
      exact ⟨t, PSs.nox h1, h2⟩
    · rintro vs H Q E ⟨x, dx, bs, rfl, hx, ⟨hb1, hb2⟩, hQ⟩
      refine ⟨[.ref x], bs.map natV, rfl, rfl, ?_, fun p hp => ⟨x, p, dx, bs, rfl, ?_, upd_same, ⟨hb1, hb2⟩, hQ p hp⟩⟩
      · rw [List.length_map]
        exact Nat.le_of_lt (small1000 (by omega))
      · rw [upd_ne (ne_of_none hx hp)]
        exact hx
  · exact absurd rfl e
/-- what a Round's making leaves -/
theorem rd_made {H : Hp} {x dx p : Addr} {bs : List Nat} (hb : 0 < bs.length ∧ bs.length ≤ 12) (h1 : H x = none) (h2 : H dx = none) (h3 : dx ≠ x) (hp : upd (upd H dx (.own x)) x (.ins c.C dx []) p = none) :
    Rd c (upd (upd (upd (upd H dx (.own x)) x (.ins c.C dx [])) p (.tup (bs.map natV))) x (.ins c.C dx [("_budgets", .ref p)])) x bs ∧
    Same H (upd (upd (upd (upd H dx (.own x)) x (.ins c.C dx [])) p (.tup (bs.map natV))) x (.ins c.C dx [("_budgets", .ref p)])) := by
  have hpx : p ≠ x := fun z => by
    rw [z, upd_same] at hp
    cases hp
  refine ⟨⟨hb, dx, p, upd_same, .inl (.inl ?_)⟩, fun b o q => ?_⟩
  · rw [upd_ne hpx, upd_same]
  · have n1 : b ≠ x := ne_of_none q h1
    have n2 : b ≠ dx := ne_of_none q h2
    have n3 : b ≠ p := fun z => by
      rw [← z, upd_ne n1, upd_ne n2, q] at hp
      cases hp
    rw [upd_ne n1, upd_ne n3, upd_ne n1, upd_ne n2]
    exact q
theorem de_R_len (T : Fx c) : De c 1 "__len__" ["self"] (sp_R_len c) := by
  refine De.of (st := st_R_len) T.d_R_len (fun f fd F => Df.ok (k := 0) F sc_R_len (fun vs H Q E h => ?_) (fun f cdv A outer s H vs Q E hr h => ⟨_, (pss_one (ps_ret (pe_callB call_len (by rfl) T.f_len (by decide +kernel) (pa_cons (pe_fld (pv 0) rfl) pa_nil)))), ?_⟩)) (fun _ _ _ _ _ _ us hl => match us, hl with | [_], _ => rfl)
  · obtain ⟨a, bs, rfl, _⟩ := h
    rfl
  · obtain ⟨a, bs, rfl, ⟨hb, dx, Tp, ha, hT⟩, hQ⟩ := h
    refine ⟨_, rfl, _, _, _, _, _, rfl, ha, T.cls, T.nb, rfl, _, _, rfl, .inr ⟨_, hT, rfl⟩, ?_⟩
    rw [List.length_map]
    exact hQ
theorem de_R__window (T : Fx c) : De c 3 "_window" ["self", "start", "count"] (sp_R__window c) := by
  refine De.of (st := st_R__window) T.d_R__window (fun f fd F => Df.ok (k := 2) F sc_R__window (fun vs H Q E h => ?_) (fun f cdv A outer s H vs Q E hr h => ⟨_, (pss_cons (ps_asg (pe_callB call_divmod (by rfl) T.f_divmod (by decide +kernel) (pa_cons (pv 2) (pa_cons (pe_callB call_len (by rfl) T.f_len (by decide +kernel) (pa_cons (pe_fld (pv 0) rfl) pa_nil)) pa_nil))) (pg_tup rfl (pgs_cons (pg_name (i := 3) sc_R__window.nd rfl (Or.inl rfl)) (pgs_cons (pg_name (i := 4) sc_R__window.nd rfl (Or.inl rfl)) pgs_nil)))) (pss_cons (ps_set (i := 5) sc_R__window.nd rfl (Or.inl rfl) (pe_op op_modN (pv 1) (pe_callB call_len (by rfl) T.f_len (by decide +kernel) (pa_cons (pe_fld (pv 0) rfl) pa_nil)))) (pss_cons (ps_set (i := 6) sc_R__window.nd rfl (Or.inl rfl) (pe_op op_catA (pe_fld (pv 0) rfl) (pe_fld (pv 0) rfl))) (pss_one (ps_ret (pe_op op_add (pe_op op_mul (pv 3) (pe_callB (call_sumT rfl) (by rfl) T.f_sum (by decide +kernel) (pa_cons (pe_fld (pv 0) rfl) pa_nil))) (pe_callB (call_sumT rfl) (by rfl) T.f_sum (by decide +kernel) (pa_cons (pe_slice sl_tupA (pv 6) (po_some (pv 5)) (po_some (pe_op op_add (pv 5) (pv 4)))) pa_nil)))))))), ?_⟩)) (fun _ _ _ _ _ _ us hl => match us, hl with | [_, _, _], _ => rfl)
  · obtain ⟨a, bs, st, n, rfl, _⟩ := h
    rfl
  · obtain ⟨a, bs, st, n, rfl, ⟨hb, dx, Tp, ha, hT⟩, hn, hQ⟩ := h
    refine ⟨_, rfl, _, rfl, _, _, _, _, _, rfl, ha, T.cls, T.nb, rfl, _, _, rfl, .inr ⟨_, hT, rfl⟩, ?_⟩
    rw [List.length_map]
    refine ⟨_, _, rfl, ⟨by omega, by omega⟩, fun p hp => ?_⟩
    have s1 : Same H (L2.upd H p (.tup [.int ((n : Int) / (bs.length : Int)), .int ((n : Int) % (bs.length : Int))])) := Same.new hp
    refine ⟨p, _, rfl, .inl (.inl upd_same), rfl, _, _, rfl, _, _, rfl, rfl, ?_⟩
    generalize hH1 : L2.upd H p (.tup [.int ((n : Int) / (bs.length : Int)), .int ((n : Int) % (bs.length : Int))]) = H1 at s1
    refine ⟨_, rfl, _, rfl, _, _, _, _, _, rfl, s1 _ _ ha, T.cls, T.nb, rfl, _, _, rfl, .inr ⟨_, Same.seqT s1 hT, rfl⟩, ?_⟩
    rw [List.length_map]
    refine ⟨_, _, rfl, rfl, by omega, ?_⟩
    refine ⟨_, rfl, _, _, _, _, _, rfl, s1 _ _ ha, T.cls, T.nb, rfl, _, rfl, _, _, _, _, _, rfl, s1 _ _ ha, T.cls, T.nb, rfl, _, _, _, _, rfl, rfl, Same.seqT s1 hT, Same.seqT s1 hT, ?_, ?_, ?_, ?_⟩
    · rw [List.length_map]
      exact Nat.le_of_lt (small1000 (by omega))
    · intro z
      have := congrArg List.length z
      rw [List.length_map] at this
      exact absurd this (by show ¬ bs.length = 0; omega)
    · intro _ z
      have := congrArg List.length z
      rw [List.length_map] at this
      exact absurd this (by show ¬ bs.length = 0; omega)
    · intro _ _ q hq
      have s2 : Same H (L2.upd H1 q (.tup (bs.map natV ++ bs.map natV))) := fun b o z => by
        have z1 := s1 b o z
        rw [upd_ne (ne_of_none z1 hq)]
        exact z1
      have e2 : bs.map natV ++ bs.map natV = (bs ++ bs).map natV := (List.map_append).symm
      generalize hH2 : L2.upd H1 q (.tup (bs.map natV ++ bs.map natV)) = H2 at s2
      have hq2 : SqT c.K H2 q ((bs ++ bs).map natV) := .inl (.inl (by rw [← hH2, upd_same, e2]))
      have hlt : st % bs.length < bs.length := Nat.mod_lt _ hb.1
      have hlt2 : n % bs.length < bs.length := Nat.mod_lt _ hb.1
      have ef : (st : Int).fmod (bs.length : Int) = ((st % bs.length : Nat) : Int) := by
        rw [Int.fmod_eq_emod_of_nonneg _ (by omega)]
        exact (Int.natCast_emod st bs.length).symm
      have er : (n : Int) % (bs.length : Int) = ((n % bs.length : Nat) : Int) := (Int.natCast_emod n bs.length).symm
      have et : (n : Int) / (bs.length : Int) = ((n / bs.length : Nat) : Int) := (Int.natCast_ediv n bs.length).symm
      have ht : n / bs.length ≤ 1000 := Nat.le_trans (Nat.div_le_self n bs.length) hn
      refine ⟨_, rfl, _, rfl, _, _, _, _, _, rfl, s2 _ _ ha, T.cls, T.nb, rfl, _, bsInt bs, rfl, ?_, ?_⟩
      · rw [← natV_int]
        exact Same.seqT s2 hT
      rw [sum_cast]
      refine ⟨_, _, rfl, rfl, .inl (by rw [et]; have z1 : (0 : Int) ≤ ((n / bs.length : Nat) : Int) := Int.natCast_nonneg _; have z2 : ((n / bs.length : Nat) : Int) ≤ ((1000 : Nat) : Int) := Int.ofNat_le.mpr ht; omega), ?_⟩
      refine ⟨_, rfl, _, rfl, _, rfl, _, rfl, _, rfl, _, _, rfl, rfl, _, rfl, _, _, rfl, hq2, ?_, ?_⟩
      · rintro ⟨z1, z2⟩
        exfalso
        rw [ef, er, ← Int.natCast_add, HT.sIx_nat, List.length_map, List.length_append] at z2
        rw [ef, HT.sIx_nat, List.length_map, List.length_append] at z1
        omega
      · intro _ q2 hq3
        have ecut : cutV ((bs ++ bs).map natV) (some ((st : Int).fmod (bs.length : Int))) (some ((st : Int).fmod (bs.length : Int) + (n : Int) % (bs.length : Int))) = (((bs ++ bs).drop (st % bs.length)).take (n % bs.length)).map natV := by
          unfold cutV
          rw [ef, er, ← Int.natCast_add, HT.sIx_nat, HT.sIx_nat, List.length_map, List.length_append, Nat.min_eq_left (by omega), Nat.min_eq_left (by omega), ← List.map_drop, ← List.map_take]
          congr 2
          omega
        refine ⟨_, bsInt (((bs ++ bs).drop (st % bs.length)).take (n % bs.length)), rfl, .inl (.inl ?_), _, _, rfl, rfl, ?_⟩
        · rw [upd_same, ← natV_int, ← ecut]
        rw [sum_cast]
        have s3 : Same H (L2.upd H2 q2 (.tup (cutV ((bs ++ bs).map natV) (some ((st : Int).fmod (bs.length : Int))) (some ((st : Int).fmod (bs.length : Int) + (n : Int) % (bs.length : Int)))))) := fun b o z => by
          have z1 := s2 b o z
          rw [upd_ne (ne_of_none z1 hq3)]
          exact z1
        refine cvi (Q := Q) (hQ _ s3) ?_
        rw [tot_window hb.1, et]
        first
          | (rw [Int.natCast_add, Int.natCast_mul])
          | simp
end
end Cl
set_option Elab.async false
set_option linter.all false
set_option maxRecDepth 100000
set_option maxHeartbeats 4000000
/-! Rounds: total, least, plus; the rule of the ring. -/
namespace Cl
open PySem PySem.Spec PyProof.Rows L2 Cm
def sp__check_order (c : Ctx) : Sp := fun vs H Q _ => ∃ (late : Bool), vs = [.bl late, .int 0, .int 0] ∧ Q .non H
def sp__lost_places (c : Ctx) : Sp := fun vs H Q _ => ∃ (late : Bool), vs = [.bl late, .int 0] ∧ Q (.int (if late then 1 else 0)) H
def sp_effective (c : Ctx) : Sp := fun vs H Q _ => ∃ (p N : Nat) (late : Bool), vs = [natV p, natV N, .bl late, .int 0, .int 0] ∧ 1 ≤ p ∧ 1 ≤ N ∧ p ≤ 1000 ∧ N ≤ 1000 ∧ ∀ H' t, Same H H' → H' t = some (.tup [natV (mOf p late), natV N]) → Q (.ref t) H'
def sp_ring_goes_on (c : Ctx) : Sp := fun vs H Q _ => ∃ (p N : Nat) (r : Addr) (bs : List Nat) (late : Bool), vs = [natV p, natV N, .ref r, .bl late, .int 0, .int 0] ∧ Rd c H r bs ∧ 1 ≤ p ∧ 1 ≤ N ∧ p ≤ 1000 ∧ N ≤ 1000 ∧
  ∀ H', Same H H' → Q (.bl (goesB bs N (mOf p late))) H'
theorem fld_len3 : ("tears" : Str).length ≤ 1000 ∧ ("readers" : Str).length ≤ 1000 := by decide +kernel
section
variable {c : Ctx}
theorem de_R__windows (T : Fx c) : De c 4 "_windows" ["self", "count"] (sp_R__windows c) := by
  refine De.of (st := st_R__windows) T.d_R__windows (fun f fd F => Df.ok (k := 3) F sc_R__windows (fun vs H Q E h => ?_) (fun f cdv A outer s H vs Q E hr h => ⟨_, (pss_one (ps_ret (pe_lc (own := [("start", 2)]) (g := gName 2) (tt := tYes) rfl sc_R__windows.nd (pi_range1 (by rfl) T.f_range (pa_cons (pe_callB call_len (by rfl) T.f_len (by decide +kernel) (pa_cons (pe_fld (pv 0) rfl) pa_nil)) pa_nil)) (blkOk_by (N := N_R__windows) (sc := defScope st_R__windows) (by decide +kernel)) (fun _ _ _ _ _ => (pg_name (i := 2) sc_R__windows.nd rfl (Or.inl rfl))) (fun _ _ _ _ _ => pts_nil) (fun _ _ _ _ _ => (pcM (de_R__window T) T.cls (Fits.mk rfl rfl rfl rfl rfl) (hr.mono (by decide)) passL (pv 0) (pa_cons (pv 2) (pa_cons (pv 1) pa_nil))))))), ?_⟩)) (fun _ _ _ _ _ _ us hl => match us, hl with | [_, _], _ => rfl)
  · obtain ⟨a, bs, n, rfl, _⟩ := h
    rfl
  · obtain ⟨a, bs, n, rfl, R, hn, hQ⟩ := h
    obtain ⟨hb, dx, Tp, ha, hT⟩ := id R
    refine ⟨_, rfl, _, _, _, _, _, rfl, ha, T.cls, T.nb, rfl, _, _, rfl, .inr ⟨_, hT, rfl⟩, ?_⟩
    rw [List.length_map]
    refine ⟨_, rfl, by omega, by omega, fun D hD => lc_range (lo := 0) (n := (bs.length : Int).toNat) (fun i H' => Same H H' ∧ H' D = some (.lst (((List.range i).map fun s => tot bs s n).map natV))) ⟨Same.new hD, upd_same⟩ ?_ ?_⟩
    · rintro i H' hi ⟨hS, hD'⟩
      refine ⟨rfl, _, rfl, a, dx, _, rfl, hS _ _ ha, rfl, _, rfl, _, rfl, ?_⟩
      refine ⟨a, bs, i, n, ?_, R.same hS, hn, fun H2 hS2 => ⟨_, hS2 _ _ hD', ?_, ?_, ?_⟩⟩
      · show [V.ref a, V.int (0 + (i : Int)), natV n] = _
        rw [Int.zero_add]
      · rw [List.length_map, List.length_map, List.length_range]
        exact small1000 (by omega)
      · exact fun b o q => by
          rw [upd_ne (ne_of_none q hD)]
          exact hS2 b o (hS b o q)
      · rw [upd_same, List.range_succ, List.map_append, List.map_append]
        rfl
    · rintro H' ⟨hS, hD'⟩
      rw [Int.toNat_natCast] at hD'
      exact hQ H' D hS hD'
theorem de_R_total (T : Fx c) : De c 4 "total" ["self", "start", "count"] (sp_R_total c) := by
  refine De.of (st := st_R_total) T.d_R_total (fun f fd F => Df.ok (k := 3) F sc_R_total (fun vs H Q E h => ?_) (fun f cdv A outer s H vs Q E hr h => ⟨_, (pss_cons (ps_expr (pcD (dd_at_least T) (Fits.mk rfl rfl rfl rfl rfl) (hr.mono (by decide)) rfl passL (pa_cons (pv 1) (pa_cons pe_int (pa_cons pe_str pa_nil))))) (pss_cons (ps_expr (pcD (dd_at_least T) (Fits.mk rfl rfl rfl rfl rfl) (hr.mono (by decide)) rfl passL (pa_cons (pv 2) (pa_cons pe_int (pa_cons pe_str pa_nil))))) (pss_one (ps_ret (pcM (de_R__window T) T.cls (Fits.mk rfl rfl rfl rfl rfl) (hr.mono (by decide)) passL (pv 0) (pa_cons (pv 1) (pa_cons (pv 2) pa_nil))))))), ?_⟩)) (fun _ _ _ _ _ _ us hl => match us, hl with | [_, _, _], _ => rfl)
  · obtain ⟨a, bs, st, n, rfl, _⟩ := h
    rfl
  · obtain ⟨a, bs, st, n, rfl, R, hn, hQ⟩ := h
    obtain ⟨hb, dx, Tp, ha, hT⟩ := id R
    refine ⟨_, rfl, _, _, _, rfl, fld_len2.2.1, fun _ => ?_, fun z => absurd z (by omega)⟩
    refine ⟨_, rfl, _, _, _, rfl, fld_len2.2.2, fun _ => ?_, fun z => absurd z (by omega)⟩
    exact ⟨_, rfl, a, dx, _, rfl, ha, rfl, _, rfl, _, rfl, a, bs, st, n, rfl, R, hn, hQ⟩
theorem de_R_least (T : Fx c) : De c 5 "least" ["self", "count"] (sp_R_least c) := by
  refine De.of (st := st_R_least) T.d_R_least (fun f fd F => Df.ok (k := 4) F sc_R_least (fun vs H Q E h => ?_) (fun f cdv A outer s H vs Q E hr h => ⟨_, (pss_cons (ps_expr (pcD (dd_at_least T) (Fits.mk rfl rfl rfl rfl rfl) (hr.mono (by decide)) rfl passL (pa_cons (pv 1) (pa_cons pe_int (pa_cons pe_str pa_nil))))) (pss_one (ps_ret (pe_callB (cr_min rfl) (by rfl) T.f_min (by decide +kernel) (pa_cons (pcM (de_R__windows T) T.cls (Fits.mk rfl rfl rfl rfl rfl) (hr.mono (by decide)) passL (pv 0) (pa_cons (pv 1) pa_nil)) pa_nil))))), ?_⟩)) (fun _ _ _ _ _ _ us hl => match us, hl with | [_, _], _ => rfl)
  · obtain ⟨a, bs, n, rfl, _⟩ := h
    rfl
  · obtain ⟨a, bs, n, rfl, R, hn, hQ⟩ := h
    obtain ⟨hb, dx, Tp, ha, hT⟩ := id R
    refine ⟨_, rfl, _, _, _, rfl, fld_len2.2.2, fun _ => ?_, fun z => absurd z (by omega)⟩
    refine ⟨_, rfl, a, dx, _, rfl, ha, rfl, _, rfl, a, bs, n, rfl, R, hn, fun H' p hS hp => ?_⟩
    refine ⟨p, bsInt ((List.range bs.length).map fun s => tot bs s n), rfl, SqL.of (by rw [hp, natV_int]), ?_, fun m hm hle => ?_⟩
    · rw [List.length_map, List.length_map, List.length_range]
      exact hb.1
    · obtain ⟨z, hz, rfl⟩ := List.mem_map.mp hm
      obtain ⟨i, hi, rfl⟩ := List.mem_map.mp hz
      refine hQ H' _ hS ⟨i, List.mem_range.mp hi, rfl⟩ fun j hj => ?_
      exact Int.ofNat_le.mp (hle _ (List.mem_map.mpr ⟨_, List.mem_map.mpr ⟨j, List.mem_range.mpr hj, rfl⟩, rfl⟩))
theorem de_R_add (T : Fx c) : De c 5 "__add__" ["self", "other"] (sp_R_add c) := by
  refine De.of (st := st_R_add) T.d_R_add (fun f fd F => Df.ok (k := 4) F sc_R_add (fun vs H Q E h => ?_) (fun f cdv A outer s H vs Q E hr h => ⟨_, (pss_cons (ps_if (pt_not (pt_val (pe_callB call_isi (by rfl) T.f_isinstance (by decide +kernel) (pa_cons (pv 1) (pa_cons (pe_glob (v := .ref c.C) rfl T.gR rfl) pa_nil))))) (pss_one ps_never) pss_nil) (pss_cons (ps_set (i := 2) sc_R_add.nd rfl (Or.inl rfl) (pe_op op_catA (pe_fld (pv 0) rfl) (pe_fld (pv 1) rfl))) (pss_one (ps_ret (pcMkS (init_R T) T.mkR (Fits.mk rfl rfl rfl rfl rfl) (hr.mono (by decide)) rfl T.gR passL (pv 2)))))), ?_⟩)) (fun _ _ _ _ _ _ us hl => match us, hl with | [_, _], _ => rfl)
  · obtain ⟨a, b, xs, ys, rfl, _⟩ := h
    rfl
  · obtain ⟨a, b, xs, ys, rfl, ⟨hb1, dx1, T1, ha1, hT1⟩, ⟨hb2, dx2, T2, ha2, hT2⟩, hl, hQ⟩ := h
    refine ⟨_, rfl, _, _, _, _, true, rfl, .own _, .base (.ins ha2 T.cls T.hn.ha T.hn.hn T.hn.htk T.hn.hm), ?_, _, rfl, ?_⟩
    · show (if (Value.ref c.C == Value.ref c.C) = true then some true else _) = some true
      rw [if_pos (beq_self_eq_true _)]
    refine iteF ⟨_, rfl, _, _, _, _, _, rfl, ha1, T.cls, T.nb, rfl, _, rfl, _, _, _, _, _, rfl, ha2, T.cls, T.nb, rfl, _, _, _, _, rfl, rfl, hT1, hT2, ?_, ?_, ?_, ?_⟩
    · rw [List.length_map, List.length_map]
      exact Nat.le_of_lt (small1000 (by omega))
    · intro z
      have := congrArg List.length z
      rw [List.length_map] at this
      exact absurd this (by show ¬ xs.length = 0; omega)
    · intro _ z
      have := congrArg List.length z
      rw [List.length_map] at this
      exact absurd this (by show ¬ ys.length = 0; omega)
    · intro _ _ p hp
      have hb : 0 < (xs ++ ys).length ∧ (xs ++ ys).length ≤ 12 := by
        rw [List.length_append]
        omega
      have s1 : Same H (L2.upd H p (.tup (xs.map natV ++ ys.map natV))) := Same.new hp
      refine ⟨_, rfl, _, _, rfl, .inl (.inl (.inl upd_same)), fun x dx h1 h2 h3 => ?_⟩
      refine ⟨x, dx, xs ++ ys, by rw [List.map_append], upd_same, hb, fun q hq => ⟨rfl, ?_⟩⟩
      obtain ⟨z1, z2⟩ := rd_made (c := c) hb h1 h2 h3 hq
      exact hQ _ x (s1.trans z2) z1
theorem dd__check_order (T : Fx c) : Dd c 3 "_check_order" ["late", "tears", "readers"] [] (sp__check_order c) := by
  refine Dd.of (st := st__check_order) T.d__check_order (fun f fd F => Df.ok (k := 2) F sc__check_order (fun vs H Q E h => ?_) (fun f cdv A outer s H vs Q E hr h => ⟨_, (pss_cons (ps_expr (pcD (dd_at_least T) (Fits.mk rfl rfl rfl rfl rfl) (hr.mono (by decide)) rfl passL (pa_cons (pv 1) (pa_cons pe_int (pa_cons pe_str pa_nil))))) (pss_cons (ps_expr (pcD (dd_at_least T) (Fits.mk rfl rfl rfl rfl rfl) (hr.mono (by decide)) rfl passL (pa_cons (pv 2) (pa_cons pe_int (pa_cons pe_str pa_nil))))) (pss_one (ps_if (pt_val (pv 0)) (pss_one (ps_expr (pcD (dd_at_most T) (Fits.mk rfl rfl rfl rfl rfl) (hr.mono (by decide)) rfl passL (pa_cons (pv 2) (pa_cons pe_int (pa_cons pe_str pa_nil)))))) (pss_one (ps_expr (pcD (dd_at_most T) (Fits.mk rfl rfl rfl rfl rfl) (hr.mono (by decide)) rfl passL (pa_cons (pv 1) (pa_cons pe_int (pa_cons pe_str pa_nil)))))))))), ?_⟩)) (fun _ _ _ _ _ _ us hl => match us, hl with | [_, _, _], _ => rfl)
  · obtain ⟨late, rfl, _⟩ := h
    rfl
  · obtain ⟨late, rfl, hQ⟩ := h
    refine ⟨_, rfl, _, _, _, rfl, fld_len3.1, fun _ => ?_, fun z => absurd z (by omega)⟩
    refine ⟨_, rfl, _, _, _, rfl, fld_len3.2, fun _ => ?_, fun z => absurd z (by omega)⟩
    refine ⟨_, rfl, _, rfl, ?_⟩
    cases late with
    | true => exact iteT ⟨_, rfl, _, _, _, rfl, fld_len3.2, fun _ => hQ, fun z => absurd z (by omega)⟩
    | false => exact iteF ⟨_, rfl, _, _, _, rfl, fld_len3.1, fun _ => hQ, fun z => absurd z (by omega)⟩
theorem dd__lost_places (T : Fx c) : Dd c 1 "_lost_places" ["late", "tears"] [] (sp__lost_places c) := by
  refine Dd.of (st := st__lost_places) T.d__lost_places (fun f fd F => Df.ok (k := 0) F sc__lost_places (fun vs H Q E h => ?_) (fun f cdv A outer s H vs Q E hr h => ⟨_, (pss_one (ps_ret (pe_ifExp (pt_val (pv 0)) (pe_op op_add pe_int (pv 1)) pe_int))), ?_⟩)) (fun _ _ _ _ _ _ us hl => match us, hl with | [_, _], _ => rfl)
  · obtain ⟨late, rfl, _⟩ := h
    rfl
  · obtain ⟨late, rfl, hQ⟩ := h
    refine ⟨_, rfl, _, rfl, ?_⟩
    cases late with
    | true => exact iteT ⟨_, rfl, _, _, rfl, rfl, hQ⟩
    | false => exact iteF hQ
theorem ok_effective (T : Fx c) {f : Addr} {fd : FuncData} (F : FunD c.K "effective" "effective" (defArgs st_effective) (defBody st_effective) (defScope st_effective) [] [("late", .bl false), ("tears", .int 0), ("readers", .int 0)] f fd) : FnOk PR c.w c.K c.mg c.base (CR c) 4 f fd ["places", "limit", "late", "tears", "readers"] (sp_effective c) := by
  refine Df.ok (k := 3) F sc_effective (fun vs H Q E h => ?_) (fun f cdv A outer s H vs Q E hr h => ⟨_, (pss_cons (ps_expr (pcD (dd_at_least T) (Fits.mk rfl rfl rfl rfl rfl) (hr.mono (by decide)) rfl passL (pa_cons (pv 0) (pa_cons pe_int (pa_cons pe_str pa_nil))))) (pss_cons (ps_expr (pcD (dd_at_least T) (Fits.mk rfl rfl rfl rfl rfl) (hr.mono (by decide)) rfl passL (pa_cons (pv 1) (pa_cons pe_int (pa_cons pe_str pa_nil))))) (pss_cons (ps_expr (pcD (dd__check_order T) (Fits.mk rfl rfl rfl rfl rfl) (hr.mono (by decide)) rfl passL (pa_cons (pv 2) (pa_cons (pv 3) (pa_cons (pv 4) pa_nil))))) (pss_one (ps_ret (pe_tup (pa_cons (pe_op op_sub (pv 0) (pcD (dd__lost_places T) (Fits.mk rfl rfl rfl rfl rfl) (hr.mono (by decide)) rfl passL (pa_cons (pv 2) (pa_cons (pv 3) pa_nil)))) (pa_cons (pe_op op_mul (pv 1) (pe_op op_add (pv 4) pe_int)) pa_nil)))))))), ?_⟩)
  · obtain ⟨p, N, late, rfl, _⟩ := h
    rfl
  · obtain ⟨p, N, late, rfl, hp, hN, hp2, hN2, hQ⟩ := h
    obtain ⟨f1, f2, f3, f4, f5, f6⟩ := fld_len
    refine ⟨_, rfl, _, _, _, rfl, f2, fun _ => ?_, fun z => absurd z (by omega)⟩
    refine ⟨_, rfl, _, _, _, rfl, f3, fun _ => ?_, fun z => absurd z (by omega)⟩
    refine ⟨_, rfl, _, rfl, _, rfl, late, rfl, ?_⟩
    refine ⟨_, rfl, _, rfl, _, rfl, late, rfl, _, _, rfl, rfl, _, rfl, _, rfl, _, _, rfl, rfl, _, _, rfl, rfl, .inl ⟨by omega, by omega⟩, by show 2 ≤ sizeLine; decide, fun t ht => hQ _ t (Same.new ht) ?_⟩
    rw [upd_same]
    congr 2
    show [V.int _, V.int _] = [V.int _, V.int _]
    congr 1
    · congr 1
      unfold mOf
      cases late with
      | true =>
        show (p : Int) - 1 = ((p - 1 : Nat) : Int)
        omega
      | false =>
        show (p : Int) - 0 = (p : Int)
        omega
    · congr 2
      omega
theorem dk_effective (T : Fx c) : Dk c 4 "effective" ["places", "limit", "late", "tears", "readers"] 2 ["late", "tears", "readers"] (fun vs zs => vs ++ zs) (sp_effective c) := by
  obtain ⟨f, fd, F, hm⟩ := T.d_effective.ex
  obtain ⟨mv, hb⟩ := F.kbinds0 (ps := ["places", "limit", "late", "tears", "readers"]) 2 ["late", "tears", "readers"] [] (fun us mv ws => us ++ ws) (by simp) (fun q hq => by cases hq) (fun r1 _ r3 => r1.append r3) fun D doc pm an cdv ct us mv ws h1 h2 h3 => match us, mv, ws, h1, h2, h3 with
    | [_, _], [], [_, _, _], _, _, _ => rfl
  exact ⟨f, fd, _, ok_effective T F, hm, F.kp, hb⟩
theorem ok_ring_goes_on (T : Fx c) {f : Addr} {fd : FuncData} (F : FunD c.K "ring_goes_on" "ring_goes_on" (defArgs st_ring_goes_on) (defBody st_ring_goes_on) (defScope st_ring_goes_on) [] [("late", .bl false), ("tears", .int 0), ("readers", .int 0)] f fd) : FnOk PR c.w c.K c.mg c.base (CR c) 6 f fd ["places", "limit", "budgets", "late", "tears", "readers"] (sp_ring_goes_on c) := by
  refine Df.ok (k := 5) F sc_ring_goes_on (fun vs H Q E h => ?_) (fun f cdv A outer s H vs Q E hr h => ⟨_, (pss_cons (ps_asg (pcK (dk_effective T) (Fits.mk rfl rfl rfl rfl rfl) (hr.mono (by decide)) rfl passL (pa_cons (pv 0) (pa_cons (pv 1) pa_nil)) (pk_cons (pv 3) (pk_cons (pv 4) (pk_cons (pv 5) pk_nil)))) (pg_tup rfl (pgs_cons (pg_name (i := 6) sc_ring_goes_on.nd rfl (Or.inl rfl)) (pgs_cons (pg_name (i := 7) sc_ring_goes_on.nd rfl (Or.inl rfl)) pgs_nil)))) (pss_one (ps_ret (pe_and (pe_cmpR op_le (pv 7) (pv 6) (nomark _)) (pe_one (pe_cmpR op_ge (pcM (de_R_least T) T.cls (Fits.mk rfl rfl rfl rfl rfl) (hr.mono (by decide)) passL (pv 2) (pa_cons (pe_op op_sub (pv 6) (pv 7)) pa_nil)) (pe_op op_sub (pv 7) pe_int) (nomark _))))))), ?_⟩)
  · obtain ⟨p, N, r, bs, late, rfl, _⟩ := h
    rfl
  · obtain ⟨p, N, r, bs, late, rfl, R, hp, hN, hp2, hN2, hQ⟩ := h
    refine ⟨_, rfl, _, rfl, _, rfl, _, rfl, _, rfl, rfl, rfl, p, N, late, rfl, hp, hN, hp2, hN2, fun H1 t hS ht => ?_⟩
    refine ⟨t, _, rfl, .inl (.inl ht), rfl, _, _, rfl, _, _, rfl, rfl, ?_⟩
    have hm : mOf p late ≤ 1000 := by
      unfold mOf
      split <;> omega
    refine ⟨_, rfl, _, rfl, _, _, rfl, rfl, _, rfl, ?_⟩
    by_cases q : N ≤ mOf p late
    · obtain ⟨hb, dx, Tp, ha, hT⟩ := id R
      refine ifT (decide_eq_true (by omega)) ⟨_, rfl, r, dx, _, rfl, hS _ _ ha, rfl, _, rfl, _, rfl, _, _, rfl, rfl, r, bs, mOf p late - N, ?_, R.same hS, by omega, fun H2 z hS2 z1 z2 => ?_⟩
      · show [V.ref r, V.int _] = [V.ref r, V.int _]
        congr 2
        congr 1
        omega
      · refine ⟨_, rfl, _, _, rfl, rfl, _, _, rfl, rfl, ?_⟩
        refine cvb (Q := Q) (hQ H2 (hS.trans hS2)) ?_
        rw [goesB_of q z1 z2]
        exact decide_eq_decide.mpr (by omega)
    · refine ifF (decide_eq_false (by omega)) (cvb (Q := Q) (hQ H1 hS) ?_)
      unfold goesB
      rw [decide_eq_false q, Bool.false_and]
theorem dk_ring_goes_on (T : Fx c) : Dk c 6 "ring_goes_on" ["places", "limit", "budgets", "late", "tears", "readers"] 3 ["late"] (fun vs zs => vs ++ zs ++ [.int 0, .int 0]) (sp_ring_goes_on c) := by
  obtain ⟨f, fd, F, hm⟩ := T.d_ring_goes_on.ex
  obtain ⟨mv, hb⟩ := F.kbinds0 (ps := ["places", "limit", "budgets", "late", "tears", "readers"]) 3 ["late"] [("tears", .int 0), ("readers", .int 0)] (fun us mv ws => us ++ ws ++ mv) (by simp) (fun q hq => List.mem_cons_of_mem _ hq) (fun r1 r2 r3 => (r1.append r3).append r2) fun D doc pm an cdv ct us mv ws h1 h2 h3 => match us, mv, ws, h1, h2, h3 with
    | [_, _, _], [_, _], [_], _, _, _ => ⟨_, _, _, _, _, _, rfl, rfl, ⟨_, _, _, _, _, _, rfl, rfl, rfl⟩⟩
  exact ⟨f, fd, _, ok_ring_goes_on T F, hm, F.kp, hb⟩
end
end Cl
set_option Elab.async false
set_option linter.all false
set_option maxRecDepth 100000
set_option maxHeartbeats 4000000
/-! Blocked, short, life, safe. -/
namespace Cl
open PySem PySem.Spec PyProof.Rows L2 Cm
def sp_blocked_now (c : Ctx) : Sp := fun vs H Q _ => ∃ (t m N ph : Nat) (a r : Addr) (D bs : List Nat), vs = [natV t, .ref a, natV m, natV N, .ref r, natV ph] ∧ SqL c.K H a (D.map natV) ∧ Rd c H r bs ∧ 1 ≤ N ∧ t ≤ 1000 ∧
  ∀ H', Same H H' → Q (.bl (blockedB bs ph N m D t)) H'
def sp_short_now (c : Ctx) : Sp := fun vs H Q _ => ∃ (t n m N ph : Nat) (r : Addr) (bs : List Nat), vs = [natV t, natV n, natV m, natV N, .ref r, natV ph] ∧ Rd c H r bs ∧ 1 ≤ N ∧ n ≤ N ∧ m - n ≤ t ∧ m ≤ 1000 ∧
  ∀ H', Same H H' → Q (.bl (shortB bs ph N m t)) H'
def optP (b : Bool) (v : V) : Prop := (b = false ∧ v = .non) ∨ (b = true ∧ ∃ n : Nat, v = natV n)
def sp_blocked_at (c : Ctx) : Sp := fun vs H Q _ => ∃ (w : List Bool) (p N ph : Nat) (r : Addr) (bs : List Nat) (late : Bool), vs = [.str (tx w), natV p, natV N, .ref r, natV ph, .bl late] ∧ StOk w p N ∧ Rd c H r bs ∧
  ∀ H' v, Same H H' → optP (anyBlocked bs ph N (mOf p late) (dep w)) v → Q v H'
def sp_short_at (c : Ctx) : Sp := fun vs H Q _ => ∃ (w : List Bool) (p N ph : Nat) (r : Addr) (bs : List Nat) (late : Bool), vs = [.str (tx w), natV p, natV N, .ref r, natV ph, .bl late] ∧ StOk w p N ∧ Rd c H r bs ∧
  ∀ H' v, Same H H' → optP (anyShort bs ph N (mOf p late) (ones w)) v → Q v H'
def sp_critical_put (c : Ctx) : Sp := fun vs H Q _ => ∃ (w : List Bool) (p N ph : Nat) (r : Addr) (bs : List Nat) (late : Bool), vs = [.str (tx w), natV p, natV N, .ref r, natV ph, .bl late] ∧ StOk w p N ∧ Rd c H r bs ∧
  ∀ H' v, Same H H' → optP (anyBlocked bs ph N (mOf p late) (dep w) || anyShort bs ph N (mOf p late) (ones w)) v → Q v H'
def sp_life (c : Ctx) : Sp := fun vs H Q _ => ∃ (w : List Bool) (p N ph : Nat) (r : Addr) (bs : List Nat) (late : Bool), vs = [.str (tx w), natV p, natV N, .ref r, natV ph, .bl late] ∧ StOk w p N ∧ Rd c H r bs ∧
  ∀ H' v, Same H H' → optP (!safeB bs ph N p late w) v → Q v H'
def sp_safe (c : Ctx) : Sp := fun vs H Q _ => ∃ (w : List Bool) (p N ph : Nat) (r : Addr) (bs : List Nat) (late : Bool), vs = [.str (tx w), natV p, natV N, .ref r, natV ph, .bl late] ∧ StOk w p N ∧ Rd c H r bs ∧
  ∀ H', Same H H' → Q (.bl (safeB bs ph N p late w)) H'
theorem any_lt {f : Nat → Bool} {n i : Nat} (h : i < n) (hf : f i = true) : (List.range n).any f = true := List.any_eq_true.mpr ⟨i, List.mem_range.mpr h, hf⟩
theorem any_no {f : Nat → Bool} {n : Nat} (h : ∀ i, i < n → f i = false) : (List.range n).any f = false := by
  refine Bool.eq_false_iff.mpr fun z => ?_
  obtain ⟨i, hi, e⟩ := List.any_eq_true.mp z
  rw [h i (List.mem_range.mp hi)] at e
  cases e
theorem mOf_le {p : Nat} {late : Bool} : mOf p late ≤ p := by
  unfold mOf
  split <;> omega
section
variable {c : Ctx}
theorem dd_blocked_now (T : Fx c) : Dd c 5 "blocked_now" ["t", "spots", "counted", "limit", "budgets", "phase"] [] (sp_blocked_now c) := by
  refine Dd.of (st := st_blocked_now) T.d_blocked_now (fun f fd F => Df.ok (k := 4) F sc_blocked_now (fun vs H Q E h => ?_) (fun f cdv A outer s H vs Q E hr h => ⟨_, (pss_cons (ps_if (pt_cmpR op_lt (pv 0) pe_int (nomark _)) (pss_one (ps_ret pe_bl)) pss_nil) (pss_cons (ps_set (i := 6) sc_blocked_now.nd rfl (Or.inl rfl) (pcM (de_R_total T) T.cls (Fits.mk rfl rfl rfl rfl rfl) (hr.mono (by decide)) passL (pv 4) (pa_cons (pv 5) (pa_cons (pv 0) pa_nil)))) (pss_cons (ps_if (pt_cmpR op_ge (pv 6) (pe_callB (call_min2 rfl) (by rfl) T.f_min (by decide +kernel) (pa_cons (pe_callB call_len (by rfl) T.f_len (by decide +kernel) (pa_cons (pv 1) pa_nil)) (pa_cons (pe_op op_sub (pv 3) pe_int) pa_nil))) (nomark _)) (pss_one (ps_ret pe_bl)) pss_nil) (pss_one (ps_ret (pe_cmpR op_ge (pe_op op_add (pe_op op_add (pe_ix ix_list (pv 1) (pv 6) (fun _ _ => rfl)) (pv 6)) (pv 0)) (pv 2) (nomark _))))))), ?_⟩)) (fun _ _ _ _ _ _ us hl => match us, hl with | [_, _, _, _, _, _], _ => rfl)
  · obtain ⟨t, m, N, ph, a, r, D, bs, rfl, _⟩ := h
    rfl
  · obtain ⟨t, m, N, ph, a, r, D, bs, rfl, hA, R, hN, ht, hQ⟩ := h
    refine ⟨_, rfl, _, _, rfl, rfl, _, rfl, ?_⟩
    refine ifF (decide_eq_false (by omega)) ?_
    obtain ⟨hb, dx, Tp, ha, hT⟩ := id R
    refine ⟨_, rfl, r, dx, _, rfl, ha, rfl, _, rfl, _, rfl, r, bs, ph, t, rfl, R, ht, fun H1 hS => ?_⟩
    refine ⟨_, rfl, _, rfl, _, _, rfl, .inl ⟨_, hS.seq hA, rfl⟩, ?_⟩
    rw [List.length_map]
    refine ⟨_, rfl, _, _, rfl, rfl, _, _, rfl, _, _, rfl, rfl, _, rfl, ?_⟩
    by_cases q : tot bs ph t < min D.length (N - 1)
    · refine ifF (decide_eq_false (by split <;> omega)) ?_
      obtain ⟨d, hd⟩ : ∃ d, D[tot bs ph t]? = some d := ⟨_, List.getElem?_eq_getElem (by omega)⟩
      refine ⟨_, rfl, _, rfl, _, _, _, _, rfl, rfl, hS.seq hA, atI_nat (by rw [List.getElem?_map, hd]; rfl), _, rfl, _, _, rfl, rfl, _, rfl, _, _, rfl, rfl, _, rfl, _, _, rfl, rfl, ?_⟩
      refine cvb (Q := Q) (hQ H1 hS) ?_
      unfold blockedB
      rw [decide_eq_true q, Bool.true_and, List.getD_eq_getElem?_getD, hd]
      exact decide_eq_decide.mpr (by
        show m ≤ d + tot bs ph t + t ↔ _
        omega)
    · refine ifT (decide_eq_true (by split <;> omega)) ?_
      refine cvb (Q := Q) (hQ H1 hS) ?_
      unfold blockedB
      rw [decide_eq_false q, Bool.false_and]
theorem dd_short_now (T : Fx c) : Dd c 5 "short_now" ["t", "ones", "counted", "limit", "budgets", "phase"] [] (sp_short_now c) := by
  refine Dd.of (st := st_short_now) T.d_short_now (fun f fd F => Df.ok (k := 4) F sc_short_now (fun vs H Q E h => ?_) (fun f cdv A outer s H vs Q E hr h => ⟨_, (pss_cons (ps_if (pt_cmpR op_lt (pv 0) (pe_callB (call_max2 rfl) (by rfl) T.f_max (by decide +kernel) (pa_cons pe_int (pa_cons (pe_op op_sub (pv 2) (pv 1)) pa_nil))) (nomark _)) (pss_one (ps_ret pe_bl)) pss_nil) (pss_cons (ps_set (i := 6) sc_short_now.nd rfl (Or.inl rfl) (pe_op op_sub (pv 2) (pv 3))) (pss_cons (ps_if (pt_cmpR op_lt (pv 6) pe_int (nomark _)) (pss_one (ps_ret pe_bl)) pss_nil) (pss_one (ps_ret (pe_cmpR op_lt (pcM (de_R_total T) T.cls (Fits.mk rfl rfl rfl rfl rfl) (hr.mono (by decide)) passL (pv 4) (pa_cons (pe_op op_sub (pe_op op_add (pv 5) (pv 0)) (pv 6)) (pa_cons (pv 6) pa_nil))) (pe_op op_sub (pv 3) pe_int) (nomark _))))))), ?_⟩)) (fun _ _ _ _ _ _ us hl => match us, hl with | [_, _, _, _, _, _], _ => rfl)
  · obtain ⟨t, n, m, N, ph, r, bs, rfl, _⟩ := h
    rfl
  · obtain ⟨t, n, m, N, ph, r, bs, rfl, R, hN, hn, ht, hm, hQ⟩ := h
    refine ⟨_, rfl, _, rfl, _, rfl, _, _, rfl, rfl, _, _, rfl, _, _, rfl, rfl, _, rfl, ?_⟩
    refine ifF (decide_eq_false (by split <;> omega)) ?_
    refine ⟨_, rfl, _, rfl, _, _, rfl, rfl, _, rfl, _, _, rfl, rfl, _, rfl, ?_⟩
    by_cases q : m < N
    · refine ifT (decide_eq_true (by omega)) (cvb (Q := Q) (hQ H (Same.refl H)) ?_)
      unfold shortB
      rw [decide_eq_true q, Bool.true_or]
    · refine ifF (decide_eq_false (by omega)) ?_
      obtain ⟨hb, dx, Tp, ha, hT⟩ := id R
      refine ⟨_, rfl, r, dx, _, rfl, ha, rfl, _, rfl, _, rfl, _, _, rfl, rfl, _, rfl, _, _, rfl, rfl, _, rfl, r, bs, ph + t - (m - N), m - N, ?_, R, by omega, fun H1 hS => ?_⟩
      · show [V.ref r, V.int _, V.int _] = [V.ref r, V.int _, V.int _]
        congr 2
        · congr 1
          omega
        · congr 2
          omega
      · refine ⟨_, rfl, _, _, rfl, rfl, _, _, rfl, rfl, ?_⟩
        refine cvb (Q := Q) (hQ H1 hS) ?_
        unfold shortB
        rw [decide_eq_false q, Bool.false_or]
        exact decide_eq_decide.mpr (by omega)
theorem ok_blocked_at (T : Fx c) {f : Addr} {fd : FuncData} (F : FunD c.K "blocked_at" "blocked_at" (defArgs st_blocked_at) (defBody st_blocked_at) (defScope st_blocked_at) [.int 0] [("late", .bl false)] f fd) : FnOk PR c.w c.K c.mg c.base (CR c) 6 f fd ["word", "places", "limit", "budgets", "phase", "late"] (sp_blocked_at c) := by
  refine Df.ok (k := 5) F sc_blocked_at (fun vs H Q E h => ?_) (fun f cdv A outer s H vs Q E hr h => ⟨_, (pss_cons (ps_expr (pcD (ds_check_standing T) (Fits.mk rfl rfl rfl rfl rfl) (hr.mono (by decide)) rfl passL (pa_cons (pv 0) (pa_cons (pv 1) (pa_cons (pv 2) (pa_cons (pv 4) pa_nil)))))) (pss_cons (ps_set (i := 6) sc_blocked_at.nd rfl (Or.inl rfl) (pcD (dd_counted_places T) (Fits.mk rfl rfl rfl rfl rfl) (hr.mono (by decide)) rfl passL (pa_cons (pv 1) (pa_cons (pv 5) pa_nil)))) (pss_cons (ps_set (i := 7) sc_blocked_at.nd rfl (Or.inl rfl) (pcD (dd_depths T) (Fits.mk rfl rfl rfl rfl rfl) (hr.mono (by decide)) rfl passL (pa_cons (pv 0) pa_nil))) (pss_cons (ps_for PassesOwn.never rfl (pi_range1 (by rfl) T.f_range (pa_cons (pv 6) pa_nil)) (pg_name (i := 8) sc_blocked_at.nd rfl (Or.inl rfl)) (pss_one (ps_if (pt_val (pcD (dd_blocked_now T) (Fits.mk rfl rfl rfl rfl rfl) (hr.mono (by decide)) rfl passL (pa_cons (pv 8) (pa_cons (pv 7) (pa_cons (pv 6) (pa_cons (pv 2) (pa_cons (pv 3) (pa_cons (pv 4) pa_nil)))))))) (pss_one (ps_ret (pv 8))) pss_nil))) (pss_one (ps_ret pe_non)))))), ?_⟩)
  · obtain ⟨w, p, N, ph, r, bs, late, rfl, _⟩ := h
    rfl
  · obtain ⟨w, p, N, ph, r, bs, late, rfl, K0, R, hQ⟩ := h
    obtain ⟨hw, hN, hNp, hwp, ho, hp⟩ := id K0
    refine ⟨_, rfl, _, rfl, _, rfl, _, rfl, w, p, N, ph, rfl, K0, ?_⟩
    refine ⟨_, rfl, _, rfl, p, late, rfl, by omega, ?_⟩
    refine ⟨_, rfl, w, rfl, hw, by omega, fun H1 a hS ha0 ha => ?_⟩
    have hml := mOf_le (p := p) (late := late)
    refine ⟨_, rfl, _, rfl, by show -(2 ^ 62) ≤ ((mOf p late : Nat) : Int); omega, by show ((mOf p late : Nat) : Int) < 2 ^ 62; omega, for_range (lo := 0) (n := ((mOf p late : Nat) : Int).toNat) (fun i σ H' => (∃ v : Option V, σ = [some (.str (tx w)), some (natV p), some (natV N), some (.ref r), some (natV ph), some (.bl late), some (natV (mOf p late)), some (.ref a), v]) ∧ Same H1 H' ∧ ∀ t, t < i → blockedB bs ph N (mOf p late) (dep w) t = false) ⟨⟨none, rfl⟩, Same.refl _, fun t z => absurd z (Nat.not_lt_zero _)⟩ ?_ ?_⟩
    · rintro i σ H' hi ⟨⟨v, rfl⟩, hS', hno⟩
      refine ⟨_, rfl, _, rfl, _, rfl, _, rfl, _, rfl, _, rfl, i, mOf p late, N, ph, a, r, dep w, bs, ?_, .inl (.inl (hS' _ _ ha)), R.same (hS.trans hS'), hN, by omega, fun H2 hS2 => ⟨_, rfl, ?_⟩⟩
      · show [V.int (0 + (i : Int)), V.ref a, _, _, _, _] = _
        rw [Int.zero_add]
      · refine ifB (fun e => ⟨_, rfl, ?_⟩) (fun e => ⟨⟨_, rfl⟩, hS'.trans hS2, fun t ht => ?_⟩)
        · refine hQ H2 _ ((hS.trans hS').trans hS2) (.inr ⟨any_lt (i := i) (by omega) e, i, ?_⟩)
          show V.int (0 + (i : Int)) = V.int (i : Int)
          rw [Int.zero_add]
        · by_cases q : t < i
          · exact hno t q
          · have : t = i := by omega
            subst this
            exact e
    · rintro σ H' ⟨⟨v, rfl⟩, hS', hno⟩
      refine hQ H' _ (hS.trans hS') (.inl ⟨any_no fun t ht => hno t (by omega), rfl⟩)
theorem dk_blocked_at (T : Fx c) : Dk c 6 "blocked_at" ["word", "places", "limit", "budgets", "phase", "late"] 5 ["late"] (fun vs zs => vs ++ zs) (sp_blocked_at c) := by
  obtain ⟨f, fd, F, hm⟩ := T.d_blocked_at.ex
  obtain ⟨its, mv, hb⟩ := F.kbinds (ps := ["word", "places", "limit", "budgets", "phase", "late"]) 5 ["late"] [] (fun us _ _ ws => us ++ ws) (by simp) (by simp) (fun q hq => by cases hq) (fun r1 _ _ r3 => r1.append r3) fun Tp D doc pm an cdv ct us its mv ws h1 h2 h3 h4 => match us, its, mv, ws, h1, h2, h3, h4 with
    | [_, _, _, _, _], [_], [], [_], _, _, _, _ => ⟨_, rfl, rfl⟩
  exact ⟨f, fd, _, ok_blocked_at T F, hm, F.kp, hb⟩
theorem ok_short_at (T : Fx c) {f : Addr} {fd : FuncData} (F : FunD c.K "short_at" "short_at" (defArgs st_short_at) (defBody st_short_at) (defScope st_short_at) [.int 0] [("late", .bl false)] f fd) : FnOk PR c.w c.K c.mg c.base (CR c) 6 f fd ["word", "places", "limit", "budgets", "phase", "late"] (sp_short_at c) := by
  refine Df.ok (k := 5) F sc_short_at (fun vs H Q E h => ?_) (fun f cdv A outer s H vs Q E hr h => ⟨_, (pss_cons (ps_expr (pcD (ds_check_standing T) (Fits.mk rfl rfl rfl rfl rfl) (hr.mono (by decide)) rfl passL (pa_cons (pv 0) (pa_cons (pv 1) (pa_cons (pv 2) (pa_cons (pv 4) pa_nil)))))) (pss_cons (ps_set (i := 6) sc_short_at.nd rfl (Or.inl rfl) (pcD (dd_counted_places T) (Fits.mk rfl rfl rfl rfl rfl) (hr.mono (by decide)) rfl passL (pa_cons (pv 1) (pa_cons (pv 5) pa_nil)))) (pss_cons (ps_set (i := 7) sc_short_at.nd rfl (Or.inl rfl) (pcD (dd_living T) (Fits.mk rfl rfl rfl rfl rfl) (hr.mono (by decide)) rfl passL (pa_cons (pv 0) pa_nil))) (pss_cons (ps_set (i := 8) sc_short_at.nd rfl (Or.inl rfl) (pe_callB (call_max2 rfl) (by rfl) T.f_max (by decide +kernel) (pa_cons pe_int (pa_cons (pe_op op_sub (pv 6) (pv 7)) pa_nil)))) (pss_cons (ps_for PassesOwn.never rfl (pi_range2 (by rfl) T.f_range (pa_cons (pv 8) (pa_cons (pe_op op_add (pv 8) (pe_callB (pcLen (de_R_len T) (Fits.mk rfl rfl rfl rfl rfl) (hr.mono (by decide))) (by rfl) T.f_len (by decide +kernel) (pa_cons (pv 3) pa_nil))) pa_nil))) (pg_name (i := 9) sc_short_at.nd rfl (Or.inl rfl)) (pss_one (ps_if (pt_val (pcD (dd_short_now T) (Fits.mk rfl rfl rfl rfl rfl) (hr.mono (by decide)) rfl passL (pa_cons (pv 9) (pa_cons (pv 7) (pa_cons (pv 6) (pa_cons (pv 2) (pa_cons (pv 3) (pa_cons (pv 4) pa_nil)))))))) (pss_one (ps_ret (pv 9))) pss_nil))) (pss_one (ps_ret pe_non))))))), ?_⟩)
  · obtain ⟨w, p, N, ph, r, bs, late, rfl, _⟩ := h
    rfl
  · obtain ⟨w, p, N, ph, r, bs, late, rfl, K0, R, hQ⟩ := h
    obtain ⟨hw, hN, hNp, hwp, ho, hp⟩ := id K0
    obtain ⟨hbl, dx, Tp, ha, hT⟩ := id R
    refine ⟨_, rfl, _, rfl, _, rfl, _, rfl, w, p, N, ph, rfl, K0, ?_⟩
    refine ⟨_, rfl, _, rfl, p, late, rfl, by omega, ?_⟩
    refine ⟨_, rfl, w, rfl, hw, by omega, ?_⟩
    have hml := mOf_le (p := p) (late := late)
    have hfirst : (if ((mOf p late : Nat) : Int) - ((ones w : Nat) : Int) > 0 then ((mOf p late : Nat) : Int) - ((ones w : Nat) : Int) else 0) = ((mOf p late - ones w : Nat) : Int) := by
      split <;> omega
    refine ⟨_, rfl, _, rfl, _, _, rfl, rfl, _, _, rfl, ?_⟩
    rw [hfirst]
    refine ⟨_, rfl, _, rfl, _, rfl, r, dx, _, rfl, ha, _, bs, rfl, R, _, rfl, ⟨by omega, by omega⟩, _, _, rfl, rfl, _, _, rfl, ⟨by omega, by omega, by omega, by omega⟩, ?_⟩
    refine for_range (n := (((mOf p late - ones w : Nat) : Int) + (bs.length : Int) - ((mOf p late - ones w : Nat) : Int)).toNat) (fun i σ H' => (∃ v : Option V, σ = [some (.str (tx w)), some (natV p), some (natV N), some (.ref r), some (natV ph), some (.bl late), some (natV (mOf p late)), some (natV (ones w)), some (natV (mOf p late - ones w)), v]) ∧ Same H H' ∧ ∀ t, t < i → shortB bs ph N (mOf p late) (mOf p late - ones w + t) = false) ⟨⟨none, rfl⟩, Same.refl _, fun t z => absurd z (Nat.not_lt_zero _)⟩ ?_ ?_
    · rintro i σ H' hi ⟨⟨v, rfl⟩, hS', hno⟩
      refine ⟨_, rfl, _, rfl, _, rfl, _, rfl, _, rfl, _, rfl, mOf p late - ones w + i, ones w, mOf p late, N, ph, r, bs, ?_, R.same hS', hN, ho, by omega, by omega, fun H2 hS2 => ⟨_, rfl, ?_⟩⟩
      · show [V.int (((mOf p late - ones w : Nat) : Int) + (i : Int)), _, _, _, _, _] = _
        rw [← Int.natCast_add]
      · refine ifB (fun e => ⟨_, rfl, ?_⟩) (fun e => ⟨⟨_, rfl⟩, hS'.trans hS2, fun t ht => ?_⟩)
        · refine hQ H2 _ (hS'.trans hS2) (.inr ⟨any_lt (i := i) (by omega) e, mOf p late - ones w + i, ?_⟩)
          show V.int (((mOf p late - ones w : Nat) : Int) + (i : Int)) = _
          rw [← Int.natCast_add]
        · by_cases q : t < i
          · exact hno t q
          · have : t = i := by omega
            subst this
            exact e
    · rintro σ H' ⟨⟨v, rfl⟩, hS', hno⟩
      refine hQ H' _ hS' (.inl ⟨any_no fun t ht => hno t (by omega), rfl⟩)
theorem dk_short_at (T : Fx c) : Dk c 6 "short_at" ["word", "places", "limit", "budgets", "phase", "late"] 5 ["late"] (fun vs zs => vs ++ zs) (sp_short_at c) := by
  obtain ⟨f, fd, F, hm⟩ := T.d_short_at.ex
  obtain ⟨its, mv, hb⟩ := F.kbinds (ps := ["word", "places", "limit", "budgets", "phase", "late"]) 5 ["late"] [] (fun us _ _ ws => us ++ ws) (by simp) (by simp) (fun q hq => by cases hq) (fun r1 _ _ r3 => r1.append r3) fun Tp D doc pm an cdv ct us its mv ws h1 h2 h3 h4 => match us, its, mv, ws, h1, h2, h3, h4 with
    | [_, _, _, _, _], [_], [], [_], _, _, _, _ => ⟨_, rfl, rfl⟩
  exact ⟨f, fd, _, ok_short_at T F, hm, F.kp, hb⟩
theorem dd_critical_put (T : Fx c) : Dd c 7 "critical_put" ["word", "places", "limit", "budgets", "phase", "late"] [] (sp_critical_put c) := by
  refine Dd.of (st := st_critical_put) T.d_critical_put (fun f fd F => Df.ok (k := 6) F sc_critical_put (fun vs H Q E h => ?_) (fun f cdv A outer s H vs Q E hr h => ⟨_, (pss_cons (ps_set (i := 6) sc_critical_put.nd rfl (Or.inl rfl) (pcK (dk_blocked_at T) (Fits.mk rfl rfl rfl rfl rfl) (hr.mono (by decide)) rfl passL (pa_cons (pv 0) (pa_cons (pv 1) (pa_cons (pv 2) (pa_cons (pv 3) (pa_cons (pv 4) pa_nil))))) (pk_cons (pv 5) pk_nil))) (pss_cons (ps_set (i := 7) sc_critical_put.nd rfl (Or.inl rfl) (pcK (dk_short_at T) (Fits.mk rfl rfl rfl rfl rfl) (hr.mono (by decide)) rfl passL (pa_cons (pv 0) (pa_cons (pv 1) (pa_cons (pv 2) (pa_cons (pv 3) (pa_cons (pv 4) pa_nil))))) (pk_cons (pv 5) pk_nil))) (pss_cons (ps_if (pt_cmpR op_isN (pv 6) pe_non (nomark _)) (pss_one (ps_ret (pv 7))) pss_nil) (pss_cons (ps_if (pt_cmpR op_isN (pv 7) pe_non (nomark _)) (pss_one (ps_ret (pv 6))) pss_nil) (pss_one (ps_ret (pe_callB (call_min2 rfl) (by rfl) T.f_min (by decide +kernel) (pa_cons (pv 6) (pa_cons (pv 7) pa_nil))))))))), ?_⟩)) (fun _ _ _ _ _ _ us hl => match us, hl with | [_, _, _, _, _, _], _ => rfl)
  · obtain ⟨w, p, N, ph, r, bs, late, rfl, _⟩ := h
    rfl
  · obtain ⟨w, p, N, ph, r, bs, late, rfl, K0, R, hQ⟩ := h
    refine ⟨_, rfl, _, rfl, _, rfl, _, rfl, _, rfl, _, rfl, rfl, rfl, w, p, N, ph, r, bs, late, rfl, K0, R, fun H1 v1 hS1 o1 => ?_⟩
    refine ⟨_, rfl, _, rfl, _, rfl, _, rfl, _, rfl, _, rfl, rfl, rfl, w, p, N, ph, r, bs, late, rfl, K0, R.same hS1, fun H2 v2 hS2 o2 => ?_⟩
    have hS := hS1.trans hS2
    refine ⟨_, rfl, rfl, _, rfl, ?_⟩
    rcases o1 with ⟨e1, rfl⟩ | ⟨e1, n1, rfl⟩
    · refine ifT (decide_eq_true rfl) ⟨_, rfl, hQ H2 _ hS ?_⟩
      rw [e1, Bool.false_or]
      exact o2
    · refine ifF (decide_eq_false (by intro z; cases z)) ⟨_, rfl, rfl, _, rfl, ?_⟩
      rcases o2 with ⟨e2, rfl⟩ | ⟨e2, n2, rfl⟩
      · refine ifT (decide_eq_true rfl) ⟨_, rfl, hQ H2 _ hS (.inr ⟨?_, n1, rfl⟩)⟩
        rw [e1, Bool.true_or]
      · refine ifF (decide_eq_false (by intro z; cases z)) ⟨_, rfl, _, rfl, _, _, rfl, hQ H2 _ hS (.inr ⟨?_, if (n2 : Int) < n1 then n2 else n1, ?_⟩)⟩
        · rw [e1, Bool.true_or]
        · show V.int _ = V.int _
          congr 1
          split <;> rfl
theorem ok_life (T : Fx c) {f : Addr} {fd : FuncData} (F : FunD c.K "life" "life" (defArgs st_life) (defBody st_life) (defScope st_life) [.int 0] [("late", .bl false)] f fd) : FnOk PR c.w c.K c.mg c.base (CR c) 8 f fd ["word", "places", "limit", "budgets", "phase", "late"] (sp_life c) := by
  refine Df.ok (k := 7) F sc_life (fun vs H Q E h => ?_) (fun f cdv A outer s H vs Q E hr h => ⟨_, (pss_cons (ps_expr (pcD (ds_check_standing T) (Fits.mk rfl rfl rfl rfl rfl) (hr.mono (by decide)) rfl passL (pa_cons (pv 0) (pa_cons (pv 1) (pa_cons (pv 2) (pa_cons (pv 4) pa_nil)))))) (pss_cons (ps_if (PW.pt (pw_and (pt_val (pv 5)) (pw_and1 (pt_cmpR op_eq (pe_callB call_len (by rfl) T.f_len (by decide +kernel) (pa_cons (pv 0) pa_nil)) (pv 1) (nomark _))))) (pss_one (ps_ret pe_int)) pss_nil) (pss_cons (ps_set (i := 6) sc_life.nd rfl (Or.inl rfl) (pcD (dd_critical_put T) (Fits.mk rfl rfl rfl rfl rfl) (hr.mono (by decide)) rfl passL (pa_cons (pv 0) (pa_cons (pv 1) (pa_cons (pv 2) (pa_cons (pv 3) (pa_cons (pv 4) (pa_cons (pv 5) pa_nil)))))))) (pss_cons (ps_if (pt_cmpR op_isN (pv 6) pe_non (nomark _)) (pss_one (ps_ret pe_non)) pss_nil) (pss_cons (ps_if (pt_val (pv 5)) (pss_one (ps_ret (pe_op op_add (pv 6) pe_int))) pss_nil) (pss_one (ps_ret (pv 6)))))))), ?_⟩)
  · obtain ⟨w, p, N, ph, r, bs, late, rfl, _⟩ := h
    rfl
  · obtain ⟨w, p, N, ph, r, bs, late, rfl, K0, R, hQ⟩ := h
    obtain ⟨hw, hN, hNp, hwp, ho, hp⟩ := id K0
    refine ⟨_, rfl, _, rfl, _, rfl, _, rfl, w, p, N, ph, rfl, K0, ?_⟩
    refine ⟨_, rfl, _, rfl, ?_⟩
    have rest : (late && decide (w.length = p)) = false → tSeq (tAsg (tCall (sp_critical_put c) [] E0 (tCons (tVar 0) (tCons (tVar 1) (tCons (tVar 2) (tCons (tVar 3) (tCons (tVar 4) (tCons (tVar 5) tNil))))))) (gName 6)) (tSeq (tIfS (tTest (tOp (fun x y H Q => y = V.non ∧ Q (V.bl (decide (x = V.non))) H) (tVar 6) (tC .non))) (tRet (tC .non)) tNext)
        (tSeq (tIfS (tTest (tVar 5)) (tRet (tOp (rI0 fun i j => .int (i + j)) (tVar 6) (tC (.int 1)))) tNext) (tRet (tVar 6)))) { nx := fun _ H' => Q .non H', rt := Q } (start N_life [V.str (tx w), natV p, natV N, V.ref r, natV ph, V.bl late]) H := by
      intro hfull
      refine ⟨_, rfl, _, rfl, _, rfl, _, rfl, _, rfl, _, rfl, w, p, N, ph, r, bs, late, rfl, K0, R, fun H1 v1 hS1 o1 => ?_⟩
      refine ⟨_, rfl, rfl, _, rfl, ?_⟩
      have es : safeB bs ph N p late w = !(anyBlocked bs ph N (mOf p late) (dep w) || anyShort bs ph N (mOf p late) (ones w)) := by
        unfold safeB
        rw [hfull]
        rfl
      rcases o1 with ⟨e1, rfl⟩ | ⟨e1, n1, rfl⟩
      · refine ifT (decide_eq_true rfl) (hQ H1 _ hS1 (.inl ⟨?_, rfl⟩))
        rw [es, e1]
        rfl
      · have e2 : (!safeB bs ph N p late w) = true := by
          rw [es, e1]
          rfl
        refine ifF (decide_eq_false (by intro z; cases z)) ⟨_, rfl, _, rfl, ?_⟩
        cases late with
        | true => exact iteT ⟨_, rfl, _, _, rfl, rfl, hQ H1 _ hS1 (.inr ⟨e2, n1 + 1, rfl⟩)⟩
        | false => exact iteF ⟨_, rfl, hQ H1 _ hS1 (.inr ⟨e2, n1, rfl⟩)⟩
    cases late with
    | true =>
      refine iteT ⟨_, rfl, _, _, rfl, ⟨by rw [tx_len]; exact sz1000 (by omega), rfl⟩, _, rfl, rfl, _, rfl, ?_⟩
      by_cases q : w.length = p
      · refine ifT (eqT (by rw [tx_len]; omega)) (hQ H (natV 0) (Same.refl H) (.inr ⟨?_, 0, rfl⟩))
        unfold safeB
        rw [decide_eq_true q]
        rfl
      · refine ifF (eqF (by rw [tx_len]; omega)) (rest ?_)
        rw [decide_eq_false q]
        rfl
    | false => exact iteF (rest rfl)
theorem dk_life (T : Fx c) : Dk c 8 "life" ["word", "places", "limit", "budgets", "phase", "late"] 5 ["late"] (fun vs zs => vs ++ zs) (sp_life c) := by
  obtain ⟨f, fd, F, hm⟩ := T.d_life.ex
  obtain ⟨its, mv, hb⟩ := F.kbinds (ps := ["word", "places", "limit", "budgets", "phase", "late"]) 5 ["late"] [] (fun us _ _ ws => us ++ ws) (by simp) (by simp) (fun q hq => by cases hq) (fun r1 _ _ r3 => r1.append r3) fun Tp D doc pm an cdv ct us its mv ws h1 h2 h3 h4 => match us, its, mv, ws, h1, h2, h3, h4 with
    | [_, _, _, _, _], [_], [], [_], _, _, _, _ => ⟨_, rfl, rfl⟩
  exact ⟨f, fd, _, ok_life T F, hm, F.kp, hb⟩
theorem ok_safe (T : Fx c) {f : Addr} {fd : FuncData} (F : FunD c.K "safe" "safe" (defArgs st_safe) (defBody st_safe) (defScope st_safe) [.int 0] [("late", .bl false)] f fd) : FnOk PR c.w c.K c.mg c.base (CR c) 9 f fd ["word", "places", "limit", "budgets", "phase", "late"] (sp_safe c) := by
  refine Df.ok (k := 8) F sc_safe (fun vs H Q E h => ?_) (fun f cdv A outer s H vs Q E hr h => ⟨_, (pss_one (ps_ret (pe_cmpR op_isN (pcK (dk_life T) (Fits.mk rfl rfl rfl rfl rfl) (hr.mono (by decide)) rfl passL (pa_cons (pv 0) (pa_cons (pv 1) (pa_cons (pv 2) (pa_cons (pv 3) (pa_cons (pv 4) pa_nil))))) (pk_cons (pv 5) pk_nil)) pe_non (nomark _)))), ?_⟩)
  · obtain ⟨w, p, N, ph, r, bs, late, rfl, _⟩ := h
    rfl
  · obtain ⟨w, p, N, ph, r, bs, late, rfl, K0, R, hQ⟩ := h
    refine ⟨_, rfl, _, rfl, _, rfl, _, rfl, _, rfl, _, rfl, rfl, rfl, w, p, N, ph, r, bs, late, rfl, K0, R, fun H1 v1 hS1 o1 => ⟨rfl, ?_⟩⟩
    rcases o1 with ⟨e1, rfl⟩ | ⟨e1, n1, rfl⟩
    · refine cvb (Q := Q) (hQ H1 hS1) ?_
      rw [decide_eq_true rfl]
      cases h2 : safeB bs ph N p late w with
      | true => rfl
      | false =>
        rw [h2] at e1
        cases e1
    · refine cvb (Q := Q) (hQ H1 hS1) ?_
      rw [decide_eq_false (by intro z; cases z)]
      cases h2 : safeB bs ph N p late w with
      | false => rfl
      | true =>
        rw [h2] at e1
        cases e1
theorem dk_safe (T : Fx c) : Dk c 9 "safe" ["word", "places", "limit", "budgets", "phase", "late"] 5 ["late"] (fun vs zs => vs ++ zs) (sp_safe c) := by
  obtain ⟨f, fd, F, hm⟩ := T.d_safe.ex
  obtain ⟨its, mv, hb⟩ := F.kbinds (ps := ["word", "places", "limit", "budgets", "phase", "late"]) 5 ["late"] [] (fun us _ _ ws => us ++ ws) (by simp) (by simp) (fun q hq => by cases hq) (fun r1 _ _ r3 => r1.append r3) fun Tp D doc pm an cdv ct us its mv ws h1 h2 h3 h4 => match us, its, mv, ws, h1, h2, h3, h4 with
    | [_, _, _, _, _], [_], [], [_], _, _, _, _ => ⟨_, rfl, rfl⟩
  exact ⟨f, fd, _, ok_safe T F, hm, F.kp, hb⟩
end
end Cl
set_option Elab.async false
set_option linter.all false
set_option maxRecDepth 100000
set_option maxHeartbeats 4000000
/-! Counts: checks, caps, totals. -/
namespace Cl
open PySem PySem.Spec PyProof.Rows L2 Cm
def faultOf (p N ph n : Int) : Option Str := if p < 1 then some "places" else if N < 1 then some "limit" else if ph < 0 then some "phase" else if n < 0 then some "count" else if p < N then some "limit" else if N < n then some "count" else none
def sp_check_counting (c : Ctx) : Sp := fun vs H Q E => ∃ (p N ph n : Int), vs = [.int p, .int N, .int ph, .int n] ∧ (faultOf p N ph n = none → Q .non H) ∧ (∀ z, faultOf p N ph n = some z → iiX c E H z)
def sp_depth_caps (c : Ctx) : Sp := fun vs H Q _ => ∃ (m N ph n : Nat) (r : Addr) (bs : List Nat), vs = [natV m, natV N, .ref r, natV ph, natV n] ∧ Rd c H r bs ∧ 1 ≤ N ∧ m ≤ 1000 ∧ n ≤ 1000 ∧
  ∀ H' q, Same H H' → H' q = some (.lst ((capsN bs ph N m n m).map V.int)) → Q (.ref q) H'
def sp_count_safe (c : Ctx) : Sp := fun vs H Q E => ∃ (p N ph n : Int) (r : Addr) (bs : List Nat) (late : Bool), vs = [.int p, .int N, .ref r, .int ph, .int n, .bl late] ∧ Rd c H r bs ∧ p ≤ 900 ∧
  (∀ z, faultOf p N ph n = some z → iiX c E H z) ∧ (faultOf p N ph n = none → ∀ H', Same H H' → Q (natV (cntSafe bs ph.toNat N.toNat p.toNat n.toNat late)) H')
def sp_count_words (c : Ctx) : Sp := fun vs H Q _ => ∃ (p n : Nat), vs = [natV p, natV n] ∧ 1 ≤ p ∧ p ≤ 10 ∧ n ≤ 10 ∧ Q (natV (ch p n)) H
def sp_word_at (c : Ctx) : Sp := fun vs H Q _ => ∃ (r p n : Nat), vs = [natV r, natV p, natV n] ∧ 1 ≤ p ∧ p ≤ 10 ∧ n ≤ 10 ∧ r < ch p n ∧ ∀ H', Same H H' → Q (.str (tx (trim (wAt p r n)))) H'
theorem comb_ch : ∀ {a b : Nat}, a ≤ 10 → b ≤ 10 → PySem.W.mcComb (a : Int) (b : Int) = ((ch a b : Nat) : Int) := by
  have h : ∀ a : Fin 11, ∀ b : Fin 11, PySem.W.mcComb ((a.val : Nat) : Int) ((b.val : Nat) : Int) = ((ch a.val b.val : Nat) : Int) := by decide +kernel
  intro a b ha hb
  exact h ⟨a, by omega⟩ ⟨b, by omega⟩
theorem ixN_nat {n k : Nat} (h : k < n) : ixN n (k : Int) = some k := by
  unfold ixN
  rw [if_pos (by omega), if_pos (by omega), Int.toNat_natCast]
theorem fault_none {p N ph n : Int} (h : faultOf p N ph n = none) : 1 ≤ p ∧ 1 ≤ N ∧ 0 ≤ ph ∧ 0 ≤ n ∧ N ≤ p ∧ n ≤ N := by
  unfold faultOf at h
  by_cases h1 : p < 1
  · rw [if_pos h1] at h; cases h
  · rw [if_neg h1] at h
    by_cases h2 : N < 1
    · rw [if_pos h2] at h; cases h
    · rw [if_neg h2] at h
      by_cases h3 : ph < 0
      · rw [if_pos h3] at h; cases h
      · rw [if_neg h3] at h
        by_cases h4 : n < 0
        · rw [if_pos h4] at h; cases h
        · rw [if_neg h4] at h
          by_cases h5 : p < N
          · rw [if_pos h5] at h; cases h
          · rw [if_neg h5] at h
            by_cases h6 : N < n
            · rw [if_pos h6] at h; cases h
            · omega
theorem rep_one (n : Nat) (v : V) : (List.replicate n [v]).flatten = List.replicate n v := by
  induction n with
  | zero => rfl
  | succ n ih => rw [List.replicate_succ, List.replicate_succ, List.flatten_cons, ih]; rfl
/-- for x in reversed(xs) -/
theorem for_rev {K : PySem.W.Frag} {a : Addr} {xs : List V} {g : TG} {tb : TS} {D : Ends} {σ : L2.St} {H : Hp} (Pv : Nat → L2.St → Hp → Prop) (h0 : Pv 0 σ H) (hl : ∀ i σ H, i ≤ xs.length → Pv i σ H → SqL K H a xs)
    (hs : ∀ i x σ H, i < xs.length → xs[xs.length - 1 - i]? = some x → Pv i σ H → g x σ H fun σ2 H2 => tb { D with nx := Pv (i + 1), ct := Pv (i + 1), bk := D.nx } σ2 H2) (hd : ∀ σ H, Pv xs.length σ H → D.nx σ H) :
    ∃ W : Nat → Nat → L2.St → Hp → Prop, (∃ m, W 0 m σ H) ∧ ∀ i m σ H, W i m σ H →
      ((Itv K a xs.length).stop i H ∧ D.nx σ H) ∨ ((Itv K a xs.length).go i H ∧ ∃ N : L2.St → Hp → Prop, (∀ σ' H', N σ' H' → ∃ m', m' < m ∧ W (i + 1) m' σ' H') ∧ ∀ x H', (Itv K a xs.length).yld i H x H' → g x σ H' fun σ2 H2 => tb { D with nx := N, ct := N, bk := D.nx } σ2 H2) := by
  refine ⟨fun i m σ H => m = xs.length - i ∧ i ≤ xs.length ∧ Pv i σ H, ⟨xs.length, by simp, Nat.zero_le _, h0⟩, ?_⟩
  rintro i m σ H ⟨rfl, hi, p⟩
  have q := hl i σ H hi p
  by_cases hlt : i < xs.length
  · have hk : xs.length - 1 - i < xs.length := by omega
    refine .inr ⟨⟨hlt, xs, _, q, List.getElem?_eq_getElem hk⟩, Pv (i + 1), fun σ' H' p' => ⟨xs.length - (i + 1), by omega, rfl, hlt, p'⟩, fun x H' y => ?_⟩
    obtain ⟨e, y⟩ := y
    subst e
    exact hs i x σ _ hlt (y xs q) p
  · have e : i = xs.length := by omega
    subst e
    exact .inl ⟨Nat.le_refl _, hd σ H p⟩
section
variable {c : Ctx}
theorem dd_check_counting (T : Fx c) : Dd c 3 "check_counting" ["places", "limit", "phase", "count"] [] (sp_check_counting c) := by
  refine Dd.of (st := st_check_counting) T.d_check_counting (fun f fd F => Df.okX (k := 2) F sc_check_counting (fun vs H Q E h => ?_) (fun f cdv A outer s H vs Q E hr h => ⟨_, (pss_cons (ps_expr (pcD (dd_at_least T) (Fits.mk rfl rfl rfl rfl rfl) (hr.mono (by decide)) rfl (passes_call (takes_of rfl rfl rfl rfl) fun _ _ _ _ h => h) (pa_cons (pv 0) (pa_cons pe_int (pa_cons pe_str pa_nil))))) (pss_cons (ps_expr (pcD (dd_at_least T) (Fits.mk rfl rfl rfl rfl rfl) (hr.mono (by decide)) rfl (passes_call (takes_of rfl rfl rfl rfl) fun _ _ _ _ h => h) (pa_cons (pv 1) (pa_cons pe_int (pa_cons pe_str pa_nil))))) (pss_cons (ps_expr (pcD (dd_at_least T) (Fits.mk rfl rfl rfl rfl rfl) (hr.mono (by decide)) rfl (passes_call (takes_of rfl rfl rfl rfl) fun _ _ _ _ h => h) (pa_cons (pv 2) (pa_cons pe_int (pa_cons pe_str pa_nil))))) (pss_cons (ps_expr (pcD (dd_at_least T) (Fits.mk rfl rfl rfl rfl rfl) (hr.mono (by decide)) rfl (passes_call (takes_of rfl rfl rfl rfl) fun _ _ _ _ h => h) (pa_cons (pv 3) (pa_cons pe_int (pa_cons pe_str pa_nil))))) (pss_cons (ps_expr (pcD (dd_at_most T) (Fits.mk rfl rfl rfl rfl rfl) (hr.mono (by decide)) rfl (passes_call (takes_of rfl rfl rfl rfl) fun _ _ _ _ h => h) (pa_cons (pv 1) (pa_cons (pv 0) (pa_cons pe_str pa_nil))))) (pss_one (ps_expr (pcD (dd_at_most T) (Fits.mk rfl rfl rfl rfl rfl) (hr.mono (by decide)) rfl (passes_call (takes_of rfl rfl rfl rfl) fun _ _ _ _ h => h) (pa_cons (pv 3) (pa_cons (pv 1) (pa_cons pe_str pa_nil))))))))))), ?_⟩)) (fun _ _ _ _ _ _ us hl => match us, hl with | [_, _, _, _], _ => rfl)
  · obtain ⟨p, N, ph, n, rfl, _⟩ := h
    rfl
  · obtain ⟨p, N, ph, n, rfl, hQ, hE⟩ := h
    obtain ⟨f1, f2, f3, f4, f5, f6⟩ := fld_len
    unfold faultOf at hQ hE
    refine ⟨_, rfl, _, _, _, rfl, f2, fun c1 => ?_, fun c1 => hE _ (if_pos c1)⟩
    rw [if_neg (by omega)] at hQ hE
    refine ⟨_, rfl, _, _, _, rfl, f3, fun c2 => ?_, fun c2 => hE _ (if_pos c2)⟩
    rw [if_neg (by omega)] at hQ hE
    refine ⟨_, rfl, _, _, _, rfl, f4, fun c3 => ?_, fun c3 => hE _ (if_pos c3)⟩
    rw [if_neg (by omega)] at hQ hE
    refine ⟨_, rfl, _, _, _, rfl, f6, fun c4 => ?_, fun c4 => hE _ (if_pos c4)⟩
    rw [if_neg (by omega)] at hQ hE
    refine ⟨_, rfl, _, rfl, _, _, _, rfl, f3, fun c5 => ?_, fun c5 => hE _ (if_pos c5)⟩
    rw [if_neg (by omega)] at hQ hE
    refine ⟨_, rfl, _, rfl, _, _, _, rfl, f6, fun c6 => ?_, fun c6 => hE _ (if_pos c6)⟩
    rw [if_neg (by omega)] at hQ
    exact hQ rfl
theorem dd_count_words (T : Fx c) : Dd c 3 "count_words" ["places", "count"] [] (sp_count_words c) := by
  refine Dd.of (st := st_count_words) T.d_count_words (fun f fd F => Df.ok (k := 2) F sc_count_words (fun vs H Q E h => ?_) (fun f cdv A outer s H vs Q E hr h => ⟨_, (pss_cons (ps_expr (pcD (dd_at_least T) (Fits.mk rfl rfl rfl rfl rfl) (hr.mono (by decide)) rfl passL (pa_cons (pv 0) (pa_cons pe_int (pa_cons pe_str pa_nil))))) (pss_cons (ps_expr (pcD (dd_at_least T) (Fits.mk rfl rfl rfl rfl rfl) (hr.mono (by decide)) rfl passL (pa_cons (pv 1) (pa_cons pe_int (pa_cons pe_str pa_nil))))) (pss_one (ps_ret (pe_callG call_comb rfl T.comb (pa_cons (pv 0) (pa_cons (pv 1) pa_nil))))))), ?_⟩)) (fun _ _ _ _ _ _ us hl => match us, hl with | [_, _], _ => rfl)
  · obtain ⟨p, n, rfl, _⟩ := h
    rfl
  · obtain ⟨p, n, rfl, h1, h2, h3, hQ⟩ := h
    obtain ⟨f1, f2, f3, f4, f5, f6⟩ := fld_len
    refine ⟨_, rfl, _, _, _, rfl, f2, fun _ => ?_, fun z => absurd z (by omega)⟩
    refine ⟨_, rfl, _, _, _, rfl, f6, fun _ => ?_, fun z => absurd z (by omega)⟩
    exact ⟨_, rfl, _, rfl, _, _, rfl, by omega, by omega, by omega, by omega, cvi (Q := Q) hQ (comb_ch h2 h3).symm⟩
theorem dd_depth_caps (T : Fx c) : Dd c 5 "depth_caps" ["counted", "limit", "budgets", "phase", "count"] [] (sp_depth_caps c) := by
  refine Dd.of (st := st_depth_caps) T.d_depth_caps (fun f fd F => Df.ok (k := 4) F sc_depth_caps (fun vs H Q E h => ?_) (fun f cdv A outer s H vs Q E hr h => ⟨_, (pss_cons (ps_set (i := 5) sc_depth_caps.nd rfl (Or.inl rfl) (pe_op op_rep (pe_lst (pa_cons (pv 0) pa_nil)) (pv 4))) (pss_cons (ps_for PassesOwn.never rfl (pi_range1 (by rfl) T.f_range (pa_cons (pv 0) pa_nil)) (pg_name (i := 6) sc_depth_caps.nd rfl (Or.inl rfl)) (pss_cons (ps_set (i := 7) sc_depth_caps.nd rfl (Or.inl rfl) (pcM (de_R_total T) T.cls (Fits.mk rfl rfl rfl rfl rfl) (hr.mono (by decide)) passL (pv 2) (pa_cons (pv 3) (pa_cons (pv 6) pa_nil)))) (pss_cons (ps_if (pt_cmpR op_ge (pv 7) (pe_callB (call_min2 rfl) (by rfl) T.f_min (by decide +kernel) (pa_cons (pv 4) (pa_cons (pe_op op_sub (pv 1) pe_int) pa_nil))) (nomark _)) (pss_one ps_break) pss_nil) (pss_one (ps_asg (pe_callB (call_min2 rfl) (by rfl) T.f_min (by decide +kernel) (pa_cons (pe_ix ix_list (pv 5) (pv 7) (fun _ _ => rfl)) (pa_cons (pe_op op_sub (pe_op op_sub (pe_op op_sub (pv 0) pe_int) (pv 7)) (pv 6)) pa_nil))) (pg_sub (pv 5) (pv 7) set_list)))))) (pss_one (ps_ret (pv 5))))), ?_⟩)) (fun _ _ _ _ _ _ us hl => match us, hl with | [_, _, _, _, _], _ => rfl)
  · obtain ⟨m, N, ph, n, r, bs, rfl, _⟩ := h
    rfl
  · obtain ⟨m, N, ph, n, r, bs, rfl, R, hN, hm, hn, hQ⟩ := h
    obtain ⟨hb, dx, Tp, ha, hT⟩ := id R
    refine ⟨_, rfl, by show 1 ≤ sizeLine; decide, fun q0 hq0 => ⟨_, rfl, _, _, _, rfl, rfl, upd_same, by omega, by omega, ?_, fun q hq => ?_⟩⟩
    · rw [Int.toNat_natCast]
      show 1 * n ≤ sizeLine
      exact sz1000 (by omega)
    have eN : (List.replicate ((n : Nat) : Int).toNat [natV m]).flatten = (capsN bs ph N m n 0).map V.int := by
      rw [Int.toNat_natCast, rep_one]
      show _ = List.map V.int (List.replicate n (m : Int))
      rw [List.map_replicate]
    have hS0 : Same H (L2.upd (L2.upd H q0 (.lst [natV m])) q (.lst (List.replicate ((n : Nat) : Int).toNat [natV m]).flatten)) := fun b o z => by
      have z1 := Same.new (o := .lst [natV m]) hq0 b o z
      rw [upd_ne (ne_of_none z1 hq)]
      exact z1
    refine ⟨_, rfl, _, rfl, by omega, by omega, for_range (lo := 0) (n := ((m : Nat) : Int).toNat) (fun i σ H' => (∃ v1 v2 : Option V, σ = [some (natV m), some (natV N), some (.ref r), some (natV ph), some (natV n), some (.ref q), v1, v2]) ∧ Same H H' ∧ H q = none ∧ H' q = some (.lst ((capsN bs ph N m n i).map V.int))) ⟨⟨none, none, rfl⟩, hS0, (Same.new (o := .lst [natV m]) hq0).free hq, by rw [upd_same, eN]⟩ ?_ ?_⟩
    · rintro i σ H' hi ⟨⟨v1, v2, rfl⟩, hS, hqn, hc⟩
      refine ⟨_, rfl, r, dx, _, rfl, hS _ _ ha, rfl, _, rfl, _, rfl, r, bs, ph, i, ?_, R.same hS, by omega, fun H2 hS2 => ?_⟩
      · show [V.ref r, natV ph, V.int (0 + (i : Int))] = _
        rw [Int.zero_add]
      · have hc2 := hS2 _ _ hc
        refine ⟨_, rfl, _, rfl, _, rfl, _, _, rfl, rfl, _, _, rfl, _, _, rfl, rfl, _, rfl, ?_⟩
        have clen := caps_len bs ph N m n i
        by_cases q1 : tot bs ph i < min n (N - 1)
        · refine ifF (decide_eq_false (by split <;> omega)) ?_
          obtain ⟨d, hd⟩ : ∃ d, (capsN bs ph N m n i)[tot bs ph i]? = some d := ⟨_, List.getElem?_eq_getElem (by omega)⟩
          refine ⟨_, rfl, _, rfl, _, _, _, _, rfl, rfl, SqL.of hc2, atI_nat (by rw [List.getElem?_map, hd]; rfl), _, rfl, _, _, rfl, rfl, _, rfl, _, _, rfl, rfl, _, rfl, _, _, rfl, rfl, _, _, rfl, ?_⟩
          refine ⟨_, rfl, _, rfl, q, _, _, tot bs ph i, rfl, rfl, hc2, ixN_nat (by rw [List.length_map, clen]; omega), ⟨_, _, rfl⟩, Same.upd (hS.trans hS2) hqn, hqn, ?_⟩
          rw [upd_same]
          congr 2
          rw [← List.map_set]
          congr 1
          show _ = (if tot bs ph i < min n (N - 1) then _ else _)
          rw [if_pos q1]
          congr 1
          have ed : (capsN bs ph N m n i).getD (tot bs ph i) 0 = d := by
            rw [List.getD_eq_getElem?_getD, hd]
            rfl
          rw [ed, Int.zero_add]
        · refine ifT (decide_eq_true (by split <;> omega)) ?_
          refine ⟨_, rfl, hQ H2 q (hS.trans hS2) ?_⟩
          have st := caps_stop (m := m) (show min n (N - 1) ≤ tot bs ph i by omega) (m - i)
          rw [show i + (m - i) = m by omega] at st
          rw [st]
          exact hc2
    · rintro σ H' ⟨⟨v1, v2, rfl⟩, hS, hqn, hc⟩
      rw [Int.toNat_natCast] at hc
      exact ⟨_, rfl, hQ H' q hS hc⟩
end
end Cl
set_option Elab.async false
set_option linter.all false
set_option maxRecDepth 100000
set_option maxHeartbeats 4000000
/-! count_safe, word_at. -/
namespace Cl
open PySem PySem.Spec PyProof.Rows L2 Cm
theorem atI_of {α : Type} {xs : List α} {i : Int} {j : Nat} {v : α} (e : i = (j : Int)) (h : xs[j]? = some v) : atI xs i = some v := by
  rw [e]
  exact atI_nat h
theorem get_of {l : List Nat} {j : Nat} (h : j < l.length) : (l.map natV)[j]? = some (natV (l.getD j 0)) := by
  rw [List.getElem?_map, List.getD_eq_getElem?_getD, List.getElem?_eq_getElem h]
  rfl
theorem drop_back {l : List Int} {i : Nat} {x : V} (hi : i < l.length) (h : (l.map V.int)[(l.map V.int).length - 1 - i]? = some x) : ∃ z, x = .int z ∧ l.drop (l.length - (i + 1)) = z :: l.drop (l.length - i) := by
  rw [List.length_map, List.getElem?_map] at h
  have hk : l.length - 1 - i < l.length := by omega
  rw [List.getElem?_eq_getElem hk] at h
  refine ⟨_, (Option.some.inj h).symm, ?_⟩
  have e1 : l.length - (i + 1) = l.length - 1 - i := by omega
  have e2 : l.length - i = l.length - 1 - i + 1 := by omega
  rw [e1, e2]
  exact List.drop_eq_getElem_cons hk
section
variable {c : Ctx}
theorem ok_count_safe (T : Fx c) {f : Addr} {fd : FuncData} (F : FunD c.K "count_safe" "count_safe" (defArgs st_count_safe) (defBody st_count_safe) (defScope st_count_safe) [] [("late", .bl false)] f fd) : FnOk PR c.w c.K c.mg c.base (CR c) 7 f fd ["places", "limit", "budgets", "phase", "count", "late"] (sp_count_safe c) := by
  refine Df.okX (k := 6) F sc_count_safe (fun vs H Q E h => ?_) (fun f cdv A outer s H vs Q E hr h => ⟨_, (pss_cons (ps_expr (pcD (dd_check_counting T) (Fits.mk rfl rfl rfl rfl rfl) (hr.mono (by decide)) rfl (passes_call (takes_of rfl rfl rfl rfl) fun _ _ _ _ h => h) (pa_cons (pv 0) (pa_cons (pv 1) (pa_cons (pv 3) (pa_cons (pv 4) pa_nil)))))) (pss_cons (ps_if (pt_not (pt_val (pcK (dk_ring_goes_on T) (Fits.mk rfl rfl rfl rfl rfl) (hr.mono (by decide)) rfl (passes_call (takes_of rfl rfl rfl rfl) fun _ _ _ _ h => h) (pa_cons (pv 0) (pa_cons (pv 1) (pa_cons (pv 2) pa_nil))) (pk_cons (pv 5) pk_nil)))) (pss_one (ps_ret pe_int)) pss_nil) (pss_cons (ps_set (i := 6) sc_count_safe.nd rfl (Or.inl rfl) (pcD (dd_counted_places T) (Fits.mk rfl rfl rfl rfl rfl) (hr.mono (by decide)) rfl (passes_call (takes_of rfl rfl rfl rfl) fun _ _ _ _ h => h) (pa_cons (pv 0) (pa_cons (pv 5) pa_nil)))) (pss_cons (ps_set (i := 7) sc_count_safe.nd rfl (Or.inl rfl) (pe_op op_rep (pe_lst (pa_cons pe_int pa_nil)) (pe_op op_add (pv 6) pe_int))) (pss_cons (ps_for (passes_of rfl) rfl (pi_reversed (by rfl) T.f_reversed (pa_cons (pcD (dd_depth_caps T) (Fits.mk rfl rfl rfl rfl rfl) (hr.mono (by decide)) rfl (passes_call (takes_of rfl rfl rfl rfl) fun _ _ _ _ h => h) (pa_cons (pv 6) (pa_cons (pv 1) (pa_cons (pv 2) (pa_cons (pv 3) (pa_cons (pv 4) pa_nil)))))) pa_nil)) (pg_name (i := 8) sc_count_safe.nd rfl (Or.inl rfl)) (pss_cons (ps_set (i := 9) sc_count_safe.nd rfl (Or.inl rfl) (pe_lst (pa_cons pe_int pa_nil))) (pss_cons (ps_for (passes_of rfl) rfl (pi_range2 (by rfl) T.f_range (pa_cons pe_int (pa_cons (pe_op op_add (pv 6) pe_int) pa_nil))) (pg_name (i := 10) sc_count_safe.nd rfl (Or.inl rfl)) (pss_cons (ps_set (i := 11) sc_count_safe.nd rfl (Or.inl rfl) (pe_ifExp (pt_cmpR op_le (pv 10) (pv 8) (nomark _)) (pe_ix ix_list (pv 7) (pe_op op_sub (pv 10) pe_int) (fun _ _ => rfl)) pe_int)) (pss_one (ps_expr (pe_bm PySem.F.plainAttrs_list PySem.F.slot_list_append PySem.F.type_list_append mt_append (pv 9) (pa_cons (pe_op op_add (pe_ix ix_list (pv 9) (pe_op op_sub (pv 10) pe_int) (fun _ _ => rfl)) (pv 11)) pa_nil)))))) (pss_one (ps_set (i := 7) sc_count_safe.nd rfl (Or.inl rfl) (pv 9)))))) (pss_one (ps_ret (pe_ix ix_list (pv 7) (pv 6) (fun _ _ => rfl))))))))), ?_⟩)
  · obtain ⟨p, N, ph, n, r, bs, late, rfl, _⟩ := h
    rfl
  · obtain ⟨p, N, ph, n, r, bs, late, rfl, R, hp, hE, hQ⟩ := h
    refine ⟨_, rfl, _, rfl, _, rfl, _, rfl, p, N, ph, n, rfl, fun hn => ?_, fun z hz => hE z hz⟩
    obtain ⟨g1, g2, g3, g4, g5, g6⟩ := fault_none hn
    have hQ' := hQ hn
    clear hQ hE hn
    obtain ⟨p, rfl⟩ := Int.eq_ofNat_of_zero_le (show 0 ≤ p by omega)
    obtain ⟨N, rfl⟩ := Int.eq_ofNat_of_zero_le (show 0 ≤ N by omega)
    obtain ⟨ph, rfl⟩ := Int.eq_ofNat_of_zero_le (show 0 ≤ ph by omega)
    obtain ⟨n, rfl⟩ := Int.eq_ofNat_of_zero_le (show 0 ≤ n by omega)
    simp only [Int.toNat_natCast] at hQ'
    obtain ⟨hb, dx, Tp, ha, hT⟩ := id R
    refine ⟨_, rfl, _, rfl, _, rfl, _, rfl, rfl, rfl, p, N, r, bs, late, rfl, R, by omega, by omega, by omega, by omega, fun H1 hS1 => ⟨_, rfl, ?_⟩⟩
    by_cases hg : goesB bs N (mOf p late) = true
    case neg =>
      rw [Bool.not_eq_true] at hg
      rw [hg]
      refine iteT (cvi (Q := Q) (hQ' H1 hS1) ?_)
      unfold cntSafe
      rw [hg]
      rfl
    rw [hg]
    have hml := mOf_le (p := p) (late := late)
    refine iteF ⟨_, rfl, _, rfl, p, late, rfl, by omega, ?_⟩
    generalize hm : mOf p late = m at *
    refine ⟨by show 1 ≤ sizeLine; decide, fun q0 hq0 => ⟨_, rfl, _, _, rfl, rfl, _, _, _, rfl, rfl, upd_same, by omega, by omega, ?_, fun t0 ht0 => ?_⟩⟩
    · show 1 * ((m : Int) + 1).toNat ≤ sizeLine
      exact sz1000 (by omega)
    have eT : (List.replicate ((m : Int) + 1).toNat [V.int 1]).flatten = (totals m []).map natV := by
      have e1 : ((m : Int) + 1).toNat = m + 1 := by omega
      rw [e1, rep_one]
      show _ = List.map natV (List.replicate (m + 1) 1)
      rw [List.map_replicate]
      rfl
    generalize hH2 : L2.upd (L2.upd H1 q0 (.lst [V.int 1])) t0 (.lst (List.replicate ((m : Int) + 1).toNat [V.int 1]).flatten) = H2
    have hS2 : Same H H2 := fun b o z => by
      have z1 := Same.new (o := .lst [V.int 1]) hq0 b o (hS1 b o z)
      rw [← hH2, upd_ne (ne_of_none z1 ht0)]
      exact z1
    have ht2 : H2 t0 = some (.lst ((totals m []).map natV)) := by rw [← hH2, upd_same, eT]
    refine ⟨_, rfl, _, rfl, _, rfl, _, rfl, _, rfl, m, N, ph, n, r, bs, rfl, R.same hS2, by omega, by omega, by omega, fun H3 q hS3 hq => ?_⟩
    generalize hL : capsN bs ph N m n m = L at hq
    have lenL : L.length = n := by rw [← hL]; exact caps_len bs ph N m n m
    have hS03 := hS2.trans hS3
    refine ⟨q, L.map V.int, rfl, SqL.of hq, for_rev (K := c.K) (a := q) (xs := L.map V.int) (fun i σ H' => (∃ tt, (∃ v1 v2 v3 v4 : Option V, σ = [some (natV p), some (natV N), some (.ref r), some (natV ph), some (natV n), some (.bl late), some (natV m), some (.ref tt), v1, v2, v3, v4]) ∧ H' tt = some (.lst ((totals m (L.drop (L.length - i))).map natV))) ∧ Same H H' ∧ H' q = some (.lst (L.map V.int))) ⟨⟨t0, ⟨none, none, none, none, rfl⟩, ?_⟩, hS03, hq⟩ (fun i σ H' _ z => SqL.of z.2.2) ?_ ?_⟩
    · rw [Nat.sub_zero, List.drop_length]
      exact hS3 _ _ ht2
    · rintro i x σ H' hi hx ⟨⟨tt, ⟨v1, v2, v3, v4, rfl⟩, htt⟩, hS, hq'⟩
      rw [List.length_map] at hi
      obtain ⟨cap, rfl, hdrop⟩ := drop_back hi hx
      generalize hprev : totals m (L.drop (L.length - i)) = prev at htt
      have lenP : prev.length = m + 1 := by rw [← hprev]; exact totals_len _ _
      refine ⟨by show 1 ≤ sizeLine; decide, fun s hs => ?_⟩
      have n1 : tt ≠ s := ne_of_none htt hs
      have n2 : q ≠ s := ne_of_none hq' hs
      have hHs : H s = none := hS.free hs
      refine ⟨_, rfl, _, _, rfl, rfl, _, _, rfl, ⟨by omega, by omega, by omega, by omega⟩, for_range (lo := 1) (n := ((m : Int) + 1 - 1).toNat) (fun j σ H'' => (∃ v3 v4 : Option V, σ = [some (natV p), some (natV N), some (.ref r), some (natV ph), some (natV n), some (.bl late), some (natV m), some (.ref tt), some (.int cap), some (.ref s), v3, v4]) ∧ Same H H'' ∧ H'' q = some (.lst (L.map V.int)) ∧ H'' tt = some (.lst (prev.map natV)) ∧ H'' s = some (.lst ((rowN prev cap j).map natV))) ⟨⟨v3, v4, rfl⟩, Same.upd hS hHs, by rw [upd_ne n2]; exact hq', by rw [upd_ne n1]; exact htt, upd_same⟩ ?_ ?_⟩
      · rintro j σ H'' hj ⟨⟨v3, v4, rfl⟩, hS4, hq4, htt4, hs4⟩
        have hj2 : j < m := by omega
        have lenR := row_len prev cap j
        have fin : ∀ z : Nat, z = (if ((j + 1 : Nat) : Int) ≤ cap then prev.getD j 0 else 0) → ∀ (σ2 : L2.St), σ2 = [some (natV p), some (natV N), some (.ref r), some (natV ph), some (natV n), some (.bl late), some (natV m), some (.ref tt), some (.int cap), some (.ref s), some (.int (1 + (j : Int))), some (natV z)] →
            ∃ v, σ2[9]? = some (some v) ∧ tyV c.K "list" v H'' ∧ ∃ w, σ2[9]? = some (some w) ∧ ∃ w2, σ2[10]? = some (some w2) ∧ ∃ i2 j2, w2 = .int i2 ∧ V.int 1 = .int j2 ∧ rIxL c.K w (.int (i2 - j2)) H'' fun x H3 => ∃ w3, σ2[11]? = some (some w3) ∧ ∃ i3 j3, x = .int i3 ∧ w3 = .int j3 ∧ rAppend v [.int (i3 + j3)] H3 fun _ H4 =>
              (∃ v3 v4 : Option V, σ2 = [some (natV p), some (natV N), some (.ref r), some (natV ph), some (natV n), some (.bl late), some (natV m), some (.ref tt), some (.int cap), some (.ref s), v3, v4]) ∧ Same H H4 ∧ H4 q = some (.lst (L.map V.int)) ∧ H4 tt = some (.lst (prev.map natV)) ∧ H4 s = some (.lst ((rowN prev cap (j + 1)).map natV)) := by
          rintro z hz σ2 rfl
          refine ⟨_, rfl, .inl ⟨rfl, _, SqL.of hs4⟩, _, rfl, _, rfl, _, _, rfl, rfl, s, _, _, _, rfl, rfl, SqL.of hs4, atI_of (j := j) (by omega) (get_of (by omega)), _, rfl, _, _, rfl, rfl, s, _, _, rfl, rfl, hs4, ?_, ⟨_, _, rfl⟩, Same.upd hS4 hHs, by rw [upd_ne n2]; exact hq4, by rw [upd_ne n1]; exact htt4, ?_⟩
          · rw [List.length_map, lenR]
            exact small1000 (by omega)
          · rw [upd_same]
            congr 2
            show _ = List.map natV (rowN prev cap j ++ [_])
            rw [List.map_append]
            congr 1
            show [V.int _] = [V.int _]
            rw [hz]
            exact congrArg (fun x => [V.int x]) (Int.natCast_add _ _).symm
        refine ⟨_, rfl, _, rfl, _, _, rfl, rfl, _, rfl, ?_⟩
        by_cases hc : ((j + 1 : Nat) : Int) ≤ cap
        · refine ifT (decide_eq_true (by omega)) ⟨_, rfl, _, rfl, _, _, rfl, rfl, tt, _, _, _, rfl, rfl, SqL.of htt4, atI_of (j := j) (by omega) (get_of (by omega)), ?_⟩
          exact fin (prev.getD j 0) (if_pos hc).symm _ rfl
        · refine ifF (decide_eq_false (by omega)) ?_
          exact fin 0 (if_neg hc).symm _ rfl
      · rintro σ H'' ⟨⟨v3, v4, rfl⟩, hS4, hq4, htt4, hs4⟩
        have em : ((m : Int) + 1 - 1).toNat = m := by omega
        rw [em] at hs4
        refine ⟨_, rfl, ⟨s, ⟨_, _, _, _, rfl⟩, ?_⟩, hS4, hq4⟩
        rw [hdrop]
        show H'' s = some (.lst (List.map natV (rowN (totals m (L.drop (L.length - i))) cap m)))
        rw [hprev]
        exact hs4
    · rintro σ H' ⟨⟨tt, ⟨v1, v2, v3, v4, rfl⟩, htt⟩, hS, hq'⟩
      rw [List.length_map, Nat.sub_self, List.drop_zero] at htt
      refine ⟨_, rfl, _, rfl, tt, _, _, _, rfl, rfl, SqL.of htt, atI_nat (get_of (by rw [totals_len]; omega)), ?_⟩
      refine cvi (Q := Q) (hQ' H' hS) ?_
      unfold cntSafe
      rw [hm, if_pos hg, hL]
theorem ds_count_safe (T : Fx c) : Dd c 7 "count_safe" ["places", "limit", "budgets", "phase", "count", "late"] [.bl false] (sp_count_safe c) := by
  obtain ⟨f, fd, F, hm⟩ := T.d_count_safe.ex
  obtain ⟨ds, h1, h2⟩ := F.binds0 (ps := ["places", "limit", "budgets", "phase", "count", "late"]) 5 (by simp) rfl fun D doc pm an cdv ct us ks hu hk => match us, ks, hu, hk with
    | [_, _, _, _, _], [_], _, _ => ⟨_, _, _, _, _, _, rfl, rfl, rfl⟩
  exact ⟨f, fd, ds, ok_count_safe T F, hm, F.kp, h1, h2⟩
theorem dk_count_safe (T : Fx c) : Dk c 7 "count_safe" ["places", "limit", "budgets", "phase", "count", "late"] 5 ["late"] (fun vs zs => vs ++ zs) (sp_count_safe c) := by
  obtain ⟨f, fd, F, hm⟩ := T.d_count_safe.ex
  obtain ⟨mv, hb⟩ := F.kbinds0 (ps := ["places", "limit", "budgets", "phase", "count", "late"]) 5 ["late"] [] (fun us mv ws => us ++ ws) (by simp) (fun q hq => by cases hq) (fun r1 _ r3 => r1.append r3) fun D doc pm an cdv ct us mv ws h1 h2 h3 => match us, mv, ws, h1, h2, h3 with
    | [_, _, _, _, _], [], [_], _, _, _ => rfl
  exact ⟨f, fd, _, ok_count_safe T F, hm, F.kp, hb⟩
end
end Cl
set_option Elab.async false
set_option linter.all false
set_option maxRecDepth 100000
set_option maxHeartbeats 4000000
/-! word_at, safe_words. -/
namespace Cl
open PySem PySem.Spec PyProof.Rows L2 Cm
def spG_safe_words (c : Ctx) : SpG := fun vs H cont E => ∃ (p N ph n : Int) (r : Addr) (bs : List Nat) (late : Bool), vs = [.int p, .int N, .ref r, .int ph, .int n, .bl late] ∧ Rd c H r bs ∧ p ≤ 10 ∧
  (∀ z, faultOf p N ph n = some z → iiX c E H z) ∧ (faultOf p N ph n = none → ∀ H', Same H H' → cont ((safeList bs ph.toNat N.toNat p.toNat n.toNat late).map fun w => V.str (tx w)) H')
theorem sum_ones (pre : List Bool) : ((pre.map fun b => tx [b]).map (·.length)).sum = pre.length := by
  rw [List.map_map]
  induction pre with
  | nil => rfl
  | cons a l ih =>
    rw [List.map_cons, List.sum_cons, ih, List.length_cons]
    show 1 + l.length = _
    omega
theorem fld_rank : ("rank" : Str).length ≤ 1000 := by decide +kernel
section
variable {c : Ctx}
theorem dd_word_at (T : Fx c) : Dd c 4 "word_at" ["rank", "places", "count"] [] (sp_word_at c) := by
  refine Dd.of (st := st_word_at) T.d_word_at (fun f fd F => Df.ok (k := 3) F sc_word_at (fun vs H Q E h => ?_) (fun f cdv A outer s H vs Q E hr h => ⟨_, (pss_cons (ps_expr (pcD (dd_at_least T) (Fits.mk rfl rfl rfl rfl rfl) (hr.mono (by decide)) rfl passL (pa_cons (pv 0) (pa_cons pe_int (pa_cons pe_str pa_nil))))) (pss_cons (ps_expr (pcD (dd_at_least T) (Fits.mk rfl rfl rfl rfl rfl) (hr.mono (by decide)) rfl passL (pa_cons (pv 1) (pa_cons pe_int (pa_cons pe_str pa_nil))))) (pss_cons (ps_expr (pcD (dd_at_least T) (Fits.mk rfl rfl rfl rfl rfl) (hr.mono (by decide)) rfl passL (pa_cons (pv 2) (pa_cons pe_int (pa_cons pe_str pa_nil))))) (pss_cons (ps_expr (pcD (dd_at_most T) (Fits.mk rfl rfl rfl rfl rfl) (hr.mono (by decide)) rfl passL (pa_cons (pv 0) (pa_cons (pe_op op_sub (pe_callG call_comb rfl T.comb (pa_cons (pv 1) (pa_cons (pv 2) pa_nil))) pe_int) (pa_cons pe_str pa_nil))))) (pss_cons (ps_set (i := 3) sc_word_at.nd rfl (Or.inl rfl) (pe_lst pa_nil)) (pss_cons (ps_set (i := 4) sc_word_at.nd rfl (Or.inl rfl) (pv 0)) (pss_cons (ps_set (i := 5) sc_word_at.nd rfl (Or.inl rfl) (pv 2)) (pss_cons (ps_for PassesOwn.never rfl (pi_range3 (by rfl) T.f_range (pa_cons (pe_op op_sub (pv 1) pe_int) (pa_cons (pe_un un_neg pe_int) (pa_cons (pe_un un_neg pe_int) pa_nil)))) (pg_name (i := 6) sc_word_at.nd rfl (Or.inl rfl)) (pss_cons (ps_set (i := 7) sc_word_at.nd rfl (Or.inl rfl) (pe_callG call_comb rfl T.comb (pa_cons (pv 6) (pa_cons (pv 5) pa_nil)))) (pss_one (ps_if (pt_cmpR op_lt (pv 4) (pv 7) (nomark _)) (pss_one (ps_expr (pe_bm PySem.F.plainAttrs_list PySem.F.slot_list_append PySem.F.type_list_append mt_append (pv 3) (pa_cons pe_str pa_nil)))) (pss_cons (ps_expr (pe_bm PySem.F.plainAttrs_list PySem.F.slot_list_append PySem.F.type_list_append mt_append (pv 3) (pa_cons pe_str pa_nil))) (pss_cons (ps_aug (i := 4) sc_word_at.nd rfl (Or.inl rfl) (pv 7) ip_sub) (pss_one (ps_aug (i := 5) sc_word_at.nd rfl (Or.inl rfl) pe_int ip_sub)))))))) (pss_one (ps_ret (pcD (dd_normal T) (Fits.mk rfl rfl rfl rfl rfl) (hr.mono (by decide)) rfl passL (pa_cons (pe_join pe_str (pv 3)) pa_nil)))))))))))), ?_⟩)) (fun _ _ _ _ _ _ us hl => match us, hl with | [_, _, _], _ => rfl)
  · obtain ⟨r, p, n, rfl, _⟩ := h
    rfl
  · obtain ⟨r, p, n, rfl, h1, h2, h3, hr2, hQ⟩ := h
    obtain ⟨f1, f2, f3, f4, f5, f6⟩ := fld_len
    refine ⟨_, rfl, _, _, _, rfl, fld_rank, fun _ => ?_, fun z => absurd z (by omega)⟩
    refine ⟨_, rfl, _, _, _, rfl, f2, fun _ => ?_, fun z => absurd z (by omega)⟩
    refine ⟨_, rfl, _, _, _, rfl, f6, fun _ => ?_, fun z => absurd z (by omega)⟩
    have hc := comb_ch h2 h3
    refine ⟨_, rfl, _, rfl, _, rfl, _, _, rfl, by omega, by omega, by omega, by omega, _, _, rfl, rfl, _, _, _, rfl, fld_rank, fun _ => ?_, fun z => absurd z (by rw [hc]; omega)⟩
    refine ⟨Nat.zero_le _, fun q hq => ⟨_, rfl, _, rfl, _, rfl, _, _, rfl, rfl, _, rfl, _, rfl, _, _, _, _, rfl, RgC.neg (by omega) (by omega) (by decide) (by decide), ?_⟩⟩
    refine for_rangeC (fun i σ H' => ∃ (pre : List Bool) (left k : Nat), (∃ v1 v2 : Option V, σ = [some (natV r), some (natV p), some (natV n), some (.ref q), some (natV left), some (natV k), v1, v2]) ∧ Same H H' ∧ H' q = some (.lst ((pre.map fun b => tx [b]).map V.str)) ∧ pre.length = i ∧ wAt p r n = pre ++ wAt (p - i) left k ∧ left < ch (p - i) k ∧ k ≤ 10) ⟨[], r, n, ⟨none, none, rfl⟩, Same.new hq, upd_same, rfl, rfl, hr2, h3⟩ ?_ ?_
    · rintro i σ H' hi ⟨pre, left, k, ⟨v1, v2, rfl⟩, hS, hl, hlen, hw, hlt, hk⟩
      have hip : i < p := by omega
      obtain ⟨b, hb⟩ : ∃ b, p - i = b + 1 := ⟨p - i - 1, by omega⟩
      have hb2 : p - (i + 1) = b := by omega
      rw [hb] at hw hlt
      have eb : (p : Int) - 1 + (i : Int) * -1 = (b : Int) := by omega
      rw [eb]
      have hcb := comb_ch (a := b) (b := k) (by omega) hk
      have hqn : H q = none := hq
      refine ⟨_, rfl, _, rfl, _, _, rfl, by omega, by omega, by omega, by omega, ?_⟩
      rw [hcb]
      refine ⟨_, rfl, _, rfl, _, _, rfl, rfl, _, rfl, ?_⟩
      have hsz : ((pre.map fun b => tx [b]).map V.str).length < sizeLine := by
        rw [List.length_map, List.length_map]
        exact small1000 (by omega)
      by_cases g : left < ch b k
      · refine ifT (decide_eq_true (by omega)) ⟨_, rfl, .inl ⟨rfl, _, SqL.of hl⟩, q, _, _, rfl, rfl, hl, hsz, ?_⟩
        refine ⟨pre ++ [false], left, k, ⟨_, _, rfl⟩, Same.upd hS hqn, ?_, ?_, ?_, ?_, hk⟩
        · rw [upd_same, s0x, List.map_append, List.map_append]
          rfl
        · rw [List.length_append, hlen]
          rfl
        · rw [hb2, hw, wAt_f g, List.append_assoc]
          rfl
        · rw [hb2]
          exact g
      · obtain ⟨k', rfl, hlt'⟩ := wAt_true hlt g
        refine ifF (decide_eq_false (by omega)) ⟨_, rfl, .inl ⟨rfl, _, SqL.of hl⟩, q, _, _, rfl, rfl, hl, hsz, ?_⟩
        refine ⟨_, rfl, _, rfl, _, _, rfl, rfl, ?_⟩
        refine ⟨_, rfl, _, _, rfl, rfl, ?_⟩
        refine ⟨pre ++ [true], left - ch b (k' + 1), k', ⟨some (natV b), some (natV (ch b (k' + 1))), ?_⟩, Same.upd hS hqn, ?_, ?_, ?_, ?_, by omega⟩
        · show [some (natV r), some (natV p), some (natV n), some (V.ref q), some (V.int ((left : Int) - (ch b (k' + 1) : Int))), some (V.int (((k' + 1 : Nat) : Int) - 1)), some (natV b), some (natV (ch b (k' + 1)))] = _
          have e1 : (left : Int) - (ch b (k' + 1) : Int) = ((left - ch b (k' + 1) : Nat) : Int) := by omega
          have e2 : ((k' + 1 : Nat) : Int) - 1 = (k' : Int) := by omega
          rw [e1, e2]
        · rw [upd_same, s1x, List.map_append, List.map_append]
          rfl
        · rw [List.length_append, hlen]
          rfl
        · rw [hb2, hw, wAt_t g, List.append_assoc]
          rfl
        · rw [hb2]
          exact hlt'
    · rintro σ H' ⟨pre, left, k, ⟨v1, v2, rfl⟩, hS, hl, hlen, hw, hlt, hk⟩
      have e0 : ((p : Int) - 1 - -1).toNat = p := by omega
      rw [e0] at hlen hw
      rw [Nat.sub_self] at hw
      have hw2 : wAt p r n = pre := by rw [hw]; exact List.append_nil _
      refine ⟨⟨_, rfl⟩, _, rfl, _, q, pre.map fun b => tx [b], rfl, rfl, .inl (SqL.of hl), ?_, ?_⟩
      · have es := sum_ones pre
        have e0 : ("" : Str).length = 0 := by decide +kernel
        rw [es, e0, Nat.mul_zero]
        omega
      · rw [tx_join]
        refine ⟨pre, rfl, by omega, ?_⟩
        rw [← hw2]
        exact hQ H' hS
theorem gk_safe_words (T : Fx c) : ∃ f fd g, GFn PR c.w c.K c.mg c.base 10 f fd ["places", "limit", "budgets", "phase", "count", "late"] (spG_safe_words c) ∧ c.mg "safe_words" = some (.ref f) ∧ PySem.W.keepIn c.K (.ref f) = true ∧
    KBn c.K fd ["places", "limit", "budgets", "phase", "count", "late"] 5 ["late"] g (fun vs zs => vs ++ zs) ∧ ∃ ds, Vals [.bl false] ds ∧ Binds c.K fd ["places", "limit", "budgets", "phase", "count", "late"] ds := by
  obtain ⟨f, fd, F, hm⟩ := T.d_safe_words.ex
  obtain ⟨mv, hb⟩ := F.kbinds0 (ps := ["places", "limit", "budgets", "phase", "count", "late"]) 5 ["late"] [] (fun us mv ws => us ++ ws) (by simp) (fun q hq => by cases hq) (fun r1 _ r3 => r1.append r3) fun D doc pm an cdv ct us mv ws h1 h2 h3 => match us, mv, ws, h1, h2, h3 with
    | [_, _, _, _, _], [], [_], _, _, _ => rfl
  obtain ⟨ds, h1, h2⟩ := F.binds0 (ps := ["places", "limit", "budgets", "phase", "count", "late"]) 5 (by simp) rfl fun D doc pm an cdv ct us ks hu hk => match us, ks, hu, hk with
    | [_, _, _, _, _], [_], _, _ => ⟨_, _, _, _, _, _, rfl, rfl, rfl⟩
  refine ⟨f, fd, _, ?_, hm, F.kp, hb, ds, h1, h2⟩
  clear hb h1 h2
  obtain ⟨oc, od, dV, kV, doc, pm, an, cdv, ct, osl, rfl, lk, hcd, _, _⟩ := F.ex
  refine gfn_of (k := 9) lk hcd sc_safe_words (fun vs H Q E h => ?_) (fun A outer s H vs Q E pn hr h => ⟨_, gss_cons (gs_ps (ps_expr (pcD (dd_check_counting T) (Fits.mk rfl rfl rfl rfl rfl) (hr.mono (by decide)) rfl (passes_call takes_gcx fun _ _ _ _ h => h) (pa_cons (pv 0) (pa_cons (pv 1) (pa_cons (pv 3) (pa_cons (pv 4) pa_nil)))))))
    (gss_cons (gs_for owns_gcx rfl (pi_range1 (by rfl) T.f_range (pa_cons (pcD (dd_count_words T) (Fits.mk rfl rfl rfl rfl rfl) (hr.mono (by decide)) rfl passL (pa_cons (pv 0) (pa_cons (pv 4) pa_nil))) pa_nil)) (pg_name (i := 6) sc_safe_words.nd rfl (Or.inl rfl))
      (gss_cons (gs_ps (ps_set (i := 7) sc_safe_words.nd rfl (Or.inl rfl) (pcD (dd_word_at T) (Fits.mk rfl rfl rfl rfl rfl) (hr.mono (by decide)) rfl passL (pa_cons (pv 6) (pa_cons (pv 0) (pa_cons (pv 4) pa_nil))))))
      (gss_cons (gs_if (pt_val (pcK (dk_safe T) (Fits.mk rfl rfl rfl rfl rfl) (hr.mono (by decide)) rfl passL (pa_cons (pv 7) (pa_cons (pv 0) (pa_cons (pv 1) (pa_cons (pv 2) (pa_cons (pv 3) pa_nil))))) (pk_cons (pv 5) pk_nil)))
        (gss_cons (gs_yield (pv 7)) gss_nil) gss_nil) gss_nil))) gss_nil), ?_⟩)
  · obtain ⟨p, N, ph, n, r, bs, late, rfl, _⟩ := h
    rfl
  · obtain ⟨p, N, ph, n, r, bs, late, rfl, R, hp, hE, hQ⟩ := h
    refine ⟨_, rfl, _, rfl, _, rfl, _, rfl, p, N, ph, n, rfl, fun hn => ?_, fun z hz => hE z hz⟩
    obtain ⟨g1, g2, g3, g4, g5, g6⟩ := fault_none hn
    have hQ' := hQ hn
    clear hQ hE hn
    obtain ⟨p, rfl⟩ := Int.eq_ofNat_of_zero_le (show 0 ≤ p by omega)
    obtain ⟨N, rfl⟩ := Int.eq_ofNat_of_zero_le (show 0 ≤ N by omega)
    obtain ⟨ph, rfl⟩ := Int.eq_ofNat_of_zero_le (show 0 ≤ ph by omega)
    obtain ⟨n, rfl⟩ := Int.eq_ofNat_of_zero_le (show 0 ≤ n by omega)
    simp only [Int.toNat_natCast] at hQ'
    have hch : ch p n ≤ 1000 := by
      have h : ∀ a : Fin 11, ∀ b : Fin 11, ch a.val b.val ≤ 1000 := by decide +kernel
      exact h ⟨p, by omega⟩ ⟨n, by omega⟩
    refine ⟨_, rfl, _, rfl, p, n, rfl, by omega, by omega, by omega, _, rfl, by omega, by omega, ?_⟩
    refine ⟨fun i m ys σ H' => m = ch p n - i ∧ i ≤ ch p n ∧ (∃ v1 v2 : Option V, σ = [some (natV p), some (natV N), some (.ref r), some (natV ph), some (natV n), some (.bl late), v1, v2]) ∧ Same H H' ∧ ys = (safeUpTo bs ph N p n late i).map fun w => V.str (tx w), ⟨_, rfl, Nat.zero_le _, ⟨none, none, rfl⟩, Same.refl _, rfl⟩, ?_⟩
    rintro i m ys σ H' ⟨rfl, hi, ⟨v1, v2, rfl⟩, hS, rfl⟩
    by_cases hlt : i < ch p n
    · refine .inr ⟨by show i < ((ch p n : Nat) : Int).toNat; omega, fun ys' σ' H' => (∃ v1 v2 : Option V, σ' = [some (natV p), some (natV N), some (.ref r), some (natV ph), some (natV n), some (.bl late), v1, v2]) ∧ Same H H' ∧ ys' = (safeUpTo bs ph N p n late (i + 1)).map fun w => V.str (tx w), fun ys' σ' H' z => ⟨_, by omega, rfl, hlt, z.1, z.2.1, z.2.2⟩, ?_⟩
      rintro x H1 ⟨rfl, rfl⟩
      have st := safe_step (bs := bs) (ph := ph) (N := N) (late := late) hlt
      obtain ⟨w1, w2⟩ := ew_mem (wAt_mem hlt)
      refine ⟨_, rfl, _, rfl, _, rfl, i, p, n, ?_, by omega, by omega, by omega, hlt, fun H2 hS2 => ?_⟩
      · show [V.int (0 + (i : Int)), _, _] = _
        rw [Int.zero_add]
      have hlen := trim_len (wAt p i n)
      refine ⟨_, rfl, _, rfl, _, rfl, _, rfl, _, rfl, _, rfl, rfl, rfl, trim (wAt p i n), p, N, ph, r, bs, late, rfl, ⟨trim_norm _, by omega, by omega, by omega, by rw [ones_trim]; omega, by omega⟩, R.same (hS.trans hS2), fun H3 hS3 => ⟨_, rfl, ?_⟩⟩
      refine ifB (fun e => ⟨?_, _, rfl, ⟨_, _, rfl⟩, (hS.trans hS2).trans hS3, ?_⟩) (fun e => ⟨⟨_, _, rfl⟩, (hS.trans hS2).trans hS3, ?_⟩)
      · rw [List.length_map]
        exact small1000 (Nat.le_trans (safe_len _ _ _ _ _ _ _) hch)
      · rw [st, e, List.map_append]
        rfl
      · rw [st, e]
        show _ = List.map _ (_ ++ [])
        rw [List.append_nil]
    · have ei : i = ch p n := by omega
      subst ei
      refine .inl ⟨by show ((ch p n : Nat) : Int).toNat ≤ ch p n; omega, ?_⟩
      rw [safe_all]
      exact hQ' H' hS
end
end Cl
set_option Elab.async false
set_option linter.all false
set_option maxRecDepth 100000
set_option maxHeartbeats 4000000
/-! The law's own words: carried, released, put, newest, following. -/
namespace Cl
open PySem PySem.Spec PyProof.Rows L2 Cm
def optV : Option Nat → V
  | none => .non
  | some i => natV i
def optW : Option (List Bool) → V
  | none => .non
  | some w => .str (tx w)
def sp__law_carried (c : Ctx) : Sp := fun vs H Q _ => ∃ (w : List Bool) (p : Nat), vs = [.str (tx w), natV p] ∧ w.length ≤ 1000 ∧ Q (.str (tx (carryW w p))) H
def sp__law_released (c : Ctx) : Sp := fun vs H Q _ => ∃ (w : List Bool) (i : Nat), vs = [.str (tx w), natV i] ∧ w.length ≤ 900 ∧ i < ones w ∧ ∀ H', Same H H' → Q (.str (tx (trim (relAt w i)))) H'
def sp__law_put (c : Ctx) : Sp := fun vs H Q _ => ∃ (w : List Bool) (o : Option Nat) (b p : Nat) (late : Bool), vs = [.str (tx w), optV o, natV b, natV p, .bl late] ∧ w.length ≤ 800 ∧ (∀ i, o = some i → i < ones w) ∧ ∀ H', Same H H' → Q (optW (putW w o b p late)) H'
def sp__law_newest (c : Ctx) : Sp := fun vs H Q _ => ∃ (w : List Bool) (N : Nat), vs = [.str (tx w), natV N] ∧ 1 ≤ N ∧ Q (optV (newestW w N)) H
def sp__law_following (c : Ctx) : Sp := fun vs H Q _ => ∃ (w r : List Bool), vs = [.str (tx w)] ∧ w = true :: r ∧ w.length ≤ 900 ∧ Q (.str (tx (fol w))) H
theorem ones_app (w : List Bool) : ones (w ++ [true]) = ones w + 1 := by
  unfold ones
  rw [dep_app, List.length_append, List.length_map]
  rfl
section
variable {c : Ctx}
theorem dd__law_carried (T : Fx c) : Dd c 3 "_law_carried" ["_law_word", "_law_places"] [] (sp__law_carried c) := by
  refine Dd.of (st := st__law_carried) T.d__law_carried (fun f fd F => Df.ok (k := 2) F sc__law_carried (fun vs H Q E h => ?_) (fun f cdv A outer s H vs Q E hr h => ⟨_, (pss_cons (ps_if (PW.pt (pw_or (pt_cmpR op_eq (pv 0) pe_str (nomark _)) (pw_or1 (pt_cmpR op_ge (pe_callB call_len (by rfl) T.f_len (by decide +kernel) (pa_cons (pv 0) pa_nil)) (pv 1) (nomark _))))) (pss_one (ps_ret (pv 0))) pss_nil) (pss_one (ps_ret (pe_bm PySem.F.plainAttrs_str PySem.F.slot_str_lstrip PySem.F.type_str_lstrip mt_lstripChars (pe_op op_add_str (pe_slice sl_str (pv 0) (po_some pe_int) po_none) pe_str) (pa_cons pe_str pa_nil))))), ?_⟩)) (fun _ _ _ _ _ _ us hl => match us, hl with | [_, _], _ => rfl)
  · obtain ⟨w, p, rfl, _⟩ := h
    rfl
  · obtain ⟨w, p, rfl, hl, hQ⟩ := h
    have hz : (tx w).length ≤ sizeLine := by rw [tx_len]; exact sz1000 hl
    refine ⟨_, rfl, rfl, _, rfl, ?_⟩
    rw [sEx, tx_eq]
    have go : ¬ (w = [] ∨ p ≤ w.length) → ∃ x, (start N__law_carried [V.str (tx w), natV p])[0]? = some (some x) ∧ ∃ z, True := fun _ => ⟨_, rfl, 0, trivial⟩
    by_cases q1 : w = []
    · refine ifT (decide_eq_true q1) ⟨_, rfl, ?_⟩
      have e : carryW w p = w := if_pos (.inl q1)
      rw [e] at hQ
      exact hQ
    · refine ifF (decide_eq_false q1) ⟨_, rfl, _, _, rfl, ⟨hz, rfl⟩, _, rfl, _, _, rfl, rfl, _, rfl, ?_⟩
      by_cases q2 : p ≤ w.length
      · refine ifT (decide_eq_true (by rw [tx_len]; omega)) ⟨_, rfl, ?_⟩
        have e : carryW w p = w := if_pos (.inr q2)
        rw [e] at hQ
        exact hQ
      · refine ifF (decide_eq_false (by rw [tx_len]; omega)) ?_
        have e : carryW w p = trim (w.tail ++ [true]) := if_neg (fun z => z.elim q1 q2)
        rw [e] at hQ
        refine ⟨_, rfl, _, rfl, _, rfl, hz, ?_⟩
        have ec := tx_cutFrom w 1
        have ec2 : cutS (tx w) (some 1) none = tx w.tail := by
          rw [← List.drop_one]
          exact ec
        rw [ec2]
        have l1 : w.tail.length ≤ 1000 := by
          rw [List.length_tail]
          omega
        refine ⟨_, _, rfl, rfl, ?_, ?_⟩
        · rw [s1x, tx_len, tx_len]
          show w.tail.length + 1 ≤ sizeLine
          exact sz1000 (by rw [List.length_tail]; omega)
        rw [s1x, tx_app]
        refine ⟨rfl, _, _, rfl, rfl, ?_, ?_⟩
        · rw [tx_len, List.length_append, List.length_tail]
          show w.length - 1 + 1 ≤ sizeLine
          exact sz1000 (by omega)
        rw [tx_lstrip]
        exact hQ
theorem dd__law_released (T : Fx c) : Dd c 3 "_law_released" ["_law_word", "_law_which"] [] (sp__law_released c) := by
  refine Dd.of (st := st__law_released) T.d__law_released (fun f fd F => Df.ok (k := 2) F sc__law_released (fun vs H Q E h => ?_) (fun f cdv A outer s H vs Q E hr h => ⟨_, (pss_cons (ps_set (i := 2) sc__law_released.nd rfl (Or.inl rfl) (pe_ix ix_list (pe_lc (own := [("_law_k", 3)]) (g := gName 3) rfl sc__law_released.nd (pi_range1 (by rfl) T.f_range (pa_cons (pe_callB call_len (by rfl) T.f_len (by decide +kernel) (pa_cons (pv 0) pa_nil)) pa_nil)) (blkOk_by (N := N__law_released) (sc := defScope st__law_released) (by decide +kernel)) (fun _ _ _ _ _ => (pg_name (i := 3) sc__law_released.nd rfl (Or.inl rfl))) (fun _ _ _ _ _ => (pts_one (pt_cmpR op_eq (pe_ix ix_str (pv 0) (pv 3) (fun _ _ => rfl)) pe_str (nomark _)))) (fun _ _ _ _ _ => (pv 3))) (pv 1) (fun _ _ => rfl))) (pss_one (ps_ret (pe_bm PySem.F.plainAttrs_str PySem.F.slot_str_lstrip PySem.F.type_str_lstrip mt_lstripChars (pe_op op_add_str (pe_op op_add_str (pe_slice sl_str (pv 0) po_none (po_some (pv 2))) pe_str) (pe_slice sl_str (pv 0) (po_some (pe_op op_add (pv 2) pe_int)) po_none)) (pa_cons pe_str pa_nil))))), ?_⟩)) (fun _ _ _ _ _ _ us hl => match us, hl with | [_, _], _ => rfl)
  · obtain ⟨w, i, rfl, _⟩ := h
    rfl
  · obtain ⟨w, i, rfl, hl, hi, hQ⟩ := h
    have hz : (tx w).length ≤ sizeLine := by rw [tx_len]; exact sz1000 (by omega)
    refine ⟨_, rfl, _, _, rfl, ⟨hz, rfl⟩, _, rfl, by rw [tx_len]; omega, by rw [tx_len]; omega, fun D hD => lc_range (lo := 0) (n := (((tx w).length : Nat) : Int).toNat) (fun j H' => Same H H' ∧ H' D = some (.lst ((posP w j).map natV))) ⟨Same.new hD, upd_same⟩ ?_ ?_⟩
    · rintro j H' hj ⟨hS, hDj⟩
      rw [Int.toNat_natCast, tx_len] at hj
      obtain ⟨b, hb⟩ : ∃ b, w[j]? = some b := ⟨_, List.getElem?_eq_getElem hj⟩
      refine ⟨rfl, _, rfl, _, rfl, _, _, _, rfl, rfl, hz, atI_of (j := j) (by omega) (by rw [tl_tx, List.getElem?_map, hb]; rfl), rfl, _, rfl, ?_⟩
      rw [sg_tx, s1x, tx_eq]
      have st := posP_step hb
      have hlen : ((posP w j).map natV).length < sizeLine := by
        rw [List.length_map]
        refine small1000 (Nat.le_trans (List.length_filter_le _ _) ?_)
        rw [List.length_range]
        omega
      cases b with
      | true =>
        refine ifT (decide_eq_true rfl) ⟨_, rfl, _, hDj, hlen, Same.upd hS hD, ?_⟩
        rw [upd_same, st, List.map_append]
        show some (HO.lst (_ ++ [V.int (0 + (j : Int))])) = _
        rw [Int.zero_add]
        rfl
      | false =>
        refine ifF (decide_eq_false (by decide)) ⟨hS, ?_⟩
        rw [st]
        show _ = some (HO.lst (List.map natV (posP w j ++ [])))
        rw [List.append_nil]
        exact hDj
    · rintro H' ⟨hS, hDj⟩
      rw [Int.toNat_natCast, tx_len, posP_all] at hDj
      obtain ⟨s, hs⟩ : ∃ s, (posF w)[i]? = some s := ⟨_, List.getElem?_eq_getElem (by rw [posF_len]; exact hi)⟩
      obtain ⟨h1, h2⟩ := rel_pos hs
      refine ⟨_, rfl, D, _, _, _, rfl, rfl, SqL.of hDj, atI_nat (by rw [List.getElem?_map, hs]; rfl), ?_⟩
      refine ⟨_, rfl, _, rfl, _, rfl, _, rfl, hz, ?_⟩
      rw [tx_cutTo]
      refine ⟨_, _, rfl, rfl, ?_, ?_⟩
      · rw [s0x, tx_len, tx_len]
        show (w.take s).length + 1 ≤ sizeLine
        exact sz1000 (by rw [List.length_take]; omega)
      rw [s0x, tx_app]
      refine ⟨_, rfl, _, rfl, _, _, rfl, rfl, _, rfl, _, rfl, hz, ?_⟩
      have ec := tx_cutFrom w (s + 1)
      have ec2 : cutS (tx w) (some ((s : Int) + 1)) none = tx (w.drop (s + 1)) := ec
      rw [ec2]
      refine ⟨_, _, rfl, rfl, ?_, ?_⟩
      · rw [tx_len, tx_len, List.length_append, List.length_take, List.length_drop]
        show min s w.length + 1 + _ ≤ sizeLine
        exact sz1000 (by omega)
      rw [tx_app]
      have e3 : w.take s ++ [false] ++ w.drop (s + 1) = relAt w i := by
        rw [h1, List.append_assoc]
        rfl
      rw [e3]
      refine ⟨rfl, _, _, rfl, rfl, by rw [tx_len, relAt_len]; exact sz1000 (by omega), ?_⟩
      rw [← s0x, tx_lstrip]
      exact hQ H' hS
theorem dd__law_newest (T : Fx c) : Dd c 1 "_law_newest" ["_law_word", "_law_limit"] [] (sp__law_newest c) := by
  refine Dd.of (st := st__law_newest) T.d__law_newest (fun f fd F => Df.ok (k := 0) F sc__law_newest (fun vs H Q E h => ?_) (fun f cdv A outer s H vs Q E hr h => ⟨_, (pss_cons (ps_set (i := 2) sc__law_newest.nd rfl (Or.inl rfl) (pe_bm PySem.F.plainAttrs_str PySem.F.slot_str_count PySem.F.type_str_count mt_count (pv 0) (pa_cons pe_str pa_nil))) (pss_cons (ps_if (pt_cmpR op_eq (pv 2) (pv 1) (nomark _)) (pss_one (ps_ret (pe_op op_sub (pv 2) pe_int))) pss_nil) (pss_one (ps_ret pe_non)))), ?_⟩)) (fun _ _ _ _ _ _ us hl => match us, hl with | [_, _], _ => rfl)
  · obtain ⟨w, N, rfl, _⟩ := h
    rfl
  · obtain ⟨w, N, rfl, hN, hQ⟩ := h
    refine ⟨_, rfl, rfl, _, _, rfl, rfl, ?_⟩
    rw [tx_count1]
    refine ⟨_, rfl, _, rfl, rfl, _, rfl, ?_⟩
    unfold newestW at hQ
    by_cases q : ones w = N
    · rw [if_pos q] at hQ
      refine ifT (eqT (by omega)) ⟨_, rfl, _, _, rfl, rfl, cvi (Q := Q) hQ (by omega)⟩
    · rw [if_neg q] at hQ
      exact ifF (eqF (by omega)) hQ
theorem dd__law_following (T : Fx c) : Dd c 3 "_law_following" ["_law_word"] [] (sp__law_following c) := by
  refine Dd.of (st := st__law_following) T.d__law_following (fun f fd F => Df.ok (k := 2) F sc__law_following (fun vs H Q E h => ?_) (fun f cdv A outer s H vs Q E hr h => ⟨_, (pss_cons (ps_set (i := 1) sc__law_following.nd rfl (Or.inl rfl) (pe_op op_add_str pe_str (pv 0))) (pss_cons (ps_set (i := 2) sc__law_following.nd rfl (Or.inl rfl) (pe_bm PySem.F.plainAttrs_str PySem.F.slot_str_rfind PySem.F.type_str_rfind mt_rfind (pv 1) (pa_cons pe_str pa_nil))) (pss_cons (ps_set (i := 3) sc__law_following.nd rfl (Or.inl rfl) (pe_slice sl_str (pv 1) (po_some (pe_op op_add (pv 2) pe_int)) po_none)) (pss_cons (ps_set (i := 4) sc__law_following.nd rfl (Or.inl rfl) (pe_bm PySem.F.plainAttrs_str PySem.F.slot_str_count PySem.F.type_str_count mt_count (pv 3) (pa_cons pe_str pa_nil))) (pss_one (ps_ret (pe_bm PySem.F.plainAttrs_str PySem.F.slot_str_lstrip PySem.F.type_str_lstrip mt_lstripChars (pe_op op_add_str (pe_op op_add_str (pe_op op_add_str (pe_slice sl_str (pv 1) po_none (po_some (pv 2))) pe_str) (pe_op op_mulS pe_str (pv 4))) (pe_op op_mulS pe_str (pe_op op_sub (pe_callB call_len (by rfl) T.f_len (by decide +kernel) (pa_cons (pv 3) pa_nil)) (pv 4)))) (pa_cons pe_str pa_nil)))))))), ?_⟩)) (fun _ _ _ _ _ _ us hl => match us, hl with | [_], _ => rfl)
  · obtain ⟨w, r, rfl, _⟩ := h
    rfl
  · obtain ⟨w, r, rfl, hw, hl, hQ⟩ := h
    refine ⟨_, rfl, _, _, rfl, rfl, ?_, ?_⟩
    · rw [s0x, tx_len, tx_len]
      show 1 + w.length ≤ sizeLine
      exact sz1000 (by omega)
    rw [s0x, tx_app]
    obtain ⟨i, hi, hi2⟩ := lastFT_ex (false :: w) 0 rfl (by rw [hw]; rfl)
    have ef : fol w = folAt w i := by
      unfold fol
      rw [hi]
      rfl
    rw [ef] at hQ
    refine ⟨_, rfl, rfl, _, _, rfl, rfl, ?_⟩
    have er := tx_rfind hi
    have er2 : Txt.rfind (tx ([false] ++ w)) "01" = (i : Int) := er
    rw [er2]
    have hz : (tx ([false] ++ w)).length ≤ sizeLine := by
      rw [tx_len]
      show w.length + 1 ≤ sizeLine
      exact sz1000 (by omega)
    refine ⟨_, rfl, _, rfl, _, _, rfl, rfl, _, rfl, _, rfl, hz, ?_⟩
    have ec := tx_cutFrom ([false] ++ w) (i + 2)
    have ec2 : cutS (tx ([false] ++ w)) (some ((i : Int) + 2)) none = tx (([false] ++ w).drop (i + 2)) := ec
    rw [ec2]
    generalize hT : ([false] ++ w).drop (i + 2) = tl
    have lT : tl.length ≤ 900 := by
      rw [← hT, List.length_drop]
      show w.length + 1 - (i + 2) ≤ 900
      omega
    have hT2 : (false :: w).drop (i + 2) = tl := hT
    have ho := ones_le tl
    unfold folAt at hQ
    rw [hT2] at hQ
    refine ⟨_, rfl, rfl, _, _, rfl, rfl, ?_⟩
    rw [← s0x, tx_count0]
    refine ⟨_, rfl, _, rfl, _, rfl, _, rfl, hz, ?_⟩
    have et := tx_cutTo ([false] ++ w) i
    rw [et]
    have l3 : (([false] ++ w).take i).length ≤ 902 := by
      rw [List.length_take]
      show min i (w.length + 1) ≤ 902
      omega
    refine ⟨_, _, rfl, rfl, ?_, ?_⟩
    · rw [s10x, tx_len, tx_len]
      show _ + 2 ≤ sizeLine
      exact sz1000 (by omega)
    rw [s10x, tx_app]
    have em : ∀ (b : Bool) (k : Nat), (⟨(List.replicate k (sg b)).toArray⟩ : Str) = tx (List.replicate k b) := tx_rep
    refine ⟨_, rfl, sg false, tl.length - ones tl, by rw [s0x]; rfl, rfl, by omega, ?_⟩
    rw [em]
    refine ⟨_, _, rfl, rfl, ?_, ?_⟩
    · rw [tx_len, tx_len, List.length_append, List.length_replicate]
      show _ + 2 + _ ≤ sizeLine
      exact Nat.le_of_lt (Nat.lt_of_le_of_lt (show _ ≤ 10000 by omega) (by decide))
    rw [tx_app]
    refine ⟨_, rfl, _, _, rfl, ⟨by rw [tx_len]; exact sz1000 (by omega), rfl⟩, _, rfl, _, _, rfl, rfl, sg true, ones tl, by rw [s1x]; rfl, ?_, by omega, ?_⟩
    · show V.int _ = V.int _
      rw [tx_len]
      congr 1
      omega
    rw [em]
    refine ⟨_, _, rfl, rfl, ?_, ?_⟩
    · rw [tx_len, tx_len, List.length_append, List.length_append, List.length_replicate, List.length_replicate]
      show _ + 2 + _ + _ ≤ sizeLine
      exact Nat.le_of_lt (Nat.lt_of_le_of_lt (show _ ≤ 10000 by omega) (by decide))
    rw [tx_app]
    refine ⟨rfl, _, _, rfl, rfl, ?_, ?_⟩
    · rw [tx_len, List.length_append, List.length_append, List.length_append, List.length_replicate, List.length_replicate]
      show _ + 2 + _ + _ ≤ sizeLine
      exact Nat.le_of_lt (Nat.lt_of_le_of_lt (show _ ≤ 10000 by omega) (by decide))
    rw [tx_lstrip]
    exact hQ
end
end Cl
set_option Elab.async false
set_option linter.all false
set_option maxRecDepth 100000
set_option maxHeartbeats 4000000
/-! The law's own words: put. -/
namespace Cl
open PySem PySem.Spec PyProof.Rows L2 Cm
section
variable {c : Ctx}
theorem dd__law_put (T : Fx c) : Dd c 4 "_law_put" ["_law_word", "_law_which", "_law_count", "_law_places", "_law_is_late"] [] (sp__law_put c) := by
  refine Dd.of (st := st__law_put) T.d__law_put (fun f fd F => Df.ok (k := 3) F sc__law_put (fun vs H Q E h => ?_) (fun f cdv A outer s H vs Q E hr h => ⟨_, (pss_cons (ps_if (pt_val (pv 4)) (pss_cons (ps_if (pt_cmpR op_ge (pe_callB call_len (by rfl) T.f_len (by decide +kernel) (pa_cons (pv 0) pa_nil)) (pv 3) (nomark _)) (pss_one (ps_ret pe_non)) pss_nil) (pss_one (ps_set (i := 0) sc__law_put.nd rfl (Or.inl rfl) (pe_op op_add_str (pv 0) pe_str)))) pss_nil) (pss_cons (ps_if (pt_cmpR op_notN (pv 1) pe_non (nomark _)) (pss_one (ps_set (i := 0) sc__law_put.nd rfl (Or.inl rfl) (pcD (dd__law_released T) (Fits.mk rfl rfl rfl rfl rfl) (hr.mono (by decide)) rfl passL (pa_cons (pv 0) (pa_cons (pv 1) pa_nil))))) pss_nil) (pss_cons (ps_set (i := 5) sc__law_put.nd rfl (Or.inl rfl) (pe_op op_sub (pe_bm PySem.F.plainAttrs_str PySem.F.slot_str_count PySem.F.type_str_count mt_count (pv 0) (pa_cons pe_str pa_nil)) (pe_callTy call_int1 (by rfl) T.f_int (by decide +kernel) (pa_cons (pv 4) pa_nil)))) (pss_cons (ps_for PassesOwn.never rfl (pi_range1 (by rfl) T.f_range (pa_cons (pe_callB (call_min2 rfl) (by rfl) T.f_min (by decide +kernel) (pa_cons (pv 2) (pa_cons (pv 5) pa_nil))) pa_nil)) (pg_name (i := 6) sc__law_put.nd rfl (Or.inl rfl)) (pss_one (ps_set (i := 0) sc__law_put.nd rfl (Or.inl rfl) (pcD (dd__law_carried T) (Fits.mk rfl rfl rfl rfl rfl) (hr.mono (by decide)) rfl passL (pa_cons (pv 0) (pa_cons (pv 3) pa_nil)))))) (pss_cons (ps_if (pt_val (pv 4)) (pss_one (ps_ret (pv 0))) pss_nil) (pss_cons (ps_if (pt_cmpR op_ge (pe_callB call_len (by rfl) T.f_len (by decide +kernel) (pa_cons (pv 0) pa_nil)) (pv 3) (nomark _)) (pss_one (ps_ret pe_non)) pss_nil) (pss_one (ps_ret (pe_op op_add_str (pv 0) pe_str))))))))), ?_⟩)) (fun _ _ _ _ _ _ us hl => match us, hl with | [_, _, _, _, _], _ => rfl)
  · obtain ⟨w, o, b, p, late, rfl, _⟩ := h
    rfl
  · obtain ⟨w, o, b, p, late, rfl, hl, hi, hQ⟩ := h
    cases late with
    | true =>
      refine ⟨_, rfl, _, rfl, ?_⟩
      refine iteT ⟨_, rfl, _, _, rfl, ⟨by rw [tx_len]; exact sz1000 (by omega), rfl⟩, _, rfl, _, _, rfl, rfl, _, rfl, ?_⟩
      rw [tx_len]
      by_cases hfull : p ≤ w.length
      · refine ifT (decide_eq_true (by omega)) (cv (Q := Q) (hQ H (Same.refl H)) ?_)
        unfold putW
        rw [if_pos rfl, if_pos hfull]
        rfl
      refine ifF (decide_eq_false (by omega)) ⟨_, rfl, _, _, rfl, rfl, ?_, ?_⟩
      · rw [s1x, tx_len, tx_len]
        show w.length + 1 ≤ sizeLine
        exact sz1000 (by omega)
      have e1 : tx w ++ "1" = tx (w ++ [true]) := by rw [s1x, tx_app]
      rw [e1]
      cases o with
      | none =>
        refine ⟨_, rfl, rfl, _, rfl, ?_⟩
        refine ifF (by rfl) ?_
        have hle2 : ((w ++ [true])).length ≤ 850 := by
          rw [List.length_append]
          show w.length + 1 ≤ 850
          omega
        obtain ⟨H2, hS2, eH2⟩ : ∃ H2, Same H H2 ∧ H2 = H := ⟨H, Same.refl H, rfl⟩
        rw [← eH2]
        clear eH2
        refine ⟨_, rfl, rfl, _, _, rfl, rfl, ?_⟩
        rw [tx_count1]
        refine ⟨_, rfl, .inr ⟨_, rfl, _, _, rfl, rfl, ?_⟩⟩
        generalize hw2 : (w ++ [true]) = w2 at hle2 ⊢
        have ho := ones_le w2
        refine ⟨_, rfl, _, rfl, _, _, rfl, _, rfl, ?_, ?_, for_range (lo := 0) (fun j σ H3 => (∃ v1 v2 : Option V, σ = [some (.str (tx (carryN w2 p j))), some (optV none), some (natV b), some (natV p), some (.bl true), v1, v2]) ∧ H3 = H2) ⟨⟨_, _, rfl⟩, rfl⟩ ?_ ?_⟩
        · show -(2 ^ 62) ≤ (if ((ones w2 : Nat) : Int) - 1 < (b : Int) then ((ones w2 : Nat) : Int) - 1 else (b : Int))
          split <;> omega
        · show (if ((ones w2 : Nat) : Int) - 1 < (b : Int) then ((ones w2 : Nat) : Int) - 1 else (b : Int)) < 2 ^ 62
          split <;> omega
        · rintro j σ H3 hj ⟨⟨v1, v2, rfl⟩, rfl⟩
          exact ⟨_, rfl, _, rfl, carryN w2 p j, p, rfl, Nat.le_trans (carryN_le w2 p j) (by omega), ⟨_, _, rfl⟩, rfl⟩
        · rintro σ H3 ⟨⟨v1, v2, rfl⟩, rfl⟩
          have ek : (if ((ones w2 : Nat) : Int) - 1 < (b : Int) then ((ones w2 : Nat) : Int) - 1 else (b : Int)).toNat = min b (ones w2 - 1) := by
            split <;> omega
          have hlk := carryN_le w2 p (min b (ones w2 - 1))
          have er : relO (w ++ [true]) none = w2 := hw2
          refine ⟨_, rfl, _, rfl, ?_⟩
          refine iteT ⟨_, rfl, ?_⟩
          have eq : putW w none b p true = some (carryN w2 p (min b (ones w2 - 1))) := by
            unfold putW
            rw [if_pos rfl, if_neg hfull, er]
          rw [eq] at hQ
          refine cv (Q := Q) (hQ _ hS2) ?_
          show V.str (tx _) = V.str (tx _)
          rw [← ek]
          rfl
      | some i =>
        refine ⟨_, rfl, rfl, _, rfl, ?_⟩
        refine ifT (by rfl) ⟨_, rfl, _, rfl, (w ++ [true]), i, rfl, ?_, ?_, fun H2 hS2 => ?_⟩
        · rw [List.length_append]
          show w.length + 1 ≤ 900
          omega
        · rw [ones_app]
          have := hi i rfl
          omega
        have hle2 : (trim (relAt (w ++ [true]) i)).length ≤ 850 := by
          refine Nat.le_trans (trim_len _) ?_
          rw [relAt_len, List.length_append]
          show w.length + 1 ≤ 850
          omega
        refine ⟨_, rfl, rfl, _, _, rfl, rfl, ?_⟩
        rw [tx_count1]
        refine ⟨_, rfl, .inr ⟨_, rfl, _, _, rfl, rfl, ?_⟩⟩
        generalize hw2 : trim (relAt (w ++ [true]) i) = w2 at hle2 ⊢
        have ho := ones_le w2
        refine ⟨_, rfl, _, rfl, _, _, rfl, _, rfl, ?_, ?_, for_range (lo := 0) (fun j σ H3 => (∃ v1 v2 : Option V, σ = [some (.str (tx (carryN w2 p j))), some (optV (some i)), some (natV b), some (natV p), some (.bl true), v1, v2]) ∧ H3 = H2) ⟨⟨_, _, rfl⟩, rfl⟩ ?_ ?_⟩
        · show -(2 ^ 62) ≤ (if ((ones w2 : Nat) : Int) - 1 < (b : Int) then ((ones w2 : Nat) : Int) - 1 else (b : Int))
          split <;> omega
        · show (if ((ones w2 : Nat) : Int) - 1 < (b : Int) then ((ones w2 : Nat) : Int) - 1 else (b : Int)) < 2 ^ 62
          split <;> omega
        · rintro j σ H3 hj ⟨⟨v1, v2, rfl⟩, rfl⟩
          exact ⟨_, rfl, _, rfl, carryN w2 p j, p, rfl, Nat.le_trans (carryN_le w2 p j) (by omega), ⟨_, _, rfl⟩, rfl⟩
        · rintro σ H3 ⟨⟨v1, v2, rfl⟩, rfl⟩
          have ek : (if ((ones w2 : Nat) : Int) - 1 < (b : Int) then ((ones w2 : Nat) : Int) - 1 else (b : Int)).toNat = min b (ones w2 - 1) := by
            split <;> omega
          have hlk := carryN_le w2 p (min b (ones w2 - 1))
          have er : relO (w ++ [true]) (some i) = w2 := hw2
          refine ⟨_, rfl, _, rfl, ?_⟩
          refine iteT ⟨_, rfl, ?_⟩
          have eq : putW w (some i) b p true = some (carryN w2 p (min b (ones w2 - 1))) := by
            unfold putW
            rw [if_pos rfl, if_neg hfull, er]
          rw [eq] at hQ
          refine cv (Q := Q) (hQ _ hS2) ?_
          show V.str (tx _) = V.str (tx _)
          rw [← ek]
          rfl
    | false =>
      refine ⟨_, rfl, _, rfl, ?_⟩
      refine iteF ?_
      cases o with
      | none =>
        refine ⟨_, rfl, rfl, _, rfl, ?_⟩
        refine ifF (by rfl) ?_
        have hle2 : (w).length ≤ 850 := by
          show w.length ≤ 850
          omega
        obtain ⟨H2, hS2, eH2⟩ : ∃ H2, Same H H2 ∧ H2 = H := ⟨H, Same.refl H, rfl⟩
        rw [← eH2]
        clear eH2
        refine ⟨_, rfl, rfl, _, _, rfl, rfl, ?_⟩
        rw [tx_count1]
        refine ⟨_, rfl, .inr ⟨_, rfl, _, _, rfl, rfl, ?_⟩⟩
        generalize hw2 : w = w2 at hle2 ⊢
        have ho := ones_le w2
        refine ⟨_, rfl, _, rfl, _, _, rfl, _, rfl, ?_, ?_, for_range (lo := 0) (fun j σ H3 => (∃ v1 v2 : Option V, σ = [some (.str (tx (carryN w2 p j))), some (optV none), some (natV b), some (natV p), some (.bl false), v1, v2]) ∧ H3 = H2) ⟨⟨_, _, rfl⟩, rfl⟩ ?_ ?_⟩
        · show -(2 ^ 62) ≤ (if ((ones w2 : Nat) : Int) - 0 < (b : Int) then ((ones w2 : Nat) : Int) - 0 else (b : Int))
          split <;> omega
        · show (if ((ones w2 : Nat) : Int) - 0 < (b : Int) then ((ones w2 : Nat) : Int) - 0 else (b : Int)) < 2 ^ 62
          split <;> omega
        · rintro j σ H3 hj ⟨⟨v1, v2, rfl⟩, rfl⟩
          exact ⟨_, rfl, _, rfl, carryN w2 p j, p, rfl, Nat.le_trans (carryN_le w2 p j) (by omega), ⟨_, _, rfl⟩, rfl⟩
        · rintro σ H3 ⟨⟨v1, v2, rfl⟩, rfl⟩
          have ek : (if ((ones w2 : Nat) : Int) - 0 < (b : Int) then ((ones w2 : Nat) : Int) - 0 else (b : Int)).toNat = min b (ones w2) := by
            split <;> omega
          have hlk := carryN_le w2 p (min b (ones w2))
          have er : relO w none = w2 := hw2
          refine ⟨_, rfl, _, rfl, ?_⟩
          refine iteF ⟨_, rfl, _, _, rfl, ⟨by rw [tx_len]; exact sz1000 (Nat.le_trans (carryN_le w2 p _) (by omega)), rfl⟩, _, rfl, _, _, rfl, rfl, _, rfl, ?_⟩
          rw [tx_len]
          have ek2 : carryN w2 p (min b (ones w2)) = carryN w2 p (if ((ones w2 : Nat) : Int) - 0 < (b : Int) then ((ones w2 : Nat) : Int) - 0 else (b : Int)).toNat := by rw [ek]
          by_cases q : p ≤ (carryN w2 p (min b (ones w2))).length
          · have eq : putW w none b p false = none := by
              unfold putW
              rw [if_neg Bool.false_ne_true, er, if_pos q]
            rw [eq] at hQ
            rw [ek2] at q
            refine ifT (decide_eq_true (Int.ofNat_le.mpr q)) (hQ _ hS2)
          · have eq : putW w none b p false = some (carryN w2 p (min b (ones w2)) ++ [true]) := by
              unfold putW
              rw [if_neg Bool.false_ne_true, er, if_neg q]
            rw [eq] at hQ
            rw [ek2] at q hQ
            refine ifF (decide_eq_false (fun z => q (Int.ofNat_le.mp z))) ⟨_, rfl, _, _, rfl, rfl, ?_, ?_⟩
            · rw [s1x, tx_len, tx_len]
              exact sz1000 (Nat.succ_le_succ (Nat.le_trans (carryN_le w2 p _) (show w2.length ≤ 850 by omega)) |> fun z => Nat.le_trans z (by decide))
            · rw [s1x, tx_app]
              exact hQ _ hS2
      | some i =>
        refine ⟨_, rfl, rfl, _, rfl, ?_⟩
        refine ifT (by rfl) ⟨_, rfl, _, rfl, w, i, rfl, ?_, ?_, fun H2 hS2 => ?_⟩
        · omega
        · exact hi i rfl
        have hle2 : (trim (relAt w i)).length ≤ 850 := by
          refine Nat.le_trans (trim_len _) ?_
          rw [relAt_len]
          show w.length ≤ 850
          omega
        refine ⟨_, rfl, rfl, _, _, rfl, rfl, ?_⟩
        rw [tx_count1]
        refine ⟨_, rfl, .inr ⟨_, rfl, _, _, rfl, rfl, ?_⟩⟩
        generalize hw2 : trim (relAt w i) = w2 at hle2 ⊢
        have ho := ones_le w2
        refine ⟨_, rfl, _, rfl, _, _, rfl, _, rfl, ?_, ?_, for_range (lo := 0) (fun j σ H3 => (∃ v1 v2 : Option V, σ = [some (.str (tx (carryN w2 p j))), some (optV (some i)), some (natV b), some (natV p), some (.bl false), v1, v2]) ∧ H3 = H2) ⟨⟨_, _, rfl⟩, rfl⟩ ?_ ?_⟩
        · show -(2 ^ 62) ≤ (if ((ones w2 : Nat) : Int) - 0 < (b : Int) then ((ones w2 : Nat) : Int) - 0 else (b : Int))
          split <;> omega
        · show (if ((ones w2 : Nat) : Int) - 0 < (b : Int) then ((ones w2 : Nat) : Int) - 0 else (b : Int)) < 2 ^ 62
          split <;> omega
        · rintro j σ H3 hj ⟨⟨v1, v2, rfl⟩, rfl⟩
          exact ⟨_, rfl, _, rfl, carryN w2 p j, p, rfl, Nat.le_trans (carryN_le w2 p j) (by omega), ⟨_, _, rfl⟩, rfl⟩
        · rintro σ H3 ⟨⟨v1, v2, rfl⟩, rfl⟩
          have ek : (if ((ones w2 : Nat) : Int) - 0 < (b : Int) then ((ones w2 : Nat) : Int) - 0 else (b : Int)).toNat = min b (ones w2) := by
            split <;> omega
          have hlk := carryN_le w2 p (min b (ones w2))
          have er : relO w (some i) = w2 := hw2
          refine ⟨_, rfl, _, rfl, ?_⟩
          refine iteF ⟨_, rfl, _, _, rfl, ⟨by rw [tx_len]; exact sz1000 (Nat.le_trans (carryN_le w2 p _) (by omega)), rfl⟩, _, rfl, _, _, rfl, rfl, _, rfl, ?_⟩
          rw [tx_len]
          have ek2 : carryN w2 p (min b (ones w2)) = carryN w2 p (if ((ones w2 : Nat) : Int) - 0 < (b : Int) then ((ones w2 : Nat) : Int) - 0 else (b : Int)).toNat := by rw [ek]
          by_cases q : p ≤ (carryN w2 p (min b (ones w2))).length
          · have eq : putW w (some i) b p false = none := by
              unfold putW
              rw [if_neg Bool.false_ne_true, er, if_pos q]
            rw [eq] at hQ
            rw [ek2] at q
            refine ifT (decide_eq_true (Int.ofNat_le.mpr q)) (hQ _ hS2)
          · have eq : putW w (some i) b p false = some (carryN w2 p (min b (ones w2)) ++ [true]) := by
              unfold putW
              rw [if_neg Bool.false_ne_true, er, if_neg q]
            rw [eq] at hQ
            rw [ek2] at q hQ
            refine ifF (decide_eq_false (fun z => q (Int.ofNat_le.mp z))) ⟨_, rfl, _, _, rfl, rfl, ?_, ?_⟩
            · rw [s1x, tx_len, tx_len]
              exact sz1000 (Nat.succ_le_succ (Nat.le_trans (carryN_le w2 p _) (show w2.length ≤ 850 by omega)) |> fun z => Nat.le_trans z (by decide))
            · rw [s1x, tx_app]
              exact hQ _ hS2
end
end Cl
set_option Elab.async false
set_option linter.all false
set_option maxRecDepth 100000
set_option maxHeartbeats 4000000
/-! The law's play, its list of words, its comparison of numbers. -/
namespace Cl
open PySem PySem.Spec PyProof.Rows L2 Cm
/-- terms: budgets, limit, places -/
def Tm3 (H : Hp) (t a : Addr) (bs : List Nat) (N p : Nat) : Prop := H t = some (.tup [.ref a, natV N, natV p]) ∧ H a = some (.lst (bs.map natV)) ∧ (0 < bs.length ∧ bs.length ≤ 12) ∧ 1 ≤ N
theorem Tm3.same {H H' : Hp} {t a : Addr} {bs : List Nat} {N p : Nat} (h : Tm3 H t a bs N p) (e : Same H H') : Tm3 H' t a bs N p := ⟨e _ _ h.1, e _ _ h.2.1, h.2.2⟩
def sp__law_play (c : Ctx) : Sp := fun vs H Q _ => ∃ (w : List Bool) (ph N p k : Nat) (t a : Addr) (bs : List Nat) (late : Bool), vs = [.str (tx w), natV ph, .ref t, .bl late, natV k] ∧ Tm3 H t a bs N p ∧ w.length ≤ p ∧ p ≤ 100 ∧ k ≤ 1000 ∧
  ∀ H' q xs, Same H H' → H' q = some (.lst xs) → xs.length = plays bs ph N p late k w 0 → Q (.ref q) H'
def sp__law_is (c : Ctx) : Sp := fun vs H Q _ => ∃ (a b : Int), vs = [.int a, .int b] ∧ Q (.bl (decide (a = b))) H
def sp__law_all_words (c : Ctx) : Sp := fun vs H Q _ => ∃ (p n : Nat), vs = [natV p, natV n] ∧ p ≤ 10 ∧ n ≤ 10 ∧ ∀ H' q, Same H H' → H' q = some (.lst ((allWords p n).map fun w => V.str (tx w))) → Q (.ref q) H'
theorem bud_of {bs : List Nat} (hl : 0 < bs.length) {i : Int} {k : Nat} (e : i = (k : Int)) : atI (bs.map natV) (i.fmod (bs.length : Int)) = some (natV (bA bs k)) := by
  have h1 : i.fmod (bs.length : Int) = ((k % bs.length : Nat) : Int) := by
    rw [e, Int.fmod_eq_emod_of_nonneg _ (by omega)]
    exact (Int.natCast_emod k bs.length).symm
  have hk : k % bs.length < bs.length := Nat.mod_lt _ hl
  refine atI_of h1 ?_
  unfold bA
  exact get_of hk
section
variable {c : Ctx}
theorem dd__law_play (T : Fx c) : Dd c 5 "_law_play" ["_law_word", "_law_phase", "_law_terms_here", "_law_is_late", "_law_most"] [] (sp__law_play c) := by
  refine Dd.of (st := st__law_play) T.d__law_play (fun f fd F => Df.ok (k := 4) F sc__law_play (fun vs H Q E h => ?_) (fun f cdv A outer s H vs Q E hr h => ⟨_, (pss_cons (ps_set (i := 5) sc__law_play.nd rfl (Or.inl rfl) (pe_ix ix_tup (pv 2) pe_int (fun _ _ => rfl))) (pss_cons (ps_set (i := 6) sc__law_play.nd rfl (Or.inl rfl) (pe_lst pa_nil)) (pss_cons (ps_for PassesOwn.never rfl (pi_range1 (by rfl) T.f_range (pa_cons (pv 4) pa_nil)) (pg_name (i := 7) sc__law_play.nd rfl (Or.inl rfl)) (pss_cons (ps_set (i := 8) sc__law_play.nd rfl (Or.inl rfl) (pe_ix ix_list (pv 5) (pe_op op_modN (pe_callTy call_int1 (by rfl) T.f_int (by decide +kernel) (pa_cons (pe_op op_add (pv 1) (pv 7)) pa_nil)) (pe_callB call_len (by rfl) T.f_len (by decide +kernel) (pa_cons (pv 5) pa_nil))) (fun _ _ => rfl))) (pss_cons (ps_set (i := 0) sc__law_play.nd rfl (Or.inl rfl) (pcD (dd__law_put T) (Fits.mk rfl rfl rfl rfl rfl) (hr.mono (by decide)) rfl passL (pa_cons (pv 0) (pa_cons (pcD (dd__law_newest T) (Fits.mk rfl rfl rfl rfl rfl) (hr.mono (by decide)) rfl passL (pa_cons (pv 0) (pa_cons (pe_ix ix_tup (pv 2) pe_int (fun _ _ => rfl)) pa_nil))) (pa_cons (pv 8) (pa_cons (pe_ix ix_tup (pv 2) pe_int (fun _ _ => rfl)) (pa_cons (pv 3) pa_nil))))))) (pss_cons (ps_if (pt_cmpR op_isN (pv 0) pe_non (nomark _)) (pss_one ps_break) pss_nil) (pss_one (ps_expr (pe_bm PySem.F.plainAttrs_list PySem.F.slot_list_append PySem.F.type_list_append mt_append (pv 6) (pa_cons (pv 0) pa_nil)))))))) (pss_one (ps_ret (pv 6)))))), ?_⟩)) (fun _ _ _ _ _ _ us hl => match us, hl with | [_, _, _, _, _], _ => rfl)
  · obtain ⟨w, ph, N, p, k, t, a, bs, late, rfl, _⟩ := h
    rfl
  · obtain ⟨w, ph, N, p, k, t, a, bs, late, rfl, hT, hw, hp, hk, hQ⟩ := h
    obtain ⟨hT1, hT2, hb, hN⟩ := id hT
    refine ⟨_, rfl, t, _, _, _, rfl, rfl, .inl (.inl hT1), rfl, ?_⟩
    refine ⟨Nat.zero_le _, fun q hq => ?_⟩
    have fin : ∀ σ H' xs, (∃ v0 v1 v2 : Option V, σ = [v0, some (natV ph), some (.ref t), some (.bl late), some (natV k), some (.ref a), some (.ref q), v1, v2]) → Same H H' → H' q = some (.lst xs) → xs.length = plays bs ph N p late k w 0 → tRet (tVar 6) { nx := fun _ H' => Q .non H', rt := Q } σ H' := by
      rintro σ H' xs ⟨v0, v1, v2, rfl⟩ h1 h2 h3
      exact ⟨_, rfl, hQ H' q xs h1 h2 h3⟩
    refine ⟨_, rfl, _, rfl, by omega, by omega, for_range (lo := 0) (n := ((k : Nat) : Int).toNat) (fun i σ H' => ∃ (wi : List Bool) (xs : List V), (∃ v1 v2 : Option V, σ = [some (.str (tx wi)), some (natV ph), some (.ref t), some (.bl late), some (natV k), some (.ref a), some (.ref q), v1, v2]) ∧ Same H H' ∧ H' q = some (.lst xs) ∧ xs.length = i ∧ wi.length ≤ p ∧ plays bs ph N p late k w 0 = i + plays bs ph N p late (k - i) wi i) ⟨w, [], ⟨none, none, rfl⟩, Same.new hq, upd_same, rfl, hw, by rw [Nat.zero_add]; rfl⟩ ?_ ?_⟩
    · rintro i σ H' hi ⟨wi, xs, ⟨v1, v2, rfl⟩, hS, hl, hlen, hwi, hpl⟩
      have hik : i < k := by omega
      obtain ⟨m, hm⟩ : ∃ m, k - i = m + 1 := ⟨k - i - 1, by omega⟩
      have hm2 : k - (i + 1) = m := by omega
      have hT' := hT.same hS
      refine ⟨_, rfl, _, rfl, _, rfl, _, _, rfl, rfl, .inl ⟨_, rfl, _, rfl, _, _, rfl, .inl ⟨_, SqL.of hT'.2.1, rfl⟩, ?_⟩⟩
      rw [List.length_map]
      refine ⟨_, _, rfl, rfl, by omega, a, _, _, _, rfl, rfl, SqL.of hT'.2.1, bud_of hb.1 (k := ph + i) (by omega), ?_⟩
      refine ⟨_, rfl, _, rfl, _, rfl, t, _, _, _, rfl, rfl, .inl (.inl hT'.1), rfl, wi, N, rfl, hN, ?_⟩
      refine ⟨_, rfl, _, rfl, t, _, _, _, rfl, rfl, .inl (.inl hT'.1), rfl, _, rfl, ?_⟩
      refine ⟨wi, newestW wi N, bA bs (ph + i), p, late, rfl, by omega, fun j hj => ?_, fun H2 hS2 => ?_⟩
      · unfold newestW at hj
        split at hj
        · have := Option.some.inj hj
          omega
        · cases hj
      have hl2 := hS2 _ _ hl
      rw [hm] at hpl
      have est : plays bs ph N p late (m + 1) wi i = (match putW wi (newestW wi N) (bA bs (ph + i)) p late with
        | none => 0
        | some w' => 1 + plays bs ph N p late m w' (i + 1)) := rfl
      rw [est] at hpl
      refine ⟨_, rfl, rfl, _, rfl, ?_⟩
      cases hput : putW wi (newestW wi N) (bA bs (ph + i)) p late with
      | none =>
        rw [hput] at hpl
        exact ifT (decide_eq_true rfl) (fin _ H2 xs ⟨_, _, _, rfl⟩ (hS.trans hS2) hl2 (by rw [hpl, hlen]; rfl))
      | some w' =>
        rw [hput] at hpl
        refine ifF (decide_eq_false (by intro z; cases z)) ⟨_, rfl, .inl ⟨rfl, _, SqL.of hl2⟩, _, rfl, q, _, _, rfl, rfl, hl2, small1000 (by omega), ?_⟩
        refine ⟨w', xs ++ [.str (tx w')], ⟨_, _, rfl⟩, Same.upd (hS.trans hS2) hq, upd_same, ?_, put_le hput, ?_⟩
        · rw [List.length_append, hlen]
          rfl
        · rw [hm2, hpl]
          show i + (1 + _) = _
          omega
    · rintro σ H' ⟨wi, xs, ⟨v1, v2, rfl⟩, hS, hl, hlen, hwi, hpl⟩
      rw [Int.toNat_natCast] at hlen hpl
      rw [Nat.sub_self] at hpl
      exact fin _ H' xs ⟨_, _, _, rfl⟩ hS hl (by rw [hpl, hlen]; rfl)
theorem dd__law_is (T : Fx c) : Dd c 1 "_law_is" ["_law_told", "_law_due"] [] (sp__law_is c) := by
  refine Dd.of (st := st__law_is) T.d__law_is (fun f fd F => Df.ok (k := 0) F sc__law_is (fun vs H Q E h => ?_) (fun f cdv A outer s H vs Q E hr h => ⟨_, (pss_cons (ps_if (pt_cmpR op_isN (pv 1) pe_non (nomark _)) (pss_one (ps_ret (pe_cmpR op_isN (pv 0) pe_non (nomark _)))) pss_nil) (pss_one (ps_ret (pe_and (pe_callB call_isi (by rfl) T.f_isinstance (by decide +kernel) (pa_cons (pv 0) (pa_cons (pe_bltn (v := .ty "int") (by rfl) T.f_int (by decide +kernel) rfl) pa_nil))) (pe_and (pe_not (pe_callB call_isi (by rfl) T.f_isinstance (by decide +kernel) (pa_cons (pv 0) (pa_cons (pe_bltn (v := .ty "bool") (by rfl) T.f_bool (by decide +kernel) rfl) pa_nil)))) (pe_one (pe_cmpR op_eq (pv 0) (pv 1) (nomark _)))))))), ?_⟩)) (fun _ _ _ _ _ _ us hl => match us, hl with | [_, _], _ => rfl)
  · obtain ⟨a, b, rfl, _⟩ := h
    rfl
  · obtain ⟨a, b, rfl, hQ⟩ := h
    refine ⟨_, rfl, rfl, _, rfl, ?_⟩
    refine ifF (decide_eq_false (by intro z; cases z)) ?_
    refine ⟨_, rfl, _, _, _, _, true, rfl, .ty _, .base (.int _), kit_ty (by decide +kernel), _, rfl, ?_⟩
    refine iteT ⟨_, rfl, _, _, _, _, false, rfl, .ty _, .base (.int _), kit_ty (by decide +kernel), _, rfl, _, rfl, ?_⟩
    refine iteT ⟨_, rfl, _, rfl, rfl, cvb (Q := Q) hQ ?_⟩
    by_cases q : a = b
    · rw [decide_eq_true q]
      exact (eqT q).symm
    · rw [decide_eq_false q]
      exact (eqF q).symm
theorem dd__law_all_words (T : Fx c) : Dd c 4 "_law_all_words" ["_law_places", "_law_count"] [] (sp__law_all_words c) := by
  refine Dd.of (st := st__law_all_words) T.d__law_all_words (fun f fd F => Df.ok (k := 3) F sc__law_all_words (fun vs H Q E h => ?_) (fun f cdv A outer s H vs Q E hr h => ⟨_, (pss_cons (ps_if (pt_cmpR op_eq (pv 1) pe_int (nomark _)) (pss_one (ps_ret (pe_lst (pa_cons pe_str pa_nil)))) pss_nil) (pss_cons (ps_set (i := 2) sc__law_all_words.nd rfl (Or.inl rfl) (pe_lst pa_nil)) (pss_cons (ps_set (i := 3) sc__law_all_words.nd rfl (Or.inl rfl) (pe_op op_mulS pe_str (pv 1))) (pss_cons (ps_for PassesOwn.never rfl (pi_range1 (by rfl) T.f_range (pa_cons pe_int pa_nil)) (pg_name (i := 4) sc__law_all_words.nd rfl (Or.inl rfl)) (pss_cons (ps_if (pt_cmpR op_gt (pe_callB call_len (by rfl) T.f_len (by decide +kernel) (pa_cons (pv 3) pa_nil)) (pv 0) (nomark _)) (pss_one (ps_ret (pv 2))) pss_nil) (pss_cons (ps_expr (pe_bm PySem.F.plainAttrs_list PySem.F.slot_list_append PySem.F.type_list_append mt_append (pv 2) (pa_cons (pv 3) pa_nil))) (pss_one (ps_set (i := 3) sc__law_all_words.nd rfl (Or.inl rfl) (pcD (dd__law_following T) (Fits.mk rfl rfl rfl rfl rfl) (hr.mono (by decide)) rfl passL (pa_cons (pv 3) pa_nil))))))) (pss_one (ps_ret (pv 2))))))), ?_⟩)) (fun _ _ _ _ _ _ us hl => match us, hl with | [_, _], _ => rfl)
  · obtain ⟨p, n, rfl, _⟩ := h
    rfl
  · obtain ⟨p, n, rfl, hp, hn, hQ⟩ := h
    refine ⟨_, rfl, rfl, _, rfl, ?_⟩
    by_cases q0 : n = 0
    · subst q0
      refine ifT (eqT rfl) ⟨by show 1 ≤ sizeLine; decide, fun q hq => hQ _ q (Same.new hq) ?_⟩
      rw [upd_same]
      rfl
    have hall : allWords p n = gen p 260 (List.replicate n true) := if_neg q0
    rw [hall] at hQ
    refine ifF (eqF (by omega)) ⟨Nat.zero_le _, fun q hq => ⟨_, rfl, sg true, n, by rw [s1x]; rfl, rfl, by omega, ?_⟩⟩
    rw [tx_rep]
    have hrep : ∃ r, List.replicate n true = true :: r := by
      obtain ⟨k, rfl⟩ : ∃ k, n = k + 1 := ⟨n - 1, by omega⟩
      exact ⟨List.replicate k true, rfl⟩
    refine ⟨_, rfl, by decide, by decide, for_range (lo := 0) (n := (260 : Int).toNat) (fun i σ H' => ∃ (wi r : List Bool) (done : List (List Bool)), (∃ v : Option V, σ = [some (natV p), some (natV n), some (.ref q), some (.str (tx wi)), v]) ∧ wi = true :: r ∧ wi.length ≤ 20 ∧ Same H H' ∧ H' q = some (.lst (done.map fun w => V.str (tx w))) ∧ done.length = i ∧ gen p 260 (List.replicate n true) = done ++ gen p (260 - i) wi) ?_ ?_ ?_⟩
    · obtain ⟨r, hr⟩ := hrep
      exact ⟨_, r, [], ⟨none, rfl⟩, hr, by rw [List.length_replicate]; omega, Same.new hq, upd_same, rfl, rfl⟩
    · rintro i σ H' hi ⟨wi, r, done, ⟨v, rfl⟩, hr, hlw, hS, hl, hlen, hg⟩
      have hi2 : i < 260 := hi
      obtain ⟨m, hm⟩ : ∃ m, 260 - i = m + 1 := ⟨260 - i - 1, by omega⟩
      have hm2 : 260 - (i + 1) = m := by omega
      rw [hm] at hg
      have est : gen p (m + 1) wi = if p < wi.length then [] else wi :: gen p m (fol wi) := rfl
      rw [est] at hg
      refine ⟨_, rfl, _, _, rfl, ⟨by rw [tx_len]; exact sz1000 (by omega), rfl⟩, _, rfl, _, _, rfl, rfl, _, rfl, ?_⟩
      rw [tx_len]
      by_cases g : p < wi.length
      · rw [if_pos g, List.append_nil] at hg
        refine ifT (decide_eq_true (by omega)) ⟨_, rfl, hQ H' q hS ?_⟩
        rw [hg]
        exact hl
      · rw [if_neg g] at hg
        refine ifF (decide_eq_false (by omega)) ⟨_, rfl, .inl ⟨rfl, _, SqL.of hl⟩, _, rfl, q, _, _, rfl, rfl, hl, ?_, ?_⟩
        · rw [List.length_map]
          exact small1000 (by omega)
        refine ⟨_, rfl, wi, r, rfl, hr, by omega, ?_⟩
        obtain ⟨r', hr'⟩ := fol_head wi ((lastFT (false :: wi)).getD 0)
        have hl' := fol_len (w := wi) (i := (lastFT (false :: wi)).getD 0)
        refine ⟨fol wi, r', done ++ [wi], ⟨_, rfl⟩, hr', ?_, Same.upd hS hq, ?_, ?_, ?_⟩
        · show (folAt wi _).length ≤ 20
          omega
        · rw [upd_same, List.map_append]
          rfl
        · rw [List.length_append, hlen]
          rfl
        · rw [hm2, hg, List.append_assoc]
          rfl
    · rintro σ H' ⟨wi, r, done, ⟨v, rfl⟩, hr, hlw, hS, hl, hlen, hg⟩
      have e0 : gen p (260 - (260 : Int).toNat) wi = [] := rfl
      rw [e0, List.append_nil] at hg
      refine ⟨_, rfl, hQ H' q hS ?_⟩
      rw [hg]
      exact hl
end
end Cl
set_option Elab.async false
set_option linter.all false
set_option maxRecDepth 100000
set_option maxHeartbeats 4000000
/-! The law's bag of numbers. -/
namespace Cl
open PySem PySem.Spec PyProof.Rows L2 Cm
def Bg (H : Hp) (a : Addr) (xs : List Int) : Prop := H a = some (.lst (xs.map V.int)) ∧ 4 ≤ xs.length ∧ xs.length ≤ 70
def Bag (H : Hp) (a : Addr) : Prop := ∃ xs, Bg H a xs
def SameBut (a : Addr) (H H' : Hp) : Prop := ∀ b o, b ≠ a → H b = some o → H' b = some o
theorem SameBut.refl (a : Addr) (H : Hp) : SameBut a H H := fun _ _ _ h => h
theorem SameBut.trans {a : Addr} {H H1 H2 : Hp} (h : SameBut a H H1) (g : SameBut a H1 H2) : SameBut a H H2 := fun b o n e => g b o n (h b o n e)
theorem SameBut.of {a : Addr} {H H' : Hp} (h : Same H H') : SameBut a H H' := fun b o _ e => h b o e
theorem SameBut.upd {a : Addr} {H H' : Hp} {o : HO} (h : SameBut a H H') : SameBut a H (L2.upd H' a o) := fun b u n e => by
  rw [upd_ne n]
  exact h b u n e
theorem Bg.set {H : Hp} {a : Addr} {xs : List Int} (h : Bg H a xs) (j : Nat) (z : Int) : Bg (upd H a (.lst ((xs.map V.int).set j (.int z)))) a (xs.set j z) := by
  refine ⟨?_, by rw [List.length_set]; exact h.2.1, by rw [List.length_set]; exact h.2.2⟩
  rw [upd_same, List.map_set]
theorem Bg.get {H : Hp} {a : Addr} {xs : List Int} (h : Bg H a xs) {j : Nat} (hj : j < xs.length) {i : Int} (e : i = (j : Int)) : ∃ z, atI (xs.map V.int) i = some (.int z) :=
  ⟨xs[j], atI_of e (by rw [List.getElem?_map, List.getElem?_eq_getElem hj]; rfl)⟩
theorem Bg.ix {H : Hp} {a : Addr} {xs : List Int} (h : Bg H a xs) {j : Nat} (hj : j < 4) : ixN (xs.map V.int).length (j : Int) = some j := ixN_nat (by rw [List.length_map]; have := h.2.1; omega)
def sp__law_bag (c : Ctx) : Sp := fun vs H Q _ => ∃ (a : Addr) (ns : List Int), vs = [.ref a] ∧ SqL c.K H a (ns.map V.int) ∧ ns.length ≤ 63 ∧ ∀ H' q, Same H H' → Bag H' q → Q (.ref q) H'
def sp__law_take (c : Ctx) : Sp := fun vs H Q _ => ∃ (a : Addr) (n : Nat), vs = [.ref a, natV n] ∧ 0 < n ∧ n < 1000000000 ∧ Bag H a ∧ ∀ H' k, SameBut a H H' → Bag H' a → k < n → Q (natV k) H'
theorem fmod_lt {x : Int} {n : Nat} (h : 0 < n) : ∃ k : Nat, x.fmod (n : Int) = (k : Int) ∧ k < n := by
  rw [Int.fmod_eq_emod_of_nonneg _ (by omega)]
  have h1 := Int.emod_nonneg x (b := (n : Int)) (by omega)
  have h2 := Int.emod_lt_of_pos x (b := (n : Int)) (by omega)
  exact ⟨(x % (n : Int)).toNat, by omega, by omega⟩
section
variable {c : Ctx}
theorem dd__law_bag (T : Fx c) : Dd c 1 "_law_bag" ["_law_script"] [] (sp__law_bag c) := by
  refine Dd.of (st := st__law_bag) T.d__law_bag (fun f fd F => Df.ok (k := 0) F sc__law_bag (fun vs H Q E h => ?_) (fun f cdv A outer s H vs Q E hr h => ⟨_, (pss_cons (ps_setLc (i := 1) (own := [("_law_cell", 2)]) (g := gName 2) (tt := tYes) rfl sc__law_bag.nd rfl rfl (sw_true rfl rfl rfl (by decide +kernel)) (pi_list (pe_slice sl_list (pv 0) po_none (po_some pe_int))) (blkOk_by (N := N__law_bag) (sc := defScope st__law_bag) (by decide +kernel)) (fun _ _ _ _ _ => (pg_name (i := 2) sc__law_bag.nd rfl (Or.inl rfl))) (fun _ _ _ _ _ => pts_nil) (fun _ _ _ _ _ => (pe_callTy call_int1 (by rfl) T.f_int (by decide +kernel) (pa_cons (pv 2) pa_nil)))) (pss_one (ps_ret (pe_op op_cat (pe_op op_cat (pe_lst (pa_cons pe_int (pa_cons pe_int (pa_cons pe_int pa_nil)))) (pv 1)) (pe_lst (pa_cons (pe_op op_add pe_int (pe_op op_modN (pe_callTy call_int1 (by rfl) T.f_int (by decide +kernel) (pa_cons (pe_callB (cr_sum rfl) (by rfl) T.f_sum (by decide +kernel) (pa_cons (pv 1) pa_nil)) pa_nil)) pe_int)) pa_nil)))))), ?_⟩)) (fun _ _ _ _ _ _ us hl => match us, hl with | [_], _ => rfl)
  · obtain ⟨a, ns, rfl, _⟩ := h
    rfl
  · obtain ⟨a, ns, rfl, hS, hl, hQ⟩ := h
    refine ⟨_, rfl, _, rfl, a, _, rfl, hS, fun s hs => ?_⟩
    have ecut : cutV (ns.map V.int) none (some 63) = ns.map V.int := by
      unfold cutV
      have e1 : HT.sIx (ns.map V.int).length (ns.map V.int).length (some (63 : Int)) = min 63 (ns.map V.int).length := HT.sIx_nat _ _ 63
      rw [e1, HT.sIx_none, List.drop_zero, Nat.sub_zero, List.length_map, Nat.min_eq_right hl]
      exact List.take_of_length_le (by rw [List.length_map]; exact Nat.le_refl _)
    have hs1 : Same H (L2.upd H s (.lst (cutV (ns.map V.int) none (some 63)))) := Same.new hs
    have hss : L2.upd H s (.lst (cutV (ns.map V.int) none (some 63))) s = some (.lst (ns.map V.int)) := by rw [upd_same, ecut]
    refine ⟨s, rfl, ⟨_, SqL.of hss⟩, fun D hD => lc_list (K := c.K) (a := s) (xs := ns.map V.int) (fun i H' => Same H H' ∧ H' s = some (.lst (ns.map V.int)) ∧ H' D = some (.lst ((ns.take i).map V.int))) ⟨?_, ?_, upd_same⟩ (fun i H' _ z => SqL.of z.2.1) ?_ ?_⟩
    · exact fun b o q => by
        have z := hs1 b o q
        rw [upd_ne (ne_of_none z hD)]
        exact z
    · rw [upd_ne (ne_of_none hss hD)]
      exact hss
    · rintro i x H' hi ⟨h1, h2, h3⟩
      have hD0 : H D = none := hs1.free hD
      have hne : s ≠ D := ne_of_none hss hD
      rw [List.getElem?_map] at hi
      cases hz : ns[i]? with
      | none =>
        rw [hz] at hi
        cases hi
      | some z =>
        rw [hz] at hi
        obtain rfl := Option.some.inj hi
        refine ⟨rfl, _, rfl, .inl ⟨_, rfl, _, h3, ?_, Same.upd h1 hD0, by rw [upd_ne hne]; exact h2, ?_⟩⟩
        · rw [List.length_map, List.length_take]
          exact small1000 (by omega)
        · rw [upd_same, List.take_add_one, hz, List.map_append]
          rfl
    · rintro H' ⟨h1, h2, h3⟩
      rw [List.length_map, List.take_length] at h3
      have hlt : ns.length + 4 ≤ sizeLine := sz1000 (by omega)
      refine ⟨by show 3 ≤ sizeLine; decide, fun z hz => ⟨_, rfl, z, D, [.int 0, .int 0, .int 0], ns.map V.int, rfl, rfl, upd_same, ?_, ?_, fun y hy => ?_⟩⟩
      · rw [upd_ne (ne_of_none h3 hz)]
        exact h3
      · rw [List.length_map]
        show 3 + ns.length ≤ sizeLine
        omega
      generalize hH1 : L2.upd H' z (.lst [.int 0, .int 0, .int 0]) = H1 at hy ⊢
      have sH1 : Same H' H1 := by
        rw [← hH1]
        exact Same.new hz
      have sH2 : Same H1 (L2.upd H1 y (.lst ([.int 0, .int 0, .int 0] ++ ns.map V.int))) := Same.new hy
      have h3' : L2.upd H1 y (.lst ([.int 0, .int 0, .int 0] ++ ns.map V.int)) D = some (.lst (ns.map V.int)) := sH2 _ _ (sH1 _ _ h3)
      refine ⟨_, rfl, D, ns, rfl, SqL.of h3', .inl ⟨_, rfl, _, _, rfl, rfl, (by show (1000003 : Int) ≠ 0; decide), _, _, rfl, rfl, ?_⟩⟩
      refine ⟨by show 1 ≤ sizeLine; decide, fun u hu => ⟨y, u, [.int 0, .int 0, .int 0] ++ ns.map V.int, [.int (624 + (ns.sum).fmod 1000003)], rfl, rfl, ?_, upd_same, ?_, fun v hv => ?_⟩⟩
      · rw [upd_ne (ne_of_none upd_same hu), upd_same]
      · rw [List.length_append, List.length_map]
        show 3 + ns.length + 1 ≤ sizeLine
        omega
      · refine hQ _ v ?_ ⟨[0, 0, 0] ++ ns ++ [624 + (ns.sum).fmod 1000003], ?_, ?_, ?_⟩
        · exact fun b o q => by
            have e1 := sH2 b o (sH1 b o (h1 b o q))
            have e2 := Same.new (o := .lst [V.int (624 + (ns.sum).fmod 1000003)]) hu b o e1
            exact Same.new hv b o e2
        · rw [upd_same, List.map_append, List.map_append]
          rfl
        · rw [List.length_append, List.length_append]
          show 4 ≤ 3 + ns.length + 1
          omega
        · rw [List.length_append, List.length_append]
          show 3 + ns.length + 1 ≤ 70
          omega
theorem dd__law_take (T : Fx c) : Dd c 3 "_law_take" ["_law_bag_here", "_law_size"] [] (sp__law_take c) := by
  refine Dd.of (st := st__law_take) T.d__law_take (fun f fd F => Df.ok (k := 2) F sc__law_take (fun vs H Q E h => ?_) (fun f cdv A outer s H vs Q E hr h => ⟨_, (pss_cons (ps_asg (pe_op op_add (pe_ix ix_list (pv 0) pe_int (fun _ _ => rfl)) pe_int) (pg_sub (pv 0) pe_int set_list)) (pss_cons (ps_if (pt_cmpR op_eq (pe_ix ix_list (pv 0) pe_int (fun _ _ => rfl)) pe_int (nomark _)) (pss_cons (ps_set (i := 2) sc__law_take.nd rfl (Or.inl rfl) (pe_op op_sub (pe_callB call_len (by rfl) T.f_len (by decide +kernel) (pa_cons (pv 0) pa_nil)) pe_int)) (pss_cons (ps_set (i := 3) sc__law_take.nd rfl (Or.inl rfl) (pe_ix ix_list (pv 0) (pe_op op_add pe_int (pe_op op_modN (pe_callTy call_int1 (by rfl) T.f_int (by decide +kernel) (pa_cons (pe_ix ix_list (pv 0) pe_int (fun _ _ => rfl)) pa_nil)) (pv 2))) (fun _ _ => rfl))) (pss_cons (ps_asg (pe_op op_add (pe_ix ix_list (pv 0) pe_int (fun _ _ => rfl)) pe_int) (pg_sub (pv 0) pe_int set_list)) (pss_cons (ps_if (PW.pt (pw_or (pt_cmpR op_gt (pe_ix ix_list (pv 0) pe_int (fun _ _ => rfl)) (pv 2) (nomark _)) (pw_or1 (pt_cmpR op_lt (pe_callB call_abs (by rfl) T.f_abs (by decide +kernel) (pa_cons (pv 3) pa_nil)) (pe_op op_pow pe_int pe_int) (nomark _))))) (pss_cons (ps_set (i := 4) sc__law_take.nd rfl (Or.inl rfl) (pe_op op_modN (pe_callTy call_int1 (by rfl) T.f_int (by decide +kernel) (pa_cons (pe_op op_add (pe_op op_add (pe_op op_mul (pv 3) pe_int) (pe_op op_mul (pe_ix ix_list (pv 0) pe_int (fun _ _ => rfl)) pe_int)) pe_int) pa_nil)) pe_int)) (pss_cons (ps_set (i := 4) sc__law_take.nd rfl (Or.inl rfl) (pe_op op_modN (pe_callTy call_int1 (by rfl) T.f_int (by decide +kernel) (pa_cons (pe_op op_add (pe_op op_add (pe_op op_mul (pv 4) pe_int) (pe_op op_mul (pe_ix ix_list (pv 0) pe_int (fun _ _ => rfl)) pe_int)) pe_int) pa_nil)) pe_int)) (pss_one (ps_ret (pe_op op_modN (pe_op op_fdivN (pe_callTy call_int1 (by rfl) T.f_int (by decide +kernel) (pa_cons (pv 4) pa_nil)) pe_int) (pv 1)))))) pss_nil) (pss_one (ps_asg (pe_callB call_abs (by rfl) T.f_abs (by decide +kernel) (pa_cons (pv 3) pa_nil)) (pg_sub (pv 0) pe_int set_list))))))) pss_nil) (pss_cons (ps_set (i := 5) sc__law_take.nd rfl (Or.inl rfl) (pe_op op_modN (pe_callTy call_int1 (by rfl) T.f_int (by decide +kernel) (pa_cons (pe_ix ix_list (pv 0) pe_int (fun _ _ => rfl)) pa_nil)) (pv 1))) (pss_cons (ps_asg (pe_op op_fdivN (pe_callTy call_int1 (by rfl) T.f_int (by decide +kernel) (pa_cons (pe_ix ix_list (pv 0) pe_int (fun _ _ => rfl)) pa_nil)) (pv 1)) (pg_sub (pv 0) pe_int set_list)) (pss_one (ps_ret (pv 5))))))), ?_⟩)) (fun _ _ _ _ _ _ us hl => match us, hl with | [_, _], _ => rfl)
  · obtain ⟨a, n, rfl, _⟩ := h
    rfl
  · obtain ⟨a, n, rfl, hn, hn2, ⟨xs, hB⟩, hQ⟩ := h
    obtain ⟨z0, e0⟩ := hB.get (j := 0) (by have := hB.2.1; omega) (i := 0) rfl
    refine ⟨_, rfl, a, _, _, _, rfl, rfl, SqL.of hB.1, e0, _, _, rfl, rfl, ?_⟩
    refine ⟨_, rfl, a, _, _, 0, rfl, rfl, hB.1, hB.ix (by decide), ?_⟩
    have hB1 := hB.set 0 (z0 + 1)
    have hS1 : SameBut a H (L2.upd H a (.lst ((xs.map V.int).set 0 (.int (z0 + 1))))) := (SameBut.refl a H).upd
    generalize L2.upd H a (.lst ((xs.map V.int).set 0 (.int (z0 + 1)))) = H1 at hB1 hS1
    generalize xs.set 0 (z0 + 1) = xs1 at hB1
    obtain ⟨z1, e1⟩ := hB1.get (j := 1) (by have := hB1.2.1; omega) (i := 1) rfl
    refine ⟨_, rfl, a, _, _, _, rfl, rfl, SqL.of hB1.1, e1, rfl, _, rfl, ?_⟩
    by_cases q1 : z1 = 0
    · refine ifT (eqT q1) ?_
      obtain ⟨z2, e2⟩ := hB1.get (j := 2) (by have := hB1.2.1; omega) (i := 2) rfl
      have hl1 := hB1.2
      refine ⟨_, rfl, _, _, rfl, .inl ⟨_, SqL.of hB1.1, rfl⟩, _, _, rfl, rfl, ?_⟩
      rw [List.length_map]
      obtain ⟨k2, g2, g3⟩ := fmod_lt (x := z2) (n := xs1.length - 3) (by omega)
      obtain ⟨zc, ec⟩ := hB1.get (j := 3 + k2) (by omega) (i := 3 + (k2 : Int)) (by omega)
      have e3 : z2.fmod ((xs1.length : Int) - 3) = (k2 : Int) := by
        have : (xs1.length : Int) - 3 = ((xs1.length - 3 : Nat) : Int) := by omega
        rw [this]
        exact g2
      refine ⟨_, rfl, _, rfl, a, _, _, _, rfl, rfl, SqL.of hB1.1, e2, .inl ⟨_, rfl, _, rfl, _, _, rfl, rfl, by omega, _, _, rfl, rfl, a, _, _, _, rfl, rfl, SqL.of hB1.1, by rw [e3]; exact ec, ?_⟩⟩
      refine ⟨_, rfl, a, _, _, _, rfl, rfl, SqL.of hB1.1, e2, _, _, rfl, rfl, _, rfl, a, _, _, 2, rfl, rfl, hB1.1, hB1.ix (by decide), ?_⟩
      have hB2 := hB1.set 2 (z2 + 1)
      have hS2 := hS1.upd (o := .lst ((xs1.map V.int).set 2 (.int (z2 + 1))))
      generalize L2.upd H1 a (.lst ((xs1.map V.int).set 2 (.int (z2 + 1)))) = H2 at hB2 hS2
      generalize xs1.set 2 (z2 + 1) = xs2 at hB2
      obtain ⟨y2, f2⟩ := hB2.get (j := 2) (by have := hB2.2.1; omega) (i := 2) rfl
      obtain ⟨y0, f0⟩ := hB2.get (j := 0) (by have := hB2.2.1; omega) (i := 0) rfl
      have fin : ∀ x : Int, ∃ k : Nat, x.fmod (n : Int) = (k : Int) ∧ k < n := fun x => fmod_lt hn
      refine ⟨_, rfl, a, _, _, _, rfl, rfl, SqL.of hB2.1, f2, _, rfl, _, _, rfl, rfl, _, rfl, ?_⟩
      refine ifB (fun _ => ?_) (fun _ => ?_)
      · refine ⟨_, rfl, _, _, rfl, rfl, .inr ⟨by decide, by decide⟩, _, rfl, a, _, _, _, rfl, rfl, SqL.of hB2.1, f0, _, _, rfl, rfl, .inr ⟨by decide, by decide⟩, _, _, rfl, rfl, _, _, rfl, rfl, .inl ⟨_, rfl, _, _, rfl, rfl, (by show (2147483647 : Int) ≠ 0; decide), ?_⟩⟩
        refine ⟨_, rfl, _, _, rfl, rfl, .inr ⟨by decide, by decide⟩, _, rfl, a, _, _, _, rfl, rfl, SqL.of hB2.1, f0, _, _, rfl, rfl, .inr ⟨by decide, by decide⟩, _, _, rfl, rfl, _, _, rfl, rfl, .inl ⟨_, rfl, _, _, rfl, rfl, (by show (2147483399 : Int) ≠ 0; decide), ?_⟩⟩
        refine ⟨_, rfl, .inl ⟨_, rfl, _, _, rfl, rfl, ⟨by decide, by decide⟩, _, rfl, _, _, rfl, rfl, by omega, ?_⟩⟩
        obtain ⟨kk, fk, fl⟩ := fin (Int.fdiv _ 11)
        exact cvi (Q := Q) (hQ H2 kk hS2 ⟨_, hB2⟩ fl) fk.symm
      · refine ⟨_, rfl, _, rfl, _, _, rfl, rfl, ⟨by decide, by decide, by decide⟩, _, _, rfl, rfl, _, rfl, ?_⟩
        refine ifB (fun _ => ?_) (fun _ => ?_)
        · refine ⟨_, rfl, _, _, rfl, rfl, .inr ⟨by decide, by decide⟩, _, rfl, a, _, _, _, rfl, rfl, SqL.of hB2.1, f0, _, _, rfl, rfl, .inr ⟨by decide, by decide⟩, _, _, rfl, rfl, _, _, rfl, rfl, .inl ⟨_, rfl, _, _, rfl, rfl, (by show (2147483647 : Int) ≠ 0; decide), ?_⟩⟩
          refine ⟨_, rfl, _, _, rfl, rfl, .inr ⟨by decide, by decide⟩, _, rfl, a, _, _, _, rfl, rfl, SqL.of hB2.1, f0, _, _, rfl, rfl, .inr ⟨by decide, by decide⟩, _, _, rfl, rfl, _, _, rfl, rfl, .inl ⟨_, rfl, _, _, rfl, rfl, (by show (2147483399 : Int) ≠ 0; decide), ?_⟩⟩
          refine ⟨_, rfl, .inl ⟨_, rfl, _, _, rfl, rfl, ⟨by decide, by decide⟩, _, rfl, _, _, rfl, rfl, by omega, ?_⟩⟩
          obtain ⟨kk, fk, fl⟩ := fin (Int.fdiv _ 11)
          exact cvi (Q := Q) (hQ H2 kk hS2 ⟨_, hB2⟩ fl) fk.symm
        · refine ⟨_, rfl, _, rfl, _, rfl, a, _, _, 1, rfl, rfl, hB2.1, hB2.ix (by decide), ?_⟩
          have hB3 := hB2.set 1 (if zc < 0 then -zc else zc)
          have hS3 := hS2.upd (o := .lst ((xs2.map V.int).set 1 (.int (if zc < 0 then -zc else zc))))
          generalize L2.upd H2 a (.lst ((xs2.map V.int).set 1 (.int (if zc < 0 then -zc else zc)))) = H3 at hB3 hS3
          generalize xs2.set 1 (if zc < 0 then -zc else zc) = xs3 at hB3
          obtain ⟨y1, f1⟩ := hB3.get (j := 1) (by have := hB3.2.1; omega) (i := 1) rfl
          obtain ⟨kk, fk, fl⟩ := fmod_lt (x := y1) hn
          refine ⟨_, rfl, a, _, _, _, rfl, rfl, SqL.of hB3.1, f1, .inl ⟨_, rfl, _, rfl, _, _, rfl, rfl, by omega, ?_⟩⟩
          refine ⟨_, rfl, a, _, _, _, rfl, rfl, SqL.of hB3.1, f1, .inl ⟨_, rfl, _, rfl, _, _, rfl, rfl, ⟨by omega, by omega⟩, _, rfl, a, _, _, 1, rfl, rfl, hB3.1, hB3.ix (by decide), ?_⟩⟩
          exact ⟨_, rfl, cvi (Q := Q) (hQ _ kk hS3.upd ⟨_, hB3.set 1 _⟩ fl) fk.symm⟩
    · refine ifF (eqF q1) ?_
      obtain ⟨y1, f1⟩ := hB1.get (j := 1) (by have := hB1.2.1; omega) (i := 1) rfl
      obtain ⟨kk, fk, fl⟩ := fmod_lt (x := y1) hn
      refine ⟨_, rfl, a, _, _, _, rfl, rfl, SqL.of hB1.1, f1, .inl ⟨_, rfl, _, rfl, _, _, rfl, rfl, by omega, ?_⟩⟩
      refine ⟨_, rfl, a, _, _, _, rfl, rfl, SqL.of hB1.1, f1, .inl ⟨_, rfl, _, rfl, _, _, rfl, rfl, ⟨by omega, by omega⟩, _, rfl, a, _, _, 1, rfl, rfl, hB1.1, hB1.ix (by decide), ?_⟩⟩
      exact ⟨_, rfl, cvi (Q := Q) (hQ _ kk hS1.upd ⟨_, hB1.set 1 _⟩ fl) fk.symm⟩
end
end Cl
set_option Elab.async false
set_option linter.all false
set_option maxRecDepth 100000
set_option maxHeartbeats 4000000
/-! The law's budgets, round, terms. -/
namespace Cl
open PySem PySem.Spec PyProof.Rows L2 Cm
theorem allW_mono {bs : List Nat} {x i j : Nat} (h : AllW bs i x) (hij : i ≤ j) : AllW bs j x := fun s => Nat.le_trans (h s) (tot_mono bs s hij)
def sp__law_budgets (c : Ctx) : Sp := fun vs H Q _ => ∃ (a : Addr), vs = [.ref a] ∧ Bag H a ∧ ∀ H' p (bs : List Nat), SameBut a H H' → Bag H' a → H' p = some (.lst (bs.map natV)) → H p = none → 0 < bs.length ∧ bs.length ≤ 12 → Q (.ref p) H'
def sp__law_round (c : Ctx) : Sp := fun vs H Q _ => ∃ (a : Addr) (bs : List Nat), vs = [.ref a] ∧ H a = some (.lst (bs.map natV)) ∧ (0 < bs.length ∧ bs.length ≤ 12) ∧ ∀ H' r, Same H H' → Rd c H' r bs → Q (.ref r) H'
def sp__law_enough (c : Ctx) : Sp := fun vs H Q _ => ∃ (a : Addr) (bs : List Nat) (x : Nat), vs = [.ref a, natV x] ∧ H a = some (.lst (bs.map natV)) ∧ (0 < bs.length ∧ bs.length ≤ 12) ∧
  ∀ H' e, Same H H' → (∀ g, g < 70 → (e ≤ g ↔ AllW bs g x)) → e ≤ 70 → Q (natV e) H'
def sp__law_terms (c : Ctx) : Sp := fun vs H Q _ => ∃ (a : Addr), vs = [.ref a, natV 50] ∧ Bag H a ∧ ∀ H' t p bs N P, SameBut a H H' → Bag H' a → Tm3 H' t p bs N P → p ≠ a → N ≤ P → P ≤ 64 → N ≤ 50 → Q (.ref t) H'
def sp__law_few (c : Ctx) : Sp := fun vs H Q _ => ∃ (a p : Addr) (bs : List Nat), vs = [.ref a, .ref p] ∧ Bag H a ∧ H p = some (.lst (bs.map natV)) ∧ p ≠ a ∧ (0 < bs.length ∧ bs.length ≤ 12) ∧
  ∀ H' t N P, SameBut a H H' → Bag H' a → Tm3 H' t p bs N P → N ≤ P → P ≤ 10 → N ≤ 5 → Q (.ref t) H'
theorem ne_bag {H : Hp} {a p : Addr} (h : Bag H a) (hp : H p = none) : p ≠ a := fun z => by
  obtain ⟨xs, e, _⟩ := h
  rw [z, e] at hp
  cases hp
theorem SameBut.free {a p : Addr} {H H' : Hp} (h : SameBut a H H') (n : p ≠ a) (e : H' p = none) : H p = none := by
  cases q : H p with
  | none => rfl
  | some o =>
    rw [h p o n q] at e
    cases e
theorem SameBut.upd2 {a p : Addr} {H H' : Hp} {o : HO} (h : SameBut a H H') (hp : H p = none) : SameBut a H (L2.upd H' p o) := fun b u n e => by
  rw [upd_ne (ne_of_none e hp)]
  exact h b u n e
theorem Bag.upd {a p : Addr} {H : Hp} {o : HO} (h : Bag H a) (n : a ≠ p) : Bag (L2.upd H p o) a := by
  obtain ⟨xs, e, h2⟩ := h
  exact ⟨xs, by rw [upd_ne n]; exact e, h2⟩
theorem Bag.same {a : Addr} {H H' : Hp} (h : Bag H a) (e : Same H H') : Bag H' a := by
  obtain ⟨xs, h1, h2⟩ := h
  exact ⟨xs, e _ _ h1, h2⟩
theorem one_ok {b : Nat} : 0 < [b].length ∧ [b].length ≤ 12 := ⟨Nat.zero_lt_one, Nat.le_of_ble_eq_true rfl⟩
theorem p30 : (10 : Int) ^ (30 : Int).toNat - 9 = ((1000000000000000000000000000000 - 9 : Nat) : Int) := by decide +kernel
theorem p6 : (10 : Int) ^ (6 : Int).toNat = ((1000000 : Nat) : Int) := by decide +kernel
section
variable {c : Ctx}
theorem dd__law_budgets (T : Fx c) : Dd c 4 "_law_budgets" ["_law_bag_here"] [] (sp__law_budgets c) := by
  refine Dd.of (st := st__law_budgets) T.d__law_budgets (fun f fd F => Df.ok (k := 3) F sc__law_budgets (fun vs H Q E h => ?_) (fun f cdv A outer s H vs Q E hr h => ⟨_, (pss_cons (ps_set (i := 1) sc__law_budgets.nd rfl (Or.inl rfl) (pe_ix ix_list (pe_lst (pa_cons pe_int (pa_cons pe_int (pa_cons pe_int (pa_cons pe_int (pa_cons pe_int (pa_cons (pe_op op_add pe_int (pcD (dd__law_take T) (Fits.mk rfl rfl rfl rfl rfl) (hr.mono (by decide)) rfl passL (pa_cons (pv 0) (pa_cons pe_int pa_nil)))) pa_nil))))))) (pcD (dd__law_take T) (Fits.mk rfl rfl rfl rfl rfl) (hr.mono (by decide)) rfl passL (pa_cons (pv 0) (pa_cons pe_int pa_nil))) (fun _ _ => rfl))) (pss_cons (ps_set (i := 2) sc__law_budgets.nd rfl (Or.inr rfl) (pe_ix ix_list (pe_lst (pa_cons pe_int (pa_cons pe_int (pa_cons pe_int (pa_cons pe_int (pa_cons pe_int pa_nil)))))) (pcD (dd__law_take T) (Fits.mk rfl rfl rfl rfl rfl) (hr.mono (by decide)) rfl passL (pa_cons (pv 0) (pa_cons pe_int pa_nil))) (fun _ _ => rfl))) (pss_cons (ps_setLc (i := 3) (own := [("_law_k", 4)]) (g := gName 4) (tt := tYes) rfl sc__law_budgets.nd rfl rfl (sw_true rfl rfl rfl (by decide +kernel)) (pi_range1 (by rfl) T.f_range (pa_cons (pv 1) pa_nil)) (blkOk_by (N := N__law_budgets) (sc := defScope st__law_budgets) (by decide +kernel)) (fun _ _ _ _ _ => (pg_name (i := 4) sc__law_budgets.nd rfl (Or.inl rfl))) (fun _ _ _ _ _ => pts_nil) (fun _ _ _ _ _ => (pcD (dd__law_take T) (Fits.mk rfl rfl rfl rfl rfl) (hr.mono (by decide)) rfl passL (pa_cons (pv 0) (pa_cons (pv 2) pa_nil))))) (pss_cons (ps_if (pt_cmpR op_eq (pcD (dd__law_take T) (Fits.mk rfl rfl rfl rfl rfl) (hr.mono (by decide)) rfl passL (pa_cons (pv 0) (pa_cons pe_int pa_nil))) pe_int (nomark _)) (pss_one (ps_asg (pe_op op_sub (pe_op op_sub (pe_op op_pow pe_int pe_int) pe_int) (pcD (dd__law_take T) (Fits.mk rfl rfl rfl rfl rfl) (hr.mono (by decide)) rfl passL (pa_cons (pv 0) (pa_cons (pe_op op_pow pe_int pe_int) pa_nil)))) (pg_sub (pv 3) (pcD (dd__law_take T) (Fits.mk rfl rfl rfl rfl rfl) (hr.mono (by decide)) rfl passL (pa_cons (pv 0) (pa_cons (pv 1) pa_nil))) set_list))) pss_nil) (pss_one (ps_ret (pv 3))))))), ?_⟩)) (fun _ _ _ _ _ _ us hl => match us, hl with | [_], _ => rfl)
  · obtain ⟨a, rfl, _⟩ := h
    rfl
  · obtain ⟨a, rfl, hB, hQ⟩ := h
    -- the size
    refine ⟨_, rfl, a, 8, rfl, by decide, by decide, hB, fun H1 k8 hS1 hB1 h8 => ?_⟩
    refine ⟨_, _, rfl, rfl, by show 6 ≤ sizeLine; decide, fun l hl => ?_⟩
    have nl : l ≠ a := ne_bag hB1 hl
    refine ⟨_, rfl, a, 6, rfl, by decide, by decide, hB1.upd (Ne.symm nl), fun H2 k6 hS2 hB2 h6 => ?_⟩
    have hl2 := hS2 l _ nl upd_same
    have hSS : SameBut a H H2 := fun b o n e => hS2 b o n (by rw [upd_ne (ne_of_none (hS1 b o n e) hl)]; exact hS1 b o n e)
    obtain ⟨L, hL, hL1, hL2⟩ : ∃ L : Nat, atI [V.int 1, V.int 1, V.int 2, V.int 3, V.int 12, V.int (4 + (k8 : Int))] (k6 : Int) = some (natV L) ∧ 0 < L ∧ L ≤ 12 := by
      have hh : k6 = 0 ∨ k6 = 1 ∨ k6 = 2 ∨ k6 = 3 ∨ k6 = 4 ∨ k6 = 5 := by omega
      rcases hh with rfl | rfl | rfl | rfl | rfl | rfl
      · exact ⟨1, rfl, by decide, by decide⟩
      · exact ⟨1, rfl, by decide, by decide⟩
      · exact ⟨2, rfl, by decide, by decide⟩
      · exact ⟨3, rfl, by decide, by decide⟩
      · exact ⟨12, rfl, by decide, by decide⟩
      · refine ⟨4 + k8, ?_, by omega, by omega⟩
        have : (4 : Int) + (k8 : Int) = ((4 + k8 : Nat) : Int) := by omega
        rw [this]
        rfl
    refine ⟨l, _, _, _, rfl, rfl, SqL.of hl2, hL, ?_⟩
    clear hl2 hS1 hB1 hS2
    -- the top
    refine ⟨by show 5 ≤ sizeLine; decide, fun m hm => ?_⟩
    have nm : m ≠ a := ne_bag hB2 hm
    refine ⟨_, rfl, a, 5, rfl, by decide, by decide, hB2.upd (Ne.symm nm), fun H3 k5 hS3 hB3 h5 => ?_⟩
    have hm3 := hS3 m _ nm upd_same
    have hS3' : SameBut a H H3 := fun b o n e => hS3 b o n (by rw [upd_ne (ne_of_none (hSS b o n e) hm)]; exact hSS b o n e)
    obtain ⟨M, hM, hM1, hM2⟩ : ∃ M : Nat, atI [V.int 2, V.int 3, V.int 5, V.int 12, V.int 70] (k5 : Int) = some (natV M) ∧ 0 < M ∧ M ≤ 100 := by
      have hh : k5 = 0 ∨ k5 = 1 ∨ k5 = 2 ∨ k5 = 3 ∨ k5 = 4 := by omega
      rcases hh with rfl | rfl | rfl | rfl | rfl
      · exact ⟨2, rfl, by decide, by decide⟩
      · exact ⟨3, rfl, by decide, by decide⟩
      · exact ⟨5, rfl, by decide, by decide⟩
      · exact ⟨12, rfl, by decide, by decide⟩
      · exact ⟨70, rfl, by decide, by decide⟩
    refine ⟨m, _, _, _, rfl, rfl, SqL.of hm3, hM, ?_⟩
    -- the budgets
    refine ⟨_, rfl, _, rfl, by omega, by omega, fun D hD => ?_⟩
    have nD : D ≠ a := ne_bag hB3 hD
    have hD0 : H D = none := hS3'.free nD hD
    refine lc_range (lo := 0) (n := ((L : Nat) : Int).toNat) (fun i H' => SameBut a H H' ∧ Bag H' a ∧ ∃ bs : List Nat, H' D = some (.lst (bs.map natV)) ∧ bs.length = i) ⟨hS3'.upd2 hD0, hB3.upd (Ne.symm nD), [], upd_same, rfl⟩ ?_ ?_
    · rintro i H' hi ⟨h1, h2, bs, h3, h4⟩
      refine ⟨rfl, _, rfl, _, rfl, a, M, rfl, hM1, by omega, h2, fun H4 z g1 g2 g3 => ?_⟩
      have h3' := g1 D _ nD h3
      refine ⟨_, h3', by rw [List.length_map]; exact small1000 (by omega), (h1.trans g1).upd2 hD0, g2.upd (Ne.symm nD), bs ++ [z], ?_, ?_⟩
      · rw [upd_same, List.map_append]
        rfl
      · rw [List.length_append, h4]
        rfl
    · rintro H' ⟨h1, h2, bs, h3, h4⟩
      rw [Int.toNat_natCast] at h4
      refine ⟨_, rfl, a, 12, rfl, by decide, by decide, h2, fun H4 k12 g1 g2 g3 => ⟨rfl, _, rfl, ?_⟩⟩
      have h3' := g1 D _ nD h3
      by_cases q : k12 = 0
      · refine ifT (eqT (by omega)) ?_
        refine ⟨_, _, rfl, rfl, ⟨by decide, by decide, by decide⟩, _, _, rfl, rfl, _, rfl, _, _, rfl, rfl, ⟨by decide, by decide, by decide⟩, a, 1000000, ?_, by decide, by decide, g2, fun H5 k1 r1 r2 r3 => ?_⟩
        · show [V.ref a, V.int ((10 : Int) ^ (6 : Int).toNat)] = _
          rw [p6]
        have h5' := r1 D _ nD h3'
        refine ⟨_, _, rfl, rfl, _, rfl, _, rfl, _, rfl, a, L, rfl, hL1, by omega, r2, fun H6 kL s1 s2 s3 => ?_⟩
        have h6' := s1 D _ nD h5'
        refine ⟨D, _, _, kL, rfl, rfl, h6', ixN_nat (by rw [List.length_map]; omega), ?_⟩
        obtain ⟨zz, hzz⟩ : ∃ zz : Nat, (10 : Int) ^ (30 : Int).toNat - 9 - (k1 : Int) = (zz : Int) := ⟨(10 : Nat) ^ 30 - 9 - k1, by rw [p30]; omega⟩
        refine ⟨_, rfl, ?_⟩
        refine hQ _ D (bs.set kL zz) ((((h1.trans g1).trans r1).trans s1).upd2 hD0) (s2.upd (Ne.symm nD)) ?_ hD0 (by rw [List.length_set]; omega)
        rw [upd_same, List.map_set]
        show some (HO.lst ((bs.map natV).set kL (V.int ((10 : Int) ^ (30 : Int).toNat - 9 - (k1 : Int))))) = _
        rw [hzz]
      · refine ifF (eqF (by omega)) ⟨_, rfl, ?_⟩
        exact hQ _ D bs (h1.trans g1) g2 h3' hD0 (by omega)
theorem dd__law_round (T : Fx c) : Dd c 6 "_law_round" ["_law_budgets_here"] [] (sp__law_round c) := by
  refine Dd.of (st := st__law_round) T.d__law_round (fun f fd F => Df.ok (k := 5) F sc__law_round (fun vs H Q E h => ?_) (fun f cdv A outer s H vs Q E hr h => ⟨_, (pss_cons (ps_set (i := 1) sc__law_round.nd rfl (Or.inl rfl) (pcMkR (init_R T) T.mkR (Fits.mk rfl rfl rfl rfl rfl) (hr.mono (by decide)) rfl T.gR passL (pa_cons (pe_ix ix_list (pv 0) pe_int (fun _ _ => rfl)) pa_nil))) (pss_cons (ps_for PassesOwn.never rfl (pi_list (pe_slice sl_list (pv 0) (po_some pe_int) po_none)) (pg_name (i := 2) sc__law_round.nd rfl (Or.inl rfl)) (pss_one (ps_set (i := 1) sc__law_round.nd rfl (Or.inl rfl) (pe_op (pcAdd (de_R_add T) (Fits.mk rfl rfl rfl rfl rfl) T.sf (hr.mono (by decide))) (pv 1) (pcMkR (init_R T) T.mkR (Fits.mk rfl rfl rfl rfl rfl) (hr.mono (by decide)) rfl T.gR passL (pa_cons (pv 2) pa_nil)))))) (pss_one (ps_ret (pv 1))))), ?_⟩)) (fun _ _ _ _ _ _ us hl => match us, hl with | [_], _ => rfl)
  · obtain ⟨a, bs, rfl, _⟩ := h
    rfl
  · obtain ⟨a, bs, rfl, ha, hb, hQ⟩ := h
    obtain ⟨b0, hb0⟩ : ∃ b0, bs[0]? = some b0 := ⟨_, List.getElem?_eq_getElem hb.1⟩
    refine ⟨_, rfl, a, _, _, natV b0, rfl, rfl, SqL.of ha, atI_of (j := 0) rfl (by rw [List.getElem?_map, hb0]; rfl), ?_⟩
    intro x dx h1 h2 h3
    refine ⟨x, dx, [b0], rfl, upd_same, one_ok, fun p hp => ⟨rfl, ?_⟩⟩
    obtain ⟨r1, s1⟩ := rd_made (c := c) (bs := [b0]) one_ok h1 h2 h3 hp
    generalize upd (upd (upd (upd H dx (.own x)) x (.ins c.C dx [])) p (.tup (List.map natV [b0]))) x (.ins c.C dx [("_budgets", .ref p)]) = H1 at r1 s1
    have ha1 := s1 _ _ ha
    refine ⟨_, rfl, _, rfl, a, _, rfl, SqL.of ha1, fun l hl => ?_⟩
    have ecut : cutV (bs.map natV) (some 1) none = (bs.drop 1).map natV := by
      unfold cutV
      have e1 : HT.sIx (bs.map natV).length 0 (some (1 : Int)) = min 1 (bs.map natV).length := HT.sIx_nat _ _ 1
      rw [e1, HT.sIx_none, List.length_map, Nat.min_eq_left (by omega), ← List.map_drop, List.take_of_length_le]
      rw [List.length_map, List.length_drop]
      exact Nat.le_refl _
    have hl2 : L2.upd H1 l (.lst (cutV (bs.map natV) (some 1) none)) l = some (.lst ((bs.drop 1).map natV)) := by rw [upd_same, ecut]
    have s2 : Same H (L2.upd H1 l (.lst (cutV (bs.map natV) (some 1) none))) := s1.trans (Same.new hl)
    have r2 : Rd c (L2.upd H1 l (.lst (cutV (bs.map natV) (some 1) none))) x [b0] := r1.same (Same.new hl)
    generalize L2.upd H1 l (.lst (cutV (bs.map natV) (some 1) none)) = H2 at hl2 s2 r2
    have et : bs.take 1 = [b0] := by
      rw [show 1 = 0 + 1 from rfl, List.take_add_one, hb0]
      rfl
    refine ⟨l, rfl, ⟨_, SqL.of hl2⟩, for_list (K := c.K) (a := l) (xs := (bs.drop 1).map natV) (fun i σ H' => ∃ r, (∃ v : Option V, σ = [some (.ref a), some (.ref r), v]) ∧ Same H H' ∧ H' l = some (.lst ((bs.drop 1).map natV)) ∧ Rd c H' r (bs.take (i + 1))) ⟨x, ⟨none, rfl⟩, s2, hl2, by rw [et]; exact r2⟩ (fun i σ H' _ z => by
      obtain ⟨_, _, _, z, _⟩ := z
      exact SqL.of z) ?_ ?_⟩
    · rintro i y σ H' hi ⟨r, ⟨v, rfl⟩, hS, hl', hR⟩
      rw [List.getElem?_map, List.getElem?_drop] at hi
      cases hz : bs[1 + i]? with
      | none =>
        rw [hz] at hi
        cases hi
      | some z =>
        rw [hz] at hi
        obtain rfl := Option.some.inj hi
        have hilt : 1 + i < bs.length := (List.getElem?_eq_some_iff.mp hz).1
        refine ⟨_, rfl, _, rfl, ?_⟩
        intro x dx h1 h2 h3
        refine ⟨x, dx, [z], rfl, upd_same, one_ok, fun p hp => ⟨rfl, ?_⟩⟩
        obtain ⟨r1, s1⟩ := rd_made (c := c) (bs := [z]) one_ok h1 h2 h3 hp
        generalize upd (upd (upd (upd H' dx (.own x)) x (.ins c.C dx [])) p (.tup (List.map natV [z]))) x (.ins c.C dx [("_budgets", .ref p)]) = H3 at r1 s1
        have hR3 := hR.same s1
        obtain ⟨_, dx1, T1, q1, q2⟩ := id hR3
        obtain ⟨_, dx2, T2, q3, q4⟩ := id r1
        refine ⟨r, x, dx1, dx2, _, _, rfl, rfl, q1, q3, r, x, bs.take (i + 1), [z], rfl, hR3, r1, ?_, fun H4 r4 g1 g2 => ⟨r4, rfl, r4, ⟨_, rfl⟩, ?_, g1 _ _ (s1 _ _ hl'), ?_⟩⟩
        · rw [List.length_take]
          show min (i + 1) bs.length + 1 ≤ 12
          omega
        · exact (hS.trans s1).trans g1
        · rw [List.take_add_one, show i + 1 = 1 + i by omega, hz]
          rw [show i + 1 = 1 + i by omega] at g2
          exact g2
    · rintro σ H' ⟨r, ⟨v, rfl⟩, hS, hl', hR⟩
      rw [List.length_map, List.length_drop, show bs.length - 1 + 1 = bs.length by omega, List.take_length] at hR
      exact ⟨_, rfl, hQ H' r hS hR⟩
theorem dd__law_enough (T : Fx c) : Dd c 3 "_law_enough" ["_law_budgets_here", "_law_need"] [] (sp__law_enough c) := by
  refine Dd.of (st := st__law_enough) T.d__law_enough (fun f fd F => Df.ok (k := 2) F sc__law_enough (fun vs H Q E h => ?_) (fun f cdv A outer s H vs Q E hr h => ⟨_, (pss_cons (ps_set (i := 2) sc__law_enough.nd rfl (Or.inr rfl) (pe_lc (own := [("_law_budget", 4)]) (g := gName 4) (tt := tYes) rfl sc__law_enough.nd (pi_list (pv 0)) (blkOk_by (N := N__law_enough) (sc := defScope st__law_enough) (by decide +kernel)) (fun _ _ _ _ _ => (pg_name (i := 4) sc__law_enough.nd rfl (Or.inl rfl))) (fun _ _ _ _ _ => pts_nil) (fun _ _ _ _ _ => pe_int))) (pss_cons (ps_for PassesOwn.never rfl (pi_range1 (by rfl) T.f_range (pa_cons pe_int pa_nil)) (pg_name (i := 3) sc__law_enough.nd rfl (Or.inr rfl)) (pss_cons (ps_if (pt_cmpR op_ge (pe_callB (cr_min rfl) (by rfl) T.f_min (by decide +kernel) (pa_cons (pv 2) pa_nil)) (pv 1) (nomark _)) (pss_one (ps_ret (pv 3))) pss_nil) (pss_one (ps_set (i := 2) sc__law_enough.nd rfl (Or.inr rfl) (pe_lc (own := [("_law_k", 5)]) (g := gName 5) (tt := tYes) rfl sc__law_enough.nd (pi_range1 (by rfl) T.f_range (pa_cons (pe_callB call_len (by rfl) T.f_len (by decide +kernel) (pa_cons (pv 0) pa_nil)) pa_nil)) (blkOk_by (N := N__law_enough) (sc := defScope st__law_enough) (by decide +kernel)) (fun _ _ _ _ _ => (pg_name (i := 5) sc__law_enough.nd rfl (Or.inl rfl))) (fun _ _ _ _ _ => pts_nil) (fun _ _ _ _ _ => (pe_op op_add (pe_ix (r := rIxL c.K) ix_list (pv 2) (pv 5) (fun _ _ => rfl)) (pe_ix (r := rIxL c.K) ix_list (pv 0) (pe_op op_modN (pe_callTy call_int1 (by rfl) T.f_int (by decide +kernel) (pa_cons (pe_op op_add (pv 5) (pv 3)) pa_nil)) (pe_callB (id := "len") (r := rLen c.K) call_len (by rfl) T.f_len (by decide +kernel) (pa_cons (pv 0) pa_nil))) (fun _ _ => rfl))))))))) (pss_one (ps_ret pe_int)))), ?_⟩)) (fun _ _ _ _ _ _ us hl => match us, hl with | [_, _], _ => rfl)
  · obtain ⟨a, bs, x, rfl, _⟩ := h
    rfl
  · obtain ⟨a, bs, x, rfl, ha, hb, hQ⟩ := h
    refine ⟨_, rfl, a, rfl, ⟨_, SqL.of ha⟩, fun D hD => lc_list (K := c.K) (a := a) (xs := bs.map natV) (fun i H' => Same H H' ∧ H' D = some (.lst ((List.replicate i 0).map natV))) ⟨Same.new hD, upd_same⟩ (fun i H' _ z => SqL.of (z.1 _ _ ha)) ?_ ?_⟩
    · rintro i y H' hi ⟨h1, h2⟩
      have hilt : i < bs.length := by
        have := (List.getElem?_eq_some_iff.mp hi).1
        rwa [List.length_map] at this
      refine ⟨rfl, _, h2, by rw [List.length_map, List.length_replicate]; exact small1000 (by omega), Same.upd h1 hD, ?_⟩
      rw [upd_same, List.replicate_succ', List.map_append]
      rfl
    · rintro H' ⟨h1, h2⟩
      rw [List.length_map] at h2
      have e0 : (List.replicate bs.length 0).map natV = ((List.range bs.length).map fun k => tot bs k 0).map natV := by
        congr 1
        refine (List.eq_replicate_iff.mpr ⟨by rw [List.length_map, List.length_range], fun b hb => ?_⟩).symm
        obtain ⟨k, _, rfl⟩ := List.mem_map.mp hb
        rfl
      rw [e0] at h2
      refine ⟨_, rfl, by decide, by decide, for_range (lo := 0) (n := (70 : Int).toNat) (fun i σ H' => ∃ s, (∃ v : Option V, σ = [some (.ref a), some (natV x), some (.ref s), v, none, none]) ∧ Same H H' ∧ H' s = some (.lst (((List.range bs.length).map fun k => tot bs k i).map natV)) ∧ ∀ g, g < i → ¬ AllW bs g x) ⟨D, ⟨none, rfl⟩, h1, h2, fun g z => absurd z (Nat.not_lt_zero _)⟩ ?_ ?_⟩
      · rintro i σ H1 hi ⟨s, ⟨v, rfl⟩, hS, hs, hno⟩
        have hi2 : i < 70 := hi
        refine ⟨_, rfl, s, bsInt ((List.range bs.length).map fun k => tot bs k i), rfl, SqL.of (by rw [← natV_int]; exact hs), ?_, fun m hm hle => ?_⟩
        · rw [List.length_map, List.length_map, List.length_range]
          exact hb.1
        obtain ⟨z, hz, rfl⟩ := List.mem_map.mp hm
        obtain ⟨k0, hk0, rfl⟩ := List.mem_map.mp hz
        have hall : ∀ j, j < bs.length → tot bs k0 i ≤ tot bs j i := fun j hj => Int.ofNat_le.mp (hle _ (List.mem_map.mpr ⟨_, List.mem_map.mpr ⟨j, List.mem_range.mpr hj, rfl⟩, rfl⟩))
        refine ⟨_, rfl, _, _, rfl, rfl, _, rfl, ?_⟩
        by_cases q : x ≤ tot bs k0 i
        · have hA : AllW bs i x := allW_of hb.1 0 fun j hj => by
            rw [Nat.zero_add]
            exact Nat.le_trans q (hall j hj)
          refine ifT (decide_eq_true (Int.ofNat_le.mpr q)) ⟨_, rfl, ?_⟩
          refine cvi (Q := Q) (hQ H1 i hS (fun g hg => ⟨fun z => allW_mono hA z, fun z => Nat.le_of_not_lt fun y => hno g y z⟩) (by omega)) (by omega)
        · have hA : ¬ AllW bs i x := fun z => q (z k0)
          refine ifF (decide_eq_false fun z => q (Int.ofNat_le.mp z)) ?_
          have ha1 := hS _ _ ha
          refine ⟨_, rfl, _, _, rfl, .inl ⟨_, SqL.of ha1, rfl⟩, _, rfl, ?_⟩
          rw [List.length_map]
          refine ⟨by omega, by omega, fun E1 hE1 => lc_range (lo := 0) (n := ((bs.length : Nat) : Int).toNat) (fun j H2 => Same H1 H2 ∧ H1 E1 = none ∧ H2 E1 = some (.lst (((List.range j).map fun k => tot bs k (i + 1)).map natV))) ⟨Same.new hE1, hE1, upd_same⟩ ?_ ?_⟩
          · rintro j H2 hj ⟨g1, g2, g3⟩
            have hj2 : j < bs.length := by omega
            have hs2 := g1 _ _ hs
            have ha2 := g1 _ _ ha1
            refine ⟨rfl, _, rfl, _, rfl, s, _, _, _, rfl, rfl, SqL.of hs2, atI_of (j := j) (by omega) (by rw [List.getElem?_map, List.getElem?_map, List.getElem?_range hj2]; rfl), ?_⟩
            refine ⟨_, rfl, _, rfl, _, rfl, _, _, rfl, rfl, .inl ⟨_, rfl, _, rfl, _, _, rfl, .inl ⟨_, SqL.of ha2, rfl⟩, ?_⟩⟩
            rw [List.length_map]
            refine ⟨_, _, rfl, rfl, by omega, a, _, _, _, rfl, rfl, SqL.of ha2, bud_of hb.1 (k := j + i) (by omega), _, _, rfl, rfl, _, g3, ?_, Same.upd g1 g2, g2, ?_⟩
            · rw [List.length_map, List.length_map, List.length_range]
              exact small1000 (by omega)
            · rw [upd_same, List.range_succ, List.map_append, List.map_append]
              rfl
          · rintro H2 ⟨g1, g2, g3⟩
            rw [Int.toNat_natCast] at g3
            refine ⟨E1, ⟨_, rfl⟩, hS.trans g1, g3, fun g hg => ?_⟩
            by_cases z : g < i
            · exact hno g z
            · have : g = i := by omega
              rw [this]
              exact hA
      · rintro σ H1 ⟨s, ⟨v, rfl⟩, hS, hs, hno⟩
        have hno' : ∀ g, g < 70 → ¬ AllW bs g x := hno
        exact hQ H1 70 hS (fun g hg => ⟨fun z => absurd z (by omega), fun z => absurd z (hno' g hg)⟩) (Nat.le_refl _)
end
end Cl
set_option Elab.async false
set_option linter.all false
set_option maxRecDepth 100000
set_option maxHeartbeats 4000000
/-! The law's terms. -/
namespace Cl
open PySem PySem.Spec PyProof.Rows L2 Cm
theorem SameBut.same {a : Addr} {H H1 H2 : Hp} (h : SameBut a H H1) (g : Same H1 H2) : SameBut a H H2 := fun b o n e => g b o (h b o n e)
section
variable {c : Ctx}
theorem dd__law_terms (T : Fx c) : Dd c 5 "_law_terms" ["_law_bag_here", "_law_wide"] [] (sp__law_terms c) := by
  refine Dd.of (st := st__law_terms) T.d__law_terms (fun f fd F => Df.ok (k := 4) F sc__law_terms (fun vs H Q E h => ?_) (fun f cdv A outer s H vs Q E hr h => ⟨_, (pss_cons (ps_set (i := 2) sc__law_terms.nd rfl (Or.inl rfl) (pcD (dd__law_budgets T) (Fits.mk rfl rfl rfl rfl rfl) (hr.mono (by decide)) rfl passL (pa_cons (pv 0) pa_nil))) (pss_cons (ps_set (i := 3) sc__law_terms.nd rfl (Or.inl rfl) (pe_op op_add pe_int (pcD (dd__law_take T) (Fits.mk rfl rfl rfl rfl rfl) (hr.mono (by decide)) rfl passL (pa_cons (pv 0) (pa_cons (pe_ix ix_list (pe_lst (pa_cons pe_int (pa_cons pe_int (pa_cons pe_int (pa_cons (pv 1) pa_nil))))) (pcD (dd__law_take T) (Fits.mk rfl rfl rfl rfl rfl) (hr.mono (by decide)) rfl passL (pa_cons (pv 0) (pa_cons pe_int pa_nil))) (fun _ _ => rfl)) pa_nil))))) (pss_cons (ps_set (i := 4) sc__law_terms.nd rfl (Or.inl rfl) (pe_op op_add (pe_op op_sub (pe_op op_add (pv 3) (pcD (dd__law_enough T) (Fits.mk rfl rfl rfl rfl rfl) (hr.mono (by decide)) rfl passL (pa_cons (pv 2) (pa_cons (pe_op op_sub (pv 3) pe_int) pa_nil)))) pe_int) (pcD (dd__law_take T) (Fits.mk rfl rfl rfl rfl rfl) (hr.mono (by decide)) rfl passL (pa_cons (pv 0) (pa_cons pe_int pa_nil))))) (pss_cons (ps_if (pt_cmpR op_eq (pcD (dd__law_take T) (Fits.mk rfl rfl rfl rfl rfl) (hr.mono (by decide)) rfl passL (pa_cons (pv 0) (pa_cons pe_int pa_nil))) pe_int (nomark _)) (pss_one (ps_set (i := 4) sc__law_terms.nd rfl (Or.inl rfl) (pe_op op_add (pv 3) (pcD (dd__law_take T) (Fits.mk rfl rfl rfl rfl rfl) (hr.mono (by decide)) rfl passL (pa_cons (pv 0) (pa_cons pe_int pa_nil)))))) pss_nil) (pss_one (ps_ret (pe_tup (pa_cons (pv 2) (pa_cons (pv 3) (pa_cons (pe_callB (call_max2 rfl) (by rfl) T.f_max (by decide +kernel) (pa_cons (pv 3) (pa_cons (pe_callB (call_min2 rfl) (by rfl) T.f_min (by decide +kernel) (pa_cons pe_int (pa_cons (pv 4) pa_nil))) pa_nil))) pa_nil)))))))))), ?_⟩)) (fun _ _ _ _ _ _ us hl => match us, hl with | [_, _], _ => rfl)
  · obtain ⟨a, rfl, _⟩ := h
    rfl
  · obtain ⟨a, rfl, hB, hQ⟩ := h
    refine ⟨_, rfl, a, rfl, hB, fun H1 p bs hS1 hB1 hp hpn hb => ?_⟩
    have np : p ≠ a := ne_bag hB hpn
    refine ⟨_, rfl, _, rfl, by show 4 ≤ sizeLine; decide, fun l hl => ?_⟩
    have nl : l ≠ a := ne_bag hB1 hl
    refine ⟨_, rfl, a, 4, rfl, by decide, by decide, hB1.upd (Ne.symm nl), fun H2 k4 hS2 hB2 h4 => ?_⟩
    have hl2 := hS2 l _ nl upd_same
    have hp2 := hS2 p _ np (by rw [upd_ne (ne_of_none hp hl)]; exact hp)
    have hSS : SameBut a H H2 := fun b o n e => hS2 b o n (by rw [upd_ne (ne_of_none (hS1 b o n e) hl)]; exact hS1 b o n e)
    obtain ⟨M, hM, hM1, hM2⟩ : ∃ M : Nat, atI [V.int 3, V.int 6, V.int 12, natV 50] (k4 : Int) = some (natV M) ∧ 0 < M ∧ M ≤ 50 := by
      have hh : k4 = 0 ∨ k4 = 1 ∨ k4 = 2 ∨ k4 = 3 := by omega
      rcases hh with rfl | rfl | rfl | rfl
      · exact ⟨3, rfl, by decide, by decide⟩
      · exact ⟨6, rfl, by decide, by decide⟩
      · exact ⟨12, rfl, by decide, by decide⟩
      · exact ⟨50, rfl, by decide, by decide⟩
    refine ⟨l, _, _, _, rfl, rfl, SqL.of hl2, hM, a, M, rfl, hM1, by omega, hB2, fun H3 k hS3 hB3 hk => ?_⟩
    have hp3 := hS3 p _ np hp2
    have hSS3 := hSS.trans hS3
    refine ⟨_, _, rfl, rfl, ?_⟩
    refine ⟨_, rfl, _, rfl, _, rfl, _, _, rfl, rfl, p, bs, k, ?_, hp3, hb, fun H4 e hS4 he he70 => ?_⟩
    · show [V.ref p, V.int ((1 : Int) + (k : Int) - 1)] = [V.ref p, V.int (k : Int)]
      rw [show (1 : Int) + (k : Int) - 1 = (k : Int) by omega]
    have hp4 := hS4 _ _ hp3
    have hB4 := hB3.same hS4
    have hSS4 := hSS3.same hS4
    refine ⟨_, _, rfl, rfl, _, _, rfl, rfl, _, rfl, a, 5, rfl, by decide, by decide, hB4, fun H5 k5 hS5 hB5 h5 => ⟨_, _, rfl, rfl, ?_⟩⟩
    have hp5 := hS5 p _ np hp4
    have hSS5 := hSS4.trans hS5
    refine ⟨_, rfl, a, 3, rfl, by decide, by decide, hB5, fun H6 k3 hS6 hB6 h3 => ⟨rfl, _, rfl, ?_⟩⟩
    have hp6 := hS6 p _ np hp5
    have hSS6 := hSS5.trans hS6
    have fin : ∀ (H7 : Hp) (z : Int) (σ : L2.St), σ = [some (.ref a), some (natV 50), some (.ref p), some (.int (1 + (k : Int))), some (.int z)] → H7 p = some (.lst (bs.map natV)) → SameBut a H H7 → Bag H7 a →
        (∃ v, σ[2]? = some (some v) ∧ ∃ v3, σ[3]? = some (some v3) ∧ ∃ w3, σ[3]? = some (some w3) ∧ ∃ w4, σ[4]? = some (some w4) ∧ ∃ i j, [V.int 64, w4] = [.int i, .int j] ∧ ∃ i2 j2, [w3, V.int (if j < i then j else i)] = [.int i2, .int j2] ∧ [v, v3, V.int (if j2 > i2 then j2 else i2)].length ≤ sizeLine ∧ ∀ t, H7 t = none → Q (.ref t) (L2.upd H7 t (.tup [v, v3, V.int (if j2 > i2 then j2 else i2)]))) := by
      rintro H7 z σ rfl g1 g2 g3
      refine ⟨_, rfl, _, rfl, _, rfl, _, rfl, _, _, rfl, _, _, rfl, by show 3 ≤ sizeLine; decide, fun t ht => ?_⟩
      have nt : t ≠ a := ne_bag g3 ht
      obtain ⟨P, hP, hP1, hP2⟩ : ∃ P : Nat, (if (if z < 64 then z else 64) > 1 + (k : Int) then (if z < 64 then z else 64) else 1 + (k : Int)) = (P : Int) ∧ 1 + k ≤ P ∧ P ≤ 64 := by
        refine ⟨(if (if z < 64 then z else 64) > 1 + (k : Int) then (if z < 64 then z else 64) else 1 + (k : Int)).toNat, ?_, ?_, ?_⟩ <;> (split <;> split <;> omega)
      refine hQ _ t p bs (1 + k) P (g2.same (Same.new ht)) (g3.upd (Ne.symm nt)) ⟨?_, by rw [upd_ne (ne_of_none g1 ht)]; exact g1, hb, by omega⟩ np hP1 hP2 (by omega)
      rw [upd_same, hP]
      show some (HO.tup [V.ref p, V.int (1 + (k : Int)), natV P]) = some (HO.tup [V.ref p, V.int ((1 + k : Nat) : Int), natV P])
      rw [Int.natCast_add]
      rfl
    by_cases q : k3 = 0
    · refine ifT (eqT (by omega)) ⟨_, rfl, _, rfl, a, 16, rfl, by decide, by decide, hB6, fun H7 k16 hS7 hB7 h16 => ⟨_, _, rfl, rfl, ?_⟩⟩
      exact fin H7 _ _ rfl (hS7 p _ np hp6) (hSS6.trans hS7) hB7
    · refine ifF (eqF (by omega)) ?_
      exact fin H6 _ _ rfl hp6 hSS6 hB6
theorem dd__law_few (T : Fx c) : Dd c 4 "_law_few" ["_law_bag_here", "_law_budgets_here"] [] (sp__law_few c) := by
  refine Dd.of (st := st__law_few) T.d__law_few (fun f fd F => Df.ok (k := 3) F sc__law_few (fun vs H Q E h => ?_) (fun f cdv A outer s H vs Q E hr h => ⟨_, (pss_cons (ps_set (i := 2) sc__law_few.nd rfl (Or.inl rfl) (pe_op op_add pe_int (pcD (dd__law_take T) (Fits.mk rfl rfl rfl rfl rfl) (hr.mono (by decide)) rfl passL (pa_cons (pv 0) (pa_cons pe_int pa_nil))))) (pss_cons (ps_set (i := 3) sc__law_few.nd rfl (Or.inl rfl) pe_int) (pss_cons (ps_if (pt_cmpR op_eq (pcD (dd__law_take T) (Fits.mk rfl rfl rfl rfl rfl) (hr.mono (by decide)) rfl passL (pa_cons (pv 0) (pa_cons pe_int pa_nil))) pe_int (nomark _)) (pss_one (ps_set (i := 3) sc__law_few.nd rfl (Or.inl rfl) pe_int)) pss_nil) (pss_cons (ps_set (i := 4) sc__law_few.nd rfl (Or.inl rfl) (pe_op op_sub (pe_op op_add (pe_op op_add (pv 2) (pcD (dd__law_enough T) (Fits.mk rfl rfl rfl rfl rfl) (hr.mono (by decide)) rfl passL (pa_cons (pv 1) (pa_cons (pe_op op_sub (pv 2) pe_int) pa_nil)))) (pcD (dd__law_take T) (Fits.mk rfl rfl rfl rfl rfl) (hr.mono (by decide)) rfl passL (pa_cons (pv 0) (pa_cons pe_int pa_nil)))) pe_int)) (pss_one (ps_ret (pe_tup (pa_cons (pv 1) (pa_cons (pv 2) (pa_cons (pe_callB (call_max2 rfl) (by rfl) T.f_max (by decide +kernel) (pa_cons (pv 2) (pa_cons (pe_callB (call_min2 rfl) (by rfl) T.f_min (by decide +kernel) (pa_cons (pv 3) (pa_cons (pv 4) pa_nil))) pa_nil))) pa_nil)))))))))), ?_⟩)) (fun _ _ _ _ _ _ us hl => match us, hl with | [_, _], _ => rfl)
  · obtain ⟨a, p, bs, rfl, _⟩ := h
    rfl
  · obtain ⟨a, p, bs, rfl, hB, hp, np, hb, hQ⟩ := h
    refine ⟨_, rfl, a, 5, rfl, by decide, by decide, hB, fun H1 k hS1 hB1 hk => ⟨_, _, rfl, rfl, ?_⟩⟩
    have hp1 := hS1 p _ np hp
    refine ⟨_, rfl, a, 8, rfl, by decide, by decide, hB1, fun H2 k8 hS2 hB2 h8 => ⟨rfl, _, rfl, ?_⟩⟩
    have hp2 := hS2 p _ np hp1
    have hSS := hS1.trans hS2
    have fin : ∀ (M : Int) (σ : L2.St), (M = 7 ∨ M = 10) → σ = [some (.ref a), some (.ref p), some (.int (1 + (k : Int))), some (.int M), none] →
      (∃ l0, σ[2]? = some (some l0) ∧ ∃ w1, σ[1]? = some (some w1) ∧ ∃ w2, σ[2]? = some (some w2) ∧ ∃ i1 j1, w2 = .int i1 ∧ V.int 1 = .int j1 ∧ sp__law_enough c ([w1, .int (i1 - j1)] ++ []) H2 (fun x H3 => ∃ i2 j2, l0 = .int i2 ∧ x = .int j2 ∧ ∃ w0, σ[0]? = some (some w0) ∧ sp__law_take c ([w0, .int 4] ++ []) H3 (fun y H4 => ∃ i3 j3, V.int (i2 + j2) = .int i3 ∧ y = .int j3 ∧ ∃ i4 j4, V.int (i3 + j3) = .int i4 ∧ V.int 1 = .int j4 ∧
        ∃ v, (σ.set 4 (some (.int (i4 - j4))))[1]? = some (some v) ∧ ∃ v3, (σ.set 4 (some (.int (i4 - j4))))[2]? = some (some v3) ∧ ∃ w3, (σ.set 4 (some (.int (i4 - j4))))[2]? = some (some w3) ∧ ∃ w6, (σ.set 4 (some (.int (i4 - j4))))[3]? = some (some w6) ∧ ∃ w4, (σ.set 4 (some (.int (i4 - j4))))[4]? = some (some w4) ∧ ∃ i j, [w6, w4] = [.int i, .int j] ∧ ∃ i2 j2, [w3, V.int (if j < i then j else i)] = [.int i2, .int j2] ∧ [v, v3, V.int (if j2 > i2 then j2 else i2)].length ≤ sizeLine ∧ ∀ t, H4 t = none → Q (.ref t) (L2.upd H4 t (.tup [v, v3, V.int (if j2 > i2 then j2 else i2)]))) E0) E0) := by
      rintro M σ hM rfl
      refine ⟨_, rfl, _, rfl, _, rfl, _, _, rfl, rfl, p, bs, k, ?_, hp2, hb, fun H3 e hS3 he he70 => ?_⟩
      · show [V.ref p, V.int ((1 : Int) + (k : Int) - 1)] = [V.ref p, V.int (k : Int)]
        rw [show (1 : Int) + (k : Int) - 1 = (k : Int) by omega]
      have hp3 := hS3 _ _ hp2
      refine ⟨_, _, rfl, rfl, _, rfl, a, 4, rfl, by decide, by decide, hB2.same hS3, fun H4 k4 hS4 hB4 h4 => ?_⟩
      have hp4 := hS4 p _ np hp3
      refine ⟨_, _, rfl, rfl, _, _, rfl, rfl, _, rfl, _, rfl, _, rfl, _, rfl, _, rfl, _, _, rfl, _, _, rfl, by show 3 ≤ sizeLine; decide, fun t ht => ?_⟩
      have nt : t ≠ a := ne_bag hB4 ht
      generalize (1 : Int) + (k : Int) + (e : Int) + (k4 : Int) - 1 = z
      obtain ⟨P, hP, hP1, hP2⟩ : ∃ P : Nat, (if (if z < M then z else M) > 1 + (k : Int) then (if z < M then z else M) else 1 + (k : Int)) = (P : Int) ∧ 1 + k ≤ P ∧ P ≤ 10 := by
        refine ⟨(if (if z < M then z else M) > 1 + (k : Int) then (if z < M then z else M) else 1 + (k : Int)).toNat, ?_, ?_, ?_⟩ <;> (split <;> split <;> omega)
      refine hQ _ t (1 + k) P (((hSS.same hS3).trans hS4).same (Same.new ht)) (hB4.upd (Ne.symm nt)) ⟨?_, by rw [upd_ne (ne_of_none hp4 ht)]; exact hp4, hb, by omega⟩ hP1 hP2 (by omega)
      rw [upd_same, hP]
      show some (HO.tup [V.ref p, V.int (1 + (k : Int)), natV P]) = some (HO.tup [V.ref p, V.int ((1 + k : Nat) : Int), natV P])
      rw [Int.natCast_add]
      rfl
    by_cases q : k8 = 0
    · refine ifT (eqT (by omega)) ?_
      exact fin 10 _ (.inr rfl) rfl
    · refine ifF (eqF (by omega)) ?_
      exact fin 7 _ (.inl rfl) rfl
end
end Cl
set_option Elab.async false
set_option linter.all false
set_option maxRecDepth 100000
set_option maxHeartbeats 4000000
/-! A generator called; an exception that a try takes; the law's fault. -/
namespace Cl
open PySem PySem.Spec PyProof.Rows L2 Cm
/-- a generator def that keeps its promise -/
structure Dg (c : Ctx) (k : Nat) (x : Str) (ps : List Str) (n : Nat) (ks : List Str) (gV : List V → List V → List V) (dvs : List V) (sp : SpG) : Prop where
  ex : ∃ f fd g ds, GFn PR c.w c.K c.mg c.base k f fd ps sp ∧ c.mg x = some (.ref f) ∧ PySem.W.keepIn c.K (.ref f) = true ∧ KBn c.K fd ps n ks g gV ∧ Vals dvs ds ∧ Binds c.K fd ps ds
theorem Fits.gfn {X : Cx} {c : Ctx} (F : Fits X c) {k : Nat} {f : Addr} {fd : FuncData} {ps : List Str} {sp : SpG} (h : GFn PR c.w c.K c.mg c.base k f fd ps sp) : GFn X.prog X.w X.K X.mg X.base k f fd ps sp := by
  rw [F.p, F.w, F.K, F.g, F.b]
  exact h
section
variable {X : Cx} {c : Ctx} {k n : Nat} {x : Str} {ps ks : List Str} {dvs : List V} {gV : List V → List V → List V} {sp : SpG} {E : XK} {p pos : Pos} {e : Expr} {es : List Expr} {kws : List Keyword} {t tk : TA}
theorem pcGK (D : Dg c k x ps n ks gV dvs sp) (F : Fits X c) (hr : Room k X.A) (hg : Gl X x) (ha : PA X (e :: es) t) (hkw : PK X kws tk)
    (hall : (backToKw pos (keywordEach kws X.env)).all (·.1.isSome) = true := by rfl) (hks : (backToKw pos (keywordEach kws X.env)).filterMap (·.1) = ks := by rfl)
    (hdb : (x == ("__debug__" : Str)) = false := by decide) (he : starEach (e :: es) X.env = (false, eval e X.env) :: starEach es X.env := by rfl)
    (hpl : ((backTo pos (starEach (e :: es) X.env)).any (·.1) || (backToKw pos (keywordEach kws X.env)).any (·.1.isNone)) = false := by rfl) :
    PGen X k (.Call (.Name x p) (e :: es) kws pos) (tCallGN n ks.length sp gV E t tk) E := by
  obtain ⟨f, fd, g, ds, G, hm, hk, hb, hv, hb2⟩ := D.ex
  exact pgen_callN (F.gfn G) hr hg (by rw [F.g]; exact hm) (by rw [F.K]; exact hk) (by rw [F.K]; exact hb) ha hkw hall hks hdb he hpl
theorem pcG (D : Dg c k x ps n ks gV dvs sp) (F : Fits X c) (hr : Room k X.A) (hg : Gl X x) (ha : PA X (e :: es) t) (hdb : (x == ("__debug__" : Str)) = false := by decide)
    (he : starEach (e :: es) X.env = (false, eval e X.env) :: starEach es X.env := by rfl) (hpl : (backTo pos (starEach es X.env)).any (·.1) = false := by rfl) :
    PGen X k (.Call (.Name x p) (e :: es) [] pos) (tCallG sp dvs E t) E := by
  obtain ⟨f, fd, g, ds, G, hm, hk, hb, hv, hb2⟩ := D.ex
  exact pgen_call (F.gfn G) hr hg (by rw [F.g]; exact hm) (by rw [F.K]; exact hk) (by rw [F.K]; exact hb2) hv ha hdb he hpl
/-- what a try's wish W says of an InvalidInput, at any slots -/
def EWc (c : Ctx) (n : Nat) (W : WX) : XK := fun cls d H => cls = .ref c.CI ∧ ∀ σ : L2.St, σ.length = n → W cls d σ H
theorem passW {W : WX} (tk : Takes X W) (hn : X.N.length = n) : Passes (L2.CX X.prog X.w) X (EWc c n W) := fun pins σ H s e s' I z => tk e s' (XE.of_call I (fun cls d H' h => h.2 σ (I.len.trans hn)) z)
theorem noStop0 {K : PySem.W.Frag} : NoStop K E0 := fun _ _ _ z => z.elim
theorem noStopW {W : WX} (h : PySem.W.subIn c.K (.ref c.CI) (.type "StopIteration") = some false) : NoStop c.K (EWc c n W) := fun cls d H z => by
  rw [z.1]
  exact h
end
theorem dg_safe_words {c : Ctx} (T : Fx c) : Dg c 10 "safe_words" ["places", "limit", "budgets", "phase", "count", "late"] 5 ["late"] (fun vs zs => vs ++ zs) [.bl false] (spG_safe_words c) := by
  obtain ⟨f, fd, g, h1, h2, h3, h4, ds, h5, h6⟩ := gk_safe_words T
  exact ⟨f, fd, g, ds, h1, h2, h3, h4, h5, h6⟩
def optS : Option Str → V
  | none => .non
  | some z => .str z
def sp__law_fault (c : Ctx) : Sp := fun vs H Q _ => ∃ (a : Addr) (p N ph n : Int), vs = [.ref a] ∧ H a = some (.lst [.int p, .int N, .int ph, .int n]) ∧ Q (optS (faultOf p N ph n)) H
section
variable {c : Ctx}
theorem dd__law_fault (T : Fx c) : Dd c 1 "_law_fault" ["_law_row"] [] (sp__law_fault c) := by
  refine Dd.of (st := st__law_fault) T.d__law_fault (fun f fd F => Df.ok (k := 0) F sc__law_fault (fun vs H Q E h => ?_) (fun f cdv A outer s H vs Q E hr h => ⟨_, (pss_cons (ps_asg (pv 0) (pg_lst rfl (pgs_cons (pg_name (i := 1) sc__law_fault.nd rfl (Or.inl rfl)) (pgs_cons (pg_name (i := 2) sc__law_fault.nd rfl (Or.inl rfl)) (pgs_cons (pg_name (i := 3) sc__law_fault.nd rfl (Or.inl rfl)) (pgs_cons (pg_name (i := 4) sc__law_fault.nd rfl (Or.inl rfl)) pgs_nil)))))) (pss_cons (ps_if (pt_cmpR op_lt (pv 1) pe_int (nomark _)) (pss_one (ps_ret pe_str)) pss_nil) (pss_cons (ps_if (PW.pt (pw_or (pt_cmpR op_lt (pv 2) pe_int (nomark _)) (pw_or1 (PW.pt (pw_and (pt_cmpR op_gt (pv 2) (pv 1) (nomark _)) (pw_and (pt_cmpR op_ge (pv 3) pe_int (nomark _)) (pw_and1 (pt_cmpR op_ge (pv 4) pe_int (nomark _))))))))) (pss_one (ps_ret pe_str)) pss_nil) (pss_cons (ps_if (pt_cmpR op_lt (pv 3) pe_int (nomark _)) (pss_one (ps_ret pe_str)) pss_nil) (pss_cons (ps_if (PW.pt (pw_or (pt_cmpR op_lt (pv 4) pe_int (nomark _)) (pw_or1 (pt_cmpR op_gt (pv 4) (pv 2) (nomark _))))) (pss_one (ps_ret pe_str)) pss_nil) (pss_one (ps_ret pe_non))))))), ?_⟩)) (fun _ _ _ _ _ _ us hl => match us, hl with | [_], _ => rfl)
  · obtain ⟨a, p, N, ph, n, rfl, _⟩ := h
    rfl
  · obtain ⟨a, p, N, ph, n, rfl, ha, hQ⟩ := h
    refine ⟨_, rfl, a, _, rfl, SqL.of ha, rfl, _, _, rfl, _, _, rfl, _, _, rfl, _, _, rfl, rfl, ?_⟩
    unfold faultOf at hQ
    refine ⟨_, rfl, _, _, rfl, rfl, _, rfl, ?_⟩
    by_cases c1 : p < 1
    · rw [if_pos c1] at hQ
      exact ifT (decide_eq_true c1) hQ
    rw [if_neg c1] at hQ
    refine ifF (decide_eq_false c1) ⟨_, rfl, _, _, rfl, rfl, _, rfl, ?_⟩
    by_cases c2 : N < 1
    · rw [if_pos c2] at hQ
      exact ifT (decide_eq_true c2) (iteT hQ)
    rw [if_neg c2] at hQ
    have rest : ∀ {A B : Prop}, (¬ (p < N ∧ 0 ≤ ph ∧ 0 ≤ n) → B) → (p < N ∧ 0 ≤ ph ∧ 0 ≤ n → A) → if (decide (p < N) && (decide (0 ≤ ph) && decide (0 ≤ n))) = true then A else B := by
      intro A B hB hA
      by_cases q : p < N ∧ 0 ≤ ph ∧ 0 ≤ n
      · rw [decide_eq_true q.1, decide_eq_true q.2.1, decide_eq_true q.2.2]
        exact iteT (hA q)
      · refine ifF ?_ (hB q)
        by_cases q1 : p < N
        · by_cases q2 : 0 ≤ ph
          · rw [decide_eq_false (fun z => q ⟨q1, q2, z⟩), Bool.and_false, Bool.and_false]
          · rw [decide_eq_false q2, Bool.false_and, Bool.and_false]
        · rw [decide_eq_false q1, Bool.false_and]
    refine ifF (decide_eq_false c2) ⟨_, rfl, _, rfl, _, _, rfl, rfl, _, rfl, ?_⟩
    by_cases c5 : p < N
    · refine ifT (decide_eq_true c5) ⟨_, rfl, _, _, rfl, rfl, _, rfl, ?_⟩
      by_cases c3 : ph < 0
      · rw [if_pos c3] at hQ
        refine ifF (decide_eq_false (by omega)) (iteF ⟨_, rfl, _, _, rfl, rfl, _, rfl, ?_⟩)
        exact ifT (decide_eq_true c3) hQ
      rw [if_neg c3] at hQ
      refine ifT (decide_eq_true (by omega)) ⟨_, rfl, _, _, rfl, rfl, _, rfl, ?_⟩
      by_cases c4 : n < 0
      · rw [if_pos c4] at hQ
        rw [decide_eq_false (show ¬ (0 : Int) ≤ n by omega)]
        refine iteF ⟨_, rfl, _, _, rfl, rfl, _, rfl, ?_⟩
        refine ifF (decide_eq_false c3) ⟨_, rfl, _, _, rfl, rfl, _, rfl, ?_⟩
        exact ifT (decide_eq_true c4) (iteT hQ)
      · rw [if_neg c4, if_pos c5] at hQ
        rw [decide_eq_true (show (0 : Int) ≤ n by omega)]
        exact iteT hQ
    · refine ifF (decide_eq_false c5) (iteF ⟨_, rfl, _, _, rfl, rfl, _, rfl, ?_⟩)
      by_cases c3 : ph < 0
      · rw [if_pos c3] at hQ
        exact ifT (decide_eq_true c3) hQ
      rw [if_neg c3] at hQ
      refine ifF (decide_eq_false c3) ⟨_, rfl, _, _, rfl, rfl, _, rfl, ?_⟩
      by_cases c4 : n < 0
      · rw [if_pos c4] at hQ
        exact ifT (decide_eq_true c4) (iteT hQ)
      rw [if_neg c4, if_neg c5] at hQ
      refine ifF (decide_eq_false c4) ⟨_, rfl, _, rfl, _, _, rfl, rfl, _, rfl, ?_⟩
      by_cases c6 : N < n
      · rw [if_pos c6] at hQ
        rw [decide_eq_true c6]
        exact iteT hQ
      · rw [if_neg c6] at hQ
        rw [decide_eq_false c6]
        exact iteF hQ
end
end Cl
set_option Elab.async false
set_option linter.all false
set_option maxRecDepth 100000
set_option maxHeartbeats 4000000
/-! The law's count. -/
namespace Cl
open PySem PySem.Spec PyProof.Rows L2 Cm
def sp__law_counted (c : Ctx) : Sp := fun vs H Q _ => ∃ (t a : Addr) (bs : List Nat) (N p ph n : Nat) (late : Bool), vs = [.ref t, natV ph, natV n, .bl late] ∧ Tm3 H t a bs N p ∧ N ≤ p ∧ n ≤ N ∧ p ≤ 65 ∧ ∀ H', Same H H' → Q (natV (cntSafe bs ph N p n late)) H'
theorem atI_neg1 {α : Type} {xs : List α} {k : Nat} {v : α} (h1 : xs.length = k + 1) (h : xs[k]? = some v) : atI xs (-1) = some v := by
  have e : ixN xs.length (-1) = some k := by
    unfold ixN
    rw [if_neg (by decide), if_pos (by omega), h1]
    congr 1
    omega
  unfold atI
  rw [e]
  exact h
section
variable {c : Ctx}
theorem dd__law_counted (T : Fx c) : Dd c 4 "_law_counted" ["_law_terms_here", "_law_phase", "_law_count", "_law_is_late"] [] (sp__law_counted c) := by
  refine Dd.of (st := st__law_counted) T.d__law_counted (fun f fd F => Df.ok (k := 3) F sc__law_counted (fun vs H Q E h => ?_) (fun f cdv A outer s H vs Q E hr h => ⟨_, (pss_cons (ps_asg (pv 0) (pg_tup rfl (pgs_cons (pg_name (i := 4) sc__law_counted.nd rfl (Or.inl rfl)) (pgs_cons (pg_name (i := 5) sc__law_counted.nd rfl (Or.inl rfl)) (pgs_cons (pg_name (i := 6) sc__law_counted.nd rfl (Or.inl rfl)) pgs_nil))))) (pss_cons (ps_set (i := 7) sc__law_counted.nd rfl (Or.inr rfl) (pe_op op_sub (pv 6) (pe_callTy call_int1 (by rfl) T.f_int (by decide +kernel) (pa_cons (pv 3) pa_nil)))) (pss_cons (ps_if (PW.pt (pw_or (pt_cmpR op_gt (pv 5) (pv 7) (nomark _)) (pw_or1 (pt_cmpR op_gt (pcD (dd__law_enough T) (Fits.mk rfl rfl rfl rfl rfl) (hr.mono (by decide)) rfl passL (pa_cons (pv 4) (pa_cons (pe_op op_sub (pv 5) pe_int) pa_nil))) (pe_op op_sub (pv 7) (pv 5)) (nomark _))))) (pss_one (ps_ret pe_int)) pss_nil) (pss_cons (ps_setLc (i := 9) (own := [("_law_k", 8)]) (g := gName 8) (tt := tYes) rfl sc__law_counted.nd rfl rfl (sw_true rfl rfl rfl (by decide +kernel)) (pi_range1 (by rfl) T.f_range (pa_cons (pv 2) pa_nil)) (blkOk_by (N := N__law_counted) (sc := defScope st__law_counted) (by decide +kernel)) (fun _ _ _ _ _ => (pg_name (i := 8) sc__law_counted.nd rfl (Or.inl rfl))) (fun _ _ _ _ _ => pts_nil) (fun _ _ _ _ _ => (pv 7))) (pss_cons (ps_set (i := 10) sc__law_counted.nd rfl (Or.inl rfl) pe_int) (pss_cons (ps_for PassesOwn.never rfl (pi_range1 (by rfl) T.f_range (pa_cons (pe_op op_add (pv 7) pe_int) pa_nil)) (pg_name (i := 11) sc__law_counted.nd rfl (Or.inl rfl)) (pss_one (ps_if (pt_cmpR op_lt (pv 10) (pe_callB (call_min2 rfl) (by rfl) T.f_min (by decide +kernel) (pa_cons (pv 2) (pa_cons (pe_op op_sub (pv 5) pe_int) pa_nil))) (nomark _)) (pss_cons (ps_asg (pe_callB (call_min2 rfl) (by rfl) T.f_min (by decide +kernel) (pa_cons (pe_ix ix_list (pv 9) (pv 10) (fun _ _ => rfl)) (pa_cons (pe_op op_sub (pe_op op_sub (pe_op op_sub (pv 7) (pv 10)) (pv 11)) pe_int) pa_nil))) (pg_sub (pv 9) (pv 10) set_list)) (pss_one (ps_set (i := 10) sc__law_counted.nd rfl (Or.inl rfl) (pe_op op_add (pv 10) (pe_ix ix_list (pv 4) (pe_op op_modN (pe_callTy call_int1 (by rfl) T.f_int (by decide +kernel) (pa_cons (pe_op op_add (pv 1) (pv 11)) pa_nil)) (pe_callB call_len (by rfl) T.f_len (by decide +kernel) (pa_cons (pv 4) pa_nil))) (fun _ _ => rfl)))))) pss_nil))) (pss_cons (ps_setLc (i := 13) (own := [("_law_depth", 12)]) (g := gName 12) (tt := tYes) rfl sc__law_counted.nd rfl rfl (sw_true rfl rfl rfl (by decide +kernel)) (pi_range1 (by rfl) T.f_range (pa_cons (pe_op op_add (pv 7) pe_int) pa_nil)) (blkOk_by (N := N__law_counted) (sc := defScope st__law_counted) (by decide +kernel)) (fun _ _ _ _ _ => (pg_name (i := 12) sc__law_counted.nd rfl (Or.inl rfl))) (fun _ _ _ _ _ => pts_nil) (fun _ _ _ _ _ => pe_int)) (pss_cons (ps_for PassesOwn.never rfl (pi_range1 (by rfl) T.f_range (pa_cons (pv 2) pa_nil)) (pg_name (i := 8) sc__law_counted.nd rfl (Or.inl rfl)) (pss_cons (ps_set (i := 14) sc__law_counted.nd rfl (Or.inl rfl) (pe_lst (pa_cons pe_int pa_nil))) (pss_cons (ps_for PassesOwn.never rfl (pi_range2 (by rfl) T.f_range (pa_cons pe_int (pa_cons (pe_op op_add (pv 7) pe_int) pa_nil))) (pg_name (i := 12) sc__law_counted.nd rfl (Or.inl rfl)) (pss_one (ps_expr (pe_bm PySem.F.plainAttrs_list PySem.F.slot_list_append PySem.F.type_list_append mt_append (pv 14) (pa_cons (pe_op op_add (pe_ix ix_list (pv 14) (pe_un un_neg pe_int) (fun _ _ => rfl)) (pe_op op_mul (pe_ix ix_list (pv 13) (pe_op op_sub (pv 12) pe_int) (fun _ _ => rfl)) (pe_callTy call_int1 (by rfl) T.f_int (by decide +kernel) (pa_cons (pe_cmpR op_le (pv 12) (pe_ix ix_list (pv 9) (pe_op op_sub (pe_op op_sub (pv 2) pe_int) (pv 8)) (fun _ _ => rfl)) (nomark _)) pa_nil)))) pa_nil))))) (pss_one (ps_set (i := 13) sc__law_counted.nd rfl (Or.inl rfl) (pv 14)))))) (pss_one (ps_ret (pe_ix ix_list (pv 13) (pv 7) (fun _ _ => rfl)))))))))))), ?_⟩)) (fun _ _ _ _ _ _ us hl => match us, hl with | [_, _, _, _], _ => rfl)
  · obtain ⟨t, a, bs, N, p, ph, n, late, rfl, _⟩ := h
    rfl
  · obtain ⟨t, a, bs, N, p, ph, n, late, rfl, hT, hNp, hnN, hp, hQ⟩ := h
    obtain ⟨hT1, hT2, hb, hN⟩ := id hT
    have hml := mOf_le (p := p) (late := late)
    refine ⟨_, rfl, t, _, rfl, .inl (.inl hT1), rfl, _, _, rfl, _, _, rfl, _, _, rfl, rfl, ?_⟩
    have em : (p : Int) - (if late then 1 else 0) = ((mOf p late : Nat) : Int) := by
      unfold mOf
      cases late with
      | true =>
        show (p : Int) - 1 = ((p - 1 : Nat) : Int)
        omega
      | false =>
        show (p : Int) - 0 = (p : Int)
        omega
    refine ⟨_, rfl, _, rfl, .inr ⟨_, rfl, _, _, rfl, rfl, ?_⟩⟩
    show gName 7 (V.int ((p : Int) - (if late then 1 else 0))) _ _ _
    rw [em]
    generalize hm : mOf p late = m at *
    refine ⟨_, rfl, _, rfl, _, _, rfl, rfl, _, rfl, ?_⟩
    by_cases q1 : m < N
    · refine ifT (decide_eq_true (by omega)) (iteT ?_)
      refine cvi (Q := Q) (hQ H (Same.refl H)) ?_
      have hg : goesB bs N m = false := by
        unfold goesB
        rw [decide_eq_false (by omega), Bool.false_and]
      unfold cntSafe
      rw [hm, hg]
      rfl
    refine ifF (decide_eq_false (by omega)) ⟨_, rfl, _, rfl, _, _, rfl, rfl, a, bs, N - 1, ?_, hT2, hb, fun H1 e hS1 he he70 => ?_⟩
    · show [V.ref a, V.int ((N : Int) - 1)] = [V.ref a, V.int ((N - 1 : Nat) : Int)]
      rw [show (N : Int) - 1 = ((N - 1 : Nat) : Int) by omega]
    refine ⟨_, rfl, _, rfl, _, _, rfl, rfl, _, _, rfl, rfl, _, rfl, ?_⟩
    have hee := he (m - N) (by omega)
    by_cases q2 : m - N < e
    · rw [decide_eq_true (show (m : Int) - (N : Int) < (e : Int) by omega)]
      refine iteT (cvi (Q := Q) (hQ H1 hS1) ?_)
      have hg : goesB bs N m = false := by
        refine Bool.eq_false_iff.mpr fun z => ?_
        have := hee.mpr ((goes_iff hb.1).mp z).2
        omega
      unfold cntSafe
      rw [hm, hg]
      rfl
    rw [decide_eq_false (show ¬ (m : Int) - (N : Int) < (e : Int) by omega)]
    refine iteF ?_
    have hA : AllW bs (m - N) (N - 1) := hee.mp (by omega)
    have hg : goesB bs N m = true := (goes_iff hb.1).mpr ⟨by omega, hA⟩
    -- the tops
    refine ⟨_, rfl, _, rfl, by omega, by omega, fun D hD => lc_range (lo := 0) (n := ((n : Nat) : Int).toNat) (fun i H' => Same H H' ∧ H D = none ∧ H' D = some (.lst ((List.replicate i (m : Int)).map V.int))) ⟨Same.upd hS1 (hS1.free hD), hS1.free hD, upd_same⟩ ?_ ?_⟩
    · rintro i H' hi ⟨g1, g2, g3⟩
      refine ⟨rfl, _, rfl, _, g3, by rw [List.length_map, List.length_replicate]; exact small1000 (by omega), Same.upd g1 g2, g2, ?_⟩
      rw [upd_same, List.replicate_succ', List.map_append]
      rfl
    rintro H2 ⟨hS2, hDn, hD2⟩
    rw [Int.toNat_natCast] at hD2
    refine ⟨_, rfl, _, _, rfl, rfl, _, rfl, by omega, by omega, for_range (lo := 0) (n := ((m : Int) + 1).toNat) (fun i σ H' => ∃ tt : Nat, (∃ v1 v2 : Option V, σ = [some (.ref t), some (natV ph), some (natV n), some (.bl late), some (.ref a), some (natV N), some (natV p), some (natV m), v1, some (.ref D), some (natV tt), v2, none, none, none]) ∧ Same H H' ∧ H' D = some (.lst ((capsN bs ph N m n i).map V.int)) ∧ (tt = tot bs ph i ∨ (min n (N - 1) ≤ tt ∧ min n (N - 1) ≤ tot bs ph i))) ⟨0, ⟨none, none, rfl⟩, hS2, hD2, .inl rfl⟩ ?_ ?_⟩
    · rintro i σ H' hi ⟨tt, ⟨v1, v2, rfl⟩, hS, hD', htt⟩
      have him : i < m + 1 := by omega
      have clen := caps_len bs ph N m n i
      refine ⟨_, rfl, _, rfl, _, rfl, _, _, rfl, rfl, _, _, rfl, _, _, rfl, rfl, _, rfl, ?_⟩
      by_cases q : tt < min n (N - 1)
      · refine ifT (decide_eq_true (by split <;> omega)) ?_
        have ett : tt = tot bs ph i := by
          rcases htt with h | h
          · exact h
          · omega
        obtain ⟨d, hd⟩ : ∃ d, (capsN bs ph N m n i)[tt]? = some d := ⟨_, List.getElem?_eq_getElem (by omega)⟩
        refine ⟨_, rfl, _, rfl, D, _, _, _, rfl, rfl, SqL.of hD', atI_nat (by rw [List.getElem?_map, hd]; rfl), ?_⟩
        refine ⟨_, rfl, _, rfl, _, _, rfl, rfl, _, rfl, _, _, rfl, rfl, _, _, rfl, rfl, _, _, rfl, ?_⟩
        refine ⟨_, rfl, _, rfl, D, _, _, tt, rfl, rfl, hD', ixN_nat (by rw [List.length_map, clen]; omega), ?_⟩
        have ha' : ∀ z, (L2.upd H' D z) a = some (.lst (bs.map natV)) := fun z => by
          rw [upd_ne (ne_of_none hT2 hDn)]
          exact hS _ _ hT2
        refine ⟨_, rfl, _, rfl, _, rfl, _, rfl, _, _, rfl, rfl, .inl ⟨_, rfl, _, rfl, _, _, rfl, .inl ⟨_, SqL.of (ha' _), rfl⟩, ?_⟩⟩
        rw [List.length_map]
        refine ⟨_, _, rfl, rfl, by omega, a, _, _, _, rfl, rfl, SqL.of (ha' _), bud_of hb.1 (k := ph + i) (by omega), ?_⟩
        refine ⟨_, _, rfl, rfl, tt + bA bs (ph + i), ⟨_, _, rfl⟩, Same.upd hS hDn, ?_, .inl ?_⟩
        · rw [upd_same]
          congr 2
          rw [← List.map_set]
          congr 1
          show _ = (if tot bs ph i < min n (N - 1) then _ else _)
          rw [← ett, if_pos q]
          congr 1
          have ed : (capsN bs ph N m n i).getD tt 0 = d := by
            rw [List.getD_eq_getElem?_getD, hd]
            rfl
          rw [ed, Int.zero_add]
          rw [show (m : Int) - 1 - (tt : Int) - (i : Int) = (m : Int) - (tt : Int) - (i : Int) - 1 by omega]
        · rw [ett]
          rfl
      · refine ifF (decide_eq_false (by split <;> omega)) ?_
        have hge : min n (N - 1) ≤ tot bs ph i := by
          rcases htt with h | h
          · omega
          · exact h.2
        refine ⟨tt, ⟨_, _, rfl⟩, hS, ?_, .inr ⟨by omega, ?_⟩⟩
        · have e2 : capsN bs ph N m n (i + 1) = capsN bs ph N m n i := if_neg (by omega)
          rw [e2]
          exact hD'
        · have := tot_mono bs ph (show i ≤ i + 1 by omega)
          omega
    rintro σ H3 ⟨tt, ⟨v1, v2, rfl⟩, hS3, hD3, _⟩
    have e1 : ((m : Int) + 1).toNat = m + 1 := by omega
    rw [e1, caps_one_more (by omega) hA] at hD3
    generalize hL : capsN bs ph N m n m = L at hD3
    have lenL : L.length = n := by rw [← hL]; exact caps_len bs ph N m n m
    -- the first sums
    refine ⟨_, rfl, _, _, rfl, rfl, _, rfl, by omega, by omega, fun S hS' => lc_range (lo := 0) (n := ((m : Int) + 1).toNat) (fun i H' => Same H3 H' ∧ H3 S = none ∧ H' S = some (.lst ((List.replicate i 1).map natV))) ⟨Same.new hS', hS', upd_same⟩ ?_ ?_⟩
    · rintro i H' hi ⟨g1, g2, g3⟩
      refine ⟨rfl, _, g3, by rw [List.length_map, List.length_replicate]; exact small1000 (by omega), Same.upd g1 g2, g2, ?_⟩
      rw [upd_same, List.replicate_succ', List.map_append]
      rfl
    rintro H4 ⟨g1, g2, g3⟩
    rw [e1] at g3
    refine ⟨_, rfl, _, rfl, by omega, by omega, for_range (lo := 0) (n := ((n : Nat) : Int).toNat) (fun i σ H' => (∃ tt2, (∃ v1 v2 v3 v4 : Option V, σ = [some (.ref t), some (natV ph), some (natV n), some (.bl late), some (.ref a), some (natV N), some (natV p), some (natV m), v1, some (.ref D), some (natV tt), v2, v3, some (.ref tt2), v4]) ∧ H' tt2 = some (.lst ((totals m (L.drop (L.length - i))).map natV))) ∧ Same H H' ∧ H' D = some (.lst (L.map V.int))) ⟨⟨S, ⟨_, _, _, _, rfl⟩, ?_⟩, hS3.trans g1, g1 _ _ hD3⟩ ?_ ?_⟩
    · rw [Nat.sub_zero, List.drop_length]
      exact g3
    · rintro i σ H' hi ⟨⟨tt2, ⟨v1, v2, v3, v4, rfl⟩, htt⟩, hS, hq'⟩
      have hin : i < L.length := by omega
      have hkk : (L.map V.int).length - 1 - i < (L.map V.int).length := by
        rw [List.length_map]
        omega
      obtain ⟨cap, hcap, hdrop⟩ := drop_back hin (List.getElem?_eq_getElem hkk)
      have hcap2 : (L.map V.int)[n - 1 - i]? = some (.int cap) := by
        have e2 : (L.map V.int).length - 1 - i = n - 1 - i := by rw [List.length_map, lenL]
        rw [← e2, ← hcap]
        exact List.getElem?_eq_getElem hkk
      generalize hprev : totals m (L.drop (L.length - i)) = prev at htt
      have lenP : prev.length = m + 1 := by rw [← hprev]; exact totals_len _ _
      refine ⟨by show 1 ≤ sizeLine; decide, fun s hs => ?_⟩
      have n1 : tt2 ≠ s := ne_of_none htt hs
      have n2 : D ≠ s := ne_of_none hq' hs
      have hHs : H s = none := hS.free hs
      refine ⟨_, rfl, _, _, rfl, rfl, _, _, rfl, ⟨by omega, by omega, by omega, by omega⟩, for_range (lo := 1) (n := ((m : Int) + 1 - 1).toNat) (fun j σ H'' => (∃ v3 : Option V, σ = [some (.ref t), some (natV ph), some (natV n), some (.bl late), some (.ref a), some (natV N), some (natV p), some (natV m), some (natV i), some (.ref D), some (natV tt), v2, v3, some (.ref tt2), some (.ref s)]) ∧ Same H H'' ∧ H'' D = some (.lst (L.map V.int)) ∧ H'' tt2 = some (.lst (prev.map natV)) ∧ H'' s = some (.lst ((rowN prev cap j).map natV))) ⟨⟨v3, ?_⟩, Same.upd hS hHs, by rw [upd_ne n2]; exact hq', by rw [upd_ne n1]; exact htt, upd_same⟩ ?_ ?_⟩
      · show List.set (List.set _ 8 (some (V.int (0 + (i : Int))))) 14 _ = _
        rw [Int.zero_add]
        rfl
      · rintro j σ H'' hj ⟨⟨v3, rfl⟩, hS4, hq4, htt4, hs4⟩
        have hj2 : j < m := by omega
        have lenR := row_len prev cap j
        refine ⟨_, rfl, .inl ⟨rfl, _, SqL.of hs4⟩, _, rfl, _, rfl, s, _, _, _, rfl, rfl, SqL.of hs4, atI_neg1 (k := j) (by rw [List.length_map, lenR]) (get_of (by omega)), ?_⟩
        refine ⟨_, rfl, _, rfl, _, _, rfl, rfl, tt2, _, _, _, rfl, rfl, SqL.of htt4, atI_of (j := j) (by omega) (get_of (by omega)), ?_⟩
        refine ⟨_, rfl, _, rfl, _, rfl, _, _, rfl, rfl, _, rfl, _, _, rfl, rfl, D, _, _, _, rfl, rfl, SqL.of hq4, atI_of (j := n - 1 - i) (by omega) hcap2, ?_⟩
        refine ⟨_, _, rfl, rfl, .inr ⟨_, rfl, _, _, rfl, rfl, .inr ⟨by split <;> omega, by split <;> omega⟩, _, _, rfl, rfl, s, _, _, rfl, rfl, hs4, ?_, ⟨_, rfl⟩, Same.upd hS4 hHs, by rw [upd_ne n2]; exact hq4, by rw [upd_ne n1]; exact htt4, ?_⟩⟩
        · rw [List.length_map, lenR]
          exact small1000 (by omega)
        · rw [upd_same]
          congr 2
          show _ = List.map natV (rowN prev cap j ++ [_])
          rw [List.map_append]
          congr 1
          show [V.int _] = [V.int _]
          congr 2
          by_cases hc : ((j + 1 : Nat) : Int) ≤ cap
          · rw [if_pos hc, decide_eq_true (show (1 : Int) + (j : Int) ≤ cap by omega), if_pos rfl, Int.mul_one]
            exact (Int.natCast_add _ _).symm
          · rw [if_neg hc, decide_eq_false (show ¬ (1 : Int) + (j : Int) ≤ cap by omega), if_neg Bool.false_ne_true, Int.mul_zero]
            exact (Int.natCast_add _ _).symm
      · rintro σ H'' ⟨⟨v3, rfl⟩, hS4, hq4, htt4, hs4⟩
        have em2 : ((m : Int) + 1 - 1).toNat = m := by omega
        rw [em2] at hs4
        refine ⟨_, rfl, ⟨s, ⟨_, _, _, _, rfl⟩, ?_⟩, hS4, hq4⟩
        rw [hdrop]
        show H'' s = some (.lst (List.map natV (rowN (totals m (L.drop (L.length - i))) cap m)))
        rw [hprev]
        exact hs4
    · rintro σ H' ⟨⟨tt2, ⟨v1, v2, v3, v4, rfl⟩, htt⟩, hS, hq'⟩
      rw [Int.toNat_natCast, lenL, Nat.sub_self, List.drop_zero] at htt
      refine ⟨_, rfl, _, rfl, tt2, _, _, _, rfl, rfl, SqL.of htt, atI_nat (get_of (by rw [totals_len]; omega)), ?_⟩
      refine cvi (Q := Q) (hQ H' hS) ?_
      unfold cntSafe
      rw [hm, if_pos hg, hL]
end
end Cl
set_option Elab.async false
set_option linter.all false
set_option maxRecDepth 100000
set_option maxHeartbeats 4000000
/-! The law's refusals. -/
namespace Cl
open PySem PySem.Spec PyProof.Rows L2 Cm
def sp__law_refused (c : Ctx) : Sp := fun vs H Q _ => ∃ (wh : Int) (row r : Addr) (bs : List Nat) (p N ph n : Int) (late : Bool), vs = [.int wh, .ref row, .ref r, .bl late] ∧ H row = some (.lst [.int p, .int N, .int ph, .int n]) ∧ Rd c H r bs ∧ p ≤ 10 ∧
  ∀ H' v, Same H H' → v = optS (faultOf p N ph n) → Q v H'
def sp__law_refusals (c : Ctx) : Sp := fun vs H Q _ => ∃ (a t b r : Addr) (bs : List Nat) (N P : Nat) (late : Bool), vs = [.ref a, .ref t, .ref r, .bl late] ∧ Bag H a ∧ Tm3 H t b bs N P ∧ P ≤ 10 ∧ N ≤ 5 ∧ Rd c H r bs ∧ ∀ H', Q (.bl true) H'
theorem Rd.but {c : Ctx} {H H' : Hp} {a r : Addr} {bs : List Nat} (h : Rd c H r bs) (hB : Bag H a) (e : SameBut a H H') : Rd c H' r bs := by
  obtain ⟨h1, dx, Tp, h2, h3⟩ := h
  obtain ⟨xs, hb, _⟩ := hB
  have n1 : r ≠ a := fun z => by
    rw [z, hb] at h2
    cases h2
  refine ⟨h1, dx, Tp, e _ _ n1 h2, ?_⟩
  rcases h3 with (h3 | ⟨o, h3⟩) | h3
  · refine .inl (.inl (e _ _ (fun z => ?_) h3))
    rw [z, hb] at h3
    cases h3
  · refine .inl (.inr ⟨o, e _ _ (fun z => ?_) h3⟩)
    rw [z, hb] at h3
    cases h3
  · exact .inr h3
theorem tup_ne {H : Hp} {a t : Addr} {xs : List V} (hB : Bag H a) (h : H t = some (.tup xs)) : t ≠ a := fun z => by
  obtain ⟨ys, hb, _⟩ := hB
  rw [z, hb] at h
  cases h
section
variable {c : Ctx}
theorem dd__law_refused (T : Fx c) : Dd c 14 "_law_refused" ["_law_which", "_law_row", "_law_made", "_law_is_late"] [] (sp__law_refused c) := by
  refine Dd.of (st := st__law_refused) T.d__law_refused (fun f fd F => Df.ok (k := 13) F sc__law_refused (fun vs H Q E h => ?_) (fun f cdv A outer s H vs Q E hr h => ⟨_, (pss_cons (ps_asg (pv 1) (pg_lst rfl (pgs_cons (pg_name (i := 4) sc__law_refused.nd rfl (Or.inl rfl)) (pgs_cons (pg_name (i := 5) sc__law_refused.nd rfl (Or.inl rfl)) (pgs_cons (pg_name (i := 6) sc__law_refused.nd rfl (Or.inl rfl)) (pgs_cons (pg_name (i := 7) sc__law_refused.nd rfl (Or.inl rfl)) pgs_nil)))))) (pss_cons (ps_try_as (i := 8) (ts := fun a cls d => tRet (tXf a cls d c.CI "field" (tVar 8))) (Wout := fun _ _ _ _ => False) rfl rfl sc__law_refused.nd rfl rfl ⟨rfl, by decide, Or.inl T.inv.gC⟩ takes0 (fun W pn xe tk _ => (pss_one (ps_if (pt_cmpR op_eq (pv 0) pe_int (nomark _)) (pss_one (ps_expr (pcK (dk_count_safe T) (Fits.mk rfl rfl rfl rfl rfl) (hr.mono (by decide)) rfl (passW (c := c) tk rfl) (pa_cons (pv 4) (pa_cons (pv 5) (pa_cons (pv 2) (pa_cons (pv 6) (pa_cons (pv 7) pa_nil))))) (pk_cons (pv 3) pk_nil)))) (pss_one (ps_expr (pe_listG (pcGK (c := c) (E := EWc c 9 W) (dg_safe_words T) (Fits.mk rfl rfl rfl rfl rfl) (hr.mono (by decide)) rfl (pa_cons (pv 4) (pa_cons (pv 5) (pa_cons (pv 2) (pa_cons (pv 6) (pa_cons (pv 7) pa_nil))))) (pk_cons (pv 3) pk_nil)) (passW tk rfl) (noStopW T.nstop) (hr.mono (by decide)) (by rfl) T.f_list (by decide +kernel))))))) (fun a oe cls d pn hz hf => (pss_one (ps_ret (pe_xf T.xf T.inv.noF hz hf (pv 8)))))) (pss_one (ps_ret pe_non)))), ?_⟩)) (fun _ _ _ _ _ _ us hl => match us, hl with | [_, _, _, _], _ => rfl)
  · obtain ⟨wh, row, r, bs, p, N, ph, n, late, rfl, _⟩ := h
    rfl
  · obtain ⟨wh, row, r, bs, p, N, ph, n, late, rfl, hrow, R, hp, hQ⟩ := h
    refine ⟨_, rfl, row, _, rfl, SqL.of hrow, rfl, _, _, rfl, _, _, rfl, _, _, rfl, _, _, rfl, rfl, ?_⟩
    refine ⟨_, rfl, rfl, _, rfl, ?_⟩
    have sl : ∀ (σ : L2.St) (a : Addr), σ.length = 9 → (σ.set 8 (some (V.ref a)))[8]? = some (some (V.ref a)) := fun σ a h => by
      rw [List.getElem?_set_self (by omega)]
    refine ifB (fun _ => ?_) (fun _ => ?_)
    · refine ⟨_, rfl, _, rfl, _, rfl, _, rfl, _, rfl, _, rfl, rfl, rfl, p, N, ph, n, r, bs, late, rfl, R, by omega, fun z hz d hd => ⟨rfl, fun σ hσ => ⟨true, T.exm, fun _ a ha => ?_, fun q => Bool.noConfusion q⟩⟩, fun hn H' hS => ?_⟩
      · exact ⟨_, sl σ a hσ, rfl, rfl, d, _, _, rfl, upd_same, rfl, hQ _ _ (Same.new hd) (by rw [hz]; rfl)⟩
      · exact hQ H' _ hS (by rw [hn]; rfl)
    · refine ⟨_, rfl, _, rfl, _, rfl, _, rfl, _, rfl, _, rfl, rfl, rfl, p, N, ph, n, r, bs, late, rfl, R, hp, fun z hz d hd => ⟨rfl, fun σ hσ => ⟨true, T.exm, fun _ a ha => ?_, fun q => Bool.noConfusion q⟩⟩, fun hn H' hS q hq => ?_⟩
      · exact ⟨_, sl σ a hσ, rfl, rfl, d, _, _, rfl, upd_same, rfl, hQ _ _ (Same.new hd) (by rw [hz]; rfl)⟩
      · exact hQ _ _ (hS.trans (Same.new hq)) (by rw [hn]; rfl)
end
end Cl
set_option Elab.async false
set_option linter.all false
set_option maxRecDepth 100000
set_option maxHeartbeats 4000000
/-! The law's refusals. -/
namespace Cl
open PySem PySem.Spec PyProof.Rows L2 Cm
section
variable {c : Ctx}
theorem dd__law_refusals (T : Fx c) : Dd c 15 "_law_refusals" ["_law_bag_here", "_law_terms_here", "_law_made", "_law_is_late"] [] (sp__law_refusals c) := by
  refine Dd.of (st := st__law_refusals) T.d__law_refusals (fun f fd F => Df.ok (k := 14) F sc__law_refusals (fun vs H Q E h => ?_) (fun f cdv A outer s H vs Q E hr h => ⟨_, (pss_cons (ps_set (i := 4) sc__law_refusals.nd rfl (Or.inl rfl) (pe_lst (pa_cons (pe_ix ix_tup (pv 1) pe_int (fun _ _ => rfl)) (pa_cons (pe_ix ix_tup (pv 1) pe_int (fun _ _ => rfl)) (pa_cons (pcD (dd__law_take T) (Fits.mk rfl rfl rfl rfl rfl) (hr.mono (by decide)) rfl passL (pa_cons (pv 0) (pa_cons pe_int pa_nil))) (pa_cons (pcD (dd__law_take T) (Fits.mk rfl rfl rfl rfl rfl) (hr.mono (by decide)) rfl passL (pa_cons (pv 0) (pa_cons (pe_op op_add (pe_ix ix_tup (pv 1) pe_int (fun _ _ => rfl)) pe_int) pa_nil))) pa_nil)))))) (pss_cons (ps_for PassesOwn.never rfl (pi_range1 (by rfl) T.f_range (pa_cons (pcD (dd__law_take T) (Fits.mk rfl rfl rfl rfl rfl) (hr.mono (by decide)) rfl passL (pa_cons (pv 0) (pa_cons pe_int pa_nil))) pa_nil)) (pg_name (i := 5) sc__law_refusals.nd rfl (Or.inl rfl)) (pss_cons (ps_set (i := 6) sc__law_refusals.nd rfl (Or.inl rfl) (pcD (dd__law_take T) (Fits.mk rfl rfl rfl rfl rfl) (hr.mono (by decide)) rfl passL (pa_cons (pv 0) (pa_cons pe_int pa_nil)))) (pss_one (ps_if (pt_cmpR op_lt (pv 6) pe_int (nomark _)) (pss_one (ps_asg (pe_op op_sub (pe_op op_sub pe_int (pcD (dd__law_take T) (Fits.mk rfl rfl rfl rfl rfl) (hr.mono (by decide)) rfl passL (pa_cons (pv 0) (pa_cons pe_int pa_nil)))) (pe_callTy call_int1 (by rfl) T.f_int (by decide +kernel) (pa_cons (pe_cmpR op_gt (pv 6) pe_int (nomark _)) pa_nil))) (pg_sub (pv 4) (pv 6) set_list))) (pss_one (ps_if (pt_cmpR op_eq (pv 6) pe_int (nomark _)) (pss_one (ps_asg (pe_op op_add (pe_op op_add (pe_callB (call_max2 rfl) (by rfl) T.f_max (by decide +kernel) (pa_cons pe_int (pa_cons (pe_ix ix_list (pv 4) pe_int (fun _ _ => rfl)) pa_nil))) pe_int) (pcD (dd__law_take T) (Fits.mk rfl rfl rfl rfl rfl) (hr.mono (by decide)) rfl passL (pa_cons (pv 0) (pa_cons pe_int pa_nil)))) (pg_sub (pv 4) pe_int set_list))) (pss_one (ps_asg (pe_op op_add (pe_op op_add (pe_callB (call_max2 rfl) (by rfl) T.f_max (by decide +kernel) (pa_cons pe_int (pa_cons (pe_ix ix_list (pv 4) pe_int (fun _ _ => rfl)) pa_nil))) pe_int) (pcD (dd__law_take T) (Fits.mk rfl rfl rfl rfl rfl) (hr.mono (by decide)) rfl passL (pa_cons (pv 0) (pa_cons pe_int pa_nil)))) (pg_sub (pv 4) pe_int set_list))))))))) (pss_cons (ps_set (i := 7) sc__law_refusals.nd rfl (Or.inl rfl) (pcD (dd__law_fault T) (Fits.mk rfl rfl rfl rfl rfl) (hr.mono (by decide)) rfl passL (pa_cons (pv 4) pa_nil))) (pss_cons (ps_for PassesOwn.never rfl (pi_range1 (by rfl) T.f_range (pa_cons pe_int pa_nil)) (pg_name (i := 8) sc__law_refusals.nd rfl (Or.inl rfl)) (pss_cons (ps_set (i := 9) sc__law_refusals.nd rfl (Or.inl rfl) (pcD (dd__law_refused T) (Fits.mk rfl rfl rfl rfl rfl) (hr.mono (by decide)) rfl passL (pa_cons (pv 8) (pa_cons (pv 4) (pa_cons (pv 2) (pa_cons (pv 3) pa_nil)))))) (pss_cons (ps_if (PW.pt (pw_and (pt_cmpR op_isN (pv 7) pe_non (nomark _)) (pw_and1 (pt_cmpR op_notN (pv 9) pe_non (nomark _))))) (pss_one (ps_ret pe_bl)) pss_nil) (pss_one (ps_if (PW.pt (pw_and (pt_cmpR op_notN (pv 7) pe_non (nomark _)) (pw_and1 (PW.pt (pw_or (pt_not (pt_val (pe_callB call_isi (by rfl) T.f_isinstance (by decide +kernel) (pa_cons (pv 9) (pa_cons (pe_bltn (v := .ty "str") (by rfl) T.f_str (by decide +kernel) rfl) pa_nil))))) (pw_or1 (pt_cmpR op_ne (pv 9) (pv 7) (nomark _)))))))) (pss_one (ps_ret pe_bl)) pss_nil))))) (pss_one (ps_ret pe_bl)))))), ?_⟩)) (fun _ _ _ _ _ _ us hl => match us, hl with | [_, _, _, _], _ => rfl)
  · obtain ⟨a, t, b, r, bs, N, P, late, rfl, _⟩ := h
    rfl
  · obtain ⟨a, t, b, r, bs, N, P, late, rfl, hB, hT, hP, hN5, R, hQ⟩ := h
    have nt : t ≠ a := tup_ne hB hT.1
    refine ⟨_, rfl, t, _, _, _, rfl, rfl, .inl (.inl hT.1), rfl, _, rfl, t, _, _, _, rfl, rfl, .inl (.inl hT.1), rfl, ?_⟩
    refine ⟨_, rfl, a, 40, rfl, by decide, by decide, hB, fun H1 k1 hS1 hB1 hk1 => ?_⟩
    have hT1 := hS1 t _ nt hT.1
    refine ⟨_, rfl, _, rfl, t, _, _, _, rfl, rfl, .inl (.inl hT1), rfl, _, _, rfl, rfl, a, N + 1, ?_, by omega, by omega, hB1, fun H2 k2 hS2 hB2 hk2 => ?_⟩
    · show [V.ref a, V.int ((N : Int) + 1)] = [V.ref a, V.int ((N + 1 : Nat) : Int)]
      rw [Int.natCast_add]
      rfl
    have hS12 := hS1.trans hS2
    refine ⟨by show 4 ≤ sizeLine; decide, fun q hq => ?_⟩
    have nq : q ≠ a := ne_bag hB2 hq
    have hq0 : H q = none := hS12.free nq hq
    refine ⟨_, rfl, a, 4, rfl, by decide, by decide, hB2.upd (Ne.symm nq), fun H3 k3 hS3 hB3 hk3 => ?_⟩
    have hS23 : SameBut a H H3 := fun b o n e => hS3 b o n (by rw [upd_ne (ne_of_none e hq0)]; exact hS12 b o n e)
    have hq3 := hS3 q _ nq upd_same
    refine ⟨_, rfl, by omega, by omega, for_range (lo := 0) (n := ((k3 : Nat) : Int).toNat) (fun i σ H' => ∃ x0 x1 x2 x3 : Int, (∃ v1 v2 v3 v4 v5 : Option V, σ = [some (.ref a), some (.ref t), some (.ref r), some (.bl late), some (.ref q), v1, v2, v3, v4, v5]) ∧ SameBut a H H' ∧ Bag H' a ∧ H' q = some (.lst [.int x0, .int x1, .int x2, .int x3]) ∧ x0 ≤ 10) ⟨(P : Int), (N : Int), (k1 : Int), (k2 : Int), ⟨none, none, none, none, none, rfl⟩, hS23, hB3, hq3, by omega⟩ ?_ ?_⟩
    · rintro i σ H' hi ⟨x0, x1, x2, x3, ⟨v1, v2, v3, v4, v5, rfl⟩, hS, hB', hq', hx⟩
      refine ⟨_, rfl, a, 6, rfl, by decide, by decide, hB', fun H4 k6 hS4 hB4 h6 => ?_⟩
      have hq4 := hS4 q _ nq hq'
      have hSS := hS.trans hS4
      refine ⟨_, rfl, _, _, rfl, rfl, _, rfl, ?_⟩
      by_cases c1 : k6 < 4
      · refine ifT (decide_eq_true (by omega)) ?_
        refine ⟨_, rfl, a, 3, rfl, by decide, by decide, hB4, fun H5 k5 hS5 hB5 h5 => ?_⟩
        have hq5 := hS5 q _ nq hq4
        refine ⟨_, _, rfl, rfl, _, rfl, _, _, rfl, rfl, .inr ⟨_, rfl, _, _, rfl, rfl, _, rfl, _, rfl, q, _, _, k6, rfl, rfl, hq5, ixN_nat (by show k6 < 4; omega), ?_⟩⟩
        have hh : k6 = 0 ∨ k6 = 1 ∨ k6 = 2 ∨ k6 = 3 := by omega
        have hS6 : ∀ z, SameBut a H (L2.upd H5 q z) := fun z => (hSS.trans hS5).upd2 hq0
        have hB6 : ∀ z, Bag (L2.upd H5 q z) a := fun z => hB5.upd (Ne.symm nq)
        rcases hh with rfl | rfl | rfl | rfl
        · exact ⟨_, x1, x2, x3, ⟨_, _, _, _, _, rfl⟩, hS6 _, hB6 _, upd_same, by
            show (0 : Int) - (k5 : Int) - (if decide ((1 : Int) < ((0 : Nat) : Int)) = true then 1 else 0) ≤ 10
            split <;> omega⟩
        · exact ⟨x0, _, x2, x3, ⟨_, _, _, _, _, rfl⟩, hS6 _, hB6 _, upd_same, hx⟩
        · exact ⟨x0, x1, _, x3, ⟨_, _, _, _, _, rfl⟩, hS6 _, hB6 _, upd_same, hx⟩
        · exact ⟨x0, x1, x2, _, ⟨_, _, _, _, _, rfl⟩, hS6 _, hB6 _, upd_same, hx⟩
      · refine ifF (decide_eq_false (by omega)) ⟨_, rfl, rfl, _, rfl, ?_⟩
        by_cases c2 : k6 = 4
        · refine ifT (eqT (by omega)) ?_
          refine ⟨_, rfl, q, _, _, _, rfl, rfl, SqL.of hq4, rfl, _, _, rfl, _, _, rfl, rfl, _, rfl, a, 3, rfl, by decide, by decide, hB4, fun H5 k5 hS5 hB5 h5 => ?_⟩
          have hq5 := hS5 q _ nq hq4
          refine ⟨_, _, rfl, rfl, _, rfl, q, _, _, 1, rfl, rfl, hq5, rfl, ?_⟩
          exact ⟨x0, _, x2, x3, ⟨_, _, _, _, _, rfl⟩, (hSS.trans hS5).upd2 hq0, hB5.upd (Ne.symm nq), upd_same, hx⟩
        · refine ifF (eqF (by omega)) ?_
          refine ⟨_, rfl, q, _, _, _, rfl, rfl, SqL.of hq4, rfl, _, _, rfl, _, _, rfl, rfl, _, rfl, a, 3, rfl, by decide, by decide, hB4, fun H5 k5 hS5 hB5 h5 => ?_⟩
          have hq5 := hS5 q _ nq hq4
          refine ⟨_, _, rfl, rfl, _, rfl, q, _, _, 3, rfl, rfl, hq5, rfl, ?_⟩
          exact ⟨x0, x1, x2, _, ⟨_, _, _, _, _, rfl⟩, (hSS.trans hS5).upd2 hq0, hB5.upd (Ne.symm nq), upd_same, hx⟩
    · rintro σ H' ⟨x0, x1, x2, x3, ⟨v1, v2, v3, v4, v5, rfl⟩, hS, hB', hq', hx⟩
      have R' : Rd c H' r bs := R.but hB hS
      refine ⟨_, rfl, q, x0, x1, x2, x3, rfl, hq', ?_⟩
      refine ⟨_, rfl, by decide, by decide, for_range (lo := 0) (n := (2 : Int).toNat) (fun i σ H'' => (∃ v1 v2 v4 v5 : Option V, σ = [some (.ref a), some (.ref t), some (.ref r), some (.bl late), some (.ref q), v1, v2, some (optS (faultOf x0 x1 x2 x3)), v4, v5]) ∧ Same H' H'') ⟨⟨_, _, _, _, rfl⟩, Same.refl _⟩ ?_ ?_⟩
      · rintro i σ H'' hi ⟨⟨v1, v2, v4, v5, rfl⟩, hS'⟩
        refine ⟨_, rfl, _, rfl, _, rfl, _, rfl, 0 + (i : Int), q, r, bs, x0, x1, x2, x3, late, rfl, hS' _ _ hq', R'.same hS', hx, fun H3 v hS3 hv => ?_⟩
        subst hv
        cases hf : faultOf x0 x1 x2 x3 with
        | none =>
          refine ⟨_, rfl, rfl, _, rfl, ?_⟩
          refine ifT (decide_eq_true rfl) ⟨_, rfl, rfl, _, rfl, ?_⟩
          refine ifF (by rfl) ⟨_, rfl, rfl, _, rfl, ?_⟩
          exact ifF (by rfl) (iteF ⟨⟨_, _, _, _, rfl⟩, hS'.trans hS3⟩)
        | some z =>
          refine ⟨_, rfl, rfl, _, rfl, ?_⟩
          refine ifF (decide_eq_false (by intro y; cases y)) (iteF ⟨_, rfl, rfl, _, rfl, ?_⟩)
          refine ifT (by
            show (!decide (V.str z = V.non)) = true
            rw [decide_eq_false (by intro y; cases y)]
            rfl) ?_
          refine ⟨_, rfl, _, _, _, _, true, rfl, .ty _, .base (.str _), kit_ty (by decide +kernel), _, rfl, ?_⟩
          refine iteF ⟨_, rfl, _, rfl, rfl, _, rfl, ?_⟩
          refine ifF ?_ ⟨⟨_, _, _, _, rfl⟩, hS'.trans hS3⟩
          show (!decide (V.str z = V.str z)) = false
          rw [decide_eq_true rfl]
          rfl
      · rintro σ H'' _
        exact hQ H''
end
end Cl
set_option Elab.async false
set_option linter.all false
set_option maxRecDepth 100000
set_option maxHeartbeats 4000000
/-! The law's list of safe words. -/
namespace Cl
open PySem PySem.Spec PyProof.Rows L2 Cm
abbrev wV (ws : List (List Bool)) : List V := ws.map fun w => V.str (tx w)
def sp__law_listed (c : Ctx) : Sp := fun vs H Q _ => ∃ (t a r : Addr) (bs : List Nat) (N p ph n : Nat) (late : Bool), vs = [.ref t, .ref r, natV ph, natV n, .bl late] ∧ Tm3 H t a bs N p ∧ Rd c H r bs ∧ N ≤ p ∧ p ≤ 10 ∧ N ≤ 5 ∧ n ≤ N ∧ ∀ H', Same H H' → Q (.bl true) H'
theorem dp_words {K : PySem.W.Frag} {H : Hp} : ∀ ws : List (List Bool), DpAll K H (wV ws) (ws.map fun w => PyData.str (tx w))
  | [] => .nil
  | w :: ws => .cons (.str _) (dp_words ws)
theorem str_ok (w : List Bool) (h : w.length ≤ 1000) : PyData.strOk (tx w) = true := by
  show ((w.map sg).toArray.all fun x => decide (x < 0x110000)) = true
  rw [List.all_toArray]
  refine List.all_eq_true.mpr fun x hx => ?_
  obtain ⟨b, _, rfl⟩ := List.mem_map.mp hx
  cases b <;> decide
theorem lay_words : ∀ ws : List (List Bool), (∀ w ∈ ws, w.length ≤ 1000) → PyData.canLayAll0 (ws.map fun w => PyData.str (tx w)) = true ∧ PyData.depthAll (ws.map fun w => PyData.str (tx w)) = 0
  | [], _ => ⟨rfl, rfl⟩
  | w :: ws, h => by
    obtain ⟨h1, h2⟩ := lay_words ws fun v hv => h v (List.mem_cons_of_mem _ hv)
    constructor
    · show (PyData.strOk (tx w) && PyData.canLayAll0 (ws.map fun w => PyData.str (tx w))) = true
      rw [str_ok w (h w List.mem_cons_self), h1]
      rfl
    · show max 0 (PyData.depthAll (ws.map fun w => PyData.str (tx w))) = 0
      rw [h2]
      rfl
theorem sh_words {ws : List (List Bool)} (h : ∀ w ∈ ws, w.length ≤ 1000) : SeqAt.shaped (PyData.list (ws.map fun w => PyData.str (tx w))) = true := by
  obtain ⟨h1, h2⟩ := lay_words ws h
  show (PyData.canLayAll0 (ws.map fun w => PyData.str (tx w)) && decide (PyData.depthAll (ws.map fun w => PyData.str (tx w)) + 1 ≤ 64)) = true
  rw [h1, h2]
  rfl
theorem fault_ok {p N ph n : Nat} (h1 : 1 ≤ p) (h2 : 1 ≤ N) (h3 : N ≤ p) (h4 : n ≤ N) : faultOf (p : Int) (N : Int) (ph : Int) (n : Int) = none := by
  unfold faultOf
  rw [if_neg (by omega), if_neg (by omega), if_neg (by omega), if_neg (by omega), if_neg (by omega), if_neg (by omega)]
theorem filt_take {α : Type} {f : α → Bool} {l : List α} {i : Nat} {x : α} (h : l[i]? = some x) : (l.take (i + 1)).filter f = (l.take i).filter f ++ (if f x then [x] else []) := by
  rw [List.take_add_one, h, List.filter_append]
  congr 1
  show List.filter f [x] = _
  by_cases q : f x = true
  · rw [if_pos q, List.filter_cons_of_pos q]
    rfl
  · rw [if_neg q, List.filter_cons_of_neg q]
    rfl
section
variable {c : Ctx}
theorem dd__law_listed (T : Fx c) : Dd c 14 "_law_listed" ["_law_terms_here", "_law_made", "_law_phase", "_law_count", "_law_is_late"] [] (sp__law_listed c) := by
  refine Dd.of (st := st__law_listed) T.d__law_listed (fun f fd F => Df.ok (k := 13) F sc__law_listed (fun vs H Q E h => ?_) (fun f cdv A outer s H vs Q E hr h => ⟨_, (pss_cons (ps_asg (pv 0) (pg_tup rfl (pgs_cons (pg_name (i := 5) sc__law_listed.nd rfl (Or.inl rfl)) (pgs_cons (pg_name (i := 6) sc__law_listed.nd rfl (Or.inl rfl)) (pgs_cons (pg_name (i := 7) sc__law_listed.nd rfl (Or.inl rfl)) pgs_nil))))) (pss_cons (ps_set (i := 8) sc__law_listed.nd rfl (Or.inr rfl) (pe_op op_add (pe_op op_add (pv 7) (pe_callB call_len (by rfl) T.f_len (by decide +kernel) (pa_cons (pv 5) pa_nil))) pe_int)) (pss_cons (ps_set (i := 9) sc__law_listed.nd rfl (Or.inl rfl) (pcD (dd__law_all_words T) (Fits.mk rfl rfl rfl rfl rfl) (hr.mono (by decide)) rfl passL (pa_cons (pv 7) (pa_cons (pv 3) pa_nil)))) (pss_cons (ps_setLc (i := 10) (own := [("_law_word", 13)]) (g := gName 13) rfl sc__law_listed.nd rfl rfl (sw_true rfl rfl rfl (by decide +kernel)) (pi_list (pv 9)) (blkOk_by (N := N__law_listed) (sc := defScope st__law_listed) (by decide +kernel)) (fun _ _ _ _ _ => (pg_name (i := 13) sc__law_listed.nd rfl (Or.inl rfl))) (fun _ _ _ _ _ => (pts_one (pt_cmpR op_eq (pe_callB (id := "len") (r := rLen c.K) call_len (by rfl) T.f_len (by decide +kernel) (pa_cons (pcD (dd__law_play T) (Fits.mk rfl rfl rfl rfl rfl) (hr.mono (by decide)) rfl passL (pa_cons (pv 13) (pa_cons (pv 2) (pa_cons (pv 0) (pa_cons (pv 4) (pa_cons (pv 8) pa_nil)))))) pa_nil)) (pv 8) (nomark _)))) (fun _ _ _ _ _ => (pv 13))) (pss_cons (ps_if (pt_not (pt_val (pcD (dd__law_is T) (Fits.mk rfl rfl rfl rfl rfl) (hr.mono (by decide)) rfl passL (pa_cons (pcK (dk_count_safe T) (Fits.mk rfl rfl rfl rfl rfl) (hr.mono (by decide)) rfl passL (pa_cons (pv 7) (pa_cons (pv 6) (pa_cons (pv 1) (pa_cons (pv 2) (pa_cons (pv 3) pa_nil))))) (pk_cons (pv 4) pk_nil)) (pa_cons (pe_callB call_len (by rfl) T.f_len (by decide +kernel) (pa_cons (pv 10) pa_nil)) pa_nil))))) (pss_one (ps_ret pe_bl)) pss_nil) (pss_cons (ps_set (i := 11) sc__law_listed.nd rfl (Or.inl rfl) (pe_listG (pcGK (c := c) (E := E0) (dg_safe_words T) (Fits.mk rfl rfl rfl rfl rfl) (hr.mono (by decide)) rfl (pa_cons (pv 7) (pa_cons (pv 6) (pa_cons (pv 1) (pa_cons (pv 2) (pa_cons (pv 3) pa_nil))))) (pk_cons (pv 4) pk_nil)) passL noStop0 (hr.mono (by decide)) (by rfl) T.f_list (by decide +kernel))) (pss_cons (ps_if (pt_cmpR op_ne (pe_callB call_len (by rfl) T.f_len (by decide +kernel) (pa_cons (pv 11) pa_nil)) (pe_callB call_len (by rfl) T.f_len (by decide +kernel) (pa_cons (pv 10) pa_nil)) (nomark _)) (pss_one (ps_ret pe_bl)) pss_nil) (pss_cons (ps_for PassesOwn.never rfl (pi_range1 (by rfl) T.f_range (pa_cons (pe_callB call_len (by rfl) T.f_len (by decide +kernel) (pa_cons (pv 10) pa_nil)) pa_nil)) (pg_name (i := 12) sc__law_listed.nd rfl (Or.inl rfl)) (pss_one (ps_if (PW.pt (pw_or (pt_not (pt_val (pe_callB call_isi (by rfl) T.f_isinstance (by decide +kernel) (pa_cons (pe_ix ix_list (pv 11) (pv 12) (fun _ _ => rfl)) (pa_cons (pe_bltn (v := .ty "str") (by rfl) T.f_str (by decide +kernel) rfl) pa_nil))))) (pw_or1 (pt_cmpR op_ne (pe_ix ix_list (pv 11) (pv 12) (fun _ _ => rfl)) (pe_ix ix_list (pv 10) (pv 12) (fun _ _ => rfl)) (nomark _))))) (pss_one (ps_ret pe_bl)) pss_nil))) (pss_cons (ps_if (pt_val (pv 4)) (pss_one (ps_ret pe_bl)) pss_nil) (pss_cons (ps_if (pt_not (pt_val (pcD (dd__law_is T) (Fits.mk rfl rfl rfl rfl rfl) (hr.mono (by decide)) rfl passL (pa_cons (pcD (ds_count_safe T) (Fits.mk rfl rfl rfl rfl rfl) (hr.mono (by decide)) rfl passL (pa_cons (pv 7) (pa_cons (pv 6) (pa_cons (pv 1) (pa_cons (pv 2) (pa_cons (pv 3) pa_nil)))))) (pa_cons (pe_callB call_len (by rfl) T.f_len (by decide +kernel) (pa_cons (pv 10) pa_nil)) pa_nil))))) (pss_one (ps_ret pe_bl)) pss_nil) (pss_one (ps_ret (pe_cmpR (op_eqD hr.units) (pe_listG (pcG (c := c) (E := E0) (dg_safe_words T) (Fits.mk rfl rfl rfl rfl rfl) (hr.mono (by decide)) rfl (pa_cons (pv 7) (pa_cons (pv 6) (pa_cons (pv 1) (pa_cons (pv 2) (pa_cons (pv 3) pa_nil)))))) passL noStop0 (hr.mono (by decide)) (by rfl) T.f_list (by decide +kernel)) (pv 10) (nomark _)))))))))))))), ?_⟩)) (fun _ _ _ _ _ _ us hl => match us, hl with | [_, _, _, _, _], _ => rfl)
  · obtain ⟨t, a, r, bs, N, p, ph, n, late, rfl, _⟩ := h
    rfl
  · obtain ⟨t, a, r, bs, N, p, ph, n, late, rfl, hT, R, hNp, hp, hN5, hnN, hQ⟩ := h
    obtain ⟨hT1, hT2, hb, hN⟩ := id hT
    refine ⟨_, rfl, t, _, rfl, .inl (.inl hT1), rfl, _, _, rfl, _, _, rfl, _, _, rfl, rfl, ?_⟩
    refine ⟨_, rfl, _, rfl, _, _, rfl, .inl ⟨_, SqL.of hT2, rfl⟩, ?_⟩
    rw [List.length_map]
    refine ⟨_, _, rfl, rfl, _, _, rfl, rfl, ?_⟩
    refine ⟨_, rfl, _, rfl, p, n, rfl, hp, by omega, fun H1 q hS1 hq => ?_⟩
    have hall : allWords p n = (Ew p n).map trim := all_words ⟨p, by omega⟩ ⟨n, by omega⟩ (by show n ≤ p; omega)
    rw [hall] at hq
    generalize hL : (Ew p n).map trim = L at hq
    have memL : ∀ w ∈ L, Norm w ∧ w.length ≤ p ∧ ones w = n := fun w hw => by
      rw [← hL] at hw
      obtain ⟨v, hv, rfl⟩ := List.mem_map.mp hw
      obtain ⟨h1, h2⟩ := ew_mem hv
      have h3 := trim_len v
      exact ⟨trim_norm v, by omega, by rw [ones_trim, h1]⟩
    have lenL : L.length ≤ 1000 := by
      have h : ∀ a : Fin 11, ∀ b : Fin 11, ch a.val b.val ≤ 1000 := by decide +kernel
      rw [← hL, List.length_map]
      exact h ⟨p, by omega⟩ ⟨n, by omega⟩
    refine ⟨_, rfl, q, rfl, ⟨_, SqL.of hq⟩, fun D hD => lc_list (K := c.K) (a := q) (xs := wV L) (fun i H' => Same H1 H' ∧ H1 D = none ∧ H' D = some (.lst (wV ((L.take i).filter (safeB bs ph N p late))))) ⟨Same.new hD, hD, upd_same⟩ (fun i H' _ z => SqL.of (z.1 _ _ hq)) ?_ ?_⟩
    · rintro i x H' hi ⟨g1, g2, g3⟩
      rw [List.getElem?_map] at hi
      cases hz : L[i]? with
      | none =>
        rw [hz] at hi
        cases hi
      | some w =>
        rw [hz] at hi
        obtain rfl := Option.some.inj hi
        obtain ⟨m1, m2, m3⟩ := memL w (List.mem_of_getElem? hz)
        refine ⟨rfl, _, rfl, _, rfl, _, rfl, _, rfl, _, rfl, w, ph, N, p, p + bs.length + 2, t, a, bs, late, ?_, (hT.same hS1).same g1, m2, by omega, by omega, fun H3 u xs hS3 hu hxs => ?_⟩
        · show [V.str (tx w), natV ph, V.ref t, V.bl late, V.int ((p : Int) + (bs.length : Int) + 2)] = [V.str (tx w), natV ph, V.ref t, V.bl late, V.int ((p + bs.length + 2 : Nat) : Int)]
          rw [Int.natCast_add, Int.natCast_add]
          rfl
        have hps := play_safe (bs := bs) (ph := ph) (late := late) hb.1 hN hNp m1 m2 (by omega)
        refine ⟨_, _, rfl, .inl ⟨_, SqL.of hu, rfl⟩, _, rfl, rfl, _, rfl, ?_⟩
        rw [hxs]
        have st := filt_take (f := safeB bs ph N p late) hz
        by_cases hs : safeB bs ph N p late w = true
        · refine ifT (eqT (by rw [hps.mpr hs]; omega)) ⟨_, rfl, _, hS3 _ _ g3, ?_, Same.upd (g1.trans hS3) g2, g2, ?_⟩
          · rw [List.length_map]
            refine small1000 (Nat.le_trans (List.length_filter_le _ _) ?_)
            rw [List.length_take]
            omega
          · rw [upd_same, st, if_pos hs]
            show _ = some (HO.lst (List.map _ (_ ++ _)))
            rw [List.map_append]
            rfl
        · refine ifF (eqF fun z => hs (hps.mp (by omega))) ⟨g1.trans hS3, g2, ?_⟩
          rw [st, if_neg hs, List.append_nil]
          exact hS3 _ _ g3
    rintro H2 ⟨g1, g2, g3⟩
    have esafe : (L.take (wV L).length).filter (safeB bs ph N p late) = safeList bs ph N p n late := by
      rw [List.length_map, List.take_length, ← hL]
      rfl
    rw [esafe] at g3
    have hcnt := count_safe_is (bs := bs) (ph := ph) (late := late) hb.1 hN hNp hnN
    generalize hW : safeList bs ph N p n late = W at g3 hcnt
    have lenW : W.length ≤ 1000 := by
      rw [← hW]
      unfold safeList
      refine Nat.le_trans (List.length_filter_le _ _) ?_
      rw [hL]
      exact lenL
    have memW : ∀ w ∈ W, w.length ≤ 1000 := fun w hw => by
      rw [← hW] at hw
      have := (List.mem_filter.mp hw).1
      rw [hL] at this
      have := (memL w this).2.1
      omega
    have hfo := fault_ok (p := p) (N := N) (ph := ph) (n := n) (by omega) hN hNp hnN
    have nofault : ∀ z, faultOf (p : Int) (N : Int) (ph : Int) (n : Int) = some z → False := fun z hz => by
      rw [hfo] at hz
      cases hz
    have hS2 : Same H H2 := hS1.trans g1
    -- the count
    refine ⟨_, rfl, _, rfl, _, rfl, _, rfl, _, rfl, _, rfl, rfl, rfl, p, N, ph, n, r, bs, late, rfl, R.same hS2, by omega, fun z hz => (nofault z hz).elim, fun _ H3 hS3 => ?_⟩
    simp only [Int.toNat_natCast]
    have g3' := hS3 _ _ g3
    refine ⟨_, rfl, _, _, rfl, .inl ⟨_, SqL.of g3', rfl⟩, _, _, rfl, ?_⟩
    refine ⟨_, rfl, ifF (by
      show (!decide (((cntSafe bs ph N p n late : Nat) : Int) = (((wV W).length : Nat) : Int))) = false
      rw [List.length_map, ← hcnt, decide_eq_true rfl]
      rfl) ?_⟩
    have hS3' := hS2.trans hS3
    -- the list
    refine ⟨_, rfl, _, rfl, _, rfl, _, rfl, _, rfl, _, rfl, rfl, rfl, p, N, ph, n, r, bs, late, rfl, R.same hS3', by omega, fun z hz => (nofault z hz).elim, fun _ H4 hS4 u hu => ?_⟩
    simp only [Int.toNat_natCast]
    rw [hW]
    have hS5 : Same H (L2.upd H4 u (.lst (wV W))) := (hS3'.trans hS4).trans (Same.new hu)
    have g5 : (L2.upd H4 u (.lst (wV W))) D = some (.lst (wV W)) := (hS4.trans (Same.new hu)) _ _ g3'
    have u5 : (L2.upd H4 u (.lst (wV W))) u = some (.lst (wV W)) := upd_same
    generalize L2.upd H4 u (.lst (wV W)) = H5 at hS5 g5 u5
    refine ⟨_, rfl, _, _, rfl, .inl ⟨_, SqL.of u5, rfl⟩, _, rfl, _, _, rfl, .inl ⟨_, SqL.of g5, rfl⟩, rfl, _, rfl, ?_⟩
    refine ifF (neF rfl) ?_
    refine ⟨_, rfl, _, _, rfl, .inl ⟨_, SqL.of g5, rfl⟩, _, rfl, by omega, ?_, ?_⟩
    · rw [List.length_map]
      omega
    refine for_range (lo := 0) (n := (((wV W).length : Nat) : Int).toNat) (fun i σ H' => (∃ v1 : Option V, σ = [some (.ref t), some (.ref r), some (natV ph), some (natV n), some (.bl late), some (.ref a), some (natV N), some (natV p), some (.int ((p : Int) + (bs.length : Int) + 2)), some (.ref q), some (.ref D), some (.ref u), v1, none]) ∧ H' = H5) ⟨⟨none, rfl⟩, rfl⟩ ?_ ?_
    · rintro i σ H' hi ⟨⟨v1, rfl⟩, rfl⟩
      rw [Int.toNat_natCast, List.length_map] at hi
      obtain ⟨w, hw⟩ : ∃ w, W[i]? = some w := ⟨_, List.getElem?_eq_getElem hi⟩
      have hat : atI (wV W) (0 + (i : Int)) = some (V.str (tx w)) := atI_of (j := i) (by omega) (by rw [List.getElem?_map, hw]; rfl)
      refine ⟨_, rfl, _, rfl, u, _, _, _, rfl, rfl, SqL.of u5, hat, _, _, _, _, true, rfl, .ty _, .base (.str _), kit_ty (by decide +kernel), _, rfl, ?_⟩
      refine iteF ⟨_, rfl, _, rfl, u, _, _, _, rfl, rfl, SqL.of u5, hat, _, rfl, _, rfl, D, _, _, _, rfl, rfl, SqL.of g5, hat, rfl, _, rfl, ?_⟩
      refine ifF ?_ ⟨⟨_, rfl⟩, rfl⟩
      show (!decide (V.str (tx w) = V.str (tx w))) = false
      rw [decide_eq_true rfl]
      rfl
    rintro σ H' ⟨⟨v1, rfl⟩, rfl⟩
    refine ⟨_, rfl, _, rfl, ?_⟩
    cases late with
    | true => exact iteT (hQ _ hS5)
    | false =>
      refine iteF ?_
      refine ⟨_, rfl, _, rfl, _, rfl, _, rfl, _, rfl, p, N, ph, n, r, bs, false, rfl, R.same hS5, by omega, fun z hz => (nofault z hz).elim, fun _ H6 hS6 => ?_⟩
      simp only [Int.toNat_natCast]
      have g6 := hS6 _ _ g5
      refine ⟨_, rfl, _, _, rfl, .inl ⟨_, SqL.of g6, rfl⟩, _, _, rfl, ?_⟩
      refine ⟨_, rfl, ifF (by
        show (!decide (((cntSafe bs ph N p n false : Nat) : Int) = (((wV W).length : Nat) : Int))) = false
        rw [List.length_map, ← hcnt, decide_eq_true rfl]
        rfl) ?_⟩
      have hS6' := hS5.trans hS6
      refine ⟨_, rfl, _, rfl, _, rfl, _, rfl, _, rfl, p, N, ph, n, r, bs, false, rfl, R.same hS6', by omega, fun z hz => (nofault z hz).elim, fun _ H7 hS7 u2 hu2 => ?_⟩
      simp only [Int.toNat_natCast]
      rw [hW]
      have g7 : (L2.upd H7 u2 (.lst (wV W))) D = some (.lst (wV W)) := (hS7.trans (Same.new hu2)) _ _ g6
      have hS8 : Same H (L2.upd H7 u2 (.lst (wV W))) := (hS6'.trans hS7).trans (Same.new hu2)
      refine ⟨_, rfl, _, _, .lst (SqL.of upd_same) (dp_words W), .lst (SqL.of g7) (dp_words W), sh_words memW, sh_words memW, ?_⟩
      refine cvb (Q := Q) (hQ _ hS8) ?_
      refine (SeqAt.eqv_refl _ ?_).symm
      exact (lay_words W memW).1
end
end Cl
set_option Elab.async false
set_option linter.all false
set_option maxRecDepth 100000
set_option maxHeartbeats 4000000
/-! The law. -/
namespace Cl
open PySem PySem.Spec PyProof.Rows L2 Cm
def sp_law (c : Ctx) : Sp := fun vs H Q _ => ∃ (a : Addr) (ns : List Int), vs = [.ref a] ∧ SqL c.K H a (ns.map V.int) ∧ ns.length ≤ 63 ∧ ∀ H', Q (.bl true) H'
theorem Tm3.but {H H' : Hp} {a t b : Addr} {bs : List Nat} {N P : Nat} (h : Tm3 H t b bs N P) (hB : Bag H a) (n : b ≠ a) (e : SameBut a H H') : Tm3 H' t b bs N P := ⟨e _ _ (tup_ne hB h.1) h.1, e _ _ n h.2.1, h.2.2⟩
section
variable {c : Ctx}
theorem ok_law (T : Fx c) {f : Addr} {fd : FuncData} (F : FunD c.K "law" "law" (defArgs st_law) (defBody st_law) (defScope st_law) [] [] f fd) : FnOk PR c.w c.K c.mg c.base CX0 16 f fd ["_law_script"] (sp_law c) := by
  refine F.ok (k := 15) sc_law (fun vs H Q E h => ?_) (fun cdv A outer s H vs Q E hr h => ⟨_, PSs.nox (pss_cons (ps_set (i := 1) sc_law.nd rfl (Or.inl rfl) (pcD (dd__law_bag T) (Fits.mk rfl rfl rfl rfl rfl) (hr.mono (by decide)) rfl passL (pa_cons (pv 0) pa_nil))) (pss_cons (ps_set (i := 2) sc_law.nd rfl (Or.inl rfl) (pcD (dd__law_budgets T) (Fits.mk rfl rfl rfl rfl rfl) (hr.mono (by decide)) rfl passL (pa_cons (pv 1) pa_nil))) (pss_cons (ps_set (i := 3) sc_law.nd rfl (Or.inl rfl) (pcD (dd__law_round T) (Fits.mk rfl rfl rfl rfl rfl) (hr.mono (by decide)) rfl passL (pa_cons (pv 2) pa_nil))) (pss_cons (ps_set (i := 4) sc_law.nd rfl (Or.inl rfl) (pe_cmpR op_eq (pcD (dd__law_take T) (Fits.mk rfl rfl rfl rfl rfl) (hr.mono (by decide)) rfl passL (pa_cons (pv 1) (pa_cons pe_int pa_nil))) pe_int (nomark _))) (pss_cons (ps_set (i := 5) sc_law.nd rfl (Or.inl rfl) (pcD (dd__law_take T) (Fits.mk rfl rfl rfl rfl rfl) (hr.mono (by decide)) rfl passL (pa_cons (pv 1) (pa_cons (pe_ix ix_list (pe_lst (pa_cons pe_int (pa_cons (pe_callB call_len (by rfl) T.f_len (by decide +kernel) (pa_cons (pv 2) pa_nil)) (pa_cons pe_int pa_nil)))) (pcD (dd__law_take T) (Fits.mk rfl rfl rfl rfl rfl) (hr.mono (by decide)) rfl passL (pa_cons (pv 1) (pa_cons pe_int pa_nil))) (fun _ _ => rfl)) pa_nil)))) (pss_cons (ps_set (i := 6) sc_law.nd rfl (Or.inl rfl) (pcD (dd__law_few T) (Fits.mk rfl rfl rfl rfl rfl) (hr.mono (by decide)) rfl passL (pa_cons (pv 1) (pa_cons (pv 2) pa_nil)))) (pss_cons (ps_if (pt_not (pt_val (pcD (dd__law_listed T) (Fits.mk rfl rfl rfl rfl rfl) (hr.mono (by decide)) rfl passL (pa_cons (pv 6) (pa_cons (pv 3) (pa_cons (pv 5) (pa_cons (pcD (dd__law_take T) (Fits.mk rfl rfl rfl rfl rfl) (hr.mono (by decide)) rfl passL (pa_cons (pv 1) (pa_cons (pe_op op_add (pe_ix ix_tup (pv 6) pe_int (fun _ _ => rfl)) pe_int) pa_nil))) (pa_cons (pv 4) pa_nil)))))))) (pss_one (ps_ret pe_bl)) pss_nil) (pss_cons (ps_set (i := 7) sc_law.nd rfl (Or.inl rfl) (pcD (dd__law_terms T) (Fits.mk rfl rfl rfl rfl rfl) (hr.mono (by decide)) rfl passL (pa_cons (pv 1) (pa_cons pe_int pa_nil)))) (pss_cons (ps_set (i := 8) sc_law.nd rfl (Or.inl rfl) (pe_tup (pa_cons (pe_ix ix_tup (pv 7) pe_int (fun _ _ => rfl)) (pa_cons (pe_ix ix_tup (pv 7) pe_int (fun _ _ => rfl)) (pa_cons (pe_callB (call_min2 rfl) (by rfl) T.f_min (by decide +kernel) (pa_cons pe_int (pa_cons (pe_ix ix_tup (pv 7) pe_int (fun _ _ => rfl)) pa_nil))) pa_nil))))) (pss_cons (ps_set (i := 9) sc_law.nd rfl (Or.inl rfl) (pcD (dd__law_take T) (Fits.mk rfl rfl rfl rfl rfl) (hr.mono (by decide)) rfl passL (pa_cons (pv 1) (pa_cons (pe_op op_add (pe_ix ix_tup (pv 8) pe_int (fun _ _ => rfl)) pe_int) pa_nil)))) (pss_cons (ps_set (i := 10) sc_law.nd rfl (Or.inl rfl) (pcD (dd__law_counted T) (Fits.mk rfl rfl rfl rfl rfl) (hr.mono (by decide)) rfl passL (pa_cons (pv 8) (pa_cons (pv 5) (pa_cons (pv 9) (pa_cons (pv 4) pa_nil)))))) (pss_cons (ps_set (i := 11) sc_law.nd rfl (Or.inl rfl) (pcK (dk_count_safe T) (Fits.mk rfl rfl rfl rfl rfl) (hr.mono (by decide)) rfl passL (pa_cons (pe_ix ix_tup (pv 8) pe_int (fun _ _ => rfl)) (pa_cons (pe_ix ix_tup (pv 8) pe_int (fun _ _ => rfl)) (pa_cons (pcD (dd__law_round T) (Fits.mk rfl rfl rfl rfl rfl) (hr.mono (by decide)) rfl passL (pa_cons (pe_ix ix_tup (pv 8) pe_int (fun _ _ => rfl)) pa_nil)) (pa_cons (pv 5) (pa_cons (pv 9) pa_nil))))) (pk_cons (pv 4) pk_nil))) (pss_cons (ps_if (pt_not (pt_val (pcD (dd__law_is T) (Fits.mk rfl rfl rfl rfl rfl) (hr.mono (by decide)) rfl passL (pa_cons (pv 11) (pa_cons (pv 10) pa_nil))))) (pss_one (ps_ret pe_bl)) pss_nil) (pss_one (ps_ret (pcD (dd__law_refusals T) (Fits.mk rfl rfl rfl rfl rfl) (hr.mono (by decide)) rfl passL (pa_cons (pv 1) (pa_cons (pv 6) (pa_cons (pv 3) (pa_cons (pv 4) pa_nil)))))))))))))))))))), ?_⟩)
  · obtain ⟨a, ns, rfl, _⟩ := h
    rfl
  · obtain ⟨a0, ns, rfl, hS0, hl0, hQ⟩ := h
    refine ⟨_, rfl, a0, ns, rfl, hS0, hl0, fun H1 a hS1 hB1 => ?_⟩
    refine ⟨_, rfl, a, rfl, hB1, fun H2 b bs hS2 hB2 hb hbn hlen => ?_⟩
    have nb : b ≠ a := ne_bag hB1 hbn
    refine ⟨_, rfl, b, bs, rfl, hb, hlen, fun H3 r hS3 R3 => ?_⟩
    have hb3 := hS3 _ _ hb
    have hB3 := hB2.same hS3
    refine ⟨_, rfl, a, 2, rfl, by decide, by decide, hB3, fun H4 kl hS4 hB4 hkl => ⟨rfl, ?_⟩⟩
    have hb4 := hS4 b _ nb hb3
    have R4 := R3.but hB3 hS4
    generalize hlate : decide (V.int (kl : Int) = V.int 1) = late
    -- the phase
    refine ⟨_, rfl, _, rfl, _, _, rfl, .inl ⟨_, SqL.of hb4, rfl⟩, by show 3 ≤ sizeLine; decide, fun l hl => ?_⟩
    rw [List.length_map]
    have nl : l ≠ a := ne_bag hB4 hl
    refine ⟨_, rfl, a, 3, rfl, by decide, by decide, hB4.upd (Ne.symm nl), fun H5 k3 hS5 hB5 h3 => ?_⟩
    have hl5 := hS5 l _ nl upd_same
    have hS45 : SameBut a H4 H5 := fun x o n e => hS5 x o n (by rw [upd_ne (ne_of_none e hl)]; exact e)
    have hb5 := hS45 b _ nb hb4
    have R5 := R4.but hB4 hS45
    obtain ⟨M, hM, hM1, hM2⟩ : ∃ M : Nat, atI [V.int 1, V.int ((bs.length : Nat) : Int), V.int 999000] (k3 : Int) = some (natV M) ∧ 0 < M ∧ M < 1000000000 := by
      have hh : k3 = 0 ∨ k3 = 1 ∨ k3 = 2 := by omega
      rcases hh with rfl | rfl | rfl
      · exact ⟨1, rfl, by decide, by decide⟩
      · exact ⟨bs.length, rfl, hlen.1, by omega⟩
      · exact ⟨999000, rfl, by decide, by decide⟩
    refine ⟨l, _, _, _, rfl, rfl, SqL.of hl5, hM, a, M, rfl, hM1, hM2, hB5, fun H6 ph hS6 hB6 hph => ?_⟩
    have hb6 := hS6 b _ nb hb5
    have R6 := R5.but hB5 hS6
    -- the small terms
    refine ⟨_, rfl, _, rfl, a, b, bs, rfl, hB6, hb6, nb, hlen, fun H7 t N P hS7 hB7 hT7 hNP hP hN => ?_⟩
    have R7 := R6.but hB6 hS7
    refine ⟨_, rfl, _, rfl, _, rfl, _, rfl, _, rfl, t, _, _, _, rfl, rfl, .inl (.inl hT7.1), rfl, _, _, rfl, rfl, a, N + 1, ?_, by omega, by omega, hB7, fun H8 n hS8 hB8 hn => ?_⟩
    · show [V.ref a, V.int ((N : Int) + 1)] = [V.ref a, V.int ((N + 1 : Nat) : Int)]
      rw [Int.natCast_add]
      rfl
    have hT8 := hT7.but hB7 nb hS8
    have R8 := R7.but hB7 hS8
    refine ⟨_, rfl, t, b, r, bs, N, P, ph, n, late, rfl, hT8, R8, hNP, hP, hN, by omega, fun H9 hS9 => ⟨_, rfl, iteF ?_⟩⟩
    have hB9 := hB8.same hS9
    have hT9 := hT8.same hS9
    have R9 := R8.same hS9
    -- the great terms
    refine ⟨_, rfl, a, rfl, hB9, fun H10 t2 b2 bs2 N2 P2 hS10 hB10 hT10 nb2 hNP2 hP2 hN2 => ?_⟩
    have hT10' := hT9.but hB9 nb hS10
    have R10 := R9.but hB9 hS10
    refine ⟨_, rfl, t2, _, _, _, rfl, rfl, .inl (.inl hT10.1), rfl, _, rfl, t2, _, _, _, rfl, rfl, .inl (.inl hT10.1), rfl, _, rfl, t2, _, _, _, rfl, rfl, .inl (.inl hT10.1), rfl, _, _, rfl, by show 3 ≤ sizeLine; decide, fun m hm => ?_⟩
    obtain ⟨P3, hP3, hP3a, hP3b⟩ : ∃ P3 : Nat, (if (P2 : Int) < 60 then (P2 : Int) else 60) = (P3 : Int) ∧ N2 ≤ P3 ∧ P3 ≤ 60 := by
      by_cases q : P2 < 60
      · exact ⟨P2, if_pos (by omega), hNP2, by omega⟩
      · exact ⟨60, if_neg (by omega), by omega, by omega⟩
    rw [hP3]
    have nm : m ≠ a := ne_bag hB10 hm
    have hSm : Same H10 (L2.upd H10 m (.tup [.ref b2, natV N2, natV P3])) := Same.new hm
    have hB11 := hB10.same hSm
    have hTm : Tm3 (L2.upd H10 m (.tup [.ref b2, natV N2, natV P3])) m b2 bs2 N2 P3 := ⟨upd_same, hSm _ _ hT10.2.1, hT10.2.2⟩
    have hT11 := hT10'.same hSm
    have R11 := R10.same hSm
    generalize L2.upd H10 m (.tup [.ref b2, natV N2, natV P3]) = H11 at hB11 hTm hT11 R11
    refine ⟨_, rfl, _, rfl, m, _, _, _, rfl, rfl, .inl (.inl hTm.1), rfl, _, _, rfl, rfl, a, N2 + 1, ?_, by omega, by omega, hB11, fun H12 n2 hS12 hB12 hn2 => ?_⟩
    · show [V.ref a, V.int ((N2 : Int) + 1)] = [V.ref a, V.int ((N2 + 1 : Nat) : Int)]
      rw [Int.natCast_add]
      rfl
    have hTm12 := hTm.but hB11 nb2 hS12
    have hT12 := hT11.but hB11 nb hS12
    have R12 := R11.but hB11 hS12
    have hN2pos := hTm.2.2.2
    refine ⟨_, rfl, _, rfl, _, rfl, _, rfl, m, b2, bs2, N2, P3, ph, n2, late, rfl, hTm12, hP3a, by omega, by omega, fun H13 hS13 => ?_⟩
    have hB13 := hB12.same hS13
    have hTm13 := hTm12.same hS13
    have hT13 := hT12.same hS13
    have R13 := R12.same hS13
    refine ⟨_, rfl, m, _, _, _, rfl, rfl, .inl (.inl hTm13.1), rfl, _, rfl, m, _, _, _, rfl, rfl, .inl (.inl hTm13.1), rfl, _, rfl, m, _, _, _, rfl, rfl, .inl (.inl hTm13.1), rfl, b2, bs2, rfl, hTm13.2.1, hTm13.2.2.1, fun H14 r2 hS14 R14 => ?_⟩
    have hB14 := hB13.same hS14
    have hT14 := hT13.same hS14
    have R14' := R13.same hS14
    have hfo := fault_ok (p := P3) (N := N2) (ph := ph) (n := n2) (by omega) hN2pos hP3a (by omega)
    refine ⟨_, rfl, _, rfl, _, rfl, rfl, rfl, P3, N2, ph, n2, r2, bs2, late, rfl, R14, by omega, fun z hz => ?_, fun _ H15 hS15 => ?_⟩
    · rw [hfo] at hz
      cases hz
    simp only [Int.toNat_natCast]
    have hB15 := hB14.same hS15
    have hT15 := hT14.same hS15
    have R15 := R14'.same hS15
    refine ⟨_, rfl, _, rfl, _, _, rfl, _, rfl, ifF (by
      show (!decide (((cntSafe bs2 ph N2 P3 n2 late : Nat) : Int) = ((cntSafe bs2 ph N2 P3 n2 late : Nat) : Int))) = false
      rw [decide_eq_true rfl]
      rfl) ?_⟩
    exact ⟨_, rfl, _, rfl, _, rfl, _, rfl, a, t, b, r, bs, N, P, late, rfl, hB15, hT15, hP, hN, R15, hQ⟩
end
end Cl
set_option Elab.async false
set_option linter.all false
set_option maxRecDepth 100000
set_option maxHeartbeats 4000000
/-! What the head's Hook reads. -/
namespace Cl
open PySem PySem.W PySem.Calls PyProof.Rows PySem.HandSPX
/-- the def object of InvalidInput.__init__ -/
def fdI (K : Frag) (fI : Addr) : Option FuncData := match K.lookup fI with
  | some ⟨_, _, .func fd, _⟩ => some fd
  | _ => none
def cdI (K : Frag) (fI : Addr) : Addr := match fdI K fI with
  | some fd => (match fd.code with
    | .ref a => a
    | _ => 0)
  | none => 0
def ccI (K : Frag) (fI : Addr) : Addr := match fdI K fI with
  | some fd => (match fd.closure with
    | [(_, a)] => a
    | _ => 0)
  | none => 0
def bCls (K : Frag) (C : Addr) : Bool := match K.lookup C with
  | some ⟨.type t, _, .cls cd, sl⟩ => decide (t = "type") && (match cd.mro, sl.toList with
    | .ref C' :: bm, [_, _, _, _, some (.builtin n), _] => decide (C' = C) && (decide (n = "ValueError.__new__") && (!cd.hasDel && (cd.hasDict && refsVE bm)))
    | _, _ => false)
  | _ => false
theorem bCls_ok {K : Frag} {C : Addr} (h : bCls K C = true) : ∃ nm q N bs bm sn sub ab col dd k0 k1 k2 k3 k5, K.lookup C = some (excClassObj nm q C N bs bm true sn sub ab col dd k0 k1 k2 k3 k5 "ValueError.__new__") ∧ refsVE bm = true := by
  unfold bCls at h
  split at h
  · rename_i t dd cd sl ho
    obtain ⟨p0, w0⟩ := Bool.and_eq_true_iff.mp h
    clear h
    have r0 := of_decide_eq_true p0
    clear p0
    subst r0
    split at w0
    · rename_i C' bm k0 k1 k2 k3 n k5 hm hs
      obtain ⟨p1, w1⟩ := Bool.and_eq_true_iff.mp w0
      obtain ⟨p2, w2⟩ := Bool.and_eq_true_iff.mp w1
      obtain ⟨p3, w3⟩ := Bool.and_eq_true_iff.mp w2
      obtain ⟨p4, p5⟩ := Bool.and_eq_true_iff.mp w3
      clear w0 w1 w2 w3
      have r1 := of_decide_eq_true p1
      have r2 := of_decide_eq_true p2
      clear p1 p2
      subst r1 r2
      obtain ⟨c1, c2, c3, c4, c5, c6, c7, c8, c9, c10, c11⟩ := cd
      dsimp only at hm p3 p4
      subst hm p4
      cases c11 with
      | true => cases p3
      | false =>
        have hsl : sl = #[k0, k1, k2, k3, some (.builtin "ValueError.__new__"), k5] := by
          obtain ⟨l⟩ := sl
          simp only at hs
          rw [hs]
        subst hsl
        exact ⟨_, _, _, _, _, _, _, _, _, _, _, _, _, _, _, ho, p5⟩
    · cases w0
  · cases h
abbrev FnI : Type := Option (Str × Str × Arguments × FuncBody × Scope)
def obI (K : Frag) (fI : Addr) : FnI := match fdI K fI with
  | some fd => some (fd.name, fd.qualname, fd.params, fd.body, fd.scope)
  | none => none
def vaI : FnI := some ("__init__", "InvalidInput.__init__", L2.defArgs sII, .stmts (L2.defBody sII), L2.defScope sII)
def bFn (K : Frag) (fI : Addr) : Bool := match fdI K fI with
  | some fd => (match fd.code, fd.closure, fd.defaults, fd.kwdefaults with
    | .ref _, [(x, _)], .none, .none => decide (x = "__class__") && (decide (fd.globals = mainGlobals) && (decide (fd.builtins = builtinsNs) && codeIn K fd.code "InvalidInput.__init__"))
    | _, _, _, _ => false)
  | none => false
theorem bFn_ok {K : Frag} {fI : Addr} (h : bFn K fI = true) (e : obI K fI = vaI) : ∃ (oc : Value) (od : Option Addr) (doc pm : Value) (an : Option Addr) (ct : Value) (osl : Array (Option Value)),
    K.lookup fI = some ⟨oc, od, .func (ksFn "__init__" "InvalidInput.__init__" (L2.defArgs sII) (L2.defBody sII) (L2.defScope sII) .none .none doc pm an (.ref (cdI K fI)) ct (ccI K fI)), osl⟩ ∧ codeIn K (.ref (cdI K fI)) "InvalidInput.__init__" = true := by
  cases q : fdI K fI with
  | none =>
    unfold bFn at h
    rw [q] at h
    cases h
  | some fd =>
    have q2 := q
    unfold fdI at q2
    split at q2
    · rename_i oc od fd' osl ho
      obtain rfl := Option.some.inj q2
      unfold bFn at h
      rw [q] at h
      unfold obI at e
      rw [q] at e
      unfold cdI ccI
      rw [q]
      obtain ⟨n1, n2, n3, n4, n5, n6, n7, n8, n9, n10, n11, n12, n13, n14, n15⟩ := fd'
      dsimp only at h
      split at h
      · rename_i a x b
        obtain ⟨p1, w1⟩ := Bool.and_eq_true_iff.mp h
        obtain ⟨p2, w2⟩ := Bool.and_eq_true_iff.mp w1
        obtain ⟨p3, p4⟩ := Bool.and_eq_true_iff.mp w2
        clear h w1 w2
        have r1 := of_decide_eq_true p1
        have r2 := of_decide_eq_true p2
        have r3 := of_decide_eq_true p3
        clear p1 p2 p3
        have e2 : (some (n1, n2, n3, n4, n5) : FnI) = (some (("__init__" : Str), ("InvalidInput.__init__" : Str), L2.defArgs sII, FuncBody.stmts (L2.defBody sII), L2.defScope sII) : FnI) := e
        simp only [Option.some.injEq, Prod.mk.injEq] at e2
        obtain ⟨e3, e4, e5, e6, e7⟩ := e2
        subst e3 e4 e5 e6 e7 r1 r2 r3
        exact ⟨_, _, _, _, _, _, _, ho, p4⟩
      · cases h
    · cases q2
def bCode (K : Frag) (cda : Addr) : Bool := match K.lookup cda with
  | some ⟨_, _, .fields vs, _⟩ => (match (vs[2]? : Option Value) with
    | some (Value.str file _) => PR.main.file == file
    | _ => false)
  | _ => false
theorem bCode_ok {K : Frag} {cda : Addr} (h : bCode K cda = true) : ∃ (ccl : Value) (cdd : Option Addr) (vs : Array Value) (ccs : Array (Option Value)) (file : Str) (tf : Tok), K.lookup cda = some ⟨ccl, cdd, .fields vs, ccs⟩ ∧ vs[2]? = some (.str file tf) ∧ (PR.main.file == file) = true := by
  unfold bCode at h
  split at h
  · rename_i a b vs d ho
    split at h
    · rename_i file tf hv
      exact ⟨_, _, _, _, _, _, ho, hv, h⟩
    · cases h
  · cases h
def bCell (K : Frag) (cc C : Addr) : Bool := match K.lookup cc with
  | some ⟨_, _, .cell (some (.ref D)), _⟩ => decide (D = C)
  | _ => false
theorem bCell_ok {K : Frag} {cc C : Addr} (h : bCell K cc C = true) : ∃ (cl : Value) (cld : Option Addr) (csl : Array (Option Value)), K.lookup cc = some ⟨cl, cld, .cell (some (.ref C)), csl⟩ := by
  unfold bCell at h
  split at h
  · rename_i a b D d ho
    have h := of_decide_eq_true h
    subst h
    exact ⟨_, _, _, ho⟩
  · cases h
def bMost (K : Frag) (C : Addr) : Bool := match findCls K (.ref C) (.type "type") "MOST" with
  | some (.val (.int i _)) => decide (i = 12)
  | _ => false
theorem bMost_ok {K : Frag} {C : Addr} (h : bMost K C = true) : ∃ u, ClX.CVal K C (.type "type") "MOST" (.int 12) u := by
  unfold bMost at h
  split at h
  · rename_i i t hf
    have h := of_decide_eq_true h
    subst h
    exact ⟨_, ⟨hf, ⟨_, rfl⟩⟩⟩
  · cases h
def allB : List Bool → Bool
  | [] => true
  | b :: l => b && allB l
theorem allB_at : ∀ {l : List Bool} {i : Nat} {b : Bool}, allB l = true → l[i]? = some b → b = true
  | [], _, _, _, h => by cases h
  | a :: l, 0, b, h, e => by
    have : a = b := Option.some.inj e
    rw [← this]
    exact (Bool.and_eq_true_iff.mp h).1
  | a :: l, i + 1, b, h, e => allB_at (l := l) (Bool.and_eq_true_iff.mp h).2 e
/-- the further facts -/
def exL (K : Frag) (C fI R : Addr) : List Bool := [bCls K C, He.eqO (findIn K (.ref C) "__setattr__") (some (some (.builtin "object.__setattr__"))), He.eqO (findIn K (.ref C) "field") (some none), He.eqO (findIn K (.ref C) "__init__") (some (some (.ref fI))),
  decide (typeIn K (.ref fI) = some (.type "function")), keepIn K (.ref C), decide (subIn K (.ref C) (.type "BaseException") = some true), decide (subIn K (.ref C) (.type "ValueError") = some true), decide (typeIn K (.ref C) = some (.type "type")),
  decide (mroIn K C (.ref C) = some true), He.eqO (ks_superIn K C C "__init__") (some (some (.builtin "ValueError.__init__"))), He.eqO (nsIn K cStatics "thirdparty.any") (some none), bFn K fI, bCode K (cdI K fI), bCell K (ccI K fI) C,
  L2.xfB K C, decide (subIn K (.ref C) (.type "StopIteration") = some false), He.eqO (nsIn K mainGlobals "comb") (some (some (.builtin "math.comb"))), selfFirst K R, readsIn K R (.type "type"), He.eqO (specialIn K (.ref R) "__getattribute__") (some (some (.builtin "type.__getattribute__"))),
  bMost K R, He.eqO (findIn K (.ref R) "__class__") (some (some (.builtin "object.__class__"))), He.eqO (specialIn K (.builtin "object.__class__") "__get__") (some (some (.builtin "getset_descriptor.__get__"))), decide (takesIn K (.builtin "object.__class__") = some true), decide (mroIn K R (.type "object") = some true)]
def exB (K : Frag) : Bool := allB (exL K (He.ga K "InvalidInput") (He.ma K (He.ga K "InvalidInput") "__init__") (He.ga K "Round"))
section
open L2
def df_at_least : He.DefD := ⟨("at_least", none), "at_least", "at_least", defArgs st_at_least, defBody st_at_least, defScope st_at_least, [], []⟩
def df_at_most : He.DefD := ⟨("at_most", none), "at_most", "at_most", defArgs st_at_most, defBody st_at_most, defScope st_at_most, [], []⟩
def df_whole_number : He.DefD := ⟨("whole_number", none), "whole_number", "whole_number", defArgs st_whole_number, defBody st_whole_number, defScope st_whole_number, [], []⟩
def df_good_word : He.DefD := ⟨("good_word", none), "good_word", "good_word", defArgs st_good_word, defBody st_good_word, defScope st_good_word, [], []⟩
def df_normal : He.DefD := ⟨("normal", none), "normal", "normal", defArgs st_normal, defBody st_normal, defScope st_normal, [], []⟩
def df_living : He.DefD := ⟨("living", none), "living", "living", defArgs st_living, defBody st_living, defScope st_living, [], []⟩
def df_depths : He.DefD := ⟨("depths", none), "depths", "depths", defArgs st_depths, defBody st_depths, defScope st_depths, [], []⟩
def df__trimmed : He.DefD := ⟨("_trimmed", none), "_trimmed", "_trimmed", defArgs st__trimmed, defBody st__trimmed, defScope st__trimmed, [], []⟩
def df__ones : He.DefD := ⟨("_ones", none), "_ones", "_ones", defArgs st__ones, defBody st__ones, defScope st__ones, [], []⟩
def df__depth_list : He.DefD := ⟨("_depth_list", none), "_depth_list", "_depth_list", defArgs st__depth_list, defBody st__depth_list, defScope st__depth_list, [], []⟩
def df_check_standing : He.DefD := ⟨("check_standing", none), "check_standing", "check_standing", defArgs st_check_standing, defBody st_check_standing, defScope st_check_standing, [.int 0], []⟩
def df_counted_places : He.DefD := ⟨("counted_places", none), "counted_places", "counted_places", defArgs st_counted_places, defBody st_counted_places, defScope st_counted_places, [], []⟩
def df_blocked_now : He.DefD := ⟨("blocked_now", none), "blocked_now", "blocked_now", defArgs st_blocked_now, defBody st_blocked_now, defScope st_blocked_now, [], []⟩
def df_short_now : He.DefD := ⟨("short_now", none), "short_now", "short_now", defArgs st_short_now, defBody st_short_now, defScope st_short_now, [], []⟩
def df_blocked_at : He.DefD := ⟨("blocked_at", none), "blocked_at", "blocked_at", defArgs st_blocked_at, defBody st_blocked_at, defScope st_blocked_at, [.int 0], [("late", .bl false)]⟩
def df_short_at : He.DefD := ⟨("short_at", none), "short_at", "short_at", defArgs st_short_at, defBody st_short_at, defScope st_short_at, [.int 0], [("late", .bl false)]⟩
def df_critical_put : He.DefD := ⟨("critical_put", none), "critical_put", "critical_put", defArgs st_critical_put, defBody st_critical_put, defScope st_critical_put, [], []⟩
def df_life : He.DefD := ⟨("life", none), "life", "life", defArgs st_life, defBody st_life, defScope st_life, [.int 0], [("late", .bl false)]⟩
def df_safe : He.DefD := ⟨("safe", none), "safe", "safe", defArgs st_safe, defBody st_safe, defScope st_safe, [.int 0], [("late", .bl false)]⟩
def df_R_init : He.DefD := ⟨("Round", some "__init__"), "__init__", "Round.__init__", defArgs st_R_init, defBody st_R_init, defScope st_R_init, [], []⟩
def df_R_len : He.DefD := ⟨("Round", some "__len__"), "__len__", "Round.__len__", defArgs st_R_len, defBody st_R_len, defScope st_R_len, [], []⟩
def df_R_add : He.DefD := ⟨("Round", some "__add__"), "__add__", "Round.__add__", defArgs st_R_add, defBody st_R_add, defScope st_R_add, [], []⟩
def df_R_total : He.DefD := ⟨("Round", some "total"), "total", "Round.total", defArgs st_R_total, defBody st_R_total, defScope st_R_total, [], []⟩
def df_R_least : He.DefD := ⟨("Round", some "least"), "least", "Round.least", defArgs st_R_least, defBody st_R_least, defScope st_R_least, [], []⟩
def df_R__window : He.DefD := ⟨("Round", some "_window"), "_window", "Round._window", defArgs st_R__window, defBody st_R__window, defScope st_R__window, [], []⟩
def df_R__windows : He.DefD := ⟨("Round", some "_windows"), "_windows", "Round._windows", defArgs st_R__windows, defBody st_R__windows, defScope st_R__windows, [], []⟩
def df_effective : He.DefD := ⟨("effective", none), "effective", "effective", defArgs st_effective, defBody st_effective, defScope st_effective, [], [("late", .bl false), ("tears", .int 0), ("readers", .int 0)]⟩
def df_ring_goes_on : He.DefD := ⟨("ring_goes_on", none), "ring_goes_on", "ring_goes_on", defArgs st_ring_goes_on, defBody st_ring_goes_on, defScope st_ring_goes_on, [], [("late", .bl false), ("tears", .int 0), ("readers", .int 0)]⟩
def df__check_order : He.DefD := ⟨("_check_order", none), "_check_order", "_check_order", defArgs st__check_order, defBody st__check_order, defScope st__check_order, [], []⟩
def df__lost_places : He.DefD := ⟨("_lost_places", none), "_lost_places", "_lost_places", defArgs st__lost_places, defBody st__lost_places, defScope st__lost_places, [], []⟩
def df_check_counting : He.DefD := ⟨("check_counting", none), "check_counting", "check_counting", defArgs st_check_counting, defBody st_check_counting, defScope st_check_counting, [], []⟩
def df_count_words : He.DefD := ⟨("count_words", none), "count_words", "count_words", defArgs st_count_words, defBody st_count_words, defScope st_count_words, [], []⟩
def df_depth_caps : He.DefD := ⟨("depth_caps", none), "depth_caps", "depth_caps", defArgs st_depth_caps, defBody st_depth_caps, defScope st_depth_caps, [], []⟩
def df_count_safe : He.DefD := ⟨("count_safe", none), "count_safe", "count_safe", defArgs st_count_safe, defBody st_count_safe, defScope st_count_safe, [], [("late", .bl false)]⟩
def df_safe_words : He.DefD := ⟨("safe_words", none), "safe_words", "safe_words", defArgs st_safe_words, defBody st_safe_words, defScope st_safe_words, [], [("late", .bl false)]⟩
def df_word_at : He.DefD := ⟨("word_at", none), "word_at", "word_at", defArgs st_word_at, defBody st_word_at, defScope st_word_at, [], []⟩
def df__law_bag : He.DefD := ⟨("_law_bag", none), "_law_bag", "_law_bag", defArgs st__law_bag, defBody st__law_bag, defScope st__law_bag, [], []⟩
def df__law_take : He.DefD := ⟨("_law_take", none), "_law_take", "_law_take", defArgs st__law_take, defBody st__law_take, defScope st__law_take, [], []⟩
def df__law_budgets : He.DefD := ⟨("_law_budgets", none), "_law_budgets", "_law_budgets", defArgs st__law_budgets, defBody st__law_budgets, defScope st__law_budgets, [], []⟩
def df__law_round : He.DefD := ⟨("_law_round", none), "_law_round", "_law_round", defArgs st__law_round, defBody st__law_round, defScope st__law_round, [], []⟩
def df__law_enough : He.DefD := ⟨("_law_enough", none), "_law_enough", "_law_enough", defArgs st__law_enough, defBody st__law_enough, defScope st__law_enough, [], []⟩
def df__law_terms : He.DefD := ⟨("_law_terms", none), "_law_terms", "_law_terms", defArgs st__law_terms, defBody st__law_terms, defScope st__law_terms, [], []⟩
def df__law_carried : He.DefD := ⟨("_law_carried", none), "_law_carried", "_law_carried", defArgs st__law_carried, defBody st__law_carried, defScope st__law_carried, [], []⟩
def df__law_released : He.DefD := ⟨("_law_released", none), "_law_released", "_law_released", defArgs st__law_released, defBody st__law_released, defScope st__law_released, [], []⟩
def df__law_put : He.DefD := ⟨("_law_put", none), "_law_put", "_law_put", defArgs st__law_put, defBody st__law_put, defScope st__law_put, [], []⟩
def df__law_newest : He.DefD := ⟨("_law_newest", none), "_law_newest", "_law_newest", defArgs st__law_newest, defBody st__law_newest, defScope st__law_newest, [], []⟩
def df__law_play : He.DefD := ⟨("_law_play", none), "_law_play", "_law_play", defArgs st__law_play, defBody st__law_play, defScope st__law_play, [], []⟩
def df__law_is : He.DefD := ⟨("_law_is", none), "_law_is", "_law_is", defArgs st__law_is, defBody st__law_is, defScope st__law_is, [], []⟩
def df__law_following : He.DefD := ⟨("_law_following", none), "_law_following", "_law_following", defArgs st__law_following, defBody st__law_following, defScope st__law_following, [], []⟩
def df__law_all_words : He.DefD := ⟨("_law_all_words", none), "_law_all_words", "_law_all_words", defArgs st__law_all_words, defBody st__law_all_words, defScope st__law_all_words, [], []⟩
def df__law_counted : He.DefD := ⟨("_law_counted", none), "_law_counted", "_law_counted", defArgs st__law_counted, defBody st__law_counted, defScope st__law_counted, [], []⟩
def df__law_few : He.DefD := ⟨("_law_few", none), "_law_few", "_law_few", defArgs st__law_few, defBody st__law_few, defScope st__law_few, [], []⟩
def df__law_listed : He.DefD := ⟨("_law_listed", none), "_law_listed", "_law_listed", defArgs st__law_listed, defBody st__law_listed, defScope st__law_listed, [], []⟩
def df__law_fault : He.DefD := ⟨("_law_fault", none), "_law_fault", "_law_fault", defArgs st__law_fault, defBody st__law_fault, defScope st__law_fault, [], []⟩
def df__law_refused : He.DefD := ⟨("_law_refused", none), "_law_refused", "_law_refused", defArgs st__law_refused, defBody st__law_refused, defScope st__law_refused, [], []⟩
def df__law_refusals : He.DefD := ⟨("_law_refusals", none), "_law_refusals", "_law_refusals", defArgs st__law_refusals, defBody st__law_refusals, defScope st__law_refusals, [], []⟩
def df_law : He.DefD := ⟨("law", none), "law", "law", defArgs st_law, defBody st_law, defScope st_law, [], []⟩
def fn : List He.DefD := [df_at_least, df_at_most, df_whole_number, df_good_word, df_normal, df_living, df_depths, df__trimmed, df__ones, df__depth_list, df_check_standing, df_counted_places, df_blocked_now, df_short_now, df_blocked_at, df_short_at, df_critical_put, df_life, df_safe, df_R_init, df_R_len, df_R_add, df_R_total, df_R_least, df_R__window, df_R__windows, df_effective, df_ring_goes_on, df__check_order, df__lost_places, df_check_counting, df_count_words, df_depth_caps, df_count_safe, df_safe_words, df_word_at, df__law_bag, df__law_take, df__law_budgets, df__law_round, df__law_enough, df__law_terms, df__law_carried, df__law_released, df__law_put, df__law_newest, df__law_play, df__law_is, df__law_following, df__law_all_words, df__law_counted, df__law_few, df__law_listed, df__law_fault, df__law_refused, df__law_refusals, df_law]
def fa : List He.Fa := [.glo "at_least", .glo "at_most", .glo "whole_number", .glo "good_word", .glo "normal", .glo "living", .glo "depths", .glo "_trimmed", .glo "_ones", .glo "_depth_list", .glo "check_standing", .glo "counted_places", .glo "blocked_now", .glo "short_now", .glo "blocked_at", .glo "short_at", .glo "critical_put", .glo "life", .glo "safe", .glo "effective", .glo "ring_goes_on", .glo "_check_order", .glo "_lost_places", .glo "check_counting", .glo "count_words", .glo "depth_caps", .glo "count_safe", .glo "safe_words", .glo "word_at", .glo "_law_bag", .glo "_law_take", .glo "_law_budgets", .glo "_law_round", .glo "_law_enough", .glo "_law_terms", .glo "_law_carried", .glo "_law_released", .glo "_law_put", .glo "_law_newest", .glo "_law_play", .glo "_law_is", .glo "_law_following", .glo "_law_all_words", .glo "_law_counted", .glo "_law_few", .glo "_law_listed", .glo "_law_fault", .glo "_law_refused", .glo "_law_refusals", .glo "law", .glo "Round", .glo "InvalidInput", .free "len", .free "min", .free "max", .free "sum", .free "range", .free "int", .free "list", .free "isinstance", .free "reversed", .free "divmod", .free "enumerate", .free "tuple", .free "abs", .free "bool", .free "str", .free "super", .cls "Round", .noat "Round" "_budgets", .mkr "Round", .exm "InvalidInput" "InvalidInput" true, .meth "Round" "__len__", .meth "Round" "__add__", .meth "Round" "total", .meth "Round" "least", .meth "Round" "_window", .meth "Round" "_windows"]
end
abbrev AlX : Type := He.AlD × Bool × FnI
def obsX (K : Frag) : AlX := (He.obsD fa fn K, exB K, obI K (He.ma K (He.ga K "InvalidInput") "__init__"))
def valX : AlX := (He.valD fn, true, vaI)
def SaysX (K : Frag) : Prop := obsX K = valX
/-- the list's spine first, then f -/
def forceL {α β : Type} : List α → (List α → β) → β
  | [], f => f []
  | a :: l, f => forceL l fun m => f (a :: m)
theorem forceL_eq {α β : Type} : ∀ (l : List α) (f : List α → β), forceL l f = f l
  | [], _ => rfl
  | a :: l, f => forceL_eq l fun m => f (a :: m)
/-- what these objects name -/
def nextX (g : Addr → Option Obj) (as : List Addr) : List Addr := as.flatMap fun a => match g a with
  | some o => He.refsD o
  | none => []
/-- four steps from the module's names, each taken once -/
def withK {β : Type} (g : Addr → Option Obj) (f : Frag → β) : β := forceL (nextX g [mainGlobals]) fun l1 => forceL (nextX g l1) fun l2 => forceL (nextX g l2) fun l3 => forceL (nextX g l3) fun l4 => forceL (He.frG g (cStatics :: mainGlobals :: (l1 ++ (l2 ++ (l3 ++ l4))))) f
def asX (g : Addr → Option Obj) : List Addr := cStatics :: mainGlobals :: (nextX g [mainGlobals] ++ (nextX g (nextX g [mainGlobals]) ++ (nextX g (nextX g (nextX g [mainGlobals])) ++ nextX g (nextX g (nextX g (nextX g [mainGlobals]))))))
theorem withK_eq {β : Type} (g : Addr → Option Obj) (f : Frag → β) : withK g f = f (He.frG g (asX g)) := by
  unfold withK asX
  rw [forceL_eq, forceL_eq, forceL_eq, forceL_eq, forceL_eq]
def obsXG (g : Addr → Option Obj) : AlX := withK g obsX
def hookX : Hook where
  α := AlX
  obs := fun s => obsXG s.heap.get?
  val := fun _ => valX
  says := fun _ h => ∃ K : Frag, K.In h ∧ SaysX K
  of := fun _ _ e => ⟨_, He.frG_in, (withK_eq _ _).symm.trans e⟩
  keeps := fun _ _ _ ⟨K, hK, c⟩ k => ⟨K, Frag.In.keeps hK k, c⟩
theorem obsXG_eq {g : Addr → Option Obj} {s : Shared} (h : ∀ a, g a = s.heap.get? a) : obsXG g = hookX.obs s := by
  have e : g = s.heap.get? := funext h
  rw [e] <;> rfl
open L2 in
theorem fx_of {h : Heap} {c : Ctx} (X : c.K.In h) (G : h.Ns mainGlobals c.mg) (eC : c.C = He.ga c.K "Round") (eI : c.CI = He.ga c.K "InvalidInput") (eR : c.fR = He.ma c.K c.C "__init__") (s : He.SaysD fa fn c.K) (i : InvC c.K c.mg c.CI c.fI c.cda c.cc) (hcomb : PySem.W.nsIn c.K mainGlobals "comb" = some (some (.builtin "math.comb"))) (hsf : PySem.W.selfFirst c.K c.C = true) (hcr : ClX.CRead c.K c.C c.mc) (hm : ∃ u, ClX.CVal c.K c.C c.mc "MOST" (.int 12) u) (hxf : XfC c.K c.CI) (hns : PySem.W.subIn c.K (.ref c.CI) (.type "StopIteration") = some false) (hisi : IsiR c) : Fx c :=
  { inv := i
    gR := by rw [eC]; exact He.glo_ok X G (s.fact 50 (f := .glo "Round") rfl)
    comb := PySem.W.mg_of X G hcomb
    cls := by rw [eC]; exact He.cls_ok (s.fact 68 (f := .cls "Round") rfl)
    nb := by rw [eC]; exact He.noat_ok (s.fact 69 (f := .noat "Round" "_budgets") rfl)
    mkR := by rw [eR, eC]; exact He.mkr_ok (s.fact 70 (f := .mkr "Round") rfl)
    sf := hsf
    cr := hcr
    most := hm
    xf := hxf
    exm := by rw [eI]; exact He.exm_ok (s.fact 71 (f := .exm "InvalidInput" "InvalidInput" true) rfl)
    nstop := hns
    hn := hisi
    f_len := He.free_ok X G (s.fact 52 (f := .free "len") rfl)
    f_min := He.free_ok X G (s.fact 53 (f := .free "min") rfl)
    f_max := He.free_ok X G (s.fact 54 (f := .free "max") rfl)
    f_sum := He.free_ok X G (s.fact 55 (f := .free "sum") rfl)
    f_range := He.free_ok X G (s.fact 56 (f := .free "range") rfl)
    f_int := He.free_ok X G (s.fact 57 (f := .free "int") rfl)
    f_list := He.free_ok X G (s.fact 58 (f := .free "list") rfl)
    f_isinstance := He.free_ok X G (s.fact 59 (f := .free "isinstance") rfl)
    f_reversed := He.free_ok X G (s.fact 60 (f := .free "reversed") rfl)
    f_divmod := He.free_ok X G (s.fact 61 (f := .free "divmod") rfl)
    f_enumerate := He.free_ok X G (s.fact 62 (f := .free "enumerate") rfl)
    f_tuple := He.free_ok X G (s.fact 63 (f := .free "tuple") rfl)
    f_abs := He.free_ok X G (s.fact 64 (f := .free "abs") rfl)
    f_bool := He.free_ok X G (s.fact 65 (f := .free "bool") rfl)
    f_str := He.free_ok X G (s.fact 66 (f := .free "str") rfl)
    d_at_least := by
      obtain ⟨fd, F⟩ := s.def_ 0 (d := df_at_least) rfl
      exact ⟨_, fd, F, He.glo_ok X G (s.fact 0 (f := .glo "at_least") rfl)⟩
    d_at_most := by
      obtain ⟨fd, F⟩ := s.def_ 1 (d := df_at_most) rfl
      exact ⟨_, fd, F, He.glo_ok X G (s.fact 1 (f := .glo "at_most") rfl)⟩
    d_whole_number := by
      obtain ⟨fd, F⟩ := s.def_ 2 (d := df_whole_number) rfl
      exact ⟨_, fd, F, He.glo_ok X G (s.fact 2 (f := .glo "whole_number") rfl)⟩
    d_good_word := by
      obtain ⟨fd, F⟩ := s.def_ 3 (d := df_good_word) rfl
      exact ⟨_, fd, F, He.glo_ok X G (s.fact 3 (f := .glo "good_word") rfl)⟩
    d_normal := by
      obtain ⟨fd, F⟩ := s.def_ 4 (d := df_normal) rfl
      exact ⟨_, fd, F, He.glo_ok X G (s.fact 4 (f := .glo "normal") rfl)⟩
    d_living := by
      obtain ⟨fd, F⟩ := s.def_ 5 (d := df_living) rfl
      exact ⟨_, fd, F, He.glo_ok X G (s.fact 5 (f := .glo "living") rfl)⟩
    d_depths := by
      obtain ⟨fd, F⟩ := s.def_ 6 (d := df_depths) rfl
      exact ⟨_, fd, F, He.glo_ok X G (s.fact 6 (f := .glo "depths") rfl)⟩
    d__trimmed := by
      obtain ⟨fd, F⟩ := s.def_ 7 (d := df__trimmed) rfl
      exact ⟨_, fd, F, He.glo_ok X G (s.fact 7 (f := .glo "_trimmed") rfl)⟩
    d__ones := by
      obtain ⟨fd, F⟩ := s.def_ 8 (d := df__ones) rfl
      exact ⟨_, fd, F, He.glo_ok X G (s.fact 8 (f := .glo "_ones") rfl)⟩
    d__depth_list := by
      obtain ⟨fd, F⟩ := s.def_ 9 (d := df__depth_list) rfl
      exact ⟨_, fd, F, He.glo_ok X G (s.fact 9 (f := .glo "_depth_list") rfl)⟩
    d_check_standing := by
      obtain ⟨fd, F⟩ := s.def_ 10 (d := df_check_standing) rfl
      exact ⟨_, fd, F, He.glo_ok X G (s.fact 10 (f := .glo "check_standing") rfl)⟩
    d_counted_places := by
      obtain ⟨fd, F⟩ := s.def_ 11 (d := df_counted_places) rfl
      exact ⟨_, fd, F, He.glo_ok X G (s.fact 11 (f := .glo "counted_places") rfl)⟩
    d_blocked_now := by
      obtain ⟨fd, F⟩ := s.def_ 12 (d := df_blocked_now) rfl
      exact ⟨_, fd, F, He.glo_ok X G (s.fact 12 (f := .glo "blocked_now") rfl)⟩
    d_short_now := by
      obtain ⟨fd, F⟩ := s.def_ 13 (d := df_short_now) rfl
      exact ⟨_, fd, F, He.glo_ok X G (s.fact 13 (f := .glo "short_now") rfl)⟩
    d_blocked_at := by
      obtain ⟨fd, F⟩ := s.def_ 14 (d := df_blocked_at) rfl
      exact ⟨_, fd, F, He.glo_ok X G (s.fact 14 (f := .glo "blocked_at") rfl)⟩
    d_short_at := by
      obtain ⟨fd, F⟩ := s.def_ 15 (d := df_short_at) rfl
      exact ⟨_, fd, F, He.glo_ok X G (s.fact 15 (f := .glo "short_at") rfl)⟩
    d_critical_put := by
      obtain ⟨fd, F⟩ := s.def_ 16 (d := df_critical_put) rfl
      exact ⟨_, fd, F, He.glo_ok X G (s.fact 16 (f := .glo "critical_put") rfl)⟩
    d_life := by
      obtain ⟨fd, F⟩ := s.def_ 17 (d := df_life) rfl
      exact ⟨_, fd, F, He.glo_ok X G (s.fact 17 (f := .glo "life") rfl)⟩
    d_safe := by
      obtain ⟨fd, F⟩ := s.def_ 18 (d := df_safe) rfl
      exact ⟨_, fd, F, He.glo_ok X G (s.fact 18 (f := .glo "safe") rfl)⟩
    dR_init := by rw [eR, eC]; exact s.def_ 19 (d := df_R_init) rfl
    d_R_len := by
      obtain ⟨fd, F⟩ := s.def_ 20 (d := df_R_len) rfl
      exact ⟨_, fd, F, by rw [eC]; exact He.meth_ok (s.fact 72 (f := .meth "Round" "__len__") rfl)⟩
    d_R_add := by
      obtain ⟨fd, F⟩ := s.def_ 21 (d := df_R_add) rfl
      exact ⟨_, fd, F, by rw [eC]; exact He.meth_ok (s.fact 73 (f := .meth "Round" "__add__") rfl)⟩
    d_R_total := by
      obtain ⟨fd, F⟩ := s.def_ 22 (d := df_R_total) rfl
      exact ⟨_, fd, F, by rw [eC]; exact He.meth_ok (s.fact 74 (f := .meth "Round" "total") rfl)⟩
    d_R_least := by
      obtain ⟨fd, F⟩ := s.def_ 23 (d := df_R_least) rfl
      exact ⟨_, fd, F, by rw [eC]; exact He.meth_ok (s.fact 75 (f := .meth "Round" "least") rfl)⟩
    d_R__window := by
      obtain ⟨fd, F⟩ := s.def_ 24 (d := df_R__window) rfl
      exact ⟨_, fd, F, by rw [eC]; exact He.meth_ok (s.fact 76 (f := .meth "Round" "_window") rfl)⟩
    d_R__windows := by
      obtain ⟨fd, F⟩ := s.def_ 25 (d := df_R__windows) rfl
      exact ⟨_, fd, F, by rw [eC]; exact He.meth_ok (s.fact 77 (f := .meth "Round" "_windows") rfl)⟩
    d_effective := by
      obtain ⟨fd, F⟩ := s.def_ 26 (d := df_effective) rfl
      exact ⟨_, fd, F, He.glo_ok X G (s.fact 19 (f := .glo "effective") rfl)⟩
    d_ring_goes_on := by
      obtain ⟨fd, F⟩ := s.def_ 27 (d := df_ring_goes_on) rfl
      exact ⟨_, fd, F, He.glo_ok X G (s.fact 20 (f := .glo "ring_goes_on") rfl)⟩
    d__check_order := by
      obtain ⟨fd, F⟩ := s.def_ 28 (d := df__check_order) rfl
      exact ⟨_, fd, F, He.glo_ok X G (s.fact 21 (f := .glo "_check_order") rfl)⟩
    d__lost_places := by
      obtain ⟨fd, F⟩ := s.def_ 29 (d := df__lost_places) rfl
      exact ⟨_, fd, F, He.glo_ok X G (s.fact 22 (f := .glo "_lost_places") rfl)⟩
    d_check_counting := by
      obtain ⟨fd, F⟩ := s.def_ 30 (d := df_check_counting) rfl
      exact ⟨_, fd, F, He.glo_ok X G (s.fact 23 (f := .glo "check_counting") rfl)⟩
    d_count_words := by
      obtain ⟨fd, F⟩ := s.def_ 31 (d := df_count_words) rfl
      exact ⟨_, fd, F, He.glo_ok X G (s.fact 24 (f := .glo "count_words") rfl)⟩
    d_depth_caps := by
      obtain ⟨fd, F⟩ := s.def_ 32 (d := df_depth_caps) rfl
      exact ⟨_, fd, F, He.glo_ok X G (s.fact 25 (f := .glo "depth_caps") rfl)⟩
    d_count_safe := by
      obtain ⟨fd, F⟩ := s.def_ 33 (d := df_count_safe) rfl
      exact ⟨_, fd, F, He.glo_ok X G (s.fact 26 (f := .glo "count_safe") rfl)⟩
    d_safe_words := by
      obtain ⟨fd, F⟩ := s.def_ 34 (d := df_safe_words) rfl
      exact ⟨_, fd, F, He.glo_ok X G (s.fact 27 (f := .glo "safe_words") rfl)⟩
    d_word_at := by
      obtain ⟨fd, F⟩ := s.def_ 35 (d := df_word_at) rfl
      exact ⟨_, fd, F, He.glo_ok X G (s.fact 28 (f := .glo "word_at") rfl)⟩
    d__law_bag := by
      obtain ⟨fd, F⟩ := s.def_ 36 (d := df__law_bag) rfl
      exact ⟨_, fd, F, He.glo_ok X G (s.fact 29 (f := .glo "_law_bag") rfl)⟩
    d__law_take := by
      obtain ⟨fd, F⟩ := s.def_ 37 (d := df__law_take) rfl
      exact ⟨_, fd, F, He.glo_ok X G (s.fact 30 (f := .glo "_law_take") rfl)⟩
    d__law_budgets := by
      obtain ⟨fd, F⟩ := s.def_ 38 (d := df__law_budgets) rfl
      exact ⟨_, fd, F, He.glo_ok X G (s.fact 31 (f := .glo "_law_budgets") rfl)⟩
    d__law_round := by
      obtain ⟨fd, F⟩ := s.def_ 39 (d := df__law_round) rfl
      exact ⟨_, fd, F, He.glo_ok X G (s.fact 32 (f := .glo "_law_round") rfl)⟩
    d__law_enough := by
      obtain ⟨fd, F⟩ := s.def_ 40 (d := df__law_enough) rfl
      exact ⟨_, fd, F, He.glo_ok X G (s.fact 33 (f := .glo "_law_enough") rfl)⟩
    d__law_terms := by
      obtain ⟨fd, F⟩ := s.def_ 41 (d := df__law_terms) rfl
      exact ⟨_, fd, F, He.glo_ok X G (s.fact 34 (f := .glo "_law_terms") rfl)⟩
    d__law_carried := by
      obtain ⟨fd, F⟩ := s.def_ 42 (d := df__law_carried) rfl
      exact ⟨_, fd, F, He.glo_ok X G (s.fact 35 (f := .glo "_law_carried") rfl)⟩
    d__law_released := by
      obtain ⟨fd, F⟩ := s.def_ 43 (d := df__law_released) rfl
      exact ⟨_, fd, F, He.glo_ok X G (s.fact 36 (f := .glo "_law_released") rfl)⟩
    d__law_put := by
      obtain ⟨fd, F⟩ := s.def_ 44 (d := df__law_put) rfl
      exact ⟨_, fd, F, He.glo_ok X G (s.fact 37 (f := .glo "_law_put") rfl)⟩
    d__law_newest := by
      obtain ⟨fd, F⟩ := s.def_ 45 (d := df__law_newest) rfl
      exact ⟨_, fd, F, He.glo_ok X G (s.fact 38 (f := .glo "_law_newest") rfl)⟩
    d__law_play := by
      obtain ⟨fd, F⟩ := s.def_ 46 (d := df__law_play) rfl
      exact ⟨_, fd, F, He.glo_ok X G (s.fact 39 (f := .glo "_law_play") rfl)⟩
    d__law_is := by
      obtain ⟨fd, F⟩ := s.def_ 47 (d := df__law_is) rfl
      exact ⟨_, fd, F, He.glo_ok X G (s.fact 40 (f := .glo "_law_is") rfl)⟩
    d__law_following := by
      obtain ⟨fd, F⟩ := s.def_ 48 (d := df__law_following) rfl
      exact ⟨_, fd, F, He.glo_ok X G (s.fact 41 (f := .glo "_law_following") rfl)⟩
    d__law_all_words := by
      obtain ⟨fd, F⟩ := s.def_ 49 (d := df__law_all_words) rfl
      exact ⟨_, fd, F, He.glo_ok X G (s.fact 42 (f := .glo "_law_all_words") rfl)⟩
    d__law_counted := by
      obtain ⟨fd, F⟩ := s.def_ 50 (d := df__law_counted) rfl
      exact ⟨_, fd, F, He.glo_ok X G (s.fact 43 (f := .glo "_law_counted") rfl)⟩
    d__law_few := by
      obtain ⟨fd, F⟩ := s.def_ 51 (d := df__law_few) rfl
      exact ⟨_, fd, F, He.glo_ok X G (s.fact 44 (f := .glo "_law_few") rfl)⟩
    d__law_listed := by
      obtain ⟨fd, F⟩ := s.def_ 52 (d := df__law_listed) rfl
      exact ⟨_, fd, F, He.glo_ok X G (s.fact 45 (f := .glo "_law_listed") rfl)⟩
    d__law_fault := by
      obtain ⟨fd, F⟩ := s.def_ 53 (d := df__law_fault) rfl
      exact ⟨_, fd, F, He.glo_ok X G (s.fact 46 (f := .glo "_law_fault") rfl)⟩
    d__law_refused := by
      obtain ⟨fd, F⟩ := s.def_ 54 (d := df__law_refused) rfl
      exact ⟨_, fd, F, He.glo_ok X G (s.fact 47 (f := .glo "_law_refused") rfl)⟩
    d__law_refusals := by
      obtain ⟨fd, F⟩ := s.def_ 55 (d := df__law_refusals) rfl
      exact ⟨_, fd, F, He.glo_ok X G (s.fact 48 (f := .glo "_law_refusals") rfl)⟩
    d_law := by
      obtain ⟨fd, F⟩ := s.def_ 56 (d := df_law) rfl
      exact ⟨_, fd, F, He.glo_ok X G (s.fact 49 (f := .glo "law") rfl)⟩ }
open L2 in
/-- the head's words are the facts -/
theorem fx_says {h : Heap} {w : World} {K : Frag} {mg : Str → Option Value} {base : Heap} (X : K.In h) (G : h.Ns mainGlobals mg) (s : SaysX K) :
    ∃ c : Ctx, c.w = w ∧ c.K = K ∧ c.mg = mg ∧ c.base = base ∧ Fx c := by
  have s1 : He.SaysD fa fn K := congrArg (fun z : AlX => z.1) s
  have s2 : exB K = true := congrArg (fun z : AlX => z.2.1) s
  have s3 : obI K (He.ma K (He.ga K "InvalidInput") "__init__") = vaI := congrArg (fun z : AlX => z.2.2) s
  generalize hC : He.ga K "InvalidInput" = C at s2 s3
  unfold exB at s2
  rw [hC] at s2
  generalize hf : He.ma K C "__init__" = fI at s2 s3
  generalize hR : He.ga K "Round" = R at s2
  have at_ := fun (i : Nat) {b : Bool} (e : (exL K C fI R)[i]? = some b) => allB_at s2 e
  refine ⟨⟨w, K, mg, base, R, C, fI, cdI K fI, ccI K fI, .type "type", He.ma K R "__init__"⟩, rfl, rfl, rfl, rfl, ?_⟩
  refine fx_of X G hR.symm hC.symm rfl s1 ⟨?_, He.free_ok X G (s1.fact 67 (f := .free "super") rfl), bCls_ok (at_ 0 rfl), He.eqO_ok (at_ 1 rfl), He.eqO_ok (at_ 2 rfl), He.eqO_ok (at_ 3 rfl), of_decide_eq_true (at_ 4 rfl), at_ 5 rfl, of_decide_eq_true (at_ 6 rfl), of_decide_eq_true (at_ 7 rfl), of_decide_eq_true (at_ 8 rfl), of_decide_eq_true (at_ 9 rfl), He.eqO_ok (at_ 10 rfl), He.eqO_ok (at_ 11 rfl), bFn_ok (at_ 12 rfl) s3, bCode_ok (at_ 13 rfl), bCell_ok (at_ 14 rfl)⟩ -- 56
    (He.eqO_ok (at_ 17 rfl)) (at_ 18 rfl) ⟨at_ 19 rfl, He.eqO_ok (at_ 20 rfl)⟩ (bMost_ok (at_ 21 rfl)) (xfB_ok (at_ 15 rfl)) (of_decide_eq_true (at_ 16 rfl)) ⟨He.eqO_ok (at_ 22 rfl), He.eqO_ok (at_ 23 rfl), of_decide_eq_true (at_ 24 rfl), of_decide_eq_true (at_ 25 rfl)⟩
  show mg "InvalidInput" = some (.ref C)
  rw [← hC]
  exact He.glo_ok X G (s1.fact 51 (f := .glo "InvalidInput") rfl) -- 56
end Cl
set_option Elab.async false
set_option linter.all false
set_option maxRecDepth 100000
set_option maxHeartbeats 0
/-! The head and the end. -/
namespace Cl
open PySem PySem.Spec PyProof.Rows L2
abbrev R : PySem.W.OpenRow := PySem.W.OpenLaw.row PySem.Challenge.rw_carrylog_k29_whole_count_of_safe_words
def ob (s : PySem.W.SharedT) : AlX := obsXG (HandSHeadRun.getT s)
theorem ob_eq (s : PySem.W.SharedT) : ob s = hookX.obs s.abs := obsXG_eq (HandSHeadRun.getT_eq s)
def names1 : List PySem.Str := ["_wall", "__name__", "StoreError", "InvalidInput", "at_least", "at_most", "whole_number", "good_word", "normal", "living", "depths", "_trimmed", "_ones", "_depth_list", "check_standing", "counted_places", "blocked_now", "short_now", "blocked_at", "short_at", "critical_put", "life", "safe", "Round", "effective", "ring_goes_on"]
def names2 : List PySem.Str := ["_check_order", "_lost_places", "check_counting", "count_words", "depth_caps", "count_safe", "safe_words", "word_at", "_law_bag", "_law_take", "_law_budgets", "_law_round", "_law_enough", "_law_terms", "_law_carried", "_law_released", "_law_put", "_law_newest", "_law_play", "_law_is", "_law_following", "_law_all_words", "_law_counted", "_law_few", "_law_listed", "_law_fault", "_law_refused", "_law_refusals"]
noncomputable section
abbrev VQ : Program := PySem.W.view R.prog [0, 62]
theorem run (w : World) : HandSHeadRun.RunEqI R VQ hookX ob 6000 (names1 ++ names2) w := by
  unfold HandSHeadRun.RunEqI
  kernel_rfl
end
/-- the promise of the row -/
def spEnd (K : PySem.W.Frag) : Sp := fun vs H Q _ => ∃ (a : Addr) (ns : List Int), vs = [.ref a] ∧ SqL K H a (ns.map V.int) ∧ ns.length ≤ 63 ∧ ∀ H', Q (.bl true) H'
theorem end_facts {w : World} {K : PySem.W.Frag} {h : Heap} {mg : Str → Option Value} {f : Addr} (X : K.In h) (G : h.Ns mainGlobals mg) (hfa : mg ("law" : Str) = some (.ref f)) (s : SaysX K) :
    ∃ fd : FuncData, (∀ (s : Shared) (v : Value), BindsTo s fd ⟨[v], []⟩ [("_law_script", v)]) ∧ ∀ base : Heap, K.In base → base.Ns mainGlobals mg → FnOk PR w K mg base CX0 16 f fd ["_law_script"] (spEnd K) := by
  have s1 : He.SaysD fa fn K := congrArg (fun z : AlX => z.1) s
  obtain ⟨fd, F⟩ := s1.def_ 56 (d := df_law) rfl
  have e := hfa.symm.trans (He.glo_ok X G (s1.fact 49 (f := .glo "law") rfl)) -- 56
  cases e
  have b := FunD.bindsA (ps := ["_law_script"]) F fun _ _ _ _ _ _ us hl => match us, hl with | [_], _ => rfl
  refine ⟨fd, fun s v => b s [v] rfl, fun base KB GB => ?_⟩
  obtain ⟨c, e1, e2, e3, e4, T⟩ := fx_says (w := w) (mg := mg) (base := base) X G s
  subst e1 e2 e3 e4
  exact ok_law T F
end Cl
open PySem PySem.W PySem.Calls PyProof.Rows
theorem PySem.Challenge.cw_carrylog_k29_whole_count_of_safe_words_holds : PySem.Challenge.rw_carrylog_k29_whole_count_of_safe_words.Holds := by
  w_on; o_law
  refine HandSHeadRun.head_imp (r := OpenLaw.row PySem.Challenge.rw_carrylog_k29_whole_count_of_safe_words) (q := view (OpenLaw.row PySem.Challenge.rw_carrylog_k29_whole_count_of_safe_words).prog [0, 62]) (H := Cl.hookX) (ob := Cl.ob) (M := 6000) (loose := Cl.names1 ++ Cl.names2) (d := HandSHeadRun.topDef (OpenLaw.row PySem.Challenge.rw_carrylog_k29_whole_count_of_safe_words).prog 62) (kwd := []) Cl.ob_eq Cl.run
    (by kernel_rfl) (by kernel_rfl) (by kernel_rfl) (by rfl) (by first | assumption | decide +kernel) (by decide +kernel) ⟨rfl, rfl, rfl, rfl, rfl, by decide +kernel⟩ ?hw ?hc
  case hw => w_witness2
  case hc =>
    refine L2.walk_ofE (l := PySem.Challenge.rw_carrylog_k29_whole_count_of_safe_words) (n := 63) (k := 16) (x := "_law_script") (CX := L2.CX0) rfl (by decide) (by kernel_rfl) ⟨rfl, by decide, by decide⟩ ?F (fun _ _ _ _ z => z)
    intro w mg fa h Y G hmg0
    obtain ⟨K, KX, c⟩ := Y
    have hmg : mg ("law" : PySem.Str) = some (.ref fa) := by
      have e : (HandSHeadRun.topDef (OpenLaw.row PySem.Challenge.rw_carrylog_k29_whole_count_of_safe_words).prog 62).name = ("law" : PySem.Str) := by kernel_rfl
      rw [← e]
      exact hmg0
    obtain ⟨fd, hb, hF⟩ := Cl.end_facts (w := w) KX G hmg c
    exact ⟨K, fd, Cl.spEnd K, KX, hb, fun H a ns hl _ hS => ⟨a, ns, rfl, hS, hl, fun _ => rfl⟩, hF⟩
