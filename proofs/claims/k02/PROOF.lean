import PyProof.Rows.All
import Wide.All
import OpenK.AllK
import Wide.FinOn
import HandS.ForMost
import HandS.Evl
import HandS.Walk
import HandS.IsInst
import HandS.Wide
import HandS.SortInts
import HandS.Style
import HandS.Flow
import HandS.Conv
import HandS.SetFor
import HandS.Deep
import HandS.Flt
import HandS.More
import PySem.Challenge.RW_turnabove_k02_round_by_hand
set_option Elab.async false
set_option linter.all false
set_option maxRecDepth 100000
set_option maxHeartbeats 4000000
namespace TA
/-! binomials, orders of counts -/
def fact : Nat → Nat
  | 0 => 1
  | n + 1 => (n + 1) * fact n
theorem fact_pos : ∀ n, 0 < fact n
  | 0 => Nat.one_pos
  | n + 1 => Nat.mul_pos (Nat.succ_pos n) (fact_pos n)
def ch : Nat → Nat → Nat
  | _, 0 => 1
  | 0, _ + 1 => 0
  | n + 1, k + 1 => ch n k + ch n (k + 1)
theorem ch_zero (n : Nat) : ch n 0 = 1 := by cases n <;> rfl
theorem ch_gt : ∀ n k, n < k → ch n k = 0
  | 0, 0, h => absurd h (Nat.lt_irrefl 0)
  | 0, k + 1, _ => rfl
  | n + 1, 0, h => absurd h (Nat.not_lt_zero _)
  | n + 1, k + 1, h => by
    show ch n k + ch n (k + 1) = 0
    rw [ch_gt n k (by omega), ch_gt n (k + 1) (by omega)]
theorem ch_succ : ∀ n k, (k + 1) * ch (n + 1) (k + 1) = (n + 1) * ch n k
  | 0, 0 => rfl
  | 0, k + 1 => by
    show (k + 1 + 1) * (ch 0 (k + 1) + ch 0 (k + 1 + 1)) = _
    rw [ch_gt 0 (k + 1) (by omega), ch_gt 0 (k + 1 + 1) (by omega)]
    simp
  | n + 1, 0 => by
    have h := ch_succ n 0
    show (0 + 1) * (ch (n + 1) 0 + ch (n + 1) (0 + 1)) = (n + 1 + 1) * ch (n + 1) 0
    rw [ch_zero] at *
    omega
  | n + 1, k + 1 => by
    have h1 := ch_succ n k
    have h2 := ch_succ n (k + 1)
    show (k + 1 + 1) * (ch (n + 1) (k + 1) + ch (n + 1) (k + 1 + 1)) = (n + 1 + 1) * ch (n + 1) (k + 1)
    have e : ch (n + 1) (k + 1) = ch n k + ch n (k + 1) := rfl
    rw [Nat.mul_add, h2]
    have : (k + 1 + 1) * ch (n + 1) (k + 1) = (k + 1) * ch (n + 1) (k + 1) + ch (n + 1) (k + 1) := by rw [Nat.add_mul, Nat.one_mul]
    rw [this, h1]
    have : (n + 1 + 1) * ch (n + 1) (k + 1) = (n + 1) * ch (n + 1) (k + 1) + ch (n + 1) (k + 1) := by rw [Nat.add_mul, Nat.one_mul]
    rw [this, e, Nat.mul_add]
    omega
theorem ch_fact : ∀ m c, ch (m + c) c * (fact m * fact c) = fact (m + c)
  | m, 0 => by rw [ch_zero]; show 1 * (fact m * 1) = fact m; omega
  | m, c + 1 => by
    have h := ch_fact m c
    have s := ch_succ (m + c) c
    show ch (m + c + 1) (c + 1) * (fact m * ((c + 1) * fact c)) = (m + c + 1) * fact (m + c)
    rw [← h]
    have : ch (m + c + 1) (c + 1) * (fact m * ((c + 1) * fact c)) = ((c + 1) * ch (m + c + 1) (c + 1)) * (fact m * fact c) := by
      simp only [Nat.mul_assoc, Nat.mul_comm, Nat.mul_left_comm]
    rw [this, s, Nat.mul_assoc]
/-- the orders of counts, m steps standing already -/
def mu : Nat → List Nat → Nat
  | _, [] => 1
  | m, c :: cs => ch (m + c) c * mu (m + c) cs
def pf : List Nat → Nat
  | [] => 1
  | c :: cs => fact c * pf cs
theorem pf_pos : ∀ cs, 0 < pf cs
  | [] => Nat.one_pos
  | c :: cs => Nat.mul_pos (fact_pos c) (pf_pos cs)
theorem mu_fact : ∀ cs m, mu m cs * (fact m * pf cs) = fact (m + cs.sum)
  | [], m => by show 1 * (fact m * 1) = _; simp
  | c :: cs, m => by
    have h := mu_fact cs (m + c)
    have k := ch_fact m c
    rw [List.sum_cons, ← Nat.add_assoc, ← h, ← k]
    show ch (m + c) c * mu (m + c) cs * (fact m * (fact c * pf cs)) = _
    simp only [Nat.mul_assoc, Nat.mul_comm, Nat.mul_left_comm]
theorem mu_pf (cs : List Nat) : mu 0 cs * pf cs = fact cs.sum := by
  have h := mu_fact cs 0
  rw [Nat.zero_add] at h
  rw [← h]
  show _ = mu 0 cs * (1 * pf cs)
  rw [Nat.one_mul]
/-- one fewer at a place -/
def less (cs : List Nat) (i : Nat) : List Nat := cs.set i (cs.getD i 0 - 1)
theorem pf_less : ∀ (cs : List Nat) (i : Nat), 0 < cs.getD i 0 → pf cs = cs.getD i 0 * pf (less cs i)
  | [], i, h => by simp at h
  | c :: cs, 0, h => by
    have h' : 0 < c := h
    show fact c * pf cs = c * (fact (c - 1) * pf cs)
    rw [← Nat.mul_assoc]
    congr 1
    cases c with
    | zero => omega
    | succ c => rfl
  | c :: cs, i + 1, h => by
    have ih := pf_less cs i h
    show fact c * pf cs = cs.getD i 0 * (fact c * pf (less cs i))
    rw [ih]
    simp only [Nat.mul_assoc, Nat.mul_comm, Nat.mul_left_comm]
theorem sum_less : ∀ (cs : List Nat) (i : Nat), 0 < cs.getD i 0 → (less cs i).sum + 1 = cs.sum
  | [], i, h => by simp at h
  | c :: cs, 0, h => by
    have h' : 0 < c := h
    show (c - 1) + cs.sum + 1 = c + cs.sum
    omega
  | c :: cs, i + 1, h => by
    have ih := sum_less cs i h
    show c + (less cs i).sum + 1 = c + cs.sum
    omega
/-- orders with one fewer -/
theorem mu_less (cs : List Nat) (i : Nat) (h : 0 < cs.getD i 0) : cs.sum * mu 0 (less cs i) = cs.getD i 0 * mu 0 cs := by
  have a := mu_pf cs
  have b := mu_pf (less cs i)
  have s := sum_less cs i h
  have p := pf_less cs i h
  rw [← s] at a
  have a' : mu 0 cs * pf cs = ((less cs i).sum + 1) * fact (less cs i).sum := a
  rw [← b, p, s] at a'
  refine Nat.eq_of_mul_eq_mul_right (pf_pos (less cs i)) ?_
  rw [Nat.mul_assoc, ← a']
  simp only [Nat.mul_assoc, Nat.mul_comm, Nat.mul_left_comm]
end TA
namespace TA
/-- what counted steps come to, the first of them k -/
def htF : Int → List Nat → Int
  | _, [] => 0
  | k, c :: cs => k * (c : Int) + htF (k + 1) cs
abbrev ht (cs : List Nat) : Int := htF (-4) cs
def howMany (cs : List Nat) : Int := (if 0 < ht cs then ht cs else 0) * (mu 0 cs : Int) / (cs.sum : Int)
def ways1 (cs : List Nat) (i : Nat) : Nat := if 0 < cs.getD i 0 then mu 0 (less cs i) else 0
theorem ways1_mul (cs : List Nat) (i : Nat) : cs.sum * ways1 cs i = cs.getD i 0 * mu 0 cs := by
  unfold ways1
  by_cases h : 0 < cs.getD i 0
  · rw [if_pos h, mu_less cs i h]
  · rw [if_neg h, show cs.getD i 0 = 0 by omega]
    simp
theorem six {cs : List Nat} (h : cs.length = 6) : ∃ a b c d e f, cs = [a, b, c, d, e, f] := by
  match cs, h with
  | [a, b, c, d, e, f], _ => exact ⟨a, b, c, d, e, f, rfl⟩
theorem ht6 (a b c d e f : Nat) : ht [a, b, c, d, e, f] = -4 * a + -3 * b + -2 * c + -1 * d + f := by
  simp [htF]
  omega
theorem ht_mul {cs : List Nat} (h : cs.length = 6) : ∃ q : Int, ht cs * (mu 0 cs : Int) = (cs.sum : Int) * q := by
  obtain ⟨a, b, c, d, e, f, rfl⟩ := six h
  have w0 := ways1_mul [a, b, c, d, e, f] 0
  have w1 := ways1_mul [a, b, c, d, e, f] 1
  have w2 := ways1_mul [a, b, c, d, e, f] 2
  have w3 := ways1_mul [a, b, c, d, e, f] 3
  have w5 := ways1_mul [a, b, c, d, e, f] 5
  simp only [List.getD_cons_zero, List.getD_cons_succ] at w0 w1 w2 w3 w5
  generalize ways1 [a, b, c, d, e, f] 0 = x0 at *
  generalize ways1 [a, b, c, d, e, f] 1 = x1 at *
  generalize ways1 [a, b, c, d, e, f] 2 = x2 at *
  generalize ways1 [a, b, c, d, e, f] 3 = x3 at *
  generalize ways1 [a, b, c, d, e, f] 5 = x5 at *
  rw [ht6]
  generalize mu 0 [a, b, c, d, e, f] = m at *
  generalize [a, b, c, d, e, f].sum = n at *
  refine ⟨-4 * x0 + -3 * x1 + -2 * x2 + -1 * x3 + x5, ?_⟩
  have e0 : (n : Int) * x0 = a * m := by exact_mod_cast w0
  have e1 : (n : Int) * x1 = b * m := by exact_mod_cast w1
  have e2 : (n : Int) * x2 = c * m := by exact_mod_cast w2
  have e3 : (n : Int) * x3 = d * m := by exact_mod_cast w3
  have e5 : (n : Int) * x5 = f * m := by exact_mod_cast w5
  grind
theorem hm_mul {cs : List Nat} (h : cs.length = 6) (hn : 0 < cs.sum) : (cs.sum : Int) * howMany cs = (if 0 < ht cs then ht cs else 0) * (mu 0 cs : Int) := by
  obtain ⟨q, e⟩ := ht_mul h
  unfold howMany
  by_cases hp : 0 < ht cs
  · rw [if_pos hp, e, Int.mul_ediv_cancel_left _ (by omega)]
  · rw [if_neg hp]
    simp
theorem hm_zero {cs : List Nat} (hp : ht cs ≤ 0) : howMany cs = 0 := by
  unfold howMany
  rw [if_neg (by omega)]
  simp
theorem less_len (cs : List Nat) (i : Nat) : (less cs i).length = cs.length := by
  unfold less
  simp
theorem htF_less : ∀ (cs : List Nat) (k : Int) (i : Nat), 0 < cs.getD i 0 → htF k (less cs i) = htF k cs - (k + i)
  | [], k, i, h => by simp at h
  | c :: cs, k, 0, h => by
    have h' : 0 < c := h
    show k * ((c - 1 : Nat) : Int) + htF (k + 1) cs = k * (c : Int) + htF (k + 1) cs - (k + 0)
    have : ((c - 1 : Nat) : Int) = (c : Int) - 1 := by omega
    rw [this, Int.mul_sub]
    omega
  | c :: cs, k, i + 1, h => by
    have ih := htF_less cs (k + 1) i h
    show k * (c : Int) + htF (k + 1) (less cs i) = k * (c : Int) + htF (k + 1) cs - (k + ((i + 1 : Nat) : Int))
    rw [ih]
    omega
/-- rows by their last step: none where the rest does not stay above -/
def lastW (cs : List Nat) (i : Nat) : Int := if 0 < cs.getD i 0 then howMany (less cs i) else 0
theorem lastW_mul {cs : List Nat} (h : cs.length = 6) (hn : 1 < cs.sum) (hh : 0 < ht cs) {i : Nat} (hi : i < 6) :
    ((cs.sum : Int) * ((cs.sum : Int) - 1)) * lastW cs i = (ht cs - (-4 + (i : Int))) * (cs.getD i 0 : Int) * (mu 0 cs : Int) := by
  unfold lastW
  by_cases hc : 0 < cs.getD i 0
  · rw [if_pos hc]
    have s := sum_less cs i hc
    have e1 := hm_mul (cs := less cs i) (by rw [less_len]; exact h) (by omega)
    have eh := htF_less cs (-4) i hc
    have w := mu_less cs i hc
    have e2 : (if 0 < ht (less cs i) then ht (less cs i) else 0) = ht cs - (-4 + (i : Int)) := by
      rw [show ht (less cs i) = ht cs - (-4 + (i : Int)) from eh]
      by_cases hz : 0 < ht cs - (-4 + (i : Int))
      · rw [if_pos hz]
      · rw [if_neg hz]
        omega
    rw [e2] at e1
    have e3 : ((less cs i).sum : Int) = (cs.sum : Int) - 1 := by omega
    rw [e3] at e1
    have w' : (cs.sum : Int) * (mu 0 (less cs i) : Int) = (cs.getD i 0 : Int) * (mu 0 cs : Int) := by exact_mod_cast w
    rw [Int.mul_assoc, e1, Int.mul_left_comm, w', Int.mul_assoc]
  · rw [if_neg hc, show cs.getD i 0 = 0 by omega]
    simp
theorem hm_last {cs : List Nat} (h : cs.length = 6) (hn : 1 < cs.sum) (hh : 0 < ht cs) :
    lastW cs 0 + lastW cs 1 + lastW cs 2 + lastW cs 3 + lastW cs 4 + lastW cs 5 = howMany cs := by
  have m0 := lastW_mul h hn hh (i := 0) (by omega)
  have m1 := lastW_mul h hn hh (i := 1) (by omega)
  have m2 := lastW_mul h hn hh (i := 2) (by omega)
  have m3 := lastW_mul h hn hh (i := 3) (by omega)
  have m4 := lastW_mul h hn hh (i := 4) (by omega)
  have m5 := lastW_mul h hn hh (i := 5) (by omega)
  have m := hm_mul h (by omega)
  rw [if_pos hh] at m
  have hs : (cs.sum : Int) = (cs.getD 0 0 : Int) + cs.getD 1 0 + cs.getD 2 0 + cs.getD 3 0 + cs.getD 4 0 + cs.getD 5 0 := by
    obtain ⟨a, b, c, d, e, f, rfl⟩ := six h
    simp
    omega
  have hht : ht cs = -4 * (cs.getD 0 0 : Int) + -3 * cs.getD 1 0 + -2 * cs.getD 2 0 + -1 * cs.getD 3 0 + cs.getD 5 0 := by
    obtain ⟨a, b, c, d, e, f, rfl⟩ := six h
    rw [ht6]
    simp
  have hn' : 1 < (cs.sum : Int) := by omega
  generalize lastW cs 0 = x0 at *
  generalize lastW cs 1 = x1 at *
  generalize lastW cs 2 = x2 at *
  generalize lastW cs 3 = x3 at *
  generalize lastW cs 4 = x4 at *
  generalize lastW cs 5 = x5 at *
  generalize howMany cs = y at *
  generalize (mu 0 cs : Int) = q at *
  generalize ht cs = t at *
  generalize (cs.getD 0 0 : Int) = c0 at *
  generalize (cs.getD 1 0 : Int) = c1 at *
  generalize (cs.getD 2 0 : Int) = c2 at *
  generalize (cs.getD 3 0 : Int) = c3 at *
  generalize (cs.getD 4 0 : Int) = c4 at *
  generalize (cs.getD 5 0 : Int) = c5 at *
  generalize (cs.sum : Int) = n at *
  have key : (n * (n - 1)) * (x0 + x1 + x2 + x3 + x4 + x5) = (n * (n - 1)) * y := by
    have r : (n * (n - 1)) * y = (n - 1) * (t * q) := by rw [← m]; grind
    rw [r]
    simp only [Int.mul_add, m0, m1, m2, m3, m4, m5]
    grind
  have nz : n * (n - 1) ≠ 0 := by
    intro z
    rcases Int.mul_eq_zero.mp z with z | z <;> omega
  exact Int.eq_of_mul_eq_mul_left nz key
end TA
namespace TA
/-! rows, turns, falls -/
def fallFrom : Int → Nat → List Int → Option Nat
  | _, _, [] => none
  | h, a, s :: r => if h + s ≤ 0 then some (a + 1) else fallFrom (h + s) (a + 1) r
abbrev fallOf (row : List Int) : Option Nat := fallFrom 0 0 row
def rot (row : List Int) (t : Nat) : List Int := row.drop t ++ row.take t
def stB (row : List Int) (t : Nat) : Bool := (fallOf (rot row t)).isNone
def stayOf (row : List Int) : List Nat := (List.range row.length).filter (stB row)
def pre (row : List Int) (p : Nat) : Int := (row.take p).sum
theorem pre_zero (row : List Int) : pre row 0 = 0 := rfl
theorem pre_full (row : List Int) : pre row row.length = row.sum := by
  unfold pre
  rw [List.take_length]
theorem pre_succ {row : List Int} {p : Nat} (h : p < row.length) : pre row (p + 1) = pre row p + row[p] := by
  unfold pre
  rw [List.take_add_one, List.sum_append, List.getElem?_eq_getElem h]
  simp
theorem fallFrom_none : ∀ (l : List Int) (h : Int) (a : Nat), fallFrom h a l = none ↔ ∀ k, 1 ≤ k → k ≤ l.length → 0 < h + (l.take k).sum
  | [], h, a => by
    constructor
    · intro _ k h1 h2
      simp at h2
      omega
    · intro _
      rfl
  | s :: r, h, a => by
    have ih := fallFrom_none r (h + s) (a + 1)
    show (if h + s ≤ 0 then some (a + 1) else fallFrom (h + s) (a + 1) r) = none ↔ _
    by_cases c : h + s ≤ 0
    · rw [if_pos c]
      constructor
      · intro z; cases z
      · intro z
        have := z 1 (by omega) (by simp)
        simp at this
        omega
    · rw [if_neg c, ih]
      constructor
      · intro z k h1 h2
        cases k with
        | zero => omega
        | succ k =>
          rw [List.take_succ_cons, List.sum_cons]
          by_cases hk : k = 0
          · subst hk
            simp
            omega
          · have := z k (by omega) (by simpa using h2)
            omega
      · intro z k h1 h2
        have := z (k + 1) (by omega) (by simpa using h2)
        rw [List.take_succ_cons, List.sum_cons] at this
        omega
/-- a fall is told: so many first steps, which come to nought or less -/
theorem fallFrom_some : ∀ (l : List Int) (h : Int) (a k : Nat), fallFrom h a l = some k → a + 1 ≤ k ∧ k ≤ a + l.length ∧ h + (l.take (k - a)).sum ≤ 0
  | [], h, a, k, e => by cases e
  | s :: r, h, a, k, e => by
    have e' : (if h + s ≤ 0 then some (a + 1) else fallFrom (h + s) (a + 1) r) = some k := e
    by_cases c : h + s ≤ 0
    · rw [if_pos c] at e'
      cases e'
      refine ⟨Nat.le_refl _, by simp, ?_⟩
      rw [show a + 1 - a = 1 by omega]
      simpa using c
    · rw [if_neg c] at e'
      obtain ⟨h1, h2, h3⟩ := fallFrom_some r (h + s) (a + 1) k e'
      refine ⟨by omega, by simp; omega, ?_⟩
      rw [show k - a = (k - (a + 1)) + 1 by omega, List.take_succ_cons, List.sum_cons]
      omega
theorem rot_len (row : List Int) (t : Nat) : (rot row t).length = row.length := by
  unfold rot
  simp
  omega
theorem rot_zero (row : List Int) : rot row 0 = row := by simp [rot]
theorem rot_take (row : List Int) {t k : Nat} (ht : t ≤ row.length) (hk : k ≤ row.length) :
    ((rot row t).take k).sum = if t + k ≤ row.length then pre row (t + k) - pre row t else row.sum - pre row t + pre row (t + k - row.length) := by
  unfold rot pre
  have e1 : (row.drop t).sum = row.sum - (row.take t).sum := by
    have := congrArg List.sum (List.take_append_drop t row)
    rw [List.sum_append] at this
    omega
  by_cases c : t + k ≤ row.length
  · rw [if_pos c, List.take_append_of_le_length (by simp; omega), List.take_drop]
    have := congrArg List.sum (List.take_append_drop t (row.take (t + k)))
    rw [List.sum_append, List.take_take, Nat.min_eq_left (by omega)] at this
    omega
  · rw [if_neg c, List.take_append, List.take_of_length_le (by simp; omega), List.sum_append, e1, List.take_take, List.length_drop, Nat.min_eq_left (by omega)]
    rw [show k - (row.length - t) = t + k - row.length by omega]
theorem stB_iff {row : List Int} {t : Nat} (ht : t < row.length) :
    stB row t = true ↔ (∀ q, t < q → q ≤ row.length → pre row t < pre row q) ∧ (∀ q, q ≤ t → pre row t < pre row q + row.sum) := by
  unfold stB
  rw [Option.isNone_iff_eq_none, fallFrom_none]
  rw [rot_len]
  constructor
  · intro z
    have a : ∀ q, t < q → q ≤ row.length → pre row t < pre row q := by
      intro q h1 h2
      have := z (q - t) (by omega) (by omega)
      rw [rot_take row (by omega) (by omega), if_pos (by omega), show t + (q - t) = q by omega] at this
      omega
    refine ⟨a, ?_⟩
    intro q hq
    by_cases h0 : q = 0
    · subst h0
      have := a row.length ht (Nat.le_refl _)
      rw [pre_full] at this
      rw [pre_zero]
      omega
    · have := z (q + row.length - t) (by omega) (by omega)
      rw [rot_take row (by omega) (by omega), if_neg (by omega), show t + (q + row.length - t) - row.length = q by omega] at this
      omega
  · rintro ⟨a, b⟩ k h1 h2
    rw [rot_take row (by omega) (by omega)]
    by_cases c : t + k ≤ row.length
    · rw [if_pos c]
      have := a (t + k) (by omega) c
      omega
    · rw [if_neg c]
      have := b (t + k - row.length) (by omega)
      omega
/-! the program's way: places from behind, each below all later heights -/
def scan (row : List Int) : Nat → List Nat × Int
  | 0 => ([], row.sum)
  | i + 1 => if pre row (row.length - 1 - i) < (scan row i).2 then ((scan row i).1 ++ [row.length - 1 - i], pre row (row.length - 1 - i)) else scan row i
structure ScanOk (row : List Int) (i : Nat) (s : List Nat × Int) : Prop where
  att : ∃ r, row.length - i ≤ r ∧ r ≤ row.length ∧ pre row r = s.2
  low : ∀ r, row.length - i ≤ r → r ≤ row.length → s.2 ≤ pre row r
  mem : ∀ q, q ∈ s.1 ↔ row.length - i ≤ q ∧ q < row.length ∧ ∀ r, q < r → r ≤ row.length → pre row q < pre row r
  hts : s.1.map (pre row) = (List.range (row.sum - s.2).toNat).map (fun (j : Nat) => row.sum - 1 - (j : Int))
  le : s.2 ≤ row.sum
  desc : s.1.Pairwise (fun a b => b < a)
theorem scan_ok {row : List Int} (h1 : ∀ s ∈ row, s ≤ 1) : ∀ i, i ≤ row.length → ScanOk row i (scan row i)
  | 0, _ => by
    refine ⟨⟨row.length, by omega, by omega, pre_full row⟩, ?_, ?_, ?_, ?_, ?_⟩
    · intro r a b
      rw [show r = row.length by omega, pre_full]
      exact Int.le_refl _
    · intro q
      constructor
      · intro z; cases z
      · rintro ⟨a, b, _⟩; omega
    · show [] = (List.range (row.sum - row.sum).toNat).map _
      rw [Int.sub_self]
      rfl
    · exact Int.le_refl _
    · exact List.Pairwise.nil
  | i + 1, hi => by
    have I := scan_ok h1 i (by omega)
    have pl : row.length - 1 - i < row.length := by omega
    have ep : row.length - (i + 1) = row.length - 1 - i := by omega
    have en : row.length - i = row.length - 1 - i + 1 := by omega
    have hstep : pre row (row.length - i) ≤ pre row (row.length - 1 - i) + 1 := by
      rw [en, pre_succ pl]
      have := h1 _ (List.getElem_mem pl)
      omega
    have lo1 := I.low (row.length - i) (by omega) (by omega)
    unfold scan
    generalize hp : row.length - 1 - i = p at *
    by_cases c : pre row p < (scan row i).2
    · rw [if_pos c]
      have es : (scan row i).2 = pre row p + 1 := by omega
      refine ⟨⟨p, by omega, by omega, rfl⟩, ?_, ?_, ?_, ?_, ?_⟩
      · intro r a b
        show pre row p ≤ pre row r
        by_cases hr : r = p
        · rw [hr]; exact Int.le_refl _
        · have := I.low r (by omega) b
          omega
      · intro q
        show q ∈ (scan row i).1 ++ [p] ↔ _
        rw [List.mem_append, List.mem_singleton, I.mem q]
        constructor
        · rintro (⟨a, b, d⟩ | rfl)
          · exact ⟨by omega, b, d⟩
          · refine ⟨by omega, pl, fun r a b => ?_⟩
            have := I.low r (by omega) b
            omega
        · rintro ⟨a, b, d⟩
          by_cases hq : q = p
          · exact .inr hq
          · exact .inl ⟨by omega, b, d⟩
      · show ((scan row i).1 ++ [p]).map (pre row) = (List.range (row.sum - pre row p).toNat).map _
        have hle := I.le
        rw [List.map_append, I.hts, show (row.sum - pre row p).toNat = (row.sum - (scan row i).2).toNat + 1 by omega, List.range_succ, List.map_append]
        congr 1
        simp
        omega
      · show pre row p ≤ row.sum
        have hle := I.le
        omega
      · show ((scan row i).1 ++ [p]).Pairwise _
        rw [List.pairwise_append]
        refine ⟨I.desc, by simp, fun a ha b hb => ?_⟩
        rw [List.mem_singleton] at hb
        have := ((I.mem a).mp ha).1
        omega
    · rw [if_neg c]
      refine ⟨?_, ?_, ?_, I.hts, I.le, I.desc⟩
      · obtain ⟨r, a, b, d⟩ := I.att
        exact ⟨r, by omega, b, d⟩
      · intro r a b
        by_cases hr : r = p
        · rw [hr]; omega
        · exact I.low r (by omega) b
      · intro q
        rw [I.mem q]
        constructor
        · rintro ⟨a, b, d⟩
          exact ⟨by omega, b, d⟩
        · rintro ⟨a, b, d⟩
          refine ⟨?_, b, d⟩
          by_cases hq : q = p
          · exfalso
            subst hq
            obtain ⟨r, a', b', d'⟩ := I.att
            have := d r (by omega) b'
            omega
          · omega
theorem range_from : ∀ (L k : Nat), ((List.range L).filter (fun j => decide (k ≤ j))).length = L - k
  | 0, k => by simp
  | L + 1, k => by
    rw [List.range_succ, List.filter_append, List.length_append, range_from L k]
    by_cases c : k ≤ L
    · simp [c]; omega
    · simp [c]; omega
/-- what the program tells: places of the scan whose height is below all heights one round on -/
def picked (row : List Int) : List Nat := ((scan row row.length).1).filter (fun p => decide (pre row p < (scan row row.length).2 + row.sum))
theorem picked_len {row : List Int} (h1 : ∀ s ∈ row, s ≤ 1) (hr : 0 < row.sum) : (picked row).length = row.sum.toNat := by
  have I := scan_ok h1 row.length (Nat.le_refl _)
  have l0 := I.low 0 (by omega) (by omega)
  rw [pre_zero] at l0
  unfold picked
  have e : ((scan row row.length).1.filter (fun p => decide (pre row p < (scan row row.length).2 + row.sum))).length
      = (((scan row row.length).1.map (pre row)).filter (fun x => decide (x < (scan row row.length).2 + row.sum))).length := by
    rw [List.filter_map, List.length_map]
    rfl
  rw [e, I.hts, List.filter_map, List.length_map]
  generalize (scan row row.length).2 = m at *
  have : ((fun x => decide (x < m + row.sum)) ∘ fun (j : Nat) => row.sum - 1 - (j : Int)) = fun j => decide ((-m).toNat ≤ j) := by
    funext j
    simp only [Function.comp]
    apply decide_eq_decide.mpr
    omega
  rw [this, range_from]
  omega
theorem mem_picked {row : List Int} (h1 : ∀ s ∈ row, s ≤ 1) (hr : 0 < row.sum) (q : Nat) : q ∈ picked row ↔ q ∈ stayOf row := by
  have I := scan_ok h1 row.length (Nat.le_refl _)
  unfold picked stayOf
  rw [List.mem_filter, List.mem_filter, I.mem q, List.mem_range, decide_eq_true_iff]
  constructor
  · rintro ⟨⟨_, b, d⟩, z⟩
    refine ⟨b, (stB_iff b).mpr ⟨d, fun r hr' => ?_⟩⟩
    have := I.low r (by omega) (by omega)
    omega
  · rintro ⟨b, z⟩
    obtain ⟨d, w⟩ := (stB_iff b).mp z
    refine ⟨⟨by omega, b, d⟩, ?_⟩
    obtain ⟨r, a', b', d'⟩ := I.att
    rw [← d']
    by_cases hq : r ≤ q
    · exact w r hq
    · have := d r (by omega) b'
      omega
theorem stayOf_sorted (row : List Int) : (stayOf row).Pairwise (fun a b => a < b) := List.Pairwise.filter _ List.pairwise_lt_range
theorem nodup_of_pw {l : List Nat} (h : l.Pairwise (fun a b => a < b)) : l.Nodup := h.imp (fun h => Nat.ne_of_lt h)
theorem picked_nodup {row : List Int} (h1 : ∀ s ∈ row, s ≤ 1) : (picked row).Nodup := by
  have I := scan_ok h1 row.length (Nat.le_refl _)
  exact List.Pairwise.filter _ (I.desc.imp (fun h => Nat.ne_of_gt h))
theorem picked_perm {row : List Int} (h1 : ∀ s ∈ row, s ≤ 1) (hr : 0 < row.sum) : (picked row).Perm (stayOf row) :=
  (List.perm_ext_iff_of_nodup (picked_nodup h1) (nodup_of_pw (stayOf_sorted row))).mpr (fun q => mem_picked h1 hr q)
theorem stayOf_none {row : List Int} (hr : row.sum ≤ 0) : stayOf row = [] := by
  rw [List.eq_nil_iff_forall_not_mem]
  intro q hq
  unfold stayOf at hq
  rw [List.mem_filter, List.mem_range] at hq
  obtain ⟨d, w⟩ := (stB_iff hq.1).mp hq.2
  have := w q (Nat.le_refl _)
  omega
/-- just as many turns stay above as the steps come to -/
theorem stayOf_len {row : List Int} (h1 : ∀ s ∈ row, s ≤ 1) : (stayOf row).length = row.sum.toNat := by
  by_cases hr : 0 < row.sum
  · rw [← (picked_perm h1 hr).length_eq, picked_len h1 hr]
  · rw [stayOf_none (by omega)]
    simp
    omega
end TA
namespace TA
/-! a Round told, and whether it is so -/
def stayI (rs : List Int) : List Int := (stayOf rs).map fun n : Nat => (n : Int)
def rangeI (n : Nat) : List Int := (List.range n).map fun i : Nat => (i : Int)
def isort (l : List Int) : List Int := l.mergeSort (fun a b => decide (a ≤ b))
theorem isort_perm (l : List Int) : (isort l).Perm l := List.mergeSort_perm l _
theorem isort_sorted (l : List Int) : (isort l).Pairwise (· ≤ ·) := by
  have h := List.pairwise_mergeSort (le := fun (a b : Int) => decide (a ≤ b)) (fun a b c h1 h2 => by simp at *; omega) (fun a b => by simp; omega) l
  exact h.imp (fun h => by simpa using h)
theorem sorted_uniq {ns ms : List Int} (hp : ns.Perm ms) (h1 : ns.Pairwise (· ≤ ·)) (h2 : ms.Pairwise (· ≤ ·)) : ns = ms := hp.eq_of_pairwise (fun a b _ _ x y => Int.le_antisymm x y) h1 h2
theorem isort_eq {ns ms : List Int} (hp : ns.Perm ms) (h2 : ms.Pairwise (· ≤ ·)) : isort ns = ms := sorted_uniq ((isort_perm ns).trans hp) (isort_sorted ns) h2
def fallsT (rs : List Int) (t m : Int) : Bool := decide (1 ≤ m) && decide (m ≤ rs.length) && decide (((rot rs t.toNat).take m.toNat).sum < 1)
def stT (rs : List Int) (t : Int) : Bool := decide (fallOf (rot rs t.toNat) = none)
def showsV (rs st : List Int) (fs : List (Int × Int)) : Bool :=
  decide (isort (st ++ fs.map Prod.fst) = rangeI rs.length) && decide (st = isort st) && st.all (stT rs) && fs.all (fun p => decide (1 ≤ p.2) && decide (p.2 ≤ rs.length)) && fs.all (fun p => decide (((rot rs p.1.toNat).take p.2.toNat).sum ≤ 0))
def isRoundV (rs st : List Int) (fs : List (Int × Int)) : Bool :=
  decide (st = stayI rs) && decide (isort (st ++ fs.map Prod.fst) = rangeI rs.length) && fs.all (fun p => fallsT rs p.1 p.2)
theorem stT_stB (rs : List Int) (t : Nat) : stT rs (t : Int) = stB rs t := by
  unfold stT stB
  rw [Int.toNat_natCast]
  cases fallOf (rot rs t) <;> rfl
theorem mem_stayI {rs : List Int} {t : Int} : t ∈ stayI rs ↔ 0 ≤ t ∧ t < rs.length ∧ stT rs t = true := by
  unfold stayI stayOf
  rw [List.mem_map]
  constructor
  · rintro ⟨n, hn, rfl⟩
    rw [List.mem_filter, List.mem_range] at hn
    refine ⟨by omega, by omega, ?_⟩
    rw [stT_stB]
    exact hn.2
  · rintro ⟨h0, h1, h2⟩
    refine ⟨t.toNat, ?_, by omega⟩
    rw [List.mem_filter, List.mem_range]
    refine ⟨by omega, ?_⟩
    rw [← stT_stB, show ((t.toNat : Nat) : Int) = t by omega]
    exact h2
theorem stayI_lt (rs : List Int) : (stayI rs).Pairwise (· < ·) := by
  unfold stayI
  rw [List.pairwise_map]
  exact (stayOf_sorted rs).imp (fun h => by omega)
theorem stayI_sorted (rs : List Int) : (stayI rs).Pairwise (· ≤ ·) := (stayI_lt rs).imp (fun h => Int.le_of_lt h)
theorem stayI_nodup (rs : List Int) : (stayI rs).Nodup := (stayI_lt rs).imp (fun h => by omega)
theorem rangeI_lt (n : Nat) : (rangeI n).Pairwise (· < ·) := by
  unfold rangeI
  rw [List.pairwise_map]
  exact List.pairwise_lt_range.imp (fun h => by omega)
theorem rangeI_nodup (n : Nat) : (rangeI n).Nodup := (rangeI_lt n).imp (fun h => by omega)
theorem mem_rangeI {n : Nat} {t : Int} : t ∈ rangeI n ↔ 0 ≤ t ∧ t < n := by
  unfold rangeI
  rw [List.mem_map]
  constructor
  · rintro ⟨i, hi, rfl⟩
    rw [List.mem_range] at hi
    omega
  · rintro ⟨h0, h1⟩
    exact ⟨t.toNat, List.mem_range.mpr (by omega), by omega⟩
/-- a turn of which some first steps fall does not stay -/
theorem falls_not {rs : List Int} {t m : Int} (h1 : 1 ≤ m) (h2 : m ≤ rs.length) (h : ((rot rs t.toNat).take m.toNat).sum ≤ 0) : stT rs t = false := by
  unfold stT
  rw [decide_eq_false_iff_not]
  intro z
  have := (fallFrom_none (rot rs t.toNat) 0 0).mp z m.toNat (by omega) (by rw [rot_len]; omega)
  omega
theorem shows_is (rs st : List Int) (fs : List (Int × Int)) : showsV rs st fs = isRoundV rs st fs := by
  rw [Bool.eq_iff_iff]
  unfold showsV isRoundV
  simp only [Bool.and_eq_true, decide_eq_true_eq, List.all_eq_true]
  constructor
  · rintro ⟨⟨⟨⟨hp, hs⟩, ha⟩, hm⟩, hf⟩
    have perm : (st ++ fs.map Prod.fst).Perm (rangeI rs.length) := by rw [← hp]; exact (isort_perm _).symm
    have nd : (st ++ fs.map Prod.fst).Nodup := perm.symm.nodup (rangeI_nodup _)
    refine ⟨⟨?_, hp⟩, fun p hp' => ?_⟩
    · refine sorted_uniq ?_ (by rw [hs]; exact isort_sorted _) (stayI_sorted rs)
      refine (List.perm_ext_iff_of_nodup (List.nodup_append.mp nd).1 (stayI_nodup rs)).mpr fun t => ?_
      rw [mem_stayI]
      constructor
      · intro ht
        have := mem_rangeI.mp (perm.mem_iff.mp (List.mem_append_left _ ht))
        exact ⟨this.1, this.2, ha t ht⟩
      · rintro ⟨h0, h1, h2⟩
        rcases List.mem_append.mp (perm.mem_iff.mpr (mem_rangeI.mpr ⟨h0, h1⟩)) with h | h
        · exact h
        · obtain ⟨p, hp', rfl⟩ := List.mem_map.mp h
          have a := hm p hp'
          have b := hf p hp'
          rw [falls_not a.1 a.2 b] at h2
          cases h2
    · have a := hm p hp'
      have b := hf p hp'
      unfold fallsT
      simp
      omega
  · rintro ⟨⟨hs, hp⟩, hf⟩
    refine ⟨⟨⟨⟨hp, ?_⟩, fun t ht => ?_⟩, fun p hp' => ?_⟩, fun p hp' => ?_⟩
    · rw [hs]
      exact (isort_eq (List.Perm.refl _) (stayI_sorted rs)).symm
    · rw [hs] at ht
      exact (mem_stayI.mp ht).2.2
    · have := hf p hp'
      unfold fallsT at this
      simp at this
      omega
    · have := hf p hp'
      unfold fallsT at this
      simp at this
      omega
def fallZ (o : Option Nat) : Int := ((o.getD 0 : Nat) : Int)
/-- the falls that the program tells -/
def fallsOf (rs : List Int) : List (Int × Int) := ((List.range rs.length).filter fun t => !stB rs t).map fun t : Nat => ((t : Int), fallZ (fallOf (rot rs t)))
theorem round_own (rs : List Int) : isRoundV rs (stayI rs) (fallsOf rs) = true := by
  unfold isRoundV
  simp only [Bool.and_eq_true, decide_eq_true_eq, List.all_eq_true]
  refine ⟨⟨trivial, ?_⟩, ?_⟩
  · refine isort_eq ?_ ((rangeI_lt _).imp (fun h => Int.le_of_lt h))
    unfold stayI fallsOf stayOf rangeI
    rw [List.map_map]
    have e : (Prod.fst ∘ fun t : Nat => ((t : Int), fallZ (fallOf (rot rs t)))) = fun t : Nat => (t : Int) := rfl
    rw [e, ← List.map_append]
    exact (List.filter_append_perm (stB rs) (List.range rs.length)).map _
  · intro p hp
    unfold fallsOf at hp
    obtain ⟨t, ht, rfl⟩ := List.mem_map.mp hp
    rw [List.mem_filter, List.mem_range] at ht
    have hb : stB rs t = false := by simpa using ht.2
    unfold stB at hb
    cases hf : fallOf (rot rs t) with
    | none => rw [hf] at hb; cases hb
    | some k =>
      obtain ⟨h1, h2, h3⟩ := fallFrom_some _ _ _ _ hf
      rw [rot_len] at h2
      unfold fallsT fallZ
      rw [Int.toNat_natCast]
      simp only [Option.getD_some, Int.toNat_natCast]
      rw [Nat.sub_zero] at h3
      simp
      omega
/-- one turn more that is told -/
theorem shows_more (rs st : List Int) (fs : List (Int × Int)) (h : isRoundV rs st fs = true) (z : Int) : showsV rs (st ++ [z]) fs = false := by
  rw [Bool.eq_false_iff]
  intro q
  unfold isRoundV at h
  unfold showsV at q
  simp only [Bool.and_eq_true, decide_eq_true_eq] at h q
  have a := congrArg List.length h.1.2
  have b := congrArg List.length q.1.1.1.1
  rw [(isort_perm _).length_eq] at a b
  simp only [List.length_append, List.length_cons, List.length_nil] at a b
  omega
/-! turned rows -/
theorem rot_get {row : List Int} {t i : Nat} (ht : t ≤ row.length) (hi : i < row.length) : (rot row t)[i]? = row[(t + i) % row.length]? := by
  unfold rot
  by_cases c : t + i < row.length
  · rw [List.getElem?_append_left (by simp; omega), List.getElem?_drop, Nat.mod_eq_of_lt c]
  · rw [List.getElem?_append_right (by simp; omega), List.length_drop, List.getElem?_take]
    have e : (t + i) % row.length = t + i - row.length := by
      rw [Nat.mod_eq_sub_mod (by omega), Nat.mod_eq_of_lt (by omega)]
    rw [e, if_pos (by omega)]
    congr 1
    omega
theorem rot_rot {row : List Int} {s t : Nat} (hs : s < row.length) (ht : t < row.length) : rot (rot row s) t = rot row ((s + t) % row.length) := by
  have hn : 0 < row.length := by omega
  apply List.ext_getElem?
  intro i
  by_cases hi : i < row.length
  · rw [rot_get (by rw [rot_len]; omega) (by rw [rot_len]; exact hi), rot_len, rot_get (Nat.le_of_lt hs) (Nat.mod_lt _ hn), rot_get (Nat.le_of_lt (Nat.mod_lt _ hn)) hi]
    congr 1
    rw [Nat.add_mod_mod, Nat.mod_add_mod]
    congr 1
    omega
  · rw [List.getElem?_eq_none (by rw [rot_len, rot_len]; omega), List.getElem?_eq_none (by rw [rot_len]; omega)]
theorem rot_sum (row : List Int) (s : Nat) : (rot row s).sum = row.sum := by
  unfold rot
  rw [List.sum_append, Int.add_comm, ← List.sum_append, List.take_append_drop]
theorem emod_add_n {x n : Int} (h1 : 0 ≤ x) (h2 : x < n) : (x + n) % n = x := by
  rw [Int.add_emod_right]
  exact Int.emod_eq_of_lt h1 h2
/-- the turns of a turned row -/
theorem stay_rot {row : List Int} {s : Nat} (hs : s < row.length) : isort ((stayI row).map fun t => (t - (s : Int)) % (row.length : Int)) = stayI (rot row s) := by
  have hn : (0 : Int) < row.length := by omega
  refine isort_eq ?_ (stayI_sorted _)
  refine (List.perm_ext_iff_of_nodup ?_ (stayI_nodup _)).mpr fun q => ?_
  · unfold List.Nodup
    rw [List.pairwise_map]
    refine (stayI_nodup row).imp_of_mem ?_
    intro a b ha hb hne z
    have a' := mem_stayI.mp ha
    have b' := mem_stayI.mp hb
    apply hne
    have h1 := Int.emod_emod_of_dvd (a - (s : Int)) (Int.dvd_refl (row.length : Int))
    have e : ((a - (s : Int)) - (b - (s : Int))) % (row.length : Int) = 0 := Int.emod_eq_emod_iff_emod_sub_eq_zero.mp z
    rw [show (a - (s : Int)) - (b - (s : Int)) = a - b by omega] at e
    obtain ⟨k, hk⟩ := Int.dvd_of_emod_eq_zero e
    have hk0 : k = 0 := by
      rcases Int.lt_trichotomy k 0 with h | h | h
      · have : (row.length : Int) * k ≤ (row.length : Int) * (-1) := Int.mul_le_mul_of_nonneg_left (by omega) (by omega)
        omega
      · exact h
      · have : (row.length : Int) * 1 ≤ (row.length : Int) * k := Int.mul_le_mul_of_nonneg_left (by omega) (by omega)
        omega
    rw [hk0] at hk
    omega
  · rw [mem_stayI, rot_len, List.mem_map]
    constructor
    · rintro ⟨t, ht, rfl⟩
      obtain ⟨h0, h1, h2⟩ := mem_stayI.mp ht
      have b0 := Int.emod_nonneg (t - (s : Int)) (Int.ne_of_gt hn)
      have b1 := Int.emod_lt_of_pos (t - (s : Int)) hn
      refine ⟨b0, b1, ?_⟩
      unfold stT at *
      rw [rot_rot hs (by omega)]
      have e : (s + ((t - (s : Int)) % (row.length : Int)).toNat) % row.length = t.toNat := by
        have : ((s + ((t - (s : Int)) % (row.length : Int)).toNat : Nat) : Int) % (row.length : Int) = t := by
          rw [Int.natCast_add, Int.toNat_of_nonneg b0, Int.add_emod_emod, show (s : Int) + (t - (s : Int)) = t by omega]
          exact Int.emod_eq_of_lt h0 h1
        omega
      rw [e]
      exact h2
    · rintro ⟨h0, h1, h2⟩
      have b0 := Int.emod_nonneg (q + (s : Int)) (Int.ne_of_gt hn)
      have b1 := Int.emod_lt_of_pos (q + (s : Int)) hn
      refine ⟨(q + (s : Int)) % (row.length : Int), mem_stayI.mpr ⟨b0, b1, ?_⟩, ?_⟩
      · unfold stT at *
        rw [rot_rot hs (by omega)] at h2
        have e : (s + q.toNat) % row.length = ((q + (s : Int)) % (row.length : Int)).toNat := by
          have : ((s + q.toNat : Nat) : Int) % (row.length : Int) = (q + (s : Int)) % (row.length : Int) := by
            rw [Int.natCast_add, Int.toNat_of_nonneg h0, Int.add_comm]
          omega
        rw [e] at h2
        exact h2
      · rw [Int.emod_sub_emod, show q + (s : Int) - (s : Int) = q by omega]
        exact Int.emod_eq_of_lt h0 h1
end TA
namespace TA
/-! turned rows that are alike -/
theorem rot_full (row : List Int) : rot row row.length = row := by
  unfold rot
  simp
def per (row : List Int) (w : Nat) : Bool := decide (row.length % w = 0) && decide (rot row w = row)
/-- the widths at which a row repeats itself -/
def widths (row : List Int) : List Nat := ((List.range row.length).map (· + 1)).filter (per row)
theorem mem_widths {row : List Int} {w : Nat} : w ∈ widths row ↔ 1 ≤ w ∧ w ≤ row.length ∧ per row w = true := by
  unfold widths
  rw [List.mem_filter, List.mem_map]
  constructor
  · rintro ⟨⟨i, hi, rfl⟩, h⟩
    rw [List.mem_range] at hi
    exact ⟨by omega, by omega, h⟩
  · rintro ⟨h1, h2, h3⟩
    exact ⟨⟨w - 1, List.mem_range.mpr (by omega), by omega⟩, h3⟩
def wide (row : List Int) : Nat := (widths row).headD 0
theorem widths_ne {row : List Int} (h : 1 ≤ row.length) : widths row ≠ [] := by
  intro z
  have : row.length ∈ widths row := mem_widths.mpr ⟨h, Nat.le_refl _, by unfold per; rw [rot_full]; simp⟩
  rw [z] at this
  cases this
theorem widths_lt (row : List Int) : (widths row).Pairwise (· < ·) := by
  unfold widths
  refine List.Pairwise.filter _ ?_
  rw [List.pairwise_map]
  exact List.pairwise_lt_range.imp (fun h => by omega)
theorem wide_mem {row : List Int} (h : 1 ≤ row.length) : wide row ∈ widths row := by
  unfold wide
  cases hw : widths row with
  | nil => exact absurd hw (widths_ne h)
  | cons a r => exact List.mem_cons_self
theorem wide_least {row : List Int} {w : Nat} (hw : w ∈ widths row) : wide row ≤ w := by
  have hp := widths_lt row
  unfold wide
  cases e : widths row with
  | nil => rw [e] at hw; cases hw
  | cons a r =>
    rw [e] at hw hp
    rcases List.mem_cons.mp hw with h | h
    · rw [h]; exact Nat.le_refl _
    · exact Nat.le_of_lt ((List.pairwise_cons.mp hp).1 w h)
theorem wide_ok {row : List Int} (h : 1 ≤ row.length) : 1 ≤ wide row ∧ wide row ≤ row.length ∧ row.length % wide row = 0 ∧ rot row (wide row) = row := by
  obtain ⟨h1, h2, h3⟩ := mem_widths.mp (wide_mem h)
  unfold per at h3
  rw [Bool.and_eq_true, decide_eq_true_eq, decide_eq_true_eq] at h3
  exact ⟨h1, h2, h3.1, h3.2⟩
theorem rot_times {row : List Int} {p : Nat} (hp : p < row.length) (h : rot row p = row) : ∀ k, rot row (k * p % row.length) = row
  | 0 => by rw [Nat.zero_mul, Nat.zero_mod, rot_zero]
  | k + 1 => by
    have ih := rot_times hp h k
    have hn : 0 < row.length := by omega
    have e := rot_rot (row := row) (s := k * p % row.length) (t := p) (Nat.mod_lt _ hn) hp
    rw [ih, h, Nat.mod_add_mod] at e
    rw [Nat.add_mul, Nat.one_mul]
    exact e.symm
theorem rot_rest {row : List Int} {p : Nat} (h1 : 1 ≤ p) (hp : p < row.length) (h : rot row p = row) (hr : 0 < row.length % p) : rot row (row.length % p) = row := by
  have hd := Nat.div_add_mod row.length p
  have e1 := rot_times hp h (row.length / p)
  have hlt : row.length / p * p < row.length := by
    rw [Nat.mul_comm]
    omega
  rw [Nat.mod_eq_of_lt hlt] at e1
  have hm : row.length % p < p := Nat.mod_lt _ h1
  have e2 := rot_rot (row := row) (s := row.length / p * p) (t := row.length % p) hlt (by omega)
  rw [e1] at e2
  rw [e2, show row.length / p * p + row.length % p = row.length by rw [Nat.mul_comm]; exact hd, Nat.mod_self, rot_zero]
/-- no shorter turn brings the row back -/
theorem no_shorter {row : List Int} (hn : 1 ≤ row.length) : ∀ p, 1 ≤ p → p < wide row → rot row p ≠ row := by
  intro p
  induction p using Nat.strongRecOn with
  | _ p ih =>
    intro h1 h2 h
    have hw := (wide_ok hn).2.1
    by_cases hr : row.length % p = 0
    · have : p ∈ widths row := mem_widths.mpr ⟨h1, by omega, by unfold per; rw [decide_eq_true hr, decide_eq_true h]; rfl⟩
      have := wide_least this
      omega
    · have hm : row.length % p < p := Nat.mod_lt _ h1
      exact ih (row.length % p) hm (by omega) (by omega) (rot_rest h1 (by omega) h (by omega))
theorem rot_inj {row : List Int} (hn : 1 ≤ row.length) {i j : Nat} (hij : i < j) (hj : j < wide row) : rot row i ≠ rot row j := by
  intro z
  have hw := (wide_ok hn).2.1
  by_cases hi : i = 0
  · subst hi
    rw [rot_zero] at z
    exact no_shorter hn j (by omega) hj z.symm
  · have e1 := rot_rot (row := row) (s := i) (t := row.length - i) (by omega) (by omega)
    have e2 := rot_rot (row := row) (s := j) (t := row.length - i) (by omega) (by omega)
    rw [z] at e1
    rw [e1] at e2
    rw [show i + (row.length - i) = row.length by omega, Nat.mod_self, rot_zero] at e2
    have e3 : (j + (row.length - i)) % row.length = j - i := by
      rw [show j + (row.length - i) = (j - i) + row.length by omega, Nat.add_mod_right, Nat.mod_eq_of_lt (by omega)]
    rw [e3] at e2
    exact no_shorter hn (j - i) (by omega) (by omega) e2.symm
theorem rot_mod {row : List Int} (hn : 1 ≤ row.length) {t : Nat} (ht : t < row.length) : rot row t = rot row (t % wide row) := by
  obtain ⟨h1, h2, h3, h4⟩ := wide_ok hn
  by_cases hw : wide row = row.length
  · rw [hw, Nat.mod_eq_of_lt ht]
  · have e1 := rot_times (p := wide row) (by omega) h4 (t / wide row)
    have hd := Nat.div_add_mod t (wide row)
    have hm : t % wide row < wide row := Nat.mod_lt _ h1
    have hlt : t / wide row * wide row < row.length := by
      rw [Nat.mul_comm]
      omega
    rw [Nat.mod_eq_of_lt hlt] at e1
    have e2 := rot_rot (row := row) (s := t / wide row * wide row) (t := t % wide row) hlt (by omega)
    rw [e1, show t / wide row * wide row + t % wide row = t by rw [Nat.mul_comm]; exact hd, Nat.mod_eq_of_lt ht] at e2
    exact e2.symm
theorem stB_mod {row : List Int} (hn : 1 ≤ row.length) {t : Nat} (ht : t < row.length) : stB row t = stB row (t % wide row) := by
  unfold stB
  rw [rot_mod hn ht]
/-- the unlike turned rows, by their first turns -/
def firsts (row : List Int) : List (List Int) := (List.range (wide row)).map (rot row)
/-- rows met so far, each once -/
def metRows (row : List Int) (t : Nat) : List (List Int) := (List.range (min t (wide row))).map (rot row)
theorem met_in {row : List Int} (hn : 1 ≤ row.length) {t : Nat} (ht : t < row.length) : (rot row t ∈ metRows row t ↔ wide row ≤ t) := by
  have hw := wide_ok hn
  unfold metRows
  rw [List.mem_map]
  constructor
  · rintro ⟨i, hi, e⟩
    rw [List.mem_range] at hi
    by_cases c : wide row ≤ t
    · exact c
    · exact absurd e (rot_inj hn (by omega) (by omega))
  · intro c
    have hm : t % wide row < wide row := Nat.mod_lt _ hw.1
    exact ⟨t % wide row, List.mem_range.mpr (by omega), (rot_mod hn ht).symm⟩
theorem met_more {row : List Int} (hn : 1 ≤ row.length) {t : Nat} (ht : t < row.length) : metRows row (t + 1) = if rot row t ∈ metRows row t then metRows row t else metRows row t ++ [rot row t] := by
  by_cases c : wide row ≤ t
  · rw [if_pos ((met_in hn ht).mpr c)]
    unfold metRows
    rw [Nat.min_eq_right c, Nat.min_eq_right (by omega)]
  · rw [if_neg (fun z => c ((met_in hn ht).mp z))]
    unfold metRows
    rw [Nat.min_eq_left (by omega), Nat.min_eq_left (by omega), List.range_succ, List.map_append]
    rfl
theorem met_all {row : List Int} (hn : 1 ≤ row.length) : metRows row row.length = firsts row := by
  unfold metRows firsts
  rw [Nat.min_eq_right (wide_ok hn).2.1]
/-- how many unlike ones stay above -/
def ups (row : List Int) : Nat := ((List.range (wide row)).filter (stB row)).length
theorem filter_range_lt {n d : Nat} (h : d ≤ n) (P : Nat → Bool) : ((List.range n).filter P).filter (fun t => decide (t < d)) = (List.range d).filter P := by
  obtain ⟨k, rfl⟩ := Nat.exists_eq_add_of_le h
  rw [List.range_add, List.filter_append, List.filter_append]
  have e1 : (List.filter P (List.range d)).filter (fun t => decide (t < d)) = (List.range d).filter P := List.filter_eq_self.mpr fun x hx => by
    have := List.mem_range.mp (List.mem_filter.mp hx).1
    simpa using this
  have e2 : (List.filter P ((List.range k).map fun x => d + x)).filter (fun t => decide (t < d)) = [] := by
    rw [List.filter_eq_nil_iff]
    intro x hx
    obtain ⟨i, _, rfl⟩ := List.mem_map.mp (List.mem_filter.mp hx).1
    simp
  rw [e1, e2, List.append_nil]
theorem filter_times {d : Nat} (P : Nat → Bool) : ∀ k, (∀ t, t < k * d → P t = P (t % d)) → ((List.range (k * d)).filter P).length = k * ((List.range d).filter P).length
  | 0, _ => by simp
  | k + 1, h => by
    by_cases hd : d = 0
    · subst hd
      simp
    · rw [Nat.add_mul, Nat.one_mul, List.range_add, List.filter_append, List.length_append, filter_times P k (fun t ht => h t (by rw [Nat.add_mul]; omega)), List.filter_map, List.length_map, Nat.add_mul, Nat.one_mul]
      congr 2
      apply List.filter_congr
      intro x hx
      have hx' := List.mem_range.mp hx
      show P (k * d + x) = P x
      rw [h (k * d + x) (by rw [Nat.add_mul]; omega), Nat.mul_add_mod_self_right, Nat.mod_eq_of_lt hx']
/-- as often as the row repeats -/
theorem ups_times {row : List Int} (hn : 1 ≤ row.length) : row.length / wide row * ups row = (stayOf row).length := by
  obtain ⟨h1, h2, h3, h4⟩ := wide_ok hn
  have hk : row.length / wide row * wide row = row.length := Nat.div_mul_cancel (Nat.dvd_of_mod_eq_zero h3)
  have := filter_times (d := wide row) (stB row) (row.length / wide row) (fun t ht => stB_mod hn (by rw [hk] at ht; exact ht))
  rw [hk] at this
  unfold stayOf ups
  rw [this]
theorem ups_firsts (row : List Int) : ((firsts row).filter fun l => (fallOf l).isNone).length = ups row := by
  unfold firsts ups
  rw [List.filter_map, List.length_map]
  rfl
theorem ups_stay {row : List Int} (hn : 1 ≤ row.length) : ((stayI row).filter fun t => decide (t < (wide row : Int))).length = ups row := by
  unfold stayI ups stayOf
  rw [List.filter_map, List.length_map, ← filter_range_lt (wide_ok hn).2.1 (stB row)]
  congr 2
  funext t
  show decide ((t : Int) < (wide row : Int)) = decide (t < wide row)
  exact decide_eq_decide.mpr (by omega)
end TA
namespace TA
/-! long rows: last places of heights; one step lowered -/
theorem pre_app_lo (a b : List Int) {q : Nat} (h : q ≤ a.length) : pre (a ++ b) q = pre a q := by
  unfold pre
  rw [List.take_append_of_le_length h]
theorem pre_app_hi (a b : List Int) {q : Nat} (h : a.length ≤ q) : pre (a ++ b) q = a.sum + pre b (q - a.length) := by
  unfold pre
  rw [List.take_append, List.take_of_length_le h, List.sum_append]
theorem pre3_lo (rs : List Int) {q : Nat} (h : q ≤ rs.length) : pre (rs ++ rs ++ rs) q = pre rs q := by
  rw [pre_app_lo _ _ (by simp; omega), pre_app_lo _ _ h]
theorem pre3_hi (rs : List Int) {q : Nat} (h1 : rs.length ≤ q) (h2 : q ≤ rs.length + rs.length) : pre (rs ++ rs ++ rs) q = rs.sum + pre rs (q - rs.length) := by
  rw [pre_app_lo _ _ (by simp; omega), pre_app_hi _ _ h1]
def lastB (rs : List Int) (t : Nat) : Bool := (List.range rs.length).all fun i => decide (pre (rs ++ rs ++ rs) t < pre (rs ++ rs ++ rs) (t + 1 + i))
theorem lastB_eq {rs : List Int} {t : Nat} (ht : t < rs.length) : lastB rs t = stB rs t := by
  rw [Bool.eq_iff_iff, stB_iff ht]
  unfold lastB
  rw [List.all_eq_true]
  simp only [List.mem_range, decide_eq_true_eq]
  rw [pre3_lo rs (Nat.le_of_lt ht)]
  constructor
  · intro h
    have a : ∀ q, t < q → q ≤ rs.length → pre rs t < pre rs q := fun q h1 h2 => by
      have := h (q - t - 1) (by omega)
      rw [show t + 1 + (q - t - 1) = q by omega, pre3_lo rs h2] at this
      exact this
    refine ⟨a, fun q hq => ?_⟩
    by_cases h0 : q = 0
    · subst h0
      have := a rs.length ht (Nat.le_refl _)
      rw [pre_full] at this
      rw [pre_zero]
      omega
    · have := h (q + rs.length - t - 1) (by omega)
      rw [show t + 1 + (q + rs.length - t - 1) = q + rs.length by omega, pre3_hi rs (by omega) (by omega), show q + rs.length - rs.length = q by omega] at this
      omega
  · rintro ⟨a, b⟩ i hi
    by_cases c : t + 1 + i ≤ rs.length
    · rw [pre3_lo rs c]
      exact a _ (by omega) c
    · rw [pre3_hi rs (by omega) (by omega)]
      have := b (t + 1 + i - rs.length) (by omega)
      omega
theorem pre_set {rs : List Int} {j : Nat} {x y : Int} (hj : rs[j]? = some y) : ∀ q, q ≤ rs.length → pre (rs.set j x) q = pre rs q + (if j < q then x - y else 0)
  | 0, _ => by rw [pre_zero, pre_zero, if_neg (Nat.not_lt_zero _)]; rfl
  | q + 1, h => by
    have ih := pre_set (x := x) hj q (by omega)
    have hl : (rs.set j x).length = rs.length := List.length_set
    rw [pre_succ (by rw [hl]; omega), pre_succ (by omega), ih, List.getElem_set]
    obtain ⟨hj', e⟩ := List.getElem?_eq_some_iff.mp hj
    by_cases c : j = q
    · subst c
      rw [if_pos rfl, if_neg (Nat.lt_irrefl _), if_pos (Nat.lt_succ_self _), e]
      omega
    · rw [if_neg c]
      by_cases d : j < q
      · rw [if_pos d, if_pos (by omega)]
        omega
      · rw [if_neg d, if_neg (by omega)]
        omega
theorem sum_set {rs : List Int} {j : Nat} {x y : Int} (hj : rs[j]? = some y) : (rs.set j x).sum = rs.sum + (x - y) := by
  have hl : (rs.set j x).length = rs.length := List.length_set
  have := pre_set (x := x) hj rs.length (Nat.le_refl _)
  rw [pre_full] at this
  rw [← pre_full (rs.set j x), hl, this, if_pos (List.getElem?_eq_some_iff.mp hj).1]
theorem stB_lower {rs : List Int} {j t : Nat} {y : Int} (hj : rs[j]? = some y) (ht : t < rs.length) (h : stB (rs.set j (y - 1)) t = true) : stB rs t = true := by
  have hl : (rs.set j (y - 1)).length = rs.length := List.length_set
  rw [stB_iff (by rw [hl]; exact ht)] at h
  rw [stB_iff ht]
  obtain ⟨a, b⟩ := h
  rw [hl] at a
  have s := sum_set (x := y - 1) hj
  refine ⟨fun q h1 h2 => ?_, fun q hq => ?_⟩
  · have := a q h1 h2
    rw [pre_set hj t (by omega), pre_set hj q h2] at this
    by_cases c : j < t
    · rw [if_pos c, if_pos (by omega)] at this
      omega
    · rw [if_neg c] at this
      split at this <;> omega
  · have := b q hq
    rw [pre_set hj t (by omega), pre_set hj q (by omega), s] at this
    split at this <;> split at this <;> omega
theorem stayI_lower {rs : List Int} {j : Nat} {y : Int} (hj : rs[j]? = some y) {t : Int} (h : t ∈ stayI (rs.set j (y - 1))) : t ∈ stayI rs := by
  have hl : (rs.set j (y - 1)).length = rs.length := List.length_set
  obtain ⟨h0, h1, h2⟩ := mem_stayI.mp h
  rw [hl] at h1
  refine mem_stayI.mpr ⟨h0, h1, ?_⟩
  rw [← show ((t.toNat : Nat) : Int) = t by omega, stT_stB] at h2 ⊢
  exact stB_lower hj (by omega) h2
/-- the first place of a step -/
theorem first_at : ∀ {rs : List Int} {y : Int}, y ∈ rs → ∃ j : Nat, rs[j]? = some y ∧ ∀ m : Nat, m < j → rs[m]? ≠ some y
  | x :: rs, y, h => by
    by_cases c : x = y
    · subst c
      exact ⟨0, rfl, fun m hm => absurd hm (Nat.not_lt_zero _)⟩
    · rcases List.mem_cons.mp h with h | h
      · exact absurd h.symm c
      · obtain ⟨j, h1, h2⟩ := first_at h
        refine ⟨j + 1, h1, fun m hm => ?_⟩
        cases m with
        | zero => intro z; injection z with z; exact c z
        | succ m => exact h2 m (by omega)
theorem has_above {rs : List Int} (h : 0 < rs.sum) : ∃ s ∈ rs, -4 < s := by
  induction rs with
  | nil => exact absurd h (by decide)
  | cons x r ih =>
    by_cases c : -4 < x
    · exact ⟨x, List.mem_cons_self, c⟩
    · rw [List.sum_cons] at h
      obtain ⟨s, h1, h2⟩ := ih (by omega)
      exact ⟨s, List.mem_cons_of_mem _ h1, h2⟩
end TA
namespace TL
open PySem PySem.Spec PyProof.Rows L2 Evl
/-! ### a def of the top, its promise -/
structure Df (K : PySem.W.Frag) (mg : Str → Option Value) (x : Str) (st : Stmt) (ps : List Str) (f : Addr) (fd : FuncData) : Prop where
  F : Fun K x x st f fd
  b : Binds K fd ps []
  g : mg x = some (.ref f)
def Cal (P : Program) (w : World) (K : PySem.W.Frag) (mg : Str → Option Value) (base : Heap) (k : Nat) (x : Str) (ps : List Str) (sp : Sp) : Prop :=
  ∃ f fd, FnOk P w K mg base CX0 k f fd ps sp ∧ PySem.W.keepIn K (.ref f) = true ∧ Binds K fd ps [] ∧ mg x = some (.ref f)
theorem Df.cal {P : Program} {w : World} {K : PySem.W.Frag} {mg : Str → Option Value} {base : Heap} {k : Nat} {x : Str} {st : Stmt} {ps : List Str} {f : Addr} {fd : FuncData} {sp : Sp} (D : Df K mg x st ps f fd) (G : FnOk P w K mg base CX0 k f fd ps sp) :
    Cal P w K mg base k x ps sp := ⟨f, fd, G, D.F.kp, D.b, D.g⟩
section
variable {X : Cx}
theorem pe_gint {x : Str} {n : Int} {pos : Pos} (hg : Gl X x) (h : ∃ t, X.mg x = some (.int n t)) (hd : (x == ("__debug__" : Str)) = false := by decide) : PE X (.Name x pos) (tC (.int n)) := by
  obtain ⟨t, h⟩ := h
  exact pe_glob hg h ⟨t, rfl⟩ hd
/-! ### rules under names of their own -/
abbrev rLt : R2 := rI0 fun i j => .bl (decide (i < j))
abbrev rLe : R2 := rI0 fun i j => .bl (decide (i ≤ j))
abbrev rGtI : R2 := rI0 fun i j => .bl (decide (j < i))
abbrev rGeI : R2 := rI0 fun i j => .bl (decide (j ≤ i))
theorem tl_add : OpR X (binaryOp .Add) (rI0 fun i j => .int (i + j)) := op_add
theorem tl_sub : OpR X (binaryOp .Sub) (rI0 fun i j => .int (i - j)) := op_sub
theorem tl_mul : OpR X (binaryOp .Mult) (rI CMul fun i j => .int (i * j)) := op_mul
theorem tl_fdiv : OpR X (binaryOp .FloorDiv) (rI CDiv fun i j => .int (i / j)) := op_fdiv
theorem tl_mod : OpR X (binaryOp .Mod) (rI (fun _ j => 0 < j) fun i j => .int (i % j)) := op_mod
theorem tl_pow : OpR X (binaryOp .Pow) (rI CPow fun i j => .int (i ^ j.toNat)) := op_pow
theorem tl_lt : OpR X (compareOp .Lt) (rI0 fun i j => .bl (decide (i < j))) := op_lt
theorem tl_le : OpR X (compareOp .LtE) (rI0 fun i j => .bl (decide (i ≤ j))) := op_le
theorem tl_gt : OpR X (compareOp .Gt) (rI0 fun i j => .bl (decide (j < i))) := op_gt
theorem tl_ge : OpR X (compareOp .GtE) (rI0 fun i j => .bl (decide (j ≤ i))) := op_ge
theorem tl_eq : OpR X (compareOp .Eq) rEq := op_eq
theorem tl_ne : OpR X (compareOp .NotEq) rNe := op_ne
theorem tl_eqD (hu : X.A.units + 64 < cLine) : OpR X (compareOp .Eq) (rEqD X.K) := op_eqD hu
theorem tl_neD (hu : X.A.units + 64 < cLine) : OpR X (compareOp .NotEq) (rNeD X.K) := op_neD hu
theorem tl_in : OpR X (compareOp .In) (rIn X.K false) := op_in_seq
theorem tl_notIn : OpR X (compareOp .NotIn) (rIn X.K true) := op_notIn_seq
def rIsNo : R2 := fun x y H Q => y = .non ∧ Q (.bl (decide (x = .non))) H
def rNotNo : R2 := fun x y H Q => y = .non ∧ Q (.bl (!decide (x = .non))) H
theorem tl_isN : OpR X (compareOp .Is) rIsNo := op_isN
theorem tl_notN : OpR X (compareOp .IsNot) rNotNo := op_notN
theorem tl_cat : OpR X (binaryOp .Add) rCat := op_cat
theorem tl_rep : OpR X (binaryOp .Mult) rRep := op_rep
theorem tl_len : CallR X (.builtin "len") (rLenS X.K) := call_len_seq
theorem tl_list : CallR X (.type "list") (rListS X.K) := call_list_of
def rMin2 : List V → Hp → VK → Prop := fun xs H Q => ∃ i j, xs = [.int i, .int j] ∧ Q (.int (if j < i then j else i)) H
theorem tl_max2 (hc : X.calm = true) : CallR X (.builtin "max") rMax2 := call_max2 hc
theorem tl_min2 (hc : X.calm = true) : CallR X (.builtin "min") rMin2 := call_min2 hc
end
/-! ### values, further -/
section
variable {K : PySem.W.Frag} {σ : L2.St} {H H' : Hp} {ta tb tc te tx : TE} {t u : TT} {x y z v : V} {r r' : R2}
theorem ev_chain {k m : Bool} (ha : Ev ta σ H x) (hb : Ev tb σ H y) (hr : RV r x y H (.bl k)) (hc : Ev tc σ H z) (hr' : RV r' y z H (.bl m)) : Ev (tChain r r' ta tb tc) σ H (.bl (k && m)) := fun H1 e Q q =>
  ha H1 e _ fun H2 e2 => hb H2 (e.trans e2) _ fun H3 e3 => hr H3 ((e.trans e2).trans e3) _ fun H4 e4 => ⟨k, rfl, by
    cases k with
    | true =>
      rw [if_pos rfl]
      exact hc H4 (((e.trans e2).trans e3).trans e4) _ fun H5 e5 => hr' H5 ((((e.trans e2).trans e3).trans e4).trans e5) _ fun H6 e6 => q H6 ((((e2.trans e3).trans e4).trans e5).trans e6)
    | false =>
      rw [if_neg Bool.false_ne_true]
      exact q H4 ((e2.trans e3).trans e4)⟩
theorem ev_ite {b : Bool} {v1 v2 : V} (h : EvT t σ H b) (h1 : b = true → Ev ta σ H v1) (h2 : b = false → Ev tb σ H v2) : Ev (tIf t ta tb) σ H (if b = true then v1 else v2) := by
  refine ev_if h (fun hb => ?_) (fun hb => ?_)
  · rw [if_pos hb]; exact h1 hb
  · rw [if_neg (by rw [hb]; exact Bool.false_ne_true)]; exact h2 hb
theorem rc_len {p : Addr} {xs : List V} (h : SqL K H p xs) : RC (rLenS K) [.ref p] H (.int (xs.length : Int)) := fun H1 e Q q => ⟨p, xs, rfl, .inl (ex_l e h), q H1 (Ex.refl _)⟩
theorem rc_lenT {p : Addr} {xs : List V} (h : SqT K H p xs) : RC (rLenS K) [.ref p] H (.int (xs.length : Int)) := fun H1 e Q q => ⟨p, xs, rfl, .inr (ex_t e h), q H1 (Ex.refl _)⟩
theorem rc_sum {p : Addr} {ns : List Int} (h : SqL K H p (ns.map V.int)) : RC (rSum K) [.ref p] H (.int ns.sum) := fun H1 e Q q => ⟨p, ns, rfl, ex_l e h, q H1 (Ex.refl _)⟩
theorem rc_all {p : Addr} {bs : List Bool} (h : SqL K H p (bs.map V.bl)) : RC (rAll K) [.ref p] H (.bl (bs.all id)) := fun H1 e Q q => ⟨p, bs, rfl, ex_l e h, q H1 (Ex.refl _)⟩
theorem rc_any {p : Addr} {bs : List Bool} (h : SqL K H p (bs.map V.bl)) : RC (rAny K) [.ref p] H (.bl (bs.any id)) := fun H1 e Q q => ⟨p, bs, rfl, ex_l e h, q H1 (Ex.refl _)⟩
theorem rc_min2 {i j : Int} : RC rMin2 [.int i, .int j] H (.int (if j < i then j else i)) := fun H1 e Q q => ⟨i, j, rfl, q H1 (Ex.refl _)⟩
theorem rc_max2 {i j : Int} : RC rMax2 [.int i, .int j] H (.int (if j > i then j else i)) := fun H1 e Q q => ⟨i, j, rfl, q H1 (Ex.refl _)⟩
theorem rc_isi {c : V} {tt uu : Value} {b : Bool} (hc : ClsV c uu) (ht : ∀ H1, Ex H H1 → TyX K H1 x tt) (hk : PySem.W.kitOne K tt uu = some b) : RC (rIsi K) [x, c] H (.bl b) := fun H1 e Q q => ⟨x, c, tt, uu, b, rfl, hc, ht H1 e, hk, q H1 (Ex.refl _)⟩
/-- a call whose one argument is a new list -/
theorem ev_cbL {rr : List V → Hp → VK → Prop} {xs : List V} (h : EvL ta σ H xs) (hr : ∀ p H1, Ex H H1 → H1 p = some (.lst xs) → RC rr [.ref p] H1 z) : Ev (tCB rr (tCons ta tNil)) σ H z := fun H1 e Q q =>
  h H1 e _ fun p H2 _ e2 h2 => hr p H2 (e.trans e2) h2 H2 (Ex.refl _) Q fun H3 e3 => q H3 (e2.trans e3)
/-- a new list: a + b -/
def RVL (r : R2) (x y : V) (H : Hp) (xs : List V) : Prop := ∀ H1, Ex H H1 → ∀ Q : VK, (∀ p H2, H1 p = none → Ex H1 H2 → H2 p = some (.lst xs) → Q (.ref p) H2) → r x y H1 Q
theorem el_op {xs : List V} (ha : Ev ta σ H x) (hb : Ev tb σ H y) (hr : RVL r x y H xs) : EvL (tOp r ta tb) σ H xs := fun H1 e Q q =>
  ha H1 e _ fun H2 e2 => hb H2 (e.trans e2) _ fun H3 e3 => hr H3 ((e.trans e2).trans e3) Q fun p H4 hp e4 h4 => q p H4 (fresh_back (e2.trans e3) hp) ((e2.trans e3).trans e4) h4
theorem rvl_cat {a b : Addr} {xs ys : List V} (h1 : H a = some (.lst xs)) (h2 : H b = some (.lst ys)) (hl : xs.length + ys.length ≤ 100000) : RVL rCat (.ref a) (.ref b) H (xs ++ ys) := fun H1 e Q q =>
  ⟨a, b, xs, ys, rfl, rfl, e _ _ h1, e _ _ h2, sz_of hl, fun p hp => q p _ hp (Ex.new hp) upd_same⟩
/-- both new lists -/
theorem el_catLL {xs ys : List V} (ha : EvL ta σ H xs) (hb : EvL tb σ H ys) (hl : xs.length + ys.length ≤ 100000) : EvL (tOp rCat ta tb) σ H (xs ++ ys) := fun H1 e Q q =>
  ha H1 e _ fun p1 H2 hp1 e2 h2 => hb H2 (e.trans e2) _ fun p2 H3 hp2 e3 h3 => ⟨p1, p2, xs, ys, rfl, rfl, e3 _ _ h2, h3, sz_of hl, fun p hp => q p _ (fresh_back (e2.trans e3) hp) ((e2.trans e3).trans (Ex.new hp)) upd_same⟩
theorem el_catVL {a : Addr} {xs ys : List V} (ha : Ev ta σ H (.ref a)) (h : H a = some (.lst xs)) (hb : EvL tb σ H ys) (hl : xs.length + ys.length ≤ 100000) : EvL (tOp rCat ta tb) σ H (xs ++ ys) := fun H1 e Q q =>
  ha H1 e _ fun H2 e2 => hb H2 (e.trans e2) _ fun p2 H3 hp2 e3 h3 => ⟨a, p2, xs, ys, rfl, rfl, e3 _ _ (e2 _ _ (e _ _ h)), h3, sz_of hl, fun p hp => q p _ (fresh_back (e2.trans e3) hp) ((e2.trans e3).trans (Ex.new hp)) upd_same⟩
theorem el_catLV {a : Addr} {xs ys : List V} (ha : EvL ta σ H xs) (hb : Ev tb σ H (.ref a)) (h : H a = some (.lst ys)) (hl : xs.length + ys.length ≤ 100000) : EvL (tOp rCat ta tb) σ H (xs ++ ys) := fun H1 e Q q =>
  ha H1 e _ fun p1 H2 hp1 e2 h2 => hb H2 (e.trans e2) _ fun H3 e3 => ⟨p1, a, xs, ys, rfl, rfl, e3 _ _ h2, e3 _ _ (e2 _ _ (e _ _ h)), sz_of hl, fun p hp => q p _ (fresh_back (e2.trans e3) hp) ((e2.trans e3).trans (Ex.new hp)) upd_same⟩
theorem el_catVV {a b : Addr} {xs ys : List V} (ha : Ev ta σ H (.ref a)) (h : H a = some (.lst xs)) (hb : Ev tb σ H (.ref b)) (h' : H b = some (.lst ys)) (hl : xs.length + ys.length ≤ 100000) : EvL (tOp rCat ta tb) σ H (xs ++ ys) := el_op ha hb (rvl_cat h h' hl)
theorem el_repL {xs : List V} {k : Int} (ha : EvL ta σ H xs) (hb : Ev tb σ H (.int k)) (hk : 0 ≤ k ∧ k ≤ 100000) (hl : xs.length * k.toNat ≤ 100000) : EvL (tOp rRep ta tb) σ H (List.flatten (List.replicate k.toNat xs)) := fun H1 e Q q =>
  ha H1 e _ fun p1 H2 hp1 e2 h2 => hb H2 (e.trans e2) _ fun H3 e3 => ⟨p1, k, xs, rfl, rfl, e3 _ _ h2, by omega, by omega, sz_of hl, fun p hp => q p _ (fresh_back (e2.trans e3) hp) ((e2.trans e3).trans (Ex.new hp)) upd_same⟩
end
end TL
namespace TL
open PySem PySem.Spec PyProof.Rows L2 Evl
section
variable {K : PySem.W.Frag} {σ : L2.St} {H H' : Hp} {ta tb tc te tx tl : TE} {t u : TT} {x y z v : V} {D : Ends} {tu tw tz : TS} {g : TG} {wi : TI} {vs : List Nat}
theorem q_of (h : tu { D with nx := tz D } σ H) : tSeq tu tz D σ H := h
/-! ### what is walked in a comprehension -/
def EvI (wi : TI) (σ : L2.St) (H : Hp) (n : Nat) (Y : Nat → Hp → V → Hp → Prop) : Prop :=
  ∀ H1, Ex H H1 → ∀ R : It → Hp → Prop, (∀ (J : It) (H2 : Hp) (G : Hp → Prop), Ex H1 H2 → Walk J n G Y → G H2 → (∀ a b, Ex a b → G a → G b) → R J H2) → wi σ H1 R
theorem ei_list {a : Addr} {xs : List V} (h : Ev tl σ H (.ref a)) (hx : SqL K H a xs) : EvI (iList K tl) σ H xs.length (YAt xs) := fun H1 e R k =>
  h H1 e _ fun H2 e2 => ⟨a, rfl, ⟨xs, ex_l (e.trans e2) hx⟩, k _ H2 _ e2 walk_list (ex_l (e.trans e2) hx) (fun _ _ ab q => ex_l ab q)⟩
theorem ei_listN {xs : List V} (h : EvL tl σ H xs) : EvI (iList K tl) σ H xs.length (YAt xs) := fun H1 e R k =>
  h H1 e _ fun p H2 _ e2 hp => ⟨p, rfl, ⟨xs, sq_of hp⟩, k _ H2 _ e2 walk_list (sq_of hp) (fun _ _ ab q => ex_l ab q)⟩
theorem ei_tup {a : Addr} {xs : List V} (h : Ev tl σ H (.ref a)) (hx : SqT K H a xs) : EvI (iTup K tl) σ H xs.length (YAt xs) := fun H1 e R k =>
  h H1 e _ fun H2 e2 => ⟨a, rfl, ⟨xs, ex_t (e.trans e2) hx⟩, k _ H2 _ e2 walk_tup (ex_t (e.trans e2) hx) (fun _ _ ab q => ex_t ab q)⟩
theorem ei_tupN {xs : List V} (h : EvU tl σ H xs) : EvI (iTup K tl) σ H xs.length (YAt xs) := fun H1 e R k =>
  h H1 e _ fun p H2 _ e2 hp => ⟨p, rfl, ⟨xs, st_of hp⟩, k _ H2 _ e2 walk_tup (st_of hp) (fun _ _ ab q => ex_t ab q)⟩
theorem ei_range1 {ta : TA} {n : Int} (h : EvA ta σ H [.int n]) (hn : -100000 ≤ n ∧ n ≤ 100000) : EvI (iRng1 ta) σ H n.toNat (YFn fun i => .int (0 + i)) := fun H1 e R k =>
  h H1 e _ fun H2 e2 => ⟨n, rfl, by omega, by omega, k _ H2 _ e2 walk_range trivial (fun _ _ _ q => q)⟩
theorem ei_range2 {ta : TA} {lo n : Int} (h : EvA ta σ H [.int lo, .int n]) (hn : -100000 ≤ lo ∧ lo ≤ 100000 ∧ -100000 ≤ n ∧ n ≤ 100000) : EvI (iRng2 ta) σ H (n - lo).toNat (YFn fun i => .int (lo + i)) := fun H1 e R k =>
  h H1 e _ fun H2 e2 => ⟨lo, n, rfl, ⟨by omega, by omega, by omega, by omega⟩, k _ H2 _ e2 walk_range trivial (fun _ _ _ q => q)⟩
theorem ei_enum {a : Addr} {xs : List V} (h : Ev tl σ H (.ref a)) (hx : SqL K H a xs) : EvI (iEnum K (tCons tl tNil)) σ H xs.length (YPair (fun i => some (.int (i : Nat))) (fun i => xs[i]?)) := fun H1 e R k =>
  h H1 e _ fun H2 e2 => ⟨a, xs, rfl, ex_l (e.trans e2) hx, k _ H2 _ e2 walk_enum (ex_l (e.trans e2) hx) (fun _ _ ab q => ex_l ab q)⟩
theorem ei_enumN {xs : List V} (h : EvL tl σ H xs) : EvI (iEnum K (tCons tl tNil)) σ H xs.length (YPair (fun i => some (.int (i : Nat))) (fun i => xs[i]?)) := fun H1 e R k =>
  h H1 e _ fun p H2 _ e2 hp => ⟨p, xs, rfl, sq_of hp, k _ H2 _ e2 walk_enum (sq_of hp) (fun _ _ ab q => ex_l ab q)⟩
theorem lc_turn {H1 H2 H4 : Hp} {f : Nat → Bool} {w : Nat → V} {Dl : Addr} {i : Nat} {σ2 : L2.St} (p : Cw H1 f w Dl i H2) (e4 : Ex H2 H4) (hi : i < 50000) (ht : EvT t σ2 H4 (f i)) (he : f i = true → Ev te σ2 H4 (w i)) :
    t σ2 H4 fun b H3 => if b = true then te σ2 H3 fun y H5 => ∃ acc, H5 Dl = some (.lst acc) ∧ acc.length < sizeLine ∧ Cw H1 f w Dl (i + 1) (upd H5 Dl (.lst (acc ++ [y]))) else Cw H1 f w Dl (i + 1) H3 := by
  obtain ⟨p1, p2, p3⟩ := p
  refine ht H4 (Ex.refl _) _ fun H5 e5 => ?_
  have p3' := e5 _ _ (e4 _ _ p3)
  cases hf : f i with
  | true =>
    rw [if_pos rfl]
    refine he hf H5 e5 _ fun H6 e6 => ⟨given i f w, e6 Dl _ p3', sz_lt (by have := given_len i f w; omega), p1, Ex.mut (((p2.trans e4).trans e5).trans e6) p1, ?_⟩
    rw [given_yes hf]
    exact upd_same
  | false =>
    rw [if_neg Bool.false_ne_true]
    refine ⟨p1, (p2.trans e4).trans e5, ?_⟩
    rw [given_no hf]
    exact p3'
/-- a comprehension: which turns give, and what -/
theorem el_lc {n : Nat} {Y : Nat → Hp → V → Hp → Prop} (f : Nat → Bool) (w : Nat → V) (hi : EvI wi σ H n Y) (hn : n ≤ 40000)
    (hs : ∀ i x H1 H2, i < n → Ex H H1 → Y i H1 x H2 → g x (wipe σ vs) H2 fun σ2 H3 => wipe σ2 vs = wipe σ vs ∧ Ex H1 H3 ∧ EvT t σ2 H3 (f i) ∧ (f i = true → Ev te σ2 H3 (w i)))
    (hg : ∀ x σ H (Q Q' : L2.St → Hp → Prop), (∀ a b, Q a b → Q' a b) → g x σ H Q → g x σ H Q') : EvL (tLc wi g t te vs) σ H (given n f w) := fun H0 e Q q =>
  hi H0 e _ fun J H1 G e1 wk hG hmono Dl hD => lc_it wk (Cw H1 f w Dl) ⟨hD, Ex.new hD, upd_same⟩ (fun i H2 _ p => hmono _ _ p.2.1 hG)
    (fun i x H2 H3 hin p y => hg x _ _ _ _ (fun σ2 H4 k => ⟨k.1, lc_turn p k.2.1 (by omega) k.2.2.1 k.2.2.2⟩) (hs i x H2 H3 hin ((e.trans e1).trans p.2.1) y))
    (fun H2 p => q Dl H2 (fresh_back e1 p.1) (e1.trans p.2.1) p.2.2)
/-! ### the forms met -/
theorem g_name_mono {j : Nat} : ∀ x σ H (Q Q' : L2.St → Hp → Prop), (∀ a b, Q a b → Q' a b) → gName j x σ H Q → gName j x σ H Q' := fun _ _ _ _ _ h q => h _ _ q
theorem g_two_mono {i j : Nat} : ∀ x σ H (Q Q' : L2.St → Hp → Prop), (∀ a b, Q a b → Q' a b) → gTup K 2 (gCons (gName i) (gCons (gName j) gNil)) x σ H Q → gTup K 2 (gCons (gName i) (gCons (gName j) gNil)) x σ H Q' := by
  rintro x σ H Q Q' h ⟨a, xs, h1, h2, h3, v, r, h4, v', r', h5, h6, q⟩
  exact ⟨a, xs, h1, h2, h3, v, r, h4, v', r', h5, h6, h _ _ q⟩
theorem given_map {α : Type} (xs : List α) (p : α → Bool) (val : α → V) (d : α) : given xs.length (fun i => p (xs.getD i d)) (fun i => val (xs.getD i d)) = (xs.filter p).map val := by
  unfold given
  have e : xs = (List.range xs.length).map (fun i => xs.getD i d) := by
    apply List.ext_getElem
    · simp
    · intro i h1 h2
      simp [List.getD_eq_getElem?_getD, h1]
  conv => rhs; rw [e]
  rw [List.filter_map, List.map_map]
  rfl
theorem getD_of {α : Type} {xs : List α} {i : Nat} {d x : α} (h : xs[i]? = some x) : xs.getD i d = x := by
  rw [List.getD_eq_getElem?_getD, h]
  rfl
/-- [e for x in xs if ..] -/
theorem el_lcI {α : Type} {xs : List α} {emb : α → V} {j : Nat} (p : α → Bool) (val : α → V) (hi : EvI wi σ H (xs.map emb).length (YAt (xs.map emb))) (hz : xs.length ≤ 40000) (hw : ∀ x, wipe ((wipe σ vs).set j (some x)) vs = wipe σ vs)
    (ht : ∀ x H1, x ∈ xs → Ex H H1 → EvT t ((wipe σ vs).set j (some (emb x))) H1 (p x)) (he : ∀ x H1, x ∈ xs → Ex H H1 → p x = true → Ev te ((wipe σ vs).set j (some (emb x))) H1 (val x)) :
    EvL (tLc wi (gName j) t te vs) σ H ((xs.filter p).map val) := by
  cases xs with
  | nil =>
    have q := el_lc (vs := vs) (t := t) (te := te) (g := gName j) (fun _ => true) (fun _ => .non) hi (by simp) (fun i x H1 H2 hi _ _ => by simp at hi) g_name_mono
    exact q
  | cons x0 xr =>
    rw [← given_map (x0 :: xr) p val x0]
    have q := el_lc (vs := vs) (t := t) (te := te) (g := gName j) (fun i => p ((x0 :: xr).getD i x0)) (fun i => val ((x0 :: xr).getD i x0)) hi (by rw [List.length_map]; exact hz) ?_ g_name_mono
    · rw [List.length_map] at q
      exact q
    · rintro i x H1 H2 hi e ⟨rfl, hy⟩
      rw [List.getElem?_map] at hy
      obtain ⟨w, hw1, hw2⟩ := Option.map_eq_some_iff.mp hy
      subst hw2
      have hm : w ∈ x0 :: xr := List.mem_of_getElem? hw1
      show _ ∧ _
      simp only [getD_of hw1]
      exact ⟨hw _, Ex.refl _, ht w _ hm e, he w _ hm e⟩
theorem filter_true {α : Type} (xs : List α) : xs.filter (fun _ => true) = xs := by simp
theorem et_yes : EvT tYes σ H true := fun H1 _ _ q => q H1 (Ex.refl _)
/-- [e for x in xs] -/
theorem el_mapI {α : Type} {xs : List α} {emb : α → V} {j : Nat} (val : α → V) (hi : EvI wi σ H (xs.map emb).length (YAt (xs.map emb))) (hz : xs.length ≤ 40000) (hw : ∀ x, wipe ((wipe σ vs).set j (some x)) vs = wipe σ vs)
    (he : ∀ x H1, x ∈ xs → Ex H H1 → Ev te ((wipe σ vs).set j (some (emb x))) H1 (val x)) :
    EvL (tLc wi (gName j) tYes te vs) σ H (xs.map val) := by
  have q := el_lcI (vs := vs) (te := te) (t := tYes) (fun _ => true) val hi hz hw (fun _ _ _ _ => et_yes) (fun x H1 hm e _ => he x H1 hm e)
  rw [filter_true] at q
  exact q
/-- [e for i, x in enumerate(xs)] -/
theorem el_enum {α : Type} {xs : List α} {emb : α → V} {i1 i2 : Nat} (val : Nat → α → V) (hi : EvI wi σ H (xs.map emb).length (YPair (fun i => some (.int (i : Nat))) (fun i => (xs.map emb)[i]?))) (hz : xs.length ≤ 40000) (hw : ∀ x y, wipe (((wipe σ vs).set i1 (some x)).set i2 (some y)) vs = wipe σ vs)
    (he : ∀ i x H1, xs[i]? = some x → Ex H H1 → Ev te (((wipe σ vs).set i1 (some (.int (i : Nat)))).set i2 (some (emb x))) H1 (val i x)) :
    EvL (tLc wi (gTup K 2 (gCons (gName i1) (gCons (gName i2) gNil))) tYes te vs) σ H (xs.mapIdx val) := by
  cases xs with
  | nil =>
    have q := el_lc (vs := vs) (t := tYes) (te := te) (g := gTup K 2 (gCons (gName i1) (gCons (gName i2) gNil))) (fun _ => true) (fun _ => .non) hi (by simp) (fun i x H1 H2 hi _ _ => by simp at hi) g_two_mono
    exact q
  | cons x0 xr =>
    have q := el_lc (vs := vs) (t := tYes) (te := te) (g := gTup K 2 (gCons (gName i1) (gCons (gName i2) gNil))) (fun _ => true) (fun i => val i ((x0 :: xr).getD i x0)) hi (by rw [List.length_map]; exact hz) ?_ g_two_mono
    · have e : given (((x0 :: xr).map emb).length) (fun _ => true) (fun i => val i ((x0 :: xr).getD i x0)) = (x0 :: xr).mapIdx val := by
        unfold given
        rw [filter_true, List.length_map]
        apply List.ext_getElem
        · simp
        · intro i h1 h2
          rw [List.length_mapIdx] at h2
          rw [List.getElem_map, List.getElem_mapIdx, List.getElem_range, getD_of (List.getElem?_eq_getElem h2)]
      rw [e] at q
      exact q
    · rintro i x H1 H2 hi e ⟨T, y1, y2, rfl, hT, rfl, hy1, hy⟩
      cases hy1
      have hy' : ((x0 :: xr).map emb)[i]? = some y2 := hy
      rw [List.getElem?_map] at hy'
      obtain ⟨w, hw1, hw2⟩ := Option.map_eq_some_iff.mp hy'
      subst hw2
      refine ⟨T, _, rfl, st_of upd_same, rfl, _, _, rfl, _, _, rfl, rfl, hw _ _, Ex.new hT, et_yes, fun _ => ?_⟩
      rw [getD_of hw1]
      exact he i w _ hw1 (e.trans (Ex.new hT))
/-- for i, x in enumerate(xs) -/
theorem s_forE {a : Addr} {xs : List V} {i1 i2 : Nat} (h : Ev tl σ H (.ref a)) (hx : SqL K H a xs) (Pv : Nat → L2.St → Hp → Prop) (h0 : ∀ H1, Ex H H1 → Pv 0 σ H1) (hl : ∀ i σ' H', i ≤ xs.length → Pv i σ' H' → SqL K H' a xs)
    (hs : ∀ i x σ' H' H1, xs[i]? = some x → Pv i σ' H' → Ex H' H1 → tu { D with nx := Pv (i + 1), ct := Pv (i + 1), bk := D.nx } ((σ'.set i1 (some (.int (i : Nat)))).set i2 (some x)) H1) (hd : ∀ σ' H', Pv xs.length σ' H' → D.nx σ' H') :
    tFor (iEnum K (tCons tl tNil)) (gTup K 2 (gCons (gName i1) (gCons (gName i2) gNil))) tu D σ H :=
  h H (Ex.refl H) _ fun H1 e => ⟨a, xs, rfl, ex_l e hx, for_it (walk_enum (xs := xs)) Pv (h0 H1 e) (fun i σ' H' hi p => hl i σ' H' hi p) (fun i x σ' H' H2 hi p y => by
    obtain ⟨T, y1, y2, rfl, hT, rfl, hy1, hy⟩ := y
    cases hy1
    exact ⟨T, _, rfl, st_of upd_same, rfl, _, _, rfl, _, _, rfl, rfl, hs i y2 σ' H' _ hy p (Ex.new hT)⟩) hd⟩
/-- a, b = (x, y), by a tuple -/
theorem s_unpack2 {i j : Nat} {x y : V} (h : EvU te σ H [x, y]) (k : ∀ H1, Ex H H1 → D.nx ((σ.set i (some x)).set j (some y)) H1) : tAsg te (gTup K 2 (gCons (gName i) (gCons (gName j) gNil))) D σ H :=
  h H (Ex.refl H) _ fun p H1 hp e h1 => ⟨p, _, rfl, st_of h1, rfl, _, _, rfl, _, _, rfl, rfl, k H1 e⟩
theorem s_unpackT {i j : Nat} {a : Addr} {x y : V} (h : Ev te σ H (.ref a)) (ha : SqT K H a [x, y]) (k : ∀ H1, Ex H H1 → D.nx ((σ.set i (some x)).set j (some y)) H1) : tAsg te (gTup K 2 (gCons (gName i) (gCons (gName j) gNil))) D σ H :=
  h H (Ex.refl H) _ fun H1 e => ⟨a, _, rfl, ex_t e ha, rfl, _, _, rfl, _, _, rfl, rfl, k H1 e⟩
theorem s_par {i j : Nat} {ta : TA} {x y : V} (h : EvA ta σ H [x, y]) (k : ∀ H1, Ex H H1 → D.nx ((σ.set i (some x)).set j (some y)) H1) : tPar i j ta D σ H := h H (Ex.refl H) _ fun H1 e => ⟨x, y, rfl, k H1 e⟩
/-- a, b = x, [..] -/
theorem s_parVL {i j : Nat} {x : V} {xs : List V} (h : Ev ta σ H x) (h2 : EvL tb σ H xs) (k : ∀ p H1, H p = none → Ex H H1 → H1 p = some (.lst xs) → D.nx ((σ.set i (some x)).set j (some (.ref p))) H1) : tPar i j (tCons ta (tCons tb tNil)) D σ H :=
  h H (Ex.refl H) _ fun H1 e => h2 H1 e _ fun p H2 hp e2 hh => ⟨x, .ref p, rfl, k p H2 (fresh_back e hp) (e.trans e2) hh⟩
theorem s_parLV {i j : Nat} {x : V} {xs : List V} (h : EvL ta σ H xs) (h2 : ∀ p H1, H p = none → Ex H H1 → H1 p = some (.lst xs) → Ev tb σ H1 x) (k : ∀ p H1, H p = none → Ex H H1 → H1 p = some (.lst xs) → D.nx ((σ.set i (some (.ref p))).set j (some x)) H1) : tPar i j (tCons ta (tCons tb tNil)) D σ H :=
  h H (Ex.refl H) _ fun p H1 hp e h1 => h2 p H1 hp e h1 H1 (Ex.refl _) _ fun H2 e2 => ⟨.ref p, x, rfl, k p H2 hp (e.trans e2) (e2 _ _ h1)⟩
theorem s_parLL {i j : Nat} {xs ys : List V} (h : EvL ta σ H xs) (h2 : EvL tb σ H ys) (k : ∀ p p2 H1, H p = none → H p2 = none → p ≠ p2 → Ex H H1 → H1 p = some (.lst xs) → H1 p2 = some (.lst ys) → D.nx ((σ.set i (some (.ref p))).set j (some (.ref p2))) H1) : tPar i j (tCons ta (tCons tb tNil)) D σ H :=
  h H (Ex.refl H) _ fun p H1 hp e h1 => h2 H1 e _ fun p2 H2 hp2 e2 hh => ⟨.ref p, .ref p2, rfl, k p p2 H2 hp (fresh_back e hp2) (ne_of_none h1 hp2) (e.trans e2) (e2 _ _ h1) hh⟩
theorem q_unpack2 {i j : Nat} {x y : V} (h : EvU te σ H [x, y]) (k : ∀ H1, Ex H H1 → tz D ((σ.set i (some x)).set j (some y)) H1) : tSeq (tAsg te (gTup K 2 (gCons (gName i) (gCons (gName j) gNil)))) tz D σ H := s_unpack2 (D := { D with nx := tz D }) h k
theorem q_unpackT {i j : Nat} {a : Addr} {x y : V} (h : Ev te σ H (.ref a)) (ha : SqT K H a [x, y]) (k : ∀ H1, Ex H H1 → tz D ((σ.set i (some x)).set j (some y)) H1) : tSeq (tAsg te (gTup K 2 (gCons (gName i) (gCons (gName j) gNil)))) tz D σ H := s_unpackT (D := { D with nx := tz D }) h ha k
theorem q_par {i j : Nat} {ta : TA} {x y : V} (h : EvA ta σ H [x, y]) (k : ∀ H1, Ex H H1 → tz D ((σ.set i (some x)).set j (some y)) H1) : tSeq (tPar i j ta) tz D σ H := s_par (D := { D with nx := tz D }) h k
theorem q_parVL {i j : Nat} {x : V} {xs : List V} (h : Ev ta σ H x) (h2 : EvL tb σ H xs) (k : ∀ p H1, H p = none → Ex H H1 → H1 p = some (.lst xs) → tz D ((σ.set i (some x)).set j (some (.ref p))) H1) : tSeq (tPar i j (tCons ta (tCons tb tNil))) tz D σ H := s_parVL (D := { D with nx := tz D }) h h2 k
theorem q_parLV {i j : Nat} {x : V} {xs : List V} (h : EvL ta σ H xs) (h2 : ∀ p H1, H p = none → Ex H H1 → H1 p = some (.lst xs) → Ev tb σ H1 x) (k : ∀ p H1, H p = none → Ex H H1 → H1 p = some (.lst xs) → tz D ((σ.set i (some (.ref p))).set j (some x)) H1) : tSeq (tPar i j (tCons ta (tCons tb tNil))) tz D σ H := s_parLV (D := { D with nx := tz D }) h h2 k
theorem q_parLL {i j : Nat} {xs ys : List V} (h : EvL ta σ H xs) (h2 : EvL tb σ H ys) (k : ∀ p p2 H1, H p = none → H p2 = none → p ≠ p2 → Ex H H1 → H1 p = some (.lst xs) → H1 p2 = some (.lst ys) → tz D ((σ.set i (some (.ref p))).set j (some (.ref p2))) H1) : tSeq (tPar i j (tCons ta (tCons tb tNil))) tz D σ H := s_parLL (D := { D with nx := tz D }) h h2 k
theorem q_forE {a : Addr} {xs : List V} {i1 i2 : Nat} (h : Ev tl σ H (.ref a)) (hx : SqL K H a xs) (Pv : Nat → L2.St → Hp → Prop) (h0 : ∀ H1, Ex H H1 → Pv 0 σ H1) (hl : ∀ i σ' H', i ≤ xs.length → Pv i σ' H' → SqL K H' a xs)
    (hs : ∀ i x σ' H' H1, xs[i]? = some x → Pv i σ' H' → Ex H' H1 → tu { D with nx := Pv (i + 1), ct := Pv (i + 1), bk := tz D } ((σ'.set i1 (some (.int (i : Nat)))).set i2 (some x)) H1) (hd : ∀ σ' H', Pv xs.length σ' H' → tz D σ' H') :
    tSeq (tFor (iEnum K (tCons tl tNil)) (gTup K 2 (gCons (gName i1) (gCons (gName i2) gNil))) tu) tz D σ H := s_forE (D := { D with nx := tz D }) h hx Pv h0 hl hs hd
end
end TL
namespace TL
open PySem PySem.Spec PyProof.Rows L2 Evl
/-! ### slices -/
theorem cut_hi (xs : List V) {i : Int} (h : 0 ≤ i) : cutV xs none (some i) = xs.take i.toNat := by
  unfold cutV
  rw [HT.sIx_none]
  have e : HT.sIx xs.length xs.length (some i) = min i.toNat xs.length := by
    have := HT.sIx_nat xs.length xs.length i.toNat
    rw [show ((i.toNat : Nat) : Int) = i by omega] at this
    exact this
  rw [e, List.drop_zero, Nat.sub_zero, List.take_eq_take_iff]
  omega
theorem cut_lo (xs : List V) {i : Int} (h : 0 ≤ i) : cutV xs (some i) none = xs.drop i.toNat := by
  unfold cutV
  rw [HT.sIx_none]
  have e : HT.sIx xs.length 0 (some i) = min i.toNat xs.length := by
    have := HT.sIx_nat xs.length 0 i.toNat
    rw [show ((i.toNat : Nat) : Int) = i by omega] at this
    exact this
  rw [e]
  by_cases c : i.toNat ≤ xs.length
  · rw [Nat.min_eq_left c, List.take_of_length_le (by rw [List.length_drop]; omega)]
  · rw [Nat.min_eq_right (by omega), List.drop_of_length_le (by omega : xs.length ≤ i.toNat), List.drop_of_length_le (Nat.le_refl _), List.take_nil]
section
variable {K : PySem.W.Frag} {σ : L2.St} {H H' : Hp} {ta tb tc te tx tl : TE} {t u : TT} {x y z v : V} {D : Ends} {tu tw tz : TS} {g : TG} {wi : TI} {vs : List Nat}
theorem el_hi {a : Addr} {xs : List V} {i : Int} (h : Ev te σ H (.ref a)) (hs : SqL K H a xs) (h2 : Ev tb σ H (.int i)) (h0 : 0 ≤ i) : EvL (tSl (rSlL K) te tNoPart (tPart tb)) σ H (xs.take i.toNat) := by
  rw [← cut_hi xs h0]
  exact el_sl h eo_none (eo_some h2) hs
theorem el_lo {a : Addr} {xs : List V} {i : Int} (h : Ev te σ H (.ref a)) (hs : SqL K H a xs) (h2 : Ev tb σ H (.int i)) (h0 : 0 ≤ i) : EvL (tSl (rSlL K) te (tPart tb) tNoPart) σ H (xs.drop i.toNat) := by
  rw [← cut_lo xs h0]
  exact el_sl h (eo_some h2) eo_none hs
/-- a slice of a new list -/
theorem el_slN {tl th : TO} {xs : List V} {lo hi : Option Int} (h : EvL te σ H xs) (h1 : EvO tl σ H lo) (h2 : EvO th σ H hi) : EvL (tSl (rSlL K) te tl th) σ H (cutV xs lo hi) := fun H1 e _ q =>
  h H1 e _ fun a H2 ha e2 hs => h1 H2 (e.trans e2) _ fun H3 e3 => h2 H3 ((e.trans e2).trans e3) _ fun H4 e4 =>
    ⟨a, xs, rfl, sq_of (e4 _ _ (e3 _ _ hs)), fun p hp => q p _ (fresh_back ((e2.trans e3).trans e4) hp) (((e2.trans e3).trans e4).trans (Ex.new hp)) upd_same⟩
/-- x = f(..), by the promise itself -/
theorem s_asgC {i : Nat} {sp : Sp} {dvs ws : List V} {E : XK} {ta : TA} (h : EvA ta σ H ws) (k : ∀ H1, Ex H H1 → sp (ws ++ dvs) H1 (fun v H2 => D.nx (σ.set i (some v)) H2) E) : tAsg (tCall sp dvs E ta) (gName i) D σ H := h H (Ex.refl H) _ fun H1 e => k H1 e
theorem q_asgC {i : Nat} {sp : Sp} {dvs ws : List V} {E : XK} {ta : TA} (h : EvA ta σ H ws) (k : ∀ H1, Ex H H1 → sp (ws ++ dvs) H1 (fun v H2 => tz D (σ.set i (some v)) H2) E) : tSeq (tAsg (tCall sp dvs E ta) (gName i)) tz D σ H := s_asgC (D := { D with nx := tz D }) h k
/-- f of a new list -/
theorem ev_callL {sp : Sp} {xs : List V} {E : XK} (h : EvL ta σ H xs) (hs : ∀ p H1, Ex H H1 → H1 p = some (.lst xs) → SpV sp [.ref p] H1 z) : Ev (tCall sp [] E (tCons ta tNil)) σ H z := fun H1 e Q q =>
  h H1 e _ fun p H2 hp e2 h2 => hs p H2 (e.trans e2) h2 H2 (Ex.refl _) Q (fun H3 e3 => q H3 (e2.trans e3)) E
end
end TL
namespace TL
open PySem PySem.Spec PyProof.Rows L2 Evl
/-! ### an instance of a class without an own __init__ -/
structure Mk0 (K : PySem.W.Frag) (C : Addr) : Prop where
  makes : PySem.W.makesIn K C = true
  init : PySem.W.findIn K (.ref C) "__init__" = some (some (.builtin "object.__init__"))
  kp : PySem.W.keepIn K (.ref C) = true
section
open PySem.W PySem.Calls
theorem make_oi {prog : Program} {w : World} {A : Around} {s : Shared} {K : PySem.W.Frag} {C : Addr} {R : Result → Shared → Prop} (X : K.In s.heap) (hm : makesIn K C = true) (hi : findIn K (.ref C) "__init__" = some (some (.builtin "object.__init__")))
    (h : R (.ok (.ret (.ref (s.heap.objs.size + 1)))) { s with heap := (s.heap.push emptyDict).push (instObj C s.heap.objs.size) }) :
    codeAny (model prog w) A (.call (.ref C) ⟨[], []⟩) R s := by
  obtain ⟨hh, g, d, t, os⟩ := s
  have Y := makes_of (M := model prog w) X hm
  have e2 : ((hh.push emptyDict).push (instObj C hh.objs.size)).get? (hh.objs.size + 1) = some (instObj C hh.objs.size) := by
    have := Heap.get?_push_size (hh.push emptyDict) (o := instObj C hh.objs.size) rfl
    rwa [Heap.size_push] at this
  have t1 : Looks (model prog w) ((hh.push emptyDict).push (instObj C hh.objs.size)) (typeOf (.ref (hh.objs.size + 1))) (.ref C) := (Looks.ld e2).andThen .now
  have t2 : Looks (model prog w) ((hh.push emptyDict).push (instObj C hh.objs.size)) (isInstance (.ref (hh.objs.size + 1)) (.type "object")) true := t1.andThen (Y.top.keeps fun b o e => Heap.get?_push_of_some _ (Heap.get?_push_of_some _ e))
  refine make_core Y (looks_findIn X hi) (fun self => Looks.of_pure (oi_bind self)) (.inr ⟨rfl, rfl⟩) ?_
  refine codeAny_call_builtin oi_plain entry_oi (@check_slot (model prog w) _ _ _ "object.__init__" "object" "__init__" (.ref (hh.objs.size + 1)) [] [] _ oi_kind oi_split t2 (oi_args (.ref (hh.objs.size + 1))) ?_)
  rw [oi_run]
  exact wpAny_pure (And.intro rfl h)
end
section
variable {X : Cx} {C : Addr}
def tMake0 (C : Addr) : TE := fun σ H Q => ∀ x dx, H x = none → H dx = none → dx ≠ x → Q (.ref x) (upd (upd H dx (.own x)) x (.ins C dx []))
theorem pe_makeO {x : Str} {p pos : Pos} (M : Mk0 X.K C) (hg : Gl X x) (hm : X.mg x = some (.ref C)) (hdb : (x == ("__debug__" : Str)) = false := by decide) : PE X (.Call (.Name x p) [] [] pos) (tMake0 C) := by
  refine ⟨fun pins s σ H Q I h => ?_⟩
  refine wpAny_Call_Name_kw (ld_glob I hg hm ?_ hdb)
  refine PySem.W.callWith_K0 I.kIn M.kp ?_
  have hq := h (s.heap.objs.size + 1) s.heap.objs.size (I.hok.fresh (Nat.le_succ _)) (I.hok.fresh (Nat.le_refl _)) (Nat.ne_of_lt (Nat.lt_succ_self _))
  have I2 := Inv.made (C := C) I
  refine wpAny_call (make_oi I.kIn M.makes M.init ?_)
  exact ⟨.ref (s.heap.objs.size + 1), _, I2, rfl, hq⟩
end
/-! ### own classes -/
structure ClT (K : PySem.W.Frag) (C : Addr) : Prop where
  cl : Cls K C
  ha : PySem.W.findIn K (.ref C) "__class__" = some (some (.builtin "object.__class__"))
  hn : PySem.W.specialIn K (.builtin "object.__class__") "__get__" = some (some (.builtin "getset_descriptor.__get__"))
  htk : PySem.W.takesIn K (.builtin "object.__class__") = some true
  hm : PySem.W.mroIn K C (.type "object") = some true
  isC : PySem.W.isClsIn K C = true
  ty : PySem.W.typeIn K (.ref C) = some (.type "type")
theorem ClT.of {K : PySem.W.Frag} {H : Hp} {C a dx : Addr} {fs : List (Str × V)} (T : ClT K C) (h : H a = some (.ins C dx fs)) : TyX K H (.ref a) (.ref C) := .base (.ins h T.cl T.ha T.hn T.htk T.hm)
theorem kit_own {K : PySem.W.Frag} {C D : Addr} {b : Bool} (T : ClT K D) (hs : PySem.W.subIn K (.ref C) (.ref D) = some b) (hne : b = false → C ≠ D) : PySem.W.kitOne K (.ref C) (.ref D) = some b := by
  unfold PySem.W.kitOne PySem.W.kitCls
  by_cases h : C = D
  · subst h
    cases b with
    | true => rw [if_pos (by simp)]
    | false => exact absurd rfl (hne rfl)
  · rw [if_neg (by simpa using h)]
    have h2 : (PySem.W.clsIn K D).isSome = true := T.isC
    have e2 : ((PySem.W.clsIn K D).isSome && PySem.W.typeIn K (.ref D) == some (.type "type")) = true := by
      rw [h2, T.ty] <;> rfl
    show (if ((PySem.W.clsIn K D).isSome && PySem.W.typeIn K (.ref D) == some (.type "type")) = true then PySem.W.subIn K (.ref C) (.ref D) else none) = some b
    rw [if_pos e2]
    exact hs
structure Mf (K : PySem.W.Frag) (C : Addr) (m qual : Str) (st : Stmt) (ps : List Str) (f : Addr) (fd : FuncData) : Prop where
  F : Fun K m qual st f fd
  b : Binds K fd ps []
  mt : Meth K C m f
def MCal (P : Program) (w : World) (K : PySem.W.Frag) (mg : Str → Option Value) (base : Heap) (k : Nat) (C : Addr) (m : Str) (ps : List Str) (sp : Sp) : Prop :=
  ∃ f fd, FnOk P w K mg base CX0 k f fd ps sp ∧ Binds K fd ps [] ∧ Meth K C m f
theorem Mf.cal {P : Program} {w : World} {K : PySem.W.Frag} {mg : Str → Option Value} {base : Heap} {k : Nat} {C : Addr} {m qual : Str} {st : Stmt} {ps : List Str} {f : Addr} {fd : FuncData} {sp : Sp} (D : Mf K C m qual st ps f fd) (G : FnOk P w K mg base CX0 k f fd ps sp) : MCal P w K mg base k C m ps sp := ⟨f, fd, G, D.b, D.mt⟩
structure If (K : PySem.W.Frag) (C : Addr) (qual : Str) (st : Stmt) (ps : List Str) (f : Addr) (fd : FuncData) : Prop where
  F : Fun K "__init__" qual st f fd
  b : Binds K fd ps []
  mks : Mk K C f
def ICal (P : Program) (w : World) (K : PySem.W.Frag) (mg : Str → Option Value) (base : Heap) (k : Nat) (C : Addr) (ps : List Str) (sp : Sp) : Prop :=
  ∃ f fd, FnOk P w K mg base CX0 k f fd ps sp ∧ Binds K fd ps [] ∧ Mk K C f
theorem If.cal {P : Program} {w : World} {K : PySem.W.Frag} {mg : Str → Option Value} {base : Heap} {k : Nat} {C : Addr} {qual : Str} {st : Stmt} {ps : List Str} {f : Addr} {fd : FuncData} {sp : Sp} (D : If K C qual st ps f fd) (G : FnOk P w K mg base CX0 k f fd ps sp) : ICal P w K mg base k C ps sp := ⟨f, fd, G, D.b, D.mks⟩
/-- o.m(..), o of one of two classes -/
def tMeth2 (C C' : Addr) (m : Str) (sp sp' : Sp) (E : XK) (ta : TE) (t : TA) : TE := fun σ H Q => ta σ H fun x H1 => ∃ a dx fs, x = .ref a ∧ fs.lookup m = none ∧
  ((H1 a = some (.ins C dx fs) ∧ t σ H1 fun vs H2 => sp (x :: (vs ++ [])) H2 Q E) ∨ (H1 a = some (.ins C' dx fs) ∧ t σ H1 fun vs H2 => sp' (x :: (vs ++ [])) H2 Q E))
theorem pe_meth2 {X : Cx} {o e : Expr} {es : List Expr} {m : Str} {apos pos : Pos} {ta : TE} {t : TA} {C C' f f' : Addr} {fd fd' : FuncData} {k k' : Nat} {ps ps' : List Str} {sp sp' : Sp} {CX : CXT} {E : XK} {pl : Sem Bool} (he : PE X o ta) (c : Cls X.K C) (c' : Cls X.K C') (hm : Meth X.K C m f) (hm' : Meth X.K C' m f')
    (F : FnOk X.prog X.w X.K X.mg X.base CX k f fd ps sp) (F' : FnOk X.prog X.w X.K X.mg X.base CX k' f' fd' ps' sp') (hr : Room k X.A) (hr' : Room k' X.A) (hb : Binds X.K fd ps []) (hb' : Binds X.K fd' ps' []) (hx : Passes CX X E) (ha : PA X (e :: es) t)
    (hst : starEach (e :: es) X.env = (false, eval e X.env) :: starEach es X.env := by rfl) (hpl : (backTo pos (starEach es X.env)).any (·.1) = false := by rfl)
    (ht : eval (.Call (.Attribute o m apos) (e :: es) [] pos) X.env = (do
      let ov ← eval o X.env
      standAt apos.atName
      let (f, first) ← holding [ov] (getMethod ov m pl)
      callWith pos f first (backTo pos (starEach (e :: es) X.env)) (backToKw pos (keywordEach [] X.env))) := by rfl) :
    PE X (.Call (.Attribute o m apos) (e :: es) [] pos) (tMeth2 C C' m sp sp' E ta t) := by
  refine ⟨fun pins s σ H Q I h => ?_⟩
  refine PySem.W.methodCall_KW (pl := pl) (thn (he.run pins s σ H _ I h) fun u s1 ⟨x, H1, I1, rx, a, dx, fs, ex, l, q⟩ => ?_) ht
  subst ex
  obtain rfl : u = Value.ref a := rx
  rcases q with ⟨ea, q⟩ | ⟨ea, q⟩
  · refine getmeth_ok I1 ea c hm l ?_
    refine PySem.W.callWith_K (first := [.ref a]) (h₀ := X.base) I.ok.mod.kin hm.kp (thn (ha.run pos pins s1 σ H1 _ I1 q) fun us s2 ⟨vs, H2, I2, r, q2⟩ => ⟨I2.kIn, ?_⟩) hst hpl
    exact run_fn (us := .ref a :: us) (vs := .ref a :: vs) F hr hb .nil hx I2 (.cons rfl r) q2
  · refine getmeth_ok I1 ea c' hm' l ?_
    refine PySem.W.callWith_K (first := [.ref a]) (h₀ := X.base) I.ok.mod.kin hm'.kp (thn (ha.run pos pins s1 σ H1 _ I1 q) fun us s2 ⟨vs, H2, I2, r, q2⟩ => ⟨I2.kIn, ?_⟩) hst hpl
    exact run_fn (us := .ref a :: us) (vs := .ref a :: vs) F' hr' hb' .nil hx I2 (.cons rfl r) q2
section
variable {K : PySem.W.Frag} {σ : L2.St} {H H' : Hp} {ta tb tc te tx tl : TE} {t u : TT} {x y z v : V} {D : Ends} {tu tw tz : TS} {a C C' dx : Addr} {fs : List (Str × V)}
theorem ev_fld {f : Str} (h : Ev ta σ H (.ref a)) (ho : H a = some (.ins C dx fs)) (hc : Cls K C) (hn : NoAttr K C f) (hl : fs.lookup f = some v) : Ev (tFld K ta f) σ H v := fun H1 e Q q =>
  h H1 e _ fun H2 e2 => ⟨a, C, dx, fs, v, rfl, e2 _ _ (e _ _ ho), hc, hn, hl, q H2 e2⟩
theorem ev_meth {m : Str} {sp : Sp} {E : XK} {t : TA} {ws : List V} (h : Ev ta σ H (.ref a)) (ho : H a = some (.ins C dx fs)) (hl : fs.lookup m = none) (ht : EvA t σ H ws) (hs : SpV sp (.ref a :: ws) H z) : Ev (tMeth C m sp [] E ta t) σ H z := fun H1 e Q q =>
  h H1 e _ fun H2 e2 => ⟨a, dx, fs, rfl, e2 _ _ (e _ _ ho), hl, ht H2 (e.trans e2) _ fun H3 e3 => by
    rw [List.append_nil]
    exact hs H3 ((e.trans e2).trans e3) Q (fun H4 e4 => q H4 ((e2.trans e3).trans e4)) E⟩
theorem ev_meth2a {m : Str} {sp sp' : Sp} {E : XK} {t : TA} {ws : List V} (h : Ev ta σ H (.ref a)) (ho : H a = some (.ins C dx fs)) (hl : fs.lookup m = none) (ht : EvA t σ H ws) (hs : SpV sp (.ref a :: ws) H z) : Ev (tMeth2 C C' m sp sp' E ta t) σ H z := fun H1 e Q q =>
  h H1 e _ fun H2 e2 => ⟨a, dx, fs, rfl, hl, .inl ⟨e2 _ _ (e _ _ ho), ht H2 (e.trans e2) _ fun H3 e3 => by
    rw [List.append_nil]
    exact hs H3 ((e.trans e2).trans e3) Q (fun H4 e4 => q H4 ((e2.trans e3).trans e4)) E⟩⟩
theorem ev_meth2b {m : Str} {sp sp' : Sp} {E : XK} {t : TA} {ws : List V} (h : Ev ta σ H (.ref a)) (ho : H a = some (.ins C' dx fs)) (hl : fs.lookup m = none) (ht : EvA t σ H ws) (hs : SpV sp' (.ref a :: ws) H z) : Ev (tMeth2 C C' m sp sp' E ta t) σ H z := fun H1 e Q q =>
  h H1 e _ fun H2 e2 => ⟨a, dx, fs, rfl, hl, .inr ⟨e2 _ _ (e _ _ ho), ht H2 (e.trans e2) _ fun H3 e3 => by
    rw [List.append_nil]
    exact hs H3 ((e.trans e2).trans e3) Q (fun H4 e4 => q H4 ((e2.trans e3).trans e4)) E⟩⟩
/-- a new instance, of which P holds -/
def EvN (te : TE) (σ : L2.St) (H : Hp) (P : Addr → Hp → Prop) : Prop := ∀ H1, Ex H H1 → ∀ Q : VK, (∀ x H2, H1 x = none → Ex H1 H2 → P x H2 → Q (.ref x) H2) → te σ H1 Q
theorem en_make0 : EvN (tMake0 C) σ H (fun x H2 => ∃ dx, H2 x = some (.ins C dx [])) := fun H1 e Q q x dx hx hd hne =>
  q x _ hx (Ex.mut (Ex.new hd) hx) ⟨dx, upd_same⟩
theorem s_asgN {i : Nat} {P : Addr → Hp → Prop} (h : EvN te σ H P) (k : ∀ x H1, H x = none → Ex H H1 → P x H1 → D.nx (σ.set i (some (.ref x))) H1) : tAsg te (gName i) D σ H := h H (Ex.refl H) _ k
theorem q_asgN {i : Nat} {P : Addr → Hp → Prop} (h : EvN te σ H P) (k : ∀ x H1, H x = none → Ex H H1 → P x H1 → tz D (σ.set i (some (.ref x))) H1) : tSeq (tAsg te (gName i)) tz D σ H := s_asgN (D := { D with nx := tz D }) h k
theorem s_retN {P : Addr → Hp → Prop} (h : EvN te σ H P) (k : ∀ x H1, H x = none → Ex H H1 → P x H1 → D.rt (.ref x) H1) : tRet te D σ H := h H (Ex.refl H) _ k
/-- f(..) gives a new instance -/
theorem en_call {sp : Sp} {ws : List V} {E : XK} {t : TA} {P : Addr → Hp → Prop} (h : EvA t σ H ws) (hs : ∀ H1, Ex H H1 → ∀ Q : VK, (∀ x H2, H1 x = none → Ex H1 H2 → P x H2 → Q (.ref x) H2) → sp ws H1 Q E) : EvN (tCall sp [] E t) σ H P := fun H1 e Q q =>
  h H1 e _ fun H2 e2 => by
    rw [List.append_nil]
    exact hs H2 (e.trans e2) Q fun x H3 hx e3 p => q x H3 (fresh_back e2 hx) (e2.trans e3) p
theorem et_ite {b : Bool} {P : Addr → Hp → Prop} (h : EvT t σ H b) (h1 : b = true → EvN ta σ H P) (h2 : b = false → EvN tb σ H P) : EvN (tIf t ta tb) σ H P := fun H1 e Q q => h H1 e _ fun H2 e2 => by
  cases b with
  | true =>
    rw [if_pos rfl]
    exact h1 rfl H2 (e.trans e2) Q fun x H3 hx e3 p => q x H3 (fresh_back e2 hx) (e2.trans e3) p
  | false =>
    rw [if_neg Bool.false_ne_true]
    exact h2 rfl H2 (e.trans e2) Q fun x H3 hx e3 p => q x H3 (fresh_back e2 hx) (e2.trans e3) p
end
end TL
namespace TL
open PySem PySem.Spec PyProof.Rows L2 Evl
/-! ### data: what is compared as a whole -/
mutual
theorem dp_ex {K : PySem.W.Frag} {H H' : Hp} (e : Ex H H') : ∀ (d : PyData) (v : V), Dp K H v d → Dp K H' v d
  | .none, _, h => by cases h; exact .non
  | .bool b, _, h => by cases h; exact .bl b
  | .int i, _, h => by cases h; exact .int i
  | .str x, _, h => by cases h; exact .str x
  | .list ds, _, h => by
    cases h with
    | lst hs ha => exact .lst (ex_l e hs) (dpall_ex e ds _ ha)
  | .tuple ds, _, h => by
    cases h with
    | tup hs ha => exact .tup (ex_t e hs) (dpall_ex e ds _ ha)
  | .dict _, _, h => by cases h
theorem dpall_ex {K : PySem.W.Frag} {H H' : Hp} (e : Ex H H') : ∀ (ds : List PyData) (vs : List V), DpAll K H vs ds → DpAll K H' vs ds
  | [], _, h => by cases h; exact .nil
  | d :: ds, _, h => by
    cases h with
    | cons h1 h2 => exact .cons (dp_ex e d _ h1) (dpall_ex e ds _ h2)
end
def Fine (k : Nat) (d : PyData) : Prop := PyData.canLay0 d = true ∧ PyData.depth d ≤ k
theorem Fine.shaped {k : Nat} {d : PyData} (h : Fine k d) (hk : k ≤ 64) : SeqAt.shaped d = true := by
  show (PyData.canLay0 d && decide (PyData.depth d ≤ 64)) = true
  rw [h.1, decide_eq_true (Nat.le_trans h.2 hk)]
  rfl
theorem fine_all {k : Nat} : ∀ {ds : List PyData}, (∀ d ∈ ds, Fine k d) → PyData.canLayAll0 ds = true ∧ PyData.depthAll ds ≤ k
  | [], _ => ⟨by simp [PyData.canLayAll0], by simp [PyData.depthAll]⟩
  | d :: ds, h => by
    have h1 := h d List.mem_cons_self
    have h2 := fine_all (ds := ds) fun x hx => h x (List.mem_cons_of_mem _ hx)
    refine ⟨by simp [PyData.canLayAll0, h1.1, h2.1], ?_⟩
    have := h1.2
    simp only [PyData.depthAll]
    omega
theorem fine_list {k : Nat} {ds : List PyData} (h : ∀ d ∈ ds, Fine k d) : Fine (k + 1) (.list ds) := by
  obtain ⟨h1, h2⟩ := fine_all h
  refine ⟨by simp only [PyData.canLay0]; exact h1, ?_⟩
  simp only [PyData.depth]
  omega
theorem fine_tup {k : Nat} {ds : List PyData} (h : ∀ d ∈ ds, Fine k d) : Fine (k + 1) (.tuple ds) := by
  obtain ⟨h1, h2⟩ := fine_all h
  refine ⟨by simp only [PyData.canLay0]; exact h1, ?_⟩
  simp only [PyData.depth]
  omega
theorem fine_int (k : Nat) (i : Int) : Fine k (.int i) := ⟨by simp [PyData.canLay0], by simp [PyData.depth]⟩
theorem fine_bool (k : Nat) (b : Bool) : Fine k (.bool b) := ⟨by simp [PyData.canLay0], by simp [PyData.depth]⟩
theorem fine_none (k : Nat) : Fine k .none := ⟨by simp [PyData.canLay0], by simp [PyData.depth]⟩
theorem fine_ints (k : Nat) (ns : List Int) : Fine (k + 1) (.list (ns.map PyData.int)) := fine_list fun d hd => by
  obtain ⟨n, _, rfl⟩ := List.mem_map.mp hd
  exact fine_int k n
theorem eqvAll_ints : ∀ ns ms : List Int, PyData.eqvAll (ns.map PyData.int) (ms.map PyData.int) = decide (ns = ms)
  | [], [] => by simp [PyData.eqvAll]
  | [], _ :: _ => by simp [PyData.eqvAll]
  | _ :: _, [] => by simp [PyData.eqvAll]
  | a :: r, b :: t => by
    simp only [List.map_cons, PyData.eqvAll, PyData.eqv, eqvAll_ints r t]
    by_cases h : a = b <;> by_cases h' : r = t <;> simp [h, h']
theorem eqv_ints (ns ms : List Int) : PyData.eqv (.list (ns.map PyData.int)) (.list (ms.map PyData.int)) = decide (ns = ms) := by
  simp only [PyData.eqv]
  exact eqvAll_ints ns ms
theorem dpall_ints {K : PySem.W.Frag} {H : Hp} : ∀ ns : List Int, DpAll K H (ns.map V.int) (ns.map PyData.int)
  | [] => .nil
  | n :: r => .cons (.int n) (dpall_ints r)
theorem dp_ints {K : PySem.W.Frag} {H : Hp} {a : Addr} {ns : List Int} (h : SqL K H a (ns.map V.int)) : Dp K H (.ref a) (.list (ns.map PyData.int)) := .lst h (dpall_ints ns)
section
variable {K : PySem.W.Frag} {σ : L2.St} {H H' : Hp} {te : TE} {ta tb : TE} {t : TA} {v : V} {d e : PyData} {ds : List PyData} {k : Nat}
def EvD (K : PySem.W.Frag) (te : TE) (σ : L2.St) (H : Hp) (d : PyData) : Prop := ∀ H1, Ex H H1 → ∀ Q : VK, (∀ v H2, Ex H1 H2 → Dp K H2 v d → Q v H2) → te σ H1 Q
def EvDA (K : PySem.W.Frag) (ta : TA) (σ : L2.St) (H : Hp) (ds : List PyData) : Prop := ∀ H1, Ex H H1 → ∀ Q : List V → Hp → Prop, (∀ vs H2, Ex H1 H2 → DpAll K H2 vs ds → vs.length = ds.length → Q vs H2) → ta σ H1 Q
theorem ed_ev (h : Ev te σ H v) (hd : Dp K H v d) : EvD K te σ H d := fun H1 e Q q => h H1 e _ fun H2 e2 => q v H2 e2 (dp_ex (e.trans e2) _ _ hd)
theorem ed_el {xs : List V} (h : EvL te σ H xs) (hd : ∀ H1, Ex H H1 → DpAll K H1 xs ds) : EvD K te σ H (.list ds) := fun H1 e Q q => h H1 e _ fun p H2 hp e2 h2 => q (.ref p) H2 e2 (.lst (sq_of h2) (hd H2 (e.trans e2)))
theorem ed_eu {xs : List V} (h : EvU te σ H xs) (hd : ∀ H1, Ex H H1 → DpAll K H1 xs ds) : EvD K te σ H (.tuple ds) := fun H1 e Q q => h H1 e _ fun p H2 hp e2 h2 => q (.ref p) H2 e2 (.tup (st_of h2) (hd H2 (e.trans e2)))
theorem ed_int {i : Int} (h : Ev te σ H (.int i)) : EvD K te σ H (.int i) := ed_ev h (.int i)
theorem ed_bl {b : Bool} (h : Ev te σ H (.bl b)) : EvD K te σ H (.bool b) := ed_ev h (.bl b)
theorem ed_ints {ns : List Int} (h : EvL te σ H (ns.map V.int)) : EvD K te σ H (.list (ns.map PyData.int)) := ed_el h fun H1 _ => dpall_ints ns
theorem ed_var {a : Addr} {ns : List Int} (h : Ev te σ H (.ref a)) (hs : SqL K H a (ns.map V.int)) : EvD K te σ H (.list (ns.map PyData.int)) := ed_ev h (dp_ints hs)
theorem eda_nil : EvDA K tNil σ H [] := fun H1 e Q q => q [] H1 (Ex.refl _) .nil rfl
theorem eda_cons (h : EvD K te σ H d) (hr : EvDA K t σ H ds) : EvDA K (tCons te t) σ H (d :: ds) := fun H1 e Q q => h H1 e _ fun v H2 e2 hv => hr H2 (e.trans e2) _ fun vs H3 e3 hvs hl => q (v :: vs) H3 (e2.trans e3) (.cons (dp_ex e3 _ _ hv) hvs) (by rw [List.length_cons, List.length_cons, hl])
theorem ed_lst (h : EvDA K t σ H ds) (hl : ds.length ≤ 100000) : EvD K (tLst t) σ H (.list ds) := fun H1 e Q q => h H1 e _ fun vs H2 e2 hvs hlen => ⟨sz_of (by omega), fun p hp => q (.ref p) _ (e2.trans (Ex.new hp)) (.lst (sq_of upd_same) (dpall_ex (Ex.new hp) _ _ hvs))⟩
theorem ed_tup (h : EvDA K t σ H ds) (hl : ds.length ≤ 100000) : EvD K (tTup t) σ H (.tuple ds) := fun H1 e Q q => h H1 e _ fun vs H2 e2 hvs hlen => ⟨sz_of (by omega), fun p hp => q (.ref p) _ (e2.trans (Ex.new hp)) (.tup (st_of upd_same) (dpall_ex (Ex.new hp) _ _ hvs))⟩
theorem ev_eqD (h1 : EvD K ta σ H d) (h2 : EvD K tb σ H e) (s1 : SeqAt.shaped d = true) (s2 : SeqAt.shaped e = true) : Ev (tOp (rEqD K) ta tb) σ H (.bl (PyData.eqv d e)) := fun H1 x Q q =>
  h1 H1 x _ fun v H2 e2 hv => h2 H2 (x.trans e2) _ fun w H3 e3 hw => ⟨d, e, dp_ex e3 _ _ hv, hw, s1, s2, q H3 (e2.trans e3)⟩
theorem ev_neD (h1 : EvD K ta σ H d) (h2 : EvD K tb σ H e) (s1 : SeqAt.shaped d = true) (s2 : SeqAt.shaped e = true) : Ev (tOp (rNeD K) ta tb) σ H (.bl (!PyData.eqv d e)) := fun H1 x Q q =>
  h1 H1 x _ fun v H2 e2 hv => h2 H2 (x.trans e2) _ fun w H3 e3 hw => ⟨d, e, dp_ex e3 _ _ hv, hw, s1, s2, q H3 (e2.trans e3)⟩
/-- two lists of ints -/
theorem ev_eqI {ns ms : List Int} (h1 : EvD K ta σ H (.list (ns.map PyData.int))) (h2 : EvD K tb σ H (.list (ms.map PyData.int))) : Ev (tOp (rEqD K) ta tb) σ H (.bl (decide (ns = ms))) := by
  rw [← eqv_ints]
  exact ev_eqD h1 h2 ((fine_ints 0 ns).shaped (by decide)) ((fine_ints 0 ms).shaped (by decide))
theorem ev_neI {ns ms : List Int} (h1 : EvD K ta σ H (.list (ns.map PyData.int))) (h2 : EvD K tb σ H (.list (ms.map PyData.int))) : Ev (tOp (rNeD K) ta tb) σ H (.bl (!decide (ns = ms))) := by
  rw [← eqv_ints]
  exact ev_neD h1 h2 ((fine_ints 0 ns).shaped (by decide)) ((fine_ints 0 ms).shaped (by decide))
end
end TL
namespace TL
open PySem PySem.Spec PyProof.Rows L2 Evl
section
variable {K : PySem.W.Frag} {σ : L2.St} {H H' : Hp} {te ta tb : TE} {t : TA} {x v z : V} {D : Ends} {tz tu : TS}
/-! ### a value of which something holds -/
abbrev VP := V → Hp → Prop
def Mono (P : VP) : Prop := ∀ v H H', Ex H H' → P v H → P v H'
def EvX (te : TE) (σ : L2.St) (H : Hp) (P : VP) : Prop := ∀ H1, Ex H H1 → ∀ Q : VK, (∀ v H2, Ex H1 H2 → P v H2 → Q v H2) → te σ H1 Q
def AllP : List VP → List V → Hp → Prop
  | [], [], _ => True
  | P :: Ps, v :: vs, H => P v H ∧ AllP Ps vs H
  | _, _, _ => False
theorem AllP.mono : ∀ {Ps : List VP} {vs : List V} {H H' : Hp}, (∀ P ∈ Ps, Mono P) → Ex H H' → AllP Ps vs H → AllP Ps vs H'
  | [], [], _, _, _, _, h => h
  | P :: Ps, v :: vs, _, _, m, e, h => ⟨m P List.mem_cons_self v _ _ e h.1, AllP.mono (fun P hP => m P (List.mem_cons_of_mem _ hP)) e h.2⟩
  | [], _ :: _, _, _, _, _, h => h.elim
  | _ :: _, [], _, _, _, _, h => h.elim
theorem AllP.length : ∀ {Ps : List VP} {vs : List V} {H : Hp}, AllP Ps vs H → vs.length = Ps.length
  | [], [], _, _ => rfl
  | P :: Ps, v :: vs, _, h => by rw [List.length_cons, List.length_cons, AllP.length h.2]
  | [], _ :: _, _, h => h.elim
  | _ :: _, [], _, h => h.elim
theorem AllP.get : ∀ {Ps : List VP} {vs : List V} {H : Hp} {i : Nat} {P : VP}, AllP Ps vs H → Ps[i]? = some P → ∃ v, vs[i]? = some v ∧ P v H
  | P :: Ps, v :: vs, _, 0, _, h, e => by cases e; exact ⟨v, rfl, h.1⟩
  | P :: Ps, v :: vs, _, i + 1, _, h, e => AllP.get (i := i) h.2 e
  | [], _, _, _, _, _, e => by cases e
  | _ :: _, [], _, _, _, h, _ => h.elim
def EvXA (ta : TA) (σ : L2.St) (H : Hp) (Ps : List VP) : Prop := ∀ H1, Ex H H1 → ∀ Q : List V → Hp → Prop, (∀ vs H2, Ex H1 H2 → AllP Ps vs H2 → Q vs H2) → ta σ H1 Q
theorem xv (h : Ev te σ H v) : EvX te σ H (fun w _ => w = v) := fun H1 e Q q => h H1 e _ fun H2 e2 => q v H2 e2 rfl
theorem xv_mono : Mono (fun w _ => w = v) := fun _ _ _ _ h => h
theorem EvX.imp {P P' : VP} (h : EvX te σ H P) (hi : ∀ v H1, Ex H H1 → P v H1 → P' v H1) : EvX te σ H P' := fun H1 e Q q => h H1 e _ fun v H2 e2 p => q v H2 e2 (hi v H2 (e.trans e2) p)
theorem xl {xs : List V} (h : EvL te σ H xs) : EvX te σ H (fun w H2 => ∃ p, w = .ref p ∧ H2 p = some (.lst xs)) := fun H1 e Q q => h H1 e _ fun p H2 hp e2 h2 => q _ H2 e2 ⟨p, rfl, h2⟩
theorem xn {P : Addr → Hp → Prop} (h : EvN te σ H P) : EvX te σ H (fun w H2 => ∃ p, w = .ref p ∧ P p H2) := fun H1 e Q q => h H1 e _ fun p H2 hp e2 h2 => q _ H2 e2 ⟨p, rfl, h2⟩
theorem xa_nil : EvXA tNil σ H [] := fun H1 e Q q => q [] H1 (Ex.refl _) trivial
theorem xa_cons {P : VP} {Ps : List VP} (h : EvX te σ H P) (m : Mono P) (hr : EvXA t σ H Ps) : EvXA (tCons te t) σ H (P :: Ps) := fun H1 e Q q => h H1 e _ fun v H2 e2 hv => hr H2 (e.trans e2) _ fun vs H3 e3 hvs => q (v :: vs) H3 (e2.trans e3) ⟨m v _ _ e3 hv, hvs⟩
theorem xa_v {Ps : List VP} (h : Ev te σ H v) (hr : EvXA t σ H Ps) : EvXA (tCons te t) σ H ((fun w _ => w = v) :: Ps) := xa_cons (xv h) xv_mono hr
/-- a list, a tuple of such: its items as they are -/
def PL (Ps : List VP) : VP := fun w H => ∃ p vs, w = .ref p ∧ H p = some (.lst vs) ∧ AllP Ps vs H
def PT (Ps : List VP) : VP := fun w H => ∃ p vs, w = .ref p ∧ H p = some (.tup vs) ∧ AllP Ps vs H
theorem PL.mono {Ps : List VP} (m : ∀ P ∈ Ps, Mono P) : Mono (PL Ps) := fun v H H' e ⟨p, vs, h1, h2, h3⟩ => ⟨p, vs, h1, e _ _ h2, h3.mono m e⟩
theorem PT.mono {Ps : List VP} (m : ∀ P ∈ Ps, Mono P) : Mono (PT Ps) := fun v H H' e ⟨p, vs, h1, h2, h3⟩ => ⟨p, vs, h1, e _ _ h2, h3.mono m e⟩
theorem x_lst {Ps : List VP} (m : ∀ P ∈ Ps, Mono P) (h : EvXA t σ H Ps) (hl : Ps.length ≤ 100000) : EvX (tLst t) σ H (PL Ps) := fun H1 e Q q => h H1 e _ fun vs H2 e2 hvs => ⟨sz_of (by rw [hvs.length]; exact hl), fun p hp => q (.ref p) _ (e2.trans (Ex.new hp)) ⟨p, vs, rfl, upd_same, hvs.mono m (Ex.new hp)⟩⟩
theorem x_tup {Ps : List VP} (m : ∀ P ∈ Ps, Mono P) (h : EvXA t σ H Ps) (hl : Ps.length ≤ 100000) : EvX (tTup t) σ H (PT Ps) := fun H1 e Q q => h H1 e _ fun vs H2 e2 hvs => ⟨sz_of (by rw [hvs.length]; exact hl), fun p hp => q (.ref p) _ (e2.trans (Ex.new hp)) ⟨p, vs, rfl, upd_same, hvs.mono m (Ex.new hp)⟩⟩
theorem s_asgX {i : Nat} {P : VP} (h : EvX te σ H P) (k : ∀ v H1, Ex H H1 → P v H1 → D.nx (σ.set i (some v)) H1) : tAsg te (gName i) D σ H := h H (Ex.refl H) _ k
theorem q_asgX {i : Nat} {P : VP} (h : EvX te σ H P) (k : ∀ v H1, Ex H H1 → P v H1 → tz D (σ.set i (some v)) H1) : tSeq (tAsg te (gName i)) tz D σ H := s_asgX (D := { D with nx := tz D }) h k
theorem s_retX {P : VP} (h : EvX te σ H P) (k : ∀ v H1, Ex H H1 → P v H1 → D.rt v H1) : tRet te D σ H := h H (Ex.refl H) _ k
theorem s_dropX {P : VP} (h : EvX te σ H P) (k : ∀ v H1, Ex H H1 → P v H1 → D.nx σ H1) : tDrop te D σ H := h H (Ex.refl H) _ k
theorem q_dropX {P : VP} (h : EvX te σ H P) (k : ∀ v H1, Ex H H1 → P v H1 → tz D σ H1) : tSeq (tDrop te) tz D σ H := s_dropX (D := { D with nx := tz D }) h k
/-- o.f of a new o -/
theorem ev_fldX {P : VP} {f : Str} (h : EvX ta σ H P) (hp : ∀ w H1, Ex H H1 → P w H1 → ∃ a C dx fs, w = .ref a ∧ H1 a = some (.ins C dx fs) ∧ Cls K C ∧ NoAttr K C f ∧ fs.lookup f = some v) : Ev (tFld K ta f) σ H v := fun H1 e Q q =>
  h H1 e _ fun w H2 e2 p => by
    obtain ⟨a, C, dx, fs, h1, h2, h3, h4, h5⟩ := hp w H2 (e.trans e2) p
    exact ⟨a, C, dx, fs, v, h1, h2, h3, h4, h5, q H2 e2⟩
theorem x_fld {P P' : VP} {f : Str} (h : EvX ta σ H P) (hp : ∀ w H1, Ex H H1 → P w H1 → ∃ a C dx fs u, w = .ref a ∧ H1 a = some (.ins C dx fs) ∧ Cls K C ∧ NoAttr K C f ∧ fs.lookup f = some u ∧ P' u H1) : EvX (tFld K ta f) σ H P' := fun H1 e Q q =>
  h H1 e _ fun w H2 e2 p => by
    obtain ⟨a, C, dx, fs, u, h1, h2, h3, h4, h5, h6⟩ := hp w H2 (e.trans e2) p
    exact ⟨a, C, dx, fs, u, h1, h2, h3, h4, h5, q u H2 e2 h6⟩
/-- a built-in's call, a def's call: arguments of which something holds -/
theorem ev_cbX {Ps : List VP} {r : List V → Hp → VK → Prop} (h : EvXA t σ H Ps) (hr : ∀ vs H1, Ex H H1 → AllP Ps vs H1 → RC r vs H1 z) : Ev (tCB r t) σ H z := fun H1 e Q q =>
  h H1 e _ fun vs H2 e2 p => hr vs H2 (e.trans e2) p H2 (Ex.refl _) Q fun H3 e3 => q H3 (e2.trans e3)
theorem ev_callX {Ps : List VP} {sp : Sp} {E : XK} (h : EvXA t σ H Ps) (hs : ∀ vs H1, Ex H H1 → AllP Ps vs H1 → SpV sp vs H1 z) : Ev (tCall sp [] E t) σ H z := fun H1 e Q q =>
  h H1 e _ fun vs H2 e2 p => by
    rw [List.append_nil]
    exact hs vs H2 (e.trans e2) p H2 (Ex.refl _) Q (fun H3 e3 => q H3 (e2.trans e3)) E
/-- a def's promise by a value of which P holds -/
def SpX (sp : Sp) (vs : List V) (H : Hp) (P : VP) : Prop := ∀ H1, Ex H H1 → ∀ Q : VK, (∀ v H2, Ex H1 H2 → P v H2 → Q v H2) → ∀ E : XK, sp vs H1 Q E
theorem x_call {Ps : List VP} {P : VP} {sp : Sp} {E : XK} (h : EvXA t σ H Ps) (hs : ∀ vs H1, Ex H H1 → AllP Ps vs H1 → SpX sp vs H1 P) : EvX (tCall sp [] E t) σ H P := fun H1 e Q q =>
  h H1 e _ fun vs H2 e2 p => by
    rw [List.append_nil]
    exact hs vs H2 (e.trans e2) p H2 (Ex.refl _) Q (fun v H3 e3 p => q v H3 (e2.trans e3) p) E
theorem x_callV {ws : List V} {P : VP} {sp : Sp} {E : XK} (h : EvA t σ H ws) (hs : SpX sp ws H P) : EvX (tCall sp [] E t) σ H P := fun H1 e Q q =>
  h H1 e _ fun H2 e2 => by
    rw [List.append_nil]
    exact hs H2 (e.trans e2) Q (fun v H3 e3 p => q v H3 (e2.trans e3) p) E
/-- o.m(..) of an o, with arguments, of which something holds -/
theorem ev_methX {P : VP} {Ps : List VP} {m : Str} {sp : Sp} {E : XK} {C : Addr} (mp : Mono P) (h : EvX ta σ H P) (hp : ∀ w H1, Ex H H1 → P w H1 → ∃ a dx fs, w = .ref a ∧ H1 a = some (.ins C dx fs) ∧ fs.lookup m = none) (ht : EvXA t σ H Ps) (hs : ∀ w vs H1, Ex H H1 → P w H1 → AllP Ps vs H1 → SpV sp (w :: vs) H1 z) : Ev (tMeth C m sp [] E ta t) σ H z := fun H1 e Q q =>
  h H1 e _ fun w H2 e2 p => by
    obtain ⟨a, dx, fs, h1, h2, h3⟩ := hp w H2 (e.trans e2) p
    refine ⟨a, dx, fs, h1, h2, h3, ht H2 (e.trans e2) _ fun vs H3 e3 p3 => ?_⟩
    rw [List.append_nil]
    exact hs w vs H3 ((e.trans e2).trans e3) (mp w _ _ e3 p) p3 H3 (Ex.refl _) Q (fun H4 e4 => q H4 ((e2.trans e3).trans e4)) E
/-- xs[::-1] -/
theorem el_rev {a : Addr} {xs : List V} (h : Ev te σ H (.ref a)) (hs : SqL K H a xs) : EvL (tRevL K te) σ H xs.reverse := fun H1 e Q q => h H1 e _ fun H2 e2 => ⟨a, xs, rfl, ex_l (e.trans e2) hs, fun p hp => q p _ (fresh_back e2 hp) (e2.trans (Ex.new hp)) upd_same⟩
end
section
variable {X : Cx}
theorem tl_isB : OpR X (compareOp .Is) rIsB := op_isBl
theorem tl_notB : OpR X (compareOp .IsNot) rNotB := op_notBl
theorem rv_isB {H : Hp} {a b : Bool} : RV rIsB (.bl a) (.bl b) H (.bl (decide (a = b))) := fun H1 e Q q => ⟨a, b, rfl, rfl, q H1 (Ex.refl _)⟩
theorem rv_notB {H : Hp} {a b : Bool} : RV rNotB (.bl a) (.bl b) H (.bl (!decide (a = b))) := fun H1 e Q q => ⟨a, b, rfl, rfl, q H1 (Ex.refl _)⟩
end
end TL
namespace TL
open PySem PySem.Spec PyProof.Rows L2 Evl
theorem AllP.one {P : VP} {vs : List V} {H : Hp} (h : AllP [P] vs H) : ∃ v, vs = [v] ∧ P v H := by
  match vs, h with
  | [v], ⟨h1, _⟩ => exact ⟨v, rfl, h1⟩
theorem AllP.two {P P' : VP} {vs : List V} {H : Hp} (h : AllP [P, P'] vs H) : ∃ v w, vs = [v, w] ∧ P v H ∧ P' w H := by
  match vs, h with
  | [v, w], ⟨h1, h2, _⟩ => exact ⟨v, w, rfl, h1, h2⟩
theorem AllP.three {P P' P'' : VP} {vs : List V} {H : Hp} (h : AllP [P, P', P''] vs H) : ∃ v w u, vs = [v, w, u] ∧ P v H ∧ P' w H ∧ P'' u H := by
  match vs, h with
  | [v, w, u], ⟨h1, h2, h3, _⟩ => exact ⟨v, w, u, rfl, h1, h2, h3⟩
/-! ### order -/
theorem sorted_eq {ns ms : List Int} (hp : ns.Perm ms) (h1 : ns.Pairwise (· ≤ ·)) (h2 : ms.Pairwise (· ≤ ·)) : ns = ms := hp.eq_of_pairwise (fun a b _ _ x y => Int.le_antisymm x y) h1 h2
section
variable {K : PySem.W.Frag} {σ : L2.St} {H H' : Hp} {te ta tb : TE} {t : TA} {x v z : V} {D : Ends} {tz tu : TS}
/-- sorted of a list: the one arrangement that rises -/
theorem el_sortedN {ns ms : List Int} (h : EvL ta σ H (ns.map V.int)) (hp : ns.Perm ms) (hm : ms.Pairwise (· ≤ ·)) : EvL (tCB (rSortedI K) (tCons ta tNil)) σ H (ms.map V.int) := fun H1 e Q q =>
  h H1 e _ fun p H2 hp2 e2 h2 => ⟨p, ns, rfl, sq_of h2, fun ns' p' hperm hs hn => by
    rw [sorted_eq (hperm.trans hp) hs hm]
    exact q p' _ (fresh_back e2 hn) (e2.trans (Ex.new hn)) upd_same⟩
theorem el_sortedV {a : Addr} {ns ms : List Int} (h : Ev ta σ H (.ref a)) (hs : SqL K H a (ns.map V.int)) (hp : ns.Perm ms) (hm : ms.Pairwise (· ≤ ·)) : EvL (tCB (rSortedI K) (tCons ta tNil)) σ H (ms.map V.int) := fun H1 e Q q =>
  h H1 e _ fun H2 e2 => ⟨a, ns, rfl, ex_l (e.trans e2) hs, fun ns' p' hperm hs hn => by
    rw [sorted_eq (hperm.trans hp) hs hm]
    exact q p' _ (fresh_back e2 hn) (e2.trans (Ex.new hn)) upd_same⟩
theorem rc_minI {p : Addr} {ns : List Int} {m : Int} (h : SqL K H p (ns.map V.int)) (h1 : m ∈ ns) (h2 : ∀ y ∈ ns, m ≤ y) : RC (rMin K) [.ref p] H (.int m) := fun H1 e Q q => ⟨p, ns, rfl, ex_l e h, List.length_pos_of_mem h1, fun m' h3 h4 => by
  rw [Int.le_antisymm (h4 m h1) (h2 m' h3)]
  exact q H1 (Ex.refl _)⟩
/-- for i in range(lo, hi, -1) -/
theorem s_forR3 {ta : TA} {j : Nat} {lo hi : Int} (h : EvA ta σ H [.int lo, .int hi, .int (-1)]) (hn : -100000 ≤ lo ∧ lo ≤ 100000 ∧ -100000 ≤ hi ∧ hi ≤ 100000) (Pv : Nat → L2.St → Hp → Prop) (h0 : ∀ H1, Ex H H1 → Pv 0 σ H1)
    (hs : ∀ (i : Nat) σ' H', i < (lo - hi).toNat → Pv i σ' H' → tu { D with nx := Pv (i + 1), ct := Pv (i + 1), bk := D.nx } (σ'.set j (some (.int (lo + (i : Int) * (-1))))) H') (hd : ∀ σ' H', Pv (lo - hi).toNat σ' H' → D.nx σ' H') : tFor (iRng3 ta) (gName j) tu D σ H :=
  h H (Ex.refl H) _ fun H1 e => ⟨lo, hi, -1, (lo - hi).toNat, rfl, RgC.neg (by omega) (by omega) (by omega) (by omega), for_rangeC (lo := lo) (c := -1) (n := (lo - hi).toNat) Pv (h0 H1 e) (fun i σ' H' hi' p => hs i σ' H' hi' p) hd⟩
theorem q_forR3 {ta : TA} {j : Nat} {lo hi : Int} (h : EvA ta σ H [.int lo, .int hi, .int (-1)]) (hn : -100000 ≤ lo ∧ lo ≤ 100000 ∧ -100000 ≤ hi ∧ hi ≤ 100000) (Pv : Nat → L2.St → Hp → Prop) (h0 : ∀ H1, Ex H H1 → Pv 0 σ H1)
    (hs : ∀ (i : Nat) σ' H', i < (lo - hi).toNat → Pv i σ' H' → tu { D with nx := Pv (i + 1), ct := Pv (i + 1), bk := tz D } (σ'.set j (some (.int (lo + (i : Int) * (-1))))) H') (hd : ∀ σ' H', Pv (lo - hi).toNat σ' H' → tz D σ' H') : tSeq (tFor (iRng3 ta) (gName j) tu) tz D σ H := s_forR3 (D := { D with nx := tz D }) h hn Pv h0 hs hd
/-- list(range(n)) -/
theorem rgV_nat (n : Nat) : rgV 0 (n : Int) = ((List.range n).map fun i : Nat => (i : Int)).map V.int := by
  unfold rgV
  rw [List.map_map, show ((n : Int) - 0).toNat = n by omega]
  apply List.map_congr_left
  intro i _
  show V.int (0 + (i : Int)) = V.int (i : Int)
  rw [Int.zero_add]
theorem el_range {n : Nat} (h : Ev ta σ H (.int (n : Int))) (hn : n ≤ 100000) : EvL (tLstRg (tRg1 ta)) σ H (((List.range n).map fun i : Nat => (i : Int)).map V.int) := fun H1 e Q q =>
  h H1 e _ fun H2 e2 => ⟨(n : Int), rfl, .of_le (by omega) (by omega) (by omega) (by omega), fun p hp => by
    rw [rgV_nat]
    exact q p _ (fresh_back e2 hp) (e2.trans (Ex.new hp)) upd_same⟩
end
end TL
namespace TL
open PySem PySem.Spec PyProof.Rows L2 Evl
section
variable {X : Cx}
theorem tl_inD {k : Nat} (hr : Room k X.A) : OpR X (compareOp .In) (rInD X.K) := op_inD (by have := hr.un; omega)
theorem tl_notInD {k : Nat} (hr : Room k X.A) : OpR X (compareOp .NotIn) (rNotInD X.K) := op_notInD (by have := hr.un; omega)
end
section
variable {K : PySem.W.Frag} {σ : L2.St} {H H' : Hp} {te ta tb : TE} {t : TA} {x v z : V} {D : Ends} {tz tu : TS} {d : PyData} {ds : List PyData}
theorem ev_inD (h1 : EvD K ta σ H d) (h2 : EvD K tb σ H (.list ds)) (s1 : SeqAt.shaped d = true) (s2 : SeqAt.shaped (.list ds) = true) : Ev (tOp (rInD K) ta tb) σ H (.bl (ds.any fun z => PyData.eqv z d)) := fun H1 x Q q =>
  h1 H1 x _ fun v H2 e2 hv => h2 H2 (x.trans e2) _ fun w H3 e3 hw => ⟨d, ds, dp_ex e3 _ _ hv, hw, s1, s2, q H3 (e2.trans e3)⟩
theorem ev_notInD (h1 : EvD K ta σ H d) (h2 : EvD K tb σ H (.list ds)) (s1 : SeqAt.shaped d = true) (s2 : SeqAt.shaped (.list ds) = true) : Ev (tOp (rNotInD K) ta tb) σ H (.bl (!ds.any fun z => PyData.eqv z d)) := fun H1 x Q q =>
  h1 H1 x _ fun v H2 e2 hv => h2 H2 (x.trans e2) _ fun w H3 e3 hw => ⟨d, ds, dp_ex e3 _ _ hv, hw, s1, s2, q H3 (e2.trans e3)⟩
/-- a def that tells a new tuple -/
def RetU (xs : List V) (H : Hp) (Q : VK) : Prop := ∀ p H2, H p = none → Ex H H2 → H2 p = some (.tup xs) → Q (.ref p) H2
def SpU (sp : Sp) (vs : List V) (H : Hp) (xs : List V) : Prop := ∀ H1, Ex H H1 → ∀ Q : VK, (∀ p H2, H1 p = none → Ex H1 H2 → H2 p = some (.tup xs) → Q (.ref p) H2) → ∀ E : XK, sp vs H1 Q E
theorem eu_call {sp : Sp} {ws xs : List V} {E : XK} (h : EvA t σ H ws) (hs : SpU sp ws H xs) : EvU (tCall sp [] E t) σ H xs := fun H1 e Q q =>
  h H1 e _ fun H2 e2 => by
    rw [List.append_nil]
    exact hs H2 (e.trans e2) Q (fun p H3 hp e3 h3 => q p H3 (fresh_back e2 hp) (e2.trans e3) h3) E
theorem eu_callL {sp : Sp} {xs ys : List V} {E : XK} (h : EvL ta σ H xs) (hs : ∀ p H1, Ex H H1 → H1 p = some (.lst xs) → SpU sp [.ref p] H1 ys) : EvU (tCall sp [] E (tCons ta tNil)) σ H ys := fun H1 e Q q =>
  h H1 e _ fun p H2 hp e2 h2 => hs p H2 (e.trans e2) h2 H2 (Ex.refl _) Q (fun p' H3 hp' e3 h3 => q p' H3 (fresh_back e2 hp') (e2.trans e3) h3) E
theorem el_callL {sp : Sp} {xs ys : List V} {E : XK} (h : EvL ta σ H xs) (hs : ∀ p H1, Ex H H1 → H1 p = some (.lst xs) → SpL sp [.ref p] H1 ys) : EvL (tCall sp [] E (tCons ta tNil)) σ H ys := fun H1 e Q q =>
  h H1 e _ fun p H2 hp e2 h2 => hs p H2 (e.trans e2) h2 H2 (Ex.refl _) Q (fun p' H3 hp' e3 h3 => q p' H3 (fresh_back e2 hp') (e2.trans e3) h3) E
/-- xs[0] of a new list -/
theorem ev_ixN {xs : List V} {i : Int} (ha : EvL ta σ H xs) (hb : Ev tb σ H (.int i)) (h : atI xs i = some v) : Ev (tOp (rIxL K) ta tb) σ H v := fun H1 e Q q =>
  ha H1 e _ fun p H2 hp e2 h2 => hb H2 (e.trans e2) _ fun H3 e3 => ⟨p, xs, i, v, rfl, rfl, sq_of (e3 _ _ h2), h, q H3 (e2.trans e3)⟩
theorem ed_pair {i j : Int} (h : EvU te σ H [.int i, .int j]) : EvD K te σ H (.tuple [.int i, .int j]) := ed_eu h fun _ _ => .cons (.int i) (.cons (.int j) .nil)
theorem ed_pairV {a : Addr} {i j : Int} (h : Ev te σ H (.ref a)) (hs : SqT K H a [.int i, .int j]) : EvD K te σ H (.tuple [.int i, .int j]) := ed_ev h (.tup hs (.cons (.int i) (.cons (.int j) .nil)))
theorem fine_pair (i j : Int) : Fine 1 (.tuple [.int i, .int j]) := fine_tup (k := 0) fun d hd => by
  simp only [List.mem_cons, List.not_mem_nil, or_false] at hd
  rcases hd with rfl | rfl <;> exact fine_int 0 _
theorem eqv_pair (i j i' j' : Int) : PyData.eqv (.tuple [.int i, .int j]) (.tuple [.int i', .int j']) = decide ((i, j) = (i', j')) := by
  simp only [PyData.eqv, PyData.eqvAll]
  by_cases h1 : i = i' <;> by_cases h2 : j = j' <;> simp [h1, h2]
theorem ev_neP {i j i' j' : Int} (h1 : EvD K ta σ H (.tuple [.int i, .int j])) (h2 : EvD K tb σ H (.tuple [.int i', .int j'])) : Ev (tOp (rNeD K) ta tb) σ H (.bl (!decide ((i, j) = (i', j')))) := by
  rw [← eqv_pair]
  exact ev_neD h1 h2 ((fine_pair _ _).shaped (by decide)) ((fine_pair _ _).shaped (by decide))
theorem ev_eqP {i j i' j' : Int} (h1 : EvD K ta σ H (.tuple [.int i, .int j])) (h2 : EvD K tb σ H (.tuple [.int i', .int j'])) : Ev (tOp (rEqD K) ta tb) σ H (.bl (decide ((i, j) = (i', j')))) := by
  rw [← eqv_pair]
  exact ev_eqD h1 h2 ((fine_pair _ _).shaped (by decide)) ((fine_pair _ _).shaped (by decide))
/-- rows of ints in a list, compared -/
theorem eqv_rows (d : List Int) : ∀ rows : List (List Int), ((rows.map fun r => PyData.list (r.map PyData.int)).any fun z => PyData.eqv z (.list (d.map PyData.int))) = decide (d ∈ rows)
  | [] => by simp
  | r :: rows => by
    rw [List.map_cons, List.any_cons, eqv_ints, eqv_rows d rows]
    by_cases h : r = d
    · subst h; simp
    · have h' : ¬ d = r := fun z => h z.symm
      simp [h, h']
theorem fine_rows (rows : List (List Int)) : Fine 2 (.list (rows.map fun r => PyData.list (r.map PyData.int))) := fine_list (k := 1) fun d hd => by
  obtain ⟨r, _, rfl⟩ := List.mem_map.mp hd
  exact fine_ints 0 r
end
end TL
namespace TL
open PySem PySem.Spec PyProof.Rows L2 Evl
section
variable {X : Cx}
theorem tl_min3 (hc : X.calm = true) : CallR X (.builtin "min") (rNuC3 nuMin3) := call_min3Nu hc
def rInsert : V → List V → Hp → VK → Prop := fun x vs H Q => ∃ (l : Addr) (xs : List V) (i : Int) (y : V), x = .ref l ∧ vs = [.int i, y] ∧ H l = some (.lst xs) ∧ xs.length < sizeLine ∧ 0 ≤ i ∧ i < 2 ^ 63 ∧ Q .non (upd H l (.lst (xs.take i.toNat ++ [y] ++ xs.drop i.toNat)))
theorem tl_insert : MtR X "list.insert" rInsert := mt_insert
/-- range(a, b, c) as an argument of list -/
def rgS (a c : Int) (n : Nat) : List V := (List.range n).map fun i => V.int (a + (i : Nat) * c)
theorem vals_rgS {a c : Int} {n : Nat} {acc : Array Value} (h : ItemsOf (fun i v => ∃ t, v = .int (a + i * c) t) acc n) : Vals (rgS a c n) acc.toList := by
  have e : acc.toList.length = n := by rw [Array.length_toList]; exact h.1
  unfold rgS
  rw [← e]
  refine vals_of_get acc.toList _ fun j u hj => ?_
  obtain ⟨t, rfl⟩ := h.2 j u (by rw [← hj, Array.getElem?_toList])
  exact ⟨t, rfl⟩
def tLstRg3 (ta tb tc : TE) : TE := fun σ H Q => ta σ H fun x H1 => tb σ H1 fun y H2 => tc σ H2 fun z H3 => ∃ (i j c : Int) (n : Nat), x = .int i ∧ y = .int j ∧ z = .int c ∧ RgC i j c n ∧ n ≤ 2 ^ 24 ∧ ∀ q, H3 q = none → Q (.ref q) (upd H3 q (.lst (rgS i c n)))
theorem pe_listRg3 {a b c : Expr} {ta tb tc : TE} {p pos p' pos' : Pos} (hc : X.calm = true) (hg : Gl X "list") (hm : X.mg "list" = none) (hg' : Gl X "range") (hm' : X.mg "range" = none) (ha : PE X a ta) (hb : PE X b tb) (hcc : PE X c tc)
    (na : starEach [a, b, c] X.env = (false, eval a X.env) :: starEach [b, c] X.env := by rfl) (nb : starEach [b, c] X.env = (false, eval b X.env) :: starEach [c] X.env := by rfl) (nc : starEach [c] X.env = (false, eval c X.env) :: starEach [] X.env := by rfl)
    (hp : (backTo pos' (starEach [b, c] X.env)).any (·.1) = false := by rfl)
    (ne : starEach [.Call (.Name "range" p') [a, b, c] [] pos'] X.env = (false, eval (.Call (.Name "range" p') [a, b, c] [] pos') X.env) :: starEach [] X.env := by rfl) :
    PE X (.Call (.Name "list" p) [.Call (.Name "range" p') [a, b, c] [] pos'] [] pos) (tLstRg3 ta tb tc) := by
  refine ⟨fun pins s σ H Q I h => ?_⟩
  refine Call_ (ld_blt I hg hm boot_list (PyProof.Rows.callWith_type1 (args_cons (Call_ (ld_blt I hg' hm' boot_range (PyProof.Rows.callWith_type1 (args_cons (thn (ha.run pins s σ H _ I h) fun v s1 ⟨x, H1, I1, r1, q1⟩ => args_cons (thn (hb.run pins s1 σ H1 _ I1 q1) fun u s2 ⟨y, H2, I2, r2, q2⟩ => one_arg hcc I2 q2 (fun w s3 z H3 I3 r3 q => ?_) nc) nb) na) na hp))) ne) ne))
  obtain ⟨i, j, cc, n, rfl, rfl, rfl, rg, hn, q⟩ := q
  obtain ⟨t1, rfl⟩ := r1
  obtain ⟨t2, rfl⟩ := r2
  obtain ⟨t3, rfl⟩ := r3
  obtain ⟨g1, g2, g3, g4⟩ := rg
  refine call_range_3 g1 ?_ (.inl (PyProof.noPylong_small g2))
  refine args_nil ?_
  have I4 : Inv X pins σ H3 { s3 with heap := s3.heap.push { cls := .type "range", data := .fields #[.int i t1, .int j t2, .int cc t3] } } := I3.kept fun b u e => Heap.get?_push_of_some _ e
  refine call_list_range (n := n) (I4.ok.hd hc) (IsRange.new _ _ _ _ _ _ _) g3 g4 hn fun h' tk acc c' hk e' hi => ?_
  refine ⟨.ref _, upd H3 _ (.lst (rgS i cc n)), I4.laid hk (Nat.le_refl _) (show ObjOk X.prog X.w _ _ _ (.lst (rgS i cc n)) from ⟨?_, acc.toList, c', vals_rgS hi, ?_⟩), rfl, q _ (I4.hok.fresh (Nat.le_refl _))⟩
  · unfold rgS
    rw [List.length_map, List.length_range, sizeLine_eq]
    omega
  · rw [Array.toArray_toList]; exact e'
end
section
variable {K : PySem.W.Frag} {σ : L2.St} {H H' : Hp} {te ta tb tc : TE} {t : TA} {x v z : V} {D : Ends} {tz tu : TS}
theorem rc_min3 {a b c : Int} : RC (rNuC3 nuMin3) [.int a, .int b, .int c] H (.int (if c < (if b < a then b else a) then c else (if b < a then b else a))) := fun H1 e Q q => by
  refine ⟨_, _, _, _, rfl, ?_, q H1 (Ex.refl _)⟩
  by_cases h1 : b < a
  · by_cases h2 : c < b
    · simp [nuMin3, nuMin2, nuLt, nuCB, h1, h2]
    · simp [nuMin3, nuMin2, nuLt, nuCB, h1, h2]
  · by_cases h2 : c < a
    · simp [nuMin3, nuMin2, nuLt, nuCB, h1, h2]
    · simp [nuMin3, nuMin2, nuLt, nuCB, h1, h2]
theorem s_insert {l : Addr} {xs : List V} {i : Int} (hl : H l = some (.lst xs)) (ho : Ev ta σ H (.ref l)) (hi : Ev tb σ H (.int i)) (hv : Ev tc σ H v) (hz : xs.length < 100000) (h0 : 0 ≤ i) (h1 : i ≤ 100000) (k : ∀ H1, Ex H H1 → D.nx σ (upd H1 l (.lst (xs.take i.toNat ++ [v] ++ xs.drop i.toNat)))) :
    tDrop (tBM K "list" rInsert ta (tCons tb (tCons tc tNil))) D σ H := ho H (Ex.refl H) _ fun H1 e1 => ⟨.inl ⟨rfl, xs, sq_of (e1 _ _ hl)⟩, hi H1 e1 _ fun H2 e2 => hv H2 (e1.trans e2) _ fun H3 e3 => ⟨l, xs, i, v, rfl, rfl, e3 _ _ (e2 _ _ (e1 _ _ hl)), sz_lt hz, h0, by omega, k H3 (e1.trans (e2.trans e3))⟩⟩
/-- xs.index(y), ints: the first place -/
theorem ev_index {a : Addr} {ns : List Int} {y : Int} {j : Nat} (h : Ev ta σ H (.ref a)) (hs : SqL K H a (ns.map V.int)) (hy : Ev tb σ H (.int y)) (hj : ns[j]? = some y) (hf : ∀ m, m < j → ns[m]? ≠ some y) : Ev (tBM K "list" (rIndex K) ta (tCons tb tNil)) σ H (.int (j : Int)) := fun H1 e Q q =>
  h H1 e _ fun H2 e2 => ⟨.inl ⟨rfl, _, ex_l (e.trans e2) hs⟩, hy H2 (e.trans e2) _ fun H3 e3 => ⟨a, ns.map V.int, .int y, j, .int y, rfl, rfl, ex_l ((e.trans e2).trans e3) hs, rfl, by
    rw [List.all_map, List.all_eq_true]
    intro t _
    rfl, by rw [List.getElem?_map, hj]; rfl, by simp [eqV], fun m z' hm hz => by
    rw [List.getElem?_map] at hz
    obtain ⟨n, hn, rfl⟩ := Option.map_eq_some_iff.mp hz
    have : n ≠ y := fun z => hf m hm (by rw [hn, z])
    simpa [eqV] using this, q H3 (e2.trans e3)⟩⟩
end
end TL
namespace TL
open PySem PySem.Spec PyProof.Rows L2 Evl
section
variable {K : PySem.W.Frag} {σ : L2.St} {H H' : Hp} {te ta tb : TE} {t : TA} {x v z : V} {D : Ends} {tz tu : TS} {S : Addr → Prop} {P : VP}
/-! ### a heap without some addresses: what is told of the rest stays when those change -/
open Classical in
noncomputable def cut (H : Hp) (S : Addr → Prop) : Hp := fun a => if S a then none else H a
theorem cut_at {a : Addr} {o : HO} (h : ¬ S a) (ha : H a = some o) : cut H S a = some o := by
  unfold cut
  rw [if_neg h]
  exact ha
theorem of_cut {a : Addr} {o : HO} (h : cut H S a = some o) : ¬ S a ∧ H a = some o := by
  unfold cut at h
  by_cases c : S a
  · rw [if_pos c] at h
    exact nomatch h
  · rw [if_neg c] at h
    exact ⟨c, h⟩
theorem cut_sub : Ex (cut H S) H := fun a o h => (of_cut h).2
theorem cut_ex (e : Ex H H') : Ex (cut H S) (cut H' S) := fun a o h => cut_at (of_cut h).1 (e _ _ (of_cut h).2)
theorem cut_upd {a : Addr} {o : HO} (h : S a) : cut (upd H a o) S = cut H S := by
  funext b
  unfold cut
  by_cases c : S b
  · rw [if_pos c, if_pos c]
  · rw [if_neg c, if_neg c]
    exact upd_ne (fun z => c (z ▸ h))
theorem cut_no : cut H (fun _ => False) = H := by
  funext b
  unfold cut
  rw [if_neg (fun z => z)]
theorem cut_more {S' : Addr → Prop} (h : ∀ a, S' a → S a) : Ex (cut H S) (cut H S') := fun a o q => cut_at (fun z => (of_cut q).1 (h a z)) (of_cut q).2
theorem cut_cut {S' : Addr → Prop} : cut (cut H S) S' = cut H (fun a => S a ∨ S' a) := by
  funext b
  unfold cut
  by_cases c : S' b
  · rw [if_pos c, if_pos (Or.inr c)]
  · rw [if_neg c]
    by_cases d : S b
    · rw [if_pos d, if_pos (Or.inl d)]
    · rw [if_neg d, if_neg (fun z => z.elim d c)]
/-- nothing of S is new -/
def Sup (S : Addr → Prop) (H : Hp) : Prop := ∀ a, S a → H a ≠ none
theorem Sup.ex (e : Ex H H') (h : Sup S H) : Sup S H' := fun a ha q => h a ha (fresh_back e q)
theorem Sup.new {p : Addr} (h : Sup S H) (hp : H p = none) : ¬ S p := fun z => h p z hp
theorem sup_no : Sup (fun _ => False) H := fun _ z => z.elim
theorem sup_one {a : Addr} {o : HO} (h : H a = some o) : Sup (fun b => b = a) H := fun b hb q => by
  rw [hb, h] at q
  exact nomatch q
def XS (S : Addr → Prop) (te : TE) (σ : L2.St) (H : Hp) (P : VP) : Prop := EvX te σ H fun v H1 => P v (cut H1 S)
theorem mono_cut (m : Mono P) : Mono (fun v H1 => P v (cut H1 S)) := fun v H H' e h => m v _ _ (cut_ex e) h
theorem XS.plain (m : Mono P) (h : XS S te σ H P) : EvX te σ H P := EvX.imp h fun v H1 _ p => m v _ _ cut_sub p
theorem EvX.xs (h : EvX te σ H P) : XS (fun _ => False) te σ H P := h.imp fun v H1 _ p => by rw [cut_no]; exact p
theorem XS.imp {P' : VP} (h : XS S te σ H P) (hi : ∀ v H1, Ex (cut H S) H1 → P v H1 → P' v H1) : XS S te σ H P' := EvX.imp h fun v H1 e p => hi v _ (cut_ex e) p
theorem xs_v (h : Ev te σ H v) (m : Mono P) (hp : P v (cut H S)) : XS S te σ H P := (xv h).imp fun w H1 e hw => by rw [hw]; exact m v _ _ (cut_ex e) hp
theorem xs_l {xs : List V} (h : EvL te σ H xs) (s : Sup S H) : XS S te σ H (fun w H1 => ∃ p, w = .ref p ∧ H1 p = some (.lst xs)) := fun H1 e Q q => h H1 e _ fun p H2 hp e2 h2 => q _ H2 e2 ⟨p, rfl, cut_at ((s.ex e).new hp) h2⟩
theorem xs_u {xs : List V} (h : EvU te σ H xs) (s : Sup S H) : XS S te σ H (fun w H1 => ∃ p, w = .ref p ∧ H1 p = some (.tup xs)) := fun H1 e Q q => h H1 e _ fun p H2 hp e2 h2 => q _ H2 e2 ⟨p, rfl, cut_at ((s.ex e).new hp) h2⟩
def XSA (S : Addr → Prop) (ta : TA) (σ : L2.St) (H : Hp) (Ps : List VP) : Prop := ∀ H1, Ex H H1 → ∀ Q : List V → Hp → Prop, (∀ vs H2, Ex H1 H2 → AllP Ps vs (cut H2 S) → Q vs H2) → ta σ H1 Q
theorem xsa_nil : XSA S tNil σ H [] := fun H1 e Q q => q [] H1 (Ex.refl _) trivial
theorem xsa_cons {Ps : List VP} (h : XS S te σ H P) (m : Mono P) (hr : XSA S t σ H Ps) : XSA S (tCons te t) σ H (P :: Ps) := fun H1 e Q q => h H1 e _ fun v H2 e2 hv => hr H2 (e.trans e2) _ fun vs H3 e3 hvs => q (v :: vs) H3 (e2.trans e3) ⟨m v _ _ (cut_ex e3) hv, hvs⟩
theorem cut_new {p : Addr} {o : HO} (hp : H p = none) : Ex (cut H S) (cut (upd H p o) S) := cut_ex (Ex.new hp)
theorem xs_lst {Ps : List VP} (m : ∀ P ∈ Ps, Mono P) (s : Sup S H) (h : XSA S t σ H Ps) (hl : Ps.length ≤ 100000) : XS S (tLst t) σ H (PL Ps) := fun H1 e Q q => h H1 e _ fun vs H2 e2 hvs => ⟨sz_of (by rw [hvs.length]; exact hl), fun p hp => q (.ref p) _ (e2.trans (Ex.new hp)) ⟨p, vs, rfl, cut_at ((s.ex (e.trans e2)).new hp) upd_same, hvs.mono m (cut_new hp)⟩⟩
theorem xs_tup {Ps : List VP} (m : ∀ P ∈ Ps, Mono P) (s : Sup S H) (h : XSA S t σ H Ps) (hl : Ps.length ≤ 100000) : XS S (tTup t) σ H (PT Ps) := fun H1 e Q q => h H1 e _ fun vs H2 e2 hvs => ⟨sz_of (by rw [hvs.length]; exact hl), fun p hp => q (.ref p) _ (e2.trans (Ex.new hp)) ⟨p, vs, rfl, cut_at ((s.ex (e.trans e2)).new hp) upd_same, hvs.mono m (cut_new hp)⟩⟩
/-- a list whose things do not hang on the list itself -/
def PD (Ps : List VP) : VP := fun w H => ∃ p vs, w = .ref p ∧ H p = some (.lst vs) ∧ AllP Ps vs (cut H fun a => a = p)
theorem PD.mono {Ps : List VP} (m : ∀ P ∈ Ps, Mono P) : Mono (PD Ps) := fun v H H' e ⟨p, vs, h1, h2, h3⟩ => ⟨p, vs, h1, e _ _ h2, h3.mono m (cut_ex e)⟩
theorem PD.pl {Ps : List VP} (m : ∀ P ∈ Ps, Mono P) {w : V} {H : Hp} (h : PD Ps w H) : PL Ps w H := by
  obtain ⟨p, vs, h1, h2, h3⟩ := h
  exact ⟨p, vs, h1, h2, h3.mono m cut_sub⟩
theorem xd_lst {Ps : List VP} (m : ∀ P ∈ Ps, Mono P) (s : Sup S H) (h : XSA S t σ H Ps) (hl : Ps.length ≤ 100000) : XS S (tLst t) σ H (PD Ps) := fun H1 e Q q => h H1 e _ fun vs H2 e2 hvs => ⟨sz_of (by rw [hvs.length]; exact hl), fun p hp => q (.ref p) _ (e2.trans (Ex.new hp)) ⟨p, vs, rfl, cut_at ((s.ex (e.trans e2)).new hp) upd_same, hvs.mono m (by
  rw [cut_cut]
  intro a o ha
  have := of_cut ha
  refine cut_at (fun z => z.elim this.1 fun z => ?_) ((Ex.new hp) _ _ this.2)
  rw [z, hp] at this
  exact nomatch this.2)⟩⟩
theorem AllP.snoc : ∀ {Ps : List VP} {vs : List V} {H : Hp} {P : VP} {v : V}, AllP Ps vs H → P v H → AllP (Ps ++ [P]) (vs ++ [v]) H
  | [], [], _, _, _, _, h => ⟨h, trivial⟩
  | [], _ :: _, _, _, _, h, _ => h.elim
  | _ :: _, [], _, _, _, h, _ => h.elim
  | _ :: Ps, _ :: vs, _, _, _, ⟨h1, h2⟩, h => ⟨h1, AllP.snoc h2 h⟩
theorem AllP.app : ∀ {Ps Ps' : List VP} {vs vs' : List V} {H : Hp}, AllP Ps vs H → AllP Ps' vs' H → AllP (Ps ++ Ps') (vs ++ vs') H
  | [], _, [], _, _, _, h => h
  | [], _, _ :: _, _, _, h, _ => h.elim
  | _ :: _, _, [], _, _, h, _ => h.elim
  | _ :: _, _, _ :: _, _, _, ⟨h1, h2⟩, h => ⟨h1, AllP.app h2 h⟩
def picksP (n : Nat) (f : Nat → Bool) (Ps : Nat → VP) : List VP := ((List.range n).filter f).map Ps
theorem picks_yes {i : Nat} {f : Nat → Bool} {Ps : Nat → VP} (h : f i = true) : picksP (i + 1) f Ps = picksP i f Ps ++ [Ps i] := by
  unfold picksP
  rw [List.range_succ, List.filter_append, List.filter_cons, if_pos h]
  simp
theorem picks_no {i : Nat} {f : Nat → Bool} {Ps : Nat → VP} (h : f i = false) : picksP (i + 1) f Ps = picksP i f Ps := by
  unfold picksP
  rw [List.range_succ, List.filter_append, List.filter_cons, if_neg (by rw [h]; exact Bool.false_ne_true)]
  simp
theorem picks_len {i : Nat} {f : Nat → Bool} {Ps : Nat → VP} : (picksP i f Ps).length ≤ i := by
  unfold picksP
  rw [List.length_map]
  have := List.length_filter_le f (List.range i)
  rw [List.length_range] at this
  exact this
theorem picks_mono {n : Nat} {f : Nat → Bool} {Ps : Nat → VP} (m : ∀ i, Mono (Ps i)) : ∀ P ∈ picksP n f Ps, Mono P := fun P hP => by
  obtain ⟨i, _, rfl⟩ := List.mem_map.mp hP
  exact m i
/-- a comprehension that makes new things -/
theorem x_lc {wi : TI} {g : TG} {tt : TT} {vs : List Nat} {n : Nat} {Y : Nat → Hp → V → Hp → Prop} (f : Nat → Bool) (Ps : Nat → VP) (m : ∀ i, Mono (Ps i)) (s : Sup S H) (hi : EvI wi σ H n Y) (hn : n ≤ 40000)
    (hs : ∀ Dl i x H1 H2, i < n → Ex H H1 → H Dl = none → Sup (fun a => S a ∨ a = Dl) H1 → Y i H1 x H2 → g x (wipe σ vs) H2 fun σ2 H3 => wipe σ2 vs = wipe σ vs ∧ Ex H1 H3 ∧ EvT tt σ2 H3 (f i) ∧ (f i = true → XS (fun a => S a ∨ a = Dl) te σ2 H3 (Ps i)))
    (hg : ∀ x σ H (Q Q' : L2.St → Hp → Prop), (∀ a b, Q a b → Q' a b) → g x σ H Q → g x σ H Q') : XS S (tLc wi g tt te vs) σ H (PD (picksP n f Ps)) := fun H0 e Q q =>
  hi H0 e _ fun J H1 G e1 wk hG hmono Dl hD => lc_it wk (fun i H2 => H1 Dl = none ∧ Ex H1 H2 ∧ ∃ us, H2 Dl = some (.lst us) ∧ AllP (picksP i f Ps) us (cut H2 fun a => S a ∨ a = Dl)) ⟨hD, Ex.new hD, [], upd_same, trivial⟩ (fun i H2 _ p => hmono _ _ p.2.1 hG)
    (fun i x H2 H3 hin p y => by
      obtain ⟨p1, p2, us, p3, p4⟩ := p
      have sp : Sup (fun a => S a ∨ a = Dl) H2 := fun a ha z => by
        rcases ha with ha | ha
        · exact (s.ex ((e.trans e1).trans p2)) a ha z
        · rw [ha, p3] at z
          exact nomatch z
      refine hg x _ _ _ _ (fun σ2 H4 k => ⟨k.1, ?_⟩) (hs Dl i x H2 H3 hin ((e.trans e1).trans p2) (fresh_back (e.trans e1) p1) sp y)
      refine k.2.2.1 H4 (Ex.refl _) _ fun H5 e5 => ?_
      have E5 := k.2.1.trans e5
      cases hf : f i with
      | true =>
        rw [if_pos rfl]
        refine k.2.2.2 hf H5 e5 _ fun y H6 e6 hy => ⟨us, e6 _ _ (E5 _ _ p3), ?_, p1, Ex.mut ((p2.trans E5).trans e6) p1, us ++ [y], upd_same, ?_⟩
        · have h1 := p4.length
          have h2 := picks_len (i := i) (f := f) (Ps := Ps)
          exact sz_lt (by omega)
        · rw [picks_yes hf, cut_upd (Or.inr rfl)]
          exact AllP.snoc (p4.mono (picks_mono m) (cut_ex (E5.trans e6))) hy
      | false =>
        rw [if_neg Bool.false_ne_true]
        refine ⟨p1, p2.trans E5, us, E5 _ _ p3, ?_⟩
        rw [picks_no hf]
        exact p4.mono (picks_mono m) (cut_ex E5))
    (fun H2 p => by
      obtain ⟨p1, p2, us, p3, p4⟩ := p
      refine q _ H2 (e1.trans p2) ⟨Dl, us, rfl, cut_at ((s.ex (e.trans e1)).new p1) p3, ?_⟩
      rw [cut_cut]
      exact p4)
end
end TL
namespace TL
open PySem PySem.Spec PyProof.Rows L2 Evl
section
variable {K : PySem.W.Frag} {σ : L2.St} {H H' H0 : Hp} {te ta tb : TE} {t : TA} {x v z : V} {D : Ends} {tz tu : TS} {S : Addr → Prop} {P Q : VP}
theorem cut_fresh {p : Addr} {o : HO} (hp : H p = none) : Ex (cut H S) (cut (cut (upd H p o) S) fun a => a = p) := by
  rw [cut_cut]
  intro a u ha
  have := of_cut ha
  refine cut_at (fun z => z.elim this.1 fun z => ?_) ((Ex.new hp) _ _ this.2)
  rw [z, hp] at this
  exact nomatch this.2
/-- all of S is newer -/
def Fr (S : Addr → Prop) (H : Hp) : Prop := ∀ a, S a → H a = none
theorem cut_old (e : Ex H0 H) (f : Fr S H0) : Ex H0 (cut H S) := fun a o h => cut_at (fun z => by rw [f a z] at h; exact nomatch h) (e _ _ h)
theorem fr_no : Fr (fun _ => False) H := fun _ z => z.elim
theorem fr_one {a : Addr} (h : H a = none) : Fr (fun b => b = a) H := fun b hb => hb ▸ h
theorem xs_old (h : Ev te σ H v) (m : Mono P) (hp : P v H0) (e : Ex H0 H) (f : Fr S H0) : XS S te σ H P := xs_v h m (m v _ _ (cut_old e f) hp)
/-- a list of at most n, each with Q, none of which hangs on the list -/
def PEl (n : Nat) (Q : VP) : VP := fun w H => ∃ (p : Addr) (vs : List V), w = .ref p ∧ H p = some (.lst vs) ∧ vs.length ≤ n ∧ ∀ v ∈ vs, Q v (cut H fun a => a = p)
theorem PEl.mono {n : Nat} (m : Mono Q) : Mono (PEl n Q) := fun v H H' e ⟨p, vs, h1, h2, h3, h4⟩ => ⟨p, vs, h1, e _ _ h2, h3, fun v hv => m v _ _ (cut_ex e) (h4 v hv)⟩
theorem PEl.le {n n' : Nat} {w : V} (h : PEl n Q w H) (hn : n ≤ n') : PEl n' Q w H := by
  obtain ⟨p, vs, h1, h2, h3, h4⟩ := h
  exact ⟨p, vs, h1, h2, Nat.le_trans h3 hn, h4⟩
theorem XS.le {n n' : Nat} (h : XS S te σ H (PEl n Q)) (hn : n ≤ n') : XS S te σ H (PEl n' Q) := EvX.imp h fun v H1 _ p => p.le hn
theorem xe_cat {n n' : Nat} (m : Mono Q) (s : Sup S H) (ha : XS S ta σ H (PEl n Q)) (hb : XS S tb σ H (PEl n' Q)) (hn : n + n' ≤ 100000) : XS S (tOp rCat ta tb) σ H (PEl (n + n') Q) := fun H1 e R r =>
  ha H1 e _ fun v H2 e2 hv => hb H2 (e.trans e2) _ fun w H3 e3 hw => by
    obtain ⟨p, vs, rfl, a2, a3, a4⟩ := PEl.mono m _ _ _ (cut_ex e3) hv
    obtain ⟨p', vs', rfl, b2, b3, b4⟩ := hw
    refine ⟨p, p', vs, vs', rfl, rfl, (of_cut a2).2, (of_cut b2).2, sz_of (by omega), fun u hu => r _ _ ((e2.trans e3).trans (Ex.new hu)) ⟨u, vs ++ vs', rfl, cut_at ((s.ex (e.trans (e2.trans e3))).new hu) upd_same, by rw [List.length_append]; omega, fun y hy => m y _ _ (cut_fresh hu) ?_⟩⟩
    rcases List.mem_append.mp hy with h | h
    · exact m y _ _ cut_sub (a4 y h)
    · exact m y _ _ cut_sub (b4 y h)
theorem cutV_mem {xs : List V} {lo hi : Option Int} {v : V} (h : v ∈ cutV xs lo hi) : v ∈ xs := List.mem_of_mem_drop (List.mem_of_mem_take h)
theorem xe_sl {n : Nat} {tl th : TO} {lo hi : Option Int} (m : Mono Q) (s : Sup S H) (ha : XS S ta σ H (PEl n Q)) (h1 : EvO tl σ H lo) (h2 : EvO th σ H hi) : XS S (tSl (rSlL K) ta tl th) σ H (PEl n Q) := fun H1 e R r =>
  ha H1 e _ fun v H2 e2 hv => h1 H2 (e.trans e2) _ fun H3 e3 => h2 H3 ((e.trans e2).trans e3) _ fun H4 e4 => by
    obtain ⟨p, vs, rfl, a2, a3, a4⟩ := PEl.mono m _ _ _ (cut_ex (e3.trans e4)) hv
    refine ⟨p, vs, rfl, sq_of (of_cut a2).2, fun u hu => r _ _ ((e2.trans (e3.trans e4)).trans (Ex.new hu)) ⟨u, _, rfl, cut_at ((s.ex (e.trans (e2.trans (e3.trans e4)))).new hu) upd_same, Nat.le_trans (cutV_length _ _ _) a3, fun y hy => m y _ _ (cut_fresh hu) (m y _ _ cut_sub (a4 y (cutV_mem hy)))⟩⟩
theorem xe_rev {n : Nat} (m : Mono Q) (s : Sup S H) (ha : XS S ta σ H (PEl n Q)) : XS S (tRevL K ta) σ H (PEl n Q) := fun H1 e R r =>
  ha H1 e _ fun v H2 e2 hv => by
    obtain ⟨p, vs, rfl, a2, a3, a4⟩ := hv
    refine ⟨p, vs, rfl, sq_of (of_cut a2).2, fun u hu => r _ _ (e2.trans (Ex.new hu)) ⟨u, vs.reverse, rfl, cut_at ((s.ex (e.trans e2)).new hu) upd_same, by rw [List.length_reverse]; exact a3, fun y hy => m y _ _ (cut_fresh hu) (m y _ _ cut_sub (a4 y (List.mem_reverse.mp hy)))⟩⟩
theorem AllP.mem : ∀ {Ps : List VP} {vs : List V} {H : Hp}, AllP Ps vs H → ∀ v ∈ vs, ∃ P ∈ Ps, P v H
  | [], [], _, _, _, hv => nomatch hv
  | [], _ :: _, _, h, _, _ => h.elim
  | _ :: _, [], _, h, _, _ => h.elim
  | P :: Ps, u :: vs, _, ⟨h1, h2⟩, v, hv => by
    rcases List.mem_cons.mp hv with rfl | hv
    · exact ⟨P, List.mem_cons_self, h1⟩
    · obtain ⟨P', a, b⟩ := AllP.mem h2 v hv
      exact ⟨P', List.mem_cons_of_mem _ a, b⟩
theorem xe_lst {n : Nat} {Ps : List VP} (m : Mono Q) (s : Sup S H) (h : XSA S t σ H Ps) (hq : ∀ P ∈ Ps, P = Q) (hl : Ps.length = n) (hn : n ≤ 100000) : XS S (tLst t) σ H (PEl n Q) := fun H1 e R r => h H1 e _ fun vs H2 e2 hvs => ⟨sz_of (by rw [hvs.length]; omega), fun u hu => r _ _ (e2.trans (Ex.new hu)) ⟨u, vs, rfl, cut_at ((s.ex (e.trans e2)).new hu) upd_same, by rw [hvs.length]; omega, fun y hy => by
  obtain ⟨P, hP, hy⟩ := hvs.mem y hy
  rw [hq P hP] at hy
  exact m y _ _ (cut_fresh hu) hy⟩⟩
theorem xe_el {n : Nat} {xs : List V} (s : Sup S H) (h : EvL te σ H xs) (hq : ∀ v ∈ xs, ∀ H, Q v H) (hn : xs.length ≤ n) : XS S te σ H (PEl n Q) := (xs_l h s).imp fun w H1 _ ⟨p, h1, h2⟩ => ⟨p, xs, h1, h2, hn, fun v hv => hq v hv _⟩
theorem xe_lc {wi : TI} {g : TG} {tt : TT} {vs : List Nat} {n : Nat} {Y : Nat → Hp → V → Hp → Prop} (f : Nat → Bool) (m : Mono Q) (s : Sup S H) (hi : EvI wi σ H n Y) (hn : n ≤ 40000)
    (hs : ∀ Dl i x H1 H2, i < n → Ex H H1 → H Dl = none → Sup (fun a => S a ∨ a = Dl) H1 → Y i H1 x H2 → g x (wipe σ vs) H2 fun σ2 H3 => wipe σ2 vs = wipe σ vs ∧ Ex H1 H3 ∧ EvT tt σ2 H3 (f i) ∧ (f i = true → XS (fun a => S a ∨ a = Dl) te σ2 H3 Q))
    (hg : ∀ x σ H (Q Q' : L2.St → Hp → Prop), (∀ a b, Q a b → Q' a b) → g x σ H Q → g x σ H Q') : XS S (tLc wi g tt te vs) σ H (PEl n Q) := EvX.imp (x_lc f (fun _ => Q) (fun _ => m) s hi hn hs hg) fun w H1 _ ⟨p, us, h1, h2, h3⟩ => ⟨p, us, h1, h2, by rw [h3.length]; exact picks_len, fun v hv => by
  obtain ⟨P, hP, hv⟩ := h3.mem v hv
  obtain ⟨i, _, rfl⟩ := List.mem_map.mp hP
  exact hv⟩
/-- l.append(e): one more in such a list -/
theorem s_appX {l : Addr} {xs : List V} (hl : H l = some (.lst xs)) (ho : Ev ta σ H (.ref l)) (h : XS (fun a => a = l) te σ H Q) (hz : xs.length < 100000) (k : ∀ v H1, Ex H H1 → Q v (cut (upd H1 l (.lst (xs ++ [v]))) fun a => a = l) → D.nx σ (upd H1 l (.lst (xs ++ [v])))) :
    tDrop (tBM K "list" rAppend ta (tCons te tNil)) D σ H := ho H (Ex.refl H) _ fun H1 e => ⟨.inl ⟨rfl, xs, sq_of (e _ _ hl)⟩, h H1 e _ fun v H2 e2 hv => ⟨l, xs, v, rfl, rfl, e2 _ _ (e _ _ hl), sz_lt hz, k v H2 (e.trans e2) (by rw [cut_upd (S := fun a => a = l) rfl]; exact hv)⟩⟩
theorem xe_catF {n n' : Nat} (m : Mono Q) (s : Sup S H) (ha : XS S ta σ H (PEl n Q)) (hb : XS S tb σ H (PEl n' Q)) (hn : n + n' ≤ 100000) : EvX (tOp rCat ta tb) σ H (fun w H1 => PEl (n + n') Q w (cut H1 S) ∧ ∃ p, w = .ref p ∧ H p = none) := fun H1 e R r =>
  ha H1 e _ fun v H2 e2 hv => hb H2 (e.trans e2) _ fun w H3 e3 hw => by
    obtain ⟨p, vs, rfl, a2, a3, a4⟩ := PEl.mono m _ _ _ (cut_ex e3) hv
    obtain ⟨p', vs', rfl, b2, b3, b4⟩ := hw
    refine ⟨p, p', vs, vs', rfl, rfl, (of_cut a2).2, (of_cut b2).2, sz_of (by omega), fun u hu => r _ _ ((e2.trans e3).trans (Ex.new hu)) ⟨⟨u, vs ++ vs', rfl, cut_at ((s.ex (e.trans (e2.trans e3))).new hu) upd_same, by rw [List.length_append]; omega, fun y hy => m y _ _ (cut_fresh hu) ?_⟩, u, rfl, fresh_back (e.trans (e2.trans e3)) hu⟩⟩
    rcases List.mem_append.mp hy with h | h
    · exact m y _ _ cut_sub (a4 y h)
    · exact m y _ _ cut_sub (b4 y h)
/-- a loop over a new tuple -/
theorem s_forNU {xs : List V} {tl : TE} {g : TG} (h : EvU tl σ H xs) (Pv : Addr → Nat → L2.St → Hp → Prop) (h0 : ∀ p H1, H p = none → Ex H H1 → H1 p = some (.tup xs) → Pv p 0 σ H1) (hl : ∀ p i σ' H', i ≤ xs.length → Pv p i σ' H' → SqT K H' p xs)
    (hs : ∀ p i x σ' H', xs[i]? = some x → Pv p i σ' H' → g x σ' H' fun σ2 H2 => tu { D with nx := Pv p (i + 1), ct := Pv p (i + 1), bk := D.nx } σ2 H2) (hd : ∀ p σ' H', Pv p xs.length σ' H' → D.nx σ' H') : tFor (iTup K tl) g tu D σ H :=
  h H (Ex.refl H) _ fun p H1 hp e h1 => ⟨p, rfl, ⟨xs, st_of h1⟩, for_tup (Pv p) (h0 p H1 hp e h1) (hl p) (hs p) (hd p)⟩
theorem q_forNU {xs : List V} {tl : TE} {g : TG} (h : EvU tl σ H xs) (Pv : Addr → Nat → L2.St → Hp → Prop) (h0 : ∀ p H1, H p = none → Ex H H1 → H1 p = some (.tup xs) → Pv p 0 σ H1) (hl : ∀ p i σ' H', i ≤ xs.length → Pv p i σ' H' → SqT K H' p xs)
    (hs : ∀ p i x σ' H', xs[i]? = some x → Pv p i σ' H' → g x σ' H' fun σ2 H2 => tu { D with nx := Pv p (i + 1), ct := Pv p (i + 1), bk := tz D } σ2 H2) (hd : ∀ p σ' H', Pv p xs.length σ' H' → tz D σ' H') : tSeq (tFor (iTup K tl) g tu) tz D σ H :=
  s_forNU (D := { D with nx := tz D }) h Pv h0 hl hs hd
theorem ev_use {R : VK} (h : Ev te σ H v) (k : ∀ H1, Ex H H1 → R v H1) : te σ H R := h H (Ex.refl H) R k
theorem q_parCV {i j : Nat} {sp : Sp} {dvs ws : List V} {E : XK} {ta : TA} (h : EvA ta σ H ws) (k : ∀ H1, Ex H H1 → sp (ws ++ dvs) H1 (fun v H2 => tb σ H2 fun y H3 => ∃ v' y', [v, y] = [v', y'] ∧ tz D ((σ.set i (some v')).set j (some y')) H3) E) : tSeq (tPar i j (tCons (tCall sp dvs E ta) (tCons tb tNil))) tz D σ H := h H (Ex.refl H) _ fun H1 e => k H1 e
theorem AllP.four {P P' P'' P3 : VP} {vs : List V} {H : Hp} (h : AllP [P, P', P'', P3] vs H) : ∃ v w u y, vs = [v, w, u, y] ∧ P v H ∧ P' w H ∧ P'' u H ∧ P3 y H := by
  match vs, h with
  | [v, w, u, y], ⟨h1, h2, h3, h4, _⟩ => exact ⟨v, w, u, y, rfl, h1, h2, h3, h4⟩
/-- a loop over such a list; the heap only grows -/
theorem s_forPE {n : Nat} {tl : TE} {g : TG} (m : Mono Q) (h : EvX tl σ H (PEl n Q)) (Pv : L2.St → Hp → Prop) (h0 : ∀ H1, Ex H H1 → Pv σ H1)
    (hs : ∀ H1 x σ' H', Ex H H1 → Ex H1 H' → Pv σ' H' → Q x H' → g x σ' H' fun σ2 H2 => tu { D with nx := fun σ3 H3 => Ex H1 H3 ∧ Pv σ3 H3, ct := fun σ3 H3 => Ex H1 H3 ∧ Pv σ3 H3, bk := D.nx } σ2 H2) (hd : ∀ σ' H', Pv σ' H' → D.nx σ' H') : tFor (iList K tl) g tu D σ H :=
  h H (Ex.refl H) _ fun w H1 e hw => by
    obtain ⟨p, vs, rfl, h1, h2, h3⟩ := hw
    exact ⟨p, rfl, ⟨vs, sq_of h1⟩, for_list (fun i σ' H' => Ex H1 H' ∧ Pv σ' H') ⟨Ex.refl _, h0 H1 e⟩ (fun i σ' H' hi hh => ex_l hh.1 (sq_of h1)) (fun i x σ' H' hx hh => hs H1 x σ' H' e hh.1 hh.2 (m x _ _ (cut_sub.trans hh.1) (h3 x (List.mem_of_getElem? hx)))) (fun σ' H' hh => hd σ' H' hh.2)⟩
theorem q_forPE {n : Nat} {tl : TE} {g : TG} (m : Mono Q) (h : EvX tl σ H (PEl n Q)) (Pv : L2.St → Hp → Prop) (h0 : ∀ H1, Ex H H1 → Pv σ H1)
    (hs : ∀ H1 x σ' H', Ex H H1 → Ex H1 H' → Pv σ' H' → Q x H' → g x σ' H' fun σ2 H2 => tu { D with nx := fun σ3 H3 => Ex H1 H3 ∧ Pv σ3 H3, ct := fun σ3 H3 => Ex H1 H3 ∧ Pv σ3 H3, bk := tz D } σ2 H2) (hd : ∀ σ' H', Pv σ' H' → tz D σ' H') : tSeq (tFor (iList K tl) g tu) tz D σ H :=
  s_forPE (D := { D with nx := tz D }) m h Pv h0 hs hd
end
end TL
namespace TA
open PySem PySem.Spec PyProof.Rows L2 Evl TL
/-- where the classes stand -/
structure Ad where
  StepError : Addr
  BadRow : Addr
  BadTurn : Addr
  BadCounts : Addr
  BadNumber : Addr
  BadForest : Addr
  BadPlace : Addr
  BadStep : Addr
  NotAbove : Addr
  TooMany : Addr
  Last : Addr
  Answer : Addr
  Round : Addr
  Stays : Addr
  Falls : Addr
  Ring : Addr
/-- a count as a value -/
abbrev vn (n : Nat) : V := .int (n : Int)
theorem ty_list {K : PySem.W.Frag} {H : Hp} {a : Addr} {xs : List V} (h : SqL K H a xs) : TyX K H (.ref a) (.type "list") := by
  rcases h with (h | ⟨o, h⟩) | ⟨o, its, n, h1, h2, _⟩
  · exact .base (.lst h)
  · exact .base (.frz h)
  · exact .kList h1 h2
theorem sum_vn (cs : List Nat) : (cs.map fun n : Nat => (n : Int)).sum = (cs.sum : Int) := by
  induction cs with
  | nil => rfl
  | cons c cs ih => rw [List.map_cons, List.sum_cons, ih, List.sum_cons]; omega
theorem map_vn (cs : List Nat) : cs.map vn = (cs.map fun n : Nat => (n : Int)).map V.int := by rw [List.map_map]; rfl
theorem rc_sumN {K : PySem.W.Frag} {H : Hp} {p : Addr} {cs : List Nat} (h : SqL K H p (cs.map vn)) : RC (rSum K) [.ref p] H (.int (cs.sum : Int)) := by
  rw [map_vn] at h
  rw [← sum_vn]
  exact rc_sum h
theorem rc_isiL {K : PySem.W.Frag} {H : Hp} {a : Addr} {xs : List V} (h : SqL K H a xs) : RC (rIsi K) [.ref a, .ty "list"] H (.bl true) := rc_isi (.ty "list") (fun H1 e => ty_list (ex_l e h)) (kit_ty (by decide +kernel))
theorem rc_isiI {K : PySem.W.Frag} {H : Hp} {i : Int} : RC (rIsi K) [.int i, .ty "int"] H (.bl true) := rc_isi (.ty "int") (fun H1 e => .base (.int i)) (kit_ty (by decide +kernel))
theorem rc_isiB {K : PySem.W.Frag} {H : Hp} {i : Int} : RC (rIsi K) [.int i, .ty "bool"] H (.bl false) := rc_isi (.ty "bool") (fun H1 e => .base (.int i)) (kit_ty (by decide +kernel))
theorem rc_allM {α : Type} {K : PySem.W.Frag} {H : Hp} {p : Addr} {xs : List α} {f : α → Bool} (h : SqL K H p (xs.map fun x => V.bl (f x))) : RC (rAll K) [.ref p] H (.bl (xs.all f)) := by
  have e : xs.map (fun x => V.bl (f x)) = (xs.map f).map V.bl := by rw [List.map_map]; rfl
  rw [e] at h
  have q := rc_all h
  rw [List.all_map] at q
  exact q
theorem rc_anyM {α : Type} {K : PySem.W.Frag} {H : Hp} {p : Addr} {xs : List α} {f : α → Bool} (h : SqL K H p (xs.map fun x => V.bl (f x))) : RC (rAny K) [.ref p] H (.bl (xs.any f)) := by
  have e : xs.map (fun x => V.bl (f x)) = (xs.map f).map V.bl := by rw [List.map_map]; rfl
  rw [e] at h
  have q := rc_any h
  rw [List.any_map] at q
  exact q
theorem rc_sumX {α : Type} {K : PySem.W.Frag} {H : Hp} {p : Addr} {xs : List α} {f : Nat → α → Int} (h : SqL K H p (xs.mapIdx fun i x => V.int (f i x))) : RC (rSum K) [.ref p] H (.int (xs.mapIdx f).sum) := by
  have e : xs.mapIdx (fun i x => V.int (f i x)) = (xs.mapIdx f).map V.int := by
    apply List.ext_getElem
    · simp
    · intro i h1 h2
      simp
  rw [e] at h
  exact rc_sum h
def sp_is_whole (K : PySem.W.Frag) : Sp := fun vs H Q _ => ∃ i : Int, vs = [.int i] ∧ RetV (.bl true) H Q
theorem v_is_whole {K : PySem.W.Frag} {H : Hp} {i : Int} : SpV (sp_is_whole K) [.int i] H (.bl true) := fun H1 e Q q E => ⟨i, rfl, q⟩
def sp_is_between (K : PySem.W.Frag) : Sp := fun vs H Q _ => ∃ i lo hi : Int, vs = [.int i, .int lo, .int hi] ∧ RetV (.bl (decide (lo ≤ i) && decide (i ≤ hi))) H Q
theorem v_is_between {K : PySem.W.Frag} {H : Hp} {i lo hi : Int} : SpV (sp_is_between K) [.int i, .int lo, .int hi] H (.bl (decide (lo ≤ i) && decide (i ≤ hi))) := fun H1 e Q q E => ⟨i, lo, hi, rfl, q⟩
def sp_check_counts (K : PySem.W.Frag) : Sp := fun vs H Q _ => ∃ (a : Addr) (cs : List Nat), vs = [.ref a] ∧ SqL K H a (cs.map vn) ∧ cs.length = 6 ∧ 1 ≤ cs.sum ∧ cs.sum ≤ 60 ∧ RetV .non H Q
theorem v_check_counts {K : PySem.W.Frag} {H : Hp} {a : Addr} {cs : List Nat} (h : SqL K H a (cs.map vn)) (h6 : cs.length = 6) (h1 : 1 ≤ cs.sum) (h60 : cs.sum ≤ 60) : SpV (sp_check_counts K) [.ref a] H .non := fun H1 e Q q E => ⟨a, cs, rfl, ex_l e h, h6, h1, h60, q⟩
def sp_height_of (K : PySem.W.Frag) : Sp := fun vs H Q _ => ∃ (a : Addr) (cs : List Nat), vs = [.ref a] ∧ SqL K H a (cs.map vn) ∧ cs.length ≤ 6 ∧ RetV (.int (ht cs)) H Q
theorem v_height_of {K : PySem.W.Frag} {H : Hp} {a : Addr} {cs : List Nat} (h : SqL K H a (cs.map vn)) (h6 : cs.length ≤ 6) : SpV (sp_height_of K) [.ref a] H (.int (ht cs)) := fun H1 e Q q E => ⟨a, cs, rfl, ex_l e h, h6, q⟩
def sp_turns_of (K : PySem.W.Frag) : Sp := fun vs H Q _ => ∃ (a : Addr) (cs : List Nat), vs = [.ref a] ∧ SqL K H a (cs.map vn) ∧ cs.sum ≤ 1000 ∧ RetV (.int (mu 0 cs : Int)) H Q
theorem v_turns_of {K : PySem.W.Frag} {H : Hp} {a : Addr} {cs : List Nat} (h : SqL K H a (cs.map vn)) (h6 : cs.sum ≤ 1000) : SpV (sp_turns_of K) [.ref a] H (.int (mu 0 cs : Int)) := fun H1 e Q q E => ⟨a, cs, rfl, ex_l e h, h6, q⟩
def sp_how_many (K : PySem.W.Frag) : Sp := fun vs H Q _ => ∃ (a : Addr) (cs : List Nat), vs = [.ref a] ∧ SqL K H a (cs.map vn) ∧ cs.length = 6 ∧ 1 ≤ cs.sum ∧ cs.sum ≤ 60 ∧ RetV (.int (howMany cs)) H Q
theorem v_how_many {K : PySem.W.Frag} {H : Hp} {a : Addr} {cs : List Nat} (h : SqL K H a (cs.map vn)) (h6 : cs.length = 6) (h1 : 1 ≤ cs.sum) (h60 : cs.sum ≤ 60) : SpV (sp_how_many K) [.ref a] H (.int (howMany cs)) := fun H1 e Q q E => ⟨a, cs, rfl, ex_l e h, h6, h1, h60, q⟩
theorem htF_idx : ∀ (cs : List Nat) (k : Int), (cs.mapIdx fun (i : Nat) (c : Nat) => (k + (i : Int)) * (c : Int)).sum = htF k cs
  | [], k => rfl
  | c :: cs, k => by
    rw [List.mapIdx_cons, List.sum_cons]
    have ih := htF_idx cs (k + 1)
    have e : (fun (i : Nat) (c : Nat) => (k + ((i + 1 : Nat) : Int)) * (c : Int)) = fun (i : Nat) (c : Nat) => (k + 1 + (i : Int)) * (c : Int) := by
      funext i c
      congr 1
      omega
    rw [e, ih]
    show (k + ((0 : Nat) : Int)) * (c : Int) + _ = k * (c : Int) + _
    rw [show k + ((0 : Nat) : Int) = k by omega]
theorem mu_snoc : ∀ (xs : List Nat) (m c : Nat), mu m (xs ++ [c]) = mu m xs * ch (m + xs.sum + c) c
  | [], m, c => by show ch (m + c) c * 1 = 1 * ch (m + 0 + c) c; simp
  | x :: xs, m, c => by
    show ch (m + x) x * mu (m + x) (xs ++ [c]) = ch (m + x) x * mu (m + x) xs * ch (m + (x :: xs).sum + c) c
    rw [mu_snoc xs (m + x) c, Nat.mul_assoc, List.sum_cons, Nat.add_assoc m x]
theorem take_snoc {α : Type} {l : List α} {i : Nat} {x : α} (h : l[i]? = some x) : l.take (i + 1) = l.take i ++ [x] := by
  rw [List.take_add_one, h]
  rfl
theorem sum_take_le (cs : List Nat) (i : Nat) : (cs.take i).sum ≤ cs.sum := by
  have h := congrArg List.sum (List.take_append_drop i cs)
  rw [List.sum_append] at h
  omega
/-- one step of the orders' loop -/
theorem mu_step (F m j : Nat) : ((F * ch (m + j) j : Nat) : Int) * ((m + j + 1 : Nat) : Int) / ((j : Int) + 1) = ((F * ch (m + (j + 1)) (j + 1) : Nat) : Int) := by
  have h := ch_succ (m + j) j
  have e : ((F * ch (m + j) j : Nat) : Int) * ((m + j + 1 : Nat) : Int) = ((j : Int) + 1) * ((F * ch (m + (j + 1)) (j + 1) : Nat) : Int) := by
    have : F * ch (m + j) j * (m + j + 1) = (j + 1) * (F * ch (m + (j + 1)) (j + 1)) := by
      rw [Nat.mul_left_comm, show m + (j + 1) = m + j + 1 from rfl, h, Nat.mul_assoc, Nat.mul_comm (ch (m + j) j)]
    exact_mod_cast this
  rw [e, Int.mul_ediv_cancel_left _ (by omega)]
theorem mem_le_sum : ∀ {cs : List Nat} {c : Nat}, c ∈ cs → c ≤ cs.sum
  | x :: xs, c, h => by
    rw [List.sum_cons]
    rcases List.mem_cons.mp h with h | h
    · omega
    · have := mem_le_sum h
      omega
theorem ht_bound {cs : List Nat} (h6 : cs.length = 6) (h60 : cs.sum ≤ 60) : -240 ≤ ht cs ∧ ht cs ≤ 60 := by
  obtain ⟨a, b, c, d, e, f, rfl⟩ := six h6
  rw [ht6]
  simp at h60
  omega
/-! a law's own draws -/
def cellV (ns : List Int) (k : Int) : Int := ns.getD k.toNat 0
def sp_l_cell_at (K : PySem.W.Frag) : Sp := fun vs H Q _ => ∃ (a : Addr) (ns : List Int) (k : Int), vs = [.ref a, .int k] ∧ SqL K H a (ns.map V.int) ∧ 0 ≤ k ∧ RetV (.int (cellV ns k)) H Q
theorem v_l_cell_at {K : PySem.W.Frag} {H : Hp} {a : Addr} {ns : List Int} {k : Int} (h : SqL K H a (ns.map V.int)) (hk : 0 ≤ k) : SpV (sp_l_cell_at K) [.ref a, .int k] H (.int (cellV ns k)) := fun H1 e Q q E => ⟨a, ns, k, rfl, ex_l e h, hk, q⟩
def primesL : List Int := [1000003, 1000033, 1000037, 1000039, 1000081, 1000099, 1000117, 1000121, 1000133, 1000151, 1000159, 1000171, 1000183, 1000187, 1000193, 1000199]
def drawV (c k most : Int) : Int := (c * 48271 + k * 69621) % (primesL.getD (k % 16).toNat 0) % most
theorem primes_pos (j : Int) (h0 : 0 ≤ j) (h : j < 16) : 0 < primesL.getD j.toNat 0 := by
  have h' : j.toNat < 16 := by omega
  generalize j.toNat = n at h'
  revert n
  decide
theorem drawV_bound {c k most : Int} (hm : 0 < most) : 0 ≤ drawV c k most ∧ drawV c k most < most := ⟨Int.emod_nonneg _ (by omega), Int.emod_lt_of_pos _ hm⟩
def sp_l_draw (K : PySem.W.Frag) : Sp := fun vs H Q _ => ∃ (c k most : Int), vs = [.int c, .int k, .int most] ∧ 0 ≤ k ∧ k ≤ 1000000 ∧ 0 < most ∧ RetV (.int (drawV c k most)) H Q
theorem v_l_draw {K : PySem.W.Frag} {H : Hp} {c k most : Int} (hk : 0 ≤ k) (hk2 : k ≤ 1000000) (hm : 0 < most) : SpV (sp_l_draw K) [.int c, .int k, .int most] H (.int (drawV c k most)) := fun H1 e Q q E => ⟨c, k, most, rfl, hk, hk2, hm, q⟩
def dsL : List Int := [1, 7, 49, 343, 2401]
def dV (k : Int) : Int := dsL.getD (k % 5).toNat 0
theorem dV_bound (k : Int) : 1 ≤ dV k ∧ dV k ≤ 2401 := by
  have h' : (k % 5).toNat < 5 := by omega
  unfold dV
  generalize (k % 5).toNat = n at h'
  revert n
  decide
def smallV (c : Int) : Int := if c < -1000000000000000000 then c % 1000811284336359577647248616306026718125307353262274591 else c
def numV (c k lim : Int) : Int := if 1000000000000000000 ≤ c then (c - 1000000000000000000) % (dV k * lim) / dV k else drawV ((smallV c + 977 * k) * (smallV c + 31 * k + 5)) (k % 9 + 1) 999983 % lim
theorem numV_bound {c k lim : Int} (hl : 0 < lim) : 0 ≤ numV c k lim ∧ numV c k lim < lim := by
  have hd := dV_bound k
  unfold numV
  by_cases h : 1000000000000000000 ≤ c
  · rw [if_pos h]
    have hp : 0 < dV k * lim := Int.mul_pos (by omega) hl
    have h0 := Int.emod_nonneg (c - 1000000000000000000) (Int.ne_of_gt hp)
    have h1 := Int.emod_lt_of_pos (c - 1000000000000000000) hp
    refine ⟨Int.ediv_nonneg h0 (by omega), ?_⟩
    refine Int.ediv_lt_of_lt_mul (by omega) ?_
    rw [Int.mul_comm lim]
    exact h1
  · rw [if_neg h]
    exact ⟨Int.emod_nonneg _ (by omega), Int.emod_lt_of_pos _ hl⟩
def sp_l_number (K : PySem.W.Frag) : Sp := fun vs H Q _ => ∃ (c k lim : Int), vs = [.int c, .int k, .int lim] ∧ 0 ≤ k ∧ k ≤ 1000 ∧ 0 < lim ∧ lim ≤ 1000000 ∧ RetV (.int (numV c k lim)) H Q
theorem v_l_number {K : PySem.W.Frag} {H : Hp} {c k lim : Int} (hk : 0 ≤ k) (hk2 : k ≤ 1000) (hm : 0 < lim) (hm2 : lim ≤ 1000000) : SpV (sp_l_number K) [.int c, .int k, .int lim] H (.int (numV c k lim)) := fun H1 e Q q E => ⟨c, k, lim, rfl, hk, hk2, hm, hm2, q⟩
theorem atI_ints {ns : List Int} {i : Int} (h0 : 0 ≤ i) (h : i < ns.length) : atI (ns.map V.int) i = some (.int (ns.getD i.toNat 0)) := by
  unfold atI ixN
  rw [if_pos h0, List.length_map, if_pos h]
  show (ns.map V.int)[i.toNat]? = _
  have : i.toNat < ns.length := by omega
  rw [List.getElem?_map, List.getElem?_eq_getElem this, List.getD_eq_getElem?_getD, List.getElem?_eq_getElem this]
  rfl
theorem ev_ixU {K : PySem.W.Frag} {σ : L2.St} {H : Hp} {ta tb : TE} {xs : List V} {i : Int} {v : V} (ha : EvU ta σ H xs) (hb : Ev tb σ H (.int i)) (h : atI xs i = some v) : Ev (tOp (rIxT K) ta tb) σ H v := fun H1 e Q q =>
  ha H1 e _ fun p H2 hp e2 h2 => hb H2 (e.trans e2) _ fun H3 e3 => ⟨p, xs, i, v, rfl, rfl, st_of (e3 _ _ h2), h, q H3 (e2.trans e3)⟩
theorem ev_ixUI {K : PySem.W.Frag} {σ : L2.St} {H : Hp} {ta : TA} {tb : TE} {i : Int} (ns : List Int) (ha : EvA ta σ H (ns.map V.int)) (hl : ns.length ≤ 1000) (hb : Ev tb σ H (.int i)) (h0 : 0 ≤ i) (h : i < ns.length) : Ev (tOp (rIxT K) (tTup ta) tb) σ H (.int (ns.getD i.toNat 0)) :=
  ev_ixU (eu_tup ha (by rw [List.length_map]; omega)) hb (atI_ints h0 h)
theorem ev_ixLI {K : PySem.W.Frag} {σ : L2.St} {H : Hp} {ta tb : TE} {i : Int} {a : Addr} {ns : List Int} (ha : Ev ta σ H (.ref a)) (hs : SqL K H a (ns.map V.int)) (hb : Ev tb σ H (.int i)) (h0 : 0 ≤ i) (h : i < ns.length) : Ev (tOp (rIxL K) ta tb) σ H (.int (ns.getD i.toNat 0)) :=
  ev_op ha hb (rv_ixL hs (atI_ints h0 h))
theorem ev_ixTI {K : PySem.W.Frag} {σ : L2.St} {H : Hp} {ta tb : TE} {i : Int} {a : Addr} {ns : List Int} (ha : Ev ta σ H (.ref a)) (hs : SqT K H a (ns.map V.int)) (hb : Ev tb σ H (.int i)) (h0 : 0 ≤ i) (h : i < ns.length) : Ev (tOp (rIxT K) ta tb) σ H (.int (ns.getD i.toNat 0)) :=
  ev_op ha hb (rv_ixT hs (atI_ints h0 h))
theorem pow18 : (10 : Int) ^ ((18 : Int).toNat) = 1000000000000000000 := by decide
theorem smallV_wide {c k : Int} (hc : c < 1000000000000000000) (h0 : 0 ≤ k) (hk : k ≤ 1000) : CMulW (smallV c + 977 * k) (smallV c + 31 * k + 5) := by
  have hb : -1000000000000000000 ≤ smallV c ∧ smallV c < 1000811284336359577647248616306026718125307353262274591 := by
    unfold smallV
    by_cases h : c < -1000000000000000000
    · rw [if_pos h]
      omega
    · rw [if_neg h]
      omega
  refine wide_mul (a := 200) (b := 200) ?_ ?_ (by decide) (by decide) (by decide)
  · rw [show (2 : Nat) ^ 200 = 1606938044258990275541962092341162602522202993782792835301376 by decide]
    omega
  · rw [show (2 : Nat) ^ 200 = 1606938044258990275541962092341162602522202993782792835301376 by decide]
    omega
theorem tl_mulW {X : Cx} : OpR X (binaryOp .Mult) (rI CMulW fun i j => .int (i * j)) := op_mulW
/-- a row of steps -/
structure Row (rs : List Int) : Prop where
  pos : 1 ≤ rs.length
  len : rs.length ≤ 60
  stp : ∀ s ∈ rs, -4 ≤ s ∧ s ≤ 1
def vO : Option Nat → V
  | none => .non
  | some k => .int (k : Int)
def fallN (o : Option Nat) : Int := ((o.getD 0 : Nat) : Int)
def sp_is_step (K : PySem.W.Frag) : Sp := fun vs H Q _ => ∃ i : Int, vs = [.int i] ∧ RetV (.bl (decide (-4 ≤ i) && decide (i ≤ 1))) H Q
theorem v_is_step {K : PySem.W.Frag} {H : Hp} {i : Int} : SpV (sp_is_step K) [.int i] H (.bl (decide (-4 ≤ i) && decide (i ≤ 1))) := fun H1 e Q q E => ⟨i, rfl, q⟩
def sp_check_row (K : PySem.W.Frag) : Sp := fun vs H Q _ => ∃ (a : Addr) (rs : List Int), vs = [.ref a] ∧ SqL K H a (rs.map V.int) ∧ Row rs ∧ RetV .non H Q
theorem v_check_row {K : PySem.W.Frag} {H : Hp} {a : Addr} {rs : List Int} (h : SqL K H a (rs.map V.int)) (hr : Row rs) : SpV (sp_check_row K) [.ref a] H .non := fun H1 e Q q E => ⟨a, rs, rfl, ex_l e h, hr, q⟩
/-- a row that stands as a list of its own -/
def sp_turned (K : PySem.W.Frag) : Sp := fun vs H Q _ => ∃ (a : Addr) (rs : List Int) (t : Int), vs = [.ref a, .int t] ∧ SqL K H a (rs.map V.int) ∧ rs.length ≤ 1000 ∧ 0 ≤ t ∧ RetL ((rot rs t.toNat).map V.int) H Q
theorem v_turned {K : PySem.W.Frag} {H : Hp} {a : Addr} {rs : List Int} {t : Int} (h : SqL K H a (rs.map V.int)) (hl : rs.length ≤ 1000) (ht : 0 ≤ t) : SpL (sp_turned K) [.ref a, .int t] H ((rot rs t.toNat).map V.int) := fun H1 e Q q E => ⟨a, rs, t, rfl, ex_l e h, hl, ht, q⟩
def sp_fall_of (K : PySem.W.Frag) : Sp := fun vs H Q _ => ∃ (a : Addr) (rs : List Int), vs = [.ref a] ∧ SqL K H a (rs.map V.int) ∧ RetV (vO (fallOf rs)) H Q
theorem v_fall_of {K : PySem.W.Frag} {H : Hp} {a : Addr} {rs : List Int} (h : SqL K H a (rs.map V.int)) : SpV (sp_fall_of K) [.ref a] H (vO (fallOf rs)) := fun H1 e Q q E => ⟨a, rs, rfl, ex_l e h, q⟩
theorem int_at {ns : List Int} {i : Nat} {x : V} (h : (ns.map V.int)[i]? = some x) : ∃ n, ns[i]? = some n ∧ x = .int n := by
  rw [List.getElem?_map] at h
  obtain ⟨n, h1, h2⟩ := Option.map_eq_some_iff.mp h
  exact ⟨n, h1, h2.symm⟩
theorem drop_cons {α : Type} {l : List α} {i : Nat} {x : α} (h : l[i]? = some x) : l.drop i = x :: l.drop (i + 1) := by
  obtain ⟨hi, e⟩ := List.getElem?_eq_some_iff.mp h
  rw [List.drop_eq_getElem_cons hi, e]
theorem pre_step {rs : List Int} {i : Nat} {x : Int} (h : rs[i]? = some x) : pre rs (i + 1) = pre rs i + x := by
  obtain ⟨hi, e⟩ := List.getElem?_eq_some_iff.mp h
  rw [pre_succ hi, e]
theorem rot_map (rs : List Int) (n : Nat) : (rs.map V.int).drop n ++ (rs.map V.int).take n = (rot rs n).map V.int := by
  unfold rot
  rw [List.map_append, List.map_drop, List.map_take]
/-- row[turn:] + row[:turn] -/
theorem el_rot {K : PySem.W.Frag} {σ : L2.St} {H : Hp} {ta tb tc td : TE} {a : Addr} {rs : List Int} {t : Int} (h1 : Ev ta σ H (.ref a)) (h2 : Ev tb σ H (.int t)) (h3 : Ev tc σ H (.ref a)) (h4 : Ev td σ H (.int t)) (hs : SqL K H a (rs.map V.int)) (ht : 0 ≤ t) (hl : rs.length ≤ 1000) :
    EvL (tOp rCat (tSl (rSlL K) ta (tPart tb) tNoPart) (tSl (rSlL K) tc tNoPart (tPart td))) σ H ((rot rs t.toNat).map V.int) := by
  rw [← rot_map]
  refine el_catLL (el_lo h1 hs h2 ht) (el_hi h3 hs h4 ht) ?_
  simp
  omega
/-- a law's own row: any row of so many steps at most -/
def sp_l_row (K : PySem.W.Frag) : Sp := fun vs H Q _ => ∃ (a : Addr) (ns : List Int) (b m : Int), vs = [.ref a, .int b, .int m] ∧ SqL K H a (ns.map V.int) ∧ 0 ≤ b ∧ b ≤ 100 ∧ 1 ≤ m ∧ m ≤ 60 ∧
  ∀ (rs : List Int) (p : Addr) (H2 : Hp), Row rs → (rs.length : Int) ≤ m → H p = none → Ex H H2 → H2 p = some (.lst (rs.map V.int)) → Q (.ref p) H2
def kindsL : List Int := [3, 4, 3, 9]
theorem kindsL_ok {k : Int} (h0 : 0 ≤ k) (h : k < 4) : 0 < kindsL.getD k.toNat 0 ∧ kindsL.getD k.toNat 0 ≤ 9 := by
  have h' : k.toNat < 4 := by omega
  generalize k.toNat = n at h'
  revert n
  decide
structure Steps (i : Nat) (rs : List Int) : Prop where
  len : rs.length = i
  stp : ∀ s ∈ rs, -4 ≤ s ∧ s ≤ 1
theorem Steps.snoc {i : Nat} {rs : List Int} (h : Steps i rs) {s : Int} (h1 : -4 ≤ s) (h2 : s ≤ 1) : Steps (i + 1) (rs ++ [s]) := by
  refine ⟨by rw [List.length_append, h.len]; rfl, fun x hx => ?_⟩
  rcases List.mem_append.mp hx with hx | hx
  · exact h.stp x hx
  · rw [List.mem_singleton] at hx
    omega
theorem getD_mem {rs : List Int} {n : Nat} (h : n < rs.length) : rs.getD n 0 ∈ rs := by
  rw [List.getD_eq_getElem?_getD, List.getElem?_eq_getElem h]
  exact List.getElem_mem h
theorem snocI (rs : List Int) (s : Int) : rs.map V.int ++ [V.int s] = (rs ++ [s]).map V.int := by rw [List.map_append]; rfl
def sp_l_fall (K : PySem.W.Frag) : Sp := fun vs H Q _ => ∃ (a : Addr) (rs : List Int) (t : Int), vs = [.ref a, .int t] ∧ SqL K H a (rs.map V.int) ∧ rs.length ≤ 1000 ∧ 0 ≤ t ∧ RetV (.int (fallN (fallOf (rot rs t.toNat)))) H Q
theorem v_l_fall {K : PySem.W.Frag} {H : Hp} {a : Addr} {rs : List Int} {t : Int} (h : SqL K H a (rs.map V.int)) (hl : rs.length ≤ 1000) (ht : 0 ≤ t) : SpV (sp_l_fall K) [.ref a, .int t] H (.int (fallN (fallOf (rot rs t.toNat)))) := fun H1 e Q q E => ⟨a, rs, t, rfl, ex_l e h, hl, ht, q⟩
def fallsR (rs : List Int) (t m : Int) : Bool := decide (1 ≤ m) && decide (m ≤ rs.length) && decide (((rot rs t.toNat).take m.toNat).sum < 1)
def sp_l_falls_right (K : PySem.W.Frag) : Sp := fun vs H Q _ => ∃ (a : Addr) (rs : List Int) (t m : Int), vs = [.ref a, .int t, .int m] ∧ SqL K H a (rs.map V.int) ∧ rs.length ≤ 1000 ∧ 0 ≤ t ∧ RetV (.bl (fallsR rs t m)) H Q
theorem v_l_falls_right {K : PySem.W.Frag} {H : Hp} {a : Addr} {rs : List Int} {t m : Int} (h : SqL K H a (rs.map V.int)) (hl : rs.length ≤ 1000) (ht : 0 ≤ t) : SpV (sp_l_falls_right K) [.ref a, .int t, .int m] H (.bl (fallsR rs t m)) := fun H1 e Q q E => ⟨a, rs, t, m, rfl, ex_l e h, hl, ht, q⟩
def sp_l_whole (K : PySem.W.Frag) : Sp := sp_is_whole K
theorem v_l_whole {K : PySem.W.Frag} {H : Hp} {i : Int} : SpV (sp_l_whole K) [.int i] H (.bl true) := v_is_whole
def sp_l_says (K : PySem.W.Frag) : Sp := fun vs H Q _ => ∃ b c : Bool, vs = [.bl b, .bl c] ∧ RetV (.bl (decide (b = c))) H Q
theorem v_l_says {K : PySem.W.Frag} {H : Hp} {b c : Bool} : SpV (sp_l_says K) [.bl b, .bl c] H (.bl (decide (b = c))) := fun H1 e Q q E => ⟨b, c, rfl, q⟩
theorem rc_isiBb {K : PySem.W.Frag} {H : Hp} {b : Bool} : RC (rIsi K) [.bl b, .ty "bool"] H (.bl true) := rc_isi (.ty "bool") (fun H1 e => .base (.bl b)) (kit_ty (by decide +kernel))
theorem dec_bl (b c : Bool) : decide (V.bl b = V.bl c) = decide (b = c) := by cases b <;> cases c <;> rfl
/-- the sum of a slice of a new list -/
theorem ev_sumN {K : PySem.W.Frag} {σ : L2.St} {H : Hp} {ta : TE} {ns : List Int} (h : EvL ta σ H (ns.map V.int)) : Ev (tCB (rSum K) (tCons ta tNil)) σ H (.int ns.sum) := ev_cbL h fun p H1 e hp => rc_sum (sq_of hp)
theorem el_hiN {K : PySem.W.Frag} {σ : L2.St} {H : Hp} {ta tb : TE} {ns : List Int} {m : Int} (h : EvL ta σ H (ns.map V.int)) (hm : Ev tb σ H (.int m)) (h0 : 0 ≤ m) : EvL (tSl (rSlL K) ta tNoPart (tPart tb)) σ H ((ns.take m.toNat).map V.int) := by
  rw [List.map_take, ← cut_hi _ h0]
  exact el_slN h eo_none (eo_some hm)
/-! the answers: objects of own classes -/
/-- Stays, or Falls: by how many first steps fall -/
def AnsAt (A : Ad) (H : Hp) (x : Addr) : Option Nat → Prop
  | none => ∃ dx, H x = some (.ins A.Stays dx [])
  | some k => ∃ dx, H x = some (.ins A.Falls dx [("many", .int (k : Int))])
theorem AnsAt.ex {A : Ad} {H H' : Hp} {x : Addr} {o : Option Nat} (e : Ex H H') (h : AnsAt A H x o) : AnsAt A H' x o := by
  cases o with
  | none => exact h.imp fun dx h => e _ _ h
  | some k => exact h.imp fun dx h => e _ _ h
def sp_Stays_shows (K : PySem.W.Frag) : Sp := fun vs H Q _ => ∃ (x a : Addr) (rs : List Int) (t : Int), vs = [.ref x, .ref a, .int t] ∧ SqL K H a (rs.map V.int) ∧ rs.length ≤ 1000 ∧ 0 ≤ t ∧ RetV (.bl (decide (fallOf (rot rs t.toNat) = none))) H Q
theorem v_Stays_shows {K : PySem.W.Frag} {H : Hp} {x a : Addr} {rs : List Int} {t : Int} (h : SqL K H a (rs.map V.int)) (hl : rs.length ≤ 1000) (ht : 0 ≤ t) : SpV (sp_Stays_shows K) [.ref x, .ref a, .int t] H (.bl (decide (fallOf (rot rs t.toNat) = none))) := fun H1 e Q q E => ⟨x, a, rs, t, rfl, ex_l e h, hl, ht, q⟩
def sp_Falls_init (A : Ad) : Sp := fun vs H Q _ => ∃ (x dx : Addr) (v : V), vs = [.ref x, v] ∧ H x = some (.ins A.Falls dx []) ∧ Q .non (upd H x (.ins A.Falls dx [("many", v)]))
def sp_Falls_shows (K : PySem.W.Frag) (A : Ad) : Sp := fun vs H Q _ => ∃ (x dx a : Addr) (rs : List Int) (t m : Int), vs = [.ref x, .ref a, .int t] ∧ H x = some (.ins A.Falls dx [("many", .int m)]) ∧ SqL K H a (rs.map V.int) ∧ rs.length ≤ 1000 ∧ 0 ≤ t ∧ RetV (.bl (fallsR rs t m)) H Q
theorem v_Falls_shows {K : PySem.W.Frag} {A : Ad} {H : Hp} {x dx a : Addr} {rs : List Int} {t m : Int} (hx : H x = some (.ins A.Falls dx [("many", .int m)])) (h : SqL K H a (rs.map V.int)) (hl : rs.length ≤ 1000) (ht : 0 ≤ t) : SpV (sp_Falls_shows K A) [.ref x, .ref a, .int t] H (.bl (fallsR rs t m)) := fun H1 e Q q E => ⟨x, dx, a, rs, t, m, rfl, e _ _ hx, ex_l e h, hl, ht, q⟩
theorem en_Falls {A : Ad} {σ : L2.St} {H : Hp} {E : XK} {ta : TE} {v : V} (h : Ev ta σ H v) : EvN (tMake A.Falls (sp_Falls_init A) [] E (tCons ta tNil)) σ H (fun x H2 => ∃ dx, H2 x = some (.ins A.Falls dx [("many", v)])) := fun H1 e Q q =>
  h H1 e _ fun H2 e2 x dx hx hd hne => ⟨x, dx, v, rfl, upd_same, rfl, q x _ (fresh_back e2 hx) (Ex.mut (Ex.mut (e2.trans (Ex.new hd)) (fresh_back e2 hx)) (fresh_back e2 hx)) ⟨dx, upd_same⟩⟩
def sp_judged (K : PySem.W.Frag) (A : Ad) : Sp := fun vs H Q _ => ∃ (a : Addr) (rs : List Int) (t : Int), vs = [.ref a, .int t] ∧ SqL K H a (rs.map V.int) ∧ Row rs ∧ 0 ≤ t ∧ t < rs.length ∧
  ∀ x H2, H x = none → Ex H H2 → AnsAt A H2 x (fallOf (rot rs t.toNat)) → Q (.ref x) H2
theorem en_judged {K : PySem.W.Frag} {A : Ad} {σ : L2.St} {H : Hp} {E : XK} {t : TA} {a : Addr} {rs : List Int} {tt : Int} (h : EvA t σ H [.ref a, .int tt]) (hs : SqL K H a (rs.map V.int)) (R : Row rs) (h0 : 0 ≤ tt) (h1 : tt < rs.length) :
    EvN (tCall (sp_judged K A) [] E t) σ H (fun x H2 => AnsAt A H2 x (fallOf (rot rs tt.toNat))) := en_call h fun H1 e Q q => ⟨a, rs, tt, rfl, ex_l e hs, R, h0, h1, q⟩
theorem lk_many (v : V) : ([(("many" : Str), v)] : List (Str × V)).lookup ("many" : Str) = some v := by simp [List.lookup]
theorem lk_no {m : Str} (h : (m == ("many" : Str)) = false) (v : V) : ([(("many" : Str), v)] : List (Str × V)).lookup m = none := by simp [List.lookup, h]
theorem vO_non (o : Option Nat) : decide (vO o = .non) = decide (o = none) := by cases o <;> rfl
theorem rv_isN {x : V} {H : Hp} : RV rIsNo x .non H (.bl (decide (x = .non))) := fun H1 e Q q => ⟨rfl, q H1 (Ex.refl _)⟩
theorem rv_notN {x : V} {H : Hp} : RV rNotNo x .non H (.bl (!decide (x = .non))) := fun H1 e Q q => ⟨rfl, q H1 (Ex.refl _)⟩
/-- fall_of(turned(..)) -/
theorem ev_fall_turned {K : PySem.W.Frag} {σ : L2.St} {H : Hp} {E E' : XK} {t : TA} {a : Addr} {rs : List Int} {tt : Int} (h : EvA t σ H [.ref a, .int tt]) (hs : SqL K H a (rs.map V.int)) (hl : rs.length ≤ 1000) (h0 : 0 ≤ tt) :
    Ev (tCall (sp_fall_of K) [] E (tCons (tCall (sp_turned K) [] E' t) tNil)) σ H (vO (fallOf (rot rs tt.toNat))) := ev_callL (el_call h (v_turned hs hl h0)) fun p H1 e hp => v_fall_of (sq_of hp)
/-- sum(turned(..)[:many]) -/
theorem ev_sum_turned {K : PySem.W.Frag} {σ : L2.St} {H : Hp} {E : XK} {t : TA} {tm : TE} {a : Addr} {rs : List Int} {tt m : Int} (h : EvA t σ H [.ref a, .int tt]) (hs : SqL K H a (rs.map V.int)) (hl : rs.length ≤ 1000) (h0 : 0 ≤ tt) (hm : Ev tm σ H (.int m)) (hm0 : 0 ≤ m) :
    Ev (tCB (rSum K) (tCons (tSl (rSlL K) (tCall (sp_turned K) [] E t) tNoPart (tPart tm)) tNil)) σ H (.int ((rot rs tt.toNat).take m.toNat).sum) := ev_sumN (el_hiN (el_call h (v_turned hs hl h0)) hm hm0)
theorem le0_lt1 (z : Int) : decide (z ≤ 0) = decide (z < 1) := decide_eq_decide.mpr (by omega)
theorem rc_own {K : PySem.W.Frag} {H : Hp} {x C C' dx : Addr} {fs : List (Str × V)} {b : Bool} (T : ClT K C) (T' : ClT K C') (h : H x = some (.ins C dx fs)) (hs : PySem.W.subIn K (.ref C) (.ref C') = some b) (hne : b = false → C ≠ C') : RC (rIsi K) [.ref x, .ref C'] H (.bl b) :=
  rc_isi (.own C') (fun H1 e => T.of (e _ _ h)) (kit_own T' hs hne)
theorem kit_self {K : PySem.W.Frag} {C : Addr} : PySem.W.kitOne K (.ref C) (.ref C) = some true := by
  unfold PySem.W.kitOne
  rw [if_pos (by simp)]
theorem rc_self {K : PySem.W.Frag} {H : Hp} {x C dx : Addr} {fs : List (Str × V)} (T : ClT K C) (h : H x = some (.ins C dx fs)) : RC (rIsi K) [.ref x, .ref C] H (.bl true) := rc_isi (.own C) (fun H1 e => T.of (e _ _ h)) kit_self
structure AnsT (K : PySem.W.Frag) (A : Ad) : Prop where
  tA : ClT K A.Answer
  tR : ClT K A.Round
  tS : ClT K A.Stays
  tF : ClT K A.Falls
  nm : NoAttr K A.Falls "many"
  sSA : PySem.W.subIn K (.ref A.Stays) (.ref A.Answer) = some true
  sSF : PySem.W.subIn K (.ref A.Stays) (.ref A.Falls) = some false
  sSR : PySem.W.subIn K (.ref A.Stays) (.ref A.Round) = some false
  sFA : PySem.W.subIn K (.ref A.Falls) (.ref A.Answer) = some true
  sFS : PySem.W.subIn K (.ref A.Falls) (.ref A.Stays) = some false
  sFR : PySem.W.subIn K (.ref A.Falls) (.ref A.Round) = some false
  sRA : PySem.W.subIn K (.ref A.Round) (.ref A.Answer) = some true
  sRS : PySem.W.subIn K (.ref A.Round) (.ref A.Stays) = some false
  sRF : PySem.W.subIn K (.ref A.Round) (.ref A.Falls) = some false
  eSF : A.Stays ≠ A.Falls
  eSR : A.Stays ≠ A.Round
  eFR : A.Falls ≠ A.Round
section
variable {K : PySem.W.Frag} {A : Ad} {H : Hp} {x : Addr} {o : Option Nat}
theorem rc_isStays (T : AnsT K A) (h : AnsAt A H x o) : RC (rIsi K) [.ref x, .ref A.Stays] H (.bl (decide (o = none))) := by
  cases o with
  | none =>
    obtain ⟨dx, h⟩ := h
    exact rc_self T.tS h
  | some k =>
    obtain ⟨dx, h⟩ := h
    exact rc_own T.tF T.tS h T.sFS (fun _ => T.eSF.symm)
theorem rc_isFalls (T : AnsT K A) (h : AnsAt A H x o) : RC (rIsi K) [.ref x, .ref A.Falls] H (.bl (!decide (o = none))) := by
  cases o with
  | none =>
    obtain ⟨dx, h⟩ := h
    exact rc_own T.tS T.tF h T.sSF (fun _ => T.eSF)
  | some k =>
    obtain ⟨dx, h⟩ := h
    exact rc_self T.tF h
theorem rc_isRound (T : AnsT K A) (h : AnsAt A H x o) : RC (rIsi K) [.ref x, .ref A.Round] H (.bl false) := by
  cases o with
  | none =>
    obtain ⟨dx, h⟩ := h
    exact rc_own T.tS T.tR h T.sSR (fun _ => T.eSR)
  | some k =>
    obtain ⟨dx, h⟩ := h
    exact rc_own T.tF T.tR h T.sFR (fun _ => T.eFR)
theorem rc_isAnswer (T : AnsT K A) (h : AnsAt A H x o) : RC (rIsi K) [.ref x, .ref A.Answer] H (.bl true) := by
  cases o with
  | none =>
    obtain ⟨dx, h⟩ := h
    exact rc_own T.tS T.tA h T.sSA (fun z => nomatch z)
  | some k =>
    obtain ⟨dx, h⟩ := h
    exact rc_own T.tF T.tA h T.sFA (fun z => nomatch z)
end
/-- what an answer shows of a row and a turn -/
def dueV (rs : List Int) (t : Int) : Option Nat → Bool
  | none => decide (fallOf (rot rs t.toNat) = none)
  | some k => fallsR rs t (k : Int)
theorem fallOf_pos {rs : List Int} {k : Nat} (h : fallOf rs = some k) : 1 ≤ k ∧ k ≤ rs.length ∧ (rs.take k).sum ≤ 0 := by
  obtain ⟨h1, h2, h3⟩ := fallFrom_some rs 0 0 k h
  refine ⟨by omega, by omega, ?_⟩
  rw [Nat.sub_zero] at h3
  omega
theorem fallN_zero (rs : List Int) : decide (V.int (fallN (fallOf rs)) = V.int 0) = decide (fallOf rs = none) := by
  cases h : fallOf rs with
  | none => rfl
  | some k =>
    have := (fallOf_pos h).1
    rw [decide_eq_false (by intro z; injection z with z; unfold fallN at z; simp at z; omega), decide_eq_false (by intro z; cases z)]
theorem due_own (rs : List Int) (t : Int) : dueV rs t (fallOf (rot rs t.toNat)) = true := by
  cases h : fallOf (rot rs t.toNat) with
  | none => exact decide_eq_true h
  | some k =>
    obtain ⟨h1, h2, h3⟩ := fallOf_pos h
    rw [rot_len] at h2
    show fallsR rs t (k : Int) = true
    unfold fallsR
    rw [Int.toNat_natCast]
    simp
    omega
theorem ev_shows2 {K : PySem.W.Frag} {A : Ad} {σ : L2.St} {H : Hp} {E : XK} {ta : TE} {tt : TA} {x a : Addr} {rs : List Int} {t : Int} {o : Option Nat} (h : Ev ta σ H (.ref x)) (hx : AnsAt A H x o) (ht : EvA tt σ H [.ref a, .int t]) (hs : SqL K H a (rs.map V.int)) (hl : rs.length ≤ 1000) (h0 : 0 ≤ t) :
    Ev (tMeth2 A.Stays A.Falls "shows" (sp_Stays_shows K) (sp_Falls_shows K A) E ta tt) σ H (.bl (dueV rs t o)) := by
  cases o with
  | none =>
    obtain ⟨dx, hx⟩ := hx
    exact ev_meth2a h hx rfl ht (v_Stays_shows hs hl h0)
  | some k =>
    obtain ⟨dx, hx⟩ := hx
    exact ev_meth2b h hx (lk_no (by decide +kernel) _) ht (v_Falls_shows hx hs hl h0)
/-- rows with turns, told in a list of pairs -/
structure Oth (K : PySem.W.Frag) (H : Hp) (l : Addr) (os : List (List Int × Int)) : Prop where
  ex : ∃ xs : List V, SqL K H l xs ∧ xs.length = os.length ∧ ∀ (i : Nat) (r : List Int) (p : Int), os[i]? = some (r, p) → ∃ T b, xs[i]? = some (.ref T) ∧ SqT K H T [.ref b, .int p] ∧ SqL K H b (r.map V.int)
  ok : ∀ rp ∈ os, rp.1.length ≤ 1000 ∧ 0 ≤ rp.2
theorem Oth.mono {K : PySem.W.Frag} {H H' : Hp} {l : Addr} {os : List (List Int × Int)} (e : Ex H H') (h : Oth K H l os) : Oth K H' l os := by
  obtain ⟨⟨xs, h1, h2, h3⟩, h4⟩ := h
  refine ⟨⟨xs, ex_l e h1, h2, fun i r p hi => ?_⟩, h4⟩
  obtain ⟨T, b, a1, a2, a3⟩ := h3 i r p hi
  exact ⟨T, b, a1, ex_t e a2, ex_l e a3⟩
def sp_staying (K : PySem.W.Frag) : Sp := fun vs H Q _ => ∃ (a : Addr) (rs : List Int), vs = [.ref a] ∧ SqL K H a (rs.map V.int) ∧ rs.length ≤ 1000 ∧ (∀ s ∈ rs, s ≤ 1) ∧ RetL ((stayI rs).map V.int) H Q
theorem v_staying {K : PySem.W.Frag} {H : Hp} {a : Addr} {rs : List Int} (h : SqL K H a (rs.map V.int)) (hl : rs.length ≤ 1000) (h1 : ∀ s ∈ rs, s ≤ 1) : SpL (sp_staying K) [.ref a] H ((stayI rs).map V.int) := fun H1 e Q q E => ⟨a, rs, rfl, ex_l e h, hl, h1, q⟩
/-- the running sums so far -/
def preL (rs : List Int) (i : Nat) : List Int := (List.range (i + 1)).map (pre rs)
theorem preL_succ (rs : List Int) (i : Nat) : preL rs (i + 1) = preL rs i ++ [pre rs (i + 1)] := by
  unfold preL
  rw [List.range_succ, List.map_append]
  rfl
theorem preL_len (rs : List Int) (i : Nat) : (preL rs i).length = i + 1 := by unfold preL; simp
theorem preL_get {rs : List Int} {i j : Nat} (h : j ≤ i) : (preL rs i).getD j 0 = pre rs j := by
  unfold preL
  rw [List.getD_eq_getElem?_getD, List.getElem?_map, List.getElem?_range (by omega)]
  rfl
theorem preL_last (rs : List Int) (i : Nat) : atI ((preL rs i).map V.int) (-1) = some (.int (pre rs i)) := by
  cases i with
  | zero => exact atI_last [] (V.int (pre rs 0))
  | succ i =>
    rw [preL_succ, List.map_append]
    exact atI_last _ _
theorem scan_lt {rs : List Int} (h1 : ∀ s ∈ rs, s ≤ 1) {i q : Nat} (hi : i ≤ rs.length) (hq : q ∈ (scan rs i).1) : q < rs.length := (((scan_ok h1 i hi).mem q).mp hq).2.1
theorem picked_perm' {rs : List Int} (h1 : ∀ s ∈ rs, s ≤ 1) (hr : 0 < rs.sum) : ((picked rs).map fun n : Nat => (n : Int)).Perm (stayI rs) := (picked_perm h1 hr).map _
theorem vn_map (ns : List Nat) : ns.map vn = (ns.map fun n : Nat => (n : Int)).map V.int := map_vn ns
theorem nodup_lt_len : ∀ (n : Nat) {l : List Nat}, l.Nodup → (∀ x ∈ l, x < n) → l.length ≤ n
  | 0, l, _, hb => by
    cases l with
    | nil => exact Nat.le_refl _
    | cons x r => exact absurd (hb x List.mem_cons_self) (Nat.not_lt_zero _)
  | n + 1, l, hd, hb => by
    have h1 := nodup_lt_len n (l := l.filter fun x => decide (x ≠ n)) (hd.filter _) (fun x hx => by
      obtain ⟨h1, h2⟩ := List.mem_filter.mp hx
      have := hb x h1
      have h3 : x ≠ n := by simpa using h2
      omega)
    have h2 : l.length ≤ (l.filter fun x => decide (x ≠ n)).length + 1 := by
      clear h1 hb
      induction l with
      | nil => simp
      | cons x r ih =>
        obtain ⟨hx, hr⟩ := List.nodup_cons.mp hd
        by_cases h : x = n
        · subst h
          have e : r.filter (fun y => decide (y ≠ x)) = r := List.filter_eq_self.mpr fun y hy => by
            have : y ≠ x := fun z => hx (z ▸ hy)
            simpa using this
          rw [List.filter_cons, if_neg (by simp), e, List.length_cons]
          exact Nat.le_refl _
        · rw [List.filter_cons, if_pos (by simpa using h), List.length_cons, List.length_cons]
          have := ih hr
          omega
    omega
/-! a Round as an object -/
abbrev rf (l1 l2 : Addr) : List (Str × V) := [("stay", .ref l1), ("falls", .ref l2)]
theorem rf_stay (l1 l2 : Addr) : (rf l1 l2).lookup ("stay" : Str) = some (.ref l1) := by simp [List.lookup]
theorem rf_falls (l1 l2 : Addr) : (rf l1 l2).lookup ("falls" : Str) = some (.ref l2) := by
  have h : (("falls" : Str) == ("stay" : Str)) = false := by decide +kernel
  simp [List.lookup, h]
theorem rf_no {m : Str} (h1 : (m == ("stay" : Str)) = false) (h2 : (m == ("falls" : Str)) = false) (l1 l2 : Addr) : (rf l1 l2).lookup m = none := by simp [List.lookup, h1, h2]
/-- pairs of ints, each a tuple of its own -/
def Prs (H : Hp) (ts : List V) (fs : List (Int × Int)) : Prop := ts.length = fs.length ∧ ∀ (i : Nat) (p : Int × Int), fs[i]? = some p → ∃ T, ts[i]? = some (.ref T) ∧ H T = some (.tup [.int p.1, .int p.2])
theorem Prs.ex {H H' : Hp} {ts : List V} {fs : List (Int × Int)} (e : Ex H H') (h : Prs H ts fs) : Prs H' ts fs := ⟨h.1, fun i p hp => by
  obtain ⟨T, h1, h2⟩ := h.2 i p hp
  exact ⟨T, h1, e _ _ h2⟩⟩
theorem Prs.upd {H : Hp} {ts : List V} {fs : List (Int × Int)} {l : Addr} {xs ys : List V} (hl : H l = some (.lst xs)) (h : Prs H ts fs) : Prs (upd H l (.lst ys)) ts fs := ⟨h.1, fun i p hp => by
  obtain ⟨T, h1, h2⟩ := h.2 i p hp
  refine ⟨T, h1, ?_⟩
  rw [upd_ne (ne_of h2 hl (by intro z; cases z))]
  exact h2⟩
theorem Prs.nil {H : Hp} : Prs H [] [] := ⟨rfl, fun i p hp => by cases hp⟩
theorem Prs.snoc {H : Hp} {ts : List V} {fs : List (Int × Int)} {T : Addr} {p : Int × Int} (h : Prs H ts fs) (hT : H T = some (.tup [.int p.1, .int p.2])) : Prs H (ts ++ [.ref T]) (fs ++ [p]) := by
  refine ⟨by rw [List.length_append, List.length_append, h.1]; rfl, fun i q hq => ?_⟩
  by_cases hi : i < fs.length
  · rw [List.getElem?_append_left hi] at hq
    obtain ⟨T', h1, h2⟩ := h.2 i q hq
    exact ⟨T', by rw [List.getElem?_append_left (by rw [h.1]; exact hi)]; exact h1, h2⟩
  · have hlen := (List.getElem?_eq_some_iff.mp hq).1
    rw [List.length_append, List.length_singleton] at hlen
    have : i = fs.length := by omega
    subst this
    rw [List.getElem?_append_right (Nat.le_refl _), Nat.sub_self] at hq
    cases hq
    refine ⟨T, ?_, hT⟩
    rw [← h.1, List.getElem?_append_right (Nat.le_refl _), Nat.sub_self]
    rfl
structure RndAt (A : Ad) (H : Hp) (x l1 l2 : Addr) (st : List Int) (ts : List V) (fs : List (Int × Int)) : Prop where
  ob : ∃ dx, H x = some (.ins A.Round dx (rf l1 l2))
  h1 : H l1 = some (.lst (st.map V.int))
  h2 : H l2 = some (.lst ts)
  pr : Prs H ts fs
theorem RndAt.ex {A : Ad} {H H' : Hp} {x l1 l2 : Addr} {st : List Int} {ts : List V} {fs : List (Int × Int)} (e : Ex H H') (h : RndAt A H x l1 l2 st ts fs) : RndAt A H' x l1 l2 st ts fs := ⟨h.ob.imp fun dx h => e _ _ h, e _ _ h.h1, e _ _ h.h2, h.pr.ex e⟩
def sp_Round_init (K : PySem.W.Frag) (A : Ad) : Sp := fun vs H Q _ => ∃ (x dx a b : Addr) (us ws : List V), vs = [.ref x, .ref a, .ref b] ∧ H x = some (.ins A.Round dx []) ∧ SqL K H a us ∧ SqL K H b ws ∧
  ∀ l1 l2 H', H l1 = none → H l2 = none → l1 ≠ l2 → (∀ c o, H c = some o → c ≠ x → H' c = some o) → H' x = some (.ins A.Round dx (rf l1 l2)) → H' l1 = some (.lst us) → H' l2 = some (.lst ws) → Q .non H'
/-- Round(a, b), told with what is new -/
def EvR (A : Ad) (te : TE) (σ : L2.St) (H : Hp) (us ws : List V) : Prop := ∀ H1, Ex H H1 → ∀ Q : VK, (∀ x dx l1 l2 H2, H1 x = none → H1 l1 = none → H1 l2 = none → l1 ≠ l2 → Ex H1 H2 → H2 x = some (.ins A.Round dx (rf l1 l2)) → H2 l1 = some (.lst us) → H2 l2 = some (.lst ws) → Q (.ref x) H2) → te σ H1 Q
theorem er_make {K : PySem.W.Frag} {A : Ad} {σ : L2.St} {H : Hp} {E : XK} {ta : TA} {a b : Addr} {us ws : List V} (h : EvA ta σ H [.ref a, .ref b]) (hu : SqL K H a us) (hw : SqL K H b ws) : EvR A (tMake A.Round (sp_Round_init K A) [] E ta) σ H us ws := fun H1 e Q q =>
  h H1 e _ fun H2 e2 x dx hx hd hne => by
    have s0 : Ex H2 (upd (upd H2 dx (.own x)) x (.ins A.Round dx [])) := Ex.mut (Ex.new hd) hx
    refine ⟨x, dx, a, b, us, ws, rfl, upd_same, ex_l ((e.trans e2).trans s0) hu, ex_l ((e.trans e2).trans s0) hw, fun l1 l2 H' h1 h2 h12 kp hx' hl1 hl2 => ⟨rfl, ?_⟩⟩
    refine q x dx l1 l2 H' (fresh_back e2 hx) (fresh_back (e2.trans s0) h1) (fresh_back (e2.trans s0) h2) h12 (fun c o hc => kp c o (s0 _ _ (e2 _ _ hc)) (ne_of_none hc (fresh_back e2 hx))) hx' hl1 hl2
def sp_Round_shows (K : PySem.W.Frag) (A : Ad) : Sp := fun vs H Q _ => ∃ (x a l1 l2 : Addr) (rs st : List Int) (ts : List V) (fs : List (Int × Int)), vs = [.ref x, .ref a] ∧ RndAt A H x l1 l2 st ts fs ∧ SqL K H a (rs.map V.int) ∧ rs.length ≤ 1000 ∧ st.length ≤ 10000 ∧ fs.length ≤ 10000 ∧ RetV (.bl (showsV rs st fs)) H Q
theorem v_Round_shows {K : PySem.W.Frag} {A : Ad} {H : Hp} {x a l1 l2 : Addr} {rs st : List Int} {ts : List V} {fs : List (Int × Int)} (hx : RndAt A H x l1 l2 st ts fs) (h : SqL K H a (rs.map V.int)) (hl : rs.length ≤ 1000) (hs : st.length ≤ 10000) (hf : fs.length ≤ 10000) : SpV (sp_Round_shows K A) [.ref x, .ref a] H (.bl (showsV rs st fs)) := fun H1 e Q q E => ⟨x, a, l1, l2, rs, st, ts, fs, rfl, hx.ex e, ex_l e h, hl, hs, hf, q⟩
def sp_gone_round (K : PySem.W.Frag) (A : Ad) : Sp := fun vs H Q _ => ∃ (a : Addr) (rs : List Int), vs = [.ref a] ∧ SqL K H a (rs.map V.int) ∧ Row rs ∧
  ∀ x l1 l2 ts H2, H x = none → H l1 = none → H l2 = none → l1 ≠ l2 → Ex H H2 → RndAt A H2 x l1 l2 (stayI rs) ts (fallsOf rs) → Q (.ref x) H2
/-- a comprehension over pairs -/
theorem el_pairs {K : PySem.W.Frag} {σ : L2.St} {H : Hp} {tl te : TE} {vs : List Nat} {l : Addr} {ts : List V} {fs : List (Int × Int)} {i1 i2 : Nat} (val : Int × Int → V) (h : Ev tl σ H (.ref l)) (hl : SqL K H l ts) (hp : Prs H ts fs) (hz : fs.length ≤ 40000) (hw : ∀ x y, wipe (((wipe σ vs).set i1 (some x)).set i2 (some y)) vs = wipe σ vs)
    (he : ∀ p H1, p ∈ fs → Ex H H1 → Ev te (((wipe σ vs).set i1 (some (.int p.1))).set i2 (some (.int p.2))) H1 (val p)) :
    EvL (tLc (iList K tl) (gTup K 2 (gCons (gName i1) (gCons (gName i2) gNil))) tYes te vs) σ H (fs.map val) := by
  have q := el_lc (vs := vs) (t := tYes) (te := te) (g := gTup K 2 (gCons (gName i1) (gCons (gName i2) gNil))) (fun _ => true) (fun i => val (fs.getD i (0, 0))) (ei_list h hl) (by rw [hp.1]; exact hz) ?_ g_two_mono
  · have e : given ts.length (fun _ => true) (fun i => val (fs.getD i (0, 0))) = fs.map val := by
      have := given_map fs (fun _ => true) val (0, 0)
      rw [hp.1, this, filter_true]
    rw [e] at q
    exact q
  · rintro i x H1 H2 hi e ⟨rfl, hy⟩
    have hif : i < fs.length := by rw [← hp.1]; exact hi
    obtain ⟨T, h1, h2⟩ := hp.2 i fs[i] (List.getElem?_eq_getElem hif)
    rw [hy] at h1
    cases h1
    refine ⟨T, _, rfl, st_of (e _ _ h2), rfl, _, _, rfl, _, _, rfl, rfl, hw _ _, Ex.refl _, et_yes, fun _ => ?_⟩
    rw [getD_of (List.getElem?_eq_getElem hif)]
    exact he _ _ (List.getElem_mem hif) e
def sp_l_stay (K : PySem.W.Frag) : Sp := fun vs H Q _ => ∃ (a : Addr) (rs : List Int), vs = [.ref a] ∧ SqL K H a (rs.map V.int) ∧ rs.length ≤ 1000 ∧ RetL ((stayI rs).map V.int) H Q
theorem v_l_stay {K : PySem.W.Frag} {H : Hp} {a : Addr} {rs : List Int} (h : SqL K H a (rs.map V.int)) (hl : rs.length ≤ 1000) : SpL (sp_l_stay K) [.ref a] H ((stayI rs).map V.int) := fun H1 e Q q E => ⟨a, rs, rfl, ex_l e h, hl, q⟩
def sp_l_is_round (K : PySem.W.Frag) : Sp := fun vs H Q _ => ∃ (a l1 l2 : Addr) (rs st : List Int) (ts : List V) (fs : List (Int × Int)), vs = [.ref a, .ref l1, .ref l2] ∧ SqL K H a (rs.map V.int) ∧ rs.length ≤ 1000 ∧ H l1 = some (.lst (st.map V.int)) ∧ H l2 = some (.lst ts) ∧ Prs H ts fs ∧ st.length ≤ 10000 ∧ fs.length ≤ 10000 ∧ RetV (.bl (isRoundV rs st fs)) H Q
theorem v_l_is_round {K : PySem.W.Frag} {H : Hp} {a l1 l2 : Addr} {rs st : List Int} {ts : List V} {fs : List (Int × Int)} (h : SqL K H a (rs.map V.int)) (hl : rs.length ≤ 1000) (h1 : H l1 = some (.lst (st.map V.int))) (h2 : H l2 = some (.lst ts)) (hp : Prs H ts fs) (hs : st.length ≤ 10000) (hf : fs.length ≤ 10000) : SpV (sp_l_is_round K) [.ref a, .ref l1, .ref l2] H (.bl (isRoundV rs st fs)) := fun H1 e Q q E => ⟨a, l1, l2, rs, st, ts, fs, rfl, ex_l e h, hl, e _ _ h1, e _ _ h2, hp.ex e, hs, hf, q⟩
theorem fallsR_T (rs : List Int) (t m : Int) : fallsR rs t m = fallsT rs t m := rfl
theorem perm_range {st : List Int} {fs : List (Int × Int)} {n : Nat} (h : isort (st ++ fs.map Prod.fst) = rangeI n) : (∀ t ∈ st, 0 ≤ t ∧ t < n) ∧ ∀ p ∈ fs, 0 ≤ p.1 ∧ p.1 < n := by
  have perm : (st ++ fs.map Prod.fst).Perm (rangeI n) := by rw [← h]; exact (isort_perm _).symm
  exact ⟨fun t ht => mem_rangeI.mp (perm.mem_iff.mp (List.mem_append_left _ ht)), fun p hp => mem_rangeI.mp (perm.mem_iff.mp (List.mem_append_right _ (List.mem_map_of_mem hp)))⟩
theorem vO_some {o : Option Nat} (h : o ≠ none) : vO o = .int (fallZ o) := by
  cases o with
  | none => exact absurd rfl h
  | some k => rfl
theorem et_andL {t u : TT} {σ : L2.St} {H : Hp} {b : Bool} (h1 : EvT t σ H false) : EvT (tAnd t u) σ H false := fun H1 e Q q => h1 H1 e _ fun H2 e2 => by
  rw [if_neg Bool.false_ne_true]
  exact q H2 e2
theorem cut_last (xs : List V) (k : Nat) (hk : 0 < k) : cutV xs (some (-(k : Int))) none = xs.drop (xs.length - k) := by
  unfold cutV
  rw [HT.sIx_none]
  have e : HT.sIx xs.length 0 (some (-(k : Int))) = xs.length - k := by
    show (if -(k : Int) < 0 then (-(k : Int) + (xs.length : Int)).toNat else _) = _
    rw [if_pos (by omega)]
    omega
  rw [e, List.take_of_length_le (by rw [List.length_drop]; omega)]
/-- a row in a list of its own -/
def PRow (K : PySem.W.Frag) (r : List Int) : VP := fun w H => ∃ b, w = .ref b ∧ SqL K H b (r.map V.int)
theorem PRow.mono {K : PySem.W.Frag} {r : List Int} : Mono (PRow K r) := fun v H H' e ⟨b, h1, h2⟩ => ⟨b, h1, ex_l e h2⟩
theorem x_row {K : PySem.W.Frag} {σ : L2.St} {H : Hp} {te : TE} {r : List Int} (h : EvL te σ H (r.map V.int)) : EvX te σ H (PRow K r) := (xl h).imp fun w H1 e ⟨p, h1, h2⟩ => ⟨p, h1, sq_of h2⟩
theorem x_rowV {K : PySem.W.Frag} {σ : L2.St} {H : Hp} {te : TE} {a : Addr} {r : List Int} (h : Ev te σ H (.ref a)) (hs : SqL K H a (r.map V.int)) : EvX te σ H (PRow K r) := (xv h).imp fun w H1 e hw => ⟨a, hw, ex_l e hs⟩
/-- rows in a list -/
structure OthL (K : PySem.W.Frag) (H : Hp) (l : Addr) (os : List (List Int)) : Prop where
  ex : ∃ xs : List V, SqL K H l xs ∧ xs.length = os.length ∧ ∀ (i : Nat) (r : List Int), os[i]? = some r → ∃ b, xs[i]? = some (.ref b) ∧ SqL K H b (r.map V.int)
  ok : ∀ r ∈ os, r.length ≤ 1000
theorem OthL.mono {K : PySem.W.Frag} {H H' : Hp} {l : Addr} {os : List (List Int)} (e : Ex H H') (h : OthL K H l os) : OthL K H' l os := by
  obtain ⟨⟨xs, h1, h2, h3⟩, h4⟩ := h
  refine ⟨⟨xs, ex_l e h1, h2, fun i r hi => ?_⟩, h4⟩
  obtain ⟨b, a1, a2⟩ := h3 i r hi
  exact ⟨b, a1, ex_l e a2⟩
theorem OthL.of {K : PySem.W.Frag} {H : Hp} {w : V} {os : List (List Int)} (hok : ∀ r ∈ os, r.length ≤ 1000) (h : PL (os.map (PRow K)) w H) : ∃ l, w = .ref l ∧ OthL K H l os := by
  obtain ⟨l, vs, rfl, h1, h2⟩ := h
  have hl := h2.length
  rw [List.length_map] at hl
  refine ⟨l, rfl, ⟨vs, sq_of h1, hl, fun i r hi => ?_⟩, hok⟩
  obtain ⟨v, hv, b, rfl, h3⟩ := h2.get (i := i) (P := PRow K r) (by rw [List.getElem?_map, hi]; rfl)
  exact ⟨b, hv, h3⟩
theorem prow_mono (K : PySem.W.Frag) (os : List (List Int)) : ∀ P ∈ os.map (PRow K), Mono P := fun P hP => by
  obtain ⟨r, _, rfl⟩ := List.mem_map.mp hP
  exact PRow.mono
def sp_k01_right (K : PySem.W.Frag) (A : Ad) : Sp := fun vs H Q _ => ∃ (a l : Addr) (rs : List Int) (os : List (List Int)), vs = [.ref a, .ref l] ∧ SqL K H a (rs.map V.int) ∧ Row rs ∧ OthL K H l os ∧ RetV (.bl true) H Q
theorem v_k01_right {K : PySem.W.Frag} {A : Ad} {H : Hp} {a l : Addr} {rs : List Int} {os : List (List Int)} (h : SqL K H a (rs.map V.int)) (R : Row rs) (ho : OthL K H l os) : SpV (sp_k01_right K A) [.ref a, .ref l] H (.bl true) := fun H1 e Q q E => ⟨a, l, rs, os, rfl, ex_l e h, R, ho.mono e, q⟩
theorem stayI_len {rs : List Int} (h1 : ∀ s ∈ rs, s ≤ 1) : ((stayI rs).length : Int) = if rs.sum > 0 then rs.sum else 0 := by
  unfold stayI
  rw [List.length_map, stayOf_len h1]
  split <;> omega
theorem stayI_le (rs : List Int) : (stayI rs).length ≤ rs.length := by
  unfold stayI stayOf
  rw [List.length_map]
  have := List.length_filter_le (stB rs) (List.range rs.length)
  rw [List.length_range] at this
  exact this
theorem fallsOf_le (rs : List Int) : (fallsOf rs).length ≤ rs.length := by
  unfold fallsOf
  rw [List.length_map]
  have := List.length_filter_le (fun t => !stB rs t) (List.range rs.length)
  rw [List.length_range] at this
  exact this
/-- gone_round: a Round, told by what it holds -/
def PRnd (A : Ad) (rs : List Int) : VP := fun w H => ∃ x l1 l2 ts, w = .ref x ∧ RndAt A H x l1 l2 (stayI rs) ts (fallsOf rs)
theorem PRnd.mono {A : Ad} {rs : List Int} : Mono (PRnd A rs) := fun v H H' e ⟨x, l1, l2, ts, h1, h2⟩ => ⟨x, l1, l2, ts, h1, h2.ex e⟩
theorem x_gone {K : PySem.W.Frag} {A : Ad} {σ : L2.St} {H : Hp} {E : XK} {ta : TA} {a : Addr} {rs : List Int} (h : EvA ta σ H [.ref a]) (hs : SqL K H a (rs.map V.int)) (R : Row rs) : EvX (tCall (sp_gone_round K A) [] E ta) σ H (PRnd A rs) := x_callV h fun H1 e Q q E => ⟨a, rs, rfl, ex_l e hs, R, fun x l1 l2 ts H2 _ _ _ _ e2 r => q _ H2 e2 ⟨x, l1, l2, ts, rfl, r⟩⟩
theorem x_goneN {K : PySem.W.Frag} {A : Ad} {σ : L2.St} {H : Hp} {E : XK} {te : TE} {rs : List Int} (h : EvL te σ H (rs.map V.int)) (R : Row rs) : EvX (tCall (sp_gone_round K A) [] E (tCons te tNil)) σ H (PRnd A rs) := fun H1 e Q q =>
  h H1 e _ fun p H2 hp e2 h2 => ⟨p, rs, rfl, sq_of h2, R, fun x l1 l2 ts H3 _ _ _ _ e3 r => q _ H3 (e2.trans e3) ⟨x, l1, l2, ts, rfl, r⟩⟩
theorem x_gstay {K : PySem.W.Frag} {A : Ad} {σ : L2.St} {H : Hp} {te : TE} {rs : List Int} (T : ClT K A.Round) (n : NoAttr K A.Round "stay") (h : EvX te σ H (PRnd A rs)) : EvX (tFld K te "stay") σ H (PRow K (stayI rs)) := x_fld h fun w H1 e hw => by
  obtain ⟨x, l1, l2, ts, rfl, r⟩ := hw
  obtain ⟨dx, ho⟩ := r.ob
  exact ⟨x, A.Round, dx, _, _, rfl, ho, T.cl, n, rf_stay l1 l2, l1, rfl, sq_of r.h1⟩
theorem ed_row {K : PySem.W.Frag} {σ : L2.St} {H : Hp} {te : TE} {rs : List Int} (h : EvX te σ H (PRow K rs)) : EvD K te σ H (.list (rs.map PyData.int)) := fun H1 e Q q => h H1 e _ fun v H2 e2 ⟨b, hb, hs⟩ => q v H2 e2 (by rw [hb]; exact dp_ints hs)
theorem ei_listX {K : PySem.W.Frag} {σ : L2.St} {H : Hp} {tl : TE} {rs : List Int} (h : EvX tl σ H (PRow K rs)) : EvI (iList K tl) σ H (rs.map V.int).length (YAt (rs.map V.int)) := fun H1 e R k =>
  h H1 e _ fun w H2 e2 ⟨b, hb, hs⟩ => by
    rw [hb]
    exact ⟨b, rfl, ⟨_, hs⟩, k _ H2 _ e2 walk_list hs (fun _ _ ab q => ex_l ab q)⟩
theorem el_rep1 {σ : L2.St} {H : Hp} {te tb : TE} {z : Int} {n : Nat} (h : Ev te σ H (.int z)) (hb : Ev tb σ H (.int (n : Int))) (hn : n ≤ 1000) : EvL (tOp rRep (tLst (tCons te tNil)) tb) σ H ((List.replicate n z).map V.int) := by
  have q := el_repL (xs := [V.int z]) (k := (n : Int)) (el_lst (ea_cons h ea_nil) (by show 1 ≤ 100000; decide)) hb (by omega) (by simp; omega)
  rw [Int.toNat_natCast, List.flatten_replicate_singleton] at q
  rw [List.map_replicate]
  exact q
theorem Row.rep {n : Nat} {z : Int} (h1 : 1 ≤ n) (h2 : n ≤ 60) (h3 : -4 ≤ z) (h4 : z ≤ 1) : Row (List.replicate n z) := ⟨by rw [List.length_replicate]; exact h1, by rw [List.length_replicate]; exact h2, fun s hs => by rw [List.eq_of_mem_replicate hs]; exact ⟨h3, h4⟩⟩
theorem s_reverse {K : PySem.W.Frag} {σ : L2.St} {H : Hp} {te : TE} {D : Ends} {l : Addr} {xs : List V} (h : Ev te σ H (.ref l)) (hl : H l = some (.lst xs)) (k : ∀ H1, Ex H H1 → D.nx σ (upd H1 l (.lst xs.reverse))) : tDrop (tBM0 K "list" rReverse te) D σ H := h H (Ex.refl H) _ fun H1 e => ⟨.inl ⟨rfl, xs, sq_of (e _ _ hl)⟩, l, xs, rfl, rfl, e _ _ hl, k H1 e⟩
theorem Row.rev {rs : List Int} (R : Row rs) : Row rs.reverse := ⟨by rw [List.length_reverse]; exact R.pos, by rw [List.length_reverse]; exact R.len, fun s hs => R.stp s (List.mem_reverse.mp hs)⟩
theorem Row.rot {rs : List Int} (R : Row rs) (t : Nat) : Row (rot rs t) := ⟨by rw [rot_len]; exact R.pos, by rw [rot_len]; exact R.len, fun s hs => by
  unfold TA.rot at hs
  rcases List.mem_append.mp hs with h | h
  · exact R.stp s (List.mem_of_mem_drop h)
  · exact R.stp s (List.mem_of_mem_take h)⟩
/-- a step more, at most sixty -/
theorem Row.more {rs : List Int} (R : Row rs) : Row ((rs ++ [1]).drop ((rs ++ [1]).length - 60)) := by
  have h1 := R.pos
  have h2 := R.len
  refine ⟨?_, ?_, fun s hs => ?_⟩
  · simp
    omega
  · simp
    omega
  · rcases List.mem_append.mp (List.mem_of_mem_drop hs) with h | h
    · exact R.stp s h
    · rw [List.mem_singleton] at h
      omega
theorem rc_isiTup {K : PySem.W.Frag} {H : Hp} {T : Addr} {xs : List V} (h : H T = some (.tup xs)) : RC (rIsi K) [.ref T, .ty "tuple"] H (.bl true) := rc_isi (.ty "tuple") (fun H1 e => .base (.tup (e _ _ h))) (kit_ty (by decide +kernel))
theorem all_true {α : Type} (xs : List α) : (xs.all fun _ => true) = true := by simp
theorem prs_mem {H : Hp} {ts : List V} {fs : List (Int × Int)} (h : Prs H ts fs) {v : V} (hv : v ∈ ts) : ∃ T a b, v = .ref T ∧ H T = some (.tup [.int a, .int b]) := by
  obtain ⟨i, hi, e⟩ := List.mem_iff_getElem.mp hv
  have hif : i < fs.length := by rw [← h.1]; exact hi
  obtain ⟨T, h1, h2⟩ := h.2 i fs[i] (List.getElem?_eq_getElem hif)
  rw [List.getElem?_eq_getElem hi, e] at h1
  cases h1
  exact ⟨T, _, _, rfl, h2⟩
/-- a list of two new lists, set -/
theorem q_asgL2 {σ : L2.St} {H : Hp} {ta tb : TE} {D : Ends} {tz : TS} {i : Nat} {xs ys : List V} (h1 : EvL ta σ H xs) (h2 : EvL tb σ H ys)
    (k : ∀ p1 p2 p H1, H p1 = none → H p2 = none → p1 ≠ p2 → p ≠ p1 → p ≠ p2 → Ex H H1 → H1 p1 = some (.lst xs) → H1 p2 = some (.lst ys) → H1 p = some (.lst [.ref p1, .ref p2]) → tz D (σ.set i (some (.ref p))) H1) :
    tSeq (tAsg (tLst (tCons ta (tCons tb tNil))) (gName i)) tz D σ H :=
  h1 H (Ex.refl H) _ fun p1 H1 hp1 e1 hh1 => h2 H1 e1 _ fun p2 H2 hp2 e2 hh2 => ⟨sz_of (by decide : 2 ≤ 100000), fun p hp => by
    have g1 := e2 _ _ hh1
    exact k p1 p2 p _ hp1 (fresh_back e1 hp2) (ne_of_none hh1 hp2) (ne_of_none g1 hp).symm (ne_of_none hh2 hp).symm ((e1.trans e2).trans (Ex.new hp)) (Ex.new hp _ _ g1) (Ex.new hp _ _ hh2) upd_same⟩
theorem q_asgR {A : Ad} {σ : L2.St} {H : Hp} {te : TE} {D : Ends} {tz : TS} {i : Nat} {us ws : List V} (h : EvR A te σ H us ws) (k : ∀ x dx l1 l2 H2, H x = none → H l1 = none → H l2 = none → l1 ≠ l2 → Ex H H2 → H2 x = some (.ins A.Round dx (rf l1 l2)) → H2 l1 = some (.lst us) → H2 l2 = some (.lst ws) → tz D (σ.set i (some (.ref x))) H2) :
    tSeq (tAsg te (gName i)) tz D σ H := h H (Ex.refl H) _ k
abbrev pairD (p : Int × Int) : PyData := .tuple [.int p.1, .int p.2]
theorem fine_pairs (fs : List (Int × Int)) : Fine 2 (.list (fs.map pairD)) := fine_list (k := 1) fun d hd => by
  obtain ⟨p, _, rfl⟩ := List.mem_map.mp hd
  exact fine_pair p.1 p.2
theorem dpall_get {K : PySem.W.Frag} {H : Hp} : ∀ {vs : List V} {ds : List PyData}, vs.length = ds.length → (∀ (i : Nat) (d : PyData), ds[i]? = some d → ∃ v, vs[i]? = some v ∧ Dp K H v d) → DpAll K H vs ds
  | [], [], _, _ => .nil
  | [], _ :: _, h, _ => nomatch h
  | _ :: _, [], h, _ => nomatch h
  | v :: vs, d :: ds, h, k => by
    obtain ⟨v', h1, h2⟩ := k 0 d rfl
    cases h1
    exact .cons h2 (dpall_get (by simpa using h) fun i d hd => k (i + 1) d hd)
theorem dp_pairs {K : PySem.W.Frag} {H : Hp} {l : Addr} {ts : List V} {fs : List (Int × Int)} (h : H l = some (.lst ts)) (hp : Prs H ts fs) : Dp K H (.ref l) (.list (fs.map pairD)) := .lst (sq_of h) (dpall_get (by rw [List.length_map, hp.1]) fun i d hd => by
  rw [List.getElem?_map] at hd
  cases hq : fs[i]? with
  | none => rw [hq] at hd; exact nomatch hd
  | some p =>
    rw [hq] at hd
    cases hd
    obtain ⟨T, h1, h2⟩ := hp.2 i p hq
    exact ⟨.ref T, h1, .tup (st_of h2) (.cons (.int _) (.cons (.int _) .nil))⟩)
theorem ev_neSame {K : PySem.W.Frag} {σ : L2.St} {H : Hp} {ta tb : TE} {d : PyData} (h1 : EvD K ta σ H d) (h2 : EvD K tb σ H d) (f : Fine 64 d) : Ev (tOp (rNeD K) ta tb) σ H (.bl false) := by
  have q := ev_neD h1 h2 (f.shaped (by decide)) (f.shaped (by decide))
  rw [PySem.SeqAt.eqv_refl d f.1] at q
  exact q
theorem fine_le {k m : Nat} {d : PyData} (h : Fine k d) (hk : k ≤ m) : Fine m d := ⟨h.1, Nat.le_trans h.2 hk⟩
theorem fine_two {k : Nat} {d e : PyData} (h1 : Fine k d) (h2 : Fine k e) : Fine (k + 1) (.list [d, e]) := fine_list fun x hx => by
  rcases List.mem_cons.mp hx with rfl | hx
  · exact h1
  · rcases List.mem_cons.mp hx with rfl | hx
    · exact h2
    · exact nomatch hx
def PInt : VP := fun v _ => ∃ i : Int, v = .int i
def PPair : VP := fun v H => ∃ (T : Addr) (i j : Int), v = .ref T ∧ H T = some (.tup [.int i, .int j])
theorem PInt.mono : Mono PInt := fun _ _ _ _ h => h
theorem PPair.mono : Mono PPair := fun v H H' e ⟨T, i, j, h1, h2⟩ => ⟨T, i, j, h1, e _ _ h2⟩
def PTry : VP := PT [PEl 200 PInt, PEl 200 PPair]
theorem try_mono2 : ∀ P ∈ [PEl 200 PInt, PEl 200 PPair], Mono P := fun P hP => by
  rcases List.mem_cons.mp hP with rfl | hP
  · exact PEl.mono PInt.mono
  · rcases List.mem_cons.mp hP with rfl | hP
    · exact PEl.mono PPair.mono
    · exact nomatch hP
theorem PTry.mono : Mono PTry := PT.mono try_mono2
theorem x_try {σ : L2.St} {H : Hp} {ta tb : TE} {S : Addr → Prop} {n m : Nat} (s : Sup S H) (ha : XS S ta σ H (PEl n PInt)) (hb : XS S tb σ H (PEl m PPair)) (hn : n ≤ 200) (hm : m ≤ 200) : XS S (tTup (tCons ta (tCons tb tNil))) σ H PTry := xs_tup try_mono2 s (xsa_cons (ha.le hn) (PEl.mono PInt.mono) (xsa_cons (hb.le hm) (PEl.mono PPair.mono) xsa_nil)) (by show 2 ≤ 100000; decide)
theorem x_pair1 {σ : L2.St} {H : Hp} {ta tb : TE} {S : Addr → Prop} {i j : Int} (s : Sup S H) (ha : Ev ta σ H (.int i)) (hb : Ev tb σ H (.int j)) : XS S (tLst (tCons (tTup (tCons ta (tCons tb tNil))) tNil)) σ H (PEl 1 PPair) :=
  xe_lst PPair.mono s (xsa_cons (P := PPair) ((xs_u (eu_tup (ea_cons ha (ea_cons hb ea_nil)) (by show 2 ≤ 100000; decide)) s).imp fun w H1 _ ⟨p, h1, h2⟩ => ⟨p, i, j, h1, h2⟩) PPair.mono xsa_nil) (fun P hP => List.mem_singleton.mp hP) rfl (by decide)
theorem x_ints {σ : L2.St} {H : Hp} {te : TE} {S : Addr → Prop} {rs : List Int} {n : Nat} (s : Sup S H) (h : EvL te σ H (rs.map V.int)) (hn : rs.length ≤ n) : XS S te σ H (PEl n PInt) := xe_el s h (fun v hv H => by
  obtain ⟨i, _, rfl⟩ := List.mem_map.mp hv
  exact ⟨i, rfl⟩) (by rw [List.length_map]; exact hn)
theorem x_nil {σ : L2.St} {H : Hp} {S : Addr → Prop} {Q : VP} (s : Sup S H) : XS S (tLst tNil) σ H (PEl 0 Q) := xe_el s (el_lst ea_nil (by show 0 ≤ 100000; decide)) (fun v hv => nomatch hv) (Nat.le_refl _)
theorem old_ints {H : Hp} {b : Addr} {st : List Int} {n : Nat} (h : H b = some (.lst (st.map V.int))) (hn : st.length ≤ n) : PEl n PInt (.ref b) H := ⟨b, _, rfl, h, by rw [List.length_map]; exact hn, fun v hv => by
  obtain ⟨i, _, rfl⟩ := List.mem_map.mp hv
  exact ⟨i, rfl⟩⟩
theorem old_pairs {H : Hp} {c : Addr} {ts : List V} {fs : List (Int × Int)} {n : Nat} (h : H c = some (.lst ts)) (hp : Prs H ts fs) (hn : fs.length ≤ n) : PEl n PPair (.ref c) H := ⟨c, ts, rfl, h, by rw [hp.1]; exact hn, fun v hv => by
  obtain ⟨T, i, j, rfl, hT⟩ := prs_mem hp hv
  exact ⟨T, i, j, rfl, cut_at (fun z => by rw [z, h] at hT; exact nomatch hT) hT⟩⟩
theorem prs_of {H : Hp} : ∀ {ts : List V}, (∀ v ∈ ts, PPair v H) → ∃ fs : List (Int × Int), Prs H ts fs
  | [], _ => ⟨[], Prs.nil⟩
  | v :: ts, h => by
    obtain ⟨T, i, j, h1, h2⟩ := h v List.mem_cons_self
    obtain ⟨fs, h3, h4⟩ := prs_of (ts := ts) fun v hv => h v (List.mem_cons_of_mem _ hv)
    refine ⟨(i, j) :: fs, by rw [List.length_cons, List.length_cons, h3], fun n p hp => ?_⟩
    cases n with
    | zero => cases hp; exact ⟨T, by rw [h1]; rfl, h2⟩
    | succ n => exact h4 n p hp
theorem ints_of {H : Hp} : ∀ {ts : List V}, (∀ v ∈ ts, PInt v H) → ∃ rs : List Int, ts = rs.map V.int
  | [], _ => ⟨[], rfl⟩
  | v :: ts, h => by
    obtain ⟨i, h1⟩ := h v List.mem_cons_self
    obtain ⟨rs, h3⟩ := ints_of (H := H) (ts := ts) fun v hv => h v (List.mem_cons_of_mem _ hv)
    exact ⟨i :: rs, by rw [h1, h3]; rfl⟩
def PRd (A : Ad) (st : List Int) (fs : List (Int × Int)) : VP := fun w H => ∃ x l1 l2 ts, w = .ref x ∧ RndAt A H x l1 l2 st ts fs
theorem PRd.mono {A : Ad} {st : List Int} {fs : List (Int × Int)} : Mono (PRd A st fs) := fun v H H' e ⟨x, l1, l2, ts, h1, h2⟩ => ⟨x, l1, l2, ts, h1, h2.ex e⟩
def PIs (st : List Int) : VP := fun w H => ∃ b, w = .ref b ∧ H b = some (.lst (st.map V.int))
def PFs (fs : List (Int × Int)) : VP := fun w H => ∃ (c : Addr) (ts : List V), w = .ref c ∧ H c = some (.lst ts) ∧ Prs H ts fs
theorem PIs.mono {st : List Int} : Mono (PIs st) := fun v H H' e ⟨b, h1, h2⟩ => ⟨b, h1, e _ _ h2⟩
theorem PFs.mono {fs : List (Int × Int)} : Mono (PFs fs) := fun v H H' e ⟨c, ts, h1, h2, h3⟩ => ⟨c, ts, h1, e _ _ h2, h3.ex e⟩
section
variable {K : PySem.W.Frag} {A : Ad} {σ : L2.St} {H : Hp} {E : XK} {ta : TA} {te tr t1 t2 : TE} {st rs : List Int} {fs : List (Int × Int)} {S : Addr → Prop}
theorem x_roundX (h : EvXA ta σ H [PIs st, PFs fs]) : EvX (tMake A.Round (sp_Round_init K A) [] E ta) σ H (PRd A st fs) := fun H1 e Q q => h H1 e _ fun vs H2 e2 hvs => by
  obtain ⟨_, _, rfl, ⟨b, rfl, hb⟩, ⟨c, ts, rfl, hc, hp⟩⟩ := hvs.two
  exact er_make (K := K) (A := A) (σ := σ) (E := E) (ta := fun _ H Q => Q [.ref b, .ref c] H) (fun H3 e3 Q' q' => q' H3 (Ex.refl _)) (sq_of hb) (sq_of hc) H2 (Ex.refl _) Q fun x dx l1 l2 H3 _ _ _ _ e3 hx h1 h2 => q _ H3 (e2.trans e3) ⟨x, l1, l2, ts, rfl, ⟨dx, hx⟩, h1, h2, hp.ex e3⟩
theorem ev_roundShows (h : EvX te σ H (PRd A st fs)) (hr : EvL tr σ H (rs.map V.int)) (hl : rs.length ≤ 1000) (hs : st.length ≤ 9000) (hf : fs.length ≤ 9000) : Ev (tMeth A.Round "shows" (sp_Round_shows K A) [] E te (tCons tr tNil)) σ H (.bl (showsV rs st fs)) :=
  ev_methX PRd.mono h (fun w H1 e hw => by
    obtain ⟨x, l1, l2, ts, rfl, r⟩ := hw
    obtain ⟨dx, ho⟩ := r.ob
    exact ⟨x, dx, _, rfl, ho, rf_no (by decide +kernel) (by decide +kernel) l1 l2⟩) (xa_cons (x_row (K := K) hr) PRow.mono xa_nil) fun w vs H1 e hw hvs => by
    obtain ⟨x, l1, l2, ts, rfl, r⟩ := hw
    obtain ⟨_, rfl, ⟨b, rfl, hb⟩⟩ := hvs.one
    exact v_Round_shows r hb hl (by omega) (by omega)
theorem xs_is (s : Sup S H) (h : EvL te σ H (st.map V.int)) : XS S te σ H (PIs st) := xs_l h s
theorem xs_fs0 (s : Sup S H) : XS S (tLst tNil) σ H (PFs []) := (xs_l (el_lst ea_nil (by show 0 ≤ 100000; decide)) s).imp fun w H1 _ ⟨p, h1, h2⟩ => ⟨p, [], h1, h2, Prs.nil⟩
theorem xs_fs1 {i j : Int} (s : Sup S H) (h1 : Ev t1 σ H (.int i)) (h2 : Ev t2 σ H (.int j)) : XS S (tLst (tCons (tTup (tCons t1 (tCons t2 tNil))) tNil)) σ H (PFs [(i, j)]) :=
  (xs_lst (Ps := [fun w H1 => ∃ p, w = .ref p ∧ H1 p = some (.tup [.int i, .int j])]) (fun P hP => by
    rw [List.mem_singleton.mp hP]
    exact fun v H H' e ⟨p, h1, h2⟩ => ⟨p, h1, e _ _ h2⟩) s (xsa_cons (xs_u (eu_tup (ea_cons h1 (ea_cons h2 ea_nil)) (by show 2 ≤ 100000; decide)) s) (fun v H H' e ⟨p, h1, h2⟩ => ⟨p, h1, e _ _ h2⟩) xsa_nil) (by show 1 ≤ 100000; decide)).imp fun w H1 _ ⟨p, vs, h1, h2, h3⟩ => by
    obtain ⟨_, rfl, T, rfl, hT⟩ := h3.one
    exact ⟨p, _, h1, h2, Prs.snoc (p := (i, j)) Prs.nil hT⟩
/-- stay and falls that are not those of [1, 0] -/
def PBad : VP := fun w H => ∃ (st : List Int) (fs : List (Int × Int)), PT [PIs st, PFs fs] w H ∧ st.length ≤ 9000 ∧ fs.length ≤ 9000 ∧ showsV [1, 0] st fs = false
theorem isfs_mono : ∀ P ∈ [PIs st, PFs fs], Mono P := fun P hP => by
  rcases List.mem_cons.mp hP with rfl | hP
  · exact PIs.mono
  · rw [List.mem_singleton.mp hP]
    exact PFs.mono
theorem PBad.mono : Mono PBad := fun v H H' e ⟨st, fs, h1, h2⟩ => ⟨st, fs, PT.mono isfs_mono _ _ _ e h1, h2⟩
theorem x_bad (s : Sup S H) (h1 : XS S t1 σ H (PIs st)) (h2 : XS S t2 σ H (PFs fs)) (hs : st.length ≤ 9000) (hf : fs.length ≤ 9000) (hb : showsV [1, 0] st fs = false) : XS S (tTup (tCons t1 (tCons t2 tNil))) σ H PBad :=
  (xs_tup isfs_mono s (xsa_cons h1 PIs.mono (xsa_cons h2 PFs.mono xsa_nil)) (by show 2 ≤ 100000; decide)).imp fun w H1 _ h => ⟨st, fs, h, hs, hf, hb⟩
end
theorem s_pop {K : PySem.W.Frag} {σ : L2.St} {H : Hp} {te : TE} {D : Ends} {l : Addr} {xs : List V} {y : V} (h : Ev te σ H (.ref l)) (hl : H l = some (.lst xs)) (hy : xs[xs.length - 1]? = some y) (k : ∀ H1, Ex H H1 → D.nx σ (upd H1 l (.lst xs.dropLast))) : tDrop (tBM0 K "list" rPop te) D σ H := h H (Ex.refl H) _ fun H1 e => ⟨.inl ⟨rfl, xs, sq_of (e _ _ hl)⟩, l, xs, y, rfl, rfl, e _ _ hl, hy, k H1 e⟩
theorem s_setLU {σ : L2.St} {H : Hp} {te ta tb : TE} {D : Ends} {l : Addr} {xs ys : List V} {j : Nat} (hl : H l = some (.lst xs)) (h : EvU te σ H ys) (ho : Ev ta σ H (.ref l)) (hi : Ev tb σ H (.int (j : Int))) (hj : j < xs.length) (k : ∀ p H1, H p = none → Ex H H1 → H1 p = some (.tup ys) → D.nx σ (upd H1 l (.lst (xs.set j (.ref p))))) :
    tAsg te (gSub ta tb rSetL) D σ H := h H (Ex.refl H) _ fun p H1 hp e1 h1 => ho H1 e1 _ fun H2 e2 => hi H2 (e1.trans e2) _ fun H3 e3 =>
  ⟨l, xs, (j : Int), j, rfl, rfl, ((e1.trans e2).trans e3) l _ hl, ixN_nat hj, k p H3 hp ((e1.trans e2).trans e3) (e3 _ _ (e2 _ _ h1))⟩
/-- sorting that can be run -/
def insI (z : Int) : List Int → List Int
  | [] => [z]
  | x :: r => if z ≤ x then z :: x :: r else x :: insI z r
def runS : List Int → List Int
  | [] => []
  | x :: r => insI x (runS r)
theorem insI_perm (z : Int) : ∀ xs : List Int, (insI z xs).Perm (z :: xs)
  | [] => .refl _
  | x :: r => by
    unfold insI
    split
    · exact .refl _
    · exact (List.Perm.cons x (insI_perm z r)).trans (List.Perm.swap z x r)
theorem runS_perm : ∀ xs : List Int, (runS xs).Perm xs
  | [] => .refl _
  | x :: r => (insI_perm x _).trans (List.Perm.cons x (runS_perm r))
theorem insI_sorted (z : Int) : ∀ {xs : List Int}, xs.Pairwise (· ≤ ·) → (insI z xs).Pairwise (· ≤ ·)
  | [], _ => List.pairwise_singleton _ _
  | x :: r, h => by
    obtain ⟨h1, h2⟩ := List.pairwise_cons.mp h
    unfold insI
    split
    · rename_i hz
      exact List.pairwise_cons.mpr ⟨fun y hy => by
        rcases List.mem_cons.mp hy with rfl | hy
        · exact hz
        · exact Int.le_trans hz (h1 y hy), h⟩
    · rename_i hz
      refine List.pairwise_cons.mpr ⟨fun y hy => ?_, insI_sorted z h2⟩
      rcases List.mem_cons.mp ((insI_perm z r).mem_iff.mp hy) with rfl | hy
      · omega
      · exact h1 y hy
theorem runS_sorted : ∀ xs : List Int, (runS xs).Pairwise (· ≤ ·)
  | [] => .nil
  | x :: r => insI_sorted x (runS_sorted r)
theorem isort_run (xs : List Int) : isort xs = runS xs := sorted_eq ((isort_perm xs).trans (runS_perm xs).symm) (isort_sorted xs) (runS_sorted xs)
def showsW (rs st : List Int) (fs : List (Int × Int)) : Bool :=
  decide (runS (st ++ fs.map Prod.fst) = rangeI rs.length) && decide (st = runS st) && st.all (stT rs) && fs.all (fun p => decide (1 ≤ p.2) && decide (p.2 ≤ rs.length)) && fs.all (fun p => decide (((rot rs p.1.toNat).take p.2.toNat).sum ≤ 0))
theorem shows_run (rs st : List Int) (fs : List (Int × Int)) : showsV rs st fs = showsW rs st fs := by
  unfold showsV showsW
  rw [isort_run, isort_run]
theorem RndAt.put {A : Ad} {H : Hp} {x l1 l2 : Addr} {st : List Int} {ts ts' : List V} {fs fs' : List (Int × Int)} (r : RndAt A H x l1 l2 st ts fs) (n : l1 ≠ l2) (h : Prs H ts' fs') : RndAt A (upd H l2 (.lst ts')) x l1 l2 st ts' fs' := by
  obtain ⟨dx, ho⟩ := r.ob
  refine ⟨⟨dx, ?_⟩, ?_, upd_same, Prs.upd r.h2 h⟩
  · rw [upd_ne (ne_of ho r.h2 (by intro z; cases z))]
    exact ho
  · rw [upd_ne n]
    exact r.h1
def sp_k02_built (K : PySem.W.Frag) (A : Ad) : Sp := fun vs H Q _ => ∃ (a b c : Addr) (rs st : List Int) (ts : List V) (fs : List (Int × Int)), vs = [.ref a, .ref b, .ref c] ∧ SqL K H a (rs.map V.int) ∧ rs.length ≤ 1000 ∧ H b = some (.lst (st.map V.int)) ∧ H c = some (.lst ts) ∧ Prs H ts fs ∧ st.length ≤ 9000 ∧ fs.length ≤ 9000 ∧ RetV (.bl true) H Q
theorem v_k02_built {K : PySem.W.Frag} {A : Ad} {H : Hp} {a b c : Addr} {rs st : List Int} {ts : List V} {fs : List (Int × Int)} (h : SqL K H a (rs.map V.int)) (hl : rs.length ≤ 1000) (h1 : H b = some (.lst (st.map V.int))) (h2 : H c = some (.lst ts)) (hp : Prs H ts fs) (hs : st.length ≤ 9000) (hf : fs.length ≤ 9000) : SpV (sp_k02_built K A) [.ref a, .ref b, .ref c] H (.bl true) := fun H1 e Q q E => ⟨a, b, c, rs, st, ts, fs, rfl, ex_l e h, hl, e _ _ h1, e _ _ h2, hp.ex e, hs, hf, q⟩
def sp_k02_tries (K : PySem.W.Frag) : Sp := fun vs H Q _ => ∃ (a b c : Addr) (rs st : List Int) (ts : List V) (fs : List (Int × Int)) (at' : Int), vs = [.ref a, .ref b, .ref c, .int at'] ∧ SqL K H a (rs.map V.int) ∧ rs.length ≤ 60 ∧ H b = some (.lst (st.map V.int)) ∧ H c = some (.lst ts) ∧ Prs H ts fs ∧ st.length ≤ 60 ∧ fs.length ≤ 60 ∧ 0 ≤ at' ∧ ∀ w H2, Ex H H2 → PEl 100 PTry w H2 → Q w H2
def sp_unlike (K : PySem.W.Frag) : Sp := fun vs H Q _ => ∃ (a : Addr) (rs : List Int), vs = [.ref a] ∧ SqL K H a (rs.map V.int) ∧ Row rs ∧ RetU [.int (wide rs : Int), .int (ups rs : Int)] H Q
theorem v_unlike {K : PySem.W.Frag} {H : Hp} {a : Addr} {rs : List Int} (h : SqL K H a (rs.map V.int)) (R : Row rs) : SpU (sp_unlike K) [.ref a] H [.int (wide rs : Int), .int (ups rs : Int)] := fun H1 e Q q E => ⟨a, rs, rfl, ex_l e h, R, q⟩
theorem given_widths (rs : List Int) : given rs.length (fun i => per rs (i + 1)) (fun i => V.int (1 + (i : Int))) = (widths rs).map vn := by
  unfold given widths
  rw [List.filter_map, List.map_map]
  apply List.map_congr_left
  intro i _
  show V.int (1 + (i : Int)) = V.int ((i + 1 : Nat) : Int)
  congr 1
  omega
theorem at_wide {rs : List Int} (h : 1 ≤ rs.length) : atI ((widths rs).map vn) 0 = some (vn (wide rs)) := by
  have hne := widths_ne h
  unfold wide
  cases e : widths rs with
  | nil => exact absurd e hne
  | cons w r => exact atI_nat (j := 0) rfl
def sp_k05_due (K : PySem.W.Frag) : Sp := fun vs H Q _ => ∃ (a : Addr) (rs : List Int), vs = [.ref a] ∧ SqL K H a (rs.map V.int) ∧ 1 ≤ rs.length ∧ rs.length ≤ 1000 ∧ RetU [.int (wide rs : Int), .int (ups rs : Int)] H Q
theorem v_k05_due {K : PySem.W.Frag} {H : Hp} {a : Addr} {rs : List Int} (h : SqL K H a (rs.map V.int)) (h1 : 1 ≤ rs.length) (h2 : rs.length ≤ 1000) : SpU (sp_k05_due K) [.ref a] H [.int (wide rs : Int), .int (ups rs : Int)] := fun H1 e Q q E => ⟨a, rs, rfl, ex_l e h, h1, h2, q⟩
/-- rows, each a list of its own, none of them l -/
def RowsAt (l : Addr) (H : Hp) (vs : List V) (rows : List (List Int)) : Prop := vs.length = rows.length ∧ ∀ (i : Nat) (r : List Int), rows[i]? = some r → ∃ b, vs[i]? = some (.ref b) ∧ H b = some (.lst (r.map V.int)) ∧ b ≠ l
theorem RowsAt.ex {l : Addr} {H H' : Hp} {vs : List V} {rows : List (List Int)} (e : Ex H H') (h : RowsAt l H vs rows) : RowsAt l H' vs rows := ⟨h.1, fun i r hi => by
  obtain ⟨b, h1, h2, h3⟩ := h.2 i r hi
  exact ⟨b, h1, e _ _ h2, h3⟩⟩
theorem RowsAt.upd {l : Addr} {H : Hp} {o : HO} {vs : List V} {rows : List (List Int)} (h : RowsAt l H vs rows) : RowsAt l (upd H l o) vs rows := ⟨h.1, fun i r hi => by
  obtain ⟨b, h1, h2, h3⟩ := h.2 i r hi
  exact ⟨b, h1, by rw [upd_ne h3]; exact h2, h3⟩⟩
theorem RowsAt.nil {l : Addr} {H : Hp} : RowsAt l H [] [] := ⟨rfl, fun i r hi => by cases hi⟩
theorem RowsAt.snoc {l b : Addr} {H : Hp} {vs : List V} {rows : List (List Int)} {r : List Int} (h : RowsAt l H vs rows) (hb : H b = some (.lst (r.map V.int))) (hbl : b ≠ l) : RowsAt l H (vs ++ [.ref b]) (rows ++ [r]) := by
  refine ⟨by rw [List.length_append, List.length_append, h.1]; rfl, fun i q hq => ?_⟩
  by_cases hi : i < rows.length
  · rw [List.getElem?_append_left hi] at hq
    obtain ⟨b', h1, h2, h3⟩ := h.2 i q hq
    exact ⟨b', by rw [List.getElem?_append_left (by rw [h.1]; exact hi)]; exact h1, h2, h3⟩
  · have hlen := (List.getElem?_eq_some_iff.mp hq).1
    rw [List.length_append, List.length_singleton] at hlen
    have : i = rows.length := by omega
    subst this
    rw [List.getElem?_append_right (Nat.le_refl _), Nat.sub_self] at hq
    cases hq
    refine ⟨b, ?_, hb, hbl⟩
    rw [← h.1, List.getElem?_append_right (Nat.le_refl _), Nat.sub_self]
    rfl
theorem dpall_at {K : PySem.W.Frag} {H : Hp} : ∀ {vs : List V} {ds : List PyData}, vs.length = ds.length → (∀ (i : Nat) (v : V) (d : PyData), vs[i]? = some v → ds[i]? = some d → Dp K H v d) → DpAll K H vs ds
  | [], [], _, _ => .nil
  | v :: vs, d :: ds, hl, h => .cons (h 0 v d rfl rfl) (dpall_at (by simpa using hl) fun i v' d' h1 h2 => h (i + 1) v' d' h1 h2)
  | [], _ :: _, hl, _ => by simp at hl
  | _ :: _, [], hl, _ => by simp at hl
theorem RowsAt.dp {K : PySem.W.Frag} {l : Addr} {H : Hp} {vs : List V} {rows : List (List Int)} (h : RowsAt l H vs rows) : DpAll K H vs (rows.map fun r => PyData.list (r.map PyData.int)) := dpall_at (by rw [List.length_map]; exact h.1) fun i v d h1 h2 => by
  rw [List.getElem?_map] at h2
  obtain ⟨r, hr, rfl⟩ := Option.map_eq_some_iff.mp h2
  obtain ⟨b, h3, h4, _⟩ := h.2 i r hr
  rw [h1] at h3
  cases h3
  exact dp_ints (sq_of h4)
theorem RowsAt.zip {l : Addr} {H : Hp} {vs : List V} {rows : List (List Int)} (h : RowsAt l H vs rows) {v : V} {r : List Int} (hm : (v, r) ∈ vs.zip rows) : ∃ b, v = .ref b ∧ H b = some (.lst (r.map V.int)) := by
  obtain ⟨i, hi, e⟩ := List.mem_iff_getElem.mp hm
  rw [List.getElem_zip] at e
  injection e with e1 e2
  have hi' : i < rows.length := by
    rw [List.length_zip] at hi
    omega
  obtain ⟨b, h1, h2, _⟩ := h.2 i rows[i] (List.getElem?_eq_getElem hi')
  have hiv : i < vs.length := by rw [h.1]; exact hi'
  rw [List.getElem?_eq_getElem hiv, e1] at h1
  cases h1
  rw [e2] at h2
  exact ⟨b, rfl, h2⟩
theorem Row.mul {rs : List Int} {k : Nat} (h1 : 1 ≤ rs.length) (h2 : rs.length ≤ 12) (hs : ∀ s ∈ rs, -4 ≤ s ∧ s ≤ 1) (hk : 1 ≤ k) (hk5 : k ≤ 5) : Row (List.replicate k rs).flatten := by
  have hl : (List.replicate k rs).flatten.length = k * rs.length := by simp
  refine ⟨?_, ?_, fun s h => ?_⟩
  · rw [hl]
    exact Nat.mul_pos hk h1
  · rw [hl]
    have := Nat.mul_le_mul hk5 h2
    omega
  · obtain ⟨l, hl', hs'⟩ := List.mem_flatten.mp h
    rw [List.eq_of_mem_replicate hl'] at hs'
    exact hs s hs'
theorem map_flat (rs : List Int) (k : Nat) : (List.replicate k (rs.map V.int)).flatten = (List.replicate k rs).flatten.map V.int := by
  rw [List.map_flatten, List.map_replicate]
theorem el_repV {K : PySem.W.Frag} {σ : L2.St} {H : Hp} {ta tb : TE} {a : Addr} {rs : List Int} {k : Int} (h : Ev ta σ H (.ref a)) (ha : H a = some (.lst (rs.map V.int))) (hb : Ev tb σ H (.int k)) (h0 : 0 ≤ k) (hk : k ≤ 100) (hl : rs.length ≤ 100) : EvL (tOp rRep ta tb) σ H ((List.replicate k.toNat rs).flatten.map V.int) := by
  rw [← map_flat]
  exact fun H1 e Q q => h H1 e _ fun H2 e2 => hb H2 (e.trans e2) _ fun H3 e3 => ⟨a, k, _, rfl, rfl, e3 _ _ (e2 _ _ (e _ _ ha)), by omega, by omega, sz_of (by
    rw [List.length_map]
    have := Nat.mul_le_mul hl (show k.toNat ≤ 100 by omega)
    omega), fun p hp => q p _ (fresh_back (e2.trans e3) hp) ((e2.trans e3).trans (Ex.new hp)) upd_same⟩
theorem wide_ups {rs : List Int} (R : Row rs) : (rs.length : Int) / (wide rs : Int) * (ups rs : Int) = if rs.sum > 0 then rs.sum else 0 := by
  have h1 := ups_times R.pos
  have h2 := stayOf_len (fun s hs => (R.stp s hs).2)
  rw [h2] at h1
  have h3 : (rs.length : Int) / (wide rs : Int) * (ups rs : Int) = ((rs.length / wide rs * ups rs : Nat) : Int) := by
    rw [Int.natCast_mul, Int.natCast_ediv]
  rw [h3, h1]
  split <;> omega
def rowB (rs : List Int) : Bool := decide (1 ≤ rs.length) && decide (rs.length ≤ 60) && rs.all fun s => decide (-4 ≤ s) && decide (s ≤ 1)
theorem rowB_ok {rs : List Int} (h : rowB rs = true) : Row rs := by
  unfold rowB at h
  rw [Bool.and_eq_true, Bool.and_eq_true, decide_eq_true_eq, decide_eq_true_eq, List.all_eq_true] at h
  refine ⟨h.1.1, h.1.2, fun s hs => ?_⟩
  have := h.2 s hs
  rw [Bool.and_eq_true, decide_eq_true_eq, decide_eq_true_eq] at this
  exact this
theorem el_repN {σ : L2.St} {H : Hp} {ta tb : TE} {rs : List Int} {k : Nat} (h : EvL ta σ H (rs.map V.int)) (hb : Ev tb σ H (.int (k : Int))) (hk : k ≤ 100) (hl : rs.length ≤ 100) : EvL (tOp rRep ta tb) σ H ((List.replicate k rs).flatten.map V.int) := by
  rw [← map_flat]
  have q := el_repL (k := (k : Int)) h hb (by omega) (by
    rw [List.length_map, Int.toNat_natCast]
    have := Nat.mul_le_mul hl hk
    omega)
  rw [Int.toNat_natCast] at q
  exact q
theorem el_catI {σ : L2.St} {H : Hp} {ta tb : TE} {rs qs : List Int} (h : EvL ta σ H (rs.map V.int)) (h2 : EvL tb σ H (qs.map V.int)) (hl : rs.length ≤ 1000) (hl2 : qs.length ≤ 1000) : EvL (tOp rCat ta tb) σ H ((rs ++ qs).map V.int) := by
  rw [List.map_append]
  exact el_catLL h h2 (by rw [List.length_map, List.length_map]; omega)
theorem ed_unlike {K : PySem.W.Frag} {σ : L2.St} {H : Hp} {E : XK} {ta : TE} {rs : List Int} {w u : Nat} (h : EvL ta σ H (rs.map V.int)) (hr : rowB rs = true) (hw : (wide rs, ups rs) = (w, u)) : EvD K (tCall (sp_unlike K) [] E (tCons ta tNil)) σ H (.tuple [.int (w : Int), .int (u : Int)]) := by
  injection hw with h1 h2
  subst h1
  subst h2
  exact ed_pair (eu_callL h fun p H1 e hp => v_unlike (sq_of hp) (rowB_ok hr))
theorem ed_two {K : PySem.W.Frag} {σ : L2.St} {H : Hp} {ta tb : TE} {i j : Int} (h : Ev ta σ H (.int i)) (h2 : Ev tb σ H (.int j)) : EvD K (tTup (tCons ta (tCons tb tNil))) σ H (.tuple [.int i, .int j]) := ed_pair (eu_tup (ea_cons h (ea_cons h2 ea_nil)) (by show 2 ≤ 100000; decide))
def sp_k04_long (K : PySem.W.Frag) : Sp := fun vs H Q _ => ∃ (a : Addr) (ns : List Int) (b : Int), vs = [.ref a, .int b] ∧ SqL K H a (ns.map V.int) ∧ 0 ≤ b ∧ b ≤ 100 ∧
  ∀ (rs : List Int) (p : Addr) (H2 : Hp), Row rs → rs.length = 60 → 1 ≤ rs.sum → H p = none → Ex H H2 → H2 p = some (.lst (rs.map V.int)) → Q (.ref p) H2
def sp_k04_last (K : PySem.W.Frag) : Sp := fun vs H Q _ => ∃ (a : Addr) (rs : List Int), vs = [.ref a] ∧ H a = some (.lst (rs.map V.int)) ∧ rs.length ≤ 100 ∧ RetL ((stayI rs).map V.int) H Q
theorem v_k04_last {K : PySem.W.Frag} {H : Hp} {a : Addr} {rs : List Int} (h : H a = some (.lst (rs.map V.int))) (hl : rs.length ≤ 100) : SpL (sp_k04_last K) [.ref a] H ((stayI rs).map V.int) := fun H1 e Q q E => ⟨a, rs, rfl, e _ _ h, hl, q⟩
theorem s_par3LVL {K : PySem.W.Frag} {σ : L2.St} {H : Hp} {ta tb tc : TE} {D : Ends} {i j l : Nat} {xs zs : List V} {v : V} (h1 : EvL ta σ H xs) (h2 : Ev tb σ H v) (h3 : EvL tc σ H zs) (k : ∀ p p3 H1, H p = none → H p3 = none → p ≠ p3 → Ex H H1 → H1 p = some (.lst xs) → H1 p3 = some (.lst zs) → D.nx (((σ.set i (some (.ref p))).set j (some v)).set l (some (.ref p3))) H1) : tPar3 i j l (tCons ta (tCons tb (tCons tc tNil))) D σ H :=
  h1 H (Ex.refl H) _ fun p H1 hp e1 hh1 => h2 H1 e1 _ fun H2 e2 => h3 H2 (e1.trans e2) _ fun p3 H3 hp3 e3 hh3 => ⟨.ref p, v, .ref p3, rfl, k p p3 H3 hp (fresh_back (e1.trans e2) hp3) (ne_of_none (e2 _ _ hh1) hp3) (e1.trans (e2.trans e3)) (e3 _ _ (e2 _ _ hh1)) hh3⟩
/-- steps that fall, put behind one another -/
structure Lng (rs : List Int) (fell : Int) : Prop where
  stp : ∀ s ∈ rs, -4 ≤ s ∧ s ≤ 1
  sum : rs.sum = (rs.length : Int) - fell
  len : (rs.length : Int) ≤ fell
theorem Lng.snoc {rs : List Int} {f s : Int} (h : Lng rs f) (h1 : 1 ≤ s) (h5 : s ≤ 5) : Lng (rs ++ [1 - s]) (f + s) := by
  have := h.sum
  have := h.len
  refine ⟨fun x hx => ?_, ?_, ?_⟩
  · rcases List.mem_append.mp hx with hx | hx
    · exact h.stp x hx
    · rw [List.mem_singleton] at hx
      omega
  · rw [List.sum_append, List.length_append]
    simp
    omega
  · rw [List.length_append]
    simp
    omega
/-- ones put in -/
structure Ins (rs0 rs : List Int) (i : Nat) : Prop where
  stp : ∀ s ∈ rs, -4 ≤ s ∧ s ≤ 1
  sum : rs.sum = rs0.sum + (i : Int)
  len : rs.length = rs0.length + i
theorem Ins.more {rs0 rs : List Int} {i n : Nat} (h : Ins rs0 rs i) : Ins rs0 (rs.take n ++ [1] ++ rs.drop n) (i + 1) := by
  have hs := h.sum
  have hl := h.len
  refine ⟨fun x hx => ?_, ?_, ?_⟩
  · rcases List.mem_append.mp hx with hx | hx
    · rcases List.mem_append.mp hx with hx | hx
      · exact h.stp x (List.mem_of_mem_take hx)
      · rw [List.mem_singleton] at hx
        omega
    · exact h.stp x (List.mem_of_mem_drop hx)
  · have e := congrArg List.sum (List.take_append_drop n rs)
    rw [List.sum_append] at e
    rw [List.sum_append, List.sum_append]
    simp
    omega
  · simp
    omega
theorem set_cut {rs : List Int} {j : Nat} {y : Int} (hj : j < rs.length) : (rs.map V.int).take j ++ [V.int y] ++ (rs.map V.int).drop (j + 1) = (rs.set j y).map V.int := by
  rw [List.map_set, List.set_eq_take_append_cons_drop, if_pos (by rw [List.length_map]; exact hj), List.append_assoc]
  rfl
theorem rgS_eq : rgS 0 3 20 = (((List.range 20).map fun i : Nat => 3 * (i : Int))).map V.int := by decide +kernel
theorem el_range3 {σ : L2.St} {H : Hp} : EvL (tLstRg3 (tC (.int 0)) (tC (.int 60)) (tC (.int 3))) σ H (((List.range 20).map fun i : Nat => 3 * (i : Int)).map V.int) := fun H1 e Q q =>
  ⟨0, 60, 3, 20, rfl, rfl, rfl, ⟨by decide, by decide, by decide +kernel, by decide +kernel⟩, by decide, fun p hp => by
    rw [rgS_eq]
    exact q p _ hp (Ex.new hp) upd_same⟩
def sp_l_orders (K : PySem.W.Frag) : Sp := sp_turns_of K
theorem v_l_orders {K : PySem.W.Frag} {H : Hp} {a : Addr} {cs : List Nat} (h : SqL K H a (cs.map vn)) (h6 : cs.sum ≤ 1000) : SpV (sp_l_orders K) [.ref a] H (.int (mu 0 cs : Int)) := v_turns_of h h6
def sp_k07_due (K : PySem.W.Frag) : Sp := sp_how_many K
theorem v_k07_due {K : PySem.W.Frag} {H : Hp} {a : Addr} {cs : List Nat} (h : SqL K H a (cs.map vn)) (h6 : cs.length = 6) (h1 : 1 ≤ cs.sum) (h60 : cs.sum ≤ 60) : SpV (sp_k07_due K) [.ref a] H (.int (howMany cs)) := v_how_many h h6 h1 h60
theorem mu_step1 (F m j : Nat) : ((F * ch (m + j) j : Nat) : Int) * ((m + j + 1 : Nat) : Int) / (1 + (j : Int)) = ((F * ch (m + (j + 1)) (j + 1) : Nat) : Int) := by
  rw [Int.add_comm, mu_step]
theorem mu_eq (cs : List Nat) : mu 0 cs = fact cs.sum / pf cs := by
  rw [← mu_pf cs, Nat.mul_div_cancel _ (pf_pos cs)]
/-- what is told of counts written out -/
theorem hm_known (cs : List Nat) (z : Int) (h : (if 0 < ht cs then ht cs else 0) * ((fact cs.sum / pf cs : Nat) : Int) / (cs.sum : Int) = z) : howMany cs = z := by
  unfold howMany
  rw [mu_eq, h]
def sp_law (K : PySem.W.Frag) : Sp := fun vs H Q _ => ∃ (a : Addr) (ns : List Int), vs = [.ref a] ∧ SqL K H a (ns.map V.int) ∧ ns.length ≤ 63 ∧ ∀ H', Q (.bl true) H'
/-- the first five counts as they are drawn -/
def k07lim : List Nat := [4, 5, 6, 8, 12]
structure K07 (cs : List Nat) : Prop where
  len : cs.length = 6
  low : ∀ j, j < 5 → cs.getD j 0 < k07lim.getD j 0
  last : cs.getD 5 0 = 0
theorem K07.sum {cs : List Nat} (h : K07 cs) : cs.sum ≤ 30 := by
  obtain ⟨a, b, c, d, e, f, rfl⟩ := six h.len
  have h0 : a < 4 := h.low 0 (by decide)
  have h1 : b < 5 := h.low 1 (by decide)
  have h2 : c < 6 := h.low 2 (by decide)
  have h3 : d < 8 := h.low 3 (by decide)
  have h4 : e < 12 := h.low 4 (by decide)
  have h5 : f = 0 := h.last
  simp
  omega
theorem K07.set {cs : List Nat} (h : K07 cs) {j x : Nat} (hj : j < 5) (hx : x < k07lim.getD j 0) : K07 (cs.set j x) := by
  obtain ⟨a, b, c, d, e, f, rfl⟩ := six h.len
  refine ⟨by simp, fun i hi => ?_, ?_⟩
  · by_cases hij : i = j
    · subst hij
      have : i < 6 := by omega
      rw [List.getD_eq_getElem?_getD, List.getElem?_set_self (by simpa using this)]
      exact hx
    · rw [List.getD_eq_getElem?_getD, List.getElem?_set_ne (Ne.symm hij), ← List.getD_eq_getElem?_getD]
      exact h.low i hi
  · rw [List.getD_eq_getElem?_getD, List.getElem?_set_ne (by omega), ← List.getD_eq_getElem?_getD]
    exact h.last
theorem set_vn {cs : List Nat} {j : Nat} {z : Int} (h : 0 ≤ z) : (cs.map vn).set j (.int z) = (cs.set j z.toNat).map vn := by
  rw [List.map_set]
  congr 1
  show V.int z = V.int ((z.toNat : Nat) : Int)
  congr 1
  omega
theorem set5_sum {cs : List Nat} (h : K07 cs) (x : Nat) : (cs.set 5 x).sum = cs.sum + x ∧ (cs.set 5 x).length = 6 := by
  obtain ⟨a, b, c, d, e, f, rfl⟩ := six h.len
  have h5 : f = 0 := h.last
  simp
  omega
theorem getD_vn {cs : List Nat} {j : Nat} (h : j < cs.length) : (cs.map vn)[j]? = some (vn (cs.getD j 0)) := by
  rw [List.getElem?_map, List.getElem?_eq_getElem h, List.getD_eq_getElem?_getD, List.getElem?_eq_getElem h]
  rfl
theorem atI_vn {cs : List Nat} {i : Int} (h0 : 0 ≤ i) (h : i < cs.length) : atI (cs.map vn) i = some (vn (cs.getD i.toNat 0)) := by
  unfold atI ixN
  rw [if_pos h0, List.length_map, if_pos h]
  exact getD_vn (by omega)
/-- counts with one fewer at a place, as the list is put together -/
theorem fewer_eq {cs : List Nat} {j : Nat} (hj : j < cs.length) (h : 0 < cs.getD j 0) : (cs.map vn).take j ++ [V.int ((cs.getD j 0 : Int) - 1)] ++ (cs.map vn).drop (j + 1) = (less cs j).map vn := by
  unfold less
  rw [List.map_set, List.set_eq_take_append_cons_drop, if_pos (by rw [List.length_map]; exact hj), List.append_assoc]
  congr 1
  show V.int _ :: _ = V.int _ :: _
  congr 2
  omega
def lastS (cs : List Nat) : Nat → Int
  | 0 => 0
  | j + 1 => lastS cs j + lastW cs j
theorem lastS_six (cs : List Nat) : lastS cs 6 = lastW cs 0 + lastW cs 1 + lastW cs 2 + lastW cs 3 + lastW cs 4 + lastW cs 5 := by
  simp [lastS]
theorem htF_idxC (cs : List Nat) (f : Nat → Nat → Int) (h : ∀ i c, f i c = (-4 + (i : Int)) * (c : Int)) : (cs.mapIdx f).sum = ht cs := by
  show _ = htF (-4) cs
  rw [← htF_idx cs (-4)]
  congr 1
  exact List.mapIdx_eq_mapIdx_iff.mpr (fun i hi => h i _)
theorem idx_nonneg (cs : List Nat) (f : Nat → Nat → Int) (h : ∀ i c, i < 5 → 0 ≤ f i c) (hl : cs.length ≤ 5) : 0 ≤ (cs.mapIdx f).sum := by
  have key : ∀ l : List Int, (∀ x ∈ l, 0 ≤ x) → 0 ≤ l.sum := by
    intro l
    induction l with
    | nil => intro _; exact Int.le_refl _
    | cons x l ih =>
      intro hx
      rw [List.sum_cons]
      have h1 := hx x List.mem_cons_self
      have h2 := ih (fun y hy => hx y (List.mem_cons_of_mem _ hy))
      omega
  apply key
  intro x hx
  rw [List.mem_mapIdx] at hx
  obtain ⟨i, hi, rfl⟩ := hx
  exact h i _ (by omega)
theorem ev_hm {K : PySem.W.Frag} {σ : L2.St} {H : Hp} {ta : TE} {E : XK} {xs : List V} (cs : List Nat) (z : Int) (h : EvL ta σ H xs) (hx : xs = cs.map vn) (h6 : cs.length = 6) (h1 : 1 ≤ cs.sum) (h60 : cs.sum ≤ 60) (hz : howMany cs = z) : Ev (tCall (sp_how_many K) [] E (tCons ta tNil)) σ H (.int z) := by
  subst hx
  subst hz
  exact ev_callL h fun p H1 e hp => v_how_many (sq_of hp) h6 h1 h60
def k07limI : List Int := [4, 5, 6, 8, 12]
theorem k07limI_ok {j : Nat} (h : j < 5) : (k07limI.getD j 0) = (k07lim.getD j 0 : Int) ∧ 0 < k07limI.getD j 0 ∧ k07limI.getD j 0 ≤ 12 := by
  revert j
  decide
def sp_k03_due (K : PySem.W.Frag) (A : Ad) : Sp := fun vs H Q _ => ∃ (a x : Addr) (rs : List Int) (t : Int) (o : Option Nat), vs = [.ref a, .int t, .ref x] ∧ SqL K H a (rs.map V.int) ∧ rs.length ≤ 1000 ∧ 0 ≤ t ∧ AnsAt A H x o ∧ RetV (.bl (dueV rs t o)) H Q
theorem v_k03_due {K : PySem.W.Frag} {A : Ad} {H : Hp} {a x : Addr} {rs : List Int} {t : Int} {o : Option Nat} (h : SqL K H a (rs.map V.int)) (hl : rs.length ≤ 1000) (ht : 0 ≤ t) (hx : AnsAt A H x o) : SpV (sp_k03_due K A) [.ref a, .int t, .ref x] H (.bl (dueV rs t o)) := fun H1 e Q q E => ⟨a, x, rs, t, o, rfl, ex_l e h, hl, ht, hx.ex e, q⟩
def sp_k03_right (K : PySem.W.Frag) (A : Ad) : Sp := fun vs H Q _ => ∃ (a l : Addr) (rs : List Int) (t : Int) (os : List (List Int × Int)), vs = [.ref a, .int t, .ref l] ∧ SqL K H a (rs.map V.int) ∧ Row rs ∧ 0 ≤ t ∧ t < rs.length ∧ Oth K H l os ∧ RetV (.bl true) H Q
theorem v_k03_right {K : PySem.W.Frag} {A : Ad} {H : Hp} {a l : Addr} {rs : List Int} {t : Int} {os : List (List Int × Int)} (h : SqL K H a (rs.map V.int)) (R : Row rs) (ht : 0 ≤ t) (ht2 : t < rs.length) (ho : Oth K H l os) : SpV (sp_k03_right K A) [.ref a, .int t, .ref l] H (.bl true) := fun H1 e Q q E => ⟨a, l, rs, t, os, rfl, ex_l e h, R, ht, ht2, ho.mono e, q⟩
theorem set_int (rs : List Int) (j : Nat) (z : Int) : (rs.map V.int).set j (.int z) = (rs.set j z).map V.int := by rw [List.map_set]
theorem Row.set {rs : List Int} (R : Row rs) {j : Nat} {z : Int} (h1 : -4 ≤ z) (h2 : z ≤ 1) : Row (rs.set j z) := by
  refine ⟨by rw [List.length_set]; exact R.pos, by rw [List.length_set]; exact R.len, fun s hs => ?_⟩
  rcases List.mem_or_eq_of_mem_set hs with hs | hs
  · exact R.stp s hs
  · omega
theorem atI_ints' {ns : List Int} {i : Int} (h0 : 0 ≤ i) (h : i < ns.length) : ∃ z, z ∈ ns ∧ atI (ns.map V.int) i = some (.int z) := ⟨_, getD_mem (by omega), atI_ints h0 h⟩
def k03most : List Int := [30, 12, 60]
theorem k03most_ok {j : Nat} (h : j < 3) : 1 ≤ k03most.getD j 0 ∧ k03most.getD j 0 ≤ 60 := by
  revert j
  decide
/-- a row and a turn in a pair -/
def PRP (K : PySem.W.Frag) (r : List Int) (p : Int) : VP := fun w H => ∃ T b, w = .ref T ∧ SqT K H T [.ref b, .int p] ∧ SqL K H b (r.map V.int)
theorem PRP.mono {K : PySem.W.Frag} {r : List Int} {p : Int} : Mono (PRP K r p) := fun v H H' e ⟨T, b, h1, h2, h3⟩ => ⟨T, b, h1, ex_t e h2, ex_l e h3⟩
theorem x_prp {K : PySem.W.Frag} {σ : L2.St} {H : Hp} {ta tb : TE} {a : Addr} {r : List Int} {p : Int} (h : Ev ta σ H (.ref a)) (hs : SqL K H a (r.map V.int)) (hp : Ev tb σ H (.int p)) : EvX (tTup (tCons ta (tCons tb tNil))) σ H (PRP K r p) := by
  refine (x_tup (Ps := [fun w _ => w = .ref a, fun w _ => w = .int p]) (by
    intro P hP
    simp only [List.mem_cons, List.not_mem_nil, or_false] at hP
    rcases hP with rfl | rfl <;> exact xv_mono) (xa_v h (xa_v hp xa_nil)) (by show 2 ≤ 100000; decide)).imp fun w H1 e hw => ?_
  obtain ⟨T, vs, rfl, h1, h2⟩ := hw
  match vs, h2 with
  | [_, _], ⟨rfl, rfl, _⟩ => exact ⟨T, a, rfl, st_of h1, ex_l e hs⟩
theorem x_prpN {K : PySem.W.Frag} {σ : L2.St} {H : Hp} {ta tb : TE} {r : List Int} {p : Int} (h : EvL ta σ H (r.map V.int)) (hp : Ev tb σ H (.int p)) : EvX (tTup (tCons ta (tCons tb tNil))) σ H (PRP K r p) := by
  have m : Mono (fun w H2 => ∃ p, w = V.ref p ∧ H2 p = some (HO.lst (r.map V.int))) := fun v H H' e ⟨p, h1, h2⟩ => ⟨p, h1, e _ _ h2⟩
  refine (x_tup (Ps := [fun w H2 => ∃ p, w = .ref p ∧ H2 p = some (.lst (r.map V.int)), fun w _ => w = .int p]) (by
    intro P hP
    simp only [List.mem_cons, List.not_mem_nil, or_false] at hP
    rcases hP with rfl | rfl
    · exact m
    · exact xv_mono) (xa_cons (xl h) m (xa_v hp xa_nil)) (by show 2 ≤ 100000; decide)).imp fun w H1 e hw => ?_
  obtain ⟨T, vs, rfl, h1, h2⟩ := hw
  match vs, h2 with
  | [_, _], ⟨⟨b, rfl, hb⟩, rfl, _⟩ => exact ⟨T, b, rfl, st_of h1, sq_of hb⟩
theorem Oth.of {K : PySem.W.Frag} {H : Hp} {w : V} {os : List (List Int × Int)} (hok : ∀ rp ∈ os, rp.1.length ≤ 1000 ∧ 0 ≤ rp.2) (h : PL (os.map fun rp => PRP K rp.1 rp.2) w H) : ∃ l, w = .ref l ∧ Oth K H l os := by
  obtain ⟨l, vs, rfl, h1, h2⟩ := h
  have hl := h2.length
  rw [List.length_map] at hl
  refine ⟨l, rfl, ⟨vs, sq_of h1, hl, fun i r p hi => ?_⟩, hok⟩
  obtain ⟨v, hv, T, b, rfl, h3, h4⟩ := h2.get (i := i) (P := PRP K r p) (by rw [List.getElem?_map, hi]; rfl)
  exact ⟨T, b, hv, h3, h4⟩
/-- judged of a written row -/
theorem x_judgedL {K : PySem.W.Frag} {A : Ad} {σ : L2.St} {H : Hp} {E : XK} {ta tb : TE} {rs : List Int} {tt : Int} {o : Option Nat} (h : EvL ta σ H (rs.map V.int)) (h2 : Ev tb σ H (.int tt)) (R : Row rs) (h0 : 0 ≤ tt) (h1 : tt < rs.length) (ho : fallOf (rot rs tt.toNat) = o) :
    EvX (tCall (sp_judged K A) [] E (tCons ta (tCons tb tNil))) σ H (fun w H2 => ∃ x, w = .ref x ∧ AnsAt A H2 x o) := fun H1 e Q q =>
  h H1 e _ fun p H2 hp e2 hh => h2 H2 (e.trans e2) _ fun H3 e3 => ⟨p, rs, tt, rfl, sq_of (e3 _ _ hh), R, h0, h1, fun x H4 hx e4 hA => q _ H4 (e2.trans (e3.trans e4)) ⟨x, rfl, by rw [← ho]; exact hA⟩⟩
theorem ans_mono {A : Ad} {o : Option Nat} : Mono (fun w H2 => ∃ x, w = V.ref x ∧ AnsAt A H2 x o) := fun v H H' e ⟨x, h1, h2⟩ => ⟨x, h1, h2.ex e⟩
theorem el_ints {σ : L2.St} {H : Hp} {t : TA} (ns : List Int) (h : EvA t σ H (ns.map V.int)) (hl : ns.length ≤ 1000) : EvL (tLst t) σ H (ns.map V.int) := el_lst h (by rw [List.length_map]; omega)
theorem ev_isiX {K : PySem.W.Frag} {σ : L2.St} {H : Hp} {ta : TE} {P : VP} {c : V} {b : Bool} (h : EvX ta σ H P) (hr : ∀ w H1, Ex H H1 → P w H1 → RC (rIsi K) [w, c] H1 (.bl b)) : Ev (tCB (rIsi K) (tCons ta (tCons (tC c) tNil))) σ H (.bl b) := fun H1 e Q q =>
  h H1 e _ fun w H2 e2 p => hr w H2 (e.trans e2) p H2 (Ex.refl _) Q fun H3 e3 => q H3 (e2.trans e3)
end TA
namespace TA
open PySem PySem.Spec PyProof.Rows L2 Evl TL
def topS (i : Nat) : Stmt := PySem.Challenge.pw_turnabove_k02_round_by_hand.main.body.getD i (.Pass ⟨0, 0, 0, 0⟩)
structure Txt (K : PySem.W.Frag) (mg : Str → Option Value) (A : Ad) : Prop where
  b_all : mg "all" = none
  b_any : mg "any" = none
  b_bool : mg "bool" = none
  b_enumerate : mg "enumerate" = none
  b_int : mg "int" = none
  b_isinstance : mg "isinstance" = none
  b_len : mg "len" = none
  b_list : mg "list" = none
  b_max : mg "max" = none
  b_min : mg "min" = none
  b_range : mg "range" = none
  b_sorted : mg "sorted" = none
  b_sum : mg "sum" = none
  g_LEAST : ∃ t, mg "LEAST" = some (.int (-4) t)
  g_GREATEST : ∃ t, mg "GREATEST" = some (.int (1) t)
  g_LONGEST : ∃ t, mg "LONGEST" = some (.int (60) t)
  t_Answer : ClT K A.Answer
  t_Round : ClT K A.Round
  n_Round_stay : NoAttr K A.Round "stay"
  n_Round_falls : NoAttr K A.Round "falls"
  t_Stays : ClT K A.Stays
  t_Falls : ClT K A.Falls
  n_Falls_many : NoAttr K A.Falls "many"
  mk_Stays : Mk0 K A.Stays
  s_Round_Answer : PySem.W.subIn K (.ref A.Round) (.ref A.Answer) = some true
  s_Round_Stays : PySem.W.subIn K (.ref A.Round) (.ref A.Stays) = some false
  e_Round_Stays : A.Round ≠ A.Stays
  s_Round_Falls : PySem.W.subIn K (.ref A.Round) (.ref A.Falls) = some false
  e_Round_Falls : A.Round ≠ A.Falls
  s_Stays_Answer : PySem.W.subIn K (.ref A.Stays) (.ref A.Answer) = some true
  s_Stays_Round : PySem.W.subIn K (.ref A.Stays) (.ref A.Round) = some false
  e_Stays_Round : A.Stays ≠ A.Round
  s_Stays_Falls : PySem.W.subIn K (.ref A.Stays) (.ref A.Falls) = some false
  e_Stays_Falls : A.Stays ≠ A.Falls
  s_Falls_Answer : PySem.W.subIn K (.ref A.Falls) (.ref A.Answer) = some true
  s_Falls_Round : PySem.W.subIn K (.ref A.Falls) (.ref A.Round) = some false
  e_Falls_Round : A.Falls ≠ A.Round
  s_Falls_Stays : PySem.W.subIn K (.ref A.Falls) (.ref A.Stays) = some false
  e_Falls_Stays : A.Falls ≠ A.Stays
  g_StepError : mg "StepError" = some (.ref A.StepError)
  g_BadRow : mg "BadRow" = some (.ref A.BadRow)
  g_Answer : mg "Answer" = some (.ref A.Answer)
  g_Round : mg "Round" = some (.ref A.Round)
  g_Stays : mg "Stays" = some (.ref A.Stays)
  g_Falls : mg "Falls" = some (.ref A.Falls)
end TA
namespace TA
open PySem PySem.Spec PyProof.Rows L2 Evl TL
local macro_rules | `(tactic| walk_at "sq") => `(tactic| first | assumption | exact sq_of (by assumption) | exact ex_l (by assumption) (by assumption) | exact ex_l (by assumption) (sq_of (by assumption)))
local macro_rules | `(tactic| walk_at "at") => `(tactic| first | assumption | (apply_assumption; assumption))
local macro_rules | `(tactic| walk_at "st") => `(tactic| first | assumption | exact st_of (by assumption) | exact ex_t (by assumption) (by assumption) | exact ex_t (by assumption) (st_of (by assumption)))
local macro_rules | `(tactic| walk_at "rc") => `(tactic| first | ((with_reducible apply rc_len); walk_at "sq") | ((with_reducible apply rc_lenT); walk_at "st") | ((with_reducible apply rc_sumN); walk_at "sq") | ((with_reducible apply rc_sum); walk_at "sq") | ((with_reducible apply rc_all); walk_at "sq") | ((with_reducible apply rc_any); walk_at "sq") | with_reducible exact rc_min2 | with_reducible exact rc_max2 | with_reducible exact rc_isiI | with_reducible exact rc_isiB | ((with_reducible apply rc_isiL); walk_at "sq"))
local macro_rules | `(tactic| walk_at "sp") => `(tactic| fail)
local macro_rules | `(tactic| walk_at "bd") => `(tactic| first | exact Or.inl (And.intro (by omega) (by omega)) | exact Or.inr (And.intro (by omega) (by omega)))
local macro_rules | `(tactic| walk_at "rv") => `(tactic| first | with_reducible exact rv_I0 | ((with_reducible apply rv_I); first | (show CMul _ _; walk_at "bd") | (show CDiv _ _; exact And.intro (by omega) (by omega)) | (show CPow _ _; exact And.intro (by decide) (And.intro (by decide) (by decide))) | (show (0 : Int) < _; omega)) | ((with_reducible apply rv_eq); rfl) | ((with_reducible apply rv_ne); rfl))
local macro_rules | `(tactic| walk_at "ev") => `(tactic| repeat' first
  | with_reducible exact ev_c
  | ((with_reducible apply ev_var); rfl)
  | with_reducible exact ea_nil
  | with_reducible apply ea_cons
  | with_reducible apply et_test
  | with_reducible apply et_B
  | (with_reducible apply et_and)
  | (with_reducible apply et_or)
  | with_reducible apply et_not
  | with_reducible apply ev_andV
  | with_reducible apply ev_orV
  | with_reducible apply ev_notV
  | with_reducible apply ev_op
  | with_reducible apply ev_un
  | with_reducible apply ev_chain
  | with_reducible apply ev_cb
  | with_reducible apply ev_call
  | with_reducible apply eo_none
  | with_reducible apply eo_some
  | with_reducible exact ru_neg
  | (intro _; with_reducible show Ev _ _ _ _)
  | (intro _; with_reducible show EvT _ _ _ _)
  | walk_at "rv"
  | walk_at "rc"
  | walk_at "sp")
local macro_rules | `(tactic| walk_at "sp") => `(tactic| exact v_is_whole)
local macro_rules | `(tactic| walk_at "sp") => `(tactic| exact v_is_between)
local macro_rules | `(tactic| walk_at "sp") => `(tactic| (apply v_check_counts <;> first | assumption | walk_at "sq"))
local macro_rules | `(tactic| walk_at "sp") => `(tactic| (apply v_height_of <;> first | assumption | omega | walk_at "sq"))
local macro_rules | `(tactic| walk_at "sp") => `(tactic| (apply v_turns_of <;> first | assumption | omega | walk_at "sq"))
local macro_rules | `(tactic| walk_at "sp") => `(tactic| (apply v_how_many <;> first | assumption | omega | walk_at "sq"))
local macro_rules | `(tactic| walk_at "sp") => `(tactic| (apply v_l_cell_at <;> first | omega | walk_at "sq"))
local macro_rules | `(tactic| walk_at "sp") => `(tactic| (apply v_l_draw <;> omega))
local macro_rules | `(tactic| walk_at "sp") => `(tactic| (apply v_l_number <;> omega))
local macro_rules | `(tactic| walk_at "sp") => `(tactic| exact v_is_step)
local macro_rules | `(tactic| walk_at "sp") => `(tactic| (apply v_check_row <;> first | assumption | walk_at "sq"))
local macro_rules | `(tactic| walk_at "sp") => `(tactic| (apply v_fall_of <;> first | assumption | walk_at "sq"))
local macro_rules | `(tactic| walk_at "sp") => `(tactic| (apply v_l_fall <;> first | assumption | omega | walk_at "sq"))
local macro_rules | `(tactic| walk_at "sp") => `(tactic| (apply v_l_falls_right <;> first | assumption | omega | walk_at "sq"))
local macro_rules | `(tactic| walk_at "sp") => `(tactic| exact v_l_whole)
local macro_rules | `(tactic| walk_at "sp") => `(tactic| exact v_l_says)
local macro_rules | `(tactic| walk_at "rc") => `(tactic| with_reducible exact rc_isiBb)
local macro_rules | `(tactic| walk_at "sp") => `(tactic| (apply v_l_orders <;> first | assumption | omega | walk_at "sq"))
local macro_rules | `(tactic| walk_at "sp") => `(tactic| (apply v_k07_due <;> first | assumption | omega | walk_at "sq"))
abbrev s_Falls_init : Stmt := inClass (topS 17) 0
abbrev N_Falls_init : List Str := ["self", "many"]
theorem sc_Falls_init : FnScope N_Falls_init ["self", "many"] (defScope s_Falls_init) := ⟨rfl, rfl, rfl, by decide +kernel, rfl, by decide +kernel, by decide +kernel⟩
theorem ok_Falls_init {P : Program} {w : World} {K : PySem.W.Frag} {mg : Str → Option Value} {base : Heap} {A : Ad} {f : Addr} {fd : FuncData} (T : Txt K mg A) (Dx : If K A.Falls "Falls.__init__" s_Falls_init ["self", "many"] f fd)  :
    ICal P w K mg base 1 A.Falls ["self", "many"] (sp_Falls_init A) := by
  refine Dx.cal (Dx.F.ok sc_Falls_init (fun vs H Q E h => ?_) (fun cdv Ar outer s H vs Q E hr h => ?_))
  · obtain ⟨x, dx, v, rfl, hx, q⟩ := h
    rfl
  · obtain ⟨x, dx, v, rfl, hx, q⟩ := h
    refine ⟨_, (pss_one (ps_fld (pv 0) (pv 1) rfl)), ?_⟩
    try dsimp only [cxOf, Cx.nox, Cx.wish, Cx.blk]
    exact ⟨_, rfl, _, rfl, x, A.Falls, dx, [], rfl, hx, T.t_Falls.cl, T.n_Falls_many, (by show 0 < 1000; decide), q⟩
abbrev s_turned : Stmt := topS 11
abbrev N_turned : List Str := ["row", "turn"]
theorem sc_turned : FnScope N_turned ["row", "turn"] (defScope s_turned) := ⟨rfl, rfl, rfl, by decide +kernel, rfl, by decide +kernel, by decide +kernel⟩
theorem ok_turned {P : Program} {w : World} {K : PySem.W.Frag} {mg : Str → Option Value} {base : Heap} {A : Ad} {f : Addr} {fd : FuncData} (T : Txt K mg A) (Dx : Df K mg "turned" s_turned ["row", "turn"] f fd)  :
    Cal P w K mg base 1 "turned" ["row", "turn"] (sp_turned K) := by
  refine Dx.cal (Dx.F.ok sc_turned (fun vs H Q E h => ?_) (fun cdv Ar outer s H vs Q E hr h => ?_))
  · obtain ⟨a, rs, t, rfl, hS, hl, ht, q⟩ := h
    rfl
  · obtain ⟨a, rs, t, rfl, hS, hl, ht, q⟩ := h
    refine ⟨_, (pss_one (ps_ret (pe_op tl_cat (pe_slice sl_list (pv 0) (po_some (pv 1)) po_none) (pe_slice sl_list (pv 0) po_none (po_some (pv 1)))))), ?_⟩
    try dsimp only [cxOf, Cx.nox, Cx.wish, Cx.blk]
    exact s_retL (el_rot (ev_var rfl) (ev_var rfl) (ev_var rfl) (ev_var rfl) hS ht hl) fun p H1 hp e h => q p H1 hp e h
abbrev s_Falls_shows : Stmt := inClass (topS 17) 1
abbrev N_Falls_shows : List Str := ["self", "row", "turn"]
theorem sc_Falls_shows : FnScope N_Falls_shows ["self", "row", "turn"] (defScope s_Falls_shows) := ⟨rfl, rfl, rfl, by decide +kernel, rfl, by decide +kernel, by decide +kernel⟩
theorem ok_Falls_shows {P : Program} {w : World} {K : PySem.W.Frag} {mg : Str → Option Value} {base : Heap} {A : Ad} {f : Addr} {fd : FuncData} (T : Txt K mg A) (Dx : Mf K A.Falls "shows" "Falls.shows" s_Falls_shows ["self", "row", "turn"] f fd) (c_turned : Cal P w K mg base 1 "turned" ["row", "turn"] (sp_turned K)) :
    MCal P w K mg base 2 A.Falls "shows" ["self", "row", "turn"] (sp_Falls_shows K A) := by
  obtain ⟨f_turned, fd_turned, G_turned, k_turned, bd_turned, g_turned⟩ := c_turned
  refine Dx.cal (Dx.F.ok sc_Falls_shows (fun vs H Q E h => ?_) (fun cdv Ar outer s H vs Q E hr h => ?_))
  · obtain ⟨x, dx, a, rs, t, m, rfl, hx, hS, hl, ht, q⟩ := h
    rfl
  · obtain ⟨x, dx, a, rs, t, m, rfl, hx, hS, hl, ht, q⟩ := h
    refine ⟨_, (pss_one (ps_ret (pe_and (pe_chain tl_le tl_le pe_int (pe_fld (pv 0) rfl) (pe_callB tl_len (by rfl) T.b_len (by decide +kernel) (pa_cons (pv 1) pa_nil))) (pe_one (pe_cmpR tl_le (pe_callB (cr_sum rfl) (by rfl) T.b_sum (by decide +kernel) (pa_cons (pe_slice sl_list (pe_call G_turned (hr.mono (by decide)) (by rfl) g_turned k_turned bd_turned .nil pass0 (pa_cons (pv 1) (pa_cons (pv 2) pa_nil))) po_none (po_some (pe_fld (pv 0) rfl))) pa_nil)) pe_int (nomark _)))))), ?_⟩
    try dsimp only [cxOf, Cx.nox, Cx.wish, Cx.blk]
    have hf : ∀ σ, σ[0]? = some (some (V.ref x)) → Ev (tFld K (tVar 0) "many") σ H (.int m) := fun σ hσ => ev_fld (ev_var hσ) hx T.t_Falls.cl T.n_Falls_many (lk_many _)
    apply s_ret
    · apply ev_andV
      · refine ev_chain ev_c (hf _ rfl) rv_I0 (ev_cb (ea_cons (ev_var rfl) ea_nil) (rc_len hS)) rv_I0
      · intro hb
        rw [Bool.and_eq_true] at hb
        have h1 := of_decide_eq_true hb.1
        exact ev_op (ev_sum_turned (ea_cons (ev_var rfl) (ea_cons (ev_var rfl) ea_nil)) hS hl ht (hf _ rfl) (by omega)) ev_c rv_I0
    · rw [List.length_map, le0_lt1]
      exact q
abbrev s_Round_init : Stmt := inClass (topS 15) 0
abbrev N_Round_init : List Str := ["self", "stay", "falls"]
theorem sc_Round_init : FnScope N_Round_init ["self", "stay", "falls"] (defScope s_Round_init) := ⟨rfl, rfl, rfl, by decide +kernel, rfl, by decide +kernel, by decide +kernel⟩
theorem ok_Round_init {P : Program} {w : World} {K : PySem.W.Frag} {mg : Str → Option Value} {base : Heap} {A : Ad} {f : Addr} {fd : FuncData} (T : Txt K mg A) (Dx : If K A.Round "Round.__init__" s_Round_init ["self", "stay", "falls"] f fd)  :
    ICal P w K mg base 1 A.Round ["self", "stay", "falls"] (sp_Round_init K A) := by
  refine Dx.cal (Dx.F.ok sc_Round_init (fun vs H Q E h => ?_) (fun cdv Ar outer s H vs Q E hr h => ?_))
  · obtain ⟨x, dx, a, b, us, ws, rfl, hx, hu, hw, q⟩ := h
    rfl
  · obtain ⟨x, dx, a, b, us, ws, rfl, hx, hu, hw, q⟩ := h
    refine ⟨_, (pss_cons (ps_fld (pv 0) (pe_callTy tl_list (by rfl) T.b_list (by decide +kernel) (pa_cons (pv 1) pa_nil)) rfl)
      (pss_one (ps_fld (pv 0) (pe_callTy tl_list (by rfl) T.b_list (by decide +kernel) (pa_cons (pv 2) pa_nil)) rfl))), ?_⟩
    try dsimp only [cxOf, Cx.nox, Cx.wish, Cx.blk]
    have ne1 : ¬ (("stay" : Str) = "falls") := by decide +kernel
    refine ⟨_, rfl, a, us, rfl, .inl hu, fun l1 hl1 => ?_⟩
    have nx1 : x ≠ l1 := ne_of_none hx hl1
    refine ⟨_, rfl, x, A.Round, dx, [], rfl, by rw [upd_ne nx1]; exact hx, T.t_Round.cl, T.n_Round_stay, (by show 0 < 1000; decide), ?_⟩
    have s1 : ∀ c o, H c = some o → c ≠ x → (upd (upd H l1 (.lst us)) x (.ins A.Round dx (putF "stay" (.ref l1) []))) c = some o := fun c o hc hcx => by
      rw [upd_ne hcx, upd_ne (ne_of_none hc hl1)]
      exact hc
    have hw1 : SqL K (upd (upd H l1 (.lst us)) x (.ins A.Round dx (putF "stay" (.ref l1) []))) b ws := by
      rcases hw with (h | ⟨o, h⟩) | h
      · exact .inl (.inl (s1 _ _ h (fun z => by rw [z, hx] at h; cases h)))
      · exact .inl (.inr ⟨o, s1 _ _ h (fun z => by rw [z, hx] at h; cases h)⟩)
      · exact .inr h
    refine ⟨_, rfl, b, ws, rfl, .inl hw1, fun l2 hl2 => ?_⟩
    have nx2 : x ≠ l2 := fun z => by
      rw [z, upd_same] at hl2
      cases hl2
    have hl2' : H l2 = none ∧ l1 ≠ l2 := by
      rw [upd_ne nx2.symm] at hl2
      have h12 : l1 ≠ l2 := fun z => by
        rw [z, upd_same] at hl2
        cases hl2
      rw [upd_ne h12.symm] at hl2
      exact ⟨hl2, h12⟩
    refine ⟨_, rfl, x, A.Round, dx, _, rfl, by rw [upd_ne nx2, upd_same], T.t_Round.cl, T.n_Round_falls, (by show 1 < 1000; decide), ?_⟩
    refine q l1 l2 _ hl1 hl2'.1 hl2'.2 (fun c o hc hcx => ?_) ?_ ?_ ?_
    · rw [upd_ne hcx, upd_ne (ne_of_none hc hl2'.1)]
      exact s1 c o hc hcx
    · rw [upd_same]
      show some (HO.ins A.Round dx (if ("stay" : Str) = "falls" then _ else _)) = _
      rw [if_neg ne1]
      rfl
    · rw [upd_ne nx1.symm, upd_ne hl2'.2, upd_ne nx1.symm, upd_same]
    · rw [upd_ne nx2.symm, upd_same]
abbrev s_fall_of : Stmt := topS 12
abbrev N_fall_of : List Str := ["row", "height", "at", "step"]
theorem sc_fall_of : FnScope N_fall_of ["row"] (defScope s_fall_of) := ⟨rfl, rfl, rfl, by decide +kernel, rfl, by decide +kernel, by decide +kernel⟩
theorem ok_fall_of {P : Program} {w : World} {K : PySem.W.Frag} {mg : Str → Option Value} {base : Heap} {A : Ad} {f : Addr} {fd : FuncData} (T : Txt K mg A) (Dx : Df K mg "fall_of" s_fall_of ["row"] f fd)  :
    Cal P w K mg base 1 "fall_of" ["row"] (sp_fall_of K) := by
  refine Dx.cal (Dx.F.ok sc_fall_of (fun vs H Q E h => ?_) (fun cdv Ar outer s H vs Q E hr h => ?_))
  · obtain ⟨a, rs, rfl, hS, q⟩ := h
    rfl
  · obtain ⟨a, rs, rfl, hS, q⟩ := h
    refine ⟨_, (pss_cons (ps_set (i := 1) sc_fall_of.nd rfl (Or.inl rfl) pe_int)
      (pss_cons (ps_for PassesOwn.never rfl (pi_enum (by rfl) T.b_enumerate (pa_cons (pv 0) pa_nil)) (pg_tup rfl (pgs_cons (pg_name (i := 2) sc_fall_of.nd rfl (Or.inl rfl) (hf := Or.inr rfl)) (pgs_cons (pg_name (i := 3) sc_fall_of.nd rfl (Or.inl rfl) (hf := Or.inr rfl)) pgs_nil))) (pss_cons (ps_aug (i := 1) sc_fall_of.nd rfl (Or.inl rfl) (pv 3) ip_add)
      (pss_one (ps_if (pt_cmpR tl_le (pv 1) pe_int (nomark _)) (pss_one (ps_ret (pe_op tl_add (pv 2) pe_int))) pss_nil))))
      (pss_one (ps_ret pe_non)))), ?_⟩
    try dsimp only [cxOf, Cx.nox, Cx.wish, Cx.blk]
    refine q_asg ev_c fun H1 e1 => ?_
    refine q_forE (ev_var rfl) (ex_l e1 hS) (fun i σ' H' => ∃ y2 y3, σ' = [some (.ref a), some (.int (pre rs i)), y2, y3] ∧ Ex H H' ∧ fallOf rs = fallFrom (pre rs i) i (rs.drop i)) (fun H2 e2 => ⟨none, none, rfl, e1.trans e2, rfl⟩) (fun i σ' H' _ ⟨_, _, _, e, _⟩ => ex_l e hS) ?_ ?_
    · rintro i x σ' H' H2 hx ⟨y2, y3, rfl, e, hf⟩ e2
      obtain ⟨n, hn, rfl⟩ := int_at hx
      have hps := pre_step hn
      rw [drop_cons hn] at hf
      have hf' : fallOf rs = if pre rs i + n ≤ 0 then some (i + 1) else fallFrom (pre rs i + n) (i + 1) (rs.drop (i + 1)) := hf
      refine q_aug rfl (ev_var rfl) fun H3 e3 => ?_
      apply s_when
      · walk_at "ev"
      · intro hb H4 e4
        have hb := of_decide_eq_true hb
        rw [if_pos hb] at hf'
        apply s_ret
        · walk_at "ev"
        · intro H5 e5
          have q' := q H5 (e.trans (e2.trans (e3.trans (e4.trans e5))))
          rw [hf'] at q'
          exact q'
      · intro hb H4 e4
        have hb := of_decide_eq_false hb
        rw [if_neg hb, ← hps] at hf'
        exact ⟨_, _, by rw [hps]; rfl, e.trans (e2.trans (e3.trans e4)), hf'⟩
    · rintro σ' H' ⟨y2, y3, rfl, e, hf⟩
      rw [List.length_map, List.drop_length] at hf
      refine s_ret ev_c fun H2 e2 => ?_
      have q' := q H2 (e.trans e2)
      rw [hf] at q'
      exact q'
abbrev s_Round_shows : Stmt := inClass (topS 15) 1
abbrev N_Round_shows : List Str := ["self", "row", "other", "turn", "many"]
theorem sc_Round_shows : FnScope N_Round_shows ["self", "row"] (defScope s_Round_shows) := ⟨rfl, rfl, rfl, by decide +kernel, rfl, by decide +kernel, by decide +kernel⟩
theorem ok_Round_shows {P : Program} {w : World} {K : PySem.W.Frag} {mg : Str → Option Value} {base : Heap} {A : Ad} {f : Addr} {fd : FuncData} (T : Txt K mg A) (Dx : Mf K A.Round "shows" "Round.shows" s_Round_shows ["self", "row"] f fd) (c_fall_of : Cal P w K mg base 1 "fall_of" ["row"] (sp_fall_of K)) (c_turned : Cal P w K mg base 1 "turned" ["row", "turn"] (sp_turned K)) :
    MCal P w K mg base 2 A.Round "shows" ["self", "row"] (sp_Round_shows K A) := by
  obtain ⟨f_fall_of, fd_fall_of, G_fall_of, k_fall_of, bd_fall_of, g_fall_of⟩ := c_fall_of
  obtain ⟨f_turned, fd_turned, G_turned, k_turned, bd_turned, g_turned⟩ := c_turned
  refine Dx.cal (Dx.F.ok sc_Round_shows (fun vs H Q E h => ?_) (fun cdv Ar outer s H vs Q E hr h => ?_))
  · obtain ⟨x, a, l1, l2, rs, st, ts, fs, rfl, R, hS, hl, hst, hfs, q⟩ := h
    rfl
  · obtain ⟨x, a, l1, l2, rs, st, ts, fs, rfl, R, hS, hl, hst, hfs, q⟩ := h
    refine ⟨_, (pss_cons (ps_setLc (i := 2) (own := [("turn", 3), ("many", 4)]) (tt := tYes) (g := (gTup K 2 (gCons (gName 3) (gCons (gName 4) gNil)))) (te := (tVar 3)) rfl sc_Round_shows.nd rfl rfl (sw_true rfl rfl rfl (by decide +kernel)) (pi_list (pe_fld (pv 0) rfl)) (blkOk_by (own := [("turn", 3), ("many", 4)]) (N := N_Round_shows) (sc := defScope s_Round_shows) (by decide +kernel)) (fun _ _ _ _ _ => (pg_tup rfl (pgs_cons (pg_name (i := 3) sc_Round_shows.nd rfl (Or.inl rfl) (hf := Or.inr rfl)) (pgs_cons (pg_name (i := 4) sc_Round_shows.nd rfl (Or.inl rfl) (hf := Or.inr rfl)) pgs_nil)))) (fun _ _ _ _ _ => pts_nil) (fun _ _ _ _ _ => (pv 3)))
      (pss_cons (ps_if (PW.pt (pw_or (pt_cmpR (tl_neD hr.units) (pe_callB cr_sortedI (by rfl) T.b_sorted (by decide +kernel) (pa_cons (pe_op tl_cat (pe_fld (pv 0) rfl) (pv 2)) pa_nil)) (pe_listRg rfl (by rfl) T.b_list (prg_1 (by rfl) T.b_range (pe_callB tl_len (by rfl) T.b_len (by decide +kernel) (pa_cons (pv 1) pa_nil)))) (nomark _)) (pw_or1 (pt_cmpR (tl_neD hr.units) (pe_fld (pv 0) rfl) (pe_callB cr_sortedI (by rfl) T.b_sorted (by decide +kernel) (pa_cons (pe_fld (pv 0) rfl) pa_nil)) (nomark _))))) (pss_one (ps_ret pe_bl)) pss_nil)
      (pss_cons (ps_if (pt_val (pe_callB (cr_any rfl) (by rfl) T.b_any (by decide +kernel) (pa_cons (pe_lc (own := [("turn", 3)]) (tt := tYes) (g := (gName 3)) (te := (tOp rNotNo (tCall (sp_fall_of K) [] E0 (tCons (tCall (sp_turned K) [] E0 (tCons (tVar 1) (tCons (tVar 3) tNil))) tNil)) (tC .non))) rfl sc_Round_shows.nd (pi_list (pe_fld (pv 0) rfl)) (blkOk_by (own := [("turn", 3)]) (N := N_Round_shows) (sc := defScope s_Round_shows) (by decide +kernel)) (fun _ _ _ _ _ => (pg_name (i := 3) sc_Round_shows.nd rfl (Or.inl rfl) (hf := Or.inr rfl))) (fun _ _ _ _ _ => pts_nil) (fun _ _ _ _ _ => (pe_cmpR tl_notN (pe_call G_fall_of (hr.mono (by decide)) (by rfl) g_fall_of k_fall_of bd_fall_of .nil pass0 (pa_cons (pe_call G_turned (hr.mono (by decide)) (by rfl) g_turned k_turned bd_turned .nil pass0 (pa_cons (pv 1) (pa_cons (pv 3) pa_nil))) pa_nil)) pe_non (nomark _)))) pa_nil))) (pss_one (ps_ret pe_bl)) pss_nil)
      (pss_cons (ps_if (pt_not (pt_val (pe_callB (cr_all rfl) (by rfl) T.b_all (by decide +kernel) (pa_cons (pe_lc (own := [("turn", 3), ("many", 4)]) (tt := tYes) (g := (gTup K 2 (gCons (gName 3) (gCons (gName 4) gNil)))) (te := (tChain (rI0 fun i j => .bl (decide (i ≤ j))) (rI0 fun i j => .bl (decide (i ≤ j))) (tC (.int 1)) (tVar 4) (tCB (rLenS K) (tCons (tVar 1) tNil)))) rfl sc_Round_shows.nd (pi_list (pe_fld (pv 0) rfl)) (blkOk_by (own := [("turn", 3), ("many", 4)]) (N := N_Round_shows) (sc := defScope s_Round_shows) (by decide +kernel)) (fun _ _ _ _ _ => (pg_tup rfl (pgs_cons (pg_name (i := 3) sc_Round_shows.nd rfl (Or.inl rfl) (hf := Or.inr rfl)) (pgs_cons (pg_name (i := 4) sc_Round_shows.nd rfl (Or.inl rfl) (hf := Or.inr rfl)) pgs_nil)))) (fun _ _ _ _ _ => pts_nil) (fun _ _ _ _ _ => (pe_chain tl_le tl_le pe_int (pv 4) (pe_callB tl_len (by rfl) T.b_len (by decide +kernel) (pa_cons (pv 1) pa_nil))))) pa_nil)))) (pss_one (ps_ret pe_bl)) pss_nil)
      (pss_one (ps_ret (pe_callB (cr_all rfl) (by rfl) T.b_all (by decide +kernel) (pa_cons (pe_lc (own := [("turn", 3), ("many", 4)]) (tt := tYes) (g := (gTup K 2 (gCons (gName 3) (gCons (gName 4) gNil)))) (te := (tOp (rI0 fun i j => .bl (decide (i ≤ j))) (tCB (rSum K) (tCons (tSl (rSlL K) (tCall (sp_turned K) [] E0 (tCons (tVar 1) (tCons (tVar 3) tNil))) tNoPart (tPart (tVar 4))) tNil)) (tC (.int 0)))) rfl sc_Round_shows.nd (pi_list (pe_fld (pv 0) rfl)) (blkOk_by (own := [("turn", 3), ("many", 4)]) (N := N_Round_shows) (sc := defScope s_Round_shows) (by decide +kernel)) (fun _ _ _ _ _ => (pg_tup rfl (pgs_cons (pg_name (i := 3) sc_Round_shows.nd rfl (Or.inl rfl) (hf := Or.inr rfl)) (pgs_cons (pg_name (i := 4) sc_Round_shows.nd rfl (Or.inl rfl) (hf := Or.inr rfl)) pgs_nil)))) (fun _ _ _ _ _ => pts_nil) (fun _ _ _ _ _ => (pe_cmpR tl_le (pe_callB (cr_sum rfl) (by rfl) T.b_sum (by decide +kernel) (pa_cons (pe_slice sl_list (pe_call G_turned (hr.mono (by decide)) (by rfl) g_turned k_turned bd_turned .nil pass0 (pa_cons (pv 1) (pa_cons (pv 3) pa_nil))) po_none (po_some (pv 4))) pa_nil)) pe_int (nomark _)))) pa_nil)))))))), ?_⟩
    try dsimp only [cxOf, Cx.nox, Cx.wish, Cx.blk]
    have hst1 : ∀ {σ : L2.St} {H1 : Hp}, σ[0]? = some (some (V.ref x)) → Ex H H1 → Ev (tFld K (tVar 0) "stay") σ H1 (.ref l1) := fun hσ e => by
      obtain ⟨dx, ho⟩ := R.ob
      exact ev_fld (ev_var hσ) (e _ _ ho) T.t_Round.cl T.n_Round_stay (rf_stay l1 l2)
    have hst2 : ∀ {σ : L2.St} {H1 : Hp}, σ[0]? = some (some (V.ref x)) → Ex H H1 → Ev (tFld K (tVar 0) "falls") σ H1 (.ref l2) := fun hσ e => by
      obtain ⟨dx, ho⟩ := R.ob
      exact ev_fld (ev_var hσ) (e _ _ ho) T.t_Round.cl T.n_Round_falls (rf_falls l1 l2)
    refine q_asgL (xs := fs.map fun p => V.int p.1) (el_pairs (fun p => V.int p.1) (hst2 rfl (Ex.refl _)) (sq_of R.h2) R.pr (by omega) (fun _ _ => rfl) (fun p H1 hp e1 => ev_var rfl)) fun o H1 ho e1 h1 => ?_
    have h1' : H1 o = some (.lst ((fs.map Prod.fst).map V.int)) := by
      rw [h1, List.map_map]
      rfl
    have hS1 := ex_l e1 hS
    have cat1 : EvL (tOp rCat (tFld K (tVar 0) "stay") (tVar 2)) (List.set (L2.start N_Round_shows [V.ref x, V.ref a]) 2 (some (V.ref o))) H1 ((st ++ fs.map Prod.fst).map V.int) := by
      rw [List.map_append]
      exact el_catVV (hst1 rfl e1) (e1 _ _ R.h1) (ev_var rfl) h1' (by simp; omega)
    refine q_when (et_or (et_test (ev_neI (ed_ints (el_sortedN cat1 (isort_perm _).symm (isort_sorted _))) (ed_ints (el_range (n := rs.length) (ev_is (ev_cb (ea_cons (ev_var rfl) ea_nil) (rc_len hS1)) (by rw [List.length_map])) (by omega))))) (fun _ => et_test (ev_neI (ed_var (hst1 rfl e1) (sq_of (e1 _ _ R.h1))) (ed_ints (el_sortedV (hst1 rfl e1) (sq_of (e1 _ _ R.h1)) (isort_perm st).symm (isort_sorted st)))))) (fun hb H2 e2 => ?_) (fun hb H2 e2 => ?_)
    · refine s_ret ev_c fun H3 e3 => ?_
      have z : showsV rs st fs = false := by
        unfold showsV
        rw [Bool.or_eq_true, Bool.not_eq_true', Bool.not_eq_true'] at hb
        rcases hb with hb | hb
        · have hb' : decide (isort (st ++ fs.map Prod.fst) = rangeI rs.length) = false := hb
          rw [hb']
          rfl
        · rw [hb]
          simp
      rw [RetV, z] at q
      exact q H3 (e1.trans (e2.trans e3))
    rw [Bool.or_eq_false_iff, Bool.not_eq_false', Bool.not_eq_false'] at hb
    have b1 : isort (st ++ fs.map Prod.fst) = rangeI rs.length := of_decide_eq_true hb.1
    have b2 := of_decide_eq_true hb.2
    obtain ⟨rg1, rg2⟩ := perm_range b1
    have hS2 := ex_l e2 hS1
    have E2 := e1.trans e2
    refine q_when (et_B (ev_cbL (el_mapI (xs := st) (emb := V.int) (fun t => .bl (!decide (vO (fallOf (rot rs t.toNat)) = .non))) (ei_list (hst1 rfl E2) (sq_of (E2 _ _ R.h1))) (by omega) (fun _ => rfl) (fun t H3 ht e3 => ev_op (ev_fall_turned (ea_cons (ev_var rfl) (ea_cons (ev_var rfl) ea_nil)) (ex_l e3 hS2) hl (rg1 t ht).1) ev_c rv_notN)) fun p H3 e3 h3 => rc_anyM (sq_of h3))) (fun hb H3 e3 => ?_) (fun hb H3 e3 => ?_)
    · refine s_ret ev_c fun H4 e4 => ?_
      have z : showsV rs st fs = false := by
        have hall : st.all (stT rs) = false := by
          rw [List.any_eq_true] at hb
          obtain ⟨t, ht, h⟩ := hb
          rw [List.all_eq_false]
          refine ⟨t, ht, ?_⟩
          rw [vO_non] at h
          unfold stT
          simpa using h
        unfold showsV
        rw [hall]
        simp
      rw [RetV, z] at q
      exact q H4 (E2.trans (e3.trans e4))
    have hall : st.all (stT rs) = true := by
      rw [List.any_eq_false] at hb
      rw [List.all_eq_true]
      intro t ht
      have h := hb t ht
      rw [vO_non] at h
      unfold stT
      simpa using h
    have hS3 := ex_l e3 hS2
    have E3 := E2.trans e3
    refine q_when (et_not (et_B (ev_cbL (el_pairs (fun p => V.bl (decide (1 ≤ p.2) && decide (p.2 ≤ ((rs.map V.int).length : Int)))) (hst2 rfl E3) (sq_of (E3 _ _ R.h2)) (R.pr.ex E3) (by omega) (fun _ _ => rfl) (fun p H4 hp e4 => ev_chain ev_c (ev_var rfl) rv_I0 (ev_cb (ea_cons (ev_var rfl) ea_nil) (rc_len (ex_l e4 hS3))) rv_I0)) fun p H4 e4 h4 => rc_allM (sq_of h4)))) (fun hb H4 e4 => ?_) (fun hb H4 e4 => ?_)
    · refine s_ret ev_c fun H5 e5 => ?_
      rw [Bool.not_eq_true', List.length_map] at hb
      have z : showsV rs st fs = false := by
        unfold showsV
        rw [hb]
        simp
      rw [RetV, z] at q
      exact q H5 (E3.trans (e4.trans e5))
    rw [Bool.not_eq_false', List.length_map] at hb
    have hm := List.all_eq_true.mp hb
    have hS4 := ex_l e4 hS3
    have E4 := E3.trans e4
    refine s_ret (ev_cbL (el_pairs (fun p => V.bl (decide (((rot rs p.1.toNat).take p.2.toNat).sum ≤ 0))) (hst2 rfl E4) (sq_of (E4 _ _ R.h2)) (R.pr.ex E4) (by omega) (fun _ _ => rfl) (fun p H5 hp e5 => ev_op (ev_sum_turned (ea_cons (ev_var rfl) (ea_cons (ev_var rfl) ea_nil)) (ex_l e5 hS4) hl (rg2 p hp).1 (ev_var rfl) (by have := hm p hp; simp at this; omega)) ev_c rv_I0)) fun p H5 e5 h5 => rc_allM (sq_of h5)) fun H5 e5 => ?_
    have z : showsV rs st fs = fs.all fun p => decide (((rot rs p.1.toNat).take p.2.toNat).sum ≤ 0) := by
      unfold showsV
      rw [decide_eq_true b1, decide_eq_true b2, hall, hb]
      simp
    rw [RetV, z] at q
    exact q H5 (E4.trans e5)
abbrev s_Stays_shows : Stmt := inClass (topS 16) 0
abbrev N_Stays_shows : List Str := ["self", "row", "turn"]
theorem sc_Stays_shows : FnScope N_Stays_shows ["self", "row", "turn"] (defScope s_Stays_shows) := ⟨rfl, rfl, rfl, by decide +kernel, rfl, by decide +kernel, by decide +kernel⟩
theorem ok_Stays_shows {P : Program} {w : World} {K : PySem.W.Frag} {mg : Str → Option Value} {base : Heap} {A : Ad} {f : Addr} {fd : FuncData} (T : Txt K mg A) (Dx : Mf K A.Stays "shows" "Stays.shows" s_Stays_shows ["self", "row", "turn"] f fd) (c_fall_of : Cal P w K mg base 1 "fall_of" ["row"] (sp_fall_of K)) (c_turned : Cal P w K mg base 1 "turned" ["row", "turn"] (sp_turned K)) :
    MCal P w K mg base 2 A.Stays "shows" ["self", "row", "turn"] (sp_Stays_shows K) := by
  obtain ⟨f_fall_of, fd_fall_of, G_fall_of, k_fall_of, bd_fall_of, g_fall_of⟩ := c_fall_of
  obtain ⟨f_turned, fd_turned, G_turned, k_turned, bd_turned, g_turned⟩ := c_turned
  refine Dx.cal (Dx.F.ok sc_Stays_shows (fun vs H Q E h => ?_) (fun cdv Ar outer s H vs Q E hr h => ?_))
  · obtain ⟨x, a, rs, t, rfl, hS, hl, ht, q⟩ := h
    rfl
  · obtain ⟨x, a, rs, t, rfl, hS, hl, ht, q⟩ := h
    refine ⟨_, (pss_one (ps_ret (pe_cmpR tl_isN (pe_call G_fall_of (hr.mono (by decide)) (by rfl) g_fall_of k_fall_of bd_fall_of .nil pass0 (pa_cons (pe_call G_turned (hr.mono (by decide)) (by rfl) g_turned k_turned bd_turned .nil pass0 (pa_cons (pv 1) (pa_cons (pv 2) pa_nil))) pa_nil)) pe_non (nomark _)))), ?_⟩
    try dsimp only [cxOf, Cx.nox, Cx.wish, Cx.blk]
    refine s_ret (ev_op (ev_fall_turned (ea_cons (ev_var rfl) (ea_cons (ev_var rfl) ea_nil)) hS hl ht) ev_c rv_isN) ?_
    rw [vO_non]
    exact q
abbrev s_l_falls_right : Stmt := topS 28
abbrev N_l_falls_right : List Str := ["_law_row_here", "_law_turn", "_law_many"]
theorem sc_l_falls_right : FnScope N_l_falls_right ["_law_row_here", "_law_turn", "_law_many"] (defScope s_l_falls_right) := ⟨rfl, rfl, rfl, by decide +kernel, rfl, by decide +kernel, by decide +kernel⟩
theorem ok_l_falls_right {P : Program} {w : World} {K : PySem.W.Frag} {mg : Str → Option Value} {base : Heap} {A : Ad} {f : Addr} {fd : FuncData} (T : Txt K mg A) (Dx : Df K mg "_law_falls_right" s_l_falls_right ["_law_row_here", "_law_turn", "_law_many"] f fd)  :
    Cal P w K mg base 1 "_law_falls_right" ["_law_row_here", "_law_turn", "_law_many"] (sp_l_falls_right K) := by
  refine Dx.cal (Dx.F.ok sc_l_falls_right (fun vs H Q E h => ?_) (fun cdv Ar outer s H vs Q E hr h => ?_))
  · obtain ⟨a, rs, t, m, rfl, hS, hl, ht, q⟩ := h
    rfl
  · obtain ⟨a, rs, t, m, rfl, hS, hl, ht, q⟩ := h
    refine ⟨_, (pss_one (ps_ret (pe_and (pe_chain tl_le tl_le pe_int (pv 2) (pe_callB tl_len (by rfl) T.b_len (by decide +kernel) (pa_cons (pv 0) pa_nil))) (pe_one (pe_cmpR tl_lt (pe_callB (cr_sum rfl) (by rfl) T.b_sum (by decide +kernel) (pa_cons (pe_slice sl_list (pe_op tl_cat (pe_slice sl_list (pv 0) (po_some (pv 1)) po_none) (pe_slice sl_list (pv 0) po_none (po_some (pv 1)))) po_none (po_some (pv 2))) pa_nil)) pe_int (nomark _)))))), ?_⟩
    try dsimp only [cxOf, Cx.nox, Cx.wish, Cx.blk]
    apply s_ret
    · apply ev_andV
      · walk_at "ev"
      · intro hb
        rw [Bool.and_eq_true] at hb
        have h1 := of_decide_eq_true hb.1
        refine ev_op (ev_sumN (el_hiN (el_rot (ev_var rfl) (ev_var rfl) (ev_var rfl) (ev_var rfl) hS ht hl) (ev_var rfl) (by omega))) ev_c rv_I0
    · intro H1 e1
      rw [List.length_map]
      exact q H1 e1
abbrev s_l_fall : Stmt := topS 26
abbrev N_l_fall : List Str := ["_law_row_here", "_law_turn", "_law_line", "_law_height", "_law_at", "_law_step"]
theorem sc_l_fall : FnScope N_l_fall ["_law_row_here", "_law_turn"] (defScope s_l_fall) := ⟨rfl, rfl, rfl, by decide +kernel, rfl, by decide +kernel, by decide +kernel⟩
theorem ok_l_fall {P : Program} {w : World} {K : PySem.W.Frag} {mg : Str → Option Value} {base : Heap} {A : Ad} {f : Addr} {fd : FuncData} (T : Txt K mg A) (Dx : Df K mg "_law_fall" s_l_fall ["_law_row_here", "_law_turn"] f fd)  :
    Cal P w K mg base 1 "_law_fall" ["_law_row_here", "_law_turn"] (sp_l_fall K) := by
  refine Dx.cal (Dx.F.ok sc_l_fall (fun vs H Q E h => ?_) (fun cdv Ar outer s H vs Q E hr h => ?_))
  · obtain ⟨a, rs, t, rfl, hS, hl, ht, q⟩ := h
    rfl
  · obtain ⟨a, rs, t, rfl, hS, hl, ht, q⟩ := h
    refine ⟨_, (pss_cons (ps_par (i := 2) (j := 3) (by rfl) sc_l_fall.nd rfl rfl (by decide) rfl rfl (pa_cons (pe_op tl_cat (pe_slice sl_list (pv 0) (po_some (pv 1)) po_none) (pe_slice sl_list (pv 0) po_none (po_some (pv 1)))) (pa_cons pe_int pa_nil)) (by rfl))
      (pss_cons (ps_for PassesOwn.never rfl (pi_enum (by rfl) T.b_enumerate (pa_cons (pv 2) pa_nil)) (pg_tup rfl (pgs_cons (pg_name (i := 4) sc_l_fall.nd rfl (Or.inl rfl) (hf := Or.inr rfl)) (pgs_cons (pg_name (i := 5) sc_l_fall.nd rfl (Or.inl rfl) (hf := Or.inr rfl)) pgs_nil))) (pss_cons (ps_set (i := 3) sc_l_fall.nd rfl (Or.inl rfl) (pe_op tl_add (pv 3) (pv 5)))
      (pss_one (ps_if (pt_cmpR tl_lt (pv 3) pe_int (nomark _)) (pss_one (ps_ret (pe_op tl_add (pv 4) pe_int))) pss_nil))))
      (pss_one (ps_ret pe_int)))), ?_⟩
    try dsimp only [cxOf, Cx.nox, Cx.wish, Cx.blk]
    refine q_parLV (el_rot (ev_var rfl) (ev_var rfl) (ev_var rfl) (ev_var rfl) hS ht hl) (fun _ _ _ _ _ => ev_c) fun p H1 hp e1 h1 => ?_
    generalize rot rs t.toNat = ls at *
    refine q_forE (ev_var rfl) (sq_of h1) (fun i σ' H' => ∃ y4 y5, σ' = [some (.ref a), some (.int t), some (.ref p), some (.int (pre ls i)), y4, y5] ∧ Ex H1 H' ∧ fallOf ls = fallFrom (pre ls i) i (ls.drop i)) (fun H2 e2 => ⟨none, none, rfl, e2, rfl⟩) (fun i σ' H' _ ⟨_, _, _, e, _⟩ => sq_of (e _ _ h1)) ?_ ?_
    · rintro i x σ' H' H2 hx ⟨y2, y3, rfl, e, hf⟩ e2
      obtain ⟨n, hn, rfl⟩ := int_at hx
      have hps := pre_step hn
      rw [drop_cons hn] at hf
      have hf' : fallOf ls = if pre ls i + n ≤ 0 then some (i + 1) else fallFrom (pre ls i + n) (i + 1) (ls.drop (i + 1)) := hf
      apply q_asg
      · walk_at "ev"
      intro H3 e3
      apply s_when
      · walk_at "ev"
      · intro hb H4 e4
        have hb := of_decide_eq_true hb
        rw [if_pos (by omega)] at hf'
        apply s_ret
        · walk_at "ev"
        · intro H5 e5
          have q' := q H5 (e1.trans (e.trans (e2.trans (e3.trans (e4.trans e5)))))
          rw [hf'] at q'
          exact q'
      · intro hb H4 e4
        have hb := of_decide_eq_false hb
        rw [if_neg (by omega), ← hps] at hf'
        exact ⟨_, _, by rw [hps]; rfl, e.trans (e2.trans (e3.trans e4)), hf'⟩
    · rintro σ' H' ⟨y2, y3, rfl, e, hf⟩
      rw [List.length_map, List.drop_length] at hf
      refine s_ret ev_c fun H2 e2 => ?_
      have q' := q H2 (e1.trans (e.trans e2))
      rw [hf] at q'
      exact q'
abbrev s_l_stay : Stmt := topS 27
abbrev N_l_stay : List Str := ["_law_row_here", "_law_turn"]
theorem sc_l_stay : FnScope N_l_stay ["_law_row_here"] (defScope s_l_stay) := ⟨rfl, rfl, rfl, by decide +kernel, rfl, by decide +kernel, by decide +kernel⟩
theorem ok_l_stay {P : Program} {w : World} {K : PySem.W.Frag} {mg : Str → Option Value} {base : Heap} {A : Ad} {f : Addr} {fd : FuncData} (T : Txt K mg A) (Dx : Df K mg "_law_stay" s_l_stay ["_law_row_here"] f fd) (c_l_fall : Cal P w K mg base 1 "_law_fall" ["_law_row_here", "_law_turn"] (sp_l_fall K)) :
    Cal P w K mg base 2 "_law_stay" ["_law_row_here"] (sp_l_stay K) := by
  obtain ⟨f_l_fall, fd_l_fall, G_l_fall, k_l_fall, bd_l_fall, g_l_fall⟩ := c_l_fall
  refine Dx.cal (Dx.F.ok sc_l_stay (fun vs H Q E h => ?_) (fun cdv Ar outer s H vs Q E hr h => ?_))
  · obtain ⟨a, rs, rfl, hS, hl, q⟩ := h
    rfl
  · obtain ⟨a, rs, rfl, hS, hl, q⟩ := h
    refine ⟨_, (pss_one (ps_ret (pe_lc (own := [("_law_turn", 1)]) (tt := (tTest (tOp rEq (tCall (sp_l_fall K) [] E0 (tCons (tVar 0) (tCons (tVar 1) tNil))) (tC (.int 0))))) (g := (gName 1)) (te := (tVar 1)) rfl sc_l_stay.nd (pi_range1 (by rfl) T.b_range (pa_cons (pe_callB tl_len (by rfl) T.b_len (by decide +kernel) (pa_cons (pv 0) pa_nil)) pa_nil)) (blkOk_by (own := [("_law_turn", 1)]) (N := N_l_stay) (sc := defScope s_l_stay) (by decide +kernel)) (fun _ _ _ _ _ => (pg_name (i := 1) sc_l_stay.nd rfl (Or.inl rfl) (hf := Or.inr rfl))) (fun _ _ _ _ _ => (pts_one (pt_cmpR tl_eq (pe_call G_l_fall (hr.mono (by decide)) (by rfl) g_l_fall k_l_fall bd_l_fall .nil pass0 (pa_cons (pv 0) (pa_cons (pv 1) pa_nil))) pe_int (nomark _)))) (fun _ _ _ _ _ => (pv 1))))), ?_⟩
    try dsimp only [cxOf, Cx.nox, Cx.wish, Cx.blk]
    have e : ((List.range rs.length).filter (stB rs)).map vn = (stayI rs).map V.int := by
      rw [map_vn]
      rfl
    refine s_retL (xs := (stayI rs).map V.int) ?_ q
    rw [← e]
    have hi := ei_range1 (σ := L2.start N_l_stay [V.ref a]) (H := H) (ta := tCons (tCB (rLenS K) (tCons (tVar 0) tNil)) tNil) (n := ((rs.map V.int).length : Int)) (ea_cons (ev_cb (ea_cons (ev_var rfl) ea_nil) (rc_len hS)) ea_nil) (by rw [List.length_map]; omega)
    have en : ((rs.map V.int).length : Int).toNat = rs.length := by rw [List.length_map, Int.toNat_natCast]
    rw [en] at hi
    have q2 := el_lc (vs := [1]) (g := gName 1) (t := tTest (tOp rEq (tCall (sp_l_fall K) [] E0 (tCons (tVar 0) (tCons (tVar 1) tNil))) (tC (.int 0)))) (te := tVar 1) (stB rs) vn hi (by omega) ?_ g_name_mono
    · unfold given at q2
      exact q2
    · rintro i x H1 H2 hi e ⟨rfl, rfl⟩
      refine ⟨rfl, Ex.refl _, ?_, fun _ => ?_⟩
      · dsimp only
        rw [Int.zero_add]
        refine et_is (et_test (ev_op (ev_call (ea_cons (ev_var rfl) (ea_cons (ev_var rfl) ea_nil)) (v_l_fall (ex_l e hS) hl (by omega))) ev_c (rv_eq rfl))) ?_
        rw [fallN_zero, Int.toNat_natCast]
        unfold stB
        cases fallOf (rot rs i) <;> rfl
      · dsimp only
        rw [Int.zero_add]
        exact ev_var rfl
abbrev s_l_is_round : Stmt := topS 29
abbrev N_l_is_round : List Str := ["_law_row_here", "_law_stay_here", "_law_falls", "_law_rest", "_law_turn", "_law_many"]
theorem sc_l_is_round : FnScope N_l_is_round ["_law_row_here", "_law_stay_here", "_law_falls"] (defScope s_l_is_round) := ⟨rfl, rfl, rfl, by decide +kernel, rfl, by decide +kernel, by decide +kernel⟩
theorem ok_l_is_round {P : Program} {w : World} {K : PySem.W.Frag} {mg : Str → Option Value} {base : Heap} {A : Ad} {f : Addr} {fd : FuncData} (T : Txt K mg A) (Dx : Df K mg "_law_is_round" s_l_is_round ["_law_row_here", "_law_stay_here", "_law_falls"] f fd) (c_l_falls_right : Cal P w K mg base 1 "_law_falls_right" ["_law_row_here", "_law_turn", "_law_many"] (sp_l_falls_right K)) (c_l_stay : Cal P w K mg base 2 "_law_stay" ["_law_row_here"] (sp_l_stay K)) :
    Cal P w K mg base 3 "_law_is_round" ["_law_row_here", "_law_stay_here", "_law_falls"] (sp_l_is_round K) := by
  obtain ⟨f_l_falls_right, fd_l_falls_right, G_l_falls_right, k_l_falls_right, bd_l_falls_right, g_l_falls_right⟩ := c_l_falls_right
  obtain ⟨f_l_stay, fd_l_stay, G_l_stay, k_l_stay, bd_l_stay, g_l_stay⟩ := c_l_stay
  refine Dx.cal (Dx.F.ok sc_l_is_round (fun vs H Q E h => ?_) (fun cdv Ar outer s H vs Q E hr h => ?_))
  · obtain ⟨a, l1, l2, rs, st, ts, fs, rfl, hS, hl, h1, h2, pr, hst, hfs, q⟩ := h
    rfl
  · obtain ⟨a, l1, l2, rs, st, ts, fs, rfl, hS, hl, h1, h2, pr, hst, hfs, q⟩ := h
    refine ⟨_, (pss_cons (ps_setLc (i := 3) (own := [("_law_turn", 4), ("_law_many", 5)]) (tt := tYes) (g := (gTup K 2 (gCons (gName 4) (gCons (gName 5) gNil)))) (te := (tVar 4)) rfl sc_l_is_round.nd rfl rfl (sw_true rfl rfl rfl (by decide +kernel)) (pi_list (pv 2)) (blkOk_by (own := [("_law_turn", 4), ("_law_many", 5)]) (N := N_l_is_round) (sc := defScope s_l_is_round) (by decide +kernel)) (fun _ _ _ _ _ => (pg_tup rfl (pgs_cons (pg_name (i := 4) sc_l_is_round.nd rfl (Or.inl rfl) (hf := Or.inr rfl)) (pgs_cons (pg_name (i := 5) sc_l_is_round.nd rfl (Or.inl rfl) (hf := Or.inr rfl)) pgs_nil)))) (fun _ _ _ _ _ => pts_nil) (fun _ _ _ _ _ => (pv 4)))
      (pss_cons (ps_if (PW.pt (pw_or (pt_cmpR (tl_neD hr.units) (pv 1) (pe_call G_l_stay (hr.mono (by decide)) (by rfl) g_l_stay k_l_stay bd_l_stay .nil pass0 (pa_cons (pv 0) pa_nil)) (nomark _)) (pw_or1 (pt_cmpR (tl_neD hr.units) (pe_callB cr_sortedI (by rfl) T.b_sorted (by decide +kernel) (pa_cons (pe_op tl_cat (pv 1) (pv 3)) pa_nil)) (pe_listRg rfl (by rfl) T.b_list (prg_1 (by rfl) T.b_range (pe_callB tl_len (by rfl) T.b_len (by decide +kernel) (pa_cons (pv 0) pa_nil)))) (nomark _))))) (pss_one (ps_ret pe_bl)) pss_nil)
      (pss_one (ps_ret (pe_callB (cr_all rfl) (by rfl) T.b_all (by decide +kernel) (pa_cons (pe_lc (own := [("_law_turn", 4), ("_law_many", 5)]) (tt := tYes) (g := (gTup K 2 (gCons (gName 4) (gCons (gName 5) gNil)))) (te := (tCall (sp_l_falls_right K) [] E0 (tCons (tVar 0) (tCons (tVar 4) (tCons (tVar 5) tNil))))) rfl sc_l_is_round.nd (pi_list (pv 2)) (blkOk_by (own := [("_law_turn", 4), ("_law_many", 5)]) (N := N_l_is_round) (sc := defScope s_l_is_round) (by decide +kernel)) (fun _ _ _ _ _ => (pg_tup rfl (pgs_cons (pg_name (i := 4) sc_l_is_round.nd rfl (Or.inl rfl) (hf := Or.inr rfl)) (pgs_cons (pg_name (i := 5) sc_l_is_round.nd rfl (Or.inl rfl) (hf := Or.inr rfl)) pgs_nil)))) (fun _ _ _ _ _ => pts_nil) (fun _ _ _ _ _ => (pe_call G_l_falls_right (hr.mono (by decide)) (by rfl) g_l_falls_right k_l_falls_right bd_l_falls_right .nil pass0 (pa_cons (pv 0) (pa_cons (pv 4) (pa_cons (pv 5) pa_nil)))))) pa_nil)))))), ?_⟩
    try dsimp only [cxOf, Cx.nox, Cx.wish, Cx.blk]
    refine q_asgL (xs := fs.map fun p => V.int p.1) (el_pairs (fun p => V.int p.1) (ev_var rfl) (sq_of h2) pr (by omega) (fun _ _ => rfl) (fun p H1 hp e1 => ev_var rfl)) fun o H1 ho e1 ho1 => ?_
    have ho1' : H1 o = some (.lst ((fs.map Prod.fst).map V.int)) := by
      rw [ho1, List.map_map]
      rfl
    have hS1 := ex_l e1 hS
    have cat1 : EvL (tOp rCat (tVar 1) (tVar 3)) (List.set (L2.start N_l_is_round [V.ref a, V.ref l1, V.ref l2]) 3 (some (V.ref o))) H1 ((st ++ fs.map Prod.fst).map V.int) := by
      rw [List.map_append]
      exact el_catVV (ev_var rfl) (e1 _ _ h1) (ev_var rfl) ho1' (by simp; omega)
    refine q_when (et_or (et_test (ev_neI (ed_var (ev_var rfl) (sq_of (e1 _ _ h1))) (ed_ints (el_call (ea_cons (ev_var rfl) ea_nil) (v_l_stay hS1 hl))))) (fun _ => et_test (ev_neI (ed_ints (el_sortedN cat1 (isort_perm _).symm (isort_sorted _))) (ed_ints (el_range (n := rs.length) (ev_is (ev_cb (ea_cons (ev_var rfl) ea_nil) (rc_len hS1)) (by rw [List.length_map])) (by omega)))))) (fun hb H2 e2 => ?_) (fun hb H2 e2 => ?_)
    · refine s_ret ev_c fun H3 e3 => ?_
      have z : isRoundV rs st fs = false := by
        unfold isRoundV
        rw [Bool.or_eq_true, Bool.not_eq_true', Bool.not_eq_true'] at hb
        rcases hb with hb | hb
        · rw [hb]
          rfl
        · have hb' : decide (isort (st ++ fs.map Prod.fst) = rangeI rs.length) = false := hb
          rw [hb']
          simp
      rw [RetV, z] at q
      exact q H3 (e1.trans (e2.trans e3))
    · rw [Bool.or_eq_false_iff, Bool.not_eq_false', Bool.not_eq_false'] at hb
      have b2 : isort (st ++ fs.map Prod.fst) = rangeI rs.length := of_decide_eq_true hb.2
      obtain ⟨rg1, rg2⟩ := perm_range b2
      have hS2 := ex_l e2 hS1
      have E2 := e1.trans e2
      refine s_ret (ev_cbL (el_pairs (fun p => V.bl (fallsT rs p.1 p.2)) (ev_var rfl) (sq_of (E2 _ _ h2)) (pr.ex E2) (by omega) (fun _ _ => rfl) (fun p H5 hp e5 => ev_call (ea_cons (ev_var rfl) (ea_cons (ev_var rfl) (ea_cons (ev_var rfl) ea_nil))) (v_l_falls_right (ex_l e5 hS2) hl (rg2 p hp).1))) fun p H5 e5 h5 => rc_allM (sq_of h5)) fun H5 e5 => ?_
      have z : isRoundV rs st fs = fs.all fun p => fallsT rs p.1 p.2 := by
        unfold isRoundV
        rw [hb.1, decide_eq_true b2]
        simp
      rw [RetV, z] at q
      exact q H5 (E2.trans e5)
abbrev s_l_says : Stmt := topS 30
abbrev N_l_says : List Str := ["_law_said", "_law_due"]
theorem sc_l_says : FnScope N_l_says ["_law_said", "_law_due"] (defScope s_l_says) := ⟨rfl, rfl, rfl, by decide +kernel, rfl, by decide +kernel, by decide +kernel⟩
theorem ok_l_says {P : Program} {w : World} {K : PySem.W.Frag} {mg : Str → Option Value} {base : Heap} {A : Ad} {f : Addr} {fd : FuncData} (T : Txt K mg A) (Dx : Df K mg "_law_says" s_l_says ["_law_said", "_law_due"] f fd)  :
    Cal P w K mg base 1 "_law_says" ["_law_said", "_law_due"] (sp_l_says K) := by
  refine Dx.cal (Dx.F.ok sc_l_says (fun vs H Q E h => ?_) (fun cdv Ar outer s H vs Q E hr h => ?_))
  · obtain ⟨b, c, rfl, q⟩ := h
    rfl
  · obtain ⟨b, c, rfl, q⟩ := h
    refine ⟨_, (pss_one (ps_ret (pe_and (pe_callB call_isi (by rfl) T.b_isinstance (by decide +kernel) (pa_cons (pv 0) (pa_cons (pe_bltn (v := .ty "bool") (by rfl) T.b_bool (by decide +kernel) rfl) pa_nil))) (pe_one (pe_cmpR tl_eq (pv 0) (pv 1) (nomark _)))))), ?_⟩
    try dsimp only [cxOf, Cx.nox, Cx.wish, Cx.blk]
    apply s_ret
    · walk_at "ev"
    · intro H1 e1
      rw [dec_bl]
      exact q H1 e1
abbrev s_l_built_right : Stmt := topS 31
abbrev N_l_built_right : List Str := ["_law_row_here", "_law_stay_here", "_law_falls", "_law_handed", "_law_answer"]
theorem sc_l_built_right : FnScope N_l_built_right ["_law_row_here", "_law_stay_here", "_law_falls"] (defScope s_l_built_right) := ⟨rfl, rfl, rfl, by decide +kernel, rfl, by decide +kernel, by decide +kernel⟩
theorem ok_l_built_right {P : Program} {w : World} {K : PySem.W.Frag} {mg : Str → Option Value} {base : Heap} {A : Ad} {f : Addr} {fd : FuncData} (T : Txt K mg A) (Dx : Df K mg "_law_built_right" s_l_built_right ["_law_row_here", "_law_stay_here", "_law_falls"] f fd) (c_Round_init : ICal P w K mg base 1 A.Round ["self", "stay", "falls"] (sp_Round_init K A)) (c_Round_shows : MCal P w K mg base 2 A.Round "shows" ["self", "row"] (sp_Round_shows K A)) (c_l_is_round : Cal P w K mg base 3 "_law_is_round" ["_law_row_here", "_law_stay_here", "_law_falls"] (sp_l_is_round K)) (c_l_says : Cal P w K mg base 1 "_law_says" ["_law_said", "_law_due"] (sp_l_says K)) :
    Cal P w K mg base 4 "_law_built_right" ["_law_row_here", "_law_stay_here", "_law_falls"] (sp_k02_built K A) := by
  obtain ⟨f_Round_init, fd_Round_init, G_Round_init, bd_Round_init, M_Round⟩ := c_Round_init
  obtain ⟨f_Round_shows, fd_Round_shows, G_Round_shows, bd_Round_shows, m_Round_shows⟩ := c_Round_shows
  obtain ⟨f_l_is_round, fd_l_is_round, G_l_is_round, k_l_is_round, bd_l_is_round, g_l_is_round⟩ := c_l_is_round
  obtain ⟨f_l_says, fd_l_says, G_l_says, k_l_says, bd_l_says, g_l_says⟩ := c_l_says
  refine Dx.cal (Dx.F.ok sc_l_built_right (fun vs H Q E h => ?_) (fun cdv Ar outer s H vs Q E hr h => ?_))
  · obtain ⟨a, b, c, rs, st, ts, fs, rfl, hS, hl, hb, hc, hP, hst, hfs, q⟩ := h
    rfl
  · obtain ⟨a, b, c, rs, st, ts, fs, rfl, hS, hl, hb, hc, hP, hst, hfs, q⟩ := h
    refine ⟨_, (pss_cons (ps_set (i := 3) sc_l_built_right.nd rfl (Or.inl rfl) (pe_lst (pa_cons (pe_callTy tl_list (by rfl) T.b_list (by decide +kernel) (pa_cons (pv 1) pa_nil)) (pa_cons (pe_callTy tl_list (by rfl) T.b_list (by decide +kernel) (pa_cons (pv 2) pa_nil)) pa_nil))))
      (pss_cons (ps_set (i := 4) sc_l_built_right.nd rfl (Or.inl rfl) (pe_make M_Round G_Round_init (hr.mono (by decide)) (by rfl) T.g_Round bd_Round_init .nil pass0 (pa_cons (pe_ix ix_list (pv 3) pe_int (fun _ _ => rfl)) (pa_cons (pe_ix ix_list (pv 3) pe_int (fun _ _ => rfl)) pa_nil))))
      (pss_cons (ps_expr (pe_bm PySem.F.plainAttrs_list PySem.F.slot_list_append PySem.F.type_list_append mt_append (pe_ix ix_list (pv 3) pe_int (fun _ _ => rfl)) (pa_cons pe_int pa_nil)))
      (pss_cons (ps_expr (pe_bm PySem.F.plainAttrs_list PySem.F.slot_list_append PySem.F.type_list_append mt_append (pe_ix ix_list (pv 3) pe_int (fun _ _ => rfl)) (pa_cons (pe_tup (pa_cons pe_int (pa_cons pe_int pa_nil))) pa_nil)))
      (pss_cons (ps_if (pt_cmpR (tl_neD hr.units) (pe_lst (pa_cons (pe_fld (pv 4) rfl) (pa_cons (pe_fld (pv 4) rfl) pa_nil))) (pe_lst (pa_cons (pv 1) (pa_cons (pv 2) pa_nil))) (nomark _)) (pss_one (ps_ret pe_bl)) pss_nil)
      (pss_one (ps_ret (pe_call G_l_says (hr.mono (by decide)) (by rfl) g_l_says k_l_says bd_l_says .nil pass0 (pa_cons (pe_meth (pv 4) T.t_Round.cl m_Round_shows G_Round_shows (hr.mono (by decide)) bd_Round_shows .nil pass0 (pa_cons (pv 0) pa_nil)) (pa_cons (pe_call G_l_is_round (hr.mono (by decide)) (by rfl) g_l_is_round k_l_is_round bd_l_is_round .nil pass0 (pa_cons (pv 0) (pa_cons (pv 1) (pa_cons (pv 2) pa_nil)))) pa_nil)))))))))), ?_⟩
    try dsimp only [cxOf, Cx.nox, Cx.wish, Cx.blk]
    refine q_asgL2 (el_list (ev_var rfl) (sq_of hb)) (el_list (ev_var rfl) (sq_of hc)) fun p1 p2 p H1 n1 n2 n12 np1 np2 e1 h1 h2 hp => ?_
    refine q_asgR (er_make (ea_cons (ev_op (ev_var rfl) ev_c (rv_ixL (sq_of hp) (atI_nat (j := 0) rfl))) (ea_cons (ev_op (ev_var rfl) ev_c (rv_ixL (sq_of hp) (atI_nat (j := 1) rfl))) ea_nil)) (sq_of h1) (sq_of h2)) fun x dx l1 l2 H2 nx nl1 nl2 nl12 e2 hx hl1 hl2 => ?_
    refine q_app (e2 _ _ h1) (ev_op (ev_var rfl) ev_c (rv_ixL (sq_of (e2 _ _ hp)) (atI_nat (j := 0) rfl))) (v := .int 0) ev_c (by rw [List.length_map]; omega) fun H3 e3 => ?_
    have q1 : x ≠ p1 := (ne_of_none h1 nx).symm
    have q2 : x ≠ p2 := (ne_of_none h2 nx).symm
    have q3 : l1 ≠ p1 := (ne_of_none h1 nl1).symm
    have q4 : l1 ≠ p2 := (ne_of_none h2 nl1).symm
    have q5 : l2 ≠ p1 := (ne_of_none h1 nl2).symm
    have q6 : l2 ≠ p2 := (ne_of_none h2 nl2).symm
    have hq4 : (upd H3 p1 (.lst (st.map V.int ++ [.int 0]))) p2 = some (.lst ts) := by rw [upd_ne n12.symm]; exact e3 _ _ (e2 _ _ h2)
    refine q_appU hq4 (ev_op (ev_var rfl) ev_c (rv_ixL (sq_of (xs := [.ref p1, .ref p2]) (by rw [upd_ne np1]; exact e3 _ _ (e2 _ _ hp))) (atI_nat (j := 1) rfl))) (eu_tup (ea_cons ev_c (ea_cons ev_c ea_nil)) (by show 2 ≤ 100000; decide)) (by rw [hP.1]; omega) fun T' H4 hT' e4 h4 => ?_
    have hx4 := e4 x (.ins A.Round dx (rf l1 l2)) (by rw [upd_ne q1]; exact e3 _ _ hx)
    have hl14 := e4 l1 (.lst (st.map V.int)) (by rw [upd_ne q3]; exact e3 _ _ hl1)
    have hl24 := e4 l2 (.lst ts) (by rw [upd_ne q5]; exact e3 _ _ hl2)
    have E4 : Ex H (upd H4 p2 (.lst (ts ++ [.ref T']))) := Ex.mut ((Ex.mut (e1.trans (e2.trans e3)) n1).trans e4) n2
    have RA : RndAt A (upd H4 p2 (.lst (ts ++ [.ref T']))) x l1 l2 st ts fs := ⟨⟨dx, by rw [upd_ne q2]; exact hx4⟩, by rw [upd_ne q4]; exact hl14, by rw [upd_ne q6]; exact hl24, hP.ex E4⟩
    generalize upd H4 p2 (.lst (ts ++ [.ref T'])) = H5 at *
    have hb5 := E4 _ _ hb
    have hc5 := E4 _ _ hc
    have hP5 := hP.ex E4
    have hS5 := ex_l E4 hS
    obtain ⟨dx5, hob⟩ := RA.ob
    have noS : (rf l1 l2).lookup ("shows" : Str) = none := rf_no (by decide +kernel) (by decide +kernel) l1 l2
    refine q_when (b := false) (et_test (ev_neSame (d := .list [.list (st.map PyData.int), .list (fs.map pairD)]) (ed_lst (eda_cons (ed_ev (ev_fld (ev_var rfl) hob T.t_Round.cl T.n_Round_stay (rf_stay l1 l2)) (dp_ints (sq_of RA.h1))) (eda_cons (ed_ev (ev_fld (ev_var rfl) hob T.t_Round.cl T.n_Round_falls (rf_falls l1 l2)) (dp_pairs RA.h2 RA.pr)) eda_nil)) (by show 2 ≤ 100000; decide)) (ed_lst (eda_cons (ed_ev (ev_var rfl) (dp_ints (sq_of hb5))) (eda_cons (ed_ev (ev_var rfl) (dp_pairs hc5 hP5)) eda_nil)) (by show 2 ≤ 100000; decide)) (fine_le (fine_two (k := 2) (fine_le (fine_ints 0 st) (by decide)) (fine_pairs fs)) (by decide)))) (fun hb => nomatch hb) fun _ H6 e6 => ?_
    have RA6 := RA.ex e6
    obtain ⟨dx6, hob6⟩ := RA6.ob
    have hS6 := ex_l e6 hS5
    refine s_ret (ev_is (ev_call (ea_cons (ev_meth (ev_var rfl) hob6 noS (ea_cons (ev_var rfl) ea_nil) (v_Round_shows RA6 hS6 (by omega) (by omega) (by omega))) (ea_cons (ev_call (ea_cons (ev_var rfl) (ea_cons (ev_var rfl) (ea_cons (ev_var rfl) ea_nil))) (v_l_is_round hS6 (by omega) (e6 _ _ hb5) (e6 _ _ hc5) (hP5.ex e6) (by omega) (by omega))) ea_nil)) v_l_says) ?_) fun H7 e7 => q H7 (E4.trans (e6.trans e7))
    rw [shows_is, decide_eq_true rfl]
abbrev s_l_cell_at : Stmt := topS 22
abbrev N_l_cell_at : List Str := ["_law_script", "_law_k"]
theorem sc_l_cell_at : FnScope N_l_cell_at ["_law_script", "_law_k"] (defScope s_l_cell_at) := ⟨rfl, rfl, rfl, by decide +kernel, rfl, by decide +kernel, by decide +kernel⟩
theorem ok_l_cell_at {P : Program} {w : World} {K : PySem.W.Frag} {mg : Str → Option Value} {base : Heap} {A : Ad} {f : Addr} {fd : FuncData} (T : Txt K mg A) (Dx : Df K mg "_law_cell_at" s_l_cell_at ["_law_script", "_law_k"] f fd)  :
    Cal P w K mg base 1 "_law_cell_at" ["_law_script", "_law_k"] (sp_l_cell_at K) := by
  refine Dx.cal (Dx.F.ok sc_l_cell_at (fun vs H Q E h => ?_) (fun cdv Ar outer s H vs Q E hr h => ?_))
  · obtain ⟨a, ns, k, rfl, hS, hk, q⟩ := h
    rfl
  · obtain ⟨a, ns, k, rfl, hS, hk, q⟩ := h
    refine ⟨_, (pss_cons (ps_if (pt_cmpR tl_lt (pv 1) (pe_callB tl_len (by rfl) T.b_len (by decide +kernel) (pa_cons (pv 0) pa_nil)) (nomark _)) (pss_one (ps_ret (pe_ix ix_list (pv 0) (pv 1) (fun _ _ => rfl)))) pss_nil)
      (pss_one (ps_ret pe_int))), ?_⟩
    try dsimp only [cxOf, Cx.nox, Cx.wish, Cx.blk]
    apply q_when
    · walk_at "ev"
    · intro hb H1 e1
      have hb := of_decide_eq_true hb
      rw [List.length_map] at hb
      refine s_ret (ev_ixLI (ev_var rfl) (ex_l e1 hS) (ev_var rfl) hk hb) fun H2 e2 => q H2 (e1.trans e2)
    · intro hb H1 e1
      have hb := of_decide_eq_false hb
      rw [List.length_map] at hb
      refine s_ret ev_c fun H2 e2 => ?_
      have z : cellV ns k = 0 := by
        unfold cellV
        rw [List.getD_eq_getElem?_getD, List.getElem?_eq_none (by omega)]
        rfl
      rw [RetV, z] at q
      exact q H2 (e1.trans e2)
abbrev s_l_draw : Stmt := topS 23
abbrev N_l_draw : List Str := ["_law_cell", "_law_k", "_law_most", "_law_primes"]
theorem sc_l_draw : FnScope N_l_draw ["_law_cell", "_law_k", "_law_most"] (defScope s_l_draw) := ⟨rfl, rfl, rfl, by decide +kernel, rfl, by decide +kernel, by decide +kernel⟩
theorem ok_l_draw {P : Program} {w : World} {K : PySem.W.Frag} {mg : Str → Option Value} {base : Heap} {A : Ad} {f : Addr} {fd : FuncData} (T : Txt K mg A) (Dx : Df K mg "_law_draw" s_l_draw ["_law_cell", "_law_k", "_law_most"] f fd)  :
    Cal P w K mg base 1 "_law_draw" ["_law_cell", "_law_k", "_law_most"] (sp_l_draw K) := by
  refine Dx.cal (Dx.F.ok sc_l_draw (fun vs H Q E h => ?_) (fun cdv Ar outer s H vs Q E hr h => ?_))
  · obtain ⟨c, k, most, rfl, hk, hk2, hm, q⟩ := h
    rfl
  · obtain ⟨c, k, most, rfl, hk, hk2, hm, q⟩ := h
    refine ⟨_, (pss_cons (ps_set (i := 3) sc_l_draw.nd rfl (Or.inl rfl) (pe_tup (pa_cons pe_int (pa_cons pe_int (pa_cons pe_int (pa_cons pe_int (pa_cons pe_int (pa_cons pe_int (pa_cons pe_int (pa_cons pe_int (pa_cons pe_int (pa_cons pe_int (pa_cons pe_int (pa_cons pe_int (pa_cons pe_int (pa_cons pe_int (pa_cons pe_int (pa_cons pe_int pa_nil))))))))))))))))))
      (pss_one (ps_ret (pe_op tl_mod (pe_op tl_mod (pe_op tl_add (pe_op tl_mul (pv 0) pe_int) (pe_op tl_mul (pv 1) pe_int)) (pe_ix ix_tup (pv 3) (pe_op tl_mod (pv 1) pe_int) (fun _ _ => rfl))) (pv 2))))), ?_⟩
    try dsimp only [cxOf, Cx.nox, Cx.wish, Cx.blk]
    refine (q_asgU (eu_tup (vs := primesL.map V.int) ?_ (by decide)) fun p H1 hp e1 h1 => ?_)
    · exact (ea_cons ev_c (ea_cons ev_c (ea_cons ev_c (ea_cons ev_c (ea_cons ev_c (ea_cons ev_c (ea_cons ev_c (ea_cons ev_c (ea_cons ev_c (ea_cons ev_c (ea_cons ev_c (ea_cons ev_c (ea_cons ev_c (ea_cons ev_c (ea_cons ev_c (ea_cons ev_c ea_nil))))))))))))))))
    · have hpp := primes_pos (k % 16) (by omega) (by omega)
      apply s_ret
      · apply ev_op
        · apply ev_op
          · walk_at "ev"
          · refine ev_ixTI (ns := primesL) (i := k % 16) (ev_var rfl) (st_of h1) ?_ (by omega) (by show k % 16 < 16; omega)
            walk_at "ev"
          · exact rv_I hpp
        · exact ev_var rfl
        · exact rv_I hm
      · intro H2 e2
        exact q H2 (e1.trans e2)
abbrev s_l_number : Stmt := topS 24
abbrev N_l_number : List Str := ["_law_cell", "_law_k", "_law_limit", "_law_d"]
theorem sc_l_number : FnScope N_l_number ["_law_cell", "_law_k", "_law_limit"] (defScope s_l_number) := ⟨rfl, rfl, rfl, by decide +kernel, rfl, by decide +kernel, by decide +kernel⟩
theorem ok_l_number {P : Program} {w : World} {K : PySem.W.Frag} {mg : Str → Option Value} {base : Heap} {A : Ad} {f : Addr} {fd : FuncData} (T : Txt K mg A) (Dx : Df K mg "_law_number" s_l_number ["_law_cell", "_law_k", "_law_limit"] f fd) (c_l_draw : Cal P w K mg base 1 "_law_draw" ["_law_cell", "_law_k", "_law_most"] (sp_l_draw K)) :
    Cal P w K mg base 2 "_law_number" ["_law_cell", "_law_k", "_law_limit"] (sp_l_number K) := by
  obtain ⟨f_l_draw, fd_l_draw, G_l_draw, k_l_draw, bd_l_draw, g_l_draw⟩ := c_l_draw
  refine Dx.cal (Dx.F.ok sc_l_number (fun vs H Q E h => ?_) (fun cdv Ar outer s H vs Q E hr h => ?_))
  · obtain ⟨c, k, lim, rfl, hk, hk2, hm, hm2, q⟩ := h
    rfl
  · obtain ⟨c, k, lim, rfl, hk, hk2, hm, hm2, q⟩ := h
    refine ⟨_, (pss_cons (ps_if (pt_cmpR tl_ge (pv 0) (pe_op tl_pow pe_int pe_int) (nomark _)) (pss_cons (ps_set (i := 3) sc_l_number.nd rfl (Or.inl rfl) (pe_ix ix_tup (pe_tup (pa_cons pe_int (pa_cons pe_int (pa_cons pe_int (pa_cons pe_int (pa_cons pe_int pa_nil)))))) (pe_op tl_mod (pv 1) pe_int) (fun _ _ => rfl)))
      (pss_one (ps_ret (pe_op tl_fdiv (pe_op tl_mod (pe_op tl_sub (pv 0) (pe_op tl_pow pe_int pe_int)) (pe_op tl_mul (pv 3) (pv 2))) (pv 3))))) pss_nil)
      (pss_cons (ps_if (pt_cmpR tl_lt (pv 0) (pe_un un_neg (pe_op tl_pow pe_int pe_int)) (nomark _)) (pss_one (ps_set (i := 0) sc_l_number.nd rfl (Or.inl rfl) (pe_op tl_mod (pv 0) pe_int))) pss_nil)
      (pss_one (ps_ret (pe_op tl_mod (pe_call G_l_draw (hr.mono (by decide)) (by rfl) g_l_draw k_l_draw bd_l_draw .nil pass0 (pa_cons (pe_op tl_mulW (pe_op tl_add (pv 0) (pe_op tl_mul pe_int (pv 1))) (pe_op tl_add (pe_op tl_add (pv 0) (pe_op tl_mul pe_int (pv 1))) pe_int)) (pa_cons (pe_op tl_add (pe_op tl_mod (pv 1) pe_int) pe_int) (pa_cons pe_int pa_nil)))) (pv 2)))))), ?_⟩
    try dsimp only [cxOf, Cx.nox, Cx.wish, Cx.blk]
    apply q_when
    · walk_at "ev"
    · intro hb H1 e1
      rw [pow18] at hb
      have hb := of_decide_eq_true hb
      have hd := dV_bound k
      have hp : 0 < dV k * lim := Int.mul_pos (by omega) hm
      refine (q_asg (v := .int (dV k)) (ev_ixUI dsL ?_ (by decide) (i := k % 5) ?_ (by omega) (by show k % 5 < 5; omega)) fun H2 e2 => ?_)
      · exact (ea_cons ev_c (ea_cons ev_c (ea_cons ev_c (ea_cons ev_c (ea_cons ev_c ea_nil)))))
      · walk_at "ev"
      · apply s_ret
        · apply ev_op
          · apply ev_op
            · walk_at "ev"
            · walk_at "ev"
            · exact rv_I hp
          · exact ev_var rfl
          · refine rv_I ⟨by omega, by omega⟩
        · intro H3 e3
          rw [pow18]
          have z : numV c k lim = (c - 1000000000000000000) % (dV k * lim) / dV k := by
            unfold numV
            rw [if_pos hb]
          rw [RetV, z] at q
          exact q H3 ((e1.trans e2).trans e3)
    · intro hb H1 e1
      rw [pow18] at hb
      have hb := of_decide_eq_false hb
      have hw := smallV_wide (c := c) (by omega) hk hk2
      apply q_ifAsg (v := .int (smallV c))
      · walk_at "ev"
      · intro hb2
        rw [pow18] at hb2
        have hb2 := of_decide_eq_true hb2
        have z : smallV c = c % 1000811284336359577647248616306026718125307353262274591 := by
          unfold smallV
          rw [if_pos hb2]
        rw [z]
        walk_at "ev"
      · intro hb2
        rw [pow18] at hb2
        have hb2 := of_decide_eq_false hb2
        have z : smallV c = c := by
          unfold smallV
          rw [if_neg hb2]
        rw [z]
        rfl
      · intro H2 e2
        apply s_ret
        · apply ev_op
          · apply ev_call
            · apply ea_cons
              · apply ev_op
                · walk_at "ev"
                · walk_at "ev"
                · exact rv_I hw
              · walk_at "ev"
            · walk_at "ev"
          · exact ev_var rfl
          · exact rv_I hm
        · intro H3 e3
          have z : numV c k lim = drawV ((smallV c + 977 * k) * (smallV c + 31 * k + 5)) (k % 9 + 1) 999983 % lim := by
            unfold numV
            rw [if_neg hb]
          rw [RetV, z] at q
          exact q H3 ((e1.trans e2).trans e3)
abbrev s_l_row : Stmt := topS 25
abbrev N_l_row : List Str := ["_law_script", "_law_by", "_law_most", "_law_lead", "_law_found", "_law_kind", "_law_many", "_law_at", "_law_cell", "_law_step"]
theorem sc_l_row : FnScope N_l_row ["_law_script", "_law_by", "_law_most"] (defScope s_l_row) := ⟨rfl, rfl, rfl, by decide +kernel, rfl, by decide +kernel, by decide +kernel⟩
theorem ok_l_row {P : Program} {w : World} {K : PySem.W.Frag} {mg : Str → Option Value} {base : Heap} {A : Ad} {f : Addr} {fd : FuncData} (T : Txt K mg A) (Dx : Df K mg "_law_row" s_l_row ["_law_script", "_law_by", "_law_most"] f fd) (c_l_cell_at : Cal P w K mg base 1 "_law_cell_at" ["_law_script", "_law_k"] (sp_l_cell_at K)) (c_l_number : Cal P w K mg base 2 "_law_number" ["_law_cell", "_law_k", "_law_limit"] (sp_l_number K)) :
    Cal P w K mg base 3 "_law_row" ["_law_script", "_law_by", "_law_most"] (sp_l_row K) := by
  obtain ⟨f_l_cell_at, fd_l_cell_at, G_l_cell_at, k_l_cell_at, bd_l_cell_at, g_l_cell_at⟩ := c_l_cell_at
  obtain ⟨f_l_number, fd_l_number, G_l_number, k_l_number, bd_l_number, g_l_number⟩ := c_l_number
  refine Dx.cal (Dx.F.ok sc_l_row (fun vs H Q E h => ?_) (fun cdv Ar outer s H vs Q E hr h => ?_))
  · obtain ⟨a, ns, b, m, rfl, hS, hb0, hb, hm1, hm, q⟩ := h
    rfl
  · obtain ⟨a, ns, b, m, rfl, hS, hb0, hb, hm1, hm, q⟩ := h
    refine ⟨_, (pss_cons (ps_par (i := 3) (j := 4) (by rfl) sc_l_row.nd rfl rfl (by decide) rfl rfl (pa_cons (pe_call G_l_cell_at (hr.mono (by decide)) (by rfl) g_l_cell_at k_l_cell_at bd_l_cell_at .nil pass0 (pa_cons (pv 0) (pa_cons (pv 1) pa_nil))) (pa_cons (pe_lst pa_nil) pa_nil)) (by rfl))
      (pss_cons (ps_par (i := 5) (j := 6) (by rfl) sc_l_row.nd rfl rfl (by decide) rfl rfl (pa_cons (pe_call G_l_number (hr.mono (by decide)) (by rfl) g_l_number k_l_number bd_l_number .nil pass0 (pa_cons (pv 3) (pa_cons (pe_op tl_add (pv 1) pe_int) (pa_cons pe_int pa_nil)))) (pa_cons (pe_op tl_add pe_int (pe_call G_l_number (hr.mono (by decide)) (by rfl) g_l_number k_l_number bd_l_number .nil pass0 (pa_cons (pv 3) (pa_cons (pe_op tl_add (pv 1) pe_int) (pa_cons (pv 2) pa_nil))))) pa_nil)) (by rfl))
      (pss_cons (ps_for PassesOwn.never rfl (pi_range1 (by rfl) T.b_range (pa_cons (pv 6) pa_nil)) (pg_name (i := 7) sc_l_row.nd rfl (Or.inl rfl) (hf := Or.inr rfl)) (pss_cons (ps_set (i := 8) sc_l_row.nd rfl (Or.inl rfl) (pe_op tl_add (pe_call G_l_cell_at (hr.mono (by decide)) (by rfl) g_l_cell_at k_l_cell_at bd_l_cell_at .nil pass0 (pa_cons (pv 0) (pa_cons (pe_op tl_add (pv 1) (pe_op tl_mod (pv 7) pe_int)) pa_nil))) (pe_op tl_mul pe_int (pv 7))))
      (pss_cons (ps_set (i := 9) sc_l_row.nd rfl (Or.inl rfl) (pe_op tl_sub pe_int (pe_call G_l_number (hr.mono (by decide)) (by rfl) g_l_number k_l_number bd_l_number .nil pass0 (pa_cons (pv 8) (pa_cons (pe_op tl_add (pv 7) pe_int) (pa_cons pe_int pa_nil))))))
      (Evl.pss_cut (ps_if (PW.pt (pw_or (PW.pt (pw_and (pt_cmpR tl_lt (pv 5) pe_int (nomark _)) (pw_and1 (pt_cmpR tl_gt (pe_call G_l_number (hr.mono (by decide)) (by rfl) g_l_number k_l_number bd_l_number .nil pass0 (pa_cons (pv 8) (pa_cons (pe_op tl_add (pv 7) pe_int) (pa_cons (pe_ix ix_tup (pe_tup (pa_cons pe_int (pa_cons pe_int (pa_cons pe_int (pa_cons pe_int pa_nil))))) (pv 5) (fun _ _ => rfl)) pa_nil)))) pe_int (nomark _))))) (pw_or1 (PW.pt (pw_and (pt_cmpR tl_eq (pv 5) pe_int (nomark _)) (pw_and1 (pt_cmpR tl_gt (pv 7) (pe_op tl_fdiv (pv 6) pe_int) (nomark _)))))))) (pss_one (ps_set (i := 9) sc_l_row.nd rfl (Or.inl rfl) pe_int)) pss_nil)
      (Evl.pss_cut (ps_if (PW.pt (pw_and (pt_cmpR tl_eq (pv 5) pe_int (nomark _)) (pw_and1 (pt_cmpR tl_ge (pv 7) pe_int (nomark _))))) (pss_one (ps_set (i := 9) sc_l_row.nd rfl (Or.inl rfl) (pe_ix ix_list (pv 4) (pe_op tl_mod (pv 7) pe_int) (fun _ _ => rfl)))) pss_nil)
      (Evl.pss_cut (ps_if (PW.pt (pw_and (pt_cmpR tl_eq (pv 5) pe_int (nomark _)) (pw_and1 (pt_cmpR tl_gt (pe_callB (cr_sum rfl) (by rfl) T.b_sum (by decide +kernel) (pa_cons (pv 4) pa_nil)) pe_int (nomark _))))) (pss_one (ps_set (i := 9) sc_l_row.nd rfl (Or.inl rfl) (pe_op tl_sub pe_int (pe_callB (tl_min2 rfl) (by rfl) T.b_min (by decide +kernel) (pa_cons pe_int (pa_cons (pe_callB (cr_sum rfl) (by rfl) T.b_sum (by decide +kernel) (pa_cons (pv 4) pa_nil)) pa_nil)))))) pss_nil)
      (Evl.pss_cut (ps_if (pt_cmpR tl_eq (pv 5) pe_int (nomark _)) (pss_one (ps_set (i := 9) sc_l_row.nd rfl (Or.inl rfl) (pe_ifExp (pt_cmpR tl_eq (pe_op tl_mod (pv 7) pe_int) pe_int (nomark _)) pe_int (pe_un un_neg pe_int)))) pss_nil)
      (pss_one (ps_expr (pe_bm PySem.F.plainAttrs_list PySem.F.slot_list_append PySem.F.type_list_append mt_append (pv 4) (pa_cons (pv 9) pa_nil)))))))))))
      (pss_one (ps_ret (pv 4)))))), ?_⟩
    try dsimp only [cxOf, Cx.nox, Cx.wish, Cx.blk]
    refine q_parVL (x := .int (cellV ns b)) ?_ (el_lst ea_nil (by decide)) fun p H1 hp e1 h1 => ?_
    · walk_at "ev"
    have hS1 := ex_l e1 hS
    have hkb := numV_bound (c := cellV ns b) (k := b + 1) (lim := 6) (by omega)
    have hmb := numV_bound (c := cellV ns b) (k := b + 2) (lim := m) (by omega)
    refine q_par (x := .int (numV (cellV ns b) (b + 1) 6)) (y := .int (1 + numV (cellV ns b) (b + 2) m)) ?_ fun H2 e2 => ?_
    · walk_at "ev"
    generalize numV (cellV ns b) (b + 1) 6 = kd at *
    generalize numV (cellV ns b) (b + 2) m = mm at *
    have h2 := e2 _ _ h1
    have E2 := e1.trans e2
    refine q_forR1 (n := 1 + mm) (ea_cons (ev_var rfl) ea_nil) (by omega) (fun i σ' H' => ∃ (rs : List Int) (y7 y8 y9 : Option V), σ' = [some (.ref a), some (.int b), some (.int m), some (.int (cellV ns b)), some (.ref p), some (.int kd), some (.int (1 + mm)), y7, y8, y9] ∧ Ex H H' ∧ H' p = some (.lst (rs.map V.int)) ∧ Steps i rs) (fun H3 e3 => ⟨[], none, none, none, rfl, E2.trans e3, e3 _ _ h2, ⟨rfl, fun s hs => by cases hs⟩⟩) ?_ ?_
    · rintro i σ' H' hi ⟨rs, y7, y8, y9, rfl, e, h, st⟩
      have hS' := ex_l e hS
      have hsq : SqL K H' p (rs.map V.int) := sq_of h
      have hlen := st.len
      have hc6 := numV_bound (c := cellV ns (b + (i : Int) % 7) + 23 * (i : Int)) (k := (i : Int) + 1) (lim := 6) (by omega)
      apply q_asg
      · walk_at "ev"
      intro H3 e3
      apply q_asg
      · walk_at "ev"
      intro H4 e4
      generalize cellV ns (b + (i : Int) % 7) + 23 * (i : Int) = cc at *
      generalize numV cc ((i : Int) + 1) 6 = c6 at *
      -- if kind < 4 and .. or kind == 5 and ..
      refine q_cut (M := fun σ5 H5 => ∃ s : Int, -4 ≤ s ∧ s ≤ 1 ∧ σ5 = [some (.ref a), some (.int b), some (.int m), some (.int (cellV ns b)), some (.ref p), some (.int kd), some (.int (1 + mm)), some (.int (i : Int)), some (.int cc), some (.int s)] ∧ Ex H H5 ∧ H5 p = some (.lst (rs.map V.int))) ?_ ?_
      · apply s_when
        · apply et_or
          · apply et_and
            · walk_at "ev"
            · intro hk4
              have hk4 := of_decide_eq_true hk4
              have hkl := kindsL_ok hkb.1 hk4
              refine et_test (ev_op (ev_call (ea_cons (ev_var rfl) (ea_cons (ev_op (ev_var rfl) ev_c rv_I0) (ea_cons (ev_ixUI kindsL ?_ (by decide) (ev_var rfl) hkb.1 hk4) ea_nil))) (v_l_number (by omega) (by omega) hkl.1 (by omega))) ev_c rv_I0)
              exact (ea_cons ev_c (ea_cons ev_c (ea_cons ev_c (ea_cons ev_c ea_nil))))
          · intro _
            walk_at "ev"
        · intro _ H5 e5
          refine s_asg ev_c fun H6 e6 => ⟨1, by omega, by omega, rfl, e.trans (e3.trans (e4.trans (e5.trans e6))), e6 _ _ (e5 _ _ (e4 _ _ (e3 _ _ h)))⟩
        · intro _ H5 e5
          exact ⟨1 - c6, by omega, by omega, rfl, e.trans (e3.trans (e4.trans e5)), e5 _ _ (e4 _ _ (e3 _ _ h))⟩
      clear h e hsq hS' e3 e4
      rintro σ5 H5 ⟨s5, ls5, us5, rfl, e, h⟩
      have hsq : SqL K H5 p (rs.map V.int) := sq_of h
      refine q_cut (M := fun σ5 H5 => ∃ s : Int, -4 ≤ s ∧ s ≤ 1 ∧ σ5 = [some (.ref a), some (.int b), some (.int m), some (.int (cellV ns b)), some (.ref p), some (.int kd), some (.int (1 + mm)), some (.int (i : Int)), some (.int cc), some (.int s)] ∧ Ex H H5 ∧ H5 p = some (.lst (rs.map V.int))) ?_ ?_
      · apply s_when
        · walk_at "ev"
        · intro hbb H6 e6
          rw [Bool.and_eq_true] at hbb
          have h6 := of_decide_eq_true hbb.2
          have hmem : rs.getD ((i : Int) % 6).toNat 0 ∈ rs := getD_mem (by omega)
          have hst := st.stp _ hmem
          refine s_asg (v := .int (rs.getD ((i : Int) % 6).toNat 0)) (ev_ixLI (ev_var rfl) (ex_l e6 hsq) ?_ (by omega) (by omega)) fun H7 e7 => ⟨_, hst.1, hst.2, rfl, e.trans (e6.trans e7), e7 _ _ (e6 _ _ h)⟩
          walk_at "ev"
        · intro _ H6 e6
          exact ⟨s5, ls5, us5, rfl, e.trans e6, e6 _ _ h⟩
      clear h e hsq ls5 us5 s5 H5
      rintro σ5 H5 ⟨s5, ls5, us5, rfl, e, h⟩
      have hsq : SqL K H5 p (rs.map V.int) := sq_of h
      refine q_cut (M := fun σ5 H5 => ∃ s : Int, -4 ≤ s ∧ s ≤ 1 ∧ σ5 = [some (.ref a), some (.int b), some (.int m), some (.int (cellV ns b)), some (.ref p), some (.int kd), some (.int (1 + mm)), some (.int (i : Int)), some (.int cc), some (.int s)] ∧ Ex H H5 ∧ H5 p = some (.lst (rs.map V.int))) ?_ ?_
      · apply s_when
        · walk_at "ev"
        · intro hbb H6 e6
          rw [Bool.and_eq_true] at hbb
          have h2s := of_decide_eq_true hbb.2
          have hsq6 := ex_l e6 hsq
          apply s_asg
          · walk_at "ev"
          intro H7 e7
          refine ⟨_, ?_, ?_, rfl, e.trans (e6.trans e7), e7 _ _ (e6 _ _ h)⟩
          · split <;> omega
          · split <;> omega
        · intro _ H6 e6
          exact ⟨s5, ls5, us5, rfl, e.trans e6, e6 _ _ h⟩
      clear h e hsq ls5 us5 s5 H5
      rintro σ5 H5 ⟨s5, ls5, us5, rfl, e, h⟩
      refine q_cut (M := fun σ5 H5 => ∃ s : Int, -4 ≤ s ∧ s ≤ 1 ∧ σ5 = [some (.ref a), some (.int b), some (.int m), some (.int (cellV ns b)), some (.ref p), some (.int kd), some (.int (1 + mm)), some (.int (i : Int)), some (.int cc), some (.int s)] ∧ Ex H H5 ∧ H5 p = some (.lst (rs.map V.int))) ?_ ?_
      · apply s_when
        · walk_at "ev"
        · intro hbb H6 e6
          apply s_asg
          · apply ev_ite
            · walk_at "ev"
            · intro _
              walk_at "ev"
            · intro _
              walk_at "ev"
          intro H7 e7
          by_cases hz : decide (V.int ((i : Int) % 2) = V.int 0) = true
          · rw [if_pos hz]
            exact ⟨1, by omega, by omega, rfl, e.trans (e6.trans e7), e7 _ _ (e6 _ _ h)⟩
          · rw [if_neg hz]
            exact ⟨-1, by omega, by omega, rfl, e.trans (e6.trans e7), e7 _ _ (e6 _ _ h)⟩
        · intro _ H6 e6
          exact ⟨s5, ls5, us5, rfl, e.trans e6, e6 _ _ h⟩
      clear h e ls5 us5 s5 H5
      rintro σ5 H5 ⟨s5, ls5, us5, rfl, e, h⟩
      refine s_app h (ev_var rfl) (ev_var rfl) (by rw [List.length_map]; omega) fun H6 e6 => ?_
      refine ⟨rs ++ [s5], _, _, _, rfl, Ex.mut (e.trans e6) hp, ?_, st.snoc ls5 us5⟩
      rw [upd_same, snocI]
    · rintro σ' H' ⟨rs, y7, y8, y9, rfl, e, h, st⟩
      have hl := st.len
      refine s_ret (ev_var rfl) fun H2 e2 => q rs p H2 ⟨by omega, by omega, st.stp⟩ (by omega) hp (e.trans e2) (e2 _ _ h)
abbrev s_l_tries : Stmt := topS 32
abbrev N_l_tries : List Str := ["_law_row_here", "_law_stay_here", "_law_falls", "_law_at", "_law_found", "_law_turn", "_law_fewer", "_law_spot", "_law_many", "_law_other", "_law_one"]
theorem sc_l_tries : FnScope N_l_tries ["_law_row_here", "_law_stay_here", "_law_falls", "_law_at"] (defScope s_l_tries) := ⟨rfl, rfl, rfl, by decide +kernel, rfl, by decide +kernel, by decide +kernel⟩
theorem ok_l_tries {P : Program} {w : World} {K : PySem.W.Frag} {mg : Str → Option Value} {base : Heap} {A : Ad} {f : Addr} {fd : FuncData} (T : Txt K mg A) (Dx : Df K mg "_law_tries" s_l_tries ["_law_row_here", "_law_stay_here", "_law_falls", "_law_at"] f fd)  :
    Cal P w K mg base 1 "_law_tries" ["_law_row_here", "_law_stay_here", "_law_falls", "_law_at"] (sp_k02_tries K) := by
  refine Dx.cal (Dx.F.ok sc_l_tries (fun vs H Q E h => ?_) (fun cdv Ar outer s H vs Q E hr h => ?_))
  · obtain ⟨a, b, c, rs, st, ts, fs, at', rfl, hS, hl, hb, hc, hP, hst, hfs, hat, q⟩ := h
    rfl
  · obtain ⟨a, b, c, rs, st, ts, fs, at', rfl, hS, hl, hb, hc, hP, hst, hfs, hat, q⟩ := h
    refine ⟨_, (pss_cons (ps_set (i := 4) sc_l_tries.nd rfl (Or.inl rfl) (pe_lst (pa_cons (pe_tup (pa_cons (pv 1) (pa_cons (pv 2) pa_nil))) (pa_cons (pe_tup (pa_cons (pe_revL (pv 1)) (pa_cons (pv 2) pa_nil))) (pa_cons (pe_tup (pa_cons (pe_slice sl_list (pv 1) (po_some pe_int) po_none) (pa_cons (pv 2) pa_nil))) (pa_cons (pe_tup (pa_cons (pe_op tl_cat (pv 1) (pe_slice sl_list (pv 1) po_none (po_some pe_int))) (pa_cons (pv 2) pa_nil))) (pa_cons (pe_tup (pa_cons (pv 1) (pa_cons (pe_revL (pv 2)) pa_nil))) pa_nil)))))))
      (pss_cons (ps_set (i := 4) sc_l_tries.nd rfl (Or.inl rfl) (pe_op tl_cat (pv 4) (pe_lst (pa_cons (pe_tup (pa_cons (pv 1) (pa_cons (pe_slice sl_list (pv 2) (po_some pe_int) po_none) pa_nil))) (pa_cons (pe_tup (pa_cons (pv 1) (pa_cons (pe_op tl_cat (pv 2) (pe_slice sl_list (pv 2) po_none (po_some pe_int))) pa_nil))) (pa_cons (pe_tup (pa_cons (pe_lst pa_nil) (pa_cons (pe_lst pa_nil) pa_nil))) (pa_cons (pe_tup (pa_cons (pe_listRg rfl (by rfl) T.b_list (prg_1 (by rfl) T.b_range (pe_callB tl_len (by rfl) T.b_len (by decide +kernel) (pa_cons (pv 0) pa_nil)))) (pa_cons (pe_lst pa_nil) pa_nil))) pa_nil)))))))
      (pss_cons (ps_set (i := 4) sc_l_tries.nd rfl (Or.inl rfl) (pe_op tl_cat (pv 4) (pe_lst (pa_cons (pe_tup (pa_cons (pe_op tl_cat (pv 1) (pe_lst (pa_cons (pe_callB tl_len (by rfl) T.b_len (by decide +kernel) (pa_cons (pv 0) pa_nil)) pa_nil))) (pa_cons (pv 2) pa_nil))) (pa_cons (pe_tup (pa_cons (pe_op tl_cat (pe_lst (pa_cons (pe_un un_neg pe_int) pa_nil)) (pv 1)) (pa_cons (pv 2) pa_nil))) (pa_cons (pe_tup (pa_cons (pv 1) (pa_cons (pe_op tl_cat (pv 2) (pe_lst (pa_cons (pe_tup (pa_cons (pe_op tl_pow pe_int pe_int) (pa_cons pe_int pa_nil))) pa_nil))) pa_nil))) pa_nil))))))
      (pss_cons (ps_for PassesOwn.never rfl (pi_list (pe_slice sl_list (pe_slice sl_list (pv 1) (po_some (pe_op tl_mod (pv 3) (pe_callB (tl_max2 rfl) (by rfl) T.b_max (by decide +kernel) (pa_cons pe_int (pa_cons (pe_callB tl_len (by rfl) T.b_len (by decide +kernel) (pa_cons (pv 1) pa_nil)) pa_nil))))) po_none) po_none (po_some pe_int))) (pg_name (i := 5) sc_l_tries.nd rfl (Or.inr rfl) (hf := Or.inl rfl)) (pss_cons (ps_set (i := 6) sc_l_tries.nd rfl (Or.inr rfl) (pe_lc (own := [("_law_one", 10)]) (tt := (tTest (tOp rNe (tVar 10) (tVar 5)))) (g := (gName 10)) (te := (tVar 10)) rfl sc_l_tries.nd (pi_list (pv 1)) (blkOk_by (own := [("_law_one", 10)]) (N := N_l_tries) (sc := defScope s_l_tries) (by decide +kernel)) (fun _ _ _ _ _ => (pg_name (i := 10) sc_l_tries.nd rfl (Or.inl rfl) (hf := Or.inr rfl))) (fun _ _ _ _ _ => (pts_one (pt_cmpR tl_ne (pv 10) (pv 5) (nomark _)))) (fun _ _ _ _ _ => (pv 10))))
      (pss_one (ps_set (i := 4) sc_l_tries.nd rfl (Or.inl rfl) (pe_op tl_cat (pv 4) (pe_lc (own := [("_law_many", 8)]) (tt := tYes) (g := (gName 8)) (te := (tTup (tCons (tVar 6) (tCons (tOp rCat (tVar 2) (tLst (tCons (tTup (tCons (tVar 5) (tCons (tVar 8) tNil))) tNil))) tNil)))) rfl sc_l_tries.nd (pi_tup (pe_tup (pa_cons pe_int (pa_cons (pe_callB tl_len (by rfl) T.b_len (by decide +kernel) (pa_cons (pv 0) pa_nil)) (pa_cons pe_int pa_nil))))) (blkOk_by (own := [("_law_many", 8)]) (N := N_l_tries) (sc := defScope s_l_tries) (by decide +kernel)) (fun _ _ _ _ _ => (pg_name (i := 8) sc_l_tries.nd rfl (Or.inl rfl) (hf := Or.inr rfl))) (fun _ _ _ _ _ => pts_nil) (fun _ _ _ _ _ => (pe_tup (pa_cons (pv 6) (pa_cons (pe_op tl_cat (pv 2) (pe_lst (pa_cons (pe_tup (pa_cons (pv 5) (pa_cons (pv 8) pa_nil))) pa_nil))) pa_nil))))))))))
      (pss_cons (ps_for PassesOwn.never rfl (pi_tup (pe_tup (pa_cons (pv 3) (pa_cons pe_int (pa_cons (pe_un un_neg pe_int) pa_nil))))) (pg_name (i := 7) sc_l_tries.nd rfl (Or.inl rfl) (hf := Or.inr rfl)) (pss_one (ps_if (pt_cmpR (tl_neD hr.units) (pv 2) (pe_lst pa_nil) (nomark _)) (pss_cons (ps_set (i := 7) sc_l_tries.nd rfl (Or.inl rfl) (pe_op tl_mod (pv 7) (pe_callB tl_len (by rfl) T.b_len (by decide +kernel) (pa_cons (pv 2) pa_nil))))
      (pss_cons (ps_asg (pe_ix ix_list (pv 2) (pv 7) (fun _ _ => rfl)) (pg_tup rfl (pgs_cons (pg_name (i := 5) sc_l_tries.nd rfl (Or.inr rfl) (hf := Or.inl rfl)) (pgs_cons (pg_name (i := 8) sc_l_tries.nd rfl (Or.inl rfl) (hf := Or.inr rfl)) pgs_nil))))
      (pss_cons (ps_for PassesOwn.never rfl (pi_tup (pe_tup (pa_cons (pe_op tl_add (pv 8) pe_int) (pa_cons (pe_op tl_sub (pv 8) pe_int) (pa_cons pe_int (pa_cons (pe_un un_neg pe_int) (pa_cons (pe_callB tl_len (by rfl) T.b_len (by decide +kernel) (pa_cons (pv 0) pa_nil)) (pa_cons (pe_op tl_add (pe_callB tl_len (by rfl) T.b_len (by decide +kernel) (pa_cons (pv 0) pa_nil)) pe_int) (pa_cons (pe_op tl_pow pe_int pe_int) pa_nil))))))))) (pg_name (i := 9) sc_l_tries.nd rfl (Or.inl rfl) (hf := Or.inr rfl)) (pss_one (ps_expr (pe_bm PySem.F.plainAttrs_list PySem.F.slot_list_append PySem.F.type_list_append mt_append (pv 4) (pa_cons (pe_tup (pa_cons (pv 1) (pa_cons (pe_op tl_cat (pe_op tl_cat (pe_slice sl_list (pv 2) po_none (po_some (pv 7))) (pe_lst (pa_cons (pe_tup (pa_cons (pv 5) (pa_cons (pv 9) pa_nil))) pa_nil))) (pe_slice sl_list (pv 2) (po_some (pe_op tl_add (pv 7) pe_int)) po_none)) pa_nil))) pa_nil)))))
      (pss_one (ps_expr (pe_bm PySem.F.plainAttrs_list PySem.F.slot_list_append PySem.F.type_list_append mt_append (pv 4) (pa_cons (pe_tup (pa_cons (pe_callB cr_sortedI (by rfl) T.b_sorted (by decide +kernel) (pa_cons (pe_op tl_cat (pv 1) (pe_lst (pa_cons (pv 5) pa_nil))) pa_nil)) (pa_cons (pe_op tl_cat (pe_slice sl_list (pv 2) po_none (po_some (pv 7))) (pe_slice sl_list (pv 2) (po_some (pe_op tl_add (pv 7) pe_int)) po_none)) pa_nil))) pa_nil))))))) pss_nil)))
      (pss_one (ps_ret (pv 4)))))))), ?_⟩
    try dsimp only [cxOf, Cx.nox, Cx.wish, Cx.blk]
    have oS : PEl 60 PInt (.ref b) H := old_ints hb hst
    have oF : PEl 60 PPair (.ref c) H := old_pairs hc hP hfs
    have mI := PEl.mono (n := 60) PInt.mono
    have mF := PEl.mono (n := 60) PPair.mono
    have vS : ∀ {σ : L2.St} {H1 : Hp} {S : Addr → Prop}, σ[1]? = some (some (V.ref b)) → Ex H H1 → Fr S H → XS S (tVar 1) σ H1 (PEl 60 PInt) := fun hσ e f => xs_old (ev_var hσ) mI oS e f
    have vF : ∀ {σ : L2.St} {H1 : Hp} {S : Addr → Prop}, σ[2]? = some (some (V.ref c)) → Ex H H1 → Fr S H → XS S (tVar 2) σ H1 (PEl 60 PPair) := fun hσ e f => xs_old (ev_var hσ) mF oF e f
    have all5 : ∀ (n : Nat) (P : VP), P ∈ List.replicate n PTry → P = PTry := fun n P hP => List.eq_of_mem_replicate hP
    refine q_asgX (P := PEl 5 PTry) (XS.plain (S := fun _ => False) (PEl.mono PTry.mono) (xe_lst PTry.mono sup_no (xsa_cons (x_try sup_no (vS rfl (Ex.refl _) fr_no) (vF rfl (Ex.refl _) fr_no) (by decide) (by decide)) PTry.mono (xsa_cons (x_try sup_no (xe_rev PInt.mono sup_no (vS rfl (Ex.refl _) fr_no)) (vF rfl (Ex.refl _) fr_no) (by decide) (by decide)) PTry.mono (xsa_cons (x_try sup_no (xe_sl PInt.mono sup_no (vS rfl (Ex.refl _) fr_no) (eo_some ev_c) eo_none) (vF rfl (Ex.refl _) fr_no) (by decide) (by decide)) PTry.mono (xsa_cons (x_try sup_no (xe_cat PInt.mono sup_no (vS rfl (Ex.refl _) fr_no) (xe_sl PInt.mono sup_no (vS rfl (Ex.refl _) fr_no) eo_none (eo_some ev_c)) (by decide)) (vF rfl (Ex.refl _) fr_no) (by decide) (by decide)) PTry.mono (xsa_cons (x_try sup_no (vS rfl (Ex.refl _) fr_no) (xe_rev PPair.mono sup_no (vF rfl (Ex.refl _) fr_no)) (by decide) (by decide)) PTry.mono xsa_nil))))) (all5 5) rfl (by decide))) fun w1 H1 e1 hw1 => ?_
    have hlen1 : ∀ {σ : L2.St} {H1 : Hp}, σ[0]? = some (some (V.ref a)) → Ex H H1 → Ev (tCB (rLenS K) (tCons (tVar 0) tNil)) σ H1 (.int (rs.length : Int)) := fun hσ e => ev_is (ev_cb (ea_cons (ev_var hσ) ea_nil) (rc_len (ex_l e hS))) (by rw [List.length_map])
    refine q_asgX (P := PEl (5 + 4) PTry) (XS.plain (S := fun _ => False) (PEl.mono PTry.mono) (xe_cat PTry.mono sup_no (xs_old (ev_var rfl) (PEl.mono PTry.mono) hw1 (Ex.refl _) fr_no) (xe_lst PTry.mono sup_no (xsa_cons (x_try sup_no (vS rfl e1 fr_no) (xe_sl PPair.mono sup_no (vF rfl e1 fr_no) (eo_some ev_c) eo_none) (by decide) (by decide)) PTry.mono (xsa_cons (x_try sup_no (vS rfl e1 fr_no) (xe_cat PPair.mono sup_no (vF rfl e1 fr_no) (xe_sl PPair.mono sup_no (vF rfl e1 fr_no) eo_none (eo_some ev_c)) (by decide)) (by decide) (by decide)) PTry.mono (xsa_cons (x_try sup_no (x_nil sup_no) (x_nil sup_no) (by decide) (by decide)) PTry.mono (xsa_cons (x_try sup_no (x_ints (n := 60) sup_no (el_range (n := rs.length) (hlen1 rfl e1) (by omega)) (by rw [List.length_map, List.length_range]; exact hl)) (x_nil sup_no) (by decide) (by decide)) PTry.mono xsa_nil)))) (all5 4) rfl (by decide)) (by decide))) fun w2 H2 e2 hw2 => ?_
    have E2 := e1.trans e2
    refine q_asgX (P := fun w H1 => PEl (9 + 3) PTry w (cut H1 fun _ => False) ∧ ∃ p, w = .ref p ∧ H2 p = none) (xe_catF PTry.mono sup_no (xs_old (ev_var rfl) (PEl.mono PTry.mono) hw2 (Ex.refl _) fr_no) (xe_lst PTry.mono sup_no (xsa_cons (x_try sup_no (xe_cat PInt.mono sup_no (vS rfl E2 fr_no) (x_ints (rs := [(rs.length : Int)]) (n := 1) sup_no (el_lst (ea_cons (hlen1 rfl E2) ea_nil) (by show 1 ≤ 100000; decide)) (Nat.le_refl 1)) (by decide)) (vF rfl E2 fr_no) (by decide) (by decide)) PTry.mono (xsa_cons (x_try sup_no (xe_cat PInt.mono sup_no (x_ints (rs := [-1]) (n := 1) sup_no (el_lst (ea_cons (ev_un ev_c ru_neg) ea_nil) (by show 1 ≤ 100000; decide)) (Nat.le_refl 1)) (vS rfl E2 fr_no) (by decide)) (vF rfl E2 fr_no) (by decide) (by decide)) PTry.mono (xsa_cons (x_try sup_no (vS rfl E2 fr_no) (xe_cat PPair.mono sup_no (vF rfl E2 fr_no) (x_pair1 sup_no (ev_op ev_c ev_c (rv_I (And.intro (by decide) (And.intro (by decide) (by decide))))) ev_c) (by decide)) (by decide) (by decide)) PTry.mono xsa_nil))) (all5 3) rfl (by decide)) (by decide)) fun w3 H3 e3 hw3 => ?_
    obtain ⟨hw3, l3, rfl, hl3⟩ := hw3
    rw [cut_no] at hw3
    have E3 := E2.trans e3
    have nl3 : H l3 = none := fresh_back E2 hl3
    have hmx : ∀ {σ : L2.St} {H1 : Hp}, σ[1]? = some (some (V.ref b)) → Ex H H1 → Ev (tCB rMax2 (tCons (tC (.int 1)) (tCons (tCB (rLenS K) (tCons (tVar 1) tNil)) tNil))) σ H1 (.int (if (st.length : Int) > 1 then (st.length : Int) else 1)) := fun hσ e => ev_is (ev_cb (ea_cons ev_c (ea_cons (ev_cb (ea_cons (ev_var hσ) ea_nil) (rc_len (sq_of (e _ _ hb)))) ea_nil)) rc_max2) (by rw [List.length_map])
    refine q_forNLn (el_slN (el_sl (ev_var rfl) (eo_some (ev_op (ev_var rfl) (hmx rfl E3) (rv_I (by show (0 : Int) < _; split <;> omega)))) eo_none (sq_of (E3 _ _ hb))) eo_none (eo_some ev_c)) (fun p i σ' H' => ∃ l y5 y6, σ' = [some (.ref a), some (.ref b), some (.ref c), some (.int at'), some (.ref l), y5, y6, none, none, none, none] ∧ Ex H H' ∧ H l = none ∧ PEl (12 + 3 * i) PTry (.ref l) H' ∧ H' p = some (.lst (cutV (cutV (st.map V.int) (some (at' % (if (st.length : Int) > 1 then (st.length : Int) else 1))) none) none (some 1)))) (fun p H4 hp e4 h4 => ⟨l3, _, _, rfl, E3.trans e4, nl3, PEl.mono PTry.mono _ _ _ e4 hw3, h4⟩) (fun p i σ' H' hi ⟨l, y5, y6, _, _, _, _, h⟩ => sq_of h) ?_ ?_
    · rintro p i x σ' H4 hx ⟨l, y5, y6, rfl, E4, nl, hw4, hp4⟩
      obtain ⟨z, _, rfl⟩ := List.mem_map.mp (cutV_mem (cutV_mem (List.mem_of_getElem? hx)))
      have hi1 : i < 1 := by
        have h1 := (List.getElem?_eq_some_iff.mp hx).1
        have h2 : (cutV (cutV (st.map V.int) (some (at' % (if (st.length : Int) > 1 then (st.length : Int) else 1))) none) none (some 1)).length ≤ 1 := by
          rw [cut_hi _ (by decide)]
          exact List.length_take_le _ _
        omega
      refine q_asgL (xs := (st.filter fun o => !decide (V.int o = V.int z)).map V.int) (el_lcI (xs := st) (emb := V.int) (fun o => !decide (V.int o = V.int z)) V.int (ei_list (ev_var rfl) (sq_of (E4 _ _ hb))) (by omega) (fun _ => rfl) (fun o H5 _ e5 => et_test (ev_op (ev_var rfl) (ev_var rfl) (rv_ne rfl))) (fun o H5 _ e5 _ => ev_var rfl)) fun pf H5 hpf e5 h5 => ?_
      have E5 := E4.trans e5
      have oW : PEl 60 PInt (.ref pf) H5 := old_ints h5 (Nat.le_trans (List.length_filter_le _ _) hst)
      refine s_asgX (P := fun w H1 => PEl (12 + 3 * i + 3) PTry w (cut H1 fun _ => False) ∧ ∃ p, w = .ref p ∧ H5 p = none) (xe_catF PTry.mono sup_no (xs_old (ev_var rfl) (PEl.mono PTry.mono) (PEl.mono PTry.mono _ _ _ e5 hw4) (Ex.refl _) fr_no) (xe_lc (fun _ => true) PTry.mono sup_no (ei_tupN (eu_tup (ea_cons ev_c (ea_cons (hlen1 rfl E5) (ea_cons ev_c ea_nil))) (by show 3 ≤ 100000; decide))) (by show 3 ≤ 40000; decide) ?_ g_name_mono) (by show 12 + 3 * i + 3 ≤ 100000; omega)) fun w6 H6 e6 hw6 => ?_
      · rintro Dl k x H6 H7 hk e6 hD sD ⟨rfl, hx⟩
        have fr : Fr (fun a => False ∨ a = Dl) H5 := fun a ha => by
          rcases ha with ha | ha
          · exact ha.elim
          · rw [ha]; exact hD
        have fr0 : Fr (fun a => False ∨ a = Dl) H := fun a ha => fresh_back E5 (fr a ha)
        have hxi : ∃ n : Int, x = .int n := by
          match k, hx with
          | 0, hx => cases hx; exact ⟨_, rfl⟩
          | 1, hx => cases hx; exact ⟨_, rfl⟩
          | 2, hx => cases hx; exact ⟨_, rfl⟩
        obtain ⟨n, rfl⟩ := hxi
        exact ⟨rfl, Ex.refl _, et_yes, fun _ => x_try sD (xs_old (ev_var rfl) (PEl.mono PInt.mono) oW e6 fr) (xe_cat PPair.mono sD (vF rfl (E5.trans e6) fr0) (x_pair1 sD (ev_var rfl) (ev_var rfl)) (by decide)) (by decide) (by decide)⟩
      · obtain ⟨hw6, l6, rfl, hl6⟩ := hw6
        rw [cut_no] at hw6
        exact ⟨l6, _, _, rfl, E5.trans e6, fresh_back E5 hl6, hw6, e6 _ _ (e5 _ _ hp4)⟩
    · rintro p σ' H4 ⟨l, y5, y6, rfl, E4, nl, hw4, hp4⟩
      have hw4 : PEl 15 PTry (.ref l) H4 := hw4.le (by
        have h2 : (cutV (cutV (st.map V.int) (some (at' % (if (st.length : Int) > 1 then (st.length : Int) else 1))) none) none (some 1)).length ≤ 1 := by
          rw [cut_hi _ (by decide)]
          exact List.length_take_le _ _
        omega)
      clear hp4
      obtain ⟨_, us4, hh, hus4, hln4, hal4⟩ := hw4
      cases hh
      refine q_forNU (K := K) (xs := [.int at', .int 0, .int (-1)]) (eu_tup (ea_cons (ev_var rfl) (ea_cons ev_c (ea_cons (ev_un ev_c ru_neg) ea_nil))) (by show 3 ≤ 100000; decide)) (fun p i σ' H' => ∃ y5 y7 y8 y9 us, σ' = [some (.ref a), some (.ref b), some (.ref c), some (.int at'), some (.ref l), y5, y6, y7, y8, y9, none] ∧ Ex H H' ∧ H' l = some (.lst us) ∧ us.length ≤ 15 + 8 * i ∧ (∀ v ∈ us, PTry v (cut H' fun a => a = l)) ∧ H' p = some (.tup [.int at', .int 0, .int (-1)])) (fun p H5 hp e5 h5 => ⟨_, _, _, _, us4, rfl, E4.trans e5, e5 _ _ hus4, hln4, fun v hv => PTry.mono v _ _ (cut_ex e5) (hal4 v hv), h5⟩) (fun p i σ' H' hi ⟨_, _, _, _, _, _, _, _, _, _, h⟩ => st_of h) ?_ ?_
      · rintro p2 i x σ' H5 hx ⟨y5', y7, y8, y9, us, rfl, E5, hl5, hln, hal, hp5⟩
        have hi3 : i < 3 := (List.getElem?_eq_some_iff.mp hx).1
        have hxi : ∃ n : Int, x = .int n := by
          have := List.mem_of_getElem? hx
          simp only [List.mem_cons, List.not_mem_nil, or_false] at this
          rcases this with h | h | h <;> exact ⟨_, h⟩
        obtain ⟨z, rfl⟩ := hxi
        refine s_when (et_test (ev_neD (ed_ev (ev_var rfl) (dp_pairs (E5 _ _ hc) (hP.ex E5))) (ed_lst eda_nil (by show 0 ≤ 100000; decide)) ((fine_pairs fs).shaped (by decide)) ((fine_pairs []).shaped (by decide)))) (fun hb6 H6 e6 => ?_) (fun _ H6 e6 => ⟨_, _, _, _, us, rfl, E5.trans e6, e6 _ _ hl5, by omega, fun v hv => PTry.mono v _ _ (cut_ex e6) (hal v hv), e6 _ _ hp5⟩)
        have hne : 0 < fs.length := by
          cases fs with
          | nil =>
            have hr : PyData.eqv (.list (([] : List (Int × Int)).map pairD)) (.list []) = true := PySem.SeqAt.eqv_refl _ (fine_pairs []).1
            rw [hr] at hb6
            exact nomatch hb6
          | cons p r => exact Nat.succ_pos _
        clear hb6
        have E6 := E5.trans e6
        have hz := Int.emod_nonneg z (b := (ts.length : Int)) (by have := hP.1; omega)
        have hz2 := Int.emod_lt_of_pos z (b := (ts.length : Int)) (by have := hP.1; omega)
        refine q_asg (ev_op (ev_var rfl) (ev_cb (ea_cons (ev_var rfl) ea_nil) (rc_len (sq_of (E6 _ _ hc)))) (rv_I (by show (0 : Int) < _; have := hP.1; omega))) fun H7 e7 => ?_
        have hjx : ∃ j : Nat, z % (ts.length : Int) = (j : Int) := ⟨(z % (ts.length : Int)).toNat, by omega⟩
        obtain ⟨j, hj⟩ := hjx
        rw [hj] at hz hz2
        rw [hj]
        have hjf : j < fs.length := by have := hP.1; omega
        obtain ⟨T', hT1, hT2⟩ := hP.2 j fs[j] (List.getElem?_eq_getElem hjf)
        have E7 := E6.trans e7
        refine q_unpackT (ev_op (ev_var rfl) (ev_var rfl) (rv_ixL (sq_of (E7 _ _ hc)) (atI_nat hT1))) (st_of (E7 _ _ hT2)) fun H8 e8 => ?_
        have E8 := E7.trans e8
        have X8 := e6.trans (e7.trans e8)
        have hl8 := X8 _ _ hl5
        have hal8 : ∀ v ∈ us, PTry v (cut H8 fun a => a = l) := fun v hv => PTry.mono v _ _ (cut_ex X8) (hal v hv)
        have hp8 := X8 _ _ hp5
        clear hal
        have frl : Fr (fun a => a = l) H := fr_one nl
        refine q_forNU (K := K) (xs := [.int (fs[j].2 + 1), .int (fs[j].2 - 1), .int 0, .int (-1), .int (rs.length : Int), .int ((rs.length : Int) + 1), .int (10 ^ (20 : Int).toNat)]) (eu_tup (ea_cons (ev_op (ev_var rfl) ev_c rv_I0) (ea_cons (ev_op (ev_var rfl) ev_c rv_I0) (ea_cons ev_c (ea_cons (ev_un ev_c ru_neg) (ea_cons (hlen1 rfl E8) (ea_cons (ev_op (hlen1 rfl E8) ev_c rv_I0) (ea_cons (ev_op ev_c ev_c (rv_I (And.intro (by decide) (And.intro (by decide) (by decide))))) ea_nil))))))) (by show 7 ≤ 100000; decide)) (fun p3 k σ' H' => ∃ y9 us, σ' = [some (.ref a), some (.ref b), some (.ref c), some (.int at'), some (.ref l), some (.int fs[j].1), y6, some (.int (j : Int)), some (.int fs[j].2), y9, none] ∧ Ex H H' ∧ H' l = some (.lst us) ∧ us.length ≤ 15 + 8 * i + k ∧ (∀ v ∈ us, PTry v (cut H' fun a => a = l)) ∧ H' p2 = some (.tup [.int at', .int 0, .int (-1)]) ∧ H' p3 = some (.tup [.int (fs[j].2 + 1), .int (fs[j].2 - 1), .int 0, .int (-1), .int (rs.length : Int), .int ((rs.length : Int) + 1), .int (10 ^ (20 : Int).toNat)])) (fun p3 H9 hp e9 h9 => ⟨_, us, rfl, E8.trans e9, e9 _ _ hl8, by omega, fun v hv => PTry.mono v _ _ (cut_ex e9) (hal8 v hv), e9 _ _ hp8, h9⟩) (fun p i σ' H' hi ⟨_, _, _, _, _, _, _, _, h⟩ => st_of h) ?_ ?_
        · rintro p3 k x σ' H9 hx ⟨y9', us9, rfl, E9, hl9, hln9, hal9, hp9, hq9⟩
          have hk7 : k < 7 := (List.getElem?_eq_some_iff.mp hx).1
          have hxi : ∃ n : Int, x = .int n := by
            have := List.mem_of_getElem? hx
            simp only [List.mem_cons, List.not_mem_nil, or_false] at this
            rcases this with h | h | h | h | h | h | h <;> exact ⟨_, h⟩
          obtain ⟨o, rfl⟩ := hxi
          have sl := sup_one hl9
          refine s_appX hl9 (ev_var rfl) (x_try sl (vS rfl E9 frl) (xe_cat PPair.mono sl (xe_cat PPair.mono sl (xe_sl PPair.mono sl (vF rfl E9 frl) eo_none (eo_some (ev_var rfl))) (x_pair1 sl (ev_var rfl) (ev_var rfl)) (by decide)) (xe_sl PPair.mono sl (vF rfl E9 frl) (eo_some (ev_op (ev_var rfl) ev_c rv_I0)) eo_none) (by decide)) (by decide) (by decide)) (by omega) fun v H10 e10 hv => ?_
          refine ⟨_, us9 ++ [v], rfl, Ex.mut (E9.trans e10) nl, upd_same, by rw [List.length_append, List.length_singleton]; omega, fun u hu => ?_, ?_, ?_⟩
          · rcases List.mem_append.mp hu with h | h
            · rw [cut_upd (S := fun a => a = l) rfl]
              exact PTry.mono u _ _ (cut_ex e10) (hal9 u h)
            · rw [List.mem_singleton.mp h]
              exact hv
          · rw [upd_ne (ne_of hp9 hl9 (by intro z; cases z))]
            exact e10 _ _ hp9
          · rw [upd_ne (ne_of hq9 hl9 (by intro z; cases z))]
            exact e10 _ _ hq9
        · rintro p3 σ' H9 ⟨y9', us9, rfl, E9, hl9, hln9, hal9, hp9, hq9⟩
          have hln9 : us9.length ≤ 15 + 8 * i + 7 := hln9
          have sl := sup_one hl9
          refine s_appX hl9 (ev_var rfl) (x_try sl (x_ints (n := 61) sl (el_sortedN (ns := st ++ [fs[j].1]) (by
            rw [List.map_append]
            exact el_catVL (ev_var rfl) (E9 _ _ hb) (el_lst (ea_cons (ev_var rfl) ea_nil) (by show 1 ≤ 100000; decide)) (by rw [List.length_map, List.length_map, List.length_singleton]; omega)) (isort_perm _).symm (isort_sorted _)) (by
            rw [(isort_perm _).length_eq, List.length_append, List.length_singleton]
            omega)) (xe_cat PPair.mono sl (xe_sl PPair.mono sl (vF rfl E9 frl) eo_none (eo_some (ev_var rfl))) (xe_sl PPair.mono sl (vF rfl E9 frl) (eo_some (ev_op (ev_var rfl) ev_c rv_I0)) eo_none) (by decide)) (by decide) (by decide)) (by omega) fun v H10 e10 hv => ?_
          refine ⟨_, _, _, _, us9 ++ [v], rfl, Ex.mut (E9.trans e10) nl, upd_same, by rw [List.length_append, List.length_singleton]; omega, fun u hu => ?_, ?_⟩
          · rcases List.mem_append.mp hu with h | h
            · rw [cut_upd (S := fun a => a = l) rfl]
              exact PTry.mono u _ _ (cut_ex e10) (hal9 u h)
            · rw [List.mem_singleton.mp h]
              exact hv
          · rw [upd_ne (ne_of hp9 hl9 (by intro z; cases z))]
            exact e10 _ _ hp9
      · rintro p2 σ' H5 ⟨y5', y7, y8, y9, us, rfl, E5, hl5, hln, hal, hp5⟩
        have hln : us.length ≤ 15 + 8 * 3 := hln
        exact s_ret (ev_var rfl) fun H6 e6 => q _ H6 (E5.trans e6) ⟨l, us, rfl, e6 _ _ hl5, by omega, fun v hv => PTry.mono v _ _ (cut_ex e6) (hal v hv)⟩
abbrev s_is_whole : Stmt := topS 7
abbrev N_is_whole : List Str := ["thing"]
theorem sc_is_whole : FnScope N_is_whole ["thing"] (defScope s_is_whole) := ⟨rfl, rfl, rfl, by decide +kernel, rfl, by decide +kernel, by decide +kernel⟩
theorem ok_is_whole {P : Program} {w : World} {K : PySem.W.Frag} {mg : Str → Option Value} {base : Heap} {A : Ad} {f : Addr} {fd : FuncData} (T : Txt K mg A) (Dx : Df K mg "is_whole" s_is_whole ["thing"] f fd)  :
    Cal P w K mg base 1 "is_whole" ["thing"] (sp_is_whole K) := by
  refine Dx.cal (Dx.F.ok sc_is_whole (fun vs H Q E h => ?_) (fun cdv Ar outer s H vs Q E hr h => ?_))
  · obtain ⟨i, rfl, q⟩ := h
    rfl
  · obtain ⟨i, rfl, q⟩ := h
    refine ⟨_, (pss_one (ps_ret (pe_and (pe_callB call_isi (by rfl) T.b_isinstance (by decide +kernel) (pa_cons (pv 0) (pa_cons (pe_bltn (v := .ty "int") (by rfl) T.b_int (by decide +kernel) rfl) pa_nil))) (pe_one (pe_not (pe_callB call_isi (by rfl) T.b_isinstance (by decide +kernel) (pa_cons (pv 0) (pa_cons (pe_bltn (v := .ty "bool") (by rfl) T.b_bool (by decide +kernel) rfl) pa_nil)))))))), ?_⟩
    try dsimp only [cxOf, Cx.nox, Cx.wish, Cx.blk]
    apply s_ret
    · walk_at "ev"
    · exact q
abbrev s_is_between : Stmt := topS 8
abbrev N_is_between : List Str := ["thing", "least", "most"]
theorem sc_is_between : FnScope N_is_between ["thing", "least", "most"] (defScope s_is_between) := ⟨rfl, rfl, rfl, by decide +kernel, rfl, by decide +kernel, by decide +kernel⟩
theorem ok_is_between {P : Program} {w : World} {K : PySem.W.Frag} {mg : Str → Option Value} {base : Heap} {A : Ad} {f : Addr} {fd : FuncData} (T : Txt K mg A) (Dx : Df K mg "is_between" s_is_between ["thing", "least", "most"] f fd) (c_is_whole : Cal P w K mg base 1 "is_whole" ["thing"] (sp_is_whole K)) :
    Cal P w K mg base 2 "is_between" ["thing", "least", "most"] (sp_is_between K) := by
  obtain ⟨f_is_whole, fd_is_whole, G_is_whole, k_is_whole, bd_is_whole, g_is_whole⟩ := c_is_whole
  refine Dx.cal (Dx.F.ok sc_is_between (fun vs H Q E h => ?_) (fun cdv Ar outer s H vs Q E hr h => ?_))
  · obtain ⟨i, lo, hi, rfl, q⟩ := h
    rfl
  · obtain ⟨i, lo, hi, rfl, q⟩ := h
    refine ⟨_, (pss_one (ps_ret (pe_and (pe_call G_is_whole (hr.mono (by decide)) (by rfl) g_is_whole k_is_whole bd_is_whole .nil pass0 (pa_cons (pv 0) pa_nil)) (pe_one (pe_chain tl_le tl_le (pv 1) (pv 0) (pv 2)))))), ?_⟩
    try dsimp only [cxOf, Cx.nox, Cx.wish, Cx.blk]
    apply s_ret
    · walk_at "ev"
    · exact q
abbrev s_is_step : Stmt := topS 9
abbrev N_is_step : List Str := ["thing"]
theorem sc_is_step : FnScope N_is_step ["thing"] (defScope s_is_step) := ⟨rfl, rfl, rfl, by decide +kernel, rfl, by decide +kernel, by decide +kernel⟩
theorem ok_is_step {P : Program} {w : World} {K : PySem.W.Frag} {mg : Str → Option Value} {base : Heap} {A : Ad} {f : Addr} {fd : FuncData} (T : Txt K mg A) (Dx : Df K mg "is_step" s_is_step ["thing"] f fd) (c_is_between : Cal P w K mg base 2 "is_between" ["thing", "least", "most"] (sp_is_between K)) :
    Cal P w K mg base 3 "is_step" ["thing"] (sp_is_step K) := by
  obtain ⟨f_is_between, fd_is_between, G_is_between, k_is_between, bd_is_between, g_is_between⟩ := c_is_between
  refine Dx.cal (Dx.F.ok sc_is_step (fun vs H Q E h => ?_) (fun cdv Ar outer s H vs Q E hr h => ?_))
  · obtain ⟨i, rfl, q⟩ := h
    rfl
  · obtain ⟨i, rfl, q⟩ := h
    refine ⟨_, (pss_one (ps_ret (pe_call G_is_between (hr.mono (by decide)) (by rfl) g_is_between k_is_between bd_is_between .nil pass0 (pa_cons (pv 0) (pa_cons (pe_gint (by rfl) T.g_LEAST) (pa_cons (pe_gint (by rfl) T.g_GREATEST) pa_nil)))))), ?_⟩
    try dsimp only [cxOf, Cx.nox, Cx.wish, Cx.blk]
    apply s_ret
    · walk_at "ev"
    · exact q
abbrev s_check_row : Stmt := topS 10
abbrev N_check_row : List Str := ["row", "step"]
theorem sc_check_row : FnScope N_check_row ["row"] (defScope s_check_row) := ⟨rfl, rfl, rfl, by decide +kernel, rfl, by decide +kernel, by decide +kernel⟩
theorem ok_check_row {P : Program} {w : World} {K : PySem.W.Frag} {mg : Str → Option Value} {base : Heap} {A : Ad} {f : Addr} {fd : FuncData} (T : Txt K mg A) (Dx : Df K mg "check_row" s_check_row ["row"] f fd) (c_is_step : Cal P w K mg base 3 "is_step" ["thing"] (sp_is_step K)) :
    Cal P w K mg base 4 "check_row" ["row"] (sp_check_row K) := by
  obtain ⟨f_is_step, fd_is_step, G_is_step, k_is_step, bd_is_step, g_is_step⟩ := c_is_step
  refine Dx.cal (Dx.F.ok sc_check_row (fun vs H Q E h => ?_) (fun cdv Ar outer s H vs Q E hr h => ?_))
  · obtain ⟨a, rs, rfl, hS, R, q⟩ := h
    rfl
  · obtain ⟨a, rs, rfl, hS, R, q⟩ := h
    refine ⟨_, (pss_one (ps_if (PW.pt (pw_or (pt_not (pt_val (pe_callB call_isi (by rfl) T.b_isinstance (by decide +kernel) (pa_cons (pv 0) (pa_cons (pe_bltn (v := .ty "list") (by rfl) T.b_list (by decide +kernel) rfl) pa_nil))))) (pw_or (pt_not (pt_chain tl_le tl_le pe_int (pe_callB tl_len (by rfl) T.b_len (by decide +kernel) (pa_cons (pv 0) pa_nil)) (pe_gint (by rfl) T.g_LONGEST))) (pw_or1 (pt_not (pt_val (pe_callB (cr_all rfl) (by rfl) T.b_all (by decide +kernel) (pa_cons (pe_lc (own := [("step", 1)]) (tt := tYes) (g := (gName 1)) (te := (tCall (sp_is_step K) [] E0 (tCons (tVar 1) tNil))) rfl sc_check_row.nd (pi_list (pv 0)) (blkOk_by (own := [("step", 1)]) (N := N_check_row) (sc := defScope s_check_row) (by decide +kernel)) (fun _ _ _ _ _ => (pg_name (i := 1) sc_check_row.nd rfl (Or.inl rfl) (hf := Or.inr rfl))) (fun _ _ _ _ _ => pts_nil) (fun _ _ _ _ _ => (pe_call G_is_step (hr.mono (by decide)) (by rfl) g_is_step k_is_step bd_is_step .nil pass0 (pa_cons (pv 1) pa_nil)))) pa_nil)))))))) (pss_one ps_never) pss_nil)), ?_⟩
    try dsimp only [cxOf, Cx.nox, Cx.wish, Cx.blk]
    apply s_when (b := false)
    · apply et_is
      · apply et_or
        · walk_at "ev"
        · intro _
          apply et_or
          · walk_at "ev"
          · intro _
            apply et_not
            apply et_B
            apply ev_cbL
            · refine el_mapI (xs := rs) (emb := V.int) (fun c => .bl (decide (-4 ≤ c) && decide (c ≤ 1))) (ei_list (ev_var rfl) hS) (by have := R.len; omega) (fun _ => rfl) (fun c H2 hm e2 => ?_)
              walk_at "ev"
            · exact fun p H2 e2 hp => rc_allM (sq_of hp)
      · have h1 := R.pos
        have h2 := R.len
        have hall : (rs.all fun c => decide (-4 ≤ c) && decide (c ≤ 1)) = true := by
          rw [List.all_eq_true]
          intro c hc
          have := R.stp c hc
          simp
          omega
        rw [hall]
        simp
        omega
    · exact fun hb => nomatch hb
    · exact fun _ H2 e2 => q H2 e2
abbrev s_staying : Stmt := topS 19
abbrev N_staying : List Str := ["row", "rise", "heights", "step", "found", "least", "place", "low", "height"]
theorem sc_staying : FnScope N_staying ["row"] (defScope s_staying) := ⟨rfl, rfl, rfl, by decide +kernel, rfl, by decide +kernel, by decide +kernel⟩
theorem ok_staying {P : Program} {w : World} {K : PySem.W.Frag} {mg : Str → Option Value} {base : Heap} {A : Ad} {f : Addr} {fd : FuncData} (T : Txt K mg A) (Dx : Df K mg "staying" s_staying ["row"] f fd)  :
    Cal P w K mg base 1 "staying" ["row"] (sp_staying K) := by
  refine Dx.cal (Dx.F.ok sc_staying (fun vs H Q E h => ?_) (fun cdv Ar outer s H vs Q E hr h => ?_))
  · obtain ⟨a, rs, rfl, hS, hl, h1, q⟩ := h
    rfl
  · obtain ⟨a, rs, rfl, hS, hl, h1, q⟩ := h
    refine ⟨_, (pss_cons (ps_set (i := 1) sc_staying.nd rfl (Or.inr rfl) (pe_callB (cr_sum rfl) (by rfl) T.b_sum (by decide +kernel) (pa_cons (pv 0) pa_nil)))
      (pss_cons (ps_if (pt_cmpR tl_le (pv 1) pe_int (nomark _)) (pss_one (ps_ret (pe_lst pa_nil))) pss_nil)
      (pss_cons (ps_set (i := 2) sc_staying.nd rfl (Or.inr rfl) (pe_lst (pa_cons pe_int pa_nil)))
      (pss_cons (ps_for PassesOwn.never rfl (pi_list (pv 0)) (pg_name (i := 3) sc_staying.nd rfl (Or.inl rfl) (hf := Or.inr rfl)) (pss_one (ps_expr (pe_bm PySem.F.plainAttrs_list PySem.F.slot_list_append PySem.F.type_list_append mt_append (pv 2) (pa_cons (pe_op tl_add (pe_ix ix_list (pv 2) (pe_un un_neg pe_int) (fun _ _ => rfl)) (pv 3)) pa_nil)))))
      (pss_cons (ps_par (i := 4) (j := 5) (by rfl) sc_staying.nd rfl rfl (by decide) rfl rfl (pa_cons (pe_lst pa_nil) (pa_cons (pe_ix ix_list (pv 2) (pe_un un_neg pe_int) (fun _ _ => rfl)) pa_nil)) (by rfl))
      (pss_cons (ps_for PassesOwn.never rfl (pi_range3 (by rfl) T.b_range (pa_cons (pe_op tl_sub (pe_callB tl_len (by rfl) T.b_len (by decide +kernel) (pa_cons (pv 0) pa_nil)) pe_int) (pa_cons (pe_un un_neg pe_int) (pa_cons (pe_un un_neg pe_int) pa_nil)))) (pg_name (i := 6) sc_staying.nd rfl (Or.inl rfl) (hf := Or.inr rfl)) (pss_one (ps_if (pt_cmpR tl_lt (pe_ix ix_list (pv 2) (pv 6) (fun _ _ => rfl)) (pv 5) (nomark _)) (pss_cons (ps_expr (pe_bm PySem.F.plainAttrs_list PySem.F.slot_list_append PySem.F.type_list_append mt_append (pv 4) (pa_cons (pv 6) pa_nil)))
      (pss_one (ps_set (i := 5) sc_staying.nd rfl (Or.inl rfl) (pe_ix ix_list (pv 2) (pv 6) (fun _ _ => rfl))))) pss_nil)))
      (pss_cons (ps_set (i := 7) sc_staying.nd rfl (Or.inr rfl) (pe_callB (cr_min rfl) (by rfl) T.b_min (by decide +kernel) (pa_cons (pe_lc (own := [("height", 8)]) (tt := tYes) (g := (gName 8)) (te := (tOp (rI0 fun i j => .int (i + j)) (tVar 8) (tVar 1))) rfl sc_staying.nd (pi_list (pv 2)) (blkOk_by (own := [("height", 8)]) (N := N_staying) (sc := defScope s_staying) (by decide +kernel)) (fun _ _ _ _ _ => (pg_name (i := 8) sc_staying.nd rfl (Or.inl rfl) (hf := Or.inr rfl))) (fun _ _ _ _ _ => pts_nil) (fun _ _ _ _ _ => (pe_op tl_add (pv 8) (pv 1)))) pa_nil)))
      (pss_one (ps_ret (pe_callB cr_sortedI (by rfl) T.b_sorted (by decide +kernel) (pa_cons (pe_lc (own := [("place", 6)]) (tt := (tTest (tOp (rI0 fun i j => .bl (decide (i < j))) (tOp (rIxL K) (tVar 2) (tVar 6)) (tVar 7)))) (g := (gName 6)) (te := (tVar 6)) rfl sc_staying.nd (pi_list (pv 4)) (blkOk_by (own := [("place", 6)]) (N := N_staying) (sc := defScope s_staying) (by decide +kernel)) (fun _ _ _ _ _ => (pg_name (i := 6) sc_staying.nd rfl (Or.inl rfl) (hf := Or.inr rfl))) (fun _ _ _ _ _ => (pts_one (pt_cmpR tl_lt (pe_ix ix_list (pv 2) (pv 6) (fun _ _ => rfl)) (pv 7) (nomark _)))) (fun _ _ _ _ _ => (pv 6))) pa_nil))))))))))), ?_⟩
    try dsimp only [cxOf, Cx.nox, Cx.wish, Cx.blk]
    refine q_asg (v := .int rs.sum) ?_ fun H1 e1 => ?_
    · walk_at "ev"
    have hS1 := ex_l e1 hS
    apply q_when
    · walk_at "ev"
    · intro hb H2 e2
      have hb := of_decide_eq_true hb
      refine s_retL (el_lst ea_nil (by decide)) fun p H3 hp e3 h3 => q p H3 (fresh_back (e1.trans e2) hp) (e1.trans (e2.trans e3)) ?_
      have z : stayI rs = [] := by
        unfold stayI
        rw [stayOf_none hb]
        rfl
      rw [z]
      exact h3
    intro hb H2 e2
    have hr : 0 < rs.sum := by
      have := of_decide_eq_false hb
      omega
    have hS2 := ex_l e2 hS1
    refine q_asgL (xs := (preL rs 0).map V.int) (el_lst (ea_cons ev_c ea_nil) (by show 1 ≤ 100000; decide)) fun p H3 hp e3 h3 => ?_
    have hpH : H p = none := fresh_back (e1.trans e2) hp
    have E3 := e1.trans (e2.trans e3)
    refine q_forLn (ev_var rfl) (ex_l e3 hS2) (fun i σ' H' => ∃ y3, σ' = [some (.ref a), some (.int rs.sum), some (.ref p), y3, none, none, none, none, none] ∧ Ex H H' ∧ H' p = some (.lst ((preL rs i).map V.int))) (fun H4 e4 => ⟨none, rfl, E3.trans e4, e4 _ _ h3⟩) (fun i σ' H' _ ⟨_, _, e, _⟩ => ex_l e hS) ?_ ?_
    · rintro i x σ' H' hx ⟨y3, rfl, e, h⟩
      obtain ⟨n, hn, rfl⟩ := int_at hx
      have hi := (List.getElem?_eq_some_iff.mp hn).1
      refine s_app h (ev_var rfl) (v := .int (pre rs i + n)) (ev_op (ev_op (ev_var rfl) (ev_un ev_c ru_neg) (rv_ixL (sq_of h) (preL_last rs i))) (ev_var rfl) rv_I0) (by rw [List.length_map, preL_len]; omega) fun H4 e4 => ?_
      refine ⟨_, rfl, Ex.mut (e.trans e4) hpH, ?_⟩
      rw [upd_same, preL_succ, List.map_append, pre_step hn]
      rfl
    rintro σ' H' ⟨y3, rfl, e, h⟩
    rw [List.length_map] at h
    refine q_parLV (xs := []) (x := .int (pre rs rs.length)) (el_lst ea_nil (by decide)) (fun _ H4 _ e4 _ => ev_op (ev_var rfl) (ev_un ev_c ru_neg) (rv_ixL (sq_of (e4 _ _ h)) (preL_last rs _))) fun f H4 hf e4 h4 => ?_
    have hfH : H f = none := fresh_back e hf
    have hfp : f ≠ p := fun z => by
      rw [z, h] at hf
      cases hf
    have hcv : ∀ {i : Nat}, ((rs.map V.int).length : Int) - 1 - (-1) = (rs.length : Int) := by
      intro i
      rw [List.length_map]
      omega
    refine q_forR3 (lo := ((rs.map V.int).length : Int) - 1) (hi := -1) (ea_cons (ev_op (ev_cb (ea_cons (ev_var rfl) ea_nil) (rc_len (ex_l (e.trans e4) hS))) ev_c rv_I0) (ea_cons (ev_un ev_c ru_neg) (ea_cons (ev_un ev_c ru_neg) ea_nil))) (by rw [List.length_map]; omega) (fun i σ2 H2 => ∃ y6, σ2 = [some (.ref a), some (.int rs.sum), some (.ref p), y3, some (.ref f), some (.int (scan rs i).2), y6, none, none] ∧ Ex H H2 ∧ H2 p = some (.lst ((preL rs rs.length).map V.int)) ∧ H2 f = some (.lst ((scan rs i).1.map vn)) ∧ i ≤ rs.length) (fun H5 e5 => ⟨none, by rw [pre_full]; rfl, e.trans (e4.trans e5), e5 _ _ (e4 _ _ h), e5 _ _ h4, Nat.zero_le _⟩) ?_ ?_
    · rintro i σ2 H5 hi ⟨y6, rfl, e5, hp5, hf5, hir⟩
      rw [List.length_map] at hi
      have hi' : i < rs.length := by omega
      have epl : ((rs.map V.int).length : Int) - 1 + (i : Int) * (-1) = ((rs.length - 1 - i : Nat) : Int) := by
        rw [List.length_map]
        omega
      rw [epl]
      have hix : ∀ σ, σ[2]? = some (some (V.ref p)) → σ[6]? = some (some (V.int ((rs.length - 1 - i : Nat) : Int))) → ∀ H6, Ex H5 H6 → Ev (tOp (rIxL K) (tVar 2) (tVar 6)) σ H6 (.int (pre rs (rs.length - 1 - i))) := fun σ h2 h6 H6 e6 => by
        have := ev_ixLI (ev_var h2) (sq_of (K := K) (e6 _ _ hp5)) (ev_var h6) (by omega) (by rw [preL_len]; omega)
        rw [Int.toNat_natCast, preL_get (by omega)] at this
        exact this
      have hsc : (scan rs i).1.length ≤ 2000 := by
        have I := scan_ok h1 i hir
        have h2 := nodup_lt_len rs.length (List.Pairwise.imp (fun h => Nat.ne_of_gt h) I.desc) fun q hq => scan_lt h1 hir hq
        omega
      refine s_when (et_test (ev_op (hix _ rfl rfl _ (Ex.refl _)) (ev_var rfl) rv_I0)) (fun hb H6 e6 => ?_) (fun hb H6 e6 => ?_)
      · have hb := of_decide_eq_true hb
        refine q_app (e6 _ _ hf5) (ev_var rfl) (v := vn (rs.length - 1 - i)) (ev_var rfl) (by rw [List.length_map]; omega) fun H7 e7 => ?_
        have hp7 : (upd H7 f (.lst ((scan rs i).1.map vn ++ [vn (rs.length - 1 - i)]))) p = some (.lst ((preL rs rs.length).map V.int)) := by
          rw [upd_ne hfp.symm]
          exact e7 _ _ (e6 _ _ hp5)
        refine s_asg (v := .int (pre rs (rs.length - 1 - i))) ?_ fun H8 e8 => ?_
        · have := ev_ixLI (σ := List.set [some (V.ref a), some (V.int rs.sum), some (V.ref p), y3, some (V.ref f), some (V.int (scan rs i).2), y6, none, none] 6 (some (V.int ((rs.length - 1 - i : Nat) : Int)))) (ta := tVar 2) (tb := tVar 6) (ev_var rfl) (sq_of (K := K) hp7) (ev_var rfl) (by omega) (by rw [preL_len]; omega)
          rw [Int.toNat_natCast, preL_get (by omega)] at this
          exact this
        · have es : scan rs (i + 1) = ((scan rs i).1 ++ [rs.length - 1 - i], pre rs (rs.length - 1 - i)) := by
            show (if _ then _ else _) = _
            rw [if_pos hb]
          refine ⟨_, by rw [es]; rfl, (Ex.mut (e5.trans (e6.trans e7)) hfH).trans e8, e8 _ _ hp7, ?_, by omega⟩
          rw [es, List.map_append]
          exact e8 _ _ upd_same
      · have hb := of_decide_eq_false hb
        have es : scan rs (i + 1) = scan rs i := by
          show (if _ then _ else _) = _
          rw [if_neg hb]
        exact ⟨_, by rw [es]; rfl, e5.trans e6, e6 _ _ hp5, by rw [es]; exact e6 _ _ hf5, by omega⟩
    rintro σ2 H5 ⟨y6, rfl, e5, hp5, hf5, _⟩
    have en : (((rs.map V.int).length : Int) - 1 - (-1)).toNat = rs.length := by
      rw [List.length_map]
      omega
    rw [en] at hf5
    rw [en]
    have I := scan_ok h1 rs.length (Nat.le_refl _)
    -- low
    refine q_asg (v := .int ((scan rs rs.length).2 + rs.sum)) (ev_cbL (el_mapI (xs := preL rs rs.length) (emb := V.int) (fun h => .int (h + rs.sum)) (ei_list (ev_var rfl) (sq_of hp5)) (by rw [preL_len]; omega) (fun _ => rfl) (fun h H6 hm e6 => ev_op (ev_var rfl) (ev_var rfl) rv_I0)) fun p6 H6 e6 h6 => ?_) fun H6 e6 => ?_
    · have e7 : (preL rs rs.length).map (fun h => V.int (h + rs.sum)) = ((preL rs rs.length).map fun h => h + rs.sum).map V.int := by rw [List.map_map]; rfl
      rw [e7] at h6
      refine rc_minI (sq_of h6) ?_ ?_
      · obtain ⟨r, a1, a2, a3⟩ := I.att
        rw [List.mem_map]
        refine ⟨pre rs r, ?_, by rw [a3]⟩
        unfold preL
        exact List.mem_map_of_mem (List.mem_range.mpr (by omega))
      · intro y hy
        obtain ⟨h, hh, rfl⟩ := List.mem_map.mp hy
        unfold preL at hh
        obtain ⟨r, hr', rfl⟩ := List.mem_map.mp hh
        have := I.low r (by omega) (by have := List.mem_range.mp hr'; omega)
        omega
    refine s_retL (el_sortedN (ns := (picked rs).map fun n : Nat => (n : Int)) ?_ (picked_perm' h1 hr) (stayI_sorted rs)) fun p7 H7 hp7 e7 h7 => q p7 H7 (fresh_back (e5.trans e6) hp7) (e5.trans (e6.trans e7)) h7
    rw [← vn_map]
    refine el_lcI (xs := (scan rs rs.length).1) (emb := vn) (fun q => decide (pre rs q < (scan rs rs.length).2 + rs.sum)) vn (ei_list (ev_var rfl) (sq_of (e6 _ _ hf5))) ?_ (fun _ => rfl) (fun q H8 hm e8 => ?_) (fun q H8 hm e8 _ => ev_var rfl)
    · have h2 := nodup_lt_len rs.length (List.Pairwise.imp (fun h => Nat.ne_of_gt h) I.desc) fun q hq => scan_lt h1 (Nat.le_refl _) hq
      omega
    · have hq := scan_lt h1 (Nat.le_refl _) hm
      have := ev_ixLI (σ := List.set (wipe (List.set [some (V.ref a), some (V.int rs.sum), some (V.ref p), y3, some (V.ref f), some (V.int (scan rs rs.length).2), y6, none, none] 7 (some (V.int ((scan rs rs.length).2 + rs.sum)))) [6]) 6 (some (vn q))) (ta := tVar 2) (tb := tVar 6) (i := (q : Int)) (ev_var rfl) (sq_of (K := K) (e8 _ _ (e6 _ _ hp5))) (ev_var rfl) (by omega) (by rw [preL_len]; omega)
      rw [Int.toNat_natCast, preL_get (by omega)] at this
      exact et_test (ev_op this (ev_var rfl) rv_I0)
abbrev s_gone_round : Stmt := topS 20
abbrev N_gone_round : List Str := ["row", "stay", "falls", "turn"]
theorem sc_gone_round : FnScope N_gone_round ["row"] (defScope s_gone_round) := ⟨rfl, rfl, rfl, by decide +kernel, rfl, by decide +kernel, by decide +kernel⟩
theorem ok_gone_round {P : Program} {w : World} {K : PySem.W.Frag} {mg : Str → Option Value} {base : Heap} {A : Ad} {f : Addr} {fd : FuncData} (T : Txt K mg A) (Dx : Df K mg "gone_round" s_gone_round ["row"] f fd) (c_Round_init : ICal P w K mg base 1 A.Round ["self", "stay", "falls"] (sp_Round_init K A)) (c_check_row : Cal P w K mg base 4 "check_row" ["row"] (sp_check_row K)) (c_fall_of : Cal P w K mg base 1 "fall_of" ["row"] (sp_fall_of K)) (c_staying : Cal P w K mg base 1 "staying" ["row"] (sp_staying K)) (c_turned : Cal P w K mg base 1 "turned" ["row", "turn"] (sp_turned K)) :
    Cal P w K mg base 5 "gone_round" ["row"] (sp_gone_round K A) := by
  obtain ⟨f_Round_init, fd_Round_init, G_Round_init, bd_Round_init, M_Round⟩ := c_Round_init
  obtain ⟨f_check_row, fd_check_row, G_check_row, k_check_row, bd_check_row, g_check_row⟩ := c_check_row
  obtain ⟨f_fall_of, fd_fall_of, G_fall_of, k_fall_of, bd_fall_of, g_fall_of⟩ := c_fall_of
  obtain ⟨f_staying, fd_staying, G_staying, k_staying, bd_staying, g_staying⟩ := c_staying
  obtain ⟨f_turned, fd_turned, G_turned, k_turned, bd_turned, g_turned⟩ := c_turned
  refine Dx.cal (Dx.F.ok sc_gone_round (fun vs H Q E h => ?_) (fun cdv Ar outer s H vs Q E hr h => ?_))
  · obtain ⟨a, rs, rfl, hS, R, q⟩ := h
    rfl
  · obtain ⟨a, rs, rfl, hS, R, q⟩ := h
    refine ⟨_, (pss_cons (ps_expr (pe_call G_check_row (hr.mono (by decide)) (by rfl) g_check_row k_check_row bd_check_row .nil pass0 (pa_cons (pv 0) pa_nil)))
      (pss_cons (ps_par (i := 1) (j := 2) (by rfl) sc_gone_round.nd rfl rfl (by decide) rfl rfl (pa_cons (pe_call G_staying (hr.mono (by decide)) (by rfl) g_staying k_staying bd_staying .nil pass0 (pa_cons (pv 0) pa_nil)) (pa_cons (pe_lst pa_nil) pa_nil)) (by rfl))
      (pss_cons (ps_for PassesOwn.never rfl (pi_range1 (by rfl) T.b_range (pa_cons (pe_callB tl_len (by rfl) T.b_len (by decide +kernel) (pa_cons (pv 0) pa_nil)) pa_nil)) (pg_name (i := 3) sc_gone_round.nd rfl (Or.inl rfl) (hf := Or.inr rfl)) (pss_one (ps_if (pt_cmpR tl_notIn (pv 3) (pv 1) (by rfl)) (pss_one (ps_expr (pe_bm PySem.F.plainAttrs_list PySem.F.slot_list_append PySem.F.type_list_append mt_append (pv 2) (pa_cons (pe_tup (pa_cons (pv 3) (pa_cons (pe_call G_fall_of (hr.mono (by decide)) (by rfl) g_fall_of k_fall_of bd_fall_of .nil pass0 (pa_cons (pe_call G_turned (hr.mono (by decide)) (by rfl) g_turned k_turned bd_turned .nil pass0 (pa_cons (pv 0) (pa_cons (pv 3) pa_nil))) pa_nil)) pa_nil))) pa_nil)))) pss_nil)))
      (pss_one (ps_ret (pe_make M_Round G_Round_init (hr.mono (by decide)) (by rfl) T.g_Round bd_Round_init .nil pass0 (pa_cons (pv 1) (pa_cons (pv 2) pa_nil)))))))), ?_⟩
    try dsimp only [cxOf, Cx.nox, Cx.wish, Cx.blk]
    have h60 := R.len
    apply q_drop
    · walk_at "ev"
    intro H1 e1
    have hS1 := ex_l e1 hS
    refine q_parLL (xs := (stayI rs).map V.int) (ys := []) (el_call (ea_cons (ev_var rfl) ea_nil) (v_staying hS1 (by omega) (fun s hs => (R.stp s hs).2))) (el_lst ea_nil (by decide)) fun p p2 H2 hp hp2 hne e2 h2 h2' => ?_
    have hpH := fresh_back e1 hp
    have hp2H := fresh_back e1 hp2
    have E2 := e1.trans e2
    refine q_forR1 (n := ((rs.map V.int).length : Int)) (ea_cons (ev_cb (ea_cons (ev_var rfl) ea_nil) (rc_len (ex_l e2 hS1))) ea_nil) (by rw [List.length_map]; omega) (fun i σ' H' => ∃ y3 ts, σ' = [some (.ref a), some (.ref p), some (.ref p2), y3] ∧ Ex H H' ∧ H' p = some (.lst ((stayI rs).map V.int)) ∧ H' p2 = some (.lst ts) ∧ Prs H' ts (((List.range i).filter fun t => !stB rs t).map fun t : Nat => ((t : Int), fallZ (fallOf (rot rs t))))) (fun H3 e3 => ⟨none, [], rfl, E2.trans e3, e3 _ _ h2, e3 _ _ h2', Prs.nil⟩) ?_ ?_
    · rintro i σ' H' hi ⟨y3, ts, rfl, e, h, h', pr⟩
      rw [List.length_map] at hi
      have hiff : inV (V.int (i : Int)) ((stayI rs).map V.int) = stB rs i := by
        unfold inV
        rw [List.any_map, Bool.eq_iff_iff, List.any_eq_true]
        constructor
        · rintro ⟨t, ht, hv⟩
          have : t = (i : Int) := by simpa [Function.comp, eqV] using hv
          subst this
          rw [← stT_stB]
          exact (mem_stayI.mp ht).2.2
        · intro hb
          refine ⟨(i : Int), mem_stayI.mpr ⟨by omega, by omega, ?_⟩, by simp [Function.comp, eqV]⟩
          rw [stT_stB]
          exact hb
      have hflat : ((stayI rs).map V.int).all flatV = true := by
        rw [List.all_map, List.all_eq_true]
        intro t _
        rfl
      refine s_when (b := !stB rs i) (et_is (et_test (ev_op (ev_var rfl) (ev_var rfl) (rv_niL (sq_of h) rfl hflat))) (by rw [hiff])) (fun hb H3 e3 => ?_) (fun hb H3 e3 => ?_)
      · have hb' : stB rs i = false := by simpa using hb
        have hno : fallOf (rot rs i) ≠ none := fun z => by
          unfold stB at hb'
          rw [z] at hb'
          cases hb'
        have hfall := ev_fall_turned (K := K) (E := E0) (E' := E0) (σ := List.set [some (V.ref a), some (V.ref p), some (V.ref p2), y3] 3 (some (V.int (i : Int)))) (t := tCons (tVar 0) (tCons (tVar 3) tNil)) (ea_cons (ev_var rfl) (ea_cons (ev_var rfl) ea_nil)) (ex_l (e.trans e3) hS) (by omega : rs.length ≤ 1000) (by omega : (0 : Int) ≤ (i : Int))
        rw [Int.toNat_natCast, vO_some hno] at hfall
        refine s_appU (e3 _ _ h') (ev_var rfl) (eu_tup (ea_cons (ev_var rfl) (ea_cons hfall ea_nil)) (by show 2 ≤ 100000; decide)) ?_ fun T H4 hT e4 h4 => ?_
        · rw [pr.1, List.length_map]
          have := List.length_filter_le (fun t => !stB rs t) (List.range i)
          rw [List.length_range] at this
          omega
        · refine ⟨_, ts ++ [.ref T], rfl, Ex.mut (e.trans (e3.trans e4)) hp2H, ?_, upd_same, ?_⟩
          · rw [upd_ne hne]
            exact e4 _ _ (e3 _ _ h)
          · rw [List.range_succ, List.filter_append, List.map_append]
            have e5 : ([i].filter fun t => !stB rs t) = [i] := by simp [hb']
            rw [e5]
            exact Prs.upd (e4 _ _ (e3 _ _ h')) ((pr.ex (e3.trans e4)).snoc h4)
      · have hb' : stB rs i = true := by simpa using hb
        refine ⟨_, ts, rfl, e.trans e3, e3 _ _ h, e3 _ _ h', ?_⟩
        rw [List.range_succ, List.filter_append, List.map_append]
        have e5 : ([i].filter fun t => !stB rs t) = [] := by simp [hb']
        rw [e5, List.map_nil, List.append_nil]
        exact pr.ex e3
    · rintro σ' H' ⟨y3, ts, rfl, e, h, h', pr⟩
      rw [List.length_map, Int.toNat_natCast] at pr
      refine er_make (A := A) (ea_cons (ev_var rfl) (ea_cons (ev_var rfl) ea_nil)) (sq_of (K := K) h) (sq_of h') H' (Ex.refl _) _ fun x dx l1 l2 H2 hx hl1 hl2 h12 e2 hx2 hl1' hl2' => ?_
      exact q x l1 l2 ts H2 (fresh_back e hx) (fresh_back e hl1) (fresh_back e hl2) h12 (e.trans e2) ⟨⟨dx, hx2⟩, hl1', hl2', pr.ex e2⟩
abbrev s_law : Stmt := topS 33
abbrev N_law : List Str := ["_law_script", "_law_by", "_law_row_here", "_law_at", "_law_found", "_law_stay_here", "_law_falls", "_law_turn", "_law_many", "_law_answer", "_law_due", "_law_tried", "_law_told"]
theorem sc_law : FnScope N_law ["_law_script"] (defScope s_law) := ⟨rfl, rfl, rfl, by decide +kernel, rfl, by decide +kernel, by decide +kernel⟩
theorem ok_law {P : Program} {w : World} {K : PySem.W.Frag} {mg : Str → Option Value} {base : Heap} {A : Ad} {f : Addr} {fd : FuncData} (T : Txt K mg A) (Dx : Df K mg "law" s_law ["_law_script"] f fd) (c_Falls_init : ICal P w K mg base 1 A.Falls ["self", "many"] (sp_Falls_init A)) (c_Falls_shows : MCal P w K mg base 2 A.Falls "shows" ["self", "row", "turn"] (sp_Falls_shows K A)) (c_Round_init : ICal P w K mg base 1 A.Round ["self", "stay", "falls"] (sp_Round_init K A)) (c_Round_shows : MCal P w K mg base 2 A.Round "shows" ["self", "row"] (sp_Round_shows K A)) (c_Stays_shows : MCal P w K mg base 2 A.Stays "shows" ["self", "row", "turn"] (sp_Stays_shows K)) (c_l_built_right : Cal P w K mg base 4 "_law_built_right" ["_law_row_here", "_law_stay_here", "_law_falls"] (sp_k02_built K A)) (c_l_cell_at : Cal P w K mg base 1 "_law_cell_at" ["_law_script", "_law_k"] (sp_l_cell_at K)) (c_l_fall : Cal P w K mg base 1 "_law_fall" ["_law_row_here", "_law_turn"] (sp_l_fall K)) (c_l_falls_right : Cal P w K mg base 1 "_law_falls_right" ["_law_row_here", "_law_turn", "_law_many"] (sp_l_falls_right K)) (c_l_number : Cal P w K mg base 2 "_law_number" ["_law_cell", "_law_k", "_law_limit"] (sp_l_number K)) (c_l_row : Cal P w K mg base 3 "_law_row" ["_law_script", "_law_by", "_law_most"] (sp_l_row K)) (c_l_says : Cal P w K mg base 1 "_law_says" ["_law_said", "_law_due"] (sp_l_says K)) (c_l_tries : Cal P w K mg base 1 "_law_tries" ["_law_row_here", "_law_stay_here", "_law_falls", "_law_at"] (sp_k02_tries K)) (c_gone_round : Cal P w K mg base 5 "gone_round" ["row"] (sp_gone_round K A)) :
    FnOk P w K mg base CX0 6 f fd ["_law_script"] (sp_law K) := by
  obtain ⟨f_Falls_init, fd_Falls_init, G_Falls_init, bd_Falls_init, M_Falls⟩ := c_Falls_init
  obtain ⟨f_Falls_shows, fd_Falls_shows, G_Falls_shows, bd_Falls_shows, m_Falls_shows⟩ := c_Falls_shows
  obtain ⟨f_Round_init, fd_Round_init, G_Round_init, bd_Round_init, M_Round⟩ := c_Round_init
  obtain ⟨f_Round_shows, fd_Round_shows, G_Round_shows, bd_Round_shows, m_Round_shows⟩ := c_Round_shows
  obtain ⟨f_Stays_shows, fd_Stays_shows, G_Stays_shows, bd_Stays_shows, m_Stays_shows⟩ := c_Stays_shows
  obtain ⟨f_l_built_right, fd_l_built_right, G_l_built_right, k_l_built_right, bd_l_built_right, g_l_built_right⟩ := c_l_built_right
  obtain ⟨f_l_cell_at, fd_l_cell_at, G_l_cell_at, k_l_cell_at, bd_l_cell_at, g_l_cell_at⟩ := c_l_cell_at
  obtain ⟨f_l_fall, fd_l_fall, G_l_fall, k_l_fall, bd_l_fall, g_l_fall⟩ := c_l_fall
  obtain ⟨f_l_falls_right, fd_l_falls_right, G_l_falls_right, k_l_falls_right, bd_l_falls_right, g_l_falls_right⟩ := c_l_falls_right
  obtain ⟨f_l_number, fd_l_number, G_l_number, k_l_number, bd_l_number, g_l_number⟩ := c_l_number
  obtain ⟨f_l_row, fd_l_row, G_l_row, k_l_row, bd_l_row, g_l_row⟩ := c_l_row
  obtain ⟨f_l_says, fd_l_says, G_l_says, k_l_says, bd_l_says, g_l_says⟩ := c_l_says
  obtain ⟨f_l_tries, fd_l_tries, G_l_tries, k_l_tries, bd_l_tries, g_l_tries⟩ := c_l_tries
  obtain ⟨f_gone_round, fd_gone_round, G_gone_round, k_gone_round, bd_gone_round, g_gone_round⟩ := c_gone_round
  refine (Dx.F.ok sc_law (fun vs H Q E h => ?_) (fun cdv Ar outer s H vs Q E hr h => ?_))
  · obtain ⟨a, ns, rfl, hS, hlen, k⟩ := h
    rfl
  · obtain ⟨a, ns, rfl, hS, hlen, k⟩ := h
    refine ⟨_, (pss_cons (ps_for PassesOwn.never rfl (pi_range1 (by rfl) T.b_range (pa_cons pe_int pa_nil)) (pg_name (i := 1) sc_law.nd rfl (Or.inl rfl) (hf := Or.inr rfl)) (pss_cons (ps_par (i := 2) (j := 3) (by rfl) sc_law.nd rfl rfl (by decide) rfl rfl (pa_cons (pe_call G_l_row (hr.mono (by decide)) (by rfl) g_l_row k_l_row bd_l_row .nil pass0 (pa_cons (pv 0) (pa_cons (pv 1) (pa_cons pe_int pa_nil)))) (pa_cons (pe_call G_l_number (hr.mono (by decide)) (by rfl) g_l_number k_l_number bd_l_number .nil pass0 (pa_cons (pe_call G_l_cell_at (hr.mono (by decide)) (by rfl) g_l_cell_at k_l_cell_at bd_l_cell_at .nil pass0 (pa_cons (pv 0) (pa_cons (pv 1) pa_nil))) (pa_cons (pe_op tl_add (pv 1) pe_int) (pa_cons pe_int pa_nil)))) pa_nil)) (by rfl))
      (pss_cons (ps_set (i := 4) sc_law.nd rfl (Or.inl rfl) (pe_call G_gone_round (hr.mono (by decide)) (by rfl) g_gone_round k_gone_round bd_gone_round .nil pass0 (pa_cons (pv 2) pa_nil)))
      (pss_cons (ps_for PassesOwn.never rfl (pi_list (pe_call G_l_tries (hr.mono (by decide)) (by rfl) g_l_tries k_l_tries bd_l_tries .nil pass0 (pa_cons (pv 2) (pa_cons (pe_callTy tl_list (by rfl) T.b_list (by decide +kernel) (pa_cons (pe_fld (pv 4) rfl) pa_nil)) (pa_cons (pe_callTy tl_list (by rfl) T.b_list (by decide +kernel) (pa_cons (pe_fld (pv 4) rfl) pa_nil)) (pa_cons (pv 3) pa_nil)))))) (pg_tup rfl (pgs_cons (pg_name (i := 5) sc_law.nd rfl (Or.inl rfl) (hf := Or.inr rfl)) (pgs_cons (pg_name (i := 6) sc_law.nd rfl (Or.inl rfl) (hf := Or.inr rfl)) pgs_nil))) (pss_one (ps_if (pt_not (pt_val (pe_call G_l_built_right (hr.mono (by decide)) (by rfl) g_l_built_right k_l_built_right bd_l_built_right .nil pass0 (pa_cons (pv 2) (pa_cons (pv 5) (pa_cons (pv 6) pa_nil)))))) (pss_one (ps_ret pe_bl)) pss_nil)))
      (pss_one (ps_for PassesOwn.never rfl (pi_range1 (by rfl) T.b_range (pa_cons (pe_callB tl_len (by rfl) T.b_len (by decide +kernel) (pa_cons (pv 2) pa_nil)) pa_nil)) (pg_name (i := 7) sc_law.nd rfl (Or.inl rfl) (hf := Or.inr rfl)) (pss_cons (ps_if (pt_not (pt_val (pe_call G_l_says (hr.mono (by decide)) (by rfl) g_l_says k_l_says bd_l_says .nil pass0 (pa_cons (pe_meth (pe_makeO T.mk_Stays (by rfl) T.g_Stays) T.t_Stays.cl m_Stays_shows G_Stays_shows (hr.mono (by decide)) bd_Stays_shows .nil pass0 (pa_cons (pv 2) (pa_cons (pv 7) pa_nil))) (pa_cons (pe_cmpR tl_eq (pe_call G_l_fall (hr.mono (by decide)) (by rfl) g_l_fall k_l_fall bd_l_fall .nil pass0 (pa_cons (pv 2) (pa_cons (pv 7) pa_nil))) pe_int (nomark _)) pa_nil))))) (pss_one (ps_ret pe_bl)) pss_nil)
      (pss_one (ps_for PassesOwn.never rfl (pi_tup (pe_tup (pa_cons pe_int (pa_cons pe_int (pa_cons (pe_call G_l_fall (hr.mono (by decide)) (by rfl) g_l_fall k_l_fall bd_l_fall .nil pass0 (pa_cons (pv 2) (pa_cons (pv 7) pa_nil))) (pa_cons (pe_callB tl_len (by rfl) T.b_len (by decide +kernel) (pa_cons (pv 2) pa_nil)) (pa_cons (pe_op tl_add (pe_callB tl_len (by rfl) T.b_len (by decide +kernel) (pa_cons (pv 2) pa_nil)) pe_int) (pa_cons (pe_un un_neg pe_int) (pa_cons (pe_op tl_pow pe_int pe_int) (pa_cons (pv 3) pa_nil)))))))))) (pg_name (i := 8) sc_law.nd rfl (Or.inl rfl) (hf := Or.inr rfl)) (pss_cons (ps_set (i := 9) sc_law.nd rfl (Or.inl rfl) (pe_make M_Falls G_Falls_init (hr.mono (by decide)) (by rfl) T.g_Falls bd_Falls_init .nil pass0 (pa_cons (pv 8) pa_nil)))
      (pss_cons (ps_set (i := 10) sc_law.nd rfl (Or.inl rfl) (pe_call G_l_falls_right (hr.mono (by decide)) (by rfl) g_l_falls_right k_l_falls_right bd_l_falls_right .nil pass0 (pa_cons (pv 2) (pa_cons (pv 7) (pa_cons (pv 8) pa_nil)))))
      (pss_one (ps_if (PW.pt (pw_or (pt_cmpR tl_ne (pe_fld (pv 9) rfl) (pv 8) (nomark _)) (pw_or1 (pt_not (pt_val (pe_call G_l_says (hr.mono (by decide)) (by rfl) g_l_says k_l_says bd_l_says .nil pass0 (pa_cons (pe_meth (pv 9) T.t_Falls.cl m_Falls_shows G_Falls_shows (hr.mono (by decide)) bd_Falls_shows .nil pass0 (pa_cons (pv 2) (pa_cons (pv 7) pa_nil))) (pa_cons (pv 10) pa_nil)))))))) (pss_one (ps_ret pe_bl)) pss_nil)))))))))))))
      (pss_cons (ps_set (i := 11) sc_law.nd rfl (Or.inl rfl) (pe_lst (pa_cons (pe_tup (pa_cons (pe_lst (pa_cons pe_int pa_nil)) (pa_cons (pe_lst (pa_cons (pe_tup (pa_cons (pe_un un_neg pe_int) (pa_cons pe_int pa_nil))) pa_nil)) pa_nil))) (pa_cons (pe_tup (pa_cons (pe_lst (pa_cons pe_int pa_nil)) (pa_cons (pe_lst (pa_cons (pe_tup (pa_cons pe_int (pa_cons pe_int pa_nil))) pa_nil)) pa_nil))) (pa_cons (pe_tup (pa_cons (pe_lst (pa_cons (pe_un un_neg pe_int) pa_nil)) (pa_cons (pe_lst (pa_cons (pe_tup (pa_cons pe_int (pa_cons pe_int pa_nil))) pa_nil)) pa_nil))) (pa_cons (pe_tup (pa_cons (pe_lst (pa_cons pe_int pa_nil)) (pa_cons (pe_lst (pa_cons (pe_tup (pa_cons pe_int (pa_cons pe_int pa_nil))) pa_nil)) pa_nil))) (pa_cons (pe_tup (pa_cons (pe_lst (pa_cons pe_int (pa_cons pe_int pa_nil))) (pa_cons (pe_lst (pa_cons (pe_tup (pa_cons pe_int (pa_cons pe_int pa_nil))) pa_nil)) pa_nil))) pa_nil)))))))
      (pss_cons (ps_expr (pe_bm PySem.F.plainAttrs_list PySem.F.slot_list_append PySem.F.type_list_append mt_append (pv 11) (pa_cons (pe_tup (pa_cons (pe_listRg rfl (by rfl) T.b_list (prg_1 (by rfl) T.b_range pe_int)) (pa_cons (pe_lst pa_nil) pa_nil))) pa_nil)))
      (pss_cons (ps_for PassesOwn.never rfl (pi_list (pv 11)) (pg_tup rfl (pgs_cons (pg_name (i := 5) sc_law.nd rfl (Or.inl rfl) (hf := Or.inr rfl)) (pgs_cons (pg_name (i := 6) sc_law.nd rfl (Or.inl rfl) (hf := Or.inr rfl)) pgs_nil))) (pss_one (ps_if (pt_cmpR tl_notB (pe_meth (pe_make M_Round G_Round_init (hr.mono (by decide)) (by rfl) T.g_Round bd_Round_init .nil pass0 (pa_cons (pv 5) (pa_cons (pv 6) pa_nil))) T.t_Round.cl m_Round_shows G_Round_shows (hr.mono (by decide)) bd_Round_shows .nil pass0 (pa_cons (pe_lst (pa_cons pe_int (pa_cons pe_int pa_nil))) pa_nil)) pe_bl (nomark _)) (pss_one (ps_ret pe_bl)) pss_nil)))
      (pss_cons (ps_set (i := 12) sc_law.nd rfl (Or.inl rfl) (pe_call G_gone_round (hr.mono (by decide)) (by rfl) g_gone_round k_gone_round bd_gone_round .nil pass0 (pa_cons (pe_lst (pa_cons pe_int (pa_cons pe_int pa_nil))) pa_nil)))
      (pss_cons (ps_if (PW.pt (pw_or (pt_cmpR (tl_neD hr.units) (pe_fld (pv 12) rfl) (pe_lst (pa_cons pe_int pa_nil)) (nomark _)) (pw_or1 (pt_cmpR (tl_neD hr.units) (pe_fld (pv 12) rfl) (pe_lst (pa_cons (pe_tup (pa_cons pe_int (pa_cons pe_int pa_nil))) pa_nil)) (nomark _))))) (pss_one (ps_ret pe_bl)) pss_nil)
      (pss_cons (ps_asg (pe_tup (pa_cons pe_int (pa_cons pe_int pa_nil))) (pg_sub (pe_fld (pv 12) rfl) pe_int set_list))
      (pss_cons (ps_if (pt_cmpR tl_notB (pe_meth (pv 12) T.t_Round.cl m_Round_shows G_Round_shows (hr.mono (by decide)) bd_Round_shows .nil pass0 (pa_cons (pe_lst (pa_cons pe_int (pa_cons pe_int pa_nil))) pa_nil)) pe_bl (nomark _)) (pss_one (ps_ret pe_bl)) pss_nil)
      (pss_cons (ps_expr (pe_bm0 PySem.F.plainAttrs_list PySem.F.slot_list_pop PySem.F.type_list_pop mt_pop (pe_fld (pv 12) rfl)))
      (pss_cons (ps_if (pt_cmpR tl_notB (pe_meth (pv 12) T.t_Round.cl m_Round_shows G_Round_shows (hr.mono (by decide)) bd_Round_shows .nil pass0 (pa_cons (pe_lst (pa_cons pe_int (pa_cons pe_int pa_nil))) pa_nil)) pe_bl (nomark _)) (pss_one (ps_ret pe_bl)) pss_nil)
      (pss_cons (ps_expr (pe_bm PySem.F.plainAttrs_list PySem.F.slot_list_append PySem.F.type_list_append mt_append (pe_fld (pv 12) rfl) (pa_cons (pe_tup (pa_cons pe_int (pa_cons pe_int pa_nil))) pa_nil)))
      (pss_cons (ps_if (pt_cmpR tl_notB (pe_meth (pv 12) T.t_Round.cl m_Round_shows G_Round_shows (hr.mono (by decide)) bd_Round_shows .nil pass0 (pa_cons (pe_lst (pa_cons pe_int (pa_cons pe_int pa_nil))) pa_nil)) pe_bl (nomark _)) (pss_one (ps_ret pe_bl)) pss_nil)
      (pss_cons (ps_if (PW.pt (pw_or (pt_cmpR tl_notB (pe_meth (pe_make M_Round G_Round_init (hr.mono (by decide)) (by rfl) T.g_Round bd_Round_init .nil pass0 (pa_cons (pe_lst (pa_cons pe_int pa_nil)) (pa_cons (pe_lst (pa_cons (pe_tup (pa_cons pe_int (pa_cons pe_int pa_nil))) pa_nil)) pa_nil))) T.t_Round.cl m_Round_shows G_Round_shows (hr.mono (by decide)) bd_Round_shows .nil pass0 (pa_cons (pe_lst (pa_cons pe_int (pa_cons pe_int pa_nil))) pa_nil)) pe_bl (nomark _)) (pw_or1 (pt_cmpR tl_notB (pe_meth (pe_make M_Round G_Round_init (hr.mono (by decide)) (by rfl) T.g_Round bd_Round_init .nil pass0 (pa_cons (pe_lst (pa_cons pe_int pa_nil)) (pa_cons (pe_lst (pa_cons (pe_tup (pa_cons pe_int (pa_cons pe_int pa_nil))) pa_nil)) pa_nil))) T.t_Round.cl m_Round_shows G_Round_shows (hr.mono (by decide)) bd_Round_shows .nil pass0 (pa_cons (pe_lst (pa_cons pe_int (pa_cons pe_int pa_nil))) pa_nil)) pe_bl (nomark _))))) (pss_one (ps_ret pe_bl)) pss_nil)
      (pss_one (ps_ret (pe_and (pe_cmpR tl_isB (pe_meth (pe_make M_Round G_Round_init (hr.mono (by decide)) (by rfl) T.g_Round bd_Round_init .nil pass0 (pa_cons (pe_lst (pa_cons pe_int (pa_cons pe_int pa_nil))) (pa_cons (pe_lst pa_nil) pa_nil))) T.t_Round.cl m_Round_shows G_Round_shows (hr.mono (by decide)) bd_Round_shows .nil pass0 (pa_cons (pe_lst (pa_cons pe_int (pa_cons pe_int pa_nil))) pa_nil)) pe_bl (nomark _)) (pe_one (pe_cmpR tl_isB (pe_meth (pe_make M_Falls G_Falls_init (hr.mono (by decide)) (by rfl) T.g_Falls bd_Falls_init .nil pass0 (pa_cons pe_int pa_nil)) T.t_Falls.cl m_Falls_shows G_Falls_shows (hr.mono (by decide)) bd_Falls_shows .nil pass0 (pa_cons (pe_lst (pa_cons pe_int (pa_cons (pe_un un_neg pe_int) (pa_cons pe_int pa_nil)))) (pa_cons pe_int pa_nil))) pe_bl (nomark _))))))))))))))))))), ?_⟩
    try dsimp only [cxOf, Cx.nox, Cx.wish, Cx.blk]
    refine q_forR1 (n := 3) (ea_cons ev_c ea_nil) (by omega) (fun i σ' H' => ∃ y1 y2 y3 y4 y5 y6 y7 y8 y9 y10, σ' = [some (.ref a), y1, y2, y3, y4, y5, y6, y7, y8, y9, y10, none, none] ∧ Ex H H') (fun H1 e1 => ⟨none, none, none, none, none, none, none, none, none, none, rfl, e1⟩) ?_ ?_
    · rintro i σ' H' hi ⟨y1, y2, y3, y4, y5, y6, y7, y8, y9, y10, rfl, e⟩
      have hS' := ex_l e hS
      refine q_parCV (ws := [.ref a, .int (i : Int), .int 12]) (ea_cons (ev_var rfl) (ea_cons (ev_var rfl) (ea_cons ev_c ea_nil))) fun H1 e1 => ⟨a, ns, (i : Int), 12, rfl, ex_l e1 hS', by omega, by omega, by omega, by omega, fun rs p H2 R hrl hp e2 h2 => ?_⟩
      have E2 := e.trans (e1.trans e2)
      have hS2 := ex_l E2 hS
      have hpos := R.pos
      have h60 := R.len
      have hnb := numV_bound (c := cellV ns i) (k := (i : Int) + 4) (lim := 12) (by omega)
      dsimp only
      apply ev_use
      · walk_at "ev"
      intro H3 e3
      refine ⟨_, _, rfl, ?_⟩
      generalize numV (cellV ns i) ((i : Int) + 4) 12 = at' at *
      have hsq3 : SqL K H3 p (rs.map V.int) := sq_of (e3 _ _ h2)
      refine q_asgC (ea_cons (ev_var rfl) ea_nil) fun H4 e4 => ⟨p, rs, rfl, ex_l e4 hsq3, R, fun x l1 l2 ts H5 hx hl1 hl2 h12 e5 RA => ?_⟩
      have hsq5 := ex_l (e4.trans e5) hsq3
      have E5 := E2.trans (e3.trans (e4.trans e5))
      obtain ⟨dx, hob⟩ := RA.ob
      have hst60 := stayI_le rs
      have hfs60 := fallsOf_le rs
      have mL : ∀ xs : List V, Mono (fun w H2 => ∃ p, w = .ref p ∧ H2 p = some (.lst xs)) := fun xs v H H' e ⟨p, h1, h2⟩ => ⟨p, h1, e _ _ h2⟩
      have noS : (rf l1 l2).lookup ("shows" : Str) = none := rf_no (by decide +kernel) (by decide +kernel) l1 l2
      refine q_forPE (n := 100) (Q := PTry) PTry.mono (x_call (xa_v (ev_var rfl) (xa_cons (xl (el_list (ev_fld (ev_var rfl) hob T.t_Round.cl T.n_Round_stay (rf_stay l1 l2)) (sq_of RA.h1))) (mL _) (xa_cons (xl (el_list (ev_fld (ev_var rfl) hob T.t_Round.cl T.n_Round_falls (rf_falls l1 l2)) (sq_of RA.h2))) (mL _) (xa_v (ev_var rfl) xa_nil)))) fun vs H6 e6 hvs => ?_) (fun σ' H' => ∃ y5 y6, σ' = [some (.ref a), some (.int (i : Int)), some (.ref p), some (.int at'), some (.ref x), y5, y6, y7, y8, y9, y10, none, none] ∧ Ex H5 H') (fun H6 e6 => ⟨_, _, rfl, e6⟩) ?_ ?_
      · obtain ⟨_, _, _, _, rfl, rfl, ⟨b, rfl, hb⟩, ⟨c, rfl, hc⟩, rfl⟩ := hvs.four
        exact fun H7 e7 Q q E => ⟨p, b, c, rs, stayI rs, ts, fallsOf rs, at', rfl, ex_l (e6.trans e7) hsq5, by omega, e7 _ _ hb, e7 _ _ hc, RA.pr.ex (e6.trans e7), by omega, by omega, hnb.1, q⟩
      · rintro H6 v σ' H7 e6 e67 ⟨y5', y6', rfl, e7⟩ hv
        obtain ⟨T', vs, rfl, hT, hvs⟩ := hv
        obtain ⟨_, _, rfl, ⟨b, bs, rfl, hb, hbl, hba⟩, ⟨c, cs, rfl, hc, hcl, hca⟩⟩ := hvs.two
        obtain ⟨st, rfl⟩ := ints_of hba
        obtain ⟨fs, hfs⟩ := prs_of hca
        have hfs := hfs.ex cut_sub
        rw [List.length_map] at hbl
        have hfl : fs.length ≤ 200 := by rw [← hfs.1]; exact hcl
        refine ⟨T', _, rfl, st_of hT, rfl, _, _, rfl, _, _, rfl, rfl, ?_⟩
        refine s_when (b := false) (et_is (et_not (et_B (ev_call (ea_cons (ev_var rfl) (ea_cons (ev_var rfl) (ea_cons (ev_var rfl) ea_nil))) (v_k02_built (ex_l e7 hsq5) (by omega) hb hc hfs (by omega) (by omega))))) rfl) (fun hb => nomatch hb) fun _ H8 e8 => ⟨e67.trans e8, _, _, rfl, e7.trans e8⟩
      rintro σ' H6 ⟨y5', y6', rfl, e6⟩
      have hsq6 := ex_l e6 hsq5
      have E6 := E5.trans e6
      refine s_forR1 (n := (rs.length : Int)) (ea_cons (ev_is (ev_cb (ea_cons (ev_var rfl) ea_nil) (rc_len hsq6)) (by rw [List.length_map])) ea_nil) (by omega) (fun j σ' H' => ∃ y7 y8 y9 y10, σ' = [some (.ref a), some (.int (i : Int)), some (.ref p), some (.int at'), some (.ref x), y5', y6', y7, y8, y9, y10, none, none] ∧ Ex H6 H') (fun H7 e7 => ⟨_, _, _, _, rfl, e7⟩) ?_ ?_
      · rintro t σ' H7 ht ⟨y7', y8', y9', y10', rfl, e7⟩
        have hsq7 := ex_l e7 hsq6
        refine q_when (b := false) (et_is (et_not (et_B (ev_call (ea_cons (ev_methX (z := .bl (decide (fallOf (rot rs ((t : Int)).toNat) = none))) (P := fun w H2 => ∃ p, w = .ref p ∧ ∃ dx, H2 p = some (.ins A.Stays dx [])) (fun v H H' e ⟨p, h1, dx, h2⟩ => ⟨p, h1, dx, e _ _ h2⟩) (xn en_make0) (fun w H1 e ⟨p, h1, dx, h2⟩ => ⟨p, dx, [], h1, h2, rfl⟩) (xa_v (ev_var rfl) (xa_v (ev_var rfl) xa_nil)) (fun w vs H1 e hw hvs => by
          obtain ⟨p', rfl, _⟩ := hw
          obtain ⟨_, _, rfl, rfl, rfl⟩ := hvs.two
          exact v_Stays_shows (ex_l e hsq7) (by omega) (by omega))) (ea_cons (ev_op (ev_call (ea_cons (ev_var rfl) (ea_cons (ev_var rfl) ea_nil)) (v_l_fall hsq7 (by omega) (by omega))) ev_c (rv_eq rfl)) ea_nil)) v_l_says))) ?_) (fun hb => nomatch hb) fun _ H8 e8 => ?_
        · rw [fallN_zero, decide_eq_true rfl]
          rfl
        have hsq8 := ex_l e8 hsq7
        refine s_forNU (K := K) (xs := [.int 0, .int 1, .int (fallN (fallOf (rot rs ((t : Int)).toNat))), .int ((rs.map V.int).length : Int), .int (((rs.map V.int).length : Int) + 1), .int (-1), .int (10 ^ (20 : Int).toNat), .int at']) (eu_tup (ea_cons ev_c (ea_cons ev_c (ea_cons (ev_call (ea_cons (ev_var rfl) (ea_cons (ev_var rfl) ea_nil)) (v_l_fall hsq8 (by omega) (by omega))) (ea_cons (ev_cb (ea_cons (ev_var rfl) ea_nil) (rc_len hsq8)) (ea_cons (ev_op (ev_cb (ea_cons (ev_var rfl) ea_nil) (rc_len hsq8)) ev_c rv_I0) (ea_cons (ev_un ev_c ru_neg) (ea_cons (ev_op ev_c ev_c (rv_I (And.intro (by decide) (And.intro (by decide) (by decide))))) (ea_cons (ev_var rfl) ea_nil)))))))) (by show 8 ≤ 100000; decide)) (fun p2 k σ' H' => ∃ y8 y9 y10, σ' = [some (.ref a), some (.int (i : Int)), some (.ref p), some (.int at'), some (.ref x), y5', y6', some (.int (t : Int)), y8, y9, y10, none, none] ∧ Ex H8 H' ∧ H' p2 = some (.tup [.int 0, .int 1, .int (fallN (fallOf (rot rs ((t : Int)).toNat))), .int ((rs.map V.int).length : Int), .int (((rs.map V.int).length : Int) + 1), .int (-1), .int (10 ^ (20 : Int).toNat), .int at'])) (fun p2 H9 hp e9 h9 => ⟨_, _, _, rfl, e9, h9⟩) (fun p i σ' H' hi ⟨_, _, _, _, _, h⟩ => st_of h) ?_ ?_
        · rintro p2 k v σ' H9 hx ⟨y8, y9, y10, rfl, e9, hp9⟩
          have hxi : ∃ n : Int, v = .int n := by
            have := List.mem_of_getElem? hx
            simp only [List.mem_cons, List.not_mem_nil, or_false] at this
            rcases this with h | h | h | h | h | h | h | h <;> exact ⟨_, h⟩
          obtain ⟨m, rfl⟩ := hxi
          refine q_asgN (en_Falls (ev_var rfl)) fun o H10 ho e10 hod => ?_
          obtain ⟨do', hod⟩ := hod
          have hsq10 := ex_l (e9.trans e10) hsq8
          refine q_asg (ev_call (ea_cons (ev_var rfl) (ea_cons (ev_var rfl) (ea_cons (ev_var rfl) ea_nil))) (v_l_falls_right hsq10 (by omega) (by omega))) fun H11 e11 => ?_
          have hod11 := e11 _ _ hod
          have hsq11 := ex_l e11 hsq10
          refine s_when (b := false) (et_is (et_or (et_test (ev_op (ev_fld (ev_var rfl) hod11 T.t_Falls.cl T.n_Falls_many (lk_many _)) (ev_var rfl) (rv_ne rfl))) (fun _ => et_not (et_B (ev_call (ea_cons (ev_meth (ev_var rfl) hod11 (lk_no (by decide +kernel) _) (ea_cons (ev_var rfl) (ea_cons (ev_var rfl) ea_nil)) (v_Falls_shows hod11 hsq11 (by omega) (by omega))) (ea_cons (ev_var rfl) ea_nil)) v_l_says)))) ?_) (fun hb => nomatch hb) fun _ H12 e12 => ⟨_, _, _, rfl, e9.trans (e10.trans (e11.trans e12)), e12 _ _ (e11 _ _ (e10 _ _ hp9))⟩
          rw [decide_eq_true rfl, decide_eq_true rfl]
          rfl
        · rintro p2 σ' H9 ⟨y8, y9, y10, rfl, e9, hp9⟩
          exact ⟨_, _, _, _, rfl, e7.trans (e8.trans e9)⟩
      · rintro σ' H7 ⟨y7', y8', y9', y10', rfl, e7⟩
        exact ⟨_, _, _, _, _, _, _, _, _, _, rfl, E6.trans e7⟩
    · rintro σ' H' ⟨y1, y2, y3, y4, y5, y6, y7, y8, y9, y10, rfl, e⟩
      have l10 : ∀ {σ : L2.St} {H : Hp}, EvL (tLst (tCons (tC (.int 1)) (tCons (tC (.int 0)) tNil))) σ H (([1, 0] : List Int).map V.int) := fun {σ H} => el_ints [1, 0] (ea_cons ev_c (ea_cons ev_c ea_nil)) (by decide)
      have i1 : ∀ {σ : L2.St} {H : Hp} (z : Int), EvL (tLst (tCons (tC (.int z)) tNil)) σ H (([z] : List Int).map V.int) := fun {σ H} z => el_ints [z] (ea_cons ev_c ea_nil) (by show 1 ≤ 1000; decide)
      have big : showsV [1, 0] ((List.range 3000).map fun i : Nat => (i : Int)) [] = false := by
        unfold showsV
        rw [decide_eq_false (fun h => by
          have := congrArg List.length h
          rw [(isort_perm _).length_eq] at this
          simp [rangeI] at this)]
        rfl
      refine q_asgX (P := PEl 5 PBad) (XS.plain (S := fun _ => False) (PEl.mono PBad.mono) (xe_lst PBad.mono sup_no (xsa_cons (x_bad (st := [0]) (fs := [(-1, 1)]) sup_no (xs_is sup_no (i1 0)) (xs_fs1 sup_no (ev_un ev_c ru_neg) ev_c) (by decide) (by decide) (by rw [shows_run]; decide +kernel)) PBad.mono (xsa_cons (x_bad (st := [0]) (fs := [(3, 1)]) sup_no (xs_is sup_no (i1 0)) (xs_fs1 sup_no ev_c ev_c) (by decide) (by decide) (by rw [shows_run]; decide +kernel)) PBad.mono (xsa_cons (x_bad (st := [-2]) (fs := [(1, 1)]) sup_no (xs_is sup_no (el_ints [-2] (ea_cons (ev_un ev_c ru_neg) ea_nil) (by decide))) (xs_fs1 sup_no ev_c ev_c) (by decide) (by decide) (by rw [shows_run]; decide +kernel)) PBad.mono (xsa_cons (x_bad (st := [2]) (fs := [(1, 1)]) sup_no (xs_is sup_no (i1 2)) (xs_fs1 sup_no ev_c ev_c) (by decide) (by decide) (by rw [shows_run]; decide +kernel)) PBad.mono (xsa_cons (x_bad (st := [0, 0]) (fs := [(1, 1)]) sup_no (xs_is sup_no (el_ints [0, 0] (ea_cons ev_c (ea_cons ev_c ea_nil)) (by decide))) (xs_fs1 sup_no ev_c ev_c) (by decide) (by decide) (by rw [shows_run]; decide +kernel)) PBad.mono xsa_nil))))) (fun P hP => List.eq_of_mem_replicate (n := 5) hP) rfl (by decide))) fun w1 H1 e1 hw1 => ?_
      obtain ⟨l, us, rfl, hl1, hln, hal⟩ := hw1
      refine q_of (s_appX hl1 (ev_var rfl) (x_bad (st := (List.range 3000).map fun i : Nat => (i : Int)) (fs := []) (sup_one hl1) (xs_is (sup_one hl1) (el_range (n := 3000) ev_c (by decide))) (xs_fs0 (sup_one hl1)) (by rw [List.length_map, List.length_range]; decide) (by decide) big) (by omega) fun v H2 e2 hv => ?_)
      have hpe : PEl 6 PBad (.ref l) (upd H2 l (.lst (us ++ [v]))) := ⟨l, us ++ [v], rfl, upd_same, by rw [List.length_append, List.length_singleton]; omega, fun u hu => by
        rcases List.mem_append.mp hu with h | h
        · rw [cut_upd (S := fun a => a = l) rfl]
          exact PBad.mono u _ _ (cut_ex e2) (hal u h)
        · rw [List.mem_singleton.mp h]
          exact hv⟩
      generalize upd H2 l (.lst (us ++ [v])) = H3 at *
      refine q_forPE (n := 6) (Q := PBad) PBad.mono ((xv (ev_var rfl)).imp fun w H4 e4 hw => by rw [hw]; exact PEl.mono PBad.mono _ _ _ e4 hpe) (fun σ' H' => ∃ y5 y6, σ' = [some (.ref a), y1, y2, y3, y4, y5, y6, y7, y8, y9, y10, some (.ref l), none] ∧ Ex H3 H') (fun H4 e4 => ⟨_, _, rfl, e4⟩) ?_ ?_
      · rintro H4 v σ' H5 e4 e45 ⟨y5', y6', rfl, e5⟩ ⟨st, fs, ⟨T', vs, rfl, hT, hvs⟩, hs9, hf9, hbad⟩
        obtain ⟨_, _, rfl, ⟨b, rfl, hb⟩, ⟨c, ts, rfl, hc, hp⟩⟩ := hvs.two
        refine ⟨T', _, rfl, st_of hT, rfl, _, _, rfl, _, _, rfl, rfl, ?_⟩
        refine s_when (b := false) (et_is (et_test (ev_op (ev_roundShows (x_roundX (xa_cons ((xv (ev_var rfl)).imp fun w H1 e1 hw => ⟨b, hw, e1 _ _ hb⟩) PIs.mono (xa_cons ((xv (ev_var rfl)).imp fun w H1 e1 hw => ⟨c, ts, hw, e1 _ _ hc, hp.ex e1⟩) PFs.mono xa_nil))) l10 (by decide) hs9 hf9) ev_c rv_notB)) (by rw [hbad]; rfl)) (fun hb => nomatch hb) fun _ H6 e6 => ⟨e45.trans e6, _, _, rfl, e5.trans e6⟩
      rintro σ' H5 ⟨y5', y6', rfl, e5⟩
      have R10 : Row [1, 0] := ⟨by decide, by decide, by decide⟩
      have s10 : stayI [1, 0] = [0] := by decide +kernel
      have f10 : fallsOf [1, 0] = [(1, 1)] := by decide +kernel
      refine q_asgX (x_goneN l10 R10) fun w6 H6 e6 hw6 => ?_
      obtain ⟨x, l1, l2, ts, rfl, RA⟩ := hw6
      rw [s10, f10] at RA
      obtain ⟨T', hT1, hT2⟩ := RA.pr.2 0 (1, 1) rfl
      have hts : ts = [.ref T'] := by
        have hl := RA.pr.1
        match ts, hl, hT1 with
        | [v], _, h => cases h; rfl
      subst hts
      have n12 : l1 ≠ l2 := fun z => by
        have h1 := RA.h1
        rw [z, RA.h2] at h1
        cases h1
      obtain ⟨dx, hob⟩ := RA.ob
      have told : ∀ {σ : L2.St} {H7 : Hp} {st : List Int} {ts : List V} {fs : List (Int × Int)}, σ[12]? = some (some (V.ref x)) → RndAt A H7 x l1 l2 st ts fs → EvX (tVar 12) σ H7 (PRd A st fs) := fun hσ r => (xv (ev_var hσ)).imp fun w H8 e8 hw => ⟨x, l1, l2, _, hw, r.ex e8⟩
      have falls : ∀ {σ : L2.St} {H7 : Hp} {st : List Int} {ts : List V} {fs : List (Int × Int)}, σ[12]? = some (some (V.ref x)) → RndAt A H7 x l1 l2 st ts fs → Ev (tFld K (tVar 12) "falls") σ H7 (.ref l2) := fun hσ r => by
        obtain ⟨dx, ho⟩ := r.ob
        exact ev_fld (ev_var hσ) ho T.t_Round.cl T.n_Round_falls (rf_falls l1 l2)
      refine q_when (b := false) (et_is (et_or (et_test (ev_neI (ed_ev (ev_fld (ev_var rfl) hob T.t_Round.cl T.n_Round_stay (rf_stay l1 l2)) (dp_ints (sq_of RA.h1))) (ed_ints (i1 0)))) (fun _ => et_test (ev_neSame (d := .list ([((1 : Int), (1 : Int))].map pairD)) (ed_ev (falls rfl RA) (dp_pairs RA.h2 RA.pr)) (ed_lst (eda_cons (ed_pair (eu_tup (ea_cons ev_c (ea_cons ev_c ea_nil)) (by show 2 ≤ 100000; decide))) eda_nil) (by show 1 ≤ 100000; decide)) (fine_le (fine_pairs _) (by decide))))) rfl) (fun hb => nomatch hb) fun _ H7 e7 => ?_
      have RA7 := RA.ex e7
      refine q_of (s_setLU (j := 0) RA7.h2 (eu_tup (ea_cons ev_c (ea_cons ev_c ea_nil)) (by show 2 ≤ 100000; decide)) (falls rfl RA7) (ev_is ev_c rfl) (by show 0 < 1; decide) fun p8 H8 hp8 e8 h8 => ?_)
      have RA8 := (RA7.ex e8).put (ts' := [.ref p8]) (fs' := [(1, 2)]) n12 (Prs.snoc (p := (1, 2)) Prs.nil h8)
      rw [show ([V.ref T'].set 0 (.ref p8)) = [.ref p8] from rfl]
      generalize upd H8 l2 (.lst [.ref p8]) = H9 at *
      refine q_when (b := false) (et_is (et_test (ev_op (ev_roundShows (told rfl RA8) l10 (by decide) (by decide) (by decide)) ev_c rv_notB)) (by rw [shows_run]; decide +kernel)) (fun hb => nomatch hb) fun _ H10 e10 => ?_
      have RA10 := RA8.ex e10
      refine q_of (s_pop (y := .ref p8) (falls rfl RA10) RA10.h2 rfl fun H11 e11 => ?_)
      have RA11 := (RA10.ex e11).put (ts' := []) (fs' := []) n12 Prs.nil
      rw [show ([V.ref p8].dropLast) = [] from rfl]
      generalize upd H11 l2 (.lst []) = H12 at *
      refine q_when (b := false) (et_is (et_test (ev_op (ev_roundShows (told rfl RA11) l10 (by decide) (by decide) (by decide)) ev_c rv_notB)) (by rw [shows_run]; decide +kernel)) (fun hb => nomatch hb) fun _ H13 e13 => ?_
      have RA13 := RA11.ex e13
      refine q_appU RA13.h2 (falls rfl RA13) (eu_tup (ea_cons ev_c (ea_cons ev_c ea_nil)) (by show 2 ≤ 100000; decide)) (by show 0 < 100000; decide) fun p14 H14 hp14 e14 h14 => ?_
      have RA14 := (RA13.ex e14).put (ts' := [.ref p14]) (fs' := [(1, 1)]) n12 (Prs.snoc (p := (1, 1)) Prs.nil h14)
      rw [show ([] ++ [V.ref p14]) = [.ref p14] from rfl]
      generalize upd H14 l2 (.lst [.ref p14]) = H15 at *
      refine q_when (b := false) (et_is (et_test (ev_op (ev_roundShows (told rfl RA14) l10 (by decide) (by decide) (by decide)) ev_c rv_notB)) (by rw [shows_run]; decide +kernel)) (fun hb => nomatch hb) fun _ H16 e16 => ?_
      have rd : ∀ {σ : L2.St} {H : Hp} (j : Int), EvX (tMake A.Round (sp_Round_init K A) [] E0 (tCons (tLst (tCons (tC (.int 0)) tNil)) (tCons (tLst (tCons (tTup (tCons (tC (.int 1)) (tCons (tC (.int j)) tNil))) tNil)) tNil))) σ H (PRd A [0] [(1, j)]) := fun j => x_roundX (xa_cons (XS.plain PIs.mono (xs_is sup_no (i1 0))) PIs.mono (xa_cons (XS.plain PFs.mono (xs_fs1 sup_no ev_c ev_c)) PFs.mono xa_nil))
      refine q_when (b := false) (et_is (et_or (et_test (ev_op (ev_roundShows (rd 1) l10 (by decide) (by decide) (by decide)) ev_c rv_notB)) (fun _ => et_test (ev_op (ev_roundShows (rd 2) l10 (by decide) (by decide) (by decide)) ev_c rv_notB))) (by rw [shows_run, shows_run]; decide +kernel)) (fun hb => nomatch hb) fun _ H17 e17 => ?_
      refine s_ret (ev_is (ev_andV (ev_op (ev_roundShows (st := [0, 1]) (fs := []) (rs := [1, 1]) (x_roundX (xa_cons (XS.plain PIs.mono (xs_is sup_no (el_ints [0, 1] (ea_cons ev_c (ea_cons ev_c ea_nil)) (by decide)))) PIs.mono (xa_cons (XS.plain PFs.mono (xs_fs0 sup_no)) PFs.mono xa_nil))) (el_ints [1, 1] (ea_cons ev_c (ea_cons ev_c ea_nil)) (by decide)) (by decide) (by decide) (by decide)) ev_c rv_isB) (fun _ => ev_op (ev_methX (z := .bl (fallsR [1, -1, 1] 0 2)) (P := fun w H2 => ∃ p, w = .ref p ∧ ∃ dx, H2 p = some (.ins A.Falls dx [("many", .int 2)])) (fun v H H' e ⟨p, h1, dx, h2⟩ => ⟨p, h1, dx, e _ _ h2⟩) (xn (en_Falls ev_c)) (fun w H1 e ⟨p, h1, dx, h2⟩ => ⟨p, dx, _, h1, h2, lk_no (by decide +kernel) _⟩) (xa_cons (x_row (K := K) (r := [1, -1, 1]) (el_ints [1, -1, 1] (ea_cons ev_c (ea_cons (ev_un ev_c ru_neg) (ea_cons ev_c ea_nil))) (by decide))) PRow.mono (xa_v ev_c xa_nil)) (fun w vs H1 e hw hvs => by
        obtain ⟨p', rfl, dx', hd'⟩ := hw
        obtain ⟨_, _, rfl, ⟨b, rfl, hb⟩, rfl⟩ := hvs.two
        exact v_Falls_shows hd' hb (by decide) (by decide))) ev_c rv_isB)) (by rw [shows_run]; decide +kernel)) fun H18 e18 => k H18
theorem all_mk {l : PySem.W.OpenLaw} {w : World} {K : PySem.W.Frag} {h : Heap} {mg : Str → Option Value} {fa : Addr} (X : K.In h) (G : h.Ns mainGlobals mg) (hfa : mg "law" = some (.ref fa))
    {f_Falls_init : Addr} {od_Falls_init an_Falls_init : Option Addr} {sl_Falls_init : Array (Option Value)} {oc_Falls_init kV_Falls_init dc_Falls_init pm_Falls_init cd_Falls_init ct_Falls_init : Value}
    {f_turned : Addr} {od_turned an_turned : Option Addr} {sl_turned : Array (Option Value)} {oc_turned kV_turned dc_turned pm_turned cd_turned ct_turned : Value}
    {f_Falls_shows : Addr} {od_Falls_shows an_Falls_shows : Option Addr} {sl_Falls_shows : Array (Option Value)} {oc_Falls_shows kV_Falls_shows dc_Falls_shows pm_Falls_shows cd_Falls_shows ct_Falls_shows : Value}
    {f_Round_init : Addr} {od_Round_init an_Round_init : Option Addr} {sl_Round_init : Array (Option Value)} {oc_Round_init kV_Round_init dc_Round_init pm_Round_init cd_Round_init ct_Round_init : Value}
    {f_fall_of : Addr} {od_fall_of an_fall_of : Option Addr} {sl_fall_of : Array (Option Value)} {oc_fall_of kV_fall_of dc_fall_of pm_fall_of cd_fall_of ct_fall_of : Value}
    {f_Round_shows : Addr} {od_Round_shows an_Round_shows : Option Addr} {sl_Round_shows : Array (Option Value)} {oc_Round_shows kV_Round_shows dc_Round_shows pm_Round_shows cd_Round_shows ct_Round_shows : Value}
    {f_Stays_shows : Addr} {od_Stays_shows an_Stays_shows : Option Addr} {sl_Stays_shows : Array (Option Value)} {oc_Stays_shows kV_Stays_shows dc_Stays_shows pm_Stays_shows cd_Stays_shows ct_Stays_shows : Value}
    {f_l_falls_right : Addr} {od_l_falls_right an_l_falls_right : Option Addr} {sl_l_falls_right : Array (Option Value)} {oc_l_falls_right kV_l_falls_right dc_l_falls_right pm_l_falls_right cd_l_falls_right ct_l_falls_right : Value}
    {f_l_fall : Addr} {od_l_fall an_l_fall : Option Addr} {sl_l_fall : Array (Option Value)} {oc_l_fall kV_l_fall dc_l_fall pm_l_fall cd_l_fall ct_l_fall : Value}
    {f_l_stay : Addr} {od_l_stay an_l_stay : Option Addr} {sl_l_stay : Array (Option Value)} {oc_l_stay kV_l_stay dc_l_stay pm_l_stay cd_l_stay ct_l_stay : Value}
    {f_l_is_round : Addr} {od_l_is_round an_l_is_round : Option Addr} {sl_l_is_round : Array (Option Value)} {oc_l_is_round kV_l_is_round dc_l_is_round pm_l_is_round cd_l_is_round ct_l_is_round : Value}
    {f_l_says : Addr} {od_l_says an_l_says : Option Addr} {sl_l_says : Array (Option Value)} {oc_l_says kV_l_says dc_l_says pm_l_says cd_l_says ct_l_says : Value}
    {f_l_built_right : Addr} {od_l_built_right an_l_built_right : Option Addr} {sl_l_built_right : Array (Option Value)} {oc_l_built_right kV_l_built_right dc_l_built_right pm_l_built_right cd_l_built_right ct_l_built_right : Value}
    {f_l_cell_at : Addr} {od_l_cell_at an_l_cell_at : Option Addr} {sl_l_cell_at : Array (Option Value)} {oc_l_cell_at kV_l_cell_at dc_l_cell_at pm_l_cell_at cd_l_cell_at ct_l_cell_at : Value}
    {f_l_draw : Addr} {od_l_draw an_l_draw : Option Addr} {sl_l_draw : Array (Option Value)} {oc_l_draw kV_l_draw dc_l_draw pm_l_draw cd_l_draw ct_l_draw : Value}
    {f_l_number : Addr} {od_l_number an_l_number : Option Addr} {sl_l_number : Array (Option Value)} {oc_l_number kV_l_number dc_l_number pm_l_number cd_l_number ct_l_number : Value}
    {f_l_row : Addr} {od_l_row an_l_row : Option Addr} {sl_l_row : Array (Option Value)} {oc_l_row kV_l_row dc_l_row pm_l_row cd_l_row ct_l_row : Value}
    {f_l_tries : Addr} {od_l_tries an_l_tries : Option Addr} {sl_l_tries : Array (Option Value)} {oc_l_tries kV_l_tries dc_l_tries pm_l_tries cd_l_tries ct_l_tries : Value}
    {f_is_whole : Addr} {od_is_whole an_is_whole : Option Addr} {sl_is_whole : Array (Option Value)} {oc_is_whole kV_is_whole dc_is_whole pm_is_whole cd_is_whole ct_is_whole : Value}
    {f_is_between : Addr} {od_is_between an_is_between : Option Addr} {sl_is_between : Array (Option Value)} {oc_is_between kV_is_between dc_is_between pm_is_between cd_is_between ct_is_between : Value}
    {f_is_step : Addr} {od_is_step an_is_step : Option Addr} {sl_is_step : Array (Option Value)} {oc_is_step kV_is_step dc_is_step pm_is_step cd_is_step ct_is_step : Value}
    {f_check_row : Addr} {od_check_row an_check_row : Option Addr} {sl_check_row : Array (Option Value)} {oc_check_row kV_check_row dc_check_row pm_check_row cd_check_row ct_check_row : Value}
    {f_staying : Addr} {od_staying an_staying : Option Addr} {sl_staying : Array (Option Value)} {oc_staying kV_staying dc_staying pm_staying cd_staying ct_staying : Value}
    {f_gone_round : Addr} {od_gone_round an_gone_round : Option Addr} {sl_gone_round : Array (Option Value)} {oc_gone_round kV_gone_round dc_gone_round pm_gone_round cd_gone_round ct_gone_round : Value}
    {f_law : Addr} {od_law an_law : Option Addr} {sl_law : Array (Option Value)} {oc_law kV_law dc_law pm_law cd_law ct_law : Value}
    {t_LEAST : Tok}
    {t_GREATEST : Tok}
    {t_LONGEST : Tok}
    {C_StepError : Addr}
    {C_BadRow : Addr}
    {C_Answer : Addr}
    {C_Round : Addr}
    {C_Stays : Addr}
    {C_Falls : Addr}
    (a_C_StepError : PySem.W.nsIn K mainGlobals "StepError" = some (some (.ref C_StepError)))
    (a_C_BadRow : PySem.W.nsIn K mainGlobals "BadRow" = some (some (.ref C_BadRow)))
    (a_C_Answer : PySem.W.nsIn K mainGlobals "Answer" = some (some (.ref C_Answer)))
    (a_C_Round : PySem.W.nsIn K mainGlobals "Round" = some (some (.ref C_Round)))
    (a_C_Stays : PySem.W.nsIn K mainGlobals "Stays" = some (some (.ref C_Stays)))
    (a_C_Falls : PySem.W.nsIn K mainGlobals "Falls" = some (some (.ref C_Falls)))
    (a_Falls_init : PySem.W.findIn K (.ref C_Falls) "__init__" = some (some (.ref f_Falls_init)))
    (i_Falls_init : PySem.W.isFn K (.ref f_Falls_init) = true)
    (l_Falls_init : K.lookup f_Falls_init = some ⟨oc_Falls_init, od_Falls_init, .func (PySem.W.fnOf "__init__" "Falls.__init__" (defArgs s_Falls_init) (defBody s_Falls_init) (defScope s_Falls_init) .none kV_Falls_init dc_Falls_init pm_Falls_init an_Falls_init cd_Falls_init ct_Falls_init), sl_Falls_init⟩)
    (c_Falls_init : PySem.W.codeIn K cd_Falls_init "Falls.__init__" = true)
    (k_Falls_init : PySem.W.keepIn K (.ref f_Falls_init) = true)
    (mk_Falls_init : PySem.W.makesIn K C_Falls = true)
    (kc_Falls_init : PySem.W.keepIn K (.ref C_Falls) = true)
    (a_turned : PySem.W.nsIn K mainGlobals "turned" = some (some (.ref f_turned)))
    (l_turned : K.lookup f_turned = some ⟨oc_turned, od_turned, .func (PySem.W.fnOf "turned" "turned" (defArgs s_turned) (defBody s_turned) (defScope s_turned) .none kV_turned dc_turned pm_turned an_turned cd_turned ct_turned), sl_turned⟩)
    (c_turned : PySem.W.codeIn K cd_turned "turned" = true)
    (k_turned : PySem.W.keepIn K (.ref f_turned) = true)
    (a_Falls_shows : PySem.W.findIn K (.ref C_Falls) "shows" = some (some (.ref f_Falls_shows)))
    (i_Falls_shows : PySem.W.isFn K (.ref f_Falls_shows) = true)
    (l_Falls_shows : K.lookup f_Falls_shows = some ⟨oc_Falls_shows, od_Falls_shows, .func (PySem.W.fnOf "shows" "Falls.shows" (defArgs s_Falls_shows) (defBody s_Falls_shows) (defScope s_Falls_shows) .none kV_Falls_shows dc_Falls_shows pm_Falls_shows an_Falls_shows cd_Falls_shows ct_Falls_shows), sl_Falls_shows⟩)
    (c_Falls_shows : PySem.W.codeIn K cd_Falls_shows "Falls.shows" = true)
    (k_Falls_shows : PySem.W.keepIn K (.ref f_Falls_shows) = true)
    (a_Round_init : PySem.W.findIn K (.ref C_Round) "__init__" = some (some (.ref f_Round_init)))
    (i_Round_init : PySem.W.isFn K (.ref f_Round_init) = true)
    (l_Round_init : K.lookup f_Round_init = some ⟨oc_Round_init, od_Round_init, .func (PySem.W.fnOf "__init__" "Round.__init__" (defArgs s_Round_init) (defBody s_Round_init) (defScope s_Round_init) .none kV_Round_init dc_Round_init pm_Round_init an_Round_init cd_Round_init ct_Round_init), sl_Round_init⟩)
    (c_Round_init : PySem.W.codeIn K cd_Round_init "Round.__init__" = true)
    (k_Round_init : PySem.W.keepIn K (.ref f_Round_init) = true)
    (mk_Round_init : PySem.W.makesIn K C_Round = true)
    (kc_Round_init : PySem.W.keepIn K (.ref C_Round) = true)
    (a_fall_of : PySem.W.nsIn K mainGlobals "fall_of" = some (some (.ref f_fall_of)))
    (l_fall_of : K.lookup f_fall_of = some ⟨oc_fall_of, od_fall_of, .func (PySem.W.fnOf "fall_of" "fall_of" (defArgs s_fall_of) (defBody s_fall_of) (defScope s_fall_of) .none kV_fall_of dc_fall_of pm_fall_of an_fall_of cd_fall_of ct_fall_of), sl_fall_of⟩)
    (c_fall_of : PySem.W.codeIn K cd_fall_of "fall_of" = true)
    (k_fall_of : PySem.W.keepIn K (.ref f_fall_of) = true)
    (a_Round_shows : PySem.W.findIn K (.ref C_Round) "shows" = some (some (.ref f_Round_shows)))
    (i_Round_shows : PySem.W.isFn K (.ref f_Round_shows) = true)
    (l_Round_shows : K.lookup f_Round_shows = some ⟨oc_Round_shows, od_Round_shows, .func (PySem.W.fnOf "shows" "Round.shows" (defArgs s_Round_shows) (defBody s_Round_shows) (defScope s_Round_shows) .none kV_Round_shows dc_Round_shows pm_Round_shows an_Round_shows cd_Round_shows ct_Round_shows), sl_Round_shows⟩)
    (c_Round_shows : PySem.W.codeIn K cd_Round_shows "Round.shows" = true)
    (k_Round_shows : PySem.W.keepIn K (.ref f_Round_shows) = true)
    (a_Stays_shows : PySem.W.findIn K (.ref C_Stays) "shows" = some (some (.ref f_Stays_shows)))
    (i_Stays_shows : PySem.W.isFn K (.ref f_Stays_shows) = true)
    (l_Stays_shows : K.lookup f_Stays_shows = some ⟨oc_Stays_shows, od_Stays_shows, .func (PySem.W.fnOf "shows" "Stays.shows" (defArgs s_Stays_shows) (defBody s_Stays_shows) (defScope s_Stays_shows) .none kV_Stays_shows dc_Stays_shows pm_Stays_shows an_Stays_shows cd_Stays_shows ct_Stays_shows), sl_Stays_shows⟩)
    (c_Stays_shows : PySem.W.codeIn K cd_Stays_shows "Stays.shows" = true)
    (k_Stays_shows : PySem.W.keepIn K (.ref f_Stays_shows) = true)
    (a_l_falls_right : PySem.W.nsIn K mainGlobals "_law_falls_right" = some (some (.ref f_l_falls_right)))
    (l_l_falls_right : K.lookup f_l_falls_right = some ⟨oc_l_falls_right, od_l_falls_right, .func (PySem.W.fnOf "_law_falls_right" "_law_falls_right" (defArgs s_l_falls_right) (defBody s_l_falls_right) (defScope s_l_falls_right) .none kV_l_falls_right dc_l_falls_right pm_l_falls_right an_l_falls_right cd_l_falls_right ct_l_falls_right), sl_l_falls_right⟩)
    (c_l_falls_right : PySem.W.codeIn K cd_l_falls_right "_law_falls_right" = true)
    (k_l_falls_right : PySem.W.keepIn K (.ref f_l_falls_right) = true)
    (a_l_fall : PySem.W.nsIn K mainGlobals "_law_fall" = some (some (.ref f_l_fall)))
    (l_l_fall : K.lookup f_l_fall = some ⟨oc_l_fall, od_l_fall, .func (PySem.W.fnOf "_law_fall" "_law_fall" (defArgs s_l_fall) (defBody s_l_fall) (defScope s_l_fall) .none kV_l_fall dc_l_fall pm_l_fall an_l_fall cd_l_fall ct_l_fall), sl_l_fall⟩)
    (c_l_fall : PySem.W.codeIn K cd_l_fall "_law_fall" = true)
    (k_l_fall : PySem.W.keepIn K (.ref f_l_fall) = true)
    (a_l_stay : PySem.W.nsIn K mainGlobals "_law_stay" = some (some (.ref f_l_stay)))
    (l_l_stay : K.lookup f_l_stay = some ⟨oc_l_stay, od_l_stay, .func (PySem.W.fnOf "_law_stay" "_law_stay" (defArgs s_l_stay) (defBody s_l_stay) (defScope s_l_stay) .none kV_l_stay dc_l_stay pm_l_stay an_l_stay cd_l_stay ct_l_stay), sl_l_stay⟩)
    (c_l_stay : PySem.W.codeIn K cd_l_stay "_law_stay" = true)
    (k_l_stay : PySem.W.keepIn K (.ref f_l_stay) = true)
    (a_l_is_round : PySem.W.nsIn K mainGlobals "_law_is_round" = some (some (.ref f_l_is_round)))
    (l_l_is_round : K.lookup f_l_is_round = some ⟨oc_l_is_round, od_l_is_round, .func (PySem.W.fnOf "_law_is_round" "_law_is_round" (defArgs s_l_is_round) (defBody s_l_is_round) (defScope s_l_is_round) .none kV_l_is_round dc_l_is_round pm_l_is_round an_l_is_round cd_l_is_round ct_l_is_round), sl_l_is_round⟩)
    (c_l_is_round : PySem.W.codeIn K cd_l_is_round "_law_is_round" = true)
    (k_l_is_round : PySem.W.keepIn K (.ref f_l_is_round) = true)
    (a_l_says : PySem.W.nsIn K mainGlobals "_law_says" = some (some (.ref f_l_says)))
    (l_l_says : K.lookup f_l_says = some ⟨oc_l_says, od_l_says, .func (PySem.W.fnOf "_law_says" "_law_says" (defArgs s_l_says) (defBody s_l_says) (defScope s_l_says) .none kV_l_says dc_l_says pm_l_says an_l_says cd_l_says ct_l_says), sl_l_says⟩)
    (c_l_says : PySem.W.codeIn K cd_l_says "_law_says" = true)
    (k_l_says : PySem.W.keepIn K (.ref f_l_says) = true)
    (a_l_built_right : PySem.W.nsIn K mainGlobals "_law_built_right" = some (some (.ref f_l_built_right)))
    (l_l_built_right : K.lookup f_l_built_right = some ⟨oc_l_built_right, od_l_built_right, .func (PySem.W.fnOf "_law_built_right" "_law_built_right" (defArgs s_l_built_right) (defBody s_l_built_right) (defScope s_l_built_right) .none kV_l_built_right dc_l_built_right pm_l_built_right an_l_built_right cd_l_built_right ct_l_built_right), sl_l_built_right⟩)
    (c_l_built_right : PySem.W.codeIn K cd_l_built_right "_law_built_right" = true)
    (k_l_built_right : PySem.W.keepIn K (.ref f_l_built_right) = true)
    (a_l_cell_at : PySem.W.nsIn K mainGlobals "_law_cell_at" = some (some (.ref f_l_cell_at)))
    (l_l_cell_at : K.lookup f_l_cell_at = some ⟨oc_l_cell_at, od_l_cell_at, .func (PySem.W.fnOf "_law_cell_at" "_law_cell_at" (defArgs s_l_cell_at) (defBody s_l_cell_at) (defScope s_l_cell_at) .none kV_l_cell_at dc_l_cell_at pm_l_cell_at an_l_cell_at cd_l_cell_at ct_l_cell_at), sl_l_cell_at⟩)
    (c_l_cell_at : PySem.W.codeIn K cd_l_cell_at "_law_cell_at" = true)
    (k_l_cell_at : PySem.W.keepIn K (.ref f_l_cell_at) = true)
    (a_l_draw : PySem.W.nsIn K mainGlobals "_law_draw" = some (some (.ref f_l_draw)))
    (l_l_draw : K.lookup f_l_draw = some ⟨oc_l_draw, od_l_draw, .func (PySem.W.fnOf "_law_draw" "_law_draw" (defArgs s_l_draw) (defBody s_l_draw) (defScope s_l_draw) .none kV_l_draw dc_l_draw pm_l_draw an_l_draw cd_l_draw ct_l_draw), sl_l_draw⟩)
    (c_l_draw : PySem.W.codeIn K cd_l_draw "_law_draw" = true)
    (k_l_draw : PySem.W.keepIn K (.ref f_l_draw) = true)
    (a_l_number : PySem.W.nsIn K mainGlobals "_law_number" = some (some (.ref f_l_number)))
    (l_l_number : K.lookup f_l_number = some ⟨oc_l_number, od_l_number, .func (PySem.W.fnOf "_law_number" "_law_number" (defArgs s_l_number) (defBody s_l_number) (defScope s_l_number) .none kV_l_number dc_l_number pm_l_number an_l_number cd_l_number ct_l_number), sl_l_number⟩)
    (c_l_number : PySem.W.codeIn K cd_l_number "_law_number" = true)
    (k_l_number : PySem.W.keepIn K (.ref f_l_number) = true)
    (a_l_row : PySem.W.nsIn K mainGlobals "_law_row" = some (some (.ref f_l_row)))
    (l_l_row : K.lookup f_l_row = some ⟨oc_l_row, od_l_row, .func (PySem.W.fnOf "_law_row" "_law_row" (defArgs s_l_row) (defBody s_l_row) (defScope s_l_row) .none kV_l_row dc_l_row pm_l_row an_l_row cd_l_row ct_l_row), sl_l_row⟩)
    (c_l_row : PySem.W.codeIn K cd_l_row "_law_row" = true)
    (k_l_row : PySem.W.keepIn K (.ref f_l_row) = true)
    (a_l_tries : PySem.W.nsIn K mainGlobals "_law_tries" = some (some (.ref f_l_tries)))
    (l_l_tries : K.lookup f_l_tries = some ⟨oc_l_tries, od_l_tries, .func (PySem.W.fnOf "_law_tries" "_law_tries" (defArgs s_l_tries) (defBody s_l_tries) (defScope s_l_tries) .none kV_l_tries dc_l_tries pm_l_tries an_l_tries cd_l_tries ct_l_tries), sl_l_tries⟩)
    (c_l_tries : PySem.W.codeIn K cd_l_tries "_law_tries" = true)
    (k_l_tries : PySem.W.keepIn K (.ref f_l_tries) = true)
    (a_is_whole : PySem.W.nsIn K mainGlobals "is_whole" = some (some (.ref f_is_whole)))
    (l_is_whole : K.lookup f_is_whole = some ⟨oc_is_whole, od_is_whole, .func (PySem.W.fnOf "is_whole" "is_whole" (defArgs s_is_whole) (defBody s_is_whole) (defScope s_is_whole) .none kV_is_whole dc_is_whole pm_is_whole an_is_whole cd_is_whole ct_is_whole), sl_is_whole⟩)
    (c_is_whole : PySem.W.codeIn K cd_is_whole "is_whole" = true)
    (k_is_whole : PySem.W.keepIn K (.ref f_is_whole) = true)
    (a_is_between : PySem.W.nsIn K mainGlobals "is_between" = some (some (.ref f_is_between)))
    (l_is_between : K.lookup f_is_between = some ⟨oc_is_between, od_is_between, .func (PySem.W.fnOf "is_between" "is_between" (defArgs s_is_between) (defBody s_is_between) (defScope s_is_between) .none kV_is_between dc_is_between pm_is_between an_is_between cd_is_between ct_is_between), sl_is_between⟩)
    (c_is_between : PySem.W.codeIn K cd_is_between "is_between" = true)
    (k_is_between : PySem.W.keepIn K (.ref f_is_between) = true)
    (a_is_step : PySem.W.nsIn K mainGlobals "is_step" = some (some (.ref f_is_step)))
    (l_is_step : K.lookup f_is_step = some ⟨oc_is_step, od_is_step, .func (PySem.W.fnOf "is_step" "is_step" (defArgs s_is_step) (defBody s_is_step) (defScope s_is_step) .none kV_is_step dc_is_step pm_is_step an_is_step cd_is_step ct_is_step), sl_is_step⟩)
    (c_is_step : PySem.W.codeIn K cd_is_step "is_step" = true)
    (k_is_step : PySem.W.keepIn K (.ref f_is_step) = true)
    (a_check_row : PySem.W.nsIn K mainGlobals "check_row" = some (some (.ref f_check_row)))
    (l_check_row : K.lookup f_check_row = some ⟨oc_check_row, od_check_row, .func (PySem.W.fnOf "check_row" "check_row" (defArgs s_check_row) (defBody s_check_row) (defScope s_check_row) .none kV_check_row dc_check_row pm_check_row an_check_row cd_check_row ct_check_row), sl_check_row⟩)
    (c_check_row : PySem.W.codeIn K cd_check_row "check_row" = true)
    (k_check_row : PySem.W.keepIn K (.ref f_check_row) = true)
    (a_staying : PySem.W.nsIn K mainGlobals "staying" = some (some (.ref f_staying)))
    (l_staying : K.lookup f_staying = some ⟨oc_staying, od_staying, .func (PySem.W.fnOf "staying" "staying" (defArgs s_staying) (defBody s_staying) (defScope s_staying) .none kV_staying dc_staying pm_staying an_staying cd_staying ct_staying), sl_staying⟩)
    (c_staying : PySem.W.codeIn K cd_staying "staying" = true)
    (k_staying : PySem.W.keepIn K (.ref f_staying) = true)
    (a_gone_round : PySem.W.nsIn K mainGlobals "gone_round" = some (some (.ref f_gone_round)))
    (l_gone_round : K.lookup f_gone_round = some ⟨oc_gone_round, od_gone_round, .func (PySem.W.fnOf "gone_round" "gone_round" (defArgs s_gone_round) (defBody s_gone_round) (defScope s_gone_round) .none kV_gone_round dc_gone_round pm_gone_round an_gone_round cd_gone_round ct_gone_round), sl_gone_round⟩)
    (c_gone_round : PySem.W.codeIn K cd_gone_round "gone_round" = true)
    (k_gone_round : PySem.W.keepIn K (.ref f_gone_round) = true)
    (a_law : PySem.W.nsIn K mainGlobals "law" = some (some (.ref f_law)))
    (l_law : K.lookup f_law = some ⟨oc_law, od_law, .func (PySem.W.fnOf "law" "law" (defArgs s_law) (defBody s_law) (defScope s_law) .none kV_law dc_law pm_law an_law cd_law ct_law), sl_law⟩)
    (c_law : PySem.W.codeIn K cd_law "law" = true)
    (k_law : PySem.W.keepIn K (.ref f_law) = true)
    (z_all : PySem.W.nsIn K mainGlobals "all" = some none)
    (z_any : PySem.W.nsIn K mainGlobals "any" = some none)
    (z_bool : PySem.W.nsIn K mainGlobals "bool" = some none)
    (z_enumerate : PySem.W.nsIn K mainGlobals "enumerate" = some none)
    (z_int : PySem.W.nsIn K mainGlobals "int" = some none)
    (z_isinstance : PySem.W.nsIn K mainGlobals "isinstance" = some none)
    (z_len : PySem.W.nsIn K mainGlobals "len" = some none)
    (z_list : PySem.W.nsIn K mainGlobals "list" = some none)
    (z_max : PySem.W.nsIn K mainGlobals "max" = some none)
    (z_min : PySem.W.nsIn K mainGlobals "min" = some none)
    (z_range : PySem.W.nsIn K mainGlobals "range" = some none)
    (z_sorted : PySem.W.nsIn K mainGlobals "sorted" = some none)
    (z_sum : PySem.W.nsIn K mainGlobals "sum" = some none)
    (i_LEAST : PySem.W.nsIn K mainGlobals "LEAST" = some (some (.int (-4) t_LEAST)))
    (i_GREATEST : PySem.W.nsIn K mainGlobals "GREATEST" = some (some (.int (1) t_GREATEST)))
    (i_LONGEST : PySem.W.nsIn K mainGlobals "LONGEST" = some (some (.int (60) t_LONGEST)))
    (pg_C_Answer : PySem.W.plainGet K C_Answer Str.empty = true)
    (hd_C_Answer : PySem.W.hasDictIn K C_Answer = true)
    (po_C_Answer : PySem.W.plainOver K C_Answer = true)
    (sa_C_Answer : PySem.W.findIn K (.ref C_Answer) "__setattr__" = some (some (.builtin "object.__setattr__")))
    (ha_C_Answer : PySem.W.findIn K (.ref C_Answer) "__class__" = some (some (.builtin "object.__class__")))
    (hm_C_Answer : PySem.W.mroIn K C_Answer (.type "object") = some true)
    (ic_C_Answer : PySem.W.isClsIn K C_Answer = true)
    (ty_C_Answer : PySem.W.typeIn K (.ref C_Answer) = some (.type "type"))
    (pg_C_Round : PySem.W.plainGet K C_Round Str.empty = true)
    (hd_C_Round : PySem.W.hasDictIn K C_Round = true)
    (po_C_Round : PySem.W.plainOver K C_Round = true)
    (sa_C_Round : PySem.W.findIn K (.ref C_Round) "__setattr__" = some (some (.builtin "object.__setattr__")))
    (ha_C_Round : PySem.W.findIn K (.ref C_Round) "__class__" = some (some (.builtin "object.__class__")))
    (hm_C_Round : PySem.W.mroIn K C_Round (.type "object") = some true)
    (ic_C_Round : PySem.W.isClsIn K C_Round = true)
    (ty_C_Round : PySem.W.typeIn K (.ref C_Round) = some (.type "type"))
    (na_Round_stay : PySem.W.findIn K (.ref C_Round) "stay" = some none)
    (na_Round_falls : PySem.W.findIn K (.ref C_Round) "falls" = some none)
    (pg_C_Stays : PySem.W.plainGet K C_Stays Str.empty = true)
    (hd_C_Stays : PySem.W.hasDictIn K C_Stays = true)
    (po_C_Stays : PySem.W.plainOver K C_Stays = true)
    (sa_C_Stays : PySem.W.findIn K (.ref C_Stays) "__setattr__" = some (some (.builtin "object.__setattr__")))
    (ha_C_Stays : PySem.W.findIn K (.ref C_Stays) "__class__" = some (some (.builtin "object.__class__")))
    (hm_C_Stays : PySem.W.mroIn K C_Stays (.type "object") = some true)
    (ic_C_Stays : PySem.W.isClsIn K C_Stays = true)
    (ty_C_Stays : PySem.W.typeIn K (.ref C_Stays) = some (.type "type"))
    (pg_C_Falls : PySem.W.plainGet K C_Falls Str.empty = true)
    (hd_C_Falls : PySem.W.hasDictIn K C_Falls = true)
    (po_C_Falls : PySem.W.plainOver K C_Falls = true)
    (sa_C_Falls : PySem.W.findIn K (.ref C_Falls) "__setattr__" = some (some (.builtin "object.__setattr__")))
    (ha_C_Falls : PySem.W.findIn K (.ref C_Falls) "__class__" = some (some (.builtin "object.__class__")))
    (hm_C_Falls : PySem.W.mroIn K C_Falls (.type "object") = some true)
    (ic_C_Falls : PySem.W.isClsIn K C_Falls = true)
    (ty_C_Falls : PySem.W.typeIn K (.ref C_Falls) = some (.type "type"))
    (na_Falls_many : PySem.W.findIn K (.ref C_Falls) "many" = some none)
    (mk_C_Stays : PySem.W.makesIn K C_Stays = true)
    (in_C_Stays : PySem.W.findIn K (.ref C_Stays) "__init__" = some (some (.builtin "object.__init__")))
    (kc_C_Stays : PySem.W.keepIn K (.ref C_Stays) = true)
    (sb_Round_Answer : PySem.W.subIn K (.ref C_Round) (.ref C_Answer) = some true)
    (sb_Round_Stays : PySem.W.subIn K (.ref C_Round) (.ref C_Stays) = some false)
    (ne_Round_Stays : C_Round ≠ C_Stays)
    (sb_Round_Falls : PySem.W.subIn K (.ref C_Round) (.ref C_Falls) = some false)
    (ne_Round_Falls : C_Round ≠ C_Falls)
    (sb_Stays_Answer : PySem.W.subIn K (.ref C_Stays) (.ref C_Answer) = some true)
    (sb_Stays_Round : PySem.W.subIn K (.ref C_Stays) (.ref C_Round) = some false)
    (ne_Stays_Round : C_Stays ≠ C_Round)
    (sb_Stays_Falls : PySem.W.subIn K (.ref C_Stays) (.ref C_Falls) = some false)
    (ne_Stays_Falls : C_Stays ≠ C_Falls)
    (sb_Falls_Answer : PySem.W.subIn K (.ref C_Falls) (.ref C_Answer) = some true)
    (sb_Falls_Round : PySem.W.subIn K (.ref C_Falls) (.ref C_Round) = some false)
    (ne_Falls_Round : C_Falls ≠ C_Round)
    (sb_Falls_Stays : PySem.W.subIn K (.ref C_Falls) (.ref C_Stays) = some false)
    (ne_Falls_Stays : C_Falls ≠ C_Stays)
    (hn_C : PySem.W.specialIn K (.builtin "object.__class__") "__get__" = some (some (.builtin "getset_descriptor.__get__")))
    (htk_C : PySem.W.takesIn K (.builtin "object.__class__") = some true) :
    ∃ fd : FuncData, (∀ (s : Shared) (v : Value), BindsTo s fd ⟨[v], []⟩ [("_law_script", v)]) ∧ ∀ base : Heap, K.In base → base.Ns mainGlobals mg → FnOk l.prog w K mg base CX0 6 fa fd ["_law_script"] (sp_law K) := by
  have e := hfa.symm.trans (PySem.W.mg_of X G a_law)
  cases e
  have T : Txt K mg { StepError := C_StepError, BadRow := C_BadRow, BadTurn := 0, BadCounts := 0, BadNumber := 0, BadForest := 0, BadPlace := 0, BadStep := 0, NotAbove := 0, TooMany := 0, Last := 0, Answer := C_Answer, Round := C_Round, Stays := C_Stays, Falls := C_Falls, Ring := 0 } := { b_all := PySem.W.mg_none_of X G z_all, b_any := PySem.W.mg_none_of X G z_any, b_bool := PySem.W.mg_none_of X G z_bool, b_enumerate := PySem.W.mg_none_of X G z_enumerate, b_int := PySem.W.mg_none_of X G z_int, b_isinstance := PySem.W.mg_none_of X G z_isinstance, b_len := PySem.W.mg_none_of X G z_len, b_list := PySem.W.mg_none_of X G z_list, b_max := PySem.W.mg_none_of X G z_max, b_min := PySem.W.mg_none_of X G z_min, b_range := PySem.W.mg_none_of X G z_range, b_sorted := PySem.W.mg_none_of X G z_sorted, b_sum := PySem.W.mg_none_of X G z_sum, g_LEAST := ⟨_, PySem.W.mg_of X G i_LEAST⟩, g_GREATEST := ⟨_, PySem.W.mg_of X G i_GREATEST⟩, g_LONGEST := ⟨_, PySem.W.mg_of X G i_LONGEST⟩, t_Answer := ⟨⟨pg_C_Answer, hd_C_Answer, po_C_Answer, sa_C_Answer⟩, ha_C_Answer, hn_C, htk_C, hm_C_Answer, ic_C_Answer, ty_C_Answer⟩, t_Round := ⟨⟨pg_C_Round, hd_C_Round, po_C_Round, sa_C_Round⟩, ha_C_Round, hn_C, htk_C, hm_C_Round, ic_C_Round, ty_C_Round⟩, n_Round_stay := na_Round_stay, n_Round_falls := na_Round_falls, t_Stays := ⟨⟨pg_C_Stays, hd_C_Stays, po_C_Stays, sa_C_Stays⟩, ha_C_Stays, hn_C, htk_C, hm_C_Stays, ic_C_Stays, ty_C_Stays⟩, t_Falls := ⟨⟨pg_C_Falls, hd_C_Falls, po_C_Falls, sa_C_Falls⟩, ha_C_Falls, hn_C, htk_C, hm_C_Falls, ic_C_Falls, ty_C_Falls⟩, n_Falls_many := na_Falls_many, mk_Stays := ⟨mk_C_Stays, in_C_Stays, kc_C_Stays⟩, s_Round_Answer := sb_Round_Answer, s_Round_Stays := sb_Round_Stays, e_Round_Stays := ne_Round_Stays, s_Round_Falls := sb_Round_Falls, e_Round_Falls := ne_Round_Falls, s_Stays_Answer := sb_Stays_Answer, s_Stays_Round := sb_Stays_Round, e_Stays_Round := ne_Stays_Round, s_Stays_Falls := sb_Stays_Falls, e_Stays_Falls := ne_Stays_Falls, s_Falls_Answer := sb_Falls_Answer, s_Falls_Round := sb_Falls_Round, e_Falls_Round := ne_Falls_Round, s_Falls_Stays := sb_Falls_Stays, e_Falls_Stays := ne_Falls_Stays, g_StepError := PySem.W.mg_of X G a_C_StepError, g_BadRow := PySem.W.mg_of X G a_C_BadRow, g_Answer := PySem.W.mg_of X G a_C_Answer, g_Round := PySem.W.mg_of X G a_C_Round, g_Stays := PySem.W.mg_of X G a_C_Stays, g_Falls := PySem.W.mg_of X G a_C_Falls }
  have D_Falls_init : If K C_Falls "Falls.__init__" s_Falls_init ["self", "many"] f_Falls_init _ := ⟨fun_mk (st := s_Falls_init) l_Falls_init c_Falls_init k_Falls_init, (fun_mk (st := s_Falls_init) l_Falls_init c_Falls_init k_Falls_init).binds (ps := ["self", "many"]) fun _ _ _ _ _ _ us hl => match us, hl with | [_, _], _ => rfl, ⟨mk_Falls_init, a_Falls_init, i_Falls_init, kc_Falls_init⟩⟩
  have D_turned : Df K mg "turned" s_turned ["row", "turn"] f_turned _ := ⟨fun_mk (st := s_turned) l_turned c_turned k_turned, (fun_mk (st := s_turned) l_turned c_turned k_turned).binds (ps := ["row", "turn"]) fun _ _ _ _ _ _ us hl => match us, hl with | [_, _], _ => rfl, PySem.W.mg_of X G a_turned⟩
  have D_Falls_shows : Mf K C_Falls "shows" "Falls.shows" s_Falls_shows ["self", "row", "turn"] f_Falls_shows _ := ⟨fun_mk (st := s_Falls_shows) l_Falls_shows c_Falls_shows k_Falls_shows, (fun_mk (st := s_Falls_shows) l_Falls_shows c_Falls_shows k_Falls_shows).binds (ps := ["self", "row", "turn"]) fun _ _ _ _ _ _ us hl => match us, hl with | [_, _, _], _ => rfl, ⟨a_Falls_shows, i_Falls_shows, k_Falls_shows⟩⟩
  have D_Round_init : If K C_Round "Round.__init__" s_Round_init ["self", "stay", "falls"] f_Round_init _ := ⟨fun_mk (st := s_Round_init) l_Round_init c_Round_init k_Round_init, (fun_mk (st := s_Round_init) l_Round_init c_Round_init k_Round_init).binds (ps := ["self", "stay", "falls"]) fun _ _ _ _ _ _ us hl => match us, hl with | [_, _, _], _ => rfl, ⟨mk_Round_init, a_Round_init, i_Round_init, kc_Round_init⟩⟩
  have D_fall_of : Df K mg "fall_of" s_fall_of ["row"] f_fall_of _ := ⟨fun_mk (st := s_fall_of) l_fall_of c_fall_of k_fall_of, (fun_mk (st := s_fall_of) l_fall_of c_fall_of k_fall_of).binds (ps := ["row"]) fun _ _ _ _ _ _ us hl => match us, hl with | [_], _ => rfl, PySem.W.mg_of X G a_fall_of⟩
  have D_Round_shows : Mf K C_Round "shows" "Round.shows" s_Round_shows ["self", "row"] f_Round_shows _ := ⟨fun_mk (st := s_Round_shows) l_Round_shows c_Round_shows k_Round_shows, (fun_mk (st := s_Round_shows) l_Round_shows c_Round_shows k_Round_shows).binds (ps := ["self", "row"]) fun _ _ _ _ _ _ us hl => match us, hl with | [_, _], _ => rfl, ⟨a_Round_shows, i_Round_shows, k_Round_shows⟩⟩
  have D_Stays_shows : Mf K C_Stays "shows" "Stays.shows" s_Stays_shows ["self", "row", "turn"] f_Stays_shows _ := ⟨fun_mk (st := s_Stays_shows) l_Stays_shows c_Stays_shows k_Stays_shows, (fun_mk (st := s_Stays_shows) l_Stays_shows c_Stays_shows k_Stays_shows).binds (ps := ["self", "row", "turn"]) fun _ _ _ _ _ _ us hl => match us, hl with | [_, _, _], _ => rfl, ⟨a_Stays_shows, i_Stays_shows, k_Stays_shows⟩⟩
  have D_l_falls_right : Df K mg "_law_falls_right" s_l_falls_right ["_law_row_here", "_law_turn", "_law_many"] f_l_falls_right _ := ⟨fun_mk (st := s_l_falls_right) l_l_falls_right c_l_falls_right k_l_falls_right, (fun_mk (st := s_l_falls_right) l_l_falls_right c_l_falls_right k_l_falls_right).binds (ps := ["_law_row_here", "_law_turn", "_law_many"]) fun _ _ _ _ _ _ us hl => match us, hl with | [_, _, _], _ => rfl, PySem.W.mg_of X G a_l_falls_right⟩
  have D_l_fall : Df K mg "_law_fall" s_l_fall ["_law_row_here", "_law_turn"] f_l_fall _ := ⟨fun_mk (st := s_l_fall) l_l_fall c_l_fall k_l_fall, (fun_mk (st := s_l_fall) l_l_fall c_l_fall k_l_fall).binds (ps := ["_law_row_here", "_law_turn"]) fun _ _ _ _ _ _ us hl => match us, hl with | [_, _], _ => rfl, PySem.W.mg_of X G a_l_fall⟩
  have D_l_stay : Df K mg "_law_stay" s_l_stay ["_law_row_here"] f_l_stay _ := ⟨fun_mk (st := s_l_stay) l_l_stay c_l_stay k_l_stay, (fun_mk (st := s_l_stay) l_l_stay c_l_stay k_l_stay).binds (ps := ["_law_row_here"]) fun _ _ _ _ _ _ us hl => match us, hl with | [_], _ => rfl, PySem.W.mg_of X G a_l_stay⟩
  have D_l_is_round : Df K mg "_law_is_round" s_l_is_round ["_law_row_here", "_law_stay_here", "_law_falls"] f_l_is_round _ := ⟨fun_mk (st := s_l_is_round) l_l_is_round c_l_is_round k_l_is_round, (fun_mk (st := s_l_is_round) l_l_is_round c_l_is_round k_l_is_round).binds (ps := ["_law_row_here", "_law_stay_here", "_law_falls"]) fun _ _ _ _ _ _ us hl => match us, hl with | [_, _, _], _ => rfl, PySem.W.mg_of X G a_l_is_round⟩
  have D_l_says : Df K mg "_law_says" s_l_says ["_law_said", "_law_due"] f_l_says _ := ⟨fun_mk (st := s_l_says) l_l_says c_l_says k_l_says, (fun_mk (st := s_l_says) l_l_says c_l_says k_l_says).binds (ps := ["_law_said", "_law_due"]) fun _ _ _ _ _ _ us hl => match us, hl with | [_, _], _ => rfl, PySem.W.mg_of X G a_l_says⟩
  have D_l_built_right : Df K mg "_law_built_right" s_l_built_right ["_law_row_here", "_law_stay_here", "_law_falls"] f_l_built_right _ := ⟨fun_mk (st := s_l_built_right) l_l_built_right c_l_built_right k_l_built_right, (fun_mk (st := s_l_built_right) l_l_built_right c_l_built_right k_l_built_right).binds (ps := ["_law_row_here", "_law_stay_here", "_law_falls"]) fun _ _ _ _ _ _ us hl => match us, hl with | [_, _, _], _ => rfl, PySem.W.mg_of X G a_l_built_right⟩
  have D_l_cell_at : Df K mg "_law_cell_at" s_l_cell_at ["_law_script", "_law_k"] f_l_cell_at _ := ⟨fun_mk (st := s_l_cell_at) l_l_cell_at c_l_cell_at k_l_cell_at, (fun_mk (st := s_l_cell_at) l_l_cell_at c_l_cell_at k_l_cell_at).binds (ps := ["_law_script", "_law_k"]) fun _ _ _ _ _ _ us hl => match us, hl with | [_, _], _ => rfl, PySem.W.mg_of X G a_l_cell_at⟩
  have D_l_draw : Df K mg "_law_draw" s_l_draw ["_law_cell", "_law_k", "_law_most"] f_l_draw _ := ⟨fun_mk (st := s_l_draw) l_l_draw c_l_draw k_l_draw, (fun_mk (st := s_l_draw) l_l_draw c_l_draw k_l_draw).binds (ps := ["_law_cell", "_law_k", "_law_most"]) fun _ _ _ _ _ _ us hl => match us, hl with | [_, _, _], _ => rfl, PySem.W.mg_of X G a_l_draw⟩
  have D_l_number : Df K mg "_law_number" s_l_number ["_law_cell", "_law_k", "_law_limit"] f_l_number _ := ⟨fun_mk (st := s_l_number) l_l_number c_l_number k_l_number, (fun_mk (st := s_l_number) l_l_number c_l_number k_l_number).binds (ps := ["_law_cell", "_law_k", "_law_limit"]) fun _ _ _ _ _ _ us hl => match us, hl with | [_, _, _], _ => rfl, PySem.W.mg_of X G a_l_number⟩
  have D_l_row : Df K mg "_law_row" s_l_row ["_law_script", "_law_by", "_law_most"] f_l_row _ := ⟨fun_mk (st := s_l_row) l_l_row c_l_row k_l_row, (fun_mk (st := s_l_row) l_l_row c_l_row k_l_row).binds (ps := ["_law_script", "_law_by", "_law_most"]) fun _ _ _ _ _ _ us hl => match us, hl with | [_, _, _], _ => rfl, PySem.W.mg_of X G a_l_row⟩
  have D_l_tries : Df K mg "_law_tries" s_l_tries ["_law_row_here", "_law_stay_here", "_law_falls", "_law_at"] f_l_tries _ := ⟨fun_mk (st := s_l_tries) l_l_tries c_l_tries k_l_tries, (fun_mk (st := s_l_tries) l_l_tries c_l_tries k_l_tries).binds (ps := ["_law_row_here", "_law_stay_here", "_law_falls", "_law_at"]) fun _ _ _ _ _ _ us hl => match us, hl with | [_, _, _, _], _ => rfl, PySem.W.mg_of X G a_l_tries⟩
  have D_is_whole : Df K mg "is_whole" s_is_whole ["thing"] f_is_whole _ := ⟨fun_mk (st := s_is_whole) l_is_whole c_is_whole k_is_whole, (fun_mk (st := s_is_whole) l_is_whole c_is_whole k_is_whole).binds (ps := ["thing"]) fun _ _ _ _ _ _ us hl => match us, hl with | [_], _ => rfl, PySem.W.mg_of X G a_is_whole⟩
  have D_is_between : Df K mg "is_between" s_is_between ["thing", "least", "most"] f_is_between _ := ⟨fun_mk (st := s_is_between) l_is_between c_is_between k_is_between, (fun_mk (st := s_is_between) l_is_between c_is_between k_is_between).binds (ps := ["thing", "least", "most"]) fun _ _ _ _ _ _ us hl => match us, hl with | [_, _, _], _ => rfl, PySem.W.mg_of X G a_is_between⟩
  have D_is_step : Df K mg "is_step" s_is_step ["thing"] f_is_step _ := ⟨fun_mk (st := s_is_step) l_is_step c_is_step k_is_step, (fun_mk (st := s_is_step) l_is_step c_is_step k_is_step).binds (ps := ["thing"]) fun _ _ _ _ _ _ us hl => match us, hl with | [_], _ => rfl, PySem.W.mg_of X G a_is_step⟩
  have D_check_row : Df K mg "check_row" s_check_row ["row"] f_check_row _ := ⟨fun_mk (st := s_check_row) l_check_row c_check_row k_check_row, (fun_mk (st := s_check_row) l_check_row c_check_row k_check_row).binds (ps := ["row"]) fun _ _ _ _ _ _ us hl => match us, hl with | [_], _ => rfl, PySem.W.mg_of X G a_check_row⟩
  have D_staying : Df K mg "staying" s_staying ["row"] f_staying _ := ⟨fun_mk (st := s_staying) l_staying c_staying k_staying, (fun_mk (st := s_staying) l_staying c_staying k_staying).binds (ps := ["row"]) fun _ _ _ _ _ _ us hl => match us, hl with | [_], _ => rfl, PySem.W.mg_of X G a_staying⟩
  have D_gone_round : Df K mg "gone_round" s_gone_round ["row"] f_gone_round _ := ⟨fun_mk (st := s_gone_round) l_gone_round c_gone_round k_gone_round, (fun_mk (st := s_gone_round) l_gone_round c_gone_round k_gone_round).binds (ps := ["row"]) fun _ _ _ _ _ _ us hl => match us, hl with | [_], _ => rfl, PySem.W.mg_of X G a_gone_round⟩
  have D_law : Df K mg "law" s_law ["_law_script"] _ _ := ⟨fun_mk (st := s_law) l_law c_law k_law, (fun_mk (st := s_law) l_law c_law k_law).binds (ps := ["_law_script"]) fun _ _ _ _ _ _ us hl => match us, hl with | [_], _ => rfl, PySem.W.mg_of X G a_law⟩
  refine ⟨PySem.W.fnOf "law" "law" (defArgs s_law) (defBody s_law) (defScope s_law) .none kV_law dc_law pm_law an_law cd_law ct_law, fun s v => .of_eq rfl, fun base _ _ => ?_⟩
  have C_Falls_init := ok_Falls_init (P := l.prog) (w := w) (base := base) T D_Falls_init
  have C_turned := ok_turned (P := l.prog) (w := w) (base := base) T D_turned
  have C_Falls_shows := ok_Falls_shows (P := l.prog) (w := w) (base := base) T D_Falls_shows C_turned
  have C_Round_init := ok_Round_init (P := l.prog) (w := w) (base := base) T D_Round_init
  have C_fall_of := ok_fall_of (P := l.prog) (w := w) (base := base) T D_fall_of
  have C_Round_shows := ok_Round_shows (P := l.prog) (w := w) (base := base) T D_Round_shows C_fall_of C_turned
  have C_Stays_shows := ok_Stays_shows (P := l.prog) (w := w) (base := base) T D_Stays_shows C_fall_of C_turned
  have C_l_falls_right := ok_l_falls_right (P := l.prog) (w := w) (base := base) T D_l_falls_right
  have C_l_fall := ok_l_fall (P := l.prog) (w := w) (base := base) T D_l_fall
  have C_l_stay := ok_l_stay (P := l.prog) (w := w) (base := base) T D_l_stay C_l_fall
  have C_l_is_round := ok_l_is_round (P := l.prog) (w := w) (base := base) T D_l_is_round C_l_falls_right C_l_stay
  have C_l_says := ok_l_says (P := l.prog) (w := w) (base := base) T D_l_says
  have C_l_built_right := ok_l_built_right (P := l.prog) (w := w) (base := base) T D_l_built_right C_Round_init C_Round_shows C_l_is_round C_l_says
  have C_l_cell_at := ok_l_cell_at (P := l.prog) (w := w) (base := base) T D_l_cell_at
  have C_l_draw := ok_l_draw (P := l.prog) (w := w) (base := base) T D_l_draw
  have C_l_number := ok_l_number (P := l.prog) (w := w) (base := base) T D_l_number C_l_draw
  have C_l_row := ok_l_row (P := l.prog) (w := w) (base := base) T D_l_row C_l_cell_at C_l_number
  have C_l_tries := ok_l_tries (P := l.prog) (w := w) (base := base) T D_l_tries
  have C_is_whole := ok_is_whole (P := l.prog) (w := w) (base := base) T D_is_whole
  have C_is_between := ok_is_between (P := l.prog) (w := w) (base := base) T D_is_between C_is_whole
  have C_is_step := ok_is_step (P := l.prog) (w := w) (base := base) T D_is_step C_is_between
  have C_check_row := ok_check_row (P := l.prog) (w := w) (base := base) T D_check_row C_is_step
  have C_staying := ok_staying (P := l.prog) (w := w) (base := base) T D_staying
  have C_gone_round := ok_gone_round (P := l.prog) (w := w) (base := base) T D_gone_round C_Round_init C_check_row C_fall_of C_staying C_turned
  exact ok_law (P := l.prog) (w := w) (base := base) T D_law C_Falls_init C_Falls_shows C_Round_init C_Round_shows C_Stays_shows C_l_built_right C_l_cell_at C_l_fall C_l_falls_right C_l_number C_l_row C_l_says C_l_tries C_gone_round
end TA
open PySem PySem.W PyProof.Rows
set_option maxHeartbeats 0 in
theorem PySem.Challenge.cw_turnabove_k02_round_by_hand_holds : PySem.Challenge.rw_turnabove_k02_round_by_hand.Holds := by
  w_on; o_law; k_head; (case hw => w_witness2)
  k_fill
  refine L2.walk_of (l := PySem.Challenge.rw_turnabove_k02_round_by_hand) (n := 63) (k := 6) (x := "_law_script") (CX := fun _ => L2.CX0) (sp := fun w => TA.sp_law _) rfl (by decide) rfl ⟨rfl, by decide, by decide⟩ (fun w h Y => PySem.W.kIn_of Y) ?F (fun _ _ a ns hl _ hS => ⟨a, ns, rfl, hS, hl, fun _ => rfl⟩) (fun _ _ _ _ _ h => h)
  case F =>
    intro w mg fa h KX G hmg
    refine' TA.all_mk KX G hmg ?a_C_StepError ?a_C_BadRow ?a_C_Answer ?a_C_Round ?a_C_Stays ?a_C_Falls ?a_Falls_init ?i_Falls_init ?l_Falls_init ?c_Falls_init ?k_Falls_init ?mk_Falls_init ?kc_Falls_init ?a_turned ?l_turned ?c_turned ?k_turned ?a_Falls_shows ?i_Falls_shows ?l_Falls_shows ?c_Falls_shows ?k_Falls_shows ?a_Round_init ?i_Round_init ?l_Round_init ?c_Round_init ?k_Round_init ?mk_Round_init ?kc_Round_init ?a_fall_of ?l_fall_of ?c_fall_of ?k_fall_of ?a_Round_shows ?i_Round_shows ?l_Round_shows ?c_Round_shows ?k_Round_shows ?a_Stays_shows ?i_Stays_shows ?l_Stays_shows ?c_Stays_shows ?k_Stays_shows ?a_l_falls_right ?l_l_falls_right ?c_l_falls_right ?k_l_falls_right ?a_l_fall ?l_l_fall ?c_l_fall ?k_l_fall ?a_l_stay ?l_l_stay ?c_l_stay ?k_l_stay ?a_l_is_round ?l_l_is_round ?c_l_is_round ?k_l_is_round ?a_l_says ?l_l_says ?c_l_says ?k_l_says ?a_l_built_right ?l_l_built_right ?c_l_built_right ?k_l_built_right ?a_l_cell_at ?l_l_cell_at ?c_l_cell_at ?k_l_cell_at ?a_l_draw ?l_l_draw ?c_l_draw ?k_l_draw ?a_l_number ?l_l_number ?c_l_number ?k_l_number ?a_l_row ?l_l_row ?c_l_row ?k_l_row ?a_l_tries ?l_l_tries ?c_l_tries ?k_l_tries ?a_is_whole ?l_is_whole ?c_is_whole ?k_is_whole ?a_is_between ?l_is_between ?c_is_between ?k_is_between ?a_is_step ?l_is_step ?c_is_step ?k_is_step ?a_check_row ?l_check_row ?c_check_row ?k_check_row ?a_staying ?l_staying ?c_staying ?k_staying ?a_gone_round ?l_gone_round ?c_gone_round ?k_gone_round ?a_law ?l_law ?c_law ?k_law ?z_all ?z_any ?z_bool ?z_enumerate ?z_int ?z_isinstance ?z_len ?z_list ?z_max ?z_min ?z_range ?z_sorted ?z_sum ?i_LEAST ?i_GREATEST ?i_LONGEST ?pg_C_Answer ?hd_C_Answer ?po_C_Answer ?sa_C_Answer ?ha_C_Answer ?hm_C_Answer ?ic_C_Answer ?ty_C_Answer ?pg_C_Round ?hd_C_Round ?po_C_Round ?sa_C_Round ?ha_C_Round ?hm_C_Round ?ic_C_Round ?ty_C_Round ?na_Round_stay ?na_Round_falls ?pg_C_Stays ?hd_C_Stays ?po_C_Stays ?sa_C_Stays ?ha_C_Stays ?hm_C_Stays ?ic_C_Stays ?ty_C_Stays ?pg_C_Falls ?hd_C_Falls ?po_C_Falls ?sa_C_Falls ?ha_C_Falls ?hm_C_Falls ?ic_C_Falls ?ty_C_Falls ?na_Falls_many ?mk_C_Stays ?in_C_Stays ?kc_C_Stays ?sb_Round_Answer ?sb_Round_Stays ?ne_Round_Stays ?sb_Round_Falls ?ne_Round_Falls ?sb_Stays_Answer ?sb_Stays_Round ?ne_Stays_Round ?sb_Stays_Falls ?ne_Stays_Falls ?sb_Falls_Answer ?sb_Falls_Round ?ne_Falls_Round ?sb_Falls_Stays ?ne_Falls_Stays ?hn_C ?htk_C
    (case a_C_StepError => k_is)
    (case a_C_BadRow => k_is)
    (case a_C_Answer => k_is)
    (case a_C_Round => k_is)
    (case a_C_Stays => k_is)
    (case a_C_Falls => k_is)
    (case a_Falls_init => k_is)
    (case i_Falls_init => k_is)
    (case l_Falls_init => k_is)
    (case c_Falls_init => k_is)
    (case k_Falls_init => k_is)
    (case mk_Falls_init => k_is)
    (case kc_Falls_init => k_is)
    (case a_turned => k_is)
    (case l_turned => k_is)
    (case c_turned => k_is)
    (case k_turned => k_is)
    (case a_Falls_shows => k_is)
    (case i_Falls_shows => k_is)
    (case l_Falls_shows => k_is)
    (case c_Falls_shows => k_is)
    (case k_Falls_shows => k_is)
    (case a_Round_init => k_is)
    (case i_Round_init => k_is)
    (case l_Round_init => k_is)
    (case c_Round_init => k_is)
    (case k_Round_init => k_is)
    (case mk_Round_init => k_is)
    (case kc_Round_init => k_is)
    (case a_fall_of => k_is)
    (case l_fall_of => k_is)
    (case c_fall_of => k_is)
    (case k_fall_of => k_is)
    (case a_Round_shows => k_is)
    (case i_Round_shows => k_is)
    (case l_Round_shows => k_is)
    (case c_Round_shows => k_is)
    (case k_Round_shows => k_is)
    (case a_Stays_shows => k_is)
    (case i_Stays_shows => k_is)
    (case l_Stays_shows => k_is)
    (case c_Stays_shows => k_is)
    (case k_Stays_shows => k_is)
    (case a_l_falls_right => k_is)
    (case l_l_falls_right => k_is)
    (case c_l_falls_right => k_is)
    (case k_l_falls_right => k_is)
    (case a_l_fall => k_is)
    (case l_l_fall => k_is)
    (case c_l_fall => k_is)
    (case k_l_fall => k_is)
    (case a_l_stay => k_is)
    (case l_l_stay => k_is)
    (case c_l_stay => k_is)
    (case k_l_stay => k_is)
    (case a_l_is_round => k_is)
    (case l_l_is_round => k_is)
    (case c_l_is_round => k_is)
    (case k_l_is_round => k_is)
    (case a_l_says => k_is)
    (case l_l_says => k_is)
    (case c_l_says => k_is)
    (case k_l_says => k_is)
    (case a_l_built_right => k_is)
    (case l_l_built_right => k_is)
    (case c_l_built_right => k_is)
    (case k_l_built_right => k_is)
    (case a_l_cell_at => k_is)
    (case l_l_cell_at => k_is)
    (case c_l_cell_at => k_is)
    (case k_l_cell_at => k_is)
    (case a_l_draw => k_is)
    (case l_l_draw => k_is)
    (case c_l_draw => k_is)
    (case k_l_draw => k_is)
    (case a_l_number => k_is)
    (case l_l_number => k_is)
    (case c_l_number => k_is)
    (case k_l_number => k_is)
    (case a_l_row => k_is)
    (case l_l_row => k_is)
    (case c_l_row => k_is)
    (case k_l_row => k_is)
    (case a_l_tries => k_is)
    (case l_l_tries => k_is)
    (case c_l_tries => k_is)
    (case k_l_tries => k_is)
    (case a_is_whole => k_is)
    (case l_is_whole => k_is)
    (case c_is_whole => k_is)
    (case k_is_whole => k_is)
    (case a_is_between => k_is)
    (case l_is_between => k_is)
    (case c_is_between => k_is)
    (case k_is_between => k_is)
    (case a_is_step => k_is)
    (case l_is_step => k_is)
    (case c_is_step => k_is)
    (case k_is_step => k_is)
    (case a_check_row => k_is)
    (case l_check_row => k_is)
    (case c_check_row => k_is)
    (case k_check_row => k_is)
    (case a_staying => k_is)
    (case l_staying => k_is)
    (case c_staying => k_is)
    (case k_staying => k_is)
    (case a_gone_round => k_is)
    (case l_gone_round => k_is)
    (case c_gone_round => k_is)
    (case k_gone_round => k_is)
    (case a_law => k_is)
    (case l_law => k_is)
    (case c_law => k_is)
    (case k_law => k_is)
    (case z_all => k_is)
    (case z_any => k_is)
    (case z_bool => k_is)
    (case z_enumerate => k_is)
    (case z_int => k_is)
    (case z_isinstance => k_is)
    (case z_len => k_is)
    (case z_list => k_is)
    (case z_max => k_is)
    (case z_min => k_is)
    (case z_range => k_is)
    (case z_sorted => k_is)
    (case z_sum => k_is)
    (case i_LEAST => k_is)
    (case i_GREATEST => k_is)
    (case i_LONGEST => k_is)
    (case pg_C_Answer => k_is)
    (case hd_C_Answer => k_is)
    (case po_C_Answer => k_is)
    (case sa_C_Answer => k_is)
    (case ha_C_Answer => k_is)
    (case hm_C_Answer => k_is)
    (case ic_C_Answer => k_is)
    (case ty_C_Answer => k_is)
    (case pg_C_Round => k_is)
    (case hd_C_Round => k_is)
    (case po_C_Round => k_is)
    (case sa_C_Round => k_is)
    (case ha_C_Round => k_is)
    (case hm_C_Round => k_is)
    (case ic_C_Round => k_is)
    (case ty_C_Round => k_is)
    (case na_Round_stay => k_is)
    (case na_Round_falls => k_is)
    (case pg_C_Stays => k_is)
    (case hd_C_Stays => k_is)
    (case po_C_Stays => k_is)
    (case sa_C_Stays => k_is)
    (case ha_C_Stays => k_is)
    (case hm_C_Stays => k_is)
    (case ic_C_Stays => k_is)
    (case ty_C_Stays => k_is)
    (case pg_C_Falls => k_is)
    (case hd_C_Falls => k_is)
    (case po_C_Falls => k_is)
    (case sa_C_Falls => k_is)
    (case ha_C_Falls => k_is)
    (case hm_C_Falls => k_is)
    (case ic_C_Falls => k_is)
    (case ty_C_Falls => k_is)
    (case na_Falls_many => k_is)
    (case mk_C_Stays => k_is)
    (case in_C_Stays => k_is)
    (case kc_C_Stays => k_is)
    (case sb_Round_Answer => k_is)
    (case sb_Round_Stays => k_is)
    (case ne_Round_Stays => decide)
    (case sb_Round_Falls => k_is)
    (case ne_Round_Falls => decide)
    (case sb_Stays_Answer => k_is)
    (case sb_Stays_Round => k_is)
    (case ne_Stays_Round => decide)
    (case sb_Stays_Falls => k_is)
    (case ne_Stays_Falls => decide)
    (case sb_Falls_Answer => k_is)
    (case sb_Falls_Round => k_is)
    (case ne_Falls_Round => decide)
    (case sb_Falls_Stays => k_is)
    (case ne_Falls_Stays => decide)
    (case hn_C => k_is)
    (case htk_C => k_is)
