import PyProof.Rows.All
import Wide.All
import OpenK.AllK
import Wide.FinOn
import HandS.ForMost
import HandS.Evl
import HandS.Walk
import HandS.IsInst
import HandS.Wide
import HandS.SortInts
import HandS.Style
import HandS.Flow
import HandS.Conv
import HandS.SetFor
import PySem.Challenge.RW_turnabove_k07_great_counts
set_option Elab.async false
set_option linter.all false
set_option maxRecDepth 100000
set_option maxHeartbeats 4000000
namespace TA
/-! binomials, orders of counts -/
def fact : Nat → Nat
  | 0 => 1
  | n + 1 => (n + 1) * fact n
theorem fact_pos : ∀ n, 0 < fact n
  | 0 => Nat.one_pos
  | n + 1 => Nat.mul_pos (Nat.succ_pos n) (fact_pos n)
def ch : Nat → Nat → Nat
  | _, 0 => 1
  | 0, _ + 1 => 0
  | n + 1, k + 1 => ch n k + ch n (k + 1)
theorem ch_zero (n : Nat) : ch n 0 = 1 := by cases n <;> rfl
theorem ch_gt : ∀ n k, n < k → ch n k = 0
  | 0, 0, h => absurd h (Nat.lt_irrefl 0)
  | 0, k + 1, _ => rfl
  | n + 1, 0, h => absurd h (Nat.not_lt_zero _)
  | n + 1, k + 1, h => by
    show ch n k + ch n (k + 1) = 0
    rw [ch_gt n k (by omega), ch_gt n (k + 1) (by omega)]
theorem ch_succ : ∀ n k, (k + 1) * ch (n + 1) (k + 1) = (n + 1) * ch n k
  | 0, 0 => rfl
  | 0, k + 1 => by
    show (k + 1 + 1) * (ch 0 (k + 1) + ch 0 (k + 1 + 1)) = _
    rw [ch_gt 0 (k + 1) (by omega), ch_gt 0 (k + 1 + 1) (by omega)]
    simp
  | n + 1, 0 => by
    have h := ch_succ n 0
    show (0 + 1) * (ch (n + 1) 0 + ch (n + 1) (0 + 1)) = (n + 1 + 1) * ch (n + 1) 0
    rw [ch_zero] at *
    omega
  | n + 1, k + 1 => by
    have h1 := ch_succ n k
    have h2 := ch_succ n (k + 1)
    show (k + 1 + 1) * (ch (n + 1) (k + 1) + ch (n + 1) (k + 1 + 1)) = (n + 1 + 1) * ch (n + 1) (k + 1)
    have e : ch (n + 1) (k + 1) = ch n k + ch n (k + 1) := rfl
    rw [Nat.mul_add, h2]
    have : (k + 1 + 1) * ch (n + 1) (k + 1) = (k + 1) * ch (n + 1) (k + 1) + ch (n + 1) (k + 1) := by rw [Nat.add_mul, Nat.one_mul]
    rw [this, h1]
    have : (n + 1 + 1) * ch (n + 1) (k + 1) = (n + 1) * ch (n + 1) (k + 1) + ch (n + 1) (k + 1) := by rw [Nat.add_mul, Nat.one_mul]
    rw [this, e, Nat.mul_add]
    omega
theorem ch_fact : ∀ m c, ch (m + c) c * (fact m * fact c) = fact (m + c)
  | m, 0 => by rw [ch_zero]; show 1 * (fact m * 1) = fact m; omega
  | m, c + 1 => by
    have h := ch_fact m c
    have s := ch_succ (m + c) c
    show ch (m + c + 1) (c + 1) * (fact m * ((c + 1) * fact c)) = (m + c + 1) * fact (m + c)
    rw [← h]
    have : ch (m + c + 1) (c + 1) * (fact m * ((c + 1) * fact c)) = ((c + 1) * ch (m + c + 1) (c + 1)) * (fact m * fact c) := by
      simp only [Nat.mul_assoc, Nat.mul_comm, Nat.mul_left_comm]
    rw [this, s, Nat.mul_assoc]
/-- the orders of counts, m steps standing already -/
def mu : Nat → List Nat → Nat
  | _, [] => 1
  | m, c :: cs => ch (m + c) c * mu (m + c) cs
def pf : List Nat → Nat
  | [] => 1
  | c :: cs => fact c * pf cs
theorem pf_pos : ∀ cs, 0 < pf cs
  | [] => Nat.one_pos
  | c :: cs => Nat.mul_pos (fact_pos c) (pf_pos cs)
theorem mu_fact : ∀ cs m, mu m cs * (fact m * pf cs) = fact (m + cs.sum)
  | [], m => by show 1 * (fact m * 1) = _; simp
  | c :: cs, m => by
    have h := mu_fact cs (m + c)
    have k := ch_fact m c
    rw [List.sum_cons, ← Nat.add_assoc, ← h, ← k]
    show ch (m + c) c * mu (m + c) cs * (fact m * (fact c * pf cs)) = _
    simp only [Nat.mul_assoc, Nat.mul_comm, Nat.mul_left_comm]
theorem mu_pf (cs : List Nat) : mu 0 cs * pf cs = fact cs.sum := by
  have h := mu_fact cs 0
  rw [Nat.zero_add] at h
  rw [← h]
  show _ = mu 0 cs * (1 * pf cs)
  rw [Nat.one_mul]
/-- one fewer at a place -/
def less (cs : List Nat) (i : Nat) : List Nat := cs.set i (cs.getD i 0 - 1)
theorem pf_less : ∀ (cs : List Nat) (i : Nat), 0 < cs.getD i 0 → pf cs = cs.getD i 0 * pf (less cs i)
  | [], i, h => by simp at h
  | c :: cs, 0, h => by
    have h' : 0 < c := h
    show fact c * pf cs = c * (fact (c - 1) * pf cs)
    rw [← Nat.mul_assoc]
    congr 1
    cases c with
    | zero => omega
    | succ c => rfl
  | c :: cs, i + 1, h => by
    have ih := pf_less cs i h
    show fact c * pf cs = cs.getD i 0 * (fact c * pf (less cs i))
    rw [ih]
    simp only [Nat.mul_assoc, Nat.mul_comm, Nat.mul_left_comm]
theorem sum_less : ∀ (cs : List Nat) (i : Nat), 0 < cs.getD i 0 → (less cs i).sum + 1 = cs.sum
  | [], i, h => by simp at h
  | c :: cs, 0, h => by
    have h' : 0 < c := h
    show (c - 1) + cs.sum + 1 = c + cs.sum
    omega
  | c :: cs, i + 1, h => by
    have ih := sum_less cs i h
    show c + (less cs i).sum + 1 = c + cs.sum
    omega
/-- orders with one fewer -/
theorem mu_less (cs : List Nat) (i : Nat) (h : 0 < cs.getD i 0) : cs.sum * mu 0 (less cs i) = cs.getD i 0 * mu 0 cs := by
  have a := mu_pf cs
  have b := mu_pf (less cs i)
  have s := sum_less cs i h
  have p := pf_less cs i h
  rw [← s] at a
  have a' : mu 0 cs * pf cs = ((less cs i).sum + 1) * fact (less cs i).sum := a
  rw [← b, p, s] at a'
  refine Nat.eq_of_mul_eq_mul_right (pf_pos (less cs i)) ?_
  rw [Nat.mul_assoc, ← a']
  simp only [Nat.mul_assoc, Nat.mul_comm, Nat.mul_left_comm]
end TA
namespace TA
/-- what counted steps come to, the first of them k -/
def htF : Int → List Nat → Int
  | _, [] => 0
  | k, c :: cs => k * (c : Int) + htF (k + 1) cs
abbrev ht (cs : List Nat) : Int := htF (-4) cs
def howMany (cs : List Nat) : Int := (if 0 < ht cs then ht cs else 0) * (mu 0 cs : Int) / (cs.sum : Int)
def ways1 (cs : List Nat) (i : Nat) : Nat := if 0 < cs.getD i 0 then mu 0 (less cs i) else 0
theorem ways1_mul (cs : List Nat) (i : Nat) : cs.sum * ways1 cs i = cs.getD i 0 * mu 0 cs := by
  unfold ways1
  by_cases h : 0 < cs.getD i 0
  · rw [if_pos h, mu_less cs i h]
  · rw [if_neg h, show cs.getD i 0 = 0 by omega]
    simp
theorem six {cs : List Nat} (h : cs.length = 6) : ∃ a b c d e f, cs = [a, b, c, d, e, f] := by
  match cs, h with
  | [a, b, c, d, e, f], _ => exact ⟨a, b, c, d, e, f, rfl⟩
theorem ht6 (a b c d e f : Nat) : ht [a, b, c, d, e, f] = -4 * a + -3 * b + -2 * c + -1 * d + f := by
  simp [htF]
  omega
theorem ht_mul {cs : List Nat} (h : cs.length = 6) : ∃ q : Int, ht cs * (mu 0 cs : Int) = (cs.sum : Int) * q := by
  obtain ⟨a, b, c, d, e, f, rfl⟩ := six h
  have w0 := ways1_mul [a, b, c, d, e, f] 0
  have w1 := ways1_mul [a, b, c, d, e, f] 1
  have w2 := ways1_mul [a, b, c, d, e, f] 2
  have w3 := ways1_mul [a, b, c, d, e, f] 3
  have w5 := ways1_mul [a, b, c, d, e, f] 5
  simp only [List.getD_cons_zero, List.getD_cons_succ] at w0 w1 w2 w3 w5
  generalize ways1 [a, b, c, d, e, f] 0 = x0 at *
  generalize ways1 [a, b, c, d, e, f] 1 = x1 at *
  generalize ways1 [a, b, c, d, e, f] 2 = x2 at *
  generalize ways1 [a, b, c, d, e, f] 3 = x3 at *
  generalize ways1 [a, b, c, d, e, f] 5 = x5 at *
  rw [ht6]
  generalize mu 0 [a, b, c, d, e, f] = m at *
  generalize [a, b, c, d, e, f].sum = n at *
  refine ⟨-4 * x0 + -3 * x1 + -2 * x2 + -1 * x3 + x5, ?_⟩
  have e0 : (n : Int) * x0 = a * m := by exact_mod_cast w0
  have e1 : (n : Int) * x1 = b * m := by exact_mod_cast w1
  have e2 : (n : Int) * x2 = c * m := by exact_mod_cast w2
  have e3 : (n : Int) * x3 = d * m := by exact_mod_cast w3
  have e5 : (n : Int) * x5 = f * m := by exact_mod_cast w5
  grind
theorem hm_mul {cs : List Nat} (h : cs.length = 6) (hn : 0 < cs.sum) : (cs.sum : Int) * howMany cs = (if 0 < ht cs then ht cs else 0) * (mu 0 cs : Int) := by
  obtain ⟨q, e⟩ := ht_mul h
  unfold howMany
  by_cases hp : 0 < ht cs
  · rw [if_pos hp, e, Int.mul_ediv_cancel_left _ (by omega)]
  · rw [if_neg hp]
    simp
theorem hm_zero {cs : List Nat} (hp : ht cs ≤ 0) : howMany cs = 0 := by
  unfold howMany
  rw [if_neg (by omega)]
  simp
theorem less_len (cs : List Nat) (i : Nat) : (less cs i).length = cs.length := by
  unfold less
  simp
theorem htF_less : ∀ (cs : List Nat) (k : Int) (i : Nat), 0 < cs.getD i 0 → htF k (less cs i) = htF k cs - (k + i)
  | [], k, i, h => by simp at h
  | c :: cs, k, 0, h => by
    have h' : 0 < c := h
    show k * ((c - 1 : Nat) : Int) + htF (k + 1) cs = k * (c : Int) + htF (k + 1) cs - (k + 0)
    have : ((c - 1 : Nat) : Int) = (c : Int) - 1 := by omega
    rw [this, Int.mul_sub]
    omega
  | c :: cs, k, i + 1, h => by
    have ih := htF_less cs (k + 1) i h
    show k * (c : Int) + htF (k + 1) (less cs i) = k * (c : Int) + htF (k + 1) cs - (k + ((i + 1 : Nat) : Int))
    rw [ih]
    omega
/-- rows by their last step: none where the rest does not stay above -/
def lastW (cs : List Nat) (i : Nat) : Int := if 0 < cs.getD i 0 then howMany (less cs i) else 0
theorem lastW_mul {cs : List Nat} (h : cs.length = 6) (hn : 1 < cs.sum) (hh : 0 < ht cs) {i : Nat} (hi : i < 6) :
    ((cs.sum : Int) * ((cs.sum : Int) - 1)) * lastW cs i = (ht cs - (-4 + (i : Int))) * (cs.getD i 0 : Int) * (mu 0 cs : Int) := by
  unfold lastW
  by_cases hc : 0 < cs.getD i 0
  · rw [if_pos hc]
    have s := sum_less cs i hc
    have e1 := hm_mul (cs := less cs i) (by rw [less_len]; exact h) (by omega)
    have eh := htF_less cs (-4) i hc
    have w := mu_less cs i hc
    have e2 : (if 0 < ht (less cs i) then ht (less cs i) else 0) = ht cs - (-4 + (i : Int)) := by
      rw [show ht (less cs i) = ht cs - (-4 + (i : Int)) from eh]
      by_cases hz : 0 < ht cs - (-4 + (i : Int))
      · rw [if_pos hz]
      · rw [if_neg hz]
        omega
    rw [e2] at e1
    have e3 : ((less cs i).sum : Int) = (cs.sum : Int) - 1 := by omega
    rw [e3] at e1
    have w' : (cs.sum : Int) * (mu 0 (less cs i) : Int) = (cs.getD i 0 : Int) * (mu 0 cs : Int) := by exact_mod_cast w
    rw [Int.mul_assoc, e1, Int.mul_left_comm, w', Int.mul_assoc]
  · rw [if_neg hc, show cs.getD i 0 = 0 by omega]
    simp
theorem hm_last {cs : List Nat} (h : cs.length = 6) (hn : 1 < cs.sum) (hh : 0 < ht cs) :
    lastW cs 0 + lastW cs 1 + lastW cs 2 + lastW cs 3 + lastW cs 4 + lastW cs 5 = howMany cs := by
  have m0 := lastW_mul h hn hh (i := 0) (by omega)
  have m1 := lastW_mul h hn hh (i := 1) (by omega)
  have m2 := lastW_mul h hn hh (i := 2) (by omega)
  have m3 := lastW_mul h hn hh (i := 3) (by omega)
  have m4 := lastW_mul h hn hh (i := 4) (by omega)
  have m5 := lastW_mul h hn hh (i := 5) (by omega)
  have m := hm_mul h (by omega)
  rw [if_pos hh] at m
  have hs : (cs.sum : Int) = (cs.getD 0 0 : Int) + cs.getD 1 0 + cs.getD 2 0 + cs.getD 3 0 + cs.getD 4 0 + cs.getD 5 0 := by
    obtain ⟨a, b, c, d, e, f, rfl⟩ := six h
    simp
    omega
  have hht : ht cs = -4 * (cs.getD 0 0 : Int) + -3 * cs.getD 1 0 + -2 * cs.getD 2 0 + -1 * cs.getD 3 0 + cs.getD 5 0 := by
    obtain ⟨a, b, c, d, e, f, rfl⟩ := six h
    rw [ht6]
    simp
  have hn' : 1 < (cs.sum : Int) := by omega
  generalize lastW cs 0 = x0 at *
  generalize lastW cs 1 = x1 at *
  generalize lastW cs 2 = x2 at *
  generalize lastW cs 3 = x3 at *
  generalize lastW cs 4 = x4 at *
  generalize lastW cs 5 = x5 at *
  generalize howMany cs = y at *
  generalize (mu 0 cs : Int) = q at *
  generalize ht cs = t at *
  generalize (cs.getD 0 0 : Int) = c0 at *
  generalize (cs.getD 1 0 : Int) = c1 at *
  generalize (cs.getD 2 0 : Int) = c2 at *
  generalize (cs.getD 3 0 : Int) = c3 at *
  generalize (cs.getD 4 0 : Int) = c4 at *
  generalize (cs.getD 5 0 : Int) = c5 at *
  generalize (cs.sum : Int) = n at *
  have key : (n * (n - 1)) * (x0 + x1 + x2 + x3 + x4 + x5) = (n * (n - 1)) * y := by
    have r : (n * (n - 1)) * y = (n - 1) * (t * q) := by rw [← m]; grind
    rw [r]
    simp only [Int.mul_add, m0, m1, m2, m3, m4, m5]
    grind
  have nz : n * (n - 1) ≠ 0 := by
    intro z
    rcases Int.mul_eq_zero.mp z with z | z <;> omega
  exact Int.eq_of_mul_eq_mul_left nz key
end TA
namespace TA
/-! rows, turns, falls -/
def fallFrom : Int → Nat → List Int → Option Nat
  | _, _, [] => none
  | h, a, s :: r => if h + s ≤ 0 then some (a + 1) else fallFrom (h + s) (a + 1) r
abbrev fallOf (row : List Int) : Option Nat := fallFrom 0 0 row
def rot (row : List Int) (t : Nat) : List Int := row.drop t ++ row.take t
def stB (row : List Int) (t : Nat) : Bool := (fallOf (rot row t)).isNone
def stayOf (row : List Int) : List Nat := (List.range row.length).filter (stB row)
def pre (row : List Int) (p : Nat) : Int := (row.take p).sum
theorem pre_zero (row : List Int) : pre row 0 = 0 := rfl
theorem pre_full (row : List Int) : pre row row.length = row.sum := by
  unfold pre
  rw [List.take_length]
theorem pre_succ {row : List Int} {p : Nat} (h : p < row.length) : pre row (p + 1) = pre row p + row[p] := by
  unfold pre
  rw [List.take_add_one, List.sum_append, List.getElem?_eq_getElem h]
  simp
theorem fallFrom_none : ∀ (l : List Int) (h : Int) (a : Nat), fallFrom h a l = none ↔ ∀ k, 1 ≤ k → k ≤ l.length → 0 < h + (l.take k).sum
  | [], h, a => by
    constructor
    · intro _ k h1 h2
      simp at h2
      omega
    · intro _
      rfl
  | s :: r, h, a => by
    have ih := fallFrom_none r (h + s) (a + 1)
    show (if h + s ≤ 0 then some (a + 1) else fallFrom (h + s) (a + 1) r) = none ↔ _
    by_cases c : h + s ≤ 0
    · rw [if_pos c]
      constructor
      · intro z; cases z
      · intro z
        have := z 1 (by omega) (by simp)
        simp at this
        omega
    · rw [if_neg c, ih]
      constructor
      · intro z k h1 h2
        cases k with
        | zero => omega
        | succ k =>
          rw [List.take_succ_cons, List.sum_cons]
          by_cases hk : k = 0
          · subst hk
            simp
            omega
          · have := z k (by omega) (by simpa using h2)
            omega
      · intro z k h1 h2
        have := z (k + 1) (by omega) (by simpa using h2)
        rw [List.take_succ_cons, List.sum_cons] at this
        omega
/-- a fall is told: so many first steps, which come to nought or less -/
theorem fallFrom_some : ∀ (l : List Int) (h : Int) (a k : Nat), fallFrom h a l = some k → a + 1 ≤ k ∧ k ≤ a + l.length ∧ h + (l.take (k - a)).sum ≤ 0
  | [], h, a, k, e => by cases e
  | s :: r, h, a, k, e => by
    have e' : (if h + s ≤ 0 then some (a + 1) else fallFrom (h + s) (a + 1) r) = some k := e
    by_cases c : h + s ≤ 0
    · rw [if_pos c] at e'
      cases e'
      refine ⟨Nat.le_refl _, by simp, ?_⟩
      rw [show a + 1 - a = 1 by omega]
      simpa using c
    · rw [if_neg c] at e'
      obtain ⟨h1, h2, h3⟩ := fallFrom_some r (h + s) (a + 1) k e'
      refine ⟨by omega, by simp; omega, ?_⟩
      rw [show k - a = (k - (a + 1)) + 1 by omega, List.take_succ_cons, List.sum_cons]
      omega
theorem rot_len (row : List Int) (t : Nat) : (rot row t).length = row.length := by
  unfold rot
  simp
  omega
theorem rot_zero (row : List Int) : rot row 0 = row := by simp [rot]
theorem rot_take (row : List Int) {t k : Nat} (ht : t ≤ row.length) (hk : k ≤ row.length) :
    ((rot row t).take k).sum = if t + k ≤ row.length then pre row (t + k) - pre row t else row.sum - pre row t + pre row (t + k - row.length) := by
  unfold rot pre
  have e1 : (row.drop t).sum = row.sum - (row.take t).sum := by
    have := congrArg List.sum (List.take_append_drop t row)
    rw [List.sum_append] at this
    omega
  by_cases c : t + k ≤ row.length
  · rw [if_pos c, List.take_append_of_le_length (by simp; omega), List.take_drop]
    have := congrArg List.sum (List.take_append_drop t (row.take (t + k)))
    rw [List.sum_append, List.take_take, Nat.min_eq_left (by omega)] at this
    omega
  · rw [if_neg c, List.take_append, List.take_of_length_le (by simp; omega), List.sum_append, e1, List.take_take, List.length_drop, Nat.min_eq_left (by omega)]
    rw [show k - (row.length - t) = t + k - row.length by omega]
theorem stB_iff {row : List Int} {t : Nat} (ht : t < row.length) :
    stB row t = true ↔ (∀ q, t < q → q ≤ row.length → pre row t < pre row q) ∧ (∀ q, q ≤ t → pre row t < pre row q + row.sum) := by
  unfold stB
  rw [Option.isNone_iff_eq_none, fallFrom_none]
  rw [rot_len]
  constructor
  · intro z
    have a : ∀ q, t < q → q ≤ row.length → pre row t < pre row q := by
      intro q h1 h2
      have := z (q - t) (by omega) (by omega)
      rw [rot_take row (by omega) (by omega), if_pos (by omega), show t + (q - t) = q by omega] at this
      omega
    refine ⟨a, ?_⟩
    intro q hq
    by_cases h0 : q = 0
    · subst h0
      have := a row.length ht (Nat.le_refl _)
      rw [pre_full] at this
      rw [pre_zero]
      omega
    · have := z (q + row.length - t) (by omega) (by omega)
      rw [rot_take row (by omega) (by omega), if_neg (by omega), show t + (q + row.length - t) - row.length = q by omega] at this
      omega
  · rintro ⟨a, b⟩ k h1 h2
    rw [rot_take row (by omega) (by omega)]
    by_cases c : t + k ≤ row.length
    · rw [if_pos c]
      have := a (t + k) (by omega) c
      omega
    · rw [if_neg c]
      have := b (t + k - row.length) (by omega)
      omega
/-! the program's way: places from behind, each below all later heights -/
def scan (row : List Int) : Nat → List Nat × Int
  | 0 => ([], row.sum)
  | i + 1 => if pre row (row.length - 1 - i) < (scan row i).2 then ((scan row i).1 ++ [row.length - 1 - i], pre row (row.length - 1 - i)) else scan row i
structure ScanOk (row : List Int) (i : Nat) (s : List Nat × Int) : Prop where
  att : ∃ r, row.length - i ≤ r ∧ r ≤ row.length ∧ pre row r = s.2
  low : ∀ r, row.length - i ≤ r → r ≤ row.length → s.2 ≤ pre row r
  mem : ∀ q, q ∈ s.1 ↔ row.length - i ≤ q ∧ q < row.length ∧ ∀ r, q < r → r ≤ row.length → pre row q < pre row r
  hts : s.1.map (pre row) = (List.range (row.sum - s.2).toNat).map (fun (j : Nat) => row.sum - 1 - (j : Int))
  le : s.2 ≤ row.sum
  desc : s.1.Pairwise (fun a b => b < a)
theorem scan_ok {row : List Int} (h1 : ∀ s ∈ row, s ≤ 1) : ∀ i, i ≤ row.length → ScanOk row i (scan row i)
  | 0, _ => by
    refine ⟨⟨row.length, by omega, by omega, pre_full row⟩, ?_, ?_, ?_, ?_, ?_⟩
    · intro r a b
      rw [show r = row.length by omega, pre_full]
      exact Int.le_refl _
    · intro q
      constructor
      · intro z; cases z
      · rintro ⟨a, b, _⟩; omega
    · show [] = (List.range (row.sum - row.sum).toNat).map _
      rw [Int.sub_self]
      rfl
    · exact Int.le_refl _
    · exact List.Pairwise.nil
  | i + 1, hi => by
    have I := scan_ok h1 i (by omega)
    have pl : row.length - 1 - i < row.length := by omega
    have ep : row.length - (i + 1) = row.length - 1 - i := by omega
    have en : row.length - i = row.length - 1 - i + 1 := by omega
    have hstep : pre row (row.length - i) ≤ pre row (row.length - 1 - i) + 1 := by
      rw [en, pre_succ pl]
      have := h1 _ (List.getElem_mem pl)
      omega
    have lo1 := I.low (row.length - i) (by omega) (by omega)
    unfold scan
    generalize hp : row.length - 1 - i = p at *
    by_cases c : pre row p < (scan row i).2
    · rw [if_pos c]
      have es : (scan row i).2 = pre row p + 1 := by omega
      refine ⟨⟨p, by omega, by omega, rfl⟩, ?_, ?_, ?_, ?_, ?_⟩
      · intro r a b
        show pre row p ≤ pre row r
        by_cases hr : r = p
        · rw [hr]; exact Int.le_refl _
        · have := I.low r (by omega) b
          omega
      · intro q
        show q ∈ (scan row i).1 ++ [p] ↔ _
        rw [List.mem_append, List.mem_singleton, I.mem q]
        constructor
        · rintro (⟨a, b, d⟩ | rfl)
          · exact ⟨by omega, b, d⟩
          · refine ⟨by omega, pl, fun r a b => ?_⟩
            have := I.low r (by omega) b
            omega
        · rintro ⟨a, b, d⟩
          by_cases hq : q = p
          · exact .inr hq
          · exact .inl ⟨by omega, b, d⟩
      · show ((scan row i).1 ++ [p]).map (pre row) = (List.range (row.sum - pre row p).toNat).map _
        have hle := I.le
        rw [List.map_append, I.hts, show (row.sum - pre row p).toNat = (row.sum - (scan row i).2).toNat + 1 by omega, List.range_succ, List.map_append]
        congr 1
        simp
        omega
      · show pre row p ≤ row.sum
        have hle := I.le
        omega
      · show ((scan row i).1 ++ [p]).Pairwise _
        rw [List.pairwise_append]
        refine ⟨I.desc, by simp, fun a ha b hb => ?_⟩
        rw [List.mem_singleton] at hb
        have := ((I.mem a).mp ha).1
        omega
    · rw [if_neg c]
      refine ⟨?_, ?_, ?_, I.hts, I.le, I.desc⟩
      · obtain ⟨r, a, b, d⟩ := I.att
        exact ⟨r, by omega, b, d⟩
      · intro r a b
        by_cases hr : r = p
        · rw [hr]; omega
        · exact I.low r (by omega) b
      · intro q
        rw [I.mem q]
        constructor
        · rintro ⟨a, b, d⟩
          exact ⟨by omega, b, d⟩
        · rintro ⟨a, b, d⟩
          refine ⟨?_, b, d⟩
          by_cases hq : q = p
          · exfalso
            subst hq
            obtain ⟨r, a', b', d'⟩ := I.att
            have := d r (by omega) b'
            omega
          · omega
theorem range_from : ∀ (L k : Nat), ((List.range L).filter (fun j => decide (k ≤ j))).length = L - k
  | 0, k => by simp
  | L + 1, k => by
    rw [List.range_succ, List.filter_append, List.length_append, range_from L k]
    by_cases c : k ≤ L
    · simp [c]; omega
    · simp [c]; omega
/-- what the program tells: places of the scan whose height is below all heights one round on -/
def picked (row : List Int) : List Nat := ((scan row row.length).1).filter (fun p => decide (pre row p < (scan row row.length).2 + row.sum))
theorem picked_len {row : List Int} (h1 : ∀ s ∈ row, s ≤ 1) (hr : 0 < row.sum) : (picked row).length = row.sum.toNat := by
  have I := scan_ok h1 row.length (Nat.le_refl _)
  have l0 := I.low 0 (by omega) (by omega)
  rw [pre_zero] at l0
  unfold picked
  have e : ((scan row row.length).1.filter (fun p => decide (pre row p < (scan row row.length).2 + row.sum))).length
      = (((scan row row.length).1.map (pre row)).filter (fun x => decide (x < (scan row row.length).2 + row.sum))).length := by
    rw [List.filter_map, List.length_map]
    rfl
  rw [e, I.hts, List.filter_map, List.length_map]
  generalize (scan row row.length).2 = m at *
  have : ((fun x => decide (x < m + row.sum)) ∘ fun (j : Nat) => row.sum - 1 - (j : Int)) = fun j => decide ((-m).toNat ≤ j) := by
    funext j
    simp only [Function.comp]
    apply decide_eq_decide.mpr
    omega
  rw [this, range_from]
  omega
theorem mem_picked {row : List Int} (h1 : ∀ s ∈ row, s ≤ 1) (hr : 0 < row.sum) (q : Nat) : q ∈ picked row ↔ q ∈ stayOf row := by
  have I := scan_ok h1 row.length (Nat.le_refl _)
  unfold picked stayOf
  rw [List.mem_filter, List.mem_filter, I.mem q, List.mem_range, decide_eq_true_iff]
  constructor
  · rintro ⟨⟨_, b, d⟩, z⟩
    refine ⟨b, (stB_iff b).mpr ⟨d, fun r hr' => ?_⟩⟩
    have := I.low r (by omega) (by omega)
    omega
  · rintro ⟨b, z⟩
    obtain ⟨d, w⟩ := (stB_iff b).mp z
    refine ⟨⟨by omega, b, d⟩, ?_⟩
    obtain ⟨r, a', b', d'⟩ := I.att
    rw [← d']
    by_cases hq : r ≤ q
    · exact w r hq
    · have := d r (by omega) b'
      omega
theorem stayOf_sorted (row : List Int) : (stayOf row).Pairwise (fun a b => a < b) := List.Pairwise.filter _ List.pairwise_lt_range
theorem nodup_of_pw {l : List Nat} (h : l.Pairwise (fun a b => a < b)) : l.Nodup := h.imp (fun h => Nat.ne_of_lt h)
theorem picked_nodup {row : List Int} (h1 : ∀ s ∈ row, s ≤ 1) : (picked row).Nodup := by
  have I := scan_ok h1 row.length (Nat.le_refl _)
  exact List.Pairwise.filter _ (I.desc.imp (fun h => Nat.ne_of_gt h))
theorem picked_perm {row : List Int} (h1 : ∀ s ∈ row, s ≤ 1) (hr : 0 < row.sum) : (picked row).Perm (stayOf row) :=
  (List.perm_ext_iff_of_nodup (picked_nodup h1) (nodup_of_pw (stayOf_sorted row))).mpr (fun q => mem_picked h1 hr q)
theorem stayOf_none {row : List Int} (hr : row.sum ≤ 0) : stayOf row = [] := by
  rw [List.eq_nil_iff_forall_not_mem]
  intro q hq
  unfold stayOf at hq
  rw [List.mem_filter, List.mem_range] at hq
  obtain ⟨d, w⟩ := (stB_iff hq.1).mp hq.2
  have := w q (Nat.le_refl _)
  omega
/-- just as many turns stay above as the steps come to -/
theorem stayOf_len {row : List Int} (h1 : ∀ s ∈ row, s ≤ 1) : (stayOf row).length = row.sum.toNat := by
  by_cases hr : 0 < row.sum
  · rw [← (picked_perm h1 hr).length_eq, picked_len h1 hr]
  · rw [stayOf_none (by omega)]
    simp
    omega
end TA
namespace TL
open PySem PySem.Spec PyProof.Rows L2 Evl
/-! ### a def of the top, its promise -/
structure Df (K : PySem.W.Frag) (mg : Str → Option Value) (x : Str) (st : Stmt) (ps : List Str) (f : Addr) (fd : FuncData) : Prop where
  F : Fun K x x st f fd
  b : Binds K fd ps []
  g : mg x = some (.ref f)
def Cal (P : Program) (w : World) (K : PySem.W.Frag) (mg : Str → Option Value) (base : Heap) (k : Nat) (x : Str) (ps : List Str) (sp : Sp) : Prop :=
  ∃ f fd, FnOk P w K mg base CX0 k f fd ps sp ∧ PySem.W.keepIn K (.ref f) = true ∧ Binds K fd ps [] ∧ mg x = some (.ref f)
theorem Df.cal {P : Program} {w : World} {K : PySem.W.Frag} {mg : Str → Option Value} {base : Heap} {k : Nat} {x : Str} {st : Stmt} {ps : List Str} {f : Addr} {fd : FuncData} {sp : Sp} (D : Df K mg x st ps f fd) (G : FnOk P w K mg base CX0 k f fd ps sp) :
    Cal P w K mg base k x ps sp := ⟨f, fd, G, D.F.kp, D.b, D.g⟩
section
variable {X : Cx}
theorem pe_gint {x : Str} {n : Int} {pos : Pos} (hg : Gl X x) (h : ∃ t, X.mg x = some (.int n t)) (hd : (x == ("__debug__" : Str)) = false := by decide) : PE X (.Name x pos) (tC (.int n)) := by
  obtain ⟨t, h⟩ := h
  exact pe_glob hg h ⟨t, rfl⟩ hd
/-! ### rules under names of their own -/
abbrev rLt : R2 := rI0 fun i j => .bl (decide (i < j))
abbrev rLe : R2 := rI0 fun i j => .bl (decide (i ≤ j))
abbrev rGtI : R2 := rI0 fun i j => .bl (decide (j < i))
abbrev rGeI : R2 := rI0 fun i j => .bl (decide (j ≤ i))
theorem tl_add : OpR X (binaryOp .Add) (rI0 fun i j => .int (i + j)) := op_add
theorem tl_sub : OpR X (binaryOp .Sub) (rI0 fun i j => .int (i - j)) := op_sub
theorem tl_mul : OpR X (binaryOp .Mult) (rI CMul fun i j => .int (i * j)) := op_mul
theorem tl_fdiv : OpR X (binaryOp .FloorDiv) (rI CDiv fun i j => .int (i / j)) := op_fdiv
theorem tl_mod : OpR X (binaryOp .Mod) (rI (fun _ j => 0 < j) fun i j => .int (i % j)) := op_mod
theorem tl_pow : OpR X (binaryOp .Pow) (rI CPow fun i j => .int (i ^ j.toNat)) := op_pow
theorem tl_lt : OpR X (compareOp .Lt) (rI0 fun i j => .bl (decide (i < j))) := op_lt
theorem tl_le : OpR X (compareOp .LtE) (rI0 fun i j => .bl (decide (i ≤ j))) := op_le
theorem tl_gt : OpR X (compareOp .Gt) (rI0 fun i j => .bl (decide (j < i))) := op_gt
theorem tl_ge : OpR X (compareOp .GtE) (rI0 fun i j => .bl (decide (j ≤ i))) := op_ge
theorem tl_eq : OpR X (compareOp .Eq) rEq := op_eq
theorem tl_ne : OpR X (compareOp .NotEq) rNe := op_ne
theorem tl_eqD (hu : X.A.units + 64 < cLine) : OpR X (compareOp .Eq) (rEqD X.K) := op_eqD hu
theorem tl_neD (hu : X.A.units + 64 < cLine) : OpR X (compareOp .NotEq) (rNeD X.K) := op_neD hu
theorem tl_in : OpR X (compareOp .In) (rIn X.K false) := op_in_seq
theorem tl_notIn : OpR X (compareOp .NotIn) (rIn X.K true) := op_notIn_seq
def rIsNo : R2 := fun x y H Q => y = .non ∧ Q (.bl (decide (x = .non))) H
def rNotNo : R2 := fun x y H Q => y = .non ∧ Q (.bl (!decide (x = .non))) H
theorem tl_isN : OpR X (compareOp .Is) rIsNo := op_isN
theorem tl_notN : OpR X (compareOp .IsNot) rNotNo := op_notN
theorem tl_cat : OpR X (binaryOp .Add) rCat := op_cat
theorem tl_rep : OpR X (binaryOp .Mult) rRep := op_rep
theorem tl_len : CallR X (.builtin "len") (rLenS X.K) := call_len_seq
theorem tl_list : CallR X (.type "list") (rListS X.K) := call_list_of
def rMin2 : List V → Hp → VK → Prop := fun xs H Q => ∃ i j, xs = [.int i, .int j] ∧ Q (.int (if j < i then j else i)) H
theorem tl_max2 (hc : X.calm = true) : CallR X (.builtin "max") rMax2 := call_max2 hc
theorem tl_min2 (hc : X.calm = true) : CallR X (.builtin "min") rMin2 := call_min2 hc
end
/-! ### values, further -/
section
variable {K : PySem.W.Frag} {σ : L2.St} {H H' : Hp} {ta tb tc te tx : TE} {t u : TT} {x y z v : V} {r r' : R2}
theorem ev_chain {k m : Bool} (ha : Ev ta σ H x) (hb : Ev tb σ H y) (hr : RV r x y H (.bl k)) (hc : Ev tc σ H z) (hr' : RV r' y z H (.bl m)) : Ev (tChain r r' ta tb tc) σ H (.bl (k && m)) := fun H1 e Q q =>
  ha H1 e _ fun H2 e2 => hb H2 (e.trans e2) _ fun H3 e3 => hr H3 ((e.trans e2).trans e3) _ fun H4 e4 => ⟨k, rfl, by
    cases k with
    | true =>
      rw [if_pos rfl]
      exact hc H4 (((e.trans e2).trans e3).trans e4) _ fun H5 e5 => hr' H5 ((((e.trans e2).trans e3).trans e4).trans e5) _ fun H6 e6 => q H6 ((((e2.trans e3).trans e4).trans e5).trans e6)
    | false =>
      rw [if_neg Bool.false_ne_true]
      exact q H4 ((e2.trans e3).trans e4)⟩
theorem ev_ite {b : Bool} {v1 v2 : V} (h : EvT t σ H b) (h1 : b = true → Ev ta σ H v1) (h2 : b = false → Ev tb σ H v2) : Ev (tIf t ta tb) σ H (if b = true then v1 else v2) := by
  refine ev_if h (fun hb => ?_) (fun hb => ?_)
  · rw [if_pos hb]; exact h1 hb
  · rw [if_neg (by rw [hb]; exact Bool.false_ne_true)]; exact h2 hb
theorem rc_len {p : Addr} {xs : List V} (h : SqL K H p xs) : RC (rLenS K) [.ref p] H (.int (xs.length : Int)) := fun H1 e Q q => ⟨p, xs, rfl, .inl (ex_l e h), q H1 (Ex.refl _)⟩
theorem rc_lenT {p : Addr} {xs : List V} (h : SqT K H p xs) : RC (rLenS K) [.ref p] H (.int (xs.length : Int)) := fun H1 e Q q => ⟨p, xs, rfl, .inr (ex_t e h), q H1 (Ex.refl _)⟩
theorem rc_sum {p : Addr} {ns : List Int} (h : SqL K H p (ns.map V.int)) : RC (rSum K) [.ref p] H (.int ns.sum) := fun H1 e Q q => ⟨p, ns, rfl, ex_l e h, q H1 (Ex.refl _)⟩
theorem rc_all {p : Addr} {bs : List Bool} (h : SqL K H p (bs.map V.bl)) : RC (rAll K) [.ref p] H (.bl (bs.all id)) := fun H1 e Q q => ⟨p, bs, rfl, ex_l e h, q H1 (Ex.refl _)⟩
theorem rc_any {p : Addr} {bs : List Bool} (h : SqL K H p (bs.map V.bl)) : RC (rAny K) [.ref p] H (.bl (bs.any id)) := fun H1 e Q q => ⟨p, bs, rfl, ex_l e h, q H1 (Ex.refl _)⟩
theorem rc_min2 {i j : Int} : RC rMin2 [.int i, .int j] H (.int (if j < i then j else i)) := fun H1 e Q q => ⟨i, j, rfl, q H1 (Ex.refl _)⟩
theorem rc_max2 {i j : Int} : RC rMax2 [.int i, .int j] H (.int (if j > i then j else i)) := fun H1 e Q q => ⟨i, j, rfl, q H1 (Ex.refl _)⟩
theorem rc_isi {c : V} {tt uu : Value} {b : Bool} (hc : ClsV c uu) (ht : ∀ H1, Ex H H1 → TyX K H1 x tt) (hk : PySem.W.kitOne K tt uu = some b) : RC (rIsi K) [x, c] H (.bl b) := fun H1 e Q q => ⟨x, c, tt, uu, b, rfl, hc, ht H1 e, hk, q H1 (Ex.refl _)⟩
/-- a call whose one argument is a new list -/
theorem ev_cbL {rr : List V → Hp → VK → Prop} {xs : List V} (h : EvL ta σ H xs) (hr : ∀ p H1, Ex H H1 → H1 p = some (.lst xs) → RC rr [.ref p] H1 z) : Ev (tCB rr (tCons ta tNil)) σ H z := fun H1 e Q q =>
  h H1 e _ fun p H2 _ e2 h2 => hr p H2 (e.trans e2) h2 H2 (Ex.refl _) Q fun H3 e3 => q H3 (e2.trans e3)
/-- a new list: a + b -/
def RVL (r : R2) (x y : V) (H : Hp) (xs : List V) : Prop := ∀ H1, Ex H H1 → ∀ Q : VK, (∀ p H2, H1 p = none → Ex H1 H2 → H2 p = some (.lst xs) → Q (.ref p) H2) → r x y H1 Q
theorem el_op {xs : List V} (ha : Ev ta σ H x) (hb : Ev tb σ H y) (hr : RVL r x y H xs) : EvL (tOp r ta tb) σ H xs := fun H1 e Q q =>
  ha H1 e _ fun H2 e2 => hb H2 (e.trans e2) _ fun H3 e3 => hr H3 ((e.trans e2).trans e3) Q fun p H4 hp e4 h4 => q p H4 (fresh_back (e2.trans e3) hp) ((e2.trans e3).trans e4) h4
theorem rvl_cat {a b : Addr} {xs ys : List V} (h1 : H a = some (.lst xs)) (h2 : H b = some (.lst ys)) (hl : xs.length + ys.length ≤ 100000) : RVL rCat (.ref a) (.ref b) H (xs ++ ys) := fun H1 e Q q =>
  ⟨a, b, xs, ys, rfl, rfl, e _ _ h1, e _ _ h2, sz_of hl, fun p hp => q p _ hp (Ex.new hp) upd_same⟩
/-- both new lists -/
theorem el_catLL {xs ys : List V} (ha : EvL ta σ H xs) (hb : EvL tb σ H ys) (hl : xs.length + ys.length ≤ 100000) : EvL (tOp rCat ta tb) σ H (xs ++ ys) := fun H1 e Q q =>
  ha H1 e _ fun p1 H2 hp1 e2 h2 => hb H2 (e.trans e2) _ fun p2 H3 hp2 e3 h3 => ⟨p1, p2, xs, ys, rfl, rfl, e3 _ _ h2, h3, sz_of hl, fun p hp => q p _ (fresh_back (e2.trans e3) hp) ((e2.trans e3).trans (Ex.new hp)) upd_same⟩
theorem el_catVL {a : Addr} {xs ys : List V} (ha : Ev ta σ H (.ref a)) (h : H a = some (.lst xs)) (hb : EvL tb σ H ys) (hl : xs.length + ys.length ≤ 100000) : EvL (tOp rCat ta tb) σ H (xs ++ ys) := fun H1 e Q q =>
  ha H1 e _ fun H2 e2 => hb H2 (e.trans e2) _ fun p2 H3 hp2 e3 h3 => ⟨a, p2, xs, ys, rfl, rfl, e3 _ _ (e2 _ _ (e _ _ h)), h3, sz_of hl, fun p hp => q p _ (fresh_back (e2.trans e3) hp) ((e2.trans e3).trans (Ex.new hp)) upd_same⟩
theorem el_catLV {a : Addr} {xs ys : List V} (ha : EvL ta σ H xs) (hb : Ev tb σ H (.ref a)) (h : H a = some (.lst ys)) (hl : xs.length + ys.length ≤ 100000) : EvL (tOp rCat ta tb) σ H (xs ++ ys) := fun H1 e Q q =>
  ha H1 e _ fun p1 H2 hp1 e2 h2 => hb H2 (e.trans e2) _ fun H3 e3 => ⟨p1, a, xs, ys, rfl, rfl, e3 _ _ h2, e3 _ _ (e2 _ _ (e _ _ h)), sz_of hl, fun p hp => q p _ (fresh_back (e2.trans e3) hp) ((e2.trans e3).trans (Ex.new hp)) upd_same⟩
theorem el_catVV {a b : Addr} {xs ys : List V} (ha : Ev ta σ H (.ref a)) (h : H a = some (.lst xs)) (hb : Ev tb σ H (.ref b)) (h' : H b = some (.lst ys)) (hl : xs.length + ys.length ≤ 100000) : EvL (tOp rCat ta tb) σ H (xs ++ ys) := el_op ha hb (rvl_cat h h' hl)
theorem el_repL {xs : List V} {k : Int} (ha : EvL ta σ H xs) (hb : Ev tb σ H (.int k)) (hk : 0 ≤ k ∧ k ≤ 100000) (hl : xs.length * k.toNat ≤ 100000) : EvL (tOp rRep ta tb) σ H (List.flatten (List.replicate k.toNat xs)) := fun H1 e Q q =>
  ha H1 e _ fun p1 H2 hp1 e2 h2 => hb H2 (e.trans e2) _ fun H3 e3 => ⟨p1, k, xs, rfl, rfl, e3 _ _ h2, by omega, by omega, sz_of hl, fun p hp => q p _ (fresh_back (e2.trans e3) hp) ((e2.trans e3).trans (Ex.new hp)) upd_same⟩
end
end TL
namespace TL
open PySem PySem.Spec PyProof.Rows L2 Evl
section
variable {K : PySem.W.Frag} {σ : L2.St} {H H' : Hp} {ta tb tc te tx tl : TE} {t u : TT} {x y z v : V} {D : Ends} {tu tw tz : TS} {g : TG} {wi : TI} {vs : List Nat}
theorem q_of (h : tu { D with nx := tz D } σ H) : tSeq tu tz D σ H := h
/-! ### what is walked in a comprehension -/
def EvI (wi : TI) (σ : L2.St) (H : Hp) (n : Nat) (Y : Nat → Hp → V → Hp → Prop) : Prop :=
  ∀ H1, Ex H H1 → ∀ R : It → Hp → Prop, (∀ (J : It) (H2 : Hp) (G : Hp → Prop), Ex H1 H2 → Walk J n G Y → G H2 → (∀ a b, Ex a b → G a → G b) → R J H2) → wi σ H1 R
theorem ei_list {a : Addr} {xs : List V} (h : Ev tl σ H (.ref a)) (hx : SqL K H a xs) : EvI (iList K tl) σ H xs.length (YAt xs) := fun H1 e R k =>
  h H1 e _ fun H2 e2 => ⟨a, rfl, ⟨xs, ex_l (e.trans e2) hx⟩, k _ H2 _ e2 walk_list (ex_l (e.trans e2) hx) (fun _ _ ab q => ex_l ab q)⟩
theorem ei_listN {xs : List V} (h : EvL tl σ H xs) : EvI (iList K tl) σ H xs.length (YAt xs) := fun H1 e R k =>
  h H1 e _ fun p H2 _ e2 hp => ⟨p, rfl, ⟨xs, sq_of hp⟩, k _ H2 _ e2 walk_list (sq_of hp) (fun _ _ ab q => ex_l ab q)⟩
theorem ei_tup {a : Addr} {xs : List V} (h : Ev tl σ H (.ref a)) (hx : SqT K H a xs) : EvI (iTup K tl) σ H xs.length (YAt xs) := fun H1 e R k =>
  h H1 e _ fun H2 e2 => ⟨a, rfl, ⟨xs, ex_t (e.trans e2) hx⟩, k _ H2 _ e2 walk_tup (ex_t (e.trans e2) hx) (fun _ _ ab q => ex_t ab q)⟩
theorem ei_tupN {xs : List V} (h : EvU tl σ H xs) : EvI (iTup K tl) σ H xs.length (YAt xs) := fun H1 e R k =>
  h H1 e _ fun p H2 _ e2 hp => ⟨p, rfl, ⟨xs, st_of hp⟩, k _ H2 _ e2 walk_tup (st_of hp) (fun _ _ ab q => ex_t ab q)⟩
theorem ei_range1 {ta : TA} {n : Int} (h : EvA ta σ H [.int n]) (hn : -100000 ≤ n ∧ n ≤ 100000) : EvI (iRng1 ta) σ H n.toNat (YFn fun i => .int (0 + i)) := fun H1 e R k =>
  h H1 e _ fun H2 e2 => ⟨n, rfl, by omega, by omega, k _ H2 _ e2 walk_range trivial (fun _ _ _ q => q)⟩
theorem ei_range2 {ta : TA} {lo n : Int} (h : EvA ta σ H [.int lo, .int n]) (hn : -100000 ≤ lo ∧ lo ≤ 100000 ∧ -100000 ≤ n ∧ n ≤ 100000) : EvI (iRng2 ta) σ H (n - lo).toNat (YFn fun i => .int (lo + i)) := fun H1 e R k =>
  h H1 e _ fun H2 e2 => ⟨lo, n, rfl, ⟨by omega, by omega, by omega, by omega⟩, k _ H2 _ e2 walk_range trivial (fun _ _ _ q => q)⟩
theorem ei_enum {a : Addr} {xs : List V} (h : Ev tl σ H (.ref a)) (hx : SqL K H a xs) : EvI (iEnum K (tCons tl tNil)) σ H xs.length (YPair (fun i => some (.int (i : Nat))) (fun i => xs[i]?)) := fun H1 e R k =>
  h H1 e _ fun H2 e2 => ⟨a, xs, rfl, ex_l (e.trans e2) hx, k _ H2 _ e2 walk_enum (ex_l (e.trans e2) hx) (fun _ _ ab q => ex_l ab q)⟩
theorem ei_enumN {xs : List V} (h : EvL tl σ H xs) : EvI (iEnum K (tCons tl tNil)) σ H xs.length (YPair (fun i => some (.int (i : Nat))) (fun i => xs[i]?)) := fun H1 e R k =>
  h H1 e _ fun p H2 _ e2 hp => ⟨p, xs, rfl, sq_of hp, k _ H2 _ e2 walk_enum (sq_of hp) (fun _ _ ab q => ex_l ab q)⟩
theorem lc_turn {H1 H2 H4 : Hp} {f : Nat → Bool} {w : Nat → V} {Dl : Addr} {i : Nat} {σ2 : L2.St} (p : Cw H1 f w Dl i H2) (e4 : Ex H2 H4) (hi : i < 50000) (ht : EvT t σ2 H4 (f i)) (he : f i = true → Ev te σ2 H4 (w i)) :
    t σ2 H4 fun b H3 => if b = true then te σ2 H3 fun y H5 => ∃ acc, H5 Dl = some (.lst acc) ∧ acc.length < sizeLine ∧ Cw H1 f w Dl (i + 1) (upd H5 Dl (.lst (acc ++ [y]))) else Cw H1 f w Dl (i + 1) H3 := by
  obtain ⟨p1, p2, p3⟩ := p
  refine ht H4 (Ex.refl _) _ fun H5 e5 => ?_
  have p3' := e5 _ _ (e4 _ _ p3)
  cases hf : f i with
  | true =>
    rw [if_pos rfl]
    refine he hf H5 e5 _ fun H6 e6 => ⟨given i f w, e6 Dl _ p3', sz_lt (by have := given_len i f w; omega), p1, Ex.mut (((p2.trans e4).trans e5).trans e6) p1, ?_⟩
    rw [given_yes hf]
    exact upd_same
  | false =>
    rw [if_neg Bool.false_ne_true]
    refine ⟨p1, (p2.trans e4).trans e5, ?_⟩
    rw [given_no hf]
    exact p3'
/-- a comprehension: which turns give, and what -/
theorem el_lc {n : Nat} {Y : Nat → Hp → V → Hp → Prop} (f : Nat → Bool) (w : Nat → V) (hi : EvI wi σ H n Y) (hn : n ≤ 40000)
    (hs : ∀ i x H1 H2, i < n → Ex H H1 → Y i H1 x H2 → g x (wipe σ vs) H2 fun σ2 H3 => wipe σ2 vs = wipe σ vs ∧ Ex H1 H3 ∧ EvT t σ2 H3 (f i) ∧ (f i = true → Ev te σ2 H3 (w i)))
    (hg : ∀ x σ H (Q Q' : L2.St → Hp → Prop), (∀ a b, Q a b → Q' a b) → g x σ H Q → g x σ H Q') : EvL (tLc wi g t te vs) σ H (given n f w) := fun H0 e Q q =>
  hi H0 e _ fun J H1 G e1 wk hG hmono Dl hD => lc_it wk (Cw H1 f w Dl) ⟨hD, Ex.new hD, upd_same⟩ (fun i H2 _ p => hmono _ _ p.2.1 hG)
    (fun i x H2 H3 hin p y => hg x _ _ _ _ (fun σ2 H4 k => ⟨k.1, lc_turn p k.2.1 (by omega) k.2.2.1 k.2.2.2⟩) (hs i x H2 H3 hin ((e.trans e1).trans p.2.1) y))
    (fun H2 p => q Dl H2 (fresh_back e1 p.1) (e1.trans p.2.1) p.2.2)
/-! ### the forms met -/
theorem g_name_mono {j : Nat} : ∀ x σ H (Q Q' : L2.St → Hp → Prop), (∀ a b, Q a b → Q' a b) → gName j x σ H Q → gName j x σ H Q' := fun _ _ _ _ _ h q => h _ _ q
theorem g_two_mono {i j : Nat} : ∀ x σ H (Q Q' : L2.St → Hp → Prop), (∀ a b, Q a b → Q' a b) → gTup K 2 (gCons (gName i) (gCons (gName j) gNil)) x σ H Q → gTup K 2 (gCons (gName i) (gCons (gName j) gNil)) x σ H Q' := by
  rintro x σ H Q Q' h ⟨a, xs, h1, h2, h3, v, r, h4, v', r', h5, h6, q⟩
  exact ⟨a, xs, h1, h2, h3, v, r, h4, v', r', h5, h6, h _ _ q⟩
theorem given_map {α : Type} (xs : List α) (p : α → Bool) (val : α → V) (d : α) : given xs.length (fun i => p (xs.getD i d)) (fun i => val (xs.getD i d)) = (xs.filter p).map val := by
  unfold given
  have e : xs = (List.range xs.length).map (fun i => xs.getD i d) := by
    apply List.ext_getElem
    · simp
    · intro i h1 h2
      simp [List.getD_eq_getElem?_getD, h1]
  conv => rhs; rw [e]
  rw [List.filter_map, List.map_map]
  rfl
theorem getD_of {α : Type} {xs : List α} {i : Nat} {d x : α} (h : xs[i]? = some x) : xs.getD i d = x := by
  rw [List.getD_eq_getElem?_getD, h]
  rfl
/-- [e for x in xs if ..] -/
theorem el_lcI {α : Type} {xs : List α} {emb : α → V} {j : Nat} (p : α → Bool) (val : α → V) (hi : EvI wi σ H (xs.map emb).length (YAt (xs.map emb))) (hz : xs.length ≤ 40000) (hw : ∀ x, wipe ((wipe σ vs).set j (some x)) vs = wipe σ vs)
    (ht : ∀ x H1, x ∈ xs → Ex H H1 → EvT t ((wipe σ vs).set j (some (emb x))) H1 (p x)) (he : ∀ x H1, x ∈ xs → Ex H H1 → p x = true → Ev te ((wipe σ vs).set j (some (emb x))) H1 (val x)) :
    EvL (tLc wi (gName j) t te vs) σ H ((xs.filter p).map val) := by
  cases xs with
  | nil =>
    have q := el_lc (vs := vs) (t := t) (te := te) (g := gName j) (fun _ => true) (fun _ => .non) hi (by simp) (fun i x H1 H2 hi _ _ => by simp at hi) g_name_mono
    exact q
  | cons x0 xr =>
    rw [← given_map (x0 :: xr) p val x0]
    have q := el_lc (vs := vs) (t := t) (te := te) (g := gName j) (fun i => p ((x0 :: xr).getD i x0)) (fun i => val ((x0 :: xr).getD i x0)) hi (by rw [List.length_map]; exact hz) ?_ g_name_mono
    · rw [List.length_map] at q
      exact q
    · rintro i x H1 H2 hi e ⟨rfl, hy⟩
      rw [List.getElem?_map] at hy
      obtain ⟨w, hw1, hw2⟩ := Option.map_eq_some_iff.mp hy
      subst hw2
      have hm : w ∈ x0 :: xr := List.mem_of_getElem? hw1
      show _ ∧ _
      simp only [getD_of hw1]
      exact ⟨hw _, Ex.refl _, ht w _ hm e, he w _ hm e⟩
theorem filter_true {α : Type} (xs : List α) : xs.filter (fun _ => true) = xs := by simp
theorem et_yes : EvT tYes σ H true := fun H1 _ _ q => q H1 (Ex.refl _)
/-- [e for x in xs] -/
theorem el_mapI {α : Type} {xs : List α} {emb : α → V} {j : Nat} (val : α → V) (hi : EvI wi σ H (xs.map emb).length (YAt (xs.map emb))) (hz : xs.length ≤ 40000) (hw : ∀ x, wipe ((wipe σ vs).set j (some x)) vs = wipe σ vs)
    (he : ∀ x H1, x ∈ xs → Ex H H1 → Ev te ((wipe σ vs).set j (some (emb x))) H1 (val x)) :
    EvL (tLc wi (gName j) tYes te vs) σ H (xs.map val) := by
  have q := el_lcI (vs := vs) (te := te) (t := tYes) (fun _ => true) val hi hz hw (fun _ _ _ _ => et_yes) (fun x H1 hm e _ => he x H1 hm e)
  rw [filter_true] at q
  exact q
/-- [e for i, x in enumerate(xs)] -/
theorem el_enum {α : Type} {xs : List α} {emb : α → V} {i1 i2 : Nat} (val : Nat → α → V) (hi : EvI wi σ H (xs.map emb).length (YPair (fun i => some (.int (i : Nat))) (fun i => (xs.map emb)[i]?))) (hz : xs.length ≤ 40000) (hw : ∀ x y, wipe (((wipe σ vs).set i1 (some x)).set i2 (some y)) vs = wipe σ vs)
    (he : ∀ i x H1, xs[i]? = some x → Ex H H1 → Ev te (((wipe σ vs).set i1 (some (.int (i : Nat)))).set i2 (some (emb x))) H1 (val i x)) :
    EvL (tLc wi (gTup K 2 (gCons (gName i1) (gCons (gName i2) gNil))) tYes te vs) σ H (xs.mapIdx val) := by
  cases xs with
  | nil =>
    have q := el_lc (vs := vs) (t := tYes) (te := te) (g := gTup K 2 (gCons (gName i1) (gCons (gName i2) gNil))) (fun _ => true) (fun _ => .non) hi (by simp) (fun i x H1 H2 hi _ _ => by simp at hi) g_two_mono
    exact q
  | cons x0 xr =>
    have q := el_lc (vs := vs) (t := tYes) (te := te) (g := gTup K 2 (gCons (gName i1) (gCons (gName i2) gNil))) (fun _ => true) (fun i => val i ((x0 :: xr).getD i x0)) hi (by rw [List.length_map]; exact hz) ?_ g_two_mono
    · have e : given (((x0 :: xr).map emb).length) (fun _ => true) (fun i => val i ((x0 :: xr).getD i x0)) = (x0 :: xr).mapIdx val := by
        unfold given
        rw [filter_true, List.length_map]
        apply List.ext_getElem
        · simp
        · intro i h1 h2
          rw [List.length_mapIdx] at h2
          rw [List.getElem_map, List.getElem_mapIdx, List.getElem_range, getD_of (List.getElem?_eq_getElem h2)]
      rw [e] at q
      exact q
    · rintro i x H1 H2 hi e ⟨T, y1, y2, rfl, hT, rfl, hy1, hy⟩
      cases hy1
      have hy' : ((x0 :: xr).map emb)[i]? = some y2 := hy
      rw [List.getElem?_map] at hy'
      obtain ⟨w, hw1, hw2⟩ := Option.map_eq_some_iff.mp hy'
      subst hw2
      refine ⟨T, _, rfl, st_of upd_same, rfl, _, _, rfl, _, _, rfl, rfl, hw _ _, Ex.new hT, et_yes, fun _ => ?_⟩
      rw [getD_of hw1]
      exact he i w _ hw1 (e.trans (Ex.new hT))
/-- for i, x in enumerate(xs) -/
theorem s_forE {a : Addr} {xs : List V} {i1 i2 : Nat} (h : Ev tl σ H (.ref a)) (hx : SqL K H a xs) (Pv : Nat → L2.St → Hp → Prop) (h0 : ∀ H1, Ex H H1 → Pv 0 σ H1) (hl : ∀ i σ' H', i ≤ xs.length → Pv i σ' H' → SqL K H' a xs)
    (hs : ∀ i x σ' H' H1, xs[i]? = some x → Pv i σ' H' → Ex H' H1 → tu { D with nx := Pv (i + 1), ct := Pv (i + 1), bk := D.nx } ((σ'.set i1 (some (.int (i : Nat)))).set i2 (some x)) H1) (hd : ∀ σ' H', Pv xs.length σ' H' → D.nx σ' H') :
    tFor (iEnum K (tCons tl tNil)) (gTup K 2 (gCons (gName i1) (gCons (gName i2) gNil))) tu D σ H :=
  h H (Ex.refl H) _ fun H1 e => ⟨a, xs, rfl, ex_l e hx, for_it (walk_enum (xs := xs)) Pv (h0 H1 e) (fun i σ' H' hi p => hl i σ' H' hi p) (fun i x σ' H' H2 hi p y => by
    obtain ⟨T, y1, y2, rfl, hT, rfl, hy1, hy⟩ := y
    cases hy1
    exact ⟨T, _, rfl, st_of upd_same, rfl, _, _, rfl, _, _, rfl, rfl, hs i y2 σ' H' _ hy p (Ex.new hT)⟩) hd⟩
/-- a, b = (x, y), by a tuple -/
theorem s_unpack2 {i j : Nat} {x y : V} (h : EvU te σ H [x, y]) (k : ∀ H1, Ex H H1 → D.nx ((σ.set i (some x)).set j (some y)) H1) : tAsg te (gTup K 2 (gCons (gName i) (gCons (gName j) gNil))) D σ H :=
  h H (Ex.refl H) _ fun p H1 hp e h1 => ⟨p, _, rfl, st_of h1, rfl, _, _, rfl, _, _, rfl, rfl, k H1 e⟩
theorem s_unpackT {i j : Nat} {a : Addr} {x y : V} (h : Ev te σ H (.ref a)) (ha : SqT K H a [x, y]) (k : ∀ H1, Ex H H1 → D.nx ((σ.set i (some x)).set j (some y)) H1) : tAsg te (gTup K 2 (gCons (gName i) (gCons (gName j) gNil))) D σ H :=
  h H (Ex.refl H) _ fun H1 e => ⟨a, _, rfl, ex_t e ha, rfl, _, _, rfl, _, _, rfl, rfl, k H1 e⟩
theorem s_par {i j : Nat} {ta : TA} {x y : V} (h : EvA ta σ H [x, y]) (k : ∀ H1, Ex H H1 → D.nx ((σ.set i (some x)).set j (some y)) H1) : tPar i j ta D σ H := h H (Ex.refl H) _ fun H1 e => ⟨x, y, rfl, k H1 e⟩
/-- a, b = x, [..] -/
theorem s_parVL {i j : Nat} {x : V} {xs : List V} (h : Ev ta σ H x) (h2 : EvL tb σ H xs) (k : ∀ p H1, H p = none → Ex H H1 → H1 p = some (.lst xs) → D.nx ((σ.set i (some x)).set j (some (.ref p))) H1) : tPar i j (tCons ta (tCons tb tNil)) D σ H :=
  h H (Ex.refl H) _ fun H1 e => h2 H1 e _ fun p H2 hp e2 hh => ⟨x, .ref p, rfl, k p H2 (fresh_back e hp) (e.trans e2) hh⟩
theorem s_parLV {i j : Nat} {x : V} {xs : List V} (h : EvL ta σ H xs) (h2 : ∀ p H1, H p = none → Ex H H1 → H1 p = some (.lst xs) → Ev tb σ H1 x) (k : ∀ p H1, H p = none → Ex H H1 → H1 p = some (.lst xs) → D.nx ((σ.set i (some (.ref p))).set j (some x)) H1) : tPar i j (tCons ta (tCons tb tNil)) D σ H :=
  h H (Ex.refl H) _ fun p H1 hp e h1 => h2 p H1 hp e h1 H1 (Ex.refl _) _ fun H2 e2 => ⟨.ref p, x, rfl, k p H2 hp (e.trans e2) (e2 _ _ h1)⟩
theorem s_parLL {i j : Nat} {xs ys : List V} (h : EvL ta σ H xs) (h2 : EvL tb σ H ys) (k : ∀ p p2 H1, H p = none → H p2 = none → p ≠ p2 → Ex H H1 → H1 p = some (.lst xs) → H1 p2 = some (.lst ys) → D.nx ((σ.set i (some (.ref p))).set j (some (.ref p2))) H1) : tPar i j (tCons ta (tCons tb tNil)) D σ H :=
  h H (Ex.refl H) _ fun p H1 hp e h1 => h2 H1 e _ fun p2 H2 hp2 e2 hh => ⟨.ref p, .ref p2, rfl, k p p2 H2 hp (fresh_back e hp2) (ne_of_none h1 hp2) (e.trans e2) (e2 _ _ h1) hh⟩
theorem q_unpack2 {i j : Nat} {x y : V} (h : EvU te σ H [x, y]) (k : ∀ H1, Ex H H1 → tz D ((σ.set i (some x)).set j (some y)) H1) : tSeq (tAsg te (gTup K 2 (gCons (gName i) (gCons (gName j) gNil)))) tz D σ H := s_unpack2 (D := { D with nx := tz D }) h k
theorem q_unpackT {i j : Nat} {a : Addr} {x y : V} (h : Ev te σ H (.ref a)) (ha : SqT K H a [x, y]) (k : ∀ H1, Ex H H1 → tz D ((σ.set i (some x)).set j (some y)) H1) : tSeq (tAsg te (gTup K 2 (gCons (gName i) (gCons (gName j) gNil)))) tz D σ H := s_unpackT (D := { D with nx := tz D }) h ha k
theorem q_par {i j : Nat} {ta : TA} {x y : V} (h : EvA ta σ H [x, y]) (k : ∀ H1, Ex H H1 → tz D ((σ.set i (some x)).set j (some y)) H1) : tSeq (tPar i j ta) tz D σ H := s_par (D := { D with nx := tz D }) h k
theorem q_parVL {i j : Nat} {x : V} {xs : List V} (h : Ev ta σ H x) (h2 : EvL tb σ H xs) (k : ∀ p H1, H p = none → Ex H H1 → H1 p = some (.lst xs) → tz D ((σ.set i (some x)).set j (some (.ref p))) H1) : tSeq (tPar i j (tCons ta (tCons tb tNil))) tz D σ H := s_parVL (D := { D with nx := tz D }) h h2 k
theorem q_parLV {i j : Nat} {x : V} {xs : List V} (h : EvL ta σ H xs) (h2 : ∀ p H1, H p = none → Ex H H1 → H1 p = some (.lst xs) → Ev tb σ H1 x) (k : ∀ p H1, H p = none → Ex H H1 → H1 p = some (.lst xs) → tz D ((σ.set i (some (.ref p))).set j (some x)) H1) : tSeq (tPar i j (tCons ta (tCons tb tNil))) tz D σ H := s_parLV (D := { D with nx := tz D }) h h2 k
theorem q_parLL {i j : Nat} {xs ys : List V} (h : EvL ta σ H xs) (h2 : EvL tb σ H ys) (k : ∀ p p2 H1, H p = none → H p2 = none → p ≠ p2 → Ex H H1 → H1 p = some (.lst xs) → H1 p2 = some (.lst ys) → tz D ((σ.set i (some (.ref p))).set j (some (.ref p2))) H1) : tSeq (tPar i j (tCons ta (tCons tb tNil))) tz D σ H := s_parLL (D := { D with nx := tz D }) h h2 k
theorem q_forE {a : Addr} {xs : List V} {i1 i2 : Nat} (h : Ev tl σ H (.ref a)) (hx : SqL K H a xs) (Pv : Nat → L2.St → Hp → Prop) (h0 : ∀ H1, Ex H H1 → Pv 0 σ H1) (hl : ∀ i σ' H', i ≤ xs.length → Pv i σ' H' → SqL K H' a xs)
    (hs : ∀ i x σ' H' H1, xs[i]? = some x → Pv i σ' H' → Ex H' H1 → tu { D with nx := Pv (i + 1), ct := Pv (i + 1), bk := tz D } ((σ'.set i1 (some (.int (i : Nat)))).set i2 (some x)) H1) (hd : ∀ σ' H', Pv xs.length σ' H' → tz D σ' H') :
    tSeq (tFor (iEnum K (tCons tl tNil)) (gTup K 2 (gCons (gName i1) (gCons (gName i2) gNil))) tu) tz D σ H := s_forE (D := { D with nx := tz D }) h hx Pv h0 hl hs hd
end
end TL
namespace TL
open PySem PySem.Spec PyProof.Rows L2 Evl
/-! ### slices -/
theorem cut_hi (xs : List V) {i : Int} (h : 0 ≤ i) : cutV xs none (some i) = xs.take i.toNat := by
  unfold cutV
  rw [HT.sIx_none]
  have e : HT.sIx xs.length xs.length (some i) = min i.toNat xs.length := by
    have := HT.sIx_nat xs.length xs.length i.toNat
    rw [show ((i.toNat : Nat) : Int) = i by omega] at this
    exact this
  rw [e, List.drop_zero, Nat.sub_zero, List.take_eq_take_iff]
  omega
theorem cut_lo (xs : List V) {i : Int} (h : 0 ≤ i) : cutV xs (some i) none = xs.drop i.toNat := by
  unfold cutV
  rw [HT.sIx_none]
  have e : HT.sIx xs.length 0 (some i) = min i.toNat xs.length := by
    have := HT.sIx_nat xs.length 0 i.toNat
    rw [show ((i.toNat : Nat) : Int) = i by omega] at this
    exact this
  rw [e]
  by_cases c : i.toNat ≤ xs.length
  · rw [Nat.min_eq_left c, List.take_of_length_le (by rw [List.length_drop]; omega)]
  · rw [Nat.min_eq_right (by omega), List.drop_of_length_le (by omega : xs.length ≤ i.toNat), List.drop_of_length_le (Nat.le_refl _), List.take_nil]
section
variable {K : PySem.W.Frag} {σ : L2.St} {H H' : Hp} {ta tb tc te tx tl : TE} {t u : TT} {x y z v : V} {D : Ends} {tu tw tz : TS} {g : TG} {wi : TI} {vs : List Nat}
theorem el_hi {a : Addr} {xs : List V} {i : Int} (h : Ev te σ H (.ref a)) (hs : SqL K H a xs) (h2 : Ev tb σ H (.int i)) (h0 : 0 ≤ i) : EvL (tSl (rSlL K) te tNoPart (tPart tb)) σ H (xs.take i.toNat) := by
  rw [← cut_hi xs h0]
  exact el_sl h eo_none (eo_some h2) hs
theorem el_lo {a : Addr} {xs : List V} {i : Int} (h : Ev te σ H (.ref a)) (hs : SqL K H a xs) (h2 : Ev tb σ H (.int i)) (h0 : 0 ≤ i) : EvL (tSl (rSlL K) te (tPart tb) tNoPart) σ H (xs.drop i.toNat) := by
  rw [← cut_lo xs h0]
  exact el_sl h (eo_some h2) eo_none hs
/-- a slice of a new list -/
theorem el_slN {tl th : TO} {xs : List V} {lo hi : Option Int} (h : EvL te σ H xs) (h1 : EvO tl σ H lo) (h2 : EvO th σ H hi) : EvL (tSl (rSlL K) te tl th) σ H (cutV xs lo hi) := fun H1 e _ q =>
  h H1 e _ fun a H2 ha e2 hs => h1 H2 (e.trans e2) _ fun H3 e3 => h2 H3 ((e.trans e2).trans e3) _ fun H4 e4 =>
    ⟨a, xs, rfl, sq_of (e4 _ _ (e3 _ _ hs)), fun p hp => q p _ (fresh_back ((e2.trans e3).trans e4) hp) (((e2.trans e3).trans e4).trans (Ex.new hp)) upd_same⟩
/-- x = f(..), by the promise itself -/
theorem s_asgC {i : Nat} {sp : Sp} {dvs ws : List V} {E : XK} {ta : TA} (h : EvA ta σ H ws) (k : ∀ H1, Ex H H1 → sp (ws ++ dvs) H1 (fun v H2 => D.nx (σ.set i (some v)) H2) E) : tAsg (tCall sp dvs E ta) (gName i) D σ H := h H (Ex.refl H) _ fun H1 e => k H1 e
theorem q_asgC {i : Nat} {sp : Sp} {dvs ws : List V} {E : XK} {ta : TA} (h : EvA ta σ H ws) (k : ∀ H1, Ex H H1 → sp (ws ++ dvs) H1 (fun v H2 => tz D (σ.set i (some v)) H2) E) : tSeq (tAsg (tCall sp dvs E ta) (gName i)) tz D σ H := s_asgC (D := { D with nx := tz D }) h k
/-- f of a new list -/
theorem ev_callL {sp : Sp} {xs : List V} {E : XK} (h : EvL ta σ H xs) (hs : ∀ p H1, Ex H H1 → H1 p = some (.lst xs) → SpV sp [.ref p] H1 z) : Ev (tCall sp [] E (tCons ta tNil)) σ H z := fun H1 e Q q =>
  h H1 e _ fun p H2 hp e2 h2 => hs p H2 (e.trans e2) h2 H2 (Ex.refl _) Q (fun H3 e3 => q H3 (e2.trans e3)) E
end
end TL
namespace TA
open PySem PySem.Spec PyProof.Rows L2 Evl TL
/-- where the classes stand -/
structure Ad where
  StepError : Addr
  BadRow : Addr
  BadTurn : Addr
  BadCounts : Addr
  BadNumber : Addr
  BadForest : Addr
  BadPlace : Addr
  BadStep : Addr
  NotAbove : Addr
  TooMany : Addr
  Last : Addr
  Answer : Addr
  Round : Addr
  Stays : Addr
  Falls : Addr
  Ring : Addr
/-- a count as a value -/
abbrev vn (n : Nat) : V := .int (n : Int)
theorem ty_list {K : PySem.W.Frag} {H : Hp} {a : Addr} {xs : List V} (h : SqL K H a xs) : TyX K H (.ref a) (.type "list") := by
  rcases h with (h | ⟨o, h⟩) | ⟨o, its, n, h1, h2, _⟩
  · exact .base (.lst h)
  · exact .base (.frz h)
  · exact .kList h1 h2
theorem sum_vn (cs : List Nat) : (cs.map fun n : Nat => (n : Int)).sum = (cs.sum : Int) := by
  induction cs with
  | nil => rfl
  | cons c cs ih => rw [List.map_cons, List.sum_cons, ih, List.sum_cons]; omega
theorem map_vn (cs : List Nat) : cs.map vn = (cs.map fun n : Nat => (n : Int)).map V.int := by rw [List.map_map]; rfl
theorem rc_sumN {K : PySem.W.Frag} {H : Hp} {p : Addr} {cs : List Nat} (h : SqL K H p (cs.map vn)) : RC (rSum K) [.ref p] H (.int (cs.sum : Int)) := by
  rw [map_vn] at h
  rw [← sum_vn]
  exact rc_sum h
theorem rc_isiL {K : PySem.W.Frag} {H : Hp} {a : Addr} {xs : List V} (h : SqL K H a xs) : RC (rIsi K) [.ref a, .ty "list"] H (.bl true) := rc_isi (.ty "list") (fun H1 e => ty_list (ex_l e h)) (kit_ty (by decide +kernel))
theorem rc_isiI {K : PySem.W.Frag} {H : Hp} {i : Int} : RC (rIsi K) [.int i, .ty "int"] H (.bl true) := rc_isi (.ty "int") (fun H1 e => .base (.int i)) (kit_ty (by decide +kernel))
theorem rc_isiB {K : PySem.W.Frag} {H : Hp} {i : Int} : RC (rIsi K) [.int i, .ty "bool"] H (.bl false) := rc_isi (.ty "bool") (fun H1 e => .base (.int i)) (kit_ty (by decide +kernel))
theorem rc_allM {α : Type} {K : PySem.W.Frag} {H : Hp} {p : Addr} {xs : List α} {f : α → Bool} (h : SqL K H p (xs.map fun x => V.bl (f x))) : RC (rAll K) [.ref p] H (.bl (xs.all f)) := by
  have e : xs.map (fun x => V.bl (f x)) = (xs.map f).map V.bl := by rw [List.map_map]; rfl
  rw [e] at h
  have q := rc_all h
  rw [List.all_map] at q
  exact q
theorem rc_anyM {α : Type} {K : PySem.W.Frag} {H : Hp} {p : Addr} {xs : List α} {f : α → Bool} (h : SqL K H p (xs.map fun x => V.bl (f x))) : RC (rAny K) [.ref p] H (.bl (xs.any f)) := by
  have e : xs.map (fun x => V.bl (f x)) = (xs.map f).map V.bl := by rw [List.map_map]; rfl
  rw [e] at h
  have q := rc_any h
  rw [List.any_map] at q
  exact q
theorem rc_sumX {α : Type} {K : PySem.W.Frag} {H : Hp} {p : Addr} {xs : List α} {f : Nat → α → Int} (h : SqL K H p (xs.mapIdx fun i x => V.int (f i x))) : RC (rSum K) [.ref p] H (.int (xs.mapIdx f).sum) := by
  have e : xs.mapIdx (fun i x => V.int (f i x)) = (xs.mapIdx f).map V.int := by
    apply List.ext_getElem
    · simp
    · intro i h1 h2
      simp
  rw [e] at h
  exact rc_sum h
def sp_is_whole (K : PySem.W.Frag) : Sp := fun vs H Q _ => ∃ i : Int, vs = [.int i] ∧ RetV (.bl true) H Q
theorem v_is_whole {K : PySem.W.Frag} {H : Hp} {i : Int} : SpV (sp_is_whole K) [.int i] H (.bl true) := fun H1 e Q q E => ⟨i, rfl, q⟩
def sp_is_between (K : PySem.W.Frag) : Sp := fun vs H Q _ => ∃ i lo hi : Int, vs = [.int i, .int lo, .int hi] ∧ RetV (.bl (decide (lo ≤ i) && decide (i ≤ hi))) H Q
theorem v_is_between {K : PySem.W.Frag} {H : Hp} {i lo hi : Int} : SpV (sp_is_between K) [.int i, .int lo, .int hi] H (.bl (decide (lo ≤ i) && decide (i ≤ hi))) := fun H1 e Q q E => ⟨i, lo, hi, rfl, q⟩
def sp_check_counts (K : PySem.W.Frag) : Sp := fun vs H Q _ => ∃ (a : Addr) (cs : List Nat), vs = [.ref a] ∧ SqL K H a (cs.map vn) ∧ cs.length = 6 ∧ 1 ≤ cs.sum ∧ cs.sum ≤ 60 ∧ RetV .non H Q
theorem v_check_counts {K : PySem.W.Frag} {H : Hp} {a : Addr} {cs : List Nat} (h : SqL K H a (cs.map vn)) (h6 : cs.length = 6) (h1 : 1 ≤ cs.sum) (h60 : cs.sum ≤ 60) : SpV (sp_check_counts K) [.ref a] H .non := fun H1 e Q q E => ⟨a, cs, rfl, ex_l e h, h6, h1, h60, q⟩
def sp_height_of (K : PySem.W.Frag) : Sp := fun vs H Q _ => ∃ (a : Addr) (cs : List Nat), vs = [.ref a] ∧ SqL K H a (cs.map vn) ∧ cs.length ≤ 6 ∧ RetV (.int (ht cs)) H Q
theorem v_height_of {K : PySem.W.Frag} {H : Hp} {a : Addr} {cs : List Nat} (h : SqL K H a (cs.map vn)) (h6 : cs.length ≤ 6) : SpV (sp_height_of K) [.ref a] H (.int (ht cs)) := fun H1 e Q q E => ⟨a, cs, rfl, ex_l e h, h6, q⟩
def sp_turns_of (K : PySem.W.Frag) : Sp := fun vs H Q _ => ∃ (a : Addr) (cs : List Nat), vs = [.ref a] ∧ SqL K H a (cs.map vn) ∧ cs.sum ≤ 1000 ∧ RetV (.int (mu 0 cs : Int)) H Q
theorem v_turns_of {K : PySem.W.Frag} {H : Hp} {a : Addr} {cs : List Nat} (h : SqL K H a (cs.map vn)) (h6 : cs.sum ≤ 1000) : SpV (sp_turns_of K) [.ref a] H (.int (mu 0 cs : Int)) := fun H1 e Q q E => ⟨a, cs, rfl, ex_l e h, h6, q⟩
def sp_how_many (K : PySem.W.Frag) : Sp := fun vs H Q _ => ∃ (a : Addr) (cs : List Nat), vs = [.ref a] ∧ SqL K H a (cs.map vn) ∧ cs.length = 6 ∧ 1 ≤ cs.sum ∧ cs.sum ≤ 60 ∧ RetV (.int (howMany cs)) H Q
theorem v_how_many {K : PySem.W.Frag} {H : Hp} {a : Addr} {cs : List Nat} (h : SqL K H a (cs.map vn)) (h6 : cs.length = 6) (h1 : 1 ≤ cs.sum) (h60 : cs.sum ≤ 60) : SpV (sp_how_many K) [.ref a] H (.int (howMany cs)) := fun H1 e Q q E => ⟨a, cs, rfl, ex_l e h, h6, h1, h60, q⟩
theorem htF_idx : ∀ (cs : List Nat) (k : Int), (cs.mapIdx fun (i : Nat) (c : Nat) => (k + (i : Int)) * (c : Int)).sum = htF k cs
  | [], k => rfl
  | c :: cs, k => by
    rw [List.mapIdx_cons, List.sum_cons]
    have ih := htF_idx cs (k + 1)
    have e : (fun (i : Nat) (c : Nat) => (k + ((i + 1 : Nat) : Int)) * (c : Int)) = fun (i : Nat) (c : Nat) => (k + 1 + (i : Int)) * (c : Int) := by
      funext i c
      congr 1
      omega
    rw [e, ih]
    show (k + ((0 : Nat) : Int)) * (c : Int) + _ = k * (c : Int) + _
    rw [show k + ((0 : Nat) : Int) = k by omega]
theorem mu_snoc : ∀ (xs : List Nat) (m c : Nat), mu m (xs ++ [c]) = mu m xs * ch (m + xs.sum + c) c
  | [], m, c => by show ch (m + c) c * 1 = 1 * ch (m + 0 + c) c; simp
  | x :: xs, m, c => by
    show ch (m + x) x * mu (m + x) (xs ++ [c]) = ch (m + x) x * mu (m + x) xs * ch (m + (x :: xs).sum + c) c
    rw [mu_snoc xs (m + x) c, Nat.mul_assoc, List.sum_cons, Nat.add_assoc m x]
theorem take_snoc {α : Type} {l : List α} {i : Nat} {x : α} (h : l[i]? = some x) : l.take (i + 1) = l.take i ++ [x] := by
  rw [List.take_add_one, h]
  rfl
theorem sum_take_le (cs : List Nat) (i : Nat) : (cs.take i).sum ≤ cs.sum := by
  have h := congrArg List.sum (List.take_append_drop i cs)
  rw [List.sum_append] at h
  omega
/-- one step of the orders' loop -/
theorem mu_step (F m j : Nat) : ((F * ch (m + j) j : Nat) : Int) * ((m + j + 1 : Nat) : Int) / ((j : Int) + 1) = ((F * ch (m + (j + 1)) (j + 1) : Nat) : Int) := by
  have h := ch_succ (m + j) j
  have e : ((F * ch (m + j) j : Nat) : Int) * ((m + j + 1 : Nat) : Int) = ((j : Int) + 1) * ((F * ch (m + (j + 1)) (j + 1) : Nat) : Int) := by
    have : F * ch (m + j) j * (m + j + 1) = (j + 1) * (F * ch (m + (j + 1)) (j + 1)) := by
      rw [Nat.mul_left_comm, show m + (j + 1) = m + j + 1 from rfl, h, Nat.mul_assoc, Nat.mul_comm (ch (m + j) j)]
    exact_mod_cast this
  rw [e, Int.mul_ediv_cancel_left _ (by omega)]
theorem mem_le_sum : ∀ {cs : List Nat} {c : Nat}, c ∈ cs → c ≤ cs.sum
  | x :: xs, c, h => by
    rw [List.sum_cons]
    rcases List.mem_cons.mp h with h | h
    · omega
    · have := mem_le_sum h
      omega
theorem ht_bound {cs : List Nat} (h6 : cs.length = 6) (h60 : cs.sum ≤ 60) : -240 ≤ ht cs ∧ ht cs ≤ 60 := by
  obtain ⟨a, b, c, d, e, f, rfl⟩ := six h6
  rw [ht6]
  simp at h60
  omega
/-! a law's own draws -/
def cellV (ns : List Int) (k : Int) : Int := ns.getD k.toNat 0
def sp_l_cell_at (K : PySem.W.Frag) : Sp := fun vs H Q _ => ∃ (a : Addr) (ns : List Int) (k : Int), vs = [.ref a, .int k] ∧ SqL K H a (ns.map V.int) ∧ 0 ≤ k ∧ RetV (.int (cellV ns k)) H Q
theorem v_l_cell_at {K : PySem.W.Frag} {H : Hp} {a : Addr} {ns : List Int} {k : Int} (h : SqL K H a (ns.map V.int)) (hk : 0 ≤ k) : SpV (sp_l_cell_at K) [.ref a, .int k] H (.int (cellV ns k)) := fun H1 e Q q E => ⟨a, ns, k, rfl, ex_l e h, hk, q⟩
def primesL : List Int := [1000003, 1000033, 1000037, 1000039, 1000081, 1000099, 1000117, 1000121, 1000133, 1000151, 1000159, 1000171, 1000183, 1000187, 1000193, 1000199]
def drawV (c k most : Int) : Int := (c * 48271 + k * 69621) % (primesL.getD (k % 16).toNat 0) % most
theorem primes_pos (j : Int) (h0 : 0 ≤ j) (h : j < 16) : 0 < primesL.getD j.toNat 0 := by
  have h' : j.toNat < 16 := by omega
  generalize j.toNat = n at h'
  revert n
  decide
theorem drawV_bound {c k most : Int} (hm : 0 < most) : 0 ≤ drawV c k most ∧ drawV c k most < most := ⟨Int.emod_nonneg _ (by omega), Int.emod_lt_of_pos _ hm⟩
def sp_l_draw (K : PySem.W.Frag) : Sp := fun vs H Q _ => ∃ (c k most : Int), vs = [.int c, .int k, .int most] ∧ 0 ≤ k ∧ k ≤ 1000000 ∧ 0 < most ∧ RetV (.int (drawV c k most)) H Q
theorem v_l_draw {K : PySem.W.Frag} {H : Hp} {c k most : Int} (hk : 0 ≤ k) (hk2 : k ≤ 1000000) (hm : 0 < most) : SpV (sp_l_draw K) [.int c, .int k, .int most] H (.int (drawV c k most)) := fun H1 e Q q E => ⟨c, k, most, rfl, hk, hk2, hm, q⟩
def dsL : List Int := [1, 7, 49, 343, 2401]
def dV (k : Int) : Int := dsL.getD (k % 5).toNat 0
theorem dV_bound (k : Int) : 1 ≤ dV k ∧ dV k ≤ 2401 := by
  have h' : (k % 5).toNat < 5 := by omega
  unfold dV
  generalize (k % 5).toNat = n at h'
  revert n
  decide
def smallV (c : Int) : Int := if c < -1000000000000000000 then c % 1000811284336359577647248616306026718125307353262274591 else c
def numV (c k lim : Int) : Int := if 1000000000000000000 ≤ c then (c - 1000000000000000000) % (dV k * lim) / dV k else drawV ((smallV c + 977 * k) * (smallV c + 31 * k + 5)) (k % 9 + 1) 999983 % lim
theorem numV_bound {c k lim : Int} (hl : 0 < lim) : 0 ≤ numV c k lim ∧ numV c k lim < lim := by
  have hd := dV_bound k
  unfold numV
  by_cases h : 1000000000000000000 ≤ c
  · rw [if_pos h]
    have hp : 0 < dV k * lim := Int.mul_pos (by omega) hl
    have h0 := Int.emod_nonneg (c - 1000000000000000000) (Int.ne_of_gt hp)
    have h1 := Int.emod_lt_of_pos (c - 1000000000000000000) hp
    refine ⟨Int.ediv_nonneg h0 (by omega), ?_⟩
    refine Int.ediv_lt_of_lt_mul (by omega) ?_
    rw [Int.mul_comm lim]
    exact h1
  · rw [if_neg h]
    exact ⟨Int.emod_nonneg _ (by omega), Int.emod_lt_of_pos _ hl⟩
def sp_l_number (K : PySem.W.Frag) : Sp := fun vs H Q _ => ∃ (c k lim : Int), vs = [.int c, .int k, .int lim] ∧ 0 ≤ k ∧ k ≤ 1000 ∧ 0 < lim ∧ lim ≤ 1000000 ∧ RetV (.int (numV c k lim)) H Q
theorem v_l_number {K : PySem.W.Frag} {H : Hp} {c k lim : Int} (hk : 0 ≤ k) (hk2 : k ≤ 1000) (hm : 0 < lim) (hm2 : lim ≤ 1000000) : SpV (sp_l_number K) [.int c, .int k, .int lim] H (.int (numV c k lim)) := fun H1 e Q q E => ⟨c, k, lim, rfl, hk, hk2, hm, hm2, q⟩
theorem atI_ints {ns : List Int} {i : Int} (h0 : 0 ≤ i) (h : i < ns.length) : atI (ns.map V.int) i = some (.int (ns.getD i.toNat 0)) := by
  unfold atI ixN
  rw [if_pos h0, List.length_map, if_pos h]
  show (ns.map V.int)[i.toNat]? = _
  have : i.toNat < ns.length := by omega
  rw [List.getElem?_map, List.getElem?_eq_getElem this, List.getD_eq_getElem?_getD, List.getElem?_eq_getElem this]
  rfl
theorem ev_ixU {K : PySem.W.Frag} {σ : L2.St} {H : Hp} {ta tb : TE} {xs : List V} {i : Int} {v : V} (ha : EvU ta σ H xs) (hb : Ev tb σ H (.int i)) (h : atI xs i = some v) : Ev (tOp (rIxT K) ta tb) σ H v := fun H1 e Q q =>
  ha H1 e _ fun p H2 hp e2 h2 => hb H2 (e.trans e2) _ fun H3 e3 => ⟨p, xs, i, v, rfl, rfl, st_of (e3 _ _ h2), h, q H3 (e2.trans e3)⟩
theorem ev_ixUI {K : PySem.W.Frag} {σ : L2.St} {H : Hp} {ta : TA} {tb : TE} {i : Int} (ns : List Int) (ha : EvA ta σ H (ns.map V.int)) (hl : ns.length ≤ 1000) (hb : Ev tb σ H (.int i)) (h0 : 0 ≤ i) (h : i < ns.length) : Ev (tOp (rIxT K) (tTup ta) tb) σ H (.int (ns.getD i.toNat 0)) :=
  ev_ixU (eu_tup ha (by rw [List.length_map]; omega)) hb (atI_ints h0 h)
theorem ev_ixLI {K : PySem.W.Frag} {σ : L2.St} {H : Hp} {ta tb : TE} {i : Int} {a : Addr} {ns : List Int} (ha : Ev ta σ H (.ref a)) (hs : SqL K H a (ns.map V.int)) (hb : Ev tb σ H (.int i)) (h0 : 0 ≤ i) (h : i < ns.length) : Ev (tOp (rIxL K) ta tb) σ H (.int (ns.getD i.toNat 0)) :=
  ev_op ha hb (rv_ixL hs (atI_ints h0 h))
theorem ev_ixTI {K : PySem.W.Frag} {σ : L2.St} {H : Hp} {ta tb : TE} {i : Int} {a : Addr} {ns : List Int} (ha : Ev ta σ H (.ref a)) (hs : SqT K H a (ns.map V.int)) (hb : Ev tb σ H (.int i)) (h0 : 0 ≤ i) (h : i < ns.length) : Ev (tOp (rIxT K) ta tb) σ H (.int (ns.getD i.toNat 0)) :=
  ev_op ha hb (rv_ixT hs (atI_ints h0 h))
theorem pow18 : (10 : Int) ^ ((18 : Int).toNat) = 1000000000000000000 := by decide
theorem smallV_wide {c k : Int} (hc : c < 1000000000000000000) (h0 : 0 ≤ k) (hk : k ≤ 1000) : CMulW (smallV c + 977 * k) (smallV c + 31 * k + 5) := by
  have hb : -1000000000000000000 ≤ smallV c ∧ smallV c < 1000811284336359577647248616306026718125307353262274591 := by
    unfold smallV
    by_cases h : c < -1000000000000000000
    · rw [if_pos h]
      omega
    · rw [if_neg h]
      omega
  refine wide_mul (a := 200) (b := 200) ?_ ?_ (by decide) (by decide) (by decide)
  · rw [show (2 : Nat) ^ 200 = 1606938044258990275541962092341162602522202993782792835301376 by decide]
    omega
  · rw [show (2 : Nat) ^ 200 = 1606938044258990275541962092341162602522202993782792835301376 by decide]
    omega
theorem tl_mulW {X : Cx} : OpR X (binaryOp .Mult) (rI CMulW fun i j => .int (i * j)) := op_mulW
def sp_l_orders (K : PySem.W.Frag) : Sp := sp_turns_of K
theorem v_l_orders {K : PySem.W.Frag} {H : Hp} {a : Addr} {cs : List Nat} (h : SqL K H a (cs.map vn)) (h6 : cs.sum ≤ 1000) : SpV (sp_l_orders K) [.ref a] H (.int (mu 0 cs : Int)) := v_turns_of h h6
def sp_k07_due (K : PySem.W.Frag) : Sp := sp_how_many K
theorem v_k07_due {K : PySem.W.Frag} {H : Hp} {a : Addr} {cs : List Nat} (h : SqL K H a (cs.map vn)) (h6 : cs.length = 6) (h1 : 1 ≤ cs.sum) (h60 : cs.sum ≤ 60) : SpV (sp_k07_due K) [.ref a] H (.int (howMany cs)) := v_how_many h h6 h1 h60
theorem mu_step1 (F m j : Nat) : ((F * ch (m + j) j : Nat) : Int) * ((m + j + 1 : Nat) : Int) / (1 + (j : Int)) = ((F * ch (m + (j + 1)) (j + 1) : Nat) : Int) := by
  rw [Int.add_comm, mu_step]
theorem mu_eq (cs : List Nat) : mu 0 cs = fact cs.sum / pf cs := by
  rw [← mu_pf cs, Nat.mul_div_cancel _ (pf_pos cs)]
/-- what is told of counts written out -/
theorem hm_known (cs : List Nat) (z : Int) (h : (if 0 < ht cs then ht cs else 0) * ((fact cs.sum / pf cs : Nat) : Int) / (cs.sum : Int) = z) : howMany cs = z := by
  unfold howMany
  rw [mu_eq, h]
def sp_law (K : PySem.W.Frag) : Sp := fun vs H Q _ => ∃ (a : Addr) (ns : List Int), vs = [.ref a] ∧ SqL K H a (ns.map V.int) ∧ ns.length ≤ 63 ∧ ∀ H', Q (.bl true) H'
/-- the first five counts as they are drawn -/
def k07lim : List Nat := [4, 5, 6, 8, 12]
structure K07 (cs : List Nat) : Prop where
  len : cs.length = 6
  low : ∀ j, j < 5 → cs.getD j 0 < k07lim.getD j 0
  last : cs.getD 5 0 = 0
theorem K07.sum {cs : List Nat} (h : K07 cs) : cs.sum ≤ 30 := by
  obtain ⟨a, b, c, d, e, f, rfl⟩ := six h.len
  have h0 : a < 4 := h.low 0 (by decide)
  have h1 : b < 5 := h.low 1 (by decide)
  have h2 : c < 6 := h.low 2 (by decide)
  have h3 : d < 8 := h.low 3 (by decide)
  have h4 : e < 12 := h.low 4 (by decide)
  have h5 : f = 0 := h.last
  simp
  omega
theorem K07.set {cs : List Nat} (h : K07 cs) {j x : Nat} (hj : j < 5) (hx : x < k07lim.getD j 0) : K07 (cs.set j x) := by
  obtain ⟨a, b, c, d, e, f, rfl⟩ := six h.len
  refine ⟨by simp, fun i hi => ?_, ?_⟩
  · by_cases hij : i = j
    · subst hij
      have : i < 6 := by omega
      rw [List.getD_eq_getElem?_getD, List.getElem?_set_self (by simpa using this)]
      exact hx
    · rw [List.getD_eq_getElem?_getD, List.getElem?_set_ne (Ne.symm hij), ← List.getD_eq_getElem?_getD]
      exact h.low i hi
  · rw [List.getD_eq_getElem?_getD, List.getElem?_set_ne (by omega), ← List.getD_eq_getElem?_getD]
    exact h.last
theorem set_vn {cs : List Nat} {j : Nat} {z : Int} (h : 0 ≤ z) : (cs.map vn).set j (.int z) = (cs.set j z.toNat).map vn := by
  rw [List.map_set]
  congr 1
  show V.int z = V.int ((z.toNat : Nat) : Int)
  congr 1
  omega
theorem set5_sum {cs : List Nat} (h : K07 cs) (x : Nat) : (cs.set 5 x).sum = cs.sum + x ∧ (cs.set 5 x).length = 6 := by
  obtain ⟨a, b, c, d, e, f, rfl⟩ := six h.len
  have h5 : f = 0 := h.last
  simp
  omega
theorem getD_vn {cs : List Nat} {j : Nat} (h : j < cs.length) : (cs.map vn)[j]? = some (vn (cs.getD j 0)) := by
  rw [List.getElem?_map, List.getElem?_eq_getElem h, List.getD_eq_getElem?_getD, List.getElem?_eq_getElem h]
  rfl
theorem atI_vn {cs : List Nat} {i : Int} (h0 : 0 ≤ i) (h : i < cs.length) : atI (cs.map vn) i = some (vn (cs.getD i.toNat 0)) := by
  unfold atI ixN
  rw [if_pos h0, List.length_map, if_pos h]
  exact getD_vn (by omega)
/-- counts with one fewer at a place, as the list is put together -/
theorem fewer_eq {cs : List Nat} {j : Nat} (hj : j < cs.length) (h : 0 < cs.getD j 0) : (cs.map vn).take j ++ [V.int ((cs.getD j 0 : Int) - 1)] ++ (cs.map vn).drop (j + 1) = (less cs j).map vn := by
  unfold less
  rw [List.map_set, List.set_eq_take_append_cons_drop, if_pos (by rw [List.length_map]; exact hj), List.append_assoc]
  congr 1
  show V.int _ :: _ = V.int _ :: _
  congr 2
  omega
def lastS (cs : List Nat) : Nat → Int
  | 0 => 0
  | j + 1 => lastS cs j + lastW cs j
theorem lastS_six (cs : List Nat) : lastS cs 6 = lastW cs 0 + lastW cs 1 + lastW cs 2 + lastW cs 3 + lastW cs 4 + lastW cs 5 := by
  simp [lastS]
theorem htF_idxC (cs : List Nat) (f : Nat → Nat → Int) (h : ∀ i c, f i c = (-4 + (i : Int)) * (c : Int)) : (cs.mapIdx f).sum = ht cs := by
  show _ = htF (-4) cs
  rw [← htF_idx cs (-4)]
  congr 1
  exact List.mapIdx_eq_mapIdx_iff.mpr (fun i hi => h i _)
theorem idx_nonneg (cs : List Nat) (f : Nat → Nat → Int) (h : ∀ i c, i < 5 → 0 ≤ f i c) (hl : cs.length ≤ 5) : 0 ≤ (cs.mapIdx f).sum := by
  have key : ∀ l : List Int, (∀ x ∈ l, 0 ≤ x) → 0 ≤ l.sum := by
    intro l
    induction l with
    | nil => intro _; exact Int.le_refl _
    | cons x l ih =>
      intro hx
      rw [List.sum_cons]
      have h1 := hx x List.mem_cons_self
      have h2 := ih (fun y hy => hx y (List.mem_cons_of_mem _ hy))
      omega
  apply key
  intro x hx
  rw [List.mem_mapIdx] at hx
  obtain ⟨i, hi, rfl⟩ := hx
  exact h i _ (by omega)
theorem ev_hm {K : PySem.W.Frag} {σ : L2.St} {H : Hp} {ta : TE} {E : XK} {xs : List V} (cs : List Nat) (z : Int) (h : EvL ta σ H xs) (hx : xs = cs.map vn) (h6 : cs.length = 6) (h1 : 1 ≤ cs.sum) (h60 : cs.sum ≤ 60) (hz : howMany cs = z) : Ev (tCall (sp_how_many K) [] E (tCons ta tNil)) σ H (.int z) := by
  subst hx
  subst hz
  exact ev_callL h fun p H1 e hp => v_how_many (sq_of hp) h6 h1 h60
def k07limI : List Int := [4, 5, 6, 8, 12]
theorem k07limI_ok {j : Nat} (h : j < 5) : (k07limI.getD j 0) = (k07lim.getD j 0 : Int) ∧ 0 < k07limI.getD j 0 ∧ k07limI.getD j 0 ≤ 12 := by
  revert j
  decide
end TA
namespace TA
open PySem PySem.Spec PyProof.Rows L2 Evl TL
def topS (i : Nat) : Stmt := PySem.Challenge.pw_turnabove_k07_great_counts.main.body.getD i (.Pass ⟨0, 0, 0, 0⟩)
structure Txt (K : PySem.W.Frag) (mg : Str → Option Value) (A : Ad) : Prop where
  b_all : mg "all" = none
  b_bool : mg "bool" = none
  b_enumerate : mg "enumerate" = none
  b_int : mg "int" = none
  b_isinstance : mg "isinstance" = none
  b_len : mg "len" = none
  b_list : mg "list" = none
  b_max : mg "max" = none
  b_min : mg "min" = none
  b_range : mg "range" = none
  b_sum : mg "sum" = none
  g_LEAST : ∃ t, mg "LEAST" = some (.int (-4) t)
  g_GREATEST : ∃ t, mg "GREATEST" = some (.int (1) t)
  g_LONGEST : ∃ t, mg "LONGEST" = some (.int (60) t)
  g_StepError : mg "StepError" = some (.ref A.StepError)
  g_BadCounts : mg "BadCounts" = some (.ref A.BadCounts)
end TA
namespace TA
open PySem PySem.Spec PyProof.Rows L2 Evl TL
local macro_rules | `(tactic| walk_at "sq") => `(tactic| first | assumption | exact sq_of (by assumption) | exact ex_l (by assumption) (by assumption) | exact ex_l (by assumption) (sq_of (by assumption)))
local macro_rules | `(tactic| walk_at "at") => `(tactic| first | assumption | (apply_assumption; assumption))
local macro_rules | `(tactic| walk_at "st") => `(tactic| first | assumption | exact st_of (by assumption) | exact ex_t (by assumption) (by assumption) | exact ex_t (by assumption) (st_of (by assumption)))
local macro_rules | `(tactic| walk_at "rc") => `(tactic| first | ((with_reducible apply rc_len); walk_at "sq") | ((with_reducible apply rc_lenT); walk_at "st") | ((with_reducible apply rc_sumN); walk_at "sq") | ((with_reducible apply rc_sum); walk_at "sq") | ((with_reducible apply rc_all); walk_at "sq") | ((with_reducible apply rc_any); walk_at "sq") | with_reducible exact rc_min2 | with_reducible exact rc_max2 | with_reducible exact rc_isiI | with_reducible exact rc_isiB | ((with_reducible apply rc_isiL); walk_at "sq"))
local macro_rules | `(tactic| walk_at "sp") => `(tactic| fail)
local macro_rules | `(tactic| walk_at "bd") => `(tactic| first | exact Or.inl (And.intro (by omega) (by omega)) | exact Or.inr (And.intro (by omega) (by omega)))
local macro_rules | `(tactic| walk_at "rv") => `(tactic| first | with_reducible exact rv_I0 | ((with_reducible apply rv_I); first | (show CMul _ _; walk_at "bd") | (show CDiv _ _; exact And.intro (by omega) (by omega)) | (show CPow _ _; exact And.intro (by decide) (And.intro (by decide) (by decide))) | (show (0 : Int) < _; omega)) | ((with_reducible apply rv_eq); rfl) | ((with_reducible apply rv_ne); rfl))
local macro_rules | `(tactic| walk_at "ev") => `(tactic| repeat' first
  | with_reducible exact ev_c
  | ((with_reducible apply ev_var); rfl)
  | with_reducible exact ea_nil
  | with_reducible apply ea_cons
  | with_reducible apply et_test
  | with_reducible apply et_B
  | (with_reducible apply et_and)
  | (with_reducible apply et_or)
  | with_reducible apply et_not
  | with_reducible apply ev_andV
  | with_reducible apply ev_orV
  | with_reducible apply ev_notV
  | with_reducible apply ev_op
  | with_reducible apply ev_un
  | with_reducible apply ev_chain
  | with_reducible apply ev_cb
  | with_reducible apply ev_call
  | with_reducible apply eo_none
  | with_reducible apply eo_some
  | with_reducible exact ru_neg
  | (intro _; with_reducible show Ev _ _ _ _)
  | (intro _; with_reducible show EvT _ _ _ _)
  | walk_at "rv"
  | walk_at "rc"
  | walk_at "sp")
local macro_rules | `(tactic| walk_at "sp") => `(tactic| exact v_is_whole)
local macro_rules | `(tactic| walk_at "sp") => `(tactic| exact v_is_between)
local macro_rules | `(tactic| walk_at "sp") => `(tactic| (apply v_check_counts <;> first | assumption | walk_at "sq"))
local macro_rules | `(tactic| walk_at "sp") => `(tactic| (apply v_height_of <;> first | assumption | omega | walk_at "sq"))
local macro_rules | `(tactic| walk_at "sp") => `(tactic| (apply v_turns_of <;> first | assumption | omega | walk_at "sq"))
local macro_rules | `(tactic| walk_at "sp") => `(tactic| (apply v_how_many <;> first | assumption | omega | walk_at "sq"))
local macro_rules | `(tactic| walk_at "sp") => `(tactic| (apply v_l_cell_at <;> first | omega | walk_at "sq"))
local macro_rules | `(tactic| walk_at "sp") => `(tactic| (apply v_l_draw <;> omega))
local macro_rules | `(tactic| walk_at "sp") => `(tactic| (apply v_l_number <;> omega))
local macro_rules | `(tactic| walk_at "sp") => `(tactic| (apply v_l_orders <;> first | assumption | omega | walk_at "sq"))
local macro_rules | `(tactic| walk_at "sp") => `(tactic| (apply v_k07_due <;> first | assumption | omega | walk_at "sq"))
abbrev s_l_cell_at : Stmt := topS 15
abbrev N_l_cell_at : List Str := ["_law_script", "_law_k"]
theorem sc_l_cell_at : FnScope N_l_cell_at ["_law_script", "_law_k"] (defScope s_l_cell_at) := ⟨rfl, rfl, rfl, by decide +kernel, rfl, by decide +kernel, by decide +kernel⟩
theorem ok_l_cell_at {P : Program} {w : World} {K : PySem.W.Frag} {mg : Str → Option Value} {base : Heap} {A : Ad} {f : Addr} {fd : FuncData} (T : Txt K mg A) (Dx : Df K mg "_law_cell_at" s_l_cell_at ["_law_script", "_law_k"] f fd)  :
    Cal P w K mg base 1 "_law_cell_at" ["_law_script", "_law_k"] (sp_l_cell_at K) := by
  refine Dx.cal (Dx.F.ok sc_l_cell_at (fun vs H Q E h => ?_) (fun cdv Ar outer s H vs Q E hr h => ?_))
  · obtain ⟨a, ns, k, rfl, hS, hk, q⟩ := h
    rfl
  · obtain ⟨a, ns, k, rfl, hS, hk, q⟩ := h
    refine ⟨_, (pss_cons (ps_if (pt_cmpR tl_lt (pv 1) (pe_callB tl_len (by rfl) T.b_len (by decide +kernel) (pa_cons (pv 0) pa_nil)) (nomark _)) (pss_one (ps_ret (pe_ix ix_list (pv 0) (pv 1) (fun _ _ => rfl)))) pss_nil)
      (pss_one (ps_ret pe_int))), ?_⟩
    try dsimp only [cxOf, Cx.nox, Cx.wish, Cx.blk]
    apply q_when
    · walk_at "ev"
    · intro hb H1 e1
      have hb := of_decide_eq_true hb
      rw [List.length_map] at hb
      refine s_ret (ev_ixLI (ev_var rfl) (ex_l e1 hS) (ev_var rfl) hk hb) fun H2 e2 => q H2 (e1.trans e2)
    · intro hb H1 e1
      have hb := of_decide_eq_false hb
      rw [List.length_map] at hb
      refine s_ret ev_c fun H2 e2 => ?_
      have z : cellV ns k = 0 := by
        unfold cellV
        rw [List.getD_eq_getElem?_getD, List.getElem?_eq_none (by omega)]
        rfl
      rw [RetV, z] at q
      exact q H2 (e1.trans e2)
abbrev s_l_orders : Stmt := topS 18
abbrev N_l_orders : List Str := ["_law_counts", "_law_found", "_law_many", "_law_count", "_law_at"]
theorem sc_l_orders : FnScope N_l_orders ["_law_counts"] (defScope s_l_orders) := ⟨rfl, rfl, rfl, by decide +kernel, rfl, by decide +kernel, by decide +kernel⟩
theorem ok_l_orders {P : Program} {w : World} {K : PySem.W.Frag} {mg : Str → Option Value} {base : Heap} {A : Ad} {f : Addr} {fd : FuncData} (T : Txt K mg A) (Dx : Df K mg "_law_orders" s_l_orders ["_law_counts"] f fd)  :
    Cal P w K mg base 1 "_law_orders" ["_law_counts"] (sp_l_orders K) := by
  refine Dx.cal (Dx.F.ok sc_l_orders (fun vs H Q E h => ?_) (fun cdv Ar outer s H vs Q E hr h => ?_))
  · obtain ⟨a, cs, rfl, hS, h6, q⟩ := h
    rfl
  · obtain ⟨a, cs, rfl, hS, h6, q⟩ := h
    refine ⟨_, (pss_cons (ps_asg (pe_tup (pa_cons pe_int (pa_cons pe_int pa_nil))) (pg_tup rfl (pgs_cons (pg_name (i := 1) sc_l_orders.nd rfl (Or.inl rfl) (hf := Or.inr rfl)) (pgs_cons (pg_name (i := 2) sc_l_orders.nd rfl (Or.inl rfl) (hf := Or.inr rfl)) pgs_nil))))
      (pss_cons (ps_for PassesOwn.never rfl (pi_list (pv 0)) (pg_name (i := 3) sc_l_orders.nd rfl (Or.inl rfl) (hf := Or.inr rfl)) (pss_one (ps_for PassesOwn.never rfl (pi_range2 (by rfl) T.b_range (pa_cons pe_int (pa_cons (pe_op tl_add (pv 3) pe_int) pa_nil))) (pg_name (i := 4) sc_l_orders.nd rfl (Or.inl rfl) (hf := Or.inr rfl)) (pss_cons (ps_set (i := 2) sc_l_orders.nd rfl (Or.inl rfl) (pe_op tl_add (pv 2) pe_int))
      (pss_one (ps_set (i := 1) sc_l_orders.nd rfl (Or.inl rfl) (pe_op tl_fdiv (pe_op tl_mul (pv 1) (pv 2)) (pv 4))))))))
      (pss_one (ps_ret (pv 1))))), ?_⟩
    try dsimp only [cxOf, Cx.nox, Cx.wish, Cx.blk]
    refine (q_unpack2 (eu_tup (ea_cons ev_c (ea_cons ev_c ea_nil)) (by decide)) fun H0 e0 => ?_)
    refine (q_forLn (ev_var rfl) (ex_l e0 hS) (fun i σ' H' => ∃ y3 y4, σ' = [some (.ref a), some (.int (mu 0 (cs.take i) : Int)), some (.int ((cs.take i).sum : Int)), y3, y4] ∧ Ex H H') (fun H1 e1 => ⟨none, none, rfl, e0.trans e1⟩) (fun i σ' H' _ ⟨_, _, _, e⟩ => ex_l e hS) ?_ ?_)
    · rintro i x σ' H' hx ⟨y3, y4, rfl, e⟩
      rw [List.getElem?_map] at hx
      obtain ⟨c, hc, rfl⟩ := Option.map_eq_some_iff.mp hx
      have hts := take_snoc hc
      have hle := sum_take_le cs (i + 1)
      rw [hts, List.sum_append, List.sum_singleton] at hle
      generalize hF : mu 0 (cs.take i) = F at *
      generalize hm : (cs.take i).sum = m at *
      refine s_forR2 (lo := 1) (n := (c : Int) + 1) ?_ (by omega) (fun j σ2 H2 => ∃ y4, σ2 = [some (.ref a), some (.int ((F * ch (m + j) j : Nat) : Int)), some (.int ((m + j : Nat) : Int)), some (vn c), y4] ∧ Ex H H2) (fun H2 e2 => ⟨y4, ?_, e.trans e2⟩) ?_ ?_
      · walk_at "ev"
      · rw [ch_zero, Nat.mul_one]
        rfl
      · rintro j σ2 H2 hj ⟨z4, rfl, e2⟩
        apply q_asg
        · walk_at "ev"
        · intro H3 e3
          apply s_asg
          · walk_at "ev"
          · intro H4 e4
            refine ⟨some (.int (1 + (j : Int))), ?_, (e2.trans e3).trans e4⟩
            rw [show ((m + j : Nat) : Int) + 1 = ((m + j + 1 : Nat) : Int) by omega, mu_step1]
            rfl
      · rintro σ2 H2 ⟨z4, rfl, e2⟩
        refine ⟨some (vn c), z4, ?_, e2⟩
        rw [hts, mu_snoc, List.sum_append, List.sum_singleton, hF, hm, Nat.zero_add, show ((c : Int) + 1 - 1).toNat = c by omega]
    · rintro σ' H' ⟨y3, y4, rfl, e⟩
      rw [List.length_map, List.take_length]
      exact s_ret (ev_var rfl) fun H2 e2 => q H2 (e.trans e2)
abbrev s_l_due : Stmt := topS 19
abbrev N_l_due : List Str := ["_law_counts", "_law_height", "_law_at", "_law_many"]
theorem sc_l_due : FnScope N_l_due ["_law_counts"] (defScope s_l_due) := ⟨rfl, rfl, rfl, by decide +kernel, rfl, by decide +kernel, by decide +kernel⟩
theorem ok_l_due {P : Program} {w : World} {K : PySem.W.Frag} {mg : Str → Option Value} {base : Heap} {A : Ad} {f : Addr} {fd : FuncData} (T : Txt K mg A) (Dx : Df K mg "_law_due" s_l_due ["_law_counts"] f fd) (c_l_orders : Cal P w K mg base 1 "_law_orders" ["_law_counts"] (sp_l_orders K)) :
    Cal P w K mg base 2 "_law_due" ["_law_counts"] (sp_k07_due K) := by
  obtain ⟨f_l_orders, fd_l_orders, G_l_orders, k_l_orders, bd_l_orders, g_l_orders⟩ := c_l_orders
  refine Dx.cal (Dx.F.ok sc_l_due (fun vs H Q E h => ?_) (fun cdv Ar outer s H vs Q E hr h => ?_))
  · obtain ⟨a, cs, rfl, hS, h6, h1, h60, q⟩ := h
    rfl
  · obtain ⟨a, cs, rfl, hS, h6, h1, h60, q⟩ := h
    refine ⟨_, (pss_cons (ps_set (i := 1) sc_l_due.nd rfl (Or.inl rfl) (pe_callB (cr_sum rfl) (by rfl) T.b_sum (by decide +kernel) (pa_cons (pe_lc (own := [("_law_at", 2), ("_law_many", 3)]) (tt := tYes) (g := (gTup K 2 (gCons (gName 2) (gCons (gName 3) gNil)))) (te := (tOp (rI CMul fun i j => .int (i * j)) (tOp (rI0 fun i j => .int (i - j)) (tVar 2) (tC (.int 4))) (tVar 3))) rfl sc_l_due.nd (pi_enum (by rfl) T.b_enumerate (pa_cons (pv 0) pa_nil)) (blkOk_by (own := [("_law_at", 2), ("_law_many", 3)]) (N := N_l_due) (sc := defScope s_l_due) (by decide +kernel)) (fun _ _ _ _ _ => (pg_tup rfl (pgs_cons (pg_name (i := 2) sc_l_due.nd rfl (Or.inl rfl) (hf := Or.inr rfl)) (pgs_cons (pg_name (i := 3) sc_l_due.nd rfl (Or.inl rfl) (hf := Or.inr rfl)) pgs_nil)))) (fun _ _ _ _ _ => pts_nil) (fun _ _ _ _ _ => (pe_op tl_mul (pe_op tl_sub (pv 2) pe_int) (pv 3)))) pa_nil)))
      (pss_one (ps_ret (pe_ifExp (pt_cmpR tl_gt (pv 1) pe_int (nomark _)) (pe_op tl_fdiv (pe_op tl_mul (pv 1) (pe_call G_l_orders (hr.mono (by decide)) (by rfl) g_l_orders k_l_orders bd_l_orders .nil pass0 (pa_cons (pv 0) pa_nil))) (pe_callB (cr_sum rfl) (by rfl) T.b_sum (by decide +kernel) (pa_cons (pv 0) pa_nil))) pe_int)))), ?_⟩
    try dsimp only [cxOf, Cx.nox, Cx.wish, Cx.blk]
    have hb : -240 ≤ ht cs ∧ ht cs ≤ 60 := ht_bound h6 h60
    refine q_asg (v := .int (ht cs)) (ev_is (ev_cbL (el_enum (xs := cs) (emb := vn) (fun i c => .int (((i : Nat) - 4) * (c : Int))) (ei_enum (ev_var rfl) hS) (by omega) (fun _ _ => rfl) (fun i c H2 hm e2 => ?_)) (fun p H2 e2 hp => rc_sumX (sq_of hp))) ?_) fun H1 e1 => ?_
    · have hi := (List.getElem?_eq_some_iff.mp hm).1
      walk_at "ev"
    · rw [htF_idxC cs _ (fun i c => by rw [show (i : Int) - 4 = -4 + (i : Int) by omega])]
    · have hS1 := ex_l e1 hS
      apply s_ret
      · apply ev_ite
        · walk_at "ev"
        · intro _
          walk_at "ev"
        · intro _
          walk_at "ev"
      · intro H2 e2
        have z : howMany cs = if decide (0 < ht cs) = true then ht cs * (mu 0 cs : Int) / (cs.sum : Int) else 0 := by
          unfold howMany
          by_cases hp : 0 < ht cs
          · rw [if_pos hp, if_pos (decide_eq_true hp)]
          · rw [if_neg hp, if_neg (by rw [decide_eq_false hp]; exact Bool.false_ne_true)]
            simp
        rw [RetV, z] at q
        have q' := q H2 (e1.trans e2)
        by_cases hp : 0 < ht cs
        · rw [decide_eq_true hp] at *
          exact q'
        · rw [decide_eq_false hp] at *
          exact q'
abbrev s_l_draw : Stmt := topS 16
abbrev N_l_draw : List Str := ["_law_cell", "_law_k", "_law_most", "_law_primes"]
theorem sc_l_draw : FnScope N_l_draw ["_law_cell", "_law_k", "_law_most"] (defScope s_l_draw) := ⟨rfl, rfl, rfl, by decide +kernel, rfl, by decide +kernel, by decide +kernel⟩
theorem ok_l_draw {P : Program} {w : World} {K : PySem.W.Frag} {mg : Str → Option Value} {base : Heap} {A : Ad} {f : Addr} {fd : FuncData} (T : Txt K mg A) (Dx : Df K mg "_law_draw" s_l_draw ["_law_cell", "_law_k", "_law_most"] f fd)  :
    Cal P w K mg base 1 "_law_draw" ["_law_cell", "_law_k", "_law_most"] (sp_l_draw K) := by
  refine Dx.cal (Dx.F.ok sc_l_draw (fun vs H Q E h => ?_) (fun cdv Ar outer s H vs Q E hr h => ?_))
  · obtain ⟨c, k, most, rfl, hk, hk2, hm, q⟩ := h
    rfl
  · obtain ⟨c, k, most, rfl, hk, hk2, hm, q⟩ := h
    refine ⟨_, (pss_cons (ps_set (i := 3) sc_l_draw.nd rfl (Or.inl rfl) (pe_tup (pa_cons pe_int (pa_cons pe_int (pa_cons pe_int (pa_cons pe_int (pa_cons pe_int (pa_cons pe_int (pa_cons pe_int (pa_cons pe_int (pa_cons pe_int (pa_cons pe_int (pa_cons pe_int (pa_cons pe_int (pa_cons pe_int (pa_cons pe_int (pa_cons pe_int (pa_cons pe_int pa_nil))))))))))))))))))
      (pss_one (ps_ret (pe_op tl_mod (pe_op tl_mod (pe_op tl_add (pe_op tl_mul (pv 0) pe_int) (pe_op tl_mul (pv 1) pe_int)) (pe_ix ix_tup (pv 3) (pe_op tl_mod (pv 1) pe_int) (fun _ _ => rfl))) (pv 2))))), ?_⟩
    try dsimp only [cxOf, Cx.nox, Cx.wish, Cx.blk]
    refine (q_asgU (eu_tup (vs := primesL.map V.int) ?_ (by decide)) fun p H1 hp e1 h1 => ?_)
    · exact (ea_cons ev_c (ea_cons ev_c (ea_cons ev_c (ea_cons ev_c (ea_cons ev_c (ea_cons ev_c (ea_cons ev_c (ea_cons ev_c (ea_cons ev_c (ea_cons ev_c (ea_cons ev_c (ea_cons ev_c (ea_cons ev_c (ea_cons ev_c (ea_cons ev_c (ea_cons ev_c ea_nil))))))))))))))))
    · have hpp := primes_pos (k % 16) (by omega) (by omega)
      apply s_ret
      · apply ev_op
        · apply ev_op
          · walk_at "ev"
          · refine ev_ixTI (ns := primesL) (i := k % 16) (ev_var rfl) (st_of h1) ?_ (by omega) (by show k % 16 < 16; omega)
            walk_at "ev"
          · exact rv_I hpp
        · exact ev_var rfl
        · exact rv_I hm
      · intro H2 e2
        exact q H2 (e1.trans e2)
abbrev s_l_number : Stmt := topS 17
abbrev N_l_number : List Str := ["_law_cell", "_law_k", "_law_limit", "_law_d"]
theorem sc_l_number : FnScope N_l_number ["_law_cell", "_law_k", "_law_limit"] (defScope s_l_number) := ⟨rfl, rfl, rfl, by decide +kernel, rfl, by decide +kernel, by decide +kernel⟩
theorem ok_l_number {P : Program} {w : World} {K : PySem.W.Frag} {mg : Str → Option Value} {base : Heap} {A : Ad} {f : Addr} {fd : FuncData} (T : Txt K mg A) (Dx : Df K mg "_law_number" s_l_number ["_law_cell", "_law_k", "_law_limit"] f fd) (c_l_draw : Cal P w K mg base 1 "_law_draw" ["_law_cell", "_law_k", "_law_most"] (sp_l_draw K)) :
    Cal P w K mg base 2 "_law_number" ["_law_cell", "_law_k", "_law_limit"] (sp_l_number K) := by
  obtain ⟨f_l_draw, fd_l_draw, G_l_draw, k_l_draw, bd_l_draw, g_l_draw⟩ := c_l_draw
  refine Dx.cal (Dx.F.ok sc_l_number (fun vs H Q E h => ?_) (fun cdv Ar outer s H vs Q E hr h => ?_))
  · obtain ⟨c, k, lim, rfl, hk, hk2, hm, hm2, q⟩ := h
    rfl
  · obtain ⟨c, k, lim, rfl, hk, hk2, hm, hm2, q⟩ := h
    refine ⟨_, (pss_cons (ps_if (pt_cmpR tl_ge (pv 0) (pe_op tl_pow pe_int pe_int) (nomark _)) (pss_cons (ps_set (i := 3) sc_l_number.nd rfl (Or.inl rfl) (pe_ix ix_tup (pe_tup (pa_cons pe_int (pa_cons pe_int (pa_cons pe_int (pa_cons pe_int (pa_cons pe_int pa_nil)))))) (pe_op tl_mod (pv 1) pe_int) (fun _ _ => rfl)))
      (pss_one (ps_ret (pe_op tl_fdiv (pe_op tl_mod (pe_op tl_sub (pv 0) (pe_op tl_pow pe_int pe_int)) (pe_op tl_mul (pv 3) (pv 2))) (pv 3))))) pss_nil)
      (pss_cons (ps_if (pt_cmpR tl_lt (pv 0) (pe_un un_neg (pe_op tl_pow pe_int pe_int)) (nomark _)) (pss_one (ps_set (i := 0) sc_l_number.nd rfl (Or.inl rfl) (pe_op tl_mod (pv 0) pe_int))) pss_nil)
      (pss_one (ps_ret (pe_op tl_mod (pe_call G_l_draw (hr.mono (by decide)) (by rfl) g_l_draw k_l_draw bd_l_draw .nil pass0 (pa_cons (pe_op tl_mulW (pe_op tl_add (pv 0) (pe_op tl_mul pe_int (pv 1))) (pe_op tl_add (pe_op tl_add (pv 0) (pe_op tl_mul pe_int (pv 1))) pe_int)) (pa_cons (pe_op tl_add (pe_op tl_mod (pv 1) pe_int) pe_int) (pa_cons pe_int pa_nil)))) (pv 2)))))), ?_⟩
    try dsimp only [cxOf, Cx.nox, Cx.wish, Cx.blk]
    apply q_when
    · walk_at "ev"
    · intro hb H1 e1
      rw [pow18] at hb
      have hb := of_decide_eq_true hb
      have hd := dV_bound k
      have hp : 0 < dV k * lim := Int.mul_pos (by omega) hm
      refine (q_asg (v := .int (dV k)) (ev_ixUI dsL ?_ (by decide) (i := k % 5) ?_ (by omega) (by show k % 5 < 5; omega)) fun H2 e2 => ?_)
      · exact (ea_cons ev_c (ea_cons ev_c (ea_cons ev_c (ea_cons ev_c (ea_cons ev_c ea_nil)))))
      · walk_at "ev"
      · apply s_ret
        · apply ev_op
          · apply ev_op
            · walk_at "ev"
            · walk_at "ev"
            · exact rv_I hp
          · exact ev_var rfl
          · refine rv_I ⟨by omega, by omega⟩
        · intro H3 e3
          rw [pow18]
          have z : numV c k lim = (c - 1000000000000000000) % (dV k * lim) / dV k := by
            unfold numV
            rw [if_pos hb]
          rw [RetV, z] at q
          exact q H3 ((e1.trans e2).trans e3)
    · intro hb H1 e1
      rw [pow18] at hb
      have hb := of_decide_eq_false hb
      have hw := smallV_wide (c := c) (by omega) hk hk2
      apply q_ifAsg (v := .int (smallV c))
      · walk_at "ev"
      · intro hb2
        rw [pow18] at hb2
        have hb2 := of_decide_eq_true hb2
        have z : smallV c = c % 1000811284336359577647248616306026718125307353262274591 := by
          unfold smallV
          rw [if_pos hb2]
        rw [z]
        walk_at "ev"
      · intro hb2
        rw [pow18] at hb2
        have hb2 := of_decide_eq_false hb2
        have z : smallV c = c := by
          unfold smallV
          rw [if_neg hb2]
        rw [z]
        rfl
      · intro H2 e2
        apply s_ret
        · apply ev_op
          · apply ev_call
            · apply ea_cons
              · apply ev_op
                · walk_at "ev"
                · walk_at "ev"
                · exact rv_I hw
              · walk_at "ev"
            · walk_at "ev"
          · exact ev_var rfl
          · exact rv_I hm
        · intro H3 e3
          have z : numV c k lim = drawV ((smallV c + 977 * k) * (smallV c + 31 * k + 5)) (k % 9 + 1) 999983 % lim := by
            unfold numV
            rw [if_neg hb]
          rw [RetV, z] at q
          exact q H3 ((e1.trans e2).trans e3)
abbrev s_is_whole : Stmt := topS 7
abbrev N_is_whole : List Str := ["thing"]
theorem sc_is_whole : FnScope N_is_whole ["thing"] (defScope s_is_whole) := ⟨rfl, rfl, rfl, by decide +kernel, rfl, by decide +kernel, by decide +kernel⟩
theorem ok_is_whole {P : Program} {w : World} {K : PySem.W.Frag} {mg : Str → Option Value} {base : Heap} {A : Ad} {f : Addr} {fd : FuncData} (T : Txt K mg A) (Dx : Df K mg "is_whole" s_is_whole ["thing"] f fd)  :
    Cal P w K mg base 1 "is_whole" ["thing"] (sp_is_whole K) := by
  refine Dx.cal (Dx.F.ok sc_is_whole (fun vs H Q E h => ?_) (fun cdv Ar outer s H vs Q E hr h => ?_))
  · obtain ⟨i, rfl, q⟩ := h
    rfl
  · obtain ⟨i, rfl, q⟩ := h
    refine ⟨_, (pss_one (ps_ret (pe_and (pe_callB call_isi (by rfl) T.b_isinstance (by decide +kernel) (pa_cons (pv 0) (pa_cons (pe_bltn (v := .ty "int") (by rfl) T.b_int (by decide +kernel) rfl) pa_nil))) (pe_one (pe_not (pe_callB call_isi (by rfl) T.b_isinstance (by decide +kernel) (pa_cons (pv 0) (pa_cons (pe_bltn (v := .ty "bool") (by rfl) T.b_bool (by decide +kernel) rfl) pa_nil)))))))), ?_⟩
    try dsimp only [cxOf, Cx.nox, Cx.wish, Cx.blk]
    apply s_ret
    · walk_at "ev"
    · exact q
abbrev s_is_between : Stmt := topS 8
abbrev N_is_between : List Str := ["thing", "least", "most"]
theorem sc_is_between : FnScope N_is_between ["thing", "least", "most"] (defScope s_is_between) := ⟨rfl, rfl, rfl, by decide +kernel, rfl, by decide +kernel, by decide +kernel⟩
theorem ok_is_between {P : Program} {w : World} {K : PySem.W.Frag} {mg : Str → Option Value} {base : Heap} {A : Ad} {f : Addr} {fd : FuncData} (T : Txt K mg A) (Dx : Df K mg "is_between" s_is_between ["thing", "least", "most"] f fd) (c_is_whole : Cal P w K mg base 1 "is_whole" ["thing"] (sp_is_whole K)) :
    Cal P w K mg base 2 "is_between" ["thing", "least", "most"] (sp_is_between K) := by
  obtain ⟨f_is_whole, fd_is_whole, G_is_whole, k_is_whole, bd_is_whole, g_is_whole⟩ := c_is_whole
  refine Dx.cal (Dx.F.ok sc_is_between (fun vs H Q E h => ?_) (fun cdv Ar outer s H vs Q E hr h => ?_))
  · obtain ⟨i, lo, hi, rfl, q⟩ := h
    rfl
  · obtain ⟨i, lo, hi, rfl, q⟩ := h
    refine ⟨_, (pss_one (ps_ret (pe_and (pe_call G_is_whole (hr.mono (by decide)) (by rfl) g_is_whole k_is_whole bd_is_whole .nil pass0 (pa_cons (pv 0) pa_nil)) (pe_one (pe_chain tl_le tl_le (pv 1) (pv 0) (pv 2)))))), ?_⟩
    try dsimp only [cxOf, Cx.nox, Cx.wish, Cx.blk]
    apply s_ret
    · walk_at "ev"
    · exact q
abbrev s_check_counts : Stmt := topS 9
abbrev N_check_counts : List Str := ["counts", "many"]
theorem sc_check_counts : FnScope N_check_counts ["counts"] (defScope s_check_counts) := ⟨rfl, rfl, rfl, by decide +kernel, rfl, by decide +kernel, by decide +kernel⟩
theorem ok_check_counts {P : Program} {w : World} {K : PySem.W.Frag} {mg : Str → Option Value} {base : Heap} {A : Ad} {f : Addr} {fd : FuncData} (T : Txt K mg A) (Dx : Df K mg "check_counts" s_check_counts ["counts"] f fd) (c_is_between : Cal P w K mg base 2 "is_between" ["thing", "least", "most"] (sp_is_between K)) :
    Cal P w K mg base 3 "check_counts" ["counts"] (sp_check_counts K) := by
  obtain ⟨f_is_between, fd_is_between, G_is_between, k_is_between, bd_is_between, g_is_between⟩ := c_is_between
  refine Dx.cal (Dx.F.ok sc_check_counts (fun vs H Q E h => ?_) (fun cdv Ar outer s H vs Q E hr h => ?_))
  · obtain ⟨a, cs, rfl, hS, h6, h1, h60, q⟩ := h
    rfl
  · obtain ⟨a, cs, rfl, hS, h6, h1, h60, q⟩ := h
    refine ⟨_, (pss_cons (ps_if (PW.pt (pw_or (pt_not (pt_val (pe_callB call_isi (by rfl) T.b_isinstance (by decide +kernel) (pa_cons (pv 0) (pa_cons (pe_bltn (v := .ty "list") (by rfl) T.b_list (by decide +kernel) rfl) pa_nil))))) (pw_or1 (pt_cmpR tl_ne (pe_callB tl_len (by rfl) T.b_len (by decide +kernel) (pa_cons (pv 0) pa_nil)) (pe_op tl_add (pe_op tl_sub (pe_gint (by rfl) T.g_GREATEST) (pe_gint (by rfl) T.g_LEAST)) pe_int) (nomark _))))) (pss_one ps_never) pss_nil)
      (pss_one (ps_if (PW.pt (pw_or (pt_not (pt_val (pe_callB (cr_all rfl) (by rfl) T.b_all (by decide +kernel) (pa_cons (pe_lc (own := [("many", 1)]) (tt := tYes) (g := (gName 1)) (te := (tCall (sp_is_between K) [] E0 (tCons (tVar 1) (tCons (tC (.int 0)) (tCons (tC (.int (60))) tNil))))) rfl sc_check_counts.nd (pi_list (pv 0)) (blkOk_by (own := [("many", 1)]) (N := N_check_counts) (sc := defScope s_check_counts) (by decide +kernel)) (fun _ _ _ _ _ => (pg_name (i := 1) sc_check_counts.nd rfl (Or.inl rfl) (hf := Or.inr rfl))) (fun _ _ _ _ _ => pts_nil) (fun _ _ _ _ _ => (pe_call G_is_between (hr.mono (by decide)) (by rfl) g_is_between k_is_between bd_is_between .nil pass0 (pa_cons (pv 1) (pa_cons pe_int (pa_cons (pe_gint (by rfl) T.g_LONGEST) pa_nil)))))) pa_nil)))) (pw_or1 (pt_not (pt_chain tl_le tl_le pe_int (pe_callB (cr_sum rfl) (by rfl) T.b_sum (by decide +kernel) (pa_cons (pv 0) pa_nil)) (pe_gint (by rfl) T.g_LONGEST)))))) (pss_one ps_never) pss_nil))), ?_⟩
    try dsimp only [cxOf, Cx.nox, Cx.wish, Cx.blk]
    apply q_when
    · walk_at "ev"
    · intro hb
      exfalso
      simp [h6] at hb
    · intro _ H1 e1
      have hS1 := ex_l e1 hS
      apply s_when (b := false)
      · apply et_is
        · apply et_or
          · apply et_not
            apply et_B
            apply ev_cbL
            · refine el_mapI (xs := cs) (emb := vn) (fun c => .bl (decide ((0 : Int) ≤ c) && decide ((c : Int) ≤ 60))) (ei_list (ev_var rfl) hS1) (by omega) (fun _ => rfl) (fun c H2 hm e2 => ?_)
              walk_at "ev"
            · exact fun p H2 e2 hp => rc_allM (sq_of hp)
          · intro _
            walk_at "ev"
        · have hall : (cs.all fun (c : Nat) => decide ((0 : Int) ≤ (c : Int)) && decide ((c : Int) ≤ 60)) = true := by
            rw [List.all_eq_true]
            intro c hc
            have := mem_le_sum hc
            simp
            omega
          rw [hall]
          simp
          omega
      · exact fun hb => nomatch hb
      · exact fun _ H2 e2 => q H2 (e1.trans e2)
abbrev s_height_of : Stmt := topS 10
abbrev N_height_of : List Str := ["counts", "at", "many"]
theorem sc_height_of : FnScope N_height_of ["counts"] (defScope s_height_of) := ⟨rfl, rfl, rfl, by decide +kernel, rfl, by decide +kernel, by decide +kernel⟩
theorem ok_height_of {P : Program} {w : World} {K : PySem.W.Frag} {mg : Str → Option Value} {base : Heap} {A : Ad} {f : Addr} {fd : FuncData} (T : Txt K mg A) (Dx : Df K mg "height_of" s_height_of ["counts"] f fd)  :
    Cal P w K mg base 1 "height_of" ["counts"] (sp_height_of K) := by
  refine Dx.cal (Dx.F.ok sc_height_of (fun vs H Q E h => ?_) (fun cdv Ar outer s H vs Q E hr h => ?_))
  · obtain ⟨a, cs, rfl, hS, h6, q⟩ := h
    rfl
  · obtain ⟨a, cs, rfl, hS, h6, q⟩ := h
    refine ⟨_, (pss_one (ps_ret (pe_callB (cr_sum rfl) (by rfl) T.b_sum (by decide +kernel) (pa_cons (pe_lc (own := [("at", 1), ("many", 2)]) (tt := tYes) (g := (gTup K 2 (gCons (gName 1) (gCons (gName 2) gNil)))) (te := (tOp (rI CMul fun i j => .int (i * j)) (tOp (rI0 fun i j => .int (i + j)) (tC (.int (-4))) (tVar 1)) (tVar 2))) rfl sc_height_of.nd (pi_enum (by rfl) T.b_enumerate (pa_cons (pv 0) pa_nil)) (blkOk_by (own := [("at", 1), ("many", 2)]) (N := N_height_of) (sc := defScope s_height_of) (by decide +kernel)) (fun _ _ _ _ _ => (pg_tup rfl (pgs_cons (pg_name (i := 1) sc_height_of.nd rfl (Or.inl rfl) (hf := Or.inr rfl)) (pgs_cons (pg_name (i := 2) sc_height_of.nd rfl (Or.inl rfl) (hf := Or.inr rfl)) pgs_nil)))) (fun _ _ _ _ _ => pts_nil) (fun _ _ _ _ _ => (pe_op tl_mul (pe_op tl_add (pe_gint (by rfl) T.g_LEAST) (pv 1)) (pv 2)))) pa_nil)))), ?_⟩
    try dsimp only [cxOf, Cx.nox, Cx.wish, Cx.blk]
    refine s_ret (ev_cbL (el_enum (xs := cs) (emb := vn) (fun i c => .int ((-4 + (i : Nat)) * (c : Int))) (ei_enum (ev_var rfl) hS) (by omega) (fun _ _ => rfl) (fun i c H2 hm e2 => ?_)) (fun p H2 e2 hp => rc_sumX (sq_of hp))) ?_
    · have hi := (List.getElem?_eq_some_iff.mp hm).1
      walk_at "ev"
    · rw [htF_idx]
      exact q
abbrev s_turns_of : Stmt := topS 12
abbrev N_turns_of : List Str := ["counts", "found", "many", "count", "at"]
theorem sc_turns_of : FnScope N_turns_of ["counts"] (defScope s_turns_of) := ⟨rfl, rfl, rfl, by decide +kernel, rfl, by decide +kernel, by decide +kernel⟩
theorem ok_turns_of {P : Program} {w : World} {K : PySem.W.Frag} {mg : Str → Option Value} {base : Heap} {A : Ad} {f : Addr} {fd : FuncData} (T : Txt K mg A) (Dx : Df K mg "turns_of" s_turns_of ["counts"] f fd)  :
    Cal P w K mg base 1 "turns_of" ["counts"] (sp_turns_of K) := by
  refine Dx.cal (Dx.F.ok sc_turns_of (fun vs H Q E h => ?_) (fun cdv Ar outer s H vs Q E hr h => ?_))
  · obtain ⟨a, cs, rfl, hS, h6, q⟩ := h
    rfl
  · obtain ⟨a, cs, rfl, hS, h6, q⟩ := h
    refine ⟨_, (pss_cons (ps_asg (pe_tup (pa_cons pe_int (pa_cons pe_int pa_nil))) (pg_tup rfl (pgs_cons (pg_name (i := 1) sc_turns_of.nd rfl (Or.inl rfl) (hf := Or.inr rfl)) (pgs_cons (pg_name (i := 2) sc_turns_of.nd rfl (Or.inl rfl) (hf := Or.inr rfl)) pgs_nil))))
      (pss_cons (ps_for PassesOwn.never rfl (pi_list (pv 0)) (pg_name (i := 3) sc_turns_of.nd rfl (Or.inl rfl) (hf := Or.inr rfl)) (pss_one (ps_for PassesOwn.never rfl (pi_range1 (by rfl) T.b_range (pa_cons (pv 3) pa_nil)) (pg_name (i := 4) sc_turns_of.nd rfl (Or.inl rfl) (hf := Or.inr rfl)) (pss_cons (ps_aug (i := 2) sc_turns_of.nd rfl (Or.inl rfl) pe_int ip_add)
      (pss_one (ps_set (i := 1) sc_turns_of.nd rfl (Or.inl rfl) (pe_op tl_fdiv (pe_op tl_mul (pv 1) (pv 2)) (pe_op tl_add (pv 4) pe_int))))))))
      (pss_one (ps_ret (pv 1))))), ?_⟩
    try dsimp only [cxOf, Cx.nox, Cx.wish, Cx.blk]
    refine (q_unpack2 (eu_tup (ea_cons ev_c (ea_cons ev_c ea_nil)) (by decide)) fun H0 e0 => ?_)
    refine (q_forLn (ev_var rfl) (ex_l e0 hS) (fun i σ' H' => ∃ y3 y4, σ' = [some (.ref a), some (.int (mu 0 (cs.take i) : Int)), some (.int ((cs.take i).sum : Int)), y3, y4] ∧ Ex H H') (fun H1 e1 => ⟨none, none, rfl, e0.trans e1⟩) (fun i σ' H' _ ⟨_, _, _, e⟩ => ex_l e hS) ?_ ?_)
    · rintro i x σ' H' hx ⟨y3, y4, rfl, e⟩
      rw [List.getElem?_map] at hx
      obtain ⟨c, hc, rfl⟩ := Option.map_eq_some_iff.mp hx
      have hts := take_snoc hc
      have hle := sum_take_le cs (i + 1)
      rw [hts, List.sum_append, List.sum_singleton] at hle
      generalize hF : mu 0 (cs.take i) = F at *
      generalize hm : (cs.take i).sum = m at *
      refine s_forR1 (n := (c : Int)) ?_ (by omega) (fun j σ2 H2 => ∃ y4, σ2 = [some (.ref a), some (.int ((F * ch (m + j) j : Nat) : Int)), some (.int ((m + j : Nat) : Int)), some (vn c), y4] ∧ Ex H H2) (fun H2 e2 => ⟨y4, ?_, e.trans e2⟩) ?_ ?_
      · walk_at "ev"
      · rw [ch_zero, Nat.mul_one]
        rfl
      · rintro j σ2 H2 hj ⟨z4, rfl, e2⟩
        refine q_aug rfl ev_c fun H3 e3 => ?_
        apply s_asg
        · walk_at "ev"
        · intro H4 e4
          refine ⟨some (.int (j : Int)), ?_, (e2.trans e3).trans e4⟩
          rw [show ((m + j : Nat) : Int) + 1 = ((m + j + 1 : Nat) : Int) by omega, mu_step]
          rfl
      · rintro σ2 H2 ⟨z4, rfl, e2⟩
        refine ⟨some (vn c), z4, ?_, e2⟩
        rw [hts, mu_snoc, List.sum_append, List.sum_singleton, hF, hm, Nat.zero_add]
        rfl
    · rintro σ' H' ⟨y3, y4, rfl, e⟩
      rw [List.length_map, List.take_length]
      exact s_ret (ev_var rfl) fun H2 e2 => q H2 (e.trans e2)
abbrev s_how_many : Stmt := topS 13
abbrev N_how_many : List Str := ["counts"]
theorem sc_how_many : FnScope N_how_many ["counts"] (defScope s_how_many) := ⟨rfl, rfl, rfl, by decide +kernel, rfl, by decide +kernel, by decide +kernel⟩
theorem ok_how_many {P : Program} {w : World} {K : PySem.W.Frag} {mg : Str → Option Value} {base : Heap} {A : Ad} {f : Addr} {fd : FuncData} (T : Txt K mg A) (Dx : Df K mg "how_many" s_how_many ["counts"] f fd) (c_check_counts : Cal P w K mg base 3 "check_counts" ["counts"] (sp_check_counts K)) (c_height_of : Cal P w K mg base 1 "height_of" ["counts"] (sp_height_of K)) (c_turns_of : Cal P w K mg base 1 "turns_of" ["counts"] (sp_turns_of K)) :
    Cal P w K mg base 4 "how_many" ["counts"] (sp_how_many K) := by
  obtain ⟨f_check_counts, fd_check_counts, G_check_counts, k_check_counts, bd_check_counts, g_check_counts⟩ := c_check_counts
  obtain ⟨f_height_of, fd_height_of, G_height_of, k_height_of, bd_height_of, g_height_of⟩ := c_height_of
  obtain ⟨f_turns_of, fd_turns_of, G_turns_of, k_turns_of, bd_turns_of, g_turns_of⟩ := c_turns_of
  refine Dx.cal (Dx.F.ok sc_how_many (fun vs H Q E h => ?_) (fun cdv Ar outer s H vs Q E hr h => ?_))
  · obtain ⟨a, cs, rfl, hS, h6, h1, h60, q⟩ := h
    rfl
  · obtain ⟨a, cs, rfl, hS, h6, h1, h60, q⟩ := h
    refine ⟨_, (pss_cons (ps_expr (pe_call G_check_counts (hr.mono (by decide)) (by rfl) g_check_counts k_check_counts bd_check_counts .nil pass0 (pa_cons (pv 0) pa_nil)))
      (pss_one (ps_ret (pe_op tl_fdiv (pe_op tl_mul (pe_callB (tl_max2 rfl) (by rfl) T.b_max (by decide +kernel) (pa_cons pe_int (pa_cons (pe_call G_height_of (hr.mono (by decide)) (by rfl) g_height_of k_height_of bd_height_of .nil pass0 (pa_cons (pv 0) pa_nil)) pa_nil))) (pe_call G_turns_of (hr.mono (by decide)) (by rfl) g_turns_of k_turns_of bd_turns_of .nil pass0 (pa_cons (pv 0) pa_nil))) (pe_callB (cr_sum rfl) (by rfl) T.b_sum (by decide +kernel) (pa_cons (pv 0) pa_nil)))))), ?_⟩
    try dsimp only [cxOf, Cx.nox, Cx.wish, Cx.blk]
    apply q_drop
    · walk_at "ev"
    · intro H1 e1
      have hS1 := ex_l e1 hS
      have hb : -240 ≤ ht cs ∧ ht cs ≤ 60 := ht_bound h6 h60
      apply s_ret
      · walk_at "ev"
      · intro H2 e2
        exact q H2 (e1.trans e2)
abbrev s_law : Stmt := topS 20
abbrev N_law : List Str := ["_law_script", "_law_by", "_law_cell", "_law_counts", "_law_at", "_law_falls", "_law_height", "_law_parts", "_law_fewer", "_law_many"]
theorem sc_law : FnScope N_law ["_law_script"] (defScope s_law) := ⟨rfl, rfl, rfl, by decide +kernel, rfl, by decide +kernel, by decide +kernel⟩
theorem ok_law {P : Program} {w : World} {K : PySem.W.Frag} {mg : Str → Option Value} {base : Heap} {A : Ad} {f : Addr} {fd : FuncData} (T : Txt K mg A) (Dx : Df K mg "law" s_law ["_law_script"] f fd) (c_l_cell_at : Cal P w K mg base 1 "_law_cell_at" ["_law_script", "_law_k"] (sp_l_cell_at K)) (c_l_due : Cal P w K mg base 2 "_law_due" ["_law_counts"] (sp_k07_due K)) (c_l_number : Cal P w K mg base 2 "_law_number" ["_law_cell", "_law_k", "_law_limit"] (sp_l_number K)) (c_how_many : Cal P w K mg base 4 "how_many" ["counts"] (sp_how_many K)) :
    FnOk P w K mg base CX0 5 f fd ["_law_script"] (sp_law K) := by
  obtain ⟨f_l_cell_at, fd_l_cell_at, G_l_cell_at, k_l_cell_at, bd_l_cell_at, g_l_cell_at⟩ := c_l_cell_at
  obtain ⟨f_l_due, fd_l_due, G_l_due, k_l_due, bd_l_due, g_l_due⟩ := c_l_due
  obtain ⟨f_l_number, fd_l_number, G_l_number, k_l_number, bd_l_number, g_l_number⟩ := c_l_number
  obtain ⟨f_how_many, fd_how_many, G_how_many, k_how_many, bd_how_many, g_how_many⟩ := c_how_many
  refine (Dx.F.ok sc_law (fun vs H Q E h => ?_) (fun cdv Ar outer s H vs Q E hr h => ?_))
  · obtain ⟨a, ns, rfl, hS, hlen, k⟩ := h
    rfl
  · obtain ⟨a, ns, rfl, hS, hlen, k⟩ := h
    refine ⟨_, (pss_cons (ps_for PassesOwn.never rfl (pi_range1 (by rfl) T.b_range (pa_cons pe_int pa_nil)) (pg_name (i := 1) sc_law.nd rfl (Or.inl rfl) (hf := Or.inr rfl)) (pss_cons (ps_par (i := 2) (j := 3) (by rfl) sc_law.nd rfl rfl (by decide) rfl rfl (pa_cons (pe_call G_l_cell_at (hr.mono (by decide)) (by rfl) g_l_cell_at k_l_cell_at bd_l_cell_at .nil pass0 (pa_cons (pv 0) (pa_cons (pv 1) pa_nil))) (pa_cons (pe_op tl_rep (pe_lst (pa_cons pe_int pa_nil)) pe_int) pa_nil)) (by rfl))
      (pss_cons (ps_for PassesOwn.never rfl (pi_range1 (by rfl) T.b_range (pa_cons pe_int pa_nil)) (pg_name (i := 4) sc_law.nd rfl (Or.inl rfl) (hf := Or.inr rfl)) (pss_one (ps_asg (pe_call G_l_number (hr.mono (by decide)) (by rfl) g_l_number k_l_number bd_l_number .nil pass0 (pa_cons (pe_op tl_add (pe_call G_l_cell_at (hr.mono (by decide)) (by rfl) g_l_cell_at k_l_cell_at bd_l_cell_at .nil pass0 (pa_cons (pv 0) (pa_cons (pe_op tl_add (pv 1) (pv 4)) pa_nil))) (pv 4)) (pa_cons (pe_op tl_add (pv 1) (pv 4)) (pa_cons (pe_ix ix_tup (pe_tup (pa_cons pe_int (pa_cons pe_int (pa_cons pe_int (pa_cons pe_int (pa_cons pe_int pa_nil)))))) (pv 4) (fun _ _ => rfl)) pa_nil)))) (pg_sub (pv 3) (pv 4) set_list))))
      (pss_cons (ps_set (i := 5) sc_law.nd rfl (Or.inl rfl) (pe_callB (cr_sum rfl) (by rfl) T.b_sum (by decide +kernel) (pa_cons (pe_lc (own := [("_law_at", 4), ("_law_many", 9)]) (tt := tYes) (g := (gTup K 2 (gCons (gName 4) (gCons (gName 9) gNil)))) (te := (tOp (rI CMul fun i j => .int (i * j)) (tOp (rI0 fun i j => .int (i - j)) (tC (.int 4)) (tVar 4)) (tVar 9))) rfl sc_law.nd (pi_enum (by rfl) T.b_enumerate (pa_cons (pe_slice sl_list (pv 3) po_none (po_some pe_int)) pa_nil)) (blkOk_by (own := [("_law_at", 4), ("_law_many", 9)]) (N := N_law) (sc := defScope s_law) (by decide +kernel)) (fun _ _ _ _ _ => (pg_tup rfl (pgs_cons (pg_name (i := 4) sc_law.nd rfl (Or.inl rfl) (hf := Or.inr rfl)) (pgs_cons (pg_name (i := 9) sc_law.nd rfl (Or.inl rfl) (hf := Or.inr rfl)) pgs_nil)))) (fun _ _ _ _ _ => pts_nil) (fun _ _ _ _ _ => (pe_op tl_mul (pe_op tl_sub pe_int (pv 4)) (pv 9)))) pa_nil)))
      (pss_cons (ps_asg (pe_callB (tl_min2 rfl) (by rfl) T.b_min (by decide +kernel) (pa_cons (pe_op tl_sub pe_int (pe_callB (cr_sum rfl) (by rfl) T.b_sum (by decide +kernel) (pa_cons (pv 3) pa_nil))) (pa_cons (pe_callB (tl_max2 rfl) (by rfl) T.b_max (by decide +kernel) (pa_cons pe_int (pa_cons (pe_op tl_add (pe_op tl_sub (pv 5) pe_int) (pe_call G_l_number (hr.mono (by decide)) (by rfl) g_l_number k_l_number bd_l_number .nil pass0 (pa_cons (pv 2) (pa_cons (pe_op tl_add (pv 1) pe_int) (pa_cons pe_int pa_nil))))) pa_nil))) pa_nil))) (pg_sub (pv 3) pe_int set_list))
      (Evl.pss_cut (ps_if (pt_cmpR tl_eq (pe_callB (cr_sum rfl) (by rfl) T.b_sum (by decide +kernel) (pa_cons (pv 3) pa_nil)) pe_int (nomark _)) (pss_one (ps_asg pe_int (pg_sub (pv 3) pe_int set_list))) pss_nil)
      (pss_cons (ps_if (pt_cmpR tl_ne (pe_call G_how_many (hr.mono (by decide)) (by rfl) g_how_many k_how_many bd_how_many .nil pass0 (pa_cons (pv 3) pa_nil)) (pe_call G_l_due (hr.mono (by decide)) (by rfl) g_l_due k_l_due bd_l_due .nil pass0 (pa_cons (pv 3) pa_nil)) (nomark _)) (pss_one (ps_ret pe_bl)) pss_nil)
      (pss_cons (ps_set (i := 6) sc_law.nd rfl (Or.inl rfl) (pe_callB (cr_sum rfl) (by rfl) T.b_sum (by decide +kernel) (pa_cons (pe_lc (own := [("_law_at", 4), ("_law_many", 9)]) (tt := tYes) (g := (gTup K 2 (gCons (gName 4) (gCons (gName 9) gNil)))) (te := (tOp (rI CMul fun i j => .int (i * j)) (tOp (rI0 fun i j => .int (i - j)) (tVar 4) (tC (.int 4))) (tVar 9))) rfl sc_law.nd (pi_enum (by rfl) T.b_enumerate (pa_cons (pv 3) pa_nil)) (blkOk_by (own := [("_law_at", 4), ("_law_many", 9)]) (N := N_law) (sc := defScope s_law) (by decide +kernel)) (fun _ _ _ _ _ => (pg_tup rfl (pgs_cons (pg_name (i := 4) sc_law.nd rfl (Or.inl rfl) (hf := Or.inr rfl)) (pgs_cons (pg_name (i := 9) sc_law.nd rfl (Or.inl rfl) (hf := Or.inr rfl)) pgs_nil)))) (fun _ _ _ _ _ => pts_nil) (fun _ _ _ _ _ => (pe_op tl_mul (pe_op tl_sub (pv 4) pe_int) (pv 9)))) pa_nil)))
      (pss_one (ps_if (PW.pt (pw_and (pt_cmpR tl_gt (pv 6) pe_int (nomark _)) (pw_and1 (pt_cmpR tl_gt (pe_callB (cr_sum rfl) (by rfl) T.b_sum (by decide +kernel) (pa_cons (pv 3) pa_nil)) pe_int (nomark _))))) (pss_cons (ps_set (i := 7) sc_law.nd rfl (Or.inl rfl) pe_int)
      (pss_cons (ps_for PassesOwn.never rfl (pi_range1 (by rfl) T.b_range (pa_cons pe_int pa_nil)) (pg_name (i := 4) sc_law.nd rfl (Or.inl rfl) (hf := Or.inr rfl)) (pss_cons (ps_set (i := 8) sc_law.nd rfl (Or.inl rfl) (pe_op tl_cat (pe_op tl_cat (pe_slice sl_list (pv 3) po_none (po_some (pv 4))) (pe_lst (pa_cons (pe_op tl_sub (pe_ix ix_list (pv 3) (pv 4) (fun _ _ => rfl)) pe_int) pa_nil))) (pe_slice sl_list (pv 3) (po_some (pe_op tl_add (pv 4) pe_int)) po_none)))
      (pss_one (ps_if (PW.pt (pw_and (pt_cmpR tl_gt (pe_ix ix_list (pv 3) (pv 4) (fun _ _ => rfl)) pe_int (nomark _)) (pw_and1 (pt_cmpR tl_gt (pe_op tl_sub (pv 6) (pe_op tl_sub (pv 4) pe_int)) pe_int (nomark _))))) (pss_one (ps_set (i := 7) sc_law.nd rfl (Or.inl rfl) (pe_op tl_add (pv 7) (pe_call G_how_many (hr.mono (by decide)) (by rfl) g_how_many k_how_many bd_how_many .nil pass0 (pa_cons (pv 8) pa_nil))))) pss_nil))))
      (pss_one (ps_if (pt_cmpR tl_ne (pv 7) (pe_call G_how_many (hr.mono (by decide)) (by rfl) g_how_many k_how_many bd_how_many .nil pass0 (pa_cons (pv 3) pa_nil)) (nomark _)) (pss_one (ps_ret pe_bl)) pss_nil)))) pss_nil))))))))))
      (pss_cons (ps_if (PW.pt (pw_or (pt_cmpR tl_ne (pe_call G_how_many (hr.mono (by decide)) (by rfl) g_how_many k_how_many bd_how_many .nil pass0 (pa_cons (pe_lst (pa_cons pe_int (pa_cons pe_int (pa_cons pe_int (pa_cons pe_int (pa_cons pe_int (pa_cons pe_int pa_nil))))))) pa_nil)) pe_int (nomark _)) (pw_or1 (pt_cmpR tl_ne (pe_call G_how_many (hr.mono (by decide)) (by rfl) g_how_many k_how_many bd_how_many .nil pass0 (pa_cons (pe_lst (pa_cons pe_int (pa_cons pe_int (pa_cons pe_int (pa_cons pe_int (pa_cons pe_int (pa_cons pe_int pa_nil))))))) pa_nil)) pe_int (nomark _))))) (pss_one (ps_ret pe_bl)) pss_nil)
      (pss_one (ps_ret (pe_and (pe_cmpR tl_eq (pe_call G_how_many (hr.mono (by decide)) (by rfl) g_how_many k_how_many bd_how_many .nil pass0 (pa_cons (pe_lst (pa_cons pe_int (pa_cons pe_int (pa_cons pe_int (pa_cons pe_int (pa_cons pe_int (pa_cons pe_int pa_nil))))))) pa_nil)) pe_int (nomark _)) (pe_one (pe_cmpR tl_eq (pe_call G_how_many (hr.mono (by decide)) (by rfl) g_how_many k_how_many bd_how_many .nil pass0 (pa_cons (pe_lst (pa_cons pe_int (pa_cons pe_int (pa_cons pe_int (pa_cons pe_int (pa_cons pe_int (pa_cons pe_int pa_nil))))))) pa_nil)) pe_int (nomark _)))))))), ?_⟩
    try dsimp only [cxOf, Cx.nox, Cx.wish, Cx.blk]
    refine q_forR1 (n := 3) (ea_cons ev_c ea_nil) (by omega) (fun i σ' H' => ∃ y1 y2 y3 y4 y5 y6 y7 y8 y9, σ' = [some (.ref a), y1, y2, y3, y4, y5, y6, y7, y8, y9] ∧ Ex H H') (fun H1 e1 => ⟨none, none, none, none, none, none, none, none, none, rfl, e1⟩) ?_ ?_
    · rintro i σ' H' hi ⟨y1, y2, y3, y4, y5, y6, y7, y8, y9, rfl, e⟩
      have hS' := ex_l e hS
      refine q_parVL (x := .int (cellV ns i)) ?_ (el_repL (k := 6) (el_lst (ea_cons ev_c ea_nil) (by decide)) ev_c (by omega) (by decide)) fun p H1 hp e1 h1 => ?_
      · walk_at "ev"
      have hpH : H p = none := fresh_back e hp
      refine q_forR1 (n := 5) (ea_cons ev_c ea_nil) (by omega) (fun j σ2 H2 => ∃ cs y4, K07 cs ∧ σ2 = [some (.ref a), some (.int i), some (.int (cellV ns i)), some (.ref p), y4, y5, y6, y7, y8, y9] ∧ Ex H H2 ∧ H2 p = some (.lst (cs.map vn))) (fun H2 e2 => ⟨[0, 0, 0, 0, 0, 0], y4, ⟨rfl, by decide, rfl⟩, rfl, e.trans (e1.trans e2), e2 _ _ h1⟩) ?_ ?_
      · rintro j σ2 H2 hj ⟨cs, y4', hk, rfl, e2, h2⟩
        have hS2 := ex_l e2 hS
        have hl := k07limI_ok (j := j) (by omega)
        have hnb := numV_bound (c := cellV ns ((i : Int) + (j : Int)) + (j : Int)) (k := (i : Int) + (j : Int)) hl.2.1
        refine s_setL (j := j) (v := .int (numV (cellV ns ((i : Int) + (j : Int)) + (j : Int)) ((i : Int) + (j : Int)) (k07limI.getD j 0))) h2 ?_ (ev_var rfl) (ev_var rfl) (by rw [List.length_map, hk.len]; omega) fun H3 e3 => ?_
        · apply ev_call
          · apply ea_cons
            · walk_at "ev"
            · apply ea_cons
              · walk_at "ev"
              · apply ea_cons
                · refine ev_ixUI k07limI (i := (j : Int)) ?_ (by decide) (ev_var rfl) (by omega) (by show (j : Int) < 5; omega)
                  exact (ea_cons ev_c (ea_cons ev_c (ea_cons ev_c (ea_cons ev_c (ea_cons ev_c ea_nil)))))
                · exact ea_nil
          · exact v_l_number (by omega) (by omega) hl.2.1 (by show k07limI.getD j 0 ≤ 1000000; omega)
        · refine ⟨cs.set j (numV (cellV ns ((i : Int) + (j : Int)) + (j : Int)) ((i : Int) + (j : Int)) (k07limI.getD j 0)).toNat, _, hk.set (by omega) (by omega), rfl, Ex.mut (e2.trans e3) hpH, ?_⟩
          rw [upd_same, set_vn hnb.1]
      · rintro σ2 H2 ⟨cs, y4', hk, rfl, e2, h2⟩
        have hS2 := ex_l e2 hS
        have h30 := hk.sum
        -- falls
        refine q_asg (v := .int ((cs.take 5).mapIdx fun (i : Nat) (c : Nat) => (4 - (i : Int)) * (c : Int)).sum) (ev_cbL (el_enum (xs := cs.take 5) (emb := vn) (fun i c => .int ((4 - (i : Nat)) * (c : Int))) (ei_enumN ?_) (by rw [List.length_take]; omega) (fun _ _ => rfl) (fun i c H3 hm e3 => ?_)) (fun p H3 e3 hp => rc_sumX (sq_of hp))) fun H3 e3 => ?_
        · rw [List.map_take]
          exact el_hi (i := 5) (ev_var rfl) (sq_of h2) ev_c (by omega)
        · have hi := (List.getElem?_eq_some_iff.mp hm).1
          rw [List.length_take] at hi
          walk_at "ev"
        have hF : 0 ≤ ((cs.take 5).mapIdx fun (i : Nat) (c : Nat) => (4 - (i : Int)) * (c : Int)).sum := idx_nonneg _ _ (fun i c hi => Int.mul_nonneg (by omega) (by omega)) (by rw [List.length_take]; omega)
        generalize ((cs.take 5).mapIdx fun (i : Nat) (c : Nat) => (4 - (i : Int)) * (c : Int)).sum = F at *
        have h3 := e3 _ _ h2
        have hnb := numV_bound (c := cellV ns i) (k := (i : Int) + 3) (lim := 8) (by omega)
        have hsq3 : SqL K H3 p (cs.map vn) := sq_of h3
        -- counts[5]
        refine q_setL (j := 5) h3 (v := .int (if (if F - 1 + numV (cellV ns i) ((i : Int) + 3) 8 > 0 then F - 1 + numV (cellV ns i) ((i : Int) + 3) 8 else 0) < 60 - (cs.sum : Int) then (if F - 1 + numV (cellV ns i) ((i : Int) + 3) 8 > 0 then F - 1 + numV (cellV ns i) ((i : Int) + 3) 8 else 0) else 60 - (cs.sum : Int))) ?_ (ev_var rfl) ev_c (by rw [List.length_map, hk.len]; omega) fun H4 e4 => ?_
        · walk_at "ev"
        generalize hz : (if (if F - 1 + numV (cellV ns i) ((i : Int) + 3) 8 > 0 then F - 1 + numV (cellV ns i) ((i : Int) + 3) 8 else 0) < 60 - (cs.sum : Int) then (if F - 1 + numV (cellV ns i) ((i : Int) + 3) 8 > 0 then F - 1 + numV (cellV ns i) ((i : Int) + 3) 8 else 0) else 60 - (cs.sum : Int)) = Z
        have hZ : 0 ≤ Z ∧ Z ≤ 60 - (cs.sum : Int) := by
          rw [← hz]
          split <;> split <;> omega
        have s5 := set5_sum hk Z.toNat
        have e5 : Ex H (upd H4 p (.lst ((cs.map vn).set 5 (.int Z)))) := Ex.mut ((e2.trans e3).trans e4) hpH
        have h5 : (upd H4 p (.lst ((cs.map vn).set 5 (.int Z)))) p = some (.lst ((cs.set 5 Z.toNat).map vn)) := by rw [upd_same, set_vn hZ.1]
        generalize (upd H4 p (.lst ((cs.map vn).set 5 (.int Z)))) = H5 at *
        -- if sum(counts) == 0
        refine q_cut (M := fun σ6 H6 => ∃ cs6 : List Nat, cs6.length = 6 ∧ 1 ≤ cs6.sum ∧ cs6.sum ≤ 60 ∧ σ6 = [some (.ref a), some (.int i), some (.int (cellV ns i)), some (.ref p), y4', some (.int F), y6, y7, y8, y9] ∧ Ex H H6 ∧ H6 p = some (.lst (cs6.map vn))) ?_ ?_
        · have hsq5 : SqL K H5 p ((cs.set 5 Z.toNat).map vn) := sq_of h5
          apply s_when
          · walk_at "ev"
          · intro _ H6 e6
            refine s_setL (j := 5) (e6 _ _ h5) (v := .int 1) ev_c (ev_var rfl) ev_c (by rw [List.length_map, s5.2]; omega) fun H7 e7 => ?_
            refine ⟨cs.set 5 1, (set5_sum hk 1).2, by rw [(set5_sum hk 1).1]; omega, by rw [(set5_sum hk 1).1]; omega, rfl, Ex.mut ((e5.trans e6).trans e7) hpH, ?_⟩
            rw [upd_same, set_vn (by omega), List.set_set]
            rfl
          · intro hb H6 e6
            have hb : ¬ (((cs.set 5 Z.toNat).sum : Nat) : Int) = 0 := fun z => of_decide_eq_false hb (by rw [z])
            exact ⟨_, s5.2, by omega, by omega, rfl, e5.trans e6, e6 _ _ h5⟩
        · rintro σ6 H6 ⟨cs6, l6, s1, s60, rfl, e6, h6⟩
          clear h5 e5 s5 hZ hz h3 h2 hk h30
          have hsq : SqL K H6 p (cs6.map vn) := sq_of h6
          have hb : -240 ≤ ht cs6 ∧ ht cs6 ≤ 60 := ht_bound l6 s60
          apply q_when
          · walk_at "ev"
          · intro hb
            exfalso
            simp at hb
          · intro _ H7 e7
            have hsq7 := ex_l e7 hsq
            refine q_asg (v := .int (ht cs6)) (ev_is (ev_cbL (el_enum (xs := cs6) (emb := vn) (fun i c => .int (((i : Nat) - 4) * (c : Int))) (ei_enum (ev_var rfl) hsq7) (by omega) (fun _ _ => rfl) (fun i c H8 hm e8 => ?_)) (fun p H8 e8 hp => rc_sumX (sq_of hp))) ?_) fun H8 e8 => ?_
            · have hi := (List.getElem?_eq_some_iff.mp hm).1
              walk_at "ev"
            · rw [htF_idxC cs6 _ (fun i c => by rw [show (i : Int) - 4 = -4 + (i : Int) by omega])]
            have hsq8 := ex_l e8 hsq7
            have h8 := e8 _ _ (e7 _ _ h6)
            have E8 := (e6.trans e7).trans e8
            apply s_when
            · walk_at "ev"
            · intro hb8 H9 e9
              rw [Bool.and_eq_true] at hb8
              have hh : 1 < ht cs6 := of_decide_eq_true hb8.1
              have hn : 1 < cs6.sum := by
                have := of_decide_eq_true hb8.2
                omega
              refine q_asg ev_c fun H10 e10 => ?_
              have h10 := e10 _ _ (e9 _ _ h8)
              have E10 := (E8.trans e9).trans e10
              refine q_forR1 (n := 6) (ea_cons ev_c ea_nil) (by omega) (fun j σ2 H2 => ∃ y4 y8, σ2 = [some (.ref a), some (.int i), some (.int (cellV ns i)), some (.ref p), y4, some (.int F), some (.int (ht cs6)), some (.int (lastS cs6 j)), y8, y9] ∧ Ex H H2 ∧ H2 p = some (.lst (cs6.map vn))) (fun H2 e2 => ⟨_, _, rfl, E10.trans e2, e2 _ _ h10⟩) ?_ ?_
              · rintro j σ2 H2 hj ⟨y4, y8, rfl, e2, h2⟩
                have hsq2 : SqL K H2 p (cs6.map vn) := sq_of h2
                have hix : Ev (tOp (rIxL K) (tVar 3) (tVar 4)) (List.set [some (.ref a), some (.int i), some (.int (cellV ns i)), some (.ref p), y4, some (.int F), some (.int (ht cs6)), some (.int (lastS cs6 j)), y8, y9] 4 (some (.int (j : Int)))) H2 (vn (cs6.getD j 0)) := ev_op (ev_var rfl) (ev_var rfl) (rv_ixL hsq2 (atI_vn (by omega) (by omega)))
                refine q_asgL (el_catLL (el_catLL (el_hi (i := (j : Int)) (ev_var rfl) hsq2 (ev_var rfl) (by omega)) (el_lst (ea_cons (ev_op hix ev_c rv_I0) ea_nil) (by show 1 ≤ 100000; decide)) ?_) (el_lo (i := (j : Int) + 1) (ev_var rfl) hsq2 (ev_op (ev_var rfl) ev_c rv_I0) (by omega)) ?_) fun q H3 hq e3 h3 => ?_
                · simp
                  omega
                · simp
                  omega
                have hsq3 := ex_l e3 hsq2
                have hix3 : Ev (tOp (rIxL K) (tVar 3) (tVar 4)) (List.set (List.set [some (.ref a), some (.int i), some (.int (cellV ns i)), some (.ref p), y4, some (.int F), some (.int (ht cs6)), some (.int (lastS cs6 j)), y8, y9] 4 (some (.int (j : Int)))) 8 (some (.ref q))) H3 (vn (cs6.getD j 0)) := ev_op (ev_var rfl) (ev_var rfl) (rv_ixL hsq3 (atI_vn (by omega) (by omega)))
                refine s_when (b := decide ((0 : Int) < (cs6.getD j 0 : Int)) && decide ((0 : Int) < ht cs6 - ((j : Int) - 4))) (et_and (et_test (ev_op hix3 ev_c rv_I0)) (fun _ => et_test (ev_op (ev_op (ev_var rfl) (ev_op (ev_var rfl) ev_c rv_I0) rv_I0) ev_c rv_I0))) (fun hb H4 e4 => ?_) (fun hb H4 e4 => ?_)
                · rw [Bool.and_eq_true] at hb
                  have hc : 0 < cs6.getD j 0 := by
                    have := of_decide_eq_true hb.1
                    omega
                  have sl := sum_less cs6 j hc
                  have hq4 : SqL K H4 q ((less cs6 j).map vn) := by
                    rw [← fewer_eq (by omega) hc]
                    exact sq_of (e4 _ _ h3)
                  have ll : (less cs6 j).length = 6 := by rw [less_len]; exact l6
                  refine s_asg (v := .int (lastS cs6 j + howMany (less cs6 j))) ?_ fun H5 e5 => ?_
                  · refine ev_op (ev_var rfl) (ev_call (ea_cons (ev_var rfl) ea_nil) (v_how_many hq4 ll (by omega) (by omega))) rv_I0
                  · refine ⟨some (.int (j : Int)), some (.ref q), ?_, ((e2.trans e3).trans e4).trans e5, e5 _ _ (e4 _ _ (e3 _ _ h2))⟩
                    have : lastS cs6 (j + 1) = lastS cs6 j + howMany (less cs6 j) := by
                      show lastS cs6 j + lastW cs6 j = _
                      unfold lastW
                      rw [if_pos hc]
                    rw [this]
                    rfl
                · refine ⟨some (.int (j : Int)), some (.ref q), ?_, (e2.trans e3).trans e4, e4 _ _ (e3 _ _ h2)⟩
                  have hc : ¬ 0 < cs6.getD j 0 := by
                    intro hc
                    rw [Bool.and_eq_false_iff] at hb
                    rcases hb with hb | hb
                    · have := of_decide_eq_false hb
                      omega
                    · have := of_decide_eq_false hb
                      omega
                  have : lastS cs6 (j + 1) = lastS cs6 j := by
                    show lastS cs6 j + lastW cs6 j = _
                    unfold lastW
                    rw [if_neg hc, Int.add_zero]
                  rw [this]
                  rfl
              · rintro σ2 H2 ⟨y4, y8, rfl, e2, h2⟩
                have hsq2 : SqL K H2 p (cs6.map vn) := sq_of h2
                have hlast : lastS cs6 6 = howMany cs6 := by
                  rw [lastS_six]
                  exact hm_last l6 hn (by omega)
                apply s_when
                · walk_at "ev"
                · intro hb
                  exfalso
                  rw [show (6 : Int).toNat = 6 from rfl, hlast] at hb
                  simp at hb
                · intro _ H3 e3
                  exact ⟨_, _, _, _, _, _, _, _, _, rfl, e2.trans e3⟩
            · intro _ H9 e9
              exact ⟨_, _, _, _, _, _, _, _, _, rfl, E8.trans e9⟩
    · rintro σ' H' ⟨y1, y2, y3, y4, y5, y6, y7, y8, y9, rfl, e⟩
      have c1 : howMany [0, 0, 0, 29, 0, 31] = 3814986502092304 := hm_known _ _ (by decide +kernel)
      have c2 : howMany [12, 0, 0, 0, 0, 48] = 0 := hm_known _ _ (by decide +kernel)
      have c3 : howMany [0, 0, 0, 0, 0, 60] = 1 := hm_known _ _ (by decide +kernel)
      have c4 : howMany [0, 0, 0, 0, 59, 1] = 1 := hm_known _ _ (by decide +kernel)
      refine q_when (et_or (et_test (ev_op (ev_hm [0, 0, 0, 29, 0, 31] _ (el_lst (vs := [0, 0, 0, 29, 0, 31].map vn) ?_ (by decide)) rfl rfl (by decide) (by decide) c1) ev_c (rv_ne rfl))) (fun _ => et_test (ev_op (ev_hm [12, 0, 0, 0, 0, 48] _ (el_lst (vs := [12, 0, 0, 0, 0, 48].map vn) ?_ (by decide)) rfl rfl (by decide) (by decide) c2) ev_c (rv_ne rfl)))) (fun hb => ?_) (fun _ H1 e1 => ?_)
      · exact (ea_cons ev_c (ea_cons ev_c (ea_cons ev_c (ea_cons ev_c (ea_cons ev_c (ea_cons ev_c ea_nil))))))
      · exact (ea_cons ev_c (ea_cons ev_c (ea_cons ev_c (ea_cons ev_c (ea_cons ev_c (ea_cons ev_c ea_nil))))))
      · exfalso
        simp at hb
      · refine s_ret (ev_andV (ev_op (ev_hm [0, 0, 0, 0, 0, 60] _ (el_lst (vs := [0, 0, 0, 0, 0, 60].map vn) ?_ (by decide)) rfl rfl (by decide) (by decide) c3) ev_c (rv_eq rfl)) (fun _ => ev_op (ev_hm [0, 0, 0, 0, 59, 1] _ (el_lst (vs := [0, 0, 0, 0, 59, 1].map vn) ?_ (by decide)) rfl rfl (by decide) (by decide) c4) ev_c (rv_eq rfl))) fun H2 e2 => ?_
        · exact (ea_cons ev_c (ea_cons ev_c (ea_cons ev_c (ea_cons ev_c (ea_cons ev_c (ea_cons ev_c ea_nil))))))
        · exact (ea_cons ev_c (ea_cons ev_c (ea_cons ev_c (ea_cons ev_c (ea_cons ev_c (ea_cons ev_c ea_nil))))))
        · rw [decide_eq_true rfl]
          exact k H2
theorem all_mk {l : PySem.W.OpenLaw} {w : World} {K : PySem.W.Frag} {h : Heap} {mg : Str → Option Value} {fa : Addr} (X : K.In h) (G : h.Ns mainGlobals mg) (hfa : mg "law" = some (.ref fa))
    {f_l_cell_at : Addr} {od_l_cell_at an_l_cell_at : Option Addr} {sl_l_cell_at : Array (Option Value)} {oc_l_cell_at kV_l_cell_at dc_l_cell_at pm_l_cell_at cd_l_cell_at ct_l_cell_at : Value}
    {f_l_orders : Addr} {od_l_orders an_l_orders : Option Addr} {sl_l_orders : Array (Option Value)} {oc_l_orders kV_l_orders dc_l_orders pm_l_orders cd_l_orders ct_l_orders : Value}
    {f_l_due : Addr} {od_l_due an_l_due : Option Addr} {sl_l_due : Array (Option Value)} {oc_l_due kV_l_due dc_l_due pm_l_due cd_l_due ct_l_due : Value}
    {f_l_draw : Addr} {od_l_draw an_l_draw : Option Addr} {sl_l_draw : Array (Option Value)} {oc_l_draw kV_l_draw dc_l_draw pm_l_draw cd_l_draw ct_l_draw : Value}
    {f_l_number : Addr} {od_l_number an_l_number : Option Addr} {sl_l_number : Array (Option Value)} {oc_l_number kV_l_number dc_l_number pm_l_number cd_l_number ct_l_number : Value}
    {f_is_whole : Addr} {od_is_whole an_is_whole : Option Addr} {sl_is_whole : Array (Option Value)} {oc_is_whole kV_is_whole dc_is_whole pm_is_whole cd_is_whole ct_is_whole : Value}
    {f_is_between : Addr} {od_is_between an_is_between : Option Addr} {sl_is_between : Array (Option Value)} {oc_is_between kV_is_between dc_is_between pm_is_between cd_is_between ct_is_between : Value}
    {f_check_counts : Addr} {od_check_counts an_check_counts : Option Addr} {sl_check_counts : Array (Option Value)} {oc_check_counts kV_check_counts dc_check_counts pm_check_counts cd_check_counts ct_check_counts : Value}
    {f_height_of : Addr} {od_height_of an_height_of : Option Addr} {sl_height_of : Array (Option Value)} {oc_height_of kV_height_of dc_height_of pm_height_of cd_height_of ct_height_of : Value}
    {f_turns_of : Addr} {od_turns_of an_turns_of : Option Addr} {sl_turns_of : Array (Option Value)} {oc_turns_of kV_turns_of dc_turns_of pm_turns_of cd_turns_of ct_turns_of : Value}
    {f_how_many : Addr} {od_how_many an_how_many : Option Addr} {sl_how_many : Array (Option Value)} {oc_how_many kV_how_many dc_how_many pm_how_many cd_how_many ct_how_many : Value}
    {f_law : Addr} {od_law an_law : Option Addr} {sl_law : Array (Option Value)} {oc_law kV_law dc_law pm_law cd_law ct_law : Value}
    {t_LEAST : Tok}
    {t_GREATEST : Tok}
    {t_LONGEST : Tok}
    {C_StepError : Addr}
    {C_BadCounts : Addr}
    (a_l_cell_at : PySem.W.nsIn K mainGlobals "_law_cell_at" = some (some (.ref f_l_cell_at)))
    (l_l_cell_at : K.lookup f_l_cell_at = some ⟨oc_l_cell_at, od_l_cell_at, .func (PySem.W.fnOf "_law_cell_at" "_law_cell_at" (defArgs s_l_cell_at) (defBody s_l_cell_at) (defScope s_l_cell_at) .none kV_l_cell_at dc_l_cell_at pm_l_cell_at an_l_cell_at cd_l_cell_at ct_l_cell_at), sl_l_cell_at⟩)
    (c_l_cell_at : PySem.W.codeIn K cd_l_cell_at "_law_cell_at" = true)
    (k_l_cell_at : PySem.W.keepIn K (.ref f_l_cell_at) = true)
    (a_l_orders : PySem.W.nsIn K mainGlobals "_law_orders" = some (some (.ref f_l_orders)))
    (l_l_orders : K.lookup f_l_orders = some ⟨oc_l_orders, od_l_orders, .func (PySem.W.fnOf "_law_orders" "_law_orders" (defArgs s_l_orders) (defBody s_l_orders) (defScope s_l_orders) .none kV_l_orders dc_l_orders pm_l_orders an_l_orders cd_l_orders ct_l_orders), sl_l_orders⟩)
    (c_l_orders : PySem.W.codeIn K cd_l_orders "_law_orders" = true)
    (k_l_orders : PySem.W.keepIn K (.ref f_l_orders) = true)
    (a_l_due : PySem.W.nsIn K mainGlobals "_law_due" = some (some (.ref f_l_due)))
    (l_l_due : K.lookup f_l_due = some ⟨oc_l_due, od_l_due, .func (PySem.W.fnOf "_law_due" "_law_due" (defArgs s_l_due) (defBody s_l_due) (defScope s_l_due) .none kV_l_due dc_l_due pm_l_due an_l_due cd_l_due ct_l_due), sl_l_due⟩)
    (c_l_due : PySem.W.codeIn K cd_l_due "_law_due" = true)
    (k_l_due : PySem.W.keepIn K (.ref f_l_due) = true)
    (a_l_draw : PySem.W.nsIn K mainGlobals "_law_draw" = some (some (.ref f_l_draw)))
    (l_l_draw : K.lookup f_l_draw = some ⟨oc_l_draw, od_l_draw, .func (PySem.W.fnOf "_law_draw" "_law_draw" (defArgs s_l_draw) (defBody s_l_draw) (defScope s_l_draw) .none kV_l_draw dc_l_draw pm_l_draw an_l_draw cd_l_draw ct_l_draw), sl_l_draw⟩)
    (c_l_draw : PySem.W.codeIn K cd_l_draw "_law_draw" = true)
    (k_l_draw : PySem.W.keepIn K (.ref f_l_draw) = true)
    (a_l_number : PySem.W.nsIn K mainGlobals "_law_number" = some (some (.ref f_l_number)))
    (l_l_number : K.lookup f_l_number = some ⟨oc_l_number, od_l_number, .func (PySem.W.fnOf "_law_number" "_law_number" (defArgs s_l_number) (defBody s_l_number) (defScope s_l_number) .none kV_l_number dc_l_number pm_l_number an_l_number cd_l_number ct_l_number), sl_l_number⟩)
    (c_l_number : PySem.W.codeIn K cd_l_number "_law_number" = true)
    (k_l_number : PySem.W.keepIn K (.ref f_l_number) = true)
    (a_is_whole : PySem.W.nsIn K mainGlobals "is_whole" = some (some (.ref f_is_whole)))
    (l_is_whole : K.lookup f_is_whole = some ⟨oc_is_whole, od_is_whole, .func (PySem.W.fnOf "is_whole" "is_whole" (defArgs s_is_whole) (defBody s_is_whole) (defScope s_is_whole) .none kV_is_whole dc_is_whole pm_is_whole an_is_whole cd_is_whole ct_is_whole), sl_is_whole⟩)
    (c_is_whole : PySem.W.codeIn K cd_is_whole "is_whole" = true)
    (k_is_whole : PySem.W.keepIn K (.ref f_is_whole) = true)
    (a_is_between : PySem.W.nsIn K mainGlobals "is_between" = some (some (.ref f_is_between)))
    (l_is_between : K.lookup f_is_between = some ⟨oc_is_between, od_is_between, .func (PySem.W.fnOf "is_between" "is_between" (defArgs s_is_between) (defBody s_is_between) (defScope s_is_between) .none kV_is_between dc_is_between pm_is_between an_is_between cd_is_between ct_is_between), sl_is_between⟩)
    (c_is_between : PySem.W.codeIn K cd_is_between "is_between" = true)
    (k_is_between : PySem.W.keepIn K (.ref f_is_between) = true)
    (a_check_counts : PySem.W.nsIn K mainGlobals "check_counts" = some (some (.ref f_check_counts)))
    (l_check_counts : K.lookup f_check_counts = some ⟨oc_check_counts, od_check_counts, .func (PySem.W.fnOf "check_counts" "check_counts" (defArgs s_check_counts) (defBody s_check_counts) (defScope s_check_counts) .none kV_check_counts dc_check_counts pm_check_counts an_check_counts cd_check_counts ct_check_counts), sl_check_counts⟩)
    (c_check_counts : PySem.W.codeIn K cd_check_counts "check_counts" = true)
    (k_check_counts : PySem.W.keepIn K (.ref f_check_counts) = true)
    (a_height_of : PySem.W.nsIn K mainGlobals "height_of" = some (some (.ref f_height_of)))
    (l_height_of : K.lookup f_height_of = some ⟨oc_height_of, od_height_of, .func (PySem.W.fnOf "height_of" "height_of" (defArgs s_height_of) (defBody s_height_of) (defScope s_height_of) .none kV_height_of dc_height_of pm_height_of an_height_of cd_height_of ct_height_of), sl_height_of⟩)
    (c_height_of : PySem.W.codeIn K cd_height_of "height_of" = true)
    (k_height_of : PySem.W.keepIn K (.ref f_height_of) = true)
    (a_turns_of : PySem.W.nsIn K mainGlobals "turns_of" = some (some (.ref f_turns_of)))
    (l_turns_of : K.lookup f_turns_of = some ⟨oc_turns_of, od_turns_of, .func (PySem.W.fnOf "turns_of" "turns_of" (defArgs s_turns_of) (defBody s_turns_of) (defScope s_turns_of) .none kV_turns_of dc_turns_of pm_turns_of an_turns_of cd_turns_of ct_turns_of), sl_turns_of⟩)
    (c_turns_of : PySem.W.codeIn K cd_turns_of "turns_of" = true)
    (k_turns_of : PySem.W.keepIn K (.ref f_turns_of) = true)
    (a_how_many : PySem.W.nsIn K mainGlobals "how_many" = some (some (.ref f_how_many)))
    (l_how_many : K.lookup f_how_many = some ⟨oc_how_many, od_how_many, .func (PySem.W.fnOf "how_many" "how_many" (defArgs s_how_many) (defBody s_how_many) (defScope s_how_many) .none kV_how_many dc_how_many pm_how_many an_how_many cd_how_many ct_how_many), sl_how_many⟩)
    (c_how_many : PySem.W.codeIn K cd_how_many "how_many" = true)
    (k_how_many : PySem.W.keepIn K (.ref f_how_many) = true)
    (a_law : PySem.W.nsIn K mainGlobals "law" = some (some (.ref f_law)))
    (l_law : K.lookup f_law = some ⟨oc_law, od_law, .func (PySem.W.fnOf "law" "law" (defArgs s_law) (defBody s_law) (defScope s_law) .none kV_law dc_law pm_law an_law cd_law ct_law), sl_law⟩)
    (c_law : PySem.W.codeIn K cd_law "law" = true)
    (k_law : PySem.W.keepIn K (.ref f_law) = true)
    (z_all : PySem.W.nsIn K mainGlobals "all" = some none)
    (z_bool : PySem.W.nsIn K mainGlobals "bool" = some none)
    (z_enumerate : PySem.W.nsIn K mainGlobals "enumerate" = some none)
    (z_int : PySem.W.nsIn K mainGlobals "int" = some none)
    (z_isinstance : PySem.W.nsIn K mainGlobals "isinstance" = some none)
    (z_len : PySem.W.nsIn K mainGlobals "len" = some none)
    (z_list : PySem.W.nsIn K mainGlobals "list" = some none)
    (z_max : PySem.W.nsIn K mainGlobals "max" = some none)
    (z_min : PySem.W.nsIn K mainGlobals "min" = some none)
    (z_range : PySem.W.nsIn K mainGlobals "range" = some none)
    (z_sum : PySem.W.nsIn K mainGlobals "sum" = some none)
    (i_LEAST : PySem.W.nsIn K mainGlobals "LEAST" = some (some (.int (-4) t_LEAST)))
    (i_GREATEST : PySem.W.nsIn K mainGlobals "GREATEST" = some (some (.int (1) t_GREATEST)))
    (i_LONGEST : PySem.W.nsIn K mainGlobals "LONGEST" = some (some (.int (60) t_LONGEST)))
    (a_C_StepError : PySem.W.nsIn K mainGlobals "StepError" = some (some (.ref C_StepError)))
    (a_C_BadCounts : PySem.W.nsIn K mainGlobals "BadCounts" = some (some (.ref C_BadCounts))) :
    ∃ fd : FuncData, (∀ (s : Shared) (v : Value), BindsTo s fd ⟨[v], []⟩ [("_law_script", v)]) ∧ ∀ base : Heap, K.In base → base.Ns mainGlobals mg → FnOk l.prog w K mg base CX0 5 fa fd ["_law_script"] (sp_law K) := by
  have e := hfa.symm.trans (PySem.W.mg_of X G a_law)
  cases e
  have T : Txt K mg { StepError := C_StepError, BadRow := 0, BadTurn := 0, BadCounts := C_BadCounts, BadNumber := 0, BadForest := 0, BadPlace := 0, BadStep := 0, NotAbove := 0, TooMany := 0, Last := 0, Answer := 0, Round := 0, Stays := 0, Falls := 0, Ring := 0 } := { b_all := PySem.W.mg_none_of X G z_all, b_bool := PySem.W.mg_none_of X G z_bool, b_enumerate := PySem.W.mg_none_of X G z_enumerate, b_int := PySem.W.mg_none_of X G z_int, b_isinstance := PySem.W.mg_none_of X G z_isinstance, b_len := PySem.W.mg_none_of X G z_len, b_list := PySem.W.mg_none_of X G z_list, b_max := PySem.W.mg_none_of X G z_max, b_min := PySem.W.mg_none_of X G z_min, b_range := PySem.W.mg_none_of X G z_range, b_sum := PySem.W.mg_none_of X G z_sum, g_LEAST := ⟨_, PySem.W.mg_of X G i_LEAST⟩, g_GREATEST := ⟨_, PySem.W.mg_of X G i_GREATEST⟩, g_LONGEST := ⟨_, PySem.W.mg_of X G i_LONGEST⟩, g_StepError := PySem.W.mg_of X G a_C_StepError, g_BadCounts := PySem.W.mg_of X G a_C_BadCounts }
  have D_l_cell_at : Df K mg "_law_cell_at" s_l_cell_at ["_law_script", "_law_k"] f_l_cell_at _ := ⟨fun_mk (st := s_l_cell_at) l_l_cell_at c_l_cell_at k_l_cell_at, (fun_mk (st := s_l_cell_at) l_l_cell_at c_l_cell_at k_l_cell_at).binds (ps := ["_law_script", "_law_k"]) fun _ _ _ _ _ _ us hl => match us, hl with | [_, _], _ => rfl, PySem.W.mg_of X G a_l_cell_at⟩
  have D_l_orders : Df K mg "_law_orders" s_l_orders ["_law_counts"] f_l_orders _ := ⟨fun_mk (st := s_l_orders) l_l_orders c_l_orders k_l_orders, (fun_mk (st := s_l_orders) l_l_orders c_l_orders k_l_orders).binds (ps := ["_law_counts"]) fun _ _ _ _ _ _ us hl => match us, hl with | [_], _ => rfl, PySem.W.mg_of X G a_l_orders⟩
  have D_l_due : Df K mg "_law_due" s_l_due ["_law_counts"] f_l_due _ := ⟨fun_mk (st := s_l_due) l_l_due c_l_due k_l_due, (fun_mk (st := s_l_due) l_l_due c_l_due k_l_due).binds (ps := ["_law_counts"]) fun _ _ _ _ _ _ us hl => match us, hl with | [_], _ => rfl, PySem.W.mg_of X G a_l_due⟩
  have D_l_draw : Df K mg "_law_draw" s_l_draw ["_law_cell", "_law_k", "_law_most"] f_l_draw _ := ⟨fun_mk (st := s_l_draw) l_l_draw c_l_draw k_l_draw, (fun_mk (st := s_l_draw) l_l_draw c_l_draw k_l_draw).binds (ps := ["_law_cell", "_law_k", "_law_most"]) fun _ _ _ _ _ _ us hl => match us, hl with | [_, _, _], _ => rfl, PySem.W.mg_of X G a_l_draw⟩
  have D_l_number : Df K mg "_law_number" s_l_number ["_law_cell", "_law_k", "_law_limit"] f_l_number _ := ⟨fun_mk (st := s_l_number) l_l_number c_l_number k_l_number, (fun_mk (st := s_l_number) l_l_number c_l_number k_l_number).binds (ps := ["_law_cell", "_law_k", "_law_limit"]) fun _ _ _ _ _ _ us hl => match us, hl with | [_, _, _], _ => rfl, PySem.W.mg_of X G a_l_number⟩
  have D_is_whole : Df K mg "is_whole" s_is_whole ["thing"] f_is_whole _ := ⟨fun_mk (st := s_is_whole) l_is_whole c_is_whole k_is_whole, (fun_mk (st := s_is_whole) l_is_whole c_is_whole k_is_whole).binds (ps := ["thing"]) fun _ _ _ _ _ _ us hl => match us, hl with | [_], _ => rfl, PySem.W.mg_of X G a_is_whole⟩
  have D_is_between : Df K mg "is_between" s_is_between ["thing", "least", "most"] f_is_between _ := ⟨fun_mk (st := s_is_between) l_is_between c_is_between k_is_between, (fun_mk (st := s_is_between) l_is_between c_is_between k_is_between).binds (ps := ["thing", "least", "most"]) fun _ _ _ _ _ _ us hl => match us, hl with | [_, _, _], _ => rfl, PySem.W.mg_of X G a_is_between⟩
  have D_check_counts : Df K mg "check_counts" s_check_counts ["counts"] f_check_counts _ := ⟨fun_mk (st := s_check_counts) l_check_counts c_check_counts k_check_counts, (fun_mk (st := s_check_counts) l_check_counts c_check_counts k_check_counts).binds (ps := ["counts"]) fun _ _ _ _ _ _ us hl => match us, hl with | [_], _ => rfl, PySem.W.mg_of X G a_check_counts⟩
  have D_height_of : Df K mg "height_of" s_height_of ["counts"] f_height_of _ := ⟨fun_mk (st := s_height_of) l_height_of c_height_of k_height_of, (fun_mk (st := s_height_of) l_height_of c_height_of k_height_of).binds (ps := ["counts"]) fun _ _ _ _ _ _ us hl => match us, hl with | [_], _ => rfl, PySem.W.mg_of X G a_height_of⟩
  have D_turns_of : Df K mg "turns_of" s_turns_of ["counts"] f_turns_of _ := ⟨fun_mk (st := s_turns_of) l_turns_of c_turns_of k_turns_of, (fun_mk (st := s_turns_of) l_turns_of c_turns_of k_turns_of).binds (ps := ["counts"]) fun _ _ _ _ _ _ us hl => match us, hl with | [_], _ => rfl, PySem.W.mg_of X G a_turns_of⟩
  have D_how_many : Df K mg "how_many" s_how_many ["counts"] f_how_many _ := ⟨fun_mk (st := s_how_many) l_how_many c_how_many k_how_many, (fun_mk (st := s_how_many) l_how_many c_how_many k_how_many).binds (ps := ["counts"]) fun _ _ _ _ _ _ us hl => match us, hl with | [_], _ => rfl, PySem.W.mg_of X G a_how_many⟩
  have D_law : Df K mg "law" s_law ["_law_script"] _ _ := ⟨fun_mk (st := s_law) l_law c_law k_law, (fun_mk (st := s_law) l_law c_law k_law).binds (ps := ["_law_script"]) fun _ _ _ _ _ _ us hl => match us, hl with | [_], _ => rfl, PySem.W.mg_of X G a_law⟩
  refine ⟨PySem.W.fnOf "law" "law" (defArgs s_law) (defBody s_law) (defScope s_law) .none kV_law dc_law pm_law an_law cd_law ct_law, fun s v => .of_eq rfl, fun base _ _ => ?_⟩
  have C_l_cell_at := ok_l_cell_at (P := l.prog) (w := w) (base := base) T D_l_cell_at
  have C_l_orders := ok_l_orders (P := l.prog) (w := w) (base := base) T D_l_orders
  have C_l_due := ok_l_due (P := l.prog) (w := w) (base := base) T D_l_due C_l_orders
  have C_l_draw := ok_l_draw (P := l.prog) (w := w) (base := base) T D_l_draw
  have C_l_number := ok_l_number (P := l.prog) (w := w) (base := base) T D_l_number C_l_draw
  have C_is_whole := ok_is_whole (P := l.prog) (w := w) (base := base) T D_is_whole
  have C_is_between := ok_is_between (P := l.prog) (w := w) (base := base) T D_is_between C_is_whole
  have C_check_counts := ok_check_counts (P := l.prog) (w := w) (base := base) T D_check_counts C_is_between
  have C_height_of := ok_height_of (P := l.prog) (w := w) (base := base) T D_height_of
  have C_turns_of := ok_turns_of (P := l.prog) (w := w) (base := base) T D_turns_of
  have C_how_many := ok_how_many (P := l.prog) (w := w) (base := base) T D_how_many C_check_counts C_height_of C_turns_of
  exact ok_law (P := l.prog) (w := w) (base := base) T D_law C_l_cell_at C_l_due C_l_number C_how_many
end TA
open PySem PySem.W PyProof.Rows
set_option maxHeartbeats 0 in
theorem PySem.Challenge.cw_turnabove_k07_great_counts_holds : PySem.Challenge.rw_turnabove_k07_great_counts.Holds := by
  w_on; o_law; k_head; (case hw => w_witness2)
  k_fill
  refine L2.walk_of (l := PySem.Challenge.rw_turnabove_k07_great_counts) (n := 63) (k := 5) (x := "_law_script") (CX := fun _ => L2.CX0) (sp := fun w => TA.sp_law _) rfl (by decide) rfl ⟨rfl, by decide, by decide⟩ (fun w h Y => PySem.W.kIn_of Y) ?F (fun _ _ a ns hl _ hS => ⟨a, ns, rfl, hS, hl, fun _ => rfl⟩) (fun _ _ _ _ _ h => h)
  case F =>
    intro w mg fa h KX G hmg
    refine' TA.all_mk KX G hmg ?a_l_cell_at ?l_l_cell_at ?c_l_cell_at ?k_l_cell_at ?a_l_orders ?l_l_orders ?c_l_orders ?k_l_orders ?a_l_due ?l_l_due ?c_l_due ?k_l_due ?a_l_draw ?l_l_draw ?c_l_draw ?k_l_draw ?a_l_number ?l_l_number ?c_l_number ?k_l_number ?a_is_whole ?l_is_whole ?c_is_whole ?k_is_whole ?a_is_between ?l_is_between ?c_is_between ?k_is_between ?a_check_counts ?l_check_counts ?c_check_counts ?k_check_counts ?a_height_of ?l_height_of ?c_height_of ?k_height_of ?a_turns_of ?l_turns_of ?c_turns_of ?k_turns_of ?a_how_many ?l_how_many ?c_how_many ?k_how_many ?a_law ?l_law ?c_law ?k_law ?z_all ?z_bool ?z_enumerate ?z_int ?z_isinstance ?z_len ?z_list ?z_max ?z_min ?z_range ?z_sum ?i_LEAST ?i_GREATEST ?i_LONGEST ?a_C_StepError ?a_C_BadCounts
    (case a_l_cell_at => k_is)
    (case l_l_cell_at => k_is)
    (case c_l_cell_at => k_is)
    (case k_l_cell_at => k_is)
    (case a_l_orders => k_is)
    (case l_l_orders => k_is)
    (case c_l_orders => k_is)
    (case k_l_orders => k_is)
    (case a_l_due => k_is)
    (case l_l_due => k_is)
    (case c_l_due => k_is)
    (case k_l_due => k_is)
    (case a_l_draw => k_is)
    (case l_l_draw => k_is)
    (case c_l_draw => k_is)
    (case k_l_draw => k_is)
    (case a_l_number => k_is)
    (case l_l_number => k_is)
    (case c_l_number => k_is)
    (case k_l_number => k_is)
    (case a_is_whole => k_is)
    (case l_is_whole => k_is)
    (case c_is_whole => k_is)
    (case k_is_whole => k_is)
    (case a_is_between => k_is)
    (case l_is_between => k_is)
    (case c_is_between => k_is)
    (case k_is_between => k_is)
    (case a_check_counts => k_is)
    (case l_check_counts => k_is)
    (case c_check_counts => k_is)
    (case k_check_counts => k_is)
    (case a_height_of => k_is)
    (case l_height_of => k_is)
    (case c_height_of => k_is)
    (case k_height_of => k_is)
    (case a_turns_of => k_is)
    (case l_turns_of => k_is)
    (case c_turns_of => k_is)
    (case k_turns_of => k_is)
    (case a_how_many => k_is)
    (case l_how_many => k_is)
    (case c_how_many => k_is)
    (case k_how_many => k_is)
    (case a_law => k_is)
    (case l_law => k_is)
    (case c_law => k_is)
    (case k_law => k_is)
    (case z_all => k_is)
    (case z_bool => k_is)
    (case z_enumerate => k_is)
    (case z_int => k_is)
    (case z_isinstance => k_is)
    (case z_len => k_is)
    (case z_list => k_is)
    (case z_max => k_is)
    (case z_min => k_is)
    (case z_range => k_is)
    (case z_sum => k_is)
    (case i_LEAST => k_is)
    (case i_GREATEST => k_is)
    (case i_LONGEST => k_is)
    (case a_C_StepError => k_is)
    (case a_C_BadCounts => k_is)
