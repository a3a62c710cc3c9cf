import PyProof.Rows.All
import Wide.All
import OpenK.AllK
import Wide.FinOn
import HandS.ForMost
import HandS.TupAny
import HandS.Rev
import HandS.IsInst
import KE.GoesMore
import KE.GoesEnum
import HandS.Wide
import KE.RegKIsAll
import HandS.Text
import HandS.More
import HandS.Zip0
import HandS.Iter
import HandS.Strs
import KE.LcSums
import HandS.ClsMeth
import HandS.ExcInit
import HandS.ExcOwn
import HandS.WordsExc
import HandS.TryOnly
import HandS.ExcIs
import HandS.ExcField
import KE.KExcIs
import HandS.Set
import HandS.SetFor
import HandS.SetKeys
import KE.LtData
import KE.SortCalls
import KE.SortKeyHeap
import KE.DataMinMax
import HandS.SortKw
import HandS.TupSets
import KE.KDictKeyed
import KE.KDictCopyH
import HandS.List
import PySem.Challenge.RW_figurebook_k22_rings_gone_through
set_option Elab.async false
set_option linter.all false
section
namespace PowS
def sm (f : Nat → Int) : Nat → Int
  | 0 => 0
  | n + 1 => sm f n + f n
theorem sm_congr {f g : Nat → Int} : ∀ {n : Nat}, (∀ i, i < n → f i = g i) → sm f n = sm g n
  | 0, _ => rfl
  | n + 1, h => by
    show sm f n + f n = sm g n + g n
    rw [sm_congr fun i hi => h i (by omega), h n (by omega)]
theorem sm_add (f g : Nat → Int) : ∀ n, sm (fun i => f i + g i) n = sm f n + sm g n
  | 0 => rfl
  | n + 1 => by
    show sm _ n + (f n + g n) = (sm f n + f n) + (sm g n + g n)
    rw [sm_add f g n]; omega
theorem sm_mul (c : Int) (f : Nat → Int) : ∀ n, sm (fun i => c * f i) n = c * sm f n
  | 0 => by simp [sm]
  | n + 1 => by
    show sm _ n + c * f n = c * (sm f n + f n)
    rw [sm_mul c f n, Int.mul_add]
theorem sm_mulr (c : Int) (f : Nat → Int) (n : Nat) : sm (fun i => f i * c) n = sm f n * c := by
  rw [Int.mul_comm (sm f n) c, ← sm_mul]
  exact sm_congr fun i _ => Int.mul_comm _ _
theorem sm_zero : ∀ n, sm (fun _ => 0) n = 0
  | 0 => rfl
  | n + 1 => by show sm _ n + 0 = 0; rw [sm_zero n]; rfl
theorem sm_first (f : Nat → Int) : ∀ n, sm f (n + 1) = f 0 + sm (fun i => f (i + 1)) n
  | 0 => by simp [sm]
  | n + 1 => by
    show sm f (n + 1) + f (n + 1) = f 0 + (sm (fun i => f (i + 1)) n + f (n + 1))
    rw [sm_first f n]; omega
theorem sm_rev (f : Nat → Int) : ∀ n, sm (fun i => f (n - 1 - i)) n = sm f n
  | 0 => rfl
  | n + 1 => by
    rw [sm_first]
    show f (n + 1 - 1 - 0) + sm (fun i => f (n + 1 - 1 - (i + 1))) n = sm f n + f n
    have : sm (fun i => f (n + 1 - 1 - (i + 1))) n = sm f n := by
      rw [← sm_rev f n]
      exact sm_congr fun i hi => by congr 1; omega
    rw [this]
    have e : n + 1 - 1 - 0 = n := by omega
    rw [e]; omega
theorem sm_tri (F : Nat → Nat → Int) : ∀ N, sm (fun i => sm (fun j => F i j) (i + 1)) N = sm (fun j => sm (fun k => F (j + k) j) (N - j)) N
  | 0 => rfl
  | N + 1 => by
    show sm _ N + sm (fun j => F N j) (N + 1) = sm (fun j => sm (fun k => F (j + k) j) (N + 1 - j)) N + sm (fun k => F (N + k) N) (N + 1 - N)
    rw [sm_tri F N]
    have h1 : sm (fun j => sm (fun k => F (j + k) j) (N + 1 - j)) N = sm (fun j => sm (fun k => F (j + k) j) (N - j) + F N j) N :=
      sm_congr fun j hj => by
        have : N + 1 - j = (N - j) + 1 := by omega
        rw [this]
        show sm _ (N - j) + F (j + (N - j)) j = _
        rw [show j + (N - j) = N by omega]
    have h2 : sm (fun k => F (N + k) N) (N + 1 - N) = F N N := by
      rw [show N + 1 - N = 1 by omega]
      show (0 : Int) + F (N + 0) N = _
      rw [Int.zero_add]; rfl
    rw [h1, h2, sm_add]
    show _ + (sm (fun j => F N j) N + F N N) = _
    exact (Int.add_assoc _ _ _).symm
def cv (f g : Nat → Int) (n : Nat) : Int := sm (fun i => f i * g (n - i)) (n + 1)
theorem cv_comm (f g : Nat → Int) (n : Nat) : cv f g n = cv g f n := by
  unfold cv
  rw [← sm_rev]
  refine sm_congr fun i hi => ?_
  rw [Int.mul_comm, show n + 1 - 1 - i = n - i by omega, show n - (n - i) = i by omega]
theorem cv_assoc (f g h : Nat → Int) (n : Nat) : cv (cv f g) h n = cv f (cv g h) n := by
  unfold cv
  have e1 : sm (fun i => sm (fun j => f j * g (i - j)) (i + 1) * h (n - i)) (n + 1) = sm (fun i => sm (fun j => f j * g (i - j) * h (n - i)) (i + 1)) (n + 1) :=
    sm_congr fun i _ => (sm_mulr _ _ _).symm
  rw [e1, sm_tri fun i j => f j * g (i - j) * h (n - i)]
  refine sm_congr fun j hj => ?_
  rw [← sm_mul, show n + 1 - j = n - j + 1 by omega]
  refine sm_congr fun k hk => ?_
  rw [show j + k - j = k by omega, show n - (j + k) = n - j - k by omega, Int.mul_assoc]
theorem cv_add (f g h : Nat → Int) (n : Nat) : cv (fun k => f k + g k) h n = cv f h n + cv g h n := by
  unfold cv
  rw [← sm_add]
  exact sm_congr fun i _ => Int.add_mul _ _ _
def dv (f : Nat → Int) (n : Nat) : Int := (n : Int) * f n
theorem dv_cv (f g : Nat → Int) (n : Nat) : dv (cv f g) n = cv (dv f) g n + cv f (dv g) n := by
  unfold dv cv
  rw [← sm_mul, ← sm_add]
  refine sm_congr fun i hi => ?_
  have e : (n : Int) = (i : Int) + ((n - i : Nat) : Int) := by omega
  rw [e, Int.add_mul, Int.mul_assoc, ← Int.mul_assoc (f i), Int.mul_comm (f i) ((n - i : Nat) : Int), Int.mul_assoc]
theorem cv_congr {f f' g g' : Nat → Int} (h1 : ∀ n, f n = f' n) (h2 : ∀ n, g n = g' n) (n : Nat) : cv f g n = cv f' g' n := sm_congr fun i _ => by rw [h1, h2]
theorem log_cv {f g F G : Nat → Int} (hf : ∀ n, dv f n = cv F f n) (hg : ∀ n, dv g n = cv G g n) (n : Nat) : dv (cv f g) n = cv (fun k => F k + G k) (cv f g) n := by
  rw [dv_cv, cv_congr hf (fun _ => rfl), cv_congr (fun _ => rfl) hg, cv_add, cv_assoc]
  congr 1
  rw [← cv_assoc, cv_congr (cv_comm f G) (fun _ => rfl), cv_assoc]
theorem ways_sum {E : Nat → Int} {a : Int} (h : ∀ m : Nat, ((m : Int) + 1) * E (m + 1) = (a + (m : Int)) * E m) : ∀ m : Nat, (m : Int) * E m = a * sm E m
  | 0 => by simp [sm]
  | m + 1 => by
    show ((m + 1 : Nat) : Int) * E (m + 1) = a * (sm E m + E m)
    have e : ((m + 1 : Nat) : Int) = (m : Int) + 1 := by omega
    rw [e, h m, Int.add_mul, Int.mul_add, ← ways_sum h m, Int.add_comm]
def spread (s : Nat) (E : Nat → Int) (n : Nat) : Int := if n % s = 0 then E (n / s) else 0
def step (s : Nat) (a : Int) (k : Nat) : Int := if k % s = 0 ∧ 0 < k then (s : Int) * a else 0
theorem sm_spread (s : Nat) (hs : 0 < s) (f : Nat → Int) : ∀ n, sm (fun i => if i % s = 0 then f (i / s) else 0) (n * s) = sm f n
  | 0 => by simp [sm]
  | n + 1 => by
    have hb : ∀ r, r ≤ s → sm (fun i => if i % s = 0 then f (i / s) else 0) (n * s + r) = sm f n + (if 0 < r then f n else 0) := fun r => by
      induction r with
      | zero => intro _; rw [Nat.add_zero, sm_spread s hs f n]; simp
      | succ r ih =>
        intro hr
        show sm _ (n * s + r) + (if (n * s + r) % s = 0 then f ((n * s + r) / s) else 0) = _
        rw [ih (by omega)]
        by_cases h0 : r = 0
        · subst h0
          rw [Nat.add_zero, Nat.mul_mod_left, Nat.mul_div_cancel _ hs]
          simp
        · have e1 : (n * s + r) % s = r := by rw [Nat.add_comm, Nat.add_mul_mod_self_right, Nat.mod_eq_of_lt (by omega)]
          rw [e1, if_neg h0, if_pos (by omega : 0 < r), if_pos (by omega : 0 < r + 1)]
          omega
    have := hb s (Nat.le_refl _)
    rw [if_pos hs] at this
    rw [Nat.add_mul, Nat.one_mul, this]
    rfl
theorem mod_sub {n i s : Nat} (hi : i ≤ n) (h1 : i % s = 0) : (n - i) % s = n % s := by
  obtain ⟨k, hk⟩ := Nat.dvd_of_mod_eq_zero h1
  subst hk
  rw [Nat.mul_comm] at hi ⊢
  obtain ⟨r, rfl⟩ : ∃ r, n = k * s + r := ⟨n - k * s, by omega⟩
  rw [Nat.add_sub_cancel_left, Nat.add_comm, Nat.add_mul_mod_self_right]
theorem log_spread {E : Nat → Int} {a : Int} {s : Nat} (hs : 0 < s) (h : ∀ m : Nat, ((m : Int) + 1) * E (m + 1) = (a + (m : Int)) * E m) (n : Nat) : dv (spread s E) n = cv (step s a) (spread s E) n := by
  rw [cv_comm]
  by_cases hn : n % s = 0
  · obtain ⟨m, hm⟩ := Nat.dvd_of_mod_eq_zero hn
    rw [Nat.mul_comm] at hm
    subst hm
    have e0 : sm (fun i => spread s E i * step s a (m * s - i)) (m * s) = sm (fun i => if i % s = 0 then (fun j => E j * ((s : Int) * a)) (i / s) else 0) (m * s) := sm_congr fun i hi => by
      unfold spread step
      by_cases h1 : i % s = 0
      · rw [if_pos h1, if_pos h1, if_pos ⟨by rw [mod_sub (by omega) h1]; exact hn, by omega⟩]
      · rw [if_neg h1, if_neg h1, Int.zero_mul]
    have e1 : cv (spread s E) (step s a) (m * s) = sm (fun i => spread s E i * step s a (m * s - i)) (m * s) + spread s E (m * s) * step s a (m * s - m * s) := rfl
    have e2 : step s a (m * s - m * s) = 0 := by unfold step; rw [Nat.sub_self, if_neg (by omega)]
    have e4 := sm_spread s hs (fun j => E j * ((s : Int) * a)) m
    rw [e1, e0, e4, e2, Int.mul_zero, Int.add_zero, sm_mulr]
    unfold dv spread
    rw [if_pos hn, Nat.mul_div_cancel _ hs]
    have := ways_sum h m
    have e3 : ((m * s : Nat) : Int) = (m : Int) * (s : Int) := Int.natCast_mul _ _
    rw [e3, Int.mul_comm (m : Int), Int.mul_assoc, this, Int.mul_comm (sm E m), Int.mul_assoc]
  · have e0 : cv (spread s E) (step s a) n = 0 := by
      unfold cv
      have : sm (fun i => spread s E i * step s a (n - i)) (n + 1) = sm (fun _ => 0) (n + 1) := sm_congr fun i hi => by
        unfold spread step
        by_cases h1 : i % s = 0
        · have h2 : ¬ ((n - i) % s = 0 ∧ 0 < n - i) := by
            rw [mod_sub (by omega) h1]; exact fun z => hn z.1
          rw [if_neg h2, Int.mul_zero]
        · rw [if_neg h1, Int.zero_mul]
      rw [this, sm_zero]
    rw [e0]
    unfold dv spread
    rw [if_neg hn, Int.mul_zero]
theorem sm_more {f : Nat → Int} {n : Nat} : ∀ (d : Nat), (∀ i, n ≤ i → i < n + d → f i = 0) → sm f (n + d) = sm f n
  | 0, _ => rfl
  | d + 1, h => by
    show sm f (n + d) + f (n + d) = sm f n
    rw [sm_more d fun i h1 h2 => h i h1 (by omega), h (n + d) (by omega) (by omega), Int.add_zero]
theorem cv_spread (s : Nat) (hs : 0 < s) (E b : Nat → Int) (n : Nat) : cv (spread s E) b n = sm (fun m => E m * b (n - m * s)) (n / s + 1) := by
  rw [← sm_spread s hs]
  have hdm := Nat.div_add_mod n s
  have hlt := Nat.mod_lt n hs
  have hcm : s * (n / s) = n / s * s := Nat.mul_comm _ _
  have hk : (n / s + 1) * s = (n + 1) + ((n / s + 1) * s - (n + 1)) := by
    rw [Nat.add_mul, Nat.one_mul]; omega
  have hz : ∀ i, n + 1 ≤ i → i < (n + 1) + ((n / s + 1) * s - (n + 1)) → (if i % s = 0 then E (i / s) * b (n - i / s * s) else 0) = 0 := fun i h1 h2 => by
    rw [← hk, Nat.add_mul, Nat.one_mul] at h2
    have hi : i % s ≠ 0 := fun z => by
      obtain ⟨k, rfl⟩ := Nat.dvd_of_mod_eq_zero z
      have h3 : n / s < k := by
        rcases Nat.lt_or_ge (n / s) k with h | h
        · exact h
        · have := Nat.mul_le_mul_left s h; omega
      have := Nat.mul_le_mul_left s (Nat.succ_le_of_lt h3)
      rw [Nat.mul_succ] at this
      omega
    rw [if_neg hi]
  rw [hk, sm_more _ hz]
  unfold cv
  refine sm_congr fun i hi => ?_
  unfold spread
  by_cases h : i % s = 0
  · rw [if_pos h, if_pos h]
    have : i / s * s = i := by rw [Nat.mul_comm]; have := Nat.div_add_mod i s; omega
    rw [this]
  · rw [if_neg h, if_neg h, Int.zero_mul]
def delta (n : Nat) : Int := if n = 0 then 1 else 0
def pk (E : Nat → Nat → Int) : Nat → Nat → Int
  | 0 => delta
  | t + 1 => cv (spread (t + 1) (E (t + 1))) (pk E t)
def wsum (a : Nat → Int) (N k : Nat) : Int := sm (fun t => step (t + 1) (a (t + 1)) k) N
theorem log_pk {E : Nat → Nat → Int} {a : Nat → Int} (h : ∀ t m : Nat, ((m : Int) + 1) * E t (m + 1) = (a t + (m : Int)) * E t m) : ∀ (N n : Nat), dv (pk E N) n = cv (wsum a N) (pk E N) n
  | 0, n => by
    have e : cv (wsum a 0) (pk E 0) n = 0 := by
      unfold cv
      have : sm (fun i => wsum a 0 i * pk E 0 (n - i)) (n + 1) = sm (fun _ => 0) (n + 1) := sm_congr fun i _ => by
        show (0 : Int) * _ = 0
        rw [Int.zero_mul]
      rw [this, sm_zero]
    rw [e]
    show (n : Int) * delta n = 0
    unfold delta
    by_cases h0 : n = 0
    · subst h0; rfl
    · rw [if_neg h0, Int.mul_zero]
  | N + 1, n => by
    have := log_cv (log_spread (s := N + 1) (Nat.succ_pos N) (h (N + 1))) (log_pk h N) n
    show dv (cv (spread (N + 1) (E (N + 1))) (pk E N)) n = _
    rw [this]
    refine cv_congr (fun k => ?_) (fun _ => rfl) n
    show step (N + 1) (a (N + 1)) k + wsum a N k = wsum a N k + step (N + 1) (a (N + 1)) k
    exact Int.add_comm _ _
theorem pk_zero {E : Nat → Nat → Int} (h : ∀ t, E t 0 = 1) : ∀ N, pk E N 0 = 1
  | 0 => rfl
  | N + 1 => by
    show (0 : Int) + spread (N + 1) (E (N + 1)) 0 * pk E N (0 - 0) = 1
    rw [Nat.sub_self, pk_zero h N]
    unfold spread
    rw [Nat.zero_mod, if_pos rfl, Nat.zero_div, h]
    rfl
theorem wsum_zero (a : Nat → Int) : ∀ N, wsum a N 0 = 0 := fun N => by
  unfold wsum
  have : sm (fun t => step (t + 1) (a (t + 1)) 0) N = sm (fun _ => 0) N := sm_congr fun t _ => by
    unfold step; rw [if_neg (by omega)]
  rw [this, sm_zero]
theorem quot {c P : Nat → Int} (h : ∀ n, dv P n = cv c P n) (h0 : c 0 = 0) {n : Nat} (hn : n ≠ 0) : sm (fun k => c (k + 1) * P (n - (k + 1))) n = (n : Int) * P n ∧ sm (fun k => c (k + 1) * P (n - (k + 1))) n / (n : Int) = P n := by
  have e : sm (fun k => c (k + 1) * P (n - (k + 1))) n = (n : Int) * P n := by
    have := h n
    unfold cv at this
    rw [sm_first, h0, Int.zero_mul, Int.zero_add] at this
    exact this.symm
  exact ⟨e, by rw [e, Int.mul_ediv_cancel_left _ (by omega)]⟩
theorem wsum_more (a : Nat → Int) {k N : Nat} (h0 : 0 < k) (h : k ≤ N) : wsum a N k = wsum a k k := by
  obtain ⟨d, rfl⟩ : ∃ d, N = k + d := ⟨N - k, by omega⟩
  unfold wsum
  refine sm_more d fun i h1 h2 => ?_
  unfold step
  have : k % (i + 1) = k := Nat.mod_eq_of_lt (by omega)
  rw [if_neg (by rw [this]; omega)]
end PowS
end
section
namespace PowS
def mchR (f : Nat → Int) : Nat → Int
  | 0 => 1
  | m + 1 => f (m + 1) + mchR f m
def mch : Nat → Nat → Int
  | 0 => fun m => match m with | 0 => 1 | _ + 1 => 0
  | a + 1 => mchR (mch a)
theorem mch_step : ∀ (a m : Nat), ((m : Int) + 1) * mch a (m + 1) = ((a : Int) + (m : Int)) * mch a m
  | 0, 0 => by simp [mch, mchR]
  | 0, m + 1 => by simp [mch, mchR]
  | a + 1, 0 => by
    have := mch_step a 0
    have h0 : mch a 0 = 1 := by cases a <;> rfl
    rw [h0, Int.mul_one] at this
    have h1 : mch (a + 1) 1 = mch a 1 + 1 := rfl
    have h2 : mch (a + 1) 0 = 1 := rfl
    rw [h1, h2]
    simp at this
    simp
    omega
  | a + 1, m + 1 => by
    have h1 := mch_step a (m + 1)
    have h2 := mch_step (a + 1) m
    have e1 : mch (a + 1) (m + 2) = mch a (m + 2) + mch (a + 1) (m + 1) := rfl
    have e2 : mch (a + 1) (m + 1) = mch a (m + 1) + mch (a + 1) m := rfl
    have e3 : mch a (m + 1) = mch (a + 1) (m + 1) - mch (a + 1) m := by omega
    rw [e1]
    rw [Int.mul_add]
    have h1' : (((m + 1 : Nat) : Int) + 1) * mch a (m + 2) = ((a : Int) + ((m + 1 : Nat) : Int)) * (mch (a + 1) (m + 1) - mch (a + 1) m) := by rw [← e3]; exact h1
    rw [h1']
    generalize mch (a + 1) (m + 1) = X at *
    generalize mch (a + 1) m = Y at *
    rw [Int.mul_sub]
    have e4 : ((a + 1 : Nat) : Int) + (m : Int) = (a : Int) + ((m + 1 : Nat) : Int) := by omega
    rw [e4] at h2
    rw [← h2]
    have e5 : ((a + 1 : Nat) : Int) + ((m + 1 : Nat) : Int) = ((a : Int) + ((m + 1 : Nat) : Int)) + 1 := by omega
    rw [e5, Int.add_mul (_ + _) 1 X, Int.add_mul ((m + 1 : Nat) : Int) 1 X]
    have e6 : ((m : Int) + 1) * X = ((m + 1 : Nat) : Int) * X := by congr 1
    rw [e6]
    generalize ((m + 1 : Nat) : Int) * X = u
    generalize ((a : Int) + ((m + 1 : Nat) : Int)) * X = v
    omega
def cho : Nat → Nat → Int
  | _, 0 => 1
  | 0, _ + 1 => 0
  | a + 1, m + 1 => cho a (m + 1) + cho a m
theorem cho_step : ∀ (a m : Nat), ((m : Int) + 1) * cho a (m + 1) = ((a : Int) - (m : Int)) * cho a m
  | 0, 0 => by simp [cho]
  | 0, m + 1 => by simp [cho]
  | a + 1, 0 => by
    have := cho_step a 0
    simp only [cho] at this ⊢
    omega
  | a + 1, m + 1 => by
    have h1 := cho_step a (m + 1)
    have h2 := cho_step a m
    have e1 : cho (a + 1) (m + 2) = cho a (m + 2) + cho a (m + 1) := rfl
    have e2 : cho (a + 1) (m + 1) = cho a (m + 1) + cho a m := rfl
    rw [e1, e2, Int.mul_add, Int.mul_add]
    rw [h1]
    have e5 : ((a + 1 : Nat) : Int) - ((m + 1 : Nat) : Int) = (a : Int) - (m : Int) := by omega
    rw [e5, ← h2]
    generalize cho a (m + 1) = X
    have e6 : ((a : Int) - ((m + 1 : Nat) : Int)) * X = ((a : Int) - (m : Int)) * X - X := by
      have : (a : Int) - ((m + 1 : Nat) : Int) = ((a : Int) - (m : Int)) - 1 := by omega
      rw [this, Int.sub_mul, Int.one_mul]
    have e7 : (((m + 1 : Nat) : Int) + 1) * X = ((m : Int) + 1) * X + X := by
      have : (((m + 1 : Nat) : Int) + 1) = ((m : Int) + 1) + 1 := by omega
      rw [this, Int.add_mul _ 1 X, Int.one_mul]
    rw [e6, e7]
    generalize ((m : Int) + 1) * X = u
    generalize ((a : Int) - (m : Int)) * X = v
    omega
theorem mch_zero (a : Nat) : mch a 0 = 1 := by cases a <;> rfl
theorem cho_zero (a : Nat) : cho a 0 = 1 := by cases a <;> rfl
theorem mch_bd (b : Nat) : ∀ (a m : Nat), a + m < 2 ^ b → (mch a m).natAbs ≤ 2 ^ (b * m)
  | a, 0, _ => by rw [mch_zero]; exact Nat.one_le_two_pow
  | a, m + 1, h => by
    have ih := mch_bd b a m (by omega)
    have e := mch_step a m
    have e2 : (((m : Int) + 1) * mch a (m + 1)).natAbs = (m + 1) * (mch a (m + 1)).natAbs := by rw [Int.natAbs_mul]; congr 1
    have e3 : (((a : Int) + (m : Int)) * mch a m).natAbs = (a + m) * (mch a m).natAbs := by rw [Int.natAbs_mul]; congr 1
    have e4 : (m + 1) * (mch a (m + 1)).natAbs = (a + m) * (mch a m).natAbs := by rw [← e2, ← e3, e]
    have h1 : (mch a (m + 1)).natAbs ≤ (a + m) * (mch a m).natAbs := by
      rw [← e4]; exact Nat.le_mul_of_pos_left _ (Nat.succ_pos m)
    have h2 : (a + m) * (mch a m).natAbs ≤ 2 ^ b * 2 ^ (b * m) := Nat.mul_le_mul (by omega) ih
    rw [← Nat.pow_add] at h2
    have : b * (m + 1) = b + b * m := by rw [Nat.mul_add]; omega
    rw [this]
    omega
theorem cho_le : ∀ (a m : Nat), 0 ≤ cho a m ∧ (cho a m).natAbs ≤ (mch a m).natAbs ∧ 0 ≤ mch a m
  | a, 0 => by rw [cho_zero, mch_zero]; decide
  | 0, m + 1 => by show (0 : Int) ≤ 0 ∧ _; simp [cho, mch]
  | a + 1, m + 1 => by
    have h1 := cho_le a (m + 1)
    have h2 := cho_le a m
    have h3 := cho_le (a + 1) m
    have h4 : mch a m ≤ mch (a + 1) m := by
      cases m with
      | zero => rw [mch_zero, mch_zero]; exact Int.le_refl _
      | succ m =>
        have := (cho_le (a + 1) m).2.2
        show mch a (m + 1) ≤ mch a (m + 1) + mch (a + 1) m
        omega
    have e1 : cho (a + 1) (m + 1) = cho a (m + 1) + cho a m := rfl
    have e2 : mch (a + 1) (m + 1) = mch a (m + 1) + mch (a + 1) m := rfl
    omega
theorem cho_bd (b a m : Nat) (h : a + m < 2 ^ b) : (cho a m).natAbs ≤ 2 ^ (b * m) := Nat.le_trans (cho_le a m).2.1 (mch_bd b a m h)
theorem sm_bd {f : Nat → Int} {B : Nat} : ∀ {n : Nat}, (∀ i, i < n → (f i).natAbs ≤ B) → (sm f n).natAbs ≤ n * B
  | 0, _ => by simp [sm]
  | n + 1, h => by
    have h1 := sm_bd (n := n) fun i hi => h i (by omega)
    have h2 := h n (by omega)
    show (sm f n + f n).natAbs ≤ _
    have := Int.natAbs_add_le (sm f n) (f n)
    rw [Nat.add_mul, Nat.one_mul]
    omega
def Bd (f : Nat → Int) (N b : Nat) : Prop := ∀ i, i < N → (f i).natAbs ≤ 2 ^ b
theorem cv_bd {f g : Nat → Int} {N b c : Nat} (hf : Bd f N b) (hg : Bd g N c) (hN : N ≤ 64) : Bd (cv f g) N (6 + b + c) := fun i hi => by
  have := sm_bd (f := fun j => f j * g (i - j)) (n := i + 1) (B := 2 ^ b * 2 ^ c) fun j hj => by
    rw [Int.natAbs_mul]
    exact Nat.mul_le_mul (hf j (by omega)) (hg (i - j) (by omega))
  refine Nat.le_trans this ?_
  have h2 : i + 1 ≤ 2 ^ 6 := by omega
  refine Nat.le_trans (Nat.mul_le_mul_right _ h2) ?_
  rw [← Nat.pow_add, ← Nat.pow_add]
  rw [show 6 + (b + c) = 6 + b + c by omega]
  exact Nat.le_refl _
theorem spread_bd {E : Nat → Int} {s N b : Nat} (h : ∀ m, m < N → (E m).natAbs ≤ 2 ^ b) : Bd (spread s E) N b := fun i hi => by
  unfold spread
  split
  · exact h _ (Nat.lt_of_le_of_lt (Nat.div_le_self _ _) hi)
  · simp
theorem pk_bd {E : Nat → Nat → Int} {N b : Nat} (hN : N ≤ 64) (h : ∀ t m, m < N → (E t m).natAbs ≤ 2 ^ b) : ∀ t, Bd (pk E t) N ((6 + b) * t)
  | 0 => fun i _ => by
    show (delta i).natAbs ≤ _
    unfold delta; split
    · simp
    · simp
  | t + 1 => by
    have := cv_bd (spread_bd (s := t + 1) (h (t + 1))) (pk_bd hN h t) hN
    have e : (6 + b) * (t + 1) = 6 + b + (6 + b) * t := by rw [Nat.mul_add]; omega
    rw [e]
    exact this
end PowS
end
section
namespace PowS
def stepw (s : Nat) (w : Nat → Int) (k : Nat) : Int := if k % s = 0 ∧ 0 < k then (s : Int) * w (k / s) else 0
theorem log_spread_g {E w : Nat → Int} {s : Nat} (hs : 0 < s) (h : ∀ m : Nat, (m : Int) * E m = sm (fun j => E j * w (m - j)) m) (n : Nat) : dv (spread s E) n = cv (stepw s w) (spread s E) n := by
  rw [cv_comm]
  by_cases hn : n % s = 0
  · obtain ⟨m, hm⟩ := Nat.dvd_of_mod_eq_zero hn
    rw [Nat.mul_comm] at hm
    subst hm
    have e0 : sm (fun i => spread s E i * stepw s w (m * s - i)) (m * s) = sm (fun i => if i % s = 0 then (fun j => E j * ((s : Int) * w (m - j))) (i / s) else 0) (m * s) := sm_congr fun i hi => by
      unfold spread stepw
      by_cases h1 : i % s = 0
      · rw [if_pos h1, if_pos h1, if_pos ⟨by rw [mod_sub (by omega) h1]; exact hn, by omega⟩]
        obtain ⟨k, hk⟩ := Nat.dvd_of_mod_eq_zero h1
        subst hk
        show E (s * k / s) * ((s : Int) * w ((m * s - s * k) / s)) = E (s * k / s) * ((s : Int) * w (m - s * k / s))
        rw [Nat.mul_div_cancel_left _ hs, Nat.mul_comm s k, ← Nat.sub_mul, Nat.mul_div_cancel _ hs]
      · rw [if_neg h1, if_neg h1, Int.zero_mul]
    have e1 : cv (spread s E) (stepw s w) (m * s) = sm (fun i => spread s E i * stepw s w (m * s - i)) (m * s) + spread s E (m * s) * stepw s w (m * s - m * s) := rfl
    have e2 : stepw s w (m * s - m * s) = 0 := by unfold stepw; rw [Nat.sub_self, if_neg (by omega)]
    have e4 := sm_spread s hs (fun j => E j * ((s : Int) * w (m - j))) m
    have e5 : sm (fun j => E j * ((s : Int) * w (m - j))) m = (s : Int) * sm (fun j => E j * w (m - j)) m := by
      rw [← sm_mul]
      exact sm_congr fun j _ => by rw [← Int.mul_assoc, Int.mul_comm (E j), Int.mul_assoc]
    rw [e1, e0, e4, e2, Int.mul_zero, Int.add_zero, e5, ← h m]
    unfold dv spread
    rw [if_pos hn, Nat.mul_div_cancel _ hs]
    have e3 : ((m * s : Nat) : Int) = (m : Int) * (s : Int) := Int.natCast_mul _ _
    rw [e3, Int.mul_comm (m : Int), Int.mul_assoc]
  · have e0 : cv (spread s E) (stepw s w) n = 0 := by
      unfold cv
      have : sm (fun i => spread s E i * stepw s w (n - i)) (n + 1) = sm (fun _ => 0) (n + 1) := sm_congr fun i hi => by
        unfold spread stepw
        by_cases h1 : i % s = 0
        · have h2 : ¬ ((n - i) % s = 0 ∧ 0 < n - i) := by
            rw [mod_sub (by omega) h1]; exact fun z => hn z.1
          rw [if_neg h2, Int.mul_zero]
        · rw [if_neg h1, Int.zero_mul]
      rw [this, sm_zero]
    rw [e0]
    unfold dv spread
    rw [if_neg hn, Int.mul_zero]
def wsg (w : Nat → Nat → Int) (N k : Nat) : Int := sm (fun t => stepw (t + 1) (w (t + 1)) k) N
theorem log_pk_g {E w : Nat → Nat → Int} (h : ∀ t m : Nat, (m : Int) * E t m = sm (fun j => E t j * w t (m - j)) m) : ∀ (N n : Nat), dv (pk E N) n = cv (wsg w N) (pk E N) n
  | 0, n => by
    have e : cv (wsg w 0) (pk E 0) n = 0 := by
      unfold cv
      have : sm (fun i => wsg w 0 i * pk E 0 (n - i)) (n + 1) = sm (fun _ => 0) (n + 1) := sm_congr fun i _ => by
        show (0 : Int) * _ = 0
        rw [Int.zero_mul]
      rw [this, sm_zero]
    rw [e]
    show (n : Int) * delta n = 0
    unfold delta
    by_cases h0 : n = 0
    · subst h0; rfl
    · rw [if_neg h0, Int.mul_zero]
  | N + 1, n => by
    have := log_cv (log_spread_g (s := N + 1) (Nat.succ_pos N) (h (N + 1))) (log_pk_g h N) n
    show dv (cv (spread (N + 1) (E (N + 1))) (pk E N)) n = _
    rw [this]
    refine cv_congr (fun k => ?_) (fun _ => rfl) n
    show stepw (N + 1) (w (N + 1)) k + wsg w N k = wsg w N k + stepw (N + 1) (w (N + 1)) k
    exact Int.add_comm _ _
theorem wsg_zero (w : Nat → Nat → Int) : ∀ N, wsg w N 0 = 0 := fun N => by
  unfold wsg
  have : sm (fun t => stepw (t + 1) (w (t + 1)) 0) N = sm (fun _ => 0) N := sm_congr fun t _ => by
    unfold stepw; rw [if_neg (by omega)]
  rw [this, sm_zero]
theorem wsg_more (w : Nat → Nat → Int) {k N : Nat} (h0 : 0 < k) (h : k ≤ N) : wsg w N k = wsg w k k := by
  obtain ⟨d, rfl⟩ : ∃ d, N = k + d := ⟨N - k, by omega⟩
  unfold wsg
  refine sm_more d fun i h1 h2 => ?_
  unfold stepw
  have : k % (i + 1) = k := Nat.mod_eq_of_lt (by omega)
  rw [if_neg (by rw [this]; omega)]
theorem mch_sum (a : Nat) (m : Nat) : (m : Int) * mch a m = sm (fun j => mch a j * (a : Int)) m := by
  rw [ways_sum (E := mch a) (a := (a : Int)) (mch_step a) m, ← sm_mul]
  exact sm_congr fun j _ => Int.mul_comm _ _
def sgn (j : Nat) : Int := if j % 2 = 1 then 1 else -1
theorem sgn_neg (j : Nat) : sgn (j + 1) = - sgn j := by
  unfold sgn
  by_cases h : j % 2 = 1
  · rw [if_pos h, if_neg (by omega)]
  · rw [if_neg h, if_pos (by omega)]; rfl
theorem cho_sum (a : Nat) : ∀ m : Nat, (m : Int) * cho a m = sm (fun j => cho a j * (sgn (m - j) * (a : Int))) m
  | 0 => by simp [sm]
  | m + 1 => by
    have ih := cho_sum a m
    have e := cho_step a m
    have e1 : ((m + 1 : Nat) : Int) = (m : Int) + 1 := by omega
    show ((m + 1 : Nat) : Int) * cho a (m + 1) = sm (fun j => cho a j * (sgn (m + 1 - j) * (a : Int))) m + cho a m * (sgn (m + 1 - m) * (a : Int))
    have e2 : sm (fun j => cho a j * (sgn (m + 1 - j) * (a : Int))) m = - sm (fun j => cho a j * (sgn (m - j) * (a : Int))) m := by
      have : sm (fun j => cho a j * (sgn (m + 1 - j) * (a : Int))) m = sm (fun j => (-1) * (cho a j * (sgn (m - j) * (a : Int)))) m := sm_congr fun j hj => by
        have : m + 1 - j = (m - j) + 1 := by omega
        rw [this, sgn_neg, Int.neg_mul, Int.mul_neg, Int.neg_mul, Int.one_mul]
      rw [this, sm_mul]; omega
    rw [e1, e, e2, ← ih]
    have e3 : m + 1 - m = 1 := by omega
    rw [e3]
    have e4 : sgn 1 = 1 := rfl
    rw [e4, Int.one_mul, Int.sub_mul, Int.mul_comm (cho a m)]
    omega
def dvs (k : Nat) : List Nat := (List.range k).filter fun d => decide (k % (d + 1) = 0)
theorem sum_filter (p : Nat → Bool) (F : Nat → Int) : ∀ n : Nat, (((List.range n).filter p).map F).sum = sm (fun i => if p i = true then F i else 0) n
  | 0 => rfl
  | n + 1 => by
    rw [List.range_succ, List.filter_append, List.map_append, List.sum_append, sum_filter p F n]
    show _ = sm _ n + _
    congr 1
    cases hp : p n <;> simp [hp]
theorem dvs_sum (k : Nat) (F : Nat → Int) : ((dvs k).map F).sum = sm (fun t => if k % (t + 1) = 0 then F t else 0) k := by
  unfold dvs
  rw [sum_filter]
  exact sm_congr fun i _ => by simp
theorem sum_range (F : Nat → Int) : ∀ n : Nat, ((List.range n).map F).sum = sm F n
  | 0 => rfl
  | n + 1 => by
    rw [List.range_succ, List.map_append, List.sum_append, sum_range F n]
    show _ = sm F n + F n
    simp
theorem wsg_dvs (w : Nat → Nat → Int) (k : Nat) : wsg w k k = ((dvs k).map fun (t : Nat) => (((t + 1 : Nat)) : Int) * w (t + 1) (k / (t + 1))).sum := by
  rw [dvs_sum]
  unfold wsg
  refine sm_congr fun t ht => ?_
  unfold stepw
  by_cases h : k % (t + 1) = 0
  · rw [if_pos h, if_pos ⟨h, by omega⟩]
  · rw [if_neg h, if_neg fun z => h z.1]
end PowS
end
section
set_option maxRecDepth 100000
set_option maxHeartbeats 1000000
namespace Ab
open PySem L2
inductive SK | row | bag | cho | ring | nrow | nbag | nring
def SK.nm : SK → String
  | .row => "RowSeries" | .bag => "BagSeries" | .cho => "ChoiceSeries" | .ring => "RingSeries" | .nrow => "NamedRows" | .nbag => "NamedBags" | .nring => "NamedRings"
inductive TD where
  | one (o : Nat) | or (a b : TD) | by (a b : TD) (l1 l2 : Nat) (mk : Bool) | ser (k : SK) (a : TD) | nm (x : Str)
inductive D where
  | non | bl (b : Bool) | int (i : Int) | str (s : Str)
  | tup (xs : List D) | lst (xs : List D) | ins (c : String) (fs : List (Str × D))
  | ty (n : String) | cls (c : String)
  | dic (kvs : List (Key × D))
  | trm (tbl : List (Str × TD))
structure En where
  K : PySem.W.Frag
  cls : String → Addr
def Pl : HO → Prop
  | .lst _ => True | .ins _ _ _ => True | .dK _ => True | .xd _ => True | .frz _ _ => True | .tup _ => True | _ => False
end Ab
end
section
set_option maxRecDepth 100000
set_option maxHeartbeats 1000000
namespace Ab
open PySem L2 PyProof.Rows PySem.Spec PowS
def tabF (f : (Nat → Int) → Nat → Int) : Nat → Nat → Int
  | 0 => fun _ => 0
  | n + 1 => fun k => if k = n then f (tabF f n) n else tabF f n k
def recF (f : (Nat → Int) → Nat → Int) (n : Nat) : Int := f (tabF f n) n
theorem tabF_lt (f : (Nat → Int) → Nat → Int) : ∀ (n k : Nat), k < n → tabF f n k = recF f k
  | 0, k, h => absurd h (Nat.not_lt_zero k)
  | n + 1, k, h => by
    unfold tabF
    split
    · rename_i e; subst e; rfl
    · exact tabF_lt f n k (by omega)
def Less (f : (Nat → Int) → Nat → Int) : Prop := ∀ g g' n, (∀ k, k < n → g k = g' k) → f g n = f g' n
theorem recF_eq {f : (Nat → Int) → Nat → Int} (h : Less f) (n : Nat) : recF f n = f (recF f) n := h _ _ n fun k hk => tabF_lt f n k hk
theorem recF_is {f : (Nat → Int) → Nat → Int} (h : Less f) {P : Nat → Int} : ∀ (N : Nat), (∀ n, n < N → P n = f P n) → ∀ n, n < N → P n = recF f n := fun N hP n => by
  induction n using Nat.strongRecOn with
  | ind n ih =>
    intro hn
    rw [hP n hn, recF_eq h n]
    exact h _ _ n fun k hk => ih k hk (by omega)
theorem recF_local {f f' : (Nat → Int) → Nat → Int} (h : Less f) (h' : Less f') : ∀ (N : Nat), (∀ g n, n < N → f g n = f' g n) → ∀ n, n < N → recF f n = recF f' n := fun N hf n hn =>
  recF_is h' N (fun m hm => by rw [recF_eq h m]; exact hf _ m hm) n hn
def chsn (n k : Nat) : Int := (List.range (min k (n - k))).foldl (fun (f : Int) (i : Nat) => f * ((n : Int) - ((min k (n - k) : Nat) : Int) + ((i : Int) + 1)) / ((i : Int) + 1)) 1
def rowS (a P : Nat → Int) (n : Nat) : Int := sm (fun k => a (k + 1) * P (n - (k + 1))) n
def rowG (a P : Nat → Int) (n : Nat) : Int := if n = 0 then 1 else rowS a P n
def rowV (a : Nat → Int) : Nat → Int := recF (rowG a)
def bagW (a : Nat → Int) (k : Nat) : Int := ((dvs k).map fun (t : Nat) => ((t + 1 : Nat) : Int) * a (t + 1)).sum
def choW (a : Nat → Int) (k : Nat) : Int := ((dvs k).map fun (t : Nat) => ((t + 1 : Nat) : Int) * a (t + 1) * (((k / (t + 1) % 2 : Nat) : Int) * 2 - 1)).sum
def wG (c P : Nat → Int) (n : Nat) : Int := if n = 0 then 1 else rowS c P n / (n : Int)
def bagV (a : Nat → Int) : Nat → Int := recF (wG (bagW a))
def choV (a : Nat → Int) : Nat → Int := recF (wG (choW a))
def shn (k : Nat) : Int := (((List.range k).filter fun i => decide (Nat.gcd (i + 1) k = 1)).length : Nat)
def markV (a : Nat → Int) (n : Nat) : Int := sm (fun i => ((i + 1 : Nat) : Int) * a (i + 1) * rowV a (n - (i + 1))) n
def ringV (a : Nat → Int) (n : Nat) : Int := if n = 0 then 0 else ((dvs n).map fun (t : Nat) => shn (t + 1) * markV a (n / (t + 1))).sum / (n : Int)
def nrowG (a P : Nat → Int) (n : Nat) : Int := if n = 0 then 1 else sm (fun k => chsn n (k + 1) * a (k + 1) * P (n - (k + 1))) n
def nrowV (a : Nat → Int) : Nat → Int := recF (nrowG a)
def nbagG (a P : Nat → Int) (n : Nat) : Int := if n = 0 then 1 else sm (fun k => chsn (n - 1) k * a (k + 1) * P (n - (k + 1))) n
def nbagV (a : Nat → Int) : Nat → Int := recF (nbagG a)
def nringV (a : Nat → Int) (n : Nat) : Int := sm (fun k => chsn (n - 1) k * a (k + 1) * nrowV a (n - (k + 1))) n
def serV : SK → (Nat → Int) → Nat → Int
  | .row => rowV | .bag => bagV | .cho => choV | .ring => ringV | .nrow => nrowV | .nbag => nbagV | .nring => nringV
theorem less_row (a : Nat → Int) : Less (rowG a) := fun g g' n h => by
  unfold rowG
  split
  · rfl
  · exact sm_congr fun i hi => by rw [h _ (by omega)]
theorem less_w (c : Nat → Int) : Less (wG c) := fun g g' n h => by
  unfold wG
  split
  · rfl
  · congr 1
    exact sm_congr fun i hi => by rw [h _ (by omega)]
theorem less_nrow (a : Nat → Int) : Less (nrowG a) := fun g g' n h => by
  unfold nrowG
  split
  · rfl
  · exact sm_congr fun i hi => by rw [h _ (by omega)]
theorem less_nbag (a : Nat → Int) : Less (nbagG a) := fun g g' n h => by
  unfold nbagG
  split
  · rfl
  · exact sm_congr fun i hi => by rw [h _ (by omega)]
def Sn (x : Int) (n : Nat) : Prop := x.natAbs < 2 ^ (22000 * (n + 1))
structure OkS (k : SK) (a : Nat → Int) (i : Nat) : Prop where
  n : i < 41
  h : ∀ x, x ≤ i → Sn (a x) x
  v : ∀ x, x ≤ i → Sn (serV k a x) x
  r : k = .ring → ∀ x, x ≤ i → Sn (rowV a x) x
  nr : k = .nring → ∀ x, x ≤ i → Sn (nrowV a x) x
theorem OkS.mono {k : SK} {a : Nat → Int} {i j : Nat} (h : OkS k a i) (hj : j ≤ i) : OkS k a j := ⟨Nat.lt_of_le_of_lt hj h.n, fun x hx => h.h x (by omega), fun x hx => h.v x (by omega), fun e x hx => h.r e x (by omega), fun e x hx => h.nr e x (by omega)⟩
theorem row_local {a b : Nat → Int} {N : Nat} (h : ∀ x, x < N → a x = b x) : ∀ n, n < N → rowV a n = rowV b n := recF_local (less_row a) (less_row b) N fun g n hn => by
  unfold rowG; split
  · rfl
  · exact sm_congr fun i hi => by rw [h _ (by omega)]
theorem dvs_mem {k d : Nat} (h : d ∈ dvs k) : d < k := List.mem_range.mp (List.mem_filter.mp h).1
theorem bagW_local {a b : Nat → Int} {k : Nat} (h : ∀ x, x ≤ k → a x = b x) : bagW a k = bagW b k := by
  unfold bagW; rw [List.map_congr_left fun d hd => by rw [h (d + 1) (dvs_mem hd)]]
theorem choW_local {a b : Nat → Int} {k : Nat} (h : ∀ x, x ≤ k → a x = b x) : choW a k = choW b k := by
  unfold choW; rw [List.map_congr_left fun d hd => by rw [h (d + 1) (dvs_mem hd)]]
theorem mark_local {a b : Nat → Int} {n : Nat} (h : ∀ x, x ≤ n → a x = b x) : markV a n = markV b n := by
  unfold markV
  exact sm_congr fun i hi => by rw [h _ (by omega), row_local (N := n + 1) (fun x hx => h x (by omega)) _ (by omega)]
theorem div_le' {n t : Nat} : n / (t + 1) ≤ n := Nat.div_le_self _ _
theorem ser_local {k : SK} {a b : Nat → Int} {N : Nat} (h : ∀ x, x < N → a x = b x) : ∀ n, n < N → serV k a n = serV k b n := by
  intro n hn
  cases k with
  | row => exact row_local h n hn
  | bag => exact recF_local (less_w _) (less_w _) N (fun g n hn => by
      unfold wG; split
      · rfl
      · unfold rowS; rw [sm_congr (g := fun k => bagW b (k + 1) * g (n - (k + 1))) fun i hi => by rw [bagW_local fun x hx => h x (by omega)]]) n hn
  | cho => exact recF_local (less_w _) (less_w _) N (fun g n hn => by
      unfold wG; split
      · rfl
      · unfold rowS; rw [sm_congr (g := fun k => choW b (k + 1) * g (n - (k + 1))) fun i hi => by rw [choW_local fun x hx => h x (by omega)]]) n hn
  | ring =>
    show ringV a n = ringV b n
    unfold ringV
    rw [List.map_congr_left fun d _ => by rw [mark_local fun x hx => h x (by have := @div_le' n d; omega)]]
  | nrow => exact recF_local (less_nrow a) (less_nrow b) N (fun g n hn => by
      unfold nrowG; split
      · rfl
      · exact sm_congr fun i hi => by rw [h _ (by omega)]) n hn
  | nbag => exact recF_local (less_nbag a) (less_nbag b) N (fun g n hn => by
      unfold nbagG; split
      · rfl
      · exact sm_congr fun i hi => by rw [h _ (by omega)]) n hn
  | nring =>
    show nringV a n = nringV b n
    unfold nringV
    refine sm_congr fun i hi => ?_
    have e : nrowV a (n - (i + 1)) = nrowV b (n - (i + 1)) := recF_local (less_nrow a) (less_nrow b) N (fun g n hn => by
      unfold nrowG; split
      · rfl
      · exact sm_congr fun i hi => by rw [h _ (by omega)]) (n - (i + 1)) (by omega)
    rw [h _ (by omega), e]
theorem okS_local {k : SK} {a b : Nat → Int} {N : Nat} (h : ∀ x, x < N → a x = b x) {i : Nat} (hi : i < N) (o : OkS k b i) : OkS k a i := by
  refine ⟨o.n, fun x hx => ?_, fun x hx => ?_, fun e x hx => ?_, fun e x hx => ?_⟩
  · rw [h x (by omega)]; exact o.h x hx
  · rw [ser_local h x (by omega)]; exact o.v x hx
  · rw [show rowV a x = rowV b x from ser_local (k := .row) h x (by omega)]; exact o.r e x hx
  · rw [show nrowV a x = nrowV b x from ser_local (k := .nrow) h x (by omega)]; exact o.nr e x hx
def vf (f : Nat → Int) (n : Nat) : List V := (List.range n).map fun i => .int (f i)
theorem vf_len {f : Nat → Int} {n : Nat} : (vf f n).length = n := by simp [vf]
theorem vf_snoc {f : Nat → Int} {n : Nat} : vf f n ++ [.int (f n)] = vf f (n + 1) := by unfold vf; rw [List.range_succ, List.map_append]; rfl
theorem vf_get {f : Nat → Int} {n i : Nat} (h : i < n) : (vf f n)[i]? = some (.int (f i)) := by
  unfold vf; rw [List.getElem?_map, List.getElem?_eq_getElem (by simpa using h)]; simp
def Fr (cs : List Addr) (H H' : Hp) : Prop := ∀ a o, H a = some o → a ∉ cs → H' a = some o
theorem Fr.refl (cs : List Addr) (H : Hp) : Fr cs H H := fun _ _ h _ => h
theorem Fr.of {cs : List Addr} {H H' : Hp} (h : L2.Same H H') : Fr cs H H' := fun a o q _ => h a o q
theorem Fr.trans {cs : List Addr} {H H1 H2 : Hp} (a : Fr cs H H1) (b : Fr cs H1 H2) : Fr cs H H2 := fun x o h n => b x o (a x o h n) n
theorem Fr.mono {cs ds : List Addr} {H H' : Hp} (a : Fr cs H H') (h : ∀ x ∈ cs, x ∈ ds) : Fr ds H H' := fun x o q n => a x o q fun m => n (h x m)
theorem Fr.upd {cs : List Addr} {H : Hp} {p : Addr} {o : HO} (m : p ∈ cs) : Fr cs H (upd H p o) := fun a u q n => by rw [upd_ne (fun z => n (by rw [z]; exact m))]; exact q
structure Ser0 (e : En) (c : String) (H : Hp) (p g m : Addr) (ex : List (Str × V)) (a P : Nat → Int) (i j : Nat) : Prop where
  p : ∃ dx, H p = some (.ins (e.cls c) dx ((("gone" : Str), V.ref g) :: (("made" : Str), V.ref m) :: ex))
  g : H g = some (.lst (vf a i))
  m : H m = some (.lst (vf P j))
theorem Ser0.up {e : En} {c : String} {H H' : Hp} {p g m : Addr} {ex : List (Str × V)} {a P : Nat → Int} {i j : Nat} {cs : List Addr} (s : Ser0 e c H p g m ex a P i j) (h : Fr cs H H') (h1 : p ∉ cs) (h2 : g ∉ cs) (h3 : m ∉ cs) : Ser0 e c H' p g m ex a P i j :=
  ⟨let ⟨dx, q⟩ := s.p; ⟨dx, h _ _ q h1⟩, h _ _ s.g h2, h _ _ s.m h3⟩
def ExtS (e : En) : SK → Hp → List (Str × V) → List Addr → (Nat → Int) → Nat → Prop
  | .row, _, ex, cs, _, _ => ex = [] ∧ cs = []
  | .nrow, _, ex, cs, _, _ => ex = [] ∧ cs = []
  | .nbag, _, ex, cs, _, _ => ex = [] ∧ cs = []
  | .bag, H, ex, cs, a, i => ∃ t, ex = [(("weights" : Str), V.ref t)] ∧ cs = [t] ∧ H t = some (.lst (vf (bagW a) i))
  | .cho, H, ex, cs, a, i => ∃ t, ex = [(("weights" : Str), V.ref t)] ∧ cs = [t] ∧ H t = some (.lst (vf (choW a) i))
  | .ring, H, ex, cs, a, i => ∃ q g m t, ex = [(("lines" : Str), V.ref q), (("marked" : Str), V.ref t)] ∧ cs = [t, q, g, m] ∧ H t = some (.lst (vf (markV a) (max 1 i))) ∧ Ser0 e "RowSeries" H q g m [] a (rowV a) i i
  | .nring, H, ex, cs, a, i => ∃ q g m, ex = [(("lines" : Str), V.ref q)] ∧ cs = [q, g, m] ∧ Ser0 e "NamedRows" H q g m [] a (nrowV a) i i
theorem ExtS.up {e : En} {k : SK} {H H' : Hp} {ex : List (Str × V)} {cs ds : List Addr} {a : Nat → Int} {i : Nat} (s : ExtS e k H ex cs a i) (h : Fr ds H H') (hd : ∀ x ∈ cs, x ∉ ds) : ExtS e k H' ex cs a i := by
  cases k with
  | row => exact s
  | nrow => exact s
  | nbag => exact s
  | bag => obtain ⟨t, h1, rfl, h3⟩ := s; exact ⟨t, h1, rfl, h _ _ h3 (hd t (by simp))⟩
  | cho => obtain ⟨t, h1, rfl, h3⟩ := s; exact ⟨t, h1, rfl, h _ _ h3 (hd t (by simp))⟩
  | ring => obtain ⟨q, g, m, t, h1, rfl, h3, h4⟩ := s; exact ⟨q, g, m, t, h1, rfl, h _ _ h3 (hd t (by simp)), h4.up h (hd q (by simp)) (hd g (by simp)) (hd m (by simp))⟩
  | nring => obtain ⟨q, g, m, h1, rfl, h4⟩ := s; exact ⟨q, g, m, h1, rfl, h4.up h (hd q (by simp)) (hd g (by simp)) (hd m (by simp))⟩
def SerAt (e : En) (k : SK) (H : Hp) (p : Addr) (cs : List Addr) (a : Nat → Int) (i : Nat) : Prop := ∃ g m ex cx, cs = p :: g :: m :: cx ∧ cs.Nodup ∧ Ser0 e k.nm H p g m ex a (serV k a) i i ∧ ExtS e k H ex cx a i
theorem SerAt.up {e : En} {k : SK} {H H' : Hp} {p : Addr} {cs ds : List Addr} {a : Nat → Int} {i : Nat} (s : SerAt e k H p cs a i) (h : Fr ds H H') (hd : ∀ x ∈ cs, x ∉ ds) : SerAt e k H' p cs a i := by
  obtain ⟨g, m, ex, cx, rfl, nd, s0, sx⟩ := s
  exact ⟨g, m, ex, cx, rfl, nd, s0.up h (hd _ (by simp)) (hd _ (by simp)) (hd _ (by simp)), sx.up h fun x hx => hd x (by simp [hx])⟩
theorem SerAt.dom {e : En} {k : SK} {H : Hp} {p : Addr} {cs : List Addr} {a : Nat → Int} {i : Nat} (s : SerAt e k H p cs a i) : ∀ x ∈ cs, ∃ o, H x = some o := by
  obtain ⟨g, m, ex, cx, rfl, nd, ⟨⟨dx, hp⟩, hg, hm⟩, sx⟩ := s
  intro x hx
  simp only [List.mem_cons] at hx
  rcases hx with rfl | rfl | rfl | hx
  · exact ⟨_, hp⟩
  · exact ⟨_, hg⟩
  · exact ⟨_, hm⟩
  · cases k with
    | row => rw [sx.2] at hx; exact nomatch hx
    | nrow => rw [sx.2] at hx; exact nomatch hx
    | nbag => rw [sx.2] at hx; exact nomatch hx
    | bag => obtain ⟨t, _, rfl, h3⟩ := sx; rw [List.mem_singleton.mp hx]; exact ⟨_, h3⟩
    | cho => obtain ⟨t, _, rfl, h3⟩ := sx; rw [List.mem_singleton.mp hx]; exact ⟨_, h3⟩
    | ring =>
      obtain ⟨q, g', m', t, _, rfl, h3, ⟨⟨dx, h4⟩, h5, h6⟩⟩ := sx
      simp only [List.mem_cons, List.not_mem_nil, or_false] at hx
      rcases hx with rfl | rfl | rfl | rfl
      · exact ⟨_, h3⟩
      · exact ⟨_, h4⟩
      · exact ⟨_, h5⟩
      · exact ⟨_, h6⟩
    | nring =>
      obtain ⟨q, g', m', _, rfl, ⟨⟨dx, h4⟩, h5, h6⟩⟩ := sx
      simp only [List.mem_cons, List.not_mem_nil, or_false] at hx
      rcases hx with rfl | rfl | rfl
      · exact ⟨_, h4⟩
      · exact ⟨_, h5⟩
      · exact ⟨_, h6⟩
theorem SerAt.domPl {e : En} {k : SK} {H : Hp} {p : Addr} {cs : List Addr} {a : Nat → Int} {i : Nat} (s : SerAt e k H p cs a i) : ∀ x ∈ cs, ∃ o, H x = some o ∧ Pl o := by
  obtain ⟨g, m, ex, cx, rfl, nd, ⟨⟨dx, hp⟩, hg, hm⟩, sx⟩ := s
  intro x hx
  simp only [List.mem_cons] at hx
  rcases hx with rfl | rfl | rfl | hx
  · exact ⟨_, hp, trivial⟩
  · exact ⟨_, hg, trivial⟩
  · exact ⟨_, hm, trivial⟩
  · cases k with
    | row => rw [sx.2] at hx; exact nomatch hx
    | nrow => rw [sx.2] at hx; exact nomatch hx
    | nbag => rw [sx.2] at hx; exact nomatch hx
    | bag => obtain ⟨t, _, rfl, h3⟩ := sx; rw [List.mem_singleton.mp hx]; exact ⟨_, h3, trivial⟩
    | cho => obtain ⟨t, _, rfl, h3⟩ := sx; rw [List.mem_singleton.mp hx]; exact ⟨_, h3, trivial⟩
    | ring =>
      obtain ⟨q, g', m', t, _, rfl, h3, ⟨⟨dx, h4⟩, h5, h6⟩⟩ := sx
      simp only [List.mem_cons, List.not_mem_nil, or_false] at hx
      rcases hx with rfl | rfl | rfl | rfl
      · exact ⟨_, h3, trivial⟩
      · exact ⟨_, h4, trivial⟩
      · exact ⟨_, h5, trivial⟩
      · exact ⟨_, h6, trivial⟩
    | nring =>
      obtain ⟨q, g', m', _, rfl, ⟨⟨dx, h4⟩, h5, h6⟩⟩ := sx
      simp only [List.mem_cons, List.not_mem_nil, or_false] at hx
      rcases hx with rfl | rfl | rfl
      · exact ⟨_, h4, trivial⟩
      · exact ⟨_, h5, trivial⟩
      · exact ⟨_, h6, trivial⟩
def spInit0 (C : Addr) : Sp := fun vs H Q _ => ∃ p dx, vs = [.ref p] ∧ H p = some (.ins C dx []) ∧ ∀ g m H', Fr [p] H H' → H g = none → H m = none → [p, g, m].Nodup → H' p = some (.ins C dx [(("gone" : Str), V.ref g), (("made" : Str), V.ref m)]) → H' g = some (.lst []) → H' m = some (.lst []) → Q .non H'
def spIni (e : En) (k : SK) : Sp := fun vs H Q _ => ∃ p dx, vs = [.ref p] ∧ H p = some (.ins (e.cls k.nm) dx []) ∧ ∀ cs a H', Fr [p] H H' → (∀ x ∈ cs, x = p ∨ H x = none) → SerAt e k H' p cs a 0 → Q .non H'
def spNew (e : En) (k : SK) : Sp := fun vs H Q _ => ∃ p g m ex cs a i, vs = [.ref p, .int (i : Nat)] ∧ Ser0 e k.nm H p g m ex a (serV k a) (i + 1) i ∧ ExtS e k H ex cs a i ∧ (p :: g :: m :: cs).Nodup ∧ OkS k a i ∧ ∀ H', Fr cs H H' → ExtS e k H' ex cs a (i + 1) → Q (.int (serV k a i)) H'
def spGrow (e : En) (k : SK) : Sp := fun vs H Q _ => ∃ p cs a i, vs = [.ref p, .int (a i)] ∧ SerAt e k H p cs a i ∧ OkS k a i ∧ ∀ H', Fr cs H H' → SerAt e k H' p cs a (i + 1) → Q (.int (serV k a i)) H'
end Ab
end
section
set_option maxRecDepth 100000
set_option maxHeartbeats 1000000
namespace Ab
open PySem L2 PyProof.Rows PySem.Spec PowS
def byS (F G : Nat → Int) (l1 l2 : Nat) (mk : Bool) (n : Nat) : Int := sm (fun i => if mk = true then F (l1 + i) * G (n - (l1 + i)) * chsn n (l1 + i) else F (l1 + i) * G (n - (l1 + i))) (n + 1 - l1 - l2)
def valF (tbl : List (Str × TD)) : Nat → TD → Nat → Int
  | 0, _, _ => 0
  | _ + 1, .one o, n => if n = o then 1 else 0
  | f + 1, .or a b, n => valF tbl f a n + valF tbl f b n
  | f + 1, .by a b l1 l2 mk, n => byS (valF tbl f a) (valF tbl f b) l1 l2 mk n
  | f + 1, .ser k a, n => serV k (valF tbl f a) n
  | f + 1, .nm x, n => match tbl.lookup x with | some td => valF tbl f td n | none => 0
def Ev (tbl : List (Str × TD)) (td : TD) (n : Nat) (v : Int) : Prop := ∃ f0, ∀ f, f0 ≤ f → valF tbl f td n = v
theorem Ev.uniq {tbl : List (Str × TD)} {td : TD} {n : Nat} {v v' : Int} (a : Ev tbl td n v) (b : Ev tbl td n v') : v = v' := by
  obtain ⟨f, h⟩ := a
  obtain ⟨g, k⟩ := b
  rw [← h (max f g) (Nat.le_max_left _ _), k (max f g) (Nat.le_max_right _ _)]
open Classical in
noncomputable def val (tbl : List (Str × TD)) (td : TD) (n : Nat) : Int := if h : ∃ v, Ev tbl td n v then h.choose else 0
theorem Ev.val {tbl : List (Str × TD)} {td : TD} {n : Nat} {v : Int} (a : Ev tbl td n v) : Ab.val tbl td n = v := by
  unfold Ab.val
  rw [dif_pos ⟨v, a⟩]
  exact (Exists.choose_spec (⟨v, a⟩ : ∃ v, Ev tbl td n v)).uniq a
def rk (cr : Str → Nat) : TD → Nat
  | .one _ => 0
  | .or a b => 1 + max (rk cr a) (rk cr b)
  | .by a b l1 l2 _ => 1 + max (if l2 = 0 then rk cr a else 0) (if l1 = 0 then rk cr b else 0)
  | .ser _ a => 1 + rk cr a
  | .nm x => 1 + cr x
def Rk (tbl : List (Str × TD)) (cr : Str → Nat) : Prop := ∀ x td, tbl.lookup x = some td → rk cr td ≤ cr x
theorem upto_max {P : Nat → Nat → Prop} (mono : ∀ i f g, f ≤ g → P i f → P i g) : ∀ N, (∀ i, i < N → ∃ f, P i f) → ∃ f, ∀ i, i < N → P i f
  | 0, _ => ⟨0, fun i h => absurd h (Nat.not_lt_zero i)⟩
  | N + 1, h => by
    obtain ⟨f, hf⟩ := upto_max mono N fun i hi => h i (by omega)
    obtain ⟨g, hg⟩ := h N (by omega)
    refine ⟨max f g, fun i hi => ?_⟩
    by_cases e : i = N
    · rw [e]; exact mono _ _ _ (Nat.le_max_right _ _) hg
    · exact mono _ _ _ (Nat.le_max_left _ _) (hf i (by omega))
theorem ev_upto {tbl : List (Str × TD)} {td : TD} {N : Nat} (h : ∀ i, i < N → ∃ v, Ev tbl td i v) : ∃ f0, ∀ f, f0 ≤ f → ∀ i, i < N → valF tbl f td i = val tbl td i := by
  obtain ⟨f0, h0⟩ := upto_max (P := fun i f => ∀ g, f ≤ g → valF tbl g td i = val tbl td i) (fun i f g hfg h k hk => h k (by omega)) N fun i hi => by
    obtain ⟨v, f, hv⟩ := h i hi
    exact ⟨f, fun g hg => by rw [hv g hg]; exact (Ev.val ⟨f, hv⟩).symm⟩
  exact ⟨f0, fun f hf i hi => h0 i hi f hf⟩
theorem byS_congr {F F' G G' : Nat → Int} {l1 l2 : Nat} {mk : Bool} {n : Nat} (h1 : ∀ k, l1 ≤ k → k + l2 ≤ n → F k = F' k) (h2 : ∀ k, l2 ≤ k → k + l1 ≤ n → G k = G' k) : byS F G l1 l2 mk n = byS F' G' l1 l2 mk n := by
  unfold byS
  refine sm_congr fun i hi => ?_
  rw [h1 (l1 + i) (by omega) (by omega), h2 (n - (l1 + i)) (by omega) (by omega)]
theorem evn_all {tbl : List (Str × TD)} {cr : Str → Nat} (hR : Rk tbl cr) (n : Nat) : ∀ td, ∃ v, Ev tbl td n v := by
  induction n using Nat.strongRecOn with
  | ind n ihn =>
    have key : ∀ r, ∀ td, rk cr td = r → ∃ v, Ev tbl td n v := by
      intro r
      induction r using Nat.strongRecOn with
      | ind r ihr =>
        intro td hr
        have sub : ∀ td', rk cr td' < r → ∃ v, Ev tbl td' n v := fun td' h => ihr _ h td' rfl
        have low : ∀ td' k, k < n → ∃ v, Ev tbl td' k v := fun td' k h => ihn k h td'
        have upto : ∀ td' N, N ≤ n → (N = n → rk cr td' < r) → ∃ f0, ∀ f, f0 ≤ f → ∀ i, i < N + 1 → valF tbl f td' i = val tbl td' i := fun td' N hN h =>
          ev_upto fun i hi => by
            by_cases e : i = n
            · rw [e]; exact sub td' (h (by omega))
            · exact low td' i (by omega)
        cases td with
        | one o => exact ⟨_, 1, fun f hf => by obtain ⟨g, rfl⟩ : ∃ g, f = g + 1 := ⟨f - 1, by omega⟩; rfl⟩
        | or a b =>
          simp only [rk] at hr
          obtain ⟨va, f1, h1⟩ := sub a (by omega)
          obtain ⟨vb, f2, h2⟩ := sub b (by omega)
          refine ⟨va + vb, max f1 f2 + 1, fun f hf => ?_⟩
          obtain ⟨g, rfl⟩ : ∃ g, f = g + 1 := ⟨f - 1, by omega⟩
          show valF tbl g a n + valF tbl g b n = _
          rw [h1 g (by omega), h2 g (by omega)]
        | «by» a b l1 l2 mk =>
          simp only [rk] at hr
          by_cases hl : n < l1 + l2
          · refine ⟨0, 1, fun f hf => ?_⟩
            obtain ⟨g, rfl⟩ : ∃ g, f = g + 1 := ⟨f - 1, by omega⟩
            show byS _ _ _ _ _ _ = _
            unfold byS
            rw [show n + 1 - l1 - l2 = 0 by omega]; rfl
          · obtain ⟨f1, h1⟩ := upto a (n - l2) (by omega) fun e => by
              have : l2 = 0 := by omega
              rw [if_pos this] at hr; omega
            obtain ⟨f2, h2⟩ := upto b (n - l1) (by omega) fun e => by
              have : l1 = 0 := by omega
              rw [if_pos this] at hr; omega
            refine ⟨byS (val tbl a) (val tbl b) l1 l2 mk n, max f1 f2 + 1, fun f hf => ?_⟩
            obtain ⟨g, rfl⟩ : ∃ g, f = g + 1 := ⟨f - 1, by omega⟩
            exact byS_congr (fun k _ hk => h1 g (by omega) k (by omega)) (fun k _ hk => h2 g (by omega) k (by omega))
        | ser k a =>
          simp only [rk] at hr
          obtain ⟨f1, h1⟩ := upto a n (Nat.le_refl _) fun _ => by omega
          refine ⟨serV k (val tbl a) n, f1 + 1, fun f hf => ?_⟩
          obtain ⟨g, rfl⟩ : ∃ g, f = g + 1 := ⟨f - 1, by omega⟩
          exact ser_local (N := n + 1) (h1 g (by omega)) n (by omega)
        | nm x =>
          simp only [rk] at hr
          cases hx : tbl.lookup x with
          | none =>
            refine ⟨0, 1, fun f hf => ?_⟩
            obtain ⟨g, rfl⟩ : ∃ g, f = g + 1 := ⟨f - 1, by omega⟩
            show (match tbl.lookup x with | some td => valF tbl g td n | none => 0) = 0
            rw [hx]
          | some td =>
            have := hR x td hx
            obtain ⟨v, f1, h1⟩ := sub td (by omega)
            refine ⟨v, f1 + 1, fun f hf => ?_⟩
            obtain ⟨g, rfl⟩ : ∃ g, f = g + 1 := ⟨f - 1, by omega⟩
            show (match tbl.lookup x with | some td => valF tbl g td n | none => 0) = v
            rw [hx]
            exact h1 g (by omega)
    exact fun td => key _ td rfl
section
variable {tbl : List (Str × TD)} {cr : Str → Nat} (hR : Rk tbl cr)
include hR
theorem evn_val (td : TD) (n : Nat) : Ev tbl td n (val tbl td n) := by
  obtain ⟨v, h⟩ := evn_all hR n td
  rw [h.val]; exact h
theorem val_at (td : TD) (N : Nat) : ∃ f0, ∀ f, f0 ≤ f → ∀ i, i ≤ N → valF tbl f td i = val tbl td i := by
  obtain ⟨f0, h⟩ := ev_upto (tbl := tbl) (td := td) (N := N + 1) fun i _ => evn_all hR i td
  exact ⟨f0, fun f hf i hi => h f hf i (by omega)⟩
theorem val_one (o n : Nat) : val tbl (.one o) n = if n = o then 1 else 0 := by
  obtain ⟨f0, h⟩ := evn_val hR (.one o) n
  rw [← h (f0 + 1) (by omega)]; rfl
theorem val_or (a b : TD) (n : Nat) : val tbl (.or a b) n = val tbl a n + val tbl b n := by
  obtain ⟨f0, h⟩ := evn_val hR (.or a b) n
  obtain ⟨f1, h1⟩ := evn_val hR a n
  obtain ⟨f2, h2⟩ := evn_val hR b n
  rw [← h (max f0 (max f1 f2) + 1) (by omega), ← h1 (max f0 (max f1 f2)) (by omega), ← h2 (max f0 (max f1 f2)) (by omega)]; rfl
theorem val_by (a b : TD) (l1 l2 : Nat) (mk : Bool) (n : Nat) : val tbl (.by a b l1 l2 mk) n = byS (val tbl a) (val tbl b) l1 l2 mk n := by
  obtain ⟨f0, h⟩ := evn_val hR (.by a b l1 l2 mk) n
  obtain ⟨f1, h1⟩ := val_at hR a n
  obtain ⟨f2, h2⟩ := val_at hR b n
  rw [← h (max f0 (max f1 f2) + 1) (by omega)]
  exact byS_congr (fun k _ hk => h1 _ (by omega) k (by omega)) (fun k _ hk => h2 _ (by omega) k (by omega))
theorem val_ser (k : SK) (a : TD) (n : Nat) : val tbl (.ser k a) n = serV k (val tbl a) n := by
  obtain ⟨f0, h⟩ := evn_val hR (.ser k a) n
  obtain ⟨f1, h1⟩ := val_at hR a n
  rw [← h (max f0 f1 + 1) (by omega)]
  exact ser_local (N := n + 1) (fun x hx => h1 _ (by omega) x (by omega)) n (by omega)
theorem val_nm {x : Str} {td : TD} (hx : tbl.lookup x = some td) (n : Nat) : val tbl (.nm x) n = val tbl td n := by
  obtain ⟨f0, h⟩ := evn_val hR (.nm x) n
  obtain ⟨f1, h1⟩ := evn_val hR td n
  rw [← h (max f0 f1 + 1) (by omega), ← h1 (max f0 f1) (by omega)]
  show (match tbl.lookup x with | some td => valF tbl _ td n | none => 0) = _
  rw [hx]
end
def TD.cn : TD → String
  | .one _ => "SingleTerm" | .or _ _ => "EitherTerm" | .by _ _ _ _ _ => "BesideTerm" | .ser _ _ => "SeriesTerm" | .nm _ => "NamedTerm"
def TD.size : TD → Nat
  | .one _ => 1 | .or a b => 1 + a.size + b.size | .by a b _ _ _ => 1 + a.size + b.size | .ser _ a => 1 + a.size | .nm _ => 1
structure Nd where
  td : TD
  p : Addr
  kn : Addr
  ex : List Addr
def Nd.cells (nd : Nd) : List Addr := nd.p :: nd.kn :: nd.ex
def KindAt (e : En) (tbl : List (Str × TD)) (T : Addr) (ns : List Nd) (H : Hp) (nd : Nd) (si : Nat) : Prop := match nd.td with
  | .one o => nd.ex = [] ∧ ∃ dx, H nd.p = some (.ins (e.cls "SingleTerm") dx [("known", .ref nd.kn), ("only", .int o)])
  | .or a b => nd.ex = [] ∧ ∃ dx, ∃ ka ∈ ns, ∃ kb ∈ ns, ka.td = a ∧ kb.td = b ∧ H nd.p = some (.ins (e.cls "EitherTerm") dx [("known", .ref nd.kn), ("one", .ref ka.p), ("other", .ref kb.p)])
  | .by a b l1 l2 mk => ∃ lo, nd.ex = [lo] ∧ H lo = some (.tup [.int l1, .int l2]) ∧ ∃ dx, ∃ ka ∈ ns, ∃ kb ∈ ns, ka.td = a ∧ kb.td = b ∧ H nd.p = some (.ins (e.cls "BesideTerm") dx [("known", .ref nd.kn), ("one", .ref ka.p), ("other", .ref kb.p), ("lows", .ref lo), ("marked", .bl mk)])
  | .ser k a => ∃ q, SerAt e k H q nd.ex (val tbl a) si ∧ ∃ dx, ∃ ka ∈ ns, ka.td = a ∧ H nd.p = some (.ins (e.cls "SeriesTerm") dx [("known", .ref nd.kn), ("part", .ref ka.p), ("series", .ref q)])
  | .nm x => nd.ex = [] ∧ ∃ dx, H nd.p = some (.ins (e.cls "NamedTerm") dx [("known", .ref nd.kn), ("name", .str x), ("terms", .ref T)])
structure NodeAt (e : En) (tbl : List (Str × TD)) (T : Addr) (ns : List Nd) (H : Hp) (nd : Nd) (i si : Nat) : Prop where
  k : H nd.kn = some (.lst (vf (val tbl nd.td) i))
  s : KindAt e tbl T ns H nd si
def allC (T : Addr) (ns : List Nd) : List Addr := T :: ns.flatMap Nd.cells
structure Gr (e : En) (tbl : List (Str × TD)) (T : Addr) (ns : List Nd) (ln sn : Addr → Nat) (H : Hp) : Prop where
  root : ∃ gs : List (Key × V), H T = some (.dK gs) ∧ gs.map (·.1) = tbl.map (fun x => (Sum.inr x.1 : Key)) ∧ ∀ x td, tbl.lookup x = some td → ∃ nd ∈ ns, nd.td = td ∧ valV gs (.inr x) = some (.ref nd.p)
  nodes : ∀ nd ∈ ns, NodeAt e tbl T ns H nd (ln nd.p) (sn nd.p)
  nodup : (allC T ns).Nodup
theorem nd_disj {ns : List Nd} (h : (ns.flatMap Nd.cells).Nodup) : ∀ {a b : Nd} {x : Addr}, a ∈ ns → b ∈ ns → x ∈ a.cells → x ∈ b.cells → a = b := by
  induction ns with
  | nil => intro a b x ha; exact nomatch ha
  | cons n ns ih =>
    intro a b x ha hb xa xb
    rw [List.flatMap_cons, List.nodup_append] at h
    obtain ⟨_, h2, h3⟩ := h
    rcases List.mem_cons.mp ha with ea | ma
    · rcases List.mem_cons.mp hb with eb | mb
      · rw [ea, eb]
      · exact absurd rfl (h3 x (ea ▸ xa) x (List.mem_flatMap.mpr ⟨b, mb, xb⟩))
    · rcases List.mem_cons.mp hb with eb | mb
      · exact absurd rfl (h3 x (eb ▸ xb) x (List.mem_flatMap.mpr ⟨a, ma, xa⟩))
      · exact ih h2 ma mb xa xb
theorem nd_nodup {ns : List Nd} (h : (ns.flatMap Nd.cells).Nodup) : ∀ {a : Nd}, a ∈ ns → a.cells.Nodup := by
  induction ns with
  | nil => intro a ha; exact nomatch ha
  | cons n ns ih =>
    intro a ha
    rw [List.flatMap_cons, List.nodup_append] at h
    rcases List.mem_cons.mp ha with rfl | ha
    · exact h.1
    · exact ih h.2.1 ha
section
variable {e : En} {tbl : List (Str × TD)} {T : Addr} {ns : List Nd} {ln sn : Addr → Nat} {H H' : Hp}
theorem Gr.nd (g : Gr e tbl T ns ln sn H) : (ns.flatMap Nd.cells).Nodup := (List.nodup_cons.mp g.nodup).2
theorem Gr.nT (g : Gr e tbl T ns ln sn H) {a : Nd} (ha : a ∈ ns) : T ∉ a.cells := fun h => (List.nodup_cons.mp g.nodup).1 (List.mem_flatMap.mpr ⟨a, ha, h⟩)
theorem Gr.same (g : Gr e tbl T ns ln sn H) {a b : Nd} (ha : a ∈ ns) (hb : b ∈ ns) (h : a.p = b.p) : a = b := nd_disj g.nd ha hb (x := a.p) (by simp [Nd.cells]) (by rw [h]; simp [Nd.cells])
theorem mem_all {a : Nd} (ha : a ∈ ns) {x : Addr} (h : x ∈ a.cells) : x ∈ allC T ns := List.mem_cons_of_mem _ (List.mem_flatMap.mpr ⟨a, ha, h⟩)
theorem KindAt.up {nd : Nd} {si : Nat} {ds : List Addr} (k : KindAt e tbl T ns H nd si) (f : Fr ds H H') (h1 : nd.p ∉ ds) (h2 : ∀ x ∈ nd.ex, x ∉ ds) : KindAt e tbl T ns H' nd si := by
  unfold KindAt at k ⊢
  cases htd : nd.td with
  | one o => rw [htd] at k; obtain ⟨e1, dx, hp⟩ := k; exact ⟨e1, dx, f _ _ hp h1⟩
  | or a b => rw [htd] at k; obtain ⟨e1, dx, ka, ma, kb, mb, ea, eb, hp⟩ := k; exact ⟨e1, dx, ka, ma, kb, mb, ea, eb, f _ _ hp h1⟩
  | «by» a b l1 l2 mk => rw [htd] at k; obtain ⟨lo, e1, hl, dx, ka, ma, kb, mb, ea, eb, hp⟩ := k; exact ⟨lo, e1, f _ _ hl (h2 lo (by rw [e1]; simp)), dx, ka, ma, kb, mb, ea, eb, f _ _ hp h1⟩
  | ser k0 a => rw [htd] at k; obtain ⟨q, hs, dx, ka, ma, ea, hp⟩ := k; exact ⟨q, hs.up f h2, dx, ka, ma, ea, f _ _ hp h1⟩
  | nm x => rw [htd] at k; obtain ⟨e1, dx, hp⟩ := k; exact ⟨e1, dx, f _ _ hp h1⟩
theorem NodeAt.up {nd : Nd} {i si : Nat} {ds : List Addr} (k : NodeAt e tbl T ns H nd i si) (f : Fr ds H H') (h : ∀ x ∈ nd.cells, x ∉ ds) : NodeAt e tbl T ns H' nd i si :=
  ⟨f _ _ k.k (h _ (by simp [Nd.cells])), k.s.up f (h _ (by simp [Nd.cells])) fun x hx => h x (by simp [Nd.cells, hx])⟩
theorem Gr.up {ds : List Addr} (g : Gr e tbl T ns ln sn H) (f : Fr ds H H') (h : ∀ x ∈ allC T ns, x ∉ ds) : Gr e tbl T ns ln sn H' where
  root := let ⟨gs, h1, h2⟩ := g.root; ⟨gs, f _ _ h1 (h T (by simp [allC])), h2⟩
  nodes := fun nd hn => (g.nodes nd hn).up f fun x hx => h x (mem_all hn hx)
  nodup := g.nodup
theorem Gr.node {nd : Nd} {ln' sn' : Addr → Nat} (g : Gr e tbl T ns ln sn H) (hn : nd ∈ ns) {ds : List Addr} (f : Fr ds H H') (hd : ∀ x ∈ ds, x ∈ nd.cells) (hl : ∀ p, p ≠ nd.p → ln' p = ln p) (hs : ∀ p, p ≠ nd.p → sn' p = sn p) (h : NodeAt e tbl T ns H' nd (ln' nd.p) (sn' nd.p)) : Gr e tbl T ns ln' sn' H' where
  root := let ⟨gs, h1, h2⟩ := g.root; ⟨gs, f _ _ h1 fun m => g.nT hn (hd T m), h2⟩
  nodes := fun u hu => by
    by_cases e1 : u = nd
    · rw [e1]; exact h
    · have hp : u.p ≠ nd.p := fun z => e1 (g.same hu hn z)
      rw [hl _ hp, hs _ hp]
      exact (g.nodes u hu).up f fun x hx m => e1 (nd_disj g.nd hu hn hx (hd x m))
  nodup := g.nodup
theorem KindAt.dom {nd : Nd} {si : Nat} (k : KindAt e tbl T ns H nd si) : (∃ dx fs, H nd.p = some (.ins (e.cls nd.td.cn) dx fs)) ∧ ∀ x ∈ nd.ex, ∃ o, H x = some o ∧ Pl o := by
  unfold KindAt at k
  cases htd : nd.td with
  | one o => rw [htd] at k; obtain ⟨e1, dx, hp⟩ := k; exact ⟨⟨dx, _, hp⟩, by rw [e1]; exact fun x h => nomatch h⟩
  | or a b => rw [htd] at k; obtain ⟨e1, dx, ka, ma, kb, mb, ea, eb, hp⟩ := k; exact ⟨⟨dx, _, hp⟩, by rw [e1]; exact fun x h => nomatch h⟩
  | «by» a b l1 l2 mk => rw [htd] at k; obtain ⟨lo, e1, hl, dx, ka, ma, kb, mb, ea, eb, hp⟩ := k; exact ⟨⟨dx, _, hp⟩, by rw [e1]; intro x hx; rw [List.mem_singleton.mp hx]; exact ⟨_, hl, trivial⟩⟩
  | ser k0 a => rw [htd] at k; obtain ⟨q, hs, dx, ka, ma, ea, hp⟩ := k; exact ⟨⟨dx, _, hp⟩, fun x hx => hs.domPl x hx⟩
  | nm x => rw [htd] at k; obtain ⟨e1, dx, hp⟩ := k; exact ⟨⟨dx, _, hp⟩, by rw [e1]; exact fun x h => nomatch h⟩
theorem Gr.dom (g : Gr e tbl T ns ln sn H) {x : Addr} (hx : x ∈ allC T ns) : ∃ o, H x = some o ∧ Pl o := by
  rcases List.mem_cons.mp hx with rfl | hx
  · obtain ⟨gs, h, _⟩ := g.root; exact ⟨_, h, trivial⟩
  · obtain ⟨nd, hn, hx⟩ := List.mem_flatMap.mp hx
    have k := g.nodes nd hn
    obtain ⟨⟨dx, fs, hp⟩, hex⟩ := k.s.dom
    simp only [Nd.cells, List.mem_cons] at hx
    rcases hx with rfl | rfl | hx
    · exact ⟨_, hp, trivial⟩
    · exact ⟨_, k.k, trivial⟩
    · exact hex x hx
end
structure GOk (tbl : List (Str × TD)) (cr : Str → Nat) (ns : List Nd) : Prop where
  rk : Rk tbl cr
  v : ∀ nd ∈ ns, ∀ n, n ≤ 40 → Sn (val tbl nd.td n) n
  s : ∀ nd ∈ ns, ∀ k a, nd.td = .ser k a → ∀ n, n ≤ 40 → OkS k (val tbl a) n
  nm : ∀ nd ∈ ns, ∀ x, nd.td = .nm x → ∃ td, tbl.lookup x = some td
  lo : ∀ nd ∈ ns, ∀ a b l1 l2 mk, nd.td = .by a b l1 l2 mk → l1 ≤ 1 ∧ l2 ≤ 1
def tsz (tbl : List (Str × TD)) : Nat := (tbl.map fun x => x.2.size).sum
def GrC (e : En) (tbl : List (Str × TD)) (T : Addr) (cells : List Addr) (H : Hp) : Prop := ∃ ns ln, cells = allC T ns ∧ ns.length ≤ tsz tbl ∧ Gr e tbl T ns ln ln H
theorem GrC.up {e : En} {tbl : List (Str × TD)} {T : Addr} {cells ds : List Addr} {H H' : Hp} (g : GrC e tbl T cells H) (f : Fr ds H H') (h : ∀ x ∈ cells, x ∉ ds) : GrC e tbl T cells H' := by
  obtain ⟨ns, ln, rfl, hz, g⟩ := g
  exact ⟨ns, ln, rfl, hz, g.up f h⟩
theorem GrC.dom {e : En} {tbl : List (Str × TD)} {T : Addr} {cells : List Addr} {H : Hp} (g : GrC e tbl T cells H) {x : Addr} (hx : x ∈ cells) : ∃ o, H x = some o ∧ Pl o := by
  obtain ⟨ns, ln, rfl, hz, g⟩ := g
  exact g.dom hx
theorem GrC.root {e : En} {tbl : List (Str × TD)} {T : Addr} {cells : List Addr} {H : Hp} (g : GrC e tbl T cells H) : T ∈ cells := by
  obtain ⟨ns, ln, rfl, hz, g⟩ := g
  simp [allC]
end Ab
end
section
set_option maxRecDepth 100000
set_option maxHeartbeats 1000000
namespace Ab
open PySem L2
class Hd where
  hid : Addr → Prop
  inv : Hp → Prop
  same : ∀ {H H' : Hp}, L2.Same H H' → inv H → inv H'
  cel : ∀ {H H' : Hp} {p : Addr} {u : HO}, inv H → ¬ hid p → H p = some u → Pl u → (∀ a, a ≠ p → H' a = H a) → inv H'
  al : ∀ {H : Hp} {a : Addr}, inv H → hid a → H a ≠ none
  tg : En → Addr → List (Str × TD) → Prop
theorem Hd.up [Hd] {H H' : Hp} (h : L2.Same H H') (i : Hd.inv H) : Hd.inv H' := Hd.same h i
theorem Hd.chg [Hd] {H : Hp} {p : Addr} {u o : HO} (i : Hd.inv H) (n : ¬ Hd.hid p) (hp : H p = some u) (pl : Pl u) : Hd.inv (upd H p o) := Hd.cel i n hp pl fun a h => upd_ne h
theorem Hd.del [Hd] {H : Hp} {p : Addr} {u : HO} (i : Hd.inv H) (n : ¬ Hd.hid p) (hp : H p = some u) (pl : Pl u) : Hd.inv (fun b => if b = p then none else H b) := Hd.cel i n hp pl fun a h => if_neg h
instance (priority := low) hd0 : Hd where
  hid := fun _ => False
  inv := fun _ => True
  same := fun _ _ => trivial
  cel := fun _ _ _ _ _ => trivial
  al := fun _ h => h.elim
  tg := fun _ _ _ => False
structure Sm [Hd] (H H' : Hp) : Prop where
  k : ∀ a o, H a = some o → ¬ Hd.hid a → H' a = some o
  i : Hd.inv H → Hd.inv H'
theorem Sm.of [Hd] {H H' : Hp} (h : L2.Same H H') : Sm H H' := ⟨fun a o q _ => h a o q, Hd.up h⟩
theorem Sm.refl [Hd] (H : Hp) : Sm H H := ⟨fun _ _ h _ => h, id⟩
theorem Sm.trans [Hd] {H H1 H2 : Hp} (a : Sm H H1) (b : Sm H1 H2) : Sm H H2 := ⟨fun x o h n => b.k x o (a.k x o h n) n, fun h => b.i (a.i h)⟩
variable [Hd]
mutual
def Rep (e : En) (F : Hp) : D → V → Prop
  | .non, v => v = .non
  | .bl b, v => v = .bl b
  | .int i, v => v = .int i
  | .str s, v => v = .str s
  | .ty n, v => v = .ty n
  | .cls c, v => v = .ref (e.cls c)
  | .tup ds, v => ∃ a vs, v = .ref a ∧ SqT e.K F a vs ∧ Reps e F ds vs
  | .lst ds, v => ∃ a vs, v = .ref a ∧ SqL e.K F a vs ∧ Reps e F ds vs
  | .ins c fs, v => ∃ a dx gs, v = .ref a ∧ F a = some (.ins (e.cls c) dx gs) ∧ RepF e F fs gs
  | .dic kvs, v => ∃ a od gs, v = .ref a ∧ F a = some (.frz od (.dK gs)) ∧ RepD e F kvs gs
  | .trm tbl, v => ∃ a, v = .ref a ∧ Hd.tg e a tbl
def Reps (e : En) (F : Hp) : List D → List V → Prop
  | [], vs => vs = []
  | d :: ds, vs => ∃ v r, vs = v :: r ∧ Rep e F d v ∧ Reps e F ds r
def RepF (e : En) (F : Hp) : List (Str × D) → List (Str × V) → Prop
  | [], gs => gs = []
  | (x, d) :: fs, gs => ∃ v r, gs = (x, v) :: r ∧ Rep e F d v ∧ RepF e F fs r
def RepD (e : En) (F : Hp) : List (Key × D) → List (Key × V) → Prop
  | [], gs => gs = []
  | (x, d) :: fs, gs => ∃ v r, gs = (x, v) :: r ∧ Rep e F d v ∧ RepD e F fs r
end
theorem same_t {K : PySem.W.Frag} {F F' : Hp} {a : Addr} {vs : List V} (h : L2.Same F F') (t : SqT K F a vs) : SqT K F' a vs := by
  rcases t with (t | ⟨o, t⟩) | t
  · exact .inl (.inl (h _ _ t))
  · exact .inl (.inr ⟨o, h _ _ t⟩)
  · exact .inr t
mutual
theorem Rep.mono {e : En} {F F' : Hp} (h : L2.Same F F') : ∀ (d : D) (v : V), Rep e F d v → Rep e F' d v
  | .non, _, r => r
  | .bl _, _, r => r
  | .int _, _, r => r
  | .str _, _, r => r
  | .ty _, _, r => r
  | .cls _, _, r => r
  | .tup ds, _, ⟨a, vs, q, t, r⟩ => ⟨a, vs, q, same_t h t, Reps.mono h ds vs r⟩
  | .lst ds, _, ⟨a, vs, q, t, r⟩ => ⟨a, vs, q, h.seq t, Reps.mono h ds vs r⟩
  | .ins c fs, _, ⟨a, dx, gs, q, t, r⟩ => ⟨a, dx, gs, q, h _ _ t, RepF.mono h fs gs r⟩
  | .dic kvs, _, ⟨a, od, gs, q, t, r⟩ => ⟨a, od, gs, q, h _ _ t, RepD.mono h kvs gs r⟩
  | .trm _, _, r => r
theorem Reps.mono {e : En} {F F' : Hp} (h : L2.Same F F') : ∀ (ds : List D) (vs : List V), Reps e F ds vs → Reps e F' ds vs
  | [], _, r => r
  | d :: ds, _, ⟨v, r, q, x, y⟩ => ⟨v, r, q, Rep.mono h d v x, Reps.mono h ds r y⟩
theorem RepF.mono {e : En} {F F' : Hp} (h : L2.Same F F') : ∀ (fs : List (Str × D)) (gs : List (Str × V)), RepF e F fs gs → RepF e F' fs gs
  | [], _, r => r
  | (x, d) :: fs, _, ⟨v, r, q, y, z⟩ => ⟨v, r, q, Rep.mono h d v y, RepF.mono h fs r z⟩
theorem RepD.mono {e : En} {F F' : Hp} (h : L2.Same F F') : ∀ (fs : List (Key × D)) (gs : List (Key × V)), RepD e F fs gs → RepD e F' fs gs
  | [], _, r => r
  | (x, d) :: fs, _, ⟨v, r, q, y, z⟩ => ⟨v, r, q, Rep.mono h d v y, RepD.mono h fs r z⟩
end
theorem Rep.up {e : En} {F F' : Hp} {d : D} {v : V} (r : Rep e F d v) (h : L2.Same F F') : Rep e F' d v := Rep.mono h d v r
theorem Reps.up {e : En} {F F' : Hp} {d : List D} {v : List V} (r : Reps e F d v) (h : L2.Same F F') : Reps e F' d v := Reps.mono h d v r
section
variable {e : En} {F : Hp}
theorem Reps.len : ∀ {ds : List D} {vs : List V}, Reps e F ds vs → vs.length = ds.length
  | [], _, r => by cases r; rfl
  | d :: ds, _, ⟨v, r, q, x, y⟩ => by subst q; simp [Reps.len y]
theorem Reps.nil : Reps e F [] [] := rfl
theorem Reps.cons {d : D} {ds : List D} {v : V} {vs : List V} (a : Rep e F d v) (b : Reps e F ds vs) : Reps e F (d :: ds) (v :: vs) := ⟨v, vs, rfl, a, b⟩
theorem Reps.append : ∀ {as bs : List D} {us vs : List V}, Reps e F as us → Reps e F bs vs → Reps e F (as ++ bs) (us ++ vs)
  | [], _, _, _, r, s => by cases r; exact s
  | d :: ds, _, _, _, ⟨v, r, q, x, y⟩, s => by subst q; exact Reps.cons x (Reps.append y s)
theorem Reps.get : ∀ {ds : List D} {vs : List V} {i : Nat} {d : D}, Reps e F ds vs → ds[i]? = some d → ∃ v, vs[i]? = some v ∧ Rep e F d v
  | [], _, _, _, _, h => by simp at h
  | d :: ds, _, 0, _, ⟨v, r, q, x, y⟩, h => by subst q; simp at h; subst h; exact ⟨v, rfl, x⟩
  | d :: ds, _, i + 1, _, ⟨v, r, q, x, y⟩, h => by subst q; obtain ⟨w, h1, h2⟩ := Reps.get (i := i) y (by simpa using h); exact ⟨w, by simpa using h1, h2⟩
theorem Reps.getv : ∀ {ds : List D} {vs : List V} {i : Nat} {v : V}, Reps e F ds vs → vs[i]? = some v → ∃ d, ds[i]? = some d ∧ Rep e F d v
  | [], _, _, _, r, h => by cases r; simp at h
  | d :: ds, _, 0, _, ⟨v, r, q, x, y⟩, h => by subst q; simp at h; subst h; exact ⟨d, rfl, x⟩
  | d :: ds, _, i + 1, _, ⟨v, r, q, x, y⟩, h => by subst q; obtain ⟨w, h1, h2⟩ := Reps.getv (i := i) y (by simpa using h); exact ⟨w, by simpa using h1, h2⟩
theorem Reps.take : ∀ {ds : List D} {vs : List V} (n : Nat), Reps e F ds vs → Reps e F (ds.take n) (vs.take n)
  | _, _, 0, _ => by simpa using Reps.nil
  | [], _, n + 1, r => by cases r; exact Reps.nil
  | d :: ds, _, n + 1, ⟨v, r, q, x, y⟩ => by subst q; exact Reps.cons x (Reps.take n y)
theorem Reps.drop : ∀ {ds : List D} {vs : List V} (n : Nat), Reps e F ds vs → Reps e F (ds.drop n) (vs.drop n)
  | _, _, 0, r => by simpa using r
  | [], _, n + 1, r => by cases r; exact Reps.nil
  | d :: ds, _, n + 1, ⟨v, r, q, x, y⟩ => by subst q; simpa using Reps.drop n y
theorem Reps.set : ∀ {ds : List D} {vs : List V} {d : D} {v : V} (n : Nat), Reps e F ds vs → Rep e F d v → Reps e F (ds.set n d) (vs.set n v)
  | [], _, _, _, n, r, _ => by cases r; exact Reps.nil
  | d :: ds, _, _, _, 0, ⟨v, r, q, x, y⟩, z => by subst q; exact Reps.cons z y
  | d :: ds, _, _, _, n + 1, ⟨v, r, q, x, y⟩, z => by subst q; exact Reps.cons x (Reps.set n y z)
theorem Reps.rev : ∀ {ds : List D} {vs : List V}, Reps e F ds vs → Reps e F ds.reverse vs.reverse
  | [], _, r => by cases r; exact Reps.nil
  | d :: ds, _, ⟨v, r, q, x, y⟩ => by subst q; rw [List.reverse_cons, List.reverse_cons]; exact (Reps.rev y).append (Reps.cons x Reps.nil)
end
open Classical in
noncomputable def fz (L : List Addr) (H : Hp) : Hp := fun a => if a ∈ L ∨ Hd.hid a then none else H a
theorem fz_le {L : List Addr} {H : Hp} : L2.Same (fz L H) H := fun a o h => by
  unfold fz at h; split at h
  · cases h
  · exact h
theorem fz_nh {L : List Addr} {H : Hp} {a : Addr} {o : HO} (h : fz L H a = some o) : a ∉ L ∧ ¬ Hd.hid a := by
  unfold fz at h; split at h
  · cases h
  · rename_i m; exact ⟨fun z => m (.inl z), fun z => m (.inr z)⟩
theorem fz_at {L : List Addr} {H : Hp} {a : Addr} {o : HO} (h : H a = some o) (m : a ∉ L) (n : ¬ Hd.hid a) : fz L H a = some o := by
  unfold fz; rw [if_neg (fun z => z.elim m n)]; exact h
theorem fz_same {L : List Addr} {H H' : Hp} (h : Sm H H') : L2.Same (fz L H) (fz L H') := fun a o q => by
  obtain ⟨m, n⟩ := fz_nh q
  exact fz_at (h.k _ _ (fz_le _ _ q) n) m n
theorem fz_mut {L : List Addr} {H H' : Hp} (h : ∀ a o, H a = some o → a ∉ L → ¬ Hd.hid a → H' a = some o) : L2.Same (fz L H) (fz L H') := fun a o q => by
  obtain ⟨m, n⟩ := fz_nh q
  exact fz_at (h _ _ (fz_le _ _ q) m n) m n
theorem fz_cons {L : List Addr} {H H' : Hp} {p : Addr} (h : Sm H H') (n : H p = none) : L2.Same (fz L H) (fz (p :: L) H') := fun a o q => by
  obtain ⟨m, n2⟩ := fz_nh q
  have hp : a ≠ p := ne_of_none (fz_le _ _ q) n
  exact fz_at (h.k _ _ (fz_le _ _ q) n2) (by simp [hp, m]) n2
theorem fz_anti {L L' : List Addr} {H : Hp} (h : ∀ a ∈ L', a ∈ L) : L2.Same (fz L H) (fz L' H) := fun a o q => by
  obtain ⟨m, n⟩ := fz_nh q
  exact fz_at (fz_le _ _ q) (fun z => m (h a z)) n
inductive Ct where
  | lst (xs : List D) | obj (c : String) (fs : List (Str × D)) | dic (kvs : List (Key × D))
inductive A where
  | dat (d : D) | own (c : Ct) | inn (c : Ct) | adr (a : Addr)
abbrev State := List (Option A)
def RepK (e : En) (F : Hp) (kvs : List (Key × D)) (gs : List (Key × V)) : Prop := gs.map (·.1) = kvs.map (·.1) ∧ Reps e F (kvs.map (·.2)) (gs.map (·.2))
theorem RepK.toD {e : En} {F : Hp} : ∀ {kvs : List (Key × D)} {gs : List (Key × V)}, RepK e F kvs gs → RepD e F kvs gs
  | [], [], _ => rfl
  | [], _ :: _, ⟨h, _⟩ => by cases h
  | (k, d) :: kvs, [], ⟨h, _⟩ => by cases h
  | (k, d) :: kvs, (k', v') :: gs, ⟨h, v, r, q, r1, r2⟩ => by
    simp only [List.map_cons, List.cons.injEq] at h q
    obtain ⟨rfl, h2⟩ := h
    obtain ⟨rfl, q2⟩ := q
    exact ⟨v', gs, rfl, r1, RepK.toD ⟨h2, by rw [q2]; exact r2⟩⟩
theorem RepD.toK {e : En} {F : Hp} : ∀ {kvs : List (Key × D)} {gs : List (Key × V)}, RepD e F kvs gs → RepK e F kvs gs
  | [], _, h => by cases h; exact ⟨rfl, rfl⟩
  | (k, d) :: kvs, _, ⟨v, r, q, r1, r2⟩ => by
    subst q
    obtain ⟨h1, h2⟩ := RepD.toK r2
    exact ⟨by simp only [List.map_cons, h1], v, _, rfl, r1, h2⟩
def RepC (e : En) (F : Hp) : Ct → HO → Prop
  | .lst xs, o => ∃ vs, o = .lst vs ∧ Reps e F xs vs
  | .obj c fs, o => ∃ dx gs, o = .ins (e.cls c) dx gs ∧ RepF e F fs gs
  | .dic kvs, o => ∃ gs, o = .dK gs ∧ RepK e F kvs gs
theorem RepC.up {e : En} {F F' : Hp} {c : Ct} {o : HO} (h : L2.Same F F') (r : RepC e F c o) : RepC e F' c o := by
  cases c with
  | lst xs => obtain ⟨vs, q, r⟩ := r; exact ⟨vs, q, r.up h⟩
  | obj c fs => obtain ⟨dx, gs, q, r⟩ := r; exact ⟨dx, gs, q, RepF.mono h _ _ r⟩
  | dic kvs => obtain ⟨gs, q, k, r⟩ := r; exact ⟨gs, q, k, r.up h⟩
theorem RepC.pl {e : En} {F : Hp} {c : Ct} {o : HO} (r : RepC e F c o) : Pl o := by
  cases c with
  | lst xs => obtain ⟨vs, q, _⟩ := r; subst q; trivial
  | obj c fs => obtain ⟨dx, gs, q, _⟩ := r; subst q; trivial
  | dic kvs => obtain ⟨gs, q, _⟩ := r; subst q; trivial
structure Cn where
  L0 : List Addr
  S0 : List Addr
  H0 : Hp
  σ0 : L2.St
structure Mod (S : List Addr) (H H' : Hp) : Prop where
  k : ∀ a o, H a = some o → a ∉ S → ¬ Hd.hid a → H' a = some o
  i : Hd.inv H → Hd.inv H'
theorem Mod.of {S : List Addr} {H H' : Hp} (h : Sm H H') : Mod S H H' := ⟨fun a o q _ n => h.k a o q n, h.i⟩
theorem Mod.trans {S : List Addr} {H H1 H2 : Hp} (a : Mod S H H1) (b : Mod S H1 H2) : Mod S H H2 := ⟨fun x o h n m => b.k x o (a.k x o h n m) n m, fun h => b.i (a.i h)⟩
theorem Mod.refl {S : List Addr} {H : Hp} : Mod S H H := ⟨fun _ _ h _ _ => h, id⟩
open Classical in
noncomputable def hz (H : Hp) : Hp := fun a => if Hd.hid a then H a else none
theorem hz_hid {H : Hp} {p : Addr} {o : HO} (h : hz H p = some o) : Hd.hid p := by
  unfold hz at h; split at h
  · assumption
  · cases h
theorem hz_none {H : Hp} {p : Addr} (h : ¬ Hd.hid p) : hz H p = none := by unfold hz; rw [if_neg h]
theorem hz_al {H : Hp} (i : Hd.inv H) (p : Addr) (h : Hd.hid p) : hz H p ≠ none := by unfold hz; rw [if_pos h]; exact Hd.al i h
theorem hz_mod {H : Hp} (i : Hd.inv H) {S : List Addr} : Mod S (hz H) H := ⟨fun _ _ h _ n => absurd (hz_hid h) n, fun _ => i⟩
def RepA (e : En) (c : Cn) (L S : List Addr) (H : Hp) (i : Nat) (v : V) : A → Prop
  | .dat d => Rep e (fz L H) d v
  | .own ct => ∃ p o, v = .ref p ∧ p ∈ S ∧ c.H0 p = none ∧ H p = some o ∧ RepC e (fz L H) ct o
  | .inn ct => ∃ p o, v = .ref p ∧ p ∈ S ∧ c.σ0[i]? = some (some v) ∧ H p = some o ∧ RepC e (fz L H) ct o
  | .adr b => v = .ref b
def isOwn : Option (Option A) → Bool
  | some (some (.own _)) => true
  | some (some (.inn _)) => true
  | _ => false
structure Rel (e : En) (c : Cn) (L S : List Addr) (σ : L2.St) (H : Hp) (α : State) : Prop where
  slot : ∀ (i : Nat) (a : A), α[i]? = some (some a) → ∃ v, σ[i]? = some (some v) ∧ RepA e c L S H i v a
  sep : ∀ (i j : Nat) (p : Addr), isOwn α[i]? = true → isOwn α[j]? = true → σ[i]? = some (some (V.ref p)) → σ[j]? = some (some (V.ref p)) → i = j
  inv : Hd.inv H
  h1 : ∀ p, Hd.hid p → c.H0 p ≠ none
  nh : ∀ p ∈ L, ¬ Hd.hid p
  dom : ∀ p ∈ L, H p ≠ none
  sub : ∀ p ∈ S, p ∈ L
  l0 : ∀ p ∈ c.L0, p ∈ L
  l1 : ∀ p ∈ L, p ∈ c.L0 ∨ c.H0 p = none
  s1 : ∀ p ∈ S, p ∈ c.S0 ∨ c.H0 p = none
  md : Mod c.S0 c.H0 H
  s0 : ∀ p ∈ c.S0, p ∈ c.L0
  d0 : ∀ p ∈ c.L0, c.H0 p ≠ none
  len : σ.length = α.length
section
variable {e : En} {c : Cn} {L S : List Addr} {σ : L2.St} {H H' : Hp} {α : State}
theorem RepA.up {i : Nat} {v : V} {a : A} (h : Sm H H') (nh : ∀ p ∈ S, ¬ Hd.hid p) (r : RepA e c L S H i v a) : RepA e c L S H' i v a := by
  cases a with
  | dat d => exact Rep.up (d := d) r (fz_same h)
  | adr _ => exact r
  | own ct => obtain ⟨p, o, q, m, n, ho, rc⟩ := r; exact ⟨p, o, q, m, n, h.k _ _ ho (nh p m), rc.up (fz_same h)⟩
  | inn ct => obtain ⟨p, o, q, m, n, ho, rc⟩ := r; exact ⟨p, o, q, m, n, h.k _ _ ho (nh p m), rc.up (fz_same h)⟩
theorem Rel.n0 (r : Rel e c L S σ H α) {p : Addr} (n : c.H0 p = none) : p ∉ c.L0 ∧ ¬ Hd.hid p := ⟨fun m => r.d0 p m n, fun h => r.h1 p h n⟩
theorem Sm.free {p : Addr} (s : Sm H H') (i : Hd.inv H) (n : H' p = none) : H p = none := by
  cases z : H p with
  | none => rfl
  | some o =>
    by_cases hh : Hd.hid p
    · exact absurd n (Hd.al (s.i i) hh)
    · rw [s.k p o z hh] at n; cases n
theorem Rel.up (r : Rel e c L S σ H α) (h : Sm H H') : Rel e c L S σ H' α where
  slot := fun i a q => let ⟨v, h1, h2⟩ := r.slot i a q; ⟨v, h1, h2.up h fun p m => r.nh p (r.sub p m)⟩
  sep := r.sep
  inv := h.i r.inv
  h1 := r.h1
  nh := r.nh
  dom := fun p m z => by
    cases q : H p with
    | none => exact r.dom p m q
    | some o => rw [h.k p o q (r.nh p m)] at z; cases z
  sub := r.sub
  l0 := r.l0
  l1 := r.l1
  s1 := r.s1
  md := r.md.trans (.of h)
  s0 := r.s0
  d0 := r.d0
  len := r.len
theorem Rel.h0 (r : Rel e c L S σ H α) {p : Addr} (n : H p = none) : c.H0 p = none := by
  cases q : c.H0 p with
  | none => rfl
  | some o =>
    by_cases m : p ∈ c.S0
    · exact absurd n (r.dom p (r.l0 p (r.s0 p m)))
    · by_cases hh : Hd.hid p
      · exact absurd n (Hd.al r.inv hh)
      · have := r.md.k p o q m hh
        rw [n] at this; cases this
theorem getset {β : Type} {l : List β} {i j : Nat} {x : β} : (l.set i x)[j]? = if i = j then (if j < l.length then some x else none) else l[j]? := by
  rw [List.getElem?_set]
  split
  · rename_i h; subst h; rfl
  · rfl
theorem Rel.setD {i : Nat} {v : V} {d : D} (r : Rel e c L S σ H α) (h : Rep e (fz L H) d v) : Rel e c L S (σ.set i (some v)) H (α.set i (some (.dat d))) where
  slot := fun j a q => by
    rw [getset] at q
    rw [getset]
    by_cases e1 : i = j
    · rw [if_pos e1] at q ⊢
      split at q
      · rename_i hl
        cases q
        rw [if_pos (by rw [r.len]; exact hl)]
        exact ⟨v, rfl, h⟩
      · cases q
    · rw [if_neg e1] at q ⊢
      exact r.slot j a q
  sep := fun j k p hj hk sj sk => by
    rw [getset] at hj hk sj sk
    by_cases e1 : i = j
    · rw [if_pos e1] at hj
      split at hj <;> simp [isOwn] at hj
    · by_cases e2 : i = k
      · rw [if_pos e2] at hk
        split at hk <;> simp [isOwn] at hk
      · rw [if_neg e1] at hj sj; rw [if_neg e2] at hk sk
        exact r.sep j k p hj hk sj sk
  inv := r.inv
  h1 := r.h1
  nh := r.nh
  dom := r.dom
  sub := r.sub
  l0 := r.l0
  l1 := r.l1
  s1 := r.s1
  md := r.md
  s0 := r.s0
  d0 := r.d0
  len := by rw [List.length_set, List.length_set]; exact r.len
theorem Rel.setO {i : Nat} {p : Addr} {o : HO} {ct : Ct} (r : Rel e c L S σ H α) (s : Sm H H') (n : H p = none) (ho : H' p = some o) (rc : RepC e (fz (p :: L) H') ct o) :
    Rel e c (p :: L) (p :: S) (σ.set i (some (.ref p))) H' (α.set i (some (.own ct))) where
  slot := fun j a q => by
    rw [getset] at q
    rw [getset]
    by_cases e1 : i = j
    · rw [if_pos e1] at q ⊢
      split at q
      · rename_i hl
        cases q
        rw [if_pos (by rw [r.len]; exact hl)]
        exact ⟨_, rfl, p, o, rfl, by simp, r.h0 n, ho, rc⟩
      · cases q
    · rw [if_neg e1] at q ⊢
      obtain ⟨v, h1, h2⟩ := r.slot j a q
      refine ⟨v, h1, ?_⟩
      cases a with
      | dat d => exact Rep.up (d := d) h2 (fz_cons s n)
      | adr _ => exact h2
      | own ct => obtain ⟨p', o, q, m, n', ho, rc⟩ := h2; exact ⟨p', o, q, List.mem_cons_of_mem _ m, n', s.k _ _ ho (r.nh _ (r.sub _ m)), rc.up (fz_cons s n)⟩
      | inn ct => obtain ⟨p', o, q, m, n', ho, rc⟩ := h2; exact ⟨p', o, q, List.mem_cons_of_mem _ m, n', s.k _ _ ho (r.nh _ (r.sub _ m)), rc.up (fz_cons s n)⟩
  sep := fun j k q hj hk sj sk => by
    have fresh : ∀ j, i ≠ j → isOwn α[j]? = true → σ[j]? ≠ some (some (V.ref p)) := fun j _ hj z => by
      cases ha : α[j]? with
      | none => rw [ha] at hj; simp [isOwn] at hj
      | some x =>
        cases x with
        | none => rw [ha] at hj; simp [isOwn] at hj
        | some a =>
          obtain ⟨v, h1, h2⟩ := r.slot j a ha
          rw [h1] at z; cases z
          cases a with
          | dat d => rw [ha] at hj; simp [isOwn] at hj
          | adr _ => rw [ha] at hj; simp [isOwn] at hj
          | own ct => obtain ⟨p', o, q, m, n', ho, rc⟩ := h2; cases q; rw [n] at ho; cases ho
          | inn ct => obtain ⟨p', o, q, m, n', ho, rc⟩ := h2; cases q; rw [n] at ho; cases ho
    rw [getset] at hj hk sj sk
    by_cases e1 : i = j
    · by_cases e2 : i = k
      · omega
      · rw [if_neg e2] at hk sk
        rw [if_pos e1] at sj
        split at sj
        · cases sj; exact absurd sk (fresh k e2 hk)
        · cases sj
    · rw [if_neg e1] at hj sj
      by_cases e2 : i = k
      · rw [if_pos e2] at sk
        split at sk
        · cases sk; exact absurd sj (fresh j e1 hj)
        · cases sk
      · rw [if_neg e2] at hk sk
        exact r.sep j k q hj hk sj sk
  inv := s.i r.inv
  h1 := r.h1
  nh := fun q m z => by
    rcases List.mem_cons.mp m with rfl | m
    · exact Hd.al r.inv z n
    · exact r.nh q m z
  dom := fun q m z => by
    rcases List.mem_cons.mp m with rfl | m
    · rw [ho] at z; cases z
    · exact (r.up s).dom q m z
  sub := fun q m => by
    rcases List.mem_cons.mp m with rfl | m
    · simp
    · exact List.mem_cons_of_mem _ (r.sub q m)
  l0 := fun q m => List.mem_cons_of_mem _ (r.l0 q m)
  l1 := fun q m => by
    rcases List.mem_cons.mp m with rfl | m
    · exact .inr (r.h0 n)
    · exact r.l1 q m
  s1 := fun q m => by
    rcases List.mem_cons.mp m with rfl | m
    · exact .inr (r.h0 n)
    · exact r.s1 q m
  md := r.md.trans (.of s)
  s0 := r.s0
  d0 := r.d0
  len := by rw [List.length_set, List.length_set]; exact r.len
def ctOf : Option (Option A) → Option Ct
  | some (some (.own c)) => some c
  | some (some (.inn c)) => some c
  | _ => none
def putC (α : State) (i : Nat) (ct : Ct) : State := match α[i]? with
  | some (some (.own _)) => α.set i (some (.own ct))
  | some (some (.inn _)) => α.set i (some (.inn ct))
  | _ => α
theorem Rel.at (r : Rel e c L S σ H α) {i : Nat} {ct : Ct} (h : ctOf α[i]? = some ct) : ∃ p o, σ[i]? = some (some (.ref p)) ∧ p ∈ S ∧ H p = some o ∧ RepC e (fz L H) ct o := by
  cases ha : α[i]? with
  | none => rw [ha] at h; cases h
  | some x =>
    cases x with
    | none => rw [ha] at h; cases h
    | some a =>
      rw [ha] at h
      obtain ⟨v, h1, h2⟩ := r.slot i a ha
      cases a with
      | dat d => cases h
      | adr _ => cases h
      | own ct => cases h; obtain ⟨p, o, q, m, n, ho, rc⟩ := h2; subst q; exact ⟨p, o, h1, m, ho, rc⟩
      | inn ct => cases h; obtain ⟨p, o, q, m, n, ho, rc⟩ := h2; subst q; exact ⟨p, o, h1, m, ho, rc⟩
theorem isOwn_ct {x : Option (Option A)} {ct : Ct} (h : ctOf x = some ct) : isOwn x = true := by
  cases x with
  | none => cases h
  | some x =>
    cases x with
    | none => cases h
    | some a => cases a <;> first | rfl | cases h
theorem putC_own {i j : Nat} {ct : Ct} : isOwn (putC α i ct)[j]? = true → isOwn α[j]? = true := by
  unfold putC
  split
  · rename_i q; rw [getset]; split
    · rename_i e1; subst e1; intro _; rw [q]; rfl
    · exact id
  · rename_i q; rw [getset]; split
    · rename_i e1; subst e1; intro _; rw [q]; rfl
    · exact id
  · exact id
theorem putC_len {i : Nat} {ct : Ct} : (putC α i ct).length = α.length := by
  unfold putC; split <;> simp
theorem Rel.mut (r : Rel e c L S σ H α) {i : Nat} {p : Addr} {o : HO} {ct ct' : Ct} (h : ctOf α[i]? = some ct) (hp : σ[i]? = some (some (.ref p))) (rc : RepC e (fz L H) ct' o) :
    Rel e c L S σ (upd H p o) (putC α i ct') ∧ Mod S H (upd H p o) := by
  obtain ⟨p', o', hp', mS, ho', rcO⟩ := r.at h
  rw [hp] at hp'; cases hp'
  have mL := r.sub p mS
  have hpl : Pl o' := RepC.pl rcO
  have iv : Hd.inv (upd H p o) := Hd.chg r.inv (r.nh p mL) ho' hpl
  have fzs : L2.Same (fz L H) (fz L (upd H p o)) := fz_mut fun a u q n _ => by
    rw [upd_ne (fun z => n (by rw [z]; exact mL))]; exact q
  have md : Mod S H (upd H p o) := ⟨fun a u q n _ => by rw [upd_ne (fun z => n (by rw [z]; exact mS))]; exact q, fun _ => iv⟩
  refine ⟨⟨fun j a q => ?_, fun j k q hj hk sj sk => r.sep j k q (putC_own hj) (putC_own hk) sj sk, iv, r.h1, r.nh, fun q m z => ?_, r.sub, r.l0, r.l1, r.s1, ?_, r.s0, r.d0, by rw [putC_len]; exact r.len⟩, md⟩
  · by_cases e1 : j = i
    · subst e1
      cases ha : α[j]? with
      | none => rw [ha] at h; cases h
      | some x =>
        cases x with
        | none => rw [ha] at h; cases h
        | some b =>
          have hl : j < α.length := (List.getElem?_eq_some_iff.mp ha).1
          obtain ⟨v, h1, h2⟩ := r.slot j b ha
          rw [hp] at h1; cases h1
          unfold putC at q
          cases b with
          | dat d => rw [ha] at h; cases h
          | adr _ => rw [ha] at h; cases h
          | own c1 =>
            rw [ha] at q
            rw [show (α.set j (some (A.own ct')))[j]? = some (some (A.own ct')) by rw [getset, if_pos rfl, if_pos hl]] at q
            cases q
            obtain ⟨p', o2, q2, m, n, ho2, _⟩ := h2
            cases q2
            exact ⟨_, hp, p, o, rfl, m, n, upd_same, rc.up fzs⟩
          | inn c1 =>
            rw [ha] at q
            rw [show (α.set j (some (A.inn ct')))[j]? = some (some (A.inn ct')) by rw [getset, if_pos rfl, if_pos hl]] at q
            cases q
            obtain ⟨p', o2, q2, m, n, ho2, _⟩ := h2
            cases q2
            exact ⟨_, hp, p, o, rfl, m, n, upd_same, rc.up fzs⟩
    · have qa : α[j]? = some (some a) := by
        unfold putC at q
        split at q
        · rw [getset, if_neg (fun z => e1 z.symm)] at q; exact q
        · rw [getset, if_neg (fun z => e1 z.symm)] at q; exact q
        · exact q
      obtain ⟨v, h1, h2⟩ := r.slot j a qa
      refine ⟨v, h1, ?_⟩
      have hne : isOwn α[j]? = true → v ≠ .ref p := fun ho z => e1 (r.sep j i p ho (isOwn_ct h) (by rw [h1, z]) hp)
      cases a with
      | dat d => exact Rep.up (d := d) h2 fzs
      | adr _ => exact h2
      | own c1 =>
        obtain ⟨p', o2, q2, m, n, ho2, rc2⟩ := h2
        subst q2
        refine ⟨p', o2, rfl, m, n, ?_, rc2.up fzs⟩
        rw [upd_ne]
        · exact ho2
        · intro z; exact hne (by rw [qa]; rfl) (by rw [z])
      | inn c1 =>
        obtain ⟨p', o2, q2, m, n, ho2, rc2⟩ := h2
        subst q2
        refine ⟨p', o2, rfl, m, n, ?_, rc2.up fzs⟩
        rw [upd_ne]
        · exact ho2
        · intro z; exact hne (by rw [qa]; rfl) (by rw [z])
  · by_cases e1 : q = p
    · subst e1; rw [upd_same] at z; cases z
    · rw [upd_ne e1] at z; exact r.dom q m z
  · refine ⟨fun a u q n nh => ?_, fun _ => iv⟩
    have hne : a ≠ p := by
      rintro rfl
      rcases r.s1 a mS with z | z
      · exact n z
      · rw [q] at z; cases z
    rw [upd_ne hne]
    exact r.md.k a u q n nh
end
end Ab
end
section
set_option maxRecDepth 100000
set_option maxHeartbeats 1000000
namespace Ab
open PySem L2
variable [Hd]
section
variable (e : En)
def Evp (te : TE) (s : State → Option D) : Prop := ∀ c L S σ H α d, Rel e c L S σ H α → s α = some d → ∀ Q : VK, (∀ v H', Sm H H' → Rep e (fz L H') d v → Q v H') → te σ H Q
def Evl (te : TE) (s : State → Option (List D)) : Prop := ∀ c L S σ H α xs, Rel e c L S σ H α → s α = some xs → ∀ Q : VK, (∀ p vs H', Sm H H' → H p = none → H' p = some (.lst vs) → Reps e (fz (p :: L) H') xs vs → Q (.ref p) H') → te σ H Q
def EvqL (te : TE) (s : State → Option (List D)) : Prop := ∀ c L S σ H α xs, Rel e c L S σ H α → s α = some xs → ∀ Q : VK, (∀ a vs H', Sm H H' → SqL e.K (fz [] H') a vs → Reps e (fz L H') xs vs → Q (.ref a) H') → te σ H Q
def EvqT (te : TE) (s : State → Option (List D)) : Prop := ∀ c L S σ H α xs, Rel e c L S σ H α → s α = some xs → ∀ Q : VK, (∀ a vs H', Sm H H' → SqT e.K (fz L H') a vs → Reps e (fz L H') xs vs → Q (.ref a) H') → te σ H Q
def Evt (tt : TT) (s : State → Option Bool) : Prop := ∀ c L S σ H α b, Rel e c L S σ H α → s α = some b → ∀ Q : Bool → Hp → Prop, (∀ H', Sm H H' → Q b H') → tt σ H Q
def Eva (ta : TA) (s : State → Option (List D)) : Prop := ∀ c L S σ H α ds, Rel e c L S σ H α → s α = some ds → ∀ Q : List V → Hp → Prop, (∀ vs H', Sm H H' → Reps e (fz L H') ds vs → Q vs H') → ta σ H Q
def Evo (to : TO) (s : State → Option (Option Int)) : Prop := ∀ c L S σ H α o, Rel e c L S σ H α → s α = some o → ∀ Q : Option Int → Hp → Prop, (∀ H', Sm H H' → Q o H') → to σ H Q
structure Dom (L : List Addr) (H : Hp) : Prop where
  dom : ∀ p ∈ L, H p ≠ none
  nh : ∀ p ∈ L, ¬ Hd.hid p
  inv : Hd.inv H
omit e in
theorem _root_.Ab.Rel.dm {e : En} {c : Cn} {L S : List Addr} {σ : L2.St} {H : Hp} {α : State} (r : Rel e c L S σ H α) : Dom L H := ⟨r.dom, r.nh, r.inv⟩
def RvD (r : R2) (f : D → D → Option D) : Prop := ∀ L H dx dy x y d, Dom L H → Rep e (fz L H) dx x → Rep e (fz L H) dy y → f dx dy = some d → ∀ Q : VK, (∀ v H', Sm H H' → Rep e (fz L H') d v → Q v H') → r x y H Q
def RuD (r : V → Hp → VK → Prop) (f : D → Option D) : Prop := ∀ L H dx x d, Dom L H → Rep e (fz L H) dx x → f dx = some d → ∀ Q : VK, (∀ v H', Sm H H' → Rep e (fz L H') d v → Q v H') → r x H Q
def RcD (r : List V → Hp → VK → Prop) (f : List D → Option D) : Prop := ∀ L H ds vs d, Dom L H → Reps e (fz L H) ds vs → f ds = some d → ∀ Q : VK, (∀ v H', Sm H H' → Rep e (fz L H') d v → Q v H') → r vs H Q
def RmD (r : V → List V → Hp → VK → Prop) (f : D → List D → Option D) : Prop := ∀ L H dx x ds vs d, Dom L H → Rep e (fz L H) dx x → Reps e (fz L H) ds vs → f dx ds = some d → ∀ Q : VK, (∀ v H', Sm H H' → Rep e (fz L H') d v → Q v H') → r x vs H Q
end
def bnd {α β : Type} (o : Option α) (f : α → Option β) : Option β := match o with | some a => f a | none => none
theorem bnd_some {α β : Type} {o : Option α} {f : α → Option β} {b : β} (h : bnd o f = some b) : ∃ a, o = some a ∧ f a = some b := by
  cases o with
  | none => cases h
  | some a => exact ⟨a, rfl, h⟩
@[simp] theorem bnd_s {α β : Type} {a : α} {f : α → Option β} : bnd (some a) f = f a := (rfl)
@[simp] theorem bnd_n {α β : Type} {f : α → Option β} : bnd none f = none := (rfl)
section
variable {e : En} {ta tb te : TE} {sa sb s : State → Option D}
theorem dom_up {L : List Addr} {H H' : Hp} (h : Sm H H') (d : Dom L H) : Dom L H' where
  dom := fun p m z => by
    cases q : H p with
    | none => exact d.dom p m q
    | some o => rw [h.k p o q (d.nh p m)] at z; cases z
  nh := d.nh
  inv := h.i d.inv
def xVar (i : Nat) : State → Option D := fun α => match α[i]? with | some (some (.dat d)) => some d | _ => none
theorem ev_var (i : Nat) : Evp e (tVar i) (xVar i) := fun c L S σ H α d r h Q q => by
  unfold xVar at h
  split at h
  · rename_i d' hd
    cases h
    obtain ⟨v, h1, h2⟩ := r.slot i _ hd
    exact ⟨v, h1, q v H (Sm.refl H) h2⟩
  · cases h
def xC (d : D) : State → Option D := fun _ => some d
theorem ev_c {d : D} {v : V} (h : ∀ F, Rep e F d v) : Evp e (tC v) (xC d) := fun c L S σ H α d' r hd Q q => by
  cases hd
  exact q v H (Sm.refl H) (h _)
theorem ev_int {i : Int} : Evp e (tC (.int i)) (xC (.int i)) := ev_c fun _ => rfl
theorem ev_bl {i : Bool} : Evp e (tC (.bl i)) (xC (.bl i)) := ev_c fun _ => rfl
theorem ev_str {i : Str} : Evp e (tC (.str i)) (xC (.str i)) := ev_c fun _ => rfl
theorem ev_non : Evp e (tC .non) (xC .non) := ev_c fun _ => rfl
theorem ev_top {d : D} {v : V} (h : ∀ F, Rep e F d v) : Evp e (tC v) (xC d) := ev_c h
def x2 (f : D → D → Option D) (sa sb : State → Option D) : State → Option D := fun α => bnd (sa α) fun a => bnd (sb α) fun b => f a b
theorem ev_op {r : R2} {f : D → D → Option D} (hr : RvD e r f) (ha : Evp e ta sa) (hb : Evp e tb sb) : Evp e (tOp r ta tb) (x2 f sa sb) := fun c L S σ H α d R h Q q => by
  obtain ⟨a, h1, h⟩ := bnd_some h
  obtain ⟨b, h2, h⟩ := bnd_some h
  refine ha c L S σ H α a R h1 _ fun v H1 e1 r1 => ?_
  refine hb c L S σ H1 α b (R.up e1) h2 _ fun u H2 e2 r2 => ?_
  exact hr L H2 a b v u d (dom_up (e1.trans e2) R.dm) (r1.up (fz_same e2)) r2 h Q fun w H3 e3 r3 => q w H3 ((e1.trans e2).trans e3) r3
def x1 (f : D → Option D) (sa : State → Option D) : State → Option D := fun α => bnd (sa α) f
theorem ev_un {r : V → Hp → VK → Prop} {f : D → Option D} (hr : RuD e r f) (ha : Evp e ta sa) : Evp e (tUn r ta) (x1 f sa) := fun c L S σ H α d R h Q q => by
  obtain ⟨a, h1, h⟩ := bnd_some h
  refine ha c L S σ H α a R h1 _ fun v H1 e1 r1 => ?_
  exact hr L H1 a v d (dom_up e1 R.dm) r1 h Q fun w H3 e3 r3 => q w H3 (e1.trans e3) r3
def ii (g : Int → Int → Option D) : D → D → Option D := fun a b => match a, b with | .int i, .int j => g i j | _, _ => none
theorem ii_some {g : Int → Int → Option D} {a b d : D} (h : ii g a b = some d) : ∃ i j, a = .int i ∧ b = .int j ∧ g i j = some d := by
  unfold ii at h
  split at h
  · exact ⟨_, _, rfl, rfl, h⟩
  · cases h
theorem rv_I0 {g : Int → Int → V} {k : Int → Int → D} (hk : ∀ i j F, Rep e F (k i j) (g i j)) : RvD e (rI0 g) (ii fun i j => some (k i j)) := fun L H dx dy x y d dm rx ry h Q q => by
  obtain ⟨i, j, rfl, rfl, h⟩ := ii_some h
  cases h; cases rx; cases ry
  exact ⟨i, j, rfl, rfl, q _ H (Sm.refl H) (hk i j _)⟩
theorem rv_I {C : Int → Int → Prop} [∀ i j, Decidable (C i j)] {g : Int → Int → V} {k : Int → Int → D} (hk : ∀ i j F, Rep e F (k i j) (g i j)) : RvD e (rI C g) (ii fun i j => if C i j then some (k i j) else none) := fun L H dx dy x y d dm rx ry h Q q => by
  obtain ⟨i, j, rfl, rfl, h2⟩ := ii_some h
  clear h
  have h := h2
  split at h
  · rename_i hc
    cases h; cases rx; cases ry
    exact ⟨i, j, rfl, rfl, hc, q _ H (Sm.refl H) (hk i j _)⟩
  · cases h
abbrev fAdd : D → D → Option D := ii fun i j => some (.int (i + j))
abbrev fSub : D → D → Option D := ii fun i j => some (.int (i - j))
abbrev fLt : D → D → Option D := ii fun i j => some (.bl (decide (i < j)))
abbrev fLe : D → D → Option D := ii fun i j => some (.bl (decide (i ≤ j)))
abbrev fGt : D → D → Option D := ii fun i j => some (.bl (decide (i > j)))
abbrev fGe : D → D → Option D := ii fun i j => some (.bl (decide (i ≥ j)))
theorem rv_add : RvD e (rI0 fun i j => .int (i + j)) fAdd := rv_I0 fun _ _ _ => rfl
theorem rv_sub : RvD e (rI0 fun i j => .int (i - j)) fSub := rv_I0 fun _ _ _ => rfl
theorem rv_lt : RvD e (rI0 fun i j => .bl (decide (i < j))) fLt := rv_I0 fun _ _ _ => rfl
theorem rv_le : RvD e (rI0 fun i j => .bl (decide (i ≤ j))) fLe := rv_I0 fun _ _ _ => rfl
theorem rv_gt : RvD e (rI0 fun i j => .bl (decide (j < i))) fGt := rv_I0 fun _ _ _ => rfl
theorem rv_ge : RvD e (rI0 fun i j => .bl (decide (j ≤ i))) fGe := rv_I0 fun _ _ _ => rfl
instance (i j : Int) : Decidable (CMul i j) := by unfold CMul; infer_instance
instance (i j : Int) : Decidable (CDiv i j) := by unfold CDiv; infer_instance
instance (i j : Int) : Decidable (CDivN i j) := by unfold CDivN; infer_instance
instance (i j : Int) : Decidable (CPow i j) := by unfold CPow; infer_instance
abbrev fMul : D → D → Option D := ii fun i j => if CMul i j then some (.int (i * j)) else none
abbrev fDiv : D → D → Option D := ii fun i j => if CDiv i j then some (.int (i / j)) else none
abbrev fMod : D → D → Option D := ii fun i j => if 0 < j then some (.int (i % j)) else none
abbrev fPow : D → D → Option D := ii fun i j => if CPow i j then some (.int (i ^ j.toNat)) else none
theorem rv_mul : RvD e (rI CMul fun i j => .int (i * j)) fMul := rv_I fun _ _ _ => rfl
theorem rv_div : RvD e (rI CDiv fun i j => .int (i / j)) fDiv := rv_I fun _ _ _ => rfl
theorem rv_mod : RvD e (rI (fun _ j => 0 < j) fun i j => .int (i % j)) fMod := rv_I fun _ _ _ => rfl
theorem rv_pow : RvD e (rI CPow fun i j => .int (i ^ j.toNat)) fPow := rv_I fun _ _ _ => rfl
def fNeg : D → Option D := fun a => match a with | .int i => some (.int (-i)) | _ => none
theorem ru_neg : RuD e (rU fun i => .int (-i)) fNeg := fun L H dx x d dm rx h Q q => by
  unfold fNeg at h
  split at h
  · cases h; cases rx; exact ⟨_, rfl, q _ H (Sm.refl H) rfl⟩
  · cases h
def flat : D → Bool
  | .non | .bl _ | .int _ | .str _ => true
  | _ => false
def dv : D → V
  | .non => .non | .bl b => .bl b | .int i => .int i | .str s => .str s | _ => .non
theorem rep_flat {F : Hp} {d : D} {v : V} (h : flat d = true) (r : Rep e F d v) : v = dv d := by
  cases d <;> first | (exact r) | (simp [flat] at h)
theorem rep_of_flat {F : Hp} {d : D} (h : flat d = true) : Rep e F d (dv d) := by
  cases d <;> first | rfl | (simp [flat] at h)
def fEq : D → D → Option D := fun a b => if (flat a && flat b && scal (dv a) (dv b)) = true then some (.bl (decide (dv a = dv b))) else none
def fNe : D → D → Option D := fun a b => if (flat a && flat b && scal (dv a) (dv b)) = true then some (.bl (!decide (dv a = dv b))) else none
theorem rv_eq : RvD e rEq fEq := fun L H dx dy x y d dm rx ry h Q q => by
  unfold fEq at h
  split at h
  · rename_i hc
    simp only [Bool.and_eq_true] at hc
    cases h
    rw [rep_flat hc.1.1 rx, rep_flat hc.1.2 ry]
    exact ⟨hc.2, q _ H (Sm.refl H) rfl⟩
  · cases h
theorem rv_ne : RvD e rNe fNe := fun L H dx dy x y d dm rx ry h Q q => by
  unfold fNe at h
  split at h
  · rename_i hc
    simp only [Bool.and_eq_true] at hc
    cases h
    rw [rep_flat hc.1.1 rx, rep_flat hc.1.2 ry]
    exact ⟨hc.2, q _ H (Sm.refl H) rfl⟩
  · cases h
def fIsN : D → D → Option D := fun a b => match b with | .non => (match a with | .non => some (.bl true) | _ => some (.bl false)) | _ => none
def fNotN : D → D → Option D := fun a b => match b with | .non => (match a with | .non => some (.bl false) | _ => some (.bl true)) | _ => none
theorem rep_non {F : Hp} {d : D} {v : V} (r : Rep e F d v) : decide (v = .non) = (match d with | .non => true | _ => false) := by
  cases d with
  | non => cases r; rfl
  | bl b => cases r; rfl
  | int b => cases r; rfl
  | str b => cases r; rfl
  | ty b => cases r; rfl
  | cls b => cases r; rfl
  | tup b => obtain ⟨a, vs, rfl, _⟩ := r; rfl
  | lst b => obtain ⟨a, vs, rfl, _⟩ := r; rfl
  | ins b c => obtain ⟨a, vs, _, rfl, _⟩ := r; rfl
  | dic b => obtain ⟨a, vs, _, rfl, _⟩ := r; rfl
  | trm b => obtain ⟨a, rfl, _⟩ := r; rfl
theorem rv_isN : RvD e (fun x y H Q => y = .non ∧ Q (.bl (decide (x = .non))) H) fIsN := fun L H dx dy x y d dm rx ry h Q q => by
  unfold fIsN at h
  split at h
  · cases ry
    refine ⟨rfl, ?_⟩
    rw [rep_non rx]
    cases dx <;> (cases h; exact q _ H (Sm.refl H) rfl)
  · cases h
theorem rv_notN : RvD e (fun x y H Q => y = .non ∧ Q (.bl (!decide (x = .non))) H) fNotN := fun L H dx dy x y d dm rx ry h Q q => by
  unfold fNotN at h
  split at h
  · cases ry
    refine ⟨rfl, ?_⟩
    rw [rep_non rx]
    cases dx <;> (cases h; exact q _ H (Sm.refl H) rfl)
  · cases h
def asB (s : State → Option D) : State → Option Bool := fun α => match s α with | some (.bl b) => some b | _ => none
theorem asB_some {α : State} {b : Bool} (h : asB s α = some b) : s α = some (.bl b) := by
  unfold asB at h
  split at h
  · rename_i q; cases h; exact q
  · cases h
theorem et_test (h : Evp e te s) : Evt e (tTest te) (asB s) := fun c L S σ H α b R q Q k => h c L S σ H α _ R (asB_some q) _ fun v H' e1 r => by
  cases r
  exact ⟨b, rfl, k H' e1⟩
theorem et_B (h : Evp e te s) : Evt e (tB te) (asB s) := fun c L S σ H α b R q Q k => h c L S σ H α _ R (asB_some q) _ fun v H' e1 r => by
  cases r
  exact ⟨b, rfl, k H' e1⟩
variable {t u : TT} {st su : State → Option Bool}
def tbNot (st : State → Option Bool) : State → Option Bool := fun α => (st α).map (!·)
def tbAnd (st su : State → Option Bool) : State → Option Bool := fun α => match st α with | some true => su α | o => o
def tbOr (st su : State → Option Bool) : State → Option Bool := fun α => match st α with | some false => su α | o => o
theorem et_not (h : Evt e t st) : Evt e (tNot t) (tbNot st) := fun c L S σ H α b R q Q k => by
  unfold tbNot at q
  cases hs : st α with
  | none => rw [hs] at q; cases q
  | some b' =>
    rw [hs] at q; cases q
    exact h c L S σ H α b' R hs _ fun H' e1 => k H' e1
theorem et_and (h : Evt e t st) (h' : Evt e u su) : Evt e (tAnd t u) (tbAnd st su) := fun c L S σ H α b R q Q k => by
  unfold tbAnd at q
  cases hs : st α with
  | none => rw [hs] at q; cases q
  | some b' =>
    refine h c L S σ H α b' R hs _ fun H' e1 => ?_
    cases b' with
    | true =>
      rw [hs] at q
      show u σ H' Q
      exact h' c L S σ H' α b (R.up e1) q Q fun H2 e2 => k H2 (e1.trans e2)
    | false => rw [hs] at q; cases q; exact k H' e1
theorem et_or (h : Evt e t st) (h' : Evt e u su) : Evt e (tOr t u) (tbOr st su) := fun c L S σ H α b R q Q k => by
  unfold tbOr at q
  cases hs : st α with
  | none => rw [hs] at q; cases q
  | some b' =>
    refine h c L S σ H α b' R hs _ fun H' e1 => ?_
    cases b' with
    | false =>
      rw [hs] at q
      show u σ H' Q
      exact h' c L S σ H' α b (R.up e1) q Q fun H2 e2 => k H2 (e1.trans e2)
    | true => rw [hs] at q; cases q; exact k H' e1
def xIf (st : State → Option Bool) (sa sb : State → Option D) : State → Option D := fun α => match st α with | some true => sa α | some false => sb α | none => none
theorem ev_if (h : Evt e t st) (ha : Evp e ta sa) (hb : Evp e tb sb) : Evp e (tIf t ta tb) (xIf st sa sb) := fun c L S σ H α d R q Q k => by
  unfold xIf at q
  cases hs : st α with
  | none => rw [hs] at q; cases q
  | some b' =>
    refine h c L S σ H α b' R hs _ fun H' e1 => ?_
    cases b' with
    | true =>
      rw [hs] at q
      show ta σ H' Q
      exact ha c L S σ H' α d (R.up e1) q Q fun v H2 e2 r => k v H2 (e1.trans e2) r
    | false =>
      rw [hs] at q
      show tb σ H' Q
      exact hb c L S σ H' α d (R.up e1) q Q fun v H2 e2 r => k v H2 (e1.trans e2) r
def xB (st : State → Option Bool) : State → Option D := fun α => (st α).map .bl
theorem ev_andV (h : Evp e ta sa) (h' : Evp e tb sb) : Evp e (tAndV ta tb) (xB (tbAnd (asB sa) (asB sb))) := fun c L S σ H α d R q Q k => by
  unfold xB tbAnd at q
  cases hs : asB sa α with
  | none => rw [hs] at q; cases q
  | some b =>
    refine h c L S σ H α _ R (asB_some hs) _ fun v H' e1 r => ?_
    cases r
    refine ⟨b, rfl, ?_⟩
    rw [hs] at q
    cases b with
    | true =>
      cases hu : asB sb α with
      | none => rw [hu] at q; cases q
      | some b2 =>
        rw [hu] at q; cases q
        show tb σ H' Q
        exact h' c L S σ H' α _ (R.up e1) (asB_some hu) Q fun v H2 e2 r => k v H2 (e1.trans e2) r
    | false => cases q; exact k _ H' e1 rfl
theorem ev_orV (h : Evp e ta sa) (h' : Evp e tb sb) : Evp e (tOrV ta tb) (xB (tbOr (asB sa) (asB sb))) := fun c L S σ H α d R q Q k => by
  unfold xB tbOr at q
  cases hs : asB sa α with
  | none => rw [hs] at q; cases q
  | some b =>
    refine h c L S σ H α _ R (asB_some hs) _ fun v H' e1 r => ?_
    cases r
    refine ⟨b, rfl, ?_⟩
    rw [hs] at q
    cases b with
    | false =>
      cases hu : asB sb α with
      | none => rw [hu] at q; cases q
      | some b2 =>
        rw [hu] at q; cases q
        show tb σ H' Q
        exact h' c L S σ H' α _ (R.up e1) (asB_some hu) Q fun v H2 e2 r => k v H2 (e1.trans e2) r
    | true => cases q; exact k _ H' e1 rfl
theorem ev_notV (h : Evp e ta sa) : Evp e (tNotV ta) (xB (tbNot (asB sa))) := fun c L S σ H α d R q Q k => by
  unfold xB tbNot at q
  cases hs : asB sa α with
  | none => rw [hs] at q; cases q
  | some b =>
    rw [hs] at q; cases q
    exact h c L S σ H α _ R (asB_some hs) _ fun v H' e1 r => by
      cases r
      exact ⟨b, rfl, k _ H' e1 rfl⟩
variable {tr : TA} {sr : State → Option (List D)}
def aNil : State → Option (List D) := fun _ => some []
def aCons (s : State → Option D) (sr : State → Option (List D)) : State → Option (List D) := fun α => bnd (s α) fun d => bnd (sr α) fun ds => some (d :: ds)
theorem ea_nil : Eva e tNil aNil := fun c L S σ H α ds R q Q k => by cases q; exact k [] H (Sm.refl H) Reps.nil
theorem ea_cons (h : Evp e te s) (hr : Eva e tr sr) : Eva e (tCons te tr) (aCons s sr) := fun c L S σ H α ds R q Q k => by
  obtain ⟨d, h1, q⟩ := bnd_some q
  obtain ⟨ds', h2, q⟩ := bnd_some q
  cases q
  refine h c L S σ H α d R h1 _ fun v H1 e1 r1 => ?_
  exact hr c L S σ H1 α ds' (R.up e1) h2 _ fun vs H2 e2 r2 => k _ H2 (e1.trans e2) (Reps.cons (r1.up (fz_same e2)) r2)
theorem fresh_nL {L : List Addr} {H : Hp} {p : Addr} (dm : Dom L H) (n : H p = none) : p ∉ L ∧ ¬ Hd.hid p := ⟨fun m => dm.dom p m n, fun h => Hd.al dm.inv h n⟩
theorem Dom.new {L : List Addr} {H H' : Hp} {p : Addr} {o : HO} (d : Dom L H) (s : Sm H H') (n : H p = none) (ho : H' p = some o) : Dom (p :: L) H' where
  dom := fun q m => by
    rcases List.mem_cons.mp m with rfl | m
    · rw [ho]; simp
    · exact (dom_up s d).dom q m
  nh := fun q m => by
    rcases List.mem_cons.mp m with rfl | m
    · exact fun h => Hd.al d.inv h n
    · exact d.nh q m
  inv := s.i d.inv
theorem Sm.thenM {H H1 H' : Hp} {p : Addr} (s : Sm H H1) (m : Mod [p] H1 H') (n : H p = none) : Sm H H' :=
  ⟨fun b o z nh => m.k b o (s.k b o z nh) (by simp only [List.mem_singleton]; exact ne_of_none z n) nh, fun h => m.i (s.i h)⟩
theorem fz_new {L : List Addr} {H : Hp} {p : Addr} {o : HO} (hn : p ∉ L ∧ ¬ Hd.hid p) (ho : H p = some o) : fz L H p = some o := fz_at ho hn.1 hn.2
def lenOk {β : Type} (xs : List β) : Option (List β) := if xs.length ≤ 100000 then some xs else none
theorem lenOk_some {β : Type} {xs ys : List β} (h : lenOk xs = some ys) : ys = xs ∧ xs.length ≤ 100000 := by
  unfold lenOk at h
  split at h
  · cases h; exact ⟨rfl, by assumption⟩
  · cases h
theorem sz_of {n : Nat} (h : n ≤ 100000) : n ≤ sizeLine := Nat.le_trans h (by decide)
theorem sz_lt {n : Nat} (h : n < 100000) : n < sizeLine := Nat.lt_of_lt_of_le h (by decide)
def xTup (sr : State → Option (List D)) : State → Option D := fun α => bnd (sr α) fun ds => if ds.length ≤ 100000 then some (.tup ds) else none
theorem ev_tup (h : Eva e tr sr) : Evp e (tTup tr) (xTup sr) := fun c L S σ H α d R q Q k => by
  obtain ⟨ds, h1, q⟩ := bnd_some q
  split at q
  · rename_i hz
    cases q
    refine h c L S σ H α ds R h1 _ fun vs H1 e1 r1 => ⟨by rw [r1.len]; exact sz_of hz, fun p hp => ?_⟩
    have s2 : Sm H1 (upd H1 p (.tup vs)) := .of fun b o z => by rw [upd_ne (ne_of_none z hp)]; exact z
    refine k _ _ (e1.trans s2) ⟨p, vs, rfl, .inl (.inl (fz_new (fresh_nL (dom_up e1 R.dm) hp) upd_same)), r1.up (fz_same s2)⟩
  · cases q
theorem el_lst (h : Eva e tr sr) : Evl e (tLst tr) (fun α => bnd (sr α) lenOk) := fun c L S σ H α xs R q Q k => by
  obtain ⟨ds, h1, q⟩ := bnd_some q
  obtain ⟨rfl, hz⟩ := lenOk_some q
  refine h c L S σ H α _ R h1 _ fun vs H1 e1 r1 => ⟨by rw [r1.len]; exact sz_of hz, fun p hp => ?_⟩
  have s2 : Sm H1 (upd H1 p (.lst vs)) := .of fun b o z => by rw [upd_ne (ne_of_none z hp)]; exact z
  have hn : H p = none := by
    exact e1.free R.inv hp
  exact k p vs _ (e1.trans s2) hn upd_same (r1.up (fz_cons s2 hp))
def xL (s : State → Option (List D)) : State → Option D := fun α => (s α).map .lst
theorem el_d {s : State → Option (List D)} (h : Evl e te s) : Evp e te (xL s) := fun c L S σ H α d R q Q k => by
  unfold xL at q
  cases hs : s α with
  | none => rw [hs] at q; cases q
  | some xs =>
    rw [hs] at q; cases q
    refine h c L S σ H α xs R hs _ fun p vs H' e1 n hp r => k _ H' e1 ⟨p, vs, rfl, .inl (.inl (fz_new (fresh_nL R.dm n) hp)), r.up (fz_anti fun a m => List.mem_cons_of_mem _ m)⟩
def qL (s : State → Option D) : State → Option (List D) := fun α => match s α with | some (.lst xs) => some xs | _ => none
def qT (s : State → Option D) : State → Option (List D) := fun α => match s α with | some (.tup xs) => some xs | _ => none
theorem eq_l (h : Evp e te s) : EvqL e te (qL s) := fun c L S σ H α xs R q Q k => by
  unfold qL at q
  split at q
  · rename_i ys hs
    cases q
    refine h c L S σ H α _ R hs _ fun v H' e1 ⟨a, vs, e2, r1, r2⟩ => ?_
    subst e2
    exact k a vs H' e1 ((fz_anti (fun a m => absurd m (by simp))).seq r1) r2
  · cases q
theorem eq_t (h : Evp e te s) : EvqT e te (qT s) := fun c L S σ H α xs R q Q k => by
  unfold qT at q
  split at q
  · rename_i ys hs
    cases q
    refine h c L S σ H α _ R hs _ fun v H' e1 ⟨a, vs, e2, r1, r2⟩ => ?_
    subst e2
    exact k a vs H' e1 r1 r2
  · cases q
theorem eq_n {s : State → Option (List D)} (h : Evl e te s) : EvqL e te s := fun c L S σ H α xs R q Q k =>
  h c L S σ H α xs R q _ fun p vs H' e1 n hp r => k p vs H' e1 (SqL.of (fz_at hp (by simp) (fresh_nL R.dm n).2)) (r.up (fz_anti fun a m => List.mem_cons_of_mem _ m))
def qO (i : Nat) : State → Option (List D) := fun α => match ctOf α[i]? with | some (.lst xs) => some xs | _ => none
theorem eq_o (i : Nat) : EvqL e (tVar i) (qO i) := fun c L S σ H α xs R q Q k => by
  unfold qO at q
  split at q
  · rename_i ys hs
    cases q
    obtain ⟨p, o, h1, h2, h3, vs, rfl, h4⟩ := R.at hs
    exact ⟨_, h1, k p vs H (Sm.refl H) (SqL.of (fz_at h3 (by simp) (R.nh p (R.sub p h2)))) h4⟩
  · cases q
def spP (e : En) (m : List D → Option D) : Sp := fun vs H Q _ => ∃ L ds d, Dom L H ∧ Reps e (fz L H) ds vs ∧ m ds = some d ∧ ∀ v H', Sm H H' → Rep e (fz L H') d v → Q v H'
def spL (e : En) (m : List D → Option (List D)) : Sp := fun vs H Q _ => ∃ L ds xs, Dom L H ∧ Reps e (fz L H) ds vs ∧ m ds = some xs ∧ ∀ p us H', Sm H H' → H p = none → H' p = some (.lst us) → Reps e (fz (p :: L) H') xs us → Q (.ref p) H'
def xCall (m : List D → Option D) (sr : State → Option (List D)) : State → Option D := fun α => bnd (sr α) m
theorem ev_call {E : XK} {m : List D → Option D} (h : Eva e tr sr) : Evp e (tCall (spP e m) [] E tr) (xCall m sr) := fun c L S σ H α d R q Q k => by
  obtain ⟨ds, h1, q⟩ := bnd_some q
  exact h c L S σ H α ds R h1 _ fun vs H1 e1 r1 => ⟨L, ds, d, dom_up e1 R.dm, by rw [List.append_nil]; exact r1, q, fun v H' e2 r2 => k v H' (e1.trans e2) r2⟩
theorem el_call {E : XK} {m : List D → Option (List D)} (h : Eva e tr sr) : Evl e (tCall (spL e m) [] E tr) (fun α => bnd (sr α) m) := fun c L S σ H α d R q Q k => by
  obtain ⟨ds, h1, q⟩ := bnd_some q
  refine h c L S σ H α ds R h1 _ fun vs H1 e1 r1 => ⟨L, ds, d, dom_up e1 R.dm, by rw [List.append_nil]; exact r1, q, fun p us H' e2 n hp r2 => k p us H' (e1.trans e2) ?_ hp r2⟩
  exact e1.free R.inv n
theorem ev_callB {r : List V → Hp → VK → Prop} {f : List D → Option D} (hr : RcD e r f) (h : Eva e tr sr) : Evp e (tCB r tr) (xCall f sr) := fun c L S σ H α d R q Q k => by
  obtain ⟨ds, h1, q⟩ := bnd_some q
  exact h c L S σ H α ds R h1 _ fun vs H1 e1 r1 => hr L H1 ds vs d (dom_up e1 R.dm) r1 q Q fun v H' e2 r2 => k v H' (e1.trans e2) r2
section
variable {sq : State → Option (List D)}
def xLen (sq : State → Option (List D)) : State → Option D := fun α => match sq α with | some xs => some (.int xs.length) | none => none
theorem ev_lenL (h : EvqL e te sq) : Evp e (tCB (fun xs H Q => ∃ p ys, xs = [.ref p] ∧ (SqL e.K H p ys ∨ SqT e.K H p ys) ∧ Q (.int ys.length) H) (tCons te tNil)) (xLen sq) := fun c L S σ H α d R q Q k => by
  unfold xLen at q
  cases hs : sq α with
  | none => rw [hs] at q; cases q
  | some xs =>
    rw [hs] at q; cases q
    exact h c L S σ H α xs R hs _ fun a vs H' e1 r1 r2 => ⟨a, vs, rfl, .inl (fz_le.seq r1), k _ H' e1 (by rw [r2.len]; rfl)⟩
theorem ev_lenT (h : EvqT e te sq) : Evp e (tCB (fun xs H Q => ∃ p ys, xs = [.ref p] ∧ (SqL e.K H p ys ∨ SqT e.K H p ys) ∧ Q (.int ys.length) H) (tCons te tNil)) (xLen sq) := fun c L S σ H α d R q Q k => by
  unfold xLen at q
  cases hs : sq α with
  | none => rw [hs] at q; cases q
  | some xs =>
    rw [hs] at q; cases q
    exact h c L S σ H α xs R hs _ fun a vs H' e1 r1 r2 => ⟨a, vs, rfl, .inr (same_t fz_le r1), k _ H' e1 (by rw [r2.len]; rfl)⟩
def fLenS : List D → Option D := fun ds => match ds with | [.str z] => if z.length ≤ 100000 then some (.int z.length) else none | _ => none
theorem rc_lenS : RcD e (fun xs H Q => ∃ z, xs = [.str z] ∧ z.length ≤ sizeLine ∧ Q (.int z.length) H) fLenS := fun L H ds vs d dm r q Q k => by
  unfold fLenS at q
  split at q
  · rename_i z
    split at q
    · cases q
      obtain ⟨v, _, rfl, r1, r2⟩ := r
      cases r1; cases r2
      exact ⟨z, rfl, sz_of (by assumption), k _ H (Sm.refl H) rfl⟩
    · cases q
  · cases q
theorem atI_rep {F : Hp} {ds : List D} {vs : List V} {i : Int} {d : D} (r : Reps e F ds vs) (h : atI ds i = some d) : ∃ v, atI vs i = some v ∧ Rep e F d v := by
  unfold atI at *
  rw [r.len]
  cases hx : ixN ds.length i with
  | none => rw [hx] at h; cases h
  | some j => rw [hx] at h; exact r.get h
def xIx (sq : State → Option (List D)) (sb : State → Option D) : State → Option D := fun α => bnd (sq α) fun xs => match sb α with | some (.int i) => atI xs i | _ => none
theorem ev_ixL (h : EvqL e ta sq) (hb : Evp e tb sb) : Evp e (tOp (rIxL e.K) ta tb) (xIx sq sb) := fun c L S σ H α d R q Q k => by
  obtain ⟨xs, h1, q⟩ := bnd_some q
  split at q
  · rename_i i hi
    refine h c L S σ H α xs R h1 _ fun a vs H1 e1 r1 r2 => ?_
    refine hb c L S σ H1 α _ (R.up e1) hi _ fun v H2 e2 r3 => ?_
    cases r3
    obtain ⟨v, h2, h3⟩ := atI_rep r2 q
    exact ⟨a, vs, i, v, rfl, rfl, fz_le.seq ((fz_same e2).seq r1), h2, k v H2 (e1.trans e2) (h3.up (fz_same e2))⟩
  · cases q
theorem ev_ixT (h : EvqT e ta sq) (hb : Evp e tb sb) : Evp e (tOp (rIxT e.K) ta tb) (xIx sq sb) := fun c L S σ H α d R q Q k => by
  obtain ⟨xs, h1, q⟩ := bnd_some q
  split at q
  · rename_i i hi
    refine h c L S σ H α xs R h1 _ fun a vs H1 e1 r1 r2 => ?_
    refine hb c L S σ H1 α _ (R.up e1) hi _ fun v H2 e2 r3 => ?_
    cases r3
    obtain ⟨v, h2, h3⟩ := atI_rep r2 q
    exact ⟨a, vs, i, v, rfl, rfl, same_t fz_le (same_t (fz_same e2) r1), h2, k v H2 (e1.trans e2) (h3.up (fz_same e2))⟩
  · cases q
def cutD (xs : List D) (lo hi : Option Int) : List D := (xs.drop (HT.sIx xs.length 0 lo)).take (HT.sIx xs.length xs.length hi - HT.sIx xs.length 0 lo)
theorem cut_rep {F : Hp} {ds : List D} {vs : List V} {lo hi : Option Int} (r : Reps e F ds vs) : Reps e F (cutD ds lo hi) (cutV vs lo hi) := by
  unfold cutD cutV
  rw [r.len]
  exact (r.drop _).take _
variable {tl th : TO} {sl sh : State → Option (Option Int)}
def oNone : State → Option (Option Int) := fun _ => some none
def oSome (s : State → Option D) : State → Option (Option Int) := fun α => match s α with | some (.int i) => some (some i) | _ => none
theorem eo_none : Evo e tNoPart oNone := fun c L S σ H α o R q Q k => by cases q; exact k H (Sm.refl H)
theorem eo_some (h : Evp e te s) : Evo e (tPart te) (oSome s) := fun c L S σ H α o R q Q k => by
  unfold oSome at q
  split at q
  · rename_i i hi
    cases q
    refine h c L S σ H α _ R hi _ fun v H' e1 r => ?_
    cases r
    exact ⟨i, rfl, k H' e1⟩
  · cases q
def xSlL (sq : State → Option (List D)) (sl sh : State → Option (Option Int)) : State → Option (List D) := fun α => bnd (sq α) fun xs => bnd (sl α) fun lo => bnd (sh α) fun hi => some (cutD xs lo hi)
def xSlT (sq : State → Option (List D)) (sl sh : State → Option (Option Int)) : State → Option D := fun α => bnd (sq α) fun xs => bnd (sl α) fun lo => bnd (sh α) fun hi =>
    if (HT.sIx xs.length 0 lo = 0 ∧ HT.sIx xs.length xs.length hi = xs.length) then none else some (.tup (cutD xs lo hi))
theorem el_slL (h : EvqL e te sq) (hl : Evo e tl sl) (hh : Evo e th sh) : Evl e (tSl (rSlL e.K) te tl th) (xSlL sq sl sh) := fun c L S σ H α d R q Q k => by
  obtain ⟨xs, h1, q⟩ := bnd_some q
  obtain ⟨lo, h2, q⟩ := bnd_some q
  obtain ⟨hi, h3, q⟩ := bnd_some q
  cases q
  refine h c L S σ H α xs R h1 _ fun a vs H1 e1 r1 r2 => ?_
  refine hl c L S σ H1 α lo (R.up e1) h2 _ fun H2 e2 => ?_
  refine hh c L S σ H2 α hi (R.up (e1.trans e2)) h3 _ fun H3 e3 => ?_
  refine ⟨a, vs, rfl, fz_le.seq ((fz_same (e2.trans e3)).seq r1), fun p hp => ?_⟩
  have s4 : Sm H3 (upd H3 p (.lst (cutV vs lo hi))) := .of fun b o z => by rw [upd_ne (ne_of_none z hp)]; exact z
  have e13 := e1.trans (e2.trans e3)
  have hn : H p = none := by
    exact e13.free R.inv hp
  exact k p _ _ (e13.trans s4) hn upd_same (cut_rep (r2.up ((fz_same (e2.trans e3)).trans (fz_cons s4 hp))))
theorem ev_slT (h : EvqT e te sq) (hl : Evo e tl sl) (hh : Evo e th sh) : Evp e (tSl (rSlT e.K) te tl th) (xSlT sq sl sh) := fun c L S σ H α d R q Q k => by
  obtain ⟨xs, h1, q⟩ := bnd_some q
  obtain ⟨lo, h2, q⟩ := bnd_some q
  obtain ⟨hi, h3, q⟩ := bnd_some q
  split at q
  · cases q
  rename_i hc
  cases q
  refine h c L S σ H α xs R h1 _ fun a vs H1 e1 r1 r2 => ?_
  refine hl c L S σ H1 α lo (R.up e1) h2 _ fun H2 e2 => ?_
  refine hh c L S σ H2 α hi (R.up (e1.trans e2)) h3 _ fun H3 e3 => ?_
  refine ⟨a, vs, rfl, same_t fz_le (same_t (fz_same (e2.trans e3)) r1), by rw [r2.len]; exact hc, fun p hp => ?_⟩
  have s4 : Sm H3 (upd H3 p (.tup (cutV vs lo hi))) := .of fun b o z => by rw [upd_ne (ne_of_none z hp)]; exact z
  have e13 := e1.trans (e2.trans e3)
  exact k _ _ (e13.trans s4) ⟨p, _, rfl, .inl (.inl (fz_new (fresh_nL (dom_up e13 R.dm) hp) upd_same)), cut_rep (r2.up (fz_same ((e2.trans e3).trans s4)))⟩
theorem el_listL (h : EvqL e te sq) : Evl e (tCB (fun xs H Q => ∃ p ys, xs = [.ref p] ∧ (SqL e.K H p ys ∨ SqT e.K H p ys) ∧ ∀ l, H l = none → Q (.ref l) (upd H l (.lst ys))) (tCons te tNil)) sq := fun c L S σ H α xs R q Q k =>
  h c L S σ H α xs R q _ fun a vs H' e1 r1 r2 => ⟨a, vs, rfl, .inl (fz_le.seq r1), fun l hl => by
    have s4 : Sm H' (upd H' l (.lst vs)) := .of fun b o z => by rw [upd_ne (ne_of_none z hl)]; exact z
    have hn : H l = none := by
      exact e1.free R.inv hl
    exact k l vs _ (e1.trans s4) hn upd_same (r2.up (fz_cons s4 hl))⟩
theorem el_listT (h : EvqT e te sq) : Evl e (tCB (fun xs H Q => ∃ p ys, xs = [.ref p] ∧ (SqL e.K H p ys ∨ SqT e.K H p ys) ∧ ∀ l, H l = none → Q (.ref l) (upd H l (.lst ys))) (tCons te tNil)) sq := fun c L S σ H α xs R q Q k =>
  h c L S σ H α xs R q _ fun a vs H' e1 r1 r2 => ⟨a, vs, rfl, .inr (same_t fz_le r1), fun l hl => by
    have s4 : Sm H' (upd H' l (.lst vs)) := .of fun b o z => by rw [upd_ne (ne_of_none z hl)]; exact z
    have hn : H l = none := by
      exact e1.free R.inv hl
    exact k l vs _ (e1.trans s4) hn upd_same (r2.up (fz_cons s4 hl))⟩
def xTupL (sq : State → Option (List D)) : State → Option D := fun α => match sq α with | some xs => some (.tup xs) | none => none
theorem ev_tupL (h : EvqL e te sq) : Evp e (tCB (fun xs H Q => ∃ p ys, xs = [.ref p] ∧ ((SqL e.K H p ys ∧ ∀ l, H l = none → Q (.ref l) (upd H l (.tup ys))) ∨ (SqT e.K H p ys ∧ Q (.ref p) H))) (tCons te tNil)) (xTupL sq) := fun c L S σ H α d R q Q k => by
  unfold xTupL at q
  cases hs : sq α with
  | none => rw [hs] at q; cases q
  | some xs =>
    rw [hs] at q; cases q
    refine h c L S σ H α xs R hs _ fun a vs H' e1 r1 r2 => ⟨a, vs, rfl, .inl ⟨fz_le.seq r1, fun l hl => ?_⟩⟩
    have s4 : Sm H' (upd H' l (.tup vs)) := .of fun b o z => by rw [upd_ne (ne_of_none z hl)]; exact z
    exact k _ _ (e1.trans s4) ⟨l, vs, rfl, .inl (.inl (fz_new (fresh_nL (dom_up e1 R.dm) hl) upd_same)), r2.up (fz_same s4)⟩
def dints : List D → Option (List Int)
  | [] => some []
  | .int i :: r => (dints r).map (i :: ·)
  | _ => none
theorem dints_rep {F : Hp} : ∀ {ds : List D} {vs : List V} {ns : List Int}, dints ds = some ns → Reps e F ds vs → vs = ns.map V.int
  | [], _, _, h, r => by cases h; cases r; rfl
  | .int i :: ds, _, _, h, ⟨v, w, q, r1, r2⟩ => by
    cases hs : dints ds with
    | none => simp [dints, hs] at h
    | some ns => simp [dints, hs] at h; subst h; subst q; cases r1; rw [dints_rep hs r2]; rfl
  | .non :: _, _, _, h, _ => by simp [dints] at h
  | .bl _ :: _, _, _, h, _ => by simp [dints] at h
  | .str _ :: _, _, _, h, _ => by simp [dints] at h
  | .tup _ :: _, _, _, h, _ => by simp [dints] at h
  | .lst _ :: _, _, _, h, _ => by simp [dints] at h
  | .ins _ _ :: _, _, _, h, _ => by simp [dints] at h
  | .ty _ :: _, _, _, h, _ => by simp [dints] at h
  | .cls _ :: _, _, _, h, _ => by simp [dints] at h
theorem dints_of (ns : List Int) : dints (ns.map D.int) = some ns := by
  induction ns with
  | nil => rfl
  | cons a r ih => simp [dints, ih]
def fSum (xs : List D) : Option D := (dints xs).map fun ns => .int ns.sum
def xSum (sq : State → Option (List D)) : State → Option D := fun α => bnd (sq α) fSum
theorem ev_sum (h : EvqL e te sq) : Evp e (tCB (rSum e.K) (tCons te tNil)) (xSum sq) := fun c L S σ H α d R q Q k => by
  obtain ⟨xs, h1, q⟩ := bnd_some q
  unfold fSum at q
  cases hs : dints xs with
  | none => rw [hs] at q; cases q
  | some ns =>
    rw [hs] at q; cases q
    refine h c L S σ H α xs R h1 _ fun a vs H' e1 r1 r2 => ⟨a, ns, rfl, ?_, k _ H' e1 rfl⟩
    rw [← dints_rep hs r2]
    exact fz_le.seq r1
end
theorem Rel.lend {c : Cn} {L S : List Addr} {σ : L2.St} {H : Hp} {α : State} (r : Rel e c L S σ H α) {i : Nat} {ct : Ct} {d : D} (h : ctOf α[i]? = some ct)
    (hd : ∀ L' p o, H p = some o → p ∉ L' ∧ ¬ Hd.hid p → RepC e (fz L' H) ct o → Rep e (fz L' H) d (.ref p)) :
    ∃ L' S', Rel e ⟨[], [], hz H, σ⟩ L' S' σ H (α.set i (some (.dat d))) := by
  obtain ⟨p, o, h1, h2, h3, h4⟩ := r.at h
  have hlen : i < α.length := by
    cases z : α[i]? with
    | none => rw [z] at h; cases h
    | some x => exact (List.getElem?_eq_some_iff.mp z).1
  have anti : Same (fz L H) (fz (L.filter (· ≠ p)) H) := fz_anti fun a m => (List.mem_filter.mp m).1
  have hp : p ∉ L.filter (· ≠ p) := fun m => by simpa using (List.mem_filter.mp m).2
  have slotp : ∀ j, isOwn α[j]? = true → i ≠ j → σ[j]? ≠ some (some (.ref p)) := fun j hj hn z => hn (r.sep i j p (isOwn_ct h) hj h1 z)
  refine ⟨L.filter (· ≠ p), S.filter (· ≠ p), ⟨fun j a q => ?_, fun j k q hj hk sj sk => ?_, r.inv, hz_al r.inv, fun q m => r.nh q (List.mem_filter.mp m).1, fun q m => r.dom q (List.mem_filter.mp m).1, fun q m => ?_, (fun q m => nomatch m), (fun q m => .inr (hz_none (r.nh q (List.mem_filter.mp m).1))), (fun q m => .inr (hz_none (r.nh q (r.sub q (List.mem_filter.mp m).1)))), hz_mod r.inv, (fun q m => nomatch m), (fun q m => nomatch m), by rw [List.length_set]; exact r.len⟩⟩
  · rw [getset] at q
    by_cases e1 : i = j
    · rw [if_pos e1] at q
      split at q
      · cases q
        subst e1
        exact ⟨_, h1, hd _ p o h3 ⟨hp, r.nh p (r.sub p h2)⟩ (h4.up anti)⟩
      · cases q
    · rw [if_neg e1] at q
      obtain ⟨v, k1, k2⟩ := r.slot j a q
      refine ⟨v, k1, ?_⟩
      cases a with
      | dat d => exact Rep.up (d := d) k2 anti
      | adr _ => exact k2
      | own ct =>
        obtain ⟨p', o', rfl, m, n, ho, rc⟩ := k2
        have : p' ≠ p := fun z => slotp j (by rw [q]; rfl) e1 (by rw [k1, z])
        exact ⟨p', o', rfl, List.mem_filter.mpr ⟨m, by simpa using this⟩, hz_none (r.nh _ (r.sub _ m)), ho, rc.up anti⟩
      | inn ct =>
        obtain ⟨p', o', rfl, m, n, ho, rc⟩ := k2
        have : p' ≠ p := fun z => slotp j (by rw [q]; rfl) e1 (by rw [k1, z])
        exact ⟨p', o', rfl, List.mem_filter.mpr ⟨m, by simpa using this⟩, k1, ho, rc.up anti⟩
  · have un : ∀ j, isOwn (α.set i (some (.dat d)))[j]? = true → isOwn α[j]? = true := fun j hj => by
      rw [getset] at hj
      split at hj
      · split at hj <;> simp [isOwn] at hj
      · exact hj
    exact r.sep j k q (un j hj) (un k hk) sj sk
  · obtain ⟨m1, m2⟩ := List.mem_filter.mp m
    exact List.mem_filter.mpr ⟨r.sub q m1, m2⟩
def lendD (i : Nat) (α : State) : Option State := match ctOf α[i]? with
  | some (.lst xs) => some (α.set i (some (.dat (.lst xs))))
  | some (.obj c fs) => some (α.set i (some (.dat (.ins c fs))))
  | _ => none
theorem Rel.lendD {c : Cn} {L S : List Addr} {σ : L2.St} {H : Hp} {α β : State} (r : Rel e c L S σ H α) {i : Nat} (h : lendD i α = some β) : ∃ c' L' S', Rel e c' L' S' σ H β := by
  unfold Ab.lendD at h
  split at h
  · rename_i xs hx
    cases h
    obtain ⟨L', S', q⟩ := r.lend (d := .lst xs) hx fun L' p o ho hn rc => by
      obtain ⟨vs, rfl, rr⟩ := rc
      exact ⟨p, vs, rfl, .inl (.inl (fz_new hn ho)), rr⟩
    exact ⟨_, L', S', q⟩
  · rename_i x fs hx
    cases h
    obtain ⟨L', S', q⟩ := r.lend (d := .ins x fs) hx fun L' p o ho hn rc => by
      obtain ⟨dx, gs, rfl, rr⟩ := rc
      exact ⟨p, dx, gs, rfl, fz_new hn ho, rr⟩
    exact ⟨_, L', S', q⟩
  · cases h
def xLend (i : Nat) (s : State → Option D) : State → Option D := fun α => bnd (lendD i α) fun β => match s β with | some d => if flat d = true then some d else none | none => none
theorem ev_lend (i : Nat) (h : Evp e te s) : Evp e te (xLend i s) := fun c L S σ H α d R q Q k => by
  obtain ⟨β, h1, q⟩ := bnd_some q
  obtain ⟨c', L', S', R'⟩ := R.lendD h1
  split at q
  · rename_i d' hs
    split at q
    · rename_i hf
      cases q
      exact h c' L' S' σ H β d R' hs Q fun v H' e1 r1 => k v H' e1 (by rw [rep_flat hf r1]; exact rep_of_flat hf)
    · cases q
  · cases q
def tLend (i : Nat) (s : State → Option Bool) : State → Option Bool := fun α => bnd (lendD i α) s
theorem et_lend (i : Nat) {t : TT} {s : State → Option Bool} (h : Evt e t s) : Evt e t (tLend i s) := fun c L S σ H α d R q Q k => by
  obtain ⟨β, h1, q⟩ := bnd_some q
  obtain ⟨c', L', S', R'⟩ := R.lendD h1
  exact h c' L' S' σ H β d R' q Q k
end
end Ab
end
section
set_option maxRecDepth 100000
set_option maxHeartbeats 1000000
namespace Ab
open PySem L2
variable [Hd]
structure Exn where
  name : String
  fs : List (Str × D)
inductive Res (β : Type) where
  | ok (b : β) (α : State) | exc (x : Exn) | bad
inductive RetV where
  | dat (d : D) | lst (xs : List D)
inductive Out where
  | nxt (α : State) | ret (r : RetV) (α : State) | brk (α : State) | cnt (α : State) | exc (x : Exn) | bad
def XRep (e : En) (F : Hp) (H' : Hp) (x : Exn) (cls : Value) (dd : Option Addr) : Prop :=
  cls = .ref (e.cls x.name) ∧ ((x.fs = [] ∧ dd = none) ∨ ∃ p gs, dd = some p ∧ H' p = some (.xd gs) ∧ RepF e F x.fs gs)
def XOk (e : En) (c : Cn) (E : XK) (x : Exn) : Prop := ∀ cls dd H', Mod c.S0 c.H0 H' → XRep e (fz c.L0 H') H' x cls dd → (∀ p, dd = some p → c.H0 p = none) → E cls dd H'
section
variable (e : En) (E : XK)
def Eve (te : TE) (s : State → Res D) : Prop := ∀ c L S σ H α, Rel e c L S σ H α → ∀ Q : VK, (∀ d α', s α = .ok d α' → ∀ v H', Mod S H H' → Rel e c L S σ H' α' → Rep e (fz L H') d v → Q v H') → (∀ x, s α = .exc x → XOk e c E x) → s α ≠ .bad → te σ H Q
def EvlE (te : TE) (s : State → Res (List D)) : Prop := ∀ c L S σ H α, Rel e c L S σ H α → ∀ Q : VK, (∀ xs α', s α = .ok xs α' → ∀ p vs H', Mod S H H' → H p = none → Rel e c (p :: L) S σ H' α' → H' p = some (.lst vs) → Reps e (fz (p :: L) H') xs vs → Q (.ref p) H') → (∀ x, s α = .exc x → XOk e c E x) → s α ≠ .bad → te σ H Q
def EvtE (tt : TT) (s : State → Res Bool) : Prop := ∀ c L S σ H α, Rel e c L S σ H α → ∀ Q : Bool → Hp → Prop, (∀ b α', s α = .ok b α' → ∀ H', Mod S H H' → Rel e c L S σ H' α' → Q b H') → (∀ x, s α = .exc x → XOk e c E x) → s α ≠ .bad → tt σ H Q
inductive Arg where
  | dat (d : D) | slot (i : Nat)
def ArgRep (e : En) (L : List Addr) (σ : L2.St) (H : Hp) : Arg → V → Prop
  | .dat d, v => Rep e (fz L H) d v
  | .slot i, v => σ[i]? = some (some v)
def ArgsRep (e : En) (L : List Addr) (σ : L2.St) (H : Hp) : List Arg → List V → Prop
  | [], vs => vs = []
  | a :: r, vs => ∃ v w, vs = v :: w ∧ ArgRep e L σ H a v ∧ ArgsRep e L σ H r w
def EvaE (ta : TA) (s : State → Res (List Arg)) : Prop := ∀ c L S σ H α, Rel e c L S σ H α → ∀ Q : List V → Hp → Prop, (∀ as α', s α = .ok as α' → ∀ vs H', Mod S H H' → Rel e c L S σ H' α' → ArgsRep e L σ H' as vs → Q vs H') → (∀ x, s α = .exc x → XOk e c E x) → s α ≠ .bad → ta σ H Q
def RetRep (L : List Addr) (H : Hp) (v : V) (c : Cn) : RetV → Prop
  | .dat d => Rep e (fz L H) d v
  | .lst xs => ∃ p vs, v = .ref p ∧ c.H0 p = none ∧ H p = some (.lst vs) ∧ Reps e (fz (p :: L) H) xs vs
def OutOk (c : Cn) (D : Ends) (F : Hp) : Out → Prop
  | .nxt α' => ∀ L S σ H, Same F (fz L H) → Rel e c L S σ H α' → D.nx σ H
  | .brk α' => ∀ L S σ H, Same F (fz L H) → Rel e c L S σ H α' → D.bk σ H
  | .cnt α' => ∀ L S σ H, Same F (fz L H) → Rel e c L S σ H α' → D.ct σ H
  | .ret r α' => ∀ v L S σ H, Rel e c L S σ H α' → RetRep e L H v c r → D.rt v H
  | .exc x => XOk e c E x
  | .bad => False
def Sts (ts : TS) (s : State → Out) : Prop := ∀ c L S σ H α D, Rel e c L S σ H α → OutOk e E c D (fz L H) (s α) → ts D σ H
end
section
variable {e : En} {E : XK} {te ta tb : TE} {ts tu tw : TS} {t : TT} {s u w : State → Out}
theorem OutOk.mono {c : Cn} {D : Ends} {F F1 : Hp} (h : Same F F1) : ∀ {o : Out}, OutOk e E c D F o → OutOk e E c D F1 o
  | .nxt _, k => fun L S σ H a r => k L S σ H (h.trans a) r
  | .brk _, k => fun L S σ H a r => k L S σ H (h.trans a) r
  | .cnt _, k => fun L S σ H a r => k L S σ H (h.trans a) r
  | .ret _ _, k => k
  | .exc _, k => k
  | .bad, k => k
omit E in
theorem _root_.Ab.fz_swap {L : List Addr} {H : Hp} {p : Addr} {o : HO} (mL : p ∈ L) : Same (fz L H) (fz (L.filter (· ≠ p)) (upd H p o)) := fun a u q => by
  obtain ⟨m, nh⟩ := fz_nh q
  have hne : a ≠ p := fun z => m (z ▸ mL)
  exact fz_at (by rw [upd_ne hne]; exact fz_le _ _ q) (fun z => m (List.mem_filter.mp z).1) nh
omit E in
theorem _root_.Ab.fz_out {L : List Addr} {H : Hp} {p : Addr} {o : HO} (nh : ¬ Hd.hid p) : fz (L.filter (· ≠ p)) (upd H p o) p = some o :=
  fz_at upd_same (fun z => by simpa using (List.mem_filter.mp z).2) nh
theorem fz_mod {L S : List Addr} {H H' : Hp} (h : Mod S H H') (sub : ∀ p ∈ S, p ∈ L) : Same (fz L H) (fz L H') := fz_mut fun a o q n m => h.k a o q (fun m => n (sub a m)) m
def lift (s : State → Option D) : State → Res D := fun α => match s α with | some d => .ok d α | none => .bad
theorem ee_p {s : State → Option D} (h : Evp e te s) : Eve e E te (lift s) := fun c L S σ H α R Q k kx nb => by
  unfold lift at *
  cases hs : s α with
  | none => rw [hs] at nb; exact absurd rfl nb
  | some d =>
    rw [hs] at k
    exact h c L S σ H α d R hs Q fun v H' e1 r => k d α rfl v H' (.of e1) (R.up e1) r
def liftL (s : State → Option (List D)) : State → Res (List D) := fun α => match s α with | some d => .ok d α | none => .bad
theorem Rel.more {c : Cn} {L S : List Addr} {σ : L2.St} {H : Hp} {α : State} (r : Rel e c L S σ H α) {H' : Hp} {p : Addr} {o : HO} (s : Sm H H') (n : H p = none) (ho : H' p = some o) : Rel e c (p :: L) S σ H' α where
  slot := fun i a q => by
    obtain ⟨v, h1, h2⟩ := r.slot i a q
    refine ⟨v, h1, ?_⟩
    cases a with
    | dat d => exact Rep.up (d := d) h2 (fz_cons s n)
    | adr _ => exact h2
    | own ct => obtain ⟨p', o', q', m, n', ho', rc⟩ := h2; exact ⟨p', o', q', m, n', s.k _ _ ho' (r.nh _ (r.sub _ m)), rc.up (fz_cons s n)⟩
    | inn ct => obtain ⟨p', o', q', m, n', ho', rc⟩ := h2; exact ⟨p', o', q', m, n', s.k _ _ ho' (r.nh _ (r.sub _ m)), rc.up (fz_cons s n)⟩
  sep := r.sep
  inv := s.i r.inv
  h1 := r.h1
  nh := fun q m z => by
    rcases List.mem_cons.mp m with rfl | m
    · exact Hd.al r.inv z n
    · exact r.nh q m z
  dom := fun q m z => by
    rcases List.mem_cons.mp m with rfl | m
    · rw [ho] at z; cases z
    · exact (r.up s).dom q m z
  sub := fun q m => List.mem_cons_of_mem _ (r.sub q m)
  l0 := fun q m => List.mem_cons_of_mem _ (r.l0 q m)
  l1 := fun q m => by
    rcases List.mem_cons.mp m with rfl | m
    · exact .inr (r.h0 n)
    · exact r.l1 q m
  s1 := r.s1
  md := r.md.trans (.of s)
  s0 := r.s0
  d0 := r.d0
  len := r.len
theorem ele_p {s : State → Option (List D)} (h : Evl e te s) : EvlE e E te (liftL s) := fun c L S σ H α R Q k kx nb => by
  unfold liftL at *
  cases hs : s α with
  | none => rw [hs] at nb; exact absurd rfl nb
  | some d =>
    rw [hs] at k
    exact h c L S σ H α d R hs Q fun p vs H' e1 n hp r => k d α rfl p vs H' (.of e1) n (R.more e1 n hp) hp r
def liftB (s : State → Option Bool) : State → Res Bool := fun α => match s α with | some d => .ok d α | none => .bad
theorem ete_p {s : State → Option Bool} (h : Evt e t s) : EvtE e E t (liftB s) := fun c L S σ H α R Q k kx nb => by
  unfold liftB at *
  cases hs : s α with
  | none => rw [hs] at nb; exact absurd rfl nb
  | some d =>
    rw [hs] at k
    exact h c L S σ H α d R hs Q fun H' e1 => k d α rfl H' (.of e1) (R.up e1)
def rB (s : State → Res D) : State → Res Bool := fun α => match s α with | .ok (.bl b) α' => .ok b α' | .ok _ _ => .bad | .exc x => .exc x | .bad => .bad
theorem ete_B {s : State → Res D} (h : Eve e E te s) : EvtE e E (tB te) (rB s) := fun c L S σ H α R Q k kx nb => by
  refine h c L S σ H α R _ (fun d α' hs v H' m r1 r2 => ?_) (fun x hx => kx x (by unfold rB; rw [hx])) (fun hb => nb (by unfold rB; rw [hb]))
  unfold rB at k nb
  rw [hs] at k nb
  cases d with
  | bl b => cases r2; exact ⟨b, rfl, k b α' rfl H' m r1⟩
  | _ => exact absurd rfl nb
theorem ete_test {s : State → Res D} (h : Eve e E te s) : EvtE e E (tTest te) (rB s) := fun c L S σ H α R Q k kx nb => by
  refine h c L S σ H α R _ (fun d α' hs v H' m r1 r2 => ?_) (fun x hx => kx x (by unfold rB; rw [hx])) (fun hb => nb (by unfold rB; rw [hb]))
  unfold rB at k nb
  rw [hs] at k nb
  cases d with
  | bl b => cases r2; exact ⟨b, rfl, k b α' rfl H' m r1⟩
  | _ => exact absurd rfl nb
def rNot (s : State → Res Bool) : State → Res Bool := fun α => match s α with | .ok b α' => .ok (!b) α' | .exc x => .exc x | .bad => .bad
theorem ete_not {s : State → Res Bool} (h : EvtE e E t s) : EvtE e E (tNot t) (rNot s) := fun c L S σ H α R Q k kx nb => by
  refine h c L S σ H α R _ (fun d α' hs H' m r1 => k (!d) α' (by unfold rNot; rw [hs]) H' m r1) (fun x hx => kx x (by unfold rNot; rw [hx])) (fun hb => nb (by unfold rNot; rw [hb]))
def sSeq (s u : State → Out) : State → Out := fun α => match s α with | .nxt β => u β | o => o
theorem st_seq (h : Sts e E ts s) (h' : Sts e E tu u) : Sts e E (tSeq ts tu) (sSeq s u) := fun c L S σ H α D R k => by
  refine h c L S σ H α { D with nx := tu D } R ?_
  unfold sSeq at k
  cases hs : s α with
  | nxt β =>
    rw [hs] at k
    exact fun L1 S1 σ1 H1 a r => h' c L1 S1 σ1 H1 β D r (OutOk.mono a k)
  | brk β => rw [hs] at k; exact k
  | cnt β => rw [hs] at k; exact k
  | ret r β => rw [hs] at k; exact k
  | exc x => rw [hs] at k; exact k
  | bad => rw [hs] at k; exact k
def sNext : State → Out := .nxt
theorem st_next : Sts e E tNext sNext := fun c L S σ H α D R k => k L S σ H (Same.refl _) R
def sBrk : State → Out := .brk
theorem st_brk : Sts e E tBreak sBrk := fun c L S σ H α D R k => k L S σ H (Same.refl _) R
def sCnt : State → Out := .cnt
theorem st_cnt : Sts e E tCont sCnt := fun c L S σ H α D R k => k L S σ H (Same.refl _) R
def sSet (i : Nat) (s : State → Res D) : State → Out := fun α => match s α with | .ok d α' => .nxt (α'.set i (some (.dat d))) | .exc x => .exc x | .bad => .bad
theorem st_set {i : Nat} {s : State → Res D} (h : Eve e E te s) : Sts e E (tAsg te (gName i)) (sSet i s) := fun c L S σ H α D R k => by
  unfold sSet at k
  refine h c L S σ H α R _ (fun d α' hs v H' m r1 r2 => ?_) (fun x hx => by rw [hx] at k; exact k) (fun hb => by rw [hb] at k; exact k)
  rw [hs] at k
  exact k L S _ H' (fz_mod m R.sub) (r1.setD r2)
def sSetL (i : Nat) (s : State → Res (List D)) : State → Out := fun α => match s α with | .ok xs α' => .nxt (α'.set i (some (.own (.lst xs)))) | .exc x => .exc x | .bad => .bad
theorem Rel.setO' {c : Cn} {L S : List Addr} {σ : L2.St} {H : Hp} {α : State} {i : Nat} {p : Addr} {o : HO} {ct : Ct} (r : Rel e c (p :: L) S σ H α) (n : c.H0 p = none) (nS : p ∉ S) (ho : H p = some o) (rc : RepC e (fz (p :: L) H) ct o) :
    Rel e c (p :: L) (p :: S) (σ.set i (some (.ref p))) H (α.set i (some (.own ct))) where
  slot := fun j a q => by
    rw [getset] at q
    rw [getset]
    by_cases e1 : i = j
    · rw [if_pos e1] at q ⊢
      split at q
      · rename_i hl
        cases q
        rw [if_pos (by rw [r.len]; exact hl)]
        exact ⟨_, rfl, p, o, rfl, by simp, n, ho, rc⟩
      · cases q
    · rw [if_neg e1] at q ⊢
      obtain ⟨v, h1, h2⟩ := r.slot j a q
      refine ⟨v, h1, ?_⟩
      cases a with
      | dat d => exact h2
      | adr _ => exact h2
      | own ct => obtain ⟨p', o, q, m, n', ho, rc⟩ := h2; exact ⟨p', o, q, List.mem_cons_of_mem _ m, n', ho, rc⟩
      | inn ct => obtain ⟨p', o, q, m, n', ho, rc⟩ := h2; exact ⟨p', o, q, List.mem_cons_of_mem _ m, n', ho, rc⟩
  sep := fun j k q hj hk sj sk => by
    have fresh : ∀ j, i ≠ j → isOwn α[j]? = true → σ[j]? ≠ some (some (V.ref p)) := fun j _ hj z => by
      cases ha : α[j]? with
      | none => rw [ha] at hj; simp [isOwn] at hj
      | some x =>
        cases x with
        | none => rw [ha] at hj; simp [isOwn] at hj
        | some a =>
          obtain ⟨v, h1, h2⟩ := r.slot j a ha
          rw [h1] at z; cases z
          cases a with
          | dat d => rw [ha] at hj; simp [isOwn] at hj
          | adr _ => rw [ha] at hj; simp [isOwn] at hj
          | own ct => obtain ⟨p', o, q, m, n', ho, rc⟩ := h2; cases q; exact nS m
          | inn ct => obtain ⟨p', o, q, m, n', ho, rc⟩ := h2; cases q; exact nS m
    rw [getset] at hj hk sj sk
    by_cases e1 : i = j
    · by_cases e2 : i = k
      · omega
      · rw [if_neg e2] at hk sk
        rw [if_pos e1] at sj
        split at sj
        · cases sj; exact absurd sk (fresh k e2 hk)
        · cases sj
    · rw [if_neg e1] at hj sj
      by_cases e2 : i = k
      · rw [if_pos e2] at sk
        split at sk
        · cases sk; exact absurd sj (fresh j e1 hj)
        · cases sk
      · rw [if_neg e2] at hk sk
        exact r.sep j k q hj hk sj sk
  inv := r.inv
  h1 := r.h1
  nh := r.nh
  dom := r.dom
  sub := fun q m => by
    rcases List.mem_cons.mp m with rfl | m
    · simp
    · exact r.sub q m
  l0 := r.l0
  l1 := r.l1
  s1 := fun q m => by
    rcases List.mem_cons.mp m with rfl | m
    · exact .inr n
    · exact r.s1 q m
  md := r.md
  s0 := r.s0
  d0 := r.d0
  len := by rw [List.length_set, List.length_set]; exact r.len
theorem fz_consM {L S : List Addr} {H H' : Hp} {p : Addr} (h : Mod S H H') (sub : ∀ p ∈ S, p ∈ L) (n : H p = none) : Same (fz L H) (fz (p :: L) H') := fun a o q => by
  obtain ⟨m, n2⟩ := fz_nh q
  have hp : a ≠ p := ne_of_none (fz_le _ _ q) n
  exact fz_at (h.k _ _ (fz_le _ _ q) (fun z => m (sub a z)) n2) (by simp [hp, m]) n2
theorem st_setL {i : Nat} {s : State → Res (List D)} (h : EvlE e E te s) : Sts e E (tAsg te (gName i)) (sSetL i s) := fun c L S σ H α D R k => by
  unfold sSetL at k
  refine h c L S σ H α R _ (fun xs α' hs p vs H' m n r1 hp r2 => ?_) (fun x hx => by rw [hx] at k; exact k) (fun hb => by rw [hb] at k; exact k)
  rw [hs] at k
  exact k (p :: L) (p :: S) _ H' (fz_consM m R.sub n) (r1.setO' (R.h0 n) (fun z => R.dom p (R.sub p z) n) hp ⟨vs, rfl, r2⟩)
def sIf (t : State → Res Bool) (s u : State → Out) : State → Out := fun α => match t α with | .ok true α' => s α' | .ok false α' => u α' | .exc x => .exc x | .bad => .bad
theorem st_if {st : State → Res Bool} (h : EvtE e E t st) (h1 : Sts e E ts s) (h2 : Sts e E tu u) : Sts e E (tIfS t ts tu) (sIf st s u) := fun c L S σ H α D R k => by
  unfold sIf at k
  refine h c L S σ H α R _ (fun b α' hs H' m r1 => ?_) (fun x hx => by rw [hx] at k; exact k) (fun hb => by rw [hb] at k; exact k)
  rw [hs] at k
  cases b with
  | true => exact h1 c L S σ H' α' D r1 (OutOk.mono (fz_mod m R.sub) k)
  | false => exact h2 c L S σ H' α' D r1 (OutOk.mono (fz_mod m R.sub) k)
def sDrop (s : State → Res D) : State → Out := fun α => match s α with | .ok _ α' => .nxt α' | .exc x => .exc x | .bad => .bad
theorem st_drop {s : State → Res D} (h : Eve e E te s) : Sts e E (tDrop te) (sDrop s) := fun c L S σ H α D R k => by
  unfold sDrop at k
  refine h c L S σ H α R _ (fun d α' hs v H' m r1 r2 => ?_) (fun x hx => by rw [hx] at k; exact k) (fun hb => by rw [hb] at k; exact k)
  rw [hs] at k
  exact k L S _ H' (fz_mod m R.sub) r1
def sRet (s : State → Res D) : State → Out := fun α => match s α with | .ok d α' => .ret (.dat d) α' | .exc x => .exc x | .bad => .bad
theorem st_ret {s : State → Res D} (h : Eve e E te s) : Sts e E (tRet te) (sRet s) := fun c L S σ H α D R k => by
  unfold sRet at k
  refine h c L S σ H α R _ (fun d α' hs v H' m r1 r2 => ?_) (fun x hx => by rw [hx] at k; exact k) (fun hb => by rw [hb] at k; exact k)
  rw [hs] at k
  exact k v L S σ H' r1 r2
def sRetN : State → Out := fun α => .ret (.dat .non) α
theorem st_retN : Sts e E tRetN sRetN := fun c L S σ H α D R k => k .non L S σ H R rfl
def sRetL (s : State → Res (List D)) : State → Out := fun α => match s α with | .ok xs α' => .ret (.lst xs) α' | .exc x => .exc x | .bad => .bad
theorem st_retL {s : State → Res (List D)} (h : EvlE e E te s) : Sts e E (tRet te) (sRetL s) := fun c L S σ H α D R k => by
  unfold sRetL at k
  refine h c L S σ H α R _ (fun xs α' hs p vs H' m n r1 hp r2 => ?_) (fun x hx => by rw [hx] at k; exact k) (fun hb => by rw [hb] at k; exact k)
  rw [hs] at k
  exact k _ (p :: L) S σ H' r1 ⟨p, vs, rfl, R.h0 n, hp, r2.up (fz_anti (by simp))⟩
def sRetO (i : Nat) : State → Out := fun α => match α[i]? with | some (some (.own (.lst xs))) => .ret (.lst xs) α | _ => .bad
theorem st_retO (i : Nat) : Sts e E (tRet (tVar i)) (sRetO i) := fun c L S σ H α D R k => by
  unfold sRetO at k
  split at k
  · rename_i xs hx
    obtain ⟨v, h1, p, o, rfl, m, n, ho, vs, rfl, r⟩ := R.slot i _ hx
    exact ⟨_, h1, k _ L S σ H R ⟨p, vs, rfl, n, ho, r.up (fz_anti (by simp [R.sub p m]))⟩⟩
  · exact k.elim
def frzD (i : Nat) (α : State) : State := match α[i]? with
  | some (some (.own (.lst xs))) => α.set i (some (.dat (.lst xs)))
  | some (some (.own (.obj x fs))) => α.set i (some (.dat (.ins x fs)))
  | _ => α
theorem Rel.frz {c : Cn} {L S : List Addr} {σ : L2.St} {H : Hp} {α : State} (r : Rel e c L S σ H α) {i : Nat} {ct : Ct} {d : D} {p : Addr} (ha : α[i]? = some (some (.own ct))) (h1 : σ[i]? = some (some (.ref p))) (n0 : c.H0 p = none)
    (hd : Rep e (fz (L.filter (· ≠ p)) H) d (.ref p)) : Rel e c (L.filter (· ≠ p)) (S.filter (· ≠ p)) σ H (α.set i (some (.dat d))) := by
  have anti : Same (fz L H) (fz (L.filter (· ≠ p)) H) := fz_anti fun a m => (List.mem_filter.mp m).1
  have slotp : ∀ j, isOwn α[j]? = true → i ≠ j → σ[j]? ≠ some (some (.ref p)) := fun j hj hn z => hn (r.sep i j p (by rw [ha]; rfl) hj h1 z)
  refine ⟨fun j a q => ?_, fun j k q hj hk sj sk => ?_, r.inv, r.h1, fun q m => r.nh q (List.mem_filter.mp m).1, fun q m => r.dom q (List.mem_filter.mp m).1, fun q m => ?_, fun q m => ?_, fun q m => r.l1 q (List.mem_filter.mp m).1, fun q m => r.s1 q (List.mem_filter.mp m).1, r.md, r.s0, r.d0, by rw [List.length_set]; exact r.len⟩
  · rw [getset] at q
    by_cases e1 : i = j
    · rw [if_pos e1] at q
      split at q
      · cases q
        subst e1
        exact ⟨_, h1, hd⟩
      · cases q
    · rw [if_neg e1] at q
      obtain ⟨v, k1, k2⟩ := r.slot j a q
      refine ⟨v, k1, ?_⟩
      cases a with
      | dat d => exact Rep.up (d := d) k2 anti
      | adr _ => exact k2
      | own ct =>
        obtain ⟨p', o', rfl, m, n, ho, rc⟩ := k2
        have : p' ≠ p := fun z => slotp j (by rw [q]; rfl) e1 (by rw [k1, z])
        exact ⟨p', o', rfl, List.mem_filter.mpr ⟨m, by simpa using this⟩, n, ho, rc.up anti⟩
      | inn ct =>
        obtain ⟨p', o', rfl, m, n, ho, rc⟩ := k2
        have : p' ≠ p := fun z => slotp j (by rw [q]; rfl) e1 (by rw [k1, z])
        exact ⟨p', o', rfl, List.mem_filter.mpr ⟨m, by simpa using this⟩, n, ho, rc.up anti⟩
  · have un : ∀ j, isOwn (α.set i (some (.dat d)))[j]? = true → isOwn α[j]? = true := fun j hj => by
      rw [getset] at hj
      split at hj
      · split at hj <;> simp [isOwn] at hj
      · exact hj
    exact r.sep j k q (un j hj) (un k hk) sj sk
  · obtain ⟨m1, m2⟩ := List.mem_filter.mp m
    exact List.mem_filter.mpr ⟨r.sub q m1, m2⟩
  · refine List.mem_filter.mpr ⟨r.l0 q m, ?_⟩
    simp only [decide_eq_true_eq]
    rintro rfl
    exact r.d0 q m n0
theorem Rel.frzD {c : Cn} {L S : List Addr} {σ : L2.St} {H : Hp} {α : State} (r : Rel e c L S σ H α) (i : Nat) : ∃ L' S', Rel e c L' S' σ H (frzD i α) ∧ Same (fz L H) (fz L' H) := by
  unfold Ab.frzD
  split
  · rename_i xs hx
    obtain ⟨v, h1, p, o, rfl, m, n, ho, vs, rfl, rr⟩ := r.slot i _ hx
    have hn : p ∉ L.filter (· ≠ p) := fun m => by simpa using (List.mem_filter.mp m).2
    have anti : Same (fz L H) (fz (L.filter (· ≠ p)) H) := fz_anti fun a m => (List.mem_filter.mp m).1
    exact ⟨_, _, r.frz (d := .lst xs) hx h1 n ⟨p, vs, rfl, .inl (.inl (fz_new ⟨hn, r.nh p (r.sub p m)⟩ ho)), rr.up anti⟩, anti⟩
  · rename_i x fs hx
    obtain ⟨v, h1, p, o, rfl, m, n, ho, dx, gs, rfl, rr⟩ := r.slot i _ hx
    have hn : p ∉ L.filter (· ≠ p) := fun m => by simpa using (List.mem_filter.mp m).2
    have anti : Same (fz L H) (fz (L.filter (· ≠ p)) H) := fz_anti fun a m => (List.mem_filter.mp m).1
    exact ⟨_, _, r.frz (d := .ins x fs) hx h1 n ⟨p, dx, gs, rfl, fz_new ⟨hn, r.nh p (r.sub p m)⟩ ho, RepF.mono anti _ _ rr⟩, anti⟩
  · exact ⟨L, S, r, Same.refl _⟩
def sFrz (i : Nat) (s : State → Out) : State → Out := fun α => s (frzD i α)
theorem st_frz (i : Nat) (h : Sts e E ts s) : Sts e E ts (sFrz i s) := fun c L S σ H α D R k => by
  obtain ⟨L', S', r, a⟩ := R.frzD i
  exact h c L' S' σ H _ D r (OutOk.mono a k)
theorem wipe_get {σ : L2.St} {j : Nat} : ∀ {vs : List Nat}, (wipe σ vs)[j]? = if j ∈ vs then (if j < σ.length then some none else none) else σ[j]?
  | [] => by simp [wipe]
  | v :: vs => by
    unfold wipe
    rw [getset, wipe_length, wipe_get (vs := vs)]
    by_cases e1 : v = j
    · subst e1; simp
    · rw [if_neg e1]
      have : (j ∈ v :: vs) ↔ j ∈ vs := by simp only [List.mem_cons, show ¬ j = v from fun z => e1 z.symm, false_or]
      simp only [this]
theorem wipe_ext {σ σ' : L2.St} {vs : List Nat} (hl : σ'.length = σ.length) (h : ∀ j, j ∉ vs → σ'[j]? = σ[j]?) : wipe σ' vs = wipe σ vs := by
  apply List.ext_getElem?
  intro j
  rw [wipe_get, wipe_get, hl]
  split
  · rfl
  · exact h j (by assumption)
def Etg (e : En) (g : TG) (gt : D → State → Option State) (js : List Nat) : Prop := ∀ c L S σ H α x v α', Rel e c L S σ H α → Rep e (fz L H) x v → gt x α = some α' → ∀ Q : L2.St → Hp → Prop, (∀ σ', σ'.length = σ.length → (∀ j, j ∉ js → σ'[j]? = σ[j]?) → Rel e c L S σ' H α' → Q σ' H) → g v σ H Q
def gN (i : Nat) : D → State → Option State := fun x α => some (α.set i (some (.dat x)))
theorem eg_name (i : Nat) : Etg e (gName i) (gN i) [i] := fun c L S σ H α x v α' R r q Q k => by
  cases q
  exact k _ (List.length_set ..) (fun j hj => by rw [getset, if_neg (by simpa using fun z => hj (by simp [z]))]) (R.setD r)
def Etgs (e : En) (g : TGs) (gt : List D → State → Option State) (js : List Nat) : Prop := ∀ c L S σ H α x v α', Rel e c L S σ H α → Reps e (fz L H) x v → gt x α = some α' → ∀ Q : L2.St → Hp → Prop, (∀ σ', σ'.length = σ.length → (∀ j, j ∉ js → σ'[j]? = σ[j]?) → Rel e c L S σ' H α' → Q σ' H) → g v σ H Q
def gsN : List D → State → Option State := fun xs α => match xs with | [] => some α | _ => none
theorem egs_nil : Etgs e gNil gsN [] := fun c L S σ H α x v α' R r q Q k => by
  unfold gsN at q
  split at q
  · cases q; cases r; exact ⟨rfl, k σ rfl (fun _ _ => rfl) R⟩
  · cases q
def gsC (gt : D → State → Option State) (gs : List D → State → Option State) : List D → State → Option State := fun xs α => match xs with | x :: r => bnd (gt x α) (gs r) | [] => none
theorem egs_cons {g : TG} {gs : TGs} {gt : D → State → Option State} {gst : List D → State → Option State} {js ks : List Nat} (h : Etg e g gt js) (hs : Etgs e gs gst ks) : Etgs e (gCons g gs) (gsC gt gst) (js ++ ks) := fun c L S σ H α x v α' R r q Q k => by
  unfold gsC at q
  split at q
  · rename_i x xs
    obtain ⟨v1, vs, rfl, r1, r2⟩ := r
    obtain ⟨β, h1, h2⟩ := bnd_some q
    exact ⟨v1, vs, rfl, h c L S σ H α x v1 β R r1 h1 _ fun σ' hl hj R' => hs c L S σ' H β xs vs α' R' r2 h2 Q fun σ2 hl2 hj2 R2 => k σ2 (hl2.trans hl) (fun j hn => (hj2 j fun z => hn (List.mem_append_right _ z)).trans (hj j fun z => hn (List.mem_append_left _ z))) R2⟩
  · cases q
def gT (n : Nat) (gst : List D → State → Option State) : D → State → Option State := fun x α => match x with | .tup xs => if xs.length = n then gst xs α else none | _ => none
theorem eg_tup {n : Nat} {gs : TGs} {gst : List D → State → Option State} {js : List Nat} (hs : Etgs e gs gst js) : Etg e (gTup e.K n gs) (gT n gst) js := fun c L S σ H α x v α' R r q Q k => by
  unfold gT at q
  split at q
  · split at q
    · rename_i hn
      obtain ⟨a, vs, rfl, r1, r2⟩ := r
      exact ⟨a, vs, rfl, same_t fz_le r1, by rw [r2.len]; exact hn, hs c L S σ H α _ vs α' R r2 q Q k⟩
    · cases q
  · cases q
def sAsgT (gt : D → State → Option State) (s : State → Res D) : State → Out := fun α => match s α with | .ok d α' => (match gt d α' with | some β => .nxt β | none => .bad) | .exc x => .exc x | .bad => .bad
theorem st_asgT {g : TG} {gt : D → State → Option State} {s : State → Res D} {js : List Nat} (hg : Etg e g gt js) (h : Eve e E te s) : Sts e E (tAsg te g) (sAsgT gt s) := fun c L S σ H α D R k => by
  unfold sAsgT at k
  refine h c L S σ H α R _ (fun d α' hs v H' m r1 r2 => ?_) (fun x hx => by rw [hx] at k; exact k) (fun hb => by rw [hb] at k; exact k)
  rw [hs] at k
  cases hg' : gt d α' with
  | none => simp only [hg'] at k; exact k.elim
  | some β => simp only [hg'] at k; exact hg c L S σ H' α' d v β r1 r2 hg' _ fun σ' _ _ r => k L S σ' H' (fz_mod m R.sub) r
def Walks (e : En) (J : It) (F : Hp) (xs : List D) : Prop := ∀ L H, Same F (fz L H) → Dom L H → ∀ i, (i < xs.length → J.go i H) ∧ (xs.length ≤ i → J.stop i H) ∧ ∀ x v H', xs[i]? = some x → J.yld i H v H' → Sm H H' ∧ Rep e (fz L H') x v
def Evi (e : En) (wi : TI) (s : State → Option (List D)) : Prop := ∀ c L S σ H α xs, Rel e c L S σ H α → s α = some xs → ∀ R : It → Hp → Prop, (∀ J H', Sm H H' → Walks e J (fz L H') xs → R J H') → wi σ H R
theorem ei_list {sq : State → Option (List D)} (h : Evp e te sq') (hq : sq = qL sq') : Evi e (iList e.K te) sq := fun c L S σ H α xs R q W k => by
  subst hq
  unfold qL at q
  split at q
  · rename_i ys hs
    cases q
    refine h c L S σ H α _ R hs _ fun v H' e1 ⟨a, vs, e2, r1, r2⟩ => ?_
    subst e2
    refine ⟨a, rfl, ⟨vs, fz_le.seq r1⟩, k _ H' e1 fun L2 H2 s2 _ i => ?_⟩
    have t2 : SqL e.K H2 a vs := fz_le.seq (s2.seq r1)
    refine ⟨fun hi => ⟨vs, vs[i]'(by rw [r2.len]; exact hi), t2, List.getElem?_eq_getElem _⟩, fun hi => ⟨vs, t2, by rw [r2.len]; exact hi⟩, fun x v H3 hx ⟨e3, y⟩ => ?_⟩
    subst e3
    refine ⟨Sm.refl _, ?_⟩
    obtain ⟨v', h1, h2⟩ := r2.get hx
    have := y vs t2
    rw [h1] at this; cases this
    exact h2.up s2
  · cases q
theorem ei_tup {sq : State → Option (List D)} (h : Evp e te sq') (hq : sq = qT sq') : Evi e (iTup e.K te) sq := fun c L S σ H α xs R q W k => by
  subst hq
  unfold qT at q
  split at q
  · rename_i ys hs
    cases q
    refine h c L S σ H α _ R hs _ fun v H' e1 ⟨a, vs, e2, r1, r2⟩ => ?_
    subst e2
    refine ⟨a, rfl, ⟨vs, same_t fz_le r1⟩, k _ H' e1 fun L2 H2 s2 _ i => ?_⟩
    have t2 : SqT e.K H2 a vs := same_t fz_le (same_t s2 r1)
    refine ⟨fun hi => ⟨vs, vs[i]'(by rw [r2.len]; exact hi), t2, List.getElem?_eq_getElem _⟩, fun hi => ⟨vs, t2, by rw [r2.len]; exact hi⟩, fun x v H3 hx ⟨e3, y⟩ => ?_⟩
    subst e3
    refine ⟨Sm.refl _, ?_⟩
    obtain ⟨v', h1, h2⟩ := r2.get hx
    have := y vs t2
    rw [h1] at this; cases this
    exact h2.up s2
  · cases q
theorem ei_listL {sq : State → Option (List D)} (h : Evl e te sq) : Evi e (iList e.K te) sq := fun c L S σ H α xs R q W k => by
  have h' := el_d h
  have hx : xL sq α = some (.lst xs) := by unfold xL; rw [q]; rfl
  exact ei_list (sq := qL (xL sq)) h' rfl c L S σ H α xs R (by unfold qL; rw [hx]) W k
def rngD (lo : Int) (n : Nat) : List D := (List.range n).map fun (k : Nat) => D.int (lo + (k : Int))
theorem walks_rng {lo : Int} {n : Nat} {F : Hp} : Walks e (Itr lo n) F (rngD lo n) := fun L H s2 _ i => by
  refine ⟨fun hi => by show i < n; simpa [rngD] using hi, fun hi => by show n ≤ i; simpa [rngD] using hi, fun x v H3 hx ⟨e3, y⟩ => ?_⟩
  subst e3 y
  refine ⟨Sm.refl _, ?_⟩
  unfold rngD at hx
  rw [List.getElem?_map] at hx
  cases hr : (List.range n)[i]? with
  | none => rw [hr] at hx; cases hx
  | some j =>
    rw [hr] at hx
    cases hx
    obtain ⟨hlt, hj⟩ := List.getElem?_eq_some_iff.mp hr
    rw [List.getElem_range] at hj
    subst hj
    rfl
def rngOk (n : Int) : Bool := decide (-(2 ^ 62) ≤ n ∧ n < 2 ^ 62)
theorem rngOk_iff {n : Int} : rngOk n = true ↔ (-(2 ^ 62) ≤ n ∧ n < 2 ^ 62) := by unfold rngOk; simp
def xRng1 (sr : State → Option (List D)) : State → Option (List D) := fun α => match sr α with | some [.int n] => if rngOk n = true then some (rngD 0 n.toNat) else none | _ => none
theorem ei_rng1 {tr : TA} {sr : State → Option (List D)} (h : Eva e tr sr) : Evi e (iRng1 tr) (xRng1 sr) := fun c L S σ H α xs R q W k => by
  unfold xRng1 at q
  split at q
  · rename_i n hs
    split at q
    · rename_i hn
      cases q
      refine h c L S σ H α _ R hs _ fun vs H' e1 ⟨v, _, e2, r1, r2⟩ => ?_
      cases r1; cases r2; subst e2
      have hn := rngOk_iff.mp hn
      exact ⟨n, rfl, hn.1, hn.2, k _ H' e1 walks_rng⟩
    · cases q
  · cases q
def xRng2 (sr : State → Option (List D)) : State → Option (List D) := fun α => match sr α with | some [.int a, .int n] => if rngOk a = true ∧ rngOk n = true then some (rngD a (n - a).toNat) else none | _ => none
theorem ei_rng2 {tr : TA} {sr : State → Option (List D)} (h : Eva e tr sr) : Evi e (iRng2 tr) (xRng2 sr) := fun c L S σ H α xs R q W k => by
  unfold xRng2 at q
  split at q
  · rename_i a n hs
    split at q
    · rename_i hn
      cases q
      refine h c L S σ H α _ R hs _ fun vs H' e1 ⟨v, _, e2, r1, ⟨v', _, e3, r2, r3⟩⟩ => ?_
      cases r1; cases r2; cases r3; subst e3; subst e2
      have ha := rngOk_iff.mp hn.1
      have hb := rngOk_iff.mp hn.2
      exact ⟨a, n, rfl, ⟨ha.1, ha.2, hb.1, hb.2⟩, k _ H' e1 walks_rng⟩
    · cases q
  · cases q
def loopF (gt : D → State → Option State) (body : State → Out) : List D → State → Out
  | [], α => .nxt α
  | x :: xs, α => match gt x α with
    | none => .bad
    | some β => match body β with
      | .nxt α' => loopF gt body xs α'
      | .cnt α' => loopF gt body xs α'
      | .brk α' => .nxt α'
      | o => o
def sFor (sx : State → Option (List D)) (gt : D → State → Option State) (body : State → Out) : State → Out := fun α => match sx α with | some xs => loopF gt body xs α | none => .bad
theorem st_for {wi : TI} {g : TG} {sx : State → Option (List D)} {gt : D → State → Option State} {js : List Nat} (hi : Evi e wi sx) (hg : Etg e g gt js) (hb : Sts e E ts s) : Sts e E (tFor wi g ts) (sFor sx gt s) := fun c L S σ H α D R k => by
  unfold sFor at k
  cases hx : sx α with
  | none => rw [hx] at k; exact k.elim
  | some xs =>
    rw [hx] at k
    refine hi c L S σ H α xs R hx _ fun J H1 e1 wk => ?_
    refine ⟨fun i m σ' H' => m = xs.length - i ∧ i ≤ xs.length ∧ ∃ L' S' α', Rel e c L' S' σ' H' α' ∧ Same (fz L H1) (fz L' H') ∧ OutOk e E c D (fz L' H') (loopF gt s (xs.drop i) α'),
      ⟨xs.length, by simp, Nat.zero_le _, L, S, α, R.up e1, Same.refl _, OutOk.mono (fz_same e1) k⟩, ?_⟩
    rintro i m σ2 H2 ⟨rfl, hi, L2, S2, α2, R2, s2, k2⟩
    obtain ⟨w1, w2, w3⟩ := wk L2 H2 s2 R2.dm i
    by_cases hlt : i < xs.length
    · refine .inr ⟨w1 hlt, fun σ' H' => ∃ L' S' α', Rel e c L' S' σ' H' α' ∧ Same (fz L H1) (fz L' H') ∧ OutOk e E c D (fz L' H') (loopF gt s (xs.drop (i + 1)) α'), fun σ' H' h => ⟨xs.length - (i + 1), by omega, rfl, hlt, h⟩, fun v H3 y => ?_⟩
      obtain ⟨e3, r3⟩ := w3 xs[i] v H3 (List.getElem?_eq_getElem hlt) y
      rw [List.drop_eq_getElem_cons hlt] at k2
      unfold loopF at k2
      cases hgt : gt xs[i] α2 with
      | none => rw [hgt] at k2; exact k2.elim
      | some β =>
        rw [hgt] at k2
        have R3 := R2.up e3
        refine hg c L2 S2 σ2 H3 α2 xs[i] v β R3 r3 hgt _ fun σ4 _ _ R4 => ?_
        have f3 : Same (fz L2 H2) (fz L2 H3) := fz_same e3
        refine hb c L2 S2 σ4 H3 β _ R4 ?_
        dsimp only at k2
        cases hs : s β with
        | nxt β' => rw [hs] at k2; exact fun L5 S5 σ5 H5 a5 r5 => ⟨L5, S5, β', r5, s2.trans (f3.trans a5), OutOk.mono (f3.trans a5) k2⟩
        | cnt β' => rw [hs] at k2; exact fun L5 S5 σ5 H5 a5 r5 => ⟨L5, S5, β', r5, s2.trans (f3.trans a5), OutOk.mono (f3.trans a5) k2⟩
        | brk β' => rw [hs] at k2; exact fun L5 S5 σ5 H5 a5 r5 => k2 L5 S5 σ5 H5 (f3.trans a5) r5
        | ret r β' => rw [hs] at k2; exact k2
        | exc x => rw [hs] at k2; exact k2
        | bad => rw [hs] at k2; exact k2
    · have e2 : i = xs.length := by omega
      subst e2
      rw [List.drop_length] at k2
      exact .inl ⟨w2 (Nat.le_refl _), k2 L2 S2 σ2 H2 (Same.refl _) R2⟩
def loopW (t : State → Res Bool) (body : State → Out) : Nat → State → Out
  | 0, _ => .bad
  | n + 1, α => match t α with
    | .ok true α' => (match body α' with
      | .nxt β => loopW t body n β
      | .cnt β => loopW t body n β
      | .brk β => .nxt β
      | o => o)
    | .ok false α' => .nxt α'
    | .exc x => .exc x
    | .bad => .bad
theorem st_while {st : State → Res Bool} (fuel : State → Nat) (ht : EvtE e E t st) (hb : Sts e E ts s) : Sts e E (tWhile t ts) (fun α => loopW st s (fuel α) α) := fun c L S σ H α D R k => by
  refine ⟨fun m σ' H' => ∃ L' S' α', Rel e c L' S' σ' H' α' ∧ Same (fz L H) (fz L' H') ∧ OutOk e E c D (fz L' H') (loopW st s m α'), ⟨_, L, S, α, R, Same.refl _, k⟩, ?_⟩
  rintro m σ2 H2 ⟨L2, S2, α2, R2, s2, k2⟩
  cases m with
  | zero => exact k2.elim
  | succ n =>
    unfold loopW at k2
    refine ht c L2 S2 σ2 H2 α2 R2 _ (fun b α' hs H' m r1 => ?_) (fun x hx => by rw [hx] at k2; exact k2) (fun hb => by rw [hb] at k2; exact k2)
    rw [hs] at k2
    have f3 := fz_mod m R2.sub
    cases b with
    | false => exact k2 L2 S2 σ2 H' f3 r1
    | true =>
      refine ⟨fun σ' H' => ∃ L' S' α', Rel e c L' S' σ' H' α' ∧ Same (fz L H) (fz L' H') ∧ OutOk e E c D (fz L' H') (loopW st s n α'), fun σ' H' h => ⟨n, Nat.lt_succ_self _, h⟩, ?_⟩
      refine hb c L2 S2 σ2 H' α' _ r1 ?_
      dsimp only at k2
      cases hs : s α' with
      | nxt β' => rw [hs] at k2; exact fun L5 S5 σ5 H5 a5 r5 => ⟨L5, S5, β', r5, s2.trans (f3.trans a5), OutOk.mono (f3.trans a5) k2⟩
      | cnt β' => rw [hs] at k2; exact fun L5 S5 σ5 H5 a5 r5 => ⟨L5, S5, β', r5, s2.trans (f3.trans a5), OutOk.mono (f3.trans a5) k2⟩
      | brk β' => rw [hs] at k2; exact fun L5 S5 σ5 H5 a5 r5 => k2 L5 S5 σ5 H5 (f3.trans a5) r5
      | ret r β' => rw [hs] at k2; exact k2
      | exc x => rw [hs] at k2; exact k2
      | bad => rw [hs] at k2; exact k2
end
end Ab
end
section
set_option maxRecDepth 100000
set_option maxHeartbeats 1000000
namespace Ab
open PySem L2 PyProof.Rows PySem.Spec
variable [Hd]
section
variable {e : En} {E : XK} {te ta tb : TE} {ts tu tw : TS} {t : TT} {s u w : State → Out}
theorem Rel.mutM {c : Cn} {L S : List Addr} {σ : L2.St} {H H' : Hp} {α : State} (r : Rel e c L S σ H α) {i : Nat} {p : Addr} {o : HO} {ct ct' : Ct} (h : ctOf α[i]? = some ct) (hp : σ[i]? = some (some (.ref p))) (m : Mod [p] H H') (ho : H' p = some o) (rc : RepC e (fz L H') ct' o) :
    Rel e c L S σ H' (putC α i ct') ∧ Mod S H H' := by
  obtain ⟨p', o', hp', mS, ho', _⟩ := r.at h
  rw [hp] at hp'; cases hp'
  have mL := r.sub p mS
  have m' : ∀ a u, H a = some u → a ≠ p → ¬ Hd.hid a → H' a = some u := fun a u q n => m.k a u q (by simpa using n)
  have fzs : Same (fz L H) (fz L H') := fz_mut fun a u q n => m' a u q fun z => n (by rw [z]; exact mL)
  have md : Mod S H H' := ⟨fun a u q n => m' a u q fun z => n (by rw [z]; exact mS), m.i⟩
  refine ⟨⟨fun j a q => ?_, fun j k q hj hk sj sk => r.sep j k q (putC_own hj) (putC_own hk) sj sk, m.i r.inv, r.h1, r.nh, fun q m2 z => ?_, r.sub, r.l0, r.l1, r.s1, ?_, r.s0, r.d0, by rw [putC_len]; exact r.len⟩, md⟩
  · by_cases e1 : j = i
    · subst e1
      cases ha : α[j]? with
      | none => rw [ha] at h; cases h
      | some x =>
        cases x with
        | none => rw [ha] at h; cases h
        | some b =>
          have hl : j < α.length := (List.getElem?_eq_some_iff.mp ha).1
          obtain ⟨v, h1, h2⟩ := r.slot j b ha
          rw [hp] at h1; cases h1
          unfold putC at q
          cases b with
          | dat d => rw [ha] at h; cases h
          | adr _ => rw [ha] at h; cases h
          | own c1 =>
            rw [ha] at q
            rw [show (α.set j (some (A.own ct')))[j]? = some (some (A.own ct')) by rw [getset, if_pos rfl, if_pos hl]] at q
            cases q
            obtain ⟨p', o2, q2, m, n, ho2, _⟩ := h2
            cases q2
            exact ⟨_, hp, p, o, rfl, m, n, ho, rc⟩
          | inn c1 =>
            rw [ha] at q
            rw [show (α.set j (some (A.inn ct')))[j]? = some (some (A.inn ct')) by rw [getset, if_pos rfl, if_pos hl]] at q
            cases q
            obtain ⟨p', o2, q2, m, n, ho2, _⟩ := h2
            cases q2
            exact ⟨_, hp, p, o, rfl, m, n, ho, rc⟩
    · have qa : α[j]? = some (some a) := by
        unfold putC at q
        split at q
        · rw [getset, if_neg (fun z => e1 z.symm)] at q; exact q
        · rw [getset, if_neg (fun z => e1 z.symm)] at q; exact q
        · exact q
      obtain ⟨v, h1, h2⟩ := r.slot j a qa
      refine ⟨v, h1, ?_⟩
      have hne : isOwn α[j]? = true → v ≠ .ref p := fun ho z => e1 (r.sep j i p ho (isOwn_ct h) (by rw [h1, z]) hp)
      cases a with
      | dat d => exact Rep.up (d := d) h2 fzs
      | adr _ => exact h2
      | own c1 =>
        obtain ⟨p', o2, q2, m, n, ho2, rc2⟩ := h2
        subst q2
        exact ⟨p', o2, rfl, m, n, m' _ _ ho2 (fun z => hne (by rw [qa]; rfl) (by rw [z])) (r.nh _ (r.sub _ m)), rc2.up fzs⟩
      | inn c1 =>
        obtain ⟨p', o2, q2, m, n, ho2, rc2⟩ := h2
        subst q2
        exact ⟨p', o2, rfl, m, n, m' _ _ ho2 (fun z => hne (by rw [qa]; rfl) (by rw [z])) (r.nh _ (r.sub _ m)), rc2.up fzs⟩
  · by_cases e1 : q = p
    · subst e1; rw [ho] at z; cases z
    · cases qh : H q with
      | none => exact r.dom q m2 qh
      | some o2 => rw [m' q o2 qh e1 (r.nh q m2)] at z; cases z
  · refine ⟨fun a u q n nh => ?_, fun h => m.i (r.md.i h)⟩
    have hne : a ≠ p := by
      rintro rfl
      rcases r.s1 a mS with z | z
      · exact n z
      · rw [q] at z; cases z
    exact m' a u (r.md.k a u q n nh) hne nh
def isL (x : Option (Option A)) : Bool := match ctOf x with | some (.lst _) => true | _ => false
def sApp (i : Nat) (s : State → Res D) : State → Out := fun α => if isL α[i]? = true then (match s α with
  | .ok d α' => (match ctOf α'[i]? with | some (.lst xs) => if xs.length < 100000 then .nxt (putC α' i (.lst (xs ++ [d]))) else .bad | _ => .bad)
  | .exc x => .exc x | .bad => .bad) else .bad
theorem isL_some {x : Option (Option A)} (h : isL x = true) : ∃ xs, ctOf x = some (.lst xs) := by
  unfold isL at h
  split at h
  · exact ⟨_, by assumption⟩
  · cases h
theorem st_app {i : Nat} {s : State → Res D} (h : Eve e E te s) : Sts e E (tDrop (tBM e.K "list" rAppend (tVar i) (tCons te tNil))) (sApp i s) := fun c L S σ H α D R k => by
  unfold sApp at k
  split at k
  · rename_i hi
    obtain ⟨ys, hy⟩ := isL_some hi
    obtain ⟨p, o, h1, m1, ho, vs, rfl, r1⟩ := R.at hy
    refine ⟨.ref p, h1, .inl ⟨rfl, vs, SqL.of ho⟩, ?_⟩
    refine h c L S σ H α R _ (fun d α' hs v H' m R' rv => ?_) (fun x hx => by rw [hx] at k; exact k) (fun hb => by rw [hb] at k; exact k)
    rw [hs] at k
    dsimp only at k
    split at k
    · rename_i xs hx
      split at k
      · rename_i hz
        obtain ⟨p', o', h1', m1', ho', vs', rfl, r1'⟩ := R'.at hx
        rw [h1] at h1'; cases h1'
        refine ⟨p, vs', v, rfl, rfl, ho', by rw [r1'.len]; exact sz_lt hz, ?_⟩
        have fzs : Same (fz L H') (fz L H') := Same.refl _
        obtain ⟨R2, m2⟩ := R'.mut hx h1 (o := .lst (vs' ++ [v])) (ct' := .lst (xs ++ [d])) ⟨_, rfl, r1'.append (Reps.cons rv Reps.nil)⟩
        exact k L S σ _ ((fz_mod m R.sub).trans (fz_mod m2 R'.sub)) R2
      · exact k.elim
    · exact k.elim
  · exact k.elim
def xPop (i : Nat) : State → Res D := fun α => match ctOf α[i]? with | some (.lst xs) => (match xs.getLast? with | some d => .ok d (putC α i (.lst xs.dropLast)) | none => .bad) | _ => .bad
theorem Reps.dropLast : ∀ {ds : List D} {vs : List V} {F : Hp}, Reps e F ds vs → Reps e F ds.dropLast vs.dropLast := fun {ds vs F} r => by
  rw [List.dropLast_eq_take, List.dropLast_eq_take, r.len]
  exact r.take _
theorem ee_pop (i : Nat) : Eve e E (tBM0 e.K "list" rPop (tVar i)) (xPop i) := fun c L S σ H α R Q k kx nb => by
  unfold xPop at k nb
  cases hc : ctOf α[i]? with
  | none => rw [hc] at nb; exact absurd rfl nb
  | some ct =>
    cases ct with
    | obj x fs => rw [hc] at nb; exact absurd rfl nb
    | dic kvs => rw [hc] at nb; exact absurd rfl nb
    | lst xs =>
      rw [hc] at k nb
      dsimp only at k nb
      cases hl : xs.getLast? with
      | none => rw [hl] at nb; exact absurd rfl nb
      | some d =>
        rw [hl] at k
        obtain ⟨p, o, h1, m1, ho, vs, rfl, r1⟩ := R.at hc
        rw [List.getLast?_eq_getElem?] at hl
        obtain ⟨v, hv, rv⟩ := r1.get hl
        refine ⟨.ref p, h1, .inl ⟨rfl, vs, SqL.of ho⟩, p, vs, v, rfl, rfl, ho, by rw [r1.len]; exact hv, ?_⟩
        obtain ⟨R2, m2⟩ := R.mut hc h1 (o := .lst vs.dropLast) (ct' := .lst xs.dropLast) ⟨_, rfl, r1.dropLast⟩
        exact k d _ rfl v _ m2 R2 (rv.up (fz_mod m2 R.sub))
def sSetI (i : Nat) (s : State → Res D) (sk : State → Option D) : State → Out := fun α => match s α with
  | .ok d α' => (match sk α', ctOf α'[i]? with | some (.int z), some (.lst xs) => (match ixN xs.length z with | some j => .nxt (putC α' i (.lst (xs.set j d))) | none => .bad) | _, _ => .bad)
  | .exc x => .exc x | .bad => .bad
theorem st_setI {i : Nat} {s : State → Res D} {sk : State → Option D} (h : Eve e E te s) (hk : Evp e tb sk) : Sts e E (tAsg te (gSub (tVar i) tb rSetL)) (sSetI i s sk) := fun c L S σ H α D R k => by
  unfold sSetI at k
  refine h c L S σ H α R _ (fun d α' hs v H' m R' rv => ?_) (fun x hx => by rw [hx] at k; exact k) (fun hb => by rw [hb] at k; exact k)
  rw [hs] at k
  dsimp only at k
  split at k
  · rename_i z xs hz hx
    split at k
    · rename_i j hj
      obtain ⟨p, o, h1, m1, ho, vs, rfl, r1⟩ := R'.at hx
      refine ⟨.ref p, h1, ?_⟩
      refine hk c L S σ H' α' _ R' hz _ fun v2 H2 e2 r2 => ?_
      cases r2
      refine ⟨p, vs, z, j, rfl, rfl, e2.k _ _ ho (R'.nh p (R'.sub p m1)), by rw [r1.len]; exact hj, ?_⟩
      have R2 := R'.up e2
      obtain ⟨R3, m3⟩ := R2.mut hx h1 (o := .lst (vs.set j v)) (ct' := .lst (xs.set j d)) ⟨_, rfl, (r1.set j rv).up (fz_same e2)⟩
      exact k L S σ _ ((fz_mod m R.sub).trans ((fz_same e2).trans (fz_mod m3 R2.sub))) R3
    · exact k.elim
  · exact k.elim
def anil : State → Res (List Arg) := fun α => .ok [] α
theorem eae_nil : EvaE e E tNil anil := fun c L S σ H α R Q k kx nb => k [] α rfl [] H Mod.refl R rfl
def acons (s : State → Res D) (sr : State → Res (List Arg)) : State → Res (List Arg) := fun α => match s α with
  | .ok d α1 => (match sr α1 with | .ok as α2 => .ok (.dat d :: as) α2 | .exc x => .exc x | .bad => .bad)
  | .exc x => .exc x | .bad => .bad
theorem eae_cons {tr : TA} {s : State → Res D} {sr : State → Res (List Arg)} (h : Eve e E te s) (hr : EvaE e E tr sr) : EvaE e E (tCons te tr) (acons s sr) := fun c L S σ H α R Q k kx nb => by
  unfold acons at k kx nb
  refine h c L S σ H α R _ (fun d α1 hs v H1 m1 R1 r1 => ?_) (fun x hx => kx x (by rw [hx])) (fun hb => nb (by rw [hb]))
  rw [hs] at k kx nb
  dsimp only at k kx nb
  refine hr c L S σ H1 α1 R1 _ (fun as α2 hs2 vs H2 m2 R2 r2 => ?_) (fun x hx => kx x (by rw [hx])) (fun hb => nb (by rw [hb]))
  rw [hs2] at k
  exact k _ α2 rfl _ H2 (m1.trans m2) R2 ⟨v, vs, rfl, Rep.up (d := d) r1 (fz_mod m2 R1.sub), r2⟩
def aslot (i : Nat) (sr : State → Res (List Arg)) : State → Res (List Arg) := fun α => if (ctOf α[i]?).isSome = true then (match sr α with | .ok as α2 => .ok (.slot i :: as) α2 | .exc x => .exc x | .bad => .bad) else .bad
theorem eae_slot (i : Nat) {tr : TA} {sr : State → Res (List Arg)} (hr : EvaE e E tr sr) : EvaE e E (tCons (tVar i) tr) (aslot i sr) := fun c L S σ H α R Q k kx nb => by
  unfold aslot at k kx nb
  split at nb
  · rename_i hi
    rw [if_pos hi] at k kx
    obtain ⟨ct, hct⟩ := Option.isSome_iff_exists.mp hi
    obtain ⟨p, o, h1, m1, ho, r1⟩ := R.at hct
    refine ⟨.ref p, h1, ?_⟩
    refine hr c L S σ H α R _ (fun as α2 hs2 vs H2 m2 R2 r2 => ?_) (fun x hx => kx x (by rw [hx])) (fun hb => nb (by rw [hb]))
    rw [hs2] at k
    exact k _ α2 rfl _ H2 m2 R2 ⟨.ref p, vs, rfl, h1, r2⟩
  · exact absurd rfl nb
def datas : List Arg → Option (List D)
  | [] => some []
  | .dat d :: r => (datas r).map (d :: ·)
  | .slot _ :: _ => none
theorem datas_rep {L : List Addr} {σ : L2.St} {H : Hp} : ∀ {as : List Arg} {vs : List V} {ds : List D}, datas as = some ds → ArgsRep e L σ H as vs → Reps e (fz L H) ds vs
  | [], _, _, h, r => by cases h; cases r; exact Reps.nil
  | .dat d :: as, _, _, h, ⟨v, w, q, r1, r2⟩ => by
    unfold datas at h
    cases hs : datas as with
    | none => rw [hs] at h; cases h
    | some ds => rw [hs] at h; cases h; subst q; exact Reps.cons r1 (datas_rep hs r2)
  | .slot _ :: _, _, _, h, _ => by cases h
def rCall (m : List D → Option D) (sr : State → Res (List Arg)) : State → Res D := fun α => match sr α with
  | .ok as α1 => (match bnd (datas as) m with | some d => .ok d α1 | none => .bad)
  | .exc x => .exc x | .bad => .bad
theorem ee_call {E' : XK} {m : List D → Option D} {tr : TA} {sr : State → Res (List Arg)} (h : EvaE e E tr sr) : Eve e E (tCall (spP e m) [] E' tr) (rCall m sr) := fun c L S σ H α R Q k kx nb => by
  unfold rCall at k kx nb
  refine h c L S σ H α R _ (fun as α1 hs vs H1 m1 R1 r1 => ?_) (fun x hx => kx x (by rw [hx])) (fun hb => nb (by rw [hb]))
  rw [hs] at k nb
  dsimp only at k nb
  cases hb : bnd (datas as) m with
  | none => rw [hb] at nb; exact absurd rfl nb
  | some d =>
    rw [hb] at k
    obtain ⟨ds, h1, h2⟩ := bnd_some hb
    exact ⟨L, ds, d, R1.dm, by rw [List.append_nil]; exact datas_rep h1 r1, h2, fun v H' e2 r2 => k d α1 rfl v H' (m1.trans (.of e2)) (R1.up e2) r2⟩
def rTup (sr : State → Res (List Arg)) : State → Res D := fun α => match sr α with
  | .ok as α1 => (match datas as with | some ds => if ds.length ≤ 100000 then .ok (.tup ds) α1 else .bad | none => .bad)
  | .exc x => .exc x | .bad => .bad
theorem ee_tup {tr : TA} {sr : State → Res (List Arg)} (h : EvaE e E tr sr) : Eve e E (tTup tr) (rTup sr) := fun c L S σ H α R Q k kx nb => by
  unfold rTup at k kx nb
  refine h c L S σ H α R _ (fun as α1 hs vs H1 m1 R1 r1 => ?_) (fun x hx => kx x (by rw [hx])) (fun hb => nb (by rw [hb]))
  rw [hs] at k nb
  dsimp only at k nb
  cases hb : datas as with
  | none => rw [hb] at nb; exact absurd rfl nb
  | some ds =>
    rw [hb] at k nb
    dsimp only at k nb
    split at nb
    · rename_i hz
      rw [if_pos hz] at k
      have r2 := datas_rep hb r1
      refine ⟨by rw [r2.len]; exact sz_of hz, fun p hp => ?_⟩
      have s2 : Sm H1 (upd H1 p (.tup vs)) := .of fun b o z => by rw [upd_ne (ne_of_none z hp)]; exact z
      exact k _ α1 rfl _ _ (m1.trans (.of s2)) (R1.up s2) ⟨p, vs, rfl, .inl (.inl (fz_new (fresh_nL R1.dm hp) upd_same)), r2.up (fz_same s2)⟩
    · exact absurd rfl nb
inductive MRes where
  | ok (r : RetV) (as : List A) | exc (x : Exn) | bad
def AsRep (e : En) (L S : List Addr) (H : Hp) : List A → List V → Prop
  | [], vs => vs = []
  | a :: r, vs => ∃ v w, vs = v :: w ∧ (match a with
    | .dat d => Rep e (fz L H) d v
    | .inn ct => ∃ p o, v = .ref p ∧ p ∈ S ∧ H p = some o ∧ RepC e (fz L H) ct o
    | .own _ => False
    | .adr _ => False) ∧ AsRep e L S H r w
def innCount : List A → Nat
  | [] => 0
  | .inn _ :: r => innCount r + 1
  | _ :: r => innCount r
def spM (e : En) (m : List A → MRes) : Sp := fun vs H Q E => ∃ L S as, Dom L H ∧ (∀ p ∈ S, p ∈ L) ∧ innCount as ≤ 1 ∧ AsRep e L S H as vs ∧
  (∀ r as', m as = .ok r as' → ∀ v H', Mod S H H' → AsRep e L S H' as' vs → RetRep e L H' v ⟨L, S, H, []⟩ r → Q v H') ∧
  (∀ x, m as = .exc x → ∀ cls dd H', Mod S H H' → XRep e (fz L H') H' x cls dd → (∀ p, dd = some p → H p = none) → E cls dd H') ∧ m as ≠ .bad
def ends (k : Nat) (α : State) : State := α
def inP (n k : Nat) (ds : List D) : State := ds.map (fun d => some (.dat d)) ++ List.replicate (n - k) none
def runP (n k : Nat) (s : State → Out) : List D → Option D := fun ds => if ds.length = k then (match s (inP n k ds) with
  | .ret (.dat d) _ => some d | .ret (.lst xs) _ => some (.lst xs) | .nxt _ => some .non | _ => none) else none
def runL (n k : Nat) (s : State → Out) : List D → Option (List D) := fun ds => if ds.length = k then (match s (inP n k ds) with
  | .ret (.lst xs) _ => some xs | _ => none) else none
theorem Mod.same {H H' : Hp} (h : Mod [] H H') : Sm H H' := ⟨fun a o q => h.k a o q (by simp), h.i⟩
theorem inP_rel {L : List Addr} {H : Hp} {ds : List D} {vs : List V} {N : List Str} (dm : Dom L H) (r : Reps e (fz L H) ds vs) (hk : vs.length ≤ N.length) : Rel e ⟨L, [], H, L2.start N vs⟩ L [] (L2.start N vs) H (inP N.length vs.length ds) where
  slot := fun i a q => by
    unfold inP at q
    have hl := r.len
    by_cases hi : i < ds.length
    · rw [List.getElem?_append_left (by simpa using hi), List.getElem?_map, List.getElem?_eq_getElem hi] at q
      cases q
      obtain ⟨v, h1, h2⟩ := r.get (List.getElem?_eq_getElem hi)
      refine ⟨v, ?_, h2⟩
      unfold L2.start
      rw [List.getElem?_append_left (by simp; omega), List.getElem?_map, h1]
      rfl
    · rw [List.getElem?_append_right (by simp; omega)] at q
      rw [List.getElem?_replicate] at q
      split at q <;> cases q
  sep := fun i j p hi _ _ _ => by
    unfold inP at hi
    by_cases h : i < ds.length
    · rw [List.getElem?_append_left (by simpa using h), List.getElem?_map, List.getElem?_eq_getElem h] at hi
      simp [isOwn] at hi
    · rw [List.getElem?_append_right (by simp; omega), List.getElem?_replicate] at hi
      split at hi <;> simp [isOwn] at hi
  inv := dm.inv
  h1 := fun _ => Hd.al dm.inv
  nh := dm.nh
  dom := dm.dom
  sub := fun _ h => nomatch h
  l0 := fun _ h => h
  l1 := fun _ h => .inl h
  s1 := fun _ h => nomatch h
  md := Mod.refl
  s0 := fun _ h => nomatch h
  d0 := dm.dom
  len := by
    unfold L2.start inP
    simp [r.len]
variable {P : Program} {w : World} {K : PySem.W.Frag} {mg : Str → Option Value} {base : Heap}
theorem fn_P {cls : String → Addr} {x qual : Str} {st : Stmt} {f : Addr} {fd : FuncData} {N ps : List Str} {k : Nat} (s : State → Out) (F : Fun K x qual st f fd) (S : FnScope N ps (defScope st)) {n kk : Nat} (hn : N.length = n) (hkk : ps.length = kk) (hps : kk ≤ n) {m : List D → Option D} (hmm : m = runP n kk s)
    (hbody : ∀ (cdv : Value) (A : Around) (outer : List Env) (s0 : Shared) (H : Hp) (E : XK), Room k (A.deeper (envOfC qual (defScope st) s0.heap.objs.size f cdv)) →
      ∃ t, PSs (cxOf CX0 P w K mg base N qual (defScope st) f cdv A outer s0 H E).nox (defBody st) t ∧ Sts ⟨K, cls⟩ E0 t s) : FnOk P w K mg base CX0 (k + 1) f fd ps (spP ⟨K, cls⟩ m) := by
  subst hn hkk hmm
  refine F.ok S (fun vs H Q E h => ?_) (fun cdv A outer s0 H vs Q E hr h => ?_)
  · obtain ⟨L, ds, d, dm, r, hm, q⟩ := h
    unfold runP at hm
    split at hm
    · rename_i hl
      rw [r.len, hl]
    · cases hm
  · obtain ⟨L, ds, d, dm, r, hm, q⟩ := h
    obtain ⟨t, h1, h2⟩ := hbody cdv A outer s0 H E hr
    refine ⟨t, h1, ?_⟩
    unfold runP at hm
    split at hm
    · rename_i hl
      have hvl : vs.length = ps.length := by rw [r.len, hl]
      have R := inP_rel (N := N) dm r (by omega)
      rw [hvl] at R
      refine h2 _ _ _ _ _ _ _ R ?_
      split at hm
      · rename_i d' β hs
        cases hm
        rw [hs]
        intro v L' S' σ' H' R' rr
        exact q v H' R'.md.same (Rep.mono (fz_anti R'.l0) _ _ rr)
      · rename_i xs β hs
        cases hm
        rw [hs]
        intro v L' S' σ' H' R' rr
        obtain ⟨p, us, rfl, n0, hp, r2⟩ := rr
        refine q _ H' R'.md.same ⟨p, us, rfl, .inl (.inl (fz_new (R'.n0 n0) hp)), r2.up (fz_anti fun a m => List.mem_cons_of_mem _ (R'.l0 a m))⟩
      · rename_i β hs
        cases hm
        rw [hs]
        intro L' S' σ' H' _ R'
        exact q _ H' R'.md.same rfl
      · cases hm
    · cases hm
theorem fn_L {cls : String → Addr} {x qual : Str} {st : Stmt} {f : Addr} {fd : FuncData} {N ps : List Str} {k : Nat} (s : State → Out) (F : Fun K x qual st f fd) (S : FnScope N ps (defScope st)) {n kk : Nat} (hn : N.length = n) (hkk : ps.length = kk) (hps : kk ≤ n) {m : List D → Option (List D)} (hmm : m = runL n kk s)
    (hbody : ∀ (cdv : Value) (A : Around) (outer : List Env) (s0 : Shared) (H : Hp) (E : XK), Room k (A.deeper (envOfC qual (defScope st) s0.heap.objs.size f cdv)) →
      ∃ t, PSs (cxOf CX0 P w K mg base N qual (defScope st) f cdv A outer s0 H E).nox (defBody st) t ∧ Sts ⟨K, cls⟩ E0 t s) : FnOk P w K mg base CX0 (k + 1) f fd ps (spL ⟨K, cls⟩ m) := by
  subst hn hkk hmm
  refine F.ok S (fun vs H Q E h => ?_) (fun cdv A outer s0 H vs Q E hr h => ?_)
  · obtain ⟨L, ds, d, dm, r, hm, q⟩ := h
    unfold runL at hm
    split at hm
    · rename_i hl
      rw [r.len, hl]
    · cases hm
  · obtain ⟨L, ds, d, dm, r, hm, q⟩ := h
    obtain ⟨t, h1, h2⟩ := hbody cdv A outer s0 H E hr
    refine ⟨t, h1, ?_⟩
    unfold runL at hm
    split at hm
    · rename_i hl
      have hvl : vs.length = ps.length := by rw [r.len, hl]
      have R := inP_rel (N := N) dm r (by omega)
      rw [hvl] at R
      refine h2 _ _ _ _ _ _ _ R ?_
      split at hm
      · rename_i xs β hs
        cases hm
        rw [hs]
        intro v L' S' σ' H' R' rr
        obtain ⟨p, us, rfl, n0, hp, r2⟩ := rr
        refine q p us H' R'.md.same n0 hp (r2.up (fz_anti fun a m => ?_))
        rcases List.mem_cons.mp m with rfl | m
        · exact List.mem_cons_self
        · exact List.mem_cons_of_mem _ (R'.l0 a m)
      · cases hm
    · cases hm
def wipeA : List Nat → State → State
  | [], α => α
  | v :: vs, α => (wipeA vs α).set v none
theorem Rel.setN {c : Cn} {L S : List Addr} {σ : L2.St} {H : Hp} {α : State} (r : Rel e c L S σ H α) (i : Nat) : Rel e c L S (σ.set i none) H (α.set i none) where
  slot := fun j a q => by
    rw [getset] at q ⊢
    split at q
    · split at q <;> cases q
    · rename_i hn
      rw [if_neg hn]
      exact r.slot j a q
  sep := fun j k p hj hk sj sk => by
    rw [getset] at hj hk sj sk
    by_cases e1 : i = j
    · rw [if_pos e1] at hj
      split at hj <;> simp [isOwn] at hj
    · by_cases e2 : i = k
      · rw [if_pos e2] at hk
        split at hk <;> simp [isOwn] at hk
      · rw [if_neg e1] at hj sj; rw [if_neg e2] at hk sk
        exact r.sep j k p hj hk sj sk
  inv := r.inv
  h1 := r.h1
  nh := r.nh
  dom := r.dom
  sub := r.sub
  l0 := r.l0
  l1 := r.l1
  s1 := r.s1
  md := r.md
  s0 := r.s0
  d0 := r.d0
  len := by rw [List.length_set, List.length_set]; exact r.len
theorem Rel.wipe {c : Cn} {L S : List Addr} {σ : L2.St} {H : Hp} {α : State} (r : Rel e c L S σ H α) : ∀ vs : List Nat, Rel e c L S (L2.wipe σ vs) H (wipeA vs α)
  | [] => r
  | v :: vs => (Rel.wipe r vs).setN v
theorem wipe_idem {σ : L2.St} {vs : List Nat} : L2.wipe (L2.wipe σ vs) vs = L2.wipe σ vs := wipe_ext (wipe_length _ _) fun j hj => wipe_out hj
def lcF (gt : D → State → Option State) (st : State → Option Bool) (se : State → Option D) : List D → State → Option (List D)
  | [], _ => some []
  | x :: xs, α => bnd (gt x α) fun β => match st β with
    | some true => bnd (se β) fun d => bnd (lcF gt st se xs α) fun r => some (d :: r)
    | some false => lcF gt st se xs α
    | none => none
def xLc (vs : List Nat) (sx : State → Option (List D)) (gt : D → State → Option State) (st : State → Option Bool) (se : State → Option D) : State → Option (List D) := fun α =>
  bnd (sx α) fun xs => if xs.length ≤ 100000 then lcF gt st se xs (wipeA vs α) else none
def tbYes : State → Option Bool := fun _ => some true
theorem et_yes : Evt e tYes tbYes := fun c L S σ H α b R q Q k => by cases q; exact k H (Sm.refl H)
theorem el_lc {wi : TI} {g : TG} {tt : TT} {vs js : List Nat} {sx : State → Option (List D)} {gt : D → State → Option State} {st : State → Option Bool} {se : State → Option D} (hi : Evi e wi sx) (hg : Etg e g gt js) (hj : ∀ j ∈ js, j ∈ vs) (ht : Evt e tt st) (he : Evp e te se) :
    Evl e (tLc wi g tt te vs) (xLc vs sx gt st se) := fun c L S σ H α out R q Q k => by
  obtain ⟨xs, hx, q⟩ := bnd_some q
  split at q
  · rename_i hz
    refine hi c L S σ H α xs R hx _ fun J H1 e1 wk => ?_
    intro D0 hD
    have hn : H D0 = none := by
      exact e1.free R.inv hD
    have R1 := R.up e1
    have nD : ¬ Hd.hid D0 := (fresh_nL R1.dm hD).2
    refine ⟨fun i m H' => m = xs.length - i ∧ i ≤ xs.length ∧ Sm H1 H' ∧ ∃ acc ds rest, H' D0 = some (.lst acc) ∧ acc.length ≤ i ∧ Reps e (fz (D0 :: L) H') ds acc ∧ lcF gt st se (xs.drop i) (wipeA vs α) = some rest ∧ ds ++ rest = out,
      ⟨xs.length, by simp, Nat.zero_le _, .of fun a o z => by rw [upd_ne (ne_of_none z hD)]; exact z, [], [], out, upd_same, Nat.le_refl _, Reps.nil, q, rfl⟩, ?_⟩
    rintro i m H2 ⟨rfl, hi, s2, acc, ds, rest, h2, hal, hr, hl, ho⟩
    have R2 : Rel e c (D0 :: L) S (L2.wipe σ vs) H2 (wipeA vs α) := (R1.more s2 hD h2).wipe vs
    have s2' : Same (fz L H1) (fz (D0 :: L) H2) := fz_cons s2 hD
    obtain ⟨w1, w2, w3⟩ := wk (D0 :: L) H2 s2' R2.dm i
    by_cases hlt : i < xs.length
    · rw [List.drop_eq_getElem_cons hlt] at hl
      obtain ⟨β, hgt, hl⟩ := bnd_some hl
      refine .inr ⟨w1 hlt, fun H' => Sm H1 H' ∧ ∃ acc ds rest, H' D0 = some (.lst acc) ∧ acc.length ≤ i + 1 ∧ Reps e (fz (D0 :: L) H') ds acc ∧ lcF gt st se (xs.drop (i + 1)) (wipeA vs α) = some rest ∧ ds ++ rest = out,
        fun H' ⟨h', h''⟩ => ⟨xs.length - (i + 1), by omega, rfl, hlt, h', h''⟩, fun v H3 y => ?_⟩
      obtain ⟨e3, r3⟩ := w3 xs[i] v H3 (List.getElem?_eq_getElem hlt) y
      refine hg c _ S _ H3 _ xs[i] v β (R2.up e3) r3 hgt _ fun σ4 hl4 hj4 R4 => ⟨?_, ?_⟩
      · rw [wipe_ext hl4 fun j hn => hj4 j fun m => hn (hj j m), wipe_idem]
      · cases hst : st β with
        | none => rw [hst] at hl; cases hl
        | some b =>
          rw [hst] at hl
          refine ht c _ S σ4 H3 β b R4 hst _ fun H4 e4 => ?_
          cases b with
          | false =>
            rw [if_neg Bool.false_ne_true]
            exact ⟨s2.trans (e3.trans e4), acc, ds, rest, (e3.trans e4).k _ _ h2 nD, by omega, hr.up (fz_same (e3.trans e4)), hl, ho⟩
          | true =>
            rw [if_pos rfl]
            obtain ⟨d, hd, hl⟩ := bnd_some hl
            obtain ⟨rest', hr', hl⟩ := bnd_some hl
            cases hl
            refine he c _ S σ4 H4 β d (R4.up e4) hd _ fun v5 H5 e5 r5 => ?_
            have e35 := e3.trans (e4.trans e5)
            have fzs : Same (fz (D0 :: L) H5) (fz (D0 :: L) (upd H5 D0 (.lst (acc ++ [v5])))) := fz_mut fun a o z n _ => by
              rw [upd_ne (fun z' => n (by rw [z']; exact List.mem_cons_self))]; exact z
            refine ⟨acc, e35.k _ _ h2 nD, sz_lt (by omega), ⟨fun a o z nh => ?_, fun h => Hd.chg (e35.i (s2.i h)) nD (e35.k _ _ h2 nD) trivial⟩, acc ++ [v5], ds ++ [d], rest', upd_same, by simp; omega, ((hr.up (fz_same e35)).append (Reps.cons r5 Reps.nil)).up fzs, hr', by rw [← ho, List.append_assoc]; rfl⟩
            rw [upd_ne (ne_of_none z hD)]
            exact e35.k _ _ (s2.k _ _ z nh) nh
    · have e2 : i = xs.length := by omega
      subst e2
      rw [List.drop_length] at hl
      cases hl
      rw [List.append_nil] at ho
      subst ho
      exact .inl ⟨w2 (Nat.le_refl _), k D0 acc H2 (e1.trans s2) hn h2 hr⟩
  · cases q
end
end Ab
end
section
set_option maxRecDepth 100000
set_option maxHeartbeats 1000000
namespace Ab
open PySem L2 PyProof.Rows PySem.Spec
variable [Hd]
section
variable {e : En} {E : XK} {te ta tb : TE} {sq sq2 : State → Option (List D)}
theorem none_back {H H1 : Hp} {p : Addr} (i : Hd.inv H) (s : Sm H H1) (n : H1 p = none) : H p = none := s.free i n
theorem same_upd {H : Hp} {p : Addr} {o : HO} (h : H p = none) : Sm H (upd H p o) := .of fun b u z => by rw [upd_ne (ne_of_none z h)]; exact z
theorem reps_flat : ∀ {F : Hp} {ds : List D} {vs : List V}, ds.all flat = true → Reps e F ds vs → vs = ds.map dv
  | _, [], _, _, r => by cases r; rfl
  | F, d :: ds, _, h, ⟨v, w, q, r1, r2⟩ => by
    simp only [List.all_cons, Bool.and_eq_true] at h
    subst q
    rw [rep_flat h.1 r1, reps_flat h.2 r2]
    rfl
theorem flatV_dv {d : D} (h : flat d = true) : flatV (dv d) = true := by cases d <;> first | rfl | (simp [flat] at h)
theorem flatV_dvs {ds : List D} (h : ds.all flat = true) : (ds.map dv).all flatV = true := by
  rw [List.all_map]
  rw [List.all_eq_true] at h ⊢
  exact fun x hx => flatV_dv (h x hx)
def memD (neg : Bool) : D → D → Option D := fun a b => match b with
  | .tup xs => if (flat a && xs.all flat) = true then some (.bl (if neg then !inV (dv a) (xs.map dv) else inV (dv a) (xs.map dv))) else none
  | .lst xs => if (flat a && xs.all flat) = true then some (.bl (if neg then !inV (dv a) (xs.map dv) else inV (dv a) (xs.map dv))) else none
  | _ => none
theorem rv_in {neg : Bool} : RvD e (rIn e.K neg) (memD neg) := fun L H dx dy x y d dm rx ry h Q q => by
  unfold memD at h
  split at h
  · rename_i xs
    split at h
    · rename_i hc
      simp only [Bool.and_eq_true] at hc
      cases h
      obtain ⟨a, vs, rfl, r1, r2⟩ := ry
      have e1 := reps_flat hc.2 r2
      subst e1
      rw [rep_flat hc.1 rx]
      exact ⟨a, _, rfl, .inr (same_t fz_le r1), flatV_dv hc.1, flatV_dvs hc.2, q _ H (Sm.refl H) rfl⟩
    · cases h
  · rename_i xs
    split at h
    · rename_i hc
      simp only [Bool.and_eq_true] at hc
      cases h
      obtain ⟨a, vs, rfl, r1, r2⟩ := ry
      have e1 := reps_flat hc.2 r2
      subst e1
      rw [rep_flat hc.1 rx]
      exact ⟨a, _, rfl, .inl (fz_le.seq r1), flatV_dv hc.1, flatV_dvs hc.2, q _ H (Sm.refl H) rfl⟩
    · cases h
  · cases h
mutual
def py : D → PyData
  | .non => .none | .bl b => .bool b | .int i => .int i | .str s => .str s
  | .tup xs => .tuple (pys xs) | .lst xs => .list (pys xs)
  | .ins _ _ => .none | .ty _ => .none | .cls _ => .none | .dic _ => .none | .trm _ => .none
def pys : List D → List PyData
  | [] => [] | d :: ds => py d :: pys ds
end
mutual
def plainD : D → Bool
  | .non | .bl _ | .int _ => true
  | .str s => PyData.strOk s
  | .tup xs => plainDs xs | .lst xs => plainDs xs
  | _ => false
def plainDs : List D → Bool
  | [] => true | d :: ds => plainD d && plainDs ds
end
mutual
def depD : D → Nat
  | .tup xs => depDs xs + 1 | .lst xs => depDs xs + 1
  | _ => 0
def depDs : List D → Nat
  | [] => 0 | d :: ds => max (depD d) (depDs ds)
end
mutual
theorem dp_of {F : Hp} : ∀ (d : D) (v : V), plainD d = true → Rep e F d v → Dp e.K F v (py d)
  | .non, _, _, r => by cases r; exact .non
  | .bl b, _, _, r => by cases r; exact .bl b
  | .int b, _, _, r => by cases r; exact .int b
  | .str b, _, _, r => by cases r; exact .str b
  | .tup xs, _, h, ⟨a, vs, q, t, r⟩ => by subst q; exact .tup t (dps_of xs vs h r)
  | .lst xs, _, h, ⟨a, vs, q, t, r⟩ => by subst q; exact .lst t (dps_of xs vs h r)
  | .ins _ _, _, h, _ => by cases h
  | .ty _, _, h, _ => by cases h
  | .cls _, _, h, _ => by cases h
  | .dic _, _, h, _ => by cases h
  | .trm _, _, h, _ => by cases h
theorem dps_of {F : Hp} : ∀ (ds : List D) (vs : List V), plainDs ds = true → Reps e F ds vs → DpAll e.K F vs (pys ds)
  | [], _, _, r => by cases r; exact .nil
  | d :: ds, _, h, ⟨v, w, q, r1, r2⟩ => by
    subst q
    have h' : plainD d = true ∧ plainDs ds = true := by simpa [plainDs] using h
    exact .cons (dp_of d v h'.1 r1) (dps_of ds w h'.2 r2)
end
mutual
theorem lay_of : ∀ d : D, plainD d = true → (py d).canLay0 = true
  | .non, _ => rfl
  | .bl _, _ => rfl
  | .int _, _ => rfl
  | .str s, h => h
  | .tup xs, h => lays_of xs h
  | .lst xs, h => lays_of xs h
  | .ins _ _, h => by cases h
  | .ty _, h => by cases h
  | .cls _, h => by cases h
  | .dic _, h => by cases h
  | .trm _, h => by cases h
theorem lays_of : ∀ ds : List D, plainDs ds = true → PyData.canLayAll0 (pys ds) = true
  | [], _ => rfl
  | d :: ds, h => by
    have h' : plainD d = true ∧ plainDs ds = true := by simpa [plainDs] using h
    show ((py d).canLay0 && PyData.canLayAll0 (pys ds)) = true
    rw [lay_of d h'.1, lays_of ds h'.2]; rfl
end
mutual
theorem dep_py : ∀ d : D, (py d).depth ≤ depD d
  | .non => Nat.le_refl _
  | .bl _ => Nat.le_refl _
  | .int _ => Nat.le_refl _
  | .str s => Nat.le_refl _
  | .tup xs => by show PyData.depth (.tuple (pys xs)) ≤ depDs xs + 1; have := deps_py xs; simp only [PyData.depth]; omega
  | .lst xs => by show PyData.depth (.list (pys xs)) ≤ depDs xs + 1; have := deps_py xs; simp only [PyData.depth]; omega
  | .ins _ _ => Nat.le_refl _
  | .ty _ => Nat.le_refl _
  | .cls _ => Nat.le_refl _
  | .dic _ => Nat.le_refl _
  | .trm _ => Nat.le_refl _
theorem deps_py : ∀ ds : List D, PyData.depthAll (pys ds) ≤ depDs ds
  | [] => Nat.le_refl _
  | d :: ds => by
    have h1 := dep_py d
    have h2 := deps_py ds
    show PyData.depthAll (py d :: pys ds) ≤ max (depD d) (depDs ds)
    simp only [PyData.depthAll]
    omega
end
def eqOk (a b : D) : Bool := plainD a && plainD b && decide (min (depD a) (depD b) ≤ 190)
def eqv (a b : D) : Bool := PyData.eqv (py a) (py b)
def rEqQ (K : PySem.W.Frag) : R2 := fun x y H Q => ∃ d e, Dp K H x d ∧ Dp K H y e ∧ d.canLay0 = true ∧ e.canLay0 = true ∧ min d.depth e.depth ≤ 190 ∧ Q (.bl (PyData.eqv d e)) H
def rNeQ (K : PySem.W.Frag) : R2 := fun x y H Q => ∃ d e, Dp K H x d ∧ Dp K H y e ∧ d.canLay0 = true ∧ e.canLay0 = true ∧ min d.depth e.depth ≤ 190 ∧ Q (.bl (!PyData.eqv d e)) H
theorem op_eqQ {X : Cx} (hu : X.A.units + 200 < cLine) : OpR X (compareOp .Eq) (rEqQ X.K) := by
  intro pins s σ H x y v u Q I rx ry h
  obtain ⟨d, e, hd, he, sd, se, hm, q⟩ := h
  obtain ⟨as, r1⟩ := Dp.reads I d x v hd rx
  obtain ⟨bs, r2⟩ := Dp.reads I e y u he ry
  exact SeqAt.compareEq_reads r1 r2 sd se (by omega) ⟨.bl _, H, I, rfl, q⟩
theorem op_neQ {X : Cx} (hu : X.A.units + 200 < cLine) : OpR X (compareOp .NotEq) (rNeQ X.K) := by
  intro pins s σ H x y v u Q I rx ry h
  obtain ⟨d, e, hd, he, sd, se, hm, q⟩ := h
  obtain ⟨as, r1⟩ := Dp.reads I d x v hd rx
  obtain ⟨bs, r2⟩ := Dp.reads I e y u he ry
  exact SeqAt.compareNe_reads r1 r2 sd se (by omega) ⟨.bl _, H, I, rfl, q⟩
theorem units_of {k : Nat} {A : Around} (hr : Room k A) : A.units + 200 < cLine := by have := hr.un; omega
theorem dp_up {K : PySem.W.Frag} {F H : Hp} (h : Same F H) : ∀ {v : V} {d : PyData}, Dp K F v d → Dp K H v d := by
  intro v d r
  exact Dp.rec (motive_1 := fun v d _ => Dp K H v d) (motive_2 := fun vs ds _ => DpAll K H vs ds) .non .bl .int .str (fun s _ ih => .lst (h.seq s) ih) (fun s _ ih => .tup (same_t h s) ih) .nil (fun _ _ a b => .cons a b) r
def fEqQ : D → D → Option D := fun a b => if eqOk a b = true then some (.bl (eqv a b)) else none
def fNeQ : D → D → Option D := fun a b => if eqOk a b = true then some (.bl (!eqv a b)) else none
theorem rv_eqQ : RvD e (rEqQ e.K) fEqQ := fun L H dx dy x y d dm rx ry h Q q => by
  unfold fEqQ at h
  split at h
  · rename_i hc
    cases h
    unfold eqOk at hc
    simp only [Bool.and_eq_true, decide_eq_true_eq] at hc
    have h1 := dep_py dx
    have h2 := dep_py dy
    exact ⟨py dx, py dy, dp_up fz_le (dp_of dx x hc.1.1 rx), dp_up fz_le (dp_of dy y hc.1.2 ry), lay_of _ hc.1.1, lay_of _ hc.1.2, by omega, q _ H (Sm.refl H) rfl⟩
  · cases h
theorem rv_neQ : RvD e (rNeQ e.K) fNeQ := fun L H dx dy x y d dm rx ry h Q q => by
  unfold fNeQ at h
  split at h
  · rename_i hc
    cases h
    unfold eqOk at hc
    simp only [Bool.and_eq_true, decide_eq_true_eq] at hc
    have h1 := dep_py dx
    have h2 := dep_py dy
    exact ⟨py dx, py dy, dp_up fz_le (dp_of dx x hc.1.1 rx), dp_up fz_le (dp_of dy y hc.1.2 ry), lay_of _ hc.1.1, lay_of _ hc.1.2, by omega, q _ H (Sm.refl H) rfl⟩
  · cases h
def tyName : D → Option String
  | .non => some "NoneType" | .bl _ => some "bool" | .int _ => some "int" | .str _ => some "str" | .lst _ => some "list" | .tup _ => some "tuple"
  | _ => none
def fIsi : List D → Option D := fun ds => match ds with | [d, .ty n] => bnd (tyName d) fun m => (kitB m n).map .bl | _ => none
theorem ty_of {L : List Addr} {H : Hp} {d : D} {v : V} {m : String} (h : tyName d = some m) (r : Rep e (fz L H) d v) : TyX e.K H v (.type m) := by
  cases d with
  | non => cases h; cases r; exact .base .non
  | bl b => cases h; cases r; exact .base (.bl b)
  | int b => cases h; cases r; exact .base (.int b)
  | str b => cases h; cases r; exact .base (.str b)
  | ins _ _ => cases h
  | ty _ => cases h
  | cls _ => cases h
  | dic _ => cases h
  | trm _ => cases h
  | tup xs =>
    cases h
    obtain ⟨a, vs, rfl, t, _⟩ := r
    rcases t with (t | ⟨o, t⟩) | ⟨o, its, n, k, c, _⟩
    · exact .base (.tup (fz_le _ _ t))
    · exact .fTuple (fz_le _ _ t)
    · exact .kTuple k c
  | lst xs =>
    cases h
    obtain ⟨a, vs, rfl, t, _⟩ := r
    rcases t with (t | ⟨o, t⟩) | ⟨o, its, n, k, c, _⟩
    · exact .base (.lst (fz_le _ _ t))
    · exact .base (.frz (fz_le _ _ t))
    · exact .kList k c
theorem rc_isi : RcD e (rIsi e.K) fIsi := fun L H ds vs d dm r q Q k => by
  unfold fIsi at q
  split at q
  · rename_i d' n
    obtain ⟨m, hm, q⟩ := bnd_some q
    cases hb : kitB m n with
    | none => rw [hb] at q; cases q
    | some b =>
      rw [hb] at q
      cases q
      obtain ⟨v, _, rfl, r1, v2, _, rfl, r2, r3⟩ := r
      cases r2; cases r3
      exact ⟨v, .ty n, .type m, .type n, b, rfl, .ty n, ty_of hm r1, kit_ty hb, k _ H (Sm.refl H) rfl⟩
  · cases q
theorem ev_ty {n : String} : Evp e (tC (.ty n)) (xC (.ty n)) := ev_c fun _ => rfl
def rCatQ (K : PySem.W.Frag) : R2 := fun x y H Q => ∃ l b xs zs, x = .ref l ∧ y = .ref b ∧ SqL K H l xs ∧ SqL K H b zs ∧ xs.length + zs.length ≤ sizeLine ∧ ∀ p, H p = none → Q (.ref p) (upd H p (.lst (xs ++ zs)))
theorem op_catQ {X : Cx} : OpR X (binaryOp .Add) (rCatQ X.K) := by
  intro pins s σ H x y v u Q I rx ry h
  obtain ⟨l, b, xs, zs, rfl, rfl, hH, hB, hz, q⟩ := h
  cases rx
  cases ry
  obtain ⟨its, r, p1, hz1⟩ := I.list hH
  obtain ⟨its2, r2, p2, hz2⟩ := I.list hB
  obtain ⟨⟨cls, dd, data, sl⟩, n, e1, c1, d1, f1⟩ := p1
  obtain ⟨⟨cls2, dd2, data2, sl2⟩, n2, e2, c2, d2, f2⟩ := p2
  simp only at c1 f1 c2 f2
  subst c1 f1 c2 f2
  have hl := r.length
  have hl2 := r2.length
  have ea : its.toArray ++ its2.toArray = (its ++ its2).toArray := by simp
  refine concat_meets ⟨_, e1, rfl⟩ ⟨_, e2, rfl⟩ noFill_list_add seq_list_add PySem.F.slot_list_add PySem.F.entry_list_add (PySem.F.args_list_add_2 _ _) (list_addW l b its.toArray its2.toArray n n2 dd dd2 sl sl2 (by simp; omega)) ⟨e1, e2, ?_⟩
  rw [ea]
  exact ⟨.ref _, _, I.lnew (t' := s.toks) (r.append r2) (by rw [List.length_append]; omega), rfl, q _ I.fresh⟩
def xCat (sq sq2 : State → Option (List D)) : State → Option (List D) := fun α => bnd (sq α) fun xs => bnd (sq2 α) fun ys => lenOk (xs ++ ys)
theorem el_cat (ha : EvqL e ta sq) (hb : EvqL e tb sq2) : Evl e (tOp (rCatQ e.K) ta tb) (xCat sq sq2) := fun c L S σ H α d R q Q k => by
  obtain ⟨xs, h1, q⟩ := bnd_some q
  obtain ⟨ys, h2, q⟩ := bnd_some q
  obtain ⟨rfl, hz⟩ := lenOk_some q
  refine ha c L S σ H α xs R h1 _ fun a vs H1 e1 r1 r2 => ?_
  refine hb c L S σ H1 α ys (R.up e1) h2 _ fun b us H2 e2 r3 r4 => ?_
  rw [List.length_append] at hz
  refine ⟨a, b, vs, us, rfl, rfl, fz_le.seq ((fz_same e2).seq r1), fz_le.seq r3, by rw [r2.len, r4.len]; exact sz_of hz, fun p hp => ?_⟩
  have s3 : Sm H2 (upd H2 p (.lst (vs ++ us))) := same_upd hp
  exact k p _ _ (e1.trans (e2.trans s3)) (none_back R.inv (e1.trans e2) hp) upd_same (((r2.up (fz_same e2)).append r4).up (fz_cons s3 hp))
def xCatT (sq sq2 : State → Option (List D)) : State → Option D := fun α => bnd (sq α) fun xs => bnd (sq2 α) fun ys => if (xs ++ ys).length ≤ 100000 then some (.tup (xs ++ ys)) else none
theorem ev_catT (ha : EvqT e ta sq) (hb : EvqT e tb sq2) : Evp e (tOp (rCatA e.K) ta tb) (xCatT sq sq2) := fun c L S σ H α d R q Q k => by
  obtain ⟨xs, h1, q⟩ := bnd_some q
  obtain ⟨ys, h2, q⟩ := bnd_some q
  split at q
  · rename_i hz
    cases q
    refine ha c L S σ H α xs R h1 _ fun a vs H1 e1 r1 r2 => ?_
    refine hb c L S σ H1 α ys (R.up e1) h2 _ fun b us H2 e2 r3 r4 => ?_
    rw [List.length_append] at hz
    have r12 := r1
    have q1 : SqT e.K (fz L H2) a vs := same_t (fz_same e2) r1
    have rr := (r2.up (fz_same e2)).append r4
    refine ⟨a, b, vs, us, rfl, rfl, same_t fz_le q1, same_t fz_le r3, by rw [r2.len, r4.len]; exact sz_of hz, fun z => ?_, fun _ z => ?_, fun _ _ p hp => ?_⟩
    · refine k _ H2 (e1.trans e2) ⟨b, vs ++ us, rfl, ?_, rr⟩
      rw [z]; exact r3
    · refine k _ H2 (e1.trans e2) ⟨a, vs ++ us, rfl, ?_, rr⟩
      rw [z, List.append_nil]; exact q1
    · have s3 : Sm H2 (upd H2 p (.tup (vs ++ us))) := same_upd hp
      exact k _ _ (e1.trans (e2.trans s3)) ⟨p, vs ++ us, rfl, .inl (.inl (fz_new (fresh_nL (dom_up (e1.trans e2) R.dm) hp) upd_same)), rr.up (fz_same s3)⟩
  · cases q
def xSlA (sq : State → Option (List D)) (sl sh : State → Option (Option Int)) : State → Option D := fun α => bnd (sq α) fun xs => bnd (sl α) fun lo => bnd (sh α) fun hi => some (.tup (cutD xs lo hi))
theorem cut_whole {β : Type} {xs : List β} {lo hi : Option Int} (h : HT.sIx xs.length 0 lo = 0 ∧ HT.sIx xs.length xs.length hi = xs.length) : (xs.drop (HT.sIx xs.length 0 lo)).take (HT.sIx xs.length xs.length hi - HT.sIx xs.length 0 lo) = xs := by
  rw [h.1, h.2]; simp
variable {tl th : TO} {sl sh : State → Option (Option Int)}
theorem ev_slA (h : EvqT e te sq) (hl : Evo e tl sl) (hh : Evo e th sh) : Evp e (tSl (rSlA e.K) te tl th) (xSlA sq sl sh) := fun c L S σ H α d R q Q k => by
  obtain ⟨xs, h1, q⟩ := bnd_some q
  obtain ⟨lo, h2, q⟩ := bnd_some q
  obtain ⟨hi, h3, q⟩ := bnd_some q
  cases q
  refine h c L S σ H α xs R h1 _ fun a vs H1 e1 r1 r2 => ?_
  refine hl c L S σ H1 α lo (R.up e1) h2 _ fun H2 e2 => ?_
  refine hh c L S σ H2 α hi (R.up (e1.trans e2)) h3 _ fun H3 e3 => ?_
  have q1 : SqT e.K (fz L H3) a vs := same_t (fz_same (e2.trans e3)) r1
  have rr := r2.up (fz_same (e2.trans e3))
  refine ⟨a, vs, rfl, same_t fz_le q1, fun hw => ?_, fun hw p hp => ?_⟩
  · refine k _ H3 (e1.trans (e2.trans e3)) ⟨a, cutV vs lo hi, rfl, ?_, cut_rep rr⟩
    unfold cutV
    rw [cut_whole hw]
    exact q1
  · have s4 : Sm H3 (upd H3 p (.tup (cutV vs lo hi))) := same_upd hp
    exact k _ _ ((e1.trans (e2.trans e3)).trans s4) ⟨p, _, rfl, .inl (.inl (fz_new (fresh_nL (dom_up (e1.trans (e2.trans e3)) R.dm) hp) upd_same)), cut_rep (rr.up (fz_same s4))⟩
def fCatS : D → D → Option D := fun a b => match a, b with | .str i, .str j => if i.length + j.length ≤ 100000 then some (.str (i ++ j)) else none | _, _ => none
theorem rv_catS : RvD e (fun x y H Q => ∃ i j, x = .str i ∧ y = .str j ∧ i.length + j.length ≤ sizeLine ∧ Q (.str (i ++ j)) H) fCatS := fun L H dx dy x y d dm rx ry h Q q => by
  unfold fCatS at h
  split at h
  · split at h
    · cases h; cases rx; cases ry
      exact ⟨_, _, rfl, rfl, sz_of (by assumption), q _ H (Sm.refl H) rfl⟩
    · cases h
  · cases h
def fIxS : D → D → Option D := fun a b => match a, b with | .str z, .int i => if z.length ≤ 100000 then (atI z.cps.toList i).map fun c => .str ⟨#[c]⟩ else none | _, _ => none
theorem rv_ixS : RvD e rIxS fIxS := fun L H dx dy x y d dm rx ry h Q q => by
  unfold fIxS at h
  split at h
  · rename_i z i
    split at h
    · cases hx : atI z.cps.toList i with
      | none => rw [hx] at h; cases h
      | some c =>
        rw [hx] at h
        cases h; cases rx; cases ry
        exact ⟨z, i, c, rfl, rfl, sz_of (by assumption), hx, q _ H (Sm.refl H) rfl⟩
    · cases h
  · cases h
def xChain (f g : D → D → Option D) (sa sb sc : State → Option D) : State → Option D := fun α => bnd (sa α) fun a => bnd (sb α) fun b => match f a b with
  | some (.bl true) => (bnd (sc α) fun c => match g b c with | some (.bl k) => some (.bl k) | _ => none) | some (.bl false) => some (.bl false) | _ => none
theorem ev_chain {tc : TE} {sa sb sc : State → Option D} {r r' : R2} {f g : D → D → Option D} (hr : RvD e r f) (hr' : RvD e r' g) (ha : Evp e ta sa) (hb : Evp e tb sb) (hc : Evp e tc sc) : Evp e (tChain r r' ta tb tc) (xChain f g sa sb sc) := fun c L S σ H α d R q Q k => by
  obtain ⟨a, h1, q⟩ := bnd_some q
  obtain ⟨b, h2, q⟩ := bnd_some q
  refine ha c L S σ H α a R h1 _ fun v H1 e1 r1 => ?_
  refine hb c L S σ H1 α b (R.up e1) h2 _ fun u H2 e2 r2 => ?_
  have e12 := e1.trans e2
  split at q
  · rename_i hf
    refine hr L H2 a b v u _ (dom_up e12 R.dm) (r1.up (fz_same e2)) r2 hf _ fun z H3 e3 r3 => ?_
    cases r3
    refine ⟨true, rfl, ?_⟩
    obtain ⟨c', h3, q⟩ := bnd_some q
    split at q
    · rename_i kk hg
      cases q
      show tc σ H3 _
      refine hc c L S σ H3 α c' (R.up (e12.trans e3)) h3 _ fun w H4 e4 r4 => ?_
      exact hr' L H4 b c' u w _ (dom_up (e12.trans (e3.trans e4)) R.dm) (r2.up (fz_same (e3.trans e4))) r4 hg _ fun z5 H5 e5 r5 => by
        exact k z5 H5 ((e12.trans (e3.trans e4)).trans e5) r5
    · cases q
  · rename_i hf
    cases q
    refine hr L H2 a b v u _ (dom_up e12 R.dm) (r1.up (fz_same e2)) r2 hf _ fun z H3 e3 r3 => ?_
    cases r3
    refine ⟨false, rfl, ?_⟩
    exact k _ H3 (e12.trans e3) rfl
  · cases q
def fMax2 : List D → Option D := fun ds => match ds with | [.int i, .int j] => some (.int (if j > i then j else i)) | _ => none
theorem rc_max2 : RcD e (fun xs H Q => ∃ i j, xs = [.int i, .int j] ∧ Q (.int (if j > i then j else i)) H) fMax2 := fun L H ds vs d dm r q Q k => by
  unfold fMax2 at q
  split at q
  · cases q
    obtain ⟨v, _, rfl, r1, v2, _, rfl, r2, r3⟩ := r
    cases r1; cases r2; cases r3
    exact ⟨_, _, rfl, k _ H (Sm.refl H) rfl⟩
  · cases q
def fMin2 : List D → Option D := fun ds => match ds with | [.int i, .int j] => some (.int (if j < i then j else i)) | _ => none
theorem rc_min2 : RcD e (fun xs H Q => ∃ i j, xs = [.int i, .int j] ∧ Q (.int (if j < i then j else i)) H) fMin2 := fun L H ds vs d dm r q Q k => by
  unfold fMin2 at q
  split at q
  · cases q
    obtain ⟨v, _, rfl, r1, v2, _, rfl, r2, r3⟩ := r
    cases r1; cases r2; cases r3
    exact ⟨_, _, rfl, k _ H (Sm.refl H) rfl⟩
  · cases q
def xTupRev (sq : State → Option (List D)) : State → Option D := fun α => match sq α with | some xs => some (.tup xs.reverse) | none => none
theorem ev_tupRev (h : EvqL e te sq) : Evp e (RT.tTupRev e.K te) (xTupRev sq) := fun c L S σ H α d R q Q k => by
  unfold xTupRev at q
  cases hs : sq α with
  | none => rw [hs] at q; cases q
  | some xs =>
    rw [hs] at q; cases q
    refine h c L S σ H α xs R hs _ fun a vs H' e1 r1 r2 => ⟨a, vs, rfl, fz_le.seq r1, fun l hl => ?_⟩
    have s4 : Sm H' (upd H' l (.tup vs.reverse)) := same_upd hl
    exact k _ _ (e1.trans s4) ⟨l, _, rfl, .inl (.inl (fz_new (fresh_nL (dom_up e1 R.dm) hl) upd_same)), (r2.up (fz_same s4)).rev⟩
def enumL (n : Int) : List D → List D
  | [] => [] | d :: ds => .tup [.int n, d] :: enumL (n + 1) ds
theorem enumL_len : ∀ (xs : List D) (n : Int), (enumL n xs).length = xs.length
  | [], _ => rfl
  | d :: ds, n => by simp [enumL, enumL_len ds]
theorem enumL_get : ∀ (xs : List D) (n : Int) (i : Nat) (y : D), (enumL n xs)[i]? = some y → ∃ d, xs[i]? = some d ∧ y = .tup [.int (n + i), d]
  | [], _, _, _, h => by simp [enumL] at h
  | d :: ds, n, 0, y, h => by simp [enumL] at h; exact ⟨d, rfl, by rw [← h]; simp⟩
  | d :: ds, n, i + 1, y, h => by
    obtain ⟨d', h1, h2⟩ := enumL_get ds (n + 1) i y (by simpa [enumL] using h)
    exact ⟨d', by simpa using h1, by rw [h2]; congr 3; omega⟩
def xEnum (s : State → Option D) : State → Option (List D) := fun α => match s α with | some (.lst xs) => some (enumL 0 xs) | _ => none
theorem ei_enum {s : State → Option D} (h : Evp e te s) : Evi e (iEnum e.K (tCons te tNil)) (xEnum s) := fun c L S σ H α xs R q W k => by
  unfold xEnum at q
  split at q
  · rename_i ys hs
    cases q
    refine h c L S σ H α _ R hs _ fun v H' e1 ⟨a, vs, e2, r1, r2⟩ => ?_
    subst e2
    refine ⟨a, vs, rfl, fz_le.seq r1, k _ H' e1 fun L2 H2 s2 dm i => ?_⟩
    have t2 : SqL e.K H2 a vs := fz_le.seq (s2.seq r1)
    rw [enumL_len]
    refine ⟨fun hi => ⟨vs, vs[i]'(by rw [r2.len]; exact hi), t2, List.getElem?_eq_getElem _⟩, fun hi => ⟨vs, t2, by rw [r2.len]; exact hi⟩, fun x v H3 hx ⟨T, y, e3, n, e4, yy⟩ => ?_⟩
    subst e3 e4
    obtain ⟨d, h1, h2⟩ := enumL_get _ _ _ _ hx
    obtain ⟨v', h3, h4⟩ := r2.get h1
    have h5 := yy vs t2
    have h6 : v' = y := Option.some.inj (h3.symm.trans h5)
    subst h6
    have s3 : Sm H2 (upd H2 T (.tup [.int (i : Nat), v'])) := same_upd n
    refine ⟨s3, ?_⟩
    subst h2
    refine ⟨T, _, rfl, .inl (.inl (fz_new (fresh_nL dm n) upd_same)), Reps.cons ?_ (Reps.cons (h4.up (s2.trans (fz_same s3))) Reps.nil)⟩
    show V.int _ = V.int _
    rw [Int.zero_add]
  · cases q
end
end Ab
end
section
set_option maxRecDepth 100000
set_option maxHeartbeats 1000000
namespace Ab
open PySem L2 PyProof.Rows PySem.Spec
variable [Hd]
structure Cal (P : Program) (w : World) (K : PySem.W.Frag) (mg : Str → Option Value) (base : Heap) (x : Str) (ps : List Str) (k : Nat) (sp : Sp) : Prop where
  ex : ∃ f fd, FnOk P w K mg base CX0 k f fd ps sp ∧ mg x = some (.ref f) ∧ PySem.W.keepIn K (.ref f) = true ∧ Binds K fd ps []
section
variable {X : Cx} {x : Str} {ps : List Str} {k j : Nat} {sp : Sp} {p pos : Pos} {e : Expr} {es : List Expr} {t : TA}
theorem pe_cal (C : Cal X.prog X.w X.K X.mg X.base x ps k sp) (hr : Room j X.A) (hkj : k ≤ j) (hg : Gl X x) (ha : PA X (e :: es) t) (hdb : (x == ("__debug__" : Str)) = false := by decide) (he : starEach (e :: es) X.env = (false, eval e X.env) :: starEach es X.env := by rfl) (hpl : (backTo pos (starEach es X.env)).any (·.1) = false := by rfl) :
    PE X (.Call (.Name x p) (e :: es) [] pos) (tCall sp [] E0 t) := by
  obtain ⟨f, fd, G, hm, hk, hb⟩ := C.ex
  exact pe_call G (hr.mono hkj) hg hm hk hb .nil pass0 ha hdb he hpl
theorem pe_cal0 (C : Cal X.prog X.w X.K X.mg X.base x ps k sp) (hr : Room j X.A) (hkj : k ≤ j) (hg : Gl X x) (hdb : (x == ("__debug__" : Str)) = false := by decide) : PE X (.Call (.Name x p) [] [] pos) (tCall sp [] E0 tNil) := by
  obtain ⟨f, fd, G, hm, hk, hb⟩ := C.ex
  exact pe_call0 G (hr.mono hkj) hg hm hk hb .nil pass0 hdb
end
section
variable {P : Program} {w : World} {K : PySem.W.Frag} {mg : Str → Option Value} {base : Heap} {x : Str} {ps : List Str} {k j : Nat} {sp : Sp}
theorem Cal.mono (C : Cal P w K mg base x ps k sp) (h : k ≤ j) : Cal P w K mg base x ps j sp := by
  obtain ⟨f, fd, G, r⟩ := C.ex
  exact ⟨f, fd, G.mono h, r⟩
theorem Cal.vacuous {f : Addr} {fd : FuncData} (hm : mg x = some (.ref f)) (hk : PySem.W.keepIn K (.ref f) = true) (hb : Binds K fd ps []) (no : ∀ vs H Q E, ¬ sp vs H Q E) : Cal P w K mg base x ps k sp :=
  ⟨f, fd, ⟨fun vs H Q E h => absurd h (no vs H Q E), fun A outer s H args us vs Q E _ _ _ _ h => absurd h (no vs H Q E)⟩, hm, hk, hb⟩
end
theorem no_P {e : En} {m : List D → Option D} (h : ∀ ds, m ds = none) : ∀ vs H Q E, ¬ spP e m vs H Q E := fun vs H Q E ⟨L, ds, d, _, _, hm, _⟩ => by rw [h] at hm; cases hm
theorem no_L {e : En} {m : List D → Option (List D)} (h : ∀ ds, m ds = none) : ∀ vs H Q E, ¬ spL e m vs H Q E := fun vs H Q E ⟨L, ds, d, _, _, hm, _⟩ => by rw [h] at hm; cases hm
def spLaw (K : PySem.W.Frag) : Sp := fun vs H Q _ => ∃ (a : Addr) (ns : List Int), vs = [.ref a] ∧ SqL K H a (ns.map V.int) ∧ ns.length ≤ 63 ∧ ∀ H', Q (.bl true) H'
theorem reps_ints {e : En} {F : Hp} : ∀ ns : List Int, Reps e F (ns.map D.int) (ns.map V.int)
  | [] => Reps.nil
  | a :: r => Reps.cons rfl (reps_ints r)
theorem fz0 (H : Hp) : @fz hd0 [] H = H := by
  funext a
  unfold fz
  rw [if_neg]
  rintro (z | z)
  · exact nomatch z
  · exact z
omit [Hd] in
theorem law_of {P : Program} {w : World} {K : PySem.W.Frag} {mg : Str → Option Value} {base : Heap} {cls : String → Addr} {k : Nat} {f : Addr} {fd : FuncData} {ps : List Str} {m : List D → Option D} (F : FnOk P w K mg base CX0 k f fd ps (@spP hd0 ⟨K, cls⟩ m))
    (h : ∀ ns : List Int, ns.length ≤ 63 → m [.lst (ns.map .int)] = some (.bl true)) : FnOk P w K mg base CX0 k f fd ps (spLaw K) :=
  F.imp fun vs H Q E ⟨a, ns, hv, hS, hl, q⟩ => by
    subst hv
    refine ⟨[], [.lst (ns.map .int)], .bl true, ⟨(fun _ z => absurd z (by simp)), (fun _ z => absurd z (by simp)), trivial⟩, Reps.cons ⟨a, ns.map V.int, rfl, ?_, reps_ints ns⟩ Reps.nil, h ns hl, fun v H' _ r => by cases r; exact q H'⟩
    rw [fz0]; exact hS
theorem runP_dat {n k : Nat} {s : State → Out} {ds : List D} {d : D} {β : State} (hk : ds.length = k) (h : s (inP n k ds) = .ret (.dat d) β) : runP n k s ds = some d := by
  unfold runP; rw [if_pos hk, h]
theorem runP_lst {n k : Nat} {s : State → Out} {ds : List D} {d : List D} {β : State} (hk : ds.length = k) (h : s (inP n k ds) = .ret (.lst d) β) : runP n k s ds = some (.lst d) := by
  unfold runP; rw [if_pos hk, h]
theorem runL_lst {n k : Nat} {s : State → Out} {ds : List D} {d : List D} {β : State} (hk : ds.length = k) (h : s (inP n k ds) = .ret (.lst d) β) : runL n k s ds = some d := by
  unfold runL; rw [if_pos hk, h]
end Ab
end
section
set_option maxRecDepth 100000
set_option maxHeartbeats 1000000
namespace Ab
open PySem L2 PyProof.Rows PySem.Spec
variable [Hd]
section
variable {e : En} {E : XK} {te ta tb : TE} {ts tu tw : TS} {t : TT}
def backA : List A → State → Option (List A)
  | [], _ => some []
  | .dat d :: r, _ :: β => (backA r β).map (.dat d :: ·)
  | .inn _ :: r, some (.inn ct) :: β => (backA r β).map (.inn ct :: ·)
  | _, _ => none
def inM (n k : Nat) (as : List A) : State := as.map some ++ List.replicate (n - k) none
def runM (n k : Nat) (s : State → Out) : List A → MRes := fun as => if as.length = k then (match s (inM n k as) with
  | .ret r β => (match backA as β with | some as' => .ok r as' | none => .bad)
  | .nxt β => (match backA as β with | some as' => .ok (.dat .non) as' | none => .bad)
  | .exc x => .exc x
  | _ => .bad) else .bad
theorem AsRep.len {L S : List Addr} {H : Hp} : ∀ {as : List A} {vs : List V}, AsRep e L S H as vs → vs.length = as.length
  | [], _, r => by cases r; rfl
  | a :: as, _, ⟨v, w, q, _, r⟩ => by subst q; simp [AsRep.len r]
theorem AsRep.get {L S : List Addr} {H : Hp} : ∀ {as : List A} {vs : List V} {i : Nat} {a : A}, AsRep e L S H as vs → as[i]? = some a → ∃ v, vs[i]? = some v ∧ (match a with
    | .dat d => Rep e (fz L H) d v
    | .inn ct => ∃ p o, v = .ref p ∧ p ∈ S ∧ H p = some o ∧ RepC e (fz L H) ct o
    | .own _ => False
    | .adr _ => False)
  | [], _, _, _, _, h => by simp at h
  | a :: as, _, 0, _, ⟨v, w, q, r1, _⟩, h => by subst q; simp at h; subst h; exact ⟨v, rfl, r1⟩
  | a :: as, _, i + 1, _, ⟨v, w, q, _, r⟩, h => by subst q; obtain ⟨v', h1, h2⟩ := AsRep.get (i := i) r (by simpa using h); exact ⟨v', by simpa using h1, h2⟩
theorem innCount_sep : ∀ {as : List A} {i j : Nat} {c d : Ct}, innCount as ≤ 1 → as[i]? = some (.inn c) → as[j]? = some (.inn d) → i = j := by
  have pos : ∀ {as : List A} {i : Nat} {c : Ct}, as[i]? = some (.inn c) → 1 ≤ innCount as := by
    intro as
    induction as with
    | nil => intro i c h; simp at h
    | cons a r ih =>
      intro i c h
      cases i with
      | zero => simp at h; subst h; simp [innCount]
      | succ i =>
        have := ih (i := i) (c := c) (by simpa using h)
        cases a <;> simp [innCount] <;> omega
  intro as
  induction as with
  | nil => intro i j c d _ h; simp at h
  | cons a r ih =>
    intro i j c d hc hi hj
    cases i with
    | zero =>
      cases j with
      | zero => rfl
      | succ j =>
        simp at hi; subst hi
        have := pos (i := j) (c := d) (as := r) (by simpa using hj)
        simp [innCount] at hc; omega
    | succ i =>
      cases j with
      | zero =>
        simp at hj; subst hj
        have := pos (i := i) (c := c) (as := r) (by simpa using hi)
        simp [innCount] at hc; omega
      | succ j =>
        have h2 : innCount r ≤ 1 := by cases a <;> simp [innCount] at hc <;> omega
        have := ih (i := i) (j := j) (c := c) (d := d) h2 (by simpa using hi) (by simpa using hj)
        omega
theorem inM_get {n k : Nat} {as : List A} {i : Nat} {a : A} (h : (inM n k as)[i]? = some (some a)) : as[i]? = some a := by
  unfold inM at h
  by_cases hi : i < as.length
  · rw [List.getElem?_append_left (by simpa using hi), List.getElem?_map, List.getElem?_eq_getElem hi] at h
    rw [List.getElem?_eq_getElem hi]
    have this : as[i]'hi = a := by simpa using h
    exact congrArg some this
  · rw [List.getElem?_append_right (by simp; omega), List.getElem?_replicate] at h
    split at h <;> cases h
theorem inM_rel {L S : List Addr} {H : Hp} {as : List A} {vs : List V} {N : List Str} (dm : Dom L H) (sub : ∀ p ∈ S, p ∈ L) (hc : innCount as ≤ 1) (r : AsRep e L S H as vs) (hk : vs.length ≤ N.length) :
    Rel e ⟨L, S, H, L2.start N vs⟩ L S (L2.start N vs) H (inM N.length vs.length as) where
  slot := fun i a q => by
    have ha := inM_get q
    obtain ⟨v, h1, h2⟩ := r.get ha
    have h3 : (L2.start N vs)[i]? = some (some v) := by
      unfold L2.start
      have : i < vs.length := (List.getElem?_eq_some_iff.mp h1).1
      rw [List.getElem?_append_left (by simp; exact this), List.getElem?_map, h1]; rfl
    refine ⟨v, h3, ?_⟩
    cases a with
    | dat d => exact h2
    | adr _ => exact h2.elim
    | inn ct => obtain ⟨p, o, q1, m, ho, rc⟩ := h2; exact ⟨p, o, q1, m, h3, ho, rc⟩
    | own ct => exact h2.elim
  sep := fun i j p hi hj _ _ => by
    have un : ∀ i : Nat, isOwn (inM N.length vs.length as)[i]? = true → ∃ c : Ct, as[i]? = some (A.inn c) := fun i hi => by
      cases hx : (inM N.length vs.length as)[i]? with
      | none => rw [hx] at hi; simp [isOwn] at hi
      | some x =>
        cases x with
        | none => rw [hx] at hi; simp [isOwn] at hi
        | some a =>
          have ha := inM_get hx
          obtain ⟨v, h1, h2⟩ := r.get ha
          cases a with
          | dat d => rw [hx] at hi; simp [isOwn] at hi
          | adr _ => rw [hx] at hi; simp [isOwn] at hi
          | inn c => exact ⟨c, ha⟩
          | own c => exact h2.elim
    obtain ⟨c, h1⟩ := un i hi
    obtain ⟨d, h2⟩ := un j hj
    exact innCount_sep hc h1 h2
  inv := dm.inv
  h1 := fun _ => Hd.al dm.inv
  nh := dm.nh
  dom := dm.dom
  sub := sub
  l0 := fun _ h => h
  l1 := fun _ h => .inl h
  s1 := fun _ h => .inl h
  md := Mod.refl
  s0 := sub
  d0 := dm.dom
  len := by unfold L2.start inM; simp [r.len]
theorem start_get {N : List Str} {vs : List V} {i : Nat} {v : V} (h : vs[i]? = some v) : (L2.start N vs)[i]? = some (some v) := by
  unfold L2.start
  have : i < vs.length := (List.getElem?_eq_some_iff.mp h).1
  rw [List.getElem?_append_left (by simp; exact this), List.getElem?_map, h]; rfl
theorem back_rep {c : Cn} {L S L' S' : List Addr} {σ' : L2.St} {H H' : Hp} {β0 : State} (R : Rel e c L' S' σ' H' β0) (hL : ∀ p ∈ L, p ∈ L') (md : Mod S H H') (sub : ∀ p ∈ S, p ∈ L) :
    ∀ (as : List A) (β : State) (as' : List A) (vs : List V) (j : Nat), (∀ i, β[i]? = β0[j + i]?) → (∀ i v, vs[i]? = some v → c.σ0[j + i]? = some (some v)) → backA as β = some as' → AsRep e L S H as vs → AsRep e L S H' as' vs
  | [], _, as', vs, _, _, _, h, r => by cases h; exact r
  | .own _ :: _, _, _, _, _, _, _, h, _ => by simp [backA] at h
  | .adr _ :: _, _, _, _, _, _, _, h, _ => by simp [backA] at h
  | .dat d :: r, [], _, _, _, _, _, h, _ => by simp [backA] at h
  | .inn d :: r, [], _, _, _, _, _, h, _ => by simp [backA] at h
  | .dat d :: r, x :: β, as', vs, j, hb, hv, h, ⟨v, w, q, r1, r2⟩ => by
    unfold backA at h
    cases hr : backA r β with
    | none => rw [hr] at h; cases h
    | some as2 =>
      rw [hr] at h; cases h
      subst q
      refine ⟨v, w, rfl, Rep.up (d := d) r1 (fz_mod md sub), back_rep R hL md sub r β as2 w (j + 1) (fun i => ?_) (fun i u hu => ?_) hr r2⟩
      · have := hb (i + 1); simpa [Nat.add_assoc, Nat.add_comm 1 i] using this
      · have := hv (i + 1) u (by simpa using hu); simpa [Nat.add_assoc, Nat.add_comm 1 i] using this
  | .inn c0 :: r, x :: β, as', vs, j, hb, hv, h, ⟨v, w, q, r1, r2⟩ => by
    cases x with
    | none => simp [backA] at h
    | some a =>
      cases a with
      | dat d => simp [backA] at h
      | adr _ => simp [backA] at h
      | own ct => simp [backA] at h
      | inn ct =>
        unfold backA at h
        cases hr : backA r β with
        | none => rw [hr] at h; cases h
        | some as2 =>
          rw [hr] at h; cases h
          subst q
          obtain ⟨p, o, rfl, m, ho, rc⟩ := r1
          have h0 : β0[j]? = some (some (.inn ct)) := by have := hb 0; simpa using this.symm
          obtain ⟨v', k1, p', o', k2, m', k3, ho', rc'⟩ := R.slot j _ h0
          have k4 := hv 0 (.ref p) rfl
          rw [Nat.add_zero] at k4
          rw [k4] at k3
          cases k3
          cases k2
          refine ⟨_, w, rfl, ⟨p, o', rfl, m, ho', rc'.up (fz_anti hL)⟩, back_rep R hL md sub r β as2 w (j + 1) (fun i => ?_) (fun i u hu => ?_) hr r2⟩
          · have := hb (i + 1); simpa [Nat.add_assoc, Nat.add_comm 1 i] using this
          · have := hv (i + 1) u (by simpa using hu); simpa [Nat.add_assoc, Nat.add_comm 1 i] using this
theorem retrep_anti {L L' : List Addr} {H' H : Hp} {v : V} {c : Cn} {r : RetV} {S : List Addr} (hL : ∀ p ∈ L, p ∈ L') (h0 : c.H0 = H) (rr : RetRep e L' H' v c r) : RetRep e L H' v ⟨L, S, H, []⟩ r := by
  cases r with
  | dat d => exact Rep.up (d := d) rr (fz_anti hL)
  | lst xs =>
    obtain ⟨p, vs, q, n, hp, rs⟩ := rr
    refine ⟨p, vs, q, by rw [← h0]; exact n, hp, rs.up (fz_anti fun a m => ?_)⟩
    rcases List.mem_cons.mp m with rfl | m
    · exact List.mem_cons_self
    · exact List.mem_cons_of_mem _ (hL a m)
variable {P : Program} {w : World} {K : PySem.W.Frag} {mg : Str → Option Value} {base : Heap}
theorem body_M {cls : String → Addr} {N : List Str} {n kk : Nat} {vs : List V} {H : Hp} {Q : VK} {E : XK} {t : TS} {s : State → Out} {m : List A → MRes} (hn : N.length = n) (hps : kk ≤ n) (hmm : m = runM n kk s) (h2 : Sts ⟨K, cls⟩ E t s) (h : spM ⟨K, cls⟩ m vs H Q E) :
    t { nx := fun _ H' => Q .non H', rt := Q } (L2.start N vs) H := by
  subst hn hmm
  obtain ⟨L, S, as, dm, sub, hc, r, hq, hx, hb⟩ := h
  have hl : as.length = kk := by
    unfold runM at hb
    split at hb
    · assumption
    · exact absurd rfl hb
  have hvl : vs.length = kk := by rw [r.len, hl]
  have R := inM_rel (N := N) dm sub hc r (by omega)
  rw [hvl] at R
  refine h2 _ _ _ _ _ _ _ R ?_
  unfold runM at hq hx hb
  simp only [if_pos hl] at hq hx hb
  cases hs : s (inM N.length kk as) with
  | nxt β =>
    rw [hs] at hq hb
    dsimp only at hq hb
    cases hba : backA as β with
    | none => rw [hba] at hb; exact absurd rfl hb
    | some as' =>
      rw [hba] at hq
      intro L' S' σ' H' _ R'
      have ar := back_rep R' R'.l0 R'.md sub as β as' vs 0 (fun i => by rw [Nat.zero_add]) (fun i v hv => by rw [Nat.zero_add]; exact start_get hv) hba r
      exact hq _ as' rfl _ H' R'.md ar rfl
  | ret rv β =>
    rw [hs] at hq hb
    dsimp only at hq hb
    cases hba : backA as β with
    | none => rw [hba] at hb; exact absurd rfl hb
    | some as' =>
      rw [hba] at hq
      intro v L' S' σ' H' R' rr
      have ar := back_rep R' R'.l0 R'.md sub as β as' vs 0 (fun i => by rw [Nat.zero_add]) (fun i v hv => by rw [Nat.zero_add]; exact start_get hv) hba r
      exact hq _ as' rfl v H' R'.md ar (retrep_anti R'.l0 rfl rr)
  | exc x =>
    rw [hs] at hx
    intro cls' dd H' md xr fr
    exact hx x rfl cls' dd H' md xr fr
  | brk β => rw [hs] at hb; exact absurd rfl hb
  | cnt β => rw [hs] at hb; exact absurd rfl hb
  | bad => rw [hs] at hb; exact absurd rfl hb
theorem spM_len {cls : String → Addr} {n kk : Nat} {vs : List V} {H : Hp} {Q : VK} {E : XK} {s : State → Out} {m : List A → MRes} (hmm : m = runM n kk s) (h : spM ⟨K, cls⟩ m vs H Q E) : vs.length = kk := by
  subst hmm
  obtain ⟨L, S, as, dm, sub, hc, r, hq, hx, hb⟩ := h
  rw [r.len]
  unfold runM at hb
  split at hb
  · assumption
  · exact absurd rfl hb
theorem spM_E {cls : String → Addr} {m : List A → MRes} {vs : List V} {H : Hp} {Q : VK} {E : XK} (hno : ∀ as x, m as ≠ .exc x) (h : spM ⟨K, cls⟩ m vs H Q E) : spM ⟨K, cls⟩ m vs H Q E0 := by
  obtain ⟨L, S, as, dm, sub, hc, r, hq, hx, hb⟩ := h
  exact ⟨L, S, as, dm, sub, hc, r, hq, fun x hm => absurd hm (hno as x), hb⟩
theorem fn_M {cls : String → Addr} {x qual : Str} {st : Stmt} {f : Addr} {fd : FuncData} {N ps : List Str} {k : Nat} (s : State → Out) (F : Fun K x qual st f fd) (S : FnScope N ps (defScope st)) {n kk : Nat} (hn : N.length = n) (hkk : ps.length = kk) (hps : kk ≤ n) {m : List A → MRes} (hmm : m = runM n kk s)
    (hbody : ∀ (cdv : Value) (A : Around) (outer : List Env) (s0 : Shared) (H : Hp) (E : XK), Room k (A.deeper (envOfC qual (defScope st) s0.heap.objs.size f cdv)) →
      ∃ t, PSs (cxOf CX0 P w K mg base N qual (defScope st) f cdv A outer s0 H E).nox (defBody st) t ∧ Sts ⟨K, cls⟩ E t s) : FnOk P w K mg base CX0 (k + 1) f fd ps (spM ⟨K, cls⟩ m) := by
  refine F.ok S (fun vs H Q E h => by rw [spM_len hmm h, hkk]) (fun cdv A outer s0 H vs Q E hr h => ?_)
  obtain ⟨t, h1, h2⟩ := hbody cdv A outer s0 H E hr
  exact ⟨t, h1, body_M hn hps hmm h2 h⟩
def toAs : List Arg → State → Option (List A)
  | [], _ => some []
  | .dat d :: r, α => (toAs r α).map (.dat d :: ·)
  | .slot i :: r, α => (match ctOf α[i]? with | some ct => (toAs r α).map (.inn ct :: ·) | none => none)
def putBack : List Arg → List A → State → State
  | .slot i :: r, .inn ct :: as, α => putBack r as (putC α i ct)
  | _ :: r, _ :: as, α => putBack r as α
  | _, _, α => α
def slots : List Arg → List Nat
  | [] => []
  | .slot i :: r => i :: slots r
  | .dat _ :: r => slots r
def rCallM (m : List A → MRes) (sr : State → Res (List Arg)) : State → Res D := fun α => match sr α with
  | .ok as α1 => (match slots as with
    | [i] => (match toAs as α1 with
      | some bs => (match m bs with
        | .ok (.dat d) bs' => (match bs'.find? (fun b => match b with | .inn _ => true | _ => false) with | some (.inn ct) => .ok d (putC α1 i ct) | _ => .bad)
        | .exc x => .exc x
        | _ => .bad)
      | none => .bad)
    | _ => .bad)
  | .exc x => .exc x
  | .bad => .bad
theorem toAs_rep {c : Cn} {L S : List Addr} {σ : L2.St} {H : Hp} {α : State} (R : Rel e c L S σ H α) {T : List Addr} : ∀ {as : List Arg} {vs : List V} {bs : List A}, (∀ i ∈ slots as, ∀ p, σ[i]? = some (some (V.ref p)) → p ∈ T) → toAs as α = some bs → ArgsRep e L σ H as vs → AsRep e L T H bs vs ∧ innCount bs = (slots as).length
  | [], _, _, _, h, r => by cases h; exact ⟨r, rfl⟩
  | .dat d :: as, _, _, ht, h, ⟨v, w, q, r1, r2⟩ => by
    unfold toAs at h
    cases hs : toAs as α with
    | none => rw [hs] at h; cases h
    | some bs =>
      rw [hs] at h; cases h; subst q
      obtain ⟨h1, h2⟩ := toAs_rep (as := as) R ht hs r2
      exact ⟨⟨v, w, rfl, r1, h1⟩, h2⟩
  | .slot i :: as, _, _, ht, h, ⟨v, w, q, r1, r2⟩ => by
    unfold toAs at h
    split at h
    · rename_i ct hct
      cases hs : toAs as α with
      | none => rw [hs] at h; cases h
      | some bs =>
        rw [hs] at h; cases h; subst q
        obtain ⟨h1, h2⟩ := toAs_rep (as := as) R (fun j hj => ht j (List.mem_cons_of_mem _ hj)) hs r2
        obtain ⟨p, o, k1, m, ho, rc⟩ := R.at hct
        have k2 : σ[i]? = some (some v) := r1
        rw [k1] at k2; cases k2
        exact ⟨⟨_, w, rfl, ⟨p, o, rfl, ht i List.mem_cons_self p k1, ho, rc⟩, h1⟩, by simp [innCount, slots, h2]⟩
    · cases h
theorem find_inn {L S : List Addr} {H : Hp} : ∀ {bs : List A} {vs : List V} {ct : Ct}, AsRep e L S H bs vs → bs.find? (fun b => match b with | .inn _ => true | _ => false) = some (.inn ct) → ∃ p o, p ∈ S ∧ H p = some o ∧ RepC e (fz L H) ct o
  | [], _, _, _, h => by cases h
  | .dat d :: bs, _, _, ⟨v, w, q, r1, r2⟩, h => find_inn r2 (by simpa using h)
  | .inn c :: bs, _, _, ⟨v, w, q, r1, r2⟩, h => by
    simp at h
    subst h
    obtain ⟨p, o, _, m, ho, rc⟩ := r1
    exact ⟨p, o, m, ho, rc⟩
  | .own c :: bs, _, _, ⟨v, w, q, r1, r2⟩, h => r1.elim
theorem slots_own {c : Cn} {L S : List Addr} {σ : L2.St} {H : Hp} {α : State} (R : Rel e c L S σ H α) : ∀ {as : List Arg} {bs : List A}, toAs as α = some bs → ∀ i ∈ slots as, ∃ ct, ctOf α[i]? = some ct
  | [], _, _, i, m => nomatch m
  | .dat d :: as, _, h, i, m => by
    unfold toAs at h
    cases hs : toAs as α with
    | none => rw [hs] at h; cases h
    | some bs => exact slots_own R hs i m
  | .slot j :: as, _, h, i, m => by
    unfold toAs at h
    split at h
    · rename_i ct hct
      cases hs : toAs as α with
      | none => rw [hs] at h; cases h
      | some bs =>
        rcases List.mem_cons.mp m with rfl | m
        · exact ⟨ct, hct⟩
        · exact slots_own R hs i m
    · cases h
theorem ee_callM {m : List A → MRes} {tr : TA} {sr : State → Res (List Arg)} (h : EvaE e E tr sr) : Eve e E (tCall (spM e m) [] E tr) (rCallM m sr) := fun c L S σ H α R Q k kx nb => by
  unfold rCallM at k kx nb
  refine h c L S σ H α R _ (fun as α1 hs vs H1 m1 R1 r1 => ?_) (fun x hx => kx x (by rw [hx])) (fun hb => nb (by rw [hb]))
  rw [hs] at k kx nb
  dsimp only at k kx nb
  split at nb
  · rename_i i hi
    simp only [hi] at k kx
    split at nb
    · rename_i bs hbs
      simp only [hbs] at k kx
      obtain ⟨ct, hct⟩ := slots_own R1 hbs i (by rw [hi]; exact List.mem_cons_self)
      obtain ⟨p, o, hp, mS, ho, rc⟩ := R1.at hct
      obtain ⟨ar, hcount⟩ := toAs_rep (T := [p]) R1 (fun j hj q hq => by
        rw [hi] at hj
        have : j = i := by simpa using hj
        subst this
        rw [hp] at hq; cases hq; simp) hbs r1
      rw [hi] at hcount
      show spM e m (vs ++ []) H1 Q E
      rw [List.append_nil]
      refine ⟨L, [p], bs, R1.dm, (fun q hq => by rw [show q = p by simpa using hq]; exact R1.sub _ mS), by rw [hcount]; exact Nat.le_refl _, ar, fun r as' hm v H' md ar' rr => ?_, fun x hm cls' dd H' md xr fr => ?_, fun hb => nb (by rw [hb])⟩
      · rw [hm] at k nb
        cases r with
        | lst xs => exact absurd rfl nb
        | dat d =>
          dsimp only at k nb
          split at nb
          · rename_i ct' hf
            simp only [hf] at k
            obtain ⟨p', o', mp, ho', rc'⟩ := find_inn ar' hf
            have : p' = p := by simpa using mp
            subst this
            obtain ⟨R2, m2⟩ := R1.mutM hct hp md ho' rc'
            exact k d _ rfl v H' (m1.trans m2) R2 rr
          · exact absurd rfl nb
      · rw [hm] at kx
        refine kx x rfl cls' dd H' ?_ ⟨xr.1, xr.2.elim .inl fun ⟨q, gs, a1, a2, a3⟩ => .inr ⟨q, gs, a1, a2, RepF.mono (fz_anti R1.l0) _ _ a3⟩⟩ (fun p hp => R1.h0 (fr p hp))
        refine ⟨fun a u q n nh => ?_, fun h => md.i (R1.md.i h)⟩
        refine md.k a u (R1.md.k a u q n nh) (fun z => ?_) nh
        have : a = p := by simpa using z
        subst this
        rcases R1.s1 a mS with z | z
        · exact n z
        · rw [q] at z; cases z
    · exact absurd rfl nb
  · exact absurd rfl nb
theorem Rel.unwipe {c : Cn} {L S : List Addr} {σ : L2.St} {H : Hp} {α : State} {vs : List Nat} (r : Rel e c L S (L2.wipe σ vs) H α) : Rel e c L S σ H α where
  slot := fun i a q => by
    obtain ⟨v, h1, h2⟩ := r.slot i a q
    exact ⟨v, (wipe_some h1).1, h2⟩
  sep := fun i j p hi hj si sj => by
    have un : ∀ i : Nat, isOwn α[i]? = true → ∀ p : Addr, σ[i]? = some (some (V.ref p)) → (L2.wipe σ vs)[i]? = some (some (V.ref p)) := fun i hi p hp => by
      cases ha : α[i]? with
      | none => rw [ha] at hi; simp [isOwn] at hi
      | some x =>
        cases x with
        | none => rw [ha] at hi; simp [isOwn] at hi
        | some a =>
          obtain ⟨v, h1, _⟩ := r.slot i a ha
          have := (wipe_some h1).1
          rw [hp] at this
          rw [h1, this]
    exact r.sep i j p hi hj (un i hi p si) (un j hj p sj)
  inv := r.inv
  h1 := r.h1
  nh := r.nh
  dom := r.dom
  sub := r.sub
  l0 := r.l0
  l1 := r.l1
  s1 := r.s1
  md := r.md
  s0 := r.s0
  d0 := r.d0
  len := by rw [← r.len, wipe_length]
theorem Rel.mutL {c : Cn} {L S : List Addr} {σ : L2.St} {H : Hp} {α : State} {D0 : Addr} {o o' : HO} (r : Rel e c L S σ H α) (nS : D0 ∉ S) (mL : D0 ∈ L) (h0 : H D0 = some o) (n0 : c.H0 D0 = none) (pl : Pl o := by trivial) : Rel e c L S σ (upd H D0 o') α := by
  have iv : Hd.inv (upd H D0 o') := Hd.chg r.inv (r.nh D0 mL) h0 pl
  have fzs : Same (fz L H) (fz L (upd H D0 o')) := fz_mut fun a u z n _ => by rw [upd_ne (fun z' => n (by rw [z']; exact mL))]; exact z
  refine ⟨fun i a q => ?_, r.sep, iv, r.h1, r.nh, fun p m z => ?_, r.sub, r.l0, r.l1, r.s1, ⟨fun a u q n nh => ?_, fun _ => iv⟩, r.s0, r.d0, r.len⟩
  · obtain ⟨v, h1, h2⟩ := r.slot i a q
    refine ⟨v, h1, ?_⟩
    cases a with
    | dat d => exact Rep.up (d := d) h2 fzs
    | adr _ => exact h2
    | own ct => obtain ⟨p', o2, q', m, n', ho', rc⟩ := h2; exact ⟨p', o2, q', m, n', by rw [upd_ne (fun z => nS (by rw [← z]; exact m))]; exact ho', rc.up fzs⟩
    | inn ct => obtain ⟨p', o2, q', m, n', ho', rc⟩ := h2; exact ⟨p', o2, q', m, n', by rw [upd_ne (fun z => nS (by rw [← z]; exact m))]; exact ho', rc.up fzs⟩
  · by_cases hp : p = D0
    · rw [hp, upd_same] at z; cases z
    · rw [upd_ne hp] at z; exact r.dom p m z
  · rw [upd_ne (ne_of_none q n0)]; exact r.md.k a u q n nh
def lcE (gt : D → State → Option State) (se : State → Res D) (vs : List Nat) : List D → State → Res (List D)
  | [], α => .ok [] α
  | x :: xs, α => match gt x α with
    | none => .bad
    | some β => match se β with
      | .ok d β' => (match lcE gt se vs xs (wipeA vs β') with | .ok ds γ => .ok (d :: ds) γ | .exc x => .exc x | .bad => .bad)
      | _ => .bad
theorem lcE_cons {gt : D → State → Option State} {se : State → Res D} {vs : List Nat} {x : D} {xs : List D} {α : State} : lcE gt se vs (x :: xs) α = match gt x α with
    | none => .bad
    | some β => match se β with
      | .ok d β' => (match lcE gt se vs xs (wipeA vs β') with | .ok ds γ => .ok (d :: ds) γ | .exc x => .exc x | .bad => .bad)
      | _ => .bad := rfl
def rLc (vs : List Nat) (sx : State → Option (List D)) (gt : D → State → Option State) (se : State → Res D) : State → Res (List D) := fun α => match sx α with
  | some xs => if xs.length ≤ 100000 then lcE gt se vs xs (wipeA vs α) else .bad
  | none => .bad
theorem ele_lc {wi : TI} {g : TG} {vs js : List Nat} {sx : State → Option (List D)} {gt : D → State → Option State} {se : State → Res D} (hi : Evi e wi sx) (hg : Etg e g gt js) (hj : ∀ j ∈ js, j ∈ vs) (he : Eve e E te se) :
    EvlE e E (tLc wi g tYes te vs) (rLc vs sx gt se) := fun c L S σ H α R Q k kx nb => by
  unfold rLc at k kx nb
  cases hx : sx α with
  | none => rw [hx] at nb; exact absurd rfl nb
  | some xs =>
    rw [hx] at k kx nb
    dsimp only at k kx nb
    split at nb
    · rename_i hz
      rw [if_pos hz] at k kx
      refine hi c L S σ H α xs R hx _ fun J H1 e1 wk => ?_
      intro D0 hD
      have hn : H D0 = none := none_back R.inv e1 hD
      have R1 := R.up e1
      have hDS : D0 ∉ S := fun m => R1.dom D0 (R1.sub D0 m) hD
      refine ⟨fun i m H' => m = xs.length - i ∧ i ≤ xs.length ∧ Mod S H1 H' ∧ ∃ acc ds αi, H' D0 = some (.lst acc) ∧ acc.length ≤ i ∧ Reps e (fz (D0 :: L) H') ds acc ∧ Rel e c (D0 :: L) S (L2.wipe σ vs) H' αi ∧ Same (fz (D0 :: L) (upd H1 D0 (.lst []))) (fz (D0 :: L) H') ∧
          lcE gt se vs (xs.drop i) αi ≠ .bad ∧ (∀ x, lcE gt se vs (xs.drop i) αi ≠ .exc x) ∧ (∀ rest γ, lcE gt se vs (xs.drop i) αi = .ok rest γ → lcE gt se vs xs (wipeA vs α) = .ok (ds ++ rest) γ),
        ⟨xs.length, by simp, Nat.zero_le _, .of (same_upd hD), [], [], wipeA vs α, upd_same, Nat.le_refl _, Reps.nil, (R1.more (same_upd hD) hD upd_same).wipe vs, Same.refl _, nb, ?_, fun rest γ h => h⟩, ?_⟩
      · -- no exception can leave a comprehension here
        have noexc : ∀ (ys : List D) (a : State) (x : Exn), lcE gt se vs ys a ≠ .exc x := by
          intro ys
          induction ys with
          | nil => intro a x h; cases h
          | cons y ys ih =>
            intro a x h
            unfold lcE at h
            split at h
            · cases h
            · split at h
              · split at h
                · cases h
                · rename_i hh; exact ih _ _ hh
                · cases h
              · cases h
        exact fun x => noexc _ _ x
      rintro i m H2 ⟨rfl, hi2, s2, acc, ds, αi, h2, hal, hr, R2, f2, hnb, hnx, hout⟩
      have w2' : Same (fz L H1) (fz (D0 :: L) H2) := (fz_cons (same_upd hD) hD).trans f2
      obtain ⟨w1, w2, w3⟩ := wk (D0 :: L) H2 w2' R2.dm i
      by_cases hlt : i < xs.length
      · rw [List.drop_eq_getElem_cons hlt] at hnb hnx hout
        simp only [lcE_cons] at hnb hnx hout
        cases hgt : gt xs[i] αi with
        | none => rw [hgt] at hnb; exact absurd rfl hnb
        | some β =>
          rw [hgt] at hnb hnx hout
          dsimp only at hnb hnx hout
          refine .inr ⟨w1 hlt, fun H' => Mod S H1 H' ∧ ∃ acc ds αi, H' D0 = some (.lst acc) ∧ acc.length ≤ i + 1 ∧ Reps e (fz (D0 :: L) H') ds acc ∧ Rel e c (D0 :: L) S (L2.wipe σ vs) H' αi ∧ Same (fz (D0 :: L) (upd H1 D0 (.lst []))) (fz (D0 :: L) H') ∧
              lcE gt se vs (xs.drop (i + 1)) αi ≠ .bad ∧ (∀ x, lcE gt se vs (xs.drop (i + 1)) αi ≠ .exc x) ∧ (∀ rest γ, lcE gt se vs (xs.drop (i + 1)) αi = .ok rest γ → lcE gt se vs xs (wipeA vs α) = .ok (ds ++ rest) γ),
            fun H' ⟨h', h''⟩ => ⟨xs.length - (i + 1), by omega, rfl, hlt, h', h''⟩, fun v H3 y => ?_⟩
          obtain ⟨e3, r3⟩ := w3 xs[i] v H3 (List.getElem?_eq_getElem hlt) y
          refine hg c _ S _ H3 _ xs[i] v β (R2.up e3) r3 hgt _ fun σ4 hl4 hj4 R4 => ⟨?_, ?_⟩
          · rw [wipe_ext hl4 fun j hn => hj4 j fun m => hn (hj j m), wipe_idem]
          · show te σ4 H3 _
            refine he c _ S σ4 H3 β R4 _ (fun d β' hse v5 H5 m5 R5 r5 => ?_) (fun x hse => ?_) (fun hse => ?_)
            · rw [hse] at hnb hnx hout
              dsimp only at hnb hnx hout
              have nD : ¬ Hd.hid D0 := (fresh_nL R1.dm hD).2
              have h5 : H5 D0 = some (.lst acc) := m5.k _ _ (e3.k _ _ h2 nD) hDS nD
              have fzs : Same (fz (D0 :: L) H5) (fz (D0 :: L) (upd H5 D0 (.lst (acc ++ [v5])))) := fz_mut fun a o z n _ => by
                rw [upd_ne (fun z' => n (by rw [z']; exact List.mem_cons_self))]; exact z
              have f35 : Same (fz (D0 :: L) H2) (fz (D0 :: L) H5) := (fz_same e3).trans (fz_mod m5 R4.sub)
              have wq : L2.wipe σ4 vs = L2.wipe σ vs := by rw [wipe_ext hl4 fun j hn => hj4 j fun m => hn (hj j m), wipe_idem]
              have R6 : Rel e c (D0 :: L) S (L2.wipe σ vs) (upd H5 D0 (.lst (acc ++ [v5]))) (wipeA vs β') := by
                have q := R5.wipe vs
                rw [wq] at q
                exact q.mutL hDS (List.mem_cons_self) h5 (R1.h0 hD)
              refine ⟨acc, h5, sz_lt (by omega), ⟨fun a o z n nh => ?_, fun h => Hd.chg (m5.i (e3.i (s2.i h))) nD h5 trivial⟩, acc ++ [v5], ds ++ [d], wipeA vs β', upd_same, by simp; omega, ((hr.up f35).append (Reps.cons r5 Reps.nil)).up fzs, R6, f2.trans (f35.trans fzs), ?_, ?_, ?_⟩
              · rw [upd_ne (ne_of_none z hD)]
                exact m5.k _ _ (e3.k _ _ (s2.k _ _ z n nh) nh) n nh
              · intro hb; rw [hb] at hnb; exact hnb rfl
              · intro x hb; rw [hb] at hnx; exact hnx x rfl
              · intro rest γ hb
                rw [hb] at hout
                have := hout (d :: rest) γ rfl
                rw [this, List.append_assoc]; rfl
            · rw [hse] at hnb; exact absurd rfl hnb
            · rw [hse] at hnb; exact absurd rfl hnb
      · have e2 : i = xs.length := by omega
        subst e2
        rw [List.drop_length] at hout
        have ho := hout [] αi rfl
        rw [List.append_nil] at ho
        refine .inl ⟨w2 (Nat.le_refl _), k ds αi ho D0 acc H2 ?_ hn R2.unwipe h2 hr⟩
        exact ⟨fun a o z n nh => s2.k a o (e1.k _ _ z nh) n nh, fun h => s2.i (e1.i h)⟩
    · exact absurd rfl nb
end
end Ab
end
section
set_option maxRecDepth 100000
set_option maxHeartbeats 1000000
namespace Ab
open PySem L2 PyProof.Rows PySem.Spec
open Builtin Builtin.SmallTypes
variable [Hd]
set_option maxHeartbeats 2000000 in
theorem meets_enum1B {v : Value} {o : Obj} {H : Heap → Prop} (B : Begins v o H) :
    Meets (Builtin.«enumerate.__new__» ⟨[.type "enumerate", v], []⟩) (fun _ R s => H s.heap ∧
      R (.ok (.ret (.ref (s.heap.push o).objs.size))) { s with heap := (s.heap.push o).push { cls := .type "enumerate", data := .fields #[.none, .bool false, .ref s.heap.objs.size, rawInt 0, .none, .none] } }) :=
  .of_wp fun prog w A R s h => by
    obtain ⟨hp, g, d, tk, os⟩ := s; obtain ⟨h1, h⟩ := h
    have hsub := sub_enumerate
    have q1 : ∀ {A' : Around} {E : Value → Shared → Prop} {Q : Value → Shared → Prop}, Q (.ref hp.objs.size) ⟨hp.push o, g, d, tk, os⟩ → wpAny (model prog w) A' (pyIter v) Q E ⟨hp, g, d, tk, os⟩ :=
      fun q => B.iter prog w _ _ ⟨hp, g, d, tk, os⟩ _ h1 q
    wp_walk using q1
    refine wpAny_stack_any fun st => wpAny_pure ?_
    split
    · rename_i c _ _ _ _ _
      cases (c == Value.type "enumerate")
      · wp_walk using q1
        exact ⟨_, rfl, h⟩
      · wp_walk using q1
        exact ⟨_, rfl, h⟩
    · wp_walk using q1
      exact ⟨_, rfl, h⟩
section
variable {prog : Program} {w : World} {A : Around} {E : Value → Shared → Prop} {s : Shared}
theorem enum1_begins {v : Value} {o : Obj} {H : Heap → Prop} {Q : Value → Shared → Prop} (B : Begins v o H) (h1 : H s.heap)
    (h : ∀ h', IsEnum h' (s.heap.objs.size + 1) s.heap.objs.size 0 .none → h'.get? s.heap.objs.size = some o → h'.objs.size = s.heap.objs.size + 2 →
      (∀ b o, s.heap.get? b = some o → h'.get? b = some o) → Q (.ref (s.heap.objs.size + 1)) { s with heap := h' }) :
    wpAny (model prog w) A (call (.type "enumerate") [v]) Q E s := by
  refine callType_new F.called_enumerate (by decide) (F.typeCall_enumerate_1 _) (F.newCall_enumerate_1 _) (fun obj => F.args_object_init_2 obj _) F.entry_enumerate_new
    (meets_enum1B B) ⟨h1, ?_⟩
  have hz : (s.heap.push o).objs.size = s.heap.objs.size + 1 := Heap.size_push ..
  show _ ∧ _
  rw [hz]
  have he : IsEnum ((s.heap.push o).push { cls := .type "enumerate", data := .fields #[.none, .bool false, .ref s.heap.objs.size, rawInt 0, .none, .none] }) (s.heap.objs.size + 1) s.heap.objs.size 0 .none := by
    have := Heap.get?_push_size (s.heap.push o) (o := { cls := .type "enumerate", data := .fields #[.none, .bool false, .ref s.heap.objs.size, rawInt 0, .none, .none] }) rfl
    rw [hz] at this; exact this
  refine ⟨⟨_, he, rfl⟩, h _ he (Heap.get?_push_of_some _ (Heap.get?_push_size _ B.free)) (by rw [Heap.size_push, hz]) fun b o x => Heap.get?_push_of_some _ (Heap.get?_push_of_some _ x)⟩
end
def IteT (K : PySem.W.Frag) (a : Addr) : It :=
  ⟨fun i H => ∃ (xs : List V) (x : V), SqT K H a xs ∧ xs[i]? = some x, fun i H v H' => ∃ T x, v = .ref T ∧ H T = none ∧ H' = upd H T (.tup [.int (i : Nat), x]) ∧ ∀ xs, SqT K H a xs → xs[i]? = some x, fun i H => ∃ xs : List V, SqT K H a xs ∧ xs.length ≤ i⟩
theorem turn_enumT {P : Program} {w : World} {K : PySem.W.Frag} {elts : List Expr} {kk : Nat} {tpos : Pos} (a e it : Addr) :
    Turn P w K (.Tuple elts kk tpos) (IteT K a) [e, it] e (fun i h => (∃ old, IsEnum h e it ((i : Nat) : Int) old) ∧ h.IsTupleIter it a i ∧ e ≠ it) where
  mem := by simp
  obj := fun i h st b hb => by
    obtain ⟨⟨old, he⟩, ⟨o, ho, hc, hd⟩, _⟩ := st
    have e' : b = e ∨ b = it := by simpa using hb
    rcases e' with z | z
    · rw [z]; exact ⟨_, he, fun v q => nomatch q⟩
    · rw [z]; exact ⟨o, ho, fun v q => by rw [hd] at q; cases q⟩
  keep := fun i h h' st k => let ⟨⟨old, he⟩, hi, hne⟩ := st; ⟨⟨old, k e (by simp) _ he⟩, hi.at fun o q => k it (by simp) o q, hne⟩
  item := by
    intro X hP hw hK hc i pins s σ H E I hf st hg
    subst hP hw hK
    obtain ⟨⟨old, he⟩, hit, hne⟩ := st
    obtain ⟨xs, x, hq, hx⟩ := hg
    obtain ⟨its, rv, p, hz⟩ := I.tuple hq
    obtain ⟨u, hu, ru⟩ := rv.get hx
    have hel : e < s.heap.objs.size := Heap.lt_size he
    have hil : it < s.heap.objs.size := by obtain ⟨_, q, _⟩ := hit; exact Heap.lt_size q
    have hat : a ≠ it := by
      rintro rfl
      obtain ⟨o, ho, hc2, hd⟩ := hit
      obtain ⟨o2, ho2, hc3, _⟩ := p
      rw [ho] at ho2; cases ho2
      rw [hc2] at hc3; exact absurd hc3 (by simp)
    have hae : e ∉ [it, a] := by
      intro m
      rcases List.mem_cons.mp m with z | m
      · exact hne z
      · have z : e = a := by simpa using m
        subst z
        obtain ⟨o2, ho2, hc3, _⟩ := p
        have he2 : s.heap.get? e = _ := he
        rw [ho2] at he2; cases he2; exact absurd hc3 (by simp)
    have hlt : i < its.length := (List.getElem?_eq_some_iff.mp hu).1
    have D := Draws.tuple (prog := X.prog) (w := X.w) (A := X.A.in1) (I.ok.hd hc) it a hat its.toArray
    refine wpAny_pyNext_enum_itemD D he ⟨hit, p⟩ (by simpa using hlt) hne hae fun x' h' tk hx' ho hst hT hsz hk => ?_
    have hxu : x' = u := by
      have h1 : its[i]? = some x' := by simpa using hx'
      rw [hu] at h1
      exact (Option.some.inj h1).symm
    subst hxu
    refine ⟨_, rfl, wpAny_letOwnedTupleGo_enum (s := { s with heap := h', toks := tk + 1 }) ho fun h'' he' sb => ?_⟩
    have hT2 : h''.get? s.heap.objs.size = some { cls := .type "tuple", data := .seq #[.int i tk, x'] } := (sb.2 _ (Nat.ne_of_gt hel)).trans hT
    have new : ObjOk X.prog X.w (upd H s.heap.objs.size (.tup [.int (i : Nat), x])) h'' s.heap.objs.size (.tup [.int (i : Nat), x]) :=
      ⟨by show 2 ≤ sizeLine; decide, [.int i tk, x'], .cons ⟨_, rfl⟩ (.cons ru .nil), ⟨_, hT2, rfl, _, rfl⟩⟩
    have I1 : Inv X pins σ (upd H s.heap.objs.size (.tup [.int (i : Nat), x])) { s with heap := h'', toks := tk + 1 } :=
      I.turnedNew (ch := [e, it]) (fun b ob hb q => (sb.2 b (fun z => hb (by simp [z]))).trans (hk b ob (fun z => hb (by simp [z])) (fun z => hb (by simp [z])) q)) hf (Nat.le_refl _) new
    refine ⟨.ref s.heap.objs.size, _, I1, rfl, ⟨_, x, rfl, I.hok.fresh (Nat.le_refl _), rfl, fun ys hy => by rw [I.tuple_inj hy hq]; exact hx⟩, ⟨⟨x', ?_⟩, hst.1.at fun o q => (sb.2 it (Ne.symm hne)).trans q, hne⟩, fun b hb => ?_⟩
    · have e1 : ((i + 1 : Nat) : Int) = (i : Int) + 1 := by omega
      rw [e1]; exact he'
    · have hb' : b < s.heap.objs.size := by
        have e' : b = e ∨ b = it := by simpa using hb
        rcases e' with z | z
        · rw [z]; exact hel
        · rw [z]; exact hil
      rw [upd_ne (Nat.ne_of_lt hb')]
      exact (hf b hb).1
  done := by
    intro X hP hw hK hc i pins s σ H E I hf st hg
    subst hP hw hK
    obtain ⟨⟨old, he⟩, hit, hne⟩ := st
    obtain ⟨xs, hq, hx⟩ := hg
    obtain ⟨its, rv, p, hz⟩ := I.tuple hq
    obtain ⟨f0, f1, f2, f3, f4, f5⟩ := hf it (by simp)
    have hl := rv.length
    have hat : a ≠ it := by
      rintro rfl
      obtain ⟨o, ho, hc2, hd⟩ := hit
      obtain ⟨o2, ho2, hc3, _⟩ := p
      rw [ho] at ho2; cases ho2
      rw [hc2] at hc3; exact absurd hc3 (by simp)
    have D : Draws X.prog X.w X.A.in1 it [it, a] i (fun i v => its.toArray[i]? = some v) (fun j h => j = i ∧ h.IsTuple a its.toArray ∧ h.IsTupleIter it a j) :=
      { live := fun _ _ st => let ⟨o, ho, _⟩ := st.2.2; ⟨o, ho⟩
        frame := fun _ _ _ st hk => ⟨st.1, st.2.1.at fun o e => hk a (by simp) o e, st.2.2.at fun o e => hk it (by simp) o e⟩
        item := fun j s Q E hj st hQ => absurd st.1 (Nat.ne_of_lt hj)
        done := fun s Q E st hE => wpAny_nextOf_tuple_end (I.ok.hd hc) st.2.2 st.2.1 (by simp; omega) hE }
    exact wpAny_pyNext_enum_endD D he ⟨rfl, p, hit⟩ fun h' eb => ⟨rfl, I.turned (t' := s.toks) (fun b o hb q => eb b o hb q) f0 f1 f3 f4 f5⟩
  self := fun A i s Q E st h => let ⟨⟨_, he⟩, _⟩ := st; wpAny_pyIter_enum he h
def iEnumT (K : PySem.W.Frag) (ta : TA) : TI := fun σ H R => ta σ H fun vs H1 => ∃ a xs, vs = [.ref a] ∧ SqT K H1 a xs ∧ R (IteT K a) H1
theorem pi_enumT {X : Cx} {e : Expr} {ta : TA} {p pos tpos : Pos} {elts : List Expr} {kk : Nat} (hg : Gl X "enumerate") (hm : X.mg "enumerate" = none) (ha : PA X [e] ta) (hs : starEach [e] X.env = [(false, eval e X.env)] := by rfl) :
    PI X (.Tuple elts kk tpos) (.Call (.Name "enumerate" p) [e] [] pos) (iEnumT X.K ta) := by
  refine ⟨fun pins s σ H R I h => ?_⟩
  refine Call_ (ld_blt I hg hm boot_enumerate (PyProof.Rows.callWith_type1 (thn (ha.run pos pins s σ H _ I h) fun us s1 ⟨vs, H1, I1, r1, q1⟩ => ?_) hs rfl))
  obtain ⟨a, xs, ex, hq, q⟩ := q1
  subst ex
  cases r1 with
  | cons r rr =>
    cases rr
    cases r
    obtain ⟨its, rv, p', hz⟩ := I1.tuple hq
    refine enum1_begins (begins_tuple a its.toArray) (show s1.heap.IsTuple a its.toArray from p') fun h' he hit hsz hk => wpAny_pyIter_enum he ?_
    have I2 : Inv X pins σ H1 { s1 with heap := h' } := I1.kept (t' := s1.toks) hk
    refine ⟨s1.heap.objs.size + 1, [s1.heap.objs.size + 1, s1.heap.objs.size], _, _, H1, rfl, I2, turn_enumT a (s1.heap.objs.size + 1) s1.heap.objs.size, ⟨⟨.none, he⟩, ⟨_, hit, rfl, rfl⟩, Nat.succ_ne_self _⟩, fun b hb => ?_, q⟩
    have e' : b = s1.heap.objs.size + 1 ∨ b = s1.heap.objs.size := by simpa using hb
    have hle : s1.heap.objs.size ≤ b := by
      rcases e' with z | z
      · rw [z]; exact Nat.le_add_right _ _
      · rw [z]; exact Nat.le_refl _
    exact I1.fpOk hle (I1.hok.fresh hle)
section
variable {e : En} {te : TE}
def xEnumT (s : State → Option D) : State → Option (List D) := fun α => match s α with | some (.tup xs) => some (enumL 0 xs) | _ => none
theorem ei_enumT {s : State → Option D} (h : Evp e te s) : Evi e (iEnumT e.K (tCons te tNil)) (xEnumT s) := fun c L S σ H α xs R q W k => by
  unfold xEnumT at q
  split at q
  · rename_i ys hs
    cases q
    refine h c L S σ H α _ R hs _ fun v H' e1 ⟨a, vs, e2, r1, r2⟩ => ?_
    subst e2
    refine ⟨a, vs, rfl, same_t fz_le r1, k _ H' e1 fun L2 H2 s2 dm i => ?_⟩
    have t2 : SqT e.K H2 a vs := same_t fz_le (same_t s2 r1)
    rw [enumL_len]
    refine ⟨fun hi => ⟨vs, vs[i]'(by rw [r2.len]; exact hi), t2, List.getElem?_eq_getElem _⟩, fun hi => ⟨vs, t2, by rw [r2.len]; exact hi⟩, fun x v H3 hx ⟨T, y, e3, n, e4, yy⟩ => ?_⟩
    subst e3 e4
    obtain ⟨d, h1, h2⟩ := enumL_get _ _ _ _ hx
    obtain ⟨v', h3, h4⟩ := r2.get h1
    have h5 := yy vs t2
    have h6 : v' = y := Option.some.inj (h3.symm.trans h5)
    subst h6
    have s3 : Sm H2 (upd H2 T (.tup [.int (i : Nat), v'])) := same_upd n
    refine ⟨s3, ?_⟩
    subst h2
    refine ⟨T, _, rfl, .inl (.inl (fz_new (fresh_nL dm n) upd_same)), Reps.cons ?_ (Reps.cons (h4.up (s2.trans (fz_same s3))) Reps.nil)⟩
    show V.int _ = V.int _
    rw [Int.zero_add]
  · cases q
end
end Ab
end
section
set_option maxRecDepth 100000
set_option maxHeartbeats 1000000
namespace Ab
open PySem L2 PyProof.Rows PySem.Spec
variable [Hd]
def isTup (ds : List D) (o : Obj) : Prop := ∃ (its : Array Value) (n : Nat), o.cls = .type "tuple" ∧ o.data = .seq its n ∧ its.size ≤ sizeLine ∧ Vals (ds.map dv) its.toList ∧ ds.all flat = true ∧ o.dict = none
theorem reps_dv {e : En} {F : Hp} : ∀ {ds : List D}, ds.all flat = true → Reps e F ds (ds.map dv)
  | [], _ => Reps.nil
  | d :: ds, h => by
    simp only [List.all_cons, Bool.and_eq_true] at h
    exact Reps.cons (rep_of_flat h.1) (reps_dv h.2)
theorem top_tup {K : PySem.W.Frag} {cls : String → Addr} {q : Addr} {o : Obj} {ds : List D} (h : K.lookup q = some o) (r : isTup ds o) : ∀ F, Rep ⟨K, cls⟩ F (.tup ds) (.ref q) := fun F => by
  obtain ⟨its, n, h1, h2, h3, h4, h5, _⟩ := r
  exact ⟨q, _, rfl, .inr ⟨o, its, n, h, h1, h2, h3, h4⟩, reps_dv h5⟩
theorem top_ty {K : PySem.W.Frag} {q : Addr} {o : Obj} {ds : List D} (h : K.lookup q = some o) (r : isTup ds o) : ∀ H, tyV K "tuple" (.ref q) H := fun H => by
  obtain ⟨its, n, h1, h2, h3, h4, h5, h6⟩ := r
  exact .inr (.inl ⟨rfl, o, h, h1, h6⟩)
section
variable {X : Cx} {K : PySem.W.Frag}
theorem ixl (h : X.K = K) : IxR X (rIxL K) := h ▸ ix_list
theorem ixt (h : X.K = K) : IxR X (rIxT K) := h ▸ ix_tup
theorem sll (h : X.K = K) : SlR X (rSlL K) := h ▸ sl_list
theorem sla (h : X.K = K) : SlR X (rSlA K) := h ▸ sl_tupA
theorem in_q (h : X.K = K) : OpR X (compareOp .In) (rIn K false) := h ▸ op_in_seq
theorem nin_q (h : X.K = K) : OpR X (compareOp .NotIn) (rIn K true) := h ▸ op_notIn_seq
theorem eq_q (h : X.K = K) (hu : X.A.units + 200 < cLine) : OpR X (compareOp .Eq) (rEqQ K) := h ▸ op_eqQ hu
theorem ne_q (h : X.K = K) (hu : X.A.units + 200 < cLine) : OpR X (compareOp .NotEq) (rNeQ K) := h ▸ op_neQ hu
theorem cat_q (h : X.K = K) : OpR X (binaryOp .Add) (rCatQ K) := h ▸ op_catQ
theorem cat_a (h : X.K = K) : OpR X (binaryOp .Add) (rCatA K) := h ▸ op_catA
theorem isi_q (h : X.K = K) : CallR X (.builtin "isinstance") (rIsi K) := h ▸ call_isi
theorem len_q (h : X.K = K) : CallR X (.builtin "len") (fun xs H Q => ∃ p ys, xs = [.ref p] ∧ (SqL K H p ys ∨ SqT K H p ys) ∧ Q (.int ys.length) H) := h ▸ call_len_seq
theorem list_q (h : X.K = K) : CallR X (.type "list") (fun xs H Q => ∃ p ys, xs = [.ref p] ∧ (SqL K H p ys ∨ SqT K H p ys) ∧ ∀ l, H l = none → Q (.ref l) (upd H l (.lst ys))) := h ▸ call_list_of
theorem tuple_q (h : X.K = K) : CallR X (.type "tuple") (fun xs H Q => ∃ p ys, xs = [.ref p] ∧ ((SqL K H p ys ∧ ∀ l, H l = none → Q (.ref l) (upd H l (.tup ys))) ∨ (SqT K H p ys ∧ Q (.ref p) H))) := h ▸ call_tuple_of
theorem sum_q (h : X.K = K) (hc : X.calm = true) : CallR X (.builtin "sum") (rSum K) := h ▸ cr_sum hc
theorem pil (h : X.K = K) {tg l : Expr} {tl : TE} (hl : PE X l tl) : PI X tg l (iList K tl) := h ▸ pi_list hl
theorem pit (h : X.K = K) {tg l : Expr} {tl : TE} (hl : PE X l tl) : PI X tg l (iTup K tl) := h ▸ pi_tup hl
theorem pienum (h : X.K = K) {e : Expr} {ta : TA} {p pos tpos : Pos} {elts : List Expr} {kk : Nat} (hg : Gl X "enumerate") (hm : X.mg "enumerate" = none) (ha : PA X [e] ta) (hs : starEach [e] X.env = [(false, eval e X.env)] := by rfl) :
    PI X (.Tuple elts kk tpos) (.Call (.Name "enumerate" p) [e] [] pos) (iEnum K ta) := h ▸ pi_enum hg hm ha hs
theorem pienumT (h : X.K = K) {e : Expr} {ta : TA} {p pos tpos : Pos} {elts : List Expr} {kk : Nat} (hg : Gl X "enumerate") (hm : X.mg "enumerate" = none) (ha : PA X [e] ta) (hs : starEach [e] X.env = [(false, eval e X.env)] := by rfl) :
    PI X (.Tuple elts kk tpos) (.Call (.Name "enumerate" p) [e] [] pos) (iEnumT K ta) := h ▸ pi_enumT hg hm ha hs
theorem pe_pop (h : X.K = K) {o : Expr} {to : TE} {apos cpos : Pos} (ho : PE X o to) (hbase : attributeBase o "pop" X.env (eval o X.env) = eval o X.env := by rfl) (hline : (apos.endLine == cpos.line) = true := by rfl) :
    PE X (.Call (.Attribute o "pop" apos) [] [] cpos) (tBM0 K "list" rPop to) := h ▸ pe_bm0 PySem.F.plainAttrs_list PySem.F.slot_list_pop PySem.F.type_list_pop mt_pop ho hbase hline
theorem pe_tuprev (h : X.K = K) {e : Expr} {te : TE} {p p2 pos pos2 : Pos} (hc : X.calm = true) (hg : Gl X "tuple") (hm : X.mg "tuple" = none) (hg2 : Gl X "reversed") (hm2 : X.mg "reversed" = none) (he : PE X e te)
    (q : PE X (.Call (.Name "tuple" p) [.Call (.Name "reversed" p2) [e] [] pos2] [] pos) (RT.tTupRev X.K te)) : PE X (.Call (.Name "tuple" p) [.Call (.Name "reversed" p2) [e] [] pos2] [] pos) (RT.tTupRev K te) := h ▸ q
end
end Ab
end
section
set_option maxRecDepth 100000
set_option maxHeartbeats 1000000
namespace Ab
open PySem L2 PyProof.Rows PySem.Spec
variable [Hd]
section
variable {α β : State} {i j : Nat} {d : D} {sa sb s s' : State → Option D} {f : D → D → Option D} {sq sq2 sr : State → Option (List D)} {st su : State → Option Bool}
@[simp] theorem a_xVar : xVar i α = (match α[i]? with | some (some (.dat d)) => some d | _ => none) := (rfl)
@[simp] theorem a_xC : xC d α = some d := (rfl)
@[simp] theorem a_x2 : x2 f sa sb α = bnd (sa α) fun a => bnd (sb α) fun b => f a b := (rfl)
@[simp] theorem a_x1 {g : D → Option D} : x1 g sa α = bnd (sa α) g := (rfl)
@[simp] theorem a_asB : asB s α = (match s α with | some (.bl b) => some b | _ => none) := (rfl)
@[simp] theorem a_tbNot : tbNot st α = (st α).map (!·) := (rfl)
@[simp] theorem a_tbAnd : tbAnd st su α = (match st α with | some true => su α | o => o) := (rfl)
@[simp] theorem a_tbOr : tbOr st su α = (match st α with | some false => su α | o => o) := (rfl)
@[simp] theorem a_xIf : xIf st sa sb α = (match st α with | some true => sa α | some false => sb α | none => none) := (rfl)
@[simp] theorem a_xB : xB st α = (st α).map .bl := (rfl)
@[simp] theorem a_aNil : aNil α = some [] := (rfl)
@[simp] theorem a_aCons : aCons s sr α = bnd (s α) fun d => bnd (sr α) fun ds => some (d :: ds) := (rfl)
@[simp] theorem a_xTup : xTup sr α = bnd (sr α) fun ds => if ds.length ≤ 100000 then some (.tup ds) else none := (rfl)
@[simp] theorem a_xL : xL sr α = (sr α).map .lst := (rfl)
@[simp] theorem a_qL : qL s α = (match s α with | some (.lst xs) => some xs | _ => none) := (rfl)
@[simp] theorem a_qT : qT s α = (match s α with | some (.tup xs) => some xs | _ => none) := (rfl)
@[simp] theorem a_qO : qO i α = (match ctOf α[i]? with | some (.lst xs) => some xs | _ => none) := (rfl)
@[simp] theorem a_xCall {m : List D → Option D} : xCall m sr α = bnd (sr α) m := (rfl)
@[simp] theorem a_xLen : xLen sq α = (match sq α with | some xs => some (.int xs.length) | none => none) := (rfl)
@[simp] theorem a_xIx : xIx sq sb α = bnd (sq α) fun xs => match sb α with | some (.int i) => atI xs i | _ => none := (rfl)
@[simp] theorem a_xSlL {sl sh : State → Option (Option Int)} : xSlL sq sl sh α = bnd (sq α) fun xs => bnd (sl α) fun lo => bnd (sh α) fun hi => some (cutD xs lo hi) := (rfl)
@[simp] theorem a_xSlA {sl sh : State → Option (Option Int)} : xSlA sq sl sh α = bnd (sq α) fun xs => bnd (sl α) fun lo => bnd (sh α) fun hi => some (.tup (cutD xs lo hi)) := (rfl)
@[simp] theorem a_oNone : oNone α = some none := (rfl)
@[simp] theorem a_oSome : oSome s α = (match s α with | some (.int i) => some (some i) | _ => none) := (rfl)
@[simp] theorem a_xTupL : xTupL sq α = (match sq α with | some xs => some (.tup xs) | none => none) := (rfl)
@[simp] theorem a_xSum : xSum sq α = bnd (sq α) fSum := (rfl)
@[simp] theorem a_xLend : xLend i s α = bnd (lendD i α) fun β => match s β with | some d => if flat d = true then some d else none | none => none := (rfl)
@[simp] theorem a_tLend : tLend i st α = bnd (lendD i α) st := (rfl)
@[simp] theorem a_xChain {g : D → D → Option D} : xChain f g sa sb s α = bnd (sa α) fun a => bnd (sb α) fun b => match f a b with
  | some (.bl true) => (bnd (s α) fun c => match g b c with | some (.bl k) => some (.bl k) | _ => none) | some (.bl false) => some (.bl false) | _ => none := (rfl)
@[simp] theorem a_xTupRev : xTupRev sq α = (match sq α with | some xs => some (.tup xs.reverse) | none => none) := (rfl)
@[simp] theorem a_xEnum : xEnum s α = (match s α with | some (.lst xs) => some (enumL 0 xs) | _ => none) := (rfl)
@[simp] theorem a_xEnumT : xEnumT s α = (match s α with | some (.tup xs) => some (enumL 0 xs) | _ => none) := (rfl)
@[simp] theorem a_xCat : xCat sq sq2 α = bnd (sq α) fun xs => bnd (sq2 α) fun ys => lenOk (xs ++ ys) := (rfl)
@[simp] theorem a_xCatT : xCatT sq sq2 α = bnd (sq α) fun xs => bnd (sq2 α) fun ys => if (xs ++ ys).length ≤ 100000 then some (.tup (xs ++ ys)) else none := (rfl)
@[simp] theorem a_xLc {vs : List Nat} {gt : D → State → Option State} : xLc vs sq gt st s α = bnd (sq α) fun xs => if xs.length ≤ 100000 then lcF gt st s xs (wipeA vs α) else none := (rfl)
@[simp] theorem a_tbYes : tbYes α = some true := (rfl)
theorem rngOk_of {n : Int} (h0 : -1000000 ≤ n) (h1 : n ≤ 1000000) : rngOk n = true := by
  unfold rngOk
  exact decide_eq_true ⟨Int.le_trans (by decide) h0, Int.lt_of_le_of_lt h1 (by decide)⟩
theorem rngOk_nat {n : Nat} (h1 : n ≤ 1000000) : rngOk (n : Int) = true := rngOk_of (by omega) (by omega)
@[simp] theorem rngOk_0 : rngOk 0 = true := rngOk_of (by omega) (by omega)
@[simp] theorem rngOk_1 : rngOk 1 = true := rngOk_of (by omega) (by omega)
@[simp] theorem rngOk_2 : rngOk 2 = true := rngOk_of (by omega) (by omega)
@[simp] theorem a_xRng1 : xRng1 sr α = (match sr α with | some [.int n] => if rngOk n = true then some (rngD 0 n.toNat) else none | _ => none) := (rfl)
@[simp] theorem a_xRng2 : xRng2 sr α = (match sr α with | some [.int a, .int n] => if rngOk a = true ∧ rngOk n = true then some (rngD a (n - a).toNat) else none | _ => none) := (rfl)
@[simp] theorem a_lift : lift s α = (match s α with | some d => .ok d α | none => .bad) := (rfl)
@[simp] theorem a_liftL : liftL sq α = (match sq α with | some d => .ok d α | none => .bad) := (rfl)
@[simp] theorem a_liftB : liftB st α = (match st α with | some d => .ok d α | none => .bad) := (rfl)
section
variable {r : State → Res D} {rl : State → Res (List D)} {rb : State → Res Bool} {u v : State → Out} {ra : State → Res (List Arg)} {gt : D → State → Option State} {gs : List D → State → Option State}
@[simp] theorem a_sSeq : sSeq u v α = (match u α with | .nxt β => v β | o => o) := (rfl)
@[simp] theorem a_sNext : sNext α = .nxt α := (rfl)
@[simp] theorem a_sBrk : sBrk α = .brk α := (rfl)
@[simp] theorem a_sCnt : sCnt α = .cnt α := (rfl)
@[simp] theorem a_sSet : sSet i r α = (match r α with | .ok d α' => .nxt (α'.set i (some (.dat d))) | .exc x => .exc x | .bad => .bad) := (rfl)
@[simp] theorem a_sSetL : sSetL i rl α = (match rl α with | .ok xs α' => .nxt (α'.set i (some (.own (.lst xs)))) | .exc x => .exc x | .bad => .bad) := (rfl)
@[simp] theorem a_sIf : sIf rb u v α = (match rb α with | .ok true α' => u α' | .ok false α' => v α' | .exc x => .exc x | .bad => .bad) := (rfl)
@[simp] theorem a_sDrop : sDrop r α = (match r α with | .ok _ α' => .nxt α' | .exc x => .exc x | .bad => .bad) := (rfl)
@[simp] theorem a_sRet : sRet r α = (match r α with | .ok d α' => .ret (.dat d) α' | .exc x => .exc x | .bad => .bad) := (rfl)
@[simp] theorem a_sRetN : sRetN α = .ret (.dat .non) α := (rfl)
@[simp] theorem a_sRetL : sRetL rl α = (match rl α with | .ok xs α' => .ret (.lst xs) α' | .exc x => .exc x | .bad => .bad) := (rfl)
@[simp] theorem a_sRetO : sRetO i α = (match α[i]? with | some (some (.own (.lst xs))) => .ret (.lst xs) α | _ => .bad) := (rfl)
@[simp] theorem a_sFrz : sFrz i u α = u (frzD i α) := (rfl)
@[simp] theorem a_gN {x : D} : gN i x α = some (α.set i (some (.dat x))) := (rfl)
@[simp] theorem a_gsN : gsN [] α = some α := (rfl)
@[simp] theorem a_gsC {x : D} {xs : List D} : gsC gt gs (x :: xs) α = bnd (gt x α) (gs xs) := (rfl)
@[simp] theorem a_gT {n : Nat} {xs : List D} : gT n gs (.tup xs) α = if xs.length = n then gs xs α else none := (rfl)
@[simp] theorem a_sFor {sx : State → Option (List D)} : sFor sx gt u α = (match sx α with | some xs => loopF gt u xs α | none => .bad) := (rfl)
@[simp] theorem a_sApp : sApp i r α = if isL α[i]? = true then (match r α with
  | .ok d α' => (match ctOf α'[i]? with | some (.lst xs) => if xs.length < 100000 then .nxt (putC α' i (.lst (xs ++ [d]))) else .bad | _ => .bad)
  | .exc x => .exc x | .bad => .bad) else .bad := (rfl)
@[simp] theorem a_xPop : xPop i α = (match ctOf α[i]? with | some (.lst xs) => (match xs.getLast? with | some d => .ok d (putC α i (.lst xs.dropLast)) | none => .bad) | _ => .bad) := (rfl)
@[simp] theorem a_sSetI : sSetI i r s α = (match r α with
  | .ok d α' => (match s α', ctOf α'[i]? with | some (.int z), some (.lst xs) => (match ixN xs.length z with | some j => .nxt (putC α' i (.lst (xs.set j d))) | none => .bad) | _, _ => .bad)
  | .exc x => .exc x | .bad => .bad) := (rfl)
@[simp] theorem a_anil : anil α = .ok [] α := (rfl)
@[simp] theorem a_acons : acons r ra α = (match r α with
  | .ok d α1 => (match ra α1 with | .ok as α2 => .ok (.dat d :: as) α2 | .exc x => .exc x | .bad => .bad)
  | .exc x => .exc x | .bad => .bad) := (rfl)
@[simp] theorem a_aslot : aslot i ra α = if (ctOf α[i]?).isSome = true then (match ra α with | .ok as α2 => .ok (.slot i :: as) α2 | .exc x => .exc x | .bad => .bad) else .bad := (rfl)
@[simp] theorem a_rCall {m : List D → Option D} : rCall m ra α = (match ra α with
  | .ok as α1 => (match bnd (datas as) m with | some d => .ok d α1 | none => .bad)
  | .exc x => .exc x | .bad => .bad) := (rfl)
@[simp] theorem a_rTup : rTup ra α = (match ra α with
  | .ok as α1 => (match datas as with | some ds => if ds.length ≤ 100000 then .ok (.tup ds) α1 else .bad | none => .bad)
  | .exc x => .exc x | .bad => .bad) := (rfl)
@[simp] theorem a_datN : datas [] = some [] := (rfl)
@[simp] theorem a_datC {d : D} {as : List Arg} : datas (.dat d :: as) = (datas as).map (d :: ·) := (rfl)
@[simp] theorem a_rCallM {m : List A → MRes} : rCallM m ra α = (match ra α with
  | .ok as α1 => (match slots as with
    | [i] => (match toAs as α1 with
      | some bs => (match m bs with
        | .ok (.dat d) bs' => (match bs'.find? (fun b => match b with | .inn _ => true | _ => false) with | some (.inn ct) => .ok d (putC α1 i ct) | _ => .bad)
        | .exc x => .exc x
        | _ => .bad)
      | none => .bad)
    | _ => .bad)
  | .exc x => .exc x
  | .bad => .bad) := (rfl)
@[simp] theorem a_slN : slots [] = [] := (rfl)
@[simp] theorem a_slS {as : List Arg} : slots (.slot i :: as) = i :: slots as := (rfl)
@[simp] theorem a_slD {d : D} {as : List Arg} : slots (.dat d :: as) = slots as := (rfl)
@[simp] theorem a_toN : toAs [] α = some [] := (rfl)
@[simp] theorem a_toD {d : D} {as : List Arg} : toAs (.dat d :: as) α = (toAs as α).map (.dat d :: ·) := (rfl)
@[simp] theorem a_toS {as : List Arg} : toAs (.slot i :: as) α = (match ctOf α[i]? with | some ct => (toAs as α).map (.inn ct :: ·) | none => none) := (rfl)
@[simp] theorem a_rLc {vs : List Nat} : rLc vs sq gt r α = (match sq α with
  | some xs => if xs.length ≤ 100000 then lcE gt r vs xs (wipeA vs α) else .bad
  | none => .bad) := (rfl)
end
@[simp] theorem a_ctD : ctOf (some (some (.dat d))) = none := (rfl)
@[simp] theorem a_ctO {c : Ct} : ctOf (some (some (.own c))) = some c := (rfl)
@[simp] theorem a_ctI {c : Ct} : ctOf (some (some (.inn c))) = some c := (rfl)
@[simp] theorem a_isLO {xs : List D} : isL (some (some (.own (.lst xs)))) = true := (rfl)
@[simp] theorem a_isLI {xs : List D} : isL (some (some (.inn (.lst xs)))) = true := (rfl)
@[simp] theorem a_wN : wipeA [] α = α := (rfl)
@[simp] theorem a_wC {v : Nat} {vs : List Nat} : wipeA (v :: vs) α = (wipeA vs α).set v none := (rfl)
@[simp] theorem a_add {i j : Int} : ii (fun i j => some (.int (i + j))) (.int i) (.int j) = some (.int (i + j)) := (rfl)
@[simp] theorem a_ii {g : Int → Int → Option D} {i j : Int} : ii g (.int i) (.int j) = g i j := (rfl)
@[simp] theorem a_eqI {i j : Int} : fEq (.int i) (.int j) = some (.bl (decide (i = j))) := by
  simp [fEq, flat, scal, dv]
@[simp] theorem a_neI {i j : Int} : fNe (.int i) (.int j) = some (.bl (!decide (i = j))) := by
  simp [fNe, flat, scal, dv]
@[simp] theorem a_eqS {i j : Str} : fEq (.str i) (.str j) = some (.bl (decide (i = j))) := by
  simp [fEq, flat, scal, dv]
@[simp] theorem a_neS {i j : Str} : fNe (.str i) (.str j) = some (.bl (!decide (i = j))) := by
  simp [fNe, flat, scal, dv]
@[simp] theorem a_eqB {i j : Bool} : fEq (.bl i) (.bl j) = some (.bl (decide (i = j))) := by
  simp [fEq, flat, scal, dv]
@[simp] theorem a_neB {i j : Bool} : fNe (.bl i) (.bl j) = some (.bl (!decide (i = j))) := by
  simp [fNe, flat, scal, dv]
@[simp] theorem a_min2 {i j : Int} : fMin2 [.int i, .int j] = some (.int (if j < i then j else i)) := (rfl)
@[simp] theorem a_max2 {i j : Int} : fMax2 [.int i, .int j] = some (.int (if j > i then j else i)) := (rfl)
@[simp] theorem a_neg {i : Int} : fNeg (.int i) = some (.int (-i)) := (rfl)
@[simp] theorem a_lenOk {β : Type} {xs : List β} : lenOk xs = if xs.length ≤ 100000 then some xs else none := (rfl)
theorem atI_zero {β : Type} {x : β} {xs : List β} : atI (x :: xs) 0 = some x := by
  unfold atI ixN
  rw [if_pos (by decide), if_pos (by simp only [List.length_cons]; omega)]; rfl
theorem atI_nat' {β : Type} {xs : List β} {i : Nat} (h : i < xs.length) : atI xs (i : Int) = some xs[i] := by
  unfold atI ixN
  rw [if_pos (by omega), if_pos (by omega)]
  show xs[((i : Nat) : Int).toNat]? = _
  rw [Int.toNat_natCast, List.getElem?_eq_getElem h]
@[simp] theorem atI0 {β : Type} {x : β} {xs : List β} : atI (x :: xs) 0 = some x := atI_zero
@[simp] theorem atI1 {β : Type} {x y : β} {xs : List β} : atI (x :: y :: xs) 1 = some y := by
  unfold atI ixN
  rw [if_pos (by decide), if_pos (by simp only [List.length_cons]; omega)]; rfl
@[simp] theorem atI2 {β : Type} {x y z : β} {xs : List β} : atI (x :: y :: z :: xs) 2 = some z := by
  unfold atI ixN
  rw [if_pos (by decide), if_pos (by simp only [List.length_cons]; omega)]; rfl
theorem cutD_from {xs : List D} {k : Nat} : cutD xs (some (k : Int)) none = xs.drop k := by
  unfold cutD
  rw [HT.sIx_nat, HT.sIx_none]
  rw [List.take_of_length_le (by rw [List.length_drop]; omega)]
  by_cases h : k ≤ xs.length
  · rw [Nat.min_eq_left h]
  · rw [Nat.min_eq_right (by omega), List.drop_of_length_le (Nat.le_refl _), List.drop_of_length_le (by omega)]
theorem cutD_to {xs : List D} {k : Nat} : cutD xs none (some (k : Int)) = xs.take k := by
  unfold cutD
  rw [HT.sIx_nat, HT.sIx_none]
  rw [List.drop_zero, Nat.sub_zero]
  by_cases h : k ≤ xs.length
  · rw [Nat.min_eq_left h]
  · rw [Nat.min_eq_right (by omega), List.take_of_length_le (Nat.le_refl _), List.take_of_length_le (by omega)]
theorem cutD_mid {xs : List D} {i j : Nat} (h : i ≤ j) : cutD xs (some (i : Int)) (some (j : Int)) = (xs.drop i).take (j - i) := by
  unfold cutD
  rw [HT.sIx_nat, HT.sIx_nat]
  by_cases h1 : i ≤ xs.length
  · rw [Nat.min_eq_left h1]
    by_cases h2 : j ≤ xs.length
    · rw [Nat.min_eq_left h2]
    · rw [Nat.min_eq_right (by omega), List.take_of_length_le (by rw [List.length_drop]; omega), List.take_of_length_le (by rw [List.length_drop]; omega)]
  · rw [Nat.min_eq_right (show xs.length ≤ i by omega), Nat.min_eq_right (show xs.length ≤ j by omega), List.drop_of_length_le (Nat.le_refl _), List.drop_of_length_le (show xs.length ≤ i by omega)]; simp
@[simp] theorem cutD1 {xs : List D} : cutD xs (some 1) none = xs.drop 1 := cutD_from (k := 1)
mutual
theorem eqv_refl : ∀ d : D, PyData.eqv (py d) (py d) = true
  | .non => rfl
  | .bl b => by show (b == b) = true; simp
  | .int b => by show (b == b) = true; simp
  | .str b => by show (b == b) = true; simp
  | .tup xs => by show PyData.eqvAll (pys xs) (pys xs) = true; exact eqvs_refl xs
  | .lst xs => by show PyData.eqvAll (pys xs) (pys xs) = true; exact eqvs_refl xs
  | .ins _ _ => rfl
  | .ty _ => rfl
  | .cls _ => rfl
  | .dic _ => rfl
  | .trm _ => rfl
theorem eqvs_refl : ∀ ds : List D, PyData.eqvAll (pys ds) (pys ds) = true
  | [] => rfl
  | d :: ds => by
    show (PyData.eqv (py d) (py d) && PyData.eqvAll (pys ds) (pys ds)) = true
    rw [eqv_refl d, eqvs_refl ds]; rfl
end
mutual
def noBl : D → Bool
  | .bl _ => false | .ins _ _ => false | .ty _ => false | .cls _ => false | .dic _ => false | .trm _ => false
  | .tup xs => noBls xs | .lst xs => noBls xs
  | _ => true
def noBls : List D → Bool
  | [] => true | d :: ds => noBl d && noBls ds
end
mutual
theorem eqv_eq : ∀ (a b : D), noBl a = true → noBl b = true → PyData.eqv (py a) (py b) = true → a = b
  | .non, b, _, hb, h => by cases b <;> first | rfl | (simp [noBl] at hb; done) | (simp [py, PyData.eqv] at h; done)
  | .int i, b, _, hb, h => by cases b <;> first | (simp [noBl] at hb; done) | (simp [py, PyData.eqv] at h; done) | (simp [py, PyData.eqv] at h; rw [h])
  | .str i, b, _, hb, h => by cases b <;> first | (simp [noBl] at hb; done) | (simp [py, PyData.eqv] at h; done) | (simp [py, PyData.eqv] at h; rw [h])
  | .tup xs, b, ha, hb, h => by
    cases b with
    | tup ys => rw [eqvs_eq xs ys (by simpa [noBl] using ha) (by simpa [noBl] using hb) (by simpa [py, PyData.eqv] using h)]
    | _ => first | (simp [noBl] at hb; done) | (simp [py, PyData.eqv] at h; done)
  | .lst xs, b, ha, hb, h => by
    cases b with
    | lst ys => rw [eqvs_eq xs ys (by simpa [noBl] using ha) (by simpa [noBl] using hb) (by simpa [py, PyData.eqv] using h)]
    | _ => first | (simp [noBl] at hb; done) | (simp [py, PyData.eqv] at h; done)
  | .bl _, _, ha, _, _ => by simp [noBl] at ha
  | .ins _ _, _, ha, _, _ => by simp [noBl] at ha
  | .ty _, _, ha, _, _ => by simp [noBl] at ha
  | .cls _, _, ha, _, _ => by simp [noBl] at ha
  | .dic _, _, ha, _, _ => by simp [noBl] at ha
  | .trm _, _, ha, _, _ => by simp [noBl] at ha
theorem eqvs_eq : ∀ (a b : List D), noBls a = true → noBls b = true → PyData.eqvAll (pys a) (pys b) = true → a = b
  | [], [], _, _, _ => rfl
  | [], _ :: _, _, _, h => by simp [pys, PyData.eqvAll] at h
  | _ :: _, [], _, _, h => by simp [pys, PyData.eqvAll] at h
  | a :: as, b :: bs, ha, hb, h => by
    simp only [noBls, Bool.and_eq_true] at ha hb
    simp only [pys, PyData.eqvAll, Bool.and_eq_true] at h
    rw [eqv_eq a b ha.1 hb.1 h.1, eqvs_eq as bs ha.2 hb.2 h.2]
end
end
end Ab
end
section
set_option maxRecDepth 100000
set_option maxHeartbeats 1000000
namespace Ab
open PySem L2 PyProof.Rows PySem.Spec
variable [Hd]
theorem loop_cons' {gt : D → State → Option State} {bl : State → Out} {x : D} {xs : List D} {α α' β : State} (h1 : gt x α = some α') (h2 : bl α' = .nxt β) : loopF gt bl (x :: xs) α = loopF gt bl xs β := by
  conv => lhs; unfold loopF
  simp [h1, h2]
theorem loop_all {gt : D → State → Option State} {bl : State → Out} (P : Nat → State → Prop) : ∀ (xs : List D) (i : Nat) (α : State), P i α → (∀ (j : Nat) (x : D) (β : State), xs[j]? = some x → P (i + j) β → ∃ γ δ, gt x β = some γ ∧ bl γ = .nxt δ ∧ P (i + j + 1) δ) → ∃ δ, loopF gt bl xs α = .nxt δ ∧ P (i + xs.length) δ
  | [], i, α, h, _ => ⟨α, rfl, h⟩
  | x :: xs, i, α, h, hs => by
    obtain ⟨γ, δ, h1, h2, h3⟩ := hs 0 x α rfl h
    obtain ⟨ε, h4, h5⟩ := loop_all P xs (i + 1) δ h3 fun j y β hj hp => by
      have := hs (j + 1) y β (by simpa using hj) (by rw [show i + (j + 1) = i + 1 + j by omega]; exact hp)
      obtain ⟨γ, δ, a, b, c⟩ := this
      exact ⟨γ, δ, a, b, by rw [show i + 1 + j + 1 = i + (j + 1) + 1 by omega]; exact c⟩
    exact ⟨ε, (loop_cons' h1 h2).trans h4, by rw [show i + (x :: xs).length = i + 1 + xs.length by simp; omega]; exact h5⟩
theorem loop_map {ι : Type} {gt : D → State → Option State} {bl : State → Out} (E : ι → D) (P : Nat → State → Prop) (xs : List ι) (α : State) (h0 : P 0 α) (hs : ∀ (j : Nat) (hj : j < xs.length) (β : State), P j β → ∃ γ δ, gt (E xs[j]) β = some γ ∧ bl γ = .nxt δ ∧ P (j + 1) δ) : ∃ δ, loopF gt bl (xs.map E) α = .nxt δ ∧ P xs.length δ := by
  have := loop_all (gt := gt) (bl := bl) P (xs.map E) 0 α h0 fun j x β hj hp => by
    rw [List.getElem?_map] at hj
    by_cases hl : j < xs.length
    · rw [List.getElem?_eq_getElem hl] at hj
      cases hj
      rw [Nat.zero_add] at hp ⊢
      exact hs j hl β hp
    · rw [List.getElem?_eq_none (by omega)] at hj; cases hj
  simpa using this
theorem loop_rng {gt : D → State → Option State} {bl : State → Out} (lo : Int) (n : Nat) (P : Nat → State → Prop) (α : State) (h0 : P 0 α) (hs : ∀ (j : Nat), j < n → ∀ (β : State), P j β → ∃ γ δ, gt (.int (lo + (j : Int))) β = some γ ∧ bl γ = .nxt δ ∧ P (j + 1) δ) : ∃ δ, loopF gt bl (rngD lo n) α = .nxt δ ∧ P n δ := by
  have := loop_map (gt := gt) (bl := bl) (fun (k : Nat) => D.int (lo + (k : Int))) P (List.range n) α h0 fun j hj β hp => by
    rw [List.getElem_range]
    exact hs j (by simpa using hj) β hp
  simpa [rngD] using this
theorem lcF_maps {gt : D → State → Option State} {st : State → Option Bool} {se : State → Option D} {α : State} {ι : Type} {E F : ι → D} : ∀ {xs : List ι}, (∀ x ∈ xs, ∃ β, gt (E x) α = some β ∧ st β = some true ∧ se β = some (F x)) → lcF gt st se (xs.map E) α = some (xs.map F)
  | [], _ => rfl
  | x :: xs, h => by
    obtain ⟨β, h1, h0, h2⟩ := h x List.mem_cons_self
    show lcF gt st se (E x :: xs.map E) α = _
    unfold lcF
    rw [h1]
    simp [h0, h2, lcF_maps (xs := xs) fun y m => h y (List.mem_cons_of_mem _ m)]
theorem lcF_filter {gt : D → State → Option State} {st : State → Option Bool} {se : State → Option D} {α : State} {ι : Type} {E F : ι → D} {p : ι → Bool} : ∀ {xs : List ι}, (∀ x ∈ xs, ∃ β, gt (E x) α = some β ∧ st β = some (p x) ∧ (p x = true → se β = some (F x))) → lcF gt st se (xs.map E) α = some ((xs.filter p).map F)
  | [], _ => rfl
  | x :: xs, h => by
    obtain ⟨β, h1, h2, h3⟩ := h x List.mem_cons_self
    show lcF gt st se (E x :: xs.map E) α = _
    unfold lcF
    have ih := lcF_filter (xs := xs) fun y m => h y (List.mem_cons_of_mem _ m)
    rw [h1]
    cases hp : p x
    · rw [hp] at h2
      simp [h2, ih, hp]
    · rw [hp] at h2
      simp [h2, ih, hp, h3 hp]
def df (f : Nat → Int) (n : Nat) : List D := (List.range n).map fun i => .int (f i)
@[simp] theorem df_len {f : Nat → Int} {n : Nat} : (df f n).length = n := by simp [df]
theorem df_get {f : Nat → Int} {n i : Nat} (h : i < n) : (df f n)[i]? = some (.int (f i)) := by
  unfold df; rw [List.getElem?_map, List.getElem?_eq_getElem (by simpa using h)]; simp
theorem df_at {f : Nat → Int} {n j : Nat} {i : Int} (hj : i = j) (h : j < n) : atI (df f n) i = some (.int (f j)) := by
  subst hj
  rw [atI_nat' (by simpa using h)]
  have := df_get (f := f) h
  rw [List.getElem?_eq_getElem (by simpa using h)] at this
  exact this
theorem df_ext {f g : Nat → Int} {n : Nat} (h : ∀ i, i < n → f i = g i) : df f n = df g n := List.map_congr_left fun i hi => by rw [h i (List.mem_range.mp hi)]
theorem df_set {f : Nat → Int} {n i : Nat} {v : Int} : (df f n).set i (.int v) = df (fun x => if x = i then v else f x) n := by
  apply List.ext_getElem?
  intro j
  rw [List.getElem?_set]
  by_cases h : j < n
  · rw [df_get h, df_get h]
    by_cases e : i = j
    · subst e; rw [if_pos rfl, if_pos (by simpa using h), if_pos rfl]
    · rw [if_neg e, if_neg fun z => e z.symm]
  · rw [List.getElem?_eq_none (by simpa using h), List.getElem?_eq_none (by simpa using h)]
    split
    · rw [if_neg (by simpa using (by omega : ¬ i < n))]
    · rfl
theorem df_snoc {f : Nat → Int} {n : Nat} : df f n ++ [.int (f n)] = df f (n + 1) := by
  unfold df; rw [List.range_succ, List.map_append]; rfl
theorem df_ints {f : Nat → Int} {n : Nat} : df f n = ((List.range n).map f).map .int := by
  unfold df; rw [List.map_map]; rfl
theorem ints_df (ns : List Int) : ns.map D.int = df (fun i => ns.getD i 0) ns.length := by
  apply List.ext_getElem?
  intro j
  by_cases h : j < ns.length
  · rw [df_get h, List.getElem?_map, List.getElem?_eq_getElem h, List.getD_eq_getElem?_getD, List.getElem?_eq_getElem h]; rfl
  · rw [List.getElem?_eq_none (by simpa using h), List.getElem?_eq_none (by simpa using h)]
theorem fSum_intsL (ns : List Int) : fSum (ns.map .int) = some (.int ns.sum) := by
  unfold fSum; rw [dints_of]; rfl
theorem ixN_nat {n i : Nat} (h : i < n) : ixN n (i : Int) = some i := by
  unfold ixN
  rw [if_pos (by omega), if_pos (by omega)]
  rfl
theorem toNat_sub' (a b : Nat) : ((a : Int) - (b : Int)).toNat = a - b := by omega
end Ab
end
section
set_option maxRecDepth 100000
set_option maxHeartbeats 1000000
namespace Ab
open PySem L2 PyProof.Rows PySem.Spec
variable [Hd]
section
variable {e : En} {te : TE} {s : State → Option D}
def xFld (c : String) (f : Str) (s : State → Option D) : State → Option D := fun α => match s α with | some (.ins c' fs) => if c' = c then fs.lookup f else none | _ => none
theorem repF_lookup {F : Hp} {f : Str} {d : D} : ∀ {fs : List (Str × D)} {gs : List (Str × V)}, RepF e F fs gs → fs.lookup f = some d → ∃ v, gs.lookup f = some v ∧ Rep e F d v
  | [], _, _, h => by cases h
  | (x, y) :: fs, _, ⟨v, r, q, r1, r2⟩, h => by
    subst q
    rw [List.lookup_cons] at h ⊢
    cases hx : f == x with
    | true => rw [hx] at h; cases h; exact ⟨v, rfl, r1⟩
    | false => rw [hx] at h; exact repF_lookup r2 h
theorem ev_fld {c : String} {f : Str} (hc : Cls e.K (e.cls c)) (hn : NoAttr e.K (e.cls c) f) (h : Evp e te s) : Evp e (tFld e.K te f) (xFld c f s) := fun cn L S σ H α d R q Q k => by
  unfold xFld at q
  split at q
  · rename_i c' fs hs
    split at q
    · rename_i hcc
      subst hcc
      refine h cn L S σ H α _ R hs _ fun v H1 e1 r1 => ?_
      obtain ⟨a, dx, gs, rfl, h2, h3⟩ := r1
      obtain ⟨v, h4, h5⟩ := repF_lookup h3 q
      exact ⟨a, _, dx, gs, v, rfl, fz_le _ _ h2, hc, hn, h4, k v H1 e1 h5⟩
    · cases q
  · cases q
theorem pe_fldK {X : Cx} {K : PySem.W.Frag} (hK : X.K = K) {o : Expr} {f : Str} {pos : Pos} {ta : TE} (he : PE X o ta) (hb : attributeBase o f X.env (eval o X.env) = eval o X.env := by rfl) : PE X (.Attribute o f pos) (tFld K ta f) := hK ▸ pe_fld he hb
instance (i j : Int) : Decidable (CMulW i j) := by unfold CMulW; infer_instance
instance (i j : Int) : Decidable (CDivW i j) := by unfold CDivW; infer_instance
abbrev fMulW : D → D → Option D := ii fun i j => if CMulW i j then some (.int (i * j)) else none
abbrev fDivW : D → D → Option D := ii fun i j => if CDivW i j then some (.int (i / j)) else none
theorem rv_mulW : RvD e (rI CMulW fun i j => .int (i * j)) fMulW := rv_I fun _ _ _ => rfl
theorem rv_divW : RvD e (rI CDivW fun i j => .int (i / j)) fDivW := rv_I fun _ _ _ => rfl
@[simp] theorem a_xFld {c : String} {f : Str} {α : State} : xFld c f s α = (match s α with | some (.ins c' fs) => if c' = c then fs.lookup f else none | _ => none) := (rfl)
end
end Ab
end
section
set_option maxRecDepth 100000
set_option maxHeartbeats 1000000
namespace Ab
open PySem L2 PyProof.Rows PySem.Spec
variable [Hd]
structure CalM (P : Program) (w : World) (K : PySem.W.Frag) (mg : Str → Option Value) (base : Heap) (C : Addr) (m : Str) (ps : List Str) (k : Nat) (sp : Sp) : Prop where
  ex : ∃ f fd, FnOk P w K mg base CX0 k f fd ps sp ∧ Meth K C m f ∧ Binds K fd ps []
section
variable {P : Program} {w : World} {K : PySem.W.Frag} {mg : Str → Option Value} {base : Heap} {C : Addr} {m : Str} {ps : List Str} {k j : Nat} {sp : Sp}
theorem CalM.mono (M : CalM P w K mg base C m ps k sp) (h : k ≤ j) : CalM P w K mg base C m ps j sp := by
  obtain ⟨f, fd, G, r⟩ := M.ex
  exact ⟨f, fd, G.mono h, r⟩
theorem CalM.vacuous {f : Addr} {fd : FuncData} (hm : Meth K C m f) (hb : Binds K fd ps []) (no : ∀ vs H Q E, ¬ sp vs H Q E) : CalM P w K mg base C m ps k sp :=
  ⟨f, fd, ⟨fun vs H Q E h => absurd h (no vs H Q E), fun A outer s H args us vs Q E _ _ _ _ h => absurd h (no vs H Q E)⟩, hm, hb⟩
end
structure CalI (P : Program) (w : World) (K : PySem.W.Frag) (mg : Str → Option Value) (base : Heap) (x : Str) (C : Addr) (ps : List Str) (k : Nat) (sp : Sp) : Prop where
  ex : ∃ f fd, FnOk P w K mg base CX0 k f fd ps sp ∧ Mk K C f ∧ Binds K fd ps [] ∧ mg x = some (.ref C)
def tMethV (tbl : List (Addr × Sp)) (mn : Str) (ta : TE) (t : TA) : TE := fun σ H Q => ∃ p ∈ tbl, tMeth p.1 mn p.2 [] E0 ta t σ H Q
section
variable {X : Cx} {C : Addr} {mn x : Str} {ps : List Str} {k j : Nat} {sp : Sp} {ta : TE} {o e : Expr} {es : List Expr} {t : TA} {apos pos p : Pos}
theorem pe_calm {pl : Sem Bool} (he : PE X o ta) (c : Cls X.K C) (M : CalM X.prog X.w X.K X.mg X.base C mn ps k sp) (hr : Room j X.A) (hkj : k ≤ j) (ha : PA X (e :: es) t)
    (hst : starEach (e :: es) X.env = (false, eval e X.env) :: starEach es X.env := by rfl) (hpl : (backTo pos (starEach es X.env)).any (·.1) = false := by rfl)
    (ht : eval (.Call (.Attribute o mn apos) (e :: es) [] pos) X.env = (do
      let ov ← eval o X.env
      standAt apos.atName
      let (f, first) ← holding [ov] (getMethod ov mn pl)
      callWith pos f first (backTo pos (starEach (e :: es) X.env)) (backToKw pos (keywordEach [] X.env))) := by rfl) : PE X (.Call (.Attribute o mn apos) (e :: es) [] pos) (tMeth C mn sp [] E0 ta t) := by
  obtain ⟨f, fd, G, hm, hb⟩ := M.ex
  exact pe_meth (pl := pl) he c hm G (hr.mono hkj) hb .nil pass0 ha hst hpl ht
theorem pe_calm0 {pl : Sem Bool} (he : PE X o ta) (c : Cls X.K C) (M : CalM X.prog X.w X.K X.mg X.base C mn ps k sp) (hr : Room j X.A) (hkj : k ≤ j)
    (ht : eval (.Call (.Attribute o mn apos) [] [] pos) X.env = (do
      let ov ← eval o X.env
      standAt apos.atName
      let (f, first) ← holding [ov] (getMethod ov mn pl)
      callWith pos f first (backTo pos (starEach [] X.env)) (backToKw pos (keywordEach [] X.env))) := by rfl) : PE X (.Call (.Attribute o mn apos) [] [] pos) (tMeth C mn sp [] E0 ta tNil) := by
  obtain ⟨f, fd, G, hm, hb⟩ := M.ex
  exact pe_meth0 (pl := pl) he c hm G (hr.mono hkj) hb .nil pass0 ht
theorem pe_methV {tbl : List (Addr × Sp)} {e0 : Expr} (h : ∀ p ∈ tbl, PE X e0 (tMeth p.1 mn p.2 [] E0 ta t)) : PE X e0 (tMethV tbl mn ta t) := by
  refine ⟨fun pins s σ H Q I ⟨p, hp, q⟩ => ?_⟩
  exact (h p hp).run pins s σ H Q I q
theorem pe_cali (M : CalI X.prog X.w X.K X.mg X.base x C ps k sp) (hr : Room j X.A) (hkj : k + 1 ≤ j) (hg : Gl X x) (ha : PA X (e :: es) t) (hdb : (x == ("__debug__" : Str)) = false := by decide) (he : starEach (e :: es) X.env = (false, eval e X.env) :: starEach es X.env := by rfl) (hpl : (backTo pos (starEach es X.env)).any (·.1) = false := by rfl) :
    PE X (.Call (.Name x p) (e :: es) [] pos) (tMake C sp [] E0 t) := by
  obtain ⟨f, fd, G, M, hb, hm⟩ := M.ex
  exact pe_make M G (hr.mono hkj) hg hm hb .nil pass0 ha hdb he hpl
theorem pe_cali0 (M : CalI X.prog X.w X.K X.mg X.base x C ps k sp) (hr : Room j X.A) (hkj : k + 1 ≤ j) (hg : Gl X x) (hdb : (x == ("__debug__" : Str)) = false := by decide) : PE X (.Call (.Name x p) [] [] pos) (tMake C sp [] E0 tNil) := by
  obtain ⟨f, fd, G, M, hb, hm⟩ := M.ex
  exact pe_make0 M G (hr.mono hkj) hg hm hb .nil pass0 hdb
end
section
variable {e : En} {E : XK} {te to ta tb : TE} {tr : TA} {s so : State → Option D} {sr : State → Option (List D)}
def xMeth (tbl : List (String × (List D → Option D))) (mn : Str) (so : State → Option D) (sr : State → Option (List D)) : State → Option D := fun α => bnd (so α) fun o => match o with
  | .ins c fs => (match fs.lookup mn with | none => bnd (tbl.lookup c) fun m => bnd (sr α) fun ds => m (o :: ds) | some _ => none)
  | _ => none
theorem repF_none {F : Hp} {f : Str} : ∀ {fs : List (Str × D)} {gs : List (Str × V)}, RepF e F fs gs → fs.lookup f = none → gs.lookup f = none
  | [], _, r, _ => by cases r; rfl
  | (x, y) :: fs, _, ⟨v, r, q, r1, r2⟩, h => by
    subst q
    rw [List.lookup_cons] at h ⊢
    cases hx : f == x with
    | true => rw [hx] at h; cases h
    | false => rw [hx] at h; exact repF_none r2 h
theorem mem_of_lookup {β : Type} {c : String} {m : β} : ∀ {tbl : List (String × β)}, tbl.lookup c = some m → (c, m) ∈ tbl
  | [], h => by cases h
  | (x, y) :: r, h => by
    rw [List.lookup_cons] at h
    cases hx : c == x with
    | true => rw [hx] at h; cases h; rw [beq_iff_eq.mp hx]; exact List.mem_cons_self
    | false => rw [hx] at h; exact List.mem_cons_of_mem _ (mem_of_lookup h)
def tblT (e : En) (tbl : List (String × (List D → Option D))) : List (Addr × Sp) := tbl.map fun p => (e.cls p.1, spP e p.2)
theorem ev_meth {tbl : List (String × (List D → Option D))} {mn : Str} (ho : Evp e to so) (hr : Eva e tr sr) : Evp e (tMethV (tblT e tbl) mn to tr) (xMeth tbl mn so sr) := fun c L S σ H α d R h Q q => by
  obtain ⟨o, h1, h⟩ := bnd_some h
  split at h
  · rename_i cn fs
    split at h
    · rename_i hn
      obtain ⟨m, h2, h⟩ := bnd_some h
      obtain ⟨ds, h3, h⟩ := bnd_some h
      refine ⟨(e.cls cn, spP e m), List.mem_map.mpr ⟨_, mem_of_lookup h2, rfl⟩, ?_⟩
      refine ho c L S σ H α _ R h1 _ fun v H1 e1 r1 => ?_
      obtain ⟨a, dx, gs, rfl, r2, r3⟩ := id r1
      refine ⟨a, dx, gs, rfl, fz_le _ _ r2, repF_none r3 hn, ?_⟩
      refine hr c L S σ H1 α ds (R.up e1) h3 _ fun vs H2 e2 r4 => ?_
      refine ⟨L, .ins cn fs :: ds, d, dom_up (e1.trans e2) R.dm, by rw [List.append_nil]; exact Reps.cons (Rep.up r1 (fz_same e2)) r4, h, fun v H3 e3 r5 => q v H3 ((e1.trans e2).trans e3) r5⟩
    · cases h
  · cases h
def Evb (e : En) (te : TE) (s : State → Option (String × List (Str × D))) : Prop := ∀ c L S σ H α x, Rel e c L S σ H α → s α = some x → ∀ Q : VK, (∀ p dx gs H', Sm H H' → H p = none → H' p = some (.ins (e.cls x.1) dx gs) → RepF e (fz (p :: L) H') x.2 gs → Q (.ref p) H') → te σ H Q
def xMake (c : String) (m : List A → MRes) (sr : State → Option (List D)) : State → Option (String × List (Str × D)) := fun α => bnd (sr α) fun ds => match m (.inn (.obj c []) :: ds.map .dat) with
  | .ok (.dat .non) (.inn (.obj c' fs) :: _) => if c' = c then some (c, fs) else none
  | _ => none
theorem asrep_dats {L S : List Addr} {H : Hp} : ∀ {ds : List D} {vs : List V}, Reps e (fz L H) ds vs → AsRep e L S H (ds.map A.dat) vs
  | [], _, r => r
  | d :: ds, _, ⟨v, w, q, r1, r2⟩ => ⟨v, w, q, r1, asrep_dats r2⟩
theorem count_dats : ∀ ds : List D, innCount (ds.map A.dat) = 0
  | [] => rfl
  | d :: ds => count_dats ds
theorem eb_make {c : String} {m : List A → MRes} (hr : Eva e tr sr) : Evb e (tMake (e.cls c) (spM e m) [] E tr) (xMake c m sr) := fun cn L S σ H α x R h Q q => by
  obtain ⟨ds, h1, h⟩ := bnd_some h
  refine hr cn L S σ H α ds R h1 _ fun vs H1 e1 r1 => fun p dx hp hdx hne => ?_
  have R1 := R.up e1
  have hpL : p ∉ L := (fresh_nL R1.dm hp).1
  have hdL : dx ∉ L := (fresh_nL R1.dm hdx).1
  have sN : Sm H1 (upd (upd H1 dx (.own p)) p (.ins (e.cls c) dx [])) := .of fun b o z => by rw [upd_ne (ne_of_none z hp), upd_ne (ne_of_none z hdx)]; exact z
  refine ⟨p :: L, [p], .inn (.obj c [])   :: ds.map .dat, R1.dm.new sN hp upd_same, fun b hb => by simp at hb; subst hb; simp, by simp only [innCount, count_dats]; omega, ⟨.ref p, vs ++ [], rfl, ⟨p, _, rfl, by simp, upd_same, ⟨dx, [], rfl, rfl⟩⟩, by rw [List.append_nil]; exact asrep_dats (r1.up (fz_cons sN hp))⟩, ?_, ?_, ?_⟩
  · intro r as' hm v H' md ar rr
    rw [hm] at h
    split at h
    · rename_i c' fs rest heq
      split at h
      · rename_i hcc
        cases h
        cases heq
        obtain ⟨v0, w0, q0, ⟨p0, o0, q1, m0, ho, rc⟩, _⟩ := ar
        cases q0
        cases q1
        obtain ⟨dx', gs, rfl, rF⟩ := rc
        have hpH : H p = none := none_back R.inv e1 hp
        exact ⟨rr, q p dx' gs H' ((e1.trans sN).thenM md hpH) hpH (by rw [ho, hcc]) rF⟩
      · cases h
    · cases h
  · intro x' hm
    rw [hm] at h
    cases h
  · intro hm
    rw [hm] at h
    cases h
def xIns (s : State → Option (String × List (Str × D))) : State → Option D := fun α => (s α).map fun x => .ins x.1 x.2
theorem eb_x {s : State → Option (String × List (Str × D))} (h : Evb e te s) : Evp e te (xIns s) := fun c L S σ H α d R q Q k => by
  unfold xIns at q
  cases hs : s α with
  | none => rw [hs] at q; cases q
  | some x =>
    rw [hs] at q; cases q
    refine h c L S σ H α x R hs _ fun p dx gs H' e1 n hp r => k _ H' e1 ⟨p, dx, gs, rfl, fz_new (fresh_nL R.dm n) hp, RepF.mono (fz_anti fun a m => List.mem_cons_of_mem _ m) _ _ r⟩
def sSetB (i : Nat) (s : State → Option (String × List (Str × D))) : State → Out := fun α => match s α with | some x => .nxt (α.set i (some (.own (.obj x.1 x.2)))) | none => .bad
theorem st_setB {i : Nat} {s : State → Option (String × List (Str × D))} (h : Evb e te s) : Sts e E (tAsg te (gName i)) (sSetB i s) := fun c L S σ H α D R k => by
  unfold sSetB at k
  cases hs : s α with
  | none => rw [hs] at k; exact k.elim
  | some x =>
    rw [hs] at k
    refine h c L S σ H α x R hs _ fun p dx gs H' e1 n hp r => ?_
    exact k (p :: L) (p :: S) _ H' (fz_cons e1 n) (R.setO e1 n hp ⟨dx, gs, rfl, r⟩)
def xFldO (i : Nat) (c : String) (f : Str) : State → Option D := fun α => match ctOf α[i]? with | some (.obj c' fs) => if c' = c then fs.lookup f else none | _ => none
theorem ev_fldO (i : Nat) {c : String} {f : Str} (hc : Cls e.K (e.cls c)) (hn : NoAttr e.K (e.cls c) f) : Evp e (tFld e.K (tVar i) f) (xFldO i c f) := fun cn L S σ H α d R h Q q => by
  unfold xFldO at h
  split at h
  · rename_i c' fs hs
    split at h
    · rename_i hcc
      subst hcc
      obtain ⟨p, o, h1, _, h3, dx, gs, rfl, h4⟩ := R.at hs
      obtain ⟨v, h5, h6⟩ := repF_lookup h4 h
      exact ⟨_, h1, p, _, dx, gs, v, rfl, h3, hc, hn, h5, q v H (Sm.refl H) h6⟩
    · cases h
  · cases h
def putD (f : Str) (d : D) : List (Str × D) → List (Str × D)
  | [] => [(f, d)]
  | (g, x) :: r => if g = f then (g, d) :: r else (g, x) :: putD f d r
theorem repF_put {F : Hp} {f : Str} {d : D} {v : V} (r : Rep e F d v) : ∀ {fs : List (Str × D)} {gs : List (Str × V)}, RepF e F fs gs → RepF e F (putD f d fs) (putF f v gs)
  | [], _, q => by cases q; exact ⟨v, [], rfl, r, rfl⟩
  | (x, y) :: fs, _, ⟨u, w, q, r1, r2⟩ => by
    subst q
    unfold putD putF
    by_cases h : x = f
    · rw [if_pos h, if_pos h]; exact ⟨v, w, rfl, r, r2⟩
    · rw [if_neg h, if_neg h]; exact ⟨u, _, rfl, r1, repF_put r r2⟩
theorem repF_len {F : Hp} : ∀ {fs : List (Str × D)} {gs : List (Str × V)}, RepF e F fs gs → gs.length = fs.length
  | [], _, r => by cases r; rfl
  | (x, y) :: fs, _, ⟨u, w, q, r1, r2⟩ => by subst q; simp [repF_len r2]
def sFldO (i : Nat) (c : String) (f : Str) (s : State → Res D) : State → Out := fun α => match s α with
  | .ok d α' => (match ctOf α'[i]? with | some (.obj c' fs) => if c' = c ∧ fs.length < 1000 then .nxt (putC α' i (.obj c (putD f d fs))) else .bad | _ => .bad)
  | .exc x => .exc x | .bad => .bad
theorem st_fldO {i : Nat} {c : String} {f : Str} {s : State → Res D} (hc : Cls e.K (e.cls c)) (hn : NoAttr e.K (e.cls c) f) (h : Eve e E te s) : Sts e E (sFld e.K (tVar i) te f) (sFldO i c f s) := fun cn L S σ H α D R k => by
  unfold sFldO at k
  refine h cn L S σ H α R _ (fun d α' hs v H' m R' rv => ?_) (fun x hx => by rw [hx] at k; exact k) (fun hb => by rw [hb] at k; exact k)
  rw [hs] at k
  dsimp only at k
  split at k
  · rename_i c' fs hx
    split at k
    · rename_i hcc
      obtain ⟨hcc, hl⟩ := hcc
      subst hcc
      obtain ⟨p, o, h1, mS, ho, dx, gs, rfl, rF⟩ := R'.at hx
      refine ⟨_, h1, p, _, dx, gs, rfl, ho, hc, hn, by rw [repF_len rF]; exact hl, ?_⟩
      obtain ⟨R2, m2⟩ := R'.mut hx h1 (o := .ins (e.cls c') dx (putF f v gs)) (ct' := .obj c' (putD f d fs)) ⟨dx, _, rfl, repF_put rv rF⟩
      exact k L S σ _ ((fz_mod m R.sub).trans (fz_mod m2 R'.sub)) R2
    · exact k.elim
  · exact k.elim
def xFldOV (i : Nat) (cs : List String) (f : Str) : State → Option D := fun α => match ctOf α[i]? with | some (.obj c' fs) => if c' ∈ cs then fs.lookup f else none | _ => none
theorem ev_fldOV (i : Nat) {cs : List String} {f : Str} (hc : ∀ c ∈ cs, Cls e.K (e.cls c) ∧ NoAttr e.K (e.cls c) f) : Evp e (tFld e.K (tVar i) f) (xFldOV i cs f) := fun cn L S σ H α d R h Q q => by
  unfold xFldOV at h
  split at h
  · rename_i c' fs hs
    split at h
    · rename_i hcc
      obtain ⟨p, o, h1, _, h3, dx, gs, rfl, h4⟩ := R.at hs
      obtain ⟨v, h5, h6⟩ := repF_lookup h4 h
      exact ⟨_, h1, p, _, dx, gs, v, rfl, h3, (hc _ hcc).1, (hc _ hcc).2, h5, q v H (Sm.refl H) h6⟩
    · cases h
  · cases h
def sFldOV (i : Nat) (cs : List String) (f : Str) (s : State → Res D) : State → Out := fun α => match s α with
  | .ok d α' => (match ctOf α'[i]? with | some (.obj c' fs) => if c' ∈ cs ∧ fs.length < 1000 then .nxt (putC α' i (.obj c' (putD f d fs))) else .bad | _ => .bad)
  | .exc x => .exc x | .bad => .bad
theorem st_fldOV {i : Nat} {cs : List String} {f : Str} {s : State → Res D} (hc : ∀ c ∈ cs, Cls e.K (e.cls c) ∧ NoAttr e.K (e.cls c) f) (h : Eve e E te s) : Sts e E (sFld e.K (tVar i) te f) (sFldOV i cs f s) := fun cn L S σ H α D R k => by
  unfold sFldOV at k
  refine h cn L S σ H α R _ (fun d α' hs v H' m R' rv => ?_) (fun x hx => by rw [hx] at k; exact k) (fun hb => by rw [hb] at k; exact k)
  rw [hs] at k
  dsimp only at k
  split at k
  · rename_i c' fs hx
    split at k
    · rename_i hcc
      obtain ⟨hcc, hl⟩ := hcc
      obtain ⟨p, o, h1, mS, ho, dx, gs, rfl, rF⟩ := R'.at hx
      refine ⟨_, h1, p, _, dx, gs, rfl, ho, (hc _ hcc).1, (hc _ hcc).2, by rw [repF_len rF]; exact hl, ?_⟩
      obtain ⟨R2, m2⟩ := R'.mut hx h1 (o := .ins (e.cls c') dx (putF f v gs)) (ct' := .obj c' (putD f d fs)) ⟨dx, _, rfl, repF_put rv rF⟩
      exact k L S σ _ ((fz_mod m R.sub).trans (fz_mod m2 R'.sub)) R2
    · exact k.elim
  · exact k.elim
theorem pe_ps_fldK {X : Cx} {K : PySem.W.Frag} (hK : X.K = K) {o value : Expr} {f : Str} {pos pos' : Pos} {to tv : TE} (ho : PE X o to) (hv : PE X value tv) (hs : swapsWith value (some (.Attribute o f pos')) pos.line X.env = pure false := by rfl) : PS X (.Assign [.Attribute o f pos'] value pos) (sFld K to tv f) := hK ▸ ps_fld ho hv hs
def rMethM (i : Nat) (c : String) (mn : Str) (m : List A → MRes) (sr : State → Res (List Arg)) : State → Res D := fun α => match ctOf α[i]? with
  | some (.obj c' fs) => if c' = c ∧ fs.lookup mn = none then rCallM m (aslot i sr) α else .bad
  | _ => .bad
theorem ee_methM {i : Nat} {c : String} {mn : Str} {m : List A → MRes} {sr : State → Res (List Arg)} (h : EvaE e E tr sr) : Eve e E (tMeth (e.cls c) mn (spM e m) [] E (tVar i) tr) (rMethM i c mn m sr) := fun cn L S σ H α R Q k kx nb => by
  unfold rMethM at k kx nb
  split at nb
  · rename_i c' fs hs
    split at nb
    · rename_i hcc
      simp only [hs, if_pos hcc] at k kx
      obtain ⟨hcc, hnone⟩ := hcc
      subst hcc
      obtain ⟨p, o, h1, mS, ho, dx, gs, rfl, rF⟩ := R.at hs
      have hmain := ee_callM (m := m) (eae_slot i h) cn L S σ H α R Q k kx nb
      obtain ⟨v, hv, hmain⟩ := hmain
      rw [h1] at hv
      cases hv
      exact ⟨_, h1, p, dx, gs, rfl, ho, repF_none rF hnone, hmain⟩
    · exact absurd rfl nb
  · exact absurd rfl nb
def noExcM (m : List A → MRes) : List A → MRes := fun as => match m as with | .exc _ => .bad | o => o
theorem spM_noExc {m : List A → MRes} {vs : List V} {H : Hp} {Q : VK} {E E' : XK} (h : spM e (noExcM m) vs H Q E) : spM e m vs H Q E' := by
  obtain ⟨L, S, as, dm, sub, hc, r, hq, hx, hb⟩ := h
  unfold noExcM at hq hx hb
  refine ⟨L, S, as, dm, sub, hc, r, fun r' as' hm => hq r' as' (by rw [hm]), fun x hm => ?_, fun hm => hb (by rw [hm])⟩
  rw [hm] at hb
  exact absurd rfl hb
def stepM (m : List A → MRes) (as : List Arg) (α1 : State) : Res D := match slots as with
    | [i] => (match toAs as α1 with
      | some bs => (match m bs with
        | .ok (.dat d) bs' => (match bs'.find? (fun b => match b with | .inn _ => true | _ => false) with | some (.inn ct) => .ok d (putC α1 i ct) | _ => .bad)
        | .exc x => .exc x
        | _ => .bad)
      | none => .bad)
    | _ => .bad
theorem callM_step {m : List A → MRes} {c : Cn} {L S : List Addr} {σ : L2.St} {H1 : Hp} {α1 : State} {as : List Arg} {vs : List V} {Q : VK} (R1 : Rel e c L S σ H1 α1) (r1 : ArgsRep e L σ H1 as vs)
    (k : ∀ d α', stepM m as α1 = .ok d α' → ∀ v H', Mod S H1 H' → Rel e c L S σ H' α' → Rep e (fz L H') d v → Q v H') (kx : ∀ x, stepM m as α1 = .exc x → XOk e c E x) (nb : stepM m as α1 ≠ .bad) : spM e m vs H1 Q E := by
  unfold stepM at k kx nb
  split at nb
  · rename_i i hi
    simp only [hi] at k kx
    split at nb
    · rename_i bs hbs
      simp only [hbs] at k kx
      obtain ⟨ct, hct⟩ := slots_own R1 hbs i (by rw [hi]; exact List.mem_cons_self)
      obtain ⟨p, o, hp, mS, ho, rc⟩ := R1.at hct
      obtain ⟨ar, hcount⟩ := toAs_rep (T := [p]) R1 (fun j hj q hq => by
        rw [hi] at hj
        have : j = i := by simpa using hj
        subst this
        rw [hp] at hq; cases hq; simp) hbs r1
      rw [hi] at hcount
      refine ⟨L, [p], bs, R1.dm, (fun q hq => by rw [show q = p by simpa using hq]; exact R1.sub _ mS), by rw [hcount]; exact Nat.le_refl _, ar, fun r as' hm v H' md ar' rr => ?_, fun x hm cls' dd H' md xr fr => ?_, fun hb => nb (by rw [hb])⟩
      · rw [hm] at k nb
        cases r with
        | lst xs => exact absurd rfl nb
        | dat d =>
          dsimp only at k nb
          split at nb
          · rename_i ct' hf
            simp only [hf] at k
            obtain ⟨p', o', mp, ho', rc'⟩ := find_inn ar' hf
            have : p' = p := by simpa using mp
            subst this
            obtain ⟨R2, m2⟩ := R1.mutM hct hp md ho' rc'
            exact k d _ rfl v H' m2 R2 rr
          · exact absurd rfl nb
      · rw [hm] at kx
        refine kx x rfl cls' dd H' ?_ ⟨xr.1, xr.2.elim .inl fun ⟨q, gs, a1, a2, a3⟩ => .inr ⟨q, gs, a1, a2, RepF.mono (fz_anti R1.l0) _ _ a3⟩⟩ (fun p hp => R1.h0 (fr p hp))
        refine ⟨fun a u q n nh => ?_, fun h => md.i (R1.md.i h)⟩
        refine md.k a u (R1.md.k a u q n nh) (fun z => ?_) nh
        have : a = p := by simpa using z
        subst this
        rcases R1.s1 a mS with z | z
        · exact n z
        · rw [q] at z; cases z
    · exact absurd rfl nb
  · exact absurd rfl nb
theorem rCallM_step {m : List A → MRes} {sr : State → Res (List Arg)} {α : State} : rCallM m sr α = (match sr α with | .ok as α1 => stepM m as α1 | .exc x => .exc x | .bad => .bad) := rfl
theorem ee_callM0 {m : List A → MRes} {sr : State → Res (List Arg)} (h : EvaE e E tr sr) : Eve e E (tCall (spM e m) [] E0 tr) (rCallM (noExcM m) sr) := fun c L S σ H α R Q k kx nb => by
  simp only [rCallM_step] at k kx nb
  refine h c L S σ H α R _ (fun as α1 hs vs H1 m1 R1 r1 => ?_) (fun x hx => kx x (by rw [hx])) (fun hb => nb (by rw [hb]))
  rw [hs] at k kx nb
  dsimp only at k kx nb
  show spM e m (vs ++ []) H1 Q E0
  rw [List.append_nil]
  exact spM_noExc (E := E) (callM_step R1 r1 (fun d α' hd v H' md R' rv => k d α' hd v H' (m1.trans md) R' rv) kx nb)
theorem ee_methM0 {i : Nat} {c : String} {mn : Str} {m : List A → MRes} {sr : State → Res (List Arg)} (h : EvaE e E tr sr) : Eve e E (tMeth (e.cls c) mn (spM e m) [] E0 (tVar i) tr) (rMethM i c mn (noExcM m) sr) := fun cn L S σ H α R Q k kx nb => by
  unfold rMethM at k kx nb
  split at nb
  · rename_i c' fs hs
    split at nb
    · rename_i hcc
      simp only [hs, if_pos hcc] at k kx
      obtain ⟨hcc, hnone⟩ := hcc
      subst hcc
      obtain ⟨p, o, h1, mS, ho, dx, gs, rfl, rF⟩ := R.at hs
      simp only [rCallM_step] at k kx nb
      refine ⟨_, h1, p, dx, gs, rfl, ho, repF_none rF hnone, ?_⟩
      have hmain := eae_slot i h cn L S σ H α R (fun vs H1 => spM e m vs H1 Q E0) (fun as α1 hs vs H1 m1 R1 r1 => by
        rw [hs] at k kx nb
        dsimp only at k kx nb
        exact spM_noExc (E := E) (callM_step R1 r1 (fun d α' hd v H' md R' rv => k d α' hd v H' (m1.trans md) R' rv) kx nb)) (fun x hx => kx x (by rw [hx])) (fun hb => nb (by rw [hb]))
      obtain ⟨v, hv, hmain⟩ := hmain
      rw [h1] at hv
      cases hv
      show tr σ H fun vs H2 => spM e m (V.ref p :: (vs ++ [])) H2 Q E0
      simpa using hmain
    · exact absurd rfl nb
  · exact absurd rfl nb
theorem no_M {m : List A → MRes} (h : ∀ as, m as = .bad) : ∀ vs H Q E, ¬ spM e m vs H Q E := fun vs H Q E ⟨_, _, as, _, _, _, _, _, _, hb⟩ => hb (h as)
def xFldV (cs : List String) (f : Str) (s : State → Option D) : State → Option D := fun α => match s α with | some (.ins c' fs) => if c' ∈ cs then fs.lookup f else none | _ => none
theorem ev_fldV {cs : List String} {f : Str} (hc : ∀ c ∈ cs, Cls e.K (e.cls c) ∧ NoAttr e.K (e.cls c) f) (h : Evp e te s) : Evp e (tFld e.K te f) (xFldV cs f s) := fun cn L S σ H α d R q Q k => by
  unfold xFldV at q
  split at q
  · rename_i c' fs hs
    split at q
    · rename_i hcc
      refine h cn L S σ H α _ R hs _ fun v H1 e1 r1 => ?_
      obtain ⟨a, dx, gs, rfl, h2, h3⟩ := r1
      obtain ⟨v, h4, h5⟩ := repF_lookup h3 q
      exact ⟨a, _, dx, gs, v, rfl, fz_le _ _ h2, (hc _ hcc).1, (hc _ hcc).2, h4, k v H1 e1 h5⟩
    · cases q
  · cases q
theorem isiT_q {X : Cx} {K : PySem.W.Frag} (h : X.K = K) : CallR X (.builtin "isinstance") (rIsiT K) := h ▸ call_isiT
@[simp] theorem a_xFldV {cs : List String} {f : Str} {α : State} : xFldV cs f s α = (match s α with | some (.ins c' fs) => if c' ∈ cs then fs.lookup f else none | _ => none) := (rfl)
structure InsK (K : PySem.W.Frag) (C : Addr) : Prop where
  cl : Cls K C
  ha : PySem.W.findIn K (.ref C) "__class__" = some (some (.builtin "object.__class__"))
  hm : PySem.W.mroIn K C (.type "object") = some true
structure InsB (K : PySem.W.Frag) : Prop where
  hn : PySem.W.specialIn K (.builtin "object.__class__") "__get__" = some (some (.builtin "getset_descriptor.__get__"))
  htk : PySem.W.takesIn K (.builtin "object.__class__") = some true
def fIsC (c0 : String) (tbl : List (String × Bool)) : List D → Option D := fun ds => match ds with | [.ins c fs, .cls c1] => if c1 = c0 then (tbl.lookup c).map .bl else none | _ => none
theorem rc_isC {c0 : String} {tbl : List (String × Bool)} (B : InsB e.K) (h : ∀ p ∈ tbl, InsK e.K (e.cls p.1) ∧ PySem.W.kitOne e.K (.ref (e.cls p.1)) (.ref (e.cls c0)) = some p.2) : RcD e (rIsi e.K) (fIsC c0 tbl) := fun L H ds vs d dm r q Q k => by
  unfold fIsC at q
  split at q
  · rename_i c fs c1
    split at q
    · rename_i hcc
      subst hcc
      cases hl : tbl.lookup c with
      | none => rw [hl] at q; cases q
      | some b =>
        rw [hl] at q; cases q
        obtain ⟨v, w, rfl, r1, v2, w2, rfl, r2, rfl⟩ := r
        obtain ⟨a, dx, gs, rfl, h1, h2⟩ := r1
        cases r2
        obtain ⟨I, hk⟩ := h _ (mem_of_lookup hl)
        exact ⟨.ref a, .ref _, .ref _, .ref _, b, rfl, .own _, .base (.ins (fz_le _ _ h1) I.cl I.ha B.hn B.htk I.hm), hk, k _ H (Sm.refl H) rfl⟩
    · cases q
  · cases q
theorem ev_cls {c : String} : Evp e (tC (.ref (e.cls c))) (xC (.cls c)) := ev_c fun _ => rfl
def xIsT (cs : List String) (tbl : List (String × Bool)) (s : State → Option D) : State → Option D := fun α => match s α with | some (.ins c fs) => (tbl.lookup c).map .bl | _ => none
theorem ev_isT {cs : List String} {tbl : List (String × Bool)} (hc : cs.length ≤ 1000) (B : InsB e.K) (h : ∀ p ∈ tbl, InsK e.K (e.cls p.1) ∧ PySem.W.kitAny e.K (.ref (e.cls p.1)) (cs.map fun c => .ref (e.cls c)) = some p.2) (hs : Evp e te s) {tcs : TA} (ht : Eva e tcs (fun _ => some (cs.map .cls))) :
    Evp e (tCB (rIsiT e.K) (tCons te (tCons (tTup tcs) tNil))) (xIsT cs tbl s) := fun cn L S σ H α d R q Q k => by
  unfold xIsT at q
  split at q
  · rename_i c fs hx
    cases hl : tbl.lookup c with
    | none => rw [hl] at q; cases q
    | some b =>
      rw [hl] at q; cases q
      refine hs cn L S σ H α _ R hx _ fun v H1 e1 r1 => ?_
      refine ht cn L S σ H1 α _ (R.up e1) rfl _ fun vs H2 e2 r2 => ⟨by rw [r2.len, List.length_map]; exact Nat.le_trans hc (by decide), fun p hp => ?_⟩
      have s2 : Sm H2 (upd H2 p (.tup vs)) := same_upd hp
      obtain ⟨a, dx, gs, rfl, h1, h2⟩ := r1
      obtain ⟨I, hk⟩ := h _ (mem_of_lookup hl)
      have hpr : ∀ (cs : List String) (vs : List V), Reps e (fz L H2) (cs.map .cls) vs → Paired ClsV vs (cs.map fun c => .ref (e.cls c)) := by
        intro cs
        induction cs with
        | nil => intro vs r; cases r; exact .nil
        | cons c cs ih =>
          intro vs r
          obtain ⟨v, w, rfl, r3, r4⟩ := r
          cases r3
          exact .cons (.own _) (ih w r4)
      exact ⟨.ref a, p, vs, .ref _, _, b, rfl, upd_same, hpr cs vs r2, .base (.ins (s2.k _ _ (e2.k _ _ (fz_le _ _ h1) (fz_nh h1).2) (fz_nh h1).2) I.cl I.ha B.hn B.htk I.hm), hk, k _ _ ((e1.trans e2).trans s2) rfl⟩
  · cases q
def sBad : State → Out := fun _ => .bad
theorem ps_bad {X : Cx} {st : Stmt} : PS X st (fun _ _ _ => False) := ⟨fun _ _ _ _ _ _ h => h.elim⟩
theorem st_bad : Sts e E (fun _ _ _ => False) sBad := fun c L S σ H α D R k => k
end
section
variable {α : State} {i : Nat} {so : State → Option D} {sr : State → Option (List D)} {s : State → Option (String × List (Str × D))} {r : State → Res D} {ra : State → Res (List Arg)}
@[simp] theorem a_xMeth {tbl : List (String × (List D → Option D))} {mn : Str} : xMeth tbl mn so sr α = bnd (so α) fun o => match o with
  | .ins c fs => (match fs.lookup mn with | none => bnd (tbl.lookup c) fun m => bnd (sr α) fun ds => m (o :: ds) | some _ => none)
  | _ => none := (rfl)
@[simp] theorem a_xMake {c : String} {m : List A → MRes} : xMake c m sr α = bnd (sr α) fun ds => match m (.inn (.obj c []) :: ds.map .dat) with
  | .ok (.dat .non) (.inn (.obj c' fs) :: _) => if c' = c then some (c, fs) else none
  | _ => none := (rfl)
@[simp] theorem a_xIns : xIns s α = (s α).map fun x => .ins x.1 x.2 := (rfl)
@[simp] theorem a_sSetB : sSetB i s α = (match s α with | some x => .nxt (α.set i (some (.own (.obj x.1 x.2)))) | none => .bad) := (rfl)
@[simp] theorem a_xFldO {c : String} {f : Str} : xFldO i c f α = (match ctOf α[i]? with | some (.obj c' fs) => if c' = c then fs.lookup f else none | _ => none) := (rfl)
@[simp] theorem a_sFldO {c : String} {f : Str} : sFldO i c f r α = (match r α with
  | .ok d α' => (match ctOf α'[i]? with | some (.obj c' fs) => if c' = c ∧ fs.length < 1000 then .nxt (putC α' i (.obj c (putD f d fs))) else .bad | _ => .bad)
  | .exc x => .exc x | .bad => .bad) := (rfl)
@[simp] theorem a_xFldOV {cs : List String} {f : Str} : xFldOV i cs f α = (match ctOf α[i]? with | some (.obj c' fs) => if c' ∈ cs then fs.lookup f else none | _ => none) := (rfl)
@[simp] theorem a_sFldOV {cs : List String} {f : Str} : sFldOV i cs f r α = (match r α with
  | .ok d α' => (match ctOf α'[i]? with | some (.obj c' fs) => if c' ∈ cs ∧ fs.length < 1000 then .nxt (putC α' i (.obj c' (putD f d fs))) else .bad | _ => .bad)
  | .exc x => .exc x | .bad => .bad) := (rfl)
@[simp] theorem a_rMethM {c : String} {mn : Str} {m : List A → MRes} : rMethM i c mn m ra α = (match ctOf α[i]? with
  | some (.obj c' fs) => if c' = c ∧ fs.lookup mn = none then rCallM m (aslot i ra) α else .bad
  | _ => .bad) := (rfl)
@[simp] theorem a_xIsT {cs : List String} {tbl : List (String × Bool)} : xIsT cs tbl so α = (match so α with | some (.ins c fs) => (tbl.lookup c).map .bl | _ => none) := (rfl)
@[simp] theorem a_sBad : sBad α = .bad := (rfl)
end
theorem runM_ret {n k : Nat} {s : State → Out} {as as' : List A} {r : RetV} {β : State} (hk : as.length = k) (h : s (inM n k as) = .ret r β) (hb : backA as β = some as') : runM n k s as = .ok r as' := by
  unfold runM; rw [if_pos hk, h]; dsimp only; rw [hb]
theorem runM_nxt {n k : Nat} {s : State → Out} {as as' : List A} {β : State} (hk : as.length = k) (h : s (inM n k as) = .nxt β) (hb : backA as β = some as') : runM n k s as = .ok (.dat .non) as' := by
  unfold runM; rw [if_pos hk, h]; dsimp only; rw [hb]
theorem noExc_ok {m : List A → MRes} {as as' : List A} {r : RetV} (h : m as = .ok r as') : noExcM m as = .ok r as' := by unfold noExcM; rw [h]
end Ab
end
section
set_option maxRecDepth 100000
set_option maxHeartbeats 1000000
namespace Ab
open PySem L2 PyProof.Rows PySem.Spec
variable [Hd]
section
variable {e : En} {te : TE} {s : State → Option D} {tl th : TO} {sl sh : State → Option (Option Int)}
def Str.l (z : Str) : List Nat := z.cps.toList
def fInS (neg : Bool) : D → D → Option D := fun a b => match a, b with
  | .str z, .str y => (match z.cps.toList with | [c] => some (.bl (if neg then !decide (c ∈ y.cps.toList) else decide (c ∈ y.cps.toList))) | _ => none)
  | _, _ => none
theorem one_of {z : Str} {c : Nat} (h : z.cps.toList = [c]) : z = ⟨#[c]⟩ := by
  cases z with
  | mk cps => congr 1; exact Array.toList_inj.mp h
theorem rv_ins : RvD e (fun x y H Q => ∃ (c : Nat) (z : Str), x = .str ⟨#[c]⟩ ∧ y = .str z ∧ Q (.bl (decide (c ∈ z.cps.toList))) H) (fInS false) := fun L H dx dy x y d dm rx ry h Q q => by
  unfold fInS at h
  split at h
  · split at h
    · rename_i hz
      cases h; cases rx; cases ry
      exact ⟨_, _, by rw [one_of hz], rfl, q _ H (Sm.refl H) rfl⟩
    · cases h
  · cases h
theorem rv_nis : RvD e (fun x y H Q => ∃ (c : Nat) (z : Str), x = .str ⟨#[c]⟩ ∧ y = .str z ∧ Q (.bl (!decide (c ∈ z.cps.toList))) H) (fInS true) := fun L H dx dy x y d dm rx ry h Q q => by
  unfold fInS at h
  split at h
  · split at h
    · rename_i hz
      cases h; cases rx; cases ry
      exact ⟨_, _, by rw [one_of hz], rfl, q _ H (Sm.refl H) rfl⟩
    · cases h
  · cases h
def xSlS (s : State → Option D) (sl sh : State → Option (Option Int)) : State → Option D := fun α => bnd (s α) fun d => bnd (sl α) fun lo => bnd (sh α) fun hi => match d with
  | .str z => if z.length ≤ 100000 then some (.str (cutS z lo hi)) else none
  | _ => none
theorem ev_slS (h : Evp e te s) (hl : Evo e tl sl) (hh : Evo e th sh) : Evp e (L2.tSl rSlS te tl th) (xSlS s sl sh) := fun c L S σ H α d R q Q k => by
  obtain ⟨x, h1, q⟩ := bnd_some q
  obtain ⟨lo, h2, q⟩ := bnd_some q
  obtain ⟨hi, h3, q⟩ := bnd_some q
  refine h c L S σ H α x R h1 _ fun v H1 e1 r1 => ?_
  refine hl c L S σ H1 α lo (R.up e1) h2 _ fun H2 e2 => ?_
  refine hh c L S σ H2 α hi (R.up (e1.trans e2)) h3 _ fun H3 e3 => ?_
  split at q
  · split at q
    · rename_i hz
      cases q; cases r1
      exact ⟨_, rfl, sz_of hz, k _ H3 (e1.trans (e2.trans e3)) rfl⟩
    · cases q
  · cases q
def signs (z : Str) : List D := z.cps.toList.map fun c => .str ⟨#[c]⟩
def xSigns (s : State → Option D) : State → Option (List D) := fun α => match s α with | some (.str z) => some (signs z) | _ => none
theorem ei_str (h : Evp e te s) : Evi e (iStr te) (xSigns s) := fun c L S σ H α xs R q W k => by
  unfold xSigns at q
  split at q
  · rename_i z hs
    cases q
    refine h c L S σ H α _ R hs _ fun v H' e1 r => ?_
    cases r
    refine ⟨z, rfl, k _ H' e1 fun L2 H2 s2 _ i => ⟨fun hi => ?_, fun hi => ?_, fun x v H3 hx ⟨e3, c, hc, ev⟩ => ?_⟩⟩
    · show i < z.cps.size
      simpa [signs] using hi
    · show z.cps.size ≤ i
      simpa [signs] using hi
    · subst e3 ev
      refine ⟨Sm.refl _, ?_⟩
      unfold signs at hx
      rw [List.getElem?_map, Array.getElem?_toList, hc] at hx
      cases hx
      rfl
  · cases q
def fUp : D → Option D := fun d => match d with | .str a => if a.length ≤ 100000 then some (.str (Txt.upper a)) else none | _ => none
theorem ev_upper (h : Evp e te s) : Evp e (tM0 (fun x xs H Q => ∃ a, x = .str a ∧ xs = [] ∧ a.length ≤ 5592405 ∧ Q (.str (Txt.upper a)) H) te) (x1 fUp s) := fun c L S σ H α d R q Q k => by
  obtain ⟨a, h1, q⟩ := bnd_some q
  refine h c L S σ H α a R h1 _ fun v H1 e1 r1 => ?_
  unfold fUp at q
  split at q
  · split at q
    · cases q; cases r1
      exact ⟨⟨_, rfl⟩, _, rfl, rfl, Nat.le_trans (by assumption) (by decide), k _ H1 e1 rfl⟩
    · cases q
  · cases q
def fInt1 : List D → Option D := fun ds => match ds with | [.int i] => some (.int i) | [.bl k] => some (.int (if k then 1 else 0)) | _ => none
theorem rc_int1 : RcD e (fun xs H Q => (∃ i, xs = [.int i] ∧ Q (.int i) H) ∨ ∃ k, xs = [.bl k] ∧ Q (.int (if k then 1 else 0)) H) fInt1 := fun L H ds vs d dm r q Q k => by
  unfold fInt1 at q
  split at q
  · cases q
    obtain ⟨v, _, rfl, r1, r2⟩ := r
    cases r1; cases r2
    exact .inl ⟨_, rfl, k _ H (Sm.refl H) rfl⟩
  · cases q
    obtain ⟨v, _, rfl, r1, r2⟩ := r
    cases r1; cases r2
    exact .inr ⟨_, rfl, k _ H (Sm.refl H) rfl⟩
  · cases q
end
theorem pe_gs {X : Cx} {x : Str} {v : V} {pos : Pos} (hg : Gl X x) (h : ∃ u, X.mg x = some u ∧ RelV v u) (hd : (x == ("__debug__" : Str)) = false := by decide) : PE X (.Name x pos) (tC v) := by
  obtain ⟨u, hm, r⟩ := h
  exact pe_glob hg hm r hd
section
variable {s : State → Option D} {sl sh : State → Option (Option Int)} {α : State}
@[simp] theorem a_xSlS : xSlS s sl sh α = bnd (s α) fun d => bnd (sl α) fun lo => bnd (sh α) fun hi => (match d with
  | .str z => if z.length ≤ 100000 then some (.str (cutS z lo hi)) else none
  | _ => none) := (rfl)
@[simp] theorem a_xSigns : xSigns s α = (match s α with | some (.str z) => some (signs z) | _ => none) := (rfl)
@[simp] theorem a_lenS {z : Str} : fLenS [.str z] = if z.length ≤ 100000 then some (.int z.length) else none := (rfl)
@[simp] theorem a_catS {a b : Str} : fCatS (.str a) (.str b) = if a.length + b.length ≤ 100000 then some (.str (a ++ b)) else none := (rfl)
@[simp] theorem a_up {a : Str} : fUp (.str a) = if a.length ≤ 100000 then some (.str (Txt.upper a)) else none := (rfl)
@[simp] theorem a_inS {neg : Bool} {c : Nat} {y : Str} : fInS neg (.str ⟨#[c]⟩) (.str y) = some (.bl (if neg then !decide (c ∈ y.cps.toList) else decide (c ∈ y.cps.toList))) := (rfl)
@[simp] theorem a_int1I {i : Int} : fInt1 [.int i] = some (.int i) := (rfl)
@[simp] theorem a_int1B {i : Bool} : fInt1 [.bl i] = some (.int (if i then 1 else 0)) := (rfl)
@[simp] theorem a_isiBB {b : Bool} : fIsi [.bl b, .ty "bool"] = some (.bl true) := (rfl)
theorem cutS_len (z : Str) (lo hi : Option Int) : (cutS z lo hi).length ≤ z.length := by
  unfold cutS Str.length
  simp
  omega
theorem ixS_at {z : Str} {i : Int} (h : z.length ≤ 100000) (h0 : 0 ≤ i) (h1 : i < (z.length : Int)) : ∃ c, fIxS (.str z) (.int i) = some (.str ⟨#[c]⟩) := by
  obtain ⟨j, rfl⟩ : ∃ j : Nat, i = j := ⟨i.toNat, by omega⟩
  have hl : j < z.cps.toList.length := by simpa [Str.length] using h1
  refine ⟨z.cps.toList[j], ?_⟩
  unfold fIxS
  show (if z.length ≤ 100000 then (atI z.cps.toList (j : Int)).map fun c => D.str ⟨#[c]⟩ else none) = _
  rw [if_pos h, atI_nat' hl]
  rfl
@[simp] theorem len_one {c : Nat} : (⟨#[c]⟩ : Str).length = 1 := rfl
end
end Ab
end
section
set_option maxRecDepth 100000
set_option maxHeartbeats 1000000
namespace Ab
open PySem L2 PyProof.Rows PySem.Spec
variable [Hd]
section
variable {e : En} {te to : TE} {s so : State → Option D} {sq : State → Option (List D)}
def xSplit (so s : State → Option D) : State → Option (List D) := fun α => match so α, s α with
  | some (.str a), some (.str b) => if (b.length == 0) = false ∧ a.length + 2 ≤ 100000 then some ((Txt.split a b).map .str) else none
  | _, _ => none
theorem reps_strs {F : Hp} : ∀ ys : List Str, Reps e F (ys.map D.str) (ys.map V.str)
  | [] => Reps.nil
  | a :: r => Reps.cons rfl (reps_strs r)
theorem el_split (ho : Evp e to so) (h : Evp e te s) : Evl e (tM1 (fun x xs H Q => ∃ a b, x = .str a ∧ xs = [.str b] ∧ (b.length == 0) = false ∧ a.length + 2 ≤ sizeLine ∧ rNewStrs (Txt.split a b) H Q) to te) (xSplit so s) := fun c L S σ H α xs R q Q k => by
  unfold xSplit at q
  split at q
  · rename_i a b h1 h2
    split at q
    · rename_i hc
      cases q
      refine ho c L S σ H α _ R h1 _ fun v H1 e1 r1 => ?_
      cases r1
      refine ⟨⟨_, rfl⟩, h c L S σ H1 α _ (R.up e1) h2 _ fun u H2 e2 r2 => ?_⟩
      cases r2
      refine ⟨a, b, rfl, rfl, hc.1, sz_of hc.2, fun p hp => ?_⟩
      have s4 : Sm H2 (upd H2 p (.lst ((Txt.split a b).map V.str))) := same_upd hp
      have e12 := e1.trans e2
      exact k p _ _ (e12.trans s4) (none_back R.inv e12 hp) upd_same (reps_strs _)
    · cases q
  · cases q
def djstrs : List D → Option (List Str)
  | [] => some []
  | .str i :: r => (djstrs r).map (i :: ·)
  | _ => none
theorem djstrs_of (ns : List Str) : djstrs (ns.map D.str) = some ns := by
  induction ns with
  | nil => rfl
  | cons a r ih => simp [djstrs, ih]
theorem djstrs_eq : ∀ {ds : List D} {ns : List Str}, djstrs ds = some ns → ds = ns.map .str
  | [], _, h => by cases h; rfl
  | .str i :: ds, _, h => by
    cases hs : djstrs ds with
    | none => simp [djstrs, hs] at h
    | some ns => simp [djstrs, hs] at h; subst h; rw [djstrs_eq hs]; rfl
  | .int _ :: _, _, h => by simp [djstrs] at h
  | .non :: _, _, h => by simp [djstrs] at h
  | .bl _ :: _, _, h => by simp [djstrs] at h
  | .tup _ :: _, _, h => by simp [djstrs] at h
  | .lst _ :: _, _, h => by simp [djstrs] at h
  | .ins _ _ :: _, _, h => by simp [djstrs] at h
  | .ty _ :: _, _, h => by simp [djstrs] at h
  | .cls _ :: _, _, h => by simp [djstrs] at h
theorem reps_strs_eq {F : Hp} : ∀ {ys : List Str} {vs : List V}, Reps e F (ys.map D.str) vs → vs = ys.map V.str
  | [], _, r => by cases r; rfl
  | y :: ys, _, ⟨v, w, q, r1, r2⟩ => by subst q; cases r1; rw [reps_strs_eq r2]; rfl
def fJoin (a : Str) (xs : List D) : Option D := bnd (djstrs xs) fun ys => if (ys.map (·.length)).sum + ys.length * a.length ≤ 100000 then some (.str (Txt.join a ys)) else none
def xJoin (so : State → Option D) (sq : State → Option (List D)) : State → Option D := fun α => match so α with | some (.str a) => bnd (sq α) (fJoin a) | _ => none
theorem ev_joinL {K : PySem.W.Frag} (hK : K = e.K) (ho : Evp e to so) (h : EvqL e te sq) : Evp e (tM1 (fun x xs H Q => ∃ a p, ∃ ys : List Str, x = .str a ∧ xs = [.ref p] ∧ (SqL K H p (ys.map V.str) ∨ SqT K H p (ys.map V.str)) ∧
      (ys.map (·.length)).sum + ys.length * a.length ≤ 16777216 ∧ Q (.str (Txt.join a ys)) H) to te) (xJoin so sq) := fun c L S σ H α d R q Q k => by
  subst hK
  unfold xJoin at q
  split at q
  · rename_i a h1
    obtain ⟨xs, h2, q⟩ := bnd_some q
    obtain ⟨ys, h3, q⟩ := bnd_some q
    split at q
    · rename_i hc
      cases q
      refine ho c L S σ H α _ R h1 _ fun v H1 e1 r1 => ?_
      cases r1
      refine ⟨⟨_, rfl⟩, h c L S σ H1 α _ (R.up e1) h2 _ fun p vs H2 e2 r2 r3 => ?_⟩
      rw [djstrs_eq h3] at r3
      rw [reps_strs_eq r3] at r2
      exact ⟨a, p, ys, rfl, rfl, .inl (fz_le.seq r2), Nat.le_trans hc (by decide), k _ H2 (e1.trans e2) rfl⟩
    · cases q
  · cases q
theorem pe_joinK {X : Cx} {K : PySem.W.Frag} (hK : X.K = K) {o e : Expr} {apos pos : Pos} {to te : TE} (ho : PE X o to) (he : PE X e te) (hs : starEach [e] X.env = [(false, eval e X.env)] := by rfl) (hbase : attributeBase o "join" X.env (eval o X.env) = eval o X.env := by rfl) (hline : (apos.endLine == pos.line) = true := by rfl) :
    PE X (.Call (.Attribute o "join" apos) [e] [] pos) (tM1 (fun x xs H Q => ∃ a p, ∃ ys : List Str, x = .str a ∧ xs = [.ref p] ∧ (SqL K H p (ys.map V.str) ∨ SqT K H p (ys.map V.str)) ∧
      (ys.map (·.length)).sum + ys.length * a.length ≤ 16777216 ∧ Q (.str (Txt.join a ys)) H) to te) := hK ▸ pe_join ho he hs hbase hline
def fIxC (kvs : List (Str × D)) : D → Option D := fun d => match d with | .str t => kvs.lookup t | _ => none
theorem ev_ixC {w : World} {q : Addr} {kvs : List (Str × D)} (h : ∀ p ∈ kvs, flat p.2 = true ∧ KDct e.K w q p.1 (dv p.2)) (hs : Evp e te s) : Evp e (tOp (rIxD e.K w) (tC (.ref q)) te) (x1 (fIxC kvs) s) := fun c L S σ H α d R hq Q k => by
  obtain ⟨a, h1, hq⟩ := bnd_some hq
  unfold fIxC at hq
  split at hq
  · rename_i t
    have hm : (t, d) ∈ kvs := by
      have go : ∀ kvs : List (Str × D), kvs.lookup t = some d → (t, d) ∈ kvs := by
        intro kvs
        induction kvs with
        | nil => intro h; cases h
        | cons p r ih =>
          intro h
          obtain ⟨x, y⟩ := p
          rw [List.lookup_cons] at h
          cases hx : t == x with
          | true => rw [hx] at h; cases h; rw [beq_iff_eq.mp hx]; exact List.mem_cons_self
          | false => rw [hx] at h; exact List.mem_cons_of_mem _ (ih h)
      exact go kvs hq
    obtain ⟨f1, f2⟩ := h _ hm
    refine hs c L S σ H α _ R h1 _ fun v H1 e1 r1 => ?_
    cases r1
    exact ⟨q, t, dv d, rfl, rfl, f2, k _ H1 e1 (rep_of_flat f1)⟩
  · cases hq
theorem ixd {X : Cx} {K : PySem.W.Frag} {w : World} (h : X.K = K) (h' : X.w = w) : IxR X (rIxD K w) := h ▸ h' ▸ ix_kdict
def isDic (w : World) (o : Obj) : Prop := ∃ (es : Array DictEntry) (n : Nat), o = ⟨.type "dict", none, .dict es n, #[]⟩ ∧ PySem.W.KeysLit w.params es.toList
theorem kdct_mk {K : PySem.W.Frag} {w : World} {a : Addr} {o : Obj} {x : Str} {v : V} {u : Value} (h : K.lookup a = some o) (d : isDic w o) (hn : PySem.W.nsIn K a x = some (some u)) (r : RelV v u) : KDct K w a x v := by
  obtain ⟨es, n, rfl, hk⟩ := d
  exact ⟨es, n, u, h, hk, hn, r⟩
end
section
variable {α : State} {so s : State → Option D} {sq : State → Option (List D)}
@[simp] theorem a_xSplit : xSplit so s α = (match so α, s α with
  | some (.str a), some (.str b) => if (b.length == 0) = false ∧ a.length + 2 ≤ 100000 then some ((Txt.split a b).map .str) else none
  | _, _ => none) := (rfl)
@[simp] theorem a_xJoin : xJoin so sq α = (match so α with | some (.str a) => bnd (sq α) (fJoin a) | _ => none) := (rfl)
@[simp] theorem a_fIxC {kvs : List (Str × D)} {t : Str} : fIxC kvs (.str t) = kvs.lookup t := (rfl)
end
end Ab
end
section
set_option maxRecDepth 100000
set_option maxHeartbeats 1000000
namespace Ab
open PySem L2 PyProof.Rows PySem.Spec
variable [Hd]
def ItzT (K : PySem.W.Frag) (a b : Addr) : It :=
  ⟨fun i H => ∃ (xs ys : List V) (x y : V), SqT K H a xs ∧ SqT K H b ys ∧ xs[i]? = some x ∧ ys[i]? = some y,
    fun i H v H' => ∃ T x y, v = .ref T ∧ H T = none ∧ H' = upd H T (.tup [x, y]) ∧ (∀ xs, SqT K H a xs → xs[i]? = some x) ∧ ∀ ys, SqT K H b ys → ys[i]? = some y,
    fun i H => ∃ xs ys : List V, SqT K H a xs ∧ SqT K H b ys ∧ (xs.length ≤ i ∨ ys.length ≤ i)⟩
theorem turn_zipT {P : Program} {w : World} {K : PySem.W.Frag} {elts : List Expr} {kk : Nat} {tpos : Pos} {a b z TI TO i1 i2 : Addr} (D : ZipApart z TI TO i1 i2 a b) :
    Turn P w K (.Tuple elts kk tpos) (ItzT K a b) [z, TI, TO, i1, i2] z (fun i h => IsZip h z TI TO .none ∧ IsPair h TI (.ref i1) (.ref i2) ∧ (∃ x y, IsPair h TO x y) ∧ h.IsTupleIter i1 a i ∧ h.IsTupleIter i2 b i) where
  mem := by simp
  obj := fun i h st c hc => by
    obtain ⟨hz, hTI, ⟨x, y, hTO⟩, ⟨o1, e1, _, d1⟩, ⟨o2, e2, _, d2⟩⟩ := st
    have e' : c = z ∨ c = TI ∨ c = TO ∨ c = i1 ∨ c = i2 := by simpa using hc
    rcases e' with q | q | q | q | q
    · rw [q]; exact ⟨_, hz, fun v q => nomatch q⟩
    · rw [q]; exact ⟨_, hTI, fun v q => nomatch q⟩
    · rw [q]; exact ⟨_, hTO, fun v q => nomatch q⟩
    · rw [q]; exact ⟨o1, e1, fun v q => by rw [d1] at q; cases q⟩
    · rw [q]; exact ⟨o2, e2, fun v q => by rw [d2] at q; cases q⟩
  keep := fun i h h' st k => by
    obtain ⟨hz, hTI, ⟨x, y, hTO⟩, h1, h2⟩ := st
    exact ⟨k z (by simp) _ hz, k TI (by simp) _ hTI, ⟨x, y, k TO (by simp) _ hTO⟩, h1.at fun o q => k i1 (by simp) o q, h2.at fun o q => k i2 (by simp) o q⟩
  item := by
    intro X hP hw hK hc i pins s σ H E I hf st hg
    subst hP hw hK
    obtain ⟨hz, hTI, ⟨x0, y0, hTO⟩, h1, h2⟩ := st
    obtain ⟨xs, ys, x, y, hqx, hqy, hx, hy⟩ := hg
    obtain ⟨its, rv, p, _⟩ := I.tuple hqx
    obtain ⟨its2, rv2, p2, _⟩ := I.tuple hqy
    obtain ⟨u, hu, ru⟩ := rv.get hx
    obtain ⟨u2, hu2, ru2⟩ := rv2.get hy
    have hzl : z < s.heap.objs.size := Heap.lt_size hz
    refine RZ.pyNext_zipT_item D hz hTI hTO h1 h2 p p2 (x := u) (y := u2) (by simpa using hu) (by simpa using hu2) fun h' z' TO' h1' h2' hT hsz hk => ?_
    refine ⟨_, rfl, wpAny_letOwnedTupleGo_zip (s := { s with heap := h' }) z' fun h'' z'' sb => ?_⟩
    have hT2 : h''.get? s.heap.objs.size = some { cls := .type "tuple", data := .seq #[u, u2] } := (sb.2 _ (Nat.ne_of_gt hzl)).trans hT
    have new : ObjOk X.prog X.w (upd H s.heap.objs.size (.tup [x, y])) h'' s.heap.objs.size (.tup [x, y]) :=
      ⟨by show 2 ≤ sizeLine; decide, [u, u2], .cons ru (.cons ru2 .nil), ⟨_, hT2, rfl, _, rfl⟩⟩
    have I1 : Inv X pins σ (upd H s.heap.objs.size (.tup [x, y])) { s with heap := h'' } :=
      I.turnedNew (t' := s.toks) (ch := [z, TI, TO, i1, i2]) (fun c o hb q => (sb.2 c (fun q' => hb (by simp [q']))).trans (hk c o (fun q' => hb (by simp [q'])) (fun q' => hb (by simp [q'])) (fun q' => hb (by simp [q'])) (fun q' => hb (by simp [q'])) q)) hf (Nat.le_refl _) new
    refine ⟨.ref s.heap.objs.size, _, I1, rfl, ⟨_, x, y, rfl, I.hok.fresh (Nat.le_refl _), rfl, fun l hl => by rw [I.tuple_inj hl hqx]; exact hx, fun l hl => by rw [I.tuple_inj hl hqy]; exact hy⟩, ⟨z'', ?_, ⟨u, u2, ?_⟩, ?_, ?_⟩, fun c hcm => ?_⟩
    · exact (sb.2 _ D.TIz).trans (hk _ _ D.TIz D.TITO D.TIi1 D.TIi2 hTI)
    · exact (sb.2 _ D.TOz).trans TO'
    · exact h1'.at fun o q => (sb.2 _ D.i1z).trans q
    · exact h2'.at fun o q => (sb.2 _ D.i2z).trans q
    · have hlt : c < s.heap.objs.size := by
        have e' : c = z ∨ c = TI ∨ c = TO ∨ c = i1 ∨ c = i2 := by simpa using hcm
        rcases e' with q | q | q | q | q
        · rw [q]; exact hzl
        · rw [q]; exact Heap.lt_size hTI
        · rw [q]; exact Heap.lt_size hTO
        · rw [q]; obtain ⟨_, e1, _⟩ := h1; exact Heap.lt_size e1
        · rw [q]; obtain ⟨_, e2, _⟩ := h2; exact Heap.lt_size e2
      rw [upd_ne (Nat.ne_of_lt hlt)]
      exact (hf c hcm).1
  done := by
    intro X hP hw hK hc i pins s σ H E I hf st hg
    subst hP hw hK
    obtain ⟨hz, hTI, ⟨x0, y0, hTO⟩, h1, h2⟩ := st
    obtain ⟨xs, ys, hqx, hqy, hend⟩ := hg
    obtain ⟨its, rv, p, _⟩ := I.tuple hqx
    obtain ⟨its2, rv2, p2, _⟩ := I.tuple hqy
    have l1 := rv.length
    have l2 := rv2.length
    have he : its.toArray[i]? = none ∨ its2.toArray[i]? = none := by
      rcases hend with q | q
      · exact .inl (by simp; omega)
      · exact .inr (by simp; omega)
    exact RZ.pyNext_zipT_end (I.ok.hd hc) D hz hTI hTO h1 h2 p p2 he fun h' hk => ⟨rfl, I.turnedL (t' := s.toks) (ch := [z, TI, TO, i1, i2]) (fun c o hb q =>
      hk c o (fun q' => hb (by simp [q'])) (fun q' => hb (by simp [q'])) (fun q' => hb (by simp [q'])) (fun q' => hb (by simp [q'])) q) hf⟩
  self := fun A i s Q E st h => wpAny_pyIter_zip st.1 h
def iZipT (K : PySem.W.Frag) (ta : TA) : TI := fun σ H R => ta σ H fun vs H1 => ∃ a b xs ys, vs = [.ref a, .ref b] ∧ SqT K H1 a xs ∧ SqT K H1 b ys ∧ R (ItzT K a b) H1
theorem pi_zipT {X : Cx} {K : PySem.W.Frag} (hK : X.K = K) {e e2 : Expr} {ta : TA} {p pos tpos : Pos} {elts : List Expr} {kk : Nat} (hg : Gl X "zip") (hm : X.mg "zip" = none) (ha : PA X [e, e2] ta)
    (hs : starEach [e, e2] X.env = (false, eval e X.env) :: starEach [e2] X.env := by rfl) (hpl : (backTo pos (starEach [e2] X.env)).any (·.1) = false := by rfl) :
    PI X (.Tuple elts kk tpos) (.Call (.Name "zip" p) [e, e2] [] pos) (iZipT K ta) := by
  subst hK
  refine ⟨fun pins s σ H R I h => ?_⟩
  refine Call_ (ld_blt I hg hm PyProof.Rows.boot_zip (PyProof.Rows.callWith_type1 (thn (ha.run pos pins s σ H _ I h) fun us s1 ⟨vs, H1, I1, r1, q1⟩ => ?_) hs hpl))
  obtain ⟨a, b, xs, ys, ex, hqx, hqy, q⟩ := q1
  subst ex
  cases r1 with
  | cons r rr =>
    cases rr with
    | cons r' rr =>
      cases rr
      cases r
      cases r'
      obtain ⟨its, rv, p1, _⟩ := I1.tuple hqx
      obtain ⟨its2, rv2, p2, _⟩ := I1.tuple hqy
      have la : a < s1.heap.objs.size := by obtain ⟨_, q, _⟩ := p1; exact Heap.lt_size q
      have lb : b < s1.heap.objs.size := by obtain ⟨_, q, _⟩ := p2; exact Heap.lt_size q
      refine RZ.call_zipT p1 p2 fun h' hz hTI hTO h1 h2 hsz hk => wpAny_pyIter_zip hz ?_
      have I2 : Inv X pins σ H1 { s1 with heap := h' } := I1.kept (t' := s1.toks) hk
      refine ⟨s1.heap.objs.size + 4, [s1.heap.objs.size + 4, s1.heap.objs.size + 2, s1.heap.objs.size + 3, s1.heap.objs.size, s1.heap.objs.size + 1], _, _, H1, rfl, I2, turn_zipT (PySem.W.ktu_apart s1.heap.objs.size a b la lb), ⟨hz, hTI, ⟨_, _, hTO⟩, h1, h2⟩, fun c hcm => ?_, q⟩
      have e' : c = s1.heap.objs.size + 4 ∨ c = s1.heap.objs.size + 2 ∨ c = s1.heap.objs.size + 3 ∨ c = s1.heap.objs.size ∨ c = s1.heap.objs.size + 1 := by simpa using hcm
      have hle : s1.heap.objs.size ≤ c := by
        rcases e' with z | z | z | z | z
        · rw [z]; exact Nat.le_add_right _ _
        · rw [z]; exact Nat.le_add_right _ _
        · rw [z]; exact Nat.le_add_right _ _
        · rw [z]; exact Nat.le_refl _
        · rw [z]; exact Nat.le_add_right _ _
      exact I1.fpOk hle (I1.hok.fresh hle)
def zipD : List D → List D → List D
  | x :: xs, y :: ys => .tup [x, y] :: zipD xs ys
  | _, _ => []
theorem zipD_get : ∀ {xs ys : List D} {i : Nat} {d : D}, (zipD xs ys)[i]? = some d → ∃ x y, xs[i]? = some x ∧ ys[i]? = some y ∧ d = .tup [x, y]
  | [], _, _, _, h => by simp [zipD] at h
  | _ :: _, [], _, _, h => by simp [zipD] at h
  | x :: xs, y :: ys, 0, d, h => by simp [zipD] at h; exact ⟨x, y, rfl, rfl, h.symm⟩
  | x :: xs, y :: ys, i + 1, d, h => by
    simp only [zipD, List.getElem?_cons_succ] at h ⊢
    exact zipD_get h
theorem zipD_len : ∀ (xs ys : List D), (zipD xs ys).length = min xs.length ys.length
  | [], _ => by simp [zipD]
  | _ :: _, [] => by simp [zipD]
  | x :: xs, y :: ys => by simp only [zipD, List.length_cons, zipD_len xs ys]; omega
section
variable {e : En} {ta tb : TE} {sa sb : State → Option D}
def xZipT (sa sb : State → Option D) : State → Option (List D) := fun α => match sa α, sb α with | some (.tup xs), some (.tup ys) => some (zipD xs ys) | _, _ => none
theorem ei_zipT (ha : Evp e ta sa) (hb : Evp e tb sb) : Evi e (iZipT e.K (tCons ta (tCons tb tNil))) (xZipT sa sb) := fun c L S σ H α xs R q W k => by
  unfold xZipT at q
  split at q
  · rename_i us ws hu hw
    cases q
    refine ha c L S σ H α _ R hu _ fun v H1 e1 ⟨a, vs, e2, r1, r2⟩ => ?_
    subst e2
    refine hb c L S σ H1 α _ (R.up e1) hw _ fun v' H2 e3 ⟨b, vs2, e4, r3, r4⟩ => ?_
    subst e4
    have r1' := same_t (fz_same (L := L) e3) r1
    have r2' := r2.up (fz_same (L := L) e3)
    refine ⟨a, b, vs, vs2, rfl, same_t fz_le r1', same_t fz_le r3, k _ H2 (e1.trans e3) fun L2 H3 s2 dm i => ?_⟩
    have t1 : SqT e.K H3 a vs := same_t fz_le (same_t s2 r1')
    have t2 : SqT e.K H3 b vs2 := same_t fz_le (same_t s2 r3)
    have l1 := r2.len
    have l2 := r4.len
    rw [zipD_len]
    refine ⟨fun hi => ⟨vs, vs2, vs[i]'(by omega), vs2[i]'(by omega), t1, t2, List.getElem?_eq_getElem _, List.getElem?_eq_getElem _⟩, fun hi => ⟨vs, vs2, t1, t2, by omega⟩, fun x v H4 hx ⟨T, y1, y2, e5, n, e6, yy1, yy2⟩ => ?_⟩
    subst e5 e6
    obtain ⟨d1, d2, g1, g2, g3⟩ := zipD_get hx
    subst g3
    obtain ⟨v1, g4, g5⟩ := r2'.get g1
    obtain ⟨v2, g6, g7⟩ := r4.get g2
    have q1 : v1 = y1 := Option.some.inj (g4.symm.trans (yy1 vs t1))
    have q2 : v2 = y2 := Option.some.inj (g6.symm.trans (yy2 vs2 t2))
    subst q1 q2
    have s3 : Sm H3 (upd H3 T (.tup [v1, v2])) := same_upd n
    exact ⟨s3, T, _, rfl, .inl (.inl (fz_new (fresh_nL dm n) upd_same)), Reps.cons (g5.up (s2.trans (fz_same s3))) (Reps.cons (g7.up (s2.trans (fz_same s3))) Reps.nil)⟩
  · cases q
end
def rAll (K : PySem.W.Frag) : List V → Hp → VK → Prop := fun xs H Q => ∃ (a : Addr) (bs : List Bool), xs = [.ref a] ∧ SqL K H a (bs.map V.bl) ∧ Q (.bl (bs.all id)) H
theorem bools_of : ∀ {bs : List Bool} {us : List Value}, Vals (bs.map V.bl) us → us = bs.map Value.bool
  | [], _, r => by cases r; rfl
  | b :: bs, _, r => by
    cases r with
    | cons r1 r2 => rw [bools_of r2]; cases r1; rfl
theorem range_all' : ∀ (bs : List Bool), ((List.range bs.length).all fun i => (bs[i]?).getD true) = bs.all id
  | bs => by
    rw [Bool.eq_iff_iff, List.all_eq_true, List.all_eq_true]
    constructor
    · intro h b hb
      obtain ⟨i, hi, e⟩ := List.getElem_of_mem hb
      have := h i (List.mem_range.mpr hi)
      rw [List.getElem?_eq_getElem hi, e] at this
      exact this
    · intro h i hi
      have hi := List.mem_range.mp hi
      rw [List.getElem?_eq_getElem hi]
      exact h _ (List.getElem_mem hi)
theorem cr_all {X : Cx} (hc : X.calm = true) : CallR X (.builtin "all") (rAll X.K) := by
  intro pins s σ H vs us Q I r h
  obtain ⟨a, bs, rfl, hs, q⟩ := h
  obtain ⟨its, rv, hl, _⟩ := I.list hs
  rw [Vals.ref1 r]
  have hb := bools_of rv
  have hlt : a < s.heap.objs.size := hl.lt
  refine call_all_walk (wpAny_pyIter_list hl.isList ?_)
  refine ⟨s.heap.objs.size, [s.heap.objs.size, a], [s.heap.objs.size], its.toArray.size, _, _, fun i => (bs[i]?).getD true, rfl, Walks.list (A := X.A.in1) (I.ok.hd hc) _ a (Nat.ne_of_lt hlt) its.toArray,
    ⟨⟨_, Heap.get?_push_size _ rfl, rfl, rfl⟩, hl.isList.push _⟩, fun i v s' Q' E' hP hQ => ?_, fun h' tk hk => ?_⟩
  · have hP' : its[i]? = some v := by simpa using hP
    rw [hb, List.getElem?_map] at hP'
    cases e : bs[i]? with
    | none => rw [e] at hP'; cases hP'
    | some b =>
      rw [e] at hP'
      cases hP'
      simp only [e, Option.getD_some] at hQ
      exact wpAny_truthy_bool hQ
  · have e : ((List.range its.toArray.size).all fun i => (bs[i]?).getD true) = bs.all id := by
      rw [List.size_toArray, hb, List.length_map]; exact range_all' bs
    rw [e]
    exact ⟨.bl _, H, I.kept (t' := tk) (LSm.kept_iter hk), rfl, q⟩
theorem all_q {X : Cx} {K : PySem.W.Frag} (h : X.K = K) (hc : X.calm = true) : CallR X (.builtin "all") (rAll K) := h ▸ cr_all hc
section
variable {e : En} {te : TE} {sq : State → Option (List D)} {ta tb : TE} {s : State → Option D}
def dbls : List D → Option (List Bool)
  | [] => some []
  | .bl b :: ds => (dbls ds).map (b :: ·)
  | _ :: _ => none
theorem dbls_of : ∀ bs : List Bool, dbls (bs.map .bl) = some bs
  | [] => rfl
  | b :: bs => by show (dbls (bs.map .bl)).map (b :: ·) = _; rw [dbls_of bs]; rfl
theorem dbls_rep {F : Hp} : ∀ {ds : List D} {vs : List V} {bs : List Bool}, dbls ds = some bs → Reps e F ds vs → vs = bs.map V.bl
  | [], _, _, h, r => by cases h; cases r; rfl
  | d :: ds, vs, bs, h, r => by
    obtain ⟨v, us, rfl, r1, r2⟩ := r
    cases d with
    | bl b =>
      change (dbls ds).map (b :: ·) = some bs at h
      cases hd : dbls ds with
      | none => rw [hd] at h; cases h
      | some cs => rw [hd] at h; cases h; cases r1; rw [dbls_rep hd r2]; rfl
    | _ => cases h
def xAll (sq : State → Option (List D)) : State → Option D := fun α => bnd (sq α) fun ds => (dbls ds).map fun bs => .bl (bs.all id)
theorem ev_all (h : EvqL e te sq) : Evp e (tCB (rAll e.K) (tCons te tNil)) (xAll sq) := fun c L S σ H α d R q Q k => by
  obtain ⟨ds, h1, q⟩ := bnd_some q
  cases hd : dbls ds with
  | none => rw [hd] at q; cases q
  | some bs =>
    rw [hd] at q; cases q
    refine h c L S σ H α ds R h1 _ fun a vs H1 e1 r1 r2 => ?_
    exact ⟨a, bs, rfl, by rw [← dbls_rep hd r2]; exact fz_le.seq r1, k _ H1 e1 rfl⟩
@[simp] theorem a_xAll {α : State} : xAll sq α = bnd (sq α) fun ds => (dbls ds).map fun bs => .bl (bs.all id) := (rfl)
@[simp] theorem a_xZipT {sa sb : State → Option D} {α : State} : xZipT sa sb α = (match sa α, sb α with | some (.tup xs), some (.tup ys) => some (zipD xs ys) | _, _ => none) := (rfl)
def dstrs : List D → Option (List Str)
  | [] => some []
  | .str b :: ds => (dstrs ds).map (b :: ·)
  | _ :: _ => none
theorem dstrs_rep {F : Hp} : ∀ {ds : List D} {vs : List V} {bs : List Str}, dstrs ds = some bs → Reps e F ds vs → vs = bs.map V.str
  | [], _, _, h, r => by cases h; cases r; rfl
  | d :: ds, vs, bs, h, r => by
    obtain ⟨v, us, rfl, r1, r2⟩ := r
    cases d with
    | str b =>
      change (dstrs ds).map (b :: ·) = some bs at h
      cases hd : dstrs ds with
      | none => rw [hd] at h; cases h
      | some cs => rw [hd] at h; cases h; cases r1; rw [dstrs_rep hd r2]; rfl
    | _ => cases h
def ixOf : List Str → Str → Option Nat
  | [], _ => none
  | y :: ys, z => if y = z then some 0 else (ixOf ys z).map (· + 1)
theorem ixOf_spec : ∀ {ys : List Str} {z : Str} {j : Nat}, ixOf ys z = some j → ys[j]? = some z ∧ ∀ m, m < j → ys[m]? ≠ some z
  | [], _, _, h => by cases h
  | y :: ys, z, j, h => by
    unfold ixOf at h
    by_cases hy : y = z
    · rw [if_pos hy] at h; cases h; exact ⟨by rw [hy]; rfl, fun m hm => absurd hm (Nat.not_lt_zero _)⟩
    · rw [if_neg hy] at h
      cases hj : ixOf ys z with
      | none => rw [hj] at h; cases h
      | some i =>
        rw [hj] at h; cases h
        obtain ⟨h1, h2⟩ := ixOf_spec hj
        refine ⟨h1, fun m hm => ?_⟩
        cases m with
        | zero => intro hh; exact hy (Option.some.inj hh)
        | succ m => exact h2 m (Nat.lt_of_succ_lt_succ hm)
def xIdx (sq : State → Option (List D)) (s : State → Option D) : State → Option D := fun α => bnd (sq α) fun ds => match s α with
  | some (.str z) => bnd (dstrs ds) fun zs => (ixOf zs z).map fun (j : Nat) => D.int (j : Int)
  | _ => none
def rIdxT (K : PySem.W.Frag) : V → List V → Hp → VK → Prop := fun x xs H Q => ∃ p, ∃ ys : List Str, ∃ z j, x = .ref p ∧ xs = [.str z] ∧ SqT K H p (ys.map V.str) ∧ ys[j]? = some z ∧ (∀ m, m < j → ys[m]? ≠ some z) ∧ Q (.int (j : Nat)) H
theorem mt_idxT {X : Cx} {K : PySem.W.Frag} (h : X.K = K) : MtR X "tuple.index" (rIdxT K) := h ▸ mt_tup_index
theorem mt_idxL {X : Cx} {K : PySem.W.Frag} (h : X.K = K) : MtR X "list.index" (rIndex K) := h ▸ mt_index
theorem ev_idxT {a : Addr} {ds : List D} (h1 : ∀ F, Rep e F (.tup ds) (.ref a)) (h2 : ∀ H, tyV e.K "tuple" (.ref a) H) (h : Evp e te s) : Evp e (tBM e.K "tuple" (rIdxT e.K) (tC (.ref a)) (tCons te tNil)) (xIdx (fun _ => some ds) s) := fun c L S σ H α d R q Q k => by
  obtain ⟨ds', hd, q⟩ := bnd_some q
  cases hd
  split at q
  · rename_i z hz
    obtain ⟨zs, h3, q⟩ := bnd_some q
    cases hj : ixOf zs z with
    | none => rw [hj] at q; cases q
    | some j =>
      rw [hj] at q; cases q
      refine ⟨h2 H, ?_⟩
      refine h c L S σ H α _ R hz _ fun v H1 e1 r1 => ?_
      cases r1
      obtain ⟨a', vs, ea, r2, r3⟩ := h1 H1
      cases ea
      have := dstrs_rep h3 r3
      subst this
      obtain ⟨g1, g2⟩ := ixOf_spec hj
      exact ⟨a, zs, z, j, rfl, rfl, r2, g1, g2, k _ H1 e1 rfl⟩
  · cases q
theorem eqV_str {a b : Str} : eqV (.str a) (.str b) = (a == b) := by rfl
theorem ev_idxL (h : EvqL e te sq) (hs : Evp e ta s) : Evp e (tBM e.K "list" (rIndex e.K) te (tCons ta tNil)) (xIdx sq s) := fun c L S σ H α d R q Q k => by
  obtain ⟨ds, h1, q⟩ := bnd_some q
  split at q
  · rename_i z hz
    obtain ⟨zs, h2, q⟩ := bnd_some q
    cases hj : ixOf zs z with
    | none => rw [hj] at q; cases q
    | some j =>
      rw [hj] at q; cases q
      refine h c L S σ H α ds R h1 _ fun a vs H1 e1 r1 r2 => ?_
      have := dstrs_rep h2 r2
      subst this
      refine ⟨.inl ⟨rfl, _, fz_le.seq r1⟩, ?_⟩
      refine hs c L S σ H1 α _ (R.up e1) hz _ fun v H2 e2 r3 => ?_
      cases r3
      obtain ⟨g1, g2⟩ := ixOf_spec hj
      refine ⟨a, zs.map V.str, .str z, j, .str z, rfl, rfl, fz_le.seq ((fz_same e2).seq r1), rfl, by simp [flatV], by rw [List.getElem?_map, g1]; rfl, by rw [eqV_str]; simp, fun m z' hm hz' => ?_, k _ H2 (e1.trans e2) rfl⟩
      rw [List.getElem?_map] at hz'
      cases hy : zs[m]? with
      | none => rw [hy] at hz'; cases hz'
      | some y =>
        rw [hy] at hz'; cases hz'
        rw [eqV_str]
        exact beq_eq_false_iff_ne.mpr fun hh => g2 m hm (by rw [hy, hh])
  · cases q
@[simp] theorem a_xIdx {α : State} : xIdx sq s α = bnd (sq α) fun ds => (match s α with
  | some (.str z) => bnd (dstrs ds) fun zs => (ixOf zs z).map fun (j : Nat) => D.int (j : Int)
  | _ => none) := by unfold xIdx; rfl
end
theorem pgt {X : Cx} {K : PySem.W.Frag} (hK : X.K = K) {es : List Expr} {k : Nat} {t : TGs} {n : Nat} {pos : Pos} (hc : X.calm = true) (h : PGs X es t)
    (hn : (assignEach es X.env).length = n := by rfl) (hst : (assignEach es X.env).findIdx? (·.1) = none := by rfl) : PG X (.Tuple es k pos) (gTup K n t) := hK ▸ pg_tup hc h hn hst
end Ab
end
section
set_option maxRecDepth 100000
set_option maxHeartbeats 1000000
namespace Ab
open PySem L2 PyProof.Rows PySem.Spec
variable [Hd]
theorem toNat_inj' : ∀ {a b : List Char}, a.map Char.toNat = b.map Char.toNat → a = b
  | [], [], _ => rfl
  | [], _ :: _, h => by cases h
  | _ :: _, [], h => by cases h
  | x :: a, y :: b, h => by
    simp only [List.map_cons, List.cons.injEq] at h
    have h1 : x = y := Char.ext (UInt32.toNat_inj.mp h.1)
    rw [h1, toNat_inj' h.2]
@[simp] theorem ofS_inj {a b : String} : (Str.ofString a = Str.ofString b) ↔ a = b := by
  constructor
  · intro h
    rw [Str.ofString_eq_toList, Str.ofString_eq_toList] at h
    have h1 : (a.toList.map Char.toNat).toArray = (b.toList.map Char.toNat).toArray := congrArg Str.cps h
    have h2 := congrArg Array.toList h1
    exact String.toList_inj.mp (toNat_inj' (by simpa using h2))
  · rintro rfl; rfl
@[simp] theorem ofS_beq {a b : String} : (Str.ofString a == Str.ofString b) = decide (a = b) := by
  by_cases h : a = b
  · subst h; simp
  · rw [decide_eq_false h]
    exact beq_eq_false_iff_ne.mpr fun z => h (ofS_inj.mp z)
inductive Mn where
  | row | bag | choice | ring
  deriving DecidableEq
def Mn.w : Mn → Str
  | .row => "row" | .bag => "bag" | .choice => "choice" | .ring => "ring"
inductive Fig where
  | nothing | bead (c : Str) | left (f : Fig) | right (f : Fig) | pair (f g : Fig) | many (k : Mn) (ps : List Fig)
mutual
def enc : Fig → D
  | .nothing => .tup [.str "nothing"]
  | .bead c => .tup [.str "bead", .str c]
  | .left f => .tup [.str "left", enc f]
  | .right f => .tup [.str "right", enc f]
  | .pair f g => .tup [.str "pair", enc f, enc g]
  | .many k ps => .tup [.str k.w, .tup (encs ps)]
def encs : List Fig → List D
  | [] => [] | f :: fs => enc f :: encs fs
end
theorem encs_map : ∀ fs : List Fig, encs fs = fs.map enc
  | [] => rfl
  | f :: fs => by rw [encs, encs_map fs]; rfl
@[simp] theorem encs_len (fs : List Fig) : (encs fs).length = fs.length := by rw [encs_map, List.length_map]
theorem encs_app (a b : List Fig) : encs (a ++ b) = encs a ++ encs b := by simp [encs_map]
def Fig.parts : Fig → List Fig
  | .nothing => [] | .bead _ => [] | .left f => [f] | .right f => [f] | .pair f g => [f, g] | .many _ ps => ps
mutual
def hgt : Fig → Nat
  | .nothing => 1 | .bead _ => 1 | .left f => hgt f + 1 | .right f => hgt f + 1
  | .pair f g => max (hgt f) (hgt g) + 1 | .many _ ps => hgts ps + 1
def hgts : List Fig → Nat
  | [] => 0 | f :: fs => max (hgt f) (hgts fs)
end
theorem hgts_le {n : Nat} : ∀ {fs : List Fig}, (∀ f ∈ fs, hgt f ≤ n) → hgts fs ≤ n
  | [], _ => Nat.zero_le _
  | f :: fs, h => by
    have h1 := h f List.mem_cons_self
    have h2 := hgts_le (fs := fs) fun g m => h g (List.mem_cons_of_mem _ m)
    simp only [hgts]; omega
theorem hgts_mem {f : Fig} : ∀ {fs : List Fig}, f ∈ fs → hgt f ≤ hgts fs
  | [], h => nomatch h
  | g :: fs, h => by
    simp only [hgts]
    rcases List.mem_cons.mp h with rfl | h
    · omega
    · have := hgts_mem h; omega
theorem hgt_parts {f g : Fig} (h : g ∈ f.parts) : hgt g < hgt f := by
  cases f with
  | nothing => cases h
  | bead c => cases h
  | left f => simp [Fig.parts] at h; subst h; simp [hgt]
  | right f => simp [Fig.parts] at h; subst h; simp [hgt]
  | pair a b => simp [Fig.parts] at h; rcases h with rfl | rfl <;> simp only [hgt] <;> omega
  | many k ps => have := hgts_mem (fs := ps) h; simp only [hgt]; omega
mutual
def cok : Fig → Bool
  | .nothing => true | .bead c => PyData.strOk c | .left f => cok f | .right f => cok f
  | .pair f g => cok f && cok g | .many _ ps => coks ps
def coks : List Fig → Bool
  | [] => true | f :: fs => cok f && coks fs
end
theorem coks_iff : ∀ {fs : List Fig}, coks fs = true ↔ ∀ f ∈ fs, cok f = true
  | [] => by simp [coks]
  | f :: fs => by simp [coks, coks_iff (fs := fs)]
theorem strOk_lit {s : Str} (h : s.cps.all (· < 128) = true) : PyData.strOk s = true := by
  unfold PyData.strOk
  rw [Array.all_eq_true'] at *
  intro x hx
  have := h x hx
  simp at this ⊢
  omega
mutual
theorem plain_enc : ∀ f : Fig, cok f = true → plainD (enc f) = true
  | .nothing, _ => by simp [enc, plainD, plainDs]; decide +kernel
  | .bead c, h => by simp [enc, plainD, plainDs]; exact ⟨by decide +kernel, h⟩
  | .left f, h => by simp [enc, plainD, plainDs]; exact ⟨by decide +kernel, plain_enc f h⟩
  | .right f, h => by simp [enc, plainD, plainDs]; exact ⟨by decide +kernel, plain_enc f h⟩
  | .pair f g, h => by
    simp only [cok, Bool.and_eq_true] at h
    simp [enc, plainD, plainDs]; exact ⟨by decide +kernel, plain_enc f h.1, plain_enc g h.2⟩
  | .many k ps, h => by
    simp [enc, plainD, plainDs]; exact ⟨by cases k <;> decide +kernel, plains_enc ps h⟩
theorem plains_enc : ∀ fs : List Fig, coks fs = true → plainDs (encs fs) = true
  | [], _ => rfl
  | f :: fs, h => by
    simp only [coks, Bool.and_eq_true] at h
    simp only [encs, plainDs, plain_enc f h.1, plains_enc fs h.2]; rfl
end
mutual
theorem dep_enc : ∀ f : Fig, depD (enc f) ≤ 2 * hgt f
  | .nothing => by simp [enc, depD, depDs, hgt]
  | .bead c => by simp [enc, depD, depDs, hgt]
  | .left f => by have := dep_enc f; simp only [enc, depD, depDs, hgt]; omega
  | .right f => by have := dep_enc f; simp only [enc, depD, depDs, hgt]; omega
  | .pair f g => by have := dep_enc f; have := dep_enc g; simp only [enc, depD, depDs, hgt]; omega
  | .many k ps => by have := deps_enc ps; simp only [enc, depD, depDs, hgt]; omega
theorem deps_enc : ∀ fs : List Fig, depDs (encs fs) ≤ 2 * hgts fs
  | [] => by simp [encs, depDs]
  | f :: fs => by have := dep_enc f; have := deps_enc fs; simp only [encs, depDs, hgts]; omega
end
theorem eqOk_enc {a b : Fig} (ha : cok a = true) (hb : cok b = true) (h : hgt a ≤ 95) : eqOk (enc a) (enc b) = true := by
  unfold eqOk
  have := dep_enc a
  simp only [plain_enc a ha, plain_enc b hb, Bool.and_eq_true, decide_eq_true_eq]
  exact ⟨⟨trivial, trivial⟩, by omega⟩
theorem fNeQ_refl {a : Fig} (ha : cok a = true) (h : hgt a ≤ 95) : fNeQ (enc a) (enc a) = some (.bl false) := by
  unfold fNeQ; rw [if_pos (eqOk_enc ha ha h)]; unfold eqv; rw [eqv_refl]; rfl
theorem fEqQ_refl {a : Fig} (ha : cok a = true) (h : hgt a ≤ 95) : fEqQ (enc a) (enc a) = some (.bl true) := by
  unfold fEqQ; rw [if_pos (eqOk_enc ha ha h)]; unfold eqv; rw [eqv_refl]
end Ab
namespace Ab
open PySem L2 PyProof.Rows PySem.Spec
theorem atI_encs {ps : List Fig} {k : Int} (h0 : 0 ≤ k) (h1 : k < (ps.length : Int)) : atI (encs ps) k = some (enc (ps[k.toNat]'(by omega))) := by
  unfold atI ixN
  rw [if_pos h0, encs_len, if_pos h1]
  show (encs ps)[k.toNat]? = _
  rw [encs_map, List.getElem?_map, List.getElem?_eq_getElem (by omega)]
  rfl
def Fig.at_ : Fig → List Int → Option Fig
  | f, [] => some f
  | f, k :: ks => if h : 0 ≤ k ∧ k < (f.parts.length : Int) then (f.parts[k.toNat]'(by omega)).at_ ks else none
theorem at_cons (f : Fig) (k : Int) (ks : List Int) : f.at_ (k :: ks) = if h : 0 ≤ k ∧ k < (f.parts.length : Int) then (f.parts[k.toNat]'(by omega)).at_ ks else none := rfl
theorem at_app : ∀ (p q : List Int) (f : Fig), f.at_ (p ++ q) = (f.at_ p).bind fun g => g.at_ q
  | [], q, f => by simp [Fig.at_]
  | k :: p, q, f => by
    show Fig.at_ f (k :: (p ++ q)) = _
    rw [at_cons, at_cons]
    by_cases h : 0 ≤ k ∧ k < (f.parts.length : Int)
    · rw [dif_pos h, dif_pos h]; exact at_app p q _
    · rw [dif_neg h, dif_neg h]; rfl
end Ab
namespace Ab
open PySem L2 PyProof.Rows PySem.Spec
mutual
def cnt : Fig → Nat
  | .nothing => 1 | .bead _ => 1 | .left f => cnt f + 1 | .right f => cnt f + 1
  | .pair f g => cnt f + cnt g + 1 | .many _ ps => cnts ps + 1
def cnts : List Fig → Nat
  | [] => 0 | f :: fs => cnt f + cnts fs
end
theorem cnt_pos : ∀ f : Fig, 1 ≤ cnt f
  | .nothing => Nat.le_refl _ | .bead _ => Nat.le_refl _ | .left f => by simp [cnt] | .right f => by simp [cnt]
  | .pair f g => by simp [cnt] | .many _ ps => by simp [cnt]
mutual
theorem hgt_cnt : ∀ f : Fig, hgt f ≤ cnt f
  | .nothing => Nat.le_refl _ | .bead _ => Nat.le_refl _
  | .left f => by have := hgt_cnt f; simp only [hgt, cnt]; omega
  | .right f => by have := hgt_cnt f; simp only [hgt, cnt]; omega
  | .pair f g => by have := hgt_cnt f; have := hgt_cnt g; simp only [hgt, cnt]; omega
  | .many _ ps => by have := hgts_cnts ps; simp only [hgt, cnt]; omega
theorem hgts_cnts : ∀ fs : List Fig, hgts fs ≤ cnts fs
  | [] => Nat.le_refl _
  | f :: fs => by have := hgt_cnt f; have := hgts_cnts fs; simp only [hgts, cnts]; omega
end
theorem cnts_len : ∀ fs : List Fig, fs.length ≤ cnts fs
  | [] => Nat.le_refl _
  | f :: fs => by have := cnt_pos f; have := cnts_len fs; simp only [cnts, List.length_cons]; omega
theorem cnts_app : ∀ (a b : List Fig), cnts (a ++ b) = cnts a + cnts b
  | [], b => by simp [cnts]
  | f :: fs, b => by simp only [List.cons_append, cnts, cnts_app fs b]; omega
theorem cnts_mem {f : Fig} : ∀ {fs : List Fig}, f ∈ fs → cnt f ≤ cnts fs
  | [], h => nomatch h
  | g :: fs, h => by
    simp only [cnts]
    rcases List.mem_cons.mp h with rfl | h
    · omega
    · have := cnts_mem h; omega
theorem cnt_parts (f : Fig) : cnt f = cnts f.parts + 1 := by
  cases f <;> simp [cnt, cnts, Fig.parts]
theorem cnts_sum : ∀ fs : List Fig, ((fs.map fun f => (cnt f : Int)).sum) = (cnts fs : Int)
  | [] => rfl
  | f :: fs => by simp only [List.map_cons, List.sum_cons, cnts_sum fs, cnts]; omega
theorem cnts_take_drop (fs : List Fig) (k : Nat) : cnts (fs.take k) + cnts (fs.drop k) = cnts fs := by
  rw [← cnts_app, List.take_append_drop]
theorem lcF_map {gt : D → State → Option State} {se : State → Option D} {α : State} {F : D → D} : ∀ {xs : List D}, (∀ x ∈ xs, ∃ β, gt x α = some β ∧ se β = some (F x)) → lcF gt tbYes se xs α = some (xs.map F)
  | [], _ => rfl
  | x :: xs, h => by
    obtain ⟨β, h1, h2⟩ := h x List.mem_cons_self
    unfold lcF
    rw [h1]
    simp [h2, lcF_map (xs := xs) fun y m => h y (List.mem_cons_of_mem _ m)]
theorem lcF_list {gt : D → State → Option State} {se : State → Option D} {α : State} {ι : Type} {E F : ι → D} : ∀ {xs : List ι}, (∀ x ∈ xs, ∃ β, gt (E x) α = some β ∧ se β = some (F x)) → lcF gt tbYes se (xs.map E) α = some (xs.map F)
  | [], _ => rfl
  | x :: xs, h => by
    obtain ⟨β, h1, h2⟩ := h x List.mem_cons_self
    show lcF gt tbYes se (E x :: xs.map E) α = _
    unfold lcF
    rw [h1]
    simp [h2, lcF_list (xs := xs) fun y m => h y (List.mem_cons_of_mem _ m)]
theorem fSum_ints (ns : List Int) : fSum (ns.map .int) = some (.int ns.sum) := by
  unfold fSum; rw [dints_of]; rfl
theorem cok_parts {f g : Fig} (h : cok f = true) (m : g ∈ f.parts) : cok g = true := by
  cases f with
  | nothing => cases m
  | bead c => cases m
  | left f => simp [Fig.parts] at m; subst m; exact h
  | right f => simp [Fig.parts] at m; subst m; exact h
  | pair a b =>
    simp only [cok, Bool.and_eq_true] at h
    simp [Fig.parts] at m; rcases m with rfl | rfl
    · exact h.1
    · exact h.2
  | many k ps => exact coks_iff.mp h g m
end Ab
namespace Ab
open PySem L2 PyProof.Rows PySem.Spec
@[simp] theorem fSum0 : fSum [] = some (.int 0) := rfl
@[simp] theorem fSum1 {i : Int} : fSum [.int i] = some (.int i) := by have := fSum_ints [i]; simpa using this
@[simp] theorem fSum2 {i j : Int} : fSum [.int i, .int j] = some (.int (i + j)) := by have := fSum_ints [i, j]; simpa using this
theorem ret_int {i j : Int} {α : State} (h : i = j) : ∃ β, Out.ret (.dat (.int i)) α = .ret (.dat (.int j)) β := ⟨α, by rw [h]⟩
end Ab
namespace Ab
open PySem L2 PyProof.Rows PySem.Spec
@[simp] theorem fSum_comp {ι : Type} {xs : List ι} {g : ι → Int} : fSum (xs.map (D.int ∘ g)) = some (.int (xs.map g).sum) := by
  rw [← List.map_map]; exact fSum_ints _
end Ab
namespace Ab
open PySem L2 PyProof.Rows PySem.Spec
theorem coks_app {a b : List Fig} : coks (a ++ b) = true ↔ coks a = true ∧ coks b = true := by
  rw [coks_iff, coks_iff, coks_iff]
  constructor
  · exact fun h => ⟨fun f m => h f (List.mem_append_left _ m), fun f m => h f (List.mem_append_right _ m)⟩
  · rintro ⟨h1, h2⟩ f m
    rcases List.mem_append.mp m with m | m
    · exact h1 f m
    · exact h2 f m
theorem concat_of {β : Type} {xs : List β} (h : xs ≠ []) : ∃ ys y, xs = ys ++ [y] := ⟨xs.dropLast, xs.getLast h, (List.dropLast_concat_getLast h).symm⟩
@[simp] theorem encs_nil : encs [] = [] := rfl
@[simp] theorem encs_cons {f : Fig} {fs : List Fig} : encs (f :: fs) = enc f :: encs fs := rfl
end Ab
end
section
set_option maxRecDepth 100000
set_option maxHeartbeats 1000000
namespace Ab
open PySem L2 PyProof.Rows PySem.Spec
variable [Hd]
structure Mk0 (K : PySem.W.Frag) (C : Addr) : Prop where
  makes : PySem.W.makesIn K C = true
  init : PySem.W.findIn K (.ref C) "__init__" = some (some (.builtin "object.__init__"))
  top : PySem.W.mroIn K C (.type "object") = some true
  kp : PySem.W.keepIn K (.ref C) = true
def tMake0 (C : Addr) : TE := fun σ H Q => ∀ x dx, H x = none → H dx = none → dx ≠ x → Q (.ref x) (upd (upd H dx (.own x)) x (.ins C dx []))
section
variable {X : Cx} {C : Addr} {x : Str} {p pos : Pos}
theorem pe_new0 (M : Mk0 X.K C) (hg : Gl X x) (hm : X.mg x = some (.ref C)) (hdb : (x == ("__debug__" : Str)) = false := by decide) : PE X (.Call (.Name x p) [] [] pos) (tMake0 C) := by
  refine ⟨fun pins s σ H Q I h => ?_⟩
  refine wpAny_Call_Name_kw (ld_glob I hg hm ?_ hdb)
  refine PySem.W.callWith_K0 I.kIn M.kp ?_
  have I2 := Inv.made (C := C) I
  have hq := h (s.heap.objs.size + 1) s.heap.objs.size (I.hok.fresh (Nat.le_succ _)) (I.hok.fresh (Nat.le_refl _)) (Nat.ne_of_lt (Nat.lt_succ_self _))
  refine wpAny_call (make_map0 I.kIn M.makes M.init (fun self => PySem.W.Looks.of_pure (PySem.W.oi_bind self)) ?_)
  have Y := PySem.W.makes_of (M := model X.prog X.w) I.kIn M.makes
  obtain ⟨hh, g, d, tk, os⟩ := s
  have hx : ((hh.push PySem.W.emptyDict).push (PySem.W.instObj C hh.objs.size)).get? (hh.objs.size + 1) = some (PySem.W.instObj C hh.objs.size) := by heap_get
  have t1 : PySem.W.Looks (model X.prog X.w) ((hh.push PySem.W.emptyDict).push (PySem.W.instObj C hh.objs.size)) (typeOf (.ref (hh.objs.size + 1))) (.ref C) := (PySem.W.Looks.ld hx).andThen .now
  have t2 : PySem.W.Looks (model X.prog X.w) ((hh.push PySem.W.emptyDict).push (PySem.W.instObj C hh.objs.size)) (isInstance (.ref (hh.objs.size + 1)) (.type "object")) true := t1.andThen (Y.top.keeps fun b o e => Heap.get?_push_of_some _ (Heap.get?_push_of_some _ e))
  refine codeAny_call_builtin PySem.W.oi_plain PySem.W.entry_oi (@PySem.W.check_slot (model X.prog X.w) _ _ _ "object.__init__" "object" "__init__" (.ref (hh.objs.size + 1)) [] [] _ PySem.W.oi_kind PySem.W.oi_split t2 (PySem.W.oi_args (.ref (hh.objs.size + 1))) ?_)
  rw [PySem.W.oi_run]
  exact wpAny_pure (And.intro rfl ⟨V.ref (hh.objs.size + 1), _, I2, rfl, hq⟩)
end
section
variable {e : En} {c : String}
def xNew0 (c : String) : State → Option (String × List (Str × D)) := fun _ => some (c, [])
theorem eb_new0 : Evb e (tMake0 (e.cls c)) (xNew0 c) := fun cn L S σ H α x R h Q q => by
  cases h
  intro p dx hp hdx hne
  have sN : Sm H (upd (upd H dx (.own p)) p (.ins (e.cls c) dx [])) := .of fun b o z => by rw [upd_ne (ne_of_none z hp), upd_ne (ne_of_none z hdx)]; exact z
  exact q p dx [] _ sN hp upd_same rfl
@[simp] theorem a_xNew0 {α : State} : xNew0 c α = some (c, []) := (rfl)
end
end Ab
end
section
set_option maxRecDepth 100000
set_option maxHeartbeats 1000000
namespace Ab
open PySem L2 PyProof.Rows PySem.Spec
variable [Hd]
section
variable {e : En} {E : XK} {te to ta tb : TE} {tr : TA}
def r2 (f : D → D → Option D) (sa sb : State → Res D) : State → Res D := fun α => match sa α with
  | .ok a α1 => (match sb α1 with
    | .ok b α2 => (match f a b with | some d => .ok d α2 | none => .bad)
    | .exc x => .exc x | .bad => .bad)
  | .exc x => .exc x | .bad => .bad
theorem ee_op {r : R2} {f : D → D → Option D} {sa sb : State → Res D} (hr : RvD e r f) (ha : Eve e E ta sa) (hb : Eve e E tb sb) : Eve e E (tOp r ta tb) (r2 f sa sb) := fun c L S σ H α R Q k kx nb => by
  unfold r2 at k kx nb
  refine ha c L S σ H α R _ (fun a α1 hs v H1 m1 R1 r1 => ?_) (fun x hx => kx x (by rw [hx])) (fun hb => nb (by rw [hb]))
  rw [hs] at k kx nb
  dsimp only at k kx nb
  refine hb c L S σ H1 α1 R1 _ (fun b α2 hs2 u H2 m2 R2 r2 => ?_) (fun x hx => kx x (by rw [hx])) (fun hb => nb (by rw [hb]))
  rw [hs2] at k nb
  dsimp only at k nb
  cases hf : f a b with
  | none => rw [hf] at nb; exact absurd rfl nb
  | some d =>
    rw [hf] at k
    exact hr L H2 a b v u d R2.dm (Rep.up r1 (fz_mod m2 R1.sub)) r2 hf Q fun w H3 e3 r3 => k d α2 rfl w H3 ((m1.trans m2).trans (.of e3)) (R2.up e3) r3
def mkV (c : String) (m : List A → MRes) (ds : List D) : Option (List (Str × D)) := match m (.inn (.obj c []) :: ds.map .dat) with
  | .ok (.dat .non) (.inn (.obj c' fs) :: _) => if c' = c then some fs else none
  | _ => none
theorem mkV_some {c : String} {m : List A → MRes} {ds : List D} {fs : List (Str × D)} (h : mkV c m ds = some fs) : ∃ rest, m (.inn (.obj c []) :: ds.map .dat) = .ok (.dat .non) (.inn (.obj c fs) :: rest) := by
  unfold mkV at h
  generalize m (.inn (.obj c []) :: ds.map .dat) = r at *
  split at h
  · rename_i c' fs' rest
    split at h
    · rename_i hc
      cases h; subst hc; exact ⟨rest, rfl⟩
    · cases h
  · cases h
theorem make_step {c : String} {m : List A → MRes} {cn : Cn} {L S : List Addr} {σ : L2.St} {H1 : Hp} {α1 : State} {ds : List D} {vs : List V} {fs : List (Str × D)} {Q : VK} (R1 : Rel e cn L S σ H1 α1) (r1 : Reps e (fz L H1) ds vs) (h : mkV c m ds = some fs)
    (q : ∀ p dx gs H', Sm H1 H' → H1 p = none → H' p = some (.ins (e.cls c) dx gs) → RepF e (fz (p :: L) H') fs gs → Q (.ref p) H') (p dx : Addr) (hp : H1 p = none) (hdx : H1 dx = none) (hne : dx ≠ p) :
    spM e m (.ref p :: (vs ++ [])) (upd (upd H1 dx (.own p)) p (.ins (e.cls c) dx [])) (fun v H2 => v = .non ∧ Q (.ref p) H2) E := by
  obtain ⟨rest, hm0⟩ := mkV_some h
  have hpL : p ∉ L ∧ ¬ Hd.hid p := fresh_nL R1.dm hp
  have hdL : dx ∉ L := (fresh_nL R1.dm hdx).1
  have sN : Sm H1 (upd (upd H1 dx (.own p)) p (.ins (e.cls c) dx [])) := .of fun b o z => by rw [upd_ne (ne_of_none z hp), upd_ne (ne_of_none z hdx)]; exact z
  refine ⟨p :: L, [p], .inn (.obj c []) :: ds.map .dat, R1.dm.new sN hp upd_same, fun b hb => by simp at hb; subst hb; simp, by simp only [innCount, count_dats]; omega, ⟨.ref p, vs ++ [], rfl, ⟨p, _, rfl, by simp, upd_same, ⟨dx, [], rfl, rfl⟩⟩, by rw [List.append_nil]; exact asrep_dats (r1.up (fz_cons sN hp))⟩, ?_, ?_, ?_⟩
  · intro r as' hm v H' md ar rr
    rw [hm0] at hm
    cases hm
    obtain ⟨v0, w0, q0, ⟨p0, o0, q1, m0, ho, rc⟩, _⟩ := ar
    cases q0
    cases q1
    obtain ⟨dx', gs, rfl, rF⟩ := rc
    exact ⟨rr, q p dx' gs H' (sN.thenM md hp) hp ho rF⟩
  · intro x' hm
    rw [hm0] at hm
    cases hm
  · intro hm
    rw [hm0] at hm
    cases hm
def rMake (c : String) (m : List A → MRes) (sr : State → Res (List Arg)) : State → Res D := fun α => match sr α with
  | .ok as α1 => (match bnd (datas as) (mkV c m) with | some fs => .ok (.ins c fs) α1 | none => .bad)
  | .exc x => .exc x | .bad => .bad
theorem ee_make {c : String} {m : List A → MRes} {sr : State → Res (List Arg)} (h : EvaE e E tr sr) : Eve e E (tMake (e.cls c) (spM e m) [] E0 tr) (rMake c m sr) := fun cn L S σ H α R Q k kx nb => by
  unfold rMake at k kx nb
  refine h cn L S σ H α R _ (fun as α1 hs vs H1 m1 R1 ra => ?_) (fun x hx => kx x (by rw [hx])) (fun hb => nb (by rw [hb]))
  rw [hs] at k nb
  dsimp only at k nb
  cases hb : bnd (datas as) (mkV c m) with
  | none => rw [hb] at nb; exact absurd rfl nb
  | some fs =>
    rw [hb] at k
    obtain ⟨ds, h1, h2⟩ := bnd_some hb
    have r1 := datas_rep h1 ra
    exact fun p dx hp hdx hne => make_step R1 r1 h2 (fun p dx gs H' e1 n hp r => k _ α1 rfl _ H' (m1.trans (.of e1)) (R1.up e1) ⟨p, dx, gs, rfl, fz_new (fresh_nL R1.dm n) hp, RepF.mono (fz_anti fun a m => List.mem_cons_of_mem _ m) _ _ r⟩) p dx hp hdx hne
theorem Reps.erase {F : Hp} : ∀ {ds : List D} {vs : List V} (n : Nat), Reps e F ds vs → Reps e F (ds.eraseIdx n) (vs.eraseIdx n)
  | [], _, n, r => by cases r; exact Reps.nil
  | d :: ds, _, 0, ⟨v, r, q, x, y⟩ => by subst q; exact y
  | d :: ds, _, n + 1, ⟨v, r, q, x, y⟩ => by subst q; exact Reps.cons x (Reps.erase n y)
def xPopAt (i : Nat) (s : State → Option D) : State → Res D := fun α => match s α, ctOf α[i]? with
  | some (.int z), some (.lst xs) => if rngOk z = true then (match seqIndex? z xs.length with
    | some j => (match xs[j]? with | some d => .ok d (putC α i (.lst (xs.eraseIdx j))) | none => .bad)
    | none => .bad) else .bad
  | _, _ => .bad
theorem ee_popAt (i : Nat) {s : State → Option D} (hs : Evp e te s) : Eve e E (tBM e.K "list" rPopAt (tVar i) (tCons te tNil)) (xPopAt i s) := fun c L S σ H α R Q k kx nb => by
  unfold xPopAt at k nb
  split at nb
  · rename_i z xs hz hc
    split at nb
    · rename_i hrng
      cases hj : seqIndex? z xs.length with
      | none => rw [hj] at nb; exact absurd rfl nb
      | some j =>
        simp only [hj] at nb
        cases hd : xs[j]? with
        | none => rw [hd] at nb; exact absurd rfl nb
        | some d =>
          simp only [hz, hc, if_pos hrng, hj, hd] at k
          obtain ⟨p, o, h1, m1, ho, vs, rfl, r1⟩ := R.at hc
          obtain ⟨v, hv, rv⟩ := r1.get hd
          refine ⟨.ref p, h1, .inl ⟨rfl, vs, SqL.of ho⟩, ?_⟩
          refine hs c L S σ H α _ R hz _ fun v2 H2 e2 r2 => ?_
          cases r2
          have hr := rngOk_iff.mp hrng
          have e2k_of_ho := e2.k _ _ ho (R.nh p (R.sub p m1))
          refine ⟨p, vs, z, j, v, rfl, rfl, e2k_of_ho, by have : (-(2 ^ 63) : Int) ≤ -(2 ^ 62) := by decide
                                                          omega, by have : (2 ^ 62 : Int) ≤ 2 ^ 63 := by decide
                                                                    omega, by rw [r1.len]; exact hj, hv, ?_⟩
          obtain ⟨R2, m2⟩ := (R.up e2).mut hc h1 (o := .lst (vs.eraseIdx j)) (ct' := .lst (xs.eraseIdx j)) ⟨_, rfl, (r1.up (fz_same e2)).erase j⟩
          exact k d _ rfl v _ (Mod.trans (.of e2) m2) R2 (rv.up ((fz_same e2).trans (fz_mod m2 R.sub)))
    · exact absurd rfl nb
  · exact absurd rfl nb
def ixF (ds : List D) (d : D) : Option Nat := ds.findIdx? fun x => eqV (dv x) (dv d)
def xIdxF (sq : State → Option (List D)) (s : State → Option D) : State → Option D := fun α => bnd (sq α) fun ds => bnd (s α) fun d => if (flat d && ds.all flat) = true then (ixF ds d).map fun (j : Nat) => D.int (j : Int) else none
theorem ev_idxF {sq : State → Option (List D)} {s : State → Option D} (h : EvqL e te sq) (hs : Evp e ta s) : Evp e (tBM e.K "list" (rIndex e.K) te (tCons ta tNil)) (xIdxF sq s) := fun c L S σ H α d R q Q k => by
  obtain ⟨ds, h1, q⟩ := bnd_some q
  obtain ⟨x, h2, q⟩ := bnd_some q
  split at q
  · rename_i hf
    simp only [Bool.and_eq_true] at hf
    cases hj : ixF ds x with
    | none => rw [hj] at q; cases q
    | some j =>
      rw [hj] at q; cases q
      refine h c L S σ H α ds R h1 _ fun a vs H1 e1 r1 r2 => ?_
      have := reps_flat hf.2 r2
      subst this
      refine ⟨.inl ⟨rfl, _, fz_le.seq r1⟩, ?_⟩
      refine hs c L S σ H1 α _ (R.up e1) h2 _ fun v H2 e2 r3 => ?_
      have := rep_flat hf.1 r3
      subst this
      unfold ixF at hj
      obtain ⟨hlt, hp, hq⟩ := List.findIdx?_eq_some_iff_getElem.mp hj
      refine ⟨a, ds.map dv, dv x, j, dv ds[j], rfl, rfl, fz_le.seq ((fz_same e2).seq r1), flatV_dv hf.1, flatV_dvs hf.2, by rw [List.getElem?_map, List.getElem?_eq_getElem hlt]; rfl, hp, fun m z' hm hz' => ?_, k _ H2 (e1.trans e2) rfl⟩
      rw [List.getElem?_map] at hz'
      have hml : m < ds.length := by omega
      rw [List.getElem?_eq_getElem hml] at hz'
      cases hz'
      have := hq m hm
      simpa using this
  · cases q
def Evan (e : En) (ta : TA) (s : State → Option (List D × List D × List D)) : Prop := ∀ c L S σ H α x, Rel e c L S σ H α → s α = some x → ∀ Q : List V → Hp → Prop, (∀ us p vs ws H', Sm H H' → H p = none → H' p = some (.lst vs) → Reps e (fz (p :: L) H') x.1 us → Reps e (fz (p :: L) H') x.2.1 vs → Reps e (fz (p :: L) H') x.2.2 ws → Q (us ++ .ref p :: ws) H') → ta σ H Q
def nHere (sl sr : State → Option (List D)) : State → Option (List D × List D × List D) := fun α => bnd (sl α) fun xs => bnd (sr α) fun bs => some ([], xs, bs)
def nNext (s : State → Option D) (sn : State → Option (List D × List D × List D)) : State → Option (List D × List D × List D) := fun α => bnd (s α) fun d => bnd (sn α) fun x => some (d :: x.1, x.2)
theorem an_here {tl : TE} {sl sr : State → Option (List D)} (hl : Evl e tl sl) (hr : Eva e tr sr) : Evan e (tCons tl tr) (nHere sl sr) := fun c L S σ H α x R q Q k => by
  obtain ⟨xs, h1, q⟩ := bnd_some q
  obtain ⟨bs, h2, q⟩ := bnd_some q
  cases q
  refine hl c L S σ H α xs R h1 _ fun p vs H1 e1 n hp r1 => ?_
  have R1 : Rel e c (p :: L) S σ H1 α := R.more e1 n hp
  refine hr c (p :: L) S σ H1 α bs R1 h2 _ fun ws H2 e2 r2 => ?_
  exact k [] p vs ws H2 (e1.trans e2) n (e2.k _ _ hp (R1.nh p List.mem_cons_self)) Reps.nil (r1.up (fz_same e2)) r2
theorem an_next {s : State → Option D} {sn : State → Option (List D × List D × List D)} (h : Evp e te s) (hn : Evan e tr sn) : Evan e (tCons te tr) (nNext s sn) := fun c L S σ H α x R q Q k => by
  obtain ⟨d, h1, q⟩ := bnd_some q
  obtain ⟨y, h2, q⟩ := bnd_some q
  cases q
  refine h c L S σ H α d R h1 _ fun v H1 e1 r1 => ?_
  refine hn c L S σ H1 α y (R.up e1) h2 _ fun us p vs ws H2 e2 n hp r2 r3 r4 => ?_
  exact k (v :: us) p vs ws H2 (e1.trans e2) (none_back R.inv e1 n) hp (Reps.cons (r1.up (fz_cons e2 n)) r2) r3 r4
def xCallN (m : List A → MRes) (s : State → Option (List D × List D × List D)) : State → Option D := fun α => bnd (s α) fun x => match m (x.1.map .dat ++ .inn (.lst x.2.1) :: x.2.2.map .dat) with | .ok (.dat d) _ => some d | _ => none
theorem asrep_app {L S : List Addr} {H : Hp} : ∀ {as bs : List A} {us vs : List V}, AsRep e L S H as us → AsRep e L S H bs vs → AsRep e L S H (as ++ bs) (us ++ vs)
  | [], _, _, _, r, s => by cases r; exact s
  | a :: as, _, _, _, ⟨v, w, q, r1, r2⟩, s => by subst q; exact ⟨v, _, rfl, r1, asrep_app r2 s⟩
theorem count_app : ∀ (as bs : List A), innCount (as ++ bs) = innCount as + innCount bs
  | [], bs => by simp [innCount]
  | a :: as, bs => by cases a <;> simp only [List.cons_append, innCount, count_app as bs] <;> omega
theorem ev_callN {ta' : TA} {m : List A → MRes} {s : State → Option (List D × List D × List D)} (h : Evan e ta' s) : Evp e (tCall (spM e m) [] E0 ta') (xCallN m s) := fun c L S σ H α d R q Q k => by
  obtain ⟨x, h1, q⟩ := bnd_some q
  refine h c L S σ H α x R h1 _ fun us p vs ws H1 e1 n hp r1 r2 r3 => ?_
  have R1 : Rel e c (p :: L) S σ H1 α := R.more e1 n hp
  show spM e m ((us ++ .ref p :: ws) ++ []) H1 Q E0
  rw [List.append_nil]
  refine ⟨p :: L, [p], x.1.map .dat ++ .inn (.lst x.2.1) :: x.2.2.map .dat, R1.dm, fun b hb => by simp at hb; subst hb; simp, ?_, asrep_app (asrep_dats r1) (bs := .inn (.lst x.2.1) :: x.2.2.map .dat) ⟨.ref p, ws, rfl, ⟨p, _, rfl, by simp, hp, vs, rfl, r2⟩, asrep_dats r3⟩, ?_, ?_, ?_⟩
  · rw [count_app, count_dats]; simp only [innCount, count_dats]; omega
  · intro r as' hm v H' md ar rr
    rw [hm] at q
    cases r with
    | lst xs => cases q
    | dat d' =>
      cases q
      refine k v H' (e1.thenM md n) (Rep.up rr (fz_anti fun a m => List.mem_cons_of_mem _ m))
  · intro x' hm; rw [hm] at q; cases q
  · intro hm; rw [hm] at q; cases q
@[simp] theorem a_nHere {sl sr : State → Option (List D)} {α : State} : nHere sl sr α = bnd (sl α) fun xs => bnd (sr α) fun bs => some ([], xs, bs) := (rfl)
@[simp] theorem a_nNext {s : State → Option D} {sn : State → Option (List D × List D × List D)} {α : State} : nNext s sn α = bnd (s α) fun d => bnd (sn α) fun x => some (d :: x.1, x.2) := (rfl)
@[simp] theorem a_xCallN {m : List A → MRes} {s : State → Option (List D × List D × List D)} {α : State} : xCallN m s α = bnd (s α) fun x => match m (x.1.map .dat ++ .inn (.lst x.2.1) :: x.2.2.map .dat) with | .ok (.dat d) _ => some d | _ => none := (rfl)
end
theorem mtpopat {X : Cx} {K : PySem.W.Frag} (h : X.K = K) : MtM X "list.pop" rPopAt := mt_popAt
section
variable {α : State} {i : Nat} {s : State → Option D} {sq : State → Option (List D)} {ra rb : State → Res D} {rl : State → Res (List Arg)}
@[simp] theorem a_r2 {f : D → D → Option D} : r2 f ra rb α = (match ra α with
  | .ok a α1 => (match rb α1 with
    | .ok b α2 => (match f a b with | some d => .ok d α2 | none => .bad)
    | .exc x => .exc x | .bad => .bad)
  | .exc x => .exc x | .bad => .bad) := (rfl)
@[simp] theorem a_rMake {c : String} {m : List A → MRes} : rMake c m rl α = (match rl α with
  | .ok as α1 => (match bnd (datas as) (mkV c m) with | some fs => .ok (.ins c fs) α1 | none => .bad)
  | .exc x => .exc x | .bad => .bad) := (rfl)
@[simp] theorem a_xPopAt : xPopAt i s α = (match s α, ctOf α[i]? with
  | some (.int z), some (.lst xs) => if rngOk z = true then (match seqIndex? z xs.length with
    | some j => (match xs[j]? with | some d => .ok d (putC α i (.lst (xs.eraseIdx j))) | none => .bad)
    | none => .bad) else .bad
  | _, _ => .bad) := (rfl)
@[simp] theorem a_xIdxF : xIdxF sq s α = bnd (sq α) fun ds => bnd (s α) fun d => if (flat d && ds.all flat) = true then (ixF ds d).map fun (j : Nat) => D.int (j : Int) else none := (rfl)
end
end Ab
end
section
set_option maxRecDepth 100000
set_option maxHeartbeats 1000000
namespace Ab
open PySem L2 PyProof.Rows PySem.Spec
variable [Hd]
section
variable {X : Cx} {C : Addr} {mc : Value} {e : Expr} {es : List Expr} {x : Str} {pos p1 p2 : Pos} {ta : TA} {pl : Sem Bool}
theorem pe_vei (hg : Gl X x) (hm : X.mg x = some (.ref C)) (r : ClX.CRead X.K C mc) (cv : PySem.W.findCls X.K (.ref C) mc "__init__" = some (.val (.builtin "ValueError.__init__"))) (ha : PA X (e :: es) ta)
    (he : starEach (e :: es) X.env = (false, eval e X.env) :: starEach es X.env := by rfl) (hpl : (backTo pos (starEach es X.env)).any (·.1) = false := by rfl) (hdb : (x == ("__debug__" : Str)) = false := by decide)
    (ht : eval (.Call (.Attribute (.Name x p1) "__init__" p2) (e :: es) [] pos) X.env = (do
      let ov ← eval (.Name x p1) X.env
      standAt p2.atName
      let (f, first) ← holding [ov] (getMethod ov "__init__" pl)
      callWith pos f first (backTo pos (starEach (e :: es) X.env)) (backToKw pos (keywordEach [] X.env))) := by rfl) :
    PE X (.Call (.Attribute (.Name x p1) "__init__" p2) (e :: es) [] pos) (tVeI X.K ta) := by
  refine ⟨fun pins s σ H Q I h => ?_⟩
  refine PySem.W.methodCall_KW (pl := pl) (ld_glob I hg hm ?_ hdb) ht
  refine PySem.W.method_cls I.kIn r.ga (PySem.W.cls_value I.kIn r.rd cv (by decide +kernel) ?_)
  have I0 := I.tok (s.toks + 1)
  show wpAny _ _ (callWith pos (Value.builtin "ValueError.__init__") [] (backTo pos (starEach (e :: es) X.env)) []) _ _ _
  refine PyProof.Rows.callWith_method1 (thn (ha.run pos pins _ σ H _ I0 h) fun us s1 ⟨vs, H1, I1, r1, a, C, ws, ev, hl, T, ea, q⟩ => ?_) he hpl
  subst ev
  cases r1 with
  | @cons _ u0 _ ur ra rw' =>
    obtain rfl : u0 = Value.ref a := ra
    have hlen : ur.length ≤ sizeLine := by
      rw [← Paired.length rw', sizeLine_eq]
      omega
    exact oinit_ok T I1 ea hlen fun s' J => ⟨.non, H1, J, rfl, q⟩
end
def spXI (C : Addr) (f : Str) : Sp := fun vs H Q _ => ∃ a y, vs = [.ref a, y] ∧ H a = some (exo a C none) ∧ ∀ dx, H dx = none → dx ≠ a → Q .non (upd (upd H dx (exd dx [(f, y)])) a (exo a C (some dx)))
section
variable {P : Program} {w : World} {K : PySem.W.Frag} {mg : Str → Option Value} {base : Heap}
theorem fn_XI {x qual : Str} {st : Stmt} {f C : Addr} {fd : FuncData} {a fl : Str} {tx : V} {k : Nat} (F : Fun K x qual st f fd) (S : FnScope ["self", a] ["self", a] (defScope st)) (T : OexC K C) (hno : PySem.W.findIn K (.ref C) fl = some none)
    (hbody : ∀ (cdv : Value) (A : Around) (outer : List Env) (s0 : Shared) (H : Hp) (E : XK), Room k (A.deeper (envOfC qual (defScope st) s0.heap.objs.size f cdv)) →
      PSs (cxOf CX0 P w K mg base ["self", a] qual (defScope st) f cdv A outer s0 H E).nox (defBody st) (tSeq (tDrop (tVeI K (tCons (tVar 0) (tCons (tC tx) tNil)))) (tOst K fl (tVar 0) (tVar 1)))) :
    FnOk P w K mg base CX0 (k + 1) f fd ["self", a] (spXI C fl) := by
  refine F.ok S (fun vs H Q E ⟨p, y, h, _⟩ => by rw [h]; rfl) (fun cdv A outer s0 H vs Q E hr h => ?_)
  obtain ⟨p, y, rfl, hp, q⟩ := h
  refine ⟨_, hbody cdv A outer s0 H E hr, ?_⟩
  refine ⟨.ref p, rfl, p, C, [tx], rfl, Nat.le_of_ble_eq_true rfl, T, hp, ?_⟩
  exact ⟨y, rfl, .ref p, rfl, p, C, rfl, T, hno, .inl ⟨hp, fun dx h1 h2 => q dx h1 h2⟩⟩
end
def sRaise1 (nm : String) (f : Str) (s : State → Option D) : State → Out := fun α => match s α with | some d => .exc ⟨nm, [(f, d)]⟩ | none => .bad
section
variable {e : En} {E : XK} {te : TE}
theorem st_raise1 {nm : String} {f : Str} {s : State → Option D} (h : Evp e te s) : Sts e E (fun _ σ H => tMkO (e.cls nm) (spXI (e.cls nm) f) [] (tCons te tNil) σ H fun cls d H' => E cls d H') (sRaise1 nm f s) := fun c L S σ H α D R k => by
  unfold sRaise1 at k
  cases hs : s α with
  | none => rw [hs] at k; exact k.elim
  | some d =>
    rw [hs] at k
    refine h c L S σ H α d R hs _ fun v H1 e1 r1 => ⟨by show 1 ≤ 1000; decide, fun a ha => ?_⟩
    refine ⟨a, v, rfl, upd_same, fun dx hdx hne => ⟨rfl, dx, [(f, v)], upd_same, ?_, ?_, ?_⟩⟩
    · rw [upd_ne hne, upd_same]
    · rw [upd_ne hne] at hdx; exact hdx
    · have hd1 : H1 dx = none := by rw [upd_ne hne] at hdx; exact hdx
      have same : Sm H1 (upd (del (upd (upd (upd H1 a (exo a (e.cls nm) none)) dx (exd dx [(f, v)])) a (exo a (e.cls nm) (some dx))) a) dx (.xd [(f, v)])) := .of fun b o hb => by
        have hba : b ≠ a := ne_of_none hb ha
        have hbd : b ≠ dx := ne_of_none hb hd1
        rw [upd_ne hbd, del_ne hba, upd_ne hba, upd_ne hbd, upd_ne hba]
        exact hb
      refine k _ _ _ (R.md.trans (.of (e1.trans same))) ⟨rfl, .inr ⟨dx, [(f, v)], rfl, upd_same, v, [], rfl, ?_, rfl⟩⟩ (fun p hp => by cases hp; exact (R.up e1).h0 hd1)
      exact Rep.up (d := d) r1 ((fz_same same).trans (fz_anti R.l0))
end
inductive XR where
  | ok (d : D) | exc (x : Exn) | bad
def spX (e : En) (m : List D → XR) : Sp := fun vs H Q E => ∃ L ds, Dom L H ∧ Reps e (fz L H) ds vs ∧ (∀ d, m ds = .ok d → ∀ v H', Sm H H' → Rep e (fz L H') d v → Q v H') ∧ (∀ x, m ds = .exc x → ∀ cls dd H', Sm H H' → XRep e (fz L H') H' x cls dd → (∀ p, dd = some p → H p = none) → E cls dd H') ∧ m ds ≠ .bad
def runX (n k : Nat) (s : State → Out) : List D → XR := fun ds => if ds.length = k then (match s (inP n k ds) with
  | .ret (.dat d) _ => .ok d | .ret (.lst xs) _ => .ok (.lst xs) | .nxt _ => .ok .non | .exc x => .exc x | _ => .bad) else .bad
section
variable {P : Program} {w : World} {K : PySem.W.Frag} {mg : Str → Option Value} {base : Heap}
theorem fn_X {cls : String → Addr} {x qual : Str} {st : Stmt} {f : Addr} {fd : FuncData} {N ps : List Str} {k : Nat} (s : State → Out) (F : Fun K x qual st f fd) (S : FnScope N ps (defScope st)) {n kk : Nat} (hn : N.length = n) (hkk : ps.length = kk) (hps : kk ≤ n) {m : List D → XR} (hmm : m = runX n kk s)
    (hbody : ∀ (cdv : Value) (A : Around) (outer : List Env) (s0 : Shared) (H : Hp) (E : XK), Room k (A.deeper (envOfC qual (defScope st) s0.heap.objs.size f cdv)) →
      ∃ t, PSs (cxOf (L2.CX P w) P w K mg base N qual (defScope st) f cdv A outer s0 H E) (defBody st) t ∧ Sts ⟨K, cls⟩ E t s) : FnOk P w K mg base (L2.CX P w) (k + 1) f fd ps (spX ⟨K, cls⟩ m) := by
  subst hn hkk hmm
  refine F.okX S (fun vs H Q E h => ?_) (fun cdv A outer s0 H vs Q E hr h => ?_)
  · obtain ⟨L, ds, dm, r, _, _, hb⟩ := h
    unfold runX at hb
    split at hb
    · rename_i hl
      rw [r.len, hl]
    · exact absurd rfl hb
  · obtain ⟨L, ds, dm, r, q, qx, hb⟩ := h
    obtain ⟨t, h1, h2⟩ := hbody cdv A outer s0 H E hr
    refine ⟨t, h1, ?_⟩
    unfold runX at q qx hb
    split at hb
    · rename_i hl
      rw [if_pos hl] at q qx
      have hvl : vs.length = ps.length := by rw [r.len, hl]
      have R := inP_rel (N := N) dm r (by omega)
      rw [hvl] at R
      refine h2 _ _ _ _ _ _ _ R ?_
      cases hs : s (inP N.length ps.length ds) with
      | ret rv β =>
        cases rv with
        | dat d' =>
          rw [hs] at q
          intro v L' S' σ' H' R' rr
          exact q d' rfl v H' R'.md.same (Rep.mono (fz_anti R'.l0) _ _ rr)
        | lst xs =>
          rw [hs] at q
          intro v L' S' σ' H' R' rr
          obtain ⟨p, us, rfl, n0, hp, r2⟩ := rr
          refine q (.lst xs) rfl _ H' R'.md.same ⟨p, us, rfl, .inl (.inl (fz_new (R'.n0 n0) hp)), r2.up (fz_anti fun a m => List.mem_cons_of_mem _ (R'.l0 a m))⟩
      | nxt β =>
        rw [hs] at q
        intro L' S' σ' H' _ R'
        exact q .non rfl _ H' R'.md.same rfl
      | exc x =>
        rw [hs] at qx
        intro cls dd H' m xr fr
        exact qx x rfl cls dd H' m.same xr fr
      | brk β => rw [hs] at hb; exact absurd rfl hb
      | cnt β => rw [hs] at hb; exact absurd rfl hb
      | bad => rw [hs] at hb; exact absurd rfl hb
    · exact absurd rfl hb
end
def sTry (i : Nat) (m : List D → XR) (sa : State → Option (List D)) (caught : List String) (suite : State → Out) : State → Out := fun α => match bnd (sa α) (fun ds => some (m ds)) with
  | some (.ok d) => .nxt (α.set i (some (.dat d)))
  | some (.exc x) => if x.name ∈ caught then suite α else .bad
  | _ => .bad
section
variable {e : En} {E : XK} {te : TE} {ta : TA} {tu : TS}
theorem st_try {i : Nat} {m : List D → XR} {sa : State → Option (List D)} {caught : List String} {suite : State → Out} {c0 : Value} {K : PySem.W.Frag} (hx : ∀ nm ∈ caught, PySem.W.exmOne K (.ref (e.cls nm)) c0 = some true) (h : Eva e ta sa) (hu : Sts e E tu suite) :
    Sts e E (fun D σ H => tAsg (tCallS (spX e m) (WE (wOnly K c0 (fun _ _ _ => tu) (fun _ _ _ _ => False) D)) ta) (gName i) D σ H) (sTry i m sa caught suite) := fun c L S σ H α D R k => by
  unfold sTry at k
  cases hs : sa α with
  | none => rw [hs] at k; exact k.elim
  | some ds =>
    rw [hs] at k
    change OutOk e E c D (fz L H) (match some (m ds) with
      | some (.ok d) => .nxt (α.set i (some (.dat d)))
      | some (.exc x) => if x.name ∈ caught then suite α else .bad
      | _ => .bad) at k
    refine h c L S σ H α ds R hs _ fun vs H1 e1 r1 => ?_
    have R1 := R.up e1
    refine ⟨L, ds, R1.dm, r1, fun d hm v H' s2 rv => ?_, fun x hm cls dd H' s2 xr fr => ?_, fun hm => ?_⟩
    · rw [hm] at k
      exact k L S _ H' (fz_same (e1.trans s2)) ((R1.up s2).setD rv)
    · rw [hm] at k
      dsimp only at k
      split at k
      · rename_i hmem
        refine ⟨true, ?_, fun _ a ha => ?_, fun z => nomatch z⟩
        · rw [xr.1]; exact hx _ hmem
        · exact hu c L S σ H' α D (R1.up s2) (k.mono (fz_same (e1.trans s2)))
      · exact k.elim
    · rw [hm] at k; exact k.elim
end
structure CalX (P : Program) (w : World) (K : PySem.W.Frag) (mg : Str → Option Value) (base : Heap) (x : Str) (ps : List Str) (k : Nat) (sp : Sp) : Prop where
  ex : ∃ f fd, FnOk P w K mg base (L2.CX P w) k f fd ps sp ∧ mg x = some (.ref f) ∧ PySem.W.keepIn K (.ref f) = true ∧ Binds K fd ps []
section
variable {X : Cx} {x : Str} {ps : List Str} {k j : Nat} {sp : Sp} {p pos : Pos} {e : Expr} {es : List Expr} {t : TA} {W : WX}
theorem pe_calX (C : CalX X.prog X.w X.K X.mg X.base x ps k sp) (hr : Room j X.A) (hkj : k ≤ j) (hg : Gl X x) (tk : Takes X W) (ha : PA X (e :: es) t) (hdb : (x == ("__debug__" : Str)) = false := by decide) (he : starEach (e :: es) X.env = (false, eval e X.env) :: starEach es X.env := by rfl) (hpl : (backTo pos (starEach es X.env)).any (·.1) = false := by rfl) :
    PE X (.Call (.Name x p) (e :: es) [] pos) (tCallS sp (WE W) t) := by
  obtain ⟨f, fd, G, hm, hk, hb⟩ := C.ex
  exact pe_callS G (hr.mono hkj) hg hm hk hb (fun σ => passAt tk σ) ha hdb he hpl
end
theorem ps_tryset {X : Cx} {i k j : Nat} {y f n : Str} {c : Value} {ps : List Str} {sp : Sp} {a : Expr} {as : List Expr} {ta : TA} {tu : TS} {b₀ : Stmt} {suite : List Stmt} {p1 p2 p3 p4 np pos pos' : Pos}
    (hs : X.stack = X.env :: X.outer) (hf : X.env.frame = some X.env.locals) (hN : X.N.Nodup) (hi : X.N[i]? = some y) (hy : Loc X.env.scope y) (hy2 : X.env.scope.names.lookup y = some .local) (C : CalX X.prog X.w X.K X.mg X.base f ps k sp) (hr : Room j X.A) (hkj : k ≤ j) (hg : Gl X f) (hc : Names X n c)
    (ha : ∀ (W : WX) (pn : List (Addr × Obj)) (xe : Value → Shared → Prop), PA (X.tr pn xe) (a :: as) ta)
    (hsu : ∀ (b : Addr) (oe : Obj) (cls : Value) (d : Option Addr) (pn : List (Addr × Obj)), PSs (X.suite b ((b, oe) :: pn)) (b₀ :: suite) tu)
    (hsw : swapsWith (.Call (.Name f p1) (a :: as) [] p2) (some (.Name y p3)) p4.line X.env = pure false := by rfl)
    (hdb : (f == ("__debug__" : Str)) = false := by decide) (he : starEach (a :: as) X.env = (false, eval a X.env) :: starEach as X.env := by rfl) (hpl : (backTo p2 (starEach as X.env)).any (·.1) = false := by rfl) :
    PS X (.Try [.Assign [.Name y p3] (.Call (.Name f p1) (a :: as) [] p2) p4] [.ExceptHandler (some (.Name n np)) none (b₀ :: suite) pos'] [] [] pos) (fun D σ H => tAsg (tCallS sp (WE (wOnly X.K c (fun _ _ _ => tu) (fun _ _ _ _ => False) D)) ta) (gName i) D σ H) :=
  ps_try_only (tb := fun W D σ H => tAsg (tCallS sp (WE W) ta) (gName i) D σ H) (ts := fun _ _ _ => tu) hs hf hc takes0 (fun W pn xe tk _ => pss_one (ps_set (X := X.tr pn xe) (i := i) hN hi hy (pe_calX (X := X.tr pn xe) C hr hkj hg tk (ha W pn xe) hdb he hpl) hsw (.inr hy2))) (fun b oe cls d pn _ _ => hsu b oe cls d pn)
structure ExM (P : Program) (w : World) (K : PySem.W.Frag) (mg : Str → Option Value) (base : Heap) (x : Str) (C : Addr) (f : Str) (k : Nat) : Prop where
  T : OexC K C
  ex : ∃ fI fd a, PySem.W.findIn K (.ref C) "__init__" = some (some (.ref fI)) ∧ PySem.W.typeIn K (.ref fI) = some (.type "function") ∧ FnOk P w K mg base CX0 k fI fd ["self", a] (spXI C f) ∧ Binds K fd ["self", a] []
  gC : mg x = some (.ref C)
theorem pass00 {X : Cx} {E : XK} : Passes CX0 X E := fun _ _ _ _ _ _ _ h => h.elim
theorem pmk_exm {X : Cx} {x f : Str} {C : Addr} {k j : Nat} {e : Expr} {es : List Expr} {ta : TA} {p pos : Pos} (M : ExM X.prog X.w X.K X.mg X.base x C f k) (hr : Room j X.A) (hkj : k + 1 ≤ j) (hg : Gl X x) (ha : PA X (e :: es) ta)
    (hdb : (x == ("__debug__" : Str)) = false := by decide) (he : starEach (e :: es) X.env = (false, eval e X.env) :: starEach es X.env := by rfl) (hpl : (backTo pos (starEach es X.env)).any (·.1) = false := by rfl) :
    PMk X (.Call (.Name x p) (e :: es) [] pos) (tMkO C (spXI C f) [] ta) := by
  obtain ⟨fI, fd, a, h1, h2, h3, h4⟩ := M.ex
  exact pmk_oex M.T h1 h2 h3 (hr.mono hkj) h4 .nil pass00 hg M.gC ha hdb he hpl
def okX (m : List D → XR) : List D → Option D := fun ds => match m ds with | .ok d => some d | _ => none
section
variable {X : Cx} {x : Str} {ps : List Str} {k j : Nat} {sp : Sp} {p pos : Pos} {e : Expr} {es : List Expr} {t : TA}
theorem pe_calX0 (C : CalX X.prog X.w X.K X.mg X.base x ps k sp) (hr : Room j X.A) (hkj : k ≤ j) (hg : Gl X x) (ha : PA X (e :: es) t) (hdb : (x == ("__debug__" : Str)) = false := by decide) (he : starEach (e :: es) X.env = (false, eval e X.env) :: starEach es X.env := by rfl) (hpl : (backTo pos (starEach es X.env)).any (·.1) = false := by rfl) :
    PE X (.Call (.Name x p) (e :: es) [] pos) (tCall sp [] E0 t) := by
  obtain ⟨f, fd, G, hm, hk, hb⟩ := C.ex
  exact pe_call G (hr.mono hkj) hg hm hk hb .nil passL ha hdb he hpl
end
theorem ev_callX {e : En} {ta : TA} {m : List D → XR} {sa : State → Option (List D)} (h : Eva e ta sa) : Evp e (tCall (spX e m) [] E0 ta) (xCall (okX m) sa) := fun c L S σ H α d R q Q k => by
  unfold xCall at q
  obtain ⟨ds, h1, h2⟩ := bnd_some q
  refine h c L S σ H α ds R h1 _ fun vs H1 e1 r1 => ?_
  have R1 := R.up e1
  unfold okX at h2
  refine ⟨L, ds, R1.dm, by rw [List.append_nil]; exact r1, fun d' hm v H' s2 rv => ?_, fun x hm => ?_, fun hm => ?_⟩
  · rw [hm] at h2; cases h2
    exact k v H' (e1.trans s2) rv
  · rw [hm] at h2; cases h2
  · rw [hm] at h2; cases h2
section
variable {α : State} {i : Nat} {s : State → Option D} {sa : State → Option (List D)} {m : List D → XR}
@[simp] theorem a_sRaise1 {nm : String} {f : Str} : sRaise1 nm f s α = (match s α with | some d => .exc ⟨nm, [(f, d)]⟩ | none => .bad) := (rfl)
@[simp] theorem a_sTry {cs : List String} {u : State → Out} : sTry i m sa cs u α = (match bnd (sa α) (fun ds => some (m ds)) with
  | some (.ok d) => .nxt (α.set i (some (.dat d)))
  | some (.exc x) => if x.name ∈ cs then u α else .bad
  | _ => .bad) := (rfl)
@[simp] theorem a_okX {ds : List D} : okX m ds = (match m ds with | .ok d => some d | _ => none) := (rfl)
theorem runX_ret {n k : Nat} {s : State → Out} {ds : List D} {d : D} {β : State} (hk : ds.length = k) (h : s (inP n k ds) = .ret (.dat d) β) : runX n k s ds = .ok d := by
  unfold runX; rw [if_pos hk, h]
theorem runX_exc {n k : Nat} {s : State → Out} {ds : List D} {x : Exn} (hk : ds.length = k) (h : s (inP n k ds) = .exc x) : runX n k s ds = .exc x := by
  unfold runX; rw [if_pos hk, h]
end
section
variable {e : En} {E : XK} {te tk : TE}
theorem ev_tupT {sq : State → Option (List D)} (h : EvqT e te sq) : Evp e (tCB (fun xs H Q => ∃ p ys, xs = [.ref p] ∧ ((SqL e.K H p ys ∧ ∀ l, H l = none → Q (.ref l) (upd H l (.tup ys))) ∨ (SqT e.K H p ys ∧ Q (.ref p) H))) (tCons te tNil)) (xTupL sq) := fun c L S σ H α d R q Q k => by
  unfold xTupL at q
  cases hs : sq α with
  | none => rw [hs] at q; cases q
  | some xs =>
    rw [hs] at q; cases q
    refine h c L S σ H α xs R hs _ fun a vs H' e1 r1 r2 => ⟨a, vs, rfl, .inr ⟨same_t fz_le r1, ?_⟩⟩
    exact k _ _ e1 ⟨a, vs, rfl, r1, r2⟩
def rIns : V → List V → Hp → VK → Prop := fun x vs H Q => ∃ (l : Addr) (xs : List V) (i : Int) (y : V), x = .ref l ∧ vs = [.int i, y] ∧ H l = some (.lst xs) ∧ xs.length < sizeLine ∧ 0 ≤ i ∧ i < 2 ^ 63 ∧ Q .non (upd H l (.lst (xs.take i.toNat ++ [y] ++ xs.drop i.toNat)))
theorem mtins {X : Cx} : MtR X "list.insert" rIns := mt_insert
def sIns (i : Nat) (sk s : State → Option D) : State → Out := fun α => match sk α, s α, ctOf α[i]? with
  | some (.int z), some d, some (.lst xs) => if rngOk z = true ∧ 0 ≤ z ∧ xs.length < 100000 then .nxt (putC α i (.lst (xs.take z.toNat ++ [d] ++ xs.drop z.toNat))) else .bad
  | _, _, _ => .bad
theorem st_ins (i : Nat) {sk s : State → Option D} (hk : Evp e tk sk) (hs : Evp e te s) : Sts e E (tDrop (tBM e.K "list" rIns (tVar i) (tCons tk (tCons te tNil)))) (sIns i sk s) := fun c L S σ H α D R k => by
  unfold sIns at k
  split at k
  · rename_i z d xs hz hd hc
    split at k
    · rename_i hg
      obtain ⟨hrng, h0, hlen⟩ := hg
      obtain ⟨p, o, h1, m1, ho, vs, rfl, r1⟩ := R.at hc
      refine ⟨.ref p, h1, .inl ⟨rfl, vs, SqL.of ho⟩, ?_⟩
      refine hk c L S σ H α _ R hz _ fun v2 H2 e2 r2 => ?_
      cases r2
      refine hs c L S σ H2 α _ (R.up e2) hd _ fun v3 H3 e3 r3 => ?_
      have hr := rngOk_iff.mp hrng
      have R3 := (R.up e2).up e3
      have r13 := r1.up (fz_same (e2.trans e3))
      refine ⟨p, vs, z, v3, rfl, rfl, e3.k _ _ (e2.k _ _ ho (R.nh p (R.sub p m1))) (R.nh p (R.sub p m1)), by rw [r1.len]; exact sz_lt hlen, h0, Int.lt_of_lt_of_le hr.2 (by decide), ?_⟩
      obtain ⟨R4, m4⟩ := R3.mut hc h1 (o := .lst (vs.take z.toNat ++ [v3] ++ vs.drop z.toNat)) (ct' := .lst (xs.take z.toNat ++ [d] ++ xs.drop z.toNat)) ⟨_, rfl, ((r13.take _).append (Reps.cons r3 Reps.nil)).append (r13.drop _)⟩
      exact k L S σ _ ((fz_same (e2.trans e3)).trans (fz_mod m4 R3.sub)) R4
    · exact k.elim
  · exact k.elim
@[simp] theorem a_sIns {i : Nat} {sk s : State → Option D} {α : State} : sIns i sk s α = (match sk α, s α, ctOf α[i]? with
  | some (.int z), some d, some (.lst xs) => if rngOk z = true ∧ 0 ≤ z ∧ xs.length < 100000 then .nxt (putC α i (.lst (xs.take z.toNat ++ [d] ++ xs.drop z.toNat))) else .bad
  | _, _, _ => .bad) := (rfl)
end
end Ab
end
section
set_option maxRecDepth 100000
set_option maxHeartbeats 1000000
namespace Ab
open PySem L2 PyProof.Rows PySem.Spec
variable [Hd]
section
variable {X : Cx} {pins : List (Addr × Obj)} {σ : L2.St} {H : Hp} {s : Shared}
theorem inv_drop {dd : Addr} {fs : List (Str × V)} (I : Inv X pins σ H s) (hd : H dd = some (.xd fs)) : Inv X pins σ (del H dd) s := by
  have hn : ∀ b, H b = none → del H dd b = none := fun b h => by
    by_cases e : b = dd
    · rw [e, del_same]
    · rw [del_ne e]; exact h
  have hs : ∀ b o, (∀ fs, o ≠ HO.xd fs) → H b = some o → del H dd b = some o := fun b o no h => by
    by_cases e : b = dd
    · rw [e, hd] at h; exact absurd (Option.some.inj h).symm (no fs)
    · rw [del_ne e]; exact h
  refine ⟨I.ok, I.os, I.bare, ⟨I.base.keep, I.base.slot, fun b o e n hx => hn b (I.base.free b o e n hx), I.base.there, fun b xs z => hs b _ (fun _ q => nomatch q) (I.base.tups b xs z), fun b o u z => hs b _ (fun _ q => nomatch q) (I.base.frzs b o u z), fun b ps z => ?_⟩, I.loc, I.cell, hn _ I.free, fun x c e => hn _ (I.freeC x c e), fun p hp => ?_, fun b o z => ?_, I.len⟩
  · obtain ⟨more, q⟩ := I.base.tbls b ps z
    exact ⟨more, hs b _ (fun _ q => nomatch q) q⟩
  · obtain ⟨h1, h2, h3⟩ := I.pin p hp
    exact ⟨h1, hn _ h2, h3⟩
  · by_cases e : b = dd
    · rw [e, del_same] at z; cases z
    · rw [del_ne e] at z
      exact (I.hok b o z).stay (fun _ _ _ q => q) (fun c q => hs c _ (fun _ q => nomatch q) q) (fun c xs q => hs c _ (fun _ q => nomatch q) q)
theorem xd_nofs {dd : Addr} {fs : List (Str × V)} (I : Inv X pins σ H s) (hd : H dd = some (.xd fs)) : dd ∉ X.fs ∧ dd ≠ X.env.locals := by
  refine ⟨fun m => ?_, fun e => ?_⟩
  · obtain ⟨_, o, ho, _⟩ := I.ok.funs.mem m
    have := I.base.free dd o ho (I.ok.frf dd m) (fun z => I.ok.exfs dd z m)
    rw [hd] at this; cases this
  · rw [e, I.free] at hd; cases hd
def OdOk (od : Obj) (fs : List (Str × V)) : Prop := (∀ f, ∃ gv, PySem.W.lookIn f od = some gv ∧ RelO (fs.lookup f) gv) ∧ ∀ v, od.data ≠ .cell v
theorem pss_pin {a : Addr} {oe : Obj} {d : Option Addr} {pn : List (Addr × Obj)} {body : List Stmt} {ts : List (Str × V) → TS}
    (h : ∀ (dd : Addr) (od : Obj) (fs : List (Str × V)), d = some dd → OdOk od fs → PSs (X.suite a ((a, oe) :: (dd, od) :: pn)) body (ts fs)) :
    PSs (X.suite a ((a, oe) :: pn)) body (fun D σ H => ∃ dd fs, d = some dd ∧ H dd = some (.xd fs) ∧ ts fs D σ (del H dd)) := by
  refine ⟨fun pins s σ H D I ⟨dd, fs, e, hd, q⟩ => ?_⟩
  have hx : ObjOk X.prog X.w H s.heap dd (.xd fs) := I.hok dd _ hd
  obtain ⟨mA, hns, hr⟩ := hx
  obtain ⟨od, ho, hl⟩ := lookIn_ns hns
  obtain ⟨n1, n2⟩ := xd_nofs I hd
  have nc : ∀ v, od.data ≠ .cell v := fun v z => by
    obtain ⟨o, es, ep, h1, h2, _⟩ := hns
    rw [ho] at h1; cases h1
    rw [z] at h2; cases h2
  have J := inv_drop I hd
  have J2 : Inv (X.suite a ((a, oe) :: (dd, od) :: pn)) pins σ (del H dd) s := by
    refine ⟨J.ok.toTry ((a, oe) :: (dd, od) :: pn) (fun _ _ => False), J.os, J.bare, J.base, J.loc, J.cell, J.free, J.freeC, fun p hp => ?_, J.hok, J.len⟩
    have hp' : p ∈ (a, oe) :: (dd, od) :: (pn ++ pins) := hp
    rcases List.mem_cons.mp hp' with e | hp'
    · exact J.pin p (by rw [e]; exact List.mem_cons_self)
    rcases List.mem_cons.mp hp' with e | hp'
    · rw [e]; exact ⟨ho, del_same, n2, n1, nc⟩
    · exact J.pin p (List.mem_cons_of_mem _ hp')
  have back : ∀ {σ' : L2.St} {H' : Hp} {s' : Shared}, Inv (X.suite a ((a, oe) :: (dd, od) :: pn)) pins σ' H' s' → Inv (X.suite a ((a, oe) :: pn)) pins σ' H' s' := fun {σ' H' s'} K => by
    refine ⟨I.ok, K.os, K.bare, K.base, K.loc, K.cell, K.free, K.freeC, fun p hp => K.pin p ?_, K.hok, K.len⟩
    have hp' : p ∈ (a, oe) :: (pn ++ pins) := hp
    show p ∈ (a, oe) :: (dd, od) :: (pn ++ pins)
    rcases List.mem_cons.mp hp' with e | hp'
    · rw [e]; exact List.mem_cons_self
    · exact List.mem_cons_of_mem _ (List.mem_cons_of_mem _ hp')
  refine wpAny_mono ((h dd od fs e ⟨fun f => ⟨_, hl f, hr f⟩, nc⟩).run pins s σ _ D J2 q) (fun f s' hs => ?_) (fun _ _ z => z)
  cases f with
  | next => obtain ⟨σ', H', K, z⟩ := hs; exact ⟨σ', H', back K, z⟩
  | brk => obtain ⟨σ', H', K, z⟩ := hs; exact ⟨σ', H', back K, z⟩
  | cont => obtain ⟨σ', H', K, z⟩ := hs; exact ⟨σ', H', back K, z⟩
  | ret u => obtain ⟨v, σ', H', K, z⟩ := hs; exact ⟨v, σ', H', back K, z⟩
end
section
variable {X : Cx} {a dd : Addr} {oe od : Obj} {cls : Value} {fs : List (Str × V)} {pn : List (Addr × Obj)}
theorem inst_at {pins : List (Addr × Obj)} {σ : L2.St} {H : Hp} {s : Shared} {D : Addr} (hz : Zc (.ref D) (some dd) oe) (hf : ∃ vs, oe.data = .fields vs) (I : Inv (X.suite a ((a, oe) :: (dd, od) :: pn)) pins σ H s) : PySem.W.InstAt s.heap a oe D (some od) := by
  obtain ⟨ha, _⟩ := I.pin (a, oe) (List.mem_append_left _ List.mem_cons_self)
  obtain ⟨ho, _⟩ := I.pin (dd, od) (List.mem_append_left _ (List.mem_cons_of_mem _ List.mem_cons_self))
  obtain ⟨vs, hd⟩ := hf
  exact ⟨ha, hz.1, by unfold PySem.W.notCls; rw [hd] <;> rfl, by rw [hz.2]; exact ho⟩
def tXfP (K : PySem.W.Frag) (a : Addr) (cls : Value) (fs : List (Str × V)) (f : Str) (te : TE) : TE := fun σ H Q => te σ H fun x H1 => x = .ref a ∧ ∃ (C : Addr) (v : V), cls = .ref C ∧ XfC K C ∧ PySem.W.findIn K (.ref C) f = some none ∧ fs.lookup f = some v ∧ Q v H1
theorem pe_xfP {e : Expr} {te : TE} {pos : Pos} {n : Str} (hz : Zc cls (some dd) oe) (hf : ∃ vs, oe.data = .fields vs) (ho : OdOk od fs) (he : PE (X.suite a ((a, oe) :: (dd, od) :: pn)) e te) (hb : attributeBase e n X.env (eval e X.env) = eval e X.env := by rfl) :
    PE (X.suite a ((a, oe) :: (dd, od) :: pn)) (.Attribute e n pos) (tXfP X.K a cls fs n te) := by
  refine ⟨fun pins s σ H Q I h => ?_⟩
  refine attr_of hb (thn (he.run pins s σ H _ I h) fun u s1 ⟨x, H1, I1, rx, ex, C, v, ec, T, hno, l, q⟩ => ?_)
  subst ex ec
  obtain rfl : u = Value.ref a := rx
  obtain ⟨gv, hl, hr⟩ := ho.1 n
  obtain ⟨u, hu, ru⟩ := RelO.some_of (v := v) (o := gv) (by rw [← l]; exact hr)
  exact HandSPX.exc_get I1.kIn (inst_at hz hf I1) T.ga T.gg T.exC (PySem.W.findObj_own T.hdC hno rfl (by rw [hl, hu])) (handed_of ru) ⟨v, H1, I1.tok _, ru, q⟩
def rIsEP (K : PySem.W.Frag) (a : Addr) (cls : Value) : List V → Hp → VK → Prop := fun xs H Q => ∃ (D : Addr) (c : V) (cv : Value) (b : Bool), cls = .ref D ∧ ExcC K D ∧ xs = [.ref a, c] ∧ (∀ u, RelV c u → u = cv) ∧ PySem.W.kitOne K (.ref D) cv = some b ∧ Q (.bl b) H
theorem call_isEP (hz : Zc cls (some dd) oe) (hf : ∃ vs, oe.data = .fields vs) : CallR (X.suite a ((a, oe) :: (dd, od) :: pn)) (.builtin "isinstance") (rIsEP X.K a cls) := by
  intro pins s σ H xs us Q I r h
  obtain ⟨D, c, cv, b, rfl, C, rfl, hcv, e, q⟩ := h
  cases r with
  | cons rx rr =>
    cases rr with
    | cons rt rr =>
      cases rr
      cases rx
      have ec := hcv _ rt
      subst ec
      obtain ⟨cd, hc, _⟩ := PySem.W.any_some C.hd
      exact PySem.W.kia_one (PySem.W.kitx_exc (by rw [hc]; rfl) C.hg C.hk C.hs C.ha C.hn C.ht C.hm) I.kIn (inst_at hz hf I) e (fun z => nomatch z) fun tk => ⟨.bl b, H, I.kept (t' := tk) fun _ _ z => z, rfl, q⟩
def rIsETP (K : PySem.W.Frag) (a : Addr) (cls : Value) : List V → Hp → VK → Prop := fun xs H Q => ∃ (D tp : Addr) (cs : List V) (us : List Value) (b : Bool), cls = .ref D ∧ ExcC K D ∧ xs = [.ref a, .ref tp] ∧ H tp = some (.tup cs) ∧ Paired ClsV cs us ∧ PySem.W.kitAny K (.ref D) us = some b ∧ Q (.bl b) H
theorem call_isETP (hz : Zc cls (some dd) oe) (hf : ∃ vs, oe.data = .fields vs) : CallR (X.suite a ((a, oe) :: (dd, od) :: pn)) (.builtin "isinstance") (rIsETP X.K a cls) := by
  intro pins s σ H xs us Q I r h
  obtain ⟨D, tp, cs, ws, b, rfl, C, rfl, hT, k, e, q⟩ := h
  cases r with
  | cons rx rr =>
    cases rr with
    | cons rt rr =>
      cases rr
      cases rx
      cases rt
      obtain ⟨_, its, rv, o, h1, h2, n, h3⟩ := (show ObjOk X.prog X.w H s.heap tp (.tup cs) from I.hok tp _ hT)
      have e3 := ClsV.all k rv
      subst e3
      obtain ⟨oc, od', dt, sl⟩ := o
      simp only at h2 h3
      subst h2 h3
      obtain ⟨cd, hc, _⟩ := PySem.W.any_some C.hd
      exact PySem.W.kia_tup (PySem.W.kitx_exc (by rw [hc]; rfl) C.hg C.hk C.hs C.ha C.hn C.ht C.hm) I.kIn (inst_at hz hf I) h1 e (fun z => nomatch z) fun tk => ⟨.bl b, H, I.kept (t' := tk) fun _ _ z => z, rfl, q⟩
end
def eraseO (j : Nat) : Out → Out
  | .nxt β => .nxt (β.set j none) | .ret r β => .ret r (β.set j none) | .brk β => .brk (β.set j none) | .cnt β => .cnt (β.set j none) | .exc x => .exc x | .bad => .bad
open Classical in
noncomputable def exAs (j : Nat) (s : Addr → State → Out) : State → Out := fun α => if h : ∃ o, ∀ a : Addr, eraseO j (s a (α.set j (some (.adr a)))) = o then Classical.choose h else .bad
theorem exAs_eq {j : Nat} {s : Addr → State → Out} {α : State} {o : Out} (h : ∀ a : Addr, eraseO j (s a (α.set j (some (.adr a)))) = o) : exAs j s α = o := by
  unfold exAs
  have hx : ∃ o, ∀ a : Addr, eraseO j (s a (α.set j (some (.adr a)))) = o := ⟨o, h⟩
  rw [dif_pos hx, ← Classical.choose_spec hx 0, h 0]
theorem exAs_spec {j : Nat} {s : Addr → State → Out} {α : State} (hb : exAs j s α ≠ .bad) (a : Addr) : eraseO j (s a (α.set j (some (.adr a)))) = exAs j s α := by
  unfold exAs at hb ⊢
  split
  · rename_i h
    exact Classical.choose_spec h a
  · rename_i h
    rw [dif_neg h] at hb
    exact absurd rfl hb
section
variable {e : En} {E : XK} {te : TE} {ta : TA}
theorem Rel.setA {c : Cn} {L S : List Addr} {σ : L2.St} {H : Hp} {α : State} (r : Rel e c L S σ H α) (j : Nat) (a : Addr) : Rel e c L S (σ.set j (some (.ref a))) H (α.set j (some (.adr a))) where
  slot := fun i x q => by
    rw [getset] at q ⊢
    have hl := r.len
    by_cases h1 : j = i
    · subst h1
      rw [if_pos rfl] at q ⊢
      by_cases h2 : j < α.length
      · rw [if_pos h2] at q
        cases q
        exact ⟨.ref a, by rw [if_pos (by omega)], rfl⟩
      · rw [if_neg h2] at q; cases q
    · rw [if_neg h1] at q ⊢
      exact r.slot i x q
  sep := fun i k p hi hk si sk => by
    rw [getset] at hi hk si sk
    by_cases e1 : j = i
    · rw [if_pos e1] at hi
      split at hi <;> simp [isOwn] at hi
    · by_cases e2 : j = k
      · rw [if_pos e2] at hk
        split at hk <;> simp [isOwn] at hk
      · rw [if_neg e1] at hi si; rw [if_neg e2] at hk sk
        exact r.sep i k p hi hk si sk
  inv := r.inv
  h1 := r.h1
  nh := r.nh
  dom := r.dom
  sub := r.sub
  l0 := r.l0
  l1 := r.l1
  s1 := r.s1
  md := r.md
  s0 := r.s0
  d0 := r.d0
  len := by rw [List.length_set, List.length_set]; exact r.len
abbrev endsN (j : Nat) (D : Ends) : Ends := { nx := fun σ' H' => D.nx (σ'.set j none) H', rt := D.rt, bk := fun σ' H' => D.bk (σ'.set j none) H', ct := fun σ' H' => D.ct (σ'.set j none) H' }
theorem out_erase {c : Cn} {D : Ends} {F : Hp} {j : Nat} : ∀ {o : Out}, OutOk e E c D F (eraseO j o) → OutOk e E c (endsN j D) F o
  | .nxt β, k => fun L S σ H s R => k L S _ H s (R.setN j)
  | .brk β, k => fun L S σ H s R => k L S _ H s (R.setN j)
  | .cnt β, k => fun L S σ H s R => k L S _ H s (R.setN j)
  | .ret r β, k => fun v L S σ H R rr => k v L S _ H (R.setN j) rr
  | .exc x, k => k
  | .bad, k => k
abbrev pinR (ts : Addr → Value → List (Str × V) → TS) : Addr → Value → Option Addr → TS := fun a cls d D σ H => ∃ dd fs, d = some dd ∧ H dd = some (.xd fs) ∧ ts a cls fs D σ (del H dd)
theorem Sm.del {H1 H' : Hp} {p : Addr} {u : HO} (s : Sm H1 H') (n : H1 p = none) (h : H' p = some u) (pl : Pl u) : Sm H1 (del H' p) :=
  ⟨fun b o q nh => by rw [del_ne (ne_of_none q n)]; exact s.k _ _ q nh, fun i => Hd.del (s.i i) (fun hh => Hd.al i hh n) h pl⟩
theorem tryAs_call {j : Nat} {m : List D → XR} {sa : State → Option (List D)} {suite : Exn → Addr → State → Out} {caught : List String} {c0 : Value} {K : PySem.W.Frag} {ts : Addr → Value → List (Str × V) → TS} {DE : Ends} {Q : VK}
    (hx : ∀ nm ∈ caught, PySem.W.exmOne K (.ref (e.cls nm)) c0 = some true) (h : Eva e ta sa)
    (hu : ∀ (x : Exn) (a : Addr) (gs : List (Str × V)) (F : Hp), x.name ∈ caught → RepF e F x.fs gs → Sts e E (ts a (.ref (e.cls x.name)) gs) (suite x a))
    {c : Cn} {L S : List Addr} {σ : L2.St} {H : Hp} {α : State} {ds : List D} (R : Rel e c L S σ H α) (hs : sa α = some ds)
    (hok : ∀ d, m ds = .ok d → ∀ v H', Sm H H' → Rel e c L S σ H' α → Rep e (fz L H') d v → Q v H')
    (hex : ∀ x, m ds = .exc x → x.name ∈ caught ∧ x.fs ≠ [] ∧ OutOk e E c DE (fz L H) (exAs j (suite x) α)) (hb : m ds ≠ .bad) :
    tCallS (spX e m) (WE (wAs K c0 j (pinR ts) (fun _ _ _ _ => False) DE)) ta σ H Q := by
  refine h c L S σ H α ds R hs _ fun vs H1 e1 r1 => ?_
  have R1 := R.up e1
  refine ⟨L, ds, R1.dm, r1, fun d hm v H' s2 rv => hok d hm v H' (e1.trans s2) (R1.up s2) rv, fun x hm cls dd H' s2 xr fr => ?_, hb⟩
  obtain ⟨h1, h2, h3⟩ := hex x hm
  obtain ⟨p, gs, rfl, hp, rf⟩ := xr.2.resolve_left (fun z => h2 z.1)
  have hp1 : H1 p = none := fr p rfl
  have s3 : Sm H1 (del H' p) := s2.del hp1 hp trivial
  have hnb : exAs j (suite x) α ≠ .bad := fun z => by rw [z] at h3; exact h3
  refine ⟨true, by rw [xr.1]; exact hx _ h1, fun _ a ha => ⟨p, gs, rfl, hp, ?_⟩, fun z => nomatch z⟩
  rw [xr.1]
  refine hu x a gs _ h1 rf c L S _ _ _ _ ((R1.up s3).setA j a) ?_
  have k : OutOk e E c DE (fz L H) (eraseO j (suite x a (α.set j (some (.adr a))))) := by rw [exAs_spec hnb a]; exact h3
  exact (out_erase k).mono (fz_same (e1.trans s3))
noncomputable def sTryAs (i j : Nat) (m : List D → XR) (w : D → Option D) (sa : State → Option (List D)) (caught : List String) (suite : Exn → Addr → State → Out) : State → Out := fun α => match bnd (sa α) (fun ds => some (m ds)) with
  | some (.ok d) => (match w d with | some d' => .nxt (α.set i (some (.dat d'))) | none => .bad)
  | some (.exc x) => if x.name ∈ caught ∧ x.fs ≠ [] then exAs j (suite x) α else .bad
  | _ => .bad
def wPair (d : D) : Option D := some (.tup [d, .non])
theorem st_tryAsPair {i j : Nat} {m : List D → XR} {sa : State → Option (List D)} {suite : Exn → Addr → State → Out} {caught : List String} {c0 : Value} {K : PySem.W.Frag} {ts : Addr → Value → List (Str × V) → TS}
    (hx : ∀ nm ∈ caught, PySem.W.exmOne K (.ref (e.cls nm)) c0 = some true) (h : Eva e ta sa)
    (hu : ∀ (x : Exn) (a : Addr) (gs : List (Str × V)) (F : Hp), x.name ∈ caught → RepF e F x.fs gs → Sts e E (ts a (.ref (e.cls x.name)) gs) (suite x a)) :
    Sts e E (fun D σ H => tAsg (tTup (tCons (tCallS (spX e m) (WE (wAs K c0 j (pinR ts) (fun _ _ _ _ => False) D)) ta) (tCons (tC .non) tNil))) (gName i) D σ H) (sTryAs i j m wPair sa caught suite) := fun c L S σ H α D R k => by
  unfold sTryAs at k
  cases hs : sa α with
  | none => rw [hs] at k; exact k.elim
  | some ds =>
    rw [hs] at k
    change OutOk e E c D (fz L H) (match some (m ds) with
      | some (.ok d) => (match wPair d with | some d' => .nxt (α.set i (some (.dat d'))) | none => .bad)
      | some (.exc x) => if x.name ∈ caught ∧ x.fs ≠ [] then exAs j (suite x) α else .bad
      | _ => .bad) at k
    refine tryAs_call hx h hu R hs (fun d hm v H' s2 R2 rv => ?_) (fun x hm => ?_) (fun hm => ?_)
    · rw [hm] at k
      refine ⟨by show 2 ≤ _; rw [sizeLine_eq]; decide, fun p hp => ?_⟩
      have s3 : Sm H' (upd H' p (.tup [v, .non])) := .of fun b o z => by rw [upd_ne (ne_of_none z hp)]; exact z
      refine k L S _ _ (fz_same (s2.trans s3)) ((R2.up s3).setD (d := .tup [d, .non]) ⟨p, [v, .non], rfl, .inl (.inl (fz_new (fresh_nL R2.dm hp) upd_same)), v, [.non], rfl, Rep.up (d := d) rv (fz_same s3), .non, [], rfl, rfl, rfl⟩)
    · rw [hm] at k
      dsimp only at k
      split at k
      · rename_i hc
        exact ⟨hc.1, hc.2, k⟩
      · exact k.elim
    · rw [hm] at k; exact k.elim
end
def xIsE (a : Addr) (j : Nat) (tbl : List (String × Bool)) (nm : String) : State → Option D := fun α => match α[j]? with
  | some (some (.adr b)) => if b = a then (tbl.lookup nm).map .bl else none
  | _ => none
def xFldE (a : Addr) (j : Nat) (f : Str) (fs : List (Str × D)) : State → Option D := fun α => match α[j]? with
  | some (some (.adr b)) => if b = a then (match fs.lookup f with | some d => if flat d = true then some d else none | none => none) else none
  | _ => none
section
variable {e : En} {E : XK} {te tc : TE}
theorem adr_at {c : Cn} {L S : List Addr} {σ : L2.St} {H : Hp} {α : State} {j : Nat} {a : Addr} (R : Rel e c L S σ H α) (h : α[j]? = some (some (.adr a))) : σ[j]? = some (some (.ref a)) := by
  obtain ⟨v, h1, h2⟩ := R.slot j _ h
  cases (show v = .ref a from h2)
  exact h1
theorem ev_isE {nm : String} {a : Addr} {j : Nat} {tbl : List (String × Bool)} {dc : D} {cv : Value} (hcv : ∀ F v, Rep e F dc v → ∀ u, RelV v u → u = cv) (h : ∀ p ∈ tbl, ExcC e.K (e.cls p.1) ∧ PySem.W.kitOne e.K (.ref (e.cls p.1)) cv = some p.2) (hc : Evp e tc (fun _ => some dc)) :
    Evp e (tCB (rIsEP e.K a (.ref (e.cls nm))) (tCons (tVar j) (tCons tc tNil))) (xIsE a j tbl nm) := fun c L S σ H α d R q Q k => by
  unfold xIsE at q
  split at q
  · rename_i b hb
    split at q
    · rename_i hba
      subst hba
      cases hl : tbl.lookup nm with
      | none => rw [hl] at q; cases q
      | some r =>
        rw [hl] at q; cases q
        obtain ⟨C, hk⟩ := h _ (mem_of_lookup hl)
        refine ⟨.ref b, adr_at R hb, ?_⟩
        refine hc c L S σ H α dc R rfl _ fun v H1 e1 r1 => ?_
        exact ⟨_, v, cv, r, rfl, C, rfl, fun u ru => hcv _ _ r1 u ru, hk, k _ _ e1 rfl⟩
    · cases q
  · cases q
theorem ev_isET {nm : String} {a : Addr} {j : Nat} {tbl : List (String × Bool)} {cs : List String} {tcs : TA} (hl0 : cs.length ≤ 1000) (h : ∀ p ∈ tbl, ExcC e.K (e.cls p.1) ∧ PySem.W.kitAny e.K (.ref (e.cls p.1)) (cs.map fun c => .ref (e.cls c)) = some p.2) (ht : Eva e tcs (fun _ => some (cs.map .cls))) :
    Evp e (tCB (rIsETP e.K a (.ref (e.cls nm))) (tCons (tVar j) (tCons (tTup tcs) tNil))) (xIsE a j tbl nm) := fun c L S σ H α d R q Q k => by
  unfold xIsE at q
  split at q
  · rename_i b hb
    split at q
    · rename_i hba
      subst hba
      cases hl : tbl.lookup nm with
      | none => rw [hl] at q; cases q
      | some r =>
        rw [hl] at q; cases q
        obtain ⟨C, hk⟩ := h _ (mem_of_lookup hl)
        refine ⟨.ref b, adr_at R hb, ?_⟩
        refine ht c L S σ H α _ R rfl _ fun vs H2 e2 r2 => ⟨by rw [r2.len, List.length_map]; exact Nat.le_trans hl0 (by decide), fun p hp => ?_⟩
        have hpr : ∀ (cs : List String) (vs : List V), Reps e (fz L H2) (cs.map .cls) vs → Paired ClsV vs (cs.map fun c => .ref (e.cls c)) := by
          intro cs
          induction cs with
          | nil => intro vs r; cases r; exact .nil
          | cons c cs ih =>
            intro vs r
            obtain ⟨v, w, rfl, r3, r4⟩ := r
            cases r3
            exact .cons (.own _) (ih w r4)
        exact ⟨_, p, vs, _, r, rfl, C, rfl, upd_same, hpr cs vs r2, hk, k _ _ (e2.trans (same_upd hp)) rfl⟩
    · cases q
  · cases q
theorem ev_xfE {nm : String} {a : Addr} {j : Nat} {f : Str} {fs : List (Str × D)} {gs : List (Str × V)} {F : Hp} (rf : RepF e F fs gs) (T : XfC e.K (e.cls nm)) (hno : PySem.W.findIn e.K (.ref (e.cls nm)) f = some none) :
    Evp e (tXfP e.K a (.ref (e.cls nm)) gs f (tVar j)) (xFldE a j f fs) := fun c L S σ H α d R q Q k => by
  unfold xFldE at q
  split at q
  · rename_i b hb
    split at q
    · rename_i hba
      subst hba
      cases hl : fs.lookup f with
      | none => rw [hl] at q; cases q
      | some d0 =>
        rw [hl] at q
        dsimp only at q
        split at q
        · rename_i hfl
          cases q
          obtain ⟨v, h1, h2⟩ := repF_lookup rf hl
          refine ⟨.ref b, adr_at R hb, rfl, _, v, rfl, T, hno, h1, k _ _ (Sm.refl _) ?_⟩
          rw [rep_flat hfl h2]; exact rep_of_flat hfl
        · cases q
    · cases q
  · cases q
end
theorem ps_tryas {X : Cx} {i j : Nat} {y n nm : Str} {c : Value} {ve : Expr} {te : WX → TE} {ts : Addr → Value → List (Str × V) → TS} {b₀ : Stmt} {suite : List Stmt} {p3 p4 np pos pos' : Pos}
    (hs : X.stack = X.env :: X.outer) (hf : X.env.frame = some X.env.locals) (hN : X.N.Nodup) (hi : X.N[i]? = some y) (hy : Loc X.env.scope y) (hy2 : X.env.scope.names.lookup y = some .local) (hj : X.N[j]? = some nm) (hln : X.env.kindOf nm = some .local) (hc : Names X n c)
    (hval : ∀ (W : WX) (pn : List (Addr × Obj)) (xe : Value → Shared → Prop), Takes (X.tr pn xe) W → PE (X.tr pn xe) ve (te W))
    (hsu : ∀ (b dd : Addr) (oe od : Obj) (cls : Value) (fs : List (Str × V)) (pn : List (Addr × Obj)), Zc cls (some dd) oe → (∃ vs, oe.data = .fields vs) → OdOk od fs → PSs (X.suite b ((b, oe) :: (dd, od) :: pn)) (b₀ :: suite) (ts b cls fs))
    (hsw : swapsWith ve (some (.Name y p3)) p4.line X.env = pure false := by rfl) :
    PS X (.Try [.Assign [.Name y p3] ve p4] [.ExceptHandler (some (.Name n np)) (some nm) (b₀ :: suite) pos'] [] [] pos) (fun D σ H => tAsg (te (wAs X.K c j (pinR ts) (fun _ _ _ _ => False) D)) (gName i) D σ H) :=
  ps_try_as (tb := fun W D σ H => tAsg (te W) (gName i) D σ H) (ts := pinR ts) hs hf hN hj hln hc takes0 (fun W pn xe tk _ => pss_one (ps_set (X := X.tr pn xe) (i := i) hN hi hy (hval W pn xe tk) hsw (.inr hy2))) (fun b oe cls d pn hz hd => pss_pin fun dd od fs e ho => hsu b dd oe od cls fs pn (e ▸ hz) hd ho)
section
variable {α : State} {i j : Nat} {a : Addr} {sa : State → Option (List D)} {m : List D → XR}
@[simp] theorem a_xIsE {tbl : List (String × Bool)} {nm : String} : xIsE a j tbl nm α = (match α[j]? with
  | some (some (.adr b)) => if b = a then (tbl.lookup nm).map .bl else none
  | _ => none) := (rfl)
@[simp] theorem a_xFldE {f : Str} {fs : List (Str × D)} : xFldE a j f fs α = (match α[j]? with
  | some (some (.adr b)) => if b = a then (match fs.lookup f with | some d => if flat d = true then some d else none | none => none) else none
  | _ => none) := (rfl)
theorem a_sTryAs {w : D → Option D} {cs : List String} {u : Exn → Addr → State → Out} : sTryAs i j m w sa cs u α = (match bnd (sa α) (fun ds => some (m ds)) with
  | some (.ok d) => (match w d with | some d' => .nxt (α.set i (some (.dat d'))) | none => .bad)
  | some (.exc x) => if x.name ∈ cs ∧ x.fs ≠ [] then exAs j (u x) α else .bad
  | _ => .bad) := by unfold sTryAs; rfl
end
end Ab
end
section
set_option maxRecDepth 100000
set_option maxHeartbeats 1000000
namespace Ab
open PySem L2 PyProof.Rows PySem.Spec
variable [Hd]
def keyD : D → Option Key
  | .str z => some (.inr z) | .int n => some (.inl n) | _ => none
def keyOf : Key → D
  | .inl n => .int n | .inr z => .str z
theorem rep_key {e : En} {F : Hp} {d : D} {k : Key} {v : V} (h : keyD d = some k) (r : Rep e F d v) : v = kV k := by
  cases d <;> first | (cases h; done) | skip
  · cases h; exact r
  · cases h; exact r
theorem rep_keyOf {e : En} {F : Hp} (k : Key) : Rep e F (keyOf k) (kV k) := by cases k <;> exact rfl
def putKD (kvs : List (Key × D)) (k : Key) (d : D) : List (Key × D) := if (kvs.any fun kv => decide (kv.1 = k)) = true then kvs.map (fun kv => if kv.1 = k then (kv.1, d) else kv) else kvs ++ [(k, d)]
def valD (k : Key) : List (Key × D) → Option D
  | [] => none
  | (k', d) :: r => if k' = k then some d else valD k r
section
variable {e : En} {F : Hp}
theorem repK_nil : RepK e F [] [] := ⟨rfl, rfl⟩
theorem repK_inv {k : Key} {d : D} {kvs : List (Key × D)} : ∀ {gs : List (Key × V)}, RepK e F ((k, d) :: kvs) gs → ∃ v r, gs = (k, v) :: r ∧ Rep e F d v ∧ RepK e F kvs r
  | [], ⟨h, _⟩ => by cases h
  | (k', v') :: r, ⟨h, v, w, q, r1, r2⟩ => by
    simp only [List.map_cons, List.cons.injEq] at h q
    obtain ⟨rfl, h2⟩ := h
    obtain ⟨rfl, q2⟩ := q
    exact ⟨v', r, rfl, r1, h2, by rw [q2]; exact r2⟩
theorem repK_cons {k : Key} {d : D} {v : V} {kvs : List (Key × D)} {gs : List (Key × V)} (r1 : Rep e F d v) (r2 : RepK e F kvs gs) : RepK e F ((k, d) :: kvs) ((k, v) :: gs) :=
  ⟨by simp only [List.map_cons, r2.1], v, _, rfl, r1, r2.2⟩
theorem repK_app {a : List (Key × D)} {b : List (Key × D)} {gs : List (Key × V)} {hs : List (Key × V)} (r1 : RepK e F a gs) (r2 : RepK e F b hs) : RepK e F (a ++ b) (gs ++ hs) :=
  ⟨by simp only [List.map_append, r1.1, r2.1], by simp only [List.map_append]; exact r1.2.append r2.2⟩
theorem repK_map {k : Key} {d : D} {v : V} (rv : Rep e F d v) : ∀ {kvs : List (Key × D)} {gs : List (Key × V)}, RepK e F kvs gs → RepK e F (kvs.map fun kv => if kv.1 = k then (kv.1, d) else kv) (gs.map fun kv => if kv.1 = k then (kv.1, v) else kv)
  | [], [], _ => repK_nil
  | [], _ :: _, ⟨h, _⟩ => by cases h
  | (k', d') :: kvs, gs, r => by
    obtain ⟨v', r', rfl, r1, r2⟩ := repK_inv r
    simp only [List.map_cons]
    by_cases hk : k' = k
    · rw [if_pos hk, if_pos hk]; exact repK_cons rv (repK_map rv r2)
    · rw [if_neg hk, if_neg hk]; exact repK_cons r1 (repK_map rv r2)
theorem repK_put {k : Key} {d : D} {v : V} (rv : Rep e F d v) {kvs : List (Key × D)} {gs : List (Key × V)} (r : RepK e F kvs gs) : RepK e F (putKD kvs k d) (putK gs k v) := by
  have ha : (gs.any fun kv => decide (kv.1 = k)) = (kvs.any fun kv => decide (kv.1 = k)) := by
    have h1 : (gs.any fun kv => decide (kv.1 = k)) = (gs.map (·.1)).any fun x => decide (x = k) := by rw [List.any_map]; rfl
    have h2 : (kvs.any fun kv => decide (kv.1 = k)) = (kvs.map (·.1)).any fun x => decide (x = k) := by rw [List.any_map]; rfl
    rw [h1, h2, r.1]
  unfold putKD putK
  rw [ha]
  split
  · exact repK_map rv r
  · exact repK_app r (repK_cons rv repK_nil)
theorem repK_val {k : Key} : ∀ {kvs : List (Key × D)} {gs : List (Key × V)}, RepK e F kvs gs → (∀ d, valD k kvs = some d → ∃ v, valV gs k = some v ∧ Rep e F d v) ∧ (valD k kvs = none → valV gs k = none)
  | [], [], _ => ⟨(fun d h => by cases h), fun _ => rfl⟩
  | [], _ :: _, ⟨h, _⟩ => by cases h
  | (k', d') :: kvs, gs, r => by
    obtain ⟨v', r', rfl, r1, r2⟩ := repK_inv r
    obtain ⟨i1, i2⟩ := repK_val (k := k) r2
    by_cases hk : k' = k
    · rw [valV_pos (p := (k', v')) hk]
      simp only [valD, if_pos hk]
      exact ⟨(fun d h => by cases h; exact ⟨v', rfl, r1⟩), (fun h => by cases h)⟩
    · rw [valV_neg (p := (k', v')) hk]
      simp only [valD, if_neg hk]
      exact ⟨i1, i2⟩
theorem repK_keys {kvs : List (Key × D)} {gs : List (Key × V)} (r : RepK e F kvs gs) : Reps e F (kvs.map fun kv => keyOf kv.1) (gs.map fun kv => kV kv.1) := by
  have h1 : (kvs.map fun kv => keyOf kv.1) = (kvs.map (·.1)).map keyOf := by rw [List.map_map]; rfl
  have h2 : (gs.map fun kv => kV kv.1) = (gs.map (·.1)).map kV := by rw [List.map_map]; rfl
  rw [h1, h2, r.1]
  have : ∀ ks : List Key, Reps e F (ks.map keyOf) (ks.map kV) := fun ks => by
    induction ks with
    | nil => exact Reps.nil
    | cons k ks ih => exact Reps.cons (rep_keyOf k) ih
  exact this _
theorem RepK.len {kvs : List (Key × D)} {gs : List (Key × V)} (r : RepK e F kvs gs) : gs.length = kvs.length := by
  have := congrArg List.length r.1
  simpa using this
end
def sNewK (i : Nat) : State → Out := fun α => .nxt (α.set i (some (.own (.dic []))))
def sPutK (i : Nat) (sk : State → Option D) (s : State → Res D) : State → Out := fun α => match s α with
  | .ok d α' => (match bnd (sk α') keyD, ctOf α'[i]? with
    | some k, some (.dic kvs) => if kvs.length < 100000 then .nxt (putC α' i (.dic (putKD kvs k d))) else .bad
    | _, _ => .bad)
  | .exc x => .exc x | .bad => .bad
def xInK (i : Nat) (sk : State → Option D) : State → Option D := fun α => match bnd (sk α) keyD, ctOf α[i]? with
  | some k, some (.dic kvs) => some (.bl (valD k kvs).isSome)
  | _, _ => none
def xNotInK (i : Nat) (sk : State → Option D) : State → Option D := fun α => match bnd (sk α) keyD, ctOf α[i]? with
  | some k, some (.dic kvs) => some (.bl (!(valD k kvs).isSome))
  | _, _ => none
def xGetK (i : Nat) (sk : State → Option D) : State → Option D := fun α => match bnd (sk α) keyD, ctOf α[i]? with
  | some k, some (.dic kvs) => valD k kvs
  | _, _ => none
def xKeysK (i : Nat) : State → Option (List D) := fun α => match ctOf α[i]? with
  | some (.dic kvs) => if kvs.length ≤ 100000 then some (kvs.map fun kv => keyOf kv.1) else none
  | _ => none
section
variable {e : En} {E : XK} {te tk : TE} {sk : State → Option D} {s : State → Res D}
theorem st_newK {i : Nat} : Sts e E (tAsg tDNewK (gName i)) (sNewK i) := fun c L S σ H α D R k => by
  intro p hp
  have s2 : Sm H (upd H p (.dK [])) := .of fun b o z => by rw [upd_ne (ne_of_none z hp)]; exact z
  exact k (p :: L) (p :: S) _ _ (fz_cons s2 hp) (R.setO s2 hp upd_same ⟨[], rfl, repK_nil⟩)
theorem st_putK {i : Nat} (h : Eve e E te s) (hk : Evp e tk sk) : Sts e E (sDPut (tVar i) tk te) (sPutK i sk s) := fun c L S σ H α D R k => by
  unfold sPutK at k
  refine h c L S σ H α R _ (fun d α' hs v H' m R' rv => ?_) (fun x hx => by rw [hx] at k; exact k) (fun hb => by rw [hb] at k; exact k)
  rw [hs] at k
  dsimp only at k
  split at k
  · rename_i kk kvs hkk hx
    split at k
    · rename_i hz
      obtain ⟨dk, h1, h2⟩ := bnd_some hkk
      obtain ⟨p, o, h3, m1, ho, gs, rfl, r1⟩ := R'.at hx
      refine ⟨.ref p, h3, ?_⟩
      refine hk c L S σ H' α' dk R' h1 _ fun y H2 e2 ry => ?_
      have hy := rep_key h2 ry
      subst hy
      refine ⟨p, _, rfl, DPut.k (e2.k _ _ ho (R'.nh _ (R'.sub _ m1))) (by rw [r1.len]; exact sz_lt hz), ?_⟩
      obtain ⟨R3, m3⟩ := (R'.up e2).mut hx h3 (o := .dK (putK gs kk v)) (ct' := .dic (putKD kvs kk d)) ⟨_, rfl, repK_put (rv.up (fz_same e2)) ⟨r1.1, r1.2.up (fz_same e2)⟩⟩
      exact k L S σ _ ((fz_mod m R.sub).trans ((fz_same e2).trans (fz_mod m3 (R'.up e2).sub))) R3
    · exact k.elim
  · exact k.elim
theorem ev_inK {i : Nat} (hk : Evp e tk sk) : Evp e (tDIn tk (tVar i)) (xInK i sk) := fun c L S σ H α d R q Q k => by
  unfold xInK at q
  split at q
  · rename_i kk kvs hkk hx
    cases q
    obtain ⟨dk, h1, h2⟩ := bnd_some hkk
    obtain ⟨p, o, h3, m1, ho, gs, rfl, r1⟩ := R.at hx
    refine hk c L S σ H α dk R h1 _ fun y H2 e2 ry => ?_
    have hy := rep_key h2 ry
    subst hy
    refine ⟨.ref p, h3, p, _, rfl, DGet.k (e2.k _ _ ho (R.nh _ (R.sub _ m1))), k _ _ e2 ?_⟩
    obtain ⟨i1, i2⟩ := repK_val (k := kk) r1
    cases hv : valD kk kvs with
    | none => rw [i2 hv]; exact rfl
    | some d => obtain ⟨v, h5, _⟩ := i1 d hv; rw [h5]; exact rfl
  · cases q
theorem ev_notInK {i : Nat} (hk : Evp e tk sk) : Evp e (tDNotIn tk (tVar i)) (xNotInK i sk) := fun c L S σ H α d R q Q k => by
  unfold xNotInK at q
  split at q
  · rename_i kk kvs hkk hx
    cases q
    obtain ⟨dk, h1, h2⟩ := bnd_some hkk
    obtain ⟨p, o, h3, m1, ho, gs, rfl, r1⟩ := R.at hx
    refine hk c L S σ H α dk R h1 _ fun y H2 e2 ry => ?_
    have hy := rep_key h2 ry
    subst hy
    refine ⟨.ref p, h3, p, _, rfl, DGet.k (e2.k _ _ ho (R.nh _ (R.sub _ m1))), k _ _ e2 ?_⟩
    obtain ⟨i1, i2⟩ := repK_val (k := kk) r1
    cases hv : valD kk kvs with
    | none => rw [i2 hv]; exact rfl
    | some d => obtain ⟨v, h5, _⟩ := i1 d hv; rw [h5]; exact rfl
  · cases q
theorem ev_getK {i : Nat} (hk : Evp e tk sk) : Evp e (tDGet (tVar i) tk) (xGetK i sk) := fun c L S σ H α d R q Q k => by
  unfold xGetK at q
  split at q
  · rename_i kk kvs hkk hx
    obtain ⟨dk, h1, h2⟩ := bnd_some hkk
    obtain ⟨p, o, h3, m1, ho, gs, rfl, r1⟩ := R.at hx
    refine ⟨.ref p, h3, ?_⟩
    refine hk c L S σ H α dk R h1 _ fun y H2 e2 ry => ?_
    have hy := rep_key h2 ry
    subst hy
    obtain ⟨v, h5, h6⟩ := (repK_val (k := kk) r1).1 d q
    exact ⟨p, v, rfl, by rw [← h5]; exact DGet.k (e2.k _ _ ho (R.nh _ (R.sub _ m1))), k v H2 e2 (h6.up (fz_same e2))⟩
  · cases q
theorem el_keysK {i : Nat} : Evl e (tCB (fun xs H Q => ∃ (a : Addr) (kvs : List (Key × V)), xs = [.ref a] ∧ Rd H a (.dK kvs) ∧ ∀ p, H p = none → Q (.ref p) (upd H p (.lst (kvs.map fun kv => kV kv.1)))) (tCons (tVar i) tNil)) (xKeysK i) := fun c L S σ H α xs R q Q k => by
  unfold xKeysK at q
  split at q
  · rename_i kvs hx
    split at q
    · cases q
      obtain ⟨p, o, h3, m1, ho, gs, rfl, r1⟩ := R.at hx
      refine ⟨.ref p, h3, p, gs, rfl, Rd.of ho, fun q hq => ?_⟩
      have s4 : Sm H (upd H q (.lst (gs.map fun kv => kV kv.1))) := .of fun b o z => by rw [upd_ne (ne_of_none z hq)]; exact z
      exact k q _ _ s4 hq upd_same ((repK_keys r1).up (fz_cons s4 hq))
    · cases q
  · cases q
end
section
variable {i : Nat} {sk : State → Option D} {s : State → Res D} {α : State}
@[simp] theorem a_sNewK : sNewK i α = .nxt (α.set i (some (.own (.dic [])))) := (rfl)
@[simp] theorem a_sPutK : sPutK i sk s α = (match s α with
  | .ok d α' => (match bnd (sk α') keyD, ctOf α'[i]? with
    | some k, some (.dic kvs) => if kvs.length < 100000 then .nxt (putC α' i (.dic (putKD kvs k d))) else .bad
    | _, _ => .bad)
  | .exc x => .exc x | .bad => .bad) := (rfl)
@[simp] theorem a_xInK : xInK i sk α = (match bnd (sk α) keyD, ctOf α[i]? with
  | some k, some (.dic kvs) => some (.bl (valD k kvs).isSome)
  | _, _ => none) := (rfl)
@[simp] theorem a_xNotInK : xNotInK i sk α = (match bnd (sk α) keyD, ctOf α[i]? with
  | some k, some (.dic kvs) => some (.bl (!(valD k kvs).isSome))
  | _, _ => none) := (rfl)
@[simp] theorem a_xGetK : xGetK i sk α = (match bnd (sk α) keyD, ctOf α[i]? with
  | some k, some (.dic kvs) => valD k kvs
  | _, _ => none) := (rfl)
@[simp] theorem a_xKeysK : xKeysK i α = (match ctOf α[i]? with
  | some (.dic kvs) => if kvs.length ≤ 100000 then some (kvs.map fun kv => keyOf kv.1) else none
  | _ => none) := (rfl)
@[simp] theorem a_keyS {z : Str} : keyD (.str z) = some (.inr z) := (rfl)
@[simp] theorem a_keyI {n : Int} : keyD (.int n) = some (.inl n) := (rfl)
@[simp] theorem a_keyOfS {z : Str} : keyOf (.inr z) = .str z := (rfl)
@[simp] theorem a_keyOfI {n : Int} : keyOf (.inl n) = .int n := (rfl)
end
def dstrsL : List D → Option (List Str)
  | [] => some []
  | .str z :: r => (dstrsL r).map (z :: ·)
  | _ :: _ => none
theorem rep_dstrs {e : En} {F : Hp} : ∀ {ds : List D} {vs : List V} {zs : List Str}, dstrsL ds = some zs → Reps e F ds vs → vs = zs.map V.str
  | [], _, _, h, r => by cases h; cases r; rfl
  | .str z :: ds, _, zs, h, ⟨v, w, q, r1, r2⟩ => by
    unfold dstrsL at h
    cases hs : dstrsL ds with
    | none => rw [hs] at h; cases h
    | some ys =>
      rw [hs] at h; cases h
      subst q
      cases (show v = .str z from r1)
      rw [rep_dstrs hs r2]; rfl
  | .non :: _, _, _, h, _ => by simp [dstrsL] at h
  | .bl _ :: _, _, _, h, _ => by simp [dstrsL] at h
  | .int _ :: _, _, _, h, _ => by simp [dstrsL] at h
  | .tup _ :: _, _, _, h, _ => by simp [dstrsL] at h
  | .lst _ :: _, _, _, h, _ => by simp [dstrsL] at h
  | .ins _ _ :: _, _, _, h, _ => by simp [dstrsL] at h
  | .ty _ :: _, _, _, h, _ => by simp [dstrsL] at h
  | .cls _ :: _, _, _, h, _ => by simp [dstrsL] at h
  | .dic _ :: _, _, _, h, _ => by simp [dstrsL] at h
  | .trm _ :: _, _, _, h, _ => by simp [dstrsL] at h
def leS (a b : Str) : Bool := !ltCps b.cps.toList a.cps.toList
theorem ltC_asymm : ∀ a b : List Nat, ltCps a b = true → ltCps b a = false
  | [], [], h => by cases h
  | [], _ :: _, _ => rfl
  | _ :: _, [], h => by cases h
  | x :: a, y :: b, h => by
    simp only [ltCps, Bool.or_eq_true, decide_eq_true_eq, Bool.and_eq_true, beq_iff_eq] at h
    have : ¬ (y < x ∨ (y = x ∧ ltCps b a = true)) := by
      rcases h with h | ⟨rfl, h⟩
      · rintro (h2 | ⟨h2, _⟩) <;> omega
      · have := ltC_asymm a b h
        rintro (h2 | ⟨_, h2⟩)
        · omega
        · rw [this] at h2; cases h2
    cases hc : ltCps (y :: b) (x :: a) with
    | false => rfl
    | true => simp only [ltCps, Bool.or_eq_true, decide_eq_true_eq, Bool.and_eq_true, beq_iff_eq] at hc; exact absurd hc this
theorem ltC_tri : ∀ a b : List Nat, ltCps a b = false → ltCps b a = false → a = b
  | [], [], _, _ => rfl
  | [], _ :: _, h, _ => by cases h
  | _ :: _, [], _, h => by cases h
  | x :: a, y :: b, h1, h2 => by
    have n1 : ¬ (x < y ∨ (x = y ∧ ltCps a b = true)) := fun h => by
      have : ltCps (x :: a) (y :: b) = true := by simp only [ltCps, Bool.or_eq_true, decide_eq_true_eq, Bool.and_eq_true, beq_iff_eq]; exact h
      rw [this] at h1; cases h1
    have n2 : ¬ (y < x ∨ (y = x ∧ ltCps b a = true)) := fun h => by
      have : ltCps (y :: b) (x :: a) = true := by simp only [ltCps, Bool.or_eq_true, decide_eq_true_eq, Bool.and_eq_true, beq_iff_eq]; exact h
      rw [this] at h2; cases h2
    have e : x = y := by omega
    subst e
    have f1 : ltCps a b = false := by cases hc : ltCps a b with | false => rfl | true => exact absurd (.inr ⟨rfl, hc⟩) n1
    have f2 : ltCps b a = false := by cases hc : ltCps b a with | false => rfl | true => exact absurd (.inr ⟨rfl, hc⟩) n2
    rw [ltC_tri a b f1 f2]
theorem ltC_trans : ∀ a b c : List Nat, ltCps a b = true → ltCps b c = true → ltCps a c = true
  | [], [], _, h, _ => by cases h
  | [], _ :: _, [], _, h => by cases h
  | [], _ :: _, _ :: _, _, _ => rfl
  | _ :: _, [], _, h, _ => by cases h
  | _ :: _, _ :: _, [], _, h => by cases h
  | x :: a, y :: b, z :: c, h1, h2 => by
    simp only [ltCps, Bool.or_eq_true, decide_eq_true_eq, Bool.and_eq_true, beq_iff_eq] at h1 h2 ⊢
    rcases h1 with h1 | ⟨rfl, h1⟩
    · rcases h2 with h2 | ⟨rfl, h2⟩
      · exact .inl (by omega)
      · exact .inl h1
    · rcases h2 with h2 | ⟨rfl, h2⟩
      · exact .inl h2
      · exact .inr ⟨rfl, ltC_trans a b c h1 h2⟩
theorem leS_iff {a b : Str} : leS a b = true ↔ ltCps b.cps.toList a.cps.toList = false := by unfold leS; simp
theorem leS_antisymm {a b : Str} (h1 : leS a b = true) (h2 : leS b a = true) : a = b := by
  have := ltC_tri _ _ (leS_iff.mp h2) (leS_iff.mp h1)
  exact TL.ext_tl this
theorem leS_total (a b : Str) : leS a b = true ∨ leS b a = true := by
  cases h : ltCps b.cps.toList a.cps.toList with
  | false => exact .inl (leS_iff.mpr h)
  | true => exact .inr (leS_iff.mpr (ltC_asymm _ _ h))
theorem leS_trans {a b c : Str} (h1 : leS a b = true) (h2 : leS b c = true) : leS a c = true := by
  rw [leS_iff] at *
  cases h : ltCps c.cps.toList a.cps.toList with
  | false => rfl
  | true =>
    by_cases hbc : b = c
    · subst hbc; rw [h] at h1; cases h1
    · cases h3 : ltCps b.cps.toList c.cps.toList with
      | false => exact absurd (TL.ext_tl (ltC_tri _ _ h3 h2)) hbc
      | true => rw [ltC_trans _ _ _ h3 h] at h1; cases h1
theorem rising_pw : ∀ (p : Str) (l : List Str), PyProof.Rows.risingS p l = true → (p :: l).Pairwise (fun a b => leS a b = true)
  | p, [], _ => by simp
  | p, x :: r, h => by
    simp only [PyProof.Rows.risingS, Bool.and_eq_true] at h
    have ih := rising_pw x r h.2
    have hpx : leS p x = true := h.1
    refine List.pairwise_cons.mpr ⟨fun y m => ?_, ih⟩
    rcases List.mem_cons.mp m with rfl | m
    · exact hpx
    · exact leS_trans hpx ((List.pairwise_cons.mp ih).1 y m)
theorem sorted_pw {l : List Str} (h : PyProof.Rows.sortedS l = true) : l.Pairwise (fun a b => leS a b = true) := by
  cases l with
  | nil => simp
  | cons p l => exact rising_pw p l h
theorem sort_unique : ∀ {a b : List Str}, a.Perm b → a.Pairwise (fun x y => leS x y = true) → b.Pairwise (fun x y => leS x y = true) → a = b
  | [], b, p, _, _ => (List.Perm.nil_eq p)
  | x :: a, [], p, _, _ => by have := p.length_eq; simp at this
  | x :: a, y :: b, p, h1, h2 => by
    have hx : x ∈ y :: b := p.mem_iff.mp List.mem_cons_self
    have hy : y ∈ x :: a := p.mem_iff.mpr List.mem_cons_self
    have exy : x = y := by
      rcases List.mem_cons.mp hx with e | m1
      · exact e
      · rcases List.mem_cons.mp hy with e | m2
        · exact e.symm
        · exact leS_antisymm ((List.pairwise_cons.mp h1).1 y m2) ((List.pairwise_cons.mp h2).1 x m1)
    subst exy
    rw [sort_unique (List.Perm.cons_inv p) (List.pairwise_cons.mp h1).2 (List.pairwise_cons.mp h2).2]
def sortS (zs : List Str) : List Str := zs.mergeSort leS
theorem sortS_perm (zs : List Str) : (sortS zs).Perm zs := List.mergeSort_perm zs leS
theorem sortS_pw (zs : List Str) : (sortS zs).Pairwise (fun a b => leS a b = true) :=
  List.pairwise_mergeSort (le := leS) (fun a b c h1 h2 => leS_trans h1 h2) (fun a b => by rcases leS_total a b with h | h <;> simp [h]) zs
theorem sort_is {ys zs : List Str} (p : ys.Perm zs) (h : PyProof.Rows.sortedS ys = true) : ys = sortS zs := sort_unique (p.trans (sortS_perm zs).symm) (sorted_pw h) (sortS_pw zs)
def xSortS (sq : State → Option (List D)) : State → Option (List D) := fun α => bnd (bnd (sq α) dstrsL) fun zs => if zs.length < 64 then some ((sortS zs).map .str) else none
theorem sortedS_q {X : Cx} {K : PySem.W.Frag} (h : X.K = K) : CallR X (.builtin "sorted") (rSortedS K) := h ▸ cr_sortedS
theorem el_sortS {e : En} {te : TE} {sq : State → Option (List D)} (h : EvqL e te sq) : Evl e (tCB (rSortedS e.K) (tCons te tNil)) (xSortS sq) := fun c L S σ H α xs R q Q k => by
  unfold xSortS at q
  obtain ⟨zs, hz, q⟩ := bnd_some q
  obtain ⟨ds, h1, h2⟩ := bnd_some hz
  split at q
  · rename_i hl
    cases q
    refine h c L S σ H α ds R h1 _ fun a vs H' e1 sl r => ?_
    have hv := rep_dstrs h2 r
    subst hv
    refine ⟨a, zs, rfl, fz_le.seq sl, hl, fun ys p perm hs hp => ?_⟩
    have s4 : Sm H' (upd H' p (.lst (ys.map V.str))) := .of fun b o z => by rw [upd_ne (ne_of_none z hp)]; exact z
    have hn : H p = none := by
      exact e1.free R.inv hp
    exact k p _ _ (e1.trans s4) hn upd_same (by rw [sort_is perm hs]; exact reps_strs _)
  · cases q
@[simp] theorem a_xSortS {sq : State → Option (List D)} {α : State} : xSortS sq α = bnd (bnd (sq α) dstrsL) fun zs => if zs.length < 64 then some ((sortS zs).map .str) else none := (rfl)
theorem dstrsL_of : ∀ zs : List Str, dstrsL (zs.map .str) = some zs
  | [] => rfl
  | z :: zs => by simp only [List.map_cons, dstrsL, dstrsL_of zs]; rfl
def tblTL (e : En) (tbl : List (String × (List D → Option (List D)))) : List (Addr × Sp) := tbl.map fun p => (e.cls p.1, spL e p.2)
def xMethL (tbl : List (String × (List D → Option (List D)))) (mn : Str) (so : State → Option D) (sr : State → Option (List D)) : State → Option (List D) := fun α => bnd (so α) fun o => match o with
  | .ins cn fs => if fs.lookup mn = none then bnd (tbl.lookup cn) fun m => bnd (sr α) fun ds => m (o :: ds) else none
  | _ => none
theorem mem_of_lookupL {κ : Type} {c : String} {m : κ} : ∀ {tbl : List (String × κ)}, tbl.lookup c = some m → (c, m) ∈ tbl
  | [], h => by cases h
  | (x, y) :: r, h => by
    rw [List.lookup_cons] at h
    cases hx : c == x with
    | true => rw [hx] at h; cases h; rw [beq_iff_eq.mp hx]; exact List.mem_cons_self
    | false => rw [hx] at h; exact List.mem_cons_of_mem _ (mem_of_lookupL h)
theorem el_meth {e : En} {to : TE} {tr : TA} {so : State → Option D} {sr : State → Option (List D)} {tbl : List (String × (List D → Option (List D)))} {mn : Str} (ho : Evp e to so) (hr : Eva e tr sr) : Evl e (tMethV (tblTL e tbl) mn to tr) (xMethL tbl mn so sr) := fun c L S σ H α xs R h Q q => by
  unfold xMethL at h
  obtain ⟨o, h1, h⟩ := bnd_some h
  split at h
  · rename_i cn fs
    split at h
    · rename_i hn
      obtain ⟨m, h2, h⟩ := bnd_some h
      obtain ⟨ds, h3, h⟩ := bnd_some h
      refine ⟨(e.cls cn, spL e m), List.mem_map.mpr ⟨_, mem_of_lookupL h2, rfl⟩, ?_⟩
      refine ho c L S σ H α _ R h1 _ fun v H1 e1 r1 => ?_
      obtain ⟨a, dx, gs, rfl, r2, r3⟩ := id r1
      refine ⟨a, dx, gs, rfl, fz_le _ _ r2, repF_none r3 hn, ?_⟩
      refine hr c L S σ H1 α ds (R.up e1) h3 _ fun vs H2 e2 r4 => ?_
      refine ⟨L, .ins cn fs :: ds, xs, dom_up (e1.trans e2) R.dm, by rw [List.append_nil]; exact Reps.cons (Rep.up r1 (fz_same e2)) r4, h, fun p us H3 e3 n hp r5 => q p us H3 ((e1.trans e2).trans e3) ?_ hp r5⟩
      exact (e1.trans e2).free R.inv n
    · cases h
  · cases h
@[simp] theorem a_xMethL {α : State} {so : State → Option D} {sr : State → Option (List D)} {tbl : List (String × (List D → Option (List D)))} {mn : Str} : xMethL tbl mn so sr α = (bnd (so α) fun o => match o with
  | .ins cn fs => if fs.lookup mn = none then bnd (tbl.lookup cn) fun m => bnd (sr α) fun ds => m (o :: ds) else none
  | _ => none) := (rfl)
def sExt (i : Nat) (sq : State → Option (List D)) : State → Out := fun α => match sq α, ctOf α[i]? with
  | some ys, some (.lst xs) => if xs.length + ys.length ≤ 100000 then .nxt (putC α i (.lst (xs ++ ys))) else .bad
  | _, _ => .bad
theorem mtextK {X : Cx} {K : PySem.W.Frag} (h : X.K = K) : MtM X "list.extend" rExtend := mt_extend
theorem st_ext {e : En} {E : XK} {te : TE} (i : Nat) {sq : State → Option (List D)} (h : Evl e te sq) : Sts e E (tDrop (tBM e.K "list" rExtend (tVar i) (tCons te tNil))) (sExt i sq) := fun c L S σ H α DD R k => by
  unfold sExt at k
  split at k
  · rename_i ys xs hy hc
    split at k
    · rename_i hz
      obtain ⟨p, o, h1, m1, ho, vs, rfl, r1⟩ := R.at hc
      refine ⟨.ref p, h1, .inl ⟨rfl, vs, SqL.of ho⟩, ?_⟩
      refine h c L S σ H α _ R hy _ fun q us H2 e2 n hq r2 => ?_
      have R2 := R.up e2
      have hqL : q ∉ L := fun m => R.dom q m n
      refine ⟨p, q, vs, us, rfl, rfl, e2.k _ _ ho (R.nh _ (R.sub _ m1)), hq, by rw [r1.len, r2.len, sizeLine_eq]; omega, ?_⟩
      have r2' : Reps e (fz L H2) ys us := r2.up (fz_anti fun a m => List.mem_cons_of_mem _ m)
      obtain ⟨R3, m3⟩ := R2.mut hc h1 (o := .lst (vs ++ us)) (ct' := .lst (xs ++ ys)) ⟨_, rfl, (r1.up (fz_same e2)).append r2'⟩
      exact k L S σ _ ((fz_same e2).trans (fz_mod m3 R2.sub)) R3
    · exact k.elim
  · exact k.elim
@[simp] theorem a_sExt {i : Nat} {sq : State → Option (List D)} {α : State} : sExt i sq α = (match sq α, ctOf α[i]? with
  | some ys, some (.lst xs) => if xs.length + ys.length ≤ 100000 then .nxt (putC α i (.lst (xs ++ ys))) else .bad
  | _, _ => .bad) := (rfl)
end Ab
end
section
set_option maxRecDepth 100000
set_option maxHeartbeats 3200000
namespace Ab
open PySem PySem.Spec PyProof.Rows L2
variable [Hd]
section
variable {P : Program} {w : World} {κ : Type} [DecidableEq κ] {knd : PySem.KeyKind P w κ}
def Apart (knd : PySem.KeyKind P w κ) (e f : Int × Value) : Prop := ∀ k, knd.is k e.2 = true → knd.is k f.2 = true → False
structure SetW (knd : PySem.KeyKind P w κ) (h : Heap) (a : Addr) (S : κ → Bool) (n : Nat) (o : Obj) (es : Array (Int × Value)) (ep : Nat) (t : SetTable) : Prop where
  ho : h.get? a = some o
  ex : o.ExactSet
  hd : o.data = .set es ep t
  el : ElemsOf knd es.toList
  ap : es.toList.Pairwise (Apart knd)
  mm : ∀ k, S k = true ↔ ∃ e ∈ es.toList, knd.is k e.2 = true
  bd : es.size < scanBound
  ft : t.fits es.size = true
  sz : es.size = n
  ri : Ris t.place.toList
  ld : w.params.followText "set-order" = true ∨ t.led = true
def SetX (knd : PySem.KeyKind P w κ) (h : Heap) (a : Addr) (S : κ → Bool) (n : Nat) : Prop := ∃ o es ep t, SetW knd h a S n o es ep t
theorem apart_symm {e f : Int × Value} (h : Apart knd e f) : Apart knd f e := fun k a b => h k b a
theorem SetX.at {h h' : Heap} {a : Addr} {S : κ → Bool} {n : Nat} (R : SetX knd h a S n) (k : ∀ o, h.get? a = some o → h'.get? a = some o) : SetX knd h' a S n := by
  obtain ⟨o, es, ep, t, R⟩ := R
  exact ⟨o, es, ep, t, { R with ho := k o R.ho }⟩
theorem SetX.congr {h : Heap} {a : Addr} {S S' : κ → Bool} {n : Nat} (R : SetX knd h a S n) (e : ∀ k, S' k = S k) : SetX knd h a S' n := by
  have q : S' = S := funext e
  rw [q]; exact R
variable {A : Around} {E : Value → Shared → Prop} {s : Shared} {a : Addr} {S : κ → Bool} {n : Nat}
theorem storeW {h : Heap} {o : Obj} {es es' : Array (Int × Value)} {ep : Nat} {t t' : SetTable} (ho : h.get? a = some o) (hd : o.data = .set es ep t) : (h.update a (Obj.putSet es' t')).get? a = some { o with data := .set es' (ep + 1) t' } := by
  have q := Heap.get?_update_self (Obj.putSet es' t') ho (by rw [putSet_of es' t' hd]; rfl)
  rwa [putSet_of es' t' hd] at q
theorem setW_tail {g : Bool → Sem Unit} (hg : ∀ (b : Bool) (s₁ : Shared) (Q' : Unit → Shared → Prop), Q' () s₁ → wpAny (model P w) A (g b) Q' E s₁)
    {o : Obj} {es : Array (Int × Value)} {ep : Nat} {t : SetTable} (ho : s.heap.get? a = some o) (hex : o.ExactSet) (hd : o.data = .set es ep t)
    {fs : Array (Int × Value)} {u : SetTable} {S' : κ → Bool} (h1 : ElemsOf knd fs.toList) (h2 : fs.toList.Pairwise (Apart knd)) (h3 : ∀ k, S' k = true ↔ ∃ e ∈ fs.toList, knd.is k e.2 = true)
    (h4 : fs.size < scanBound) (h5 : u.fits fs.size = true) (h6 : Ris u.place.toList) (h7 : w.params.followText "set-order" = true ∨ u.led = true) {wd : Bool} {R : Option Bool → Shared → Prop}
    (hR : ∀ h', Heap.SameBut a s.heap h' → SetX knd h' a S' fs.size → R (some true) { s with heap := h' }) :
    wpAny (model P w) A (do
        storeSet a fs u
        if (!wd && u.tooFull) = true then do
            g (relayAll u fs (SetTable.grown fs.size)).2.2
            storeSet a (relayAll u fs (SetTable.grown fs.size)).1 (relayAll u fs (SetTable.grown fs.size)).2.1
            pure (some true)
          else pure (some true)) R E s := by
  refine wpAny_bind (wpAny_storeSet_of ho hd ?_ (fits_of_scanBound h4))
  have o1 := storeW (es' := fs) (t' := u) ho hd
  have b1 := Heap.SameBut.update s.heap a (Obj.putSet fs u)
  split
  · have p1 := relayAll_perm u fs (SetTable.grown fs.size)
    have p2 := relayAll_fits u fs (SetTable.grown fs.size)
    have p3 := relayAll_ris u fs (SetTable.grown fs.size)
    have p4 := relayAll_led u fs (SetTable.grown fs.size)
    generalize relayAll u fs (SetTable.grown fs.size) = Z at p1 p2 p3 p4 ⊢
    obtain ⟨gs, v, gave⟩ := Z
    dsimp only at p1 p2 p3 p4 ⊢
    have z1 : gs.size = fs.size := by rw [← Array.length_toList, p1.length_eq, Array.length_toList]
    refine wpAny_bind (hg _ _ _ ?_)
    refine wpAny_bind (wpAny_storeSet_of o1 rfl ?_ (fits_of_scanBound (by rw [z1]; exact h4)))
    have o2 := storeW (es' := gs) (t' := v) o1 rfl
    exact wpAny_pure (hR _ (b1.trans (Heap.SameBut.update _ a _)) ⟨_, gs, _, v, { ho := o2, ex := hex, hd := rfl, el := h1.perm p1, ap := (p1.pairwise_iff (fun q => apart_symm q)).mpr h2, mm := fun k => (h3 k).trans ⟨fun ⟨e, m, q⟩ => ⟨e, p1.mem_iff.mpr m, q⟩, fun ⟨e, m, q⟩ => ⟨e, p1.mem_iff.mp m, q⟩⟩, bd := by rw [z1]; exact h4, ft := p2, sz := z1, ri := p3, ld := h7.imp id fun z => by rw [p4]; exact z }⟩)
  · exact wpAny_pure (hR _ b1 ⟨_, fs, _, u, { ho := o1, ex := hex, hd := rfl, el := h1, ap := h2, mm := h3, bd := h4, ft := h5, sz := rfl, ri := h6, ld := h7 }⟩)
theorem setW_add {k : κ} {x : Value} {Q : Bool → Shared → Prop} (hk : knd.is k x = true) (hsc : x.scannable = true) (R : SetX knd s.heap a S n) (room : n + 1 < scanBound)
    (hQ : ∀ h', Heap.SameBut a s.heap h' → SetX knd h' a (fun j => S j || decide (j = k)) (if S k = true then n else n + 1) → Q (!S k) { s with heap := h' }) :
    wpAny (model P w) A (setAddHashed a x (knd.hash k)) Q E s := by
  obtain ⟨o, es, ep, t, R⟩ := R
  unfold setAddHashed setAddHashedIn
  refine wpAny_holding (wpAny_bind (wpAny_setState_of R.ho R.hd R.ft ?_))
  dsimp only
  rw [byScan_of hsc R.bd R.el]
  simp only [↓reduceIte]
  unfold setAddByScan
  refine wpAny_bind ?_
  refine wpAny_bind (wpAny_rule ?_)
  refine wpAny_bind (wpAny_setScan_of hk R.ho R.hd R.ft R.el ?_)
  cases hf : List.findIdx? (fun e => knd.is k e.2) es.toList with
  | some j =>
    dsimp only
    obtain ⟨hj, pj, _⟩ := List.findIdx?_eq_some_iff_getElem.mp hf
    have hS : S k = true := (R.mm k).2 ⟨es.toList[j], List.getElem_mem hj, pj⟩
    refine wpAny_pure (wpAny_pure ?_)
    have q := hQ s.heap (Heap.SameBut.refl a s.heap) ⟨o, es, ep, t, { R with
      mm := fun i => by
        rw [Bool.or_eq_true, decide_eq_true_eq, ← R.mm i]
        exact ⟨fun z => z.elim id (fun e => e ▸ hS), .inl⟩
      sz := by rw [if_pos hS]; exact R.sz }⟩
    rw [hS] at q
    exact q
  | none =>
    dsimp only
    have hS : S k = false := by
      cases q : S k with
      | false => rfl
      | true =>
        obtain ⟨e, m, p⟩ := (R.mm k).mp q
        have := List.findIdx?_eq_none_iff.mp hf e m
        rw [p] at this; cases this
    have gw : ∀ (b : Bool) {s₁ : Shared} {Q' : Unit → Shared → Prop}, Q' () s₁ → wpAny (model P w) A (match b with | true => rule "set.scan.the-table-gave-way" | false => pure ()) Q' E s₁ := fun b s₁ Q' q => by
      cases b
      · exact wpAny_pure q
      · exact wpAny_rule q
    have p1 := layNew_perm t es (knd.hash k) x
    have p2 := layNew_fits t es (knd.hash k) x
    have p3 := layNew_ris t es (knd.hash k) x R.ri
    have p4 := layNew_led t es (knd.hash k) x
    generalize layNew t es (knd.hash k) x = Z at p1 p2 p3 p4 ⊢
    obtain ⟨fs, u, wd, gave⟩ := Z
    dsimp only at p1 p2 p3 p4 ⊢
    rw [Array.toList_push] at p1
    have e1 : ElemsOf knd fs.toList := (R.el.push hk hsc).perm p1
    have e2 : ∀ i, (S i || decide (i = k)) = true ↔ ∃ e ∈ fs.toList, knd.is i e.2 = true := mem_push_iff hk R.mm p1
    have e3 : fs.toList.Pairwise (Apart knd) := (p1.pairwise_iff (fun q => apart_symm q)).mpr (List.pairwise_append.mpr ⟨R.ap, List.pairwise_singleton _ _, fun e m f mf => by
      obtain rfl := List.mem_singleton.mp mf
      intro i hi hx
      have : i = k := knd.inj x i k hx hk
      subst this
      have c : S i = true := (R.mm i).mpr ⟨e, m, hi⟩
      rw [hS] at c; cases c⟩)
    have z1 : fs.size = n + 1 := by rw [← Array.length_toList, p1.length_eq, List.length_append, Array.length_toList, R.sz]; rfl
    have e4 : fs.size < scanBound := by rw [z1]; exact room
    have e7 : w.params.followText "set-order" = true ∨ u.led = true := R.ld.imp id fun z => by rw [p4]; exact z
    have fin : ∀ h', Heap.SameBut a s.heap h' → SetX knd h' a (fun j => S j || decide (j = k)) fs.size → Q true { s with heap := h' } := fun h' sb r => by
      have q := hQ h' sb
      rw [hS] at q
      rw [z1] at r
      exact q r
    refine wpAny_bind (gw _ ?_)
    split
    · refine wpAny_bind ?_
      rw [hashByValue_scannable 8 hsc]
      refine wpAny_pure ?_
      refine setW_tail ?_ R.ho R.ex R.hd e1 e3 e2 e4 ?_ ?_ ?_ ?_
      · intro b s₁ Q' q
        cases b
        · exact wpAny_pure q
        · exact wpAny_rule q
      · first | (split <;> first | exact p2 | exact SetTable.fits_plain_off p2) | exact p2
      · first | (split <;> exact p3) | exact p3
      · first | (split <;> exact e7) | exact e7
      · intro h' sb r; dsimp only; exact wpAny_pure (fin h' sb r)
    · refine wpAny_bind (wpAny_pure ?_)
      simp only [↓reduceIte]
      refine setW_tail ?_ R.ho R.ex R.hd e1 e3 e2 e4 p2 p3 e7 ?_
      · intro b s₁ Q' q
        cases b
        · exact wpAny_pure q
        · exact wpAny_rule q
      · intro h' sb r; dsimp only; exact wpAny_pure (fin h' sb r)
theorem led_new (w : World) : w.params.followText "set-order" = true ∨ (!w.params.followText "set-order") = true := by
  cases w.params.followText "set-order"
  · exact .inr rfl
  · exact .inl rfl
theorem setX_fresh {h : Heap} (ho : h.get? a = some { cls := .type "set", dict := none, data := .set #[] 0 (.fresh 0 0 (!w.params.followText "set-order")) }) : SetX knd h a (fun _ => false) 0 :=
  ⟨_, #[], 0, _, { ho := ho, ex := ⟨rfl, rfl, rfl⟩, hd := rfl, el := fun e m => by simp at m, ap := by simp, mm := fun k => by simp, bd := by decide, ft := by rfl, sz := rfl, ri := List.Pairwise.nil, ld := led_new w }⟩
def amg (val : Nat → κ) (i : Nat) : κ → Bool := fun k => (List.range i).any fun j => decide (k = val j)
theorem amg_succ (val : Nat → κ) (i : Nat) (k : κ) : amg val (i + 1) k = (amg val i k || decide (k = val i)) := by
  unfold amg
  rw [List.range_succ, List.any_append]
  simp
variable {R : Result → Shared → Prop} {I : Addr} {fp wr : List Addr} {G : Array GenState → Array GenState → Prop} {Pv : Nat → Value → Prop} {St : Nat → Shared → Prop}
theorem setX_loop (W : WalksS P w A.in1 I fp wr G n Pv St) (Z : Addr) (hZf : Z ∉ fp) (val : Nat → κ)
    (hval : ∀ i v, Pv i v → knd.is (val i) v = true ∧ v.scannable = true) (hb : n + 1 < scanBound) :
    ∀ (k i : Nat) (s : Shared), n - i = k → i ≤ n → St i s → (∃ c, c ≤ i ∧ SetX knd s.heap Z (amg val i) c) →
      (∀ s' c, c ≤ n → Moved (Z :: wr) G s s' → SetX knd s'.heap Z (amg val n) c → R (.ok (.ret .none)) s') →
      codeAny (model P w) A (.builtin "set.update.loop" ⟨[.ref Z, .ref I], []⟩) R s := by
  have hZw : Z ∉ wr := fun h => hZf (W.sub _ h)
  have hsub : ∀ b ∈ wr, b ∈ Z :: wr := fun b hb => List.mem_cons_of_mem _ hb
  intro k
  induction k with
  | zero =>
    intro i s hk hi hst ⟨c, hc, hS⟩ hR
    obtain rfl : i = n := by omega
    refine codeAny_builtin F.entry_set_update_loop ?_
    rw [Around.under_plainId F.plain_set_update_loop _]
    show wpAny _ A.in1 (pyNext (.ref I) >>= _) _ _ s
    refine wpAny_bind (W.done s _ _ hst fun s' hm => ?_)
    show wpAny _ A.in1 (ret Value.none) _ _ s'
    exact wpAny_pure (hR s' c hc (hm.mono hsub) (hS.at fun o e => hm.heap Z o hZw e))
  | succ k ih =>
    intro i s hk hi hst ⟨c, hc, hS⟩ hR
    have hlt : i < n := by omega
    refine codeAny_builtin F.entry_set_update_loop ?_
    rw [Around.under_plainId F.plain_set_update_loop _]
    show wpAny _ A.in1 (pyNext (.ref I) >>= _) _ _ s
    refine wpAny_bind (W.item i s _ _ hlt hst fun v s' hP hst' hm => ?_)
    obtain ⟨his, hsc⟩ := hval i v hP
    show wpAny _ A.in1 (holding [v] (setAdd Z v) >>= _) _ _ s'
    refine wpAny_bind (wpAny_holding ?_)
    unfold setAdd
    refine wpAny_holding ?_
    refine wpAny_bind (knd.pyHash (k := val i) his ?_)
    have hS' : SetX knd s'.heap Z (amg val i) c := hS.at fun o e => hm.heap Z o hZw e
    refine setW_add (s := { s' with toks := s'.toks + 1 }) his hsc hS' (by omega) fun h' hsb hS2 => ?_
    have hSi : ∃ c', c' ≤ i + 1 ∧ SetX knd h' Z (amg val (i + 1)) c' := by
      refine ⟨_, ?_, hS2.congr (fun k' => amg_succ val i k')⟩
      split <;> omega
    refine wpAny_pure ⟨plainId_quiet F.plain_set_update_loop _, ih (i + 1) _ (by omega) hlt (W.frame _ s' _ _ hst' (Nat.le_succ _) fun b hb o e => ?_) hSi fun s'' c' hc' hm'' hS'' => ?_⟩
    · rw [hsb.2 b (fun h : b = Z => hZf (by rw [← h]; exact hb))]; exact e
    · refine hR s'' c' hc' (Moved.trans W.gtrans ((hm.mono hsub).then_heap (Nat.le_succ _) fun b o hb e => ?_) hm'') hS''
      rw [hsb.2 b (fun h : b = Z => hb (by rw [h]; exact List.mem_cons_self))]; exact e
def nSet (w : World) : Obj := { cls := .type "set", dict := none, data := .set #[] 0 (.fresh 0 0 (!w.params.followText "set-order")) }
theorem call_setX {l : Addr} {items : Array Value} {val : Nat → κ} {Q : Value → Shared → Prop} (hh : A.handled = none) (hl : s.heap.IsList l items)
    (hval : ∀ i v, items[i]? = some v → knd.is (val i) v = true ∧ v.scannable = true) (hb : items.size + 1 < scanBound)
    (h : ∀ (h' : Heap) (tk c : Nat), c ≤ items.size → SetX knd h' s.heap.objs.size (amg val items.size) c → (∀ b o, s.heap.get? b = some o → h'.get? b = some o) → Q (.ref s.heap.objs.size) { s with heap := h', toks := tk }) :
    wpAny (model P w) A (call (.type "set") [.ref l]) Q E s := by
  obtain ⟨c, tl, hmro⟩ := F.called_set.mro
  have hmade := F.called_set.made
  have hsub := F.called_set.sub
  refine wpAny_call (codeAny_of_tree ?_)
  show wpAny _ _ (callAny (.type "set") _) _ _ _
  refine wpAny_pure ⟨Code.quiet_builtin _ (by decide +kernel), codeAny_builtin F.entry_type_call ?_⟩
  rw [Around.under_plain (weight_type_call_type "set" [.ref l] []) rfl]
  have h1 := F.called_set.notType
  have h2 := F.called_set.canCreate
  have hct := F.typeCall_set_1 (.ref l)
  repeat (any_goals (first | assumption | wp_step))
  refine codeAny_mono (code_set_led1 (.ref l) (E := E) (Q₁ := fun obj s₁ => obj = .ref s.heap.objs.size ∧ s₁ = { s with heap := s.heap.push (nSet w) }) ⟨rfl, rfl⟩) fun r s₁ hr => ?_
  cases r with
  | error e => exact hr
  | ok fl =>
    cases fl with
    | ret obj =>
      obtain ⟨rfl, rfl⟩ := hr
      have hS : (s.heap.push (nSet w)).get? s.heap.objs.size = some (nSet w) := Heap.get?_push_size _ rfl
      have hT : Shared.TypeIs { s with heap := s.heap.push (nSet w) } (.ref s.heap.objs.size) "set" := ⟨_, hS, rfl⟩
      have hli := F.called_set.init.lookup
      have hbi := F.called_set.init.bind (.ref s.heap.objs.size)
      repeat (any_goals (first | assumption | wp_step))
      refine codeAny_mono (codeAny_call_builtin (R := wants (fun r s₂ => r = .none ∧ ∃ h' tk c, s₂ = { s with heap := h', toks := tk } ∧ c ≤ items.size ∧ SetX knd h' s.heap.objs.size (amg val items.size) c ∧ (∀ b o, s.heap.get? b = some o → h'.get? b = some o)) E) F.called_set.init.plain F.entry_set_init (check_set_init_1 hT ?_)) fun r₂ s₂ hr₂ => ?_
      · obtain ⟨ol, hol, hcl, nl, hdl⟩ := hl
        obtain ⟨ocls, odict, odata, oslots⟩ := ol
        simp only at hcl hdl
        subst hcl; subst hdl
        have hol' : (s.heap.push (nSet w)).get? l = some { cls := .type "list", dict := odict, data := .seq items nl, slots := oslots } := Heap.get?_push_of_some _ hol
        have hsls := F.sub_list_set
        have hslf := F.sub_list_frozenset
        have hne : (Value.type "list" == Value.type "dict") = false := by decide
        have hl1 : (s.heap.push (nSet w)).IsList l items := ⟨_, hol', rfl, nl, rfl⟩
        unfold Builtin.«set.__init__» noKeywords Builtin.Frozenset.updateFrom
        generalize hPI : pyIter = PI
        wp_walk
        subst hPI
        refine wpAny_pyIter_list hl1 ?_
        refine wpAny_bind (wpAny_runValue ?_)
        have hlS : l < s.heap.objs.size := Heap.lt_size hol
        have hh3 : A.in1.in1.in1.handled = none := by simp [hh]
        have hz1 : (s.heap.push (nSet w)).objs.size = s.heap.objs.size + 1 := Heap.size_push ..
        have hneI : l ≠ (s.heap.push (nSet w)).objs.size := by rw [hz1]; exact Nat.ne_of_lt (Nat.lt_succ_of_lt hlS)
        have hSf : s.heap.objs.size ∉ [(s.heap.push (nSet w)).objs.size, l] := by
          simp only [List.mem_cons, List.not_mem_nil, or_false, not_or]
          exact ⟨by rw [hz1]; exact Nat.ne_of_lt (Nat.lt_succ_self _), Nat.ne_of_gt hlS⟩
        refine setX_loop ((Walks.list hh3 _ l hneI items).toS) s.heap.objs.size
          hSf val hval hb (items.size - 0) 0 _ (by omega) (Nat.zero_le _)
          ⟨⟨_, Heap.get?_push_size _ rfl, rfl, rfl⟩, (hl1.push _)⟩ ?hS0 ?hR
        case hS0 =>
          exact ⟨0, Nat.le_refl 0, (setX_fresh (Heap.get?_push_of_some _ hS)).congr fun k => rfl⟩
        case hR =>
          intro s' c' hc' hm hS'
          obtain ⟨h', g2, d', tk', os'⟩ := s'
          have eg : g2 = s.gens := hm.gens
          have ed : d' = s.drawn := hm.drawn
          have eo : os' = s.os := hm.os
          subst eg; subst ed; subst eo
          show wpAny _ _ _ _ _ _
          refine wpAny_pure ?_
          show wpAny _ _ (ret Value.none) _ _ _
          refine wpAny_pure ⟨rfl, h', tk', c', rfl, hc', hS', fun b o e => ?_⟩
          have hb0 : b < s.heap.objs.size := Heap.lt_size e
          exact hm.heap b o (by simp only [List.mem_cons, List.not_mem_nil, or_false, not_or]; exact ⟨Nat.ne_of_lt hb0, by rw [hz1]; exact Nat.ne_of_lt (Nat.lt_succ_of_lt hb0)⟩) (Heap.get?_push_of_some _ (Heap.get?_push_of_some _ e))
      · cases r₂ with
        | error e => exact hr₂
        | ok fl₂ =>
          cases fl₂ with
          | ret r =>
            obtain ⟨rfl, h', tk, c', rfl, hc', hS', hk'⟩ := hr₂
            repeat (any_goals (first | assumption | wp_step))
            exact h _ _ _ hc' hS' hk'
          | _ => exact hr₂.elim
    | _ => exact hr.elim
end
def SetSO (P : Program) (w : World) (a : Addr) (S : Str → Bool) (n : Nat) : HO := .ext fun h => SetX (PySem.strKind P w) h a S n
def rSetSt (K : PySem.W.Frag) (P : Program) (w : World) : List V → Hp → VK → Prop := fun xs H Q => ∃ (l : Addr) (zs : List Str), xs = [V.ref l] ∧ SqL K H l (zs.map V.str) ∧ zs.length < 1000 ∧
  ∀ a S n, H a = none → (∀ z, S z = true ↔ z ∈ zs) → n ≤ zs.length → Q (.ref a) (upd H a (SetSO P w a S n))
def rSortSetSt (P : Program) (w : World) : List V → Hp → VK → Prop := fun vs H Q => ∃ (a : Addr) (S : Str → Bool) (n : Nat), vs = [V.ref a] ∧ H a = some (SetSO P w a S n) ∧ n < 64 ∧
  ∀ (ys : List Str) (p : Addr), sortedS ys = true → ys.Nodup → (∀ z, z ∈ ys ↔ S z = true) → H p = none → Q (.ref p) (upd H p (.lst (ys.map V.str)))
section
variable {X : Cx}
theorem setSO_new {w : World} {P : Program} {H : Hp} {h : Heap} {a : Addr} {S : Str → Bool} {n : Nat} (R : SetX (PySem.strKind P w) h a S n) : ObjOk P w H h a (SetSO P w a S n) := by
  have ⟨o, _, _, _, r⟩ := R
  exact ⟨R, ⟨o, r.ho⟩, fun h1 h2 p k => SetX.at p k⟩
theorem strsAreV : ∀ {ys : List Str} {us : List Value}, Vals (ys.map V.str) us → StrsAre us ys
  | [], _, .nil => .nil
  | y :: ys, _, .cons r t => by
    obtain ⟨k, rfl⟩ := r
    exact .cons y k (strsAreV t)
theorem cr_setSt (hc : X.calm = true) : CallR X (.type "set") (rSetSt X.K X.prog X.w) := by
  intro pins s σ H xs us Q I r h
  obtain ⟨l, zs, rfl, hq, h63, q⟩ := h
  obtain ⟨u, rfl, rx⟩ := vals1 r
  cases rx
  obtain ⟨its, rv, pl, hz⟩ := I.list hq
  have hI : StrsAre its zs := strsAreV rv
  have hl : its.toArray.size = zs.length := by rw [List.size_toArray, ← rv.length, List.length_map]
  refine call_setX (knd := PySem.strKind X.prog X.w) (val := fun i => zs.getD i Str.empty) (I.ok.hd hc) pl.isList (fun i v hv => ?_) (by rw [hl]; unfold scanBound; omega) fun h' tk c hc' hS hk => ?_
  · obtain ⟨t, rfl⟩ := SS.strs_at hI i v (by simpa using hv)
    exact ⟨PySem.strKind_is _ _ _ _, rfl⟩
  · refine ⟨.ref s.heap.objs.size, _, I.laid (t' := tk) (fun b u e => hk b u e) (Nat.le_refl _) (setSO_new hS), rfl, q _ _ _ (I.hok.fresh (Nat.le_refl _)) (fun z => ?_) (by rw [← hl]; exact hc')⟩
    unfold amg
    rw [List.any_eq_true, hl]
    constructor
    · rintro ⟨j, hj, e⟩
      have e := of_decide_eq_true e
      have hj := List.mem_range.mp hj
      rw [e]
      show zs.getD j Str.empty ∈ zs
      rw [List.getD_eq_getElem?_getD, List.getElem?_eq_getElem hj]
      exact List.getElem_mem hj
    · intro m
      obtain ⟨j, hj, e⟩ := List.mem_iff_getElem.mp m
      refine ⟨j, List.mem_range.mpr hj, decide_eq_true ?_⟩
      show z = zs.getD j Str.empty
      rw [List.getD_eq_getElem?_getD, List.getElem?_eq_getElem hj, ← e]; rfl
theorem strs_some : ∀ {us : List Value}, (∀ v ∈ us, ∃ k t, v = Value.str k t) → ∃ zs : List Str, StrsAre us zs
  | [], _ => ⟨[], .nil⟩
  | u :: us, h => by
    obtain ⟨zs, hz⟩ := strs_some (us := us) fun v m => h v (List.mem_cons_of_mem _ m)
    obtain ⟨k, t, rfl⟩ := h u List.mem_cons_self
    exact ⟨k :: zs, .cons k t hz⟩
theorem strsAre_mem {P : Program} {w : World} : ∀ {us : List Value} {zs : List Str}, StrsAre us zs → ∀ z, z ∈ zs ↔ ∃ u ∈ us, (PySem.strKind P w).is z u = true
  | _, _, .nil, z => by simp
  | _, _, .cons y t hr, z => by
    have ih := strsAre_mem (P := P) (w := w) hr z
    have e : (PySem.strKind P w).is z (.str y t) = true ↔ z = y := ⟨fun h => (PySem.strKind P w).inj _ _ _ h (PySem.strKind_is P w y t), fun h => by rw [h]; exact PySem.strKind_is P w y t⟩
    constructor
    · intro m
      rcases List.mem_cons.mp m with rfl | m
      · exact ⟨_, List.mem_cons_self, PySem.strKind_is P w _ t⟩
      · obtain ⟨u, m, q⟩ := ih.mp m
        exact ⟨u, List.mem_cons_of_mem _ m, q⟩
    · rintro ⟨u, m, q⟩
      rcases List.mem_cons.mp m with rfl | m
      · rw [e.mp q]; exact List.mem_cons_self
      · exact List.mem_cons_of_mem _ (ih.mpr ⟨u, m, q⟩)
theorem strs_apart {P : Program} {w : World} : ∀ {us : List Value} {zs : List Str}, StrsAre us zs → us.Pairwise (fun a b => ∀ k, (PySem.strKind P w).is k a = true → (PySem.strKind P w).is k b = true → False) → zs.Nodup
  | _, _, .nil, _ => List.nodup_nil
  | _, _, .cons y t hr, h => by
    obtain ⟨h1, h2⟩ := List.pairwise_cons.mp h
    refine List.nodup_cons.mpr ⟨fun m => ?_, strs_apart hr h2⟩
    obtain ⟨u, mu, q⟩ := (strsAre_mem (P := P) (w := w) hr y).mp m
    exact h1 u mu y (PySem.strKind_is P w y t) q
theorem cr_sortSetSt (hc : X.calm = true) : CallR X (.builtin "sorted") (rSortSetSt X.prog X.w) := by
  intro pins s σ H xs us Q I r q
  obtain ⟨a, S, n, ex, ha, h64, q⟩ := q
  subst ex
  obtain ⟨u, eu, rx⟩ := vals1 r
  subst eu
  cases rx
  obtain ⟨o, es, ep, t, R⟩ := (I.hok a _ ha).1
  refine Calls.call_function_entry PyProof.Rows.kind_sorted PyProof.Rows.plain_sorted PyProof.Rows.entry_sorted (PyProof.Rows.args_sorted1 _) ?_
  unfold Builtin.«sorted»
  refine wpAny_bind (m := checkCount "sorted" 1 1 _) (wpAny_pure ?_)
  refine wpAny_bind (collect_set (A := X.A.in1) (I.ok.hd hc) ⟨o, R.ho, R.ex.1, R.hd⟩ R.ft R.bd R.ri R.ld fun s1 vs k1 hz g1 o1 pm => ?_)
  have hvl : vs.length = n := by rw [pm.length_eq, List.length_map, Array.length_toList]; exact R.sz
  have hall : ∀ v ∈ vs, ∃ k t, v = Value.str k t := fun v hv => by
    obtain ⟨e, he, q⟩ := List.mem_map.mp (pm.mem_iff.mp hv)
    obtain ⟨⟨k, hk, _⟩, _⟩ := R.el e he
    obtain ⟨t, ht⟩ := Value.isStrOf_shape (x := k) (v := e.2) hk
    exact ⟨k, t, by rw [← q]; exact ht⟩
  obtain ⟨zs, hS⟩ := strs_some hall
  have hnd : zs.Nodup := strs_apart (P := X.prog) (w := X.w) hS ((pm.pairwise_iff (fun q k a b => q k b a)).mpr (List.pairwise_map.mpr R.ap))
  have hmm : ∀ z, z ∈ zs ↔ S z = true := fun z => by
    rw [strsAre_mem (P := X.prog) (w := X.w) hS z, R.mm z]
    constructor
    · rintro ⟨u, m, h⟩
      obtain ⟨e, he, q⟩ := List.mem_map.mp (pm.mem_iff.mp m)
      exact ⟨e, he, by rw [q]; exact h⟩
    · rintro ⟨e, m, h⟩
      exact ⟨e.2, pm.mem_iff.mpr (List.mem_map_of_mem m), h⟩
  refine wpAny_bind (wpAny_newList ?_ (by rw [hvl, sizeLine_eq]; omega))
  have hoL : (s1.heap.push (seqObj "list" vs.toArray 0)).get? s1.heap.objs.size = some (seqObj "list" vs.toArray 0) := Heap.get?_push_size _ rfl
  refine wpAny_bind (wpAny_holding (wpAny_call_entry PyProof.Rows.slot_list_sort ⟨_, hoL, rfl⟩ PyProof.Rows.entry_list_sort
    (list_sort_treeK strKind_oneLt hoL hS.keysOf (fun v₁ v₂ rest e => keyKind_strs (by rw [← e]; exact hS)) (by rw [hvl]; exact h64) fun st' hp hs => ⟨_, rfl, ?_⟩)
    (PyProof.Rows.args_list_sort _)))
  obtain ⟨ys, g3, g4, g5⟩ := sorted_out_str hS hp hs
  obtain ⟨c, hc'⟩ := PyProof.Rows.sortedHeap_at (vs := vs) (out := (arrOf st').map (·.2)) hoL
  have hlen : (ys.map V.str).length ≤ sizeLine := by
    have : zs.length = vs.length := hS.length.symm
    rw [List.length_map, g4.length_eq, this, hvl, sizeLine_eq]; omega
  have hn : H s1.heap.objs.size = none := I.hok.fresh hz
  have hold : ∀ b u, s.heap.get? b = some u → (sortedHeap (s1.heap.push (seqObj "list" vs.toArray 0)) s1.heap.objs.size vs ((arrOf st').map (·.2))).get? b = some u := fun b u e => by
    have q := k1 b u e
    have hlt := Heap.lt_size q
    rw [PyProof.Rows.sortedHeap_old (Nat.ne_of_lt hlt) (by rw [size_push']; exact Nat.lt_succ_of_lt hlt)]
    exact Heap.get?_push_of_some _ q
  obtain ⟨hp1, gn1, dr1, tk1, os1⟩ := s1
  dsimp only at *
  subst g1; subst o1
  refine wpAny_pure ⟨_, rfl, .ref hp1.objs.size, _, I.call (ch := []) (Un.laid hold hz hn) (I.hok.laid hold hz (show ObjOk X.prog X.w _ _ _ (.lst (ys.map V.str)) from ⟨hlen, ((arrOf st').map (·.2)).toList, c, vals_of_strs g3, by rw [Array.toArray_toList]; exact hc'⟩)) I.bare (fun _ z => nomatch z), rfl, q ys _ g5 (g4.nodup_iff.mpr hnd) (fun z => by rw [g4.mem_iff, hmm z]) hn⟩
end
theorem setSt_q {X : Cx} {K : PySem.W.Frag} {P : Program} {w : World} (hK : X.K = K) (hP : X.prog = P) (hw : X.w = w) (hc : X.calm = true) : CallR X (.type "set") (rSetSt K P w) := by
  subst hK; subst hP; subst hw; exact cr_setSt hc
theorem sortSetSt_q {X : Cx} {P : Program} {w : World} (hP : X.prog = P) (hw : X.w = w) (hc : X.calm = true) : CallR X (.builtin "sorted") (rSortSetSt P w) := by
  subst hP; subst hw; exact cr_sortSetSt hc
def nubS : List Str → List Str
  | [] => []
  | z :: r => if z ∈ r then nubS r else z :: nubS r
theorem nubS_mem : ∀ (l : List Str) (z : Str), z ∈ nubS l ↔ z ∈ l
  | [], z => by simp [nubS]
  | y :: r, z => by
    unfold nubS
    split
    · rename_i h
      rw [nubS_mem r z, List.mem_cons]
      exact ⟨.inr, fun q => q.elim (fun e => e ▸ h) id⟩
    · rw [List.mem_cons, List.mem_cons, nubS_mem r z]
theorem nubS_nodup : ∀ l : List Str, (nubS l).Nodup
  | [] => List.nodup_nil
  | y :: r => by
    unfold nubS
    split
    · exact nubS_nodup r
    · rename_i h
      exact List.nodup_cons.mpr ⟨fun m => h ((nubS_mem r y).mp m), nubS_nodup r⟩
theorem perm_of_mem {α : Type} [DecidableEq α] : ∀ {a b : List α}, a.Nodup → b.Nodup → (∀ z, z ∈ a ↔ z ∈ b) → a.Perm b := fun {a b} ha hb h =>
  List.perm_iff_count.mpr fun z => by
    rw [List.Nodup.count ha, List.Nodup.count hb]
    by_cases m : z ∈ a
    · rw [if_pos m, if_pos ((h z).mp m)]
    · rw [if_neg m, if_neg fun q => m ((h z).mpr q)]
def xSortSet (sq : State → Option (List D)) : State → Option (List D) := fun α => bnd (bnd (sq α) dstrsL) fun zs => if zs.length < 64 then some ((sortS (nubS zs)).map .str) else none
theorem el_sortSet {e : En} {te : TE} {sq : State → Option (List D)} {P : Program} {w : World} (h : EvqL e te sq) : Evl e (tCB (rSortSetSt P w) (tCons (tCB (rSetSt e.K P w) (tCons te tNil)) tNil)) (xSortSet sq) := fun c L S σ H α xs R q Q k => by
  unfold xSortSet at q
  obtain ⟨zs, hz, q⟩ := bnd_some q
  obtain ⟨ds, h1, h2⟩ := bnd_some hz
  split at q
  · rename_i hl
    cases q
    refine h c L S σ H α ds R h1 _ fun a vs H' e1 sl r => ?_
    have hv := rep_dstrs h2 r
    subst hv
    refine ⟨a, zs, rfl, fz_le.seq sl, by omega, fun b S n hb hS hn => ?_⟩
    have s3 : Sm H' (upd H' b (SetSO P w b S n)) := .of fun x o z => by rw [upd_ne (ne_of_none z hb)]; exact z
    refine ⟨b, S, n, rfl, upd_same, by omega, fun ys p srt nd mm hp => ?_⟩
    have s4 : Sm (upd H' b (SetSO P w b S n)) (upd (upd H' b (SetSO P w b S n)) p (.lst (ys.map V.str))) := .of fun x o z => by rw [upd_ne (ne_of_none z hp)]; exact z
    have hn : H p = none := by
      exact (e1.trans s3).free R.inv hp
    have hys : ys = sortS (nubS zs) := sort_is (perm_of_mem nd (nubS_nodup zs) fun z => by rw [mm z, hS z, nubS_mem]) srt
    exact k p _ _ ((e1.trans s3).trans s4) hn upd_same (by rw [hys]; exact reps_strs _)
  · cases q
@[simp] theorem a_xSortSet {sq : State → Option (List D)} {α : State} : xSortSet sq α = bnd (bnd (sq α) dstrsL) fun zs => if zs.length < 64 then some ((sortS (nubS zs)).map .str) else none := (rfl)
end Ab
end
section
set_option maxRecDepth 100000
set_option maxHeartbeats 1000000
namespace Ab
open PySem L2 PyProof.Rows PySem.Spec
variable [Hd]
def sClear (i : Nat) : State → Out := fun α => match ctOf α[i]? with
  | some (.lst _) => .nxt (putC α i (.lst []))
  | _ => .bad
section
variable {e : En} {E : XK}
theorem st_clear {i : Nat} : Sts e E (tDrop (tBM0 e.K "list" rClear (tVar i))) (sClear i) := fun c L S σ H α D R k => by
  unfold sClear at k
  split at k
  · rename_i xs hx
    obtain ⟨p, o, h1, m1, ho, vs, rfl, r1⟩ := R.at hx
    refine ⟨.ref p, h1, .inl ⟨rfl, vs, SqL.of ho⟩, p, vs, rfl, rfl, ho, ?_⟩
    obtain ⟨R2, m2⟩ := R.mut hx h1 (o := .lst []) (ct' := .lst []) ⟨_, rfl, Reps.nil⟩
    exact k L S σ _ (fz_mod m2 R.sub) R2
  · exact k.elim
end
theorem pe_clear {X : Cx} {K : PySem.W.Frag} (h : X.K = K) {o : Expr} {to : TE} {apos cpos : Pos} (ho : PE X o to) (hbase : attributeBase o "clear" X.env (eval o X.env) = eval o X.env := by rfl) (hline : (apos.endLine == cpos.line) = true := by rfl) :
    PE X (.Call (.Attribute o "clear" apos) [] [] cpos) (tBM0 K "list" rClear to) := h ▸ pe_bm0 PySem.F.plainAttrs_list PySem.F.slot_list_clear PySem.F.type_list_clear mt_clear ho hbase hline
@[simp] theorem a_sClear {i : Nat} {α : State} : sClear i α = (match ctOf α[i]? with
  | some (.lst _) => .nxt (putC α i (.lst []))
  | _ => .bad) := (rfl)
end Ab
end
section

end
section
set_option maxRecDepth 100000
set_option maxHeartbeats 1000000
namespace Ab
open PySem L2 PyProof.Rows PySem.Spec
variable [Hd]
structure CalMX (P : Program) (w : World) (K : PySem.W.Frag) (mg : Str → Option Value) (base : Heap) (C : Addr) (m : Str) (ps : List Str) (k : Nat) (sp : Sp) : Prop where
  ex : ∃ f fd, FnOk P w K mg base (L2.CX P w) k f fd ps sp ∧ Meth K C m f ∧ Binds K fd ps []
section
variable {P : Program} {w : World} {K : PySem.W.Frag} {mg : Str → Option Value} {base : Heap} {C : Addr} {x m : Str} {ps : List Str} {k j : Nat} {sp : Sp}
theorem CalMX.vacuous {f : Addr} {fd : FuncData} (hm : Meth K C m f) (hb : Binds K fd ps []) (no : ∀ vs H Q E, ¬ sp vs H Q E) : CalMX P w K mg base C m ps k sp :=
  ⟨f, fd, ⟨fun vs H Q E h => absurd h (no vs H Q E), fun A outer s H args us vs Q E _ _ _ _ h => absurd h (no vs H Q E)⟩, hm, hb⟩
theorem CalX.vacuous {f : Addr} {fd : FuncData} (hm : mg x = some (.ref f)) (hk : PySem.W.keepIn K (.ref f) = true) (hb : Binds K fd ps []) (no : ∀ vs H Q E, ¬ sp vs H Q E) : CalX P w K mg base x ps k sp :=
  ⟨f, fd, ⟨fun vs H Q E h => absurd h (no vs H Q E), fun A outer s H args us vs Q E _ _ _ _ h => absurd h (no vs H Q E)⟩, hm, hk, hb⟩
theorem fn_MX {cls : String → Addr} {x qual : Str} {st : Stmt} {f : Addr} {fd : FuncData} {N ps : List Str} {k : Nat} (s : State → Out) (F : Fun K x qual st f fd) (S : FnScope N ps (defScope st)) {n kk : Nat} (hn : N.length = n) (hkk : ps.length = kk) (hps : kk ≤ n) {m : List A → MRes} (hmm : m = runM n kk s)
    (hbody : ∀ (cdv : Value) (A : Around) (outer : List Env) (s0 : Shared) (H : Hp) (E : XK), Room k (A.deeper (envOfC qual (defScope st) s0.heap.objs.size f cdv)) →
      ∃ t, PSs (cxOf (L2.CX P w) P w K mg base N qual (defScope st) f cdv A outer s0 H E) (defBody st) t ∧ Sts ⟨K, cls⟩ E t s) : FnOk P w K mg base (L2.CX P w) (k + 1) f fd ps (spM ⟨K, cls⟩ m) := by
  refine F.okX S (fun vs H Q E h => by rw [spM_len hmm h, hkk]) (fun cdv A outer s0 H vs Q E hr h => ?_)
  obtain ⟨t, h1, h2⟩ := hbody cdv A outer s0 H E hr
  exact ⟨t, h1, body_M hn hps hmm h2 h⟩
end
section
variable {X : Cx} {C : Addr} {mn x : Str} {ps : List Str} {k j : Nat} {sp : Sp} {E : XK} {ta : TE} {o e : Expr} {es : List Expr} {t : TA} {apos pos p : Pos}
theorem passX (tk : Takes X (fun cls d _ H => E cls d H)) : Passes (L2.CX X.prog X.w) X E := passes_call tk fun _ _ _ _ h => h
theorem pe_calXE (C : CalX X.prog X.w X.K X.mg X.base x ps k sp) (tk : Takes X (fun cls d _ H => E cls d H)) (hr : Room j X.A) (hkj : k ≤ j) (hg : Gl X x) (ha : PA X (e :: es) t) (hdb : (x == ("__debug__" : Str)) = false := by decide) (he : starEach (e :: es) X.env = (false, eval e X.env) :: starEach es X.env := by rfl) (hpl : (backTo pos (starEach es X.env)).any (·.1) = false := by rfl) :
    PE X (.Call (.Name x p) (e :: es) [] pos) (tCall sp [] E t) := by
  obtain ⟨f, fd, G, hm, hk, hb⟩ := C.ex
  exact pe_call G (hr.mono hkj) hg hm hk hb .nil (passX tk) ha hdb he hpl
theorem pe_calmX {pl : Sem Bool} (he : PE X o ta) (c : Cls X.K C) (M : CalMX X.prog X.w X.K X.mg X.base C mn ps k sp) (tk : Takes X (fun cls d _ H => E cls d H)) (hr : Room j X.A) (hkj : k ≤ j) (ha : PA X (e :: es) t)
    (hst : starEach (e :: es) X.env = (false, eval e X.env) :: starEach es X.env := by rfl) (hpl : (backTo pos (starEach es X.env)).any (·.1) = false := by rfl)
    (ht : eval (.Call (.Attribute o mn apos) (e :: es) [] pos) X.env = (do
      let ov ← eval o X.env
      standAt apos.atName
      let (f, first) ← holding [ov] (getMethod ov mn pl)
      callWith pos f first (backTo pos (starEach (e :: es) X.env)) (backToKw pos (keywordEach [] X.env))) := by rfl) : PE X (.Call (.Attribute o mn apos) (e :: es) [] pos) (tMeth C mn sp [] E ta t) := by
  obtain ⟨f, fd, G, hm, hb⟩ := M.ex
  exact pe_meth (pl := pl) he c hm G (hr.mono hkj) hb .nil (passX tk) ha hst hpl ht
theorem pe_calmX0 {pl : Sem Bool} (he : PE X o ta) (c : Cls X.K C) (M : CalMX X.prog X.w X.K X.mg X.base C mn ps k sp) (tk : Takes X (fun cls d _ H => E cls d H)) (hr : Room j X.A) (hkj : k ≤ j)
    (ht : eval (.Call (.Attribute o mn apos) [] [] pos) X.env = (do
      let ov ← eval o X.env
      standAt apos.atName
      let (f, first) ← holding [ov] (getMethod ov mn pl)
      callWith pos f first (backTo pos (starEach [] X.env)) (backToKw pos (keywordEach [] X.env))) := by rfl) : PE X (.Call (.Attribute o mn apos) [] [] pos) (tMeth C mn sp [] E ta tNil) := by
  obtain ⟨f, fd, G, hm, hb⟩ := M.ex
  exact pe_meth0 (pl := pl) he c hm G (hr.mono hkj) hb .nil (passX tk) ht
end
abbrev hold (X : Cx) (pn : List (Addr × Obj)) : Cx := { X with pn := pn }
theorem ok_hold {X : Cx} (ok : X.Ok) (pn : List (Addr × Obj)) : (hold X pn).Ok :=
  ⟨ok.mod, ok.kind, ok.glob, ok.blt, ok.above, ok.inj, ok.has, ok.cab, ok.hd, ok.frames, ok.stk, ok.exf, ok.bs, ok.bsz, ok.noex, ok.exfs, ok.funs, ok.frf⟩
def wKeep (K : PySem.W.Frag) (c : Value) (i : Nat) (ts : Addr → Value → Option Addr → TS) (tr : Addr → Value → Option Addr → TS) (D : Ends) : WX := fun cls d σ H =>
  PySem.W.exmOne K cls c = some true ∧ ∀ a, H a = none → ts a cls d { nx := fun σ' H' => tr a cls d D (σ'.set i none) H', rt := fun _ _ => False } (σ.set i (some (.ref a))) H
section
variable {X : Cx} {x n : Str} {c : Value} {i : Nat} {body suite rest : List Stmt} {b₀ : Stmt} {np pos pos' : Pos} {tb : WX → TS} {tn : TS} {ts tr : Addr → Value → Option Addr → TS}
theorem pss_try_keep (hs : X.stack = X.env :: X.outer) (hf : X.env.frame = some X.env.locals) (hN : X.N.Nodup) (hi : X.N[i]? = some n) (hln : X.env.kindOf n = some .local) (hc : Names X x c)
    (hb : ∀ (W : WX) (pn : List (Addr × Obj)) (xe : Value → Shared → Prop), Takes (X.tr pn xe) W → PassesOwn (model X.prog X.w) X.A X.env xe → PSs (X.tr pn xe) body (tb W))
    (hsu : ∀ (a : Addr) (oe : Obj) (cls : Value) (d : Option Addr) (pn : List (Addr × Obj)), Zc cls d oe → (∃ vs, oe.data = .fields vs) → PSs (X.suite a ((a, oe) :: pn)) (b₀ :: suite) (ts a cls d))
    (hrn : PSs X rest tn)
    (hrx : ∀ (a : Addr) (oe : Obj) (cls : Value) (d : Option Addr) (pn : List (Addr × Obj)), Zc cls d oe → (∃ vs, oe.data = .fields vs) → X.base.get? a = none → PSs (hold X ((a, oe) :: pn)) rest (tr a cls d)) :
    PSs X (.Try body [.ExceptHandler (some (.Name x np)) (some n) (b₀ :: suite) pos'] [] [] pos :: rest) (fun D σ H => tb (wKeep X.K c i ts tr D) { D with nx := tn D } σ H) := by
  refine ⟨fun pins s σ H D I h => ?_⟩
  have ok := I.ok
  have hfr : X.A.frames = some (X.env :: X.outer) := by rw [ok.frames, hs]
  have hloc : Loc X.env.scope n := .inl hln
  let P2 : Flow → Shared → Prop := fun f s1 => match f with
    | .next => (∃ σ' H', Inv X pins σ' H' s1 ∧ tn D σ' H') ∨ (∃ (a : Addr) (oe : Obj) (cls : Value) (d : Option Addr) (σ' : L2.St) (H' : Hp), Inv (hold X ((a, oe) :: (X.pn ++ pins))) [] σ' H' s1 ∧ Zc cls d oe ∧ (∃ vs, oe.data = .fields vs) ∧ X.base.get? a = none ∧ tr a cls d D σ' H')
    | f => SP X pins D f s1
  have key : wpAny (model X.prog X.w) X.A (exec (.Try body [.ExceptHandler (some (.Name x np)) (some n) (b₀ :: suite) pos'] [] [] pos) X.env) P2 X.xe s := by
    refine wpAny_Try_except ?_
    refine wpAny_mono ((hb (wKeep X.K c i ts tr D) (X.pn ++ pins) (fun e s₁ => wpAny (model X.prog X.w) X.A (noteFrame e X.env) (fun _ s₂ => wpAny (model X.prog X.w) X.A (setFlight e none) (fun _ s₃ =>
      wpAny (model X.prog X.w) X.A (handleBy e X.env [.ExceptHandler (some (.Name x np)) (some n) (b₀ :: suite) pos']) P2 X.xe s₃) X.xe s₂) X.xe s₁) (fun u s' xx => ?_) PassesOwn.looking).run [] s σ H { D with nx := tn D } (I.toTry _) h) (fun f s1 hsp => ?_) (fun e s1 he => he)
    · -- the catch
      obtain ⟨a, B, sI, pins', σ', H', cls, d, rfl, J', nb, up, sky, na, os, ag, hb1, hyes⟩ := xx
      have J : Inv X pins σ' H' sI := J'.ofTry ok
      have sky' : Sky B (X.env :: X.outer) a (Zc cls d) X.env.locals s'.heap := by rw [← hs]; exact sky
      show wpAny (model X.prog X.w) X.A (noteFrame (.ref a) X.env) _ _ _
      refine Sky.land Zc.steady hfr hf sky' fun h3 fl3 up3 => ?_
      have J3 : Inv X pins σ' H' { s' with heap := h3 } := J.landed nb fl3.1 (up.trans up3) os ag
      obtain ⟨oe3, vs3, he3, hz3, hd3⟩ := fl3.there
      have notFr : ∀ {h : Heap} {o : Obj} {vs : Array Value}, h.FunFrames B (X.env :: X.outer) → h.get? a = some o → o.data = .fields vs → a ∉ frs (X.env :: X.outer) := fun {h o vs} ff e dd hm => by
        obtain ⟨_, o', e', hnf⟩ := ff.mem hm
        rw [e] at e'; cases e'
        exact hnf _ dd
      have nfr := notFr fl3.2.2.1 he3 hd3
      have nL : a ≠ X.env.locals := fun z => nfr (List.mem_filterMap.mpr ⟨X.env, List.mem_cons_self, by rw [hf, z]⟩)
      have nF : a ∉ X.fs := fun hm => by
        obtain ⟨e, he, q⟩ := List.mem_filterMap.mp hm
        exact nfr (List.mem_filterMap.mpr ⟨e, List.mem_cons_of_mem _ he, q⟩)
      have nb0 : X.base.get? a = none := by
        cases z : X.base.get? a with
        | none => rfl
        | some o =>
          have := nb a o (J.bk a o z) (by rw [hs]; exact nfr)
          rw [fl3.2.1] at this; cases this
      have S3 := J3.suite he3 hd3 na nL nF
      refine wpAny_handleBy_cons (codeAny_handlers_test ?_) (by intro q; cases q)
      have LT : PySem.W.Looks (model X.prog X.w) h3 (typeOf (.ref a)) cls := fun A Q E s k q => wpAny_typeOf_ref (k _ _ he3) (by rw [hz3.1]; exact q)
      have LM := PySem.W.exm_one (M := model X.prog X.w) (J3.kIn) LT hb1
      have test : ∀ {Q : Value → Shared → Prop} {E : Value → Shared → Prop}, Q c { s' with heap := h3 } → wpAny (model X.prog X.w) (X.A.mark (some (.ref a))) (eval (.Name x np) X.env) Q E { s' with heap := h3 } := fun {Q E} q => by
        obtain ⟨hg, hdbg, hm | ⟨hm, hv, hnn⟩⟩ := hc
        · exact ld_glob (X := X.suite a ((a, oe3) :: (X.pn ++ pins))) S3 hg hm q hdbg
        · exact ld_blt (X := X.suite a ((a, oe3) :: (X.pn ++ pins))) S3 hg hm hv q hnn hdbg
      refine test (LM.here ?_)
      refine codeAny_handlers_suite_as ?_
      refine HandSPX.lands_againZ fl3 fun h4 fl4 up4 => ?_
      have J4 : Inv X pins σ' H' { s' with heap := h4 } := J.landed nb fl4.1 ((up.trans up3).trans up4) os ag
      obtain ⟨oe4, vs4, he4, hz4, hd4⟩ := fl4.there
      have S4 := J4.suite he4 hd4 na nL nF
      refine store_ok (X := X.suite a ((a, oe4) :: (X.pn ++ pins))) (v := .ref a) S4 hN hi hloc rfl (fun s5 S5 => ?_) (.inr hln)
      refine wpAny_mono ((hsu a oe4 cls d (X.pn ++ pins) hz4 ⟨_, hd4⟩).run [] s5 _ H' _ S5 (hyes a na)) (fun f s6 hsp => ?_) (fun _ _ z => False.elim z)
      cases f with
      | next =>
        obtain ⟨σ6, H6, S6, q6⟩ := hsp
        have T6 : Inv (hold X ((a, oe4) :: (X.pn ++ pins))) [] σ6 H6 s6 := ⟨ok_hold ok _, S6.os, S6.bare, S6.base, S6.loc, S6.cell, S6.free, S6.freeC, fun p hp => S6.pin p hp, S6.hok, S6.len⟩
        have g : wpAny (model X.prog X.w) X.A (do bindName X.env n .none; unbindBehindTheSuite X.env n pos') (fun _ s7 => P2 .next s7) X.xe s6 :=
          gone_ok (X := hold X ((a, oe4) :: (X.pn ++ pins))) T6 hN hi hln fun s7 J7 => .inr ⟨a, oe4, cls, d, _, _, J7, hz4, ⟨_, hd4⟩, nb0, q6⟩
        exact g
      | brk => obtain ⟨σ6, H6, S6, q6⟩ := hsp; exact q6.elim
      | cont => obtain ⟨σ6, H6, S6, q6⟩ := hsp; exact q6.elim
      | ret u => obtain ⟨v6, σ6, H6, S6, r6, q6⟩ := hsp; exact q6.elim
    · cases f with
      | next =>
        obtain ⟨σ', H', J', q⟩ := hsp
        exact wpAny_execs_nil (Or.inl ⟨σ', H', J'.ofTry ok, q⟩)
      | brk =>
        obtain ⟨σ', H', J', q⟩ := hsp
        exact ⟨σ', H', J'.ofTry ok, q⟩
      | cont =>
        obtain ⟨σ', H', J', q⟩ := hsp
        exact ⟨σ', H', J'.ofTry ok, q⟩
      | ret u =>
        obtain ⟨v, σ', H', J', r, q⟩ := hsp
        exact ⟨v, σ', H', J'.ofTry ok, r, q⟩
  refine wpAny_execs_cons (thn key fun f s1 q => ?_)
  cases f with
  | next =>
    rcases q with ⟨σ', H', J, q⟩ | ⟨a, oe, cls, d, σ', H', J, hz, hd, nb0, q⟩
    · exact hrn.run pins s1 σ' H' D J q
    · have back : ∀ {σ2 : L2.St} {H2 : Hp} {s2 : Shared}, Inv (hold X ((a, oe) :: (X.pn ++ pins))) [] σ2 H2 s2 → Inv X pins σ2 H2 s2 := fun {σ2 H2 s2} K =>
        ⟨ok, K.os, K.bare, K.base, K.loc, K.cell, K.free, K.freeC, fun p hp => K.pin p (List.mem_append_left _ (List.mem_cons_of_mem _ hp)), K.hok, K.len⟩
      refine wpAny_mono ((hrx a oe cls d (X.pn ++ pins) hz hd nb0).run [] s1 σ' H' D J q) (fun f s2 hsp => ?_) (fun _ _ z => z)
      cases f with
      | next => obtain ⟨σ', H', K, z⟩ := hsp; exact ⟨σ', H', back K, z⟩
      | brk => obtain ⟨σ', H', K, z⟩ := hsp; exact ⟨σ', H', back K, z⟩
      | cont => obtain ⟨σ', H', K, z⟩ := hsp; exact ⟨σ', H', back K, z⟩
      | ret u => obtain ⟨v, σ', H', K, r, z⟩ := hsp; exact ⟨v, σ', H', back K, r, z⟩
  | ret v => exact q
  | brk => exact q
  | cont => exact q
theorem pss_hold_pin {a : Addr} {oe : Obj} {d : Option Addr} {pn : List (Addr × Obj)} {ts : List (Str × V) → TS}
    (h : ∀ (dd : Addr) (od : Obj) (fs : List (Str × V)), d = some dd → OdOk od fs → PSs (hold X ((a, oe) :: (dd, od) :: pn)) rest (ts fs)) :
    PSs (hold X ((a, oe) :: pn)) rest (fun D σ H => ∃ dd fs, d = some dd ∧ H dd = some (.xd fs) ∧ ts fs D σ (del H dd)) := by
  refine ⟨fun pins s σ H D I ⟨dd, fs, e, hd, q⟩ => ?_⟩
  have hx : ObjOk X.prog X.w H s.heap dd (.xd fs) := I.hok dd _ hd
  obtain ⟨mA, hns, hr⟩ := hx
  obtain ⟨od, ho, hl⟩ := lookIn_ns hns
  obtain ⟨n1, n2⟩ := xd_nofs I hd
  have nc : ∀ v, od.data ≠ .cell v := fun v z => by
    obtain ⟨o, es, ep, h1, h2, _⟩ := hns
    rw [ho] at h1; cases h1
    rw [z] at h2; cases h2
  have J := inv_drop I hd
  have J2 : Inv (hold X ((a, oe) :: (dd, od) :: pn)) pins σ (del H dd) s := by
    refine ⟨ok_hold (X := hold X ((a, oe) :: pn)) J.ok _, J.os, J.bare, J.base, J.loc, J.cell, J.free, J.freeC, fun p hp => ?_, J.hok, J.len⟩
    have hp' : p ∈ (a, oe) :: (dd, od) :: (pn ++ pins) := hp
    rcases List.mem_cons.mp hp' with e | hp'
    · exact J.pin p (by rw [e]; exact List.mem_cons_self)
    rcases List.mem_cons.mp hp' with e | hp'
    · rw [e]; exact ⟨ho, del_same, n2, n1, nc⟩
    · exact J.pin p (List.mem_cons_of_mem _ hp')
  have back : ∀ {σ' : L2.St} {H' : Hp} {s' : Shared}, Inv (hold X ((a, oe) :: (dd, od) :: pn)) pins σ' H' s' → Inv (hold X ((a, oe) :: pn)) pins σ' H' s' := fun {σ' H' s'} K => by
    refine ⟨I.ok, K.os, K.bare, K.base, K.loc, K.cell, K.free, K.freeC, fun p hp => K.pin p ?_, K.hok, K.len⟩
    have hp' : p ∈ (a, oe) :: (pn ++ pins) := hp
    show p ∈ (a, oe) :: (dd, od) :: (pn ++ pins)
    rcases List.mem_cons.mp hp' with e | hp'
    · rw [e]; exact List.mem_cons_self
    · exact List.mem_cons_of_mem _ (List.mem_cons_of_mem _ hp')
  refine wpAny_mono ((h dd od fs e ⟨fun f => ⟨_, hl f, hr f⟩, nc⟩).run pins s σ _ D J2 q) (fun f s' hs => ?_) (fun _ _ z => z)
  cases f with
  | next => obtain ⟨σ', H', K, z⟩ := hs; exact ⟨σ', H', back K, z⟩
  | brk => obtain ⟨σ', H', K, z⟩ := hs; exact ⟨σ', H', back K, z⟩
  | cont => obtain ⟨σ', H', K, z⟩ := hs; exact ⟨σ', H', back K, z⟩
  | ret u => obtain ⟨v, σ', H', K, z⟩ := hs; exact ⟨v, σ', H', back K, z⟩
end
theorem pss_tryhold {X : Cx} {i j ic k l : Nat} {y n nm cn f : Str} {c : Value} {ps : List Str} {sp : Sp} {a : Expr} {as : List Expr} {ta : TA} {tn : TS} {tr : Addr → Value → List (Str × V) → TS} {rest : List Stmt} {p1 p2 p3 p4 p5 p6 p7 np pos pos' : Pos}
    (hs : X.stack = X.env :: X.outer) (hf : X.env.frame = some X.env.locals) (hN : X.N.Nodup) (hi : X.N[i]? = some y) (hy : Loc X.env.scope y) (hy2 : X.env.scope.names.lookup y = some .local) (hj : X.N[j]? = some nm) (hln : X.env.kindOf nm = some .local)
    (hic : X.N[ic]? = some cn) (hcl : Loc X.env.scope cn) (hcl2 : X.env.scope.names.lookup cn = some .local) (hnl : Vis X.env.scope nm) (hc : Names X n c)
    (C : CalX X.prog X.w X.K X.mg X.base f ps k sp) (hr : Room l X.A) (hkj : k ≤ l) (hg : Gl X f)
    (ha : ∀ (W : WX) (pn : List (Addr × Obj)) (xe : Value → Shared → Prop), PA (X.tr pn xe) (a :: as) ta)
    (hrn : PSs X rest tn)
    (hrx : ∀ (b dd : Addr) (oe od : Obj) (cls : Value) (fs : List (Str × V)) (pn : List (Addr × Obj)), Zc cls (some dd) oe → (∃ vs, oe.data = .fields vs) → OdOk od fs → PSs (hold X ((b, oe) :: (dd, od) :: pn)) rest (tr b cls fs))
    (hsw : swapsWith (.Call (.Name f p1) (a :: as) [] p2) (some (.Name y p3)) p4.line X.env = pure false := by rfl)
    (hsw2 : swapsWith (.Name nm p6) (some (.Name cn p5)) p7.line X.env = pure false := by rfl)
    (hd1 : (nm == ("__debug__" : Str)) = false := by decide) (hd2 : (nm == ("__classdict__" : Str)) = false := by decide) (hdb : (f == ("__debug__" : Str)) = false := by decide) (he : starEach (a :: as) X.env = (false, eval a X.env) :: starEach as X.env := by rfl) (hpl : (backTo p2 (starEach as X.env)).any (·.1) = false := by rfl) :
    PSs X (.Try [.Assign [.Name y p3] (.Call (.Name f p1) (a :: as) [] p2) p4] [.ExceptHandler (some (.Name n np)) (some nm) [.Assign [.Name cn p5] (.Name nm p6) p7] pos'] [] [] pos :: rest)
      (fun D σ H => tAsg (tCallS sp (WE (wKeep X.K c j (fun a cls d => tAsg (tVar j) (gName ic)) (fun a cls d D σ H => ∃ dd fs, d = some dd ∧ H dd = some (.xd fs) ∧ tr a cls fs D σ (del H dd)) D)) ta) (gName i) { D with nx := tn D } σ H) :=
  pss_try_keep (tb := fun W D σ H => tAsg (tCallS sp (WE W) ta) (gName i) D σ H) (ts := fun a cls d => tAsg (tVar j) (gName ic)) (tr := fun a cls d D σ H => ∃ dd fs, d = some dd ∧ H dd = some (.xd fs) ∧ tr a cls fs D σ (del H dd)) hs hf hN hj hln hc
    (fun W pn xe tk _ => pss_one (ps_set (X := X.tr pn xe) (i := i) hN hi hy (pe_calX (X := X.tr pn xe) C hr hkj hg tk (ha W pn xe) hdb he hpl) hsw (.inr hy2)))
    (fun b oe cls d pn _ _ => pss_one (ps_set (X := X.suite b ((b, oe) :: pn)) (i := ic) hN hic hcl (pe_var (X := X.suite b ((b, oe) :: pn)) (i := j) hj hnl hd1 hd2) hsw2 (.inr hcl2)))
    hrn (fun b oe cls d pn hz hd _ => pss_hold_pin fun dd od fs e ho => hrx b dd oe od cls fs pn (e ▸ hz) hd ho)
section
variable {X : Cx} {a dd : Addr} {oe od : Obj} {cls : Value} {fs : List (Str × V)}
theorem inst_atH (m1 : (a, oe) ∈ X.pn) (m2 : (dd, od) ∈ X.pn) {pins : List (Addr × Obj)} {σ : L2.St} {H : Hp} {s : Shared} {D : Addr} (hz : Zc (.ref D) (some dd) oe) (hf : ∃ vs, oe.data = .fields vs) (I : Inv X pins σ H s) : PySem.W.InstAt s.heap a oe D (some od) := by
  obtain ⟨ha, _⟩ := I.pin (a, oe) (List.mem_append_left _ m1)
  obtain ⟨ho, _⟩ := I.pin (dd, od) (List.mem_append_left _ m2)
  obtain ⟨vs, hd⟩ := hf
  exact ⟨ha, hz.1, by unfold PySem.W.notCls; rw [hd] <;> rfl, by rw [hz.2]; exact ho⟩
theorem pe_xfH {e : Expr} {te : TE} {pos : Pos} {n : Str} (m1 : (a, oe) ∈ X.pn) (m2 : (dd, od) ∈ X.pn) (hz : Zc cls (some dd) oe) (hf : ∃ vs, oe.data = .fields vs) (ho : OdOk od fs) (he : PE X e te) (hb : attributeBase e n X.env (eval e X.env) = eval e X.env := by rfl) :
    PE X (.Attribute e n pos) (tXfP X.K a cls fs n te) := by
  refine ⟨fun pins s σ H Q I h => ?_⟩
  refine attr_of hb (thn (he.run pins s σ H _ I h) fun u s1 ⟨x, H1, I1, rx, ex, C, v, ec, T, hno, l, q⟩ => ?_)
  subst ex ec
  obtain rfl : u = Value.ref a := rx
  obtain ⟨gv, hl, hr⟩ := ho.1 n
  obtain ⟨u, hu, ru⟩ := RelO.some_of (v := v) (o := gv) (by rw [← l]; exact hr)
  exact HandSPX.exc_get I1.kIn (inst_atH m1 m2 hz hf I1) T.ga T.gg T.exC (PySem.W.findObj_own T.hdC hno rfl (by rw [hl, hu])) (handed_of ru) ⟨v, H1, I1.tok _, ru, q⟩
theorem call_isEH (m1 : (a, oe) ∈ X.pn) (m2 : (dd, od) ∈ X.pn) (hz : Zc cls (some dd) oe) (hf : ∃ vs, oe.data = .fields vs) : CallR X (.builtin "isinstance") (rIsEP X.K a cls) := by
  intro pins s σ H xs us Q I r h
  obtain ⟨D, c, cv, b, rfl, C, rfl, hcv, e, q⟩ := h
  cases r with
  | cons rx rr =>
    cases rr with
    | cons rt rr =>
      cases rr
      cases rx
      have ec := hcv _ rt
      subst ec
      obtain ⟨cd, hc, _⟩ := PySem.W.any_some C.hd
      exact PySem.W.kia_one (PySem.W.kitx_exc (by rw [hc]; rfl) C.hg C.hk C.hs C.ha C.hn C.ht C.hm) I.kIn (inst_atH m1 m2 hz hf I) e (fun z => nomatch z) fun tk => ⟨.bl b, H, I.kept (t' := tk) fun _ _ z => z, rfl, q⟩
theorem call_isETH (m1 : (a, oe) ∈ X.pn) (m2 : (dd, od) ∈ X.pn) (hz : Zc cls (some dd) oe) (hf : ∃ vs, oe.data = .fields vs) : CallR X (.builtin "isinstance") (rIsETP X.K a cls) := by
  intro pins s σ H xs us Q I r h
  obtain ⟨D, tp, cs, ws, b, rfl, C, rfl, hT, k, e, q⟩ := h
  cases r with
  | cons rx rr =>
    cases rr with
    | cons rt rr =>
      cases rr
      cases rx
      cases rt
      obtain ⟨_, its, rv, o, h1, h2, n, h3⟩ := (show ObjOk X.prog X.w H s.heap tp (.tup cs) from I.hok tp _ hT)
      have e3 := ClsV.all k rv
      subst e3
      obtain ⟨oc, od', dt, sl⟩ := o
      simp only at h2 h3
      subst h2 h3
      obtain ⟨cd, hc, _⟩ := PySem.W.any_some C.hd
      exact PySem.W.kia_tup (PySem.W.kitx_exc (by rw [hc]; rfl) C.hg C.hk C.hs C.ha C.hn C.ht C.hm) I.kIn (inst_atH m1 m2 hz hf I) h1 e (fun z => nomatch z) fun tk => ⟨.bl b, H, I.kept (t' := tk) fun _ _ z => z, rfl, q⟩
end
section
variable {X : Cx} {a dd : Addr} {oe od : Obj} {cls : Value} {fs : List (Str × V)} {pn : List (Addr × Obj)}
theorem pe_xfK {e : Expr} {te : TE} {pos : Pos} {n : Str} (hz : Zc cls (some dd) oe) (hf : ∃ vs, oe.data = .fields vs) (ho : OdOk od fs) (he : PE (hold X ((a, oe) :: (dd, od) :: pn)) e te) (hb : attributeBase e n X.env (eval e X.env) = eval e X.env := by rfl) :
    PE (hold X ((a, oe) :: (dd, od) :: pn)) (.Attribute e n pos) (tXfP X.K a cls fs n te) := pe_xfH (X := hold X ((a, oe) :: (dd, od) :: pn)) List.mem_cons_self (List.mem_cons_of_mem _ List.mem_cons_self) hz hf ho he hb
theorem call_isEK (hz : Zc cls (some dd) oe) (hf : ∃ vs, oe.data = .fields vs) : CallR (hold X ((a, oe) :: (dd, od) :: pn)) (.builtin "isinstance") (rIsEP X.K a cls) := call_isEH (X := hold X ((a, oe) :: (dd, od) :: pn)) List.mem_cons_self (List.mem_cons_of_mem _ List.mem_cons_self) hz hf
theorem call_isETK (hz : Zc cls (some dd) oe) (hf : ∃ vs, oe.data = .fields vs) : CallR (hold X ((a, oe) :: (dd, od) :: pn)) (.builtin "isinstance") (rIsETP X.K a cls) := call_isETH (X := hold X ((a, oe) :: (dd, od) :: pn)) List.mem_cons_self (List.mem_cons_of_mem _ List.mem_cons_self) hz hf
end
def tIfT (tc : TT) (t : TS) : TS := fun D σ H => tc σ H fun b H1 => b = true ∧ t { D with nx := fun _ _ => False } σ H1
def tIfF (tc : TT) (u : TS) : TS := fun D σ H => tc σ H fun b H1 => b = false ∧ u D σ H1
section
variable {X : Cx} {c : Expr} {a rest : List Stmt} {tc : TT} {t u : TS} {pos : Pos}
theorem pss_ifT (hc : PT X c tc) (ha : PSs X a t) : PSs X (.If c a [] pos :: rest) (tIfT tc t) := by
  refine ⟨fun pins s σ H D I h => ?_⟩
  refine wpAny_execs_cons (wpAny_If (thn (hc.run pins s σ H _ I h) fun d s1 ⟨H1, I1, q0, q1⟩ => ?_))
  subst q0
  refine thn (ha.run pins s1 σ H1 _ I1 q1) fun f s2 q => ?_
  cases f with
  | next => obtain ⟨_, _, _, z⟩ := q; exact z.elim
  | ret v => exact q
  | brk => exact q
  | cont => exact q
theorem pss_ifF (hc : PT X c tc) (hr : PSs X rest u) : PSs X (.If c a [] pos :: rest) (tIfF tc u) := by
  refine ⟨fun pins s σ H D I h => ?_⟩
  refine wpAny_execs_cons (wpAny_If (thn (hc.run pins s σ H _ I h) fun d s1 ⟨H1, I1, q0, q1⟩ => ?_))
  subst q0
  exact wpAny_execs_nil (hr.run pins s1 σ H1 D I1 q1)
end
section
variable {e : En} {E : XK} {te : TE} {tc : TT} {ta : TA} {t u tn : TS}
def sIfT (c : State → Option Bool) (s : State → Out) : State → Out := fun α => match c α with
  | some true => (match s α with | .nxt _ => .bad | o => o)
  | _ => .bad
theorem st_ifT {c : State → Option Bool} {s : State → Out} (hc : Evt e tc c) (hs : Sts e E t s) : Sts e E (tIfT tc t) (sIfT c s) := fun cn L S σ H α D R k => by
  unfold sIfT at k
  cases hb : c α with
  | none => rw [hb] at k; exact k.elim
  | some b =>
    rw [hb] at k
    cases b with
    | false => exact k.elim
    | true =>
      refine hc cn L S σ H α true R hb _ fun H1 e1 => ⟨rfl, ?_⟩
      refine hs cn L S σ H1 α _ (R.up e1) ?_
      dsimp only at k
      refine OutOk.mono (fz_same e1) ?_
      generalize s α = o at k
      cases o with
      | nxt β => exact k.elim
      | ret r β => exact k
      | brk β => exact k
      | cnt β => exact k
      | exc x => exact k
      | bad => exact k
def sIfA (i : Nat) (u : State → Out) : State → Out := fun α => match α[i]? with | some (some (.adr _)) => u α | _ => .bad
theorem st_ifA {i : Nat} {s : State → Out} (hs : Sts e E u s) : Sts e E (tIfF (tB (tIsN (tVar i))) u) (sIfA i s) := fun cn L S σ H α D R k => by
  unfold sIfA at k
  split at k
  · rename_i a ha
    obtain ⟨v, hv, rfl⟩ := R.slot i _ ha
    exact ⟨.ref a, hv, _, rfl, by simp, hs cn L S σ H α D R k⟩
  · exact k.elim
end
open Classical in
noncomputable def exHold (j ic : Nat) (s : Addr → State → Out) : State → Out := fun α => if h : ∃ o, ∀ a : Addr, eraseO ic (s a (((α.set j (some (.adr a))).set ic (some (.adr a))).set j none)) = o then (match Classical.choose h with | .ret r β => .ret r β | .exc x => .exc x | _ => .bad) else .bad
theorem exHold_eq {j ic : Nat} {s : Addr → State → Out} {α : State} {r : RetV} {β : State} (h : ∀ a : Addr, eraseO ic (s a (((α.set j (some (.adr a))).set ic (some (.adr a))).set j none)) = .ret r β) : exHold j ic s α = .ret r β := by
  unfold exHold
  have hx : ∃ o, ∀ a : Addr, eraseO ic (s a (((α.set j (some (.adr a))).set ic (some (.adr a))).set j none)) = o := ⟨_, h⟩
  rw [dif_pos hx]
  have := Classical.choose_spec hx 0
  rw [h 0] at this
  rw [← this]
theorem exHold_spec {j ic : Nat} {s : Addr → State → Out} {α : State} (hb : exHold j ic s α ≠ .bad) (a : Addr) : eraseO ic (s a (((α.set j (some (.adr a))).set ic (some (.adr a))).set j none)) = exHold j ic s α ∧ (match exHold j ic s α with | .ret _ _ => True | .exc _ => True | _ => False) := by
  unfold exHold at hb ⊢
  split
  · rename_i h
    rw [dif_pos h] at hb
    have hs := Classical.choose_spec h a
    revert hs hb
    generalize Classical.choose h = o
    intro hb hs
    cases o with
    | ret r β => exact ⟨hs, trivial⟩
    | exc x => exact ⟨hs, trivial⟩
    | _ => exact absurd rfl hb
  · rename_i h
    rw [dif_neg h] at hb
    exact absurd rfl hb
noncomputable def sHold (i j ic : Nat) (m : List D → XR) (sa : State → Option (List D)) (caught : List String) (more : State → Out) (sx : Exn → Addr → State → Out) : State → Out := fun α => match bnd (sa α) (fun ds => some (m ds)) with
  | some (.ok d) => more (α.set i (some (.dat d)))
  | some (.exc x) => if x.name ∈ caught ∧ x.fs ≠ [] ∧ j < α.length then exHold j ic (sx x) α else .bad
  | _ => .bad
section
variable {e : En} {E : XK} {te : TE} {ta : TA} {tn : TS}
theorem out_eraseH {c : Cn} {D : Ends} {F : Hp} {j : Nat} : ∀ {o : Out}, (match eraseO j o with | .ret _ _ => True | .exc _ => True | _ => False) → OutOk e E c D F (eraseO j o) → OutOk e E c D F o
  | .nxt β, h, k => h.elim
  | .brk β, h, k => h.elim
  | .cnt β, h, k => h.elim
  | .ret r β, h, k => fun v L S σ H R rr => k v L S _ H (R.setN j) rr
  | .exc x, h, k => k
  | .bad, h, k => h.elim
theorem st_hold {i j ic : Nat} {m : List D → XR} {sa : State → Option (List D)} {more : State → Out} {sx : Exn → Addr → State → Out} {caught : List String} {c0 : Value} {K : PySem.W.Frag} {tr : Addr → Value → List (Str × V) → TS}
    (hx : ∀ nm ∈ caught, PySem.W.exmOne K (.ref (e.cls nm)) c0 = some true) (h : Eva e ta sa) (hm : Sts e E tn more)
    (hu : ∀ (x : Exn) (a : Addr) (gs : List (Str × V)) (F : Hp), x.name ∈ caught → RepF e F x.fs gs → Sts e E (tr a (.ref (e.cls x.name)) gs) (sx x a)) :
    Sts e E (fun D σ H => tAsg (tCallS (spX e m) (WE (wKeep K c0 j (fun a cls d => tAsg (tVar j) (gName ic)) (fun a cls d D σ H => ∃ dd fs, d = some dd ∧ H dd = some (.xd fs) ∧ tr a cls fs D σ (del H dd)) D)) ta) (gName i) { D with nx := tn D } σ H) (sHold i j ic m sa caught more sx) := fun c L S σ H α D R k => by
  unfold sHold at k
  cases hs : sa α with
  | none => rw [hs] at k; exact k.elim
  | some ds =>
    rw [hs] at k
    change OutOk e E c D (fz L H) (match some (m ds) with
      | some (.ok d) => more (α.set i (some (.dat d)))
      | some (.exc x) => if x.name ∈ caught ∧ x.fs ≠ [] ∧ j < α.length then exHold j ic (sx x) α else .bad
      | _ => .bad) at k
    refine h c L S σ H α ds R hs _ fun vs H1 e1 r1 => ?_
    have R1 := R.up e1
    refine ⟨L, ds, R1.dm, r1, fun d hd v H' s2 rv => ?_, fun x hd cls dd H' s2 xr fr => ?_, fun hd => ?_⟩
    · rw [hd] at k
      exact hm c L S _ H' _ D ((R1.up s2).setD rv) (k.mono (fz_same (e1.trans s2)))
    · rw [hd] at k
      dsimp only at k
      split at k
      · rename_i hc
        obtain ⟨h1, h2, hj⟩ := hc
        rw [← R.len] at hj
        obtain ⟨p, gs, rfl, hp, rf⟩ := xr.2.resolve_left (fun z => h2 z.1)
        have hp1 : H1 p = none := fr p rfl
        have s3 : Sm H1 (del H' p) := s2.del hp1 hp trivial
        have hnb : exHold j ic (sx x) α ≠ .bad := fun z => by rw [z] at k; exact k
        refine ⟨by rw [xr.1]; exact hx _ h1, fun a ha => ?_⟩
        refine ⟨.ref a, by rw [List.getElem?_set_self hj], ?_⟩
        refine ⟨p, gs, rfl, hp, ?_⟩
        rw [xr.1]
        refine hu x a gs _ h1 rf c L S _ _ _ _ ((((R1.up s3).setA j a).setA ic a).setN j) ?_
        obtain ⟨q1, q2⟩ := exHold_spec hnb a
        refine out_eraseH (j := ic) (by rw [q1]; exact q2) ?_
        rw [q1]
        exact k.mono (fz_same (e1.trans s3))
      · exact k.elim
    · rw [hd] at k; exact k.elim
end
section
variable {i j ic : Nat} {α : State} {sa : State → Option (List D)} {m : List D → XR} {more : State → Out} {sx : Exn → Addr → State → Out} {cs : List String} {c : State → Option Bool} {s : State → Out}
@[simp] theorem a_sHold : sHold i j ic m sa cs more sx α = (match bnd (sa α) (fun ds => some (m ds)) with
  | some (.ok d) => more (α.set i (some (.dat d)))
  | some (.exc x) => if x.name ∈ cs ∧ x.fs ≠ [] ∧ j < α.length then exHold j ic (sx x) α else .bad
  | _ => .bad) := (rfl)
@[simp] theorem a_sIfT : sIfT c s α = (match c α with | some true => (match s α with | .nxt _ => .bad | o => o) | _ => .bad) := (rfl)
@[simp] theorem a_sIfA : sIfA i s α = (match α[i]? with | some (some (.adr _)) => s α | _ => .bad) := (rfl)
end
end Ab
namespace Ab
open PySem L2 PyProof.Rows PySem.Spec
def xRep (sl : State → Option (List D)) (sk : State → Option D) : State → Option (List D) := fun α => bnd (sl α) fun xs => match sk α with | some (.int k) => if rngOk k = true then lenOk (List.replicate k.toNat xs).flatten else none | _ => none
theorem Reps.rep {e : En} {F : Hp} {ds : List D} {vs : List V} (r : Reps e F ds vs) : ∀ n : Nat, Reps e F (List.replicate n ds).flatten (List.replicate n vs).flatten
  | 0 => by simp; exact Reps.nil
  | n + 1 => by rw [List.replicate_succ, List.replicate_succ, List.flatten_cons, List.flatten_cons]; exact r.append (Reps.rep r n)
theorem len_rep {β : Type} (xs : List β) : ∀ n : Nat, (List.replicate n xs).flatten.length = xs.length * n
  | 0 => by simp
  | n + 1 => by rw [List.replicate_succ, List.flatten_cons, List.length_append, len_rep xs n, Nat.mul_succ]; omega
theorem el_rep {e : En} {ta tb : TE} {sl : State → Option (List D)} {sk : State → Option D} (ha : Evl e ta sl) (hb : Evp e tb sk) : Evl e (tOp rRep ta tb) (xRep sl sk) := fun c L S σ H α d R q Q k => by
  obtain ⟨xs, h1, q⟩ := bnd_some q
  split at q
  · rename_i n hn
    split at q
    · rename_i hr
      obtain ⟨rfl, hz⟩ := lenOk_some q
      refine ha c L S σ H α xs R h1 _ fun p vs H1 e1 n1 hp r1 => ?_
      have R1 : Rel e c (p :: L) S σ H1 α := R.more e1 n1 hp
      refine hb c (p :: L) S σ H1 α _ R1 hn _ fun v H2 e2 r2 => ?_
      cases r2
      have hr := rngOk_iff.mp hr
      rw [len_rep] at hz
      have c1 : (-(2 ^ 63) : Int) ≤ -(2 ^ 62) := by decide
      have c2 : (2 ^ 62 : Int) ≤ 2 ^ 63 := by decide
      refine ⟨p, n, vs, rfl, rfl, e2.k _ _ hp (R1.nh p List.mem_cons_self), Int.le_trans c1 hr.1, Int.lt_of_lt_of_le hr.2 c2, by rw [r1.len]; exact sz_of hz, fun p2 hp2 => ?_⟩
      have s3 : Sm H2 (upd H2 p2 (.lst (List.replicate n.toNat vs).flatten)) := same_upd hp2
      have hH2 : H p2 = none := none_back R.inv (e1.trans e2) hp2
      refine k p2 _ _ (e1.trans (e2.trans s3)) hH2 upd_same ?_
      have r3 : Reps e (fz L H2) xs vs := (r1.up (fz_same e2)).up (fz_anti fun a m => List.mem_cons_of_mem _ m)
      exact (r3.rep n.toNat).up (fz_cons s3 hp2)
    · cases q
  · cases q
@[simp] theorem a_xRep {sl : State → Option (List D)} {sk : State → Option D} {α : State} : xRep sl sk α = bnd (sl α) fun xs => match sk α with | some (.int k) => if rngOk k = true then lenOk (List.replicate k.toNat xs).flatten else none | _ => none := (rfl)
end Ab
namespace Ab
open PySem L2 PyProof.Rows PySem.Spec
def rIxS (r : State → Res D) (sb : State → Option D) : State → Res D := fun α => match r α with
  | .ok (.tup xs) α1 => (match sb α1 with | some (.int i) => (match atI xs i with | some d => .ok d α1 | none => .bad) | _ => .bad)
  | .ok _ _ => .bad | .exc x => .exc x | .bad => .bad
theorem ee_ixS {e : En} {E : XK} {ta tb : TE} {r : State → Res D} {sb : State → Option D} (h : Eve e E ta r) (hb : Evp e tb sb) : Eve e E (tOp (rIxT e.K) ta tb) (rIxS r sb) := fun c L S σ H α R Q k kx nb => by
  unfold rIxS at k kx nb
  refine h c L S σ H α R _ (fun d α1 hs v H1 m1 R1 r1 => ?_) (fun x hx => kx x (by rw [hx])) (fun hb => nb (by rw [hb]))
  rw [hs] at k nb
  cases d with
  | tup xs =>
    dsimp only at k nb
    split at nb
    · rename_i i hi
      split at nb
      · rename_i d hd
        obtain ⟨a, vs, rfl, h1, h2⟩ := r1
        refine hb c L S σ H1 α1 _ R1 hi _ fun v H2 e2 r3 => ?_
        cases r3
        obtain ⟨v, q2, q3⟩ := atI_rep h2 hd
        simp only [hi, hd] at k
        exact ⟨a, vs, i, v, rfl, rfl, same_t fz_le (same_t (fz_same e2) h1), q2, k d α1 rfl v H2 (m1.trans (.of e2)) (R1.up e2) (q3.up (fz_same e2))⟩
      · exact absurd rfl nb
    · exact absurd rfl nb
  | _ => exact absurd rfl nb
@[simp] theorem a_rIxS {r : State → Res D} {sb : State → Option D} {α : State} : rIxS r sb α = (match r α with
  | .ok (.tup xs) α1 => (match sb α1 with | some (.int i) => (match atI xs i with | some d => .ok d α1 | none => .bad) | _ => .bad)
  | .ok _ _ => .bad | .exc x => .exc x | .bad => .bad) := (rfl)
end Ab
end
section
set_option maxRecDepth 100000
set_option maxHeartbeats 4000000
namespace Ab
open PySem PySem.SeqAt PySem.W PyProof.Rows
open AutoSeq1 (wpAny_loadPart')
open MeetsSeq MeetsSeq2 MeetsSeq3 SeqRoads2
variable [Hd]
def Same1 (e : Nat → Bool) (j : Nat) : Prop := ∀ i, i < j → e i = true
def LtAll (A : Around) (s : Shared) (xs ys : Array Value) (e r : Nat → Bool) : Prop :=
  (∀ j (h1 : j < xs.size) (h2 : j < ys.size), EqAt A s xs[j] ys[j] (e j)) ∧ ∀ j (h1 : j < xs.size) (h2 : j < ys.size), Same1 e j → e j = false → RcLt A s xs[j] ys[j] (r j)
def ltRes (e r : Nat → Bool) (n m : Nat) : Bool := firstLt e r (decide (n < m)) (List.range (min n m))
def ltRest (e r : Nat → Bool) (n m i : Nat) : Bool := firstLt e r (decide (n < m)) ((List.range (min n m)).drop i)
theorem ltRest_step {e r : Nat → Bool} {n m i : Nat} (h : i < min n m) : ltRest e r n m i = if e i = true then ltRest e r n m (i + 1) else r i := by
  unfold ltRest
  have hd : (List.range (min n m)).drop i = i :: (List.range (min n m)).drop (i + 1) := by simp [List.drop_eq_getElem_cons, h]
  rw [hd]; rfl
theorem ltRest_end {e r : Nat → Bool} {n m i : Nat} (h : min n m ≤ i) : ltRest e r n m i = decide (n < m) := by
  unfold ltRest
  rw [List.drop_of_length_le (by simpa using h)]; rfl
theorem tupLt (l b : Addr) (xs ys : Array Value) (n m : Nat) (dd dd2 : Option Addr) (sl sl2 : Array (Option Value)) (e r : Nat → Bool) :
    Meets (Builtin.«tuple.__lt__» ⟨[.ref l, .ref b], []⟩)
      (fun A R s => s.heap.get? l = some { cls := .type "tuple", dict := dd, data := .seq xs n, slots := sl } ∧ s.heap.get? b = some { cls := .type "tuple", dict := dd2, data := .seq ys m, slots := sl2 } ∧
        LtAll A.in1 s xs ys e r ∧ R (.ok (.ret (.bool (ltRest e r xs.size ys.size 0)))) s) :=
  .of_wp fun prog w A R s h => by
    obtain ⟨hp, g, d, tk, os⟩ := s
    obtain ⟨hl, hb, ⟨he, hr⟩, h⟩ := h
    have f2 := AutoSeq1.sub_tuple_tuple
    have hZ : (xs.toList.zip ys.toList).length = min xs.size ys.size := by simp
    wp_walk using wpAny_loadPart' hl, wpAny_loadPart' hb, wpAny_forIn_list _ (fun rest b s' => b.1 = none ∧ s' = ⟨hp, g, d, tk, os⟩ ∧ ∃ i, rest = (xs.toList.zip ys.toList).drop i ∧ Same1 e i ∧
      R (.ok (.ret (.bool (ltRest e r xs.size ys.size i)))) ⟨hp, g, d, tk, os⟩) _
    case turn =>
      rintro ⟨y, x⟩ rest b s' ⟨hb', rfl, i, hz, hs, hR⟩
      have hlt : i < (xs.toList.zip ys.toList).length := by
        rcases Nat.lt_or_ge i (xs.toList.zip ys.toList).length with h' | h'
        · exact h'
        · rw [List.drop_of_length_le h'] at hz; cases hz
      have hm : i < min xs.size ys.size := hZ ▸ hlt
      have h1 : i < xs.size := Nat.lt_of_lt_of_le hm (Nat.min_le_left _ _)
      have h2 : i < ys.size := Nat.lt_of_lt_of_le hm (Nat.min_le_right _ _)
      rw [List.drop_eq_getElem_cons hlt] at hz
      injection hz with hyx hrest
      have hy : y = xs[i] := by have := congrArg Prod.fst hyx; simpa using this
      have hx : x = ys[i] := by have := congrArg Prod.snd hyx; simpa using this
      subst hy hx
      rw [ltRest_step hm] at hR
      refine wpAny_bind (he i h1 h2 prog w _ _ ?_)
      cases hy : e i with
      | true =>
        rw [hy, if_pos rfl] at hR
        wp_walk
        exact ⟨rfl, rfl, i + 1, hrest, (fun k hk => (Nat.lt_succ_iff_lt_or_eq.mp hk).elim (hs k) fun q => q ▸ hy), hR⟩
      | false =>
        rw [hy, if_neg (by decide)] at hR
        show wpAny _ _ (rule "tuple.compare.by-the-first-pair-that-differs" >>= fun _ => richCompare CmpOp.Lt xs[i] ys[i] >>= fun v => ret v >>= fun q => pure (ForInStep.done (some q, ()))) _ _ _
        refine wpAny_bind (wpAny_rule (wpAny_bind (hr i h1 h2 hs hy prog w _ _ ?_)))
        wp_walk
        exact ⟨_, rfl, hR⟩
    case fin =>
      rintro ⟨b1, b2⟩ s' ⟨hb', rfl, i, hz, hs, hR⟩
      simp only at hb'
      subst hb'
      have hge : min xs.size ys.size ≤ i := by
        rcases Nat.lt_or_ge i (xs.toList.zip ys.toList).length with h' | h'
        · rw [List.drop_eq_getElem_cons h'] at hz; cases hz
        · exact hZ ▸ h'
      rw [ltRest_end hge] at hR
      wp_walk
      exact ⟨_, rfl, by simpa [Builtin.Tuple.tupleCompareSizes] using hR⟩
    case h =>
      exact ⟨rfl, rfl, 0, rfl, (fun _ h => absurd h (Nat.not_lt_zero _)), h⟩
theorem lstLoop (l b : Addr) (xs ys : Array Value) (n m : Nat) (dd dd2 : Option Addr) (sl sl2 : Array (Option Value)) (e r : Nat → Bool) (k : Nat) :
    ∀ i : Nat, min xs.size ys.size - i = k → Same1 e i → Meets (Builtin.«list.__eq__.loop» ⟨[.ref l, .ref b, rawInt i, rawInt 0], []⟩)
      (fun A R s => s.heap.get? l = some { cls := .type "list", dict := dd, data := .seq xs n, slots := sl } ∧ s.heap.get? b = some { cls := .type "list", dict := dd2, data := .seq ys m, slots := sl2 } ∧
        LtAll A.in1 s xs ys e r ∧ R (.ok (.ret (.bool (ltRest e r xs.size ys.size i)))) s) := by
  induction k with
  | zero =>
    intro i hk hs prog w A R s h
    obtain ⟨hp, g, d, tk, os⟩ := s
    obtain ⟨hl, hb, ⟨he, hr⟩, h⟩ := h
    rw [ltRest_end (by omega)] at h
    wp_walk using wpAny_loadPart' hl, wpAny_loadPart' hb
    by_cases h1 : xs.size ≤ i
    · have hi1 : xs[((i : Nat) : Int).toNat]? = none := by simp; omega
      rw [hi1]
      wp_walk using wpAny_loadPart' hl, wpAny_loadPart' hb
      exact h
    · have hlt : i < xs.size := by omega
      have hi1 : xs[((i : Nat) : Int).toNat]? = some xs[i] := by simp [hlt]
      have hi2 : ys[((i : Nat) : Int).toNat]? = none := by simp; omega
      rw [hi1, hi2]
      wp_walk using wpAny_loadPart' hl, wpAny_loadPart' hb
      exact h
  | succ k ih =>
    intro i hk hs prog w A R s h
    obtain ⟨hp, g, d, tk, os⟩ := s
    obtain ⟨hl, hb, ⟨he, hr⟩, h⟩ := h
    wp_walk using wpAny_loadPart' hl, wpAny_loadPart' hb
    have hm : i < min xs.size ys.size := by omega
    have hlt : i < xs.size := Nat.lt_of_lt_of_le hm (Nat.min_le_left _ _)
    have hlt2 : i < ys.size := Nat.lt_of_lt_of_le hm (Nat.min_le_right _ _)
    have hi1 : xs[((i : Nat) : Int).toNat]? = some xs[i] := by simp [hlt]
    have hi2 : ys[((i : Nat) : Int).toNat]? = some ys[i] := by simp [hlt2]
    have hc : ((i : Int) + 1) = ((i + 1 : Nat) : Int) := by push_cast; rfl
    rw [ltRest_step hm] at h
    rw [hi1, hi2]
    refine wpAny_bind (he i hlt hlt2 prog w _ _ ?_)
    cases hb' : e i with
    | true =>
      rw [hb', if_pos rfl] at h
      wp_walk
      rw [hc]
      exact ⟨plainId_quiet plain_eq_loop _, codeAny_builtin entry_eq_loop (by
        rw [Around.under_plainId plain_eq_loop _]
        exact ih (i + 1) (by omega) (fun k hk => (Nat.lt_succ_iff_lt_or_eq.mp hk).elim (hs k) fun q => q ▸ hb') prog w A R _ ⟨hl, hb, ⟨he, hr⟩, h⟩)⟩
    | false =>
      rw [hb', if_neg (by decide)] at h
      wp_walk using wpAny_loadPart' hl, wpAny_loadPart' hb
      rw [hi1, hi2]
      show wpAny _ _ (richCompare CmpOp.Lt xs[i] ys[i] >>= fun v => ret v) _ _ _
      refine wpAny_bind (hr i hlt hlt2 hs hb' prog w _ _ ?_)
      wp_walk
      exact h
theorem lstLt (l b : Addr) (xs ys : Array Value) (n m : Nat) (dd dd2 : Option Addr) (sl sl2 : Array (Option Value)) (e r : Nat → Bool) :
    Meets (Builtin.«list.__lt__» ⟨[.ref l, .ref b], []⟩)
      (fun A R s => s.heap.get? l = some { cls := .type "list", dict := dd, data := .seq xs n, slots := sl } ∧ s.heap.get? b = some { cls := .type "list", dict := dd2, data := .seq ys m, slots := sl2 } ∧
        LtAll A.in1 s xs ys e r ∧ R (.ok (.ret (.bool (ltRest e r xs.size ys.size 0)))) s) := by
  intro prog w A R s h
  obtain ⟨hp, g, d, tk, os⟩ := s
  obtain ⟨hl, hb, hr, h⟩ := h
  have f3 := AutoSeq1.sub_list_list
  wp_walk using wpAny_loadPart' hl, wpAny_loadPart' hb
  exact ⟨plainId_quiet plain_eq_loop _, codeAny_builtin entry_eq_loop (by
    rw [Around.under_plainId plain_eq_loop _]
    exact lstLoop l b xs ys n m dd dd2 sl sl2 e r _ 0 rfl (fun _ h => absurd h (Nat.not_lt_zero _)) prog w A R _ ⟨hl, hb, hr, h⟩)⟩
section
variable {A : Around} {s : Shared}
theorem rcTup {l b : Addr} {xs ys : Array Value} {e r : Nat → Bool} (hl : s.heap.IsTuple l xs) (hb : s.heap.IsTuple b ys) (hu : A.units < cLine) (h : LtAll A.in1 s xs ys e r) :
    RcLt A s (.ref l) (.ref b) (ltRest e r xs.size ys.size 0) := fun prog w E Q q => by
  obtain ⟨⟨cls, dd, data, sl⟩, ho, hc, n, hd⟩ := id hl
  obtain ⟨⟨cls2, dd2, data2, sl2⟩, ho2, hc2, n2, hd2⟩ := id hb
  simp only at hc hd hc2 hd2
  subst hc hd hc2 hd2
  refine richCompare_meets_room (op := .Lt) ⟨_, ho, rfl⟩ ⟨_, ho2, rfl⟩ F.slot_tuple_lt F.entry_tuple_lt (F.args_tuple_lt_2 _ _) (tupLt l b xs ys n n2 dd dd2 sl sl2 e r) ⟨ho, ho2, h, ?_⟩ hu
  exact ⟨(fun x => nomatch x), q⟩
theorem rcLst {l b : Addr} {xs ys : Array Value} {e r : Nat → Bool} (hl : s.heap.IsList l xs) (hb : s.heap.IsList b ys) (hu : A.units < cLine) (h : LtAll A.in1 s xs ys e r) :
    RcLt A s (.ref l) (.ref b) (ltRest e r xs.size ys.size 0) := fun prog w E Q q => by
  obtain ⟨⟨cls, dd, data, sl⟩, ho, hc, n, hd⟩ := id hl
  obtain ⟨⟨cls2, dd2, data2, sl2⟩, ho2, hc2, n2, hd2⟩ := id hb
  simp only at hc hd hc2 hd2
  subst hc hd hc2 hd2
  refine richCompare_meets_room (op := .Lt) ⟨_, ho, rfl⟩ ⟨_, ho2, rfl⟩ F.slot_list_lt F.entry_list_lt (F.args_list_lt_2 _ _) (lstLt l b xs ys n n2 dd dd2 sl sl2 e r) ⟨ho, ho2, h, ?_⟩ hu
  exact ⟨(fun x => nomatch x), q⟩
end
mutual
def alL : PyData → PyData → Bool
  | .bool _, .bool _ => true
  | .int _, .int _ => true
  | .str _, .str _ => true
  | .list xs, .list ys => alLs xs ys
  | .tuple xs, .tuple ys => alLs xs ys
  | _, _ => false
def alLs : List PyData → List PyData → Bool
  | x :: xs, y :: ys => alL x y && (!PyData.eqv x y || alLs xs ys)
  | [], _ => true
  | _ :: _, [] => true
end
theorem alLs_cons {x y : PyData} {xs ys : List PyData} (h : alLs (x :: xs) (y :: ys) = true) : alL x y = true ∧ (PyData.eqv x y = true → alLs xs ys = true) := by
  rw [alLs, Bool.and_eq_true, Bool.or_eq_true, Bool.not_eq_true'] at h
  exact ⟨h.1, fun e => h.2.elim (fun z => by rw [e] at z; cases z) id⟩
mutual
theorem tokL : ∀ (x y : PyData), alL x y = true → (PyData.eqv x y = true → keyToks x = keyToks y) ∧ (PyData.eqv x y = false → ∀ l m, PyProof.Rows.lexLt itemOrd (keyToks x ++ l) (keyToks y ++ m) = PyProof.Rows.lexLt itemOrd (keyToks x) (keyToks y))
  | .bool a, .bool b, h => toks_eqv _ _ (by simp [alike])
  | .int a, .int b, h => toks_eqv _ _ (by simp [alike])
  | .str a, .str b, h => toks_eqv _ _ (by simp [alike])
  | .list xs, .list ys, h => by
    have t := toksL xs ys (by simpa [alL] using h)
    simp only [keyToks, PyData.eqv]
    exact t
  | .tuple xs, .tuple ys, h => by
    have t := toksL xs ys (by simpa [alL] using h)
    simp only [keyToks, PyData.eqv]
    exact t
  | .none, y, h => by cases y <;> simp [alL] at h
  | .dict _, y, h => by cases y <;> simp [alL] at h
  | .bool _, .none, h => by simp [alL] at h
  | .bool _, .int _, h => by simp [alL] at h
  | .bool _, .str _, h => by simp [alL] at h
  | .bool _, .list _, h => by simp [alL] at h
  | .bool _, .tuple _, h => by simp [alL] at h
  | .bool _, .dict _, h => by simp [alL] at h
  | .int _, .none, h => by simp [alL] at h
  | .int _, .bool _, h => by simp [alL] at h
  | .int _, .str _, h => by simp [alL] at h
  | .int _, .list _, h => by simp [alL] at h
  | .int _, .tuple _, h => by simp [alL] at h
  | .int _, .dict _, h => by simp [alL] at h
  | .str _, .none, h => by simp [alL] at h
  | .str _, .bool _, h => by simp [alL] at h
  | .str _, .int _, h => by simp [alL] at h
  | .str _, .list _, h => by simp [alL] at h
  | .str _, .tuple _, h => by simp [alL] at h
  | .str _, .dict _, h => by simp [alL] at h
  | .list _, .none, h => by simp [alL] at h
  | .list _, .bool _, h => by simp [alL] at h
  | .list _, .int _, h => by simp [alL] at h
  | .list _, .str _, h => by simp [alL] at h
  | .list _, .tuple _, h => by simp [alL] at h
  | .list _, .dict _, h => by simp [alL] at h
  | .tuple _, .none, h => by simp [alL] at h
  | .tuple _, .bool _, h => by simp [alL] at h
  | .tuple _, .int _, h => by simp [alL] at h
  | .tuple _, .str _, h => by simp [alL] at h
  | .tuple _, .list _, h => by simp [alL] at h
  | .tuple _, .dict _, h => by simp [alL] at h
theorem toksL : ∀ (xs ys : List PyData), alLs xs ys = true → (PyData.eqvAll xs ys = true → keyToksAll xs = keyToksAll ys) ∧ (PyData.eqvAll xs ys = false → ∀ l m, PyProof.Rows.lexLt itemOrd (keyToksAll xs ++ l) (keyToksAll ys ++ m) = PyProof.Rows.lexLt itemOrd (keyToksAll xs) (keyToksAll ys))
  | [], [], _ => ⟨fun _ => rfl, fun e => absurd e (by simp [PyData.eqvAll])⟩
  | [], y :: ys, _ => ⟨fun e => absurd e (by simp [PyData.eqvAll]), fun _ l m => by
      simp only [keyToksAll, List.cons_append, List.nil_append]
      exact (lex_atom (by simp) _ _).trans (lex_atom (by simp) _ _).symm⟩
  | x :: xs, [], _ => ⟨fun e => absurd e (by simp [PyData.eqvAll]), fun _ l m => by
      simp only [keyToksAll, List.cons_append, List.nil_append]
      exact (lex_atom (by simp) _ _).trans (lex_atom (by simp) _ _).symm⟩
  | x :: xs, y :: ys, h => by
    obtain ⟨hx, hr⟩ := alLs_cons h
    obtain ⟨a1, a2⟩ := tokL x y hx
    rw [eqv_all_cons, toks_all_cons, toks_all_cons]
    cases he : PyData.eqv x y with
    | true =>
      obtain ⟨b1, b2⟩ := toksL xs ys (hr he)
      rw [a1 he, Bool.true_and]
      refine ⟨fun e => by rw [b1 e], fun e l m => ?_⟩
      simp only [List.cons_append, List.append_assoc]
      exact (lex_self (O := itemOrd) _ _ _).trans ((lex_pre _ _ _).trans ((b2 e l m).trans ((lex_pre _ _ _).symm.trans (lex_self (O := itemOrd) _ _ _).symm)))
    | false =>
      rw [Bool.false_and]
      refine ⟨fun e => absurd e Bool.false_ne_true, fun _ l m => ?_⟩
      simp only [List.cons_append, List.append_assoc]
      exact (lex_self (O := itemOrd) _ _ _).trans ((a2 he _ _).trans ((a2 he _ _).symm.trans (lex_self (O := itemOrd) _ _ _).symm))
end
theorem allYes {x y : PyData} {xs ys : List PyData} (h : alL x y = true) (e : PyData.eqv x y = true) : PyProof.Rows.lexLt itemOrd (keyToksAll (x :: xs)) (keyToksAll (y :: ys)) = PyProof.Rows.lexLt itemOrd (keyToksAll xs) (keyToksAll ys) := by
  rw [toks_all_cons, toks_all_cons, (tokL x y h).1 e]
  exact (lex_self (O := itemOrd) _ _ _).trans (lex_pre _ _ _)
theorem allNo {x y : PyData} {xs ys : List PyData} (h : alL x y = true) (e : PyData.eqv x y = false) : PyProof.Rows.lexLt itemOrd (keyToksAll (x :: xs)) (keyToksAll (y :: ys)) = dataLt x y := by
  rw [toks_all_cons, toks_all_cons]
  exact (lex_self (O := itemOrd) _ _ _).trans ((tokL x y h).2 e _ _)
theorem firstL : ∀ (xs ys : List PyData), alLs xs ys = true →
    firstLt (pairEq xs ys) (fun j => dataLt (xs.getD j .none) (ys.getD j .none)) (decide (xs.length < ys.length)) (List.range (min xs.length ys.length)) = PyProof.Rows.lexLt itemOrd (keyToksAll xs) (keyToksAll ys)
  | [], [], _ => by simp [firstLt, keyToksAll, lex_irrefl]
  | [], y :: ys, _ => by
    rw [toks_all_cons]
    simp only [keyToksAll]
    rw [lex_diff (O := itemOrd) (by simp)]
    simp [firstLt, itemLt]
  | x :: xs, [], _ => by
    rw [toks_all_cons]
    simp only [keyToksAll]
    rw [lex_diff (O := itemOrd) (by simp)]
    simp [firstLt, itemLt]
  | x :: xs, y :: ys, h => by
    obtain ⟨h1, h2⟩ := alLs_cons h
    have em : min (x :: xs).length (y :: ys).length = min xs.length ys.length + 1 := by
      rw [List.length_cons, List.length_cons]; omega
    have ed : decide ((x :: xs).length < (y :: ys).length) = decide (xs.length < ys.length) := by
      rw [List.length_cons, List.length_cons]
      exact decide_eq_decide.mpr (by omega)
    rw [em, ed, List.range_succ_eq_map]
    cases hx : PyData.eqv x y with
    | true =>
      have ih := firstL xs ys (h2 hx)
      rw [firstLt_yes (show pairEq (x :: xs) (y :: ys) 0 = true from hx), firstLt_map, allYes h1 hx, ← ih]
      rfl
    | false =>
      rw [firstLt_no (show pairEq (x :: xs) (y :: ys) 0 = false from hx), allNo h1 hx]
      rfl
mutual
theorem rcL : ∀ (da db : PyData) (A : Around) (s : Shared) (a b : Value) (as bs : List Addr), Reads s.heap a da as → Reads s.heap b db bs → da.canLay0 = true → db.canLay0 = true → alL da db = true → A.units + min da.depth db.depth < cLine → RcLt A s a b (dataLt da db)
  | .bool x, db, A, s, a, b, as, bs, ra, rb, ca, cb, h, hu => by
    cases db with
    | bool y => exact rcLt_alike _ _ A s a b as bs ra rb (by simp [alike]) (by simp) hu
    | _ => exact absurd h (by simp [alL])
  | .int x, db, A, s, a, b, as, bs, ra, rb, ca, cb, h, hu => by
    cases db with
    | int y => exact rcLt_alike _ _ A s a b as bs ra rb (by simp [alike]) (by simp) hu
    | _ => exact absurd h (by simp [alL])
  | .str x, db, A, s, a, b, as, bs, ra, rb, ca, cb, h, hu => by
    cases db with
    | str y => exact rcLt_alike _ _ A s a b as bs ra rb (by simp [alike]) (by simp) hu
    | _ => exact absurd h (by simp [alL])
  | .list xs, db, A, s, a, b, as, bs, ra, rb, ca, cb, h, hu => by
    cases db with
    | list ys =>
      have hal : alLs xs ys = true := by simpa [alL] using h
      have ca' : PyData.canLayAll0 xs = true := by simpa [PyData.canLay0] using ca
      have cb' : PyData.canLayAll0 ys = true := by simpa [PyData.canLay0] using cb
      cases ra with
      | @list l o vs n _ as₁ h1 h2 h3 h4 =>
        cases rb with
        | @list l' o' vs' n' _ bs₁ k1 k2 k3 k4 =>
          have n1 : vs.size = xs.length := by simpa using ReadsAll.length _ _ _ h4
          have n2 : vs'.size = ys.length := by simpa using ReadsAll.length _ _ _ k4
          rw [dataLt_list, ← firstL xs ys hal, ← n1, ← n2]
          refine rcLst ⟨_, h1, h2, _, h3⟩ ⟨_, k1, k2, _, k3⟩ (room_here hu) ⟨fun j j1 j2 => ?_, fun j j1 j2 hp hj => ?_⟩
          · have := eqAt_readsAll xs ys A.in1 s vs.toList vs'.toList _ _ h4 k4 ca' cb' (room_in hu) j (by simpa using j1) (by simpa using j2)
            simpa using this
          · have := rcLs xs ys A.in1 s vs.toList vs'.toList _ _ h4 k4 ca' cb' hal (room_in hu) j (by simpa using j1) (by simpa using j2) hp hj
            simpa using this
    | _ => exact absurd h (by simp [alL])
  | .tuple xs, db, A, s, a, b, as, bs, ra, rb, ca, cb, h, hu => by
    cases db with
    | tuple ys =>
      have hal : alLs xs ys = true := by simpa [alL] using h
      have ca' : PyData.canLayAll0 xs = true := by simpa [PyData.canLay0] using ca
      have cb' : PyData.canLayAll0 ys = true := by simpa [PyData.canLay0] using cb
      cases ra with
      | @tuple l o vs n _ as₁ h1 h2 h3 h4 =>
        cases rb with
        | @tuple l' o' vs' n' _ bs₁ k1 k2 k3 k4 =>
          have n1 : vs.size = xs.length := by simpa using ReadsAll.length _ _ _ h4
          have n2 : vs'.size = ys.length := by simpa using ReadsAll.length _ _ _ k4
          rw [dataLt_tuple, ← firstL xs ys hal, ← n1, ← n2]
          refine rcTup ⟨_, h1, h2, _, h3⟩ ⟨_, k1, k2, _, k3⟩ (room_here hu) ⟨fun j j1 j2 => ?_, fun j j1 j2 hp hj => ?_⟩
          · have := eqAt_readsAll xs ys A.in1 s vs.toList vs'.toList _ _ h4 k4 ca' cb' (room_in hu) j (by simpa using j1) (by simpa using j2)
            simpa using this
          · have := rcLs xs ys A.in1 s vs.toList vs'.toList _ _ h4 k4 ca' cb' hal (room_in hu) j (by simpa using j1) (by simpa using j2) hp hj
            simpa using this
    | _ => exact absurd h (by simp [alL])
  | .none, db, _, _, _, _, _, _, _, _, _, _, h, _ => absurd h (by cases db <;> simp [alL])
  | .dict _, db, _, _, _, _, _, _, _, _, _, _, h, _ => absurd h (by cases db <;> simp [alL])
theorem rcLs : ∀ (xs ys : List PyData) (A : Around) (s : Shared) (vs ws : List Value) (as bs : List Addr), ReadsAll s.heap vs xs as → ReadsAll s.heap ws ys bs → PyData.canLayAll0 xs = true → PyData.canLayAll0 ys = true → alLs xs ys = true →
    A.units + min (PyData.depthAll xs) (PyData.depthAll ys) < cLine → ∀ j (h1 : j < vs.length) (h2 : j < ws.length), Same1 (pairEq xs ys) j → pairEq xs ys j = false → RcLt A s vs[j] ws[j] (dataLt (xs.getD j .none) (ys.getD j .none))
  | [], _, _, _, _, _, _, _, ra, _, _, _, _, _, j, h1, _, _, _ => by cases ra; exact absurd h1 (Nat.not_lt_zero _)
  | _ :: _, [], _, _, _, _, _, _, _, rb, _, _, _, _, j, _, h2, _, _ => by cases rb; exact absurd h2 (Nat.not_lt_zero _)
  | x :: xs, y :: ys, A, s, _, _, _, _, ra, rb, ca, cb, h, hu, j, h1, h2, hp, hj => by
    have ca' : x.canLay0 = true ∧ PyData.canLayAll0 xs = true := by simpa [PyData.canLayAll0] using ca
    have cb' : y.canLay0 = true ∧ PyData.canLayAll0 ys = true := by simpa [PyData.canLayAll0] using cb
    cases ra with
    | cons r rs =>
      cases rb with
      | cons r' rs' =>
        cases j with
        | zero => exact rcL x y A s _ _ _ _ r r' ca'.1 cb'.1 (alLs_cons h).1 (room_head hu)
        | succ j =>
          refine rcLs xs ys A s _ _ _ _ rs rs' ca'.2 cb'.2 ((alLs_cons h).2 (hp 0 (Nat.succ_pos _))) (room_tail hu) j (Nat.lt_of_succ_lt_succ h1) (Nat.lt_of_succ_lt_succ h2) (fun i hi => ?_) hj
          exact hp (i + 1) (Nat.succ_lt_succ hi)
end
end Ab
end
section
set_option maxRecDepth 100000
set_option maxHeartbeats 1000000
namespace Ab
open PySem L2 PyProof.Rows PySem.Spec
variable [Hd]
def tLockP (t : TS) : TS := fun D σ H => ∃ d u, H d = some u ∧ Mut (some u) ∧ ∀ od, t D σ (upd H d (.frz od u))
theorem pss_lockP {X : Cx} {body : List Stmt} {t : TS} (h : PSs X body t) : PSs X body (tLockP t) := by
  refine ⟨fun pins s σ H D I hw => ?_⟩
  obtain ⟨d, u, hd, mu, hw⟩ := hw
  obtain ⟨od, I1⟩ := I.lock hd mu
  exact h.run pins s σ _ D I1 (hw od)
def frzK (i : Nat) (α : State) : Option State := match α[i]? with
  | some (some (.own (.dic kvs))) => some (α.set i (some (.dat (.dic kvs))))
  | _ => none
def sFrzK (i : Nat) (s : State → Out) : State → Out := fun α => match frzK i α with | some β => s β | none => .bad
section
variable {e : En} {E : XK} {te tk tx ta : TE} {ts : TS} {s : State → Out}
theorem Rel.frzW {c : Cn} {L S : List Addr} {σ : L2.St} {H : Hp} {α : State} (r : Rel e c L S σ H α) {i : Nat} {ct : Ct} {d : D} {p : Addr} {o : HO} (ha : α[i]? = some (some (.own ct))) (h1 : σ[i]? = some (some (.ref p))) (n0 : c.H0 p = none) (mL : p ∈ L)
    (hd : Rep e (fz (L.filter (· ≠ p)) (upd H p o)) d (.ref p)) : Rel e c (L.filter (· ≠ p)) (S.filter (· ≠ p)) σ (upd H p o) (α.set i (some (.dat d))) ∧ Same (fz L H) (fz (L.filter (· ≠ p)) (upd H p o)) := by
  have anti : Same (fz L H) (fz (L.filter (· ≠ p)) (upd H p o)) := fun a u q => by
    obtain ⟨m, nh⟩ := fz_nh q
    have hne : a ≠ p := fun z => m (z ▸ mL)
    exact fz_at (by rw [upd_ne hne]; exact fz_le _ _ q) (fun z => m (List.mem_filter.mp z).1) nh
  have iv : Hd.inv (upd H p o) := by
    obtain ⟨p', o', hp', mS, ho', rcO⟩ := r.at (ct := ct) (by rw [ha]; rfl)
    rw [h1] at hp'; cases hp'
    exact Hd.chg r.inv (r.nh p mL) ho' (RepC.pl rcO)
  have slotp : ∀ j, isOwn α[j]? = true → i ≠ j → σ[j]? ≠ some (some (.ref p)) := fun j hj hn z => hn (r.sep i j p (by rw [ha]; rfl) hj h1 z)
  refine ⟨⟨fun j a q => ?_, fun j k q hj hk sj sk => ?_, iv, r.h1, fun q m => r.nh q (List.mem_filter.mp m).1, fun q m z => ?_, fun q m => ?_, fun q m => ?_, fun q m => r.l1 q (List.mem_filter.mp m).1, fun q m => r.s1 q (List.mem_filter.mp m).1, ⟨fun a u q n nh => ?_, fun _ => iv⟩, r.s0, r.d0, by rw [List.length_set]; exact r.len⟩, anti⟩
  · rw [getset] at q
    by_cases e1 : i = j
    · rw [if_pos e1] at q
      split at q
      · cases q
        subst e1
        exact ⟨_, h1, hd⟩
      · cases q
    · rw [if_neg e1] at q
      obtain ⟨v, k1, k2⟩ := r.slot j a q
      refine ⟨v, k1, ?_⟩
      cases a with
      | dat d => exact Rep.up (d := d) k2 anti
      | adr _ => exact k2
      | own ct =>
        obtain ⟨p', o', rfl, m, n, ho, rc⟩ := k2
        have : p' ≠ p := fun z => slotp j (by rw [q]; rfl) e1 (by rw [k1, z])
        exact ⟨p', o', rfl, List.mem_filter.mpr ⟨m, by simpa using this⟩, n, by rw [upd_ne this]; exact ho, rc.up anti⟩
      | inn ct =>
        obtain ⟨p', o', rfl, m, n, ho, rc⟩ := k2
        have : p' ≠ p := fun z => slotp j (by rw [q]; rfl) e1 (by rw [k1, z])
        exact ⟨p', o', rfl, List.mem_filter.mpr ⟨m, by simpa using this⟩, n, by rw [upd_ne this]; exact ho, rc.up anti⟩
  · have un : ∀ j, isOwn (α.set i (some (.dat d)))[j]? = true → isOwn α[j]? = true := fun j hj => by
      rw [getset] at hj
      split at hj
      · split at hj <;> simp [isOwn] at hj
      · exact hj
    exact r.sep j k q (un j hj) (un k hk) sj sk
  · obtain ⟨m1, m2⟩ := List.mem_filter.mp m
    have : q ≠ p := by simpa using m2
    rw [upd_ne this] at z
    exact r.dom q m1 z
  · obtain ⟨m1, m2⟩ := List.mem_filter.mp m
    exact List.mem_filter.mpr ⟨r.sub q m1, m2⟩
  · refine List.mem_filter.mpr ⟨r.l0 q m, ?_⟩
    simp only [decide_eq_true_eq]
    rintro rfl
    exact r.d0 q m n0
  · have hne : a ≠ p := fun z => by rw [z, n0] at q; cases q
    rw [upd_ne hne]
    exact r.md.k a u q n nh
theorem st_frzK {i : Nat} (h : Sts e E ts s) : Sts e E (tLockP ts) (sFrzK i s) := fun c L S σ H α D R k => by
  unfold sFrzK frzK at k
  split at k
  · rename_i β hβ
    split at hβ
    · rename_i kvs hx
      cases hβ
      obtain ⟨v, h1, p, o, rfl, mS, n0, ho, gs, rfl, rr⟩ := R.slot i _ hx
      have mL := R.sub p mS
      refine ⟨p, .dK gs, ho, trivial, fun od => ?_⟩
      have anti : Same (fz L H) (fz (L.filter (· ≠ p)) (upd H p (.frz od (.dK gs)))) := fz_swap mL
      have hin : fz (L.filter (· ≠ p)) (upd H p (.frz od (.dK gs))) p = some (.frz od (.dK gs)) := fz_out (R.nh p mL)
      obtain ⟨R2, _⟩ := R.frzW (d := .dic kvs) hx h1 n0 mL ⟨p, od, gs, rfl, hin, RepD.mono anti _ _ rr.toD⟩
      exact h c _ _ σ _ _ D R2 (OutOk.mono anti k)
    · cases hβ
  · exact k.elim
def EvqD (e : En) (te : TE) (s : State → Option (List (Key × D))) : Prop := ∀ c L S σ H α kvs, Rel e c L S σ H α → s α = some kvs → ∀ Q : VK, (∀ a od gs H', Sm H H' → fz L H' a = some (.frz od (.dK gs)) → RepD e (fz L H') kvs gs → Q (.ref a) H') → te σ H Q
def qD (s : State → Option D) : State → Option (List (Key × D)) := fun α => match s α with | some (.dic kvs) => some kvs | _ => none
theorem eq_D {sd : State → Option D} (h : Evp e te sd) : EvqD e te (qD sd) := fun c L S σ H α kvs R q Q k => by
  unfold qD at q
  split at q
  · rename_i ys hs
    cases q
    refine h c L S σ H α _ R hs _ fun v H' e1 ⟨a, od, gs, e2, r1, r2⟩ => ?_
    subst e2
    exact k a od gs H' e1 r1 r2
  · cases q
theorem rd_frz {L : List Addr} {H : Hp} {a : Addr} {od : Obj} {u : HO} (h : fz L H a = some (.frz od u)) : Rd H a u := .inr ⟨od, fz_le _ _ h⟩
theorem dget_frz {L : List Addr} {H H2 : Hp} {a : Addr} {od : Obj} {gs : List (Key × V)} {k : Key} (h : fz L H a = some (.frz od (.dK gs))) (s : Sm H H2) : DGet H2 a (kV k) (valV gs k) := .inl ⟨gs, k, .inr ⟨od, s.k _ _ (fz_le _ _ h) (fz_nh h).2⟩, rfl, rfl⟩
variable {sq : State → Option (List (Key × D))} {sk sx : State → Option D}
def xGetD (sq : State → Option (List (Key × D))) (sk : State → Option D) : State → Option D := fun α => bnd (sq α) fun kvs => bnd (bnd (sk α) keyD) fun k => valD k kvs
def xInD (sk : State → Option D) (sq : State → Option (List (Key × D))) : State → Option D := fun α => bnd (bnd (sk α) keyD) fun k => bnd (sq α) fun kvs => some (.bl (valD k kvs).isSome)
def xNotInD (sk : State → Option D) (sq : State → Option (List (Key × D))) : State → Option D := fun α => bnd (bnd (sk α) keyD) fun k => bnd (sq α) fun kvs => some (.bl (!(valD k kvs).isSome))
def xGet1D (sq : State → Option (List (Key × D))) (sk : State → Option D) : State → Option D := fun α => bnd (sq α) fun kvs => bnd (bnd (sk α) keyD) fun k => some ((valD k kvs).getD .non)
def xGet2D (sq : State → Option (List (Key × D))) (sk sx : State → Option D) : State → Option D := fun α => bnd (sq α) fun kvs => bnd (bnd (sk α) keyD) fun k => bnd (sx α) fun x => some ((valD k kvs).getD x)
def xKeysD (sq : State → Option (List (Key × D))) : State → Option (List D) := fun α => bnd (sq α) fun kvs => if kvs.length ≤ 100000 then some (kvs.map fun kv => keyOf kv.1) else none
theorem ev_getD (h : EvqD e te sq) (hk : Evp e tk sk) : Evp e (tDGet te tk) (xGetD sq sk) := fun c L S σ H α d R q Q k => by
  obtain ⟨kvs, h1, q⟩ := bnd_some q
  obtain ⟨kk, h2, q⟩ := bnd_some q
  obtain ⟨dk, h3, h4⟩ := bnd_some h2
  refine h c L S σ H α kvs R h1 _ fun a od gs H1 e1 ha r1 => ?_
  refine hk c L S σ H1 α dk (R.up e1) h3 _ fun y H2 e2 ry => ?_
  have hy := rep_key h4 ry
  subst hy
  obtain ⟨v, h5, h6⟩ := (repK_val (k := kk) r1.toK).1 d q
  exact ⟨a, v, rfl, by rw [← h5]; exact dget_frz ha e2, k v H2 (e1.trans e2) (h6.up (fz_same e2))⟩
theorem isSomeV {F : Hp} {kvs : List (Key × D)} {gs : List (Key × V)} (r : RepD e F kvs gs) (k : Key) : (valV gs k).isSome = (valD k kvs).isSome := by
  obtain ⟨i1, i2⟩ := repK_val (k := k) r.toK
  cases hv : valD k kvs with
  | none => rw [i2 hv]; rfl
  | some d => obtain ⟨v, h5, _⟩ := i1 d hv; rw [h5]; rfl
theorem ev_inD (hk : Evp e tk sk) (h : EvqD e te sq) : Evp e (tDIn tk te) (xInD sk sq) := fun c L S σ H α d R q Q k => by
  obtain ⟨kk, h2, q⟩ := bnd_some q
  obtain ⟨kvs, h1, q⟩ := bnd_some q
  obtain ⟨dk, h3, h4⟩ := bnd_some h2
  cases q
  refine hk c L S σ H α dk R h3 _ fun y H1 e1 ry => ?_
  have hy := rep_key h4 ry
  subst hy
  refine h c L S σ H1 α kvs (R.up e1) h1 _ fun a od gs H2 e2 ha r1 => ?_
  exact ⟨a, _, rfl, dget_frz ha (Sm.refl _), k _ H2 (e1.trans e2) (by rw [isSomeV r1]; exact rfl)⟩
theorem ev_notInD (hk : Evp e tk sk) (h : EvqD e te sq) : Evp e (tDNotIn tk te) (xNotInD sk sq) := fun c L S σ H α d R q Q k => by
  obtain ⟨kk, h2, q⟩ := bnd_some q
  obtain ⟨kvs, h1, q⟩ := bnd_some q
  obtain ⟨dk, h3, h4⟩ := bnd_some h2
  cases q
  refine hk c L S σ H α dk R h3 _ fun y H1 e1 ry => ?_
  have hy := rep_key h4 ry
  subst hy
  refine h c L S σ H1 α kvs (R.up e1) h1 _ fun a od gs H2 e2 ha r1 => ?_
  exact ⟨a, _, rfl, dget_frz ha (Sm.refl _), k _ H2 (e1.trans e2) (by rw [isSomeV r1]; exact rfl)⟩
theorem getD_rep {F : Hp} {kvs : List (Key × D)} {gs : List (Key × V)} (r : RepD e F kvs gs) (k : Key) {x : D} {z : V} (rx : Rep e F x z) : Rep e F ((valD k kvs).getD x) ((valV gs k).getD z) := by
  obtain ⟨i1, i2⟩ := repK_val (k := k) r.toK
  cases hv : valD k kvs with
  | none => rw [i2 hv]; exact rx
  | some d => obtain ⟨v, h5, h6⟩ := i1 d hv; rw [h5]; exact h6
theorem isD_frz {L : List Addr} {H : Hp} {a : Addr} {od : Obj} {gs : List (Key × V)} (h : fz L H a = some (.frz od (.dK gs))) : IsD H a := .inl ⟨gs, rd_frz h⟩
theorem ev_get1D (h : EvqD e te sq) (hk : Evp e tk sk) : Evp e (tDGet1 te tk) (xGet1D sq sk) := fun c L S σ H α d R q Q k => by
  obtain ⟨kvs, h1, q⟩ := bnd_some q
  obtain ⟨kk, h2, q⟩ := bnd_some q
  obtain ⟨dk, h3, h4⟩ := bnd_some h2
  cases q
  refine h c L S σ H α kvs R h1 _ fun a od gs H1 e1 ha r1 => ⟨a, rfl, isD_frz ha, ?_⟩
  refine hk c L S σ H1 α dk (R.up e1) h3 _ fun y H2 e2 ry => ?_
  have hy := rep_key h4 ry
  subst hy
  exact ⟨_, dget_frz ha e2, k _ H2 (e1.trans e2) (getD_rep (RepD.mono (fz_same e2) _ _ r1) kk rfl)⟩
theorem ev_get2D (h : EvqD e te sq) (hk : Evp e tk sk) (hx : Evp e tx sx) : Evp e (tDGet2 te tk tx) (xGet2D sq sk sx) := fun c L S σ H α d R q Q k => by
  obtain ⟨kvs, h1, q⟩ := bnd_some q
  obtain ⟨kk, h2, q⟩ := bnd_some q
  obtain ⟨dx, h5, q⟩ := bnd_some q
  obtain ⟨dk, h3, h4⟩ := bnd_some h2
  cases q
  refine h c L S σ H α kvs R h1 _ fun a od gs H1 e1 ha r1 => ⟨a, rfl, isD_frz ha, ?_⟩
  refine hk c L S σ H1 α dk (R.up e1) h3 _ fun y H2 e2 ry => ?_
  have hy := rep_key h4 ry
  subst hy
  refine hx c L S σ H2 α dx ((R.up e1).up e2) h5 _ fun z H3 e3 rz => ?_
  exact ⟨_, dget_frz ha (e2.trans e3), k _ H3 ((e1.trans e2).trans e3) (getD_rep (RepD.mono (fz_same (e2.trans e3)) _ _ r1) kk rz)⟩
theorem el_keysD (h : EvqD e te sq) : Evl e (tCB (fun xs H Q => ∃ (a : Addr) (kvs : List (Key × V)), xs = [.ref a] ∧ Rd H a (.dK kvs) ∧ ∀ p, H p = none → Q (.ref p) (upd H p (.lst (kvs.map fun kv => kV kv.1)))) (tCons te tNil)) (xKeysD sq) := fun c L S σ H α xs R q Q k => by
  obtain ⟨kvs, h1, q⟩ := bnd_some q
  split at q
  · cases q
    refine h c L S σ H α kvs R h1 _ fun a od gs H1 e1 ha r1 => ?_
    refine ⟨a, gs, rfl, rd_frz ha, fun q hq => ?_⟩
    have s4 : Sm H1 (upd H1 q (.lst (gs.map fun kv => kV kv.1))) := .of fun b o z => by rw [upd_ne (ne_of_none z hq)]; exact z
    exact k q _ _ (e1.trans s4) (none_back R.inv e1 hq) upd_same ((repK_keys r1.toK).up (fz_cons s4 hq))
  · cases q
def lendK (i : Nat) (α : State) : Option State := match α[i]? with
  | some (some (.own (.dic kvs))) => some (α.set i (some (.dat (.dic kvs))))
  | some (some (.inn (.dic kvs))) => some (α.set i (some (.dat (.dic kvs))))
  | _ => none
def xLendK (i : Nat) (s : State → Option D) : State → Option D := fun α => bnd (lendK i α) fun β => match s β with | some d => if flat d = true then some d else none | none => none
theorem Rel.lendW {c : Cn} {L S : List Addr} {σ : L2.St} {H : Hp} {α : State} (r : Rel e c L S σ H α) {i : Nat} {ct : Ct} {d : D} {p : Addr} {o : HO} (ha : ctOf α[i]? = some ct) (h1 : σ[i]? = some (some (.ref p))) (mL : p ∈ L)
    (hd : Rep e (fz (L.filter (· ≠ p)) (upd H p o)) d (.ref p)) : Rel e ⟨[], [], hz (upd H p o), σ⟩ (L.filter (· ≠ p)) (S.filter (· ≠ p)) σ (upd H p o) (α.set i (some (.dat d))) := by
  have anti : Same (fz L H) (fz (L.filter (· ≠ p)) (upd H p o)) := fun a u q => by
    obtain ⟨m, nh⟩ := fz_nh q
    have hne : a ≠ p := fun z => m (z ▸ mL)
    exact fz_at (by rw [upd_ne hne]; exact fz_le _ _ q) (fun z => m (List.mem_filter.mp z).1) nh
  have iv : Hd.inv (upd H p o) := by
    obtain ⟨p', o', hp', mS, ho', rcO⟩ := r.at (ct := ct) ha
    rw [h1] at hp'; cases hp'
    exact Hd.chg r.inv (r.nh p mL) ho' (RepC.pl rcO)
  have slotp : ∀ j, isOwn α[j]? = true → i ≠ j → σ[j]? ≠ some (some (.ref p)) := fun j hj hn z => hn (r.sep i j p (isOwn_ct ha) hj h1 z)
  refine ⟨fun j a q => ?_, fun j k q hj hk sj sk => ?_, iv, hz_al iv, fun q m => r.nh q (List.mem_filter.mp m).1, fun q m z => ?_, fun q m => ?_, (fun q m => nomatch m), (fun q m => .inr (hz_none (r.nh q (List.mem_filter.mp m).1))), (fun q m => .inr (hz_none (r.nh q (r.sub q (List.mem_filter.mp m).1)))), hz_mod iv, (fun q m => nomatch m), (fun q m => nomatch m), by rw [List.length_set]; exact r.len⟩
  · rw [getset] at q
    by_cases e1 : i = j
    · rw [if_pos e1] at q
      split at q
      · cases q
        subst e1
        exact ⟨_, h1, hd⟩
      · cases q
    · rw [if_neg e1] at q
      obtain ⟨v, k1, k2⟩ := r.slot j a q
      refine ⟨v, k1, ?_⟩
      cases a with
      | dat d => exact Rep.up (d := d) k2 anti
      | adr _ => exact k2
      | own ct =>
        obtain ⟨p', o', rfl, m, n, ho, rc⟩ := k2
        have : p' ≠ p := fun z => slotp j (by rw [q]; rfl) e1 (by rw [k1, z])
        exact ⟨p', o', rfl, List.mem_filter.mpr ⟨m, by simpa using this⟩, hz_none (r.nh _ (r.sub _ m)), by rw [upd_ne this]; exact ho, rc.up anti⟩
      | inn ct =>
        obtain ⟨p', o', rfl, m, n, ho, rc⟩ := k2
        have : p' ≠ p := fun z => slotp j (by rw [q]; rfl) e1 (by rw [k1, z])
        exact ⟨p', o', rfl, List.mem_filter.mpr ⟨m, by simpa using this⟩, k1, by rw [upd_ne this]; exact ho, rc.up anti⟩
  · have un : ∀ j, isOwn (α.set i (some (.dat d)))[j]? = true → isOwn α[j]? = true := fun j hj => by
      rw [getset] at hj
      split at hj
      · split at hj <;> simp [isOwn] at hj
      · exact hj
    exact r.sep j k q (un j hj) (un k hk) sj sk
  · obtain ⟨m1, m2⟩ := List.mem_filter.mp m
    have : q ≠ p := by simpa using m2
    rw [upd_ne this] at z
    exact r.dom q m1 z
  · obtain ⟨m1, m2⟩ := List.mem_filter.mp m
    exact List.mem_filter.mpr ⟨r.sub q m1, m2⟩
theorem ev_lendK (i : Nat) {sd : State → Option D} (h : Evp e te sd) : Evp e (tLockE te) (xLendK i sd) := fun c L S σ H α d R q Q k => by
  obtain ⟨β, hβ, q⟩ := bnd_some q
  obtain ⟨kvs, hc, rfl⟩ : ∃ kvs, ctOf α[i]? = some (.dic kvs) ∧ β = α.set i (some (.dat (.dic kvs))) := by
    unfold lendK at hβ
    split at hβ
    · rename_i kvs hx; cases hβ; exact ⟨kvs, by rw [hx]; rfl, rfl⟩
    · rename_i kvs hx; cases hβ; exact ⟨kvs, by rw [hx]; rfl, rfl⟩
    · cases hβ
  obtain ⟨p, o, h1, mS, ho, gs, rfl, rr⟩ := R.at hc
  have mL := R.sub p mS
  refine ⟨p, .dK gs, ho, trivial, fun od => ?_⟩
  have anti : Same (fz L H) (fz (L.filter (· ≠ p)) (upd H p (.frz od (.dK gs)))) := fz_swap mL
  have hin : fz (L.filter (· ≠ p)) (upd H p (.frz od (.dK gs))) p = some (.frz od (.dK gs)) := fz_out (R.nh p mL)
  have R2 := R.lendW (d := .dic kvs) hc h1 mL ⟨p, od, gs, rfl, hin, RepD.mono anti _ _ rr.toD⟩
  split at q
  · rename_i d' hs
    split at q
    · rename_i hf
      cases q
      refine h _ _ _ σ _ _ d R2 hs _ fun v H' e1 r1 => ⟨e1.k _ _ upd_same (R.nh p mL), k v _ ⟨fun a u z nh => ?_, fun h => Hd.chg (e1.i (Hd.chg h (R.nh p mL) ho trivial)) (R.nh p mL) (e1.k _ _ upd_same (R.nh p mL)) trivial⟩ (by rw [rep_flat hf r1]; exact rep_of_flat hf)⟩
      by_cases hp : a = p
      · subst hp; rw [upd_same]; rw [ho] at z; exact z
      · rw [upd_ne hp]; exact e1.k _ _ (by rw [upd_ne hp]; exact z) nh
    · cases q
  · cases q
def xKeyI (sq : State → Option (List (Key × D))) : State → Option (List D) := fun α => bnd (sq α) fun kvs => some (kvs.map fun kv => keyOf kv.1)
def xValI (sq : State → Option (List (Key × D))) : State → Option (List D) := fun α => bnd (sq α) fun kvs => some (kvs.map (·.2))
def xItmI (sq : State → Option (List (Key × D))) : State → Option (List D) := fun α => bnd (sq α) fun kvs => some (kvs.map fun kv => .tup [keyOf kv.1, kv.2])
theorem RepD.len {F : Hp} {kvs : List (Key × D)} {gs : List (Key × V)} (r : RepD e F kvs gs) : gs.length = kvs.length := RepK.len r.toK
theorem RepD.get {F : Hp} : ∀ {kvs : List (Key × D)} {gs : List (Key × V)} {i : Nat} {k : Key} {v : V}, RepD e F kvs gs → gs[i]? = some (k, v) → ∃ d, kvs[i]? = some (k, d) ∧ Rep e F d v
  | [], _, i, k, v, r, h => by cases r; simp at h
  | (k', d') :: kvs, _, 0, k, v, ⟨v', r', q, r1, r2⟩, h => by subst q; simp at h; obtain ⟨rfl, rfl⟩ := h; exact ⟨d', rfl, r1⟩
  | (k', d') :: kvs, _, i + 1, k, v, ⟨v', r', q, r1, r2⟩, h => by subst q; obtain ⟨d, h1, h2⟩ := RepD.get (i := i) r2 (by simpa using h); exact ⟨d, by simpa using h1, h2⟩
theorem ei_keysD (h : EvqD e te sq) : Evi e (iKeys te) (xKeyI sq) := fun c L S σ H α xs R q W k => by
  obtain ⟨kvs, h1, q⟩ := bnd_some q
  cases q
  refine h c L S σ H α kvs R h1 _ fun a od gs H1 e1 ha r1 => ⟨a, od, rfl, .inl ⟨gs, fz_le _ _ ha, k _ H1 e1 fun L2 H2 s2 _ i => ?_⟩⟩
  have t2 : H2 a = some (.frz od (.dK gs)) := fz_le _ _ (s2 _ _ ha)
  rw [List.length_map]
  refine ⟨fun hi => ⟨t2, by rw [r1.len]; exact hi⟩, fun hi => ⟨t2, by rw [r1.len]; exact hi⟩, fun x v H3 hx ⟨e3, kk, vv, hg, hv⟩ => ?_⟩
  subst e3 hv
  obtain ⟨d, h2, h3⟩ := r1.get hg
  rw [List.getElem?_map, h2] at hx
  cases hx
  exact ⟨Sm.refl _, rep_keyOf kk⟩
theorem ei_valsD (h : EvqD e te sq) : Evi e (iVals te) (xValI sq) := fun c L S σ H α xs R q W k => by
  obtain ⟨kvs, h1, q⟩ := bnd_some q
  cases q
  refine h c L S σ H α kvs R h1 _ fun a od gs H1 e1 ha r1 => ⟨a, od, gs, rfl, fz_le _ _ ha, k _ H1 e1 fun L2 H2 s2 _ i => ?_⟩
  have t2 : H2 a = some (.frz od (.dK gs)) := fz_le _ _ (s2 _ _ ha)
  rw [List.length_map]
  refine ⟨fun hi => ⟨t2, by rw [r1.len]; exact hi⟩, fun hi => ⟨t2, by rw [r1.len]; exact hi⟩, fun x v H3 hx ⟨e3, kk, hg⟩ => ?_⟩
  subst e3
  obtain ⟨d, h2, h3⟩ := r1.get hg
  rw [List.getElem?_map, h2] at hx
  cases hx
  exact ⟨Sm.refl _, h3.up s2⟩
theorem ei_itemsD (h : EvqD e te sq) : Evi e (iItems te) (xItmI sq) := fun c L S σ H α xs R q W k => by
  obtain ⟨kvs, h1, q⟩ := bnd_some q
  cases q
  refine h c L S σ H α kvs R h1 _ fun a od gs H1 e1 ha r1 => ⟨a, od, gs, rfl, fz_le _ _ ha, k _ H1 e1 fun L2 H2 s2 dm i => ?_⟩
  have t2 : H2 a = some (.frz od (.dK gs)) := fz_le _ _ (s2 _ _ ha)
  rw [List.length_map]
  refine ⟨fun hi => ⟨t2, by rw [r1.len]; exact hi⟩, fun hi => ⟨t2, by rw [r1.len]; exact hi⟩, fun x v H3 hx ⟨T, kk, vv, hg, hv, hn, e3⟩ => ?_⟩
  subst e3 hv
  obtain ⟨d, h2, h3⟩ := r1.get hg
  rw [List.getElem?_map, h2] at hx
  cases hx
  have s3 : Sm H2 (upd H2 T (.tup [kV kk, vv])) := same_upd hn
  exact ⟨s3, T, _, rfl, .inl (.inl (fz_new (fresh_nL dm hn) upd_same)), Reps.cons (rep_keyOf kk) (Reps.cons (h3.up (s2.trans (fz_same s3))) Reps.nil)⟩
end
section
variable {sq : State → Option (List (Key × D))} {sk sx sd : State → Option D} {α : State} {i : Nat} {s : State → Out}
@[simp] theorem a_sFrzK : sFrzK i s α = (match frzK i α with | some β => s β | none => .bad) := (rfl)
@[simp] theorem a_frzK : frzK i α = (match α[i]? with
  | some (some (.own (.dic kvs))) => some (α.set i (some (.dat (.dic kvs))))
  | _ => none) := (rfl)
@[simp] theorem a_qD : qD sd α = (match sd α with | some (.dic kvs) => some kvs | _ => none) := (rfl)
@[simp] theorem a_xGetD : xGetD sq sk α = (bnd (sq α) fun kvs => bnd (bnd (sk α) keyD) fun k => valD k kvs) := (rfl)
@[simp] theorem a_xInD : xInD sk sq α = (bnd (bnd (sk α) keyD) fun k => bnd (sq α) fun kvs => some (.bl (valD k kvs).isSome)) := (rfl)
@[simp] theorem a_xNotInD : xNotInD sk sq α = (bnd (bnd (sk α) keyD) fun k => bnd (sq α) fun kvs => some (.bl (!(valD k kvs).isSome))) := (rfl)
@[simp] theorem a_xGet1D : xGet1D sq sk α = (bnd (sq α) fun kvs => bnd (bnd (sk α) keyD) fun k => some ((valD k kvs).getD .non)) := (rfl)
@[simp] theorem a_xGet2D : xGet2D sq sk sx α = (bnd (sq α) fun kvs => bnd (bnd (sk α) keyD) fun k => bnd (sx α) fun x => some ((valD k kvs).getD x)) := (rfl)
@[simp] theorem a_xKeysD : xKeysD sq α = (bnd (sq α) fun kvs => if kvs.length ≤ 100000 then some (kvs.map fun kv => keyOf kv.1) else none) := (rfl)
@[simp] theorem a_xLendK : xLendK i sd α = (bnd (lendK i α) fun β => match sd β with | some d => if flat d = true then some d else none | none => none) := (rfl)
@[simp] theorem a_lendK : lendK i α = (match α[i]? with
  | some (some (.own (.dic kvs))) => some (α.set i (some (.dat (.dic kvs))))
  | some (some (.inn (.dic kvs))) => some (α.set i (some (.dat (.dic kvs))))
  | _ => none) := (rfl)
@[simp] theorem a_xKeyI : xKeyI sq α = (bnd (sq α) fun kvs => some (kvs.map fun kv => keyOf kv.1)) := (rfl)
@[simp] theorem a_xValI : xValI sq α = (bnd (sq α) fun kvs => some (kvs.map (·.2))) := (rfl)
@[simp] theorem a_xItmI : xItmI sq α = (bnd (sq α) fun kvs => some (kvs.map fun kv => .tup [keyOf kv.1, kv.2])) := (rfl)
end
theorem any_q {X : Cx} {K : PySem.W.Frag} (h : X.K = K) (hc : X.calm = true) : CallR X (.builtin "any") (rAny K) := h ▸ cr_any hc
section
variable {e : En} {te : TE} {sq : State → Option (List D)}
def xAny (sq : State → Option (List D)) : State → Option D := fun α => bnd (sq α) fun ds => (dbls ds).map fun bs => .bl (bs.any id)
theorem ev_any (h : EvqL e te sq) : Evp e (tCB (rAny e.K) (tCons te tNil)) (xAny sq) := fun c L S σ H α d R q Q k => by
  obtain ⟨ds, h1, q⟩ := bnd_some q
  cases hd : dbls ds with
  | none => rw [hd] at q; cases q
  | some bs =>
    rw [hd] at q; cases q
    refine h c L S σ H α ds R h1 _ fun a vs H1 e1 r1 r2 => ?_
    exact ⟨a, bs, rfl, by rw [← dbls_rep hd r2]; exact fz_le.seq r1, k _ H1 e1 rfl⟩
@[simp] theorem a_xAny {α : State} : xAny sq α = bnd (sq α) fun ds => (dbls ds).map fun bs => .bl (bs.any id) := (rfl)
def minOr : List Int → V
  | [] => .non | n :: ns => .int (ns.foldl min n)
def rMinDef (K : PySem.W.Frag) : List V → List V → Hp → VK → Prop := fun vs zs H Q => ∃ (a : Addr) (ns : List Int), vs = [V.ref a] ∧ zs = [.non] ∧ SqL K H a (ns.map V.int) ∧ Q (minOr ns) H
theorem reads_ints {h : Heap} : ∀ {ns : List Int} {us : List Value}, Vals (ns.map V.int) us → ReadsAll h us (ns.map .int) []
  | [], _, .nil => .nil
  | n :: ns, _, .cons r t => by
    obtain ⟨k, rfl⟩ := r
    exact ReadsAll.cons (as := []) (bs := []) (.int n k) (reads_ints t)
theorem depth_intsA : ∀ ns : List Int, PyData.depthAll (ns.map .int) = 0
  | [] => rfl
  | n :: ns => by simp only [List.map_cons, PyData.depthAll, PyData.depth, depth_intsA ns]; rfl
theorem cr_minDef {X : Cx} (hc : X.calm = true) (hu : X.A.units + 200 < cLine) : CallRK X (.builtin "min") [Str.ofString "default"] (rMinDef X.K) := by
  intro pins s σ H vs zs us ws Q I r rz h
  obtain ⟨a, ns, rfl, rfl, hs, q⟩ := h
  obtain rfl := Vals.ref1 r
  obtain ⟨w1, rfl, e1⟩ := vals1 rz
  obtain rfl : w1 = Value.none := e1
  obtain ⟨its, rv, hl, hz⟩ := I.list hs
  have hr : ReadsAll s.heap its.toArray.toList (ns.map .int) [] := by simpa using reads_ints rv
  refine PySem.W.min_list_default (I.ok.hd hc) hl.isList hr ⟨fun x hx y hy => ?_, fun x hx => ?_⟩ (by rw [depth_intsA]; omega) (fun h0 h' tk hk => ?_) (fun y ys i v h' tk bs hxs hv hrd hk => ?_)
  · obtain ⟨n, _, rfl⟩ := List.mem_map.mp hx
    obtain ⟨m, _, rfl⟩ := List.mem_map.mp hy
    simp [PySem.W.alike]
  · obtain ⟨n, _, rfl⟩ := List.mem_map.mp hx
    simp
  · cases ns with
    | nil => exact ⟨.non, H, I.kept hk, rfl, q⟩
    | cons n ns => cases h0
  · cases ns with
    | nil => cases hxs
    | cons n ns =>
      simp only [List.map_cons, List.cons.injEq] at hxs
      obtain ⟨rfl, rfl⟩ := hxs
      rw [PySem.W.minD_ints] at hrd
      cases hrd
      exact ⟨.int _, H, I.kept hk, ⟨_, rfl⟩, q⟩
theorem minDef_q {X : Cx} {K : PySem.W.Frag} (h : X.K = K) (hc : X.calm = true) (hu : X.A.units + 200 < cLine) : CallRK X (.builtin "min") [Str.ofString "default"] (rMinDef K) := h ▸ cr_minDef hc hu
def minOrD : List Int → D
  | [] => .non | n :: ns => .int (ns.foldl min n)
def xMinDef (sq : State → Option (List D)) : State → Option D := fun α => bnd (sq α) fun ds => (dints ds).map minOrD
theorem ev_minDef (h : EvqL e te sq) : Evp e (tCKw (rMinDef e.K) (tCons te tNil) (tCons (tC .non) tNil)) (xMinDef sq) := fun c L S σ H α d R q Q k => by
  obtain ⟨ds, h1, q⟩ := bnd_some q
  cases hd : dints ds with
  | none => rw [hd] at q; cases q
  | some ns =>
    rw [hd] at q; cases q
    refine h c L S σ H α ds R h1 _ fun a vs H1 e1 r1 r2 => ?_
    exact ⟨a, ns, rfl, rfl, by rw [← dints_rep hd r2]; exact fz_le.seq r1, k _ H1 e1 (by cases ns <;> exact rfl)⟩
@[simp] theorem a_xMinDef {α : State} : xMinDef sq α = bnd (sq α) fun ds => (dints ds).map minOrD := (rfl)
end
end Ab
end
section
set_option maxRecDepth 100000
set_option maxHeartbeats 1000000
namespace Ab
open PySem L2 PyProof.Rows PySem.Spec
variable [Hd]
section
variable {e : En} {E : XK} {te tk tx ta : TE} {ts tr : TS} {s sr : State → Out}
theorem Rel.forget {c : Cn} {L S : List Addr} {σ : L2.St} {H : Hp} {α : State} (r : Rel e c L S σ H α) (i : Nat) : Rel e c L S σ H (α.set i none) := by
  have un : ∀ j, isOwn (α.set i none)[j]? = true → isOwn α[j]? = true := fun j hj => by
    rw [getset] at hj
    split at hj
    · split at hj <;> simp [isOwn] at hj
    · exact hj
  refine ⟨fun j a q => ?_, fun j k q hj hk sj sk => r.sep j k q (un j hj) (un k hk) sj sk, r.inv, r.h1, r.nh, r.dom, r.sub, r.l0, r.l1, r.s1, r.md, r.s0, r.d0, by rw [List.length_set]; exact r.len⟩
  rw [getset] at q
  split at q
  · split at q <;> cases q
  · exact r.slot j a q
def noOwn (α : State) : Bool := α.all fun x => match x with | some (.own _) => false | some (.inn _) => false | _ => true
theorem noOwn_at {α : State} (h : noOwn α = true) (j : Nat) : isOwn α[j]? = false := by
  cases q : α[j]? with
  | none => rfl
  | some x =>
    have := List.all_eq_true.mp h x (List.mem_of_getElem? q)
    cases x with
    | none => rfl
    | some a => cases a <;> first | rfl | cases this
theorem Rel.hid {c : Cn} {L S : List Addr} {σ : L2.St} {H : Hp} {α : State} (r : Rel e c L S σ H α) (hn : noOwn α = true) {p : Addr} {o u : HO} (mS : p ∈ S) (h0 : H p = some u) (pl : Pl u) : Rel e c L S σ (upd H p o) α := by
  have mL := r.sub p mS
  have iv : Hd.inv (upd H p o) := Hd.chg r.inv (r.nh p mL) h0 pl
  have fzs : Same (fz L H) (fz L (upd H p o)) := fz_mut fun a u q n _ => by rw [upd_ne (fun z => n (by rw [z]; exact mL))]; exact q
  refine ⟨fun j a q => ?_, r.sep, iv, r.h1, r.nh, fun q m z => ?_, r.sub, r.l0, r.l1, r.s1, ⟨fun a u q n nh => ?_, fun _ => iv⟩, r.s0, r.d0, r.len⟩
  · obtain ⟨v, h1, h2⟩ := r.slot j a q
    refine ⟨v, h1, ?_⟩
    have hno := noOwn_at hn j
    cases a with
    | dat d => exact Rep.up (d := d) h2 fzs
    | adr _ => exact h2
    | own ct => rw [q] at hno; cases hno
    | inn ct => rw [q] at hno; cases hno
  · by_cases e1 : q = p
    · subst e1; rw [upd_same] at z; cases z
    · rw [upd_ne e1] at z; exact r.dom q m z
  · have hne : a ≠ p := fun z => by
      rcases r.s1 p mS with h | h
      · exact n (z ▸ h)
      · rw [z, h] at q; cases q
    rw [upd_ne hne]; exact r.md.k a u q n nh
theorem Rel.hideNew {c : Cn} {L S : List Addr} {σ : L2.St} {H H' : Hp} {α : State} (r : Rel e c L S σ H α) (hn : noOwn α = true) {p : Addr} (s : Sm H H') (n : H p = none) (hp : H' p ≠ none) : Rel e c (p :: L) (p :: S) σ H' α := by
  have fzs : Same (fz L H) (fz (p :: L) H') := fz_cons s n
  refine ⟨fun j a q => ?_, r.sep, s.i r.inv, r.h1, fun q m z => ?_, fun q m z => ?_, fun q m => ?_, fun q m => List.mem_cons_of_mem _ (r.l0 q m), fun q m => ?_, fun q m => ?_, r.md.trans (.of s), r.s0, r.d0, r.len⟩
  · obtain ⟨v, h1, h2⟩ := r.slot j a q
    refine ⟨v, h1, ?_⟩
    have hno := noOwn_at hn j
    cases a with
    | dat d => exact Rep.up (d := d) h2 fzs
    | adr _ => exact h2
    | own ct => rw [q] at hno; cases hno
    | inn ct => rw [q] at hno; cases hno
  · rcases List.mem_cons.mp m with rfl | m
    · exact Hd.al r.inv z n
    · exact r.nh q m z
  · rcases List.mem_cons.mp m with rfl | m
    · exact hp z
    · exact (r.up s).dom q m z
  · rcases List.mem_cons.mp m with rfl | m
    · simp
    · exact List.mem_cons_of_mem _ (r.sub q m)
  · rcases List.mem_cons.mp m with rfl | m
    · exact .inr (r.h0 n)
    · exact r.l1 q m
  · rcases List.mem_cons.mp m with rfl | m
    · exact .inr (r.h0 n)
    · exact r.s1 q m
theorem lookup_putF {f : Str} {v : V} : ∀ gs : List (Str × V), (putF f v gs).lookup f = some v
  | [] => by unfold putF; rw [List.lookup_cons, beq_self_eq_true]
  | (g, x) :: r => by
    unfold putF
    by_cases h : g = f
    · rw [if_pos h, h, List.lookup_cons, beq_self_eq_true]
    · rw [if_neg h, List.lookup_cons, beq_eq_false_iff_ne.mpr (Ne.symm h)]
      exact lookup_putF r
theorem length_putF {f : Str} {v : V} : ∀ gs : List (Str × V), (putF f v gs).length ≤ gs.length + 1
  | [] => by simp [putF]
  | (g, x) :: r => by
    unfold putF
    split
    · simp
    · have := @length_putF f v r; simp; omega
def fillK (nm : String) (fl : Str) : List D → List (Key × D) → Option (Sum Exn (List (Key × D)))
  | [], kvs => some (.inr kvs)
  | .tup [.str z, d] :: r, kvs => if (valD (.inr z) kvs).isSome = true then some (.inl ⟨nm, [(fl, .str z)]⟩) else if kvs.length < 100000 then fillK nm fl r (putKD kvs (.inr z) d) else none
  | _ :: _, _ => none
def sFillD (i j a b : Nat) (c : String) (f : Str) (nm : String) (fl : Str) (sr : State → Out) : State → Out := fun α => match α[i]?, α[j]? with
  | some (some (.inn (.obj c' fs))), some (some (.dat (.lst xs))) => if c' = c ∧ fs.length < 900 ∧ noOwn (α.set i none) = true ∧ a < α.length ∧ b < α.length then (match fillK nm fl xs [] with
    | some (.inr kvs) => sr ((((α.set i none).set a none).set b none).set i (some (.inn (.obj c (putD f (.dic kvs) fs)))))
    | some (.inl x) => .exc x
    | none => .bad) else .bad
  | _, _ => .bad
theorem valD_put {kvs : List (Key × D)} : True := trivial
theorem st_fillD {i j a b : Nat} {c : String} {f : Str} {nm : String} {fl : Str} {g : TG} (hc : Cls e.K (e.cls c)) (hn : NoAttr e.K (e.cls c) f) (hij : i ≠ j) (hia : i ≠ a) (hib : i ≠ b) (hja : j ≠ a) (hjb : j ≠ b) (hab : a ≠ b)
    (hg : Etg e g (gT 2 (gsC (gN a) (gsC (gN b) gsN))) ([a] ++ ([b] ++ []))) (hr : Sts e E tr sr) :
    Sts e E (tSeq (sFld e.K (tVar i) tDNewK f) (tSeq (tFor (iList e.K (tVar j)) g (tSeq (tIfS (tB (tDIn (tVar a) (tFld e.K (tVar i) f))) (fun _ σ H => tMkO (e.cls nm) (spXI (e.cls nm) fl) [] (tCons (tVar a) tNil) σ H fun cls d H' => E cls d H') tNext) (sDPut (tFld e.K (tVar i) f) (tVar a) (tVar b)))) (tLockP tr)))
      (sFillD i j a b c f nm fl sr) := fun cn L S σ H α D R k => by
  unfold sFillD at k
  split at k
  · rename_i c' fs xs hi hj
    split at k
    · rename_i hcc
      obtain ⟨rfl, hfl, hno, hal, hbl⟩ := hcc
      obtain ⟨v0, h0, p, o, rfl, mS, hinn, ho, dx, gs, rfl, rF⟩ := R.slot i _ hi
      have mL := R.sub p mS
      intro q hq
      refine ⟨.ref p, h0, p, _, dx, gs, rfl, by rw [upd_ne (ne_of_none ho hq)]; exact ho, hc, hn, by rw [repF_len rF]; omega, ?_⟩
      have hqn := fresh_nL R.dm hq
      have hqL : q ∉ L := hqn.1
      have hpq : p ≠ q := ne_of_none ho hq
      have h0q : cn.H0 q = none := R.h0 hq
      have Ra := R.forget i
      have s1 : Sm H (upd H q (.dK [])) := .of fun b o z => by rw [upd_ne (ne_of_none z hq)]; exact z
      have Rb := Ra.hideNew hno s1 hq (by rw [upd_same]; simp)
      have Rc := Rb.hid hno (p := p) (o := .ins (e.cls c') dx (putF f (.ref q) gs)) (List.mem_cons_of_mem _ mS) (u := .ins (e.cls c') dx gs) (by rw [upd_ne (ne_of_none ho hq)]; exact ho) trivial
      obtain ⟨vj, hσj, aj, vs, rfl, hsl, hvs⟩ := R.slot j _ hj
      generalize hH1 : upd (upd H q (.dK [])) p (.ins (e.cls c') dx (putF f (.ref q) gs)) = H1 at Rc ⊢
      have hp1 : H1 p = some (.ins (e.cls c') dx (putF f (.ref q) gs)) := by rw [← hH1, upd_same]
      have hq1 : H1 q = some (.dK []) := by rw [← hH1, upd_ne (Ne.symm hpq), upd_same]
      have fz1 : Same (fz L H) (fz (q :: L) H1) := fun a u z => by
        obtain ⟨m, nh⟩ := fz_nh z
        have z := fz_le _ _ z
        have ap : a ≠ p := fun y => m (y ▸ mL)
        have aq : a ≠ q := ne_of_none z hq
        exact fz_at (by rw [← hH1, upd_ne ap, upd_ne aq]; exact z) (by simp [aq, m]) nh
      have rF1 : RepF e (fz (q :: L) H1) fs gs := RepF.mono fz1 _ _ rF
      have hj1 : (α.set i none)[j]? = some (some (.dat (.lst xs))) := by rw [getset, if_neg hij]; exact hj
      have hq' : qL (xVar j) (α.set i none) = some xs := by unfold qL xVar; rw [hj1]
      have hlen := R.len
      dsimp only [tSeq, tFor]
      refine ei_list (sq := qL (xVar j)) (ev_var j) rfl cn _ _ σ H1 _ xs Rc hq' _ fun J H2 e2 hW => ?_
      let α2 : State := ((α.set i none).set a none).set b none
      have hno2 : noOwn α2 = true := by
        refine List.all_eq_true.mpr fun x m => ?_
        have : ∀ {l : State} {n : Nat} {y : Option A}, y ∈ l.set n none → y ∈ l ∨ y = none := fun {l n y} h => by
          obtain ⟨k, hk⟩ := List.mem_iff_getElem?.mp h
          rw [getset] at hk
          split at hk
          · split at hk
            · cases hk; exact .inr rfl
            · cases hk
          · exact .inl (List.mem_of_getElem? hk)
        rcases this m with m | rfl
        · rcases this m with m | rfl
          · exact List.all_eq_true.mp hno x m
          · rfl
        · rfl
      let IW : Nat → Nat → L2.St → Hp → Prop := fun n m σ' H' => m = xs.length - n ∧ ∃ kvs hs_, fillK nm fl (xs.drop n) kvs = fillK nm fl xs [] ∧ Rel e cn (q :: L) (q :: S) σ' H' α2 ∧ σ'[i]? = some (some (.ref p)) ∧ H' p = some (.ins (e.cls c') dx (putF f (.ref q) gs)) ∧ H' q = some (.dK hs_) ∧ RepK e (fz (q :: L) H') kvs hs_ ∧ Same (fz (q :: L) H2) (fz (q :: L) H')
      have hp2 : H2 p = some (.ins (e.cls c') dx (putF f (.ref q) gs)) := e2.k _ _ hp1 (R.nh p mL)
      have hq2 : H2 q = some (.dK []) := e2.k _ _ hq1 hqn.2
      have R2 : Rel e cn (q :: L) (q :: S) σ H2 α2 := ((Rc.up e2).forget a).forget b
      refine ⟨IW, ⟨_, rfl, [], [], rfl, R2, h0, hp2, hq2, repK_nil, Same.refl _⟩, ?_⟩
      rintro n m σ' H' ⟨rfl, kvs, hs_, hfk, R', h0', hp', hq', rk, sm⟩
      obtain ⟨w1, w2, w3⟩ := hW (q :: L) H' sm R'.dm n
      by_cases hnx : n < xs.length
      · refine .inr ⟨w1 hnx, fun σ'' H'' => IW (n + 1) (xs.length - (n + 1)) σ'' H'', fun σ'' H'' h => ⟨_, by omega, h⟩, fun x H3 hy => ?_⟩
        have hxn : xs[n]? = some xs[n] := List.getElem?_eq_getElem hnx
        have hdrop : xs.drop n = xs[n] :: xs.drop (n + 1) := List.drop_eq_getElem_cons hnx
        rw [hdrop] at hfk
        obtain ⟨s3, rx⟩ := w3 _ x H3 hxn hy
        generalize xs[n] = y at *
        obtain ⟨z, d, rfl⟩ : ∃ z d, y = .tup [.str z, d] := by
          rw [← hfk] at k
          unfold fillK at k
          split at k
          · rename_i kvs' hk'
            split at hk'
            · rename_i hh; cases hh
            · rename_i z d r hh; cases hh; exact ⟨z, d, rfl⟩
            · cases hk'
          · rename_i x' hk'
            split at hk'
            · rename_i hh; cases hh
            · rename_i z d r hh; cases hh; exact ⟨z, d, rfl⟩
            · cases hk'
          · exact k.elim
        have hg2 : gT 2 (gsC (gN a) (gsC (gN b) gsN)) (.tup [.str z, d]) α2 = some ((α2.set a (some (.dat (.str z)))).set b (some (.dat d))) := rfl
        refine hg cn _ _ σ' H3 α2 _ x _ (R'.up s3) rx hg2 _ fun σ2 hl2 hσ2 R3 => ?_
        have h02 : σ2[i]? = some (some (.ref p)) := by rw [hσ2 i (by simp [hia, hib])]; exact h0'
        have hp3 := s3.k _ _ hp' (R.nh p mL)
        have hq3 := s3.k _ _ hq' hqn.2
        have rk3 : RepK e (fz (q :: L) H3) kvs hs_ := ⟨rk.1, rk.2.up (fz_same s3)⟩
        have hl2' : α2.length = α.length := by simp [α2]
        have h3b : ((α2.set a (some (.dat (.str z)))).set b (some (.dat d)))[b]? = some (some (.dat d)) := by rw [getset, if_pos rfl, if_pos (by simpa [hl2'] using hbl)]
        have h3a : ((α2.set a (some (.dat (.str z)))).set b (some (.dat d)))[a]? = some (some (.dat (.str z))) := by
          rw [getset, if_neg (Ne.symm hab), getset, if_pos rfl, if_pos (by simpa [hl2'] using hal)]
        obtain ⟨va, ha2, ra⟩ := R3.slot a _ h3a
        obtain ⟨vb, hb2, rb⟩ := R3.slot b _ h3b
        cases (show va = .str z from ra)
        have Rz : Rel e cn (q :: L) (q :: S) σ2 H3 α2 := by
          have := (R3.forget a).forget b
          have e3 : (((α2.set a (some (.dat (.str z)))).set b (some (.dat d))).set a none).set b none = α2 := by
            apply List.ext_getElem?
            intro n
            simp only [α2, getset, List.length_set]
            by_cases h1 : b = n
            · subst h1; simp
            · by_cases h2 : a = n
              · subst h2; simp [h1]
              · simp [h1, h2]
          rwa [e3] at this
        have hval := isSomeV rk3.toD (.inr z)
        dsimp only [tIfS, tB, tDIn]
        refine ⟨_, ha2, .ref p, h02, p, _, dx, _, .ref q, rfl, hp3, hc, hn, lookup_putF gs, q, _, rfl, DGet.k (k := .inr z) hq3, _, rfl, ?_⟩
        by_cases hs : (valD (.inr z) kvs).isSome = true
        · have hx : fillK nm fl xs [] = some (.inl ⟨nm, [(fl, .str z)]⟩) := by
            rw [← hfk]; unfold fillK; rw [if_pos hs]
          rw [hx] at k
          rw [hval, if_pos hs]
          refine st_raise1 (nm := nm) (f := fl) (ev_var a) cn _ _ σ2 H3 _ D R3 ?_
          have : sRaise1 nm fl (xVar a) ((α2.set a (some (.dat (.str z)))).set b (some (.dat d))) = .exc ⟨nm, [(fl, .str z)]⟩ := by
            unfold sRaise1 xVar; rw [h3a]
          rw [this]
          exact k
        · rw [hval, if_neg hs]
          have hlt : kvs.length < 100000 := by
            by_cases hl : kvs.length < 100000
            · exact hl
            · have hx : fillK nm fl xs [] = none := by
                rw [← hfk]; unfold fillK; rw [if_neg hs, if_neg hl]
              rw [hx] at k; exact k.elim
          have hfk2 : fillK nm fl (xs.drop (n + 1)) (putKD kvs (.inr z) d) = fillK nm fl xs [] := by
            rw [← hfk]; conv => rhs; unfold fillK
            rw [if_neg hs, if_pos hlt]
          have Rw := Rz.hid hno2 (p := q) (o := .dK (putK hs_ (.inr z) vb)) List.mem_cons_self hq3 trivial
          dsimp only [tNext, sDPut]
          refine ⟨_, hb2, .ref p, h02, p, _, dx, _, .ref q, rfl, hp3, hc, hn, lookup_putF gs, _, ha2, q, _, rfl, DPut.k (k := .inr z) hq3 (by rw [rk3.len]; exact sz_lt hlt), rfl, _, _, hfk2, Rw, h02, ?_, upd_same, ?_, ?_⟩
          · rw [upd_ne hpq]; exact hp3
          · have s4 : Same (fz (q :: L) H3) (fz (q :: L) (upd H3 q (.dK (putK hs_ (.inr z) vb)))) := fz_mut fun a u y n _ => by rw [upd_ne (fun w => n (by rw [w]; exact List.mem_cons_self))]; exact y
            exact repK_put (Rep.up (d := d) rb s4) ⟨rk3.1, rk3.2.up s4⟩
          · have s4 : Same (fz (q :: L) H3) (fz (q :: L) (upd H3 q (.dK (putK hs_ (.inr z) vb)))) := fz_mut fun a u y n _ => by rw [upd_ne (fun w => n (by rw [w]; exact List.mem_cons_self))]; exact y
            exact (sm.trans (fz_same s3)).trans s4
      · have hend : fillK nm fl xs [] = some (.inr kvs) := by
          rw [← hfk, List.drop_of_length_le (by omega)]; rfl
        rw [hend] at k
        refine .inl ⟨w2 (by omega), q, .dK hs_, hq', trivial, fun od => ?_⟩
        have sEnd : Same (fz (q :: L) H') (fz L (upd H' q (.frz od (.dK hs_)))) := fun a u y => by
          obtain ⟨m, nh⟩ := fz_nh y
          have m' : a ≠ q ∧ a ∉ L := by simpa using m
          exact fz_at (by rw [upd_ne m'.1]; exact fz_le _ _ y) m'.2 nh
        have hin : fz L (upd H' q (.frz od (.dK hs_))) q = some (.frz od (.dK hs_)) := fz_at upd_same hqL hqn.2
        have hpE : upd H' q (.frz od (.dK hs_)) p = some (.ins (e.cls c') dx (putF f (.ref q) gs)) := by rw [upd_ne hpq]; exact hp'
        have rD : Rep e (fz L (upd H' q (.frz od (.dK hs_)))) (.dic kvs) (.ref q) := ⟨q, od, hs_, rfl, hin, RepD.mono sEnd _ _ rk.toD⟩
        have rFE : RepF e (fz L (upd H' q (.frz od (.dK hs_)))) (putD f (.dic kvs) fs) (putF f (.ref q) gs) := repF_put rD (RepF.mono (((fz_same e2).trans sm).trans sEnd) _ _ rF1)
        have RE : Rel e cn L S σ' (upd H' q (.frz od (.dK hs_))) (α2.set i (some (.inn (.obj c' (putD f (.dic kvs) fs))))) := by
          have own1 : ∀ k, isOwn (α2.set i (some (.inn (.obj c' (putD f (.dic kvs) fs)))))[k]? = true → k = i := fun k hk => by
            rw [getset] at hk
            by_cases h1 : i = k
            · exact h1.symm
            · rw [if_neg h1, noOwn_at hno2] at hk; cases hk
          have ivE : Hd.inv (upd H' q (.frz od (.dK hs_))) := Hd.chg R'.inv hqn.2 hq' trivial
          refine ⟨fun k' a' qk => ?_, fun k1 k2 p' h1 h2 _ _ => by rw [own1 k1 h1, own1 k2 h2], ivE, R.h1, R.nh, fun p' m z => ?_, R.sub, R.l0, R.l1, R.s1, ⟨fun a' u y n' nh => ?_, fun _ => ivE⟩, R.s0, R.d0, by rw [List.length_set]; exact R'.len⟩
          · rw [getset] at qk
            by_cases h1 : i = k'
            · rw [if_pos h1] at qk
              split at qk
              · cases qk
                subst h1
                exact ⟨_, h0', p, _, rfl, mS, hinn, hpE, dx, _, rfl, rFE⟩
              · cases qk
            · rw [if_neg h1] at qk
              obtain ⟨v, y1, y2⟩ := R'.slot k' a' qk
              refine ⟨v, y1, ?_⟩
              have hno := noOwn_at hno2 k'
              cases a' with
              | dat d => exact Rep.up (d := d) y2 sEnd
              | adr _ => exact y2
              | own ct => rw [qk] at hno; cases hno
              | inn ct => rw [qk] at hno; cases hno
          · by_cases h1 : p' = q
            · exact hqL (h1 ▸ m)
            · rw [upd_ne h1] at z
              exact R'.dom p' (List.mem_cons_of_mem _ m) z
          · have h1 : a' ≠ q := fun w => by rw [w, h0q] at y; cases y
            rw [upd_ne h1]
            exact R'.md.k a' u y n' nh
        refine hr cn L S σ' _ _ D RE (OutOk.mono ?_ k)
        exact (fz1.trans ((fz_same e2).trans sm)).trans sEnd
    · exact k.elim
  · exact k.elim
@[simp] theorem a_sFillD {i j a b : Nat} {c : String} {f : Str} {nm : String} {fl : Str} {α : State} : sFillD i j a b c f nm fl sr α = (match α[i]?, α[j]? with
  | some (some (.inn (.obj c' fs))), some (some (.dat (.lst xs))) => if c' = c ∧ fs.length < 900 ∧ noOwn (α.set i none) = true ∧ a < α.length ∧ b < α.length then (match fillK nm fl xs [] with
    | some (.inr kvs) => sr ((((α.set i none).set a none).set b none).set i (some (.inn (.obj c (putD f (.dic kvs) fs)))))
    | some (.inl x) => .exc x
    | none => .bad) else .bad
  | _, _ => .bad) := (rfl)
end
end Ab
end
section
set_option maxRecDepth 100000
set_option maxHeartbeats 1000000
namespace Ab
open PySem L2 PyProof.Rows PySem.Spec
variable [Hd]
section
variable {e : En} {E : XK} {te tk : TE} {ts : TS}
def xLendL (i : Nat) (s : State → Option (List D)) : State → Option (List D) := fun α => bnd (lendD i α) fun β => match s β with | some xs => if xs.all flat = true then some xs else none | none => none
theorem reps_flat_any {F F' : Hp} : ∀ {ds : List D} {vs : List V}, ds.all flat = true → Reps e F ds vs → Reps e F' ds vs
  | [], _, _, r => by cases r; exact Reps.nil
  | d :: ds, _, h, ⟨v, w, q, r1, r2⟩ => by
    subst q
    rw [List.all_cons, Bool.and_eq_true] at h
    refine Reps.cons ?_ (reps_flat_any h.2 r2)
    rw [rep_flat h.1 r1]; exact rep_of_flat h.1
theorem el_lend (i : Nat) {s : State → Option (List D)} (h : Evl e te s) : Evl e te (xLendL i s) := fun c L S σ H α xs R q Q k => by
  obtain ⟨β, h1, q⟩ := bnd_some q
  obtain ⟨c', L', S', R'⟩ := R.lendD h1
  split at q
  · rename_i ys hs
    split at q
    · rename_i hf
      cases q
      exact h c' L' S' σ H β _ R' hs Q fun p vs H' e1 n hp r1 => k p vs H' e1 n hp (reps_flat_any hf r1)
    · cases q
  · cases q
@[simp] theorem a_xLendL {i : Nat} {s : State → Option (List D)} {α : State} : xLendL i s α = bnd (lendD i α) fun β => match s β with | some xs => if xs.all flat = true then some xs else none | none => none := (rfl)
def tLockT (t : TT) : TT := fun σ H Q => tLockE (fun σ H Q' => t σ H fun b H1 => Q' (.bl b) H1) σ H fun v H1 => ∃ b, v = .bl b ∧ Q b H1
def rngC (lo c : Int) (n : Nat) : List D := (List.range n).map fun (k : Nat) => D.int (lo + (k : Int) * c)
theorem walks_rngC {lo c : Int} {n : Nat} {F : Hp} : Walks e (Itc lo c n) F (rngC lo c n) := fun L H s2 _ i => by
  refine ⟨fun hi => by show i < n; simpa [rngC] using hi, fun hi => by show n ≤ i; simpa [rngC] using hi, fun x v H3 hx ⟨e3, y⟩ => ?_⟩
  subst e3 y
  refine ⟨Sm.refl _, ?_⟩
  unfold rngC at hx
  rw [List.getElem?_map] at hx
  cases hr : (List.range n)[i]? with
  | none => rw [hr] at hx; cases hx
  | some j =>
    rw [hr] at hx
    cases hx
    obtain ⟨hlt, hj⟩ := List.getElem?_eq_some_iff.mp hr
    rw [List.getElem_range] at hj
    subst hj
    rfl
def xRng3 (sr : State → Option (List D)) : State → Option (List D) := fun α => match sr α with
  | some [.int a, .int b, .int c] => if 0 ≤ a ∧ a ≤ 1000000 ∧ 0 ≤ b ∧ b ≤ 1000000 ∧ 1 ≤ c ∧ c ≤ 1000000 then some (rngC a c (Builtin.Range.rangeSize a b c).toNat) else none
  | _ => none
theorem rgC_up {a b c : Int} (h : 0 ≤ a ∧ a ≤ 1000000 ∧ 0 ≤ b ∧ b ≤ 1000000 ∧ 1 ≤ c ∧ c ≤ 1000000) : RgC a b c (Builtin.Range.rangeSize a b c).toNat := by
  obtain ⟨h1, h2, h3, h4, h5, h6⟩ := h
  have q0 : a < b → 0 ≤ (b - a - 1) / c ∧ (b - a - 1) / c ≤ 1000000 := fun hl =>
    ⟨Int.ediv_nonneg (by omega) (by omega), Int.le_trans (Int.ediv_le_self _ (by omega)) (by omega)⟩
  have e : Builtin.Range.rangeSize a b c = if a < b then (b - a - 1) / c + 1 else 0 := by
    unfold Builtin.Range.rangeSize
    rw [if_pos (show c > 0 by omega)]
  generalize (b - a - 1) / c = q at *
  refine ⟨by omega, by omega, ?_, ?_⟩
  · unfold Builtin.Range.small
    rw [e]
    simp only [Builtin.Range.rangeFitsLong, Bool.and_eq_true, Bool.or_eq_true, decide_eq_true_eq, beq_iff_eq, show c > 0 by omega, if_true]
    split
    · rename_i hl
      have := q0 hl
      omega
    · omega
  · rw [e]
    split
    · rename_i hl
      have := q0 hl
      omega
    · rfl
theorem ei_rng3 {tr : TA} {sr : State → Option (List D)} (h : Eva e tr sr) : Evi e (iRng3 tr) (xRng3 sr) := fun c L S σ H α xs R q W k => by
  unfold xRng3 at q
  split at q
  · rename_i a b cc hs
    split at q
    · rename_i hn
      cases q
      refine h c L S σ H α _ R hs _ fun vs H' e1 ⟨v, _, e2, r1, ⟨v', _, e3, r2, ⟨v'', _, e4, r3, r4⟩⟩⟩ => ?_
      cases r1; cases r2; cases r3; cases r4; subst e4; subst e3; subst e2
      exact ⟨a, b, cc, _, rfl, rgC_up hn, k _ H' e1 walks_rngC⟩
    · cases q
  · cases q
@[simp] theorem a_xRng3 {sr : State → Option (List D)} {α : State} : xRng3 sr α = (match sr α with
  | some [.int a, .int b, .int c] => if 0 ≤ a ∧ a ≤ 1000000 ∧ 0 ≤ b ∧ b ≤ 1000000 ∧ 1 ≤ c ∧ c ≤ 1000000 then some (rngC a c (Builtin.Range.rangeSize a b c).toNat) else none
  | _ => none) := (rfl)
def rLenD : List V → Hp → VK → Prop := fun xs H Q => ∃ (a : Addr) (kvs : List (Key × V)), xs = [.ref a] ∧ Rd H a (.dK kvs) ∧ Q (.int kvs.length) H
theorem cr_lenD {X : Cx} : CallR X (.builtin "len") rLenD := by
  intro pins s σ H xs us Q I r h
  obtain ⟨a, kvs, rfl, hd, q⟩ := h
  obtain ⟨u, rfl, rx⟩ := vals1 r
  cases rx
  exact d_len I hd fun t s' J => ⟨.int kvs.length, H, J, ⟨_, rfl⟩, q⟩
def xLenD (sq : State → Option (List (Key × D))) : State → Option D := fun α => bnd (sq α) fun kvs => some (.int kvs.length)
theorem ev_lenD {sq : State → Option (List (Key × D))} (h : EvqD e te sq) : Evp e (tCB rLenD (tCons te tNil)) (xLenD sq) := fun c L S σ H α d R q Q k => by
  obtain ⟨kvs, h1, q⟩ := bnd_some q
  cases q
  refine h c L S σ H α kvs R h1 _ fun a od gs H' e1 hf r => ⟨a, gs, rfl, rd_frz hf, ?_⟩
  refine k _ H' e1 ?_
  rw [RepD.len r]; rfl
@[simp] theorem a_xLenD {sq : State → Option (List (Key × D))} {α : State} : xLenD sq α = bnd (sq α) fun kvs => some (.int kvs.length) := (rfl)
def dropD (kvs : List (Key × D)) (k : Key) : List (Key × D) := kvs.filter fun kv => decide (kv.1 ≠ k)
theorem repK_drop {F : Hp} {k : Key} : ∀ {kvs : List (Key × D)} {gs : List (Key × V)}, RepK e F kvs gs → RepK e F (dropD kvs k) (dropK gs k)
  | [], gs, r => by
    obtain ⟨h1, h2⟩ := r
    have : gs = [] := by simpa using h1
    subst this; exact repK_nil
  | (j, d) :: kvs, gs, r => by
    obtain ⟨v, gs', rfl, r1, r2⟩ := repK_inv r
    have ih := repK_drop (k := k) r2
    unfold dropD dropK at ih ⊢
    by_cases c : j = k
    · rw [List.filter_cons_of_neg (by simpa using c), List.filter_cons_of_neg (by simpa using c)]; exact ih
    · rw [List.filter_cons_of_pos (by simpa using c), List.filter_cons_of_pos (by simpa using c)]; exact repK_cons r1 ih
def sPopK (i : Nat) (sk : State → Option D) : State → Out := fun α => match bnd (sk α) keyD, ctOf α[i]? with
  | some k, some (.dic kvs) => if (valD k kvs).isSome = true then .nxt (putC α i (.dic (dropD kvs k))) else .bad
  | _, _ => .bad
theorem st_popK {i : Nat} {sk : State → Option D} (hk : Evp e tk sk) : Sts e E (tDrop (tDPop1 (tVar i) tk)) (sPopK i sk) := fun c L S σ H α D R k => by
  unfold sPopK at k
  split at k
  · rename_i kk kvs hkk hx
    split at k
    · rename_i hz
      obtain ⟨dk, h1, h2⟩ := bnd_some hkk
      obtain ⟨p, o, h3, m1, ho, gs, rfl, r1⟩ := R.at hx
      refine ⟨.ref p, h3, p, rfl, .inl ⟨gs, .inl ho⟩, ?_⟩
      refine hk c L S σ H α dk R h1 _ fun y H2 e2 ry => ?_
      have hy := rep_key h2 ry
      subst hy
      obtain ⟨d0, hd0⟩ := Option.isSome_iff_exists.mp hz
      obtain ⟨v0, hv0, _⟩ := (repK_val (k := kk) r1).1 d0 hd0
      refine ⟨gs, kk, v0, e2.k _ _ ho (R.nh _ (R.sub _ m1)), rfl, hv0, ?_⟩
      have rr : RepK e (fz L H2) (dropD kvs kk) (dropK gs kk) := repK_drop ⟨r1.1, r1.2.up (fz_same e2)⟩
      obtain ⟨R3, m3⟩ := (R.up e2).mut hx h3 (o := .dK (dropK gs kk)) (ct' := .dic (dropD kvs kk)) ⟨_, rfl, rr⟩
      exact k L S σ _ ((fz_same e2).trans (fz_mod m3 (R.up e2).sub)) R3
    · exact k.elim
  · exact k.elim
@[simp] theorem a_sPopK {i : Nat} {sk : State → Option D} {α : State} : sPopK i sk α = (match bnd (sk α) keyD, ctOf α[i]? with
  | some k, some (.dic kvs) => if (valD k kvs).isSome = true then .nxt (putC α i (.dic (dropD kvs k))) else .bad
  | _, _ => .bad) := (rfl)
def rLenSetSt (P : Program) (w : World) : List V → Hp → VK → Prop := fun vs H Q => ∃ (a : Addr) (S : Str → Bool) (n : Nat), vs = [V.ref a] ∧ H a = some (SetSO P w a S n) ∧ n < 1000 ∧
  ∀ (zs : List Str), zs.Nodup → (∀ z, z ∈ zs ↔ S z = true) → Q (.int zs.length) H
theorem cr_lenSetSt {X : Cx} (hc : X.calm = true) : CallR X (.builtin "len") (rLenSetSt X.prog X.w) := by
  intro pins s σ H xs us Q I r q
  obtain ⟨a, S, n, ex, ha, h64, q⟩ := q
  subst ex
  obtain ⟨u, eu, rx⟩ := vals1 r
  subst eu
  cases rx
  obtain ⟨o, es, ep, t, R⟩ := (I.hok a _ ha).1
  have hall : ∀ v ∈ es.toList.map (·.2), ∃ k t, v = Value.str k t := fun v hv => by
    obtain ⟨e, he, q⟩ := List.mem_map.mp hv
    obtain ⟨⟨k, hk, _⟩, _⟩ := R.el e he
    obtain ⟨t, ht⟩ := Value.isStrOf_shape (x := k) (v := e.2) hk
    exact ⟨k, t, by rw [← q]; exact ht⟩
  obtain ⟨zs, hS⟩ := strs_some hall
  have hnd : zs.Nodup := strs_apart (P := X.prog) (w := X.w) hS (List.pairwise_map.mpr R.ap)
  have hmm : ∀ z, z ∈ zs ↔ S z = true := fun z => by
    rw [strsAre_mem (P := X.prog) (w := X.w) hS z, R.mm z]
    constructor
    · rintro ⟨u, m, h⟩
      obtain ⟨e, he, q⟩ := List.mem_map.mp m
      exact ⟨e, he, by rw [q]; exact h⟩
    · rintro ⟨e, m, h⟩
      exact ⟨e.2, List.mem_map_of_mem m, h⟩
  have hl : es.size = zs.length := by have := hS.length; rw [List.length_map, Array.length_toList] at this; exact this
  refine call_len_set R.ho R.ex R.hd R.ft (by rw [R.sz]; omega) ⟨.int zs.length, H, I.tok _, ⟨_, by rw [hl]⟩, q zs hnd hmm⟩
theorem lenSetSt_q {X : Cx} {P : Program} {w : World} (hP : X.prog = P) (hw : X.w = w) (hc : X.calm = true) : CallR X (.builtin "len") (rLenSetSt P w) := by
  subst hP; subst hw; exact cr_lenSetSt hc
def xLenSet (sq : State → Option (List D)) : State → Option D := fun α => bnd (bnd (sq α) dstrsL) fun zs => if zs.length < 64 then some (.int (nubS zs).length) else none
theorem ev_lenSet {sq : State → Option (List D)} {P : Program} {w : World} (h : EvqL e te sq) : Evp e (tCB (rLenSetSt P w) (tCons (tCB (rSetSt e.K P w) (tCons te tNil)) tNil)) (xLenSet sq) := fun c L S σ H α d R q Q k => by
  unfold xLenSet at q
  obtain ⟨zs, hz, q⟩ := bnd_some q
  obtain ⟨ds, h1, h2⟩ := bnd_some hz
  split at q
  · rename_i hl
    cases q
    refine h c L S σ H α ds R h1 _ fun a vs H' e1 sl r => ?_
    have hv := rep_dstrs h2 r
    subst hv
    refine ⟨a, zs, rfl, fz_le.seq sl, by omega, fun b S n hb hS hn => ?_⟩
    have s3 : Sm H' (upd H' b (SetSO P w b S n)) := .of fun x o z => by rw [upd_ne (ne_of_none z hb)]; exact z
    refine ⟨b, S, n, rfl, upd_same, by omega, fun ys nd mm => ?_⟩
    have hys : ys.length = (nubS zs).length := (perm_of_mem nd (nubS_nodup zs) fun z => by rw [mm z, hS z, nubS_mem]).length_eq
    exact k _ _ (e1.trans s3) (by rw [hys]; rfl)
  · cases q
@[simp] theorem a_xLenSet {sq : State → Option (List D)} {α : State} : xLenSet sq α = bnd (bnd (sq α) dstrsL) fun zs => if zs.length < 64 then some (.int (nubS zs).length) else none := (rfl)
end
end Ab
end
section
set_option maxRecDepth 100000
set_option maxHeartbeats 3200000
namespace Ab
open PySem PySem.Spec PyProof.Rows L2
variable [Hd]
def Tk (h : Heap) (k : NestedKey) (b : Addr) : Prop := NestedIs h k (.ref b) ∧ k.depth ≤ 8
theorem Tk.up {h h' : Heap} {k : NestedKey} {b : Addr} (x : Tk h k b) (u : ∀ c o vs n, h.get? c = some o → o.data = .seq vs n → h'.get? c = some o) : Tk h' k b := ⟨NestedIs.at u _ _ x.1, x.2⟩
theorem Tk.but {h h' : Heap} {k : NestedKey} {b a : Addr} {o : Obj} {es : Array (Int × Value)} {ep : Nat} {t : SetTable} (x : Tk h k b) (ho : h.get? a = some o) (hd : o.data = .set es ep t) (sb : Heap.SameBut a h h') : Tk h' k b :=
  x.up fun c oc vs n e1 e2 => (sb.2 c (by rintro rfl; rw [ho] at e1; cases e1; rw [hd] at e2; cases e2)).trans e1
section
variable {P : Program} {w : World} {A : Around} {E : Value → Shared → Prop} {s : Shared}
mutual
theorem acs_key : ∀ (k : NestedKey) (v : Value) (n : Nat) (s : Shared), NestedIs s.heap k v → k.depth ≤ n → ∀ Q : Bool → Shared → Prop, Q false s → wpAny (model P w) A (ofAClassStatement n v) Q E s
  | .none, _, n, _, x, _, Q, q => by cases x; cases n <;> exact wpAny_pure q
  | .num _, _, n, _, x, _, Q, q => by cases x <;> cases n <;> exact wpAny_pure q
  | .text _, _, n, _, x, _, Q, q => by cases x; cases n <;> exact wpAny_pure q
  | .tup ks, _, n, s, x, hn, Q, q => by
    cases x with
    | @tup a o vs m _ hg hc hd hk =>
      simp only [NestedKey.depth] at hn
      cases n with
      | zero => omega
      | succ n =>
        have each := acs_keys ks _ n s hk (by omega)
        have hT : s.TypeIs (.ref a) "tuple" := ⟨o, hg, hc⟩
        unfold ofAClassStatement
        refine wpAny_bind (wpAny_typeOf hT ?_)
        dsimp only
        simp only [show (("tuple" : String) == "tuple") = true from by decide, if_true, Bool.not_true, Bool.false_eq_true, if_false]
        try refine wpAny_bind (wpAny_pure ?_)
        try simp only [Bool.not_true, Bool.false_eq_true, if_false]
        show wpAny _ _ (seqItems? (.ref a) >>= _) _ _ s
        refine wpAny_bind (wpAny_seqItems hg hd (wpAny_bind ?_))
        show wpAny _ _ (forIn vs _ _) _ _ s
        rw [← Array.forIn_toList]
        refine wpAny_forIn_list _ (fun l r s' => r.1 = none ∧ s' = s ∧ ∀ v ∈ l, v ∈ vs.toList) _ ?_ ?_ _ _ ⟨rfl, rfl, fun v m => m⟩
        · intro v l r s' ⟨hr, hs, hl⟩
          subst hs
          refine wpAny_bind (each v (hl v List.mem_cons_self) _ ?_)
          simp only [Bool.false_eq_true, if_false]
          exact wpAny_pure ⟨rfl, rfl, fun u m => hl u (List.mem_cons_of_mem _ m)⟩
        · rintro ⟨r1, r2⟩ s' ⟨hr, hs, _⟩
          simp only at hr
          subst hr; subst hs
          exact wpAny_pure q
theorem acs_keys : ∀ (ks : List NestedKey) (vs : List Value) (n : Nat) (s : Shared), NestedAll s.heap ks vs → NestedKey.depthAll ks ≤ n → ∀ v ∈ vs, ∀ Q : Bool → Shared → Prop, Q false s → wpAny (model P w) A (ofAClassStatement n v) Q E s
  | [], _, _, _, x, _, v, hv, _, _ => by cases x; cases hv
  | k :: ks, _, n, s, x, hn, v, hv, Q, q => by
    cases x with
    | cons x1 x2 =>
      simp only [NestedKey.depthAll] at hn
      rcases List.mem_cons.mp hv with e | hv
      · rw [e]; exact acs_key k _ n s x1 (by omega) Q q
      · exact acs_keys ks _ n s x2 (by omega) v hv Q q
end
mutual
theorem hbv_key : ∀ (k : NestedKey) (v : Value) (n : Nat) (s : Shared), NestedIs s.heap k v → ∀ Q : Bool → Shared → Prop, (∀ b, Q b s) → wpAny (model P w) A (hashByValue n v) Q E s
  | .none, _, n, _, x, Q, q => by cases x; cases n <;> exact wpAny_pure (q _)
  | .num _, _, n, _, x, Q, q => by cases x <;> cases n <;> exact wpAny_pure (q _)
  | .text _, _, n, _, x, Q, q => by cases x; cases n <;> exact wpAny_pure (q _)
  | .tup ks, _, n, s, x, Q, q => by
    cases x with
    | @tup a o vs m _ hg hc hd hk =>
      cases n with
      | zero => exact wpAny_pure (q _)
      | succ n =>
        have each := hbv_keys ks _ n s hk
        have hT : s.TypeIs (.ref a) "tuple" := ⟨o, hg, hc⟩
        unfold hashByValue
        refine wpAny_bind (wpAny_specialOf hT F.slot_tuple_hash.lookup ?_)
        show wpAny _ _ (seqItems? (.ref a) >>= _) _ _ s
        refine wpAny_bind (wpAny_seqItems hg hd (wpAny_bind ?_))
        show wpAny _ _ (forIn vs _ _) _ _ s
        rw [← Array.forIn_toList]
        refine wpAny_forIn_list _ (fun l r s' => r.1 = none ∧ s' = s ∧ ∀ v ∈ l, v ∈ vs.toList) _ ?_ ?_ _ _ ⟨rfl, rfl, fun v m => m⟩
        · intro v l r s' ⟨hr, hs, hl⟩
          subst hs
          refine wpAny_bind (each v (hl v List.mem_cons_self) _ fun b => ?_)
          cases b
          · simp only [Bool.not_false, if_true]
            exact wpAny_pure (wpAny_pure (q _))
          · simp only [Bool.not_true, Bool.false_eq_true, if_false]
            exact wpAny_pure ⟨rfl, rfl, fun u m => hl u (List.mem_cons_of_mem _ m)⟩
        · rintro ⟨r1, r2⟩ s' ⟨hr, hs, _⟩
          simp only at hr
          subst hr; subst hs
          exact wpAny_pure (q _)
theorem hbv_keys : ∀ (ks : List NestedKey) (vs : List Value) (n : Nat) (s : Shared), NestedAll s.heap ks vs → ∀ v ∈ vs, ∀ Q : Bool → Shared → Prop, (∀ b, Q b s) → wpAny (model P w) A (hashByValue n v) Q E s
  | [], _, _, _, x, v, hv, _, _ => by cases x; cases hv
  | k :: ks, _, n, s, x, v, hv, Q, q => by
    cases x with
    | cons x1 x2 =>
      rcases List.mem_cons.mp hv with e | hv
      · rw [e]; exact hbv_key k _ n s x1 Q q
      · exact hbv_keys ks _ n s x2 v hv Q q
end
theorem unseen {k : NestedKey} {b : Addr} {Q : Bool → Shared → Prop} (hk : Tk s.heap k b) {ys : List Value} (hy : ∀ y ∈ ys, ∃ k' c, y = Value.ref c ∧ Tk s.heap k' c) (q : Q false s) :
    wpAny (model P w) A (searchCouldBeSeen (.ref b) ys) Q E s := by
  unfold searchCouldBeSeen
  refine wpAny_bind (wpAny_forIn_list _ (fun l r s' => r.1 = none ∧ s' = s ∧ ∀ y ∈ l, y ∈ ys) _ ?_ ?_ _ _ ⟨rfl, rfl, fun y m => m⟩)
  · intro v l r s' ⟨hr, hs, hl⟩
    subst hs
    obtain ⟨k', c, rfl, hc⟩ := hy v (hl v List.mem_cons_self)
    have nx : ∀ u ∈ l, u ∈ ys := fun u m => hl u (List.mem_cons_of_mem _ m)
    dsimp only
    by_cases hv : (b == c || (carriedByValue (.ref b) && carriedByValue (.ref c))) = true
    · exact wp_if_pos hv (wpAny_pure ⟨rfl, rfl, nx⟩)
    · refine wp_if_neg hv (wpAny_bind ((nestedKind P w).quiet hk ?_))
      simp only [Bool.not_true, Bool.false_eq_true, if_false]
      refine wpAny_bind ((nestedKind P w).quiet hc ?_)
      simp only [Bool.not_true, Bool.false_eq_true, if_false]
      refine wpAny_bind (acs_key k _ 8 _ hk.1 hk.2 _ ?_)
      simp only [Bool.false_eq_true, if_false]
      refine wpAny_bind (acs_key k' _ 8 _ hc.1 hc.2 _ ?_)
      simp only [Bool.false_eq_true, if_false]
      exact wpAny_pure ⟨rfl, rfl, nx⟩
  · rintro ⟨r1, r2⟩ s' ⟨hr, hs, _⟩
    simp only at hr
    subst hr; subst hs
    exact wpAny_pure q
abbrev hk (w : World) (k : NestedKey) : Int := k.hash w
def ent (w : World) (p : NestedKey × Addr) : Int × Value := (hk w p.1, .ref p.2)
structure SetF (w : World) (h : Heap) (a : Addr) (L : List (NestedKey × Addr)) (o : Obj) (es : Array (Int × Value)) (ep : Nat) (t : SetTable) : Prop where
  ho : h.get? a = some o
  ex : o.ExactSet
  hd : o.data = .set es ep t
  en : es.toList = L.map (ent w)
  tb : TabOk t (L.map fun p => hk w p.1)
  un : (L.map (·.1)).Nodup
  tk : ∀ p ∈ L, Tk h p.1 p.2
  ld : w.params.followText "set-order" = true ∨ t.led = true
  m7 : t.mask = 7
  fw : L.length ≤ 4
section
variable {a : Addr} {L : List (NestedKey × Addr)} {o : Obj} {es : Array (Int × Value)} {ep : Nat} {t : SetTable}
theorem SetF.count {h : Heap} (R : SetF w h a L o es ep t) : es.size = L.length := by
  rw [← Array.length_toList, R.en, List.length_map]
theorem SetF.fit {h : Heap} (R : SetF w h a L o es ep t) : t.fits es.size = true := by
  have z := R.tb.sz
  have c := R.count
  have f := R.fw
  have m := R.m7
  rw [List.length_map] at z
  unfold SetTable.fits SetTable.fill
  rw [R.tb.dm, Bool.and_eq_true, beq_iff_eq, decide_eq_true_eq, m]
  show t.place.size = es.size ∧ t.place.size + 0 ≤ 7
  omega
theorem SetF.nth {h : Heap} (R : SetF w h a L o es ep t) {i : Nat} {p : NestedKey × Addr} (e : L[i]? = some p) : es[i]? = some (ent w p) := by
  rw [← Array.getElem?_toList, R.en, List.getElem?_map, e]; rfl
theorem SetF.stays {h h' : Heap} (R : SetF w h a L o es ep t) (u : ∀ b o, h.get? b = some o → h'.get? b = some o) : SetF w h' a L o es ep t :=
  { R with ho := u a o R.ho, tk := fun p m => (R.tk p m).up fun c o _ _ e _ => u c o e }
abbrev hAt (es : Array (Int × Value)) (i : Nat) : Int := (es[i]?.map (·.1)).getD 0
abbrev stp (t : SetTable) (h : Int) (c : Nat) : SetTable.Probe := L2.nth t.mask (runAt t.mask (SetTable.bits h % (t.mask + 1)) (SetTable.bits h)) c
theorem stp_on (t : SetTable) (h : Int) (c q : Nat) : L2.nth t.mask (stp t h c) q = stp t h (c + q) := (nth_add t.mask c _ q).symm
theorem no_dum (m : Nat) : ∀ (n : Nat) (p : SetTable.Probe), p.dummy = none → (L2.nth m p n).dummy = none
  | 0, _, h => h
  | n + 1, p, h => no_dum m n (adv m p) (by unfold adv; split <;> exact h)
theorem seek (R : SetF w s.heap a L o es ep t) {x : Addr} {k : NestedKey} (hx : Tk s.heap k x) (hu : A.units + 8 < cLine) {K : Nat} (hKf : K < 10 * SetTable.turns t.mask)
    (hK : way t.mask (hk w k) K ∉ t.place.toList) (hb : ∀ c, c < K → way t.mask (hk w k) c ∈ t.place.toList) {Q : SetFound → Shared → Prop}
    (yes : k ∈ L.map (·.1) → Q (.there none) s) (no : k ∉ L.map (·.1) → Q (.free (way t.mask (hk w k) K) false) s) (f : Nat) :
    ∀ (c : Nat) (st : Option SetTable.Probe), st.getD (t.probeStart (hk w k)) = stp t (hk w k) c → c ≤ K → K - c < f →
      (∀ (i : Nat) p, L[i]? = some p → p.1 = k → ∃ d, c ≤ d ∧ d < K ∧ t.place.toList[i]? = some (way t.mask (hk w k) d)) →
      wpAny (model P w) A (setSearchFrom a (.ref x) (hk w k) true f st) Q E s := by
  induction f with
  | zero => intro c st _ _ hf; exact absurd hf (Nat.not_lt_zero _)
  | succ f ih =>
    intro c st hst hc hf ahead
    rw [setSearchFrom_succ]
    refine wpAny_bind (wpAny_setState_of R.ho R.hd R.fit ?_)
    dsimp only
    refine wp_if_neg (by unfold SetTable.gaveWay; rw [mask_odd R.tb.mok]; decide) ?_
    try refine wpAny_bind (wpAny_pure ?_)
    have at_ : ∀ q, (L2.nth t.mask (stp t (hk w k) c) q).j = way t.mask (hk w k) (c + q) := fun q => congrArg SetTable.Probe.j (stp_on t (hk w k) c q)
    have hs : ∀ (i : Nat) p, L[i]? = some p → hAt es i = hk w p.1 := fun i p e => by
      show (es[i]?.map (·.1)).getD 0 = _
      rw [R.nth e]; rfl
    have met := go_spec t R.tb.ris R.tb.dm (hAt es) (hk w k) (10 * SetTable.turns t.mask) (K - c) (stp t (hk w k) c) (no_dum _ c _ rfl) (by omega)
      (fun q hq => by rw [at_]; exact hb _ (by omega)) (by rw [at_, show c + (K - c) = K by omega]; exact hK)
    have gone : (∀ q i, q < K - c → t.place.toList[i]? = some (L2.nth t.mask (stp t (hk w k) c) q).j → hAt es i ≠ hk w k) → k ∉ L.map (·.1) := fun none m => by
      obtain ⟨p, hp, e⟩ := List.mem_map.mp m
      obtain ⟨i, hi⟩ := List.getElem?_of_mem hp
      obtain ⟨d, d1, d2, d3⟩ := ahead i p hi e
      refine none (d - c) i (by omega) (by rw [at_, show c + (d - c) = d by omega]; exact d3) ?_
      rw [hs i p hi, e]
    rcases met with ⟨q, i, hq, hi, hh, before, pr⟩ | ⟨none, pr⟩
    · have pr' : t.probe (hAt es) (hk w k) (st.getD (t.probeStart (hk w k))) = some (.candidate (way t.mask (hk w k) (c + q)) i (stp t (hk w k) (c + (q + 1)))) := by
        rw [hst, ← at_, ← stp_on]; exact pr
      rw [at_] at hi
      have il : i < L.length := by
        have z := R.tb.sz
        rw [List.length_map] at z
        have := (List.getElem?_eq_some_iff.mp hi).1
        rw [Array.length_toList] at this
        omega
      obtain ⟨p, hp⟩ : ∃ p, L[i]? = some p := ⟨_, List.getElem?_eq_getElem il⟩
      have mp : p ∈ L := List.mem_of_getElem? hp
      have sl : t.slot (way t.mask (hk w k) (c + q)) = .live i := slot_live R.tb.ris hi
      have on : wpAny (model P w) A (searchRest a (.ref x) (hk w k) true f es t (way t.mask (hk w k) (c + q)) i (stp t (hk w k) (c + (q + 1)))) Q E s := by
        unfold searchRest
        rw [R.nth hp]
        dsimp only [ent]
        refine wpAny_bind (wpAny_holding ((nestedKind P w).eqBool hu (R.tk p mp) hx ?_))
        refine wpAny_bind (wpAny_setState_of R.ho R.hd R.fit ?_)
        dsimp only
        by_cases hkk : p.1 = k
        · exact wp_if_pos (by simp [hkk]) (wpAny_pure (yes (List.mem_map.mpr ⟨p, mp, hkk⟩)))
        · refine wp_if_neg (by simp [hkk]) ?_
          try refine wpAny_bind (wpAny_pure ?_)
          rw [show t.sameMemory t.moves t.mask = some true from sameMem t]
          dsimp only
          simp only [if_true, sl, R.nth hp, ent]
          refine wpAny_bind (wpAny_isSame_ref_self (wpAny_bind (wpAny_pure ?_)))
          simp only [if_true]
          refine wp_if_neg (by simp [hkk]) (ih (c + (q + 1)) _ rfl (by omega) (by omega) fun i0 p0 h0 e0 => ?_)
          obtain ⟨d, d1, d2, d3⟩ := ahead i0 p0 h0 e0
          refine ⟨d, ?_, d2, d3⟩
          rcases Nat.lt_trichotomy d (c + q) with z | z | z
          · exact absurd ((hs i0 p0 h0).trans (by rw [e0])) (before (d - c) i0 (by omega) (by rw [at_, show c + (d - c) = d by omega]; exact d3))
          · subst z
            have s0 := slot_live R.tb.ris d3
            rw [sl] at s0
            injection s0 with s0
            rw [← s0, hp] at h0
            cases h0
            exact absurd e0 hkk
          · omega
      rw [show t.probe (fun i => (es[i]?.map (·.1)).getD 0) (hk w k) (st.getD (t.probeStart (hk w k))) = _ from pr']
      dsimp only
      by_cases hl : t.led = true
      · refine wp_if_neg (by simp [hl]) ?_
        try refine wpAny_bind (wpAny_pure ?_)
        exact on
      · refine wp_if_pos (by simp [hl]) (wpAny_bind (unseen hx (fun y hy => ?_) ?_))
        · obtain ⟨e, he, ee⟩ := List.mem_map.mp hy
          have me : e ∈ es ∧ e.1 = hk w k := by simpa using he
          have me2 : e ∈ es.toList := by simpa using me.1
          rw [R.en] at me2
          obtain ⟨p2, m2, e2⟩ := List.mem_map.mp me2
          exact ⟨p2.1, p2.2, by rw [← ee, ← e2]; rfl, R.tk p2 m2⟩
        · refine wp_if_neg (by decide) ?_
          try refine wpAny_bind (wpAny_pure ?_)
          exact on
    · have pr' : t.probe (hAt es) (hk w k) (st.getD (t.probeStart (hk w k))) = some (.empty (way t.mask (hk w k) K) Option.none) := by
        rw [hst, show way t.mask (hk w k) K = (L2.nth t.mask (stp t (hk w k) c) (K - c)).j by rw [at_, show c + (K - c) = K by omega]]
        exact pr
      rw [show t.probe (fun i => (es[i]?.map (·.1)).getD 0) (hk w k) (st.getD (t.probeStart (hk w k))) = _ from pr']
      dsimp only
      exact wpAny_pure (no (gone none))
theorem seek0 (R : SetF w s.heap a L o es ep t) {x : Addr} {k : NestedKey} (hx : Tk s.heap k x) (hu : A.units + 8 < cLine) {Q : SetFound → Shared → Prop} (yes : k ∈ L.map (·.1) → Q (.there none) s)
    (no : ∀ K, k ∉ L.map (·.1) → way t.mask (hk w k) K ∉ t.place.toList → (∀ c, c < K → way t.mask (hk w k) c ∈ t.place.toList) → Q (.free (way t.mask (hk w k) K) false) s) :
    wpAny (model P w) A (setSearch a (.ref x) (hk w k) true) Q E s := by
  have f4 := R.fw
  obtain ⟨K, k1, k2, k3⟩ := R.tb.first (by rw [List.length_map, R.m7]; omega) (hk w k)
  have big : K < 100000 := by
    have : 10 * SetTable.turns t.mask ≤ 1420 := by unfold SetTable.turns; rw [R.m7]; decide
    omega
  unfold setSearch
  refine seek R hx hu k1 k2 k3 yes (fun n => no K n k2 k3) 100000 0 none rfl (Nat.zero_le _) (by omega) fun i p hp e => ?_
  have hi : (L.map fun p => hk w p.1)[i]? = some (hk w k) := by rw [List.getElem?_map, hp, ← e]; rfl
  have il : i < t.place.toList.length := by
    have h1 : i < L.length := (List.getElem?_eq_some_iff.mp hp).1
    have z := R.tb.sz
    rw [List.length_map] at z
    rw [Array.length_toList]
    omega
  obtain ⟨c, hc, e⟩ := R.tb.before k2 hi (List.getElem?_eq_getElem il)
  exact ⟨c, Nat.zero_le _, hc, by rw [List.getElem?_eq_getElem il, e]⟩
theorem setF_add (R : SetF w s.heap a L o es ep t) {x : Addr} {k : NestedKey} (hx : Tk s.heap k x) (hu : A.units + 8 < cLine) (room : k ∉ L.map (·.1) → L.length + 1 ≤ 4) {Q : Bool → Shared → Prop}
    (hQ : ∀ b h' L' o' es' ep' t', Heap.SameBut a s.heap h' → SetF w h' a L' o' es' ep' t' → (k ∈ L.map (·.1) → L' = L) → (k ∉ L.map (·.1) → L'.Perm ((k, x) :: L)) → Q b { s with heap := h' }) :
    wpAny (model P w) A (setAddHashed a (.ref x) (hk w k)) Q E s := by
  unfold setAddHashed
  refine wpAny_holding ?_
  rw [show (100000 : Nat) = 99999 + 1 from rfl, setAddHashedIn_succ]
  refine wpAny_bind (wpAny_setState_of R.ho R.hd R.fit ?_)
  dsimp only
  refine wp_if_neg (by simp [byScan, Value.scannable]) ?_
  try refine wpAny_bind (wpAny_pure ?_)
  refine wpAny_bind (seek0 R hx hu (fun m => ?_) fun K m hK hb => ?_)
  · dsimp only
    exact wpAny_pure (hQ false s.heap L o es ep t (Heap.SameBut.refl a s.heap) R (fun _ => rfl) fun z => absurd m z)
  · dsimp only
    refine wpAny_bind (wpAny_setState_of R.ho R.hd R.fit ?_)
    dsimp only
    have r4 := room m
    obtain ⟨q1, q2, q3, q4, q5, q6, q7, q8, q9⟩ := R.tb.put hK hb
    generalize t.put (way t.mask (hk w k) K) = pt at q1 q3 q4 q5 q6 q7 q8 q9 ⊢
    obtain ⟨u, p⟩ := pt
    dsimp only at q1 q3 q4 q5 q6 q7 q8 q9 ⊢
    subst q1
    generalize hp : SetTable.below t.place (way t.mask (hk w k) K) = p at q2 q3 ⊢
    have perm : (L.take p ++ (k, x) :: L.drop p).Perm ((k, x) :: L) := by
      have z := (List.perm_middle (a := (k, x)) (l₁ := L.take p) (l₂ := L.drop p))
      rwa [List.take_append_drop] at z
    have hes : (SetTable.insertAt es p (hk w k, Value.ref x)).toList = (L.take p ++ (k, x) :: L.drop p).map (ent w) := by
      rw [SetTable.toList_insertAt, R.en, List.map_append, List.map_cons, List.map_take, List.map_drop]; rfl
    have hhs : (L.take p ++ (k, x) :: L.drop p).map (fun p => hk w p.1) = (L.map fun p => hk w p.1).take p ++ hk w k :: (L.map fun p => hk w p.1).drop p := by
      rw [List.map_append, List.map_cons, List.map_take, List.map_drop]
    rw [← hhs] at q3
    have hn : ((L.take p ++ (k, x) :: L.drop p).map (·.1)).Nodup := (perm.map (·.1)).nodup_iff.mpr (List.nodup_cons.mpr ⟨m, R.un⟩)
    have hz : (SetTable.insertAt es p (hk w k, Value.ref x)).size = L.length + 1 := by
      rw [← Array.length_toList, hes, List.length_map, perm.length_eq]; rfl
    have hl : (L.take p ++ (k, x) :: L.drop p).length ≤ 4 := by rw [perm.length_eq]; exact r4
    generalize SetTable.insertAt es p (hk w k, Value.ref x) = es1 at hes hz ⊢
    generalize L.take p ++ (k, x) :: L.drop p = L1 at perm q3 hn hes hl
    have tail : ∀ v : SetTable, TabOk v (L1.map fun p => hk w p.1) → v.mask = 7 → v.led = t.led → v.fill = L.length + 1 →
        wpAny (model P w) A (do
          storeSet a es1 v
          if (!false && v.tooFull) = true then do
              setRelay a (SetTable.grown (es.size + 1))
              pure true
            else pure true) Q E s := fun v v1 v2 v3 v4 => by
      refine wpAny_bind (wpAny_storeSet_of R.ho R.hd ?_ (by rw [hz, sizeLine_eq]; omega))
      have o1 := storeW (es' := es1) (t' := v) R.ho R.hd
      have sb := Heap.SameBut.update s.heap a (Obj.putSet es1 v)
      refine wp_if_neg ?_ (wpAny_pure (hQ true _ L1 _ es1 _ v sb { ho := o1, ex := R.ex, hd := rfl, en := hes, tb := v1, un := hn, tk := fun p mp => ?_, ld := by rw [v3]; exact R.ld, m7 := v2, fw := hl } (fun z => absurd z m) fun _ => perm))
      · unfold SetTable.tooFull
        rw [v2, v4]
        simp only [Bool.not_false, Bool.true_and, decide_eq_true_eq]
        omega
      · rcases List.mem_cons.mp (perm.mem_iff.mp mp) with e | mp
        · subst e; exact hx.but R.ho R.hd sb
        · exact (R.tk p mp).but R.ho R.hd sb
    have t1 := tail u q3 (by rw [q4]; exact R.m7) q5 (by rw [q9, List.length_map])
    have t2 := tail { u with plain := false } ⟨q3.ris, q3.dm, q3.sz, q3.mok, q3.bd, q3.reach⟩ (by rw [← R.m7, ← q4]) q5 (by rw [← (List.length_map (as := L) (fun p => hk w p.1)), ← q9]; rfl)
    by_cases hp1 : u.plain = true
    · first
        | (refine wpAny_bind ?_; refine wp_if_pos hp1 (hbv_key k _ 8 _ hx.1 _ fun b => ?_))
        | refine wp_if_pos hp1 (wpAny_bind (hbv_key k _ 8 _ hx.1 _ fun b => ?_))
      cases b
      · simp only [Bool.false_eq_true, if_false]; exact t2
      · simp only [if_true]; exact t1
    · first
        | (refine wpAny_bind ?_; refine wp_if_neg hp1 (wpAny_pure ?_))
        | refine wp_if_neg hp1 (wpAny_bind (wpAny_pure ?_))
        | refine wp_if_neg hp1 ?_
      simp only [if_true]; exact t1
end
def nubK : List NestedKey → List NestedKey
  | [] => []
  | k :: ks => if k ∈ ks then nubK ks else k :: nubK ks
theorem nubK_mem : ∀ {ks : List NestedKey} {k : NestedKey}, k ∈ nubK ks ↔ k ∈ ks
  | [], _ => Iff.rfl
  | a :: ks, k => by
    unfold nubK
    split
    · rename_i h
      rw [nubK_mem, List.mem_cons]
      exact ⟨.inr, fun z => z.elim (fun e => e ▸ h) id⟩
    · rw [List.mem_cons, List.mem_cons, nubK_mem]
theorem nubK_nodup : ∀ ks : List NestedKey, (nubK ks).Nodup
  | [] => List.nodup_nil
  | a :: ks => by
    unfold nubK
    split
    · exact nubK_nodup ks
    · rename_i h
      exact List.nodup_cons.mpr ⟨fun m => h (nubK_mem.mp m), nubK_nodup ks⟩
theorem nd_le : ∀ (l m : List NestedKey), l.Nodup → (∀ x ∈ l, x ∈ m) → l.length ≤ m.length
  | [], _, _, _ => Nat.zero_le _
  | x :: l, m, h, hs => by
    obtain ⟨h1, h2⟩ := List.nodup_cons.mp h
    have mx := hs x List.mem_cons_self
    have := nd_le l (m.erase x) h2 fun y my => (List.mem_erase_of_ne (fun e => h1 (by rw [← e]; exact my))).mpr (hs y (List.mem_cons_of_mem _ my))
    rw [List.length_erase_of_mem mx] at this
    have := List.length_pos_of_mem mx
    simp only [List.length_cons]
    omega
def SetG (w : World) (h : Heap) (a : Addr) (ks : List (NestedKey × Addr)) : Prop := ∃ L o es ep t, SetF w h a L o es ep t ∧ (∀ p ∈ L, p ∈ ks) ∧ ∀ p ∈ ks, p.1 ∈ L.map (·.1)
def SetN (h : Heap) (a : Addr) (n : Nat) : Prop := ∃ o es ep t, h.get? a = some o ∧ o.ExactSet ∧ o.data = .set es ep t ∧ t.fits es.size = true ∧ es.size = n
theorem SetN.up {h h' : Heap} {a : Addr} {n : Nat} (R : SetN h a n) (u : ∀ o, h.get? a = some o → h'.get? a = some o) : SetN h' a n := let ⟨o, es, ep, t, ho, r⟩ := R; ⟨o, es, ep, t, u o ho, r⟩
theorem SetG.num {h : Heap} {a : Addr} {ks : List (NestedKey × Addr)} (R : SetG w h a ks) : SetN h a (nubK (ks.map (·.1))).length := by
  obtain ⟨L, o, es, ep, t, R, m1, m2⟩ := R
  refine ⟨o, es, ep, t, R.ho, R.ex, R.hd, R.fit, ?_⟩
  rw [R.count, ← List.length_map (as := L) (·.1)]
  refine Nat.le_antisymm (nd_le _ _ R.un fun x mx => ?_) (nd_le _ _ (nubK_nodup _) fun x mx => ?_)
  · obtain ⟨p, mp, e⟩ := List.mem_map.mp mx
    exact nubK_mem.mpr (List.mem_map.mpr ⟨p, m1 p mp, e⟩)
  · obtain ⟨p, mp, e⟩ := List.mem_map.mp (nubK_mem.mp mx)
    rw [← e]
    exact m2 p mp
theorem SetG.new {h : Heap} {a : Addr} (ho : h.get? a = some (nSet w)) : SetG w h a [] :=
  ⟨[], _, #[], 0, _, { ho := ho, ex := ⟨rfl, rfl, rfl⟩, hd := rfl, en := rfl, tb := ⟨List.Pairwise.nil, rfl, rfl, .inl rfl, fun x hx => (by cases hx), fun i h j hi => (by simp at hi)⟩, un := List.nodup_nil, tk := fun p m => (by cases m), ld := led_new w, m7 := rfl, fw := Nat.zero_le _ }, fun p m => m, fun p m => by cases m⟩
theorem setF_loop {R : Result → Shared → Prop} {I : Addr} {fp wr : List Addr} {G : Array GenState → Array GenState → Prop} {n : Nat} {Pv : Nat → Value → Prop} {St : Nat → Shared → Prop}
    (W : WalksS P w A.in1 I fp wr G n Pv St) (Z : Addr) (hZf : Z ∉ fp) (ks : List (NestedKey × Addr)) (hn : n = ks.length) (hval : ∀ i v, Pv i v → ∃ p, ks[i]? = some p ∧ v = .ref p.2)
    (few : (nubK (ks.map (·.1))).length ≤ 4) (h0 : Heap) (hk : ∀ p ∈ ks, Tk h0 p.1 p.2) (hZ0 : h0.get? Z = none) (hw0 : ∀ b ∈ wr, h0.get? b = none) (hu : A.in1.units + 9 < cLine) (k : Nat) :
    ∀ (i : Nat) (s : Shared), n - i = k → i ≤ n → St i s → (∀ b o, h0.get? b = some o → s.heap.get? b = some o) → SetG w s.heap Z (ks.take i) →
      (∀ s', Moved (Z :: wr) G s s' → SetG w s'.heap Z ks → (∀ b o, h0.get? b = some o → s'.heap.get? b = some o) → R (.ok (.ret .none)) s') →
      codeAny (model P w) A (.builtin "set.update.loop" ⟨[.ref Z, .ref I], []⟩) R s := by
  have hZw : Z ∉ wr := fun h => hZf (W.sub _ h)
  have hsub : ∀ b ∈ wr, b ∈ Z :: wr := fun b hb => List.mem_cons_of_mem _ hb
  have old : ∀ {s s' : Shared}, Moved wr G s s' → (∀ b o, h0.get? b = some o → s.heap.get? b = some o) → ∀ b o, h0.get? b = some o → s'.heap.get? b = some o := fun hm hkp b o e =>
    hm.heap b o (fun hb => by rw [hw0 b hb] at e; cases e) (hkp b o e)
  have keep : ∀ {s s' : Shared} {i : Nat}, Moved wr G s s' → (∀ b o, h0.get? b = some o → s'.heap.get? b = some o) → SetG w s.heap Z (ks.take i) → SetG w s'.heap Z (ks.take i) := fun hm hkp ⟨L, o, es, ep, t, r, m1, m2⟩ =>
    ⟨L, o, es, ep, t, { r with ho := hm.heap Z o hZw r.ho, tk := fun p mp => (hk p (List.mem_of_mem_take (m1 p mp))).up fun c o _ _ e _ => hkp c o e }, m1, m2⟩
  induction k with
  | zero =>
    intro i s hki hi hst hkp hS hR
    obtain rfl : i = n := by omega
    refine codeAny_builtin F.entry_set_update_loop ?_
    rw [Around.under_plainId F.plain_set_update_loop _]
    show wpAny _ A.in1 (pyNext (.ref I) >>= _) _ _ s
    refine wpAny_bind (W.done s _ _ hst fun s' hm => ?_)
    show wpAny _ A.in1 (ret Value.none) _ _ s'
    have hkp' := old hm hkp
    have z := keep hm hkp' hS
    rw [hn, List.take_length] at z
    exact wpAny_pure (hR s' (hm.mono hsub) z hkp')
  | succ k ih =>
    intro i s hki hi hst hkp hS hR
    have hlt : i < n := by omega
    refine codeAny_builtin F.entry_set_update_loop ?_
    rw [Around.under_plainId F.plain_set_update_loop _]
    show wpAny _ A.in1 (pyNext (.ref I) >>= _) _ _ s
    refine wpAny_bind (W.item i s _ _ hlt hst fun v s' hP hst' hm => ?_)
    obtain ⟨p, hp, rfl⟩ := hval i v hP
    have hkp' := old hm hkp
    obtain ⟨L, o, es, ep, t, r, m1, m2⟩ := keep hm hkp' hS
    have hx : Tk s'.heap p.1 p.2 := (hk p (List.mem_of_getElem? hp)).up fun c o _ _ e _ => hkp' c o e
    have tk1 : ks.take (i + 1) = ks.take i ++ [p] := by
      have hil := (List.getElem?_eq_some_iff.mp hp).1
      rw [List.take_succ, hp]; rfl
    show wpAny _ A.in1 (holding [Value.ref p.2] (setAdd Z (.ref p.2)) >>= _) _ _ s'
    refine wpAny_bind (wpAny_holding ?_)
    unfold setAdd
    refine wpAny_holding (wpAny_bind (pyHash_key p.1 _ _ _ _ hx.1 (by have := hx.2; omega) ?_))
    refine setF_add (s := { s' with toks := s'.toks + p.1.draws }) r hx (by omega) (fun hnew => ?_) fun b h' L' o' es' ep' t' hsb r' c1 c2 => ?_
    · have z := nd_le (p.1 :: L.map (·.1)) (nubK (ks.map (·.1))) (List.nodup_cons.mpr ⟨hnew, r.un⟩) fun x mx => nubK_mem.mpr (by
        rcases List.mem_cons.mp mx with e | mx
        · rw [e]; exact List.mem_map_of_mem (List.mem_of_getElem? hp)
        · obtain ⟨q, mq, e⟩ := List.mem_map.mp mx
          exact List.mem_map.mpr ⟨q, List.mem_of_mem_take (m1 q mq), e⟩)
      simp only [List.length_cons, List.length_map] at z
      omega
    · have hG : SetG w h' Z (ks.take (i + 1)) := by
        rw [tk1]
        by_cases c : p.1 ∈ L.map (·.1)
        · have e := c1 c
          subst e
          refine ⟨L', o', es', ep', t', r', fun q mq => List.mem_append_left _ (m1 q mq), fun q mq => ?_⟩
          rcases List.mem_append.mp mq with mq | mq
          · exact m2 q mq
          · obtain rfl := List.mem_singleton.mp mq; exact c
        · have pm := c2 c
          refine ⟨L', o', es', ep', t', r', fun q mq => ?_, fun q mq => ?_⟩
          · rcases List.mem_cons.mp (pm.mem_iff.mp mq) with e | mq
            · rw [e]; exact List.mem_append_right _ (List.mem_singleton.mpr rfl)
            · exact List.mem_append_left _ (m1 q mq)
          · rw [(pm.map (·.1)).mem_iff, List.map_cons]
            rcases List.mem_append.mp mq with mq | mq
            · exact List.mem_cons_of_mem _ (m2 q mq)
            · obtain rfl := List.mem_singleton.mp mq; exact List.mem_cons_self
      have hkp2 : ∀ b o, h0.get? b = some o → h'.get? b = some o := fun b o e => (hsb.2 b (fun z => by rw [z, hZ0] at e; cases e)).trans (hkp' b o e)
      refine wpAny_pure ⟨plainId_quiet F.plain_set_update_loop _, ih (i + 1) _ (by omega) hlt (W.frame _ s' _ _ hst' (Nat.le_add_right _ _) fun b hb o e => ?_) hkp2 hG fun s'' hm'' hS'' hkp'' => ?_⟩
      · rw [hsb.2 b (fun h : b = Z => hZf (by rw [← h]; exact hb))]; exact e
      · refine hR s'' (Moved.trans W.gtrans ((hm.mono hsub).then_heap (Nat.le_add_right _ _) fun b o hb e => ?_) hm'') hS'' hkp''
        rw [hsb.2 b (fun h : b = Z => hb (by rw [h]; exact List.mem_cons_self))]; exact e
theorem call_setF {l : Addr} {items : Array Value} {Q : Value → Shared → Prop} (ks : List (NestedKey × Addr)) (hh : A.handled = none) (hl : s.heap.IsList l items) (hit : items.toList = ks.map fun p => Value.ref p.2)
    (hk : ∀ p ∈ ks, Tk s.heap p.1 p.2) (few : (nubK (ks.map (·.1))).length ≤ 4) (hu : A.units + 20 < cLine)
    (h : ∀ (h' : Heap) (tk : Nat), SetN h' s.heap.objs.size (nubK (ks.map (·.1))).length → (∀ b o, s.heap.get? b = some o → h'.get? b = some o) → Q (.ref s.heap.objs.size) { s with heap := h', toks := tk }) :
    wpAny (model P w) A (call (.type "set") [.ref l]) Q E s := by
  obtain ⟨c, tl, hmro⟩ := F.called_set.mro
  have hmade := F.called_set.made
  have hsub := F.called_set.sub
  refine wpAny_call (codeAny_of_tree ?_)
  show wpAny _ _ (callAny (.type "set") _) _ _ _
  refine wpAny_pure ⟨Code.quiet_builtin _ (by decide +kernel), codeAny_builtin F.entry_type_call ?_⟩
  rw [Around.under_plain (weight_type_call_type "set" [.ref l] []) rfl]
  have h1 := F.called_set.notType
  have h2 := F.called_set.canCreate
  have hct := F.typeCall_set_1 (.ref l)
  repeat (any_goals (first | assumption | wp_step))
  refine codeAny_mono (code_set_led1 (.ref l) (E := E) (Q₁ := fun obj s₁ => obj = .ref s.heap.objs.size ∧ s₁ = { s with heap := s.heap.push (nSet w) }) ⟨rfl, rfl⟩) fun r s₁ hr => ?_
  cases r with
  | error e => exact hr
  | ok fl =>
    cases fl with
    | ret obj =>
      obtain ⟨rfl, rfl⟩ := hr
      have hS : (s.heap.push (nSet w)).get? s.heap.objs.size = some (nSet w) := Heap.get?_push_size _ rfl
      have hT : Shared.TypeIs { s with heap := s.heap.push (nSet w) } (.ref s.heap.objs.size) "set" := ⟨_, hS, rfl⟩
      have hli := F.called_set.init.lookup
      have hbi := F.called_set.init.bind (.ref s.heap.objs.size)
      repeat (any_goals (first | assumption | wp_step))
      refine codeAny_mono (codeAny_call_builtin (R := wants (fun r s₂ => r = .none ∧ ∃ h' tk, s₂ = { s with heap := h', toks := tk } ∧ SetG w h' s.heap.objs.size ks ∧ (∀ b o, s.heap.get? b = some o → h'.get? b = some o)) E) F.called_set.init.plain F.entry_set_init (check_set_init_1 hT ?_)) fun r₂ s₂ hr₂ => ?_
      · obtain ⟨ol, hol, hcl, nl, hdl⟩ := hl
        obtain ⟨ocls, odict, odata, oslots⟩ := ol
        simp only at hcl hdl
        subst hcl; subst hdl
        have hol' : (s.heap.push (nSet w)).get? l = some { cls := .type "list", dict := odict, data := .seq items nl, slots := oslots } := Heap.get?_push_of_some _ hol
        have hsls := F.sub_list_set
        have hslf := F.sub_list_frozenset
        have hne : (Value.type "list" == Value.type "dict") = false := by decide
        have hl1 : (s.heap.push (nSet w)).IsList l items := ⟨_, hol', rfl, nl, rfl⟩
        unfold Builtin.«set.__init__» noKeywords Builtin.Frozenset.updateFrom
        generalize hPI : pyIter = PI
        wp_walk
        subst hPI
        refine wpAny_pyIter_list hl1 ?_
        refine wpAny_bind (wpAny_runValue ?_)
        have hlS : l < s.heap.objs.size := Heap.lt_size hol
        have hh3 : A.in1.in1.in1.handled = none := by simp [hh]
        have hz1 : (s.heap.push (nSet w)).objs.size = s.heap.objs.size + 1 := Heap.size_push ..
        have hneI : l ≠ (s.heap.push (nSet w)).objs.size := by rw [hz1]; exact Nat.ne_of_lt (Nat.lt_succ_of_lt hlS)
        have hSf : s.heap.objs.size ∉ [(s.heap.push (nSet w)).objs.size, l] := by
          simp only [List.mem_cons, List.not_mem_nil, or_false, not_or]
          exact ⟨by rw [hz1]; exact Nat.ne_of_lt (Nat.lt_succ_self _), Nat.ne_of_gt hlS⟩
        have nothing : ∀ b, s.heap.objs.size ≤ b → s.heap.get? b = none := fun b hb => by
          cases q : s.heap.get? b with
          | none => rfl
          | some o => exact absurd (Nat.lt_of_lt_of_le (Heap.lt_size q) hb) (Nat.lt_irrefl _)
        have hisz : items.size = ks.length := by
          have q := congrArg List.length hit
          rw [Array.length_toList, List.length_map] at q
          exact q
        refine setF_loop ((Walks.list hh3 _ l hneI items).toS) s.heap.objs.size hSf ks hisz (fun i v hv => ?_) few s.heap hk (nothing _ (Nat.le_refl _)) (fun b hb => nothing b (by
            rw [List.mem_singleton.mp hb, hz1]; exact Nat.le_succ _)) (by show A.units + 3 + 9 < cLine; omega) (items.size - 0) 0 _ (by omega) (Nat.zero_le _)
          ⟨⟨_, Heap.get?_push_size _ rfl, rfl, rfl⟩, (hl1.push _)⟩ (fun b o e => Heap.get?_push_of_some _ (Heap.get?_push_of_some _ e)) ?hS0 ?hR
        · have q : items.toList[i]? = some v := by rw [Array.getElem?_toList]; exact hv
          rw [hit, List.getElem?_map] at q
          cases hq : ks[i]? with
          | none => rw [hq] at q; cases q
          | some p => rw [hq] at q; exact ⟨p, rfl, (Option.some.inj q).symm⟩
        case hS0 =>
          exact SetG.new (Heap.get?_push_of_some _ hS)
        case hR =>
          intro s' hm hS' hkp
          obtain ⟨h', g2, d', tk', os'⟩ := s'
          have eg : g2 = s.gens := hm.gens
          have ed : d' = s.drawn := hm.drawn
          have eo : os' = s.os := hm.os
          subst eg; subst ed; subst eo
          show wpAny _ _ _ _ _ _
          refine wpAny_pure ?_
          show wpAny _ _ (ret Value.none) _ _ _
          exact wpAny_pure ⟨rfl, h', tk', rfl, hS', hkp⟩
      · cases r₂ with
        | error e => exact hr₂
        | ok fl₂ =>
          cases fl₂ with
          | ret r =>
            obtain ⟨rfl, h', tk, rfl, hS', hk'⟩ := hr₂
            repeat (any_goals (first | assumption | wp_step))
            exact h _ _ hS'.num hk'
          | _ => exact hr₂.elim
    | _ => exact hr.elim
end
mutual
def NkV (K : PySem.W.Frag) (H : Hp) : NestedKey → V → Prop
  | .none, v => v = .non
  | .num i, v => v = .int i
  | .text x, v => v = .str x
  | .tup ks, v => ∃ a vs, v = .ref a ∧ SqT K H a vs ∧ NkVs K H ks vs
def NkVs (K : PySem.W.Frag) (H : Hp) : List NestedKey → List V → Prop
  | [], vs => vs = []
  | k :: ks, vs => ∃ v r, vs = v :: r ∧ NkV K H k v ∧ NkVs K H ks r
end
mutual
theorem NkV.up {K : PySem.W.Frag} {F H : Hp} (h : Same F H) : ∀ (k : NestedKey) (v : V), NkV K F k v → NkV K H k v
  | .none, _, r => r
  | .num _, _, r => r
  | .text _, _, r => r
  | .tup ks, _, ⟨a, vs, q, t, r⟩ => ⟨a, vs, q, same_t h t, NkVs.up h ks vs r⟩
theorem NkVs.up {K : PySem.W.Frag} {F H : Hp} (h : Same F H) : ∀ (ks : List NestedKey) (vs : List V), NkVs K F ks vs → NkVs K H ks vs
  | [], _, r => r
  | k :: ks, _, ⟨v, r, q, r1, r2⟩ => ⟨v, r, q, NkV.up h k v r1, NkVs.up h ks r r2⟩
end
section
variable {X : Cx} {pins : List (Addr × Obj)} {σ : L2.St} {H : Hp} {s : Shared}
mutual
theorem NkV.is (I : Inv X pins σ H s) : ∀ (k : NestedKey) (v : V) (u : Value), NkV X.K H k v → RelV v u → NestedIs s.heap k u
  | .none, _, _, h, r => by subst h; cases r; exact .none
  | .num i, _, _, h, r => by subst h; obtain ⟨t, rfl⟩ := r; exact .int i t
  | .text x, _, _, h, r => by subst h; obtain ⟨t, rfl⟩ := r; exact .text x t
  | .tup ks, _, _, ⟨a, vs, q, t, h⟩, r => by
    subst q; cases r
    obtain ⟨its, rv, ⟨o, ho, hc, n, hd⟩, _⟩ := I.tuple t
    exact .tup ho hc hd (by simpa using NkVs.is I ks vs its h rv)
theorem NkVs.is (I : Inv X pins σ H s) : ∀ (ks : List NestedKey) (vs : List V) (us : List Value), NkVs X.K H ks vs → Vals vs us → NestedAll s.heap ks us
  | [], _, _, h, r => by subst h; cases r; exact .nil
  | k :: ks, _, _, ⟨v, t, q, h1, h2⟩, r => by
    subst q
    cases r with
    | cons r1 r2 => exact .cons (NkV.is I k v _ h1 r1) (NkVs.is I ks t _ h2 r2)
end
theorem nk_pairs (I : Inv X pins σ H s) : ∀ (ks : List NestedKey) (vs : List V) (us : List Value), NkVs X.K H ks vs → Vals vs us → (∀ k ∈ ks, k.depth ≤ 8 ∧ ∃ js, k = .tup js) →
    ∃ ps : List (NestedKey × Addr), ps.map (·.1) = ks ∧ us = ps.map (fun p => Value.ref p.2) ∧ ∀ p ∈ ps, Tk s.heap p.1 p.2
  | [], _, _, h, r, _ => by subst h; cases r; exact ⟨[], rfl, rfl, fun p m => by cases m⟩
  | k :: ks, _, _, ⟨v, t, q, h1, h2⟩, r, hk => by
    subst q
    cases r with
    | cons r1 r2 =>
      obtain ⟨ps, e1, e2, e3⟩ := nk_pairs I ks t _ h2 r2 fun j m => hk j (List.mem_cons_of_mem _ m)
      obtain ⟨d8, js, rfl⟩ := hk k List.mem_cons_self
      have hi := NkV.is I _ v _ h1 r1
      obtain ⟨a, vs, q, _, _⟩ := h1
      subst q
      cases r1
      refine ⟨(.tup js, a) :: ps, by rw [List.map_cons, e1], by rw [List.map_cons, e2], fun p m => ?_⟩
      rcases List.mem_cons.mp m with e | m
      · subst e; exact ⟨hi, d8⟩
      · exact e3 p m
end
def SetNO (a : Addr) (n : Nat) : HO := .ext fun h => SetN h a n
def rSetFg (K : PySem.W.Frag) : List V → Hp → VK → Prop := fun xs H Q => ∃ (l : Addr) (vs : List V) (ks : List NestedKey), xs = [V.ref l] ∧ SqL K H l vs ∧ NkVs K H ks vs ∧ (∀ k ∈ ks, k.depth ≤ 8 ∧ ∃ js, k = .tup js) ∧ (nubK ks).length ≤ 4 ∧
  ∀ a, H a = none → Q (.ref a) (upd H a (SetNO a (nubK ks).length))
def rLenSetN : List V → Hp → VK → Prop := fun vs H Q => ∃ (a : Addr) (n : Nat), vs = [V.ref a] ∧ H a = some (SetNO a n) ∧ n ≤ 4 ∧ Q (.int n) H
theorem setNO_new {P : Program} {w : World} {H : Hp} {h : Heap} {a : Addr} {n : Nat} (R : SetN h a n) : ObjOk P w H h a (SetNO a n) := by
  have ⟨o, _, _, _, ho, _⟩ := R
  exact ⟨R, ⟨o, ho⟩, fun h1 h2 p k => SetN.up p k⟩
theorem setF_q {X : Cx} {K : PySem.W.Frag} (hK : X.K = K) (hc : X.calm = true) (hu : X.A.units + 200 < cLine) : CallR X (.type "set") (rSetFg K) := by
  subst hK
  intro pins s σ H xs us Q I r h
  obtain ⟨l, vs, ks, rfl, hq, hn, hk, few, q⟩ := h
  obtain ⟨u, rfl, rx⟩ := vals1 r
  cases rx
  obtain ⟨its, rv, pl, hz⟩ := I.list hq
  obtain ⟨ps, e1, e2, e3⟩ := nk_pairs I ks vs its hn rv hk
  subst e1
  refine call_setF ps (I.ok.hd hc) pl.isList (by simpa using e2) e3 few (by omega) fun h' tk hS hk => ?_
  exact ⟨.ref s.heap.objs.size, _, I.laid (t' := tk) (fun b u e => hk b u e) (Nat.le_refl _) (setNO_new hS), rfl, q _ (I.hok.fresh (Nat.le_refl _))⟩
theorem lenF_q {X : Cx} (hc : X.calm = true) : CallR X (.builtin "len") rLenSetN := by
  intro pins s σ H xs us Q I r q
  obtain ⟨a, n, ex, ha, h4, q⟩ := q
  subst ex
  obtain ⟨u, eu, rx⟩ := vals1 r
  subst eu
  cases rx
  obtain ⟨o, es, ep, t, ho, hex, hd, hf, hn⟩ := (I.hok a _ ha).1
  exact call_len_set ho hex hd hf (by rw [hn]; omega) ⟨.int n, H, I.tok _, ⟨_, by rw [hn]⟩, q⟩
mutual
def kyD : D → NestedKey
  | .int i => .num i
  | .str x => .text x
  | .tup ds => .tup (kyDs ds)
  | _ => .none
def kyDs : List D → List NestedKey
  | [] => []
  | d :: ds => kyD d :: kyDs ds
end
mutual
def kyOk : D → Bool
  | .int _ => true
  | .str _ => true
  | .tup ds => kyOks ds
  | .non => true
  | _ => false
def kyOks : List D → Bool
  | [] => true
  | d :: ds => kyOk d && kyOks ds
end
mutual
theorem nk_of {e : En} {F : Hp} : ∀ (d : D) (v : V), kyOk d = true → Rep e F d v → NkV e.K F (kyD d) v
  | .int _, _, _, r => r
  | .str _, _, _, r => r
  | .non, _, _, r => r
  | .tup ds, _, h, ⟨a, vs, q, t, r⟩ => ⟨a, vs, q, t, nk_ofs ds vs h r⟩
  | .bl _, _, h, _ => by cases h
  | .lst _, _, h, _ => by cases h
  | .ins _ _, _, h, _ => by cases h
  | .ty _, _, h, _ => by cases h
  | .cls _, _, h, _ => by cases h
  | .dic _, _, h, _ => by cases h
  | .trm _, _, h, _ => by cases h
theorem nk_ofs {e : En} {F : Hp} : ∀ (ds : List D) (vs : List V), kyOks ds = true → Reps e F ds vs → NkVs e.K F (kyDs ds) vs
  | [], _, _, r => r
  | d :: ds, _, h, ⟨v, w, q, r1, r2⟩ => by
    simp only [kyOks, Bool.and_eq_true] at h
    exact ⟨v, w, q, nk_of d v h.1 r1, nk_ofs ds w h.2 r2⟩
end
def isTupK : NestedKey → Bool
  | .tup _ => true
  | _ => false
def setOk (ds : List D) : Bool := kyOks ds && ((kyDs ds).all fun k => decide (k.depth ≤ 8) && isTupK k) && decide ((nubK (kyDs ds)).length ≤ 4)
def xLenSetF (sq : State → Option (List D)) : State → Option D := fun α => bnd (sq α) fun ds => if setOk ds = true then some (.int (nubK (kyDs ds)).length) else none
theorem ev_lenSetF {e : En} {te : TE} {sq : State → Option (List D)} (h : EvqL e te sq) : Evp e (tCB rLenSetN (tCons (tCB (rSetFg e.K) (tCons te tNil)) tNil)) (xLenSetF sq) := fun c L S σ H α d R q Q k => by
  unfold xLenSetF at q
  obtain ⟨ds, hz, q⟩ := bnd_some q
  split at q
  · rename_i hl
    cases q
    simp only [setOk, Bool.and_eq_true, List.all_eq_true, decide_eq_true_eq] at hl
    obtain ⟨⟨h1, h2⟩, h3⟩ := hl
    refine h c L S σ H α ds R hz _ fun a vs H' e1 sl r => ?_
    refine ⟨a, vs, kyDs ds, rfl, fz_le.seq sl, NkVs.up fz_le _ _ (nk_ofs ds vs h1 r), fun k m => ?_, h3, fun b hb => ?_⟩
    · obtain ⟨c1, c2⟩ := h2 k m
      refine ⟨c1, ?_⟩
      cases k with
      | tup js => exact ⟨js, rfl⟩
      | _ => cases c2
    · have s3 : Sm H' (upd H' b (SetNO b (nubK (kyDs ds)).length)) := .of fun x o z => by rw [upd_ne (ne_of_none z hb)]; exact z
      exact ⟨b, _, rfl, upd_same, h3, k _ _ (e1.trans s3) rfl⟩
  · cases q
@[simp] theorem a_xLenSetF {sq : State → Option (List D)} {α : State} : xLenSetF sq α = bnd (sq α) fun ds => if setOk ds = true then some (.int (nubK (kyDs ds)).length) else none := (rfl)
end Ab
end
section
set_option maxRecDepth 100000
set_option maxHeartbeats 1600000
namespace Ab
open PySem PySem.Spec PyProof.Rows L2
variable [Hd]
def rMinA (K : PySem.W.Frag) : List V → Hp → VK → Prop := fun vs H Q => ∃ (l : Addr) (ws : List V) (x : PyData) (xs : List PyData), vs = [V.ref l] ∧ SqL K H l ws ∧ DpAll K H ws (x :: xs) ∧ PySem.W.AlikeAll (x :: xs) ∧ PyData.depthAll (x :: xs) ≤ 180 ∧
  ∀ (i : Nat) (v : V), ws[i]? = some v → (x :: xs)[i]? = some (PySem.W.minD x xs) → Q v H
theorem min_a {X : Cx} {K : PySem.W.Frag} (hK : X.K = K) (hc : X.calm = true) (hu : X.A.units + 200 < cLine) : CallR X (.builtin "min") (rMinA K) := by
  subst hK
  intro pins s σ H vs us Q I r h
  obtain ⟨l, ws, x, xs, rfl, hq, hd, ha, hdp, q⟩ := h
  obtain ⟨u, rfl, rx⟩ := vals1 r
  cases rx
  obtain ⟨its, rv, pl, hz⟩ := I.list hq
  obtain ⟨as, hr⟩ := Dp.readsAll I (x :: xs) ws its hd rv
  refine PySem.W.min_list_data (I.ok.hd hc) pl.isList (by simpa using hr) ha (by omega) fun i v h' tk bs hv hm hk => ?_
  have hv' : its[i]? = some v := by simpa using hv
  have hi := (List.getElem?_eq_some_iff.mp hv').1
  have hiw : i < ws.length := by rw [rv.length]; exact hi
  obtain ⟨u, hu1, ru⟩ := rv.get (List.getElem?_eq_getElem hiw)
  rw [hv'] at hu1
  cases hu1
  obtain ⟨bs2, r2, hlt, _⟩ := PySem.W.readsAll_at hr i v hv'
  have e := (PySem.Reads.unique (PySem.W.reads_keeps hk r2) _ _ hm).1
  rw [List.getD_eq_getElem?_getD, List.getElem?_eq_getElem hlt] at e
  exact ⟨_, H, I.kept fun b o z => hk b o z, ru, q i _ (List.getElem?_eq_getElem hiw) (by rw [List.getElem?_eq_getElem hlt, ← e]; rfl)⟩
mutual
theorem py_inj : ∀ (d e : D), kyOk d = true → kyOk e = true → py d = py e → d = e
  | .int a, e, _, he, h => by cases e <;> first | (cases he; done) | (simp [py] at h; try rw [h])
  | .str a, e, _, he, h => by cases e <;> first | (cases he; done) | (simp [py] at h; try rw [h])
  | .non, e, _, he, h => by cases e <;> first | (cases he; done) | rfl | (simp [py] at h)
  | .tup ds, e, hd, he, h => by
    cases e with
    | tup es => simp only [py, PyData.tuple.injEq] at h; rw [pys_inj ds es hd he h]
    | int _ => simp [py] at h
    | str _ => simp [py] at h
    | non => simp [py] at h
    | _ => cases he
  | .bl _, _, hd, _, _ => by cases hd
  | .lst _, _, hd, _, _ => by cases hd
  | .ins _ _, _, hd, _, _ => by cases hd
  | .ty _, _, hd, _, _ => by cases hd
  | .cls _, _, hd, _, _ => by cases hd
  | .dic _, _, hd, _, _ => by cases hd
  | .trm _, _, hd, _, _ => by cases hd
theorem pys_inj : ∀ (ds es : List D), kyOks ds = true → kyOks es = true → pys ds = pys es → ds = es
  | [], [], _, _, _ => rfl
  | [], _ :: _, _, _, h => by simp [pys] at h
  | _ :: _, [], _, _, h => by simp [pys] at h
  | d :: ds, e :: es, hd, he, h => by
    simp only [kyOks, Bool.and_eq_true] at hd he
    simp only [pys, List.cons.injEq] at h
    rw [py_inj d e hd.1 he.1 h.1, pys_inj ds es hd.2 he.2 h.2]
end
def minDs (x : D) (xs : List D) : D := xs.foldl (fun a y => if PySem.W.dataLt (py y) (py a) = true then y else a) x
theorem pys_map : ∀ ds : List D, pys ds = ds.map py
  | [] => rfl
  | d :: ds => by show py d :: pys ds = _; rw [pys_map ds]; rfl
theorem py_minDs : ∀ (xs : List D) (x : D), py (minDs x xs) = PySem.W.minD (py x) (pys xs)
  | [], x => rfl
  | y :: xs, x => by
    have ih := py_minDs xs (if PySem.W.dataLt (py y) (py x) = true then y else x)
    unfold minDs PySem.W.minD at ih ⊢
    rw [List.foldl_cons, ih]
    show _ = List.foldl _ (py x) (py y :: pys xs)
    rw [List.foldl_cons]
    congr 1
    split <;> rfl
theorem minDs_mem : ∀ (xs : List D) (x : D), minDs x xs ∈ x :: xs
  | [], x => List.mem_cons_self
  | y :: xs, x => by
    have ih := minDs_mem xs (if PySem.W.dataLt (py y) (py x) = true then y else x)
    unfold minDs at ih ⊢
    rw [List.foldl_cons]
    rcases List.mem_cons.mp ih with e | m
    · rw [e]
      split
      · exact List.mem_cons_of_mem _ List.mem_cons_self
      · exact List.mem_cons_self
    · exact List.mem_cons_of_mem _ (List.mem_cons_of_mem _ m)
def minAOk (ds : List D) : Bool := kyOks ds && plainDs ds && (ds.all fun a => isTupK (kyD a) && ds.all fun b => PySem.W.alike (py a) (py b)) && decide (depDs ds ≤ 180)
def xMinA (sq : State → Option (List D)) : State → Option D := fun α => bnd (sq α) fun ds => match ds with
  | [] => none
  | x :: xs => if minAOk (x :: xs) = true then some (minDs x xs) else none
theorem dpAll_up {K : PySem.W.Frag} {F H : Hp} (h : Same F H) : ∀ {vs : List V} {ds : List PyData}, DpAll K F vs ds → DpAll K H vs ds
  | _, _, .nil => .nil
  | _, _, .cons a b => .cons (dp_up h a) (dpAll_up h b)
theorem reps_at {e : En} {F : Hp} : ∀ {ds : List D} {vs : List V} {i : Nat} {v : V} {d : D}, Reps e F ds vs → vs[i]? = some v → ds[i]? = some d → Rep e F d v
  | [], _, _, _, _, _, _, h => by simp at h
  | d :: ds, _, 0, _, _, ⟨v, r, q, r1, r2⟩, hv, hd => by subst q; simp at hv hd; rw [← hv, ← hd]; exact r1
  | d :: ds, _, i + 1, _, _, ⟨v, r, q, r1, r2⟩, hv, hd => by subst q; exact reps_at r2 (by simpa using hv) (by simpa using hd)
theorem ev_minA {e : En} {te : TE} {sq : State → Option (List D)} (h : EvqL e te sq) : Evp e (tCB (rMinA e.K) (tCons te tNil)) (xMinA sq) := fun c L S σ H α d R q Q k => by
  unfold xMinA at q
  obtain ⟨ds, hz, q⟩ := bnd_some q
  cases ds with
  | nil => cases q
  | cons x xs =>
    dsimp only at q
    split at q
    · rename_i hok
      cases q
      simp only [minAOk, Bool.and_eq_true, List.all_eq_true, decide_eq_true_eq] at hok
      obtain ⟨⟨⟨k1, k2⟩, k3⟩, k4⟩ := hok
      refine h c L S σ H α (x :: xs) R hz _ fun a vs H' e1 sl r => ?_
      refine ⟨a, vs, py x, pys xs, rfl, fz_le.seq sl, dpAll_up fz_le (dps_of (x :: xs) vs k2 r), ⟨fun a ma b mb => ?_, fun a ma => ?_⟩, ?_, fun i v hv hm => ?_⟩
      · rw [show py x :: pys xs = (x :: xs).map py by rw [pys_map]; rfl] at ma mb
        obtain ⟨a', ma', ea⟩ := List.mem_map.mp ma
        obtain ⟨b', mb', eb⟩ := List.mem_map.mp mb
        rw [← ea, ← eb]; exact (k3 a' ma').2 b' mb'
      · rw [show py x :: pys xs = (x :: xs).map py by rw [pys_map]; rfl] at ma
        obtain ⟨a', ma', ea⟩ := List.mem_map.mp ma
        have t := (k3 a' ma').1
        rw [← ea]
        cases a' <;> first | (cases t; done) | simp [py]
      · have := deps_py (x :: xs)
        show PyData.depthAll (pys (x :: xs)) ≤ 180
        omega
      · rw [show py x :: pys xs = (x :: xs).map py by rw [pys_map]; rfl, List.getElem?_map] at hm
        obtain ⟨d', hd', ed⟩ := Option.map_eq_some_iff.mp hm
        have kk : ∀ y ∈ x :: xs, kyOk y = true := fun y my => by
          have : ∀ (l : List D), kyOks l = true → ∀ y ∈ l, kyOk y = true := fun l => by
            induction l with
            | nil => intro _ y m; cases m
            | cons z l ih =>
              intro h y m
              simp only [kyOks, Bool.and_eq_true] at h
              rcases List.mem_cons.mp m with e | m
              · rw [e]; exact h.1
              · exact ih h.2 y m
          exact this _ k1 y my
        have eq : d' = minDs x xs := py_inj _ _ (kk _ (List.mem_of_getElem? hd')) (kk _ (minDs_mem xs x)) (by rw [ed, py_minDs])
        exact k v H' e1 (by rw [← eq]; exact reps_at r hv hd')
    · cases q
@[simp] theorem a_xMinA {sq : State → Option (List D)} {α : State} : xMinA sq α = bnd (sq α) fun ds => match ds with
  | [] => none
  | x :: xs => if minAOk (x :: xs) = true then some (minDs x xs) else none := (rfl)
end Ab
end
section
set_option maxRecDepth 100000
set_option maxHeartbeats 3200000
namespace Ab
open PySem PySem.Spec PyProof.Rows L2
variable [Hd]
def DN0 (P : Program) (w : World) (h : Heap) (d : Addr) (xs : List (NestedKey × Addr × Value)) : Prop :=
  (d == sysModules) = false ∧ ∃ o es ep, h.get? d = some o ∧ o.ExactDict ∧ o.data = .dict es ep ∧ es.toList = xs.map (entryOfKey (nestedKind P w)) ∧ (xs.map (·.1)).Nodup
def DNO (P : Program) (w : World) (d : Addr) (xs : List (NestedKey × Addr × Value)) : HO := .ext fun h => DN0 P w h d xs
theorem DN0.up {P : Program} {w : World} {h h' : Heap} {d : Addr} {xs : List (NestedKey × Addr × Value)} (R : DN0 P w h d xs) (u : ∀ o, h.get? d = some o → h'.get? d = some o) : DN0 P w h' d xs :=
  let ⟨z, o, es, ep, ho, r⟩ := R; ⟨z, o, es, ep, u o ho, r⟩
theorem dnO_new {P : Program} {w : World} {H : Hp} {h : Heap} {a : Addr} {xs : List (NestedKey × Addr × Value)} (R : DN0 P w h a xs) : ObjOk P w H h a (DNO P w a xs) := by
  have ⟨_, o, _, _, ho, _⟩ := R
  exact ⟨R, ⟨o, ho⟩, fun h1 h2 p k => DN0.up p k⟩
def IsDN (K : PySem.W.Frag) (P : Program) (w : World) (H : Hp) (a : Addr) (xs : List (NestedKey × Addr × Value)) : Prop :=
  ((H a = some (.dT []) ∧ xs = []) ∨ H a = some (DNO P w a xs)) ∧ ∀ x ∈ xs, NkV K H x.1 (.ref x.2.1) ∧ x.1.depth ≤ 8
section
variable {X : Cx} {pins : List (Addr × Obj)} {σ : L2.St} {H : Hp} {s : Shared} {a : Addr} {xs : List (NestedKey × Addr × Value)}
theorem isDN_full (I : Inv X pins σ H s) (h : IsDN X.K X.prog X.w H a xs) : (a == sysModules) = false ∧ s.heap.DictOfH (nestedKind X.prog X.w) a xs := by
  obtain ⟨h | h, hk⟩ := h
  · obtain ⟨h, rfl⟩ := h
    obtain ⟨z, y, zs, r, o, es, ep, h1, h2, h3, h4, h5⟩ := L2.dt_of I.hok h
    cases r
    exact ⟨y, o, es, ep, h1, h2, h3, by rw [h4]; rfl, fun x m => (by cases m), List.nodup_nil⟩
  · obtain ⟨y, o, es, ep, h1, h2, h3, h4, h5⟩ := (I.hok a _ h).1
    refine ⟨y, o, es, ep, h1, h2, h3, h4, fun x m => ?_, h5⟩
    obtain ⟨n1, n2⟩ := hk x m
    exact ⟨NkV.is I _ _ _ n1 rfl, n2⟩
end
def rSetDN (K : PySem.W.Frag) (P : Program) (w : World) : TSet := fun o i v H Q => ∃ (a : Addr) (xs : List (NestedKey × Addr × Value)) (k : NestedKey) (b : Addr), o = .ref a ∧ i = .ref b ∧ v = .bl true ∧ IsDN K P w H a xs ∧ NkV K H k (.ref b) ∧ k.depth ≤ 8 ∧ xs.length ≤ 100000 ∧
  Q (upd H a (DNO P w a (storedH xs k b (.bool true))))
theorem set_dn {X : Cx} {K : PySem.W.Frag} {P : Program} {w : World} (hK : X.K = K) (hP : X.prog = P) (hw : X.w = w) (hu : X.A.units + 200 < cLine) : PSet X (rSetDN K P w) := by
  subst hK; subst hP; subst hw
  intro pins s σ H o i v ov iv u Q I ro ri rv h
  obtain ⟨a, xs, k, b, rfl, rfl, rfl, hd, hk, h8, hl, q⟩ := h
  cases ro
  have hki := NkV.is I _ _ _ hk ri
  cases ri
  cases rv
  obtain ⟨hy, dd⟩ := isDN_full I hd
  refine wpAny_setItem_heap (knd := nestedKind X.prog X.w) (hsz := by rw [sizeLine_eq]; omega) (by show X.A.units + 1 + 8 < cLine; omega) ⟨hki, h8⟩ dd fun h' dd' hs => ?_
  obtain ⟨o', es, ep, h1, h2, h3, h4, _, h5⟩ := dd'
  have mu : L2.Mut (H a) := by
    rcases hd.1 with ⟨e, _⟩ | e <;> (rw [e]; trivial)
  exact ⟨_, I.write (x := a) (e := a) mu (.inl rfl) (fun c u hb e => (hs.2 c hb).trans e) ⟨_, h1⟩ (dnO_new ⟨hy, o', es, ep, h1, h2, h3, h4, h5⟩), q⟩
def rLenDN (K : PySem.W.Frag) (P : Program) (w : World) : List V → Hp → VK → Prop := fun vs H Q => ∃ (a : Addr) (xs : List (NestedKey × Addr × Value)), vs = [V.ref a] ∧ IsDN K P w H a xs ∧ xs.length ≤ 100000 ∧ Q (.int xs.length) H
theorem len_dn {X : Cx} {K : PySem.W.Frag} {P : Program} {w : World} (hK : X.K = K) (hP : X.prog = P) (hw : X.w = w) : CallR X (.builtin "len") (rLenDN K P w) := by
  subst hK; subst hP; subst hw
  intro pins s σ H vs us Q I r h
  obtain ⟨a, xs, rfl, hd, hl, q⟩ := h
  obtain ⟨u, rfl, rx⟩ := vals1 r
  cases rx
  obtain ⟨hy, o, es, ep, h1, h2, h3, h4, _, _⟩ := isDN_full I hd
  have hT : s.TypeIs (.ref a) "dict" := ⟨o, h1, h2.1⟩
  have hz : es.size = xs.length := by rw [← Array.length_toList, h4, List.length_map]
  refine Calls.call_function_entry kind_len plain_len entry_len (args_len1 _) ?_
  unfold Builtin.«len»
  refine wpAny_bind (m := oneArg "len" _) (wpAny_pure ?_)
  refine wpAny_bind (m := callSpecial? (.ref a) (Str.ofString "__len__")) (wpAny_callSpecial?_slot (name := Str.ofString "__len__") hT PySem.F.slot_dict_len (call_len_raw hy ⟨o, h1, h2, h3⟩ ?_))
  rw [hz]
  refine wpAny_bind (wpAny_holding (wpAny_pure ?_))
  refine wpAny_bind (wpAny_letGo ?_)
  show wpAny _ _ (if ((xs.length : Nat) : Int) < 0 then _ else _) _ _ _
  rw [if_neg (by omega)]
  show wpAny _ _ (if ((xs.length : Nat) : Int) ≥ 2 ^ 63 then _ else _) _ _ _
  rw [if_neg (by omega)]
  exact wpAny_bind (wpAny_mkInt (wpAny_pure ⟨_, rfl, .int xs.length, H, I.tok _, ⟨_, rfl⟩, q⟩))
end Ab
end
section
set_option maxRecDepth 100000
set_option maxHeartbeats 3200000
namespace Ab
open PySem PySem.Spec PyProof.Rows L2
section
variable {e : En} {c : Cn} {L S : List Addr} {σ : L2.St} {H : Hp} {α : State}
theorem Rel.mutX {D0 : Addr} {o o' : HO} (r : Rel e c L S σ H α) (nS : D0 ∉ S) (mL : D0 ∈ L) (h0 : H D0 = some o) (n0 : c.H0 D0 = none) : Rel e c L S σ (upd H D0 o') α := by
  have fzs : Same (fz L H) (fz L (upd H D0 o')) := fz_mut fun a u z n _ => by rw [upd_ne (fun z' => n (by rw [z']; exact mL))]; exact z
  refine ⟨fun i a q => ?_, r.sep, trivial, r.h1, r.nh, fun p m z => ?_, r.sub, r.l0, r.l1, r.s1, ⟨fun a u q n nh => ?_, fun _ => trivial⟩, r.s0, r.d0, r.len⟩
  · obtain ⟨v, h1, h2⟩ := r.slot i a q
    refine ⟨v, h1, ?_⟩
    cases a with
    | dat d => exact Rep.up (d := d) h2 fzs
    | adr _ => exact h2
    | own ct => obtain ⟨p', o2, q', m, n', ho', rc⟩ := h2; exact ⟨p', o2, q', m, n', by rw [upd_ne (fun z => nS (by rw [← z]; exact m))]; exact ho', rc.up fzs⟩
    | inn ct => obtain ⟨p', o2, q', m, n', ho', rc⟩ := h2; exact ⟨p', o2, q', m, n', by rw [upd_ne (fun z => nS (by rw [← z]; exact m))]; exact ho', rc.up fzs⟩
  · by_cases hp : p = D0
    · rw [hp, upd_same] at z; cases z
    · rw [upd_ne hp] at z; exact r.dom p m z
  · rw [upd_ne (ne_of_none q n0)]; exact r.md.k a u q n nh
end
theorem Rel.none0 {e : En} {c : Cn} {L S : List Addr} {σ σ' : L2.St} {H : Hp} {α : State} (R : Rel e c L S σ H α) (h : σ'.length = α.length) : Rel e c L S σ' H (List.replicate α.length none) where
  slot := fun i a q => by rw [List.getElem?_replicate] at q; split at q <;> cases q
  sep := fun i j p hi _ _ _ => by
    rw [List.getElem?_replicate] at hi
    split at hi <;> simp [isOwn] at hi
  inv := R.inv
  h1 := R.h1
  nh := R.nh
  dom := R.dom
  sub := R.sub
  l0 := R.l0
  l1 := R.l1
  s1 := R.s1
  md := R.md
  s0 := R.s0
  d0 := R.d0
  len := by rw [List.length_replicate]; exact h
def keyOkD (d : D) : Bool := kyOk d && decide ((kyD d).depth ≤ 8) && isTupK (kyD d)
def keysE (j : Nat) (sk : State → Option D) : List D → State → Option (List NestedKey)
  | [], _ => some []
  | d :: ds, α => bnd (sk (α.set j (some (.dat d)))) fun kd => if keyOkD kd = true then bnd (keysE j sk ds (α.set j (some (.dat d)))) fun ks => some (kyD kd :: ks) else none
def sKn (i j : Nat) (sx : State → Option (List D)) (sk : State → Option D) : State → Out := fun α =>
  if i < α.length ∧ i ≠ j then (match sx (α.set i none) with
    | some xs => if xs.length ≤ 100000 then (match keysE j sk xs (α.set i none) with | some ks => .ret (.dat (.int (nubK ks).length)) (List.replicate α.length none) | none => .bad) else .bad
    | none => .bad) else .bad
theorem storedH_keys (xs : List (NestedKey × Addr × Value)) (k : NestedKey) (a : Addr) (v : Value) : (storedH xs k a v).map (·.1) = if k ∈ xs.map (·.1) then xs.map (·.1) else xs.map (·.1) ++ [k] := by
  unfold storedH
  have hat : (atKey xs k).isSome = true ↔ k ∈ xs.map (·.1) := by
    unfold atKey
    rw [Option.isSome_map, List.find?_isSome, List.mem_map]
    constructor
    · rintro ⟨x, m, h⟩; exact ⟨x, m, of_decide_eq_true h⟩
    · rintro ⟨x, m, h⟩; exact ⟨x, m, decide_eq_true h⟩
  by_cases h : (atKey xs k).isSome = true
  · rw [if_pos h, if_pos (hat.mp h), List.map_map]
    refine List.map_congr_left fun x _ => ?_
    show (putAt k v x).1 = x.1
    unfold putAt
    split <;> rfl
  · rw [if_neg h, if_neg (fun z => h (hat.mpr z)), List.map_append]; rfl
theorem storedH_mem {xs : List (NestedKey × Addr × Value)} {k : NestedKey} {a : Addr} {v : Value} {x : NestedKey × Addr × Value} (m : x ∈ storedH xs k a v) : (x.1 = k ∧ x.2.1 = a) ∨ ∃ y ∈ xs, y.1 = x.1 ∧ y.2.1 = x.2.1 := by
  unfold storedH at m
  split at m
  · obtain ⟨y, my, e⟩ := List.mem_map.mp m
    refine .inr ⟨y, my, ?_⟩
    rw [← e]
    unfold putAt
    split <;> exact ⟨rfl, rfl⟩
  · rcases List.mem_append.mp m with m | m
    · exact .inr ⟨x, m, rfl, rfl⟩
    · rw [List.mem_singleton.mp m]; exact .inl ⟨rfl, rfl⟩
section
variable {e : En} {E : XK} {P : Program} {w : World} {wi : TI} {te : TE} {sx : State → Option (List D)} {sk : State → Option D} {i j : Nat}
def tKn (K : PySem.W.Frag) (P : Program) (w : World) (i j : Nat) (wi : TI) (te : TE) : TS :=
  tSeq (tAsg tDNewT (gName i)) (tSeq (tFor wi (gName j) (tAsg (tC (.bl true)) (gSub (tVar i) te (rSetDN K P w)))) (tRet (tCB (rLenDN K P w) (tCons (tVar i) tNil))))
theorem st_kn (hi : Evi e wi sx) (hk : Evp e te sk) : Sts e E (tKn e.K P w i j wi te) (sKn i j sx sk) := fun c L S σ H α D R k => by
  unfold sKn at k
  by_cases hil : i < α.length ∧ i ≠ j
  case neg => rw [if_neg hil] at k; exact k.elim
  rw [if_pos hil] at k
  obtain ⟨hia, hij⟩ := hil
  cases hx : sx (α.set i none) with
  | none => rw [hx] at k; exact k.elim
  | some xs =>
    rw [hx] at k
    dsimp only at k
    by_cases hz : xs.length ≤ 100000
    case neg => rw [if_neg hz] at k; exact k.elim
    rw [if_pos hz] at k
    cases hks : keysE j sk xs (α.set i none) with
    | none => rw [hks] at k; exact k.elim
    | some ks =>
      rw [hks] at k
      dsimp only at k
      intro p hp
      have sp : Sm H (upd H p (.dT [])) := same_upd hp
      have n0 : c.H0 p = none := by
        cases z : c.H0 p with
        | none => rfl
        | some o =>
          by_cases hs : p ∈ c.S0
          · exact absurd hp (R.dom p (R.l0 p (R.s0 p hs)))
          · rw [R.md.k p o z hs (fun h => h)] at hp; cases hp
      have pS : p ∉ S := fun m => R.dom p (R.sub p m) hp
      have R0 : Rel e c (p :: L) S (σ.set i (some (.ref p))) (upd H p (.dT [])) (α.set i none) := (by have z := ((R.more sp hp upd_same).setA i p).forget i; rwa [List.set_set] at z)
      have hsi : (σ.set i (some (V.ref p)))[i]? = some (some (.ref p)) := List.getElem?_set_self (by rw [R.len]; exact hia)
      show wi (σ.set i (some (.ref p))) (upd H p (.dT [])) _
      refine hi c (p :: L) S _ _ _ xs R0 hx _ fun J H1 e1 wk => ?_
      have hp1 : H1 p = some (.dT []) := e1.k p _ upd_same (fun h => h)
      refine ⟨fun m r σ' H' => r = xs.length - m ∧ m ≤ xs.length ∧ ∃ α' zs us, Rel e c (p :: L) S σ' H' α' ∧ α'.length = α.length ∧ σ'[i]? = some (some (.ref p)) ∧ Same (fz (p :: L) H1) (fz (p :: L) H') ∧
          ((H' p = some (.dT []) ∧ zs = []) ∨ H' p = some (DNO P w p zs)) ∧ (∀ x ∈ zs, NkV e.K (fz (p :: L) H') x.1 (.ref x.2.1) ∧ x.1.depth ≤ 8) ∧ zs.length ≤ m ∧ (zs.map (·.1)).Nodup ∧
          (∃ us, keysE j sk (xs.drop m) α' = some us ∧ ∀ y, y ∈ ks ↔ y ∈ zs.map (·.1) ∨ y ∈ us),
        ⟨xs.length, by simp, Nat.zero_le _, α.set i none, [], ks, R0.up e1, by rw [List.length_set], hsi, Same.refl _, .inl ⟨hp1, rfl⟩, fun x m => (by cases m), Nat.le_refl _, List.nodup_nil, ks, hks, fun y => by simp⟩, ?_⟩
      rintro m r σ2 H2 ⟨rfl, hm, α2, zs, _, R2, hlen, hs2, f2, hd, hn, hzl, hnd, us, hus, hmem⟩
      obtain ⟨w1, w2, w3⟩ := wk (p :: L) H2 f2 R2.dm m
      by_cases hlt : m < xs.length
      · refine .inr ⟨w1 hlt, fun σ' H' => ∃ α' zs us, Rel e c (p :: L) S σ' H' α' ∧ α'.length = α.length ∧ σ'[i]? = some (some (.ref p)) ∧ Same (fz (p :: L) H1) (fz (p :: L) H') ∧
          ((H' p = some (.dT []) ∧ zs = []) ∨ H' p = some (DNO P w p zs)) ∧ (∀ x ∈ zs, NkV e.K (fz (p :: L) H') x.1 (.ref x.2.1) ∧ x.1.depth ≤ 8) ∧ zs.length ≤ m + 1 ∧ (zs.map (·.1)).Nodup ∧
          (∃ us, keysE j sk (xs.drop (m + 1)) α' = some us ∧ ∀ y, y ∈ ks ↔ y ∈ zs.map (·.1) ∨ y ∈ us), fun σ' H' h => ⟨xs.length - (m + 1), by omega, rfl, hlt, h⟩, fun v H3 y => ?_⟩
        obtain ⟨e3, r3⟩ := w3 xs[m] v H3 (List.getElem?_eq_getElem hlt) y
        rw [List.drop_eq_getElem_cons hlt] at hus
        unfold keysE at hus
        obtain ⟨kd, hkd, hus⟩ := bnd_some hus
        split at hus
        case isFalse => cases hus
        rename_i hok
        obtain ⟨us', hus', hus⟩ := bnd_some hus
        cases hus
        have R3 : Rel e c (p :: L) S (σ2.set j (some v)) H3 (α2.set j (some (.dat xs[m]))) := (R2.up e3).setD r3
        have hs3 : (σ2.set j (some v))[i]? = some (some (.ref p)) := by rw [List.getElem?_set_ne (Ne.symm hij)]; exact hs2
        show ∃ u, (σ2.set j (some v))[i]? = some (some u) ∧ _
        refine ⟨_, hs3, ?_⟩
        refine hk c (p :: L) S _ _ _ kd R3 hkd _ fun kv H4 e4 r4 => ?_
        simp only [keyOkD, Bool.and_eq_true, decide_eq_true_eq] at hok
        obtain ⟨⟨ok1, ok2⟩, ok3⟩ := hok
        have nk := nk_of kd kv ok1 r4
        obtain ⟨b, hb⟩ : ∃ b, kv = .ref b := by
          cases hkk : kyD kd with
          | tup js => rw [hkk] at nk; obtain ⟨b, _, q, _⟩ := nk; exact ⟨b, q⟩
          | _ => rw [hkk] at ok3; cases ok3
        subst hb
        have e34 : Sm H2 H4 := e3.trans e4
        have f4 : Same (fz (p :: L) H2) (fz (p :: L) H4) := fz_same e34
        have hd4 : (H4 p = some (.dT []) ∧ zs = []) ∨ H4 p = some (DNO P w p zs) := hd.imp (fun ⟨a, b⟩ => ⟨e34.k p _ a (fun h => h), b⟩) fun a => e34.k p _ a (fun h => h)
        obtain ⟨o4, ho4⟩ : ∃ o, H4 p = some o := hd4.elim (fun ⟨a, _⟩ => ⟨_, a⟩) fun a => ⟨_, a⟩
        refine ⟨p, zs, kyD kd, b, rfl, rfl, rfl, ⟨hd4, fun x mx => ⟨NkV.up fz_le _ _ (NkV.up f4 _ _ (hn x mx).1), (hn x mx).2⟩⟩, NkV.up fz_le _ _ nk, ok2, by omega, ?_⟩
        have R5 := (R3.up e4).mutX (o' := DNO P w p (storedH zs (kyD kd) b (.bool true))) pS List.mem_cons_self ho4 n0
        have f5 : Same (fz (p :: L) H4) (fz (p :: L) (upd H4 p (DNO P w p (storedH zs (kyD kd) b (.bool true))))) := fz_mut fun a u z n _ => by rw [upd_ne (fun z' => n (by rw [z']; exact List.mem_cons_self))]; exact z
        show ∃ α' zs us, _
        refine ⟨_, storedH zs (kyD kd) b (.bool true), us', R5, by rw [List.length_set]; exact hlen, hs3, f2.trans (f4.trans f5), .inr upd_same, fun x mx => ?_, ?_, ?_, us', hus', fun y => ?_⟩
        · rcases storedH_mem mx with ⟨q1, q2⟩ | ⟨z, mz, q1, q2⟩
          · rw [q1, q2]; exact ⟨NkV.up f5 _ _ nk, ok2⟩
          · rw [← q1, ← q2]; exact ⟨NkV.up (f4.trans f5) _ _ (hn z mz).1, (hn z mz).2⟩
        · have q := congrArg List.length (storedH_keys zs (kyD kd) b (.bool true))
          rw [List.length_map] at q
          rw [q]
          split <;> simp <;> omega
        · rw [storedH_keys]
          split
          · exact hnd
          · rename_i hni
            rw [List.nodup_append]
            exact ⟨hnd, by simp, fun a ha b hb e => hni (by simp at hb; rw [← hb, ← e]; exact ha)⟩
        · rw [hmem y, storedH_keys]
          split
          · rename_i hin
            constructor
            · rintro (h | h)
              · exact .inl h
              · rcases List.mem_cons.mp h with h | h
                · rw [h]; exact .inl hin
                · exact .inr h
            · rintro (h | h)
              · exact .inl h
              · exact .inr (List.mem_cons_of_mem _ h)
          · rw [List.mem_append, List.mem_singleton, List.mem_cons]
            constructor
            · rintro (h | h | h)
              · exact .inl (.inl h)
              · exact .inl (.inr h)
              · exact .inr h
            · rintro ((h | h) | h)
              · exact .inl h
              · exact .inr (.inl h)
              · exact .inr (.inr h)
      · have e2 : m = xs.length := by omega
        subst e2
        rw [List.drop_length] at hus
        cases hus
        refine .inl ⟨w2 (Nat.le_refl _), ?_⟩
        show ∃ u, σ2[i]? = some (some u) ∧ _
        refine ⟨_, hs2, ?_⟩
        refine ⟨p, zs, rfl, ⟨hd, fun x mx => ⟨NkV.up fz_le _ _ (hn x mx).1, (hn x mx).2⟩⟩, by omega, ?_⟩
        have hc : zs.length = (nubK ks).length := by
          rw [← List.length_map (as := zs) (·.1)]
          refine Nat.le_antisymm (nd_le _ _ hnd fun y my => nubK_mem.mpr ((hmem y).mpr (.inl my))) (nd_le _ _ (nubK_nodup _) fun y my => ?_)
          rcases (hmem y).mp (nubK_mem.mp my) with h | h
          · exact h
          · cases h
        rw [hc]
        refine k _ (p :: L) S σ2 H2 ?_ rfl
        have RN := R2.none0 (σ' := σ2) R2.len
        rw [hlen] at RN
        exact RN
end
@[simp] theorem a_sKn {i j : Nat} {sx : State → Option (List D)} {sk : State → Option D} {α : State} : sKn i j sx sk α = if i < α.length ∧ i ≠ j then (match sx (α.set i none) with
    | some xs => if xs.length ≤ 100000 then (match keysE j sk xs (α.set i none) with | some ks => .ret (.dat (.int (nubK ks).length)) (List.replicate α.length none) | none => .bad) else .bad
    | none => .bad) else .bad := (rfl)
end Ab
end
section
set_option maxRecDepth 100000
set_option maxHeartbeats 1000000
namespace Ab
open PySem L2 PyProof.Rows PySem.Spec
variable [Hd]
def minL : List Int → Int
  | [] => 0 | n :: ns => ns.foldl min n
def maxL : List Int → Int
  | [] => 0 | n :: ns => ns.foldl max n
omit [Hd] in
theorem foldl_min : ∀ (ns : List Int) (n : Int), ns.foldl min n ∈ n :: ns ∧ ∀ x ∈ n :: ns, ns.foldl min n ≤ x
  | [], n => ⟨by simp, fun x hx => by rw [List.mem_singleton.mp hx]; exact Int.le_refl _⟩
  | a :: ns, n => by
    obtain ⟨h1, h2⟩ := foldl_min ns (min n a)
    refine ⟨?_, fun x hx => ?_⟩
    · rcases List.mem_cons.mp h1 with h | h
      · rw [List.foldl_cons, h]
        by_cases q : n ≤ a
        · rw [Int.min_eq_left q]; simp
        · rw [Int.min_eq_right (by omega)]; simp
      · exact List.mem_cons_of_mem _ (List.mem_cons_of_mem _ h)
    · have h3 := h2 (min n a) List.mem_cons_self
      rw [List.foldl_cons]
      rcases List.mem_cons.mp hx with rfl | hx
      · have := Int.min_le_left x a; omega
      · rcases List.mem_cons.mp hx with rfl | hx
        · have := Int.min_le_right n x; omega
        · exact h2 x (List.mem_cons_of_mem _ hx)
omit [Hd] in
theorem foldl_max : ∀ (ns : List Int) (n : Int), ns.foldl max n ∈ n :: ns ∧ ∀ x ∈ n :: ns, x ≤ ns.foldl max n
  | [], n => ⟨by simp, fun x hx => by rw [List.mem_singleton.mp hx]; exact Int.le_refl _⟩
  | a :: ns, n => by
    obtain ⟨h1, h2⟩ := foldl_max ns (max n a)
    refine ⟨?_, fun x hx => ?_⟩
    · rcases List.mem_cons.mp h1 with h | h
      · rw [List.foldl_cons, h]
        by_cases q : n ≤ a
        · rw [Int.max_eq_right q]; simp
        · rw [Int.max_eq_left (by omega)]; simp
      · exact List.mem_cons_of_mem _ (List.mem_cons_of_mem _ h)
    · have h3 := h2 (max n a) List.mem_cons_self
      rw [List.foldl_cons]
      rcases List.mem_cons.mp hx with rfl | hx
      · have := Int.le_max_left x a; omega
      · rcases List.mem_cons.mp hx with rfl | hx
        · have := Int.le_max_right n x; omega
        · exact h2 x (List.mem_cons_of_mem _ hx)
omit [Hd] in
theorem minL_is {ns : List Int} {m : Int} (h : m ∈ ns) (hl : ∀ x ∈ ns, m ≤ x) : minL ns = m := by
  cases ns with
  | nil => exact nomatch h
  | cons n ns =>
    obtain ⟨h1, h2⟩ := foldl_min ns n
    have a := h2 m h
    have b := hl _ h1
    show ns.foldl min n = m
    omega
omit [Hd] in
theorem maxL_is {ns : List Int} {m : Int} (h : m ∈ ns) (hl : ∀ x ∈ ns, x ≤ m) : maxL ns = m := by
  cases ns with
  | nil => exact nomatch h
  | cons n ns =>
    obtain ⟨h1, h2⟩ := foldl_max ns n
    have a := h2 m h
    have b := hl _ h1
    show ns.foldl max n = m
    omega
def rMinL (K : PySem.W.Frag) : List V → Hp → VK → Prop := fun vs H Q => ∃ (a : Addr) (ns : List Int), vs = [V.ref a] ∧ SqL K H a (ns.map V.int) ∧ 0 < ns.length ∧ Q (.int (minL ns)) H
def rMaxL (K : PySem.W.Frag) : List V → Hp → VK → Prop := fun vs H Q => ∃ (a : Addr) (ns : List Int), vs = [V.ref a] ∧ SqL K H a (ns.map V.int) ∧ 0 < ns.length ∧ Q (.int (maxL ns)) H
omit [Hd] in
theorem cr_minL {X : Cx} (hc : X.calm = true) : CallR X (.builtin "min") (rMinL X.K) := fun pins s σ H xs us Q I r ⟨a, ns, hx, hs, hn, q⟩ => cr_min hc pins s σ H xs us Q I r ⟨a, ns, hx, hs, hn, fun m hm hl => by rw [← minL_is hm hl]; exact q⟩
omit [Hd] in
theorem cr_maxL {X : Cx} (hc : X.calm = true) : CallR X (.builtin "max") (rMaxL X.K) := fun pins s σ H xs us Q I r ⟨a, ns, hx, hs, hn, q⟩ => cr_max hc pins s σ H xs us Q I r ⟨a, ns, hx, hs, hn, fun m hm hl => by rw [← maxL_is hm hl]; exact q⟩
omit [Hd] in
theorem minL_q {X : Cx} {K : PySem.W.Frag} (h : X.K = K) (hc : X.calm = true) : CallR X (.builtin "min") (rMinL K) := h ▸ cr_minL hc
omit [Hd] in
theorem maxL_q {X : Cx} {K : PySem.W.Frag} (h : X.K = K) (hc : X.calm = true) : CallR X (.builtin "max") (rMaxL K) := h ▸ cr_maxL hc
section
variable {e : En} {te : TE} {sq : State → Option (List D)}
def fMinL (xs : List D) : Option D := bnd (dints xs) fun ns => if 0 < ns.length then some (.int (minL ns)) else none
def fMaxL (xs : List D) : Option D := bnd (dints xs) fun ns => if 0 < ns.length then some (.int (maxL ns)) else none
def xMinL (sq : State → Option (List D)) : State → Option D := fun α => bnd (sq α) fMinL
def xMaxL (sq : State → Option (List D)) : State → Option D := fun α => bnd (sq α) fMaxL
theorem ev_minL (h : EvqL e te sq) : Evp e (tCB (rMinL e.K) (tCons te tNil)) (xMinL sq) := fun c L S σ H α d R q Q k => by
  obtain ⟨xs, h1, q⟩ := bnd_some q
  obtain ⟨ns, h2, q⟩ := bnd_some q
  split at q
  · rename_i hn
    cases q
    exact h c L S σ H α xs R h1 _ fun a vs H' e1 r1 r2 => ⟨a, ns, rfl, by rw [← dints_rep h2 r2]; exact fz_le.seq r1, hn, k _ H' e1 rfl⟩
  · cases q
theorem ev_maxL (h : EvqL e te sq) : Evp e (tCB (rMaxL e.K) (tCons te tNil)) (xMaxL sq) := fun c L S σ H α d R q Q k => by
  obtain ⟨xs, h1, q⟩ := bnd_some q
  obtain ⟨ns, h2, q⟩ := bnd_some q
  split at q
  · rename_i hn
    cases q
    exact h c L S σ H α xs R h1 _ fun a vs H' e1 r1 r2 => ⟨a, ns, rfl, by rw [← dints_rep h2 r2]; exact fz_le.seq r1, hn, k _ H' e1 rfl⟩
  · cases q
@[simp] theorem a_xMinL {α : State} : xMinL sq α = bnd (sq α) fMinL := (rfl)
@[simp] theorem a_xMaxL {α : State} : xMaxL sq α = bnd (sq α) fMaxL := (rfl)
theorem dints_map : ∀ ns : List Int, dints (ns.map .int) = some ns
  | [] => rfl
  | n :: ns => by simp [dints, dints_map ns]
theorem fMinL_i {ns : List Int} (h : 0 < ns.length) : fMinL (ns.map .int) = some (.int (minL ns)) := by unfold fMinL; rw [dints_map]; simp [h]
theorem fMaxL_i {ns : List Int} (h : 0 < ns.length) : fMaxL (ns.map .int) = some (.int (maxL ns)) := by unfold fMaxL; rw [dints_map]; simp [h]
end
end Ab
end
section
set_option maxRecDepth 100000
set_option maxHeartbeats 1000000
namespace Ab
open PySem L2 PyProof.Rows PySem.Spec
variable [Hd]
section
variable {X : Cx} {k : Nat} {C f : Addr} {mc : Value} {fd : FuncData} {ps : List Str} {sp : Sp} {e : Expr} {es : List Expr} {x m : Str} {pos apos p1 : Pos} {t : TA} {pl : Sem Bool}
theorem pe_cfun (hg : Gl X x) (hm : X.mg x = some (.ref C)) (r : ClX.CRead X.K C mc) (cv : ClX.CVal X.K C mc m (.ref f) (.ref f)) (kp : PySem.W.keepIn X.K (.ref f) = true) (F : FnOk X.prog X.w X.K X.mg X.base CX0 k f fd ps sp) (hr : Room k X.A) (hb : Binds X.K fd ps []) (ha : PA X (e :: es) t)
    (hst : starEach (e :: es) X.env = (false, eval e X.env) :: starEach es X.env := by rfl) (hpl : (backTo pos (starEach es X.env)).any (·.1) = false := by rfl) (hdb : (x == ("__debug__" : Str)) = false := by decide)
    (ht : eval (.Call (.Attribute (.Name x p1) m apos) (e :: es) [] pos) X.env = (do
      let ov ← eval (.Name x p1) X.env
      standAt apos.atName
      let (f, first) ← holding [ov] (getMethod ov m pl)
      callWith pos f first (backTo pos (starEach (e :: es) X.env)) (backToKw pos (keywordEach [] X.env))) := by rfl) :
    PE X (.Call (.Attribute (.Name x p1) m apos) (e :: es) [] pos) (tCall sp [] E0 t) := by
  refine ⟨fun pins s σ H Q I h => ?_⟩
  refine PySem.W.methodCall_KW (pl := pl) (ld_glob I hg hm ?_ hdb) ht
  refine PySem.W.method_cls I.kIn r.ga (ClX.getcval_ok I r cv fun s2 I2 => ?_)
  exact PySem.W.callWith_K (first := []) (h₀ := X.base) I.ok.mod.kin kp (thn (ha.run pos pins s2 σ H _ I2 h) fun us s3 ⟨vs, H2, I3, r3, q2⟩ => ⟨I3.kIn, run_fn (us := us) (vs := vs) F hr hb .nil pass0 I3 r3 q2⟩) hst hpl
end
theorem rest_P {K : PySem.W.Frag} {cls : String → Addr} {N : List Str} {n kk : Nat} {vs : List V} {H : Hp} {Q : VK} {E : XK} {t : TS} {s : State → Out} {m : List D → Option D} (hn : N.length = n) (hps : kk ≤ n) (hmm : m = runP n kk s) (h2 : Sts ⟨K, cls⟩ E0 t s) (h : spP ⟨K, cls⟩ m vs H Q E) :
    t { nx := fun _ H' => Q .non H', rt := Q } (start N vs) H := by
  subst hn hmm
  obtain ⟨L, ds, d, dm, r, hm, q⟩ := h
  unfold runP at hm
  split at hm
  · rename_i hl
    have hvl : vs.length = kk := by rw [r.len, hl]
    have R := inP_rel (N := N) dm r (by omega)
    rw [hvl] at R
    refine h2 _ _ _ _ _ _ _ R ?_
    split at hm
    · rename_i d' β hs
      cases hm
      rw [hs]
      intro v L' S' σ' H' R' rr
      exact q v H' R'.md.same (Rep.mono (fz_anti R'.l0) _ _ rr)
    · rename_i xs β hs
      cases hm
      rw [hs]
      intro v L' S' σ' H' R' rr
      obtain ⟨p, us, rfl, n0, hp, r2⟩ := rr
      refine q _ H' R'.md.same ⟨p, us, rfl, .inl (.inl (fz_new (R'.n0 n0) hp)), r2.up (fz_anti fun a m => List.mem_cons_of_mem _ (R'.l0 a m))⟩
    · rename_i β hs
      cases hm
      rw [hs]
      intro L' S' σ' H' _ R'
      exact q _ H' R'.md.same rfl
    · cases hm
  · cases hm
end Ab
end
section
set_option maxRecDepth 100000
set_option maxHeartbeats 1000000
namespace Ab
open PySem L2 PyProof.Rows PySem.Spec PowS
theorem vf_reps {e : En} {F : Hp} {f : Nat → Int} {n : Nat} : Reps e F (df f n) (vf f n) := by
  unfold df vf
  generalize List.range n = l
  induction l with
  | nil => exact Reps.nil
  | cons x l ih => exact Reps.cons rfl ih
structure CalF (P : Program) (w : World) (K : PySem.W.Frag) (mg : Str → Option Value) (base : Heap) (x m : Str) (ps : List Str) (k : Nat) (sp : Sp) : Prop where
  ex : ∃ f fd C mc, FnOk P w K mg base CX0 k f fd ps sp ∧ mg x = some (.ref C) ∧ ClX.CRead K C mc ∧ ClX.CVal K C mc m (.ref f) (.ref f) ∧ PySem.W.keepIn K (.ref f) = true ∧ Binds K fd ps []
section
variable {X : Cx} {k j : Nat} {ps : List Str} {sp : Sp} {e : Expr} {es : List Expr} {x m : Str} {pos apos p1 : Pos} {t : TA} {pl : Sem Bool}
theorem pe_calF (C : CalF X.prog X.w X.K X.mg X.base x m ps k sp) (hg : Gl X x) (hr : Room j X.A) (hkj : k ≤ j) (ha : PA X (e :: es) t)
    (hst : starEach (e :: es) X.env = (false, eval e X.env) :: starEach es X.env := by rfl) (hpl : (backTo pos (starEach es X.env)).any (·.1) = false := by rfl) (hdb : (x == ("__debug__" : Str)) = false := by decide)
    (ht : eval (.Call (.Attribute (.Name x p1) m apos) (e :: es) [] pos) X.env = (do
      let ov ← eval (.Name x p1) X.env
      standAt apos.atName
      let (f, first) ← holding [ov] (getMethod ov m pl)
      callWith pos f first (backTo pos (starEach (e :: es) X.env)) (backToKw pos (keywordEach [] X.env))) := by rfl) :
    PE X (.Call (.Attribute (.Name x p1) m apos) (e :: es) [] pos) (tCall sp [] E0 t) := by
  obtain ⟨f, fd, C, mc, F, hm, r, cv, kp, hb⟩ := C.ex
  exact pe_cfun (pl := pl) hg hm r cv kp F (hr.mono hkj) hb ha hst hpl hdb ht
end
theorem dom0 (H : Hp) : Dom [] H := ⟨(fun _ z => absurd z (by simp)), (fun _ z => absurd z (by simp)), trivial⟩
theorem sm_same {H H' : Hp} (h : Sm H H') : L2.Same H H' := fun a o q => h.k a o q (fun z => z)
theorem evp_at {e : En} {te : TE} {s : State → Option D} (h : Evp e te s) {N : List Str} {vs : List V} {ds : List D} {d : D} {H : Hp} {Q : VK} (hk : vs.length ≤ N.length) (r : Reps e H ds vs) (hs : s (inP N.length vs.length ds) = some d) (q : ∀ v H', L2.Same H H' → Rep e H' d v → Q v H') : te (start N vs) H Q := by
  have R := inP_rel (N := N) (e := e) (dom0 H) (by rw [fz0]; exact r) hk
  refine h _ _ _ _ _ _ d R hs _ fun v H' e1 r1 => q v H' (sm_same e1) ?_
  rw [fz0] at r1; exact r1
def intAt (xs : List D) (i : Nat) : Int := match xs[i]? with | some (.int v) => v | _ => 0
def isIntD : D → Bool
  | .int _ => true
  | _ => false
open Classical in
noncomputable def serM (k : SK) : List D → Option (List D) := fun ds => match ds with
  | [.lst xs] => if xs.length ≤ 64 ∧ xs.all isIntD = true ∧ (∀ i, i < xs.length → OkS k (intAt xs) i) then some (df (serV k (intAt xs)) xs.length) else none
  | _ => none
theorem intAt_df {a : Nat → Int} {n i : Nat} (h : i < n) : intAt (df a n) i = a i := by unfold intAt; rw [df_get h]
theorem serM_df {k : SK} {a : Nat → Int} {n : Nat} (hn : n ≤ 64) (o : ∀ i, i < n → OkS k a i) : serM k [.lst (df a n)] = some (df (serV k a) n) := by
  have hl : ∀ x, x < n → intAt (df a n) x = a x := fun x hx => intAt_df hx
  unfold serM
  dsimp only
  rw [df_len, if_pos ⟨hn, by unfold df; simp [isIntD], fun i hi => okS_local hl hi (o i hi)⟩]
  rw [df_ext fun i hi => ser_local hl i hi]
theorem ints_of {e : En} {F : Hp} : ∀ {xs : List D} {vs : List V}, Reps e F xs vs → xs.all isIntD = true → vs = vf (intAt xs) xs.length
  | [], _, r, _ => by cases r; rfl
  | x :: xs, _, ⟨v, r, q, rx, rr⟩, h => by
    subst q
    simp only [List.all_cons, Bool.and_eq_true] at h
    have ih := ints_of rr h.2
    obtain ⟨i, rfl⟩ : ∃ i, x = .int i := by cases x <;> first | exact ⟨_, rfl⟩ | (simp [isIntD] at h)
    cases rx
    rw [ih]
    unfold vf
    rw [List.length_cons, List.range_succ_eq_map, List.map_cons, List.map_map]
    rfl
theorem reps_vf {e : En} {F : Hp} {f : Nat → Int} {n : Nat} : Reps e F (df f n) (vf f n) := vf_reps
theorem ExtS.nolook {e : En} {k : SK} {H : Hp} {ex : List (Str × V)} {cs : List Addr} {a : Nat → Int} {i : Nat} (s : ExtS e k H ex cs a i) : List.lookup ("newest" : Str) ex = none ∧ List.lookup ("grow" : Str) ex = none ∧ List.lookup ("weight" : Str) ex = none := by
  cases k with
  | row => rw [s.1]; exact ⟨rfl, rfl, rfl⟩
  | nrow => rw [s.1]; exact ⟨rfl, rfl, rfl⟩
  | nbag => rw [s.1]; exact ⟨rfl, rfl, rfl⟩
  | bag => obtain ⟨t, rfl, _⟩ := s; exact ⟨rfl, rfl, rfl⟩
  | cho => obtain ⟨t, rfl, _⟩ := s; exact ⟨rfl, rfl, rfl⟩
  | ring => obtain ⟨q, g, m, t, rfl, _⟩ := s; exact ⟨rfl, rfl, rfl⟩
  | nring => obtain ⟨q, g, m, rfl, _⟩ := s; exact ⟨rfl, rfl, rfl⟩
def spGrown (e : En) (k : SK) : Sp := fun vs H Q _ => ∃ p cs a n b Hb, vs = [.ref p, .ref b] ∧ SerAt e k H p cs a 0 ∧ L2.Same Hb H ∧ (∀ x ∈ cs, Hb x = none) ∧ SqL e.K Hb b (vf a n) ∧ (∀ i, i < n → OkS k a i) ∧ ∀ q H', Fr cs H H' → H q = none → H' q = some (.lst (vf (serV k a) n)) → Q (.ref q) H'
theorem same_fr {Hb H H' : Hp} {cs : List Addr} (s : L2.Same Hb H) (n : ∀ x ∈ cs, Hb x = none) (f : Fr cs H H') : L2.Same Hb H' := fun a o h => f a o (s a o h) fun m => by rw [n a m] at h; cases h
def serDr (c : String) (a P : Nat → Int) (i j : Nat) : D := .ins c [("gone", .lst (df a i)), ("made", .lst (df P j))]
theorem serDr_gone (c : String) (a P : Nat → Int) (i j : Nat) : List.lookup ("gone" : Str) [(("gone" : Str), D.lst (df a i)), ("made", D.lst (df P j))] = some (.lst (df a i)) := rfl
theorem serDr_made (c : String) (a P : Nat → Int) (i j : Nat) : List.lookup ("made" : Str) [(("gone" : Str), D.lst (df a i)), ("made", D.lst (df P j))] = some (.lst (df P j)) := rfl
theorem sn_mul {x y : Int} {m n : Nat} (a : Sn x m) (b : Sn y n) (h : m + n ≤ 40) : CMulW x y := wide_mul a b (by omega) (by omega) (by omega)
theorem pow_mono' {a b : Nat} (h : a ≤ b) : 2 ^ a ≤ 2 ^ b := Nat.pow_le_pow_right (by decide) h
def serDw (c : String) (a P W : Nat → Int) (i j l : Nat) : D := .ins c [("gone", .lst (df a i)), ("made", .lst (df P j)), ("weights", .lst (df W l))]
theorem serDw_gone (c : String) (a P W : Nat → Int) (i j l : Nat) : List.lookup ("gone" : Str) [(("gone" : Str), D.lst (df a i)), ("made", D.lst (df P j)), ("weights", D.lst (df W l))] = some (.lst (df a i)) := rfl
theorem serDw_made (c : String) (a P W : Nat → Int) (i j l : Nat) : List.lookup ("made" : Str) [(("gone" : Str), D.lst (df a i)), ("made", D.lst (df P j)), ("weights", D.lst (df W l))] = some (.lst (df P j)) := rfl
theorem serDw_weights (c : String) (a P W : Nat → Int) (i j l : Nat) : List.lookup ("weights" : Str) [(("gone" : Str), D.lst (df a i)), ("made", D.lst (df P j)), ("weights", D.lst (df W l))] = some (.lst (df W l)) := rfl
theorem divW_le {i j : Int} (h0 : 0 < j) (hj : j.natAbs < 2 ^ 10) : CDivW i j := wide_div h0 hj (by decide) (by decide)
theorem lt_pow {x a b : Nat} (h : x < 2 ^ a) (hab : a ≤ b) : x < 2 ^ b := Nat.lt_of_lt_of_le h (pow_mono' hab)
theorem sn_small {x y : Int} {n : Nat} (a : x.natAbs < 2 ^ 20) (b : Sn y n) (h : n ≤ 40) : CMulW x y := wide_mul a b (by decide) (by omega) (by omega)
theorem sum_le {B : Nat} : ∀ (xs : List Int), (∀ x ∈ xs, x.natAbs ≤ B) → xs.sum.natAbs ≤ xs.length * B
  | [], _ => by simp
  | x :: xs, h => by
    have h1 := h x List.mem_cons_self
    have h2 := sum_le xs fun y m => h y (List.mem_cons_of_mem _ m)
    rw [List.sum_cons, List.length_cons, Nat.succ_mul]
    have := Int.natAbs_add_le x xs.sum
    omega
theorem dvs_le (k : Nat) : (dvs k).length ≤ k := by
  unfold dvs
  exact Nat.le_trans (List.length_filter_le _ _) (by rw [List.length_range]; exact Nat.le_refl _)
theorem sum_dvs_lt {k : Nat} {f : Nat → Int} {b : Nat} (hk : k < 64) (h : ∀ t ∈ dvs k, (f t).natAbs ≤ 2 ^ b) : ((dvs k).map f).sum.natAbs < 2 ^ (b + 6) := by
  have h1 := sum_le ((dvs k).map f) (B := 2 ^ b) fun x hx => by
    obtain ⟨t, ht, rfl⟩ := List.mem_map.mp hx
    exact h t ht
  rw [List.length_map] at h1
  have h2 := dvs_le k
  have h3 : (dvs k).length * 2 ^ b ≤ 63 * 2 ^ b := Nat.mul_le_mul_right _ (by omega)
  have h4 : 2 ^ (b + 6) = 64 * 2 ^ b := by rw [Nat.pow_add]; omega
  have h5 : 0 < 2 ^ b := Nat.two_pow_pos b
  omega
theorem mul_le_pow {x y : Int} {a b : Nat} (hx : x.natAbs ≤ 2 ^ a) (hy : y.natAbs ≤ 2 ^ b) : (x * y).natAbs ≤ 2 ^ (a + b) := by
  rw [Int.natAbs_mul, Nat.pow_add]
  exact Nat.mul_le_mul hx hy
theorem bagW_bd {a : Nat → Int} {k : Nat} (hk : k < 64) (h : ∀ x, x ≤ k → Sn (a x) x) : (bagW a k).natAbs < 2 ^ (22000 * (k + 1) + 12) := by
  rw [show 22000 * (k + 1) + 12 = (22000 * (k + 1) + 6) + 6 by omega]
  refine sum_dvs_lt hk fun t ht => ?_
  have hd := dvs_mem ht
  refine Nat.le_trans (mul_le_pow (a := 6) (b := 22000 * (t + 1 + 1)) ?_ (Nat.le_of_lt (h _ (by omega)))) (pow_mono' (by omega))
  omega
theorem choW_bd {a : Nat → Int} {k : Nat} (hk : k < 64) (h : ∀ x, x ≤ k → Sn (a x) x) : (choW a k).natAbs < 2 ^ (22000 * (k + 1) + 12) := by
  rw [show 22000 * (k + 1) + 12 = (22000 * (k + 1) + 6) + 6 by omega]
  refine sum_dvs_lt hk fun t ht => ?_
  have hd := dvs_mem ht
  refine Nat.le_trans (mul_le_pow (a := 6 + 22000 * (t + 1 + 1)) (b := 0) (mul_le_pow (a := 6) (b := 22000 * (t + 1 + 1)) ?_ (Nat.le_of_lt (h _ (by omega)))) ?_) (pow_mono' (by omega))
  · omega
  · have : k / (t + 1) % 2 < 2 := Nat.mod_lt _ (by decide)
    omega
theorem wsn_mul {x y : Int} {m n : Nat} (a : x.natAbs < 2 ^ (22000 * (m + 1) + 12)) (b : Sn y n) (h : m + n ≤ 40) : CMulW x y := wide_mul a b (by omega) (by omega) (by omega)
def serDg (a P M : Nat → Int) (i j l c : Nat) : D := .ins "RingSeries" [("gone", .lst (df a i)), ("made", .lst (df P j)), ("lines", serDr "RowSeries" a (rowV a) l l), ("marked", .lst (df M c))]
theorem serDg_gone (a P M : Nat → Int) (i j l c : Nat) : List.lookup ("gone" : Str) [(("gone" : Str), D.lst (df a i)), ("made", .lst (df P j)), ("lines", serDr "RowSeries" a (rowV a) l l), ("marked", .lst (df M c))] = some (.lst (df a i)) := rfl
theorem serDg_lines (a P M : Nat → Int) (i j l c : Nat) : List.lookup ("lines" : Str) [(("gone" : Str), D.lst (df a i)), ("made", .lst (df P j)), ("lines", serDr "RowSeries" a (rowV a) l l), ("marked", .lst (df M c))] = some (serDr "RowSeries" a (rowV a) l l) := rfl
theorem serDg_marked (a P M : Nat → Int) (i j l c : Nat) : List.lookup ("marked" : Str) [(("gone" : Str), D.lst (df a i)), ("made", .lst (df P j)), ("lines", serDr "RowSeries" a (rowV a) l l), ("marked", .lst (df M c))] = some (.lst (df M c)) := rfl
theorem sm_le {f : Nat → Int} {B : Nat} : ∀ {n : Nat}, (∀ i, i < n → (f i).natAbs ≤ B) → (sm f n).natAbs ≤ n * B
  | 0, _ => by simp [sm]
  | n + 1, h => by
    have h1 := sm_le (n := n) fun i hi => h i (by omega)
    have h2 := h n (by omega)
    have := Int.natAbs_add_le (sm f n) (f n)
    rw [Nat.succ_mul]
    show (sm f n + f n).natAbs ≤ _
    omega
theorem markV_bd {a : Nat → Int} {n : Nat} (hn : n < 41) (h : ∀ x, x ≤ n → Sn (a x) x) (hr : ∀ x, x ≤ n → Sn (rowV a x) x) : (markV a n).natAbs < 2 ^ 924012 := by
  have h1 : (markV a n).natAbs ≤ n * 2 ^ 924006 := sm_le fun i hi => by
    refine Nat.le_trans (mul_le_pow (a := 6 + 22000 * (i + 1 + 1)) (b := 22000 * (n - (i + 1) + 1)) (mul_le_pow (a := 6) (b := 22000 * (i + 1 + 1)) ?_ (Nat.le_of_lt (h _ (by omega)))) (Nat.le_of_lt (hr _ (by omega)))) (pow_mono' (by omega))
    omega
  have h3 : n * 2 ^ 924006 ≤ 63 * 2 ^ 924006 := Nat.mul_le_mul_right _ (by omega)
  have h4 : 2 ^ 924012 = 64 * 2 ^ 924006 := by rw [show 924012 = 924006 + 6 from rfl, Nat.pow_add]; generalize 2 ^ 924006 = q; omega
  have h5 : 0 < 2 ^ 924006 := Nat.two_pow_pos _
  rw [h4]
  generalize 2 ^ 924006 = q at *
  omega
theorem mark_mul {x y : Int} (a : x.natAbs < 2 ^ 20) (b : y.natAbs < 2 ^ 924012) : CMulW x y := wide_mul (a := 20) (b := 924012) a b (by decide) (by decide) (by decide)
theorem ring_mul {i m n : Nat} {x y : Int} (hi : i < 64) (a : Sn x m) (b : Sn y n) (hmn : m + n ≤ 40) : CMulW ((i : Nat) : Int) x ∧ CMulW (((i : Nat) : Int) * x) y := by
  refine ⟨sn_small (by omega) a (by omega), ?_⟩
  have h : ((((i : Nat) : Int)) * x).natAbs ≤ 2 ^ (6 + 22000 * (m + 1)) := mul_le_pow (a := 6) (b := 22000 * (m + 1)) (by omega) (Nat.le_of_lt a)
  refine wide_mul (a := 7 + 22000 * (m + 1)) (Nat.lt_of_le_of_lt h ?_) b (by omega) (by omega) (by omega)
  exact Nat.pow_lt_pow_right (by decide) (by omega)
theorem SerAt.zero {e : En} {k : SK} {H : Hp} {p : Addr} {cs : List Addr} {a b : Nat → Int} (s : SerAt e k H p cs a 0) : SerAt e k H p cs b 0 := by
  obtain ⟨g, m, ex, cx, e1, ndp, ⟨h1, h2, h3⟩, h4⟩ := s
  refine ⟨g, m, ex, cx, e1, ndp, ⟨h1, h2, h3⟩, ?_⟩
  cases k with
  | row => exact h4
  | nrow => exact h4
  | nbag => exact h4
  | bag => exact h4
  | cho => exact h4
  | ring => obtain ⟨q, g, m, t, e1, e2, ht, ⟨hp, hg, hm⟩⟩ := h4; exact ⟨q, g, m, t, e1, e2, ht, ⟨hp, hg, hm⟩⟩
  | nring => obtain ⟨q, g, m, e1, e2, ⟨hp, hg, hm⟩⟩ := h4; exact ⟨q, g, m, e1, e2, ⟨hp, hg, hm⟩⟩
theorem eva1_at {e : En} {te : TE} {s : State → Option D} (h : Evp e te s) {N : List Str} {vs : List V} {ds : List D} {d : D} {H : Hp} {Q : List V → Hp → Prop} (hk : vs.length ≤ N.length) (r : Reps e H ds vs) (hs : s (inP N.length vs.length ds) = some d) (q : ∀ v H', L2.Same H H' → Rep e H' d v → Q [v] H') : tCons te tNil (start N vs) H Q :=
  evp_at h hk r hs q
theorem chsn_bd : ∀ n k, n < 41 → k < 41 → (chsn n k).natAbs < 2 ^ 50 := by
  have h : ∀ n k : Fin 41, (chsn n.val k.val).natAbs < 2 ^ 50 := by decide +kernel
  exact fun n k hn hk => h ⟨n, hn⟩ ⟨k, hk⟩
theorem ch_mul {c x y : Int} {m n : Nat} (hc : c.natAbs < 2 ^ 50) (a : Sn x m) (b : Sn y n) (h : m + n ≤ 40) : CMulW c x ∧ CMulW (c * x) y := by
  refine ⟨wide_mul (a := 50) hc a (by decide) (by omega) (by omega), ?_⟩
  have h1 : (c * x).natAbs ≤ 2 ^ (50 + 22000 * (m + 1)) := mul_le_pow (Nat.le_of_lt hc) (Nat.le_of_lt a)
  refine wide_mul (a := 51 + 22000 * (m + 1)) (Nat.lt_of_le_of_lt h1 ?_) b (by omega) (by omega) (by omega)
  exact Nat.pow_lt_pow_right (by decide) (by omega)
def serDn (a P : Nat → Int) (i j l : Nat) : D := .ins "NamedRings" [("gone", .lst (df a i)), ("made", .lst (df P j)), ("lines", serDr "NamedRows" a (nrowV a) l l)]
theorem serDn_gone (a P : Nat → Int) (i j l : Nat) : List.lookup ("gone" : Str) [(("gone" : Str), D.lst (df a i)), ("made", .lst (df P j)), ("lines", serDr "NamedRows" a (nrowV a) l l)] = some (.lst (df a i)) := rfl
theorem serDn_lines (a P : Nat → Int) (i j l : Nat) : List.lookup ("lines" : Str) [(("gone" : Str), D.lst (df a i)), ("made", .lst (df P j)), ("lines", serDr "NamedRows" a (nrowV a) l l)] = some (serDr "NamedRows" a (nrowV a) l l) := rfl
end Ab
end
section
set_option maxRecDepth 100000
set_option maxHeartbeats 1000000
namespace Ab
open PowS
theorem cv_zero_l {f g : Nat → Int} (h0 : f 0 = 0) (n : Nat) : cv f g n = sm (fun k => f (k + 1) * g (n - (k + 1))) n := by
  unfold cv
  rw [sm_first, h0, Int.zero_mul, Int.zero_add]
theorem cv_delta (f : Nat → Int) (n : Nat) : cv delta f n = f n := by
  unfold cv
  rw [sm_first, sm_congr (g := fun _ => 0) fun i _ => by unfold delta; rw [if_neg (by omega), Int.zero_mul], sm_zero]
  unfold delta
  simp
theorem cv_sub (f g h : Nat → Int) (n : Nat) : cv h (fun k => f k - g k) n = cv h f n - cv h g n := by
  have e : ∀ k, f k = (f k - g k) + g k := fun k => by omega
  have h1 := cv_add (fun k => f k - g k) g h n
  rw [cv_comm (fun k => f k - g k) h, cv_comm g h] at h1
  have h2 : cv (fun k => f k - g k + g k) h n = cv f h n := cv_congr (fun k => (e k).symm) (fun _ => rfl) n
  rw [h2, cv_comm f h] at h1
  omega
theorem self_zero {a u : Nat → Int} (h0 : a 0 = 0) (h : ∀ n, u n = cv a u n) : ∀ n, u n = 0 := by
  intro n
  induction n using Nat.strongRecOn with
  | ind n ih =>
    rw [h n, cv_zero_l h0, sm_congr (g := fun _ => 0) fun i hi => by rw [ih _ (by omega), Int.mul_zero], sm_zero]
theorem row_eq {a : Nat → Int} (h0 : a 0 = 0) (n : Nat) : rowV a n = delta n + cv a (rowV a) n := by
  rw [cv_zero_l h0]
  have := recF_eq (less_row a) n
  show recF (rowG a) n = _
  rw [this]
  unfold rowG delta
  split
  · rename_i h; subst h; rfl
  · rw [Int.zero_add]; rfl
theorem row_is {a R : Nat → Int} (h0 : a 0 = 0) (h : ∀ n, R n = delta n + cv a R n) (n : Nat) : R n = rowV a n := by
  have := self_zero (a := a) (u := fun n => R n - rowV a n) h0 (fun n => by
    rw [cv_sub, h n, row_eq h0 n]
    have e1 := h n
    have e2 := row_eq h0 n
    omega) n
  omega
theorem row_zero (a : Nat → Int) : rowV a 0 = 1 := rfl
theorem mark_cv (a : Nat → Int) (n : Nat) : markV a n = cv (PowS.dv a) (rowV a) n := by
  rw [cv_zero_l (by unfold PowS.dv; simp)]
  rfl
theorem dv_delta (n : Nat) : PowS.dv delta n = 0 := by
  unfold PowS.dv delta
  split
  · rename_i h; rw [h]; rfl
  · simp
theorem log_row {a : Nat → Int} (h0 : a 0 = 0) (n : Nat) : PowS.dv (rowV a) n = cv (markV a) (rowV a) n := by
  have key := self_zero (a := a) (u := fun n => PowS.dv (rowV a) n - cv (markV a) (rowV a) n) h0 (fun n => by
    rw [cv_sub]
    have e1 : PowS.dv (rowV a) n = markV a n + cv a (PowS.dv (rowV a)) n := by
      have : PowS.dv (rowV a) n = PowS.dv (fun k => delta k + cv a (rowV a) k) n := by unfold PowS.dv; dsimp only; rw [← row_eq h0 n]
      rw [this]
      have e2 : PowS.dv (fun k => delta k + cv a (rowV a) k) n = PowS.dv delta n + PowS.dv (cv a (rowV a)) n := by unfold PowS.dv; rw [Int.mul_add]
      rw [e2, dv_delta, dv_cv, mark_cv]
      omega
    have e3 : cv (markV a) (rowV a) n = markV a n + cv a (cv (markV a) (rowV a)) n := by
      have e4 : cv (markV a) (rowV a) n = cv (markV a) (fun k => delta k + cv a (rowV a) k) n := cv_congr (fun _ => rfl) (fun k => row_eq h0 k) n
      rw [e4, cv_comm, cv_add, cv_delta, cv_assoc]
      rw [cv_congr (fun _ => rfl) (fun k => cv_comm (rowV a) (markV a) k)]
    rw [e1, e3]
    omega) n
  omega
theorem cancel {c c' r : Nat → Int} (r0 : r 0 = 1) (h : ∀ n, cv c r n = cv c' r n) (n : Nat) : c n = c' n := by
  induction n using Nat.strongRecOn with
  | ind n ih =>
    have e := h n
    unfold cv at e
    simp only [sm] at e
    rw [sm_congr (g := fun i => c' i * r (n - i)) fun i hi => by rw [ih i hi], Nat.sub_self, r0] at e
    omega
theorem log_uniq {c c' P P' : Nat → Int} {N : Nat} (hc : ∀ n, n ≤ N → c n = c' n) (c0 : c 0 = 0) (h : ∀ n, PowS.dv P n = cv c P n) (h' : ∀ n, PowS.dv P' n = cv c' P' n) (p0 : P 0 = P' 0) : ∀ n, n ≤ N → P n = P' n := by
  intro n
  induction n using Nat.strongRecOn with
  | ind n ih =>
    intro hn
    by_cases hz : n = 0
    · rw [hz]; exact p0
    · have c0' : c' 0 = 0 := by rw [← hc 0 (by omega)]; exact c0
      have q1 := (quot h c0 hz).1
      have q2 := (quot h' c0' hz).1
      rw [sm_congr (g := fun k => c' (k + 1) * P' (n - (k + 1))) fun i hi => by rw [hc _ (by omega), ih _ (by omega) (by omega)], q2] at q1
      exact (Int.eq_of_mul_eq_mul_left (by omega) q1).symm
def xk (k n : Nat) : Int := if n = k then 1 else 0
theorem xk_ne {k n : Nat} (h : n ≠ k) : xk k n = 0 := if_neg h
theorem xk_self (k : Nat) : xk k k = 1 := if_pos rfl
def geo (k : Nat) : Nat → Int := spread k (fun _ => 1)
def elim (k : Nat) (a : Nat → Int) : Nat → Int := cv (geo k) (fun n => a n - xk k n)
theorem geo_zero (k : Nat) : geo k 0 = 1 := by unfold geo spread; rw [Nat.zero_mod, if_pos rfl]
theorem geo_pos (k n : Nat) : 0 ≤ geo k n := by unfold geo spread; split <;> simp
theorem geo_eq {k : Nat} (hk : 0 < k) (n : Nat) : geo k n = delta n + cv (xk k) (geo k) n := by
  have e : cv (xk k) (geo k) n = if k ≤ n then geo k (n - k) else 0 := by
    unfold cv
    by_cases h : k ≤ n
    · rw [if_pos h]
      obtain ⟨d, hd⟩ : ∃ d, n + 1 = (k + 1) + d := ⟨n - k, by omega⟩
      rw [hd, sm_more d fun i h1 h2 => by rw [xk_ne (by omega), Int.zero_mul]]
      show sm _ k + _ = _
      rw [sm_congr (g := fun _ => 0) fun i hi => by rw [xk_ne (by omega), Int.zero_mul], sm_zero]
      dsimp only
      rw [xk_self]
      simp
    · rw [if_neg h, sm_congr (g := fun _ => 0) fun i hi => by rw [xk_ne (by omega), Int.zero_mul], sm_zero]
  rw [e]
  unfold delta
  by_cases h0 : n = 0
  · subst h0
    rw [geo_zero, if_pos rfl, if_neg (by omega)]; rfl
  · rw [if_neg h0, Int.zero_add]
    unfold geo spread
    by_cases h : k ≤ n
    · rw [if_pos h, ← Nat.mod_eq_sub_mod h]
    · rw [if_neg h, Nat.mod_eq_of_lt (by omega), if_neg h0]
theorem sm_nonneg {f : Nat → Int} : ∀ {n : Nat}, (∀ i, i < n → 0 ≤ f i) → 0 ≤ sm f n
  | 0, _ => Int.le_refl _
  | n + 1, h => by
    have h1 := sm_nonneg (n := n) fun i hi => h i (by omega)
    have h2 := h n (by omega)
    show 0 ≤ sm f n + f n
    omega
theorem sub_pos {k : Nat} {a : Nat → Int} (ha : ∀ n, 0 ≤ a n) (hk : 1 ≤ a k) (n : Nat) : 0 ≤ a n - xk k n := by
  have := ha n
  unfold xk
  split
  · rename_i h; subst h; omega
  · omega
theorem elim_pos {k : Nat} {a : Nat → Int} (ha : ∀ n, 0 ≤ a n) (hk : 1 ≤ a k) (n : Nat) : 0 ≤ elim k a n :=
  sm_nonneg fun i _ => Int.mul_nonneg (geo_pos _ _) (sub_pos ha hk _)
theorem elim_low {k : Nat} {a : Nat → Int} (h0 : ∀ i, i < k → a i = 0) {n : Nat} (hn : n < k) : elim k a n = 0 := by
  unfold elim cv
  rw [sm_congr (g := fun _ => 0) fun i hi => by dsimp only; rw [h0 _ (by omega), xk_ne (by omega)]; simp, sm_zero]
theorem elim_at {k : Nat} (hk : 0 < k) {a : Nat → Int} (h0 : ∀ i, i < k → a i = 0) : elim k a k = a k - 1 := by
  unfold elim cv
  rw [sm_first, geo_zero, sm_congr (g := fun _ => 0) fun i hi => by dsimp only; rw [h0 _ (by omega), xk_ne (by omega)]; simp, sm_zero, Nat.sub_zero]
  dsimp only
  rw [xk_self]
  simp
theorem mark_elim {k : Nat} (hk : 0 < k) {a : Nat → Int} (a0 : a 0 = 0) (n : Nat) : markV a n = step k 1 n + markV (elim k a) n := by
  have e0 : elim k a 0 = 0 := by
    unfold elim cv
    simp only [sm]
    rw [Nat.sub_self, a0, xk_ne (by omega)]; simp
  have hr : ∀ n, cv (geo k) (rowV (elim k a)) n = rowV a n := row_is a0 fun n => by
    have e1 : ∀ n, cv a (geo k) n = elim k a n + cv (xk k) (geo k) n := fun n => by
      unfold elim
      rw [cv_sub, cv_comm (geo k) a, cv_comm (geo k)]
      omega
    have e2 : cv a (cv (geo k) (rowV (elim k a))) n = cv (elim k a) (rowV (elim k a)) n + cv (cv (xk k) (geo k)) (rowV (elim k a)) n := by
      rw [← cv_assoc, cv_congr e1 (fun _ => rfl), cv_add]
    have e3 : cv (geo k) (rowV (elim k a)) n = rowV (elim k a) n + cv (cv (xk k) (geo k)) (rowV (elim k a)) n := by
      rw [cv_congr (geo_eq hk) (fun _ => rfl), cv_add, cv_delta]
    have e4 := row_eq e0 n
    rw [e2]
    omega
  have hl : ∀ n, PowS.dv (geo k) n = cv (step k 1) (geo k) n := log_spread hk fun m => by simp; omega
  have h1 : ∀ n, PowS.dv (cv (geo k) (rowV (elim k a))) n = cv (fun j => step k 1 j + markV (elim k a) j) (cv (geo k) (rowV (elim k a))) n := log_cv hl (log_row e0)
  refine cancel (c := markV a) (c' := fun j => step k 1 j + markV (elim k a) j) (r := rowV a) (row_zero a) (fun n => ?_) n
  rw [← log_row a0]
  have h2 := h1 n
  rw [cv_congr (fun _ => rfl) hr] at h2
  rw [← h2]
  unfold PowS.dv
  rw [hr]
theorem mark_low {a : Nat → Int} {N : Nat} (h : ∀ i, i ≤ N → a i = 0) {n : Nat} (hn : n ≤ N) : markV a n = 0 := by
  unfold markV
  rw [sm_congr (g := fun _ => 0) fun i hi => by rw [h _ (by omega)]; simp, sm_zero]
theorem step_zero (s k : Nat) : step s 0 k = 0 := by unfold step; split <;> simp
theorem step_add (s : Nat) (a b : Int) (k : Nat) : step s (a + b) k = step s a k + step s b k := by
  unfold step
  split
  · rw [Int.mul_add]
  · rfl
theorem mark_size {k : Nat} (hk : 0 < k) : ∀ (q : Nat) (a : Nat → Int), (∀ n, 0 ≤ a n) → (∀ i, i < k → a i = 0) → a k = q → ∃ a', (∀ n, 0 ≤ a' n) ∧ (∀ i, i < k + 1 → a' i = 0) ∧ ∀ n, markV a n = step k q n + markV a' n
  | 0, a, h1, h2, h3 => ⟨a, h1, fun i hi => by
      by_cases e : i = k
      · rw [e, h3]; rfl
      · exact h2 i (by omega), fun n => by rw [show ((0 : Nat) : Int) = 0 from rfl, step_zero]; omega⟩
  | q + 1, a, h1, h2, h3 => by
    have a0 : a 0 = 0 := h2 0 hk
    obtain ⟨a', g1, g2, g3⟩ := mark_size hk q (elim k a) (elim_pos h1 (by rw [h3]; omega)) (fun i hi => elim_low h2 hi) (by rw [elim_at hk h2, h3]; omega)
    refine ⟨a', g1, g2, fun n => ?_⟩
    rw [mark_elim hk a0, g3, show (((q + 1 : Nat)) : Int) = 1 + (q : Int) by omega, step_add]
    omega
theorem primes_ex (N : Nat) : ∀ (d k : Nat) (a : Nat → Int), 0 < k → k + d = N + 1 → (∀ n, 0 ≤ a n) → (∀ i, i < k → a i = 0) → ∃ p : Nat → Nat, (∀ t, t < k → p t = 0) ∧ ∀ n, n ≤ N → markV a n = wsum (fun t => (p t : Int)) N n
  | 0, k, a, hk, hd, h1, h2 => ⟨fun _ => 0, fun _ _ => rfl, fun n hn => by
      rw [mark_low (N := N) (fun i hi => h2 i (by omega)) hn]
      unfold wsum
      rw [sm_congr (g := fun _ => 0) fun i _ => by dsimp only; rw [show ((0 : Nat) : Int) = 0 from rfl, step_zero], sm_zero]⟩
  | d + 1, k, a, hk, hd, h1, h2 => by
    obtain ⟨q, hq⟩ : ∃ q : Nat, a k = q := ⟨(a k).toNat, (Int.toNat_of_nonneg (h1 k)).symm⟩
    obtain ⟨a', g1, g2, g3⟩ := mark_size hk q a h1 h2 hq
    obtain ⟨p, p1, p2⟩ := primes_ex N d (k + 1) a' (by omega) (by omega) g1 g2
    refine ⟨fun t => if t = k then q else p t, fun t ht => by show (if t = k then q else p t) = 0; rw [if_neg (by omega)]; exact p1 t (by omega), fun n hn => ?_⟩
    rw [g3, p2 n hn]
    unfold wsum
    have e : ∀ t, t < N → step (t + 1) (((if t + 1 = k then q else p (t + 1) : Nat)) : Int) n = (if t + 1 = k then step k q n else 0) + step (t + 1) (p (t + 1)) n := fun t _ => by
      by_cases h : t + 1 = k
      · rw [if_pos h, if_pos h, p1 (t + 1) (by omega), show ((0 : Nat) : Int) = 0 from rfl, step_zero, h, Int.add_zero]
      · rw [if_neg h, if_neg h, Int.zero_add]
    rw [sm_congr e, sm_add]
    congr 1
    obtain ⟨j, rfl⟩ : ∃ j, k = j + 1 := ⟨k - 1, by omega⟩
    obtain ⟨r, hr⟩ : ∃ r, N = (j + 1) + r := ⟨N - (j + 1), by omega⟩
    rw [hr, sm_more r fun i h1 h2 => if_neg (by omega)]
    show _ = sm _ j + _
    rw [sm_congr (g := fun _ => 0) fun i hi => if_neg (by omega), sm_zero]
    dsimp only
    rw [if_pos rfl, Int.zero_add]
theorem phi_sum : ∀ m, m < 64 → m ≠ 0 → sm (fun t => if m % (t + 1) = 0 then shn (t + 1) else 0) m = m := by
  have h : ∀ m : Fin 64, m.val ≠ 0 → sm (fun t => if m.val % (t + 1) = 0 then shn (t + 1) else 0) m.val = m.val := by decide +kernel
  exact fun m hm h0 => h ⟨m, hm⟩ h0
theorem sm_swap (F : Nat → Nat → Int) (M : Nat) : ∀ N, sm (fun i => sm (fun j => F i j) M) N = sm (fun j => sm (fun i => F i j) N) M
  | 0 => by simp only [sm]; rw [sm_zero]
  | N + 1 => by simp only [sm]; rw [sm_swap F M N, ← sm_add]
theorem phi_two {n s : Nat} (hn : n < 64) (h0 : n ≠ 0) : sm (fun t => if n % (t + 1) = 0 ∧ n / (t + 1) % (s + 1) = 0 then shn (t + 1) else 0) n = if n % (s + 1) = 0 then ((n / (s + 1) : Nat) : Int) else 0 := by
  by_cases hs : n % (s + 1) = 0
  · rw [if_pos hs]
    obtain ⟨m, hm⟩ := Nat.dvd_of_mod_eq_zero hs
    have hd : n / (s + 1) = m := by rw [hm]; exact Nat.mul_div_cancel_left _ (by omega)
    have m0 : m ≠ 0 := by rintro rfl; rw [Nat.mul_zero] at hm; exact h0 hm
    have mle : m ≤ n := by rw [hm]; exact Nat.le_mul_of_pos_left _ (by omega)
    rw [hd, ← phi_sum m (by omega) m0]
    obtain ⟨d, rfl⟩ : ∃ d, n = m + d := ⟨n - m, by omega⟩
    rw [sm_more d fun i h1 h2 => if_neg fun ⟨z1, z2⟩ => by
      obtain ⟨u, hu⟩ := Nat.dvd_of_mod_eq_zero z1
      rw [hu, Nat.mul_div_cancel_left _ (by omega)] at z2
      obtain ⟨v, hv⟩ := Nat.dvd_of_mod_eq_zero z2
      have : (s + 1) * m = (s + 1) * ((i + 1) * v) := by rw [← hm, hu, hv, Nat.mul_left_comm]
      have := Nat.eq_of_mul_eq_mul_left (by omega) this
      have v0 : v ≠ 0 := by rintro rfl; rw [Nat.mul_zero] at this; exact m0 this
      have := Nat.le_mul_of_pos_right (i + 1) (Nat.pos_of_ne_zero v0)
      omega]
    refine sm_congr fun t ht => ?_
    have iff : ((m + d) % (t + 1) = 0 ∧ (m + d) / (t + 1) % (s + 1) = 0) ↔ m % (t + 1) = 0 := by
      constructor
      · rintro ⟨z1, z2⟩
        obtain ⟨u, hu⟩ := Nat.dvd_of_mod_eq_zero z1
        rw [hu, Nat.mul_div_cancel_left _ (by omega)] at z2
        obtain ⟨v, hv⟩ := Nat.dvd_of_mod_eq_zero z2
        have : (s + 1) * m = (s + 1) * ((t + 1) * v) := by rw [← hm, hu, hv, Nat.mul_left_comm]
        have := Nat.eq_of_mul_eq_mul_left (by omega) this
        rw [this]; exact Nat.mul_mod_right _ _
      · intro z
        obtain ⟨v, hv⟩ := Nat.dvd_of_mod_eq_zero z
        have e : m + d = (t + 1) * ((s + 1) * v) := by rw [hm, hv, Nat.mul_left_comm]
        rw [e]
        exact ⟨Nat.mul_mod_right _ _, by rw [Nat.mul_div_cancel_left _ (by omega)]; exact Nat.mul_mod_right _ _⟩
    by_cases z : m % (t + 1) = 0
    · rw [if_pos z, if_pos (iff.mpr z)]
    · rw [if_neg z, if_neg (fun y => z (iff.mp y))]
  · rw [if_neg hs, sm_congr (g := fun _ => 0) fun i _ => if_neg fun ⟨z1, z2⟩ => hs (by
      obtain ⟨u, hu⟩ := Nat.dvd_of_mod_eq_zero z1
      rw [hu, Nat.mul_div_cancel_left _ (by omega)] at z2
      obtain ⟨v, hv⟩ := Nat.dvd_of_mod_eq_zero z2
      rw [hu, hv, Nat.mul_left_comm]; exact Nat.mul_mod_right _ _), sm_zero]
theorem ring_primes {a : Nat → Int} {p : Nat → Nat} (hp : ∀ n, n ≤ 63 → markV a n = wsum (fun t => (p t : Int)) 63 n) {n : Nat} (hn : n < 64) (h0 : n ≠ 0) : ringV a n = sm (fun t => if n % (t + 1) = 0 then (p (t + 1) : Int) else 0) n := by
  unfold ringV
  rw [if_neg h0, dvs_sum n (fun t => shn (t + 1) * markV a (n / (t + 1)))]
  have e1 : sm (fun t => if n % (t + 1) = 0 then shn (t + 1) * markV a (n / (t + 1)) else 0) n = (n : Int) * sm (fun t => if n % (t + 1) = 0 then (p (t + 1) : Int) else 0) n := by
    have e2 : ∀ t, t < n → (if n % (t + 1) = 0 then shn (t + 1) * markV a (n / (t + 1)) else 0) = sm (fun s => (if n % (t + 1) = 0 ∧ n / (t + 1) % (s + 1) = 0 then shn (t + 1) else 0) * (((s + 1 : Nat) : Int) * (p (s + 1) : Int))) 63 := fun t ht => by
      have hdl : n / (t + 1) ≤ n := Nat.div_le_self _ _
      by_cases z : n % (t + 1) = 0
      · rw [if_pos z, hp _ (by omega)]
        unfold wsum
        rw [← sm_mul]
        refine sm_congr fun s _ => ?_
        have hpos : 0 < n / (t + 1) := Nat.div_pos (Nat.le_of_dvd (by omega) (Nat.dvd_of_mod_eq_zero z)) (by omega)
        unfold step
        by_cases y : n / (t + 1) % (s + 1) = 0
        · rw [if_pos ⟨y, hpos⟩, if_pos ⟨z, y⟩]
        · rw [if_neg (fun q => y q.1), if_neg (fun q => y q.2)]; simp
      · rw [if_neg z, sm_congr (g := fun _ => 0) fun s _ => by rw [if_neg (fun q => z q.1), Int.zero_mul], sm_zero]
    rw [sm_congr e2, sm_swap, ← sm_mul]
    have e3 : ∀ s, s < 63 → sm (fun i => (if n % (i + 1) = 0 ∧ n / (i + 1) % (s + 1) = 0 then shn (i + 1) else 0) * (((s + 1 : Nat) : Int) * (p (s + 1) : Int))) n = if n % (s + 1) = 0 then (n : Int) * (p (s + 1) : Int) else 0 := fun s _ => by
      rw [sm_mulr, phi_two hn h0]
      by_cases z : n % (s + 1) = 0
      · rw [if_pos z, if_pos z]
        have : n / (s + 1) * (s + 1) = n := Nat.div_mul_cancel (Nat.dvd_of_mod_eq_zero z)
        rw [← Int.mul_assoc, ← Int.natCast_mul, this]
      · rw [if_neg z, if_neg z, Int.zero_mul]
    rw [sm_congr e3]
    obtain ⟨d, hd⟩ : ∃ d, 63 = n + d := ⟨63 - n, by omega⟩
    rw [hd, sm_more d fun i h1 h2 => if_neg fun z => by
      have := Nat.le_of_dvd (by omega) (Nat.dvd_of_mod_eq_zero z)
      omega]
    refine sm_congr fun i _ => ?_
    split
    · rfl
    · simp
  rw [e1, Int.mul_ediv_cancel_left _ (by omega)]
theorem sm_term {f : Nat → Int} : ∀ {n : Nat} {i : Nat}, (∀ i, i < n → 0 ≤ f i) → i < n → f i ≤ sm f n
  | 0, _, _, h => absurd h (Nat.not_lt_zero _)
  | n + 1, i, h, hi => by
    show f i ≤ sm f n + f n
    have h1 := sm_nonneg (n := n) fun i hi => h i (by omega)
    have h2 := h n (by omega)
    by_cases e : i = n
    · rw [e]; omega
    · have := sm_term (n := n) (i := i) (fun i hi => h i (by omega)) (by omega)
      omega
theorem row_pos {a : Nat → Int} (ha : ∀ n, 0 ≤ a n) (n : Nat) : 0 ≤ rowV a n := by
  induction n using Nat.strongRecOn with
  | ind n ih =>
    have e : rowV a n = rowG a (rowV a) n := recF_eq (less_row a) n
    rw [e]
    unfold rowG rowS
    split
    · decide
    · exact sm_nonneg fun i hi => Int.mul_nonneg (ha _) (ih _ (by omega))
theorem mark_pos {a : Nat → Int} (ha : ∀ n, 0 ≤ a n) (n : Nat) : 0 ≤ markV a n :=
  sm_nonneg fun i _ => Int.mul_nonneg (Int.mul_nonneg (by omega) (ha _)) (row_pos ha _)
theorem row_le {a : Nat → Int} {B : Nat} (ha : ∀ n, 0 ≤ a n) (hb : ∀ n, a n ≤ 2 ^ B) (n : Nat) : rowV a n ≤ 2 ^ ((B + 1) * n) := by
  have geo : ∀ n : Nat, sm (fun k => (2 : Int) ^ B * 2 ^ ((B + 1) * (n - (k + 1)))) n ≤ 2 ^ ((B + 1) * n) := by
    intro n
    induction n with
    | zero => simp [sm]
    | succ n ih =>
      rw [sm_first]
      have e : sm (fun i => (2 : Int) ^ B * 2 ^ ((B + 1) * (n + 1 - (i + 1 + 1)))) n = sm (fun k => (2 : Int) ^ B * 2 ^ ((B + 1) * (n - (k + 1)))) n := sm_congr fun i _ => by rw [show n + 1 - (i + 1 + 1) = n - (i + 1) by omega]
      rw [e]
      have h1 : (2 : Int) ^ ((B + 1) * (n + 1)) = 2 * 2 ^ B * 2 ^ ((B + 1) * n) := by
        rw [Nat.mul_add, Nat.mul_one, Int.pow_add, Int.pow_succ]
        rw [Int.mul_comm, Int.mul_comm (2 ^ B) 2]
      have h2 : (0 : Int) < 2 ^ B := Int.pow_pos (by decide)
      have h3 : (0 : Int) < 2 ^ ((B + 1) * n) := Int.pow_pos (by decide)
      show (2 : Int) ^ B * 2 ^ ((B + 1) * (n + 1 - (0 + 1))) + _ ≤ _
      rw [show n + 1 - (0 + 1) = n by omega, h1]
      generalize (2 : Int) ^ ((B + 1) * n) = z at *
      generalize (2 : Int) ^ B = y at *
      have h4 : z ≤ y * z := by
        have := Int.mul_le_mul_of_nonneg_right (show (1 : Int) ≤ y by omega) (show 0 ≤ z by omega)
        rw [Int.one_mul] at this
        exact this
      have h5 : 2 * y * z = y * z + y * z := by rw [Int.mul_assoc, Int.two_mul]
      omega
  induction n using Nat.strongRecOn with
  | ind n ih =>
    have e : rowV a n = rowG a (rowV a) n := recF_eq (less_row a) n
    rw [e]
    unfold rowG rowS
    split
    · rename_i h; subst h; simp
    · refine Int.le_trans ?_ (geo n)
      have mono : ∀ m, (∀ i, i < m → i < n) → sm (fun k => a (k + 1) * rowV a (n - (k + 1))) m ≤ sm (fun k => (2 : Int) ^ B * 2 ^ ((B + 1) * (n - (k + 1)))) m := by
        intro m
        induction m with
        | zero => intro _; exact Int.le_refl _
        | succ m ihm =>
          intro hm
          have h1 := ihm fun i hi => hm i (by omega)
          have hmn := hm m (by omega)
          have h2 : a (m + 1) * rowV a (n - (m + 1)) ≤ (2 : Int) ^ B * 2 ^ ((B + 1) * (n - (m + 1))) :=
            Int.mul_le_mul (hb _) (ih _ (by omega)) (row_pos ha _) (Int.le_of_lt (Int.pow_pos (by decide)))
          show sm _ m + _ ≤ sm _ m + _
          exact Int.add_le_add h1 h2
      exact mono n fun i hi => hi
theorem mark_le {a : Nat → Int} (h0 : a 0 = 0) (ha : ∀ n, 0 ≤ a n) (n : Nat) : markV a n ≤ (n : Int) * rowV a n := by
  have h := log_row h0 n
  have : markV a n * rowV a (n - n) ≤ cv (markV a) (rowV a) n := sm_term (f := fun i => markV a i * rowV a (n - i)) (i := n) (fun i _ => Int.mul_nonneg (mark_pos ha _) (row_pos ha _)) (by omega)
  rw [Nat.sub_self, row_zero, Int.mul_one, ← h] at this
  exact this
structure PrimesOf (a : Nat → Int) (p : Nat → Nat) : Prop where
  ring : ∀ n, n < 64 → n ≠ 0 → ringV a n = sm (fun t => if n % (t + 1) = 0 then (p (t + 1) : Int) else 0) n
  bag : ∀ n, n < 64 → bagV (fun t => (p t : Int)) n = rowV a n
  pke : ∀ M n, M ≤ 63 → n ≤ M → pk (fun t => mch (p t)) M n = rowV a n
  pkl : ∀ M n, M ≤ 63 → n ≤ 63 → 0 ≤ pk (fun t => mch (p t)) M n ∧ pk (fun t => mch (p t)) M n ≤ rowV a n
  le : ∀ n, n < 64 → (p n : Int) ≤ rowV a n
  z : p 0 = 0
theorem mch_pos (a m : Nat) : 0 ≤ mch a m := (cho_le a m).2.2
theorem spread_pos {s : Nat} {E : Nat → Int} (h : ∀ m, 0 ≤ E m) (n : Nat) : 0 ≤ spread s E n := by unfold spread; split <;> first | exact h _ | exact Int.le_refl _
theorem pk_pos {E : Nat → Nat → Int} (h : ∀ t m, 0 ≤ E t m) : ∀ N n, 0 ≤ pk E N n
  | 0, n => by show 0 ≤ delta n; unfold delta; split <;> decide
  | N + 1, n => sm_nonneg fun i _ => Int.mul_nonneg (spread_pos (h _) _) (pk_pos h N _)
theorem pk_mono {E : Nat → Nat → Int} (h : ∀ t m, 0 ≤ E t m) (h0 : ∀ t, E t 0 = 1) (n : Nat) : ∀ d N, pk E N n ≤ pk E (N + d) n
  | 0, N => Int.le_refl _
  | d + 1, N => by
    refine Int.le_trans (pk_mono h h0 n d N) ?_
    have := sm_term (f := fun i => spread (N + d + 1) (E (N + d + 1)) i * pk E (N + d) (n - i)) (n := n + 1) (i := 0) (fun i _ => Int.mul_nonneg (spread_pos (h _) _) (pk_pos h _ _)) (by omega)
    have e : spread (N + d + 1) (E (N + d + 1)) 0 = 1 := by unfold spread; rw [Nat.zero_mod, if_pos rfl, Nat.zero_div, h0]
    rw [e, Int.one_mul, Nat.sub_zero] at this
    exact this
theorem wsum_wsg (p : Nat → Nat) (N k : Nat) : wsum (fun t => (p t : Int)) N k = wsg (fun t _ => (p t : Int)) N k := rfl
theorem primes_of {a : Nat → Int} (h0 : a 0 = 0) (ha : ∀ n, 0 ≤ a n) : ∃ p : Nat → Nat, PrimesOf a p := by
  obtain ⟨p, p0, hp⟩ := primes_ex 63 63 1 a (by decide) rfl ha fun i hi => by rw [show i = 0 by omega]; exact h0
  refine ⟨p, ?_⟩
  have m0 : markV a 0 = 0 := rfl
  have hW : ∀ M n, n ≤ M → M ≤ 63 → wsg (fun t _ => (p t : Int)) M n = markV a n := fun M n hn hM => by
    by_cases hz : n = 0
    · rw [hz, wsg_zero, m0]
    · rw [hp n (by omega), wsum_wsg, wsg_more _ (by omega) hn, wsg_more _ (by omega) (show n ≤ 63 by omega)]
  have hb : ∀ n, n < 64 → bagW (fun t => (p t : Int)) n = markV a n := fun n hn => by
    have := hW n n (Nat.le_refl _) (by omega)
    rw [wsg_dvs] at this
    exact this
  have pkE : ∀ M n, M ≤ 63 → n ≤ M → pk (fun t => mch (p t)) M n = rowV a n := fun M n hM hn =>
    log_uniq (c := wsg (fun t _ => (p t : Int)) M) (c' := markV a) (N := M) (fun n hn => hW M n hn hM) (wsg_zero _ _) (log_pk_g (E := fun t => mch (p t)) (w := fun t _ => (p t : Int)) (fun t m => mch_sum (p t) m) M) (log_row h0) (pk_zero (fun t => mch_zero _) _) n hn
  refine ⟨fun n hn hz => ring_primes hp hn hz, fun n hn => ?_, pkE, fun M n hM hn => ⟨pk_pos (E := fun t => mch (p t)) (fun _ _ => mch_pos _ _) _ _, ?_⟩, fun n hn => ?_, p0 0 (by decide)⟩
  · refine (recF_is (less_w _) (P := rowV a) 64 (fun n hn => ?_) n hn).symm
    unfold wG rowS
    split
    · rename_i h; subst h; rfl
    · rename_i hz
      rw [sm_congr (g := fun k => markV a (k + 1) * rowV a (n - (k + 1))) fun i hi => by rw [hb _ (by omega)]]
      exact ((quot (log_row h0) m0 hz).2).symm
  · rw [← pkE 63 n (by decide) hn]
    obtain ⟨d, hd⟩ : ∃ d, 63 = M + d := ⟨63 - M, by omega⟩
    rw [hd]
    exact pk_mono (E := fun t => mch (p t)) (fun _ _ => mch_pos _ _) (fun t => mch_zero _) n d M
  · by_cases hz : n = 0
    · subst hz; rw [p0 0 (by decide), row_zero]; decide
    · have h1 := mark_le h0 ha n
      rw [hp n (by omega)] at h1
      have h2 : step (n - 1 + 1) (p (n - 1 + 1)) n ≤ wsum (fun t => (p t : Int)) 63 n := sm_term (f := fun t => step (t + 1) (p (t + 1)) n) (i := n - 1) (fun i _ => by unfold step; split <;> first | exact Int.mul_nonneg (by omega) (by omega) | exact Int.le_refl _) (by omega)
      rw [show n - 1 + 1 = n by omega] at h2
      unfold step at h2
      rw [if_pos ⟨Nat.mod_self _, by omega⟩] at h2
      exact Int.le_of_mul_le_mul_left (Int.le_trans h2 h1) (by omega)
end Ab
end
section
set_option maxRecDepth 100000
set_option maxHeartbeats 400000
namespace W_k22
open PySem L2 PyProof.Rows PySem.Spec Ab
noncomputable section
def topS (i : Nat) : Stmt := PySem.Challenge.pw_figurebook_k22_rings_gone_through.main.body.getD i (.Pass ⟨0, 0, 0, 0⟩)
def clsM (i j : Nat) : Stmt := match topS i with | .ClassDef (body := b) .. => b.getD j (.Pass ⟨0, 0, 0, 0⟩) | _ => .Pass ⟨0, 0, 0, 0⟩
structure Zs (mg : Str → Option Value) : Prop where
  z_bool : mg "bool" = none
  z_int : mg "int" = none
  z_isinstance : mg "isinstance" = none
  z_len : mg "len" = none
  z_list : mg "list" = none
  z_min : mg "min" = none
  z_range : mg "range" = none
  z_sum : mg "sum" = none
structure Ks (K : PySem.W.Frag) (mg : Str → Option Value) (cls : String → Addr) : Prop where
  kc_RingSeries : Cls K (cls "RingSeries")
  kn_RingSeries_gone : NoAttr K (cls "RingSeries") "gone"
  kn_RingSeries_made : NoAttr K (cls "RingSeries") "made"
  kc_RowSeries : Cls K (cls "RowSeries")
  kn_RowSeries_gone : NoAttr K (cls "RowSeries") "gone"
  kn_RowSeries_made : NoAttr K (cls "RowSeries") "made"
  kn_RingSeries_lines : NoAttr K (cls "RingSeries") "lines"
  kn_RingSeries_marked : NoAttr K (cls "RingSeries") "marked"
abbrev s_divisors : Stmt := topS 1
abbrev N_divisors : List Str := ["n", "d"]
theorem sc_divisors : FnScope ["n", "d"] ["n"] (defScope s_divisors) := ⟨rfl, rfl, rfl, by decide +kernel, rfl, by decide +kernel, by decide +kernel⟩
def b_divisors : State → Out :=
      (sRetL (liftL (xLc [1] (xRng2 (aCons (xC (.int 1)) (aCons (x2 fAdd (xVar 0) (xC (.int 1))) aNil))) (gN 1) (asB (x2 fEq (x2 fMod (xVar 0) (xVar 1)) (xC (.int 0)))) (xVar 1))))
def m_divisors : List D → Option (List D) := runL 2 1 b_divisors
abbrev s_shared : Stmt := topS 2
abbrev N_shared : List Str := ["a", "b", "rest"]
theorem sc_shared : FnScope ["a", "b", "rest"] ["a", "b"] (defScope s_shared) := ⟨rfl, rfl, rfl, by decide +kernel, rfl, by decide +kernel, by decide +kernel⟩
def bl_shared_1 : State → Out :=
      (sSeq (sSet 2 (lift (x2 fMod (xVar 0) (xVar 1))))
      (sSeq (sSet 0 (lift (xVar 1)))
      (sSet 1 (lift (xVar 2)))))
def bt_shared_2 : State → Res Bool :=
      (liftB (asB (x2 fNe (xVar 1) (xC (.int 0)))))
def b_shared : State → Out :=
      (sSeq (fun α => loopW bt_shared_2
      bl_shared_1 ((fun α => match xVar 1 α with | some (.int b) => b.toNat + 1 | _ => 0) α) α)
      (sRet (lift (xVar 0))))
def m_shared : List D → Option D := runP 3 2 b_shared
abbrev s_sharing_none : Stmt := topS 3
abbrev N_sharing_none : List Str := ["k", "i"]
theorem sc_sharing_none : FnScope ["k", "i"] ["k"] (defScope s_sharing_none) := ⟨rfl, rfl, rfl, by decide +kernel, rfl, by decide +kernel, by decide +kernel⟩
def b_sharing_none : State → Out :=
      (sRet (lift (xLen (xLc [1] (xRng2 (aCons (xC (.int 1)) (aCons (x2 fAdd (xVar 0) (xC (.int 1))) aNil))) (gN 1) (asB (x2 fEq (xCall m_shared (aCons (xVar 1) (aCons (xVar 0) aNil))) (xC (.int 1)))) (xVar 1)))))
def m_sharing_none : List D → Option D := runP 2 1 b_sharing_none
abbrev s_Series_init0_ring : Stmt := clsM 4 0
abbrev N_Series_init0_ring : List Str := ["self"]
theorem sc_Series_init0_ring : FnScope ["self"] ["self"] (defScope s_Series_init0_ring) := ⟨rfl, rfl, rfl, by decide +kernel, rfl, by decide +kernel, by decide +kernel⟩
abbrev s_Series_init0_row : Stmt := clsM 4 0
abbrev N_Series_init0_row : List Str := ["self"]
theorem sc_Series_init0_row : FnScope ["self"] ["self"] (defScope s_Series_init0_row) := ⟨rfl, rfl, rfl, by decide +kernel, rfl, by decide +kernel, by decide +kernel⟩
abbrev s_Series_init_row : Stmt := clsM 4 0
abbrev N_Series_init_row : List Str := ["self"]
theorem sc_Series_init_row : FnScope ["self"] ["self"] (defScope s_Series_init_row) := ⟨rfl, rfl, rfl, by decide +kernel, rfl, by decide +kernel, by decide +kernel⟩
abbrev s_RingSeries_init : Stmt := clsM 6 0
abbrev N_RingSeries_init : List Str := ["self"]
theorem sc_RingSeries_init : FnScope ["self"] ["self"] (defScope s_RingSeries_init) := ⟨rfl, rfl, rfl, by decide +kernel, rfl, by decide +kernel, by decide +kernel⟩
abbrev s_newest_w_row : Stmt := clsM 5 0
abbrev N_newest_w_row : List Str := ["self", "n", "k"]
theorem sc_newest_w_row : FnScope ["self", "n", "k"] ["self", "n"] (defScope s_newest_w_row) := ⟨rfl, rfl, rfl, by decide +kernel, rfl, by decide +kernel, by decide +kernel⟩
def b_newest_w_row : State → Out :=
      (sSeq (sIf (liftB (asB (x2 fEq (xVar 1) (xC (.int 0))))) (sRet (lift (xC (.int 1)))) sNext)
      (sRet (lift (xSum (xLc [2] (xRng2 (aCons (xC (.int 1)) (aCons (x2 fAdd (xVar 1) (xC (.int 1))) aNil))) (gN 2) tbYes (x2 fMulW (xIx (qL (xFld "RowSeries" "gone" (xVar 0))) (xVar 2)) (xIx (qL (xFld "RowSeries" "made" (xVar 0))) (x2 fSub (xVar 1) (xVar 2)))))))))
def m_newest_w_row : List D → Option D := runP 3 2 b_newest_w_row
abbrev s_RowSeries_new_h : Stmt := clsM 5 0
abbrev N_RowSeries_new_h : List Str := ["self", "n", "k"]
theorem sc_RowSeries_new_h : FnScope ["self", "n", "k"] ["self", "n"] (defScope s_RowSeries_new_h) := ⟨rfl, rfl, rfl, by decide +kernel, rfl, by decide +kernel, by decide +kernel⟩
abbrev s_Series_grow_row : Stmt := clsM 4 1
abbrev N_Series_grow_row : List Str := ["self", "count", "fresh"]
theorem sc_Series_grow_row : FnScope ["self", "count", "fresh"] ["self", "count"] (defScope s_Series_grow_row) := ⟨rfl, rfl, rfl, by decide +kernel, rfl, by decide +kernel, by decide +kernel⟩
abbrev s_newest_w_ring : Stmt := clsM 6 1
abbrev N_newest_w_ring : List Str := ["self", "n", "i", "k"]
theorem sc_newest_w_ring : FnScope ["self", "n", "i", "k"] ["self", "n"] (defScope s_newest_w_ring) := ⟨rfl, rfl, rfl, by decide +kernel, rfl, by decide +kernel, by decide +kernel⟩
def b_newest_w_ring : State → Out :=
      (sRet (lift (x2 fDivW (xSum (xLc [3] (fun α => bnd ((aCons (xVar 1) aNil) α) m_divisors) (gN 3) tbYes (x2 fMulW (xCall m_sharing_none (aCons (xVar 3) aNil)) (xIx (qL (xFld "RingSeries" "marked" (xVar 0))) (x2 fDivW (xVar 1) (xVar 3)))))) (xVar 1))))
def m_newest_w_ring : List D → Option D := runP 4 2 b_newest_w_ring
abbrev s_RingSeries_new_h : Stmt := clsM 6 1
abbrev N_RingSeries_new_h : List Str := ["self", "n", "i", "k"]
theorem sc_RingSeries_new_h : FnScope ["self", "n", "i", "k"] ["self", "n"] (defScope s_RingSeries_new_h) := ⟨rfl, rfl, rfl, by decide +kernel, rfl, by decide +kernel, by decide +kernel⟩
abbrev s_Series_grow_ring : Stmt := clsM 4 1
abbrev N_Series_grow_ring : List Str := ["self", "count", "fresh"]
theorem sc_Series_grow_ring : FnScope ["self", "count", "fresh"] ["self", "count"] (defScope s_Series_grow_ring) := ⟨rfl, rfl, rfl, by decide +kernel, rfl, by decide +kernel, by decide +kernel⟩
abbrev s_grown_ring : Stmt := topS 7
abbrev N_grown_ring : List Str := ["series", "a", "count"]
theorem sc_grown_ring : FnScope ["series", "a", "count"] ["series", "a"] (defScope s_grown_ring) := ⟨rfl, rfl, rfl, by decide +kernel, rfl, by decide +kernel, by decide +kernel⟩
abbrev s_ring_counts : Stmt := topS 8
abbrev N_ring_counts : List Str := ["a"]
theorem sc_ring_counts : FnScope ["a"] ["a"] (defScope s_ring_counts) := ⟨rfl, rfl, rfl, by decide +kernel, rfl, by decide +kernel, by decide +kernel⟩
noncomputable def m_ring_counts : List D → Option (List D) := serM .ring
abbrev s__law_whole : Stmt := topS 10
abbrev N__law_whole : List Str := ["_law_found"]
theorem sc__law_whole : FnScope ["_law_found"] ["_law_found"] (defScope s__law_whole) := ⟨rfl, rfl, rfl, by decide +kernel, rfl, by decide +kernel, by decide +kernel⟩
def b__law_whole : State → Out :=
      (sRet (lift (xB (tbAnd (asB (xCall fIsi (aCons (xVar 0) (aCons (xC (.ty "int")) aNil)))) (asB (xB (tbNot (asB (xCall fIsi (aCons (xVar 0) (aCons (xC (.ty "bool")) aNil)))))))))))
def m__law_whole : List D → Option D := runP 1 1 b__law_whole
abbrev s__law_is_row : Stmt := topS 11
abbrev N__law_is_row : List Str := ["_law_found", "_law_due", "_law_k"]
theorem sc__law_is_row : FnScope ["_law_found", "_law_due", "_law_k"] ["_law_found", "_law_due"] (defScope s__law_is_row) := ⟨rfl, rfl, rfl, by decide +kernel, rfl, by decide +kernel, by decide +kernel⟩
def bl__law_is_row_1 : State → Out :=
      (sIf (liftB (tbOr (tbNot (asB (xCall m__law_whole (aCons (xIx (qL (xVar 0)) (xVar 2)) aNil)))) (asB (x2 fNeQ (xIx (qL (xVar 0)) (xVar 2)) (xIx (qL (xVar 1)) (xVar 2)))))) (sRet (lift (xC (.bl false)))) sNext)
def b__law_is_row : State → Out :=
      (sSeq (sIf (liftB (tbOr (tbNot (asB (xCall fIsi (aCons (xVar 0) (aCons (xC (.ty "list")) aNil))))) (asB (x2 fNe (xLen (qL (xVar 0))) (xLen (qL (xVar 1))))))) (sRet (lift (xC (.bl false)))) sNext)
      (sSeq (sFor (xRng1 (aCons (xLen (qL (xVar 1))) aNil)) (gN 2)
      bl__law_is_row_1)
      (sRet (lift (xC (.bl true))))))
def m__law_is_row : List D → Option D := runP 3 2 b__law_is_row
abbrev s__law_cell : Stmt := topS 12
abbrev N__law_cell : List Str := ["_law_script", "_law_k"]
theorem sc__law_cell : FnScope ["_law_script", "_law_k"] ["_law_script", "_law_k"] (defScope s__law_cell) := ⟨rfl, rfl, rfl, by decide +kernel, rfl, by decide +kernel, by decide +kernel⟩
def b__law_cell : State → Out :=
      (sSeq (sIf (liftB (asB (x2 fLt (xVar 1) (xLen (qL (xVar 0)))))) (sRet (lift (xIx (qL (xVar 0)) (xVar 1)))) sNext)
      (sRet (lift (xC (.int 0)))))
def m__law_cell : List D → Option D := runP 2 2 b__law_cell
abbrev s__law_rows_of : Stmt := topS 13
abbrev N__law_rows_of : List Str := ["_law_a", "_law_size", "_law_rows", "_law_n", "_law_fresh", "_law_k", "_law_mark", "_law_row"]
theorem sc__law_rows_of : FnScope ["_law_a", "_law_size", "_law_rows", "_law_n", "_law_fresh", "_law_k", "_law_mark", "_law_row"] ["_law_a", "_law_size"] (defScope s__law_rows_of) := ⟨rfl, rfl, rfl, by decide +kernel, rfl, by decide +kernel, by decide +kernel⟩
def bl__law_rows_of_1 : State → Out :=
      (sExt 4 (xLc [7] (qL (xIx (qO 2) (x2 fSub (xVar 3) (xVar 5)))) (gN 7) tbYes (xCatT (qT (xVar 7)) (qT (xTup (aCons (xTup (aCons (xVar 5) (aCons (xVar 6) aNil))) aNil))))))
def bl__law_rows_of_2 : State → Out :=
      (sFor (xRng1 (aCons (xIx (qL (xVar 0)) (xVar 5)) aNil)) (gN 6)
      bl__law_rows_of_1)
def bl__law_rows_of_3 : State → Out :=
      (sSeq (sSetL 4 (liftL (fun α => bnd (aNil α) lenOk)))
      (sSeq (sFor (xRng2 (aCons (xC (.int 1)) (aCons (x2 fAdd (xCall fMin2 (aCons (xVar 3) (aCons (x2 fSub (xLen (qL (xVar 0))) (xC (.int 1))) aNil))) (xC (.int 1))) aNil))) (gN 5)
      bl__law_rows_of_2)
      (sFrz 4 (sApp 2 (lift (xVar 4))))))
def b__law_rows_of : State → Out :=
      (sSeq (sSetL 2 (liftL (fun α => bnd ((aCons (xL (fun α => bnd ((aCons (xTup aNil) aNil) α) lenOk)) aNil) α) lenOk)))
      (sSeq (sFor (xRng2 (aCons (xC (.int 1)) (aCons (x2 fAdd (xVar 1) (xC (.int 1))) aNil))) (gN 3)
      bl__law_rows_of_3)
      (sRet (lift (xIx (qO 2) (xVar 1))))))
def m__law_rows_of : List D → Option D := runP 8 2 b__law_rows_of
abbrev s__law_rings_of : Stmt := topS 14
abbrev N__law_rings_of : List Str := ["_law_a", "_law_size", "_law_seen", "_law_row", "_law_k"]
theorem sc__law_rings_of : FnScope ["_law_a", "_law_size", "_law_seen", "_law_row", "_law_k"] ["_law_a", "_law_size"] (defScope s__law_rings_of) := ⟨rfl, rfl, rfl, by decide +kernel, rfl, by decide +kernel, by decide +kernel⟩
def b__law_rings_of : State → Out :=
      (sKn 2 3 (qL (xCall m__law_rows_of (aCons (xVar 0) (aCons (xVar 1) aNil)))) (xMinA (xLc [4] (xRng1 (aCons (xLen (qT (xVar 3))) aNil)) (gN 4) tbYes (xCatT (qT (xSlA (qT (xVar 3)) (oSome (xVar 4)) oNone)) (qT (xSlA (qT (xVar 3)) oNone (oSome (xVar 4))))))))
def m__law_rings_of : List D → Option D := runP 5 2 b__law_rings_of
abbrev s_law : Stmt := topS 15
abbrev N_law : List Str := ["_law_script", "_law_a", "_law_k", "_law_top", "_law_handed", "_law_due", "_law_n"]
theorem sc_law : FnScope ["_law_script", "_law_a", "_law_k", "_law_top", "_law_handed", "_law_due", "_law_n"] ["_law_script"] (defScope s_law) := ⟨rfl, rfl, rfl, by decide +kernel, rfl, by decide +kernel, by decide +kernel⟩
def bl_law_1 : State → Out :=
      (sApp 1 (lift (x2 fMod (xCall m__law_cell (aCons (xVar 0) (aCons (xVar 2) aNil))) (xIx (fun α => bnd ((aCons (xC (.int 3)) (aCons (xC (.int 3)) (aCons (xC (.int 2)) (aCons (xC (.int 2)) aNil)))) α) lenOk) (xVar 2)))))
def b_law : State → Out :=
      (sSeq (sSetL 1 (liftL (fun α => bnd ((aCons (xC (.int 0)) aNil) α) lenOk)))
      (sSeq (sFor (xRng1 (aCons (xC (.int 4)) aNil)) (gN 2)
      bl_law_1)
      (sSeq (sSet 3 (lift (x2 fAdd (xC (.int 1)) (x2 fMod (xCall m__law_cell (aCons (xVar 0) (aCons (xC (.int 4)) aNil))) (xC (.int 6))))))
      (sSeq (sSetL 1 (liftL (xSlL (xCat (qO 1) (fun α => bnd ((aCons (xC (.int 0)) (aCons (xC (.int 0)) (aCons (xC (.int 0)) aNil))) α) lenOk)) oNone (oSome (x2 fAdd (xVar 3) (xC (.int 1)))))))
      (sSeq (sSet 4 (lift (xL (qO 1))))
      (sSeq (sSet 5 (lift (xL (xCat (fun α => bnd ((aCons (xC (.int 0)) aNil) α) lenOk) (xLc [6] (xRng2 (aCons (xC (.int 1)) (aCons (x2 fAdd (xVar 3) (xC (.int 1))) aNil))) (gN 6) tbYes (xLend 1 (xCall m__law_rings_of (aCons (xVar 1) (aCons (xVar 6) aNil)))))))))
      (sRet (lift (xB (tbAnd (asB (xCall m__law_is_row (aCons (xL (fun α => bnd ((aCons (xVar 4) aNil) α) m_ring_counts)) (aCons (xVar 5) aNil)))) (asB (xLend 1 (x2 fEqQ (xVar 4) (xVar 1))))))))))))))
def m_law : List D → Option D := runP 7 1 b_law
open PowS
theorem go_newest_w_row (a : Nat → Int) (n : Nat) (ok : OkS .row a n) :
    lcF (gN 2) tbYes (x2 fMulW (xIx (qL (xFld "RowSeries" "gone" (xVar 0))) (xVar 2)) (xIx (qL (xFld "RowSeries" "made" (xVar 0))) (x2 fSub (xVar 1) (xVar 2)))) ((List.range n).map fun (k : Nat) => D.int (1 + (k : Int))) [some (.dat (serDr "RowSeries" a (rowV a) (n + 1) n)), some (.dat (.int n)), none]
      = some (((List.range n).map fun k => a (k + 1) * rowV a (n - (k + 1))).map .int) := by
  rw [List.map_map]
  refine lcF_maps fun d hd => ⟨[some (.dat (serDr "RowSeries" a (rowV a) (n + 1) n)), some (.dat (.int n)), some (.dat (.int (1 + (d : Int))))], rfl, rfl, ?_⟩
  have hdk := List.mem_range.mp hd
  have e1 : atI (df a (n + 1)) (1 + (d : Int)) = some (.int (a (d + 1))) := df_at (by omega) (by omega)
  have e2 : atI (df (rowV a) n) ((n : Int) - (1 + (d : Int))) = some (.int (rowV a (n - (d + 1)))) := df_at (by omega) (by omega)
  have c : CMulW (a (d + 1)) (rowV a (n - (d + 1))) := sn_mul (ok.h (d + 1) (by omega)) (ok.v (n - (d + 1)) (by omega)) (by have := ok.n; omega)
  show _ = some (D.int (a (d + 1) * rowV a (n - (d + 1))))
  generalize a (d + 1) = u at e1 c ⊢
  generalize rowV a (n - (d + 1)) = v at e2 c ⊢
  have l1 := serDr_gone "RowSeries" a (rowV a) (n + 1) n
  have l2 := serDr_made "RowSeries" a (rowV a) (n + 1) n
  simp only [serDr, x2, a_xIx, a_qL, a_xFld, xVar, l1, l2, List.getElem?_cons_zero, List.getElem?_cons_succ, if_pos, bnd_s, e1, e2, ii, c, Function.comp]
theorem v_newest_w_row (a : Nat → Int) (n : Nat) (ok : OkS .row a n) : m_newest_w_row [serDr "RowSeries" a (rowV a) (n + 1) n, .int n] = some (.int (rowV a n)) := by
  have hn := ok.n
  have hv : rowV a n = if n = 0 then 1 else sm (fun k => a (k + 1) * rowV a (n - (k + 1))) n := recF_eq (less_row a) n
  have : ∃ β, b_newest_w_row (inP 3 2 [serDr "RowSeries" a (rowV a) (n + 1) n, .int n]) = .ret (.dat (.int (rowV a n))) β := by
    have go := go_newest_w_row a n ok
    have hs := fSum_intsL ((List.range n).map fun k => a (k + 1) * rowV a (n - (k + 1)))
    rw [sum_range] at hs
    have r1 : rngOk ((n : Int) + 1) = true := rngOk_of (by omega) (by omega)
    have rr : rngD 1 n = (List.range n).map fun (d : Nat) => D.int (1 + (d : Int)) := rfl
    have rl : ((List.range n).map fun (d : Nat) => D.int (1 + (d : Int))).length ≤ 100000 := by simp; omega
    have tn : ((n : Int) + 1 - 1).toNat = n := by omega
    rw [hv]
    unfold b_newest_w_row inP
    generalize serDr "RowSeries" a (rowV a) (n + 1) n = S at *
    generalize sm (fun k => a (k + 1) * rowV a (n - (k + 1))) n = q at *
    generalize ((List.range n).map fun k => a (k + 1) * rowV a (n - (k + 1))) = zs at *
    generalize ((List.range n).map fun (d : Nat) => D.int (1 + (d : Int))) = ds at *
    by_cases h0 : n = 0
    · subst h0; simp
    · have hz : decide (n = 0) = false := by simpa using h0
      simp [hz, h0, r1, tn, rr, rl, go, hs]
  obtain ⟨β, e⟩ := this
  exact runP_dat rfl e
open PowS
theorem v_divisors (k : Nat) (hk : k ≤ 1000) : m_divisors [.int k] = some ((dvs k).map fun (d : Nat) => D.int (1 + (d : Int))) := by
  have : ∃ β, b_divisors (inP 2 1 [.int k]) = .ret (.lst ((dvs k).map fun (d : Nat) => D.int (1 + (d : Int)))) β := by
    have r1 : rngOk ((k : Int) + 1) = true := rngOk_of (by omega) (by omega)
    have rr : rngD 1 k = (List.range k).map fun (d : Nat) => D.int (1 + (d : Int)) := rfl
    have rl : k ≤ 100000 := by omega
    have go : lcF (gN 1) (asB (x2 fEq (x2 fMod (xVar 0) (xVar 1)) (xC (.int 0)))) (xVar 1) ((List.range k).map fun (d : Nat) => D.int (1 + (d : Int))) [some (.dat (.int k)), none] = some ((dvs k).map fun (d : Nat) => D.int (1 + (d : Int))) := by
      unfold dvs
      refine lcF_filter fun d hd => ⟨[some (.dat (.int k)), some (.dat (.int (1 + (d : Int))))], rfl, ?_, fun _ => by simp⟩
      have h0 : (0 : Int) < 1 + (d : Int) := by omega
      have e : ((k : Int) % (1 + (d : Int)) = 0) ↔ k % (d + 1) = 0 := by
        have : (1 + (d : Int)) = ((d + 1 : Nat) : Int) := by omega
        rw [this]
        omega
      simp [h0, e]
    unfold b_divisors inP
    simp [r1, rr, rl, go]
  obtain ⟨β, e⟩ := this
  exact runL_lst rfl e
theorem dvs_len (k : Nat) : (dvs k).length ≤ k := by
  unfold dvs
  exact Nat.le_trans (List.length_filter_le _ _) (by rw [List.length_range]; exact Nat.le_refl _)
theorem shared_loop : ∀ (n a b : Nat) (x : Option A), b < n → ∃ y, loopW bt_shared_2 bl_shared_1 n [some (.dat (.int a)), some (.dat (.int b)), x] = .nxt [some (.dat (.int (Nat.gcd a b))), some (.dat (.int 0)), y]
  | 0, _, _, _, h => absurd h (Nat.not_lt_zero _)
  | n + 1, a, b, x, h => by
    by_cases h0 : b = 0
    · subst h0
      refine ⟨x, ?_⟩
      unfold loopW bt_shared_2
      simp
    · have hp : 0 < (b : Int) := by omega
      have hn : ¬ ((b : Int) = 0) := by omega
      obtain ⟨y, i⟩ := shared_loop n b (a % b) (some (.dat (.int ((a % b : Nat) : Int)))) (by have := Nat.mod_lt a (Nat.pos_of_ne_zero h0); omega)
      refine ⟨y, ?_⟩
      have eb : bl_shared_1 [some (.dat (.int a)), some (.dat (.int b)), x] = .nxt [some (.dat (.int b)), some (.dat (.int ((a % b : Nat) : Int))), some (.dat (.int ((a % b : Nat) : Int)))] := by
        unfold bl_shared_1
        simp [Nat.pos_of_ne_zero h0]
      have et : bt_shared_2 [some (.dat (.int a)), some (.dat (.int b)), x] = .ok true [some (.dat (.int a)), some (.dat (.int b)), x] := by unfold bt_shared_2; simp [h0]
      have eg : Nat.gcd b (a % b) = Nat.gcd a b := by rw [Nat.gcd_comm b (a % b), ← Nat.gcd_rec, Nat.gcd_comm]
      rw [eg] at i
      unfold loopW
      rw [et]
      dsimp only
      rw [eb]
      exact i
theorem v_shared (a b : Nat) (h : b ≤ 1000) : m_shared [.int a, .int b] = some (.int (Nat.gcd a b)) := by
  obtain ⟨y, i⟩ := shared_loop (b + 1) a b none (by omega)
  have : ∃ β, b_shared (inP 3 2 [.int a, .int b]) = .ret (.dat (.int (Nat.gcd a b))) β := by
    unfold b_shared inP
    simp [i]
  obtain ⟨β, e⟩ := this
  exact runP_dat rfl e
theorem v_shn (k : Nat) (hk : k ≤ 1000) : m_sharing_none [.int k] = some (.int (shn k)) := by
  have r1 : rngOk ((k : Int) + 1) = true := rngOk_of (by omega) (by omega)
  have rr : rngD 1 k = (List.range k).map fun (d : Nat) => D.int (1 + (d : Int)) := rfl
  have rl : k ≤ 100000 := by omega
  have tn : ((k : Int) + 1 - 1).toNat = k := by omega
  have : ∃ β, b_sharing_none (inP 2 1 [.int k]) = .ret (.dat (.int (shn k))) β := by
    have go : lcF (gN 1) (asB (x2 fEq (xCall m_shared (aCons (xVar 1) (aCons (xVar 0) aNil))) (xC (.int 1)))) (xVar 1) ((List.range k).map fun (d : Nat) => D.int (1 + (d : Int))) [some (.dat (.int k)), none] = some (((List.range k).filter fun i => decide (Nat.gcd (i + 1) k = 1)).map fun (d : Nat) => D.int (1 + (d : Int))) := by
      refine lcF_filter fun d hd => ⟨[some (.dat (.int k)), some (.dat (.int (1 + (d : Int))))], rfl, ?_, fun _ => by simp⟩
      have v := v_shared (d + 1) k hk
      rw [show ((d + 1 : Nat) : Int) = 1 + (d : Int) by omega] at v
      have e : ((Nat.gcd (d + 1) k : Nat) : Int) = 1 ↔ Nat.gcd (d + 1) k = 1 := by omega
      simp [v, e]
    have hl : ((List.range k).filter fun i => decide (Nat.gcd (i + 1) k = 1)).length ≤ 100000 := Nat.le_trans (List.length_filter_le _ _) (by rw [List.length_range]; exact rl)
    unfold b_sharing_none inP shn
    simp [r1, rr, rl, tn, go, hl]
  obtain ⟨β, e⟩ := this
  exact runP_dat rfl e
theorem shn_le (k : Nat) : (shn k).natAbs ≤ k := by
  unfold shn
  have := List.length_filter_le (fun i => decide (Nat.gcd (i + 1) k = 1)) (List.range k)
  rw [List.length_range] at this
  omega
theorem go_newest_w_ring (a : Nat → Int) (n : Nat) (hn0 : n ≠ 0) (ok : OkS .ring a n) (u : Option A) :
    lcF (gN 3) tbYes (x2 fMulW (xCall m_sharing_none (aCons (xVar 3) aNil)) (xIx (qL (xFld "RingSeries" "marked" (xVar 0))) (x2 fDivW (xVar 1) (xVar 3)))) ((dvs n).map fun (d : Nat) => D.int (1 + (d : Int))) [some (.dat (serDg a (ringV a) (markV a) (n + 1) n (n + 1) (n + 1))), some (.dat (.int n)), u, none]
      = some (((dvs n).map fun (t : Nat) => shn (t + 1) * markV a (n / (t + 1))).map .int) := by
  rw [List.map_map]
  refine lcF_maps fun d hd => ⟨[some (.dat (serDg a (ringV a) (markV a) (n + 1) n (n + 1) (n + 1))), some (.dat (.int n)), u, some (.dat (.int (1 + (d : Int))))], rfl, rfl, ?_⟩
  have hdk := dvs_mem hd
  have hn := ok.n
  have hdl : n / (d + 1) ≤ n := Nat.div_le_self _ _
  have ed : (n : Int) / (1 + (d : Int)) = ((n / (d + 1) : Nat) : Int) := by
    rw [show (1 + (d : Int)) = ((d + 1 : Nat) : Int) by omega]; rfl
  have e1 : atI (df (markV a) (n + 1)) ((n : Int) / (1 + (d : Int))) = some (.int (markV a (n / (d + 1)))) := df_at ed (by omega)
  have v := v_shn (d + 1) (by omega)
  rw [show ((d + 1 : Nat) : Int) = 1 + (d : Int) by omega] at v
  have c : CMulW (shn (d + 1)) (markV a (n / (d + 1))) := mark_mul (by have := shn_le (d + 1); omega) (markV_bd (by omega) (fun x hx => ok.h x (by omega)) fun x hx => ok.r rfl x (by omega))
  have cd : CDivW (n : Int) (1 + (d : Int)) := divW_le (by omega) (by omega)
  show _ = some (D.int (shn (d + 1) * markV a (n / (d + 1))))
  have l1 := serDg_marked a (ringV a) (markV a) (n + 1) n (n + 1) (n + 1)
  generalize shn (d + 1) = z at v c ⊢
  generalize markV a (n / (d + 1)) = y at e1 c ⊢
  simp only [serDg, x2, a_xIx, a_qL, a_xFld, xVar, xCall, aCons, aNil, l1, v, List.getElem?_cons_zero, List.getElem?_cons_succ, if_pos, bnd_s, e1, ii, c, cd, Function.comp]
theorem v_newest_w_ring (a : Nat → Int) (n : Nat) (h0 : n ≠ 0) (ok : OkS .ring a n) : m_newest_w_ring [serDg a (ringV a) (markV a) (n + 1) n (n + 1) (n + 1), .int n] = some (.int (ringV a n)) := by
  have hn := ok.n
  have hd := v_divisors n (by omega)
  have hv : ringV a n = ((dvs n).map fun (t : Nat) => shn (t + 1) * markV a (n / (t + 1))).sum / (n : Int) := if_neg h0
  have : ∃ β, b_newest_w_ring (inP 4 2 [serDg a (ringV a) (markV a) (n + 1) n (n + 1) (n + 1), .int n]) = .ret (.dat (.int (ringV a n))) β := by
    have go := go_newest_w_ring a n h0 ok none
    have hs := fSum_intsL ((dvs n).map fun (t : Nat) => shn (t + 1) * markV a (n / (t + 1)))
    have lm : ((dvs n).map fun (d : Nat) => D.int (1 + (d : Int))).length ≤ 100000 := by rw [List.length_map]; exact Nat.le_trans (dvs_len n) (by omega)
    have hc : CDivW (((dvs n).map fun (t : Nat) => shn (t + 1) * markV a (n / (t + 1))).sum) (n : Int) := divW_le (by omega) (by omega)
    rw [hv]
    unfold b_newest_w_ring inP
    generalize serDg a (ringV a) (markV a) (n + 1) n (n + 1) (n + 1) = S at *
    generalize ((dvs n).map fun (t : Nat) => shn (t + 1) * markV a (n / (t + 1))) = zs at *
    generalize ((dvs n).map fun (d : Nat) => D.int (1 + (d : Int))) = ds at *
    simp [hd, lm, go, hs, hc]
  obtain ⟨β, e⟩ := this
  exact runP_dat rfl e
theorem v_mark_newest_w_ring (a : Nat → Int) (n : Nat) (ok : OkS .ring a n) : (xSum (xLc [2] (xRng2 (aCons (xC (.int 1)) (aCons (x2 fAdd (xVar 1) (xC (.int 1))) aNil))) (gN 2) tbYes (x2 fMulW (x2 fMulW (xVar 2) (xIx (qL (xFld "RingSeries" "gone" (xVar 0))) (xVar 2))) (xIx (qL (xFld "RowSeries" "made" (xFld "RingSeries" "lines" (xVar 0)))) (x2 fSub (xVar 1) (xVar 2)))))) (inP 4 2 [serDg a (ringV a) (markV a) (n + 1) n (n + 1) n, .int n]) = some (.int (markV a n)) := by
  have hn := ok.n
  have go : lcF (gN 2) tbYes (x2 fMulW (x2 fMulW (xVar 2) (xIx (qL (xFld "RingSeries" "gone" (xVar 0))) (xVar 2))) (xIx (qL (xFld "RowSeries" "made" (xFld "RingSeries" "lines" (xVar 0)))) (x2 fSub (xVar 1) (xVar 2)))) ((List.range n).map fun (d : Nat) => D.int (1 + (d : Int))) [some (.dat (serDg a (ringV a) (markV a) (n + 1) n (n + 1) n)), some (.dat (.int n)), none, none]
      = some (((List.range n).map fun i => ((i + 1 : Nat) : Int) * a (i + 1) * rowV a (n - (i + 1))).map .int) := by
    rw [List.map_map]
    refine lcF_maps fun d hd => ⟨[some (.dat (serDg a (ringV a) (markV a) (n + 1) n (n + 1) n)), some (.dat (.int n)), some (.dat (.int (1 + (d : Int)))), none], rfl, rfl, ?_⟩
    have hdk := List.mem_range.mp hd
    have e1 : atI (df a (n + 1)) (1 + (d : Int)) = some (.int (a (d + 1))) := df_at (by omega) (by omega)
    have e2 : atI (df (rowV a) (n + 1)) ((n : Int) - (1 + (d : Int))) = some (.int (rowV a (n - (d + 1)))) := df_at (by omega) (by omega)
    obtain ⟨c1, c2⟩ := ring_mul (i := d + 1) (by omega) (ok.h (d + 1) (by omega)) (ok.r rfl (n - (d + 1)) (by omega)) (by omega)
    have e3 : (1 : Int) + (d : Int) = ((d + 1 : Nat) : Int) := by omega
    rw [e3] at e1 e2 ⊢
    show _ = some (D.int (((d + 1 : Nat) : Int) * a (d + 1) * rowV a (n - (d + 1))))
    have l1 := serDg_gone a (ringV a) (markV a) (n + 1) n (n + 1) n
    have l2 : _ = some (D.ins "RowSeries" [(("gone" : Str), D.lst (df a (n + 1))), ("made", .lst (df (rowV a) (n + 1)))]) := serDg_lines a (ringV a) (markV a) (n + 1) n (n + 1) n
    have l3 := serDr_made "RowSeries" a (rowV a) (n + 1) (n + 1)
    generalize a (d + 1) = u at e1 c1 c2 ⊢
    generalize rowV a (n - (d + 1)) = v at e2 c2 ⊢
    generalize ((d + 1 : Nat) : Int) = z at e1 e2 c1 c2 ⊢
    simp only [serDg, x2, a_xIx, a_qL, a_xFld, xVar, l1, l2, l3, List.getElem?_cons_zero, List.getElem?_cons_succ, if_pos, bnd_s, e1, e2, ii, c1, c2, Function.comp]
  have hs := fSum_intsL ((List.range n).map fun i => ((i + 1 : Nat) : Int) * a (i + 1) * rowV a (n - (i + 1)))
  rw [sum_range] at hs
  have r1 : rngOk ((n : Int) + 1) = true := rngOk_of (by omega) (by omega)
  have rr : rngD 1 n = (List.range n).map fun (d : Nat) => D.int (1 + (d : Int)) := rfl
  have rl : ((List.range n).map fun (d : Nat) => D.int (1 + (d : Int))).length ≤ 100000 := by simp; omega
  have tn : ((n : Int) + 1 - 1).toNat = n := by omega
  unfold inP
  show _ = some (D.int (sm (fun i => ((i + 1 : Nat) : Int) * a (i + 1) * rowV a (n - (i + 1))) n))
  generalize serDg a (ringV a) (markV a) (n + 1) n (n + 1) n = S at *
  generalize sm (fun i => ((i + 1 : Nat) : Int) * a (i + 1) * rowV a (n - (i + 1))) n = q at *
  generalize ((List.range n).map fun i => ((i + 1 : Nat) : Int) * a (i + 1) * rowV a (n - (i + 1))) = zs at *
  generalize ((List.range n).map fun (d : Nat) => D.int (1 + (d : Int))) = ds at *
  simp [r1, tn, rr, rl, go, hs]
section
variable {P : Program} {w : World} {K : PySem.W.Frag} {mg : Str → Option Value} {base : Heap} {cls : String → Addr}
theorem ok_divisors {f : Addr} {fd : FuncData} (F : Fun K "divisors" "divisors" s_divisors f fd) (Z : Zs mg) (Y : Ks K mg cls) :
    FnOk P w K mg base CX0 1 f fd ["n"] (spL ⟨K, cls⟩ m_divisors) := by
  have nd := sc_divisors.nd
  refine fn_L b_divisors F sc_divisors (n := 2) (kk := 1) rfl rfl (by decide) rfl (fun cdv A outer s0 H E hr => ?_)
  refine ⟨_, (pss_one (ps_ret (pe_lc (own := [("d", 1)]) rfl nd (pi_range2 (by rfl) Z.z_range (pa_cons pe_int (pa_cons (pe_op op_add (pv 0) pe_int) pa_nil))) (blkOk_by (N := N_divisors) (sc := defScope s_divisors) (by decide +kernel)) (fun _ _ _ _ _ => (pg_name (i := 1) nd rfl (Or.inl rfl))) (fun _ _ _ _ _ => (pts_one (pt_cmpR op_eq (pe_op op_mod (pv 0) (pv 1)) pe_int (nomark _)))) (fun _ _ _ _ _ => (pv 1))))), ?_⟩
  exact (st_retL (ele_p (el_lc (vs := [1]) (ei_rng2 (ea_cons ev_int (ea_cons (ev_op rv_add (ev_var 0) ev_int) ea_nil))) (eg_name 1) (by decide) (et_test (ev_op rv_eq (ev_op rv_mod (ev_var 0) (ev_var 1)) ev_int)) (ev_var 1))))
theorem ok_shared {f : Addr} {fd : FuncData} (F : Fun K "shared" "shared" s_shared f fd) (Z : Zs mg) (Y : Ks K mg cls) :
    FnOk P w K mg base CX0 1 f fd ["a", "b"] (spP ⟨K, cls⟩ m_shared) := by
  have nd := sc_shared.nd
  refine fn_P b_shared F sc_shared (n := 3) (kk := 2) rfl rfl (by decide) rfl (fun cdv A outer s0 H E hr => ?_)
  refine ⟨_, (pss_cons (ps_while PassesOwn.never (pt_cmpR op_ne (pv 1) pe_int (nomark _))
      (pss_cons (ps_set (i := 2) nd rfl (by first | exact Or.inl rfl | exact Or.inr rfl) (pe_op op_mod (pv 0) (pv 1)))
      (pss_cons (ps_set (i := 0) nd rfl (by first | exact Or.inl rfl | exact Or.inr rfl) (pv 1))
      (pss_one (ps_set (i := 1) nd rfl (by first | exact Or.inl rfl | exact Or.inr rfl) (pv 2))))))
      (pss_one (ps_ret (pv 0)))), ?_⟩
  exact (st_seq (st_while (fun α => match xVar 1 α with | some (.int b) => b.toNat + 1 | _ => 0) (ete_p (et_test (ev_op rv_ne (ev_var 1) ev_int)))
      (st_seq (st_set (i := 2) (ee_p (ev_op rv_mod (ev_var 0) (ev_var 1))))
      (st_seq (st_set (i := 0) (ee_p (ev_var 1)))
      (st_set (i := 1) (ee_p (ev_var 2))))))
      (st_ret (ee_p (ev_var 0))))
theorem ok_sharing_none {f : Addr} {fd : FuncData} (F : Fun K "sharing_none" "sharing_none" s_sharing_none f fd) (Z : Zs mg) (Y : Ks K mg cls) (C_shared : Cal P w K mg base "shared" ["a", "b"] 1 (spP ⟨K, cls⟩ m_shared)) :
    FnOk P w K mg base CX0 2 f fd ["k"] (spP ⟨K, cls⟩ m_sharing_none) := by
  have nd := sc_sharing_none.nd
  refine fn_P b_sharing_none F sc_sharing_none (n := 2) (kk := 1) rfl rfl (by decide) rfl (fun cdv A outer s0 H E hr => ?_)
  refine ⟨_, (pss_one (ps_ret (pe_callB (len_q (K := K) rfl) (by rfl) Z.z_len PySem.boot_len (pa_cons (pe_lc (own := [("i", 1)]) rfl nd (pi_range2 (by rfl) Z.z_range (pa_cons pe_int (pa_cons (pe_op op_add (pv 0) pe_int) pa_nil))) (blkOk_by (N := N_sharing_none) (sc := defScope s_sharing_none) (by decide +kernel)) (fun _ _ _ _ _ => (pg_name (i := 1) nd rfl (Or.inl rfl))) (fun _ _ _ _ _ => (pts_one (pt_cmpR op_eq (pe_cal C_shared hr (by first | omega | exact Nat.le_refl _ | exact Nat.le_trans (by decide) (Nat.le_add_right _ _)) rfl (pa_cons (pv 1) (pa_cons (pv 0) pa_nil))) pe_int (nomark _)))) (fun _ _ _ _ _ => (pv 1))) pa_nil)))), ?_⟩
  exact (st_ret (ee_p (ev_lenL (eq_n (el_lc (vs := [1]) (ei_rng2 (ea_cons ev_int (ea_cons (ev_op rv_add (ev_var 0) ev_int) ea_nil))) (eg_name 1) (by decide) (et_test (ev_op rv_eq (ev_call (ea_cons (ev_var 1) (ea_cons (ev_var 0) ea_nil))) ev_int)) (ev_var 1))))))
theorem ok_Series_init0_ring {f : Addr} {fd : FuncData} (F : Fun K "__init__" "Series.__init__" s_Series_init0_ring f fd) (Z : Zs mg) (Y : Ks K mg cls) :
    FnOk P w K mg base CX0 1 f fd ["self"] (spInit0 (cls "RingSeries")) := by
  have nd := sc_Series_init0_ring.nd
  refine Fun.ok F sc_Series_init0_ring (fun vs H Q E ⟨p, dx, h, _⟩ => by rw [h]; rfl) (fun cdv A outer s0 H vs Q E hr hsp => ?_)
  refine ⟨_, pss_cons (ps_fld (pv 0) (pe_lst pa_nil) rfl) (pss_one (ps_fld (pv 0) (pe_lst pa_nil) rfl)), ?_⟩
  obtain ⟨p, dx, rfl, hp, q⟩ := hsp
  refine ⟨Nat.zero_le _, fun g hg => ⟨_, rfl, p, cls "RingSeries", dx, [], rfl, ?_, Y.kc_RingSeries, Y.kn_RingSeries_gone, by decide, ?_⟩⟩
  · rw [upd_ne (ne_of_none hp hg)]; exact hp
  have hpg : p ≠ g := ne_of_none hp hg
  have e1 : putF "gone" (V.ref g) [] = [(("gone" : Str), V.ref g)] := rfl
  rw [e1]
  refine ⟨Nat.zero_le _, fun m hm => ⟨_, rfl, p, cls "RingSeries", dx, [("gone", .ref g)], rfl, ?_, Y.kc_RingSeries, Y.kn_RingSeries_made, (by show 1 < 1000; decide), ?_⟩⟩
  · have : p ≠ m := by rintro rfl; rw [upd_same] at hm; cases hm
    rw [upd_ne this, upd_same]
  have hpm : p ≠ m := by rintro rfl; rw [upd_same] at hm; cases hm
  have hgm : g ≠ m := by rintro rfl; rw [upd_ne (Ne.symm hpm), upd_same] at hm; cases hm
  rw [upd_ne (Ne.symm hpm), upd_ne (Ne.symm hgm)] at hm
  have e2 : putF "made" (V.ref m) [(("gone" : Str), V.ref g)] = [(("gone" : Str), V.ref g), ("made", V.ref m)] := rfl
  rw [e2]
  refine q g m _ (fun a o ha hap => ?_) hg hm (by simp [hpg, hpm, hgm]) upd_same ?_ ?_
  · have hap := fun z => hap (List.mem_singleton.mpr z)
    rw [upd_ne hap, upd_ne (ne_of_none ha hm), upd_ne hap, upd_ne (ne_of_none ha hg)]; exact ha
  · rw [upd_ne (Ne.symm hpg), upd_ne hgm, upd_ne (Ne.symm hpg), upd_same]
  · rw [upd_ne (Ne.symm hpm), upd_same]
theorem ok_Series_init0_row {f : Addr} {fd : FuncData} (F : Fun K "__init__" "Series.__init__" s_Series_init0_row f fd) (Z : Zs mg) (Y : Ks K mg cls) :
    FnOk P w K mg base CX0 1 f fd ["self"] (spInit0 (cls "RowSeries")) := by
  have nd := sc_Series_init0_row.nd
  refine Fun.ok F sc_Series_init0_row (fun vs H Q E ⟨p, dx, h, _⟩ => by rw [h]; rfl) (fun cdv A outer s0 H vs Q E hr hsp => ?_)
  refine ⟨_, pss_cons (ps_fld (pv 0) (pe_lst pa_nil) rfl) (pss_one (ps_fld (pv 0) (pe_lst pa_nil) rfl)), ?_⟩
  obtain ⟨p, dx, rfl, hp, q⟩ := hsp
  refine ⟨Nat.zero_le _, fun g hg => ⟨_, rfl, p, cls "RowSeries", dx, [], rfl, ?_, Y.kc_RowSeries, Y.kn_RowSeries_gone, by decide, ?_⟩⟩
  · rw [upd_ne (ne_of_none hp hg)]; exact hp
  have hpg : p ≠ g := ne_of_none hp hg
  have e1 : putF "gone" (V.ref g) [] = [(("gone" : Str), V.ref g)] := rfl
  rw [e1]
  refine ⟨Nat.zero_le _, fun m hm => ⟨_, rfl, p, cls "RowSeries", dx, [("gone", .ref g)], rfl, ?_, Y.kc_RowSeries, Y.kn_RowSeries_made, (by show 1 < 1000; decide), ?_⟩⟩
  · have : p ≠ m := by rintro rfl; rw [upd_same] at hm; cases hm
    rw [upd_ne this, upd_same]
  have hpm : p ≠ m := by rintro rfl; rw [upd_same] at hm; cases hm
  have hgm : g ≠ m := by rintro rfl; rw [upd_ne (Ne.symm hpm), upd_same] at hm; cases hm
  rw [upd_ne (Ne.symm hpm), upd_ne (Ne.symm hgm)] at hm
  have e2 : putF "made" (V.ref m) [(("gone" : Str), V.ref g)] = [(("gone" : Str), V.ref g), ("made", V.ref m)] := rfl
  rw [e2]
  refine q g m _ (fun a o ha hap => ?_) hg hm (by simp [hpg, hpm, hgm]) upd_same ?_ ?_
  · have hap := fun z => hap (List.mem_singleton.mpr z)
    rw [upd_ne hap, upd_ne (ne_of_none ha hm), upd_ne hap, upd_ne (ne_of_none ha hg)]; exact ha
  · rw [upd_ne (Ne.symm hpg), upd_ne hgm, upd_ne (Ne.symm hpg), upd_same]
  · rw [upd_ne (Ne.symm hpm), upd_same]
theorem ok_Series_init_row {f : Addr} {fd : FuncData} (F : Fun K "__init__" "Series.__init__" s_Series_init_row f fd) (Z : Zs mg) (Y : Ks K mg cls) :
    FnOk P w K mg base CX0 4 f fd ["self"] (spIni ⟨K, cls⟩ .row) := by
  have nd := sc_Series_init_row.nd
  exact (ok_Series_init0_row F Z Y).imp (fun vs H Q E ⟨p, dx, h, hp, q⟩ => ⟨p, dx, h, hp, fun g m H' fr hg hm nd hp' hg' hm' => q [p, g, m] (fun _ => 0) H' fr (fun x hx => by
    simp only [List.mem_cons, List.not_mem_nil, or_false] at hx
    rcases hx with rfl | rfl | rfl
    · exact .inl rfl
    · exact .inr hg
    · exact .inr hm) ⟨g, m, [], [], rfl, nd, ⟨⟨dx, hp'⟩, hg', hm'⟩, rfl, rfl⟩⟩) |>.mono (by omega)
theorem ok_RingSeries_init {f : Addr} {fd : FuncData} (F : Fun K "__init__" "RingSeries.__init__" s_RingSeries_init f fd) (Z : Zs mg) (Y : Ks K mg cls) (I_RowSeries : CalI P w K mg base "RowSeries" (cls "RowSeries") ["self"] 4 (spIni ⟨K, cls⟩ .row)) (CF_Series_Series_init0_ring : CalF P w K mg base "Series" "__init__" ["self"] 1 (spInit0 (cls "RingSeries"))) :
    FnOk P w K mg base CX0 6 f fd ["self"] (spIni ⟨K, cls⟩ .ring) := by
  have nd := sc_RingSeries_init.nd
  refine Fun.ok F sc_RingSeries_init (fun vs H Q E ⟨p, dx, h, _⟩ => by rw [h]; rfl) (fun cdv A outer s0 H vs Q E hr hsp => ?_)
  refine ⟨_, pss_cons (ps_expr (pe_calF (x := "Series") CF_Series_Series_init0_ring rfl hr (by first | omega | exact Nat.le_refl _) (pa_cons (pv 0) pa_nil)))
    (pss_cons (ps_fld (pv 0) (pe_cali0 I_RowSeries hr (by first | omega | exact Nat.le_refl _) rfl) rfl) (pss_one (ps_fld (pv 0) (pe_lst (pa_cons pe_int pa_nil)) rfl))), ?_⟩
  obtain ⟨p, dx, rfl, hp, q⟩ := hsp
  refine ⟨_, rfl, p, dx, rfl, hp, fun g m H1 fr hg hm nd hp1 hg1 hm1 => ?_⟩
  simp only [List.nodup_cons, List.mem_cons, List.not_mem_nil, or_false, not_or, not_false_eq_true, and_true, List.nodup_nil] at nd
  obtain ⟨⟨hpg, hpm⟩, hgm⟩ := nd
  intro x xd hx hxd hxx
  have hpx : p ≠ x := ne_of_none hp1 hx
  have hpxd : p ≠ xd := ne_of_none hp1 hxd
  have hgx : g ≠ x := ne_of_none hg1 hx
  have hgxd : g ≠ xd := ne_of_none hg1 hxd
  have hmx : m ≠ x := ne_of_none hm1 hx
  have hmxd : m ≠ xd := ne_of_none hm1 hxd
  refine ⟨x, xd, rfl, upd_same, fun cs a H2 fr2 hc2 hs2 => ⟨rfl, ?_⟩⟩
  have old : ∀ b o, H1 b = some o → H2 b = some o := fun b o hb => by
    have h1 : b ≠ x := ne_of_none hb hx
    have h2 : b ≠ xd := ne_of_none hb hxd
    exact fr2 b o (by rw [upd_ne h1, upd_ne h2]; exact hb) (by simpa using h1)
  have new : ∀ c ∈ cs, H1 c = none := fun c hc => by
    rcases hc2 c hc with rfl | h
    · exact hx
    · by_cases e1 : c = x
      · rw [e1]; exact hx
      · by_cases e2 : c = xd
        · rw [e2]; exact hxd
        · rw [upd_ne e1, upd_ne e2] at h; exact h
  have hp2 := old _ _ hp1
  refine ⟨_, rfl, p, cls "RingSeries", dx, [("gone", .ref g), ("made", .ref m)], rfl, hp2, Y.kc_RingSeries, Y.kn_RingSeries_lines, (by show 2 < 1000; decide), ?_⟩
  have e2 : putF "lines" (V.ref x) [(("gone" : Str), V.ref g), ("made", V.ref m)] = [(("gone" : Str), V.ref g), ("made", V.ref m), ("lines", V.ref x)] := rfl
  rw [e2]
  have cp : p ∉ cs := fun h => by rw [new p h] at hp1; cases hp1
  have cg : g ∉ cs := fun h => by rw [new g h] at hg1; cases hg1
  have cm : m ∉ cs := fun h => by rw [new m h] at hm1; cases hm1
  have hs3 := hs2.up (Fr.upd (cs := [p]) (H := H2) (o := .ins (cls "RingSeries") dx [("gone", V.ref g), ("made", V.ref m), ("lines", V.ref x)]) List.mem_cons_self) fun c hc => by
    intro z; rw [List.mem_singleton] at z; subst z; exact cp hc
  refine ⟨(by decide : ([V.int 0] : List V).length ≤ sizeLine), fun t ht => ⟨_, rfl, p, cls "RingSeries", dx, [("gone", .ref g), ("made", .ref m), ("lines", .ref x)], rfl, ?_, Y.kc_RingSeries, Y.kn_RingSeries_marked, (by show 3 < 1000; decide), ?_⟩⟩
  · have : p ≠ t := by rintro rfl; rw [upd_same] at ht; cases ht
    rw [upd_ne this, upd_same]
  have e3 : putF "marked" (V.ref t) [(("gone" : Str), V.ref g), ("made", V.ref m), ("lines", V.ref x)] = [(("gone" : Str), V.ref g), ("made", V.ref m), ("lines", V.ref x), ("marked", V.ref t)] := rfl
  rw [e3]
  have hpt : p ≠ t := by rintro rfl; rw [upd_same] at ht; cases ht
  rw [upd_ne (Ne.symm hpt)] at ht
  have hgt : g ≠ t := ne_of_none (old _ _ hg1) ht
  have hmt : m ≠ t := ne_of_none (old _ _ hm1) ht
  have ct : t ∉ cs := fun h => by
    obtain ⟨o, ho⟩ := hs2.dom t h
    rw [ho] at ht; cases ht
  obtain ⟨g', m', ex', cx', rfl, nd', s0', hex, hcx⟩ := hs3
  subst hex hcx
  have ht1 : H1 t = none := by
    cases hz : H1 t with
    | none => rfl
    | some o => rw [old t o hz] at ht; cases ht
  have inH : ∀ b, H1 b = none → b ≠ p → H b = none := fun b hb hbp => by
    cases hz : H b with
    | none => rfl
    | some o => rw [fr b o hz (by simpa using hbp)] at hb; cases hb
  have x_p : x ≠ p := Ne.symm hpx
  have mx : x ∈ [x, g', m'] := by simp
  have mg' : g' ∈ [x, g', m'] := by simp
  have mm' : m' ∈ [x, g', m'] := by simp
  simp only [List.nodup_cons, List.mem_cons, List.not_mem_nil, or_false, not_or, not_false_eq_true, and_true, List.nodup_nil] at nd' cp cg cm ct
  obtain ⟨⟨a1, a2⟩, a3⟩ := nd'
  have s0n : Ser0 ⟨K, cls⟩ "RowSeries" (upd (upd (upd H2 p (.ins (cls "RingSeries") dx [("gone", V.ref g), ("made", V.ref m), ("lines", V.ref x)])) t (.lst [.int 0])) p (.ins (cls "RingSeries") dx [("gone", V.ref g), ("made", V.ref m), ("lines", V.ref x), ("marked", V.ref t)])) x g' m' [] a (rowV a) 0 0 :=
    (s0'.up (Fr.upd (cs := [t]) List.mem_cons_self) (by simpa using Ne.symm ct.1) (by simpa using Ne.symm ct.2.1) (by simpa using Ne.symm ct.2.2)).up (Fr.upd (cs := [p]) List.mem_cons_self) (by simpa using Ne.symm cp.1) (by simpa using Ne.symm cp.2.1) (by simpa using Ne.symm cp.2.2)
  refine q [p, g, m, t, x, g', m'] a _ (fun b o hb hbp => ?_) (fun b hb => ?_) ⟨g, m, _, [t, x, g', m'], rfl, ?_, ⟨⟨dx, upd_same⟩, ?_, ?_⟩, x, g', m', t, rfl, rfl, ?_, s0n⟩
  · have hbp' := fun z => hbp (List.mem_singleton.mpr z)
    have hb1 := fr b o hb hbp
    rw [upd_ne hbp', upd_ne (ne_of_none (old _ _ hb1) ht), upd_ne hbp']; exact old _ _ hb1
  · simp only [List.mem_cons, List.not_mem_nil, or_false] at hb
    rcases hb with rfl | rfl | rfl | rfl | rfl | rfl | rfl
    · exact .inl rfl
    · exact .inr hg
    · exact .inr hm
    · exact .inr (inH _ ht1 (Ne.symm hpt))
    · exact .inr (inH _ (new _ mx) (Ne.symm cp.1))
    · exact .inr (inH _ (new _ mg') (Ne.symm cp.2.1))
    · exact .inr (inH _ (new _ mm') (Ne.symm cp.2.2))
  · simp [hpg, hpm, hgm, hpt, hgt, hmt, cp, cg, cm, ct, a1, a2, a3]
  · rw [upd_ne (Ne.symm hpg), upd_ne hgt, upd_ne (Ne.symm hpg)]; exact old _ _ hg1
  · rw [upd_ne (Ne.symm hpm), upd_ne hmt, upd_ne (Ne.symm hpm)]; exact old _ _ hm1
  · rw [upd_ne (Ne.symm hpt), upd_same]; rfl
theorem ok_newest_w_row {f : Addr} {fd : FuncData} (F : Fun K "newest" "RowSeries.newest" s_newest_w_row f fd) (Z : Zs mg) (Y : Ks K mg cls) :
    FnOk P w K mg base CX0 1 f fd ["self", "n"] (spP ⟨K, cls⟩ m_newest_w_row) := by
  have nd := sc_newest_w_row.nd
  refine fn_P b_newest_w_row F sc_newest_w_row (n := 3) (kk := 2) rfl rfl (by decide) rfl (fun cdv A outer s0 H E hr => ?_)
  refine ⟨_, (pss_cons (ps_if (pt_cmpR op_eq (pv 1) pe_int (nomark _)) (pss_one (ps_ret pe_int)) pss_nil)
      (pss_one (ps_ret (pe_callB (sum_q (K := K) rfl rfl) (by rfl) Z.z_sum PyProof.Rows.boot_sum (pa_cons (pe_lc (own := [("k", 2)]) rfl nd (pi_range2 (by rfl) Z.z_range (pa_cons pe_int (pa_cons (pe_op op_add (pv 1) pe_int) pa_nil))) (blkOk_by (N := N_newest_w_row) (sc := defScope s_newest_w_row) (by decide +kernel)) (fun _ _ _ _ _ => (pg_name (i := 2) nd rfl (Or.inl rfl))) (fun _ _ _ _ _ => pts_nil) (fun _ _ _ _ _ => (pe_op op_mulW (pe_ix (ixl (K := K) rfl) (pe_fldK (K := K) rfl (pv 0)) (pv 2) (fun _ _ => rfl)) (pe_ix (ixl (K := K) rfl) (pe_fldK (K := K) rfl (pv 0)) (pe_op op_sub (pv 1) (pv 2)) (fun _ _ => rfl))))) pa_nil))))), ?_⟩
  exact (st_seq (st_if (ete_p (et_test (ev_op rv_eq (ev_var 1) ev_int))) (st_ret (ee_p ev_int)) st_next)
      (st_ret (ee_p (ev_sum (eq_n (el_lc (vs := [2]) (ei_rng2 (ea_cons ev_int (ea_cons (ev_op rv_add (ev_var 1) ev_int) ea_nil))) (eg_name 2) (by decide) et_yes (ev_op rv_mulW (ev_ixL (eq_l (ev_fld Y.kc_RowSeries Y.kn_RowSeries_gone (ev_var 0))) (ev_var 2)) (ev_ixL (eq_l (ev_fld Y.kc_RowSeries Y.kn_RowSeries_made (ev_var 0))) (ev_op rv_sub (ev_var 1) (ev_var 2))))))))))
theorem ok_RowSeries_new_h {f : Addr} {fd : FuncData} (F : Fun K "newest" "RowSeries.newest" s_RowSeries_new_h f fd) (Z : Zs mg) (Y : Ks K mg cls) :
    FnOk P w K mg base CX0 2 f fd ["self", "n"] (spNew ⟨K, cls⟩ .row) := by
  have nd := sc_RowSeries_new_h.nd
  refine ((ok_newest_w_row F Z Y).imp (fun vs H Q E ⟨p, g, m, ex, cs, a, i, h, ⟨⟨dx, hp⟩, hg, hm⟩, ⟨hex, hcs⟩, ndp, ok, q⟩ => ?_)).mono (by omega)
  subst hex hcs h
  refine ⟨[], [serDr "RowSeries" a (serV .row a) (i + 1) i, .int i], .int (serV .row a i), dom0 H, ?_, v_newest_w_row a i ok, fun v H' sm r => ?_⟩
  · rw [fz0]
    exact Reps.cons ⟨p, dx, _, rfl, hp, .ref g, _, rfl, ⟨g, _, rfl, .inl (.inl hg), vf_reps⟩, .ref m, _, rfl, ⟨m, _, rfl, .inl (.inl hm), vf_reps⟩, rfl⟩ (Reps.cons rfl Reps.nil)
  · cases r
    exact q H' (Fr.of (sm_same sm)) ⟨rfl, rfl⟩
theorem ok_Series_grow_row {f : Addr} {fd : FuncData} (F : Fun K "grow" "Series.grow" s_Series_grow_row f fd) (Z : Zs mg) (Y : Ks K mg cls) (M_RowSeries_newest : CalM P w K mg base (cls "RowSeries") "newest" ["self", "n"] 2 (spNew ⟨K, cls⟩ .row)) :
    FnOk P w K mg base CX0 3 f fd ["self", "count"] (spGrow ⟨K, cls⟩ .row) := by
  have nd := sc_Series_grow_row.nd
  refine Fun.ok F sc_Series_grow_row (fun vs H Q E hh => by obtain ⟨p, cs, a, i, h, _⟩ := hh; rw [h]; rfl) (fun cdv A outer s0 H vs Q E hr hsp => ?_)
  refine ⟨_, pss_cons (ps_expr (pe_bm PySem.F.plainAttrs_list PySem.F.slot_list_append PySem.F.type_list_append mt_append (pe_fldK (K := K) rfl (pv 0)) (pa_cons (pv 1) pa_nil)))
    (pss_cons (ps_set (i := 2) nd rfl (by first | exact Or.inl rfl | exact Or.inr rfl) (pe_calm (pv 0) Y.kc_RowSeries M_RowSeries_newest hr (by first | omega | exact Nat.le_refl _) (pa_cons (pe_op op_sub (pe_callB (len_q (K := K) rfl) (by rfl) Z.z_len PySem.boot_len (pa_cons (pe_fldK (K := K) rfl (pv 0)) pa_nil)) pe_int) pa_nil)))
    (pss_cons (ps_expr (pe_bm PySem.F.plainAttrs_list PySem.F.slot_list_append PySem.F.type_list_append mt_append (pe_fldK (K := K) rfl (pv 0)) (pa_cons (pv 2) pa_nil)))
    (pss_one (ps_ret (pv 2))))), ?_⟩
  obtain ⟨p, cs, a, i, rfl, hs, ok, q⟩ := hsp
  obtain ⟨g, m, ex, cx, rfl, ndp, ⟨⟨dx, hp⟩, hg, hm⟩, hx⟩ := hs
  have nl := hx.nolook
  have ndp' := ndp
  simp only [List.nodup_cons, List.mem_cons, not_or] at ndp'
  obtain ⟨⟨hpg, hpm, hpc⟩, ⟨hgm, hgc⟩, hmc, hcx⟩ := ndp'
  have hi := ok.n
  refine ⟨_, rfl, p, _, dx, _, .ref g, rfl, hp, Y.kc_RowSeries, Y.kn_RowSeries_gone, rfl, .inl ⟨rfl, vf a i, .inl (.inl hg)⟩, _, rfl, g, vf a i, .int (a i), rfl, rfl, hg, Nat.lt_of_le_of_lt (show (vf _ _).length ≤ 1000 by rw [vf_len]; omega) (by decide), ?_⟩
  rw [vf_snoc]
  have f1 : Fr [g] H (upd H g (.lst (vf a (i + 1)))) := Fr.upd List.mem_cons_self
  have hx1 := hx.up f1 fun x hx z => by rw [List.mem_singleton] at z; subst z; exact hgc hx
  have p1 := f1 _ _ hp (by simpa using hpg)
  have m1 := f1 _ _ hm (by simpa using Ne.symm hgm)
  have g1 : upd H g (.lst (vf a (i + 1))) g = some (.lst (vf a (i + 1))) := upd_same
  generalize hH1 : upd H g (.lst (vf a (i + 1))) = H1 at *
  refine ⟨_, rfl, p, dx, _, rfl, p1, nl.1, _, rfl, p, _, dx, _, .ref g, rfl, p1, Y.kc_RowSeries, Y.kn_RowSeries_gone, rfl, g, vf a (i + 1), rfl, .inl (.inl (.inl g1)), _, _, rfl, rfl, ?_⟩
  refine ⟨p, g, m, ex, cx, a, i, ?_, ⟨⟨dx, p1⟩, g1, m1⟩, hx1, ndp, ok, fun H2 fr2 hx2 => ?_⟩
  · rw [vf_len]
    simp
  have p2 := fr2 _ _ p1 hpc
  have g2 := fr2 _ _ g1 hgc
  have m2 := fr2 _ _ m1 hmc
  refine ⟨_, rfl, p, _, dx, _, .ref m, rfl, p2, Y.kc_RowSeries, Y.kn_RowSeries_made, rfl, .inl ⟨rfl, vf (serV .row a) i, .inl (.inl m2)⟩, _, rfl, m, vf (serV .row a) i, .int (serV .row a i), rfl, rfl, m2, Nat.lt_of_le_of_lt (show (vf _ _).length ≤ 1000 by rw [vf_len]; omega) (by decide), ?_⟩
  refine ⟨.int (serV .row a i), rfl, ?_⟩
  rw [vf_snoc]
  have f3 : Fr [m] H2 (upd H2 m (.lst (vf (serV .row a) (i + 1)))) := Fr.upd List.mem_cons_self
  refine q _ (((f1.mono fun x hx => ?_).trans (fr2.mono fun x hx => ?_)).trans (f3.mono fun x hx => ?_)) ⟨g, m, ex, cx, rfl, ndp, ⟨⟨dx, f3 _ _ p2 (by simpa using hpm)⟩, f3 _ _ g2 (by simpa using hgm), upd_same⟩, hx2.up f3 fun x hx z => by rw [List.mem_singleton] at z; subst z; exact hmc hx⟩
  · rw [List.mem_singleton.mp hx]; simp
  · simp [hx]
  · rw [List.mem_singleton.mp hx]; simp
theorem rest_newest_w_ring {f : Addr} {fd : FuncData} (F : Fun K "newest" "RingSeries.newest" s_newest_w_ring f fd) (Z : Zs mg) (Y : Ks K mg cls) (C_divisors : Cal P w K mg base "divisors" ["n"] 1 (spL ⟨K, cls⟩ m_divisors)) (C_sharing_none : Cal P w K mg base "sharing_none" ["k"] 2 (spP ⟨K, cls⟩ m_sharing_none)) (cdv : Value) (A : Around) (outer : List Env) (s0 : Shared) (H : Hp) (E : XK) (hr : Room 2 (A.deeper (envOfC "RingSeries.newest" (defScope s_newest_w_ring) s0.heap.objs.size f cdv))) :
    ∃ t, PSs (cxOf CX0 P w K mg base N_newest_w_ring "RingSeries.newest" (defScope s_newest_w_ring) f cdv A outer s0 H E).nox ((defBody s_newest_w_ring).drop 3) t ∧ Sts ⟨K, cls⟩ E0 t b_newest_w_ring := by
  have nd := sc_newest_w_ring.nd
  refine ⟨_, (pss_one (ps_ret (pe_op op_fdivW (pe_callB (sum_q (K := K) rfl rfl) (by rfl) Z.z_sum PyProof.Rows.boot_sum (pa_cons (pe_lc (own := [("k", 3)]) rfl nd (pil (K := K) rfl (pe_cal C_divisors hr (by first | omega | exact Nat.le_refl _ | exact Nat.le_trans (by decide) (Nat.le_add_right _ _)) rfl (pa_cons (pv 1) pa_nil))) (blkOk_by (N := N_newest_w_ring) (sc := defScope s_newest_w_ring) (by decide +kernel)) (fun _ _ _ _ _ => (pg_name (i := 3) nd rfl (Or.inl rfl))) (fun _ _ _ _ _ => pts_nil) (fun _ _ _ _ _ => (pe_op op_mulW (pe_cal C_sharing_none hr (by first | omega | exact Nat.le_refl _ | exact Nat.le_trans (by decide) (Nat.le_add_right _ _)) rfl (pa_cons (pv 3) pa_nil)) (pe_ix (ixl (K := K) rfl) (pe_fldK (K := K) rfl (pv 0)) (pe_op op_fdivW (pv 1) (pv 3)) (fun _ _ => rfl))))) pa_nil)) (pv 1)))), ?_⟩
  exact (st_ret (ee_p (ev_op rv_divW (ev_sum (eq_n (el_lc (vs := [3]) (ei_listL (el_call (ea_cons (ev_var 1) ea_nil))) (eg_name 3) (by decide) et_yes (ev_op rv_mulW (ev_call (ea_cons (ev_var 3) ea_nil)) (ev_ixL (eq_l (ev_fld Y.kc_RingSeries Y.kn_RingSeries_marked (ev_var 0))) (ev_op rv_divW (ev_var 1) (ev_var 3))))))) (ev_var 1))))
theorem ok_RingSeries_new_h {f : Addr} {fd : FuncData} (F : Fun K "newest" "RingSeries.newest" s_RingSeries_new_h f fd) (Z : Zs mg) (Y : Ks K mg cls) (C_divisors : Cal P w K mg base "divisors" ["n"] 1 (spL ⟨K, cls⟩ m_divisors)) (C_sharing_none : Cal P w K mg base "sharing_none" ["k"] 2 (spP ⟨K, cls⟩ m_sharing_none)) (M_RowSeries_grow : CalM P w K mg base (cls "RowSeries") "grow" ["self", "count"] 3 (spGrow ⟨K, cls⟩ .row)) :
    FnOk P w K mg base CX0 4 f fd ["self", "n"] (spNew ⟨K, cls⟩ .ring) := by
  have nd := sc_RingSeries_new_h.nd
  refine Fun.ok F sc_RingSeries_new_h (fun vs H Q E hh => by obtain ⟨p, g, m, ex, cs, a, i, h, _⟩ := hh; rw [h]; rfl) (fun cdv A outer s0 H vs Q E hr hsp => ?_)
  obtain ⟨tr, h1, h2⟩ := rest_newest_w_ring (P := P) (w := w) (base := base) (cls := cls) F Z Y C_divisors C_sharing_none cdv A outer s0 H E (hr.mono (by omega))
  refine ⟨_, pss_cons (ps_expr (pe_calm (pe_fldK (K := K) rfl (pv 0)) Y.kc_RowSeries M_RowSeries_grow hr (by first | omega | exact Nat.le_refl _) (pa_cons (pe_ix (ixl (K := K) rfl) (pe_fldK (K := K) rfl (pv 0)) (pv 1) (fun _ _ => rfl)) pa_nil)))
    (pss_cons (ps_if (pt_cmpR op_eq (pv 1) pe_int (nomark _)) (pss_one (ps_ret pe_int)) pss_nil)
    (pss_cons (ps_expr (pe_bm PySem.F.plainAttrs_list PySem.F.slot_list_append PySem.F.type_list_append mt_append (pe_fldK (K := K) rfl (pv 0)) (pa_cons (pe_callB (sum_q (K := K) rfl rfl) (by rfl) Z.z_sum PyProof.Rows.boot_sum (pa_cons (pe_lc (own := [("i", 2)]) rfl nd (pi_range2 (by rfl) Z.z_range (pa_cons pe_int (pa_cons (pe_op op_add (pv 1) pe_int) pa_nil))) (blkOk_by (N := N_RingSeries_new_h) (sc := defScope s_RingSeries_new_h) (by decide +kernel)) (fun _ _ _ _ _ => (pg_name (i := 2) nd rfl (Or.inl rfl))) (fun _ _ _ _ _ => pts_nil) (fun _ _ _ _ _ => (pe_op op_mulW (pe_op op_mulW (pv 2) (pe_ix (ixl (K := K) rfl) (pe_fldK (K := K) rfl (pv 0)) (pv 2) (fun _ _ => rfl))) (pe_ix (ixl (K := K) rfl) (pe_fldK (K := K) rfl (pe_fldK (K := K) rfl (pv 0))) (pe_op op_sub (pv 1) (pv 2)) (fun _ _ => rfl))))) pa_nil)) pa_nil))) h1)), ?_⟩
  obtain ⟨p, g, m, ex, cs, a, n, rfl, ⟨⟨dx, hp⟩, hg, hm⟩, ⟨q', g', m', t, rfl, rfl, ht, hs0⟩, ndp, ok, q⟩ := hsp
  simp only [List.nodup_cons, List.mem_cons, List.not_mem_nil, or_false, not_or, not_false_eq_true, and_true, List.nodup_nil] at ndp
  obtain ⟨⟨pg, pm, pt, pq, pg', pm'⟩, ⟨gm, gt, gq, gg', gm'⟩, ⟨mt, mq, mg', mm'⟩, ⟨tq, tg', tm'⟩, ⟨qg', qm'⟩, g'm'⟩ := ndp
  have hn := ok.n
  obtain ⟨dq, hq⟩ := hs0.p
  have rep : ∀ H' dq l c, H' p = some (.ins (cls "RingSeries") dx [("gone", V.ref g), ("made", V.ref m), ("lines", V.ref q'), ("marked", V.ref t)]) → H' g = some (.lst (vf a (n + 1))) → H' m = some (.lst (vf (ringV a) n)) → H' t = some (.lst (vf (markV a) c)) →
      H' q' = some (.ins (cls "RowSeries") dq [("gone", V.ref g'), ("made", V.ref m')]) → H' g' = some (.lst (vf a l)) → H' m' = some (.lst (vf (rowV a) l)) → Reps ⟨K, cls⟩ H' [serDg a (ringV a) (markV a) (n + 1) n l c, .int n] [.ref p, .int n] := fun H' dq l c h1 h2 h3 h4 h5 h6 h7 =>
    Reps.cons ⟨p, dx, _, rfl, h1, .ref g, _, rfl, ⟨g, _, rfl, .inl (.inl h2), vf_reps⟩, .ref m, _, rfl, ⟨m, _, rfl, .inl (.inl h3), vf_reps⟩, .ref q', _, rfl, ⟨q', dq, _, rfl, h5, .ref g', _, rfl, ⟨g', _, rfl, .inl (.inl h6), vf_reps⟩, .ref m', _, rfl, ⟨m', _, rfl, .inl (.inl h7), vf_reps⟩, rfl⟩, .ref t, _, rfl, ⟨t, _, rfl, .inl (.inl h4), vf_reps⟩, rfl⟩ (Reps.cons rfl Reps.nil)
  have okr : OkS .row a n := ⟨hn, ok.h, ok.r rfl, (fun h => nomatch h), (fun h => nomatch h)⟩
  refine ⟨_, rfl, p, _, dx, _, .ref q', rfl, hp, Y.kc_RingSeries, Y.kn_RingSeries_lines, rfl, q', dq, _, rfl, hq, rfl, ?_⟩
  refine eva1_at (N := N_RingSeries_new_h) (vs := [.ref p, .int n]) (ev_ixL (eq_l (ev_fld Y.kc_RingSeries Y.kn_RingSeries_gone (ev_var 0))) (ev_var 1)) (show 2 ≤ 4 by decide) (rep H dq n (max 1 n) hp hg hm ht hq hs0.g hs0.m) (d := .int (a n)) ?_ (fun v H1 e1 r1 => ?_)
  · have e1 : atI (df a (n + 1)) (n : Int) = some (.int (a n)) := df_at rfl (by omega)
    have l1 := serDg_gone a (ringV a) (markV a) (n + 1) n n (max 1 n)
    simp [inP, serDg, l1, e1]
  cases r1
  refine ⟨q', [q', g', m'], a, n, rfl, ?_, okr, fun H2 fr2 hs2 => ?_⟩
  · exact ⟨g', m', [], [], rfl, by simp [qg', qm', g'm'], hs0.up (Fr.of (cs := []) e1) (by simp) (by simp) (by simp), rfl, rfl⟩
  obtain ⟨g2, m2, ex2, cx2, ec, _, hs3, hex, hcx⟩ := hs2
  cases ec
  subst hex
  have p2 := fr2 _ _ (e1 _ _ hp) (by simp [pq, pg', pm'])
  have gg2 := fr2 _ _ (e1 _ _ hg) (by simp [gq, gg', gm'])
  have mm2 := fr2 _ _ (e1 _ _ hm) (by simp [mq, mg', mm'])
  have tt2 := fr2 _ _ (e1 _ _ ht) (by simp [tq, tg', tm'])
  have fr02 : Fr [t, q', g', m'] H H2 := (Fr.of e1).trans (fr2.mono fun x hx => List.mem_cons_of_mem _ hx)
  obtain ⟨dq2, hq2⟩ := hs3.p
  by_cases h0 : n = 0
  · subst h0
    refine ⟨.int 0, rfl, rfl, true, by simp, ?_⟩
    show Q (.int 0) H2
    have e0 : V.int 0 = V.int (serV .ring a 0) := rfl
    rw [e0]
    exact q H2 fr02 ⟨q', g', m', t, rfl, rfl, tt2, hs3⟩
  refine ⟨.int n, rfl, rfl, false, by simp [h0], ?_⟩
  dsimp only
  rw [if_neg (by decide)]
  show tSeq _ _ _ _ _
  have em : max 1 n = n := by omega
  rw [em] at tt2
  refine ⟨_, rfl, p, _, dx, _, .ref t, rfl, p2, Y.kc_RingSeries, Y.kn_RingSeries_marked, rfl, .inl ⟨rfl, vf (markV a) n, .inl (.inl tt2)⟩, ?_⟩
  refine eva1_at (e := ⟨K, cls⟩) (s := (xSum (xLc [2] (xRng2 (aCons (xC (.int 1)) (aCons (x2 fAdd (xVar 1) (xC (.int 1))) aNil))) (gN 2) tbYes (x2 fMulW (x2 fMulW (xVar 2) (xIx (qL (xFld "RingSeries" "gone" (xVar 0))) (xVar 2))) (xIx (qL (xFld "RowSeries" "made" (xFld "RingSeries" "lines" (xVar 0)))) (x2 fSub (xVar 1) (xVar 2))))))) (N := N_RingSeries_new_h) (vs := [.ref p, .int n]) (ds := [serDg a (ringV a) (markV a) (n + 1) n (n + 1) n, .int n]) (d := .int (markV a n)) ?_ (show 2 ≤ 4 by decide) (rep H2 dq2 (n + 1) n p2 gg2 mm2 tt2 hq2 hs3.g hs3.m) (v_mark_newest_w_ring a n ok) (fun v H3 e3 r3 => ?_)
  · exact (ev_sum (eq_n (el_lc (vs := [2]) (ei_rng2 (ea_cons ev_int (ea_cons (ev_op rv_add (ev_var 1) ev_int) ea_nil))) (eg_name 2) (by decide) et_yes (ev_op rv_mulW (ev_op rv_mulW (ev_var 2) (ev_ixL (eq_l (ev_fld Y.kc_RingSeries Y.kn_RingSeries_gone (ev_var 0))) (ev_var 2))) (ev_ixL (eq_l (ev_fld Y.kc_RowSeries Y.kn_RowSeries_made (ev_fld Y.kc_RingSeries Y.kn_RingSeries_lines (ev_var 0)))) (ev_op rv_sub (ev_var 1) (ev_var 2)))))))
  cases r3
  have t3 := e3 _ _ tt2
  refine ⟨t, vf (markV a) n, .int (markV a n), rfl, rfl, t3, Nat.lt_of_le_of_lt (show (vf _ _).length ≤ 1000 by rw [vf_len]; omega) (by decide), ?_⟩
  rw [vf_snoc]
  have f4 : Fr [t] H3 (upd H3 t (.lst (vf (markV a) (n + 1)))) := Fr.upd List.mem_cons_self
  have p4 := f4 _ _ (e3 _ _ p2) (by simpa using pt)
  have g4 := f4 _ _ (e3 _ _ gg2) (by simpa using gt)
  have m4 := f4 _ _ (e3 _ _ mm2) (by simpa using mt)
  have hs4 := (hs3.up (Fr.of (cs := []) e3) (by simp) (by simp) (by simp)).up f4 (by simpa using Ne.symm tq) (by simpa using Ne.symm tg') (by simpa using Ne.symm tm')
  have t4 : upd H3 t (.lst (vf (markV a) (n + 1))) t = some (.lst (vf (markV a) (n + 1))) := upd_same
  generalize upd H3 t (.lst (vf (markV a) (n + 1))) = H4 at *
  obtain ⟨dq4, hq4⟩ := hs4.p
  refine rest_P (E := E) (K := K) (cls := cls) (N := N_RingSeries_new_h) (n := 4) (kk := 2) rfl (by decide) rfl h2 ?_
  refine ⟨[], [serDg a (ringV a) (markV a) (n + 1) n (n + 1) (n + 1), .int n], .int (ringV a n), dom0 H4, by rw [fz0]; exact rep H4 dq4 (n + 1) (n + 1) p4 g4 m4 t4 hq4 hs4.g hs4.m, v_newest_w_ring a n h0 ok, fun yv H5 sm5 ry => ?_⟩
  cases ry
  have e5 := sm_same sm5
  exact q H5 (((fr02.trans (Fr.of e3)).trans (f4.mono fun x hx => by rw [List.mem_singleton.mp hx]; simp)).trans (Fr.of e5)) ⟨q', g', m', t, rfl, rfl, by rw [show max 1 (n + 1) = n + 1 by omega]; exact e5 _ _ t4, hs4.up (Fr.of (cs := []) e5) (by simp) (by simp) (by simp)⟩
theorem ok_Series_grow_ring {f : Addr} {fd : FuncData} (F : Fun K "grow" "Series.grow" s_Series_grow_ring f fd) (Z : Zs mg) (Y : Ks K mg cls) (M_RingSeries_newest : CalM P w K mg base (cls "RingSeries") "newest" ["self", "n"] 4 (spNew ⟨K, cls⟩ .ring)) :
    FnOk P w K mg base CX0 5 f fd ["self", "count"] (spGrow ⟨K, cls⟩ .ring) := by
  have nd := sc_Series_grow_ring.nd
  refine Fun.ok F sc_Series_grow_ring (fun vs H Q E hh => by obtain ⟨p, cs, a, i, h, _⟩ := hh; rw [h]; rfl) (fun cdv A outer s0 H vs Q E hr hsp => ?_)
  refine ⟨_, pss_cons (ps_expr (pe_bm PySem.F.plainAttrs_list PySem.F.slot_list_append PySem.F.type_list_append mt_append (pe_fldK (K := K) rfl (pv 0)) (pa_cons (pv 1) pa_nil)))
    (pss_cons (ps_set (i := 2) nd rfl (by first | exact Or.inl rfl | exact Or.inr rfl) (pe_calm (pv 0) Y.kc_RingSeries M_RingSeries_newest hr (by first | omega | exact Nat.le_refl _) (pa_cons (pe_op op_sub (pe_callB (len_q (K := K) rfl) (by rfl) Z.z_len PySem.boot_len (pa_cons (pe_fldK (K := K) rfl (pv 0)) pa_nil)) pe_int) pa_nil)))
    (pss_cons (ps_expr (pe_bm PySem.F.plainAttrs_list PySem.F.slot_list_append PySem.F.type_list_append mt_append (pe_fldK (K := K) rfl (pv 0)) (pa_cons (pv 2) pa_nil)))
    (pss_one (ps_ret (pv 2))))), ?_⟩
  obtain ⟨p, cs, a, i, rfl, hs, ok, q⟩ := hsp
  obtain ⟨g, m, ex, cx, rfl, ndp, ⟨⟨dx, hp⟩, hg, hm⟩, hx⟩ := hs
  have nl := hx.nolook
  have ndp' := ndp
  simp only [List.nodup_cons, List.mem_cons, not_or] at ndp'
  obtain ⟨⟨hpg, hpm, hpc⟩, ⟨hgm, hgc⟩, hmc, hcx⟩ := ndp'
  have hi := ok.n
  refine ⟨_, rfl, p, _, dx, _, .ref g, rfl, hp, Y.kc_RingSeries, Y.kn_RingSeries_gone, rfl, .inl ⟨rfl, vf a i, .inl (.inl hg)⟩, _, rfl, g, vf a i, .int (a i), rfl, rfl, hg, Nat.lt_of_le_of_lt (show (vf _ _).length ≤ 1000 by rw [vf_len]; omega) (by decide), ?_⟩
  rw [vf_snoc]
  have f1 : Fr [g] H (upd H g (.lst (vf a (i + 1)))) := Fr.upd List.mem_cons_self
  have hx1 := hx.up f1 fun x hx z => by rw [List.mem_singleton] at z; subst z; exact hgc hx
  have p1 := f1 _ _ hp (by simpa using hpg)
  have m1 := f1 _ _ hm (by simpa using Ne.symm hgm)
  have g1 : upd H g (.lst (vf a (i + 1))) g = some (.lst (vf a (i + 1))) := upd_same
  generalize hH1 : upd H g (.lst (vf a (i + 1))) = H1 at *
  refine ⟨_, rfl, p, dx, _, rfl, p1, nl.1, _, rfl, p, _, dx, _, .ref g, rfl, p1, Y.kc_RingSeries, Y.kn_RingSeries_gone, rfl, g, vf a (i + 1), rfl, .inl (.inl (.inl g1)), _, _, rfl, rfl, ?_⟩
  refine ⟨p, g, m, ex, cx, a, i, ?_, ⟨⟨dx, p1⟩, g1, m1⟩, hx1, ndp, ok, fun H2 fr2 hx2 => ?_⟩
  · rw [vf_len]
    simp
  have p2 := fr2 _ _ p1 hpc
  have g2 := fr2 _ _ g1 hgc
  have m2 := fr2 _ _ m1 hmc
  refine ⟨_, rfl, p, _, dx, _, .ref m, rfl, p2, Y.kc_RingSeries, Y.kn_RingSeries_made, rfl, .inl ⟨rfl, vf (serV .ring a) i, .inl (.inl m2)⟩, _, rfl, m, vf (serV .ring a) i, .int (serV .ring a i), rfl, rfl, m2, Nat.lt_of_le_of_lt (show (vf _ _).length ≤ 1000 by rw [vf_len]; omega) (by decide), ?_⟩
  refine ⟨.int (serV .ring a i), rfl, ?_⟩
  rw [vf_snoc]
  have f3 : Fr [m] H2 (upd H2 m (.lst (vf (serV .ring a) (i + 1)))) := Fr.upd List.mem_cons_self
  refine q _ (((f1.mono fun x hx => ?_).trans (fr2.mono fun x hx => ?_)).trans (f3.mono fun x hx => ?_)) ⟨g, m, ex, cx, rfl, ndp, ⟨⟨dx, f3 _ _ p2 (by simpa using hpm)⟩, f3 _ _ g2 (by simpa using hgm), upd_same⟩, hx2.up f3 fun x hx z => by rw [List.mem_singleton] at z; subst z; exact hmc hx⟩
  · rw [List.mem_singleton.mp hx]; simp
  · simp [hx]
  · rw [List.mem_singleton.mp hx]; simp
theorem ok_grown_ring {f : Addr} {fd : FuncData} (F : Fun K "grown" "grown" s_grown_ring f fd) (Z : Zs mg) (Y : Ks K mg cls) (M_RingSeries_grow : CalM P w K mg base (cls "RingSeries") "grow" ["self", "count"] 5 (spGrow ⟨K, cls⟩ .ring)) :
    FnOk P w K mg base CX0 6 f fd ["series", "a"] (spGrown ⟨K, cls⟩ .ring) := by
  have nd := sc_grown_ring.nd
  refine Fun.ok F sc_grown_ring (fun vs H Q E hh => by obtain ⟨p, cs, a, n, b, Hb, h, _⟩ := hh; rw [h]; rfl) (fun cdv A outer s0 H vs Q E hr hsp => ?_)
  refine ⟨_, pss_cons (ps_for PassesOwn.never rfl (pil (K := K) rfl (pv 1)) (pg_name (i := 2) nd rfl (by first | exact Or.inl rfl | exact Or.inr rfl))
      (pss_one (ps_expr (pe_calm (pv 0) Y.kc_RingSeries M_RingSeries_grow hr (by first | omega | exact Nat.le_refl _) (pa_cons (pv 2) pa_nil)))))
    (pss_one (ps_ret (pe_callTy (list_q (K := K) rfl) (by rfl) Z.z_list (by decide +kernel) (pa_cons (pe_fldK (K := K) rfl (pv 0)) pa_nil)))), ?_⟩
  obtain ⟨p, cs, a, n, b, Hb, rfl, hS, sb, nb, hb, ok, q⟩ := hsp
  refine ⟨_, rfl, b, rfl, ⟨vf a n, sb.seq hb⟩, ?_⟩
  refine ⟨fun i k σ H1 => i + k = n ∧ (σ.length = 3 ∧ σ[0]? = some (some (.ref p))) ∧ Fr cs H H1 ∧ SerAt ⟨K, cls⟩ .ring H1 p cs a i,
    ⟨n, by omega, ⟨rfl, rfl⟩, Fr.refl _ _, hS⟩, fun i k σ H1 ⟨hik, ⟨hσl, hσ⟩, hold, hS1⟩ => ?_⟩
  have hb1 : SqL K H1 b (vf a n) := (same_fr sb nb hold).seq hb
  by_cases hi : i < n
  · right
    refine ⟨⟨vf a n, .int (a i), hb1, vf_get hi⟩, fun σ' H' => ∃ m', m' < k ∧ (i + 1 + m' = n ∧ (σ'.length = 3 ∧ σ'[0]? = some (some (.ref p))) ∧ Fr cs H H' ∧ SerAt ⟨K, cls⟩ .ring H' p cs a (i + 1)), fun σ' H' h => h, fun x H' ⟨e, hy⟩ => ?_⟩
    subst e
    have hx := hy (vf a n) hb1
    rw [vf_get hi] at hx
    cases hx
    have hS2 := hS1
    obtain ⟨g, m, ex, cx, rfl, ndp, ⟨⟨dx, hp⟩, hg, hm⟩, hx⟩ := hS2
    have σ0 : (σ.set 2 (some (V.int (a i))))[0]? = some (some (.ref p)) := by rw [List.getElem?_set_ne (by decide)]; exact hσ
    have hl3 : 2 < σ.length := by omega
    refine ⟨.ref p, σ0, p, dx, _, rfl, hp, hx.nolook.2.1, .int (a i), by rw [List.getElem?_set_self hl3], ?_⟩
    refine ⟨p, _, a, i, rfl, hS1, ok i hi, fun H2 fr2 hS2 => ?_⟩
    exact ⟨k - 1, by omega, by omega, ⟨by rw [List.length_set]; exact hσl, σ0⟩, hold.trans fr2, hS2⟩
  · left
    have hin : i = n := by omega
    subst hin
    refine ⟨⟨vf a i, hb1, by rw [vf_len]; exact Nat.le_refl _⟩, ?_⟩
    obtain ⟨g, m, ex, cx, rfl, ndp, ⟨⟨dx, hp⟩, hg, hm⟩, hx⟩ := id hS1
    refine ⟨.ref p, hσ, p, _, dx, _, .ref m, rfl, hp, Y.kc_RingSeries, Y.kn_RingSeries_made, rfl, m, vf (serV .ring a) i, rfl, .inl (.inl (.inl hm)), fun l hl => ?_⟩
    have hHl : H l = none := by
      cases hz : H l with
      | none => rfl
      | some o =>
        by_cases hc : l ∈ p :: g :: m :: cx
        · obtain ⟨o', ho⟩ := hS1.dom l hc
          rw [ho] at hl; cases hl
        · rw [hold l o hz hc] at hl; cases hl
    exact q l _ (hold.trans (Fr.of fun b o hb => by rw [upd_ne (ne_of_none hb hl)]; exact hb)) hHl upd_same
theorem ok_ring_counts {f : Addr} {fd : FuncData} (F : Fun K "ring_counts" "ring_counts" s_ring_counts f fd) (Z : Zs mg) (Y : Ks K mg cls) (C_grown_ring : Cal P w K mg base "grown" ["series", "a"] 6 (spGrown ⟨K, cls⟩ .ring)) (I_RingSeries : CalI P w K mg base "RingSeries" (cls "RingSeries") ["self"] 6 (spIni ⟨K, cls⟩ .ring)) :
    FnOk P w K mg base CX0 8 f fd ["a"] (spL ⟨K, cls⟩ m_ring_counts) := by
  have nd := sc_ring_counts.nd
  refine Fun.ok F sc_ring_counts (fun vs H Q E hh => ?_) (fun cdv A outer s0 H vs Q E hr hsp => ?_)
  · obtain ⟨L, ds, ys, dm, r, h, _⟩ := hh
    unfold m_ring_counts serM at h
    split at h
    · exact r.len
    · cases h
  refine ⟨_, pss_one (ps_ret (pe_cal C_grown_ring hr (by first | omega | exact Nat.le_refl _) rfl (pa_cons (pe_cali0 I_RingSeries hr (by first | omega | exact Nat.le_refl _) rfl) (pa_cons (pv 0) pa_nil)))), ?_⟩
  obtain ⟨L, ds, ys, dm, r, h, q⟩ := hsp
  unfold m_ring_counts serM at h
  split at h
  · rename_i xs
    split at h
    · rename_i hc
      cases h
      obtain ⟨lx, hf, ho⟩ := hc
      obtain ⟨av, _, rfl, ra, rfl⟩ := r
      obtain ⟨b, us, rfl, hb, rb⟩ := ra
      have eu := ints_of rb hf
      subst eu
      intro x dx hx hdx hne
      refine ⟨x, dx, rfl, upd_same, fun cs a H2 fr hcs hS => ⟨rfl, ?_⟩⟩
      have a0 : SerAt ⟨K, cls⟩ .ring H2 x cs (intAt xs) 0 := hS.zero
      have nx : ∀ b o, H b = some o → b ≠ x := fun b o hb => ne_of_none hb hx
      have ndx : ∀ b o, H b = some o → b ≠ dx := fun b o hb => ne_of_none hb hdx
      have up1 : ∀ b o, H b = some o → upd (upd H dx (.own x)) x (.ins (cls "RingSeries") dx []) b = some o := fun b o hb => by rw [upd_ne (nx b o hb), upd_ne (ndx b o hb)]; exact hb
      have all2 : Same H H2 := fun b o hb => fr b o (up1 b o hb) (by simpa using nx b o hb)
      have csH : ∀ c ∈ cs, H c = none := fun c hc => by
        rcases hcs c hc with rfl | h
        · exact hx
        · cases hz : H c with
          | none => rfl
          | some o => rw [up1 c o hz] at h; cases h
      refine ⟨.ref b, rfl, x, cs, intAt xs, xs.length, b, H, rfl, a0, all2, csH, fz_le.seq hb, ho, fun p H3 fr3 hp hp3 => ?_⟩
      have all3 : Same H H3 := same_fr all2 csH fr3
      have hpH : H p = none := by
        cases hz : H p with
        | none => rfl
        | some o => rw [all2 p o hz] at hp; cases hp
      exact q p _ H3 (Sm.of all3) hpH hp3 vf_reps
    · cases h
  · cases h
theorem ok__law_whole {f : Addr} {fd : FuncData} (F : Fun K "_law_whole" "_law_whole" s__law_whole f fd) (Z : Zs mg) (Y : Ks K mg cls) :
    FnOk P w K mg base CX0 1 f fd ["_law_found"] (spP ⟨K, cls⟩ m__law_whole) := by
  have nd := sc__law_whole.nd
  refine fn_P b__law_whole F sc__law_whole (n := 1) (kk := 1) rfl rfl (by decide) rfl (fun cdv A outer s0 H E hr => ?_)
  refine ⟨_, (pss_one (ps_ret (pe_and (pe_callB (isi_q (K := K) rfl) (by rfl) Z.z_isinstance PyProof.Rows.boot_isinstance (pa_cons (pv 0) (pa_cons (pe_bltn (v := .ty "int") (by rfl) Z.z_int (by decide +kernel) rfl) pa_nil))) (pe_one (pe_not (pe_callB (isi_q (K := K) rfl) (by rfl) Z.z_isinstance PyProof.Rows.boot_isinstance (pa_cons (pv 0) (pa_cons (pe_bltn (v := .ty "bool") (by rfl) Z.z_bool (by decide +kernel) rfl) pa_nil)))))))), ?_⟩
  exact (st_ret (ee_p (ev_andV (ev_callB rc_isi (ea_cons (ev_var 0) (ea_cons ev_ty ea_nil))) (ev_notV (ev_callB rc_isi (ea_cons (ev_var 0) (ea_cons ev_ty ea_nil)))))))
theorem ok__law_is_row {f : Addr} {fd : FuncData} (F : Fun K "_law_is_row" "_law_is_row" s__law_is_row f fd) (Z : Zs mg) (Y : Ks K mg cls) (C__law_whole : Cal P w K mg base "_law_whole" ["_law_found"] 1 (spP ⟨K, cls⟩ m__law_whole)) :
    FnOk P w K mg base CX0 2 f fd ["_law_found", "_law_due"] (spP ⟨K, cls⟩ m__law_is_row) := by
  have nd := sc__law_is_row.nd
  refine fn_P b__law_is_row F sc__law_is_row (n := 3) (kk := 2) rfl rfl (by decide) rfl (fun cdv A outer s0 H E hr => ?_)
  refine ⟨_, (pss_cons (ps_if (PW.pt (pw_or (pt_not (pt_val (pe_callB (isi_q (K := K) rfl) (by rfl) Z.z_isinstance PyProof.Rows.boot_isinstance (pa_cons (pv 0) (pa_cons (pe_bltn (v := .ty "list") (by rfl) Z.z_list (by decide +kernel) rfl) pa_nil))))) (pw_or1 (pt_cmpR op_ne (pe_callB (len_q (K := K) rfl) (by rfl) Z.z_len PySem.boot_len (pa_cons (pv 0) pa_nil)) (pe_callB (len_q (K := K) rfl) (by rfl) Z.z_len PySem.boot_len (pa_cons (pv 1) pa_nil)) (nomark _))))) (pss_one (ps_ret pe_bl)) pss_nil)
      (pss_cons (ps_for PassesOwn.never rfl (pi_range1 (by rfl) Z.z_range (pa_cons (pe_callB (len_q (K := K) rfl) (by rfl) Z.z_len PySem.boot_len (pa_cons (pv 1) pa_nil)) pa_nil)) (pg_name (i := 2) nd rfl (by first | exact Or.inl rfl | exact Or.inr rfl))
      (pss_one (ps_if (PW.pt (pw_or (pt_not (pt_val (pe_cal C__law_whole hr (by first | omega | exact Nat.le_refl _ | exact Nat.le_trans (by decide) (Nat.le_add_right _ _)) rfl (pa_cons (pe_ix (ixl (K := K) rfl) (pv 0) (pv 2) (fun _ _ => rfl)) pa_nil)))) (pw_or1 (pt_cmpR (ne_q (K := K) rfl (units_of hr)) (pe_ix (ixl (K := K) rfl) (pv 0) (pv 2) (fun _ _ => rfl)) (pe_ix (ixl (K := K) rfl) (pv 1) (pv 2) (fun _ _ => rfl)) (nomark _))))) (pss_one (ps_ret pe_bl)) pss_nil)))
      (pss_one (ps_ret pe_bl)))), ?_⟩
  exact (st_seq (st_if (ete_p (et_or (et_not (et_B (ev_callB rc_isi (ea_cons (ev_var 0) (ea_cons ev_ty ea_nil))))) (et_test (ev_op rv_ne (ev_lenL (eq_l (ev_var 0))) (ev_lenL (eq_l (ev_var 1))))))) (st_ret (ee_p ev_bl)) st_next)
      (st_seq (st_for (ei_rng1 (ea_cons (ev_lenL (eq_l (ev_var 1))) ea_nil)) (eg_name 2)
      (st_if (ete_p (et_or (et_not (et_B (ev_call (ea_cons (ev_ixL (eq_l (ev_var 0)) (ev_var 2)) ea_nil)))) (et_test (ev_op rv_neQ (ev_ixL (eq_l (ev_var 0)) (ev_var 2)) (ev_ixL (eq_l (ev_var 1)) (ev_var 2)))))) (st_ret (ee_p ev_bl)) st_next))
      (st_ret (ee_p ev_bl))))
theorem ok__law_cell {f : Addr} {fd : FuncData} (F : Fun K "_law_cell" "_law_cell" s__law_cell f fd) (Z : Zs mg) (Y : Ks K mg cls) :
    FnOk P w K mg base CX0 1 f fd ["_law_script", "_law_k"] (spP ⟨K, cls⟩ m__law_cell) := by
  have nd := sc__law_cell.nd
  refine fn_P b__law_cell F sc__law_cell (n := 2) (kk := 2) rfl rfl (by decide) rfl (fun cdv A outer s0 H E hr => ?_)
  refine ⟨_, (pss_cons (ps_if (pt_cmpR op_lt (pv 1) (pe_callB (len_q (K := K) rfl) (by rfl) Z.z_len PySem.boot_len (pa_cons (pv 0) pa_nil)) (nomark _)) (pss_one (ps_ret (pe_ix (ixl (K := K) rfl) (pv 0) (pv 1) (fun _ _ => rfl)))) pss_nil)
      (pss_one (ps_ret pe_int))), ?_⟩
  exact (st_seq (st_if (ete_p (et_test (ev_op rv_lt (ev_var 1) (ev_lenL (eq_l (ev_var 0)))))) (st_ret (ee_p (ev_ixL (eq_l (ev_var 0)) (ev_var 1)))) st_next)
      (st_ret (ee_p ev_int)))
theorem ok__law_rows_of {f : Addr} {fd : FuncData} (F : Fun K "_law_rows_of" "_law_rows_of" s__law_rows_of f fd) (Z : Zs mg) (Y : Ks K mg cls) :
    FnOk P w K mg base CX0 1 f fd ["_law_a", "_law_size"] (spP ⟨K, cls⟩ m__law_rows_of) := by
  have nd := sc__law_rows_of.nd
  refine fn_P b__law_rows_of F sc__law_rows_of (n := 8) (kk := 2) rfl rfl (by decide) rfl (fun cdv A outer s0 H E hr => ?_)
  refine ⟨_, (pss_cons (ps_set (i := 2) nd rfl (by first | exact Or.inl rfl | exact Or.inr rfl) (pe_lst (pa_cons (pe_lst (pa_cons (pe_tup pa_nil) pa_nil)) pa_nil)))
      (pss_cons (ps_for PassesOwn.never rfl (pi_range2 (by rfl) Z.z_range (pa_cons pe_int (pa_cons (pe_op op_add (pv 1) pe_int) pa_nil))) (pg_name (i := 3) nd rfl (by first | exact Or.inl rfl | exact Or.inr rfl))
      (pss_cons (ps_set (i := 4) nd rfl (by first | exact Or.inl rfl | exact Or.inr rfl) (pe_lst pa_nil))
      (pss_cons (ps_for PassesOwn.never rfl (pi_range2 (by rfl) Z.z_range (pa_cons pe_int (pa_cons (pe_op op_add (pe_callB (call_min2 rfl) (by rfl) Z.z_min PyProof.Rows.boot_min (pa_cons (pv 3) (pa_cons (pe_op op_sub (pe_callB (len_q (K := K) rfl) (by rfl) Z.z_len PySem.boot_len (pa_cons (pv 0) pa_nil)) pe_int) pa_nil))) pe_int) pa_nil))) (pg_name (i := 5) nd rfl (by first | exact Or.inl rfl | exact Or.inr rfl))
      (pss_one (ps_for PassesOwn.never rfl (pi_range1 (by rfl) Z.z_range (pa_cons (pe_ix (ixl (K := K) rfl) (pv 0) (pv 5) (fun _ _ => rfl)) pa_nil)) (pg_name (i := 6) nd rfl (by first | exact Or.inl rfl | exact Or.inr rfl))
      (pss_one (ps_expr (pe_bm PySem.F.plainAttrs_list PySem.F.slot_list_extend PySem.F.type_list_extend (mtextK (K := K) rfl) (pv 4) (pa_cons (pe_lc (own := [("_law_row", 7)]) rfl nd (pil (K := K) rfl (pe_ix (ixl (K := K) rfl) (pv 2) (pe_op op_sub (pv 3) (pv 5)) (fun _ _ => rfl))) (blkOk_by (N := N__law_rows_of) (sc := defScope s__law_rows_of) (by decide +kernel)) (fun _ _ _ _ _ => (pg_name (i := 7) nd rfl (Or.inl rfl))) (fun _ _ _ _ _ => pts_nil) (fun _ _ _ _ _ => (pe_op (cat_a (K := K) rfl) (pv 7) (pe_tup (pa_cons (pe_tup (pa_cons (pv 5) (pa_cons (pv 6) pa_nil))) pa_nil))))) pa_nil)))))))
      (pss_one (ps_expr (pe_bm PySem.F.plainAttrs_list PySem.F.slot_list_append PySem.F.type_list_append mt_append (pv 2) (pa_cons (pv 4) pa_nil)))))))
      (pss_one (ps_ret (pe_ix (ixl (K := K) rfl) (pv 2) (pv 1) (fun _ _ => rfl)))))), ?_⟩
  exact (st_seq (st_setL (i := 2) (ele_p (el_lst (ea_cons (el_d (el_lst (ea_cons (ev_tup ea_nil) ea_nil))) ea_nil))))
      (st_seq (st_for (ei_rng2 (ea_cons ev_int (ea_cons (ev_op rv_add (ev_var 1) ev_int) ea_nil))) (eg_name 3)
      (st_seq (st_setL (i := 4) (ele_p (el_lst ea_nil)))
      (st_seq (st_for (ei_rng2 (ea_cons ev_int (ea_cons (ev_op rv_add (ev_callB rc_min2 (ea_cons (ev_var 3) (ea_cons (ev_op rv_sub (ev_lenL (eq_l (ev_var 0))) ev_int) ea_nil))) ev_int) ea_nil))) (eg_name 5)
      (st_for (ei_rng1 (ea_cons (ev_ixL (eq_l (ev_var 0)) (ev_var 5)) ea_nil)) (eg_name 6)
      (st_ext 4 (el_lc (vs := [7]) (ei_list (ev_ixL (eq_o 2) (ev_op rv_sub (ev_var 3) (ev_var 5))) rfl) (eg_name 7) (by decide) et_yes (ev_catT (eq_t (ev_var 7)) (eq_t (ev_tup (ea_cons (ev_tup (ea_cons (ev_var 5) (ea_cons (ev_var 6) ea_nil))) ea_nil))))))))
      (st_frz 4 (st_app (i := 2) (ee_p (ev_var 4)))))))
      (st_ret (ee_p (ev_ixL (eq_o 2) (ev_var 1))))))
theorem ok__law_rings_of {f : Addr} {fd : FuncData} (F : Fun K "_law_rings_of" "_law_rings_of" s__law_rings_of f fd) (Z : Zs mg) (Y : Ks K mg cls) (C__law_rows_of : Cal P w K mg base "_law_rows_of" ["_law_a", "_law_size"] 1 (spP ⟨K, cls⟩ m__law_rows_of)) :
    FnOk P w K mg base CX0 2 f fd ["_law_a", "_law_size"] (spP ⟨K, cls⟩ m__law_rings_of) := by
  have nd := sc__law_rings_of.nd
  refine fn_P b__law_rings_of F sc__law_rings_of (n := 5) (kk := 2) rfl rfl (by decide) rfl (fun cdv A outer s0 H E hr => ?_)
  refine ⟨_, (pss_cons (ps_set (i := 2) nd rfl (by first | exact Or.inl rfl | exact Or.inr rfl) pe_dnewT) (pss_cons (ps_for PassesOwn.never rfl (pil (K := K) rfl (pe_cal C__law_rows_of hr (by first | omega | exact Nat.le_refl _ | exact Nat.le_trans (by decide) (Nat.le_add_right _ _)) rfl (pa_cons (pv 0) (pa_cons (pv 1) pa_nil)))) (pg_name (i := 3) nd rfl (by first | exact Or.inl rfl | exact Or.inr rfl)) (pss_one (ps_asg pe_bl (pg_sub (pv 2) (pe_callB (min_a (K := K) rfl rfl (units_of hr)) (by rfl) Z.z_min (by decide +kernel) (pa_cons (pe_lc (own := [("_law_k", 4)]) rfl nd (pi_range1 (by rfl) Z.z_range (pa_cons (pe_callB (len_q (K := K) rfl) (by rfl) Z.z_len PySem.boot_len (pa_cons (pv 3) pa_nil)) pa_nil)) (blkOk_by (N := N__law_rings_of) (sc := defScope s__law_rings_of) (by decide +kernel)) (fun _ _ _ _ _ => (pg_name (i := 4) nd rfl (Or.inl rfl))) (fun _ _ _ _ _ => pts_nil) (fun _ _ _ _ _ => (pe_op (cat_a (K := K) rfl) (pe_slice (sla (K := K) rfl) (pv 3) (po_some (pv 4)) po_none) (pe_slice (sla (K := K) rfl) (pv 3) po_none (po_some (pv 4)))))) pa_nil)) (set_dn (K := K) (P := P) (w := w) rfl rfl rfl (units_of hr)))))) (pss_one (ps_ret (pe_callB (len_dn (K := K) (P := P) (w := w) rfl rfl rfl) (by rfl) Z.z_len PySem.boot_len (pa_cons (pv 2) pa_nil)))))), ?_⟩
  exact (st_kn (i := 2) (j := 3) (ei_list (ev_call (ea_cons (ev_var 0) (ea_cons (ev_var 1) ea_nil))) rfl) (ev_minA (eq_n (el_lc (vs := [4]) (ei_rng1 (ea_cons (ev_lenT (eq_t (ev_var 3))) ea_nil)) (eg_name 4) (by decide) et_yes (ev_catT (eq_t (ev_slA (eq_t (ev_var 3)) (eo_some (ev_var 4)) eo_none)) (eq_t (ev_slA (eq_t (ev_var 3)) eo_none (eo_some (ev_var 4)))))))))
theorem ok_law {f : Addr} {fd : FuncData} (F : Fun K "law" "law" s_law f fd) (Z : Zs mg) (Y : Ks K mg cls) (C__law_cell : Cal P w K mg base "_law_cell" ["_law_script", "_law_k"] 1 (spP ⟨K, cls⟩ m__law_cell)) (C__law_is_row : Cal P w K mg base "_law_is_row" ["_law_found", "_law_due"] 2 (spP ⟨K, cls⟩ m__law_is_row)) (C__law_rings_of : Cal P w K mg base "_law_rings_of" ["_law_a", "_law_size"] 2 (spP ⟨K, cls⟩ m__law_rings_of)) (C_ring_counts : Cal P w K mg base "ring_counts" ["a"] 8 (spL ⟨K, cls⟩ m_ring_counts)) :
    FnOk P w K mg base CX0 9 f fd ["_law_script"] (spP ⟨K, cls⟩ m_law) := by
  have nd := sc_law.nd
  refine fn_P b_law F sc_law (n := 7) (kk := 1) rfl rfl (by decide) rfl (fun cdv A outer s0 H E hr => ?_)
  refine ⟨_, (pss_cons (ps_set (i := 1) nd rfl (by first | exact Or.inl rfl | exact Or.inr rfl) (pe_lst (pa_cons pe_int pa_nil)))
      (pss_cons (ps_for PassesOwn.never rfl (pi_range1 (by rfl) Z.z_range (pa_cons pe_int pa_nil)) (pg_name (i := 2) nd rfl (by first | exact Or.inl rfl | exact Or.inr rfl))
      (pss_one (ps_expr (pe_bm PySem.F.plainAttrs_list PySem.F.slot_list_append PySem.F.type_list_append mt_append (pv 1) (pa_cons (pe_op op_mod (pe_cal C__law_cell hr (by first | omega | exact Nat.le_refl _ | exact Nat.le_trans (by decide) (Nat.le_add_right _ _)) rfl (pa_cons (pv 0) (pa_cons (pv 2) pa_nil))) (pe_ix (ixl (K := K) rfl) (pe_lst (pa_cons pe_int (pa_cons pe_int (pa_cons pe_int (pa_cons pe_int pa_nil))))) (pv 2) (fun _ _ => rfl))) pa_nil)))))
      (pss_cons (ps_set (i := 3) nd rfl (by first | exact Or.inl rfl | exact Or.inr rfl) (pe_op op_add pe_int (pe_op op_mod (pe_cal C__law_cell hr (by first | omega | exact Nat.le_refl _ | exact Nat.le_trans (by decide) (Nat.le_add_right _ _)) rfl (pa_cons (pv 0) (pa_cons pe_int pa_nil))) pe_int)))
      (pss_cons (ps_set (i := 1) nd rfl (by first | exact Or.inl rfl | exact Or.inr rfl) (pe_slice (sll (K := K) rfl) (pe_op (cat_q (K := K) rfl) (pv 1) (pe_lst (pa_cons pe_int (pa_cons pe_int (pa_cons pe_int pa_nil))))) po_none (po_some (pe_op op_add (pv 3) pe_int))))
      (pss_cons (ps_set (i := 4) nd rfl (by first | exact Or.inl rfl | exact Or.inr rfl) (pe_callTy (list_q (K := K) rfl) (by rfl) Z.z_list (by decide +kernel) (pa_cons (pv 1) pa_nil)))
      (pss_cons (ps_set (i := 5) nd rfl (by first | exact Or.inl rfl | exact Or.inr rfl) (pe_op (cat_q (K := K) rfl) (pe_lst (pa_cons pe_int pa_nil)) (pe_lc (own := [("_law_n", 6)]) rfl nd (pi_range2 (by rfl) Z.z_range (pa_cons pe_int (pa_cons (pe_op op_add (pv 3) pe_int) pa_nil))) (blkOk_by (N := N_law) (sc := defScope s_law) (by decide +kernel)) (fun _ _ _ _ _ => (pg_name (i := 6) nd rfl (Or.inl rfl))) (fun _ _ _ _ _ => pts_nil) (fun _ _ _ _ _ => (pe_cal C__law_rings_of hr (by first | omega | exact Nat.le_refl _ | exact Nat.le_trans (by decide) (Nat.le_add_right _ _)) rfl (pa_cons (pv 1) (pa_cons (pv 6) pa_nil)))))))
      (pss_one (ps_ret (pe_and (pe_cal C__law_is_row hr (by first | omega | exact Nat.le_refl _ | exact Nat.le_trans (by decide) (Nat.le_add_right _ _)) rfl (pa_cons (pe_cal C_ring_counts hr (by first | omega | exact Nat.le_refl _ | exact Nat.le_trans (by decide) (Nat.le_add_right _ _)) rfl (pa_cons (pv 4) pa_nil)) (pa_cons (pv 5) pa_nil))) (pe_one (pe_cmpR (eq_q (K := K) rfl (units_of hr)) (pv 4) (pv 1) (nomark _)))))))))))), ?_⟩
  exact (st_seq (st_setL (i := 1) (ele_p (el_lst (ea_cons ev_int ea_nil))))
      (st_seq (st_for (ei_rng1 (ea_cons ev_int ea_nil)) (eg_name 2)
      (st_app (i := 1) (ee_p (ev_op rv_mod (ev_call (ea_cons (ev_var 0) (ea_cons (ev_var 2) ea_nil))) (ev_ixL (eq_n (el_lst (ea_cons ev_int (ea_cons ev_int (ea_cons ev_int (ea_cons ev_int ea_nil)))))) (ev_var 2))))))
      (st_seq (st_set (i := 3) (ee_p (ev_op rv_add ev_int (ev_op rv_mod (ev_call (ea_cons (ev_var 0) (ea_cons ev_int ea_nil))) ev_int))))
      (st_seq (st_setL (i := 1) (ele_p (el_slL (eq_n (el_cat (eq_o 1) (eq_n (el_lst (ea_cons ev_int (ea_cons ev_int (ea_cons ev_int ea_nil))))))) eo_none (eo_some (ev_op rv_add (ev_var 3) ev_int)))))
      (st_seq (st_set (i := 4) (ee_p (el_d (el_listL (eq_o 1)))))
      (st_seq (st_set (i := 5) (ee_p (el_d (el_cat (eq_n (el_lst (ea_cons ev_int ea_nil))) (eq_n (el_lc (vs := [6]) (ei_rng2 (ea_cons ev_int (ea_cons (ev_op rv_add (ev_var 3) ev_int) ea_nil))) (eg_name 6) (by decide) et_yes (ev_lend 1 (ev_call (ea_cons (ev_var 1) (ea_cons (ev_var 6) ea_nil))))))))))
      (st_ret (ee_p (ev_andV (ev_call (ea_cons (el_d (el_call (ea_cons (ev_var 4) ea_nil))) (ea_cons (ev_var 5) ea_nil))) (ev_lend 1 (ev_op rv_eqQ (ev_var 4) (ev_var 1))))))))))))
end
theorem all_mk {l : PySem.W.OpenLaw} {w : World} {K : PySem.W.Frag} {h : Heap} {mg : Str → Option Value} {fa : Addr} (X : K.In h) (G : h.Ns mainGlobals mg) (hfa : mg "law" = some (.ref fa))
    {od_divisors an_divisors od_shared an_shared od_sharing_none an_sharing_none od_Series_init0_ring an_Series_init0_ring od_Series_init_row an_Series_init_row od_RingSeries_init an_RingSeries_init od_RowSeries_new_h an_RowSeries_new_h od_Series_grow_row an_Series_grow_row od_RingSeries_new_h an_RingSeries_new_h od_Series_grow_ring an_Series_grow_ring od_grown_ring an_grown_ring od_ring_counts an_ring_counts od__law_whole an__law_whole od__law_is_row an__law_is_row od__law_cell an__law_cell od__law_rows_of an__law_rows_of od__law_rings_of an__law_rings_of od_law an_law : Option Addr} {sl_divisors sl_shared sl_sharing_none sl_Series_init0_ring sl_Series_init_row sl_RingSeries_init sl_RowSeries_new_h sl_Series_grow_row sl_RingSeries_new_h sl_Series_grow_ring sl_grown_ring sl_ring_counts sl__law_whole sl__law_is_row sl__law_cell sl__law_rows_of sl__law_rings_of sl_law : Array (Option Value)} {oc_divisors kV_divisors dc_divisors pm_divisors ct_divisors cd_divisors oc_shared kV_shared dc_shared pm_shared ct_shared cd_shared oc_sharing_none kV_sharing_none dc_sharing_none pm_sharing_none ct_sharing_none cd_sharing_none oc_Series_init0_ring kV_Series_init0_ring dc_Series_init0_ring pm_Series_init0_ring ct_Series_init0_ring cd_Series_init0_ring oc_Series_init_row kV_Series_init_row dc_Series_init_row pm_Series_init_row ct_Series_init_row cd_Series_init_row oc_RingSeries_init kV_RingSeries_init dc_RingSeries_init pm_RingSeries_init ct_RingSeries_init cd_RingSeries_init oc_RowSeries_new_h kV_RowSeries_new_h dc_RowSeries_new_h pm_RowSeries_new_h ct_RowSeries_new_h cd_RowSeries_new_h oc_Series_grow_row kV_Series_grow_row dc_Series_grow_row pm_Series_grow_row ct_Series_grow_row cd_Series_grow_row oc_RingSeries_new_h kV_RingSeries_new_h dc_RingSeries_new_h pm_RingSeries_new_h ct_RingSeries_new_h cd_RingSeries_new_h oc_Series_grow_ring kV_Series_grow_ring dc_Series_grow_ring pm_Series_grow_ring ct_Series_grow_ring cd_Series_grow_ring oc_grown_ring kV_grown_ring dc_grown_ring pm_grown_ring ct_grown_ring cd_grown_ring oc_ring_counts kV_ring_counts dc_ring_counts pm_ring_counts ct_ring_counts cd_ring_counts oc__law_whole kV__law_whole dc__law_whole pm__law_whole ct__law_whole cd__law_whole oc__law_is_row kV__law_is_row dc__law_is_row pm__law_is_row ct__law_is_row cd__law_is_row oc__law_cell kV__law_cell dc__law_cell pm__law_cell ct__law_cell cd__law_cell oc__law_rows_of kV__law_rows_of dc__law_rows_of pm__law_rows_of ct__law_rows_of cd__law_rows_of oc__law_rings_of kV__law_rings_of dc__law_rings_of pm__law_rings_of ct__law_rings_of cd__law_rings_of oc_law kV_law dc_law pm_law ct_law cd_law : Value} {f_divisors f_shared f_sharing_none f_Series_init0_ring f_Series_init_row f_RingSeries_init f_RowSeries_new_h f_Series_grow_row f_RingSeries_new_h f_Series_grow_ring f_grown_ring f_ring_counts f__law_whole f__law_is_row f__law_cell f__law_rows_of f__law_rings_of f_law q_RingSeries q_RowSeries q_Series : Addr}
    (a_divisors : PySem.W.nsIn K mainGlobals "divisors" = some (some (.ref f_divisors)))
    (a_shared : PySem.W.nsIn K mainGlobals "shared" = some (some (.ref f_shared)))
    (a_sharing_none : PySem.W.nsIn K mainGlobals "sharing_none" = some (some (.ref f_sharing_none)))
    (a_grown_ring : PySem.W.nsIn K mainGlobals "grown" = some (some (.ref f_grown_ring)))
    (a_ring_counts : PySem.W.nsIn K mainGlobals "ring_counts" = some (some (.ref f_ring_counts)))
    (a__law_whole : PySem.W.nsIn K mainGlobals "_law_whole" = some (some (.ref f__law_whole)))
    (a__law_is_row : PySem.W.nsIn K mainGlobals "_law_is_row" = some (some (.ref f__law_is_row)))
    (a__law_cell : PySem.W.nsIn K mainGlobals "_law_cell" = some (some (.ref f__law_cell)))
    (a__law_rows_of : PySem.W.nsIn K mainGlobals "_law_rows_of" = some (some (.ref f__law_rows_of)))
    (a__law_rings_of : PySem.W.nsIn K mainGlobals "_law_rings_of" = some (some (.ref f__law_rings_of)))
    (a_law : PySem.W.nsIn K mainGlobals "law" = some (some (.ref f_law)))
    (qa_RingSeries : PySem.W.nsIn K mainGlobals "RingSeries" = some (some (.ref q_RingSeries)))
    (qa_RowSeries : PySem.W.nsIn K mainGlobals "RowSeries" = some (some (.ref q_RowSeries)))
    (qa_Series : PySem.W.nsIn K mainGlobals "Series" = some (some (.ref q_Series)))
    (ma_RingSeries_grow : PySem.W.findIn K (.ref q_RingSeries) "grow" = some (some (.ref f_Series_grow_ring)))
    (ma_RingSeries_newest : PySem.W.findIn K (.ref q_RingSeries) "newest" = some (some (.ref f_RingSeries_new_h)))
    (ma_RowSeries_grow : PySem.W.findIn K (.ref q_RowSeries) "grow" = some (some (.ref f_Series_grow_row)))
    (ma_RowSeries_newest : PySem.W.findIn K (.ref q_RowSeries) "newest" = some (some (.ref f_RowSeries_new_h)))
    (ia_RingSeries : PySem.W.findIn K (.ref q_RingSeries) "__init__" = some (some (.ref f_RingSeries_init)))
    (ia_RowSeries : PySem.W.findIn K (.ref q_RowSeries) "__init__" = some (some (.ref f_Series_init_row)))
    (xrd_Series : PySem.W.readsIn K q_Series (.type "type") = true)
    (xga_Series : PySem.W.specialIn K (.ref q_Series) "__getattribute__" = some (some (.builtin "type.__getattribute__")))
    (fv_Series_Series_init0_ring : PySem.W.findCls K (.ref q_Series) (.type "type") "__init__" = some (.val (.ref f_Series_init0_ring)))
    (l_divisors : K.lookup f_divisors = some ⟨oc_divisors, od_divisors, .func (PySem.W.fnOf "divisors" "divisors" (defArgs s_divisors) (defBody s_divisors) (defScope s_divisors) .none kV_divisors dc_divisors pm_divisors an_divisors cd_divisors ct_divisors), sl_divisors⟩)
    (c_divisors : PySem.W.codeIn K cd_divisors "divisors" = true)
    (k_divisors : PySem.W.keepIn K (.ref f_divisors) = true)
    (l_shared : K.lookup f_shared = some ⟨oc_shared, od_shared, .func (PySem.W.fnOf "shared" "shared" (defArgs s_shared) (defBody s_shared) (defScope s_shared) .none kV_shared dc_shared pm_shared an_shared cd_shared ct_shared), sl_shared⟩)
    (c_shared : PySem.W.codeIn K cd_shared "shared" = true)
    (k_shared : PySem.W.keepIn K (.ref f_shared) = true)
    (l_sharing_none : K.lookup f_sharing_none = some ⟨oc_sharing_none, od_sharing_none, .func (PySem.W.fnOf "sharing_none" "sharing_none" (defArgs s_sharing_none) (defBody s_sharing_none) (defScope s_sharing_none) .none kV_sharing_none dc_sharing_none pm_sharing_none an_sharing_none cd_sharing_none ct_sharing_none), sl_sharing_none⟩)
    (c_sharing_none : PySem.W.codeIn K cd_sharing_none "sharing_none" = true)
    (k_sharing_none : PySem.W.keepIn K (.ref f_sharing_none) = true)
    (l_Series_init0_ring : K.lookup f_Series_init0_ring = some ⟨oc_Series_init0_ring, od_Series_init0_ring, .func (PySem.W.fnOf "__init__" "Series.__init__" (defArgs s_Series_init0_ring) (defBody s_Series_init0_ring) (defScope s_Series_init0_ring) .none kV_Series_init0_ring dc_Series_init0_ring pm_Series_init0_ring an_Series_init0_ring cd_Series_init0_ring ct_Series_init0_ring), sl_Series_init0_ring⟩)
    (c_Series_init0_ring : PySem.W.codeIn K cd_Series_init0_ring "Series.__init__" = true)
    (k_Series_init0_ring : PySem.W.keepIn K (.ref f_Series_init0_ring) = true)
    (i_Series_init0_ring : PySem.W.isFn K (.ref f_Series_init0_ring) = true)
    (l_Series_init_row : K.lookup f_Series_init_row = some ⟨oc_Series_init_row, od_Series_init_row, .func (PySem.W.fnOf "__init__" "Series.__init__" (defArgs s_Series_init_row) (defBody s_Series_init_row) (defScope s_Series_init_row) .none kV_Series_init_row dc_Series_init_row pm_Series_init_row an_Series_init_row cd_Series_init_row ct_Series_init_row), sl_Series_init_row⟩)
    (c_Series_init_row : PySem.W.codeIn K cd_Series_init_row "Series.__init__" = true)
    (k_Series_init_row : PySem.W.keepIn K (.ref f_Series_init_row) = true)
    (i_Series_init_row : PySem.W.isFn K (.ref f_Series_init_row) = true)
    (l_RingSeries_init : K.lookup f_RingSeries_init = some ⟨oc_RingSeries_init, od_RingSeries_init, .func (PySem.W.fnOf "__init__" "RingSeries.__init__" (defArgs s_RingSeries_init) (defBody s_RingSeries_init) (defScope s_RingSeries_init) .none kV_RingSeries_init dc_RingSeries_init pm_RingSeries_init an_RingSeries_init cd_RingSeries_init ct_RingSeries_init), sl_RingSeries_init⟩)
    (c_RingSeries_init : PySem.W.codeIn K cd_RingSeries_init "RingSeries.__init__" = true)
    (k_RingSeries_init : PySem.W.keepIn K (.ref f_RingSeries_init) = true)
    (i_RingSeries_init : PySem.W.isFn K (.ref f_RingSeries_init) = true)
    (l_RowSeries_new_h : K.lookup f_RowSeries_new_h = some ⟨oc_RowSeries_new_h, od_RowSeries_new_h, .func (PySem.W.fnOf "newest" "RowSeries.newest" (defArgs s_RowSeries_new_h) (defBody s_RowSeries_new_h) (defScope s_RowSeries_new_h) .none kV_RowSeries_new_h dc_RowSeries_new_h pm_RowSeries_new_h an_RowSeries_new_h cd_RowSeries_new_h ct_RowSeries_new_h), sl_RowSeries_new_h⟩)
    (c_RowSeries_new_h : PySem.W.codeIn K cd_RowSeries_new_h "RowSeries.newest" = true)
    (k_RowSeries_new_h : PySem.W.keepIn K (.ref f_RowSeries_new_h) = true)
    (i_RowSeries_new_h : PySem.W.isFn K (.ref f_RowSeries_new_h) = true)
    (l_Series_grow_row : K.lookup f_Series_grow_row = some ⟨oc_Series_grow_row, od_Series_grow_row, .func (PySem.W.fnOf "grow" "Series.grow" (defArgs s_Series_grow_row) (defBody s_Series_grow_row) (defScope s_Series_grow_row) .none kV_Series_grow_row dc_Series_grow_row pm_Series_grow_row an_Series_grow_row cd_Series_grow_row ct_Series_grow_row), sl_Series_grow_row⟩)
    (c_Series_grow_row : PySem.W.codeIn K cd_Series_grow_row "Series.grow" = true)
    (k_Series_grow_row : PySem.W.keepIn K (.ref f_Series_grow_row) = true)
    (i_Series_grow_row : PySem.W.isFn K (.ref f_Series_grow_row) = true)
    (l_RingSeries_new_h : K.lookup f_RingSeries_new_h = some ⟨oc_RingSeries_new_h, od_RingSeries_new_h, .func (PySem.W.fnOf "newest" "RingSeries.newest" (defArgs s_RingSeries_new_h) (defBody s_RingSeries_new_h) (defScope s_RingSeries_new_h) .none kV_RingSeries_new_h dc_RingSeries_new_h pm_RingSeries_new_h an_RingSeries_new_h cd_RingSeries_new_h ct_RingSeries_new_h), sl_RingSeries_new_h⟩)
    (c_RingSeries_new_h : PySem.W.codeIn K cd_RingSeries_new_h "RingSeries.newest" = true)
    (k_RingSeries_new_h : PySem.W.keepIn K (.ref f_RingSeries_new_h) = true)
    (i_RingSeries_new_h : PySem.W.isFn K (.ref f_RingSeries_new_h) = true)
    (l_Series_grow_ring : K.lookup f_Series_grow_ring = some ⟨oc_Series_grow_ring, od_Series_grow_ring, .func (PySem.W.fnOf "grow" "Series.grow" (defArgs s_Series_grow_ring) (defBody s_Series_grow_ring) (defScope s_Series_grow_ring) .none kV_Series_grow_ring dc_Series_grow_ring pm_Series_grow_ring an_Series_grow_ring cd_Series_grow_ring ct_Series_grow_ring), sl_Series_grow_ring⟩)
    (c_Series_grow_ring : PySem.W.codeIn K cd_Series_grow_ring "Series.grow" = true)
    (k_Series_grow_ring : PySem.W.keepIn K (.ref f_Series_grow_ring) = true)
    (i_Series_grow_ring : PySem.W.isFn K (.ref f_Series_grow_ring) = true)
    (l_grown_ring : K.lookup f_grown_ring = some ⟨oc_grown_ring, od_grown_ring, .func (PySem.W.fnOf "grown" "grown" (defArgs s_grown_ring) (defBody s_grown_ring) (defScope s_grown_ring) .none kV_grown_ring dc_grown_ring pm_grown_ring an_grown_ring cd_grown_ring ct_grown_ring), sl_grown_ring⟩)
    (c_grown_ring : PySem.W.codeIn K cd_grown_ring "grown" = true)
    (k_grown_ring : PySem.W.keepIn K (.ref f_grown_ring) = true)
    (l_ring_counts : K.lookup f_ring_counts = some ⟨oc_ring_counts, od_ring_counts, .func (PySem.W.fnOf "ring_counts" "ring_counts" (defArgs s_ring_counts) (defBody s_ring_counts) (defScope s_ring_counts) .none kV_ring_counts dc_ring_counts pm_ring_counts an_ring_counts cd_ring_counts ct_ring_counts), sl_ring_counts⟩)
    (c_ring_counts : PySem.W.codeIn K cd_ring_counts "ring_counts" = true)
    (k_ring_counts : PySem.W.keepIn K (.ref f_ring_counts) = true)
    (l__law_whole : K.lookup f__law_whole = some ⟨oc__law_whole, od__law_whole, .func (PySem.W.fnOf "_law_whole" "_law_whole" (defArgs s__law_whole) (defBody s__law_whole) (defScope s__law_whole) .none kV__law_whole dc__law_whole pm__law_whole an__law_whole cd__law_whole ct__law_whole), sl__law_whole⟩)
    (c__law_whole : PySem.W.codeIn K cd__law_whole "_law_whole" = true)
    (k__law_whole : PySem.W.keepIn K (.ref f__law_whole) = true)
    (l__law_is_row : K.lookup f__law_is_row = some ⟨oc__law_is_row, od__law_is_row, .func (PySem.W.fnOf "_law_is_row" "_law_is_row" (defArgs s__law_is_row) (defBody s__law_is_row) (defScope s__law_is_row) .none kV__law_is_row dc__law_is_row pm__law_is_row an__law_is_row cd__law_is_row ct__law_is_row), sl__law_is_row⟩)
    (c__law_is_row : PySem.W.codeIn K cd__law_is_row "_law_is_row" = true)
    (k__law_is_row : PySem.W.keepIn K (.ref f__law_is_row) = true)
    (l__law_cell : K.lookup f__law_cell = some ⟨oc__law_cell, od__law_cell, .func (PySem.W.fnOf "_law_cell" "_law_cell" (defArgs s__law_cell) (defBody s__law_cell) (defScope s__law_cell) .none kV__law_cell dc__law_cell pm__law_cell an__law_cell cd__law_cell ct__law_cell), sl__law_cell⟩)
    (c__law_cell : PySem.W.codeIn K cd__law_cell "_law_cell" = true)
    (k__law_cell : PySem.W.keepIn K (.ref f__law_cell) = true)
    (l__law_rows_of : K.lookup f__law_rows_of = some ⟨oc__law_rows_of, od__law_rows_of, .func (PySem.W.fnOf "_law_rows_of" "_law_rows_of" (defArgs s__law_rows_of) (defBody s__law_rows_of) (defScope s__law_rows_of) .none kV__law_rows_of dc__law_rows_of pm__law_rows_of an__law_rows_of cd__law_rows_of ct__law_rows_of), sl__law_rows_of⟩)
    (c__law_rows_of : PySem.W.codeIn K cd__law_rows_of "_law_rows_of" = true)
    (k__law_rows_of : PySem.W.keepIn K (.ref f__law_rows_of) = true)
    (l__law_rings_of : K.lookup f__law_rings_of = some ⟨oc__law_rings_of, od__law_rings_of, .func (PySem.W.fnOf "_law_rings_of" "_law_rings_of" (defArgs s__law_rings_of) (defBody s__law_rings_of) (defScope s__law_rings_of) .none kV__law_rings_of dc__law_rings_of pm__law_rings_of an__law_rings_of cd__law_rings_of ct__law_rings_of), sl__law_rings_of⟩)
    (c__law_rings_of : PySem.W.codeIn K cd__law_rings_of "_law_rings_of" = true)
    (k__law_rings_of : PySem.W.keepIn K (.ref f__law_rings_of) = true)
    (l_law : K.lookup f_law = some ⟨oc_law, od_law, .func (PySem.W.fnOf "law" "law" (defArgs s_law) (defBody s_law) (defScope s_law) .none kV_law dc_law pm_law an_law cd_law ct_law), sl_law⟩)
    (c_law : PySem.W.codeIn K cd_law "law" = true)
    (k_law : PySem.W.keepIn K (.ref f_law) = true)
    (mk_RingSeries : PySem.W.makesIn K q_RingSeries = true)
    (kk_RingSeries : PySem.W.keepIn K (.ref q_RingSeries) = true)
    (mk_RowSeries : PySem.W.makesIn K q_RowSeries = true)
    (kk_RowSeries : PySem.W.keepIn K (.ref q_RowSeries) = true)
    (pg_RingSeries : PySem.W.plainGet K q_RingSeries Str.empty = true)
    (hd_RingSeries : PySem.W.hasDictIn K q_RingSeries = true)
    (po_RingSeries : PySem.W.plainOver K q_RingSeries = true)
    (sa_RingSeries : PySem.W.findIn K (.ref q_RingSeries) "__setattr__" = some (some (.builtin "object.__setattr__")))
    (kn_RingSeries_gone : PySem.W.findIn K (.ref q_RingSeries) "gone" = some none)
    (kn_RingSeries_made : PySem.W.findIn K (.ref q_RingSeries) "made" = some none)
    (pg_RowSeries : PySem.W.plainGet K q_RowSeries Str.empty = true)
    (hd_RowSeries : PySem.W.hasDictIn K q_RowSeries = true)
    (po_RowSeries : PySem.W.plainOver K q_RowSeries = true)
    (sa_RowSeries : PySem.W.findIn K (.ref q_RowSeries) "__setattr__" = some (some (.builtin "object.__setattr__")))
    (kn_RowSeries_gone : PySem.W.findIn K (.ref q_RowSeries) "gone" = some none)
    (kn_RowSeries_made : PySem.W.findIn K (.ref q_RowSeries) "made" = some none)
    (kn_RingSeries_lines : PySem.W.findIn K (.ref q_RingSeries) "lines" = some none)
    (kn_RingSeries_marked : PySem.W.findIn K (.ref q_RingSeries) "marked" = some none)
    (zz_bool : PySem.W.nsIn K mainGlobals "bool" = some none)
    (zz_int : PySem.W.nsIn K mainGlobals "int" = some none)
    (zz_isinstance : PySem.W.nsIn K mainGlobals "isinstance" = some none)
    (zz_len : PySem.W.nsIn K mainGlobals "len" = some none)
    (zz_list : PySem.W.nsIn K mainGlobals "list" = some none)
    (zz_min : PySem.W.nsIn K mainGlobals "min" = some none)
    (zz_range : PySem.W.nsIn K mainGlobals "range" = some none)
    (zz_sum : PySem.W.nsIn K mainGlobals "sum" = some none)
    (goal : ∀ ns : List Int, ns.length ≤ 63 → m_law [.lst (ns.map .int)] = some (.bl true)) :
    ∃ fd : FuncData, (∀ (s : Shared) (v : Value), BindsTo s fd ⟨[v], []⟩ [("_law_script", v)]) ∧ ∀ base : Heap, K.In base → base.Ns mainGlobals mg → FnOk l.prog w K mg base CX0 9 fa fd ["_law_script"] (Ab.spLaw K) := by
  have e := hfa.symm.trans (PySem.W.mg_of X G a_law)
  cases e
  have Z : Zs mg := ⟨PySem.W.mg_none_of X G zz_bool, PySem.W.mg_none_of X G zz_int, PySem.W.mg_none_of X G zz_isinstance, PySem.W.mg_none_of X G zz_len, PySem.W.mg_none_of X G zz_list, PySem.W.mg_none_of X G zz_min, PySem.W.mg_none_of X G zz_range, PySem.W.mg_none_of X G zz_sum⟩
  obtain ⟨cls, hcls⟩ : ∃ cls : String → Addr, cls = fun c => if c = "RingSeries" then q_RingSeries else if c = "RowSeries" then q_RowSeries else if c = "Series" then q_Series else 0 := ⟨_, rfl⟩
  have e_RingSeries : cls "RingSeries" = q_RingSeries := by rw [hcls]; rfl
  have e_RowSeries : cls "RowSeries" = q_RowSeries := by rw [hcls]; rfl
  have e_Series : cls "Series" = q_Series := by rw [hcls]; rfl
  have Y : Ks K mg cls := ⟨(by rw [e_RingSeries]; exact ⟨pg_RingSeries, hd_RingSeries, po_RingSeries, sa_RingSeries⟩),
    (by rw [e_RingSeries]; exact kn_RingSeries_gone),
    (by rw [e_RingSeries]; exact kn_RingSeries_made),
    (by rw [e_RowSeries]; exact ⟨pg_RowSeries, hd_RowSeries, po_RowSeries, sa_RowSeries⟩),
    (by rw [e_RowSeries]; exact kn_RowSeries_gone),
    (by rw [e_RowSeries]; exact kn_RowSeries_made),
    (by rw [e_RingSeries]; exact kn_RingSeries_lines),
    (by rw [e_RingSeries]; exact kn_RingSeries_marked)⟩
  have F_divisors := fun_mk (st := s_divisors) l_divisors c_divisors k_divisors
  have b_divisors := F_divisors.binds (ps := ["n"]) fun _ _ _ _ _ _ us hl => match us, hl with | [_], _ => rfl
  have F_shared := fun_mk (st := s_shared) l_shared c_shared k_shared
  have b_shared := F_shared.binds (ps := ["a", "b"]) fun _ _ _ _ _ _ us hl => match us, hl with | [_, _], _ => rfl
  have F_sharing_none := fun_mk (st := s_sharing_none) l_sharing_none c_sharing_none k_sharing_none
  have b_sharing_none := F_sharing_none.binds (ps := ["k"]) fun _ _ _ _ _ _ us hl => match us, hl with | [_], _ => rfl
  have F_Series_init0_ring := fun_mk (st := s_Series_init0_ring) l_Series_init0_ring c_Series_init0_ring k_Series_init0_ring
  have b_Series_init0_ring := F_Series_init0_ring.binds (ps := ["self"]) fun _ _ _ _ _ _ us hl => match us, hl with | [_], _ => rfl
  have F_Series_init_row := fun_mk (st := s_Series_init_row) l_Series_init_row c_Series_init_row k_Series_init_row
  have b_Series_init_row := F_Series_init_row.binds (ps := ["self"]) fun _ _ _ _ _ _ us hl => match us, hl with | [_], _ => rfl
  have F_RingSeries_init := fun_mk (st := s_RingSeries_init) l_RingSeries_init c_RingSeries_init k_RingSeries_init
  have b_RingSeries_init := F_RingSeries_init.binds (ps := ["self"]) fun _ _ _ _ _ _ us hl => match us, hl with | [_], _ => rfl
  have F_RowSeries_new_h := fun_mk (st := s_RowSeries_new_h) l_RowSeries_new_h c_RowSeries_new_h k_RowSeries_new_h
  have b_RowSeries_new_h := F_RowSeries_new_h.binds (ps := ["self", "n"]) fun _ _ _ _ _ _ us hl => match us, hl with | [_, _], _ => rfl
  have F_Series_grow_row := fun_mk (st := s_Series_grow_row) l_Series_grow_row c_Series_grow_row k_Series_grow_row
  have b_Series_grow_row := F_Series_grow_row.binds (ps := ["self", "count"]) fun _ _ _ _ _ _ us hl => match us, hl with | [_, _], _ => rfl
  have F_RingSeries_new_h := fun_mk (st := s_RingSeries_new_h) l_RingSeries_new_h c_RingSeries_new_h k_RingSeries_new_h
  have b_RingSeries_new_h := F_RingSeries_new_h.binds (ps := ["self", "n"]) fun _ _ _ _ _ _ us hl => match us, hl with | [_, _], _ => rfl
  have F_Series_grow_ring := fun_mk (st := s_Series_grow_ring) l_Series_grow_ring c_Series_grow_ring k_Series_grow_ring
  have b_Series_grow_ring := F_Series_grow_ring.binds (ps := ["self", "count"]) fun _ _ _ _ _ _ us hl => match us, hl with | [_, _], _ => rfl
  have F_grown_ring := fun_mk (st := s_grown_ring) l_grown_ring c_grown_ring k_grown_ring
  have b_grown_ring := F_grown_ring.binds (ps := ["series", "a"]) fun _ _ _ _ _ _ us hl => match us, hl with | [_, _], _ => rfl
  have F_ring_counts := fun_mk (st := s_ring_counts) l_ring_counts c_ring_counts k_ring_counts
  have b_ring_counts := F_ring_counts.binds (ps := ["a"]) fun _ _ _ _ _ _ us hl => match us, hl with | [_], _ => rfl
  have F__law_whole := fun_mk (st := s__law_whole) l__law_whole c__law_whole k__law_whole
  have b__law_whole := F__law_whole.binds (ps := ["_law_found"]) fun _ _ _ _ _ _ us hl => match us, hl with | [_], _ => rfl
  have F__law_is_row := fun_mk (st := s__law_is_row) l__law_is_row c__law_is_row k__law_is_row
  have b__law_is_row := F__law_is_row.binds (ps := ["_law_found", "_law_due"]) fun _ _ _ _ _ _ us hl => match us, hl with | [_, _], _ => rfl
  have F__law_cell := fun_mk (st := s__law_cell) l__law_cell c__law_cell k__law_cell
  have b__law_cell := F__law_cell.binds (ps := ["_law_script", "_law_k"]) fun _ _ _ _ _ _ us hl => match us, hl with | [_, _], _ => rfl
  have F__law_rows_of := fun_mk (st := s__law_rows_of) l__law_rows_of c__law_rows_of k__law_rows_of
  have b__law_rows_of := F__law_rows_of.binds (ps := ["_law_a", "_law_size"]) fun _ _ _ _ _ _ us hl => match us, hl with | [_, _], _ => rfl
  have F__law_rings_of := fun_mk (st := s__law_rings_of) l__law_rings_of c__law_rings_of k__law_rings_of
  have b__law_rings_of := F__law_rings_of.binds (ps := ["_law_a", "_law_size"]) fun _ _ _ _ _ _ us hl => match us, hl with | [_, _], _ => rfl
  have F_law := fun_mk (st := s_law) l_law c_law k_law
  have b_law := F_law.binds (ps := ["_law_script"]) fun _ _ _ _ _ _ us hl => match us, hl with | [_], _ => rfl
  refine ⟨PySem.W.fnOf "law" "law" (defArgs s_law) (defBody s_law) (defScope s_law) .none kV_law dc_law pm_law an_law cd_law ct_law, fun s v => .of_eq rfl, fun base bI bN => ?_⟩
  have C_divisors : Cal l.prog w K mg base "divisors" ["n"] 1 (spL ⟨K, cls⟩ m_divisors) := ⟨_, _, ok_divisors (P := l.prog) (w := w) (base := base) (cls := cls) F_divisors Z Y, PySem.W.mg_of X G a_divisors, F_divisors.kp, b_divisors⟩
  have C_shared : Cal l.prog w K mg base "shared" ["a", "b"] 1 (spP ⟨K, cls⟩ m_shared) := ⟨_, _, ok_shared (P := l.prog) (w := w) (base := base) (cls := cls) F_shared Z Y, PySem.W.mg_of X G a_shared, F_shared.kp, b_shared⟩
  have C_sharing_none : Cal l.prog w K mg base "sharing_none" ["k"] 2 (spP ⟨K, cls⟩ m_sharing_none) := ⟨_, _, ok_sharing_none (P := l.prog) (w := w) (base := base) (cls := cls) F_sharing_none Z Y C_shared, PySem.W.mg_of X G a_sharing_none, F_sharing_none.kp, b_sharing_none⟩
  have G_Series_init0_ring := ok_Series_init0_ring (P := l.prog) (w := w) (base := base) (cls := cls) F_Series_init0_ring Z Y
  have CF_Series_Series_init0_ring : CalF l.prog w K mg base "Series" "__init__" ["self"] 1 (spInit0 (cls "RingSeries")) := ⟨_, _, _, _, G_Series_init0_ring, PySem.W.mg_of X G qa_Series, ⟨xrd_Series, xga_Series⟩, ⟨fv_Series_Series_init0_ring, rfl⟩, k_Series_init0_ring, b_Series_init0_ring⟩
  have G_Series_init_row := ok_Series_init_row (P := l.prog) (w := w) (base := base) (cls := cls) F_Series_init_row Z Y
  have I_RowSeries : CalI l.prog w K mg base "RowSeries" (cls "RowSeries") ["self"] 4 (spIni ⟨K, cls⟩ .row) := ⟨_, _, G_Series_init_row, by rw [e_RowSeries]; exact ⟨mk_RowSeries, ia_RowSeries, i_Series_init_row, kk_RowSeries⟩, b_Series_init_row, by rw [e_RowSeries]; exact PySem.W.mg_of X G qa_RowSeries⟩
  have G_RingSeries_init := ok_RingSeries_init (P := l.prog) (w := w) (base := base) (cls := cls) F_RingSeries_init Z Y I_RowSeries CF_Series_Series_init0_ring
  have I_RingSeries : CalI l.prog w K mg base "RingSeries" (cls "RingSeries") ["self"] 6 (spIni ⟨K, cls⟩ .ring) := ⟨_, _, G_RingSeries_init, by rw [e_RingSeries]; exact ⟨mk_RingSeries, ia_RingSeries, i_RingSeries_init, kk_RingSeries⟩, b_RingSeries_init, by rw [e_RingSeries]; exact PySem.W.mg_of X G qa_RingSeries⟩
  have G_RowSeries_new_h := ok_RowSeries_new_h (P := l.prog) (w := w) (base := base) (cls := cls) F_RowSeries_new_h Z Y
  have M_RowSeries_newest : CalM l.prog w K mg base (cls "RowSeries") "newest" ["self", "n"] 2 (spNew ⟨K, cls⟩ .row) := ⟨_, _, G_RowSeries_new_h, by rw [e_RowSeries]; exact ⟨ma_RowSeries_newest, i_RowSeries_new_h, k_RowSeries_new_h⟩, b_RowSeries_new_h⟩
  have G_Series_grow_row := ok_Series_grow_row (P := l.prog) (w := w) (base := base) (cls := cls) F_Series_grow_row Z Y M_RowSeries_newest
  have M_RowSeries_grow : CalM l.prog w K mg base (cls "RowSeries") "grow" ["self", "count"] 3 (spGrow ⟨K, cls⟩ .row) := ⟨_, _, G_Series_grow_row, by rw [e_RowSeries]; exact ⟨ma_RowSeries_grow, i_Series_grow_row, k_Series_grow_row⟩, b_Series_grow_row⟩
  have G_RingSeries_new_h := ok_RingSeries_new_h (P := l.prog) (w := w) (base := base) (cls := cls) F_RingSeries_new_h Z Y C_divisors C_sharing_none M_RowSeries_grow
  have M_RingSeries_newest : CalM l.prog w K mg base (cls "RingSeries") "newest" ["self", "n"] 4 (spNew ⟨K, cls⟩ .ring) := ⟨_, _, G_RingSeries_new_h, by rw [e_RingSeries]; exact ⟨ma_RingSeries_newest, i_RingSeries_new_h, k_RingSeries_new_h⟩, b_RingSeries_new_h⟩
  have G_Series_grow_ring := ok_Series_grow_ring (P := l.prog) (w := w) (base := base) (cls := cls) F_Series_grow_ring Z Y M_RingSeries_newest
  have M_RingSeries_grow : CalM l.prog w K mg base (cls "RingSeries") "grow" ["self", "count"] 5 (spGrow ⟨K, cls⟩ .ring) := ⟨_, _, G_Series_grow_ring, by rw [e_RingSeries]; exact ⟨ma_RingSeries_grow, i_Series_grow_ring, k_Series_grow_ring⟩, b_Series_grow_ring⟩
  have C_grown_ring : Cal l.prog w K mg base "grown" ["series", "a"] 6 (spGrown ⟨K, cls⟩ .ring) := ⟨_, _, ok_grown_ring (P := l.prog) (w := w) (base := base) (cls := cls) F_grown_ring Z Y M_RingSeries_grow, PySem.W.mg_of X G a_grown_ring, F_grown_ring.kp, b_grown_ring⟩
  have C_ring_counts : Cal l.prog w K mg base "ring_counts" ["a"] 8 (spL ⟨K, cls⟩ m_ring_counts) := ⟨_, _, ok_ring_counts (P := l.prog) (w := w) (base := base) (cls := cls) F_ring_counts Z Y C_grown_ring I_RingSeries, PySem.W.mg_of X G a_ring_counts, F_ring_counts.kp, b_ring_counts⟩
  have C__law_whole : Cal l.prog w K mg base "_law_whole" ["_law_found"] 1 (spP ⟨K, cls⟩ m__law_whole) := ⟨_, _, ok__law_whole (P := l.prog) (w := w) (base := base) (cls := cls) F__law_whole Z Y, PySem.W.mg_of X G a__law_whole, F__law_whole.kp, b__law_whole⟩
  have C__law_is_row : Cal l.prog w K mg base "_law_is_row" ["_law_found", "_law_due"] 2 (spP ⟨K, cls⟩ m__law_is_row) := ⟨_, _, ok__law_is_row (P := l.prog) (w := w) (base := base) (cls := cls) F__law_is_row Z Y C__law_whole, PySem.W.mg_of X G a__law_is_row, F__law_is_row.kp, b__law_is_row⟩
  have C__law_cell : Cal l.prog w K mg base "_law_cell" ["_law_script", "_law_k"] 1 (spP ⟨K, cls⟩ m__law_cell) := ⟨_, _, ok__law_cell (P := l.prog) (w := w) (base := base) (cls := cls) F__law_cell Z Y, PySem.W.mg_of X G a__law_cell, F__law_cell.kp, b__law_cell⟩
  have C__law_rows_of : Cal l.prog w K mg base "_law_rows_of" ["_law_a", "_law_size"] 1 (spP ⟨K, cls⟩ m__law_rows_of) := ⟨_, _, ok__law_rows_of (P := l.prog) (w := w) (base := base) (cls := cls) F__law_rows_of Z Y, PySem.W.mg_of X G a__law_rows_of, F__law_rows_of.kp, b__law_rows_of⟩
  have C__law_rings_of : Cal l.prog w K mg base "_law_rings_of" ["_law_a", "_law_size"] 2 (spP ⟨K, cls⟩ m__law_rings_of) := ⟨_, _, ok__law_rings_of (P := l.prog) (w := w) (base := base) (cls := cls) F__law_rings_of Z Y C__law_rows_of, PySem.W.mg_of X G a__law_rings_of, F__law_rings_of.kp, b__law_rings_of⟩
  exact Ab.law_of (ok_law (P := l.prog) (w := w) (base := base) (cls := cls) F_law Z Y C__law_cell C__law_is_row C__law_rings_of C_ring_counts) goal
end
end W_k22
end
section
set_option maxRecDepth 100000
set_option maxHeartbeats 0
namespace W_k22
open PySem L2 PyProof.Rows PySem.Spec Ab
def lsI (t d0 d1 d2 d3 : Nat) : List Int := ([0, (d0 : Int), (d1 : Int), (d2 : Int), (d3 : Int), 0, 0, 0] : List Int).take (t + 2)
def lsA (t d0 d1 d2 d3 : Nat) : Nat → Int := fun i => (lsI t d0 d1 d2 d3).getD i 0
def chkV (o : Option D) (v : Int) : Bool := match o with | some (.int x) => decide (x = v) | _ => false
theorem chkV_is {o : Option D} {v : Int} (h : chkV o v = true) : o = some (.int v) := by
  unfold chkV at h
  split at h
  · rw [of_decide_eq_true h]
  · cases h
def chkR (t d0 d1 d2 d3 n : Nat) : Bool := chkV (m__law_rings_of [.lst ((lsI t d0 d1 d2 d3).map .int), .int (n : Int)]) (ringV (lsA t d0 d1 d2 d3) n)
def chkT (t d0 d1 m : Nat) : Bool := (List.range 2).all fun d2 => (List.range 2).all fun d3 => (List.range m).all fun n => chkR t d0 d1 d2 d3 (n + 1)
theorem of_T {t a b m : Nat} (h : chkT t a b m = true) {c d n : Nat} (hc : c < 2) (hd : d < 2) (hn : n < m) : chkR t a b c d (n + 1) = true := by
  unfold chkT at h
  rw [List.all_eq_true] at h
  have h := h c (List.mem_range.mpr hc)
  rw [List.all_eq_true] at h
  have h := h d (List.mem_range.mpr hd)
  rw [List.all_eq_true] at h
  exact h n (List.mem_range.mpr hn)
theorem T000 : chkT 0 0 0 1 = true := by kernel_rfl
theorem T001 : chkT 0 0 1 1 = true := by kernel_rfl
theorem T002 : chkT 0 0 2 1 = true := by kernel_rfl
theorem T010 : chkT 0 1 0 1 = true := by kernel_rfl
theorem T011 : chkT 0 1 1 1 = true := by kernel_rfl
theorem T012 : chkT 0 1 2 1 = true := by kernel_rfl
theorem T020 : chkT 0 2 0 1 = true := by kernel_rfl
theorem T021 : chkT 0 2 1 1 = true := by kernel_rfl
theorem T022 : chkT 0 2 2 1 = true := by kernel_rfl
theorem T100 : chkT 1 0 0 2 = true := by kernel_rfl
theorem T101 : chkT 1 0 1 2 = true := by kernel_rfl
theorem T102 : chkT 1 0 2 2 = true := by kernel_rfl
theorem T110 : chkT 1 1 0 2 = true := by kernel_rfl
theorem T111 : chkT 1 1 1 2 = true := by kernel_rfl
theorem T112 : chkT 1 1 2 2 = true := by kernel_rfl
theorem T120 : chkT 1 2 0 2 = true := by kernel_rfl
theorem T121 : chkT 1 2 1 2 = true := by kernel_rfl
theorem T122 : chkT 1 2 2 2 = true := by kernel_rfl
theorem T200 : chkT 2 0 0 3 = true := by kernel_rfl
theorem T201 : chkT 2 0 1 3 = true := by kernel_rfl
theorem T202 : chkT 2 0 2 3 = true := by kernel_rfl
theorem T210 : chkT 2 1 0 3 = true := by kernel_rfl
theorem T211 : chkT 2 1 1 3 = true := by kernel_rfl
theorem T212 : chkT 2 1 2 3 = true := by kernel_rfl
theorem T220 : chkT 2 2 0 3 = true := by kernel_rfl
theorem T221 : chkT 2 2 1 3 = true := by kernel_rfl
theorem T222 : chkT 2 2 2 3 = true := by kernel_rfl
theorem T300 : chkT 3 0 0 4 = true := by kernel_rfl
theorem T301 : chkT 3 0 1 4 = true := by kernel_rfl
theorem T302 : chkT 3 0 2 4 = true := by kernel_rfl
theorem T310 : chkT 3 1 0 4 = true := by kernel_rfl
theorem T311 : chkT 3 1 1 4 = true := by kernel_rfl
theorem T312 : chkT 3 1 2 4 = true := by kernel_rfl
theorem T320 : chkT 3 2 0 4 = true := by kernel_rfl
theorem T321 : chkT 3 2 1 4 = true := by kernel_rfl
theorem T322 : chkT 3 2 2 4 = true := by kernel_rfl
theorem T400 : chkT 4 0 0 5 = true := by kernel_rfl
theorem T401 : chkT 4 0 1 5 = true := by kernel_rfl
theorem T402 : chkT 4 0 2 5 = true := by kernel_rfl
theorem T410 : chkT 4 1 0 5 = true := by kernel_rfl
theorem T411 : chkT 4 1 1 5 = true := by kernel_rfl
theorem T412 : chkT 4 1 2 5 = true := by kernel_rfl
theorem T420 : chkT 4 2 0 5 = true := by kernel_rfl
theorem T421 : chkT 4 2 1 5 = true := by kernel_rfl
theorem T422 : chkT 4 2 2 5 = true := by kernel_rfl
theorem T500 : chkT 5 0 0 5 = true := by kernel_rfl
theorem T501 : chkT 5 0 1 5 = true := by kernel_rfl
theorem T502 : chkT 5 0 2 5 = true := by kernel_rfl
theorem T510 : chkT 5 1 0 5 = true := by kernel_rfl
theorem T511 : chkT 5 1 1 5 = true := by kernel_rfl
theorem T512 : chkT 5 1 2 5 = true := by kernel_rfl
theorem T520 : chkT 5 2 0 5 = true := by kernel_rfl
theorem T521 : chkT 5 2 1 5 = true := by kernel_rfl
theorem T522 : chkT 5 2 2 5 = true := by kernel_rfl
theorem U0000 : chkR 5 0 0 0 0 6 = true := by kernel_rfl
theorem U0001 : chkR 5 0 0 0 1 6 = true := by kernel_rfl
theorem U0010 : chkR 5 0 0 1 0 6 = true := by kernel_rfl
theorem U0011 : chkR 5 0 0 1 1 6 = true := by kernel_rfl
theorem U0100 : chkR 5 0 1 0 0 6 = true := by kernel_rfl
theorem U0101 : chkR 5 0 1 0 1 6 = true := by kernel_rfl
theorem U0110 : chkR 5 0 1 1 0 6 = true := by kernel_rfl
theorem U0111 : chkR 5 0 1 1 1 6 = true := by kernel_rfl
theorem U0200 : chkR 5 0 2 0 0 6 = true := by kernel_rfl
theorem U0201 : chkR 5 0 2 0 1 6 = true := by kernel_rfl
theorem U0210 : chkR 5 0 2 1 0 6 = true := by kernel_rfl
theorem U0211 : chkR 5 0 2 1 1 6 = true := by kernel_rfl
theorem U1000 : chkR 5 1 0 0 0 6 = true := by kernel_rfl
theorem U1001 : chkR 5 1 0 0 1 6 = true := by kernel_rfl
theorem U1010 : chkR 5 1 0 1 0 6 = true := by kernel_rfl
theorem U1011 : chkR 5 1 0 1 1 6 = true := by kernel_rfl
theorem U1100 : chkR 5 1 1 0 0 6 = true := by kernel_rfl
theorem U1101 : chkR 5 1 1 0 1 6 = true := by kernel_rfl
theorem U1110 : chkR 5 1 1 1 0 6 = true := by kernel_rfl
theorem U1111 : chkR 5 1 1 1 1 6 = true := by kernel_rfl
theorem U1200 : chkR 5 1 2 0 0 6 = true := by kernel_rfl
theorem U1201 : chkR 5 1 2 0 1 6 = true := by kernel_rfl
theorem U1210 : chkR 5 1 2 1 0 6 = true := by kernel_rfl
theorem U1211 : chkR 5 1 2 1 1 6 = true := by kernel_rfl
theorem U2000 : chkR 5 2 0 0 0 6 = true := by kernel_rfl
theorem U2001 : chkR 5 2 0 0 1 6 = true := by kernel_rfl
theorem U2010 : chkR 5 2 0 1 0 6 = true := by kernel_rfl
theorem U2011 : chkR 5 2 0 1 1 6 = true := by kernel_rfl
theorem U2100 : chkR 5 2 1 0 0 6 = true := by kernel_rfl
theorem U2101 : chkR 5 2 1 0 1 6 = true := by kernel_rfl
theorem U2110 : chkR 5 2 1 1 0 6 = true := by kernel_rfl
theorem U2111 : chkR 5 2 1 1 1 6 = true := by kernel_rfl
theorem U2200 : chkR 5 2 2 0 0 6 = true := by kernel_rfl
theorem U2201 : chkR 5 2 2 0 1 6 = true := by kernel_rfl
theorem U2210 : chkR 5 2 2 1 0 6 = true := by kernel_rfl
theorem U2211 : chkR 5 2 2 1 1 6 = true := by kernel_rfl
theorem allT : ∀ t, t < 5 → ∀ a, a < 3 → ∀ b, b < 3 → chkT t a b (t + 1) = true := by
  intro t ht a ha b hb
  match t, ht, a, ha, b, hb with
  | 0, _, 0, _, 0, _ => exact T000
  | 0, _, 0, _, 1, _ => exact T001
  | 0, _, 0, _, 2, _ => exact T002
  | 0, _, 1, _, 0, _ => exact T010
  | 0, _, 1, _, 1, _ => exact T011
  | 0, _, 1, _, 2, _ => exact T012
  | 0, _, 2, _, 0, _ => exact T020
  | 0, _, 2, _, 1, _ => exact T021
  | 0, _, 2, _, 2, _ => exact T022
  | 1, _, 0, _, 0, _ => exact T100
  | 1, _, 0, _, 1, _ => exact T101
  | 1, _, 0, _, 2, _ => exact T102
  | 1, _, 1, _, 0, _ => exact T110
  | 1, _, 1, _, 1, _ => exact T111
  | 1, _, 1, _, 2, _ => exact T112
  | 1, _, 2, _, 0, _ => exact T120
  | 1, _, 2, _, 1, _ => exact T121
  | 1, _, 2, _, 2, _ => exact T122
  | 2, _, 0, _, 0, _ => exact T200
  | 2, _, 0, _, 1, _ => exact T201
  | 2, _, 0, _, 2, _ => exact T202
  | 2, _, 1, _, 0, _ => exact T210
  | 2, _, 1, _, 1, _ => exact T211
  | 2, _, 1, _, 2, _ => exact T212
  | 2, _, 2, _, 0, _ => exact T220
  | 2, _, 2, _, 1, _ => exact T221
  | 2, _, 2, _, 2, _ => exact T222
  | 3, _, 0, _, 0, _ => exact T300
  | 3, _, 0, _, 1, _ => exact T301
  | 3, _, 0, _, 2, _ => exact T302
  | 3, _, 1, _, 0, _ => exact T310
  | 3, _, 1, _, 1, _ => exact T311
  | 3, _, 1, _, 2, _ => exact T312
  | 3, _, 2, _, 0, _ => exact T320
  | 3, _, 2, _, 1, _ => exact T321
  | 3, _, 2, _, 2, _ => exact T322
  | 4, _, 0, _, 0, _ => exact T400
  | 4, _, 0, _, 1, _ => exact T401
  | 4, _, 0, _, 2, _ => exact T402
  | 4, _, 1, _, 0, _ => exact T410
  | 4, _, 1, _, 1, _ => exact T411
  | 4, _, 1, _, 2, _ => exact T412
  | 4, _, 2, _, 0, _ => exact T420
  | 4, _, 2, _, 1, _ => exact T421
  | 4, _, 2, _, 2, _ => exact T422
theorem all5 : ∀ a, a < 3 → ∀ b, b < 3 → chkT 5 a b 5 = true := by
  intro a ha b hb
  match a, ha, b, hb with
  | 0, _, 0, _ => exact T500
  | 0, _, 1, _ => exact T501
  | 0, _, 2, _ => exact T502
  | 1, _, 0, _ => exact T510
  | 1, _, 1, _ => exact T511
  | 1, _, 2, _ => exact T512
  | 2, _, 0, _ => exact T520
  | 2, _, 1, _ => exact T521
  | 2, _, 2, _ => exact T522
theorem allU : ∀ a, a < 3 → ∀ b, b < 3 → ∀ d, d < 2 → ∀ e, e < 2 → chkR 5 a b d e 6 = true := by
  intro a ha b hb d hd e he
  match a, ha, b, hb, d, hd, e, he with
  | 0, _, 0, _, 0, _, 0, _ => exact U0000
  | 0, _, 0, _, 0, _, 1, _ => exact U0001
  | 0, _, 0, _, 1, _, 0, _ => exact U0010
  | 0, _, 0, _, 1, _, 1, _ => exact U0011
  | 0, _, 1, _, 0, _, 0, _ => exact U0100
  | 0, _, 1, _, 0, _, 1, _ => exact U0101
  | 0, _, 1, _, 1, _, 0, _ => exact U0110
  | 0, _, 1, _, 1, _, 1, _ => exact U0111
  | 0, _, 2, _, 0, _, 0, _ => exact U0200
  | 0, _, 2, _, 0, _, 1, _ => exact U0201
  | 0, _, 2, _, 1, _, 0, _ => exact U0210
  | 0, _, 2, _, 1, _, 1, _ => exact U0211
  | 1, _, 0, _, 0, _, 0, _ => exact U1000
  | 1, _, 0, _, 0, _, 1, _ => exact U1001
  | 1, _, 0, _, 1, _, 0, _ => exact U1010
  | 1, _, 0, _, 1, _, 1, _ => exact U1011
  | 1, _, 1, _, 0, _, 0, _ => exact U1100
  | 1, _, 1, _, 0, _, 1, _ => exact U1101
  | 1, _, 1, _, 1, _, 0, _ => exact U1110
  | 1, _, 1, _, 1, _, 1, _ => exact U1111
  | 1, _, 2, _, 0, _, 0, _ => exact U1200
  | 1, _, 2, _, 0, _, 1, _ => exact U1201
  | 1, _, 2, _, 1, _, 0, _ => exact U1210
  | 1, _, 2, _, 1, _, 1, _ => exact U1211
  | 2, _, 0, _, 0, _, 0, _ => exact U2000
  | 2, _, 0, _, 0, _, 1, _ => exact U2001
  | 2, _, 0, _, 1, _, 0, _ => exact U2010
  | 2, _, 0, _, 1, _, 1, _ => exact U2011
  | 2, _, 1, _, 0, _, 0, _ => exact U2100
  | 2, _, 1, _, 0, _, 1, _ => exact U2101
  | 2, _, 1, _, 1, _, 0, _ => exact U2110
  | 2, _, 1, _, 1, _, 1, _ => exact U2111
  | 2, _, 2, _, 0, _, 0, _ => exact U2200
  | 2, _, 2, _, 0, _, 1, _ => exact U2201
  | 2, _, 2, _, 1, _, 0, _ => exact U2210
  | 2, _, 2, _, 1, _, 1, _ => exact U2211
end W_k22
end
section
set_option maxRecDepth 100000
set_option maxHeartbeats 2000000
namespace W_k22
open PySem L2 PyProof.Rows PySem.Spec Ab
theorem fSum_i (ns : List Int) : fSum (ns.map .int) = some (.int ns.sum) := by
  unfold fSum; rw [dints_of]; rfl
theorem at_int {ns : List Int} {i : Int} {j : Nat} (hj : i = j) (h : j < ns.length) : atI (ns.map D.int) i = some (.int (ns.getD j 0)) := by
  subst hj
  rw [atI_nat' (by simpa using h), List.getElem_map, List.getD_eq_getElem?_getD, List.getElem?_eq_getElem h]; rfl
@[simp] theorem isi_ii {i : Int} : fIsi [.int i, .ty "int"] = some (.bl true) := (rfl)
@[simp] theorem isi_ib {i : Int} : fIsi [.int i, .ty "bool"] = some (.bl false) := (rfl)
@[simp] theorem isi_ll {xs : List D} : fIsi [.lst xs, .ty "list"] = some (.bl true) := (rfl)
theorem neQ_int {i : Int} : fNeQ (.int i) (.int i) = some (.bl false) := by
  unfold fNeQ; rw [if_pos (by unfold eqOk; simp [plainD, depD])]; unfold eqv; rw [eqv_refl]; rfl
theorem plain_ints : ∀ ns : List Int, plainDs (ns.map .int) = true
  | [] => rfl
  | n :: ns => by simp [plainDs, plainD, plain_ints ns]
theorem dep_ints : ∀ ns : List Int, depDs (ns.map .int) = 0
  | [] => rfl
  | n :: ns => by simp [depDs, depD, dep_ints ns]
theorem eqOk_ints (ns : List Int) : eqOk (.lst (ns.map .int)) (.lst (ns.map .int)) = true := by unfold eqOk; simp [plainD, depD, plain_ints, dep_ints]
theorem neQ_ints (ns : List Int) : fNeQ (.lst (ns.map .int)) (.lst (ns.map .int)) = some (.bl false) := by
  unfold fNeQ; rw [if_pos (eqOk_ints ns)]; unfold eqv; rw [eqv_refl]; rfl
theorem eqQ_ints (ns : List Int) : fEqQ (.lst (ns.map .int)) (.lst (ns.map .int)) = some (.bl true) := by
  unfold fEqQ; rw [if_pos (eqOk_ints ns)]; unfold eqv; rw [eqv_refl]
theorem v_whole (i : Int) : m__law_whole [.int i] = some (.bl true) := by
  have : ∃ β, b__law_whole (inP 1 1 [.int i]) = .ret (.dat (.bl true)) β := by unfold b__law_whole inP; simp
  obtain ⟨β, e⟩ := this
  exact runP_dat rfl e
theorem row_loop (ns : List Int) : ∀ (c9 i : Nat) (x : Option A), i + c9 = ns.length → ∃ y, loopF (gN 2) bl__law_is_row_1 ((List.range' i c9).map fun (k : Nat) => D.int (k : Int)) [some (.dat (.lst (ns.map .int))), some (.dat (.lst (ns.map .int))), x] = .nxt [some (.dat (.lst (ns.map .int))), some (.dat (.lst (ns.map .int))), y]
  | 0, i, x, _ => ⟨x, rfl⟩
  | c9 + 1, i, x, h => by
    obtain ⟨y, ih⟩ := row_loop ns c9 (i + 1) (some (.dat (.int i))) (by omega)
    refine ⟨y, ?_⟩
    have e1 : atI (ns.map D.int) (i : Int) = some (.int (ns.getD i 0)) := at_int rfl (by omega)
    have e : bl__law_is_row_1 [some (.dat (.lst (ns.map .int))), some (.dat (.lst (ns.map .int))), some (.dat (.int i))] = .nxt [some (.dat (.lst (ns.map .int))), some (.dat (.lst (ns.map .int))), some (.dat (.int i))] := by
      generalize ns.getD i 0 = v at e1
      unfold bl__law_is_row_1
      simp [e1, v_whole, neQ_int]
    rw [List.range'_succ, List.map_cons]
    unfold loopF
    simp [e, ih]
theorem rng_eq (m : Nat) : rngD 0 m = (List.range' 0 m).map fun (i : Nat) => D.int (i : Int) := by
  unfold rngD
  rw [List.range_eq_range']
  exact congrArg (fun f => List.map f (List.range' 0 m)) (funext fun i => by show D.int (0 + (i : Int)) = _; rw [Int.zero_add])
theorem v_is_row (ns : List Int) (h : ns.length ≤ 1000) : m__law_is_row [.lst (ns.map .int), .lst (ns.map .int)] = some (.bl true) := by
  obtain ⟨y, hl⟩ := row_loop ns ns.length 0 none (by omega)
  rw [← rng_eq] at hl
  have hr := rngOk_nat (n := ns.length) (by omega)
  have : ∃ β, b__law_is_row (inP 3 2 [.lst (ns.map .int), .lst (ns.map .int)]) = .ret (.dat (.bl true)) β := by
    unfold b__law_is_row inP
    simp [hr, hl]
  obtain ⟨β, e⟩ := this
  exact runP_dat rfl e
theorem v_cell (ns : List Int) (k : Int) (h0 : 0 ≤ k) : ∃ n, m__law_cell [.lst (ns.map .int), .int k] = some (.int n) := by
  by_cases h : k < (ns.length : Int)
  · obtain ⟨j, rfl⟩ : ∃ j : Nat, k = j := ⟨k.toNat, by omega⟩
    have e : atI (ns.map D.int) (j : Int) = some (.int (ns[j]'(by omega))) := by rw [atI_nat' (by simpa using h)]; simp
    have : ∃ β, b__law_cell (inP 2 2 [.lst (ns.map .int), .int j]) = .ret (.dat (.int (ns[j]'(by omega)))) β := by
      unfold b__law_cell inP
      simp [h, e]
    obtain ⟨β, e⟩ := this
    exact ⟨_, runP_dat rfl e⟩
  · have : ∃ β, b__law_cell (inP 2 2 [.lst (ns.map .int), .int k]) = .ret (.dat (.int 0)) β := by
      unfold b__law_cell inP
      simp [h]
    obtain ⟨β, e⟩ := this
    exact ⟨_, runP_dat rfl e⟩
end W_k22
end
section
set_option maxRecDepth 100000
set_option maxHeartbeats 2000000
namespace W_k22
open PySem L2 PyProof.Rows PySem.Spec Ab
theorem nat_small {x : Int} {n : Nat} (h0 : 0 ≤ x) (h1 : x ≤ 2 ^ n) (h : n < 4300) : x.natAbs < 2 ^ 4300 := by
  have h2 : (2 : Nat) ^ n < 2 ^ 4300 := Nat.pow_lt_pow_right (by decide) h
  have h3 : ((2 ^ n : Nat) : Int) = (2 : Int) ^ n := by simp
  generalize (2 : Nat) ^ 4300 = B at *
  omega
theorem nat_small' {x : Int} (n : Nat) (h0 : 0 ≤ x) (h1 : x ≤ 2 ^ 67) : Sn x n := by
  have h2 : (2 : Nat) ^ 67 < 2 ^ (22000 * (n + 1)) := Nat.pow_lt_pow_right (by decide) (by omega)
  have h3 : ((2 ^ 67 : Nat) : Int) = (2 : Int) ^ 67 := by simp
  unfold Sn
  generalize 2 ^ (22000 * (n + 1)) = B at *
  omega
theorem rings_told {a : Nat → Int} (a0 : a 0 = 0) (h0 : ∀ i, 0 ≤ a i ∧ a i < 100000000000000000000) {N : Nat} (hN64 : N ≤ 41) : m_ring_counts [.lst (df a N)] = some (df (ringV a) N) := by
  have pos : ∀ n, 0 ≤ a n := fun n => (h0 n).1
  have le67 : ∀ n, a n ≤ 2 ^ 67 := fun n => by
    have := (h0 n).2
    have : (2 : Int) ^ 67 = 147573952589676412928 := by decide
    omega
  obtain ⟨p, P⟩ := primes_of a0 pos
  have rle : ∀ n, n < 64 → (rowV a n).natAbs < 2 ^ 4300 := fun n hn => nat_small (row_pos pos n) (row_le pos le67 n) (by omega)
  have ple : ∀ n, n < 64 → ((p n : Nat) : Int).natAbs < 2 ^ 4300 := fun n hn => by
    have h1 := P.le n hn
    have h2 := rle n hn
    have h3 := row_pos pos n
    generalize (2 : Nat) ^ 4300 = B at *
    omega
  have sb : ∀ {x : Int} (n : Nat), x.natAbs < 2 ^ 4300 → Sn x n := fun n h => lt_pow h (by omega)
  have gle : ∀ n, n < 64 → Sn (ringV a n) n := fun n hn => by
    by_cases hz : n = 0
    · subst hz; exact Nat.two_pow_pos _
    · have h1 : (ringV a n).natAbs ≤ n * 2 ^ 4300 := by
        rw [P.ring n hn hz]
        refine sm_le fun i hi => ?_
        split
        · exact Nat.le_of_lt (ple _ (by omega))
        · exact Nat.zero_le _
      have h2 : n * 2 ^ 4300 < 2 ^ 6 * 2 ^ 4300 := Nat.mul_lt_mul_of_pos_right (by omega) (Nat.two_pow_pos _)
      rw [← Nat.pow_add] at h2
      exact lt_pow (Nat.lt_of_le_of_lt h1 h2) (by omega)
  have asb : ∀ n, Sn (a n) n := fun n => nat_small' n (h0 n).1 (le67 n)
  have okg : ∀ i, i < N → OkS .ring a i := fun i hi => ⟨by omega, fun x _ => asb x, fun x hx => gle x (by omega), fun _ x hx => sb x (rle x (by omega)), (fun h => nomatch h)⟩
  exact serM_df (k := .ring) (by omega) okg
theorem lsI_len (t d0 d1 d2 d3 : Nat) (ht : t < 6) : (lsI t d0 d1 d2 d3).length = t + 2 := by
  unfold lsI
  rw [List.length_take]
  simp
  omega
theorem lsI_pos (t d0 d1 d2 d3 : Nat) (h0 : d0 < 3) (h1 : d1 < 3) (h2 : d2 < 2) (h3 : d3 < 2) : ∀ i, 0 ≤ lsA t d0 d1 d2 d3 i ∧ lsA t d0 d1 d2 d3 i < 100000000000000000000 := fun i => by
  unfold lsA
  rw [List.getD_eq_getElem?_getD]
  cases hx : (lsI t d0 d1 d2 d3)[i]? with
  | none => simp
  | some x =>
    have m := List.mem_of_getElem? hx
    unfold lsI at m
    have m := List.mem_of_mem_take m
    simp only [List.mem_cons, List.not_mem_nil, or_false] at m
    simp only [Option.getD_some]
    omega
theorem lsI_df (t d0 d1 d2 d3 : Nat) (ht : t < 6) : (lsI t d0 d1 d2 d3).map D.int = df (lsA t d0 d1 d2 d3) (t + 2) := by
  rw [ints_df, lsI_len t d0 d1 d2 d3 ht]
  rfl
theorem asked (t d0 d1 d2 d3 n : Nat) (ht : t < 6) (h0 : d0 < 3) (h1 : d1 < 3) (h2 : d2 < 2) (h3 : d3 < 2) (hn : n < t + 1) :
    m__law_rings_of [.lst ((lsI t d0 d1 d2 d3).map .int), .int ((n + 1 : Nat) : Int)] = some (.int (ringV (lsA t d0 d1 d2 d3) (n + 1))) := by
  refine chkV_is (?_ : chkR t d0 d1 d2 d3 (n + 1) = true)
  by_cases h5 : t = 5
  · subst h5
    by_cases hn5 : n = 5
    · subst hn5; exact allU d0 h0 d1 h1 d2 h2 d3 h3
    · exact of_T (all5 d0 h0 d1 h1) h2 h3 (by omega)
  · exact of_T (allT t (by omega) d0 h0 d1 h1) h2 h3 hn
theorem mod_nat (c m : Int) (hm : 0 < m) : ∃ d : Nat, (d : Int) < m ∧ c % m = (d : Int) := by
  have h0 := Int.emod_nonneg c (show m ≠ 0 by omega)
  have h1 := Int.emod_lt_of_pos c hm
  exact ⟨(c % m).toNat, by omega, by omega⟩
theorem goal (ns : List Int) (hns : ns.length ≤ 63) : m_law [.lst (ns.map .int)] = some (.bl true) := by
  obtain ⟨c0, e0⟩ := v_cell ns 0 (by omega)
  obtain ⟨c1, e1⟩ := v_cell ns 1 (by omega)
  obtain ⟨c2, e2⟩ := v_cell ns 2 (by omega)
  obtain ⟨c3, e3⟩ := v_cell ns 3 (by omega)
  obtain ⟨c4, e4⟩ := v_cell ns 4 (by omega)
  obtain ⟨d0, h0, q0⟩ := mod_nat c0 3 (by decide)
  obtain ⟨d1, h1, q1⟩ := mod_nat c1 3 (by decide)
  obtain ⟨d2, h2, q2⟩ := mod_nat c2 2 (by decide)
  obtain ⟨d3, h3, q3⟩ := mod_nat c3 2 (by decide)
  obtain ⟨t, ht, qt⟩ := mod_nat c4 6 (by decide)
  have ht6 : t < 6 := by omega
  have hlen := lsI_len t d0 d1 d2 d3 ht6
  generalize hL : ns.map D.int = L at *
  have lp : loopF (gN 2) bl_law_1 (rngD 0 4) [some (.dat (.lst L)), some (.own (.lst [.int 0])), none, none, none, none, none] =
      .nxt [some (.dat (.lst L)), some (.own (.lst [.int 0, .int d0, .int d1, .int d2, .int d3])), some (.dat (.int 3)), none, none, none, none] := by
    rw [show rngD 0 4 = [.int 0, .int 1, .int 2, .int 3] from rfl]
    unfold bl_law_1
    have a3 : atI [D.int 3, D.int 3, D.int 2, D.int 2] 3 = some (.int 2) := rfl
    simp [loopF, a3, e0, e1, e2, e3, q0, q1, q2, q3, putC]
  have cut : Ab.cutD [D.int 0, .int d0, .int d1, .int d2, .int d3, .int 0, .int 0, .int 0] none (some (1 + (t : Int) + 1)) = (lsI t d0 d1 d2 d3).map .int := by
    rw [show (1 : Int) + (t : Int) + 1 = ((t + 2 : Nat) : Int) by omega, cutD_to]
    unfold lsI
    rw [List.map_take]
    rfl
  have tell := rings_told (a := lsA t d0 d1 d2 d3) (by
    unfold lsA lsI
    rw [show t + 2 = (t + 1) + 1 from rfl, List.take_succ_cons]
    rfl) (lsI_pos t d0 d1 d2 d3 (by omega) (by omega) (by omega) (by omega)) (N := t + 2) (by omega)
  rw [← lsI_df t d0 d1 d2 d3 ht6] at tell
  have ask := fun n hn => asked t d0 d1 d2 d3 n ht6 (by omega) (by omega) (by omega) (by omega) hn
  obtain ⟨V, hV⟩ : ∃ V : List Int, V = (List.range (t + 1)).map fun n => ringV (lsA t d0 d1 d2 d3) (n + 1) := ⟨_, rfl⟩
  have hdf : df (ringV (lsA t d0 d1 d2 d3)) (t + 2) = (0 :: V).map .int := by
    unfold df
    rw [List.range_succ_eq_map, List.map_cons, List.map_map, List.map_cons, hV, List.map_map]
    rfl
  rw [hdf] at tell
  have hVl : V.length = t + 1 := by rw [hV]; simp
  have go : ∀ x : Option A, lcF (gN 6) tbYes (xLend 1 (xCall m__law_rings_of (aCons (xVar 1) (aCons (xVar 6) aNil)))) ((List.range (t + 1)).map fun (k : Nat) => D.int (1 + (k : Int))) [some (.dat (.lst L)), some (.own (.lst ((lsI t d0 d1 d2 d3).map .int))), some (.dat (.int 3)), some (.dat (.int (1 + (t : Int)))), x, none, none] = some (V.map .int) := fun x => by
    rw [hV, List.map_map]
    refine lcF_list fun n m => ⟨[some (.dat (.lst L)), some (.own (.lst ((lsI t d0 d1 d2 d3).map .int))), some (.dat (.int 3)), some (.dat (.int (1 + (t : Int)))), x, none, some (.dat (.int (1 + (n : Int))))], rfl, ?_⟩
    have h := ask n (List.mem_range.mp m)
    rw [show ((n + 1 : Nat) : Int) = 1 + (n : Int) by omega] at h
    simp [lendD, h, flat]
  have rg : rngD 1 (t + 1) = (List.range (t + 1)).map fun (k : Nat) => D.int (1 + (k : Int)) := rfl
  have isr := v_is_row (0 :: V) (by simp; omega)
  have eqq := eqQ_ints (lsI t d0 d1 d2 d3)
  have fin : (∃ β, b_law (inP 7 1 [.lst L]) = .ret (.dat (.bl true)) β) → m_law [.lst L] = some (.bl true) := fun ⟨β, e⟩ => runP_dat rfl e
  apply fin
  unfold b_law inP
  have r1 : rngOk (1 + (t : Int) + 1) = true := by unfold rngOk; rw [decide_eq_true_eq]; omega
  have r2 : (1 + (t : Int) + 1 - 1).toNat = t + 1 := by omega
  have r3 : (t : Int) + 1 = 1 + (t : Int) := by omega
  have z1 : t + 1 ≤ 100000 := by omega
  have z2 : V.length ≤ 99999 := by omega
  have r4 : rngOk 4 = true := by decide
  have fb : flat (D.bl true) = true := rfl
  have rgz : rngD 1 (1 + (t : Int)).toNat = (List.range (t + 1)).map fun (k : Nat) => D.int (1 + (k : Int)) := by rw [show (1 + (t : Int)).toNat = t + 1 by omega]; rfl
  have z3 : 1 + (t + 1) ≤ 100000 := by omega
  have z4 : t ≤ 99999 := by omega
  simp only [List.map_cons] at tell isr
  simp [r4, fb, rgz, z3, z4, lp, e4, qt, cut, r1, r2, rg, go, tell, isr, lendD, eqq, z1, z2, hVl, putC]
end W_k22
end
open PySem PySem.W PyProof.Rows
set_option maxRecDepth 100000 in
set_option maxHeartbeats 0 in
theorem PySem.Challenge.cw_figurebook_k22_rings_gone_through_holds : PySem.Challenge.rw_figurebook_k22_rings_gone_through.Holds := by
  w_on; o_law; k_head; (case hw => w_witness2)
  k_fill
  refine L2.walk_of (l := PySem.Challenge.rw_figurebook_k22_rings_gone_through) (n := 63) (k := 9) (x := "_law_script") (CX := fun _ => L2.CX0) (sp := fun w => Ab.spLaw _) rfl (by decide) rfl ⟨rfl, by decide, by decide⟩ (fun w h Y => PySem.W.kIn_of Y) ?F (fun _ _ a ns hl _ hS => ⟨a, ns, rfl, hS, hl, fun _ => rfl⟩) (fun _ _ _ _ _ h => h)
  case F =>
    intro w mg fa h KX G hmg
    refine' W_k22.all_mk KX G hmg ?a_divisors ?a_shared ?a_sharing_none ?a_grown_ring ?a_ring_counts ?a__law_whole ?a__law_is_row ?a__law_cell ?a__law_rows_of ?a__law_rings_of ?a_law ?qa_RingSeries ?qa_RowSeries ?qa_Series ?ma_RingSeries_grow ?ma_RingSeries_newest ?ma_RowSeries_grow ?ma_RowSeries_newest ?ia_RingSeries ?ia_RowSeries ?xrd_Series ?xga_Series ?fv_Series_Series_init0_ring ?l_divisors ?c_divisors ?k_divisors ?l_shared ?c_shared ?k_shared ?l_sharing_none ?c_sharing_none ?k_sharing_none ?l_Series_init0_ring ?c_Series_init0_ring ?k_Series_init0_ring ?i_Series_init0_ring ?l_Series_init_row ?c_Series_init_row ?k_Series_init_row ?i_Series_init_row ?l_RingSeries_init ?c_RingSeries_init ?k_RingSeries_init ?i_RingSeries_init ?l_RowSeries_new_h ?c_RowSeries_new_h ?k_RowSeries_new_h ?i_RowSeries_new_h ?l_Series_grow_row ?c_Series_grow_row ?k_Series_grow_row ?i_Series_grow_row ?l_RingSeries_new_h ?c_RingSeries_new_h ?k_RingSeries_new_h ?i_RingSeries_new_h ?l_Series_grow_ring ?c_Series_grow_ring ?k_Series_grow_ring ?i_Series_grow_ring ?l_grown_ring ?c_grown_ring ?k_grown_ring ?l_ring_counts ?c_ring_counts ?k_ring_counts ?l__law_whole ?c__law_whole ?k__law_whole ?l__law_is_row ?c__law_is_row ?k__law_is_row ?l__law_cell ?c__law_cell ?k__law_cell ?l__law_rows_of ?c__law_rows_of ?k__law_rows_of ?l__law_rings_of ?c__law_rings_of ?k__law_rings_of ?l_law ?c_law ?k_law ?mk_RingSeries ?kk_RingSeries ?mk_RowSeries ?kk_RowSeries ?pg_RingSeries ?hd_RingSeries ?po_RingSeries ?sa_RingSeries ?kn_RingSeries_gone ?kn_RingSeries_made ?pg_RowSeries ?hd_RowSeries ?po_RowSeries ?sa_RowSeries ?kn_RowSeries_gone ?kn_RowSeries_made ?kn_RingSeries_lines ?kn_RingSeries_marked ?zz_bool ?zz_int ?zz_isinstance ?zz_len ?zz_list ?zz_min ?zz_range ?zz_sum W_k22.goal
    (case a_divisors => k_is); (case a_shared => k_is); (case a_sharing_none => k_is); (case a_grown_ring => k_is); (case a_ring_counts => k_is); (case a__law_whole => k_is)
    (case a__law_is_row => k_is); (case a__law_cell => k_is); (case a__law_rows_of => k_is); (case a__law_rings_of => k_is); (case a_law => k_is); (case qa_RingSeries => k_is)
    (case qa_RowSeries => k_is); (case qa_Series => k_is); (case ma_RingSeries_grow => k_is); (case ma_RingSeries_newest => k_is); (case ma_RowSeries_grow => k_is); (case ma_RowSeries_newest => k_is)
    (case ia_RingSeries => k_is); (case ia_RowSeries => k_is); (case xrd_Series => k_is); (case xga_Series => k_is); (case fv_Series_Series_init0_ring => k_is); (case l_divisors => k_is)
    (case c_divisors => k_is); (case k_divisors => k_is); (case l_shared => k_is); (case c_shared => k_is); (case k_shared => k_is); (case l_sharing_none => k_is)
    (case c_sharing_none => k_is); (case k_sharing_none => k_is); (case l_Series_init0_ring => k_is); (case c_Series_init0_ring => k_is); (case k_Series_init0_ring => k_is); (case i_Series_init0_ring => k_is)
    (case l_Series_init_row => k_is); (case c_Series_init_row => k_is); (case k_Series_init_row => k_is); (case i_Series_init_row => k_is); (case l_RingSeries_init => k_is); (case c_RingSeries_init => k_is)
    (case k_RingSeries_init => k_is); (case i_RingSeries_init => k_is); (case l_RowSeries_new_h => k_is); (case c_RowSeries_new_h => k_is); (case k_RowSeries_new_h => k_is); (case i_RowSeries_new_h => k_is)
    (case l_Series_grow_row => k_is); (case c_Series_grow_row => k_is); (case k_Series_grow_row => k_is); (case i_Series_grow_row => k_is); (case l_RingSeries_new_h => k_is); (case c_RingSeries_new_h => k_is)
    (case k_RingSeries_new_h => k_is); (case i_RingSeries_new_h => k_is); (case l_Series_grow_ring => k_is); (case c_Series_grow_ring => k_is); (case k_Series_grow_ring => k_is); (case i_Series_grow_ring => k_is)
    (case l_grown_ring => k_is); (case c_grown_ring => k_is); (case k_grown_ring => k_is); (case l_ring_counts => k_is); (case c_ring_counts => k_is); (case k_ring_counts => k_is)
    (case l__law_whole => k_is); (case c__law_whole => k_is); (case k__law_whole => k_is); (case l__law_is_row => k_is); (case c__law_is_row => k_is); (case k__law_is_row => k_is)
    (case l__law_cell => k_is); (case c__law_cell => k_is); (case k__law_cell => k_is); (case l__law_rows_of => k_is); (case c__law_rows_of => k_is); (case k__law_rows_of => k_is)
    (case l__law_rings_of => k_is); (case c__law_rings_of => k_is); (case k__law_rings_of => k_is); (case l_law => k_is); (case c_law => k_is); (case k_law => k_is)
    (case mk_RingSeries => k_is); (case kk_RingSeries => k_is); (case mk_RowSeries => k_is); (case kk_RowSeries => k_is); (case pg_RingSeries => k_is); (case hd_RingSeries => k_is)
    (case po_RingSeries => k_is); (case sa_RingSeries => k_is); (case kn_RingSeries_gone => k_is); (case kn_RingSeries_made => k_is); (case pg_RowSeries => k_is); (case hd_RowSeries => k_is)
    (case po_RowSeries => k_is); (case sa_RowSeries => k_is); (case kn_RowSeries_gone => k_is); (case kn_RowSeries_made => k_is); (case kn_RingSeries_lines => k_is); (case kn_RingSeries_marked => k_is)
    (case zz_bool => k_is); (case zz_int => k_is); (case zz_isinstance => k_is); (case zz_len => k_is); (case zz_list => k_is); (case zz_min => k_is)
    (case zz_range => k_is); (case zz_sum => k_is)
#print axioms PySem.Challenge.cw_figurebook_k22_rings_gone_through_holds
