import PyProof.Rows.All
import Wide.All
import OpenK.AllK
import Wide.FinOn
import HandS.ForExc
import HandS.Comp
import HandS.Iter
import HandS.Gcd
import HandS.Wide
import HandS.IsInst
import HandS.Style
import HandS.TupMul
import HandS.TupAny
import HandS.AnyAll
import HandS.EndTab
import HandS.Codes
import PyProof.ListMulRoad
import PyProof.FactsAll.tuple_2
import PySem.Challenge.RW_actuarium_k37_whole_sums_of_failures
set_option linter.all false
set_option maxRecDepth 100000
set_option Elab.async false
namespace K37
/-! ### plain law: sequences of rationals -/
def conv : (Nat → Rat) → (Nat → Rat) → Nat → Rat
  | u, v, 0 => u 0 * v 0
  | u, v, n + 1 => u 0 * v (n + 1) + conv (fun i => u (i + 1)) v n
/-- n times the n-th -/
def dd (u : Nat → Rat) : Nat → Rat := fun n => (n : Rat) * u n
theorem conv_zero (u v : Nat → Rat) : conv u v 0 = u 0 * v 0 := by rw [conv]
theorem conv_succ (u v : Nat → Rat) (n : Nat) : conv u v (n + 1) = u 0 * v (n + 1) + conv (fun i => u (i + 1)) v n := by rw [conv]
theorem conv_add_left (u u' v : Nat → Rat) (n : Nat) : conv (fun i => u i + u' i) v n = conv u v n + conv u' v n := by
  induction n generalizing u u' with
  | zero => simp only [conv_zero]; grind
  | succ n ih => simp only [conv_succ]; rw [ih (fun i => u (i + 1)) (fun i => u' (i + 1))]; grind
theorem conv_smul_left (c : Rat) (u v : Nat → Rat) (n : Nat) : conv (fun i => c * u i) v n = c * conv u v n := by
  induction n generalizing u with
  | zero => simp only [conv_zero]; grind
  | succ n ih => simp only [conv_succ]; rw [ih (fun i => u (i + 1))]; grind
theorem conv_add_right (u v v' : Nat → Rat) (n : Nat) : conv u (fun i => v i + v' i) n = conv u v n + conv u v' n := by
  induction n generalizing u with
  | zero => simp only [conv_zero]; grind
  | succ n ih => simp only [conv_succ]; rw [ih (fun i => u (i + 1))]; grind
theorem conv_smul_right (c : Rat) (u v : Nat → Rat) (n : Nat) : conv u (fun i => c * v i) n = c * conv u v n := by
  induction n generalizing u with
  | zero => simp only [conv_zero]; grind
  | succ n ih => simp only [conv_succ]; rw [ih (fun i => u (i + 1))]; grind
theorem conv_succ_right (u v : Nat → Rat) (n : Nat) : conv u v (n + 1) = conv u (fun i => v (i + 1)) n + u (n + 1) * v 0 := by
  induction n generalizing u with
  | zero => simp only [conv_succ, conv_zero]
  | succ n ih =>
    rw [conv_succ u v (n + 1), ih (fun i => u (i + 1)), conv_succ u (fun i => v (i + 1)) n]
    grind
theorem conv_comm (u v : Nat → Rat) (n : Nat) : conv u v n = conv v u n := by
  induction n generalizing u v with
  | zero => simp only [conv_zero]; grind
  | succ n ih => rw [conv_succ, conv_succ_right v u, ih (fun i => u (i + 1)) v]; grind
theorem conv_assoc (u v w : Nat → Rat) (n : Nat) : conv (conv u v) w n = conv u (conv v w) n := by
  induction n generalizing u v w with
  | zero => simp only [conv_zero]; grind
  | succ n ih =>
    rw [conv_succ, conv_succ u, conv_zero, conv_succ v w]
    have e : (fun i => conv u v (i + 1)) = fun i => u 0 * v (i + 1) + conv (fun i => u (i + 1)) v i := by
      funext i; rw [conv_succ]
    rw [e, conv_add_left, ih (fun i => u (i + 1)) v w, conv_smul_left]
    grind
theorem conv_dd (u v : Nat → Rat) (n : Nat) : dd (conv u v) n = conv (dd u) v n + conv u (dd v) n := by
  induction n generalizing u with
  | zero => simp only [dd, conv_zero]; grind
  | succ n ih =>
    have h := ih (fun i => u (i + 1))
    have e : conv (dd u) v (n + 1) = conv (dd fun i => u (i + 1)) v n + conv (fun i => u (i + 1)) v n := by
      rw [conv_succ, ← conv_add_left]
      have e2 : (fun i => dd u (i + 1)) = fun i => (dd fun i => u (i + 1)) i + u (i + 1) := by
        funext i
        simp only [dd]
        rw [show (((i + 1 : Nat)) : Rat) = (i : Rat) + 1 by simp]; grind
      rw [e2]
      simp only [dd]
      grind
    rw [e, conv_succ u]
    simp only [dd] at h ⊢
    rw [conv_succ]
    rw [show (((n + 1 : Nat)) : Rat) = (n : Rat) + 1 by simp]
    grind
theorem conv_zero_right (u v : Nat → Rat) (n : Nat) (h : ∀ i, i ≤ n → v i = 0) : conv u v n = 0 := by
  induction n generalizing u with
  | zero => rw [conv_zero, h 0 (Nat.le_refl 0)]; grind
  | succ n ih => rw [conv_succ, h (n + 1) (Nat.le_refl _), ih _ fun i hi => h i (by omega)]; grind
theorem conv_last (u v : Nat → Rat) (n : Nat) (h : ∀ i, i < n → v i = 0) : conv u v n = u 0 * v n := by
  cases n with
  | zero => rw [conv_zero]
  | succ n => rw [conv_succ, conv_zero_right _ _ _ fun i hi => h i (by omega)]; grind
/-- f solves A f' + M A' f = 0 -/
def IsSol (M : Rat) (A f : Nat → Rat) : Prop := ∀ n, conv A (dd f) n + M * conv (dd A) f n = 0
/-- .. up to N -/
def IsSolN (N : Nat) (M : Rat) (A f : Nat → Rat) : Prop := ∀ n, n ≤ N → conv A (dd f) n + M * conv (dd A) f n = 0
theorem sol_unique {M : Rat} {A f g : Nat → Rat} (h0 : A 0 ≠ 0) (hf : IsSol M A f) (hg : IsSol M A g) (e : f 0 = g 0) : ∀ n, f n = g n := by
  have key : ∀ n, ∀ i, i ≤ n → f i = g i := by
    intro n
    induction n with
    | zero => intro i hi; have : i = 0 := by omega
              rw [this]; exact e
    | succ n ih =>
      intro i hi
      by_cases hi' : i ≤ n
      · exact ih i hi'
      · have ei : i = n + 1 := by omega
        subst ei
        have h1 := hf (n + 1)
        have h2 := hg (n + 1)
        have z : ∀ j, j < n + 1 → f j + (-1) * g j = 0 := fun j hj => by rw [ih j (by omega)]; grind
        have a1 : conv A (fun j => dd f j + (-1) * dd g j) (n + 1) = A 0 * (dd f (n + 1) + (-1) * dd g (n + 1)) :=
          conv_last A _ _ fun j hj => by
            have := z j hj
            simp only [dd]; grind
        have a2 : conv (dd A) (fun j => f j + (-1) * g j) (n + 1) = dd A 0 * (f (n + 1) + (-1) * g (n + 1)) := conv_last _ _ _ z
        rw [conv_add_right, conv_smul_right] at a1 a2
        simp only [dd] at a1 a2 h1 h2
        have hn : (((n + 1 : Nat)) : Rat) ≠ 0 := by
          intro q
          have := (Rat.natCast_eq_zero_iff).mp q
          omega
        have b : A 0 * ((((n + 1 : Nat)) : Rat) * (f (n + 1) - g (n + 1))) = 0 := by
          simp at a2
          grind
        grind
  exact fun n => key n n (Nat.le_refl n)
/-- if g solves it with M + 1, then A g solves it with M -/
theorem sol_conv {M : Rat} {A g : Nat → Rat} (hg : IsSol (M + 1) A g) : IsSol M A (conv A g) := by
  intro n
  have e1 : dd (conv A g) = fun i => conv (dd A) g i + conv A (dd g) i := by funext i; exact conv_dd A g i
  have e2 : (fun i => conv A (dd g) i + (M + 1) * conv (dd A) g i) = fun _ => 0 := by funext i; exact hg i
  have e3 : conv A (fun i => conv A (dd g) i + (M + 1) * conv (dd A) g i) n = 0 := by rw [e2]; exact conv_zero_right _ _ _ fun _ _ => rfl
  rw [conv_add_right, conv_smul_right] at e3
  rw [e1, conv_add_right]
  have e4 : conv (dd A) (conv A g) n = conv A (conv (dd A) g) n := by
    rw [← conv_assoc, ← conv_assoc]
    have : conv (dd A) A = conv A (dd A) := by funext i; exact conv_comm _ _ i
    rw [this]
  rw [e4]
  grind
theorem sol_smul {M c : Rat} {A f : Nat → Rat} (h : IsSol M A f) : IsSol M A (fun i => c * f i) := by
  intro n
  have e : dd (fun i => c * f i) = fun i => c * dd f i := by funext i; simp only [dd]; grind
  rw [e, conv_smul_right, conv_smul_right]
  have := h n
  grind
/-- A g = p f -/
theorem conv_law {M p : Rat} {A f g : Nat → Rat} (h0 : A 0 ≠ 0) (hf : IsSol M A f) (hg : IsSol (M + 1) A g) (e : A 0 * g 0 = p * f 0) (n : Nat) : conv A g n = p * f n :=
  sol_unique h0 (sol_conv hg) (sol_smul (c := p) hf) (by rw [conv_zero]; exact e) n

/-! ### the recursion -/
def sumTo (t : Nat → Rat) : Nat → Rat
  | 0 => 0
  | j + 1 => sumTo t j + t (j + 1)
/-- the inner sum of the recursion at n, its first j terms -/
def here (c g : Nat → Rat) (a b : Rat) (n : Nat) : Nat → Rat
  | 0 => 0
  | j + 1 => here c g a b n j + ((a + b * (((j + 1 : Nat) : Rat) / (n : Rat))) * c (j + 1)) * g (n - (j + 1))
def IsRec (c : Nat → Rat) (L : Nat) (a b : Rat) (g : Nat → Rat) : Prop := ∀ n, 1 ≤ n → g n = (1 / (1 - a * c 0)) * here c g a b n (min n (L - 1))
/-- what the law sums -/
def due (p q : Rat) (c f g : Nat → Rat) (n : Nat) : Nat → Rat
  | 0 => p * f n
  | j + 1 => due p q c f g n j + (q * c j) * g (n - j)
theorem here_congr {c g g' : Nat → Rat} {a b : Rat} {n : Nat} (hn : 1 ≤ n) (h : ∀ i, i < n → g i = g' i) (j : Nat) : here c g a b n j = here c g' a b n j := by
  induction j with
  | zero => rfl
  | succ j ih => rw [here, here, ih, h (n - (j + 1)) (by omega)]
def tab (c : Nat → Rat) (L : Nat) (a b f : Rat) : Nat → List Rat
  | 0 => [f]
  | n + 1 => tab c L a b f n ++ [(1 / (1 - a * c 0)) * here c (fun i => (tab c L a b f n).getD i 0) a b (n + 1) (min (n + 1) (L - 1))]
def gen (c : Nat → Rat) (L : Nat) (a b f : Rat) (n : Nat) : Rat := (tab c L a b f n).getD n 0
theorem tab_length (c : Nat → Rat) (L : Nat) (a b f : Rat) (n : Nat) : (tab c L a b f n).length = n + 1 := by
  induction n with
  | zero => rfl
  | succ n ih => rw [tab, List.length_append, ih]; rfl
theorem tab_get (c : Nat → Rat) (L : Nat) (a b f : Rat) (n i : Nat) (h : i ≤ n) : (tab c L a b f n).getD i 0 = gen c L a b f i := by
  induction n with
  | zero => have : i = 0 := by omega
            rw [this]; rfl
  | succ n ih =>
    by_cases hi : i ≤ n
    · rw [← ih hi, tab]
      have hl := tab_length c L a b f n
      simp only [List.getD_eq_getElem?_getD]
      rw [List.getElem?_append_left (by omega)]
    · have : i = n + 1 := by omega
      rw [this]; rfl
theorem gen_rec (c : Nat → Rat) (L : Nat) (a b f : Rat) : IsRec c L a b (gen c L a b f) := by
  intro n hn
  obtain ⟨m, rfl⟩ : ∃ m, n = m + 1 := ⟨n - 1, by omega⟩
  have hl := tab_length c L a b f m
  have e : gen c L a b f (m + 1) = (1 / (1 - a * c 0)) * here c (fun i => (tab c L a b f m).getD i 0) a b (m + 1) (min (m + 1) (L - 1)) := by
    unfold gen
    rw [tab, List.getD_eq_getElem?_getD, List.getElem?_append_right (by omega), hl]
    simp
  rw [e, here_congr hn (g' := gen c L a b f) fun i hi => tab_get c L a b f m i (by omega)]
theorem gen_zero (c : Nat → Rat) (L : Nat) (a b f : Rat) : gen c L a b f 0 = f := rfl
theorem sumTo_congr {t t' : Nat → Rat} {j : Nat} (h : ∀ k, 1 ≤ k → k ≤ j → t k = t' k) : sumTo t j = sumTo t' j := by
  induction j with
  | zero => rfl
  | succ j ih => rw [sumTo, sumTo, ih fun k h1 h2 => h k h1 (by omega), h (j + 1) (by omega) (by omega)]
theorem sumTo_add (t t' : Nat → Rat) (j : Nat) : sumTo (fun k => t k + t' k) j = sumTo t j + sumTo t' j := by
  induction j with
  | zero => simp only [sumTo]; grind
  | succ j ih => simp only [sumTo]; rw [ih]; grind
theorem sumTo_smul (c : Rat) (t : Nat → Rat) (j : Nat) : sumTo (fun k => c * t k) j = c * sumTo t j := by
  induction j with
  | zero => simp only [sumTo]; grind
  | succ j ih => simp only [sumTo]; rw [ih]; grind
theorem sumTo_shift (t : Nat → Rat) (j : Nat) : sumTo t (j + 1) = t 1 + sumTo (fun k => t (k + 1)) j := by
  induction j with
  | zero => simp only [sumTo]; grind
  | succ j ih => rw [sumTo, ih, sumTo]; grind
theorem sumTo_cut {t : Nat → Rat} {n m : Nat} (h : ∀ k, m < k → t k = 0) : sumTo t (min n m) = sumTo t n := by
  by_cases hn : n ≤ m
  · rw [Nat.min_eq_left hn]
  · have hm : m ≤ n := by omega
    rw [Nat.min_eq_right hm]
    obtain ⟨d, rfl⟩ : ∃ d, n = m + d := ⟨n - m, by omega⟩
    clear hn hm
    induction d with
    | zero => rfl
    | succ d ih => rw [← Nat.add_assoc, sumTo, ← ih, h (m + d + 1) (by omega)]; grind
theorem conv_sum (u v : Nat → Rat) (n : Nat) : conv u v n = u 0 * v n + sumTo (fun k => u k * v (n - k)) n := by
  induction n generalizing u with
  | zero => rw [conv_zero, sumTo]; grind
  | succ n ih =>
    rw [conv_succ, ih, sumTo_shift]
    have e : sumTo (fun k => u (k + 1) * v (n + 1 - (k + 1))) n = sumTo (fun k => u (k + 1) * v (n - k)) n := sumTo_congr fun k _ _ => by
      rw [Nat.add_sub_add_right]
    rw [e]
    show u 0 * v (n + 1) + (u (0 + 1) * v n + _) = u 0 * v (n + 1) + (u 1 * v (n + 1 - 1) + _)
    rw [Nat.add_sub_cancel]
theorem here_sum (c g : Nat → Rat) (a b : Rat) (n j : Nat) : here c g a b n j = sumTo (fun k => ((a + b * ((k : Rat) / (n : Rat))) * c k) * g (n - k)) j := by
  induction j with
  | zero => rfl
  | succ j ih => rw [here, sumTo, ih]
theorem due_sum (p q : Rat) (c f g : Nat → Rat) (n j : Nat) : due p q c f g n (j + 1) = p * f n + (q * c 0) * g n + sumTo (fun k => (q * c k) * g (n - k)) j := by
  induction j with
  | zero => rw [due, due, sumTo]; simp only [Nat.sub_zero]; grind
  | succ j ih => rw [due, ih, sumTo]; grind
theorem cast_sub {n k : Nat} (h : k ≤ n) : ((n - k : Nat) : Rat) = (n : Rat) - (k : Rat) := by
  have e : n = (n - k) + k := by omega
  have e2 : (n : Rat) = ((n - k : Nat) : Rat) + (k : Rat) := by
    conv => lhs; rw [e]
    simp
  grind
/-- 1 - q C -/
def sA (c : Nat → Rat) (q : Rat) : Nat → Rat := fun k => if k = 0 then 1 - q * c 0 else - (q * c k)
theorem rec_sol {c g : Nat → Rat} {L : Nat} {q M : Rat} (hL : 1 ≤ L) (hc : ∀ k, L ≤ k → c k = 0) (h0 : 1 - q * c 0 ≠ 0) (hg : IsRec c L q (M * q) g) : IsSol (M + 1) (sA c q) g := by
  intro n
  by_cases hn : n = 0
  · subst hn
    rw [conv_zero, conv_zero]
    simp only [dd]
    grind
  · have hr := hg n (by omega)
    rw [here_sum, sumTo_cut (fun k hk => by rw [hc k (by omega)]; grind)] at hr
    rw [conv_sum, conv_sum]
    have n0 : (n : Rat) ≠ 0 := fun z => hn (Rat.natCast_eq_zero_iff.mp z)
    have e1 : sumTo (fun k => sA c q k * dd g (n - k)) n = sumTo (fun k => (- q) * ((((n : Rat) - (k : Rat)) * c k) * g (n - k))) n := sumTo_congr fun k h1 h2 => by
      have : k ≠ 0 := by omega
      simp only [sA, dd, if_neg this, cast_sub h2]
      grind
    have e2 : sumTo (fun k => dd (sA c q) k * g (n - k)) n = sumTo (fun k => (- q) * (((k : Rat) * c k) * g (n - k))) n := sumTo_congr fun k h1 h2 => by
      have : k ≠ 0 := by omega
      simp only [sA, dd, if_neg this]
      grind
    have e3 : (n : Rat) * sumTo (fun k => ((q + M * q * ((k : Rat) / (n : Rat))) * c k) * g (n - k)) n = q * (sumTo (fun k => (((n : Rat) - (k : Rat)) * c k) * g (n - k)) n + (M + 1) * sumTo (fun k => ((k : Rat) * c k) * g (n - k)) n) := by
      rw [← sumTo_smul, ← sumTo_smul, ← sumTo_add, ← sumTo_smul]
      refine sumTo_congr fun k h1 h2 => ?_
      have : (n : Rat) * ((k : Rat) / (n : Rat)) = (k : Rat) := by grind
      generalize (k : Rat) / (n : Rat) = r at *
      grind
    rw [e1, e2, sumTo_smul, sumTo_smul]
    generalize sumTo (fun k => (((n : Rat) - (k : Rat)) * c k) * g (n - k)) n = S1 at *
    generalize sumTo (fun k => ((k : Rat) * c k) * g (n - k)) n = S2 at *
    generalize sumTo (fun k => ((q + M * q * ((k : Rat) / (n : Rat))) * c k) * g (n - k)) n = S at *
    simp only [sA, dd, if_pos]
    have hA : (1 - q * c 0) * g n = S := by rw [hr]; grind
    have z : ((0 : Nat) : Rat) = 0 := rfl
    rw [z]
    grind
/-- one success: nothing behind 0 -/
def unit : Nat → Rat := fun n => if n = 0 then 1 else 0
theorem unit_sol (A : Nat → Rat) : IsSol 0 A unit := by
  intro n
  have e : ∀ i, i ≤ n → dd unit i = 0 := fun i _ => by
    simp only [dd, unit]
    split
    · rename_i h; subst h; simp
    · grind
  rw [conv_zero_right _ _ _ e]
  grind
/-- the law: the chances solve the equation of one more failure or success -/
theorem law_holds {c f g : Nat → Rat} {L m : Nat} {p q : Rat} (hL : 1 ≤ L) (hc : ∀ k, L ≤ k → c k = 0) (h0 : 1 - q * c 0 ≠ 0) (hm : 1 ≤ m)
    (hg : IsRec c L q (((m - 1 : Nat) : Rat) * q) g) (g0 : g 0 = (p / (1 - q * c 0)) ^ m)
    (hf : (m = 1 ∧ f = unit) ∨ (2 ≤ m ∧ IsRec c L q (((m - 1 - 1 : Nat) : Rat) * q) f ∧ f 0 = (p / (1 - q * c 0)) ^ (m - 1))) (n : Nat) :
    due p q c f g n (min n (L - 1) + 1) = g n := by
  have sg : IsSol ((((m - 1 : Nat) : Rat)) + 1) (sA c q) g := rec_sol hL hc h0 hg
  have sf : IsSol ((m - 1 : Nat) : Rat) (sA c q) f := by
    rcases hf with ⟨e1, e2⟩ | ⟨h2, hr, _⟩
    · subst e1 e2
      exact unit_sol _
    · have := rec_sol hL hc h0 hr
      have e : (((m - 1 - 1 : Nat) : Rat)) + 1 = ((m - 1 : Nat) : Rat) := by
        have : m - 1 = (m - 1 - 1) + 1 := by omega
        conv => rhs; rw [this]
        simp
      rw [e] at this
      exact this
  have f0 : f 0 = (p / (1 - q * c 0)) ^ (m - 1) := by
    rcases hf with ⟨e1, e2⟩ | ⟨_, _, h⟩
    · subst e1 e2
      simp [unit]
    · exact h
  have A0 : sA c q 0 = 1 - q * c 0 := by simp [sA]
  have e0 : sA c q 0 * g 0 = p * f 0 := by
    rw [A0, g0, f0]
    obtain ⟨d, rfl⟩ : ∃ d, m = d + 1 := ⟨m - 1, by omega⟩
    rw [Nat.add_sub_cancel, Rat.pow_succ]
    generalize (p / (1 - q * c 0)) ^ d = P
    grind
  have key := conv_law (by rw [A0]; exact h0) sf sg e0 n
  rw [conv_sum] at key
  rw [due_sum, sumTo_cut (fun k hk => by rw [hc k (by omega)]; grind)]
  have e4 : sumTo (fun k => sA c q k * g (n - k)) n = (-1) * sumTo (fun k => (q * c k) * g (n - k)) n := by
    rw [← sumTo_smul]
    refine sumTo_congr fun k h1 h2 => ?_
    have : k ≠ 0 := by omega
    simp only [sA, if_neg this]
    grind
  rw [e4, A0] at key
  grind
end K37
namespace K37
open PySem PySem.Spec PyProof.Rows L2
/-! ### the text -/
def topS (i : Nat) : Stmt := PySem.Challenge.pw_actuarium_k37_whole_sums_of_failures.main.body.getD i (.Pass ⟨0, 0, 0, 0⟩)
abbrev sRatio : Stmt := topS 7
abbrev sPlus : Stmt := topS 8
abbrev sMinus : Stmt := topS 9
abbrev sBy : Stmt := topS 10
abbrev sOver : Stmt := topS 11
theorem scRatio : FnScope ["top", "bottom", "common"] ["top", "bottom"] (defScope sRatio) := ⟨rfl, rfl, rfl, by decide +kernel, rfl, by decide +kernel, by decide +kernel⟩
theorem scPlus : FnScope ["one", "other"] ["one", "other"] (defScope sPlus) := ⟨rfl, rfl, rfl, by decide +kernel, rfl, by decide +kernel, by decide +kernel⟩
theorem scMinus : FnScope ["one", "other"] ["one", "other"] (defScope sMinus) := ⟨rfl, rfl, rfl, by decide +kernel, rfl, by decide +kernel, by decide +kernel⟩
theorem scBy : FnScope ["one", "other"] ["one", "other"] (defScope sBy) := ⟨rfl, rfl, rfl, by decide +kernel, rfl, by decide +kernel, by decide +kernel⟩
theorem scOver : FnScope ["one", "other"] ["one", "other"] (defScope sOver) := ⟨rfl, rfl, rfl, by decide +kernel, rfl, by decide +kernel, by decide +kernel⟩
/-! ### ratios -/
def rt (x : Rat) : List V := [.int x.num, .int (x.den : Int)]
def At (H : Hp) (p : Addr) (x : Rat) : Prop := H p = some (.tup (rt x))
def SZ : Nat := 3000
def BZ : Nat := 6000
/-- of a bounded size -/
def Sz (x : Rat) : Prop := x.num.natAbs < 2 ^ SZ ∧ x.den < 2 ^ SZ
theorem rt_div {a b : Int} (h : 0 < b) : rt (Rat.divInt a b) = [.int (a / ((Nat.gcd a.natAbs b.natAbs : Nat) : Int)), .int (b / ((Nat.gcd a.natAbs b.natAbs : Nat) : Int))] := by
  have e : Int.gcd b a = Nat.gcd a.natAbs b.natAbs := by rw [Int.gcd_comm]; rfl
  have hs : b.sign = 1 := Int.sign_eq_one_of_pos h
  unfold rt
  rw [Rat.num_divInt, Rat.den_divInt, if_neg (show ¬ b = 0 by omega), hs, e, Int.one_mul]
  have hb : (b.natAbs : Int) = b := by omega
  have : (((b.natAbs / Nat.gcd a.natAbs b.natAbs : Nat)) : Int) = b / ((Nat.gcd a.natAbs b.natAbs : Nat) : Int) := by
    rw [Int.natCast_ediv, hb]
  rw [this]
theorem gcd_pos {a b : Int} (h : 0 < b) : (0 : Int) < ((Nat.gcd a.natAbs b.natAbs : Nat) : Int) := by
  have : 0 < Nat.gcd a.natAbs b.natAbs := Nat.gcd_pos_of_pos_right _ (by omega)
  omega
theorem gcd_lt {a b : Int} {n : Nat} (h : 0 < b) (hb : b.natAbs < n) : (((Nat.gcd a.natAbs b.natAbs : Nat) : Int)).natAbs < n := by
  have h1 : Nat.gcd a.natAbs b.natAbs ≤ b.natAbs := Nat.gcd_le_right _ (by omega)
  rw [Int.natAbs_natCast]
  omega
theorem den_pos (x : Rat) : (0 : Int) < (x.den : Int) := by
  have := x.den_nz
  omega
theorem den_ne (x : Rat) : ((x.den : Int) : Rat) ≠ 0 := by
  have := x.den_nz
  intro z
  have z2 := Rat.intCast_eq_zero_iff.mp z
  omega
theorem num_div (x : Rat) : x = (x.num : Rat) / ((x.den : Int) : Rat) := by
  rw [← Rat.divInt_eq_div]
  exact (Rat.num_divInt_den x).symm
theorem add_rt (x y : Rat) : Rat.divInt (x.num * (y.den : Int) + y.num * (x.den : Int)) ((x.den : Int) * (y.den : Int)) = x + y := by
  rw [Rat.divInt_eq_div]
  have hx := num_div x
  have hy := num_div y
  have nx := den_ne x
  have ny := den_ne y
  simp only [Rat.intCast_add, Rat.intCast_mul]
  generalize (x.num : Rat) = a at *
  generalize (y.num : Rat) = b at *
  generalize ((x.den : Int) : Rat) = c at *
  generalize ((y.den : Int) : Rat) = d at *
  subst hx hy
  grind
theorem sub_rt (x y : Rat) : Rat.divInt (x.num * (y.den : Int) - y.num * (x.den : Int)) ((x.den : Int) * (y.den : Int)) = x - y := by
  rw [Rat.divInt_eq_div]
  have hx := num_div x
  have hy := num_div y
  have nx := den_ne x
  have ny := den_ne y
  simp only [Rat.intCast_sub, Rat.intCast_mul]
  generalize (x.num : Rat) = a at *
  generalize (y.num : Rat) = b at *
  generalize ((x.den : Int) : Rat) = c at *
  generalize ((y.den : Int) : Rat) = d at *
  subst hx hy
  grind
theorem mul_rt (x y : Rat) : Rat.divInt (x.num * y.num) ((x.den : Int) * (y.den : Int)) = x * y := by
  rw [Rat.divInt_eq_div]
  have hx := num_div x
  have hy := num_div y
  have nx := den_ne x
  have ny := den_ne y
  simp only [Rat.intCast_mul]
  generalize (x.num : Rat) = a at *
  generalize (y.num : Rat) = b at *
  generalize ((x.den : Int) : Rat) = c at *
  generalize ((y.den : Int) : Rat) = d at *
  subst hx hy
  grind
theorem div_rt (x y : Rat) (h : 0 < y.num) : Rat.divInt (x.num * (y.den : Int)) ((x.den : Int) * y.num) = x / y := by
  rw [Rat.divInt_eq_div]
  have hx := num_div x
  have hy := num_div y
  have nx := den_ne x
  have ny := den_ne y
  have nn : (y.num : Rat) ≠ 0 := by
    intro z
    have z2 := Rat.intCast_eq_zero_iff.mp z
    omega
  simp only [Rat.intCast_mul]
  generalize (x.num : Rat) = a at *
  generalize (y.num : Rat) = b at *
  generalize ((x.den : Int) : Rat) = c at *
  generalize ((y.den : Int) : Rat) = d at *
  subst hx hy
  grind
theorem num_pos {y : Rat} (h : 0 < y) : 0 < y.num := by
  have h1 : 0 ≤ y.num := Rat.num_nonneg.mpr (Rat.le_of_lt h)
  have h2 : y.num ≠ 0 := fun z => by
    rw [Rat.num_eq_zero.mp z] at h
    exact Rat.lt_irrefl h
  omega
theorem Sz.n {x : Rat} (h : Sz x) : x.num.natAbs < 2 ^ SZ := h.1
theorem Sz.d {x : Rat} (h : Sz x) : ((x.den : Int)).natAbs < 2 ^ SZ := by rw [Int.natAbs_natCast]; exact h.2
theorem mulW {i j : Int} (hi : i.natAbs < 2 ^ SZ) (hj : j.natAbs < 2 ^ SZ) : CMulW i j := wide_mul hi hj (by decide) (by decide) (by decide)
theorem mul_lt {i j : Int} (hi : i.natAbs < 2 ^ SZ) (hj : j.natAbs < 2 ^ SZ) : (i * j).natAbs < 2 ^ BZ := wide_lt hi hj
theorem mul_pos' {i j : Int} (hi : 0 < i) (hj : 0 < j) : 0 < i * j := Int.mul_pos hi hj
/-! ### heaps -/
theorem same_upd {H : Hp} {p : Addr} {o : HO} (h : H p = none) : Same H (upd H p o) := fun b x e => by
  rw [upd_ne (ne_of_none e h)]
  exact e
theorem At.seq {H H' : Hp} {p : Addr} {x : Rat} (h : At H p x) (s : Same H H') : At H' p x := s _ _ h
theorem At.t {K : PySem.W.Frag} {H : Hp} {p : Addr} {x : Rat} (h : At H p x) : SqT K H p (rt x) := SqT.of h
section
variable {P : Program} {w : World} {K : PySem.W.Frag} {mg : Str → Option Value} {base : Heap}
def spRatio : Sp := fun vs H Q _ => ∃ a b : Int, vs = [.int a, .int b] ∧ 0 < b ∧ b.natAbs < 2 ^ BZ ∧ ∀ H' p, Same H H' → H p = none → At H' p (Rat.divInt a b) → Q (.ref p) H'
theorem ok_ratio {f : Addr} {fd : FuncData} {k : Nat} (F : Fun K "ratio" "ratio" sRatio f fd) (mG : mg "gcd" = some (.builtin "math.gcd")) : FnOk P w K mg base CX0 (k + 1) f fd ["top", "bottom"] spRatio := by
  refine F.ok scRatio (fun vs H Q E h => ?_) (fun cdv A outer s H vs Q E hr h => ?_)
  · obtain ⟨a, b, rfl, _⟩ := h
    rfl
  · obtain ⟨a, b, rfl, hb, hz, q⟩ := h
    refine ⟨_, pss_cons (ps_set (i := 2) scRatio.nd rfl (.inl rfl) (pe_ifExp (pt_cmpR op_gt (pv 1) pe_int (nomark _))
        (pe_callBfun cr_gcd (by rfl) mG (pa_cons (pv 0) (pa_cons (pv 1) pa_nil)))
        (pe_op op_sub pe_int (pe_callBfun cr_gcd (by rfl) mG (pa_cons (pv 0) (pa_cons (pv 1) pa_nil))))))
      (pss_one (ps_ret (pe_tup (pa_cons (pe_op op_fdivW (pv 0) (pv 2)) (pa_cons (pe_op op_fdivW (pv 1) (pv 2)) pa_nil))))), ?_⟩
    refine ⟨_, rfl, _, _, rfl, rfl, _, rfl, ite2 (fun _ => ?_) (fun z => absurd (decide_eq_true hb) z)⟩
    refine ⟨_, rfl, _, rfl, a, b, rfl, ?_⟩
    have hd : ((Nat.gcd a.natAbs b.natAbs : Nat) : Int).natAbs < 2 ^ BZ := gcd_lt hb hz
    have cd : ∀ i, CDivW i ((Nat.gcd a.natAbs b.natAbs : Nat) : Int) := fun i => wide_div (gcd_pos hb) hd (by decide) (by decide)
    refine ⟨_, rfl, _, rfl, _, _, rfl, rfl, cd a, _, rfl, _, rfl, _, _, rfl, rfl, cd b, (by show 2 ≤ sizeLine; decide), fun p hp => ?_⟩
    refine q _ p (same_upd hp) hp ?_
    show upd H p _ p = some (.tup (rt (Rat.divInt a b)))
    rw [upd_same, rt_div hb]
def spBin (op : Rat → Rat → Rat) (C : Rat → Prop) : Sp := fun vs H Q _ => ∃ p r x y, vs = [.ref p, .ref r] ∧ At H p x ∧ At H r y ∧ Sz x ∧ Sz y ∧ C y ∧ ∀ H' t, Same H H' → H t = none → At H' t (op x y) → Q (.ref t) H'
theorem spBin_len {op : Rat → Rat → Rat} {C : Rat → Prop} : ∀ vs H Q E, spBin op C vs H Q E → vs.length = ["one", "other"].length := fun vs H Q E h => by
  obtain ⟨p, r, x, y, rfl, _⟩ := h
  rfl
theorem ok_plus {f fR : Addr} {fd fdR : FuncData} {k : Nat} (F : Fun K "plus" "plus" sPlus f fd) (FR : Fun K "ratio" "ratio" sRatio fR fdR) (GR : FnOk P w K mg base CX0 k fR fdR ["top", "bottom"] spRatio) (bR : Binds K fdR ["top", "bottom"] []) (mR : mg "ratio" = some (.ref fR)) :
    FnOk P w K mg base CX0 (k + 1) f fd ["one", "other"] (spBin (· + ·) fun _ => True) := by
  refine F.ok scPlus spBin_len (fun cdv A outer s H vs Q E hr h => ?_)
  obtain ⟨p, r, x, y, rfl, hx, hy, sx, sy, _, q⟩ := h
  refine ⟨_, pss_one (ps_ret (pe_call GR hr (by rfl) mR FR.kp bR .nil pass0 (pa_cons
      (pe_op op_add (pe_op op_mulW (pe_ix ix_tup (pv 0) pe_int (fun _ _ => rfl)) (pe_ix ix_tup (pv 1) pe_int (fun _ _ => rfl)))
        (pe_op op_mulW (pe_ix ix_tup (pv 1) pe_int (fun _ _ => rfl)) (pe_ix ix_tup (pv 0) pe_int (fun _ _ => rfl))))
      (pa_cons (pe_op op_mulW (pe_ix ix_tup (pv 0) pe_int (fun _ _ => rfl)) (pe_ix ix_tup (pv 1) pe_int (fun _ _ => rfl))) pa_nil)))), ?_⟩
  refine ⟨_, rfl, p, _, 0, _, rfl, rfl, hx.t, atI_nat (j := 0) rfl, _, rfl, r, _, 1, _, rfl, rfl, hy.t, atI_nat (j := 1) rfl, _, _, rfl, rfl, mulW sx.n sy.d, ?_⟩
  refine ⟨_, rfl, r, _, 0, _, rfl, rfl, hy.t, atI_nat (j := 0) rfl, _, rfl, p, _, 1, _, rfl, rfl, hx.t, atI_nat (j := 1) rfl, _, _, rfl, rfl, mulW sy.n sx.d, ?_⟩
  refine ⟨_, _, rfl, rfl, _, rfl, p, _, 1, _, rfl, rfl, hx.t, atI_nat (j := 1) rfl, _, rfl, r, _, 1, _, rfl, rfl, hy.t, atI_nat (j := 1) rfl, _, _, rfl, rfl, mulW sx.d sy.d, ?_⟩
  refine ⟨_, _, rfl, mul_pos' (den_pos x) (den_pos y), mul_lt sx.d sy.d, fun H' t sm nt ht => q H' t sm nt ?_⟩
  rw [add_rt] at ht
  exact ht
theorem ok_minus {f fR : Addr} {fd fdR : FuncData} {k : Nat} (F : Fun K "minus" "minus" sMinus f fd) (FR : Fun K "ratio" "ratio" sRatio fR fdR) (GR : FnOk P w K mg base CX0 k fR fdR ["top", "bottom"] spRatio) (bR : Binds K fdR ["top", "bottom"] []) (mR : mg "ratio" = some (.ref fR)) :
    FnOk P w K mg base CX0 (k + 1) f fd ["one", "other"] (spBin (· - ·) fun _ => True) := by
  refine F.ok scMinus spBin_len (fun cdv A outer s H vs Q E hr h => ?_)
  obtain ⟨p, r, x, y, rfl, hx, hy, sx, sy, _, q⟩ := h
  refine ⟨_, pss_one (ps_ret (pe_call GR hr (by rfl) mR FR.kp bR .nil pass0 (pa_cons
      (pe_op op_sub (pe_op op_mulW (pe_ix ix_tup (pv 0) pe_int (fun _ _ => rfl)) (pe_ix ix_tup (pv 1) pe_int (fun _ _ => rfl)))
        (pe_op op_mulW (pe_ix ix_tup (pv 1) pe_int (fun _ _ => rfl)) (pe_ix ix_tup (pv 0) pe_int (fun _ _ => rfl))))
      (pa_cons (pe_op op_mulW (pe_ix ix_tup (pv 0) pe_int (fun _ _ => rfl)) (pe_ix ix_tup (pv 1) pe_int (fun _ _ => rfl))) pa_nil)))), ?_⟩
  refine ⟨_, rfl, p, _, 0, _, rfl, rfl, hx.t, atI_nat (j := 0) rfl, _, rfl, r, _, 1, _, rfl, rfl, hy.t, atI_nat (j := 1) rfl, _, _, rfl, rfl, mulW sx.n sy.d, ?_⟩
  refine ⟨_, rfl, r, _, 0, _, rfl, rfl, hy.t, atI_nat (j := 0) rfl, _, rfl, p, _, 1, _, rfl, rfl, hx.t, atI_nat (j := 1) rfl, _, _, rfl, rfl, mulW sy.n sx.d, ?_⟩
  refine ⟨_, _, rfl, rfl, _, rfl, p, _, 1, _, rfl, rfl, hx.t, atI_nat (j := 1) rfl, _, rfl, r, _, 1, _, rfl, rfl, hy.t, atI_nat (j := 1) rfl, _, _, rfl, rfl, mulW sx.d sy.d, ?_⟩
  refine ⟨_, _, rfl, mul_pos' (den_pos x) (den_pos y), mul_lt sx.d sy.d, fun H' t sm nt ht => q H' t sm nt ?_⟩
  rw [sub_rt] at ht
  exact ht
theorem ok_by {f fR : Addr} {fd fdR : FuncData} {k : Nat} (F : Fun K "by" "by" sBy f fd) (FR : Fun K "ratio" "ratio" sRatio fR fdR) (GR : FnOk P w K mg base CX0 k fR fdR ["top", "bottom"] spRatio) (bR : Binds K fdR ["top", "bottom"] []) (mR : mg "ratio" = some (.ref fR)) :
    FnOk P w K mg base CX0 (k + 1) f fd ["one", "other"] (spBin (· * ·) fun _ => True) := by
  refine F.ok scBy spBin_len (fun cdv A outer s H vs Q E hr h => ?_)
  obtain ⟨p, r, x, y, rfl, hx, hy, sx, sy, _, q⟩ := h
  refine ⟨_, pss_one (ps_ret (pe_call GR hr (by rfl) mR FR.kp bR .nil pass0 (pa_cons
      (pe_op op_mulW (pe_ix ix_tup (pv 0) pe_int (fun _ _ => rfl)) (pe_ix ix_tup (pv 1) pe_int (fun _ _ => rfl)))
      (pa_cons (pe_op op_mulW (pe_ix ix_tup (pv 0) pe_int (fun _ _ => rfl)) (pe_ix ix_tup (pv 1) pe_int (fun _ _ => rfl))) pa_nil)))), ?_⟩
  refine ⟨_, rfl, p, _, 0, _, rfl, rfl, hx.t, atI_nat (j := 0) rfl, _, rfl, r, _, 0, _, rfl, rfl, hy.t, atI_nat (j := 0) rfl, _, _, rfl, rfl, mulW sx.n sy.n, ?_⟩
  refine ⟨_, rfl, p, _, 1, _, rfl, rfl, hx.t, atI_nat (j := 1) rfl, _, rfl, r, _, 1, _, rfl, rfl, hy.t, atI_nat (j := 1) rfl, _, _, rfl, rfl, mulW sx.d sy.d, ?_⟩
  refine ⟨_, _, rfl, mul_pos' (den_pos x) (den_pos y), mul_lt sx.d sy.d, fun H' t sm nt ht => q H' t sm nt ?_⟩
  rw [mul_rt] at ht
  exact ht
theorem ok_over {f fR : Addr} {fd fdR : FuncData} {k : Nat} (F : Fun K "over" "over" sOver f fd) (FR : Fun K "ratio" "ratio" sRatio fR fdR) (GR : FnOk P w K mg base CX0 k fR fdR ["top", "bottom"] spRatio) (bR : Binds K fdR ["top", "bottom"] []) (mR : mg "ratio" = some (.ref fR)) :
    FnOk P w K mg base CX0 (k + 1) f fd ["one", "other"] (spBin (· / ·) fun y => 0 < y) := by
  refine F.ok scOver spBin_len (fun cdv A outer s H vs Q E hr h => ?_)
  obtain ⟨p, r, x, y, rfl, hx, hy, sx, sy, hp, q⟩ := h
  have np := num_pos hp
  refine ⟨_, pss_one (ps_ret (pe_call GR hr (by rfl) mR FR.kp bR .nil pass0 (pa_cons
      (pe_op op_mulW (pe_ix ix_tup (pv 0) pe_int (fun _ _ => rfl)) (pe_ix ix_tup (pv 1) pe_int (fun _ _ => rfl)))
      (pa_cons (pe_op op_mulW (pe_ix ix_tup (pv 0) pe_int (fun _ _ => rfl)) (pe_ix ix_tup (pv 1) pe_int (fun _ _ => rfl))) pa_nil)))), ?_⟩
  refine ⟨_, rfl, p, _, 0, _, rfl, rfl, hx.t, atI_nat (j := 0) rfl, _, rfl, r, _, 1, _, rfl, rfl, hy.t, atI_nat (j := 1) rfl, _, _, rfl, rfl, mulW sx.n sy.d, ?_⟩
  refine ⟨_, rfl, p, _, 1, _, rfl, rfl, hx.t, atI_nat (j := 1) rfl, _, rfl, r, _, 0, _, rfl, rfl, hy.t, atI_nat (j := 0) rfl, _, _, rfl, rfl, mulW sx.d sy.n, ?_⟩
  refine ⟨_, _, rfl, mul_pos' (den_pos x) np, mul_lt sx.d sy.n, fun H' t sm nt ht => q H' t sm nt ?_⟩
  rw [div_rt x y np] at ht
  exact ht
end
end K37
namespace K37
open PySem PySem.Spec PyProof.Rows L2
abbrev sLRatio : Stmt := topS 32
abbrev sLPlus : Stmt := topS 33
abbrev sLBy : Stmt := topS 34
theorem scLRatio : FnScope ["_law_top", "_law_bottom", "_law_one", "_law_other"] ["_law_top", "_law_bottom"] (defScope sLRatio) := ⟨rfl, rfl, rfl, by decide +kernel, rfl, by decide +kernel, by decide +kernel⟩
theorem scLPlus : FnScope ["_law_one", "_law_other"] ["_law_one", "_law_other"] (defScope sLPlus) := ⟨rfl, rfl, rfl, by decide +kernel, rfl, by decide +kernel, by decide +kernel⟩
theorem scLBy : FnScope ["_law_one", "_law_other"] ["_law_one", "_law_other"] (defScope sLBy) := ⟨rfl, rfl, rfl, by decide +kernel, rfl, by decide +kernel, by decide +kernel⟩
theorem abs_nat (i : Int) : (if i < 0 then -i else i) = ((i.natAbs : Nat) : Int) := by split <;> omega
theorem gcd_step (u v : Nat) : Nat.gcd v (u % v) = Nat.gcd u v := by
  rw [Nat.gcd_comm v, ← Nat.gcd_rec, Nat.gcd_comm]
section
variable {P : Program} {w : World} {K : PySem.W.Frag} {mg : Str → Option Value} {base : Heap}
theorem ok_lratio {f : Addr} {fd : FuncData} {k : Nat} (F : Fun K "_law_ratio" "_law_ratio" sLRatio f fd) (mA : mg "abs" = none) (mI : mg "int" = none) : FnOk P w K mg base CX0 (k + 1) f fd ["_law_top", "_law_bottom"] spRatio := by
  refine F.ok scLRatio (fun vs H Q E h => ?_) (fun cdv A outer s H vs Q E hr h => ?_)
  · obtain ⟨a, b, rfl, _⟩ := h
    rfl
  · obtain ⟨a, b, rfl, hb, hz, q⟩ := h
    refine ⟨_, pss_cons (ps_par (i := 2) (j := 3) rfl scLRatio.nd rfl rfl (by decide) rfl rfl
        (pa_cons (pe_callB call_abs (by rfl) mA boot_abs (pa_cons (pv 0) pa_nil)) (pa_cons (pe_callB call_abs (by rfl) mA boot_abs (pa_cons (pv 1) pa_nil)) pa_nil)) (by rfl))
      (pss_cons (ps_while PassesOwn.never (pt_cmpR op_ne (pv 3) pe_int (nomark _))
        (pss_one (ps_par (i := 2) (j := 3) rfl scLRatio.nd rfl rfl (by decide) rfl rfl
          (pa_cons (pv 3) (pa_cons (pe_op op_mod (pe_callTy call_int1 (by rfl) mI (by decide +kernel) (pa_cons (pv 2) pa_nil)) (pv 3)) pa_nil)) (by rfl))))
      (pss_one (ps_ret (pe_ifExp (pt_cmpR op_gt (pv 1) pe_int (nomark _))
        (pe_tup (pa_cons (pe_op op_fdivW (pv 0) (pv 2)) (pa_cons (pe_op op_fdivW (pv 1) (pv 2)) pa_nil)))
        (pe_tup (pa_cons (pe_op op_sub pe_int (pe_op op_fdivW (pv 0) (pv 2))) (pa_cons (pe_op op_sub pe_int (pe_op op_fdivW (pv 1) (pv 2))) pa_nil))))))), ?_⟩
    refine ⟨_, rfl, a, rfl, _, rfl, b, rfl, _, _, rfl, ?_⟩
    rw [abs_nat, abs_nat]
    refine ⟨fun m σ H' => ∃ u v : Nat, σ = [some (.int a), some (.int b), some (.int (u : Int)), some (.int (v : Int))] ∧ H' = H ∧ Nat.gcd u v = Nat.gcd a.natAbs b.natAbs ∧ v = m, ⟨_, a.natAbs, b.natAbs, rfl, rfl, rfl, rfl⟩, fun m σ H' hW => ?_⟩
    obtain ⟨u, v, rfl, rfl, hg, rfl⟩ := hW
    refine ⟨_, rfl, rfl, _, rfl, ?_⟩
    by_cases hv : v = 0
    · subst hv
      rw [show (!decide (V.int ((0 : Nat) : Int) = V.int 0)) = false from rfl]
      refine iteF ?_
      have eu : u = Nat.gcd a.natAbs b.natAbs := by rw [← hg, Nat.gcd_zero_right]
      subst eu
      refine ⟨_, rfl, _, _, rfl, rfl, _, rfl, ite2 (fun _ => ?_) (fun z => absurd (decide_eq_true hb) z)⟩
      have hd : ((Nat.gcd a.natAbs b.natAbs : Nat) : Int).natAbs < 2 ^ BZ := gcd_lt hb hz
      have cd : ∀ i, CDivW i ((Nat.gcd a.natAbs b.natAbs : Nat) : Int) := fun i => wide_div (gcd_pos hb) hd (by decide) (by decide)
      refine ⟨_, rfl, _, rfl, _, _, rfl, rfl, cd a, _, rfl, _, rfl, _, _, rfl, rfl, cd b, (by show 2 ≤ sizeLine; decide), fun p hp => ?_⟩
      refine q _ p (same_upd hp) hp ?_
      show upd _ p _ p = some (.tup (rt (Rat.divInt a b)))
      rw [upd_same, rt_div hb]
    · rw [show (!decide (V.int (v : Int) = V.int 0)) = true by
        rw [decide_eq_false (fun z => hv (by have := V.int.inj z; omega))]
        rfl]
      refine iteT ?_
      refine ⟨fun σ' H'' => ∃ u' v' : Nat, σ' = [some (.int a), some (.int b), some (.int (u' : Int)), some (.int (v' : Int))] ∧ H'' = H' ∧ Nat.gcd u' v' = Nat.gcd a.natAbs b.natAbs ∧ v' < v, fun σ' H'' hN => ?_, ?_⟩
      · obtain ⟨u', v', e1, e2, e3, e4⟩ := hN
        exact ⟨v', e4, u', v', e1, e2, e3, rfl⟩
      · refine ⟨_, rfl, _, rfl, .inl ⟨_, rfl, _, rfl, _, _, rfl, rfl, (by omega), _, _, rfl, ?_⟩⟩
        refine ⟨v, u % v, ?_, rfl, ?_, Nat.mod_lt _ (by omega)⟩
        · rfl
        · rw [gcd_step]
          exact hg
theorem spBin_len' {op : Rat → Rat → Rat} {C : Rat → Prop} : ∀ vs H Q E, spBin op C vs H Q E → vs.length = ["_law_one", "_law_other"].length := fun vs H Q E h => by
  obtain ⟨p, r, x, y, rfl, _⟩ := h
  rfl
theorem ok_lplus {f fR : Addr} {fd fdR : FuncData} {k : Nat} (F : Fun K "_law_plus" "_law_plus" sLPlus f fd) (FR : Fun K "_law_ratio" "_law_ratio" sLRatio fR fdR) (GR : FnOk P w K mg base CX0 k fR fdR ["_law_top", "_law_bottom"] spRatio) (bR : Binds K fdR ["_law_top", "_law_bottom"] []) (mR : mg "_law_ratio" = some (.ref fR)) :
    FnOk P w K mg base CX0 (k + 1) f fd ["_law_one", "_law_other"] (spBin (· + ·) fun _ => True) := by
  refine F.ok scLPlus spBin_len' (fun cdv A outer s H vs Q E hr h => ?_)
  obtain ⟨p, r, x, y, rfl, hx, hy, sx, sy, _, q⟩ := h
  refine ⟨_, pss_one (ps_ret (pe_call GR hr (by rfl) mR FR.kp bR .nil pass0 (pa_cons
      (pe_op op_add (pe_op op_mulW (pe_ix ix_tup (pv 0) pe_int (fun _ _ => rfl)) (pe_ix ix_tup (pv 1) pe_int (fun _ _ => rfl)))
        (pe_op op_mulW (pe_ix ix_tup (pv 1) pe_int (fun _ _ => rfl)) (pe_ix ix_tup (pv 0) pe_int (fun _ _ => rfl))))
      (pa_cons (pe_op op_mulW (pe_ix ix_tup (pv 0) pe_int (fun _ _ => rfl)) (pe_ix ix_tup (pv 1) pe_int (fun _ _ => rfl))) pa_nil)))), ?_⟩
  refine ⟨_, rfl, p, _, 0, _, rfl, rfl, hx.t, atI_nat (j := 0) rfl, _, rfl, r, _, 1, _, rfl, rfl, hy.t, atI_nat (j := 1) rfl, _, _, rfl, rfl, mulW sx.n sy.d, ?_⟩
  refine ⟨_, rfl, r, _, 0, _, rfl, rfl, hy.t, atI_nat (j := 0) rfl, _, rfl, p, _, 1, _, rfl, rfl, hx.t, atI_nat (j := 1) rfl, _, _, rfl, rfl, mulW sy.n sx.d, ?_⟩
  refine ⟨_, _, rfl, rfl, _, rfl, p, _, 1, _, rfl, rfl, hx.t, atI_nat (j := 1) rfl, _, rfl, r, _, 1, _, rfl, rfl, hy.t, atI_nat (j := 1) rfl, _, _, rfl, rfl, mulW sx.d sy.d, ?_⟩
  refine ⟨_, _, rfl, mul_pos' (den_pos x) (den_pos y), mul_lt sx.d sy.d, fun H' t sm nt ht => q H' t sm nt ?_⟩
  rw [add_rt] at ht
  exact ht
theorem ok_lby {f fR : Addr} {fd fdR : FuncData} {k : Nat} (F : Fun K "_law_by" "_law_by" sLBy f fd) (FR : Fun K "_law_ratio" "_law_ratio" sLRatio fR fdR) (GR : FnOk P w K mg base CX0 k fR fdR ["_law_top", "_law_bottom"] spRatio) (bR : Binds K fdR ["_law_top", "_law_bottom"] []) (mR : mg "_law_ratio" = some (.ref fR)) :
    FnOk P w K mg base CX0 (k + 1) f fd ["_law_one", "_law_other"] (spBin (· * ·) fun _ => True) := by
  refine F.ok scLBy spBin_len' (fun cdv A outer s H vs Q E hr h => ?_)
  obtain ⟨p, r, x, y, rfl, hx, hy, sx, sy, _, q⟩ := h
  refine ⟨_, pss_one (ps_ret (pe_call GR hr (by rfl) mR FR.kp bR .nil pass0 (pa_cons
      (pe_op op_mulW (pe_ix ix_tup (pv 0) pe_int (fun _ _ => rfl)) (pe_ix ix_tup (pv 1) pe_int (fun _ _ => rfl)))
      (pa_cons (pe_op op_mulW (pe_ix ix_tup (pv 0) pe_int (fun _ _ => rfl)) (pe_ix ix_tup (pv 1) pe_int (fun _ _ => rfl))) pa_nil)))), ?_⟩
  refine ⟨_, rfl, p, _, 0, _, rfl, rfl, hx.t, atI_nat (j := 0) rfl, _, rfl, r, _, 0, _, rfl, rfl, hy.t, atI_nat (j := 0) rfl, _, _, rfl, rfl, mulW sx.n sy.n, ?_⟩
  refine ⟨_, rfl, p, _, 1, _, rfl, rfl, hx.t, atI_nat (j := 1) rfl, _, rfl, r, _, 1, _, rfl, rfl, hy.t, atI_nat (j := 1) rfl, _, _, rfl, rfl, mulW sx.d sy.d, ?_⟩
  refine ⟨_, _, rfl, mul_pos' (den_pos x) (den_pos y), mul_lt sx.d sy.d, fun H' t sm nt ht => q H' t sm nt ?_⟩
  rw [mul_rt] at ht
  exact ht
end
end K37
namespace K37
open PySem PySem.Spec PyProof.Rows L2
/-! ### sum of a tuple of ints -/
theorem pre_take (ns : List Int) : ∀ k, k ≤ ns.length → preSum (fun i => ns.getD i 0) k = (ns.take k).sum
  | 0, _ => rfl
  | k + 1, h => by
    have low : k < ns.length := h
    rw [preSum, pre_take ns k (Nat.le_of_lt low), List.take_add_one, List.getElem?_eq_getElem low, List.sum_append, List.getD_eq_getElem?_getD, List.getElem?_eq_getElem low]
    simp
def rSumT (K : PySem.W.Frag) : List V → Hp → VK → Prop := fun vs H Q => ∃ (a : Addr) (ns : List Int), vs = [V.ref a] ∧ SqT K H a (ns.map V.int) ∧ Q (.int ns.sum) H
theorem cr_sumT {X : Cx} (hc : X.calm = true) : CallR X (.builtin "sum") (rSumT X.K) := by
  rintro pins t σ H _ us Q J rel ⟨l, ns, rfl, seq, q⟩
  obtain ⟨its, vals, tup, _⟩ := J.tuple seq
  rw [Vals.ref1 rel]
  have low : l < t.heap.objs.size := let ⟨_, e, _⟩ := tup; Heap.lt_size e
  refine call_sum_walkG (wpAny_pyIter_tuple tup ⟨_, [t.heap.objs.size, l], [t.heap.objs.size], _, _, _, fun i => ns.getD i 0, rfl, Walks.tuple (A := X.A.in1) (J.ok.hd hc) _ l (Nat.ne_of_lt low) its.toArray, ⟨⟨_, Heap.get?_push_size _ rfl, rfl, rfl⟩, tup.push _⟩, ?_, ?_, ?_⟩)
  · have up : t.heap.objs.size < (t.heap.push { cls := .type "tuple_iterator", data := .fields #[.ref l, .int 0 0] }).objs.size := by
      rw [Heap.size_push]
      exact Nat.lt_succ_self _
    simp only [List.mem_cons, List.not_mem_nil, or_false]
    rintro b (rfl | rfl)
    · exact up
    · exact Nat.lt_trans low up
  · intro i v at_
    have atL : its[i]? = some v := by simpa using at_
    have il : i < ns.length := by
      have h1 := (List.getElem?_eq_some_iff.mp atL).1
      rw [← vals.length, List.length_map] at h1
      exact h1
    obtain ⟨u, eu, tk, ru⟩ := vals.get (x := .int (ns.getD i 0)) (i := i) (by rw [List.getElem?_map, List.getElem?_eq_getElem il, List.getD_eq_getElem?_getD, List.getElem?_eq_getElem il]; rfl)
    exact ⟨tk, (Option.some.inj (atL.symm.trans eu)).trans ru⟩
  · intro g tk tk' kept
    have len : its.toArray.size = ns.length := by rw [List.size_toArray, ← vals.length, List.length_map]
    rw [len, pre_take ns _ (Nat.le_refl _), List.take_length]
    refine ⟨.int ns.sum, H, J.kept fun b o e => kept b o ?_ (Heap.get?_push_of_some _ e), ⟨_, rfl⟩, q⟩
    simp only [List.mem_cons, List.not_mem_nil, or_false]
    exact Nat.ne_of_lt (Heap.lt_size e)
/-! ### lists of ratios -/
/-- at ps the ratios x 0 .. x (n - 1) stand -/
def Rts (H : Hp) (ps : List V) (n : Nat) (x : Nat → Rat) : Prop := ps.length = n ∧ ∀ i, i < n → ∃ a, ps[i]? = some (.ref a) ∧ At H a (x i)
theorem Rts.nil {H : Hp} {x : Nat → Rat} : Rts H [] 0 x := ⟨rfl, fun i hi => absurd hi (by omega)⟩
theorem Rts.seq {H H' : Hp} {ps : List V} {n : Nat} {x : Nat → Rat} (h : Rts H ps n x) (s : ∀ a y, At H a y → At H' a y) : Rts H' ps n x :=
  ⟨h.1, fun i hi => let ⟨a, e, q⟩ := h.2 i hi; ⟨a, e, s _ _ q⟩⟩
theorem Rts.snoc {H : Hp} {ps : List V} {n : Nat} {x : Nat → Rat} {a : Addr} (h : Rts H ps n x) (q : At H a (x n)) : Rts H (ps ++ [.ref a]) (n + 1) x := by
  refine ⟨by rw [List.length_append, h.1]; rfl, fun i hi => ?_⟩
  by_cases e : i < n
  · obtain ⟨b, e1, e2⟩ := h.2 i e
    exact ⟨b, by rw [List.getElem?_append_left (by rw [h.1]; exact e)]; exact e1, e2⟩
  · have : i = n := by omega
    subst this
    exact ⟨a, by rw [List.getElem?_append_right (by rw [h.1]; exact Nat.le_refl _), h.1, Nat.sub_self]; rfl, q⟩
theorem Rts.at' {H : Hp} {ps : List V} {n i : Nat} {x : Nat → Rat} (h : Rts H ps n x) (hi : i < n) : ∃ a, atI ps (i : Int) = some (.ref a) ∧ At H a (x i) :=
  let ⟨a, e, q⟩ := h.2 i hi; ⟨a, atI_nat e, q⟩
theorem Rts.congr {H : Hp} {ps : List V} {n : Nat} {x y : Nat → Rat} (h : Rts H ps n x) (e : ∀ i, i < n → x i = y i) : Rts H ps n y :=
  ⟨h.1, fun i hi => by rw [← e i hi]; exact h.2 i hi⟩
theorem same_none {H H' : Hp} {a : Addr} (s : Same H H') (h : H' a = Option.none) : H a = Option.none := by
  cases e : H a with
  | none => rfl
  | some o => rw [s _ _ e] at h; cases h
/-- all stays but what stands at D (new since H) -/
theorem same_but {H H' : Hp} {D : Addr} {o : HO} (hD : H D = none) (s : Same H H') : Same H (upd H' D o) := fun b u e => by
  rw [upd_ne (ne_of_none e hD)]
  exact s b u e
theorem At.upd {H : Hp} {a D : Addr} {x : Rat} {o : HO} (h : At H a x) (hD : a ≠ D) : At (upd H D o) a x := by
  unfold At
  rw [upd_ne hD]
  exact h
theorem At.ne_lst {H : Hp} {a D : Addr} {x : Rat} {xs : List V} (h : At H a x) (hD : H D = some (.lst xs)) : a ≠ D := ne_of h hD (by intro z; cases z)
/-! ### the claims -/
/-- the chance of the amount k -/
def cs (ws : List Int) : Nat → Rat := fun k => Rat.divInt (ws.getD k 0) ws.sum
theorem cs_zero (ws : List Int) (k : Nat) (h : ws.length ≤ k) : cs ws k = 0 := by
  unfold cs
  rw [List.getD_eq_getElem?_getD, List.getElem?_eq_none h]
  exact Rat.zero_divInt _
abbrev sChances : Stmt := topS 23
abbrev sPower : Stmt := topS 26
abbrev sLChances : Stmt := topS 37
theorem scChances : FnScope ["claims", "one"] ["claims"] (defScope sChances) := ⟨rfl, rfl, rfl, by decide +kernel, rfl, by decide +kernel, by decide +kernel⟩
theorem scLChances : FnScope ["_law_claims_here", "_law_one"] ["_law_claims_here"] (defScope sLChances) := ⟨rfl, rfl, rfl, by decide +kernel, rfl, by decide +kernel, by decide +kernel⟩
theorem scPower : FnScope ["one", "times", "found", "turn"] ["one", "times"] (defScope sPower) := ⟨rfl, rfl, rfl, by decide +kernel, rfl, by decide +kernel, by decide +kernel⟩
section
variable {P : Program} {w : World} {K : PySem.W.Frag} {mg : Str → Option Value} {base : Heap}
/-- the chances of claims -/
def spChances (K : PySem.W.Frag) : Sp := fun vs H Q _ => ∃ (a : Addr) (ws : List Int), vs = [.ref a] ∧ SqT K H a (ws.map V.int) ∧ 0 < ws.sum ∧ ws.sum.natAbs < 2 ^ BZ ∧ ws.length ≤ 1000 ∧
  ∀ H' l ps, Same H H' → H l = none → H' l = some (.lst ps) → Rts H' ps ws.length (cs ws) → Q (.ref l) H'
theorem SqT.same {H H' : Hp} {a : Addr} {xs : List V} (h : SqT K H a xs) (s : Same H H') : SqT K H' a xs := by
  rcases h with (h | ⟨o, h⟩) | h
  · exact .inl (.inl (s _ _ h))
  · exact .inl (.inr ⟨o, s _ _ h⟩)
  · exact .inr h
theorem ok_chances {f fR : Addr} {fd fdR : FuncData} {k : Nat} (F : Fun K "chances_of" "chances_of" sChances f fd) (FR : Fun K "ratio" "ratio" sRatio fR fdR) (GR : FnOk P w K mg base CX0 k fR fdR ["top", "bottom"] spRatio) (bR : Binds K fdR ["top", "bottom"] []) (mR : mg "ratio" = some (.ref fR)) (mS : mg "sum" = none) :
    FnOk P w K mg base CX0 (k + 1) f fd ["claims"] (spChances K) := by
  refine F.ok scChances (fun vs H Q E h => ?_) (fun cdv A outer s H vs Q E hr h => ?_)
  · obtain ⟨a, ws, rfl, _⟩ := h
    rfl
  · obtain ⟨a, ws, rfl, hS, hp, hz, hl, q⟩ := h
    refine ⟨_, pss_one (ps_ret (pe_lc (own := [("one", 1)]) (g := gName 1) (tt := tYes) rfl scChances.nd (pi_tup (pv 0)) (blkOk_by (N := ["claims", "one"]) (sc := defScope sChances) (by decide +kernel))
        (fun _ _ _ _ _ => pg_name (i := 1) scChances.nd rfl (Or.inl rfl)) (fun _ _ _ _ _ => pts_nil)
        (fun _ _ _ _ _ => pe_call GR hr (by rfl) mR FR.kp bR .nil pass0 (pa_cons (pv 1) (pa_cons (pe_callB (r := rSumT K) (cr_sumT rfl) (by rfl) mS boot_sum (pa_cons (pv 0) pa_nil)) pa_nil))))), ?_⟩
    refine ⟨_, rfl, a, rfl, ⟨_, hS⟩, fun D hD => ?_⟩
    refine lc_tup (K := K) (a := a) (xs := ws.map V.int) (fun i H' => Same H H' ∧ ∃ ps, H' D = some (.lst ps) ∧ Rts H' ps i (cs ws)) ⟨same_upd hD, [], upd_same, Rts.nil⟩ (fun i H' _ h => SqT.same hS h.1) (fun i x H' hx hI => ?_) (fun H' hI => ?_)
    · obtain ⟨sm, ps, e, rs⟩ := hI
      have hi : i < ws.length := by
        have := (List.getElem?_eq_some_iff.mp hx).1
        rwa [List.length_map] at this
      have ex : x = .int (ws.getD i 0) := by
        rw [List.getElem?_map, List.getElem?_eq_getElem hi] at hx
        rw [List.getD_eq_getElem?_getD, List.getElem?_eq_getElem hi]
        exact (Option.some.inj hx).symm
      subst ex
      refine ⟨rfl, _, rfl, _, rfl, a, ws, rfl, SqT.same hS sm, ?_⟩
      refine ⟨_, _, rfl, hp, hz, fun H2 r sm2 nr hr2 => ?_⟩
      refine ⟨ps, sm2 _ _ e, ?_, ?_⟩
      · rw [rs.1]
        exact Nat.lt_of_lt_of_le hi (Nat.le_trans hl (by decide))
      · have nD : r ≠ D := fun z => by
          rw [z] at nr
          rw [e] at nr
          cases nr
        have eD := sm2 _ _ e
        refine ⟨same_but hD (sm.trans sm2), _, upd_same, ?_⟩
        refine Rts.snoc (rs.seq fun b y hy => ?_) (hr2.upd nD)
        exact (hy.seq sm2).upd ((hy.seq sm2).ne_lst eD)
    · obtain ⟨sm, ps, e, rs⟩ := hI
      rw [List.length_map] at rs
      exact q H' D ps sm hD e rs
theorem ok_lchances {f fR : Addr} {fd fdR : FuncData} {k : Nat} (F : Fun K "_law_chances" "_law_chances" sLChances f fd) (FR : Fun K "_law_ratio" "_law_ratio" sLRatio fR fdR) (GR : FnOk P w K mg base CX0 k fR fdR ["_law_top", "_law_bottom"] spRatio) (bR : Binds K fdR ["_law_top", "_law_bottom"] []) (mR : mg "_law_ratio" = some (.ref fR)) (mS : mg "sum" = none) :
    FnOk P w K mg base CX0 (k + 1) f fd ["_law_claims_here"] (spChances K) := by
  refine F.ok scLChances (fun vs H Q E h => ?_) (fun cdv A outer s H vs Q E hr h => ?_)
  · obtain ⟨a, ws, rfl, _⟩ := h
    rfl
  · obtain ⟨a, ws, rfl, hS, hp, hz, hl, q⟩ := h
    refine ⟨_, pss_one (ps_ret (pe_lc (own := [("_law_one", 1)]) (g := gName 1) (tt := tYes) rfl scLChances.nd (pi_tup (pv 0)) (blkOk_by (N := ["_law_claims_here", "_law_one"]) (sc := defScope sLChances) (by decide +kernel))
        (fun _ _ _ _ _ => pg_name (i := 1) scLChances.nd rfl (Or.inl rfl)) (fun _ _ _ _ _ => pts_nil)
        (fun _ _ _ _ _ => pe_call GR hr (by rfl) mR FR.kp bR .nil pass0 (pa_cons (pv 1) (pa_cons (pe_callB (r := rSumT K) (cr_sumT rfl) (by rfl) mS boot_sum (pa_cons (pv 0) pa_nil)) pa_nil))))), ?_⟩
    refine ⟨_, rfl, a, rfl, ⟨_, hS⟩, fun D hD => ?_⟩
    refine lc_tup (K := K) (a := a) (xs := ws.map V.int) (fun i H' => Same H H' ∧ ∃ ps, H' D = some (.lst ps) ∧ Rts H' ps i (cs ws)) ⟨same_upd hD, [], upd_same, Rts.nil⟩ (fun i H' _ h => SqT.same hS h.1) (fun i x H' hx hI => ?_) (fun H' hI => ?_)
    · obtain ⟨sm, ps, e, rs⟩ := hI
      have hi : i < ws.length := by
        have := (List.getElem?_eq_some_iff.mp hx).1
        rwa [List.length_map] at this
      have ex : x = .int (ws.getD i 0) := by
        rw [List.getElem?_map, List.getElem?_eq_getElem hi] at hx
        rw [List.getD_eq_getElem?_getD, List.getElem?_eq_getElem hi]
        exact (Option.some.inj hx).symm
      subst ex
      refine ⟨rfl, _, rfl, _, rfl, a, ws, rfl, SqT.same hS sm, ?_⟩
      refine ⟨_, _, rfl, hp, hz, fun H2 r sm2 nr hr2 => ?_⟩
      refine ⟨ps, sm2 _ _ e, ?_, ?_⟩
      · rw [rs.1]
        exact Nat.lt_of_lt_of_le hi (Nat.le_trans hl (by decide))
      · have nD : r ≠ D := fun z => by
          rw [z] at nr
          rw [e] at nr
          cases nr
        have eD := sm2 _ _ e
        refine ⟨same_but hD (sm.trans sm2), _, upd_same, ?_⟩
        refine Rts.snoc (rs.seq fun b y hy => ?_) (hr2.upd nD)
        exact (hy.seq sm2).upd ((hy.seq sm2).ne_lst eD)
    · obtain ⟨sm, ps, e, rs⟩ := hI
      rw [List.length_map] at rs
      exact q H' D ps sm hD e rs
/-! ### a power -/
def spPow : Sp := fun vs H Q _ => ∃ (p : Addr) (n : Nat) (x : Rat), vs = [.ref p, .int (n : Int)] ∧ At H p x ∧ n ≤ 1000 ∧ Sz x ∧ (∀ j, j ≤ n → Sz (x ^ j)) ∧
  ∀ H' t, Same H H' → H t = none → At H' t (x ^ n) → Q (.ref t) H'
theorem ok_power {f fB : Addr} {fd fdB : FuncData} {k : Nat} (F : Fun K "power_of" "power_of" sPower f fd) (FB : Fun K "by" "by" sBy fB fdB) (GB : FnOk P w K mg base CX0 k fB fdB ["one", "other"] (spBin (· * ·) fun _ => True)) (bB : Binds K fdB ["one", "other"] []) (mB : mg "by" = some (.ref fB)) (mRg : mg "range" = none) :
    FnOk P w K mg base CX0 (k + 1) f fd ["one", "times"] spPow := by
  refine F.ok scPower (fun vs H Q E h => ?_) (fun cdv A outer s H vs Q E hr h => ?_)
  · obtain ⟨p, n, x, rfl, _⟩ := h
    rfl
  · obtain ⟨p, n, x, rfl, hx, hn, sx, sp, q⟩ := h
    refine ⟨_, pss_cons (ps_set (i := 2) scPower.nd rfl (.inl rfl) (pe_tup (pa_cons pe_int (pa_cons pe_int pa_nil))))
      (pss_cons (ps_for PassesOwn.never rfl (pi_range1 rfl mRg (pa_cons (pv 1) pa_nil)) (pg_name (i := 3) scPower.nd rfl (Or.inl rfl))
        (pss_one (ps_set (i := 2) scPower.nd rfl (.inl rfl) (pe_call GB hr (by rfl) mB FB.kp bB .nil pass0 (pa_cons (pv 2) (pa_cons (pv 0) pa_nil))))))
      (pss_one (ps_ret (pv 2)))), ?_⟩
    refine ⟨(by show 2 ≤ sizeLine; decide), fun t0 n0 => ?_⟩
    refine ⟨_, rfl, _, rfl, by omega, by omega, ?_⟩
    refine for_range (lo := 0) (n := n) (fun i σ H' => ∃ t y3, σ = [some (.ref p), some (.int (n : Int)), some (.ref t), y3] ∧ Same H H' ∧ H t = none ∧ At H' t (x ^ i)) ⟨t0, none, rfl, same_upd n0, n0, ?_⟩ (fun i σ H' hi hI => ?_) (fun σ H' hI => ?_)
    · unfold At
      rw [upd_same, Rat.pow_zero]
      rfl
    · obtain ⟨t, y3, rfl, sm, nt, ht⟩ := hI
      refine ⟨_, rfl, _, rfl, t, p, x ^ i, x, rfl, ht, hx.seq sm, sp i (by omega), sx, trivial, fun H2 r sm2 nr hr2 => ?_⟩
      refine ⟨r, _, rfl, sm.trans sm2, same_none sm nr, ?_⟩
      rw [Rat.pow_succ]
      exact hr2
    · obtain ⟨t, y3, rfl, sm, nt, ht⟩ := hI
      exact ⟨_, rfl, q H' t sm nt ht⟩
end
end K37
namespace K37
open PySem PySem.Spec PyProof.Rows L2
abbrev sTaken : Stmt := topS 29
abbrev sPick : Stmt := topS 30
abbrev sClaims : Stmt := topS 36
theorem scTaken : FnScope ["_law_row", "_law_many", "_law_found", "_law_cell"] ["_law_row", "_law_many"] (defScope sTaken) := ⟨rfl, rfl, rfl, by decide +kernel, rfl, by decide +kernel, by decide +kernel⟩
theorem scPick : FnScope ["_law_row", "_law_things"] ["_law_row", "_law_things"] (defScope sPick) := ⟨rfl, rfl, rfl, by decide +kernel, rfl, by decide +kernel, by decide +kernel⟩
theorem scClaims : FnScope ["_law_row", "_law_most", "_law_found", "_law_k"] ["_law_row", "_law_most"] (defScope sClaims) := ⟨rfl, rfl, rfl, by decide +kernel, rfl, by decide +kernel, by decide +kernel⟩
/-! ### the draws' row -/
def RowIs (H : Hp) (r sc : Addr) : Prop := ∃ i s c : Int, H r = some (.lst [.ref sc, .int i, .int s, .int c]) ∧ 0 ≤ i ∧ 0 ≤ s ∧ s < 2147483647
/-- all but r stays -/
def But (r : Addr) (H H' : Hp) : Prop := ∀ b o, b ≠ r → H b = some o → H' b = some o
theorem But.refl (r : Addr) (H : Hp) : But r H H := fun _ _ _ h => h
theorem But.trans {r : Addr} {H H1 H2 : Hp} (a : But r H H1) (b : But r H1 H2) : But r H H2 := fun c o h e => b c o h (a c o h e)
theorem But.same {r : Addr} {H H1 : Hp} (s : Same H H1) : But r H H1 := fun c o _ e => s c o e
theorem But.at {r : Addr} {H : Hp} {o : HO} : But r H (upd H r o) := fun b u h e => by rw [upd_ne h]; exact e
theorem But.new {r D : Addr} {H H1 : Hp} {o : HO} (a : But r H H1) (hD : H D = none) : But r H (upd H1 D o) := fun b u h e => by
  rw [upd_ne (ne_of_none e hD)]
  exact a b u h e
theorem But.none {r D : Addr} {H H1 : Hp} (a : But r H H1) (hD : H1 D = Option.none) (h : D ≠ r) : H D = Option.none := by
  cases e : H D with
  | none => rfl
  | some o => rw [a _ _ h e] at hD; cases hD
theorem RowIs.ne {H : Hp} {r sc D : Addr} (h : RowIs H r sc) (hD : H D = none) : r ≠ D := by
  obtain ⟨_, _, _, e, _⟩ := h
  exact ne_of_none e hD
theorem RowIs.upd {H : Hp} {r sc D : Addr} {o : HO} (h : RowIs H r sc) (hD : r ≠ D) : RowIs (upd H D o) r sc := by
  obtain ⟨i, s, c, e, q⟩ := h
  exact ⟨i, s, c, by rw [upd_ne hD]; exact e, q⟩
theorem SqL_but {K : PySem.W.Frag} {H H' : Hp} {r sc : Addr} {ns : List Int} (hr : RowIs H r sc) (h : SqL K H sc (ns.map V.int)) (b : But r H H') : SqL K H' sc (ns.map V.int) := by
  obtain ⟨i, s, c, e, _⟩ := hr
  rcases h with (h | ⟨o, h⟩) | h
  · have ne : sc ≠ r := by
      intro z
      rw [z, e] at h
      have h2 := HO.lst.inj (Option.some.inj h)
      cases ns with
      | nil => cases h2
      | cons a t => cases h2
    exact .inl (.inl (b _ _ ne h))
  · have ne : sc ≠ r := by
      intro z
      rw [z, e] at h
      cases h
    exact .inl (.inr ⟨o, b _ _ ne h⟩)
  · exact .inr h
section
variable {P : Program} {w : World} {K : PySem.W.Frag} {mg : Str → Option Value} {base : Heap}
def spTaken (K : PySem.W.Frag) : Sp := fun vs H Q _ => ∃ (r sc : Addr) (m : Int) (ns : List Int), vs = [.ref r, .int m] ∧ RowIs H r sc ∧ SqL K H sc (ns.map V.int) ∧ 0 < m ∧ m < 1073741824 ∧
  ∀ H' x, 0 ≤ x → x < m → But r H H' → RowIs H' r sc → Q (.int x) H'
theorem ok_taken {f : Addr} {fd : FuncData} {k : Nat} (F : Fun K "_law_taken" "_law_taken" sTaken f fd) (mI : mg "int" = none) (mL : mg "len" = none) : FnOk P w K mg base CX0 (k + 1) f fd ["_law_row", "_law_many"] (spTaken K) := by
  refine F.ok scTaken (fun vs H Q E h => ?_) (fun cdv A outer s H vs Q E hr h => ?_)
  · obtain ⟨r, sc, m, ns, rfl, _⟩ := h
    rfl
  · obtain ⟨r, sc, m, ns, rfl, hrow, hS, m0, m1, q⟩ := h
    refine ⟨_, pss_cons (ps_if (pt_cmpR op_gt (pe_ix ix_list (pv 0) pe_int (fun _ _ => rfl)) pe_int (nomark _))
        (pss_cons (ps_set (i := 2) scTaken.nd rfl (.inl rfl) (pe_op op_mod (pe_callTy call_int1 (by rfl) mI (by decide +kernel) (pa_cons (pe_ix ix_list (pv 0) pe_int (fun _ _ => rfl)) pa_nil)) (pv 1)))
        (pss_cons (ps_asg (pe_op op_fdiv (pe_ix ix_list (pv 0) pe_int (fun _ _ => rfl)) (pv 1)) (pg_sub (pv 0) pe_int set_list))
        (pss_one (ps_ret (pv 2)))))
        pss_nil)
      (pss_cons (ps_asg (pe_op op_add (pe_ix ix_list (pv 0) pe_int (fun _ _ => rfl)) pe_int) (pg_sub (pv 0) pe_int set_list))
      (pss_cons (ps_if (pt_cmpR op_gt (pe_ix ix_list (pv 0) pe_int (fun _ _ => rfl)) (pe_callB call_len_seq (by rfl) mL PySem.boot_len (pa_cons (pe_ix ix_list (pv 0) pe_int (fun _ _ => rfl)) pa_nil)) (nomark _))
        (pss_cons (ps_asg (pe_op op_mod (pe_callTy call_int1 (by rfl) mI (by decide +kernel) (pa_cons (pe_op op_add (pe_op op_mul (pe_ix ix_list (pv 0) pe_int (fun _ _ => rfl)) pe_int) pe_int) pa_nil)) pe_int) (pg_sub (pv 0) pe_int set_list))
        (pss_one (ps_ret (pe_op op_mod (pe_callTy call_int1 (by rfl) mI (by decide +kernel) (pa_cons (pe_op op_fdiv (pe_ix ix_list (pv 0) pe_int (fun _ _ => rfl)) pe_int) pa_nil)) (pv 1)))))
        pss_nil)
      (pss_cons (ps_set (i := 3) scTaken.nd rfl (.inl rfl) (pe_ix ix_list (pe_ix ix_list (pv 0) pe_int (fun _ _ => rfl)) (pe_op op_sub (pe_ix ix_list (pv 0) pe_int (fun _ _ => rfl)) pe_int) (fun _ _ => rfl)))
      (pss_cons (ps_asg (pe_op op_mod (pe_callTy call_int1 (by rfl) mI (by decide +kernel) (pa_cons (pe_op op_add (pe_op op_add (pe_op op_mul (pe_ix ix_list (pv 0) pe_int (fun _ _ => rfl)) pe_int) (pv 3)) pe_int) pa_nil)) pe_int) (pg_sub (pv 0) pe_int set_list))
      (pss_cons (ps_if (pt_cmpR op_ge (pv 3) (pe_op op_pow pe_int pe_int) (nomark _))
        (pss_one (ps_asg (pe_op op_fdiv (pv 3) (pv 1)) (pg_sub (pv 0) pe_int set_list))) pss_nil)
      (pss_one (ps_ret (pe_op op_mod (pe_callTy call_int1 (by rfl) mI (by decide +kernel) (pa_cons (pv 3) pa_nil)) (pv 1))))))))), ?_⟩
    obtain ⟨i, sd, c, e, hi, hs0, hs1⟩ := id hrow
    refine ⟨_, rfl, r, _, 3, _, rfl, rfl, SqL.of e, atI_nat (j := 3) rfl, _, _, rfl, rfl, _, rfl, ite2 (fun hc => ?_) (fun hc => ?_)⟩
    · -- the rest of a great cell
      refine ⟨_, rfl, r, _, 3, _, rfl, rfl, SqL.of e, atI_nat (j := 3) rfl, .inl ⟨_, rfl, _, rfl, _, _, rfl, rfl, m0, ?_⟩⟩
      refine ⟨_, rfl, r, _, 3, _, rfl, rfl, SqL.of e, atI_nat (j := 3) rfl, _, rfl, _, _, rfl, rfl, ⟨m0, m1⟩, _, rfl, r, _, 3, 3, rfl, rfl, e, rfl, ?_⟩
      refine ⟨_, rfl, q _ _ (Int.emod_nonneg _ (by omega)) (Int.emod_lt_of_pos _ m0) But.at ⟨_, _, _, upd_same, hi, hs0, hs1⟩⟩
    · refine ⟨_, rfl, r, _, 1, _, rfl, rfl, SqL.of e, atI_nat (j := 1) rfl, _, _, rfl, rfl, _, rfl, r, _, 1, 1, rfl, rfl, e, rfl, ?_⟩
      have b1 : But r H (upd H r (.lst [.ref sc, .int (i + 1), .int sd, .int c])) := But.at
      have e1 : upd H r (.lst [.ref sc, .int (i + 1), .int sd, .int c]) r = some (.lst [.ref sc, .int (i + 1), .int sd, .int c]) := upd_same
      have S1 : SqL K (upd H r (.lst [.ref sc, .int (i + 1), .int sd, .int c])) sc (ns.map V.int) := SqL_but hrow hS b1
      generalize hH1 : upd H r (.lst [.ref sc, .int (i + 1), .int sd, .int c]) = H1 at *
      show tSeq _ _ _ _ (upd H r (.lst [.ref sc, .int (i + 1), .int sd, .int c]))
      rw [hH1]
      refine ⟨_, rfl, r, _, 1, _, rfl, rfl, SqL.of e1, atI_nat (j := 1) rfl, _, rfl, r, _, 0, _, rfl, rfl, SqL.of e1, atI_nat (j := 0) rfl, sc, _, rfl, .inl S1, _, _, rfl, rfl, _, rfl, ite2 (fun hl => ?_) (fun hl => ?_)⟩
      · refine ⟨_, rfl, r, _, 2, _, rfl, rfl, SqL.of e1, atI_nat (j := 2) rfl, _, _, rfl, rfl, .inl ⟨by omega, by omega⟩, _, _, rfl, rfl, .inl ⟨_, rfl, _, _, rfl, rfl, (by show (0 : Int) < 2147483647; decide), _, rfl, r, _, 2, 2, rfl, rfl, e1, rfl, ?_⟩⟩
        refine ⟨_, rfl, r, _, 2, _, rfl, rfl, SqL.of upd_same, atI_nat (j := 2) rfl, _, _, rfl, rfl, ⟨by decide, by decide⟩, .inl ⟨_, rfl, _, rfl, _, _, rfl, rfl, m0, ?_⟩⟩
        exact q _ _ (Int.emod_nonneg _ (by omega)) (Int.emod_lt_of_pos _ m0) (b1.trans But.at) ⟨_, _, _, upd_same, by omega, Int.emod_nonneg _ (by omega), Int.emod_lt_of_pos _ (by omega)⟩
      · have hl' : i + 1 ≤ ((ns.map V.int).length : Int) := by
          have := of_decide_eq_false (eq_false_of_ne_true hl)
          omega
        rw [List.length_map] at hl'
        obtain ⟨j, rfl⟩ := Int.eq_ofNat_of_zero_le hi
        have hj : j < ns.length := by omega
        have ha : atI (ns.map V.int) ((j : Int) + 1 - 1) = some (.int ns[j]) := by
          rw [show (j : Int) + 1 - 1 = (j : Int) by omega]
          exact atI_nat (by rw [List.getElem?_map, List.getElem?_eq_getElem hj]; rfl)
        refine ⟨_, rfl, r, _, 0, _, rfl, rfl, SqL.of e1, atI_nat (j := 0) rfl, _, rfl, r, _, 1, _, rfl, rfl, SqL.of e1, atI_nat (j := 1) rfl, _, _, rfl, rfl, sc, _, _, _, rfl, rfl, S1, ha, ?_⟩
        refine ⟨_, rfl, r, _, 2, _, rfl, rfl, SqL.of e1, atI_nat (j := 2) rfl, _, _, rfl, rfl, .inl ⟨by omega, by omega⟩, _, rfl, _, _, rfl, rfl, _, _, rfl, rfl, .inl ⟨_, rfl, _, _, rfl, rfl, (by show (0 : Int) < 2147483647; decide), _, rfl, r, _, 2, 2, rfl, rfl, e1, rfl, ?_⟩⟩
        refine ⟨_, rfl, _, _, rfl, rfl, ⟨by decide, by decide, by decide⟩, _, _, rfl, rfl, _, rfl, ite2 (fun hg => ?_) (fun hg => ?_)⟩
        · refine ⟨_, rfl, _, rfl, _, _, rfl, rfl, ⟨m0, m1⟩, _, rfl, r, _, 3, 3, rfl, rfl, upd_same, rfl, ?_⟩
          refine ⟨_, rfl, .inl ⟨_, rfl, _, rfl, _, _, rfl, rfl, m0, ?_⟩⟩
          exact q _ _ (Int.emod_nonneg _ (by omega)) (Int.emod_lt_of_pos _ m0) ((b1.trans But.at).trans But.at) ⟨_, _, _, upd_same, by omega, Int.emod_nonneg _ (by omega), Int.emod_lt_of_pos _ (by omega)⟩
        · refine ⟨_, rfl, .inl ⟨_, rfl, _, rfl, _, _, rfl, rfl, m0, ?_⟩⟩
          exact q _ _ (Int.emod_nonneg _ (by omega)) (Int.emod_lt_of_pos _ m0) (b1.trans But.at) ⟨_, _, _, upd_same, by omega, Int.emod_nonneg _ (by omega), Int.emod_lt_of_pos _ (by omega)⟩
end
end K37
namespace K37
open PySem PySem.Spec PyProof.Rows L2
/-- claims as the law draws them -/
def OkW (ws : List Int) : Prop := ws.length ≤ 4 ∧ ∃ zs z, ws = zs ++ [z] ∧ (∀ x ∈ zs, 0 ≤ x ∧ x ≤ 30) ∧ 1 ≤ z ∧ z ≤ 5
section
variable {P : Program} {w : World} {K : PySem.W.Frag} {mg : Str → Option Value} {base : Heap}
def spPick (K : PySem.W.Frag) : Sp := fun vs H Q _ => ∃ (r sc t : Addr) (xs : List V) (ns : List Int), vs = [.ref r, .ref t] ∧ H t = some (.lst xs) ∧ t ≠ r ∧ 0 < xs.length ∧ xs.length < 1000 ∧ RowIs H r sc ∧ SqL K H sc (ns.map V.int) ∧
  ∀ H' x, x ∈ xs → But r H H' → RowIs H' r sc → Q x H'
theorem ok_pick {f fT : Addr} {fd fdT : FuncData} {k : Nat} (F : Fun K "_law_pick" "_law_pick" sPick f fd) (FT : Fun K "_law_taken" "_law_taken" sTaken fT fdT) (GT : FnOk P w K mg base CX0 k fT fdT ["_law_row", "_law_many"] (spTaken K)) (bT : Binds K fdT ["_law_row", "_law_many"] []) (mT : mg "_law_taken" = some (.ref fT)) (mL : mg "len" = none) :
    FnOk P w K mg base CX0 (k + 1) f fd ["_law_row", "_law_things"] (spPick K) := by
  refine F.ok scPick (fun vs H Q E h => ?_) (fun cdv A outer s H vs Q E hr h => ?_)
  · obtain ⟨r, sc, t, xs, ns, rfl, _⟩ := h
    rfl
  · obtain ⟨r, sc, t, xs, ns, rfl, ht, htr, h0, h1, hrow, hS, q⟩ := h
    refine ⟨_, pss_one (ps_ret (pe_ix ix_list (pv 1) (pe_call GT hr (by rfl) mT FT.kp bT .nil pass0 (pa_cons (pv 0) (pa_cons (pe_callB call_len_seq (by rfl) mL PySem.boot_len (pa_cons (pv 1) pa_nil)) pa_nil))) (fun _ _ => rfl))), ?_⟩
    refine ⟨_, rfl, _, rfl, _, rfl, t, xs, rfl, .inl (SqL.of ht), r, sc, _, ns, rfl, hrow, hS, by omega, by omega, fun H' x x0 x1 bt row => ?_⟩
    obtain ⟨j, rfl⟩ := Int.eq_ofNat_of_zero_le x0
    have hj : j < xs.length := by omega
    refine ⟨t, xs, _, xs[j], rfl, rfl, SqL.of (bt _ _ htr ht), atI_nat (List.getElem?_eq_getElem hj), ?_⟩
    exact q H' _ (List.getElem_mem hj) bt row
def spClaims (K : PySem.W.Frag) : Sp := fun vs H Q _ => ∃ (r sc : Addr) (m : Int) (ns : List Int), vs = [.ref r, .int m] ∧ RowIs H r sc ∧ SqL K H sc (ns.map V.int) ∧ 0 < m ∧ m ≤ 4 ∧
  ∀ H' p ws, But r H H' → RowIs H' r sc → H p = none → H' p = some (.tup (ws.map V.int)) → OkW ws → Q (.ref p) H'
theorem ok_claims {f fT fP : Addr} {fd fdT fdP : FuncData} {k : Nat} (F : Fun K "_law_claims" "_law_claims" sClaims f fd) (FT : Fun K "_law_taken" "_law_taken" sTaken fT fdT) (GT : FnOk P w K mg base CX0 k fT fdT ["_law_row", "_law_many"] (spTaken K)) (bT : Binds K fdT ["_law_row", "_law_many"] []) (mT : mg "_law_taken" = some (.ref fT))
    (FP : Fun K "_law_pick" "_law_pick" sPick fP fdP) (GP : FnOk P w K mg base CX0 k fP fdP ["_law_row", "_law_things"] (spPick K)) (bP : Binds K fdP ["_law_row", "_law_things"] []) (mP : mg "_law_pick" = some (.ref fP)) (mRg : mg "range" = none) (mTu : mg "tuple" = none) :
    FnOk P w K mg base CX0 (k + 1) f fd ["_law_row", "_law_most"] (spClaims K) := by
  refine F.ok scClaims (fun vs H Q E h => ?_) (fun cdv A outer s H vs Q E hr h => ?_)
  · obtain ⟨r, sc, m, ns, rfl, _⟩ := h
    rfl
  · obtain ⟨r, sc, m, ns, rfl, hrow, hS, m0, m1, q⟩ := h
    refine ⟨_, pss_cons (ps_setLc (i := 2) (own := [("_law_k", 3)]) (g := gName 3) (tt := tYes) rfl scClaims.nd rfl rfl (sw_true rfl rfl rfl (by decide +kernel))
        (pi_range1 rfl mRg (pa_cons (pe_call GT hr (by rfl) mT FT.kp bT .nil pass0 (pa_cons (pv 0) (pa_cons (pv 1) pa_nil))) pa_nil))
        (blkOk_by (N := ["_law_row", "_law_most", "_law_found", "_law_k"]) (sc := defScope sClaims) (by decide +kernel))
        (fun _ _ _ _ _ => pg_name (i := 3) scClaims.nd rfl (Or.inl rfl)) (fun _ _ _ _ _ => pts_nil)
        (fun _ _ _ _ _ => pe_call GP hr (by rfl) mP FP.kp bP .nil pass0 (pa_cons (pv 0) (pa_cons (pe_lst (pa_cons pe_int (pa_cons pe_int (pa_cons pe_int (pa_cons pe_int (pa_cons pe_int
          (pa_cons (pe_call GT hr (by rfl) mT FT.kp bT .nil pass0 (pa_cons (pv 0) (pa_cons pe_int pa_nil))) pa_nil))))))) pa_nil))))
      (pss_one (ps_ret (pe_op op_catA (pe_callTy call_tuple_of (by rfl) mTu (by decide +kernel) (pa_cons (pv 2) pa_nil))
        (pe_tup (pa_cons (pe_call GP hr (by rfl) mP FP.kp bP .nil pass0 (pa_cons (pv 0) (pa_cons (pe_lst (pa_cons pe_int (pa_cons pe_int (pa_cons pe_int pa_nil)))) pa_nil))) pa_nil))))), ?_⟩
    refine ⟨_, rfl, _, rfl, r, sc, m, ns, rfl, hrow, hS, m0, by omega, fun H1 n n0 n1 b1 row1 => ?_⟩
    obtain ⟨n', rfl⟩ := Int.eq_ofNat_of_zero_le n0
    refine ⟨_, rfl, by omega, by omega, fun D hD => ?_⟩
    have hD0 : H D = none := b1.none hD (row1.ne hD).symm
    refine lc_range (lo := 0) (n := n') (fun i H' => But r H H' ∧ RowIs H' r sc ∧ ∃ zs : List Int, H' D = some (.lst (zs.map V.int)) ∧ zs.length = i ∧ ∀ z ∈ zs, 0 ≤ z ∧ z ≤ 30)
      ⟨b1.new hD0, row1.upd (row1.ne hD), [], upd_same, rfl, fun z hz => absurd hz (by simp)⟩ (fun i H' hi hI => ?_) (fun H' hI => ?_)
    · obtain ⟨bt, row, zs, eD, hl, hz⟩ := hI
      have nD : D ≠ r := (row1.ne hD).symm
      refine ⟨rfl, _, rfl, _, rfl, r, sc, 30, ns, rfl, row, SqL_but hrow hS bt, by decide, by decide, fun H2 x x0 x1 b2 row2 => ?_⟩
      refine ⟨(by show 6 ≤ sizeLine; decide), fun l hl0 => ?_⟩
      have rl : r ≠ l := row2.ne hl0
      have b3 : But r H (upd H2 l (.lst [.int 0, .int 1, .int 1, .int 3, .int 10, .int x])) := (bt.trans b2).trans (But.same (same_upd hl0))
      have eD2 : H2 D = some (.lst (zs.map V.int)) := b2 _ _ nD eD
      refine ⟨r, sc, l, _, ns, rfl, upd_same, rl.symm, (by show 0 < 6; decide), (by show 6 < 1000; decide), row2.upd rl, SqL_but hrow hS b3, fun H3 y hy b4 row4 => ?_⟩
      have eD3 : H3 D = some (.lst (zs.map V.int)) := b4 _ _ nD (by
        rw [upd_ne (ne_of_none eD2 hl0)]
        exact eD2)
      obtain ⟨z, rfl, hz0, hz1⟩ : ∃ z, y = V.int z ∧ 0 ≤ z ∧ z ≤ 30 := by
        simp only [List.mem_cons, List.not_mem_nil, or_false] at hy
        rcases hy with rfl | rfl | rfl | rfl | rfl | rfl
        · exact ⟨_, rfl, by decide, by decide⟩
        · exact ⟨_, rfl, by decide, by decide⟩
        · exact ⟨_, rfl, by decide, by decide⟩
        · exact ⟨_, rfl, by decide, by decide⟩
        · exact ⟨_, rfl, by decide, by decide⟩
        · exact ⟨_, rfl, by omega, by omega⟩
      refine ⟨_, eD3, ?_, (b3.trans b4).new hD0, row4.upd nD.symm, zs ++ [z], ?_, ?_, fun a ha => ?_⟩
      · rw [List.length_map, hl]
        exact Nat.lt_of_lt_of_le (show i < 1000 by omega) (by decide)
      · rw [upd_same, List.map_append]
        rfl
      · rw [List.length_append, hl]
        rfl
      · rcases List.mem_append.mp ha with ha | ha
        · exact hz a ha
        · rw [List.mem_singleton.mp ha]
          exact ⟨hz0, hz1⟩
    · obtain ⟨bt, row, zs, eD, hl, hz⟩ := hI
      refine ⟨_, rfl, D, _, rfl, .inl ⟨SqL.of eD, fun t ht => ?_⟩⟩
      have rt' : r ≠ t := row.ne ht
      have b2 : But r H (upd H' t (.tup (zs.map V.int))) := bt.trans (But.same (same_upd ht))
      refine ⟨_, rfl, (by show 3 ≤ sizeLine; decide), fun l hl0 => ?_⟩
      have row2 := row.upd (o := .tup (zs.map V.int)) rt'
      have rl : r ≠ l := row2.ne hl0
      have b3 := b2.trans (But.same (same_upd (o := .lst [.int 1, .int 2, .int 5]) hl0))
      have tl : t ≠ l := ne_of_none (upd_same (H := H') (a := t) (o := .tup (zs.map V.int))) hl0
      refine ⟨r, sc, l, _, ns, rfl, upd_same, rl.symm, (by show 0 < 3; decide), (by show 3 < 1000; decide), row2.upd rl, SqL_but hrow hS b3, fun H3 y hy b4 row4 => ?_⟩
      have et : H3 t = some (.tup (zs.map V.int)) := b4 _ _ rt'.symm (by rw [upd_ne tl, upd_same])
      obtain ⟨z, rfl, hz0, hz1⟩ : ∃ z, y = V.int z ∧ 1 ≤ z ∧ z ≤ 5 := by
        simp only [List.mem_cons, List.not_mem_nil, or_false] at hy
        rcases hy with rfl | rfl | rfl
        · exact ⟨_, rfl, by decide, by decide⟩
        · exact ⟨_, rfl, by decide, by decide⟩
        · exact ⟨_, rfl, by decide, by decide⟩
      refine ⟨(by show 1 ≤ sizeLine; decide), fun u hu => ?_⟩
      have b5 := (b3.trans b4)
      have ru : r ≠ u := row4.ne hu
      have tu : t ≠ u := ne_of_none et hu
      have b6 := b5.trans (But.same (same_upd (o := .tup [.int z]) hu))
      have ok : OkW (zs ++ [z]) := ⟨by rw [List.length_append, hl]; show n' + 1 ≤ 4; omega, zs, z, rfl, hz, hz0, hz1⟩
      refine ⟨t, u, zs.map V.int, [.int z], rfl, rfl, SqT.of (by rw [upd_ne tu]; exact et), SqT.of upd_same, ?_, fun e0 => ?_, fun _ e0 => (nomatch e0), fun _ _ p hp => ?_⟩
      · rw [List.length_map, hl]
        exact Nat.le_trans (show n' + 1 ≤ 1000 by omega) (by decide)
      · have e0' : zs = [] := List.map_eq_nil_iff.mp e0
        subst e0'
        exact q _ u [z] b6 (row4.upd ru) (b5.none hu ru.symm) upd_same ok
      · have rp : r ≠ p := (row4.upd ru).ne hp
        refine q _ p (zs ++ [z]) (b6.trans (But.same (same_upd hp))) ((row4.upd ru).upd rp) (b6.none hp rp.symm) ?_ ok
        rw [upd_same, List.map_append]
        rfl
end
end K37
namespace K37
open PySem PySem.Spec PyProof.Rows L2
abbrev sAlike : Stmt := topS 31
theorem scAlike : FnScope ["_law_found", "_law_due", "_law_k"] ["_law_found", "_law_due"] (defScope sAlike) := ⟨rfl, rfl, rfl, by decide +kernel, rfl, by decide +kernel, by decide +kernel⟩
theorem boot_isi : bootBuiltins "isinstance" = some (.builtin "isinstance") := by decide +kernel
theorem boot_tup : bootBuiltins "tuple" = some (.type "tuple") := by decide +kernel
theorem boot_lst : bootBuiltins "list" = some (.type "list") := by decide +kernel
theorem boot_st : bootBuiltins "str" = some (.type "str") := by decide +kernel
theorem boot_it : bootBuiltins "int" = some (.type "int") := by decide +kernel
theorem boot_bo : bootBuiltins "bool" = some (.type "bool") := by decide +kernel
theorem k_int_tuple {K : PySem.W.Frag} : PySem.W.kitOne K (.type "int") (.type "tuple") = some false := kit_ty (by decide +kernel)
theorem k_int_list {K : PySem.W.Frag} : PySem.W.kitOne K (.type "int") (.type "list") = some false := kit_ty (by decide +kernel)
theorem k_int_str {K : PySem.W.Frag} : PySem.W.kitOne K (.type "int") (.type "str") = some false := kit_ty (by decide +kernel)
theorem k_int_int {K : PySem.W.Frag} : PySem.W.kitOne K (.type "int") (.type "int") = some true := kit_ty (by decide +kernel)
theorem k_int_bool {K : PySem.W.Frag} : PySem.W.kitOne K (.type "int") (.type "bool") = some false := kit_ty (by decide +kernel)
theorem k_tup_tup {K : PySem.W.Frag} : PySem.W.kitOne K (.type "tuple") (.type "tuple") = some true := kit_ty (by decide +kernel)
theorem k_tup_list {K : PySem.W.Frag} : PySem.W.kitOne K (.type "tuple") (.type "list") = some false := kit_ty (by decide +kernel)
theorem ka_int {K : PySem.W.Frag} : PySem.W.kitAny K (.type "int") [.type "tuple", .type "list"] = some false :=
  kitAny_cons k_int_tuple (fun _ => kitAny_cons k_int_list (fun _ => kitAny_nil) (fun h => nomatch h)) (fun h => nomatch h)
theorem ka_tup {K : PySem.W.Frag} : PySem.W.kitAny K (.type "tuple") [.type "tuple", .type "list"] = some true :=
  kitAny_cons k_tup_tup (fun h => nomatch h) (fun _ => rfl)
theorem cls2 : Paired ClsV [.ty "tuple", .ty "list"] [.type "tuple", .type "list"] := .cons (.ty _) (.cons (.ty _) .nil)
section
variable {P : Program} {w : World} {K : PySem.W.Frag} {mg : Str → Option Value} {base : Heap}
def spAlI : Sp := fun vs H Q _ => ∃ a : Int, vs = [.int a, .int a] ∧ ∀ H', Same H H' → Q (.bl true) H'
theorem ok_alikeI {f : Addr} {fd : FuncData} {k : Nat} (F : Fun K "_law_alike" "_law_alike" sAlike f fd) (mIs : mg "isinstance" = none) (mTu : mg "tuple" = none) (mLi : mg "list" = none) (mSt : mg "str" = none) (mI : mg "int" = none) (mBo : mg "bool" = none) :
    FnOk P w K mg base CX0 (k + 1) f fd ["_law_found", "_law_due"] spAlI := by
  refine F.ok scAlike (fun vs H Q E h => ?_) (fun cdv A outer s H vs Q E hr h => ?_)
  · obtain ⟨a, rfl, _⟩ := h
    rfl
  · obtain ⟨a, rfl, q⟩ := h
    refine ⟨_, pss_cons (ps_if (pt_val (pe_callB call_isiT (by rfl) mIs boot_isi (pa_cons (pv 1) (pa_cons (pe_tup (pa_cons (pe_bltn (v := .ty "tuple") (by rfl) mTu boot_tup rfl) (pa_cons (pe_bltn (v := .ty "list") (by rfl) mLi boot_lst rfl) pa_nil))) pa_nil))))
        pss_never pss_nil)
      (pss_cons (ps_if (PW.pt (pw_or (pt_cmpR op_isN (pv 1) pe_non (nomark _)) (pw_or1 (pt_val (pe_callB call_isi (by rfl) mIs boot_isi (pa_cons (pv 1) (pa_cons (pe_bltn (v := .ty "str") (by rfl) mSt boot_st rfl) pa_nil)))))))
        pss_never pss_nil)
      (pss_one (ps_ret (pe_and (pe_callB call_isi (by rfl) mIs boot_isi (pa_cons (pv 0) (pa_cons (pe_bltn (v := .ty "int") (by rfl) mI boot_it rfl) pa_nil)))
        (pe_and (pe_cmpR op_eq (pe_callB call_isi (by rfl) mIs boot_isi (pa_cons (pv 0) (pa_cons (pe_bltn (v := .ty "bool") (by rfl) mBo boot_bo rfl) pa_nil))) (pe_callB call_isi (by rfl) mIs boot_isi (pa_cons (pv 1) (pa_cons (pe_bltn (v := .ty "bool") (by rfl) mBo boot_bo rfl) pa_nil))) (nomark _))
        (pe_one (pe_cmpR op_eq (pv 0) (pv 1) (nomark _)))))))), ?_⟩
    refine ⟨_, rfl, (by show 2 ≤ sizeLine; decide), fun p hp => ⟨_, p, _, _, _, false, rfl, upd_same, cls2, .base (.int a), ka_int, _, rfl, iteF ?_⟩⟩
    refine ⟨_, rfl, rfl, false, rfl, iteF ⟨_, rfl, _, _, _, _, false, rfl, .ty _, .base (.int a), k_int_str, _, rfl, iteF ?_⟩⟩
    refine ⟨_, rfl, _, _, _, _, true, rfl, .ty _, .base (.int a), k_int_int, _, rfl, iteT ?_⟩
    refine ⟨_, rfl, _, _, _, _, false, rfl, .ty _, .base (.int a), k_int_bool, _, rfl, _, _, _, _, false, rfl, .ty _, .base (.int a), k_int_bool, rfl, _, rfl, iteT ?_⟩
    refine ⟨_, rfl, _, rfl, rfl, ?_⟩
    rw [decide_eq_true rfl]
    exact q _ (same_upd hp)
def spAlT : Sp := fun vs H Q _ => ∃ (p r : Addr) (x : Rat), vs = [.ref p, .ref r] ∧ At H p x ∧ At H r x ∧ ∀ H', Same H H' → Q (.bl true) H'
theorem ok_alikeT {f : Addr} {fd : FuncData} {k : Nat} (F : Fun K "_law_alike" "_law_alike" sAlike f fd) (GA : FnOk P w K mg base CX0 k f fd ["_law_found", "_law_due"] spAlI) (bA : Binds K fd ["_law_found", "_law_due"] []) (mA : mg "_law_alike" = some (.ref f))
    (mIs : mg "isinstance" = none) (mTu : mg "tuple" = none) (mLi : mg "list" = none) (mL : mg "len" = none) (mRg : mg "range" = none) :
    FnOk P w K mg base CX0 (k + 1) f fd ["_law_found", "_law_due"] spAlT := by
  refine F.ok scAlike (fun vs H Q E h => ?_) (fun cdv A outer s H vs Q E hr h => ?_)
  · obtain ⟨p, r, x, rfl, _⟩ := h
    rfl
  · obtain ⟨p, r, x, rfl, hp, hq, q⟩ := h
    refine ⟨_, pss_cons (ps_if (pt_val (pe_callB call_isiT (by rfl) mIs boot_isi (pa_cons (pv 1) (pa_cons (pe_tup (pa_cons (pe_bltn (v := .ty "tuple") (by rfl) mTu boot_tup rfl) (pa_cons (pe_bltn (v := .ty "list") (by rfl) mLi boot_lst rfl) pa_nil))) pa_nil))))
        (pss_cons (ps_if (PW.pt (pw_or (pt_not (pt_val (pe_callB call_isiT (by rfl) mIs boot_isi (pa_cons (pv 0) (pa_cons (pe_tup (pa_cons (pe_bltn (v := .ty "tuple") (by rfl) mTu boot_tup rfl) (pa_cons (pe_bltn (v := .ty "list") (by rfl) mLi boot_lst rfl) pa_nil))) pa_nil)))))
            (pw_or1 (pt_cmpR op_ne (pe_callB call_isi (by rfl) mIs boot_isi (pa_cons (pv 0) (pa_cons (pe_bltn (v := .ty "list") (by rfl) mLi boot_lst rfl) pa_nil))) (pe_callB call_isi (by rfl) mIs boot_isi (pa_cons (pv 1) (pa_cons (pe_bltn (v := .ty "list") (by rfl) mLi boot_lst rfl) pa_nil))) (nomark _)))))
          pss_never pss_nil)
        (pss_cons (ps_if (pt_cmpR op_ne (pe_callB call_len_seq (by rfl) mL PySem.boot_len (pa_cons (pv 0) pa_nil)) (pe_callB call_len_seq (by rfl) mL PySem.boot_len (pa_cons (pv 1) pa_nil)) (nomark _)) pss_never pss_nil)
        (pss_one (ps_ret (pe_cmpR (op_eqD hr.units)
          (pe_lc (own := [("_law_k", 2)]) (g := gName 2) (tt := tNot (tB (tCall spAlI [] E0 (tCons (tOp (rIxT K) (tVar 0) (tVar 2)) (tCons (tOp (rIxT K) (tVar 1) (tVar 2)) tNil))))) rfl scAlike.nd (pi_range1 rfl mRg (pa_cons (pe_callB call_len_seq (by rfl) mL PySem.boot_len (pa_cons (pv 1) pa_nil)) pa_nil))
            (blkOk_by (N := ["_law_found", "_law_due", "_law_k"]) (sc := defScope sAlike) (by decide +kernel))
            (fun _ _ _ _ _ => pg_name (i := 2) scAlike.nd rfl (Or.inl rfl))
            (fun _ _ _ _ _ => pts_one (pt_not (pt_val (pe_call GA hr (by rfl) mA F.kp bA .nil pass0 (pa_cons (pe_ix ix_tup (pv 0) (pv 2) (fun _ _ => rfl)) (pa_cons (pe_ix ix_tup (pv 1) (pv 2) (fun _ _ => rfl)) pa_nil))))))
            (fun _ _ _ _ _ => pv 2))
          (pe_lst pa_nil) (nomark _))))))
        pss_nil) pss_never, ?_⟩
    refine ⟨_, rfl, (by show 2 ≤ sizeLine; decide), fun t1 h1 => ⟨_, t1, _, _, _, true, rfl, upd_same, cls2, .base (.tup (hq.seq (same_upd h1))), ka_tup, _, rfl, iteT ?_⟩⟩
    have s1 : Same H (upd H t1 (.tup [.ty "tuple", .ty "list"])) := same_upd h1
    refine ⟨_, rfl, (by show 2 ≤ sizeLine; decide), fun t2 h2 => ⟨_, t2, _, _, _, true, rfl, upd_same, cls2, .base (.tup ((hp.seq s1).seq (same_upd h2))), ka_tup, _, rfl, iteF ?_⟩⟩
    have s2 := s1.trans (same_upd (o := .tup [.ty "tuple", .ty "list"]) h2)
    refine ⟨_, rfl, _, _, _, _, false, rfl, .ty _, .base (.tup (hp.seq s2)), k_tup_list, _, rfl, _, _, _, _, false, rfl, .ty _, .base (.tup (hq.seq s2)), k_tup_list, rfl, _, rfl, iteF ?_⟩
    refine ⟨_, rfl, p, _, rfl, .inr (hp.seq s2).t, _, rfl, r, _, rfl, .inr (hq.seq s2).t, rfl, _, rfl, iteF ?_⟩
    generalize upd (upd H t1 (.tup [.ty "tuple", .ty "list"])) t2 (.tup [.ty "tuple", .ty "list"]) = H2 at *
    refine ⟨_, rfl, r, _, rfl, .inr (hq.seq s2).t, _, rfl, (by show -2 ^ 62 ≤ (2 : Int); decide), (by show (2 : Int) < 2 ^ 62; decide), fun D hD => ?_⟩
    refine lc_range (lo := 0) (n := 2) (fun i H' => Same H H' ∧ H' D = some (.lst [])) ⟨s2.trans (same_upd hD), upd_same⟩ (fun i H' hi hI => ?_) (fun H' hI => ?_)
    · obtain ⟨sm, eD⟩ := hI
      refine ⟨rfl, ?_⟩
      obtain ⟨z, hz⟩ : ∃ z : Int, (rt x)[i]? = some (.int z) := by
        match i, hi with
        | 0, _ => exact ⟨_, rfl⟩
        | 1, _ => exact ⟨_, rfl⟩
      have ha : atI (rt x) (0 + (i : Int)) = some (.int z) := by
        rw [Int.zero_add]
        exact atI_nat hz
      refine ⟨_, rfl, _, rfl, p, _, _, _, rfl, rfl, (hp.seq sm).t, ha, _, rfl, _, rfl, r, _, _, _, rfl, rfl, (hq.seq sm).t, ha, z, rfl, fun H3 s3 => ?_⟩
      exact ⟨_, rfl, sm.trans s3, s3 _ _ eD⟩
    · obtain ⟨sm, eD⟩ := hI
      refine ⟨Nat.zero_le _, fun l hl => ?_⟩
      refine ⟨.list [], .list [], .lst (SqL.of (same_upd hl _ _ eD)) .nil, .lst (SqL.of upd_same) .nil, rfl, rfl, ?_⟩
      exact q _ (sm.trans (same_upd hl))
end
end K37
namespace K37
open PySem PySem.Spec PyProof.Rows L2
abbrev sRec : Stmt := topS 25
theorem scRec : FnScope ["first", "a", "b", "claims", "most", "chances", "found", "scale", "goal", "here", "k", "factor"] ["first", "a", "b", "claims", "most"] (defScope sRec) := ⟨rfl, rfl, rfl, by decide +kernel, rfl, by decide +kernel, by decide +kernel⟩
/-- the sizes of all that the recursion reckons -/
structure RecSz (c : Nat → Rat) (L : Nat) (a b : Rat) (g : Nat → Rat) (n : Nat) : Prop where
  za : Sz a
  zb : Sz b
  zc : ∀ k, k < L → Sz (c k)
  zac : Sz (a * c 0)
  z1 : Sz (1 - a * c 0)
  pos : 0 < 1 - a * c 0
  zs : Sz (1 / (1 - a * c 0))
  zr : ∀ k m : Nat, 1 ≤ k → k ≤ m → m ≤ n → Sz ((k : Rat) / (m : Rat))
  zbr : ∀ k m : Nat, 1 ≤ k → k ≤ m → m ≤ n → Sz (b * ((k : Rat) / (m : Rat)))
  zf : ∀ k m : Nat, 1 ≤ k → k ≤ m → m ≤ n → Sz (a + b * ((k : Rat) / (m : Rat)))
  zfc : ∀ k m : Nat, 1 ≤ k → k ≤ m → m ≤ n → k < L → Sz ((a + b * ((k : Rat) / (m : Rat))) * c k)
  zg : ∀ m, m ≤ n → Sz (g m)
  zt : ∀ k m : Nat, 1 ≤ k → k ≤ m → m ≤ n → k < L → Sz (((a + b * ((k : Rat) / (m : Rat))) * c k) * g (m - k))
  zh : ∀ m j : Nat, 1 ≤ m → m ≤ n → j ≤ m → j < L → Sz (K37.here c g a b m j)
theorem Sz.one : Sz 1 := ⟨by decide +kernel, by decide +kernel⟩
theorem Sz.zero : Sz 0 := ⟨by decide +kernel, by decide +kernel⟩
structure WOk (ws : List Int) : Prop where
  pos : 0 < ws.sum
  lt : ws.sum.natAbs < 2 ^ BZ
  len : ws.length ≤ 1000
  ne : 1 ≤ ws.length
theorem ratio_nat (k m : Nat) : Rat.divInt (k : Int) (m : Int) = (k : Rat) / (m : Rat) := by
  rw [Rat.divInt_eq_div, Rat.intCast_natCast, Rat.intCast_natCast]
section
variable {P : Program} {w : World} {K : PySem.W.Frag} {mg : Str → Option Value} {base : Heap}
def spRec (K : PySem.W.Frag) : Sp := fun vs H Q _ => ∃ (pf pa pb pc : Addr) (n : Nat) (ws : List Int) (a b : Rat) (g : Nat → Rat), vs = [.ref pf, .ref pa, .ref pb, .ref pc, .int (n : Int)] ∧ At H pf (g 0) ∧ At H pa a ∧ At H pb b ∧ SqT K H pc (ws.map V.int) ∧ WOk ws ∧ n ≤ 40 ∧
  RecSz (cs ws) ws.length a b g n ∧ IsRec (cs ws) ws.length a b g ∧
  ∀ H' p ps, Same H H' → H p = none → H' p = some (.tup ps) → Rts H' ps (n + 1) g → Q (.ref p) H'
theorem ok_rec {f : Addr} {fd : FuncData} {k : Nat} (F : Fun K "recursion" "recursion" sRec f fd)
    (cC : C8.Cal P w K mg base k "chances_of" (spChances K) []) (cO : C8.Cal P w K mg base k "over" (spBin (· / ·) fun y => 0 < y) []) (cM : C8.Cal P w K mg base k "minus" (spBin (· - ·) fun _ => True) [])
    (cB : C8.Cal P w K mg base k "by" (spBin (· * ·) fun _ => True) []) (cP : C8.Cal P w K mg base k "plus" (spBin (· + ·) fun _ => True) []) (cR : C8.Cal P w K mg base k "ratio" spRatio [])
    (mRg : mg "range" = none) (mMi : mg "min" = none) (mL : mg "len" = none) (mTu : mg "tuple" = none) :
    FnOk P w K mg base CX0 (k + 1) f fd ["first", "a", "b", "claims", "most"] (spRec K) := by
  refine F.ok scRec (fun vs H Q E h => ?_) (fun cdv A outer s H vs Q E hr h => ?_)
  · obtain ⟨pf, pa, pb, pc, n, ws, a, b, g, rfl, _⟩ := h
    rfl
  · obtain ⟨pf, pa, pb, pc, n, ws, a, b, g, rfl, hf, ha, hb, hS, hw, hn, Z, hrec, q⟩ := h
    have kk : k ≤ k := Nat.le_refl _
    refine ⟨_, pss_cons (ps_par (i := 5) (j := 6) rfl scRec.nd rfl rfl (by decide) rfl rfl
        (pa_cons (C8.pe_c cC hr kk (by rfl) (pa_cons (pv 3) pa_nil)) (pa_cons (pe_lst (pa_cons (pv 0) pa_nil)) pa_nil)) (by rfl))
      (pss_cons (ps_set (i := 7) scRec.nd rfl (.inl rfl) (C8.pe_c cO hr kk (by rfl) (pa_cons (pe_tup (pa_cons pe_int (pa_cons pe_int pa_nil)))
        (pa_cons (C8.pe_c cM hr kk (by rfl) (pa_cons (pe_tup (pa_cons pe_int (pa_cons pe_int pa_nil))) (pa_cons (C8.pe_c cB hr kk (by rfl) (pa_cons (pv 1) (pa_cons (pe_ix ix_list (pv 5) pe_int (fun _ _ => rfl)) pa_nil))) pa_nil))) pa_nil))))
      (pss_cons (ps_for PassesOwn.never rfl (pi_range2 rfl mRg (pa_cons pe_int (pa_cons (pe_op op_add (pv 4) pe_int) pa_nil))) (pg_name (i := 8) scRec.nd rfl (Or.inl rfl))
        (pss_cons (ps_set (i := 9) scRec.nd rfl (.inl rfl) (pe_tup (pa_cons pe_int (pa_cons pe_int pa_nil))))
        (pss_cons (ps_for PassesOwn.never rfl (pi_range2 rfl mRg (pa_cons pe_int (pa_cons (pe_op op_add (pe_callB (call_min2 rfl) (by rfl) mMi boot_min (pa_cons (pv 8) (pa_cons (pe_op op_sub (pe_callB call_len_seq (by rfl) mL PySem.boot_len (pa_cons (pv 5) pa_nil)) pe_int) pa_nil))) pe_int) pa_nil))) (pg_name (i := 10) scRec.nd rfl (Or.inl rfl))
          (pss_cons (ps_set (i := 11) scRec.nd rfl (.inl rfl) (C8.pe_c cP hr kk (by rfl) (pa_cons (pv 1) (pa_cons (C8.pe_c cB hr kk (by rfl) (pa_cons (pv 2) (pa_cons (C8.pe_c cR hr kk (by rfl) (pa_cons (pv 10) (pa_cons (pv 8) pa_nil))) pa_nil))) pa_nil))))
          (pss_one (ps_set (i := 9) scRec.nd rfl (.inl rfl) (C8.pe_c cP hr kk (by rfl) (pa_cons (pv 9) (pa_cons (C8.pe_c cB hr kk (by rfl) (pa_cons (C8.pe_c cB hr kk (by rfl) (pa_cons (pv 11) (pa_cons (pe_ix ix_list (pv 5) (pv 10) (fun _ _ => rfl)) pa_nil)))
            (pa_cons (pe_ix ix_list (pv 6) (pe_op op_sub (pv 8) (pv 10)) (fun _ _ => rfl)) pa_nil))) pa_nil)))))))
        (pss_one (ps_expr (pe_bm PySem.F.plainAttrs_list PySem.F.slot_list_append PySem.F.type_list_append mt_append (pv 6) (pa_cons (C8.pe_c cB hr kk (by rfl) (pa_cons (pv 7) (pa_cons (pv 9) pa_nil))) pa_nil))))))
      )
      (pss_one (ps_ret (pe_callTy call_tuple_of (by rfl) mTu (by decide +kernel) (pa_cons (pv 6) pa_nil))))))
      , ?_⟩
    -- chances, found = chances_of(claims), [first]
    refine ⟨_, rfl, pc, ws, rfl, hS, hw.pos, hw.lt, hw.len, fun H1 pch cps s1 n1 e1 r1 => ?_⟩
    refine ⟨_, rfl, (by show 1 ≤ sizeLine; decide), fun pfd hfd => ⟨_, _, rfl, ?_⟩⟩
    have nfd : H pfd = none := same_none s1 hfd
    have ncf : pch ≠ pfd := ne_of_none e1 hfd
    have s2 : Same H (upd H1 pfd (.lst [.ref pf])) := s1.trans (same_upd hfd)
    have e2 : upd H1 pfd (.lst [.ref pf]) pch = some (.lst cps) := same_upd hfd _ _ e1
    have r2 : Rts (upd H1 pfd (.lst [.ref pf])) cps ws.length (cs ws) := r1.seq fun b y hy => hy.seq (same_upd hfd)
    have f2 : upd H1 pfd (.lst [.ref pf]) pfd = some (.lst [.ref pf]) := upd_same
    have g2 : Rts (upd H1 pfd (.lst [.ref pf])) [.ref pf] 1 g := (Rts.nil (x := g)).snoc (hf.seq s2)
    generalize upd H1 pfd (.lst [.ref pf]) = H2 at *
    -- scale
    obtain ⟨pc0, ec0, hc0⟩ := r2.at' (i := 0) hw.ne
    refine ⟨(by show 2 ≤ sizeLine; decide), fun t1 h1 => ⟨(by show 2 ≤ sizeLine; decide), fun t2 h2 => ?_⟩⟩
    have s3 := same_upd (o := .tup [.int 1, .int 1]) h1
    have s4 := s3.trans (same_upd (o := .tup [.int 1, .int 1]) h2)
    have a1 : At (upd H2 t1 (.tup [.int 1, .int 1])) t1 1 := upd_same
    have a2 : At (upd (upd H2 t1 (.tup [.int 1, .int 1])) t2 (.tup [.int 1, .int 1])) t2 1 := upd_same
    have a1' := a1.seq (same_upd (o := .tup [.int 1, .int 1]) h2)
    generalize upd (upd H2 t1 (.tup [.int 1, .int 1])) t2 (.tup [.int 1, .int 1]) = H4 at *
    refine ⟨_, rfl, _, rfl, pch, _, 0, _, rfl, rfl, SqL.of (s4 _ _ e2), ec0, pa, pc0, a, cs ws 0, rfl, ha.seq (s2.trans s4), hc0.seq s4, Z.za, Z.zc 0 hw.ne, trivial, fun H5 t5 s5 n5 a5 => ?_⟩
    refine ⟨t2, t5, 1, _, rfl, a2.seq s5, a5, Sz.one, Z.zac, trivial, fun H6 t6 s6 n6 a6 => ?_⟩
    refine ⟨t1, t6, 1, _, rfl, (a1'.seq s5).seq s6, a6, Sz.one, Z.z1, Z.pos, fun H7 psc s7 n7 hsc => ?_⟩
    have s27 : Same H2 H7 := ((s4.trans s5).trans s6).trans s7
    -- the loop over goals
    refine ⟨_, rfl, _, _, rfl, rfl, _, _, rfl, ⟨by omega, by omega, by omega, by omega⟩, ?_⟩
    refine for_range (lo := 1) (n := ((n : Int) + 1 - 1).toNat) (fun i σ H' => ∃ y8 y9 y10 y11, σ = [some (.ref pf), some (.ref pa), some (.ref pb), some (.ref pc), some (.int (n : Int)), some (.ref pch), some (.ref pfd), some (.ref psc), y8, y9, y10, y11] ∧ Same H H' ∧
        H' pch = some (.lst cps) ∧ Rts H' cps ws.length (cs ws) ∧ At H' psc (1 / (1 - a * cs ws 0)) ∧ ∃ ps, H' pfd = some (.lst ps) ∧ Rts H' ps (i + 1) g)
      ⟨none, none, none, none, rfl, s2.trans s27, s27 _ _ e2, r2.seq fun b y hy => hy.seq s27, hsc, _, s27 _ _ f2, g2.seq fun b y hy => hy.seq s27⟩ (fun i σ H' hi hI => ?_) (fun σ H' hI => ?_)
    · obtain ⟨y8, y9, y10, y11, rfl, sH, eC, rC, hs, ps, eF, rF⟩ := hI
      have hi' : i < n := by omega
      rw [show (1 : Int) + (i : Int) = ((i + 1 : Nat) : Int) by omega]
      obtain ⟨m, hm⟩ : ∃ m, m = i + 1 := ⟨_, rfl⟩
      rw [← hm] at rF ⊢
      have hm1 : 1 ≤ m := by omega
      have hmn : m ≤ n := by omega
      refine ⟨(by show 2 ≤ sizeLine; decide), fun t0 h0 => ?_⟩
      have s8 := same_upd (o := .tup [.int 0, .int 1]) h0
      have a0 : At (upd H' t0 (.tup [.int 0, .int 1])) t0 0 := upd_same
      generalize upd H' t0 (.tup [.int 0, .int 1]) = H8 at *
      refine ⟨_, rfl, _, rfl, pch, _, rfl, .inl (SqL.of (s8 _ _ eC)), _, _, rfl, rfl, _, _, rfl, _, _, rfl, rfl, ?_⟩
      have hM : (if ((cps.length : Nat) : Int) - 1 < (m : Int) then ((cps.length : Nat) : Int) - 1 else (m : Int)) = ((min m (ws.length - 1) : Nat) : Int) := by
        have h1 := rC.1
        have h2 := hw.ne
        rw [h1]
        split <;> omega
      rw [hM]
      obtain ⟨M, hM2⟩ : ∃ M, M = min m (ws.length - 1) := ⟨_, rfl⟩
      rw [← hM2]
      refine ⟨_, _, rfl, ⟨by omega, by omega, by omega, by omega⟩, ?_⟩
      refine for_range (lo := 1) (n := ((M : Int) + 1 - 1).toNat) (fun j σ H'' => ∃ ph y10 y11, σ = [some (.ref pf), some (.ref pa), some (.ref pb), some (.ref pc), some (.int (n : Int)), some (.ref pch), some (.ref pfd), some (.ref psc), some (.int (m : Int)), some (.ref ph), y10, y11] ∧ Same H8 H'' ∧
          At H'' ph (K37.here (cs ws) g a b m j)) ⟨t0, y10, y11, rfl, fun _ _ h => h, a0⟩ (fun j σ H'' hj hJ => ?_) (fun σ H'' hJ => ?_)
      · obtain ⟨ph, z10, z11, rfl, s9, ah⟩ := hJ
        rw [show (1 : Int) + (j : Int) = ((j + 1 : Nat) : Int) by omega]
        have hj1 : j + 1 ≤ m := by omega
        have hj2 : j + 1 < ws.length := by omega
        have sH9 : Same H H'' := (sH.trans s8).trans s9
        have s89 : Same H' H'' := s8.trans s9
        -- factor
        refine ⟨_, rfl, _, rfl, _, rfl, _, rfl, _, _, rfl, by omega, ?_, fun H10 t10 s10 n10 a10 => ?_⟩
        · rw [Int.natAbs_natCast]
          exact Nat.lt_of_lt_of_le (show m < 2 ^ 6 by omega) (Nat.pow_le_pow_right (by decide) (by decide))
        rw [ratio_nat] at a10
        refine ⟨pb, t10, b, _, rfl, hb.seq (sH9.trans s10), a10, Z.zb, Z.zr _ _ (by omega) hj1 hmn, trivial, fun H11 t11 s11 n11 a11 => ?_⟩
        refine ⟨pa, t11, a, _, rfl, ha.seq ((sH9.trans s10).trans s11), a11, Z.za, Z.zbr _ _ (by omega) hj1 hmn, trivial, fun H12 t12 s12 n12 a12 => ?_⟩
        have s912 : Same H'' H12 := (s10.trans s11).trans s12
        have s12' : Same H' H12 := s89.trans s912
        -- here
        obtain ⟨pk, ek, hk⟩ := rC.at' (i := j + 1) hj2
        obtain ⟨pg, eg, hg⟩ := rF.at' (i := m - (j + 1)) (by omega)
        refine ⟨_, rfl, _, rfl, _, rfl, _, rfl, pch, _, _, _, rfl, rfl, SqL.of (s12' _ _ eC), ek, t12, pk, _, _, rfl, a12, hk.seq s12', Z.zf _ _ (by omega) hj1 hmn, Z.zc _ hj2, trivial, fun H13 t13 s13 n13 a13 => ?_⟩
        refine ⟨_, rfl, _, rfl, _, rfl, _, _, rfl, rfl, pfd, _, _, _, rfl, rfl, SqL.of ((s12'.trans s13) _ _ eF), (by rw [show (m : Int) - ((j + 1 : Nat) : Int) = ((m - (j + 1) : Nat) : Int) by omega]; exact eg), ?_⟩
        refine ⟨t13, pg, _, _, rfl, a13, hg.seq (s12'.trans s13), Z.zfc _ _ (by omega) hj1 hmn hj2, Z.zg _ (by omega), trivial, fun H14 t14 s14 n14 a14 => ?_⟩
        refine ⟨ph, t14, _, _, rfl, ((ah.seq s912).seq s13).seq s14, a14, Z.zh m j hm1 hmn (by omega) (by omega), Z.zt _ _ (by omega) hj1 hmn hj2, trivial, fun H15 t15 s15 n15 a15 => ?_⟩
        exact ⟨t15, _, _, rfl, (((s9.trans s912).trans s13).trans s14).trans s15, a15⟩
      · obtain ⟨ph, z10, z11, rfl, s9, ah⟩ := hJ
        have eMM : ((M : Int) + 1 - 1).toNat = M := by omega
        rw [eMM] at ah
        have s89 : Same H' H'' := s8.trans s9
        have hM3 : M ≤ m := by omega
        have hM4 : M < ws.length := by have := hw.ne; omega
        refine ⟨_, rfl, .inl ⟨rfl, _, SqL.of (s89 _ _ eF)⟩, _, rfl, _, rfl, psc, ph, _, _, rfl, hs.seq s89, ah, Z.zs, Z.zh m M hm1 hmn hM3 hM4, trivial, fun H10 t10 s10 n10 a10 => ?_⟩
        have s810 : Same H' H10 := s89.trans s10
        have eF10 := s810 _ _ eF
        have nt : t10 ≠ pfd := a10.ne_lst eF10
        refine ⟨pfd, ps, _, rfl, rfl, eF10, ?_, ?_⟩
        · rw [rF.1]
          exact Nat.lt_of_le_of_lt (show m ≤ 1000 by omega) (by decide)
        · have keep : ∀ c y, At H' c y → At (upd H10 pfd (.lst (ps ++ [.ref t10]))) c y := fun c y hy => (hy.seq s810).upd ((hy.seq s810).ne_lst eF10)
          refine ⟨_, _, _, _, rfl, same_but nfd (sH.trans s810), ?_, rC.seq keep, keep _ _ hs, _, upd_same, ?_⟩
          · rw [upd_ne ncf]
            exact s810 _ _ eC
          · have hg' : g m = 1 / (1 - a * cs ws 0) * K37.here (cs ws) g a b m M := by
              rw [hrec m hm1, hM2]
            have a10' : At H10 t10 (g m) := by
              rw [hg']
              exact a10
            exact (rF.seq keep).snoc (a10'.upd nt)
    · obtain ⟨y8, y9, y10, y11, rfl, sH, eC, rC, hs, ps, eF, rF⟩ := hI
      rw [show ((n : Int) + 1 - 1).toNat = n by omega] at rF
      refine ⟨_, rfl, pfd, ps, rfl, .inl ⟨SqL.of eF, fun l hl => ?_⟩⟩
      exact q _ l ps (sH.trans (same_upd hl)) (same_none sH hl) upd_same (rF.seq fun b y hy => hy.seq (same_upd hl))
end
end K37
namespace K37
open PySem PySem.Spec PyProof.Rows L2
/-! ### all(elt for x in t), t a tuple, elt true of each of its items
The road: the code object of the generator is found or made (`code_any`), the tuple is walked by its own iterator (`tup_walk`), the generator hands out True at each turn, and behind it only the def's table has grown (`tab_grown`). -/
/-- the element is true at the items that Pz tells; all that stood stays -/
def EltT (prog : Program) (w : World) (base : Heap) (scope : Scope) (x : Str) (elt : Expr) (D U : Nat) (Pz : V → Prop) : Prop :=
  ∀ (cenv : Env) (A' : Around) (E' : Value → Shared → Prop) (v : V) (u : Value) (s₂ : Shared) (m₂ : Str → Option Value), cenv.scope = scope → cenv.globals = mainGlobals → cenv.builtins = builtinsNs →
    A'.handled = none → A'.depth ≤ D → A'.units ≤ U → s₂.heap.Ns cenv.locals m₂ → m₂ x = some u → RelV v u → Pz v → (∀ b o, base.get? b = some o → s₂.heap.get? b = some o) →
    wpAny (model prog w) A' (eval elt cenv) (fun y s₃ => y = .bool true ∧ Keeps s₂ s₃) E' s₂
/-- a table of code objects, as it lies in the heap -/
abbrev tabO (ps : Array Value) : Obj := { cls := .none, data := .fields ps }
/-- the tuple's iterator at its start -/
abbrev itO (l : Addr) : Obj := { cls := .type "tuple_iterator", data := .fields #[.ref l, .int 0 0] }
section
variable {prog : Program} {w : World} {A : Around} {E : Value → Shared → Prop} {t : Shared} {l c T : Addr} {ps : Array Value}
/-- the generator's code object: in the table already, or made and written there -/
theorem code_any {env : Env} {sc : Scope} {qn : Str} {at_ : Pos} {Q : Value → Shared → Prop} (hc : env.code = .ref c) (hd : PySem.W.CodeHd t.heap c T) (hp : t.heap.get? T = some (tabO ps)) (ok : TriplesOk ps.toList)
    (next : ∀ (cv : Value) (g : Heap) (tk : Nat) (more : Array Value), Heap.ExtBut T t.heap g → t.heap.objs.size ≤ g.objs.size → g.get? T = some (tabO (ps ++ more)) → TriplesOk (ps ++ more).toList → Q cv { t with heap := g, toks := tk }) :
    wpAny (model prog w) A (genexprCode env at_ qn sc) Q E t := by
  rcases Option.eq_none_or_eq_some (codeAmong at_ ps.toList) with e | ⟨cv, e⟩
  · refine wpAny_genexprCodeX hc (hd.code hp ok) (hd.tab hp) e fun c2 g tk ext low high isc _ tab _ => ?_
    have tr : TriplesOk (ps ++ #[rawInt at_.line, rawInt at_.col, .ref c2]).toList := by
      obtain ⟨_, _, _, _, _, _, _, _, _, _, _, _, _, _, _, _, _, _, _, z, _⟩ := isc
      exact z
    exact next _ g tk _ ext (Nat.le_of_lt (Nat.lt_of_le_of_lt low high)) tab.2 tr
  · refine wpAny_genexprCode_hit hc (hd.code hp ok) e ?_
    have e0 : ps ++ #[] = ps := Array.append_empty
    exact next cv t.heap t.toks #[] (Heap.ExtBut.refl _ _) (Nat.le_refl _) (by rw [e0]; exact hp) (by rw [e0]; exact ok)
/-- a tuple and its new iterator: both below, apart from the table -/
structure TupAt (t : Shared) (l T : Addr) (its : List Value) : Prop where
  tup : t.heap.IsTuple l its.toArray
  low : l < t.heap.objs.size
  ne : l ≠ T
  tabLow : T < t.heap.objs.size
theorem tupAt_mk {its : List Value} (ht : t.heap.IsTuple l its.toArray) (hp : t.heap.get? T = some (tabO ps)) : TupAt t l T its := by
  obtain ⟨o, eo, cl, rest⟩ := ht
  refine ⟨⟨o, eo, cl, rest⟩, Heap.lt_size eo, fun z => ?_, Heap.lt_size hp⟩
  have q : some o = some (tabO ps) := by rw [← eo, z, hp]
  have q2 : o = tabO ps := Option.some.inj q
  rw [q2] at cl
  exact absurd cl (by simp)
section
variable {its : List Value} (q : TupAt t l T its)
include q
theorem TupAt.walk {A' : Around} (h : A'.handled = none) : Walks prog w A' t.heap.objs.size [t.heap.objs.size, l] [t.heap.objs.size] its.toArray.size (fun i v => its.toArray[i]? = some v) (fun i g => g.IsTupleIter t.heap.objs.size l i ∧ g.IsTuple l its.toArray) :=
  Walks.tuple h _ l (Nat.ne_of_lt q.low) its.toArray
/-- its start, in a heap in which all but the table stands -/
theorem TupAt.start {g : Heap} (ext : Heap.ExtBut T (t.heap.push (itO l)) g) : g.IsTupleIter t.heap.objs.size l 0 ∧ g.IsTuple l its.toArray := by
  have nI : t.heap.objs.size ≠ T := fun z => Nat.lt_irrefl _ (z ▸ q.tabLow)
  refine ⟨⟨itO l, ext _ _ nI (Heap.get?_push_size _ rfl), rfl, rfl⟩, ?_⟩
  obtain ⟨o, eo, rest⟩ := q.tup
  exact ⟨o, ext _ _ q.ne (Heap.get?_push_of_some _ eo), rest⟩
theorem TupAt.cells {g : Heap} (sz : t.heap.objs.size + 1 ≤ g.objs.size) : ∀ b ∈ [t.heap.objs.size, l], b < g.objs.size := by
  have h1 : t.heap.objs.size < g.objs.size := sz
  have h2 : l < g.objs.size := Nat.lt_trans q.low h1
  simp only [List.mem_cons, List.not_mem_nil, or_false]
  rintro b (e | e)
  · exact e ▸ h1
  · exact e ▸ h2
end
end
section
variable {X : Cx} {pins : List (Addr × Obj)} {σ : L2.St} {H : Hp} {t : Shared} {T : Addr} {ps : Array Value}
/-- old addresses are no new ones -/
theorem old_ne {g : Heap} {b : Addr} {o : Obj} (e : t.heap.get? b = some o) (h : t.heap.objs.size < g.objs.size) : b ∉ [g.objs.size, t.heap.objs.size] := by
  have lt := Heap.lt_size e
  simp only [List.mem_cons, List.not_mem_nil, or_false]
  rintro (z | z)
  · exact Nat.lt_asymm h (by rw [← z]; exact lt)
  · exact Nat.lt_irrefl _ (by rw [z] at lt; exact lt)
/-- the generator has been walked: only the def's table has grown -/
theorem tab_grown {g g5 : Heap} {tk5 : Nat} {gs : GenState} {more : Array Value} {t' : Shared} {G : Nat} (J : Inv X pins σ H t) (hT : H T = some (.tbl ps)) (sz : t.heap.objs.size < g.objs.size) (old : ∀ b o, b ≠ T → t.heap.get? b = some o → g.get? b = some o)
    (tab : g.get? T = some (tabO (ps ++ more))) (ok : TriplesOk (ps ++ more).toList) (bare : gs.bare = true) (k5 : ∀ b o, g.get? b = some o → g5.get? b = some o)
    (mv : Moved [g.objs.size, t.heap.objs.size] (GenOnlyQ G) { t with heap := g5, gens := t.gens.push gs, toks := tk5 } t') : ∃ H2, GxR.Tabbed T H H2 ∧ Inv X pins σ H2 t' := by
  have hTt : t.heap.get? T = some (tabO ps) := J.hok T _ hT
  have stay : ∀ b o, b ≠ T → t.heap.get? b = some o → t'.heap.get? b = some o := fun b o n e => mv.heap b o (old_ne e sz) (k5 b o (old b o n e))
  have grown : t'.heap.get? T = some (tabO (ps ++ more)) := mv.heap T _ (old_ne hTt sz) (k5 T _ tab)
  have K := GxR.inv_tab (more := more) (h' := t'.heap) (g' := t'.gens) (d' := t'.drawn) (t' := t'.toks) J hT stay grown (AllBare.movedS (J.bare.push bare) mv)
  have same : ({ t with heap := t'.heap, gens := t'.gens, drawn := t'.drawn, toks := t'.toks } : Shared) = t' := GxR.sh_eta t t' mv.os
  rw [same] at K
  exact ⟨_, ⟨⟨ps ++ more, upd_same, ok⟩, fun b n => upd_ne n⟩, K⟩
/-- the call all(g), g the generator over the tuple that iter gives -/
theorem all_tup {c : Addr} {elt iter : Expr} {x : Str} {px gpos : Pos} {sc : Scope} {Pz : V → Prop} {te : TE} {k : Nat} {Q' : Value → Shared → Prop} {R : Hp → Prop}
    (room : Room k X.A) (tb : GxR.TabB X.base X.mg c T) (code : X.env.code = .ref c) (gsc : GxR.GenS X.env sc x) (src : PE X iter te) (el : L2.Mod X.K X.mg X.base → EltT X.prog X.w X.base sc x elt (X.A.depth + 1) (X.A.units + 8) Pz)
    (fold : ∀ v, genFold iter X.env v = pure v) (J : Inv X pins σ H t) (read : te σ H fun v H1 => ∃ (a : Addr) (xs : List V), v = .ref a ∧ SqT X.K H1 a xs ∧ (∀ x ∈ xs, Pz x) ∧ GxR.TabG H1 T ∧ R H1)
    (fin : ∀ (H1 : Hp) (s6 : Shared), R H1 → (∃ H2, GxR.Tabbed T H1 H2 ∧ Inv X pins σ H2 s6) → Q' (.bool true) s6) :
    wpAny (model X.prog X.w) X.A (eval (.GeneratorExp elt [⟨.Name x px, iter, [], 0⟩] sc gpos) X.env) (fun g s5 => wpAny (model X.prog X.w) X.A (call (.builtin "all") [g]) Q' X.xe s5) X.xe t := by
  have dep : X.A.depth < recursionLimit := Nat.lt_of_le_of_lt (by omega) room.dp
  refine wpAny_GeneratorExp_walksQD room.hd gsc.co (closure_ok gsc.free) gsc.cell gsc.dot gsc.loc gsc.kind dep (thn (src.run pins t σ H _ J read) ?_) fold
  rintro _ t1 ⟨_, H1, J1, rel, l, xs, rfl, hS, hPz, ⟨ps, hT, tr⟩, hR⟩
  cases rel
  obtain ⟨its, vals, tup, _⟩ := J1.tuple hS
  have tabT : t1.heap.get? T = some (tabO ps) := J1.hok T _ hT
  have q := tupAt_mk tup tabT
  have pushed : ∀ b o, t1.heap.get? b = some o → (t1.heap.push (itO l)).get? b = some o := fun b o e => Heap.get?_push_of_some _ e
  have baseOld : ∀ b o, X.base.get? b = some o → b ≠ T ∧ t1.heap.get? b = some o := fun b o e => by
    obtain ⟨e1, e2⟩ := J1.bs b o e
    refine ⟨fun z => ?_, e1⟩
    rw [z, hT] at e2
    cases e2
  refine wpAny_pyIter_tuple tup ⟨J1.nolimit.push _, ?_⟩
  refine code_any (ps := ps) code (tb.code.keeps fun b o e => pushed b o (J1.bk b o e)) (pushed _ _ tabT) tr fun cv g tk more ext szg tabG trG => ?_
  have sz1 : t1.heap.objs.size < g.objs.size := Nat.lt_of_lt_of_le (by rw [Heap.size_push]; exact Nat.lt_succ_self _) szg
  have old : ∀ b o, b ≠ T → t1.heap.get? b = some o → g.get? b = some o := fun b o n e => ext b o n (pushed b o e)
  obtain ⟨bm, ob, mB, nB, _, nT, obB, clB, dcB, dtB⟩ := tb.bm
  have glob : g.Ns X.env.globals X.mg := by
    rw [J1.ok.glob]
    exact ((J1.mod.glob.keeps J1.bk).push (itO l)).extBut ext tb.gP
  refine wpAny_builtinsFor glob mB nB (old bm ob nT (J1.bk _ _ obB)) clB dcB dtB ?_
  have csLow : cStatics < t1.heap.objs.size := by
    obtain ⟨_, ns, _⟩ := J1.nolimit
    exact ns.lt
  have csT : cStatics ≠ T := fun z => by
    obtain ⟨_, ⟨oS, _, _, eS, dS, _⟩, _⟩ := J1.nolimit
    rw [z, tabT] at eS
    cases eS
    cases dS
  refine ⟨_, [t1.heap.objs.size, l], [t1.heap.objs.size], _, _, _, fun _ => true, fun _ y => y = .bool true, rfl, fun A' hA => q.walk hA, q.start ext, q.cells sz1, (J1.nolimit.push _).extBut ext csT, ?_, fun href kept => ⟨?_, ?_⟩, ?_⟩
  · simp only [List.mem_cons, List.not_mem_nil, or_false]
    exact Nat.ne_of_lt csLow
  · -- no test
    intros
    exact wpAny_pure ⟨rfl, GxR.keeps_refl _⟩
  · -- the element
    intro A' E' i v s₂ m₂ hA hD hU at_ _ ns look old2
    have atL : its[i]? = some v := by simpa using at_
    have low : i < xs.length := vals.length ▸ (List.getElem?_eq_some_iff.mp atL).1
    obtain ⟨u, eu, ru⟩ := vals.get (List.getElem?_eq_getElem low)
    obtain rfl : v = u := Option.some.inj (atL.symm.trans eu)
    refine el J1.mod _ A' E' xs[i] v s₂ m₂ rfl J1.ok.glob rfl hA hD hU ns look ru (hPz _ (List.getElem_mem low)) fun b o e => ?_
    obtain ⟨nbT, e1⟩ := baseOld b o e
    have e2 := old b o nbT e1
    refine old2 b (List.mem_range.mpr (Heap.lt_size e2)) ?_ o (kept b o e2)
    simp only [List.mem_cons, List.not_mem_nil, or_false]
    exact Nat.ne_of_lt (Heap.lt_size e1)
  · -- the generator, handed to all
    intro ga g5 tk5 gs bare _ _ k5 W at0
    have W1 := W.in4_1
    refine call_all_walkS (W1.self 0 _ _ _ at0 ⟨ga, _, _, _, _, _, _, fun _ => true, rfl, W1, at0, fun j y sj Qj Ej hy hq => ?_, fun s6 mv => ?_⟩)
    · obtain ⟨_, _, rfl⟩ := hy
      exact wpAny_truthy_bool hq
    · have all1 : ∀ n : Nat, (List.range n).all (fun _ => true) = true := fun n => List.all_eq_true.mpr fun _ _ => rfl
      rw [all1]
      exact fin H1 s6 hR (tab_grown J1 hT sz1 old tabG trG bare k5 mv)
def tAllT (K : PySem.W.Frag) (T : Addr) (Pz : V → Prop) (te : TE) : TE := fun σ H Q => te σ H fun v H1 => ∃ (a : Addr) (xs : List V), v = .ref a ∧ SqT K H1 a xs ∧ (∀ x ∈ xs, Pz x) ∧ GxR.TabG H1 T ∧ ∀ H2, GxR.Tabbed T H1 H2 → Q (.bl true) H2
theorem boot_al : bootBuiltins "all" = some (.builtin "all") := by decide +kernel
theorem pe_allT {c T : Addr} {elt iter : Expr} {x : Str} {px p pos gpos : Pos} {sc : Scope} {Pz : V → Prop} {te : TE} {k : Nat}
    (room : Room k X.A) (gl : Gl X "all") (miss : X.mg "all" = none) (tb : GxR.TabB X.base X.mg c T) (code : X.env.code = .ref c) (gsc : GxR.GenS X.env sc x) (src : PE X iter te) (el : L2.Mod X.K X.mg X.base → EltT X.prog X.w X.base sc x elt (X.A.depth + 1) (X.A.units + 8) Pz)
    (fold : ∀ v, genFold iter X.env v = pure v) : PE X (.Call (.Name "all" p) [.GeneratorExp elt [⟨.Name x px, iter, [], 0⟩] sc gpos] [] pos) (tAllT X.K T Pz te) := by
  constructor
  intro pins t σ H Q J read
  refine wpAny_Call_Name_kw (ld_blt J gl miss boot_al (callWith_builtin1 ?_ (by rfl) (by rfl)))
  refine Calls.spliced_cons (thn (all_tup (R := fun H1 => ∀ H2, GxR.Tabbed T H1 H2 → Q (.bl true) H2) (Q' := EP X pins σ Q) room tb code gsc src el fold J read ?_) fun g s5 h => Calls.spliced_nil h)
  rintro H1 s6 hR ⟨H2, tbd, J2⟩
  exact ⟨.bl true, H2, J2, rfl, hR H2 tbd⟩
end
end K37
namespace K37
open PySem PySem.Spec PyProof.Rows L2 GxR
abbrev sIn : Stmt := topS 14
theorem scIn : FnScope ["value", "least", "most"] ["value", "least", "most"] (defScope sIn) := ⟨rfl, rfl, rfl, by decide +kernel, rfl, by decide +kernel, by decide +kernel⟩
section
variable {prog : Program} {w : World} {A : Around} {E : Value → Shared → Prop} {K : PySem.W.Frag} {mg : Str → Option Value} {base : Heap} {env : Env} {s : Shared} {m : Str → Option Value}
theorem ld_b {x : Str} {u : Value} {p : Pos} {Q : Value → Shared → Prop} (M : L2.Mod K mg base) (kp : ∀ b o, base.get? b = some o → s.heap.get? b = some o) (hk : env.scope.kind = .function) (hg : env.globals = mainGlobals) (hb : env.builtins = builtinsNs)
    (hx : env.kindOf x = some .globalImplicit) (mx : mg x = none) (bx : bootBuiltins x = some u) (h : Q u s) (hn : x ≠ "__name__" := by decide) (hd : (x == ("__debug__" : Str)) = false := by decide) : wpAny (model prog w) A (eval (.Name x p) env) Q E s := by
  obtain ⟨mb, h1, h2⟩ := M.blt
  exact Calls.Name_function_global hk hx (Calls.loadGlobal_builtin (by rw [hg]; exact M.glob.keeps kp) mx (by rw [hb]; exact h1.keeps kp) ((h2 x hn).trans bx) h) hd
theorem ld_g {x : Str} {u : Value} {p : Pos} {Q : Value → Shared → Prop} (M : L2.Mod K mg base) (kp : ∀ b o, base.get? b = some o → s.heap.get? b = some o) (hk : env.scope.kind = .function) (hg : env.globals = mainGlobals)
    (hx : env.kindOf x = some .globalImplicit) (mx : mg x = some u) (h : Q u s) (hd : (x == ("__debug__" : Str)) = false := by decide) : wpAny (model prog w) A (eval (.Name x p) env) Q E s :=
  Calls.Name_function_global hk hx (Calls.loadGlobal_global (by rw [hg]; exact M.glob.keeps kp) mx h) hd
theorem ld_l {x : Str} {u : Value} {p : Pos} {Q : Value → Shared → Prop} (hk : env.scope.kind = .function) (hx : env.kindOf x = some .local) (hn : s.heap.Ns env.locals m) (hm : m x = some u) (h : Q u s) (hd : (x == ("__debug__" : Str)) = false := by decide) :
    wpAny (model prog w) A (eval (.Name x p) env) Q E s := wpAny_Name (wpAny_loadName_local hk hx hn hm h) hd
/-- isinstance(x, T) of an int -/
theorem ev_isi {x T : Str} {T' : String} {i : Int} {t : Tok} {b : Bool} {p0 p1 p2 pos : Pos} {Q : Value → Shared → Prop} (M : L2.Mod K mg base) (kp : ∀ b o, base.get? b = some o → s.heap.get? b = some o) (hk : env.scope.kind = .function) (hg : env.globals = mainGlobals) (hb : env.builtins = builtinsNs)
    (hx : env.kindOf x = some .local) (hn : s.heap.Ns env.locals m) (hm : m x = some (.int i t)) (hI : env.kindOf "isinstance" = some .globalImplicit) (mI : mg "isinstance" = none) (hT : env.kindOf T = some .globalImplicit) (mT : mg T = none) (bT : bootBuiltins T = some (.type T'))
    (kit : PySem.W.kitOne K (.type "int") (.type T') = some b) (h : ∀ tk, Q (.bool b) { s with toks := tk }) (hd : (x == ("__debug__" : Str)) = false := by decide) (hTn : T ≠ "__name__" := by decide) (hTd : (T == ("__debug__" : Str)) = false := by decide) :
    wpAny (model prog w) A (eval (.Call (.Name "isinstance" p0) [.Name x p1, .Name T p2] [] pos) env) Q E s := by
  refine wpAny_Call_Name_kw (ld_b M kp hk hg hb hI mI boot_isi ?_)
  refine PyProof.Rows.callWith_builtin1 ?_ (by rfl) (by rfl)
  show wpAny _ _ (spliced ((false, eval (.Name x p1) env) :: (false, eval (.Name T p2) env) :: [])) _ _ s
  refine Calls.spliced_cons (ld_l hk hx hn hm ?_ hd)
  refine Calls.spliced_cons (ld_b M kp hk hg hb hT mT bT ?_ hTn hTd)
  refine Calls.spliced_nil ?_
  exact PySem.W.kia_one PySem.W.kitx_int (M.kin.keeps kp) True.intro kit (fun z => nomatch z) h
/-- isinstance(x, int) and (not isinstance(x, bool)) of an int -/
theorem ev_isint {x : Str} {i : Int} {t : Tok} {p0 p1 p2 p3 p4 p5 p6 p7 p8 pos : Pos} {rest : List Expr} {Q : Value → Shared → Prop} (M : L2.Mod K mg base) (kp : ∀ b o, base.get? b = some o → s.heap.get? b = some o) (hk : env.scope.kind = .function) (hg : env.globals = mainGlobals) (hb : env.builtins = builtinsNs)
    (hx : env.kindOf x = some .local) (hn : s.heap.Ns env.locals m) (hm : m x = some (.int i t)) (hI : env.kindOf "isinstance" = some .globalImplicit) (mI : mg "isinstance" = none) (hT : env.kindOf "int" = some .globalImplicit) (mT : mg "int" = none) (hB : env.kindOf "bool" = some .globalImplicit) (mB : mg "bool" = none)
    (h : ∀ tk, wpAny (model prog w) A (eval (.BoolOp .And ((.UnaryOp .Not (.Call (.Name "isinstance" p4) [.Name x p5, .Name "bool" p6] [] p7) p8) :: rest) pos) env) Q E { s with toks := tk }) (hd : (x == ("__debug__" : Str)) = false := by decide) :
    wpAny (model prog w) A (eval (.BoolOp .And ((.Call (.Name "isinstance" p0) [.Name x p1, .Name "int" p2] [] p3) :: (.UnaryOp .Not (.Call (.Name "isinstance" p4) [.Name x p5, .Name "bool" p6] [] p7) p8) :: rest) pos) env) Q E s := by
  refine BoolOp_and (ev_isi M kp hk hg hb hx hn hm hI mI hT mT boot_it k_int_int (fun tk => wpAny_truthy_bool (ite_tt (h tk))) hd)
theorem ev_notbool {x : Str} {i : Int} {t : Tok} {p4 p5 p6 p7 p8 : Pos} {Q : Value → Shared → Prop} (M : L2.Mod K mg base) (kp : ∀ b o, base.get? b = some o → s.heap.get? b = some o) (hk : env.scope.kind = .function) (hg : env.globals = mainGlobals) (hb : env.builtins = builtinsNs)
    (hx : env.kindOf x = some .local) (hn : s.heap.Ns env.locals m) (hm : m x = some (.int i t)) (hI : env.kindOf "isinstance" = some .globalImplicit) (mI : mg "isinstance" = none) (hB : env.kindOf "bool" = some .globalImplicit) (mB : mg "bool" = none)
    (h : ∀ tk, Q (.bool true) { s with toks := tk }) (hd : (x == ("__debug__" : Str)) = false := by decide) :
    wpAny (model prog w) A (eval (.UnaryOp .Not (.Call (.Name "isinstance" p4) [.Name x p5, .Name "bool" p6] [] p7) p8) env) Q E s :=
  UnaryOp_ (ev_isi M kp hk hg hb hx hn hm hI mI hB mB boot_bo k_int_bool (fun tk => not_of (wpAny_truthy_bool (h tk))) hd)
/-- the element of is_ratio's all -/
theorem elt_ints {scope : Scope} {x : Str} {D U : Nat} {p0 p1 p2 p3 p4 p5 p6 p7 p8 pos : Pos} (M : L2.Mod K mg base) (hk : scope.kind = .function) (hx : scope.names.lookup x = some .local)
    (hI : scope.names.lookup ("isinstance" : Str) = some NameKind.globalImplicit) (mI : mg "isinstance" = none) (hT : scope.names.lookup ("int" : Str) = some NameKind.globalImplicit) (mT : mg "int" = none) (hB : scope.names.lookup ("bool" : Str) = some NameKind.globalImplicit) (mB : mg "bool" = none) (hd : (x == ("__debug__" : Str)) = false := by decide) :
    EltT prog w base scope x (.BoolOp .And [.Call (.Name "isinstance" p0) [.Name x p1, .Name "int" p2] [] p3, .UnaryOp .Not (.Call (.Name "isinstance" p4) [.Name x p5, .Name "bool" p6] [] p7) p8] pos) D U (fun v => ∃ i, v = .int i) := by
  intro cenv A' E' v u s₂ m₂ hs hg hb hA hD hU hn hm rv hP kp
  obtain ⟨i, rfl⟩ := hP
  obtain ⟨t, rfl⟩ := rv
  subst hs
  refine ev_isint M kp hk hg hb hx hn hm hI mI hT mT hB mB (fun tk => ?_) hd
  refine BoolOp_one (ev_notbool M kp hk hg hb hx hn hm hI mI hB mB (fun tk2 => ?_) hd)
  exact ⟨rfl, _, _, rfl, fun _ _ e => e⟩
/-- is_in, as it runs anywhere -/
theorem run_isin {f : Addr} {fd : FuncData} (F : Fun K "is_in" "is_in" sIn f fd) (bI : Binds K fd ["value", "least", "most"] []) (M : L2.Mod K mg base) (kp : ∀ b o, base.get? b = some o → s.heap.get? b = some o) (hroom : A.depth < recursionLimit)
    (mI : mg "isinstance" = none) (mT : mg "int" = none) (mB : mg "bool" = none) {v lo hi : Int} {t1 t2 t3 : Tok} (h0 : lo ≤ v) (h1 : v ≤ hi) :
    wpAny (model prog w) A (call (.ref f) [.int v t1, .int lo t2, .int hi t3]) (fun y s' => y = .bool true ∧ Keeps s s') E s := by
  obtain ⟨oc, od, kV, doc, pm, an, cdv, ct, osl, efd, lk, hcd⟩ := F.ex
  subst efd
  have KX : K.In s.heap := M.kin.keeps kp
  have lim : s.heap.NoLimit := M.nolimit.keeps kp
  refine wpAny_call (codeAny_call_function hroom (KX _ _ lk) rfl scIn.co scIn.gen rfl (PySem.W.codeRec_of KX hcd) (bI s [.int v t1, .int lo t2, .int hi t3] KX rfl _ _ _ _ ?_))
  refine wpAny_newFunctionEnv_cells scIn.kind (fun y hy => ?_) fun env he s1 x => ?_
  · simp only [List.append_nil, List.zip_cons_cons, List.zip_nil_right, List.mem_cons, List.not_mem_nil, or_false] at hy
    rcases hy with rfl | rfl | rfl
    · exact .inl rfl
    · exact .inl rfl
    · exact .inl rfl
  subst he
  refine ⟨lim.keeps x.toInCall.keep, codeAny_func ?_⟩
  have kp1 : ∀ b o, base.get? b = some o → s1.heap.get? b = some o := fun b o e => x.toInCall.keep b o (kp b o e)
  have ns := x.toInCall.ns
  obtain ⟨h1', tk1, rfl, hk1⟩ := x.done
  refine wpAny_execs_cons (wpAny_Return_some ?_)
  refine ev_isint M kp1 rfl rfl rfl rfl ns (by rfl) rfl mI rfl mT rfl mB (fun tk => ?_)
  refine BoolOp_and (ev_notbool (s := { s with heap := h1', toks := tk }) M kp1 rfl rfl rfl rfl ns (by rfl) rfl mI rfl mB (fun tk2 => wpAny_truthy_bool (ite_tt ?_)))
  refine BoolOp_one (Compare_chain (ld_l (s := { s with heap := h1', toks := tk2 }) rfl rfl ns (by rfl) (chain_link (ld_l (s := { s with heap := h1', toks := tk2 }) rfl rfl ns (by rfl) (le_int ?_)))) (by rfl))
  refine wpAny_truthy_bool ?_
  rw [decide_eq_true h0]
  refine ite_tt (chain_last (ld_l (s := { s with heap := h1', toks := tk2 }) rfl rfl ns (by rfl) (le_int ?_)))
  rw [decide_eq_true h1]
  exact ⟨rfl, _, _, rfl, hk1⟩
/-- the element of need_claims' all -/
theorem elt_isin {scope : Scope} {f : Addr} {fd : FuncData} {D U : Nat} {top : Int} {tt : Tok} {p0 p1 p2 p3 pos : Pos} {j : Nat} (F : Fun K "is_in" "is_in" sIn f fd) (bI : Binds K fd ["value", "least", "most"] []) (mF : mg "is_in" = some (.ref f)) (M : L2.Mod K mg base) (hk : scope.kind = .function) (hx : scope.names.lookup ("one" : Str) = some NameKind.local)
    (hF : scope.names.lookup ("is_in" : Str) = some NameKind.globalImplicit) (hW : scope.names.lookup ("MOST_WEIGHT" : Str) = some NameKind.globalImplicit) (mW : mg "MOST_WEIGHT" = some (.int top tt)) (hD : D < recursionLimit) (mI : mg "isinstance" = none) (mT : mg "int" = none) (mB : mg "bool" = none) :
    EltT prog w base scope "one" (.Call (.Name "is_in" p0) [.Name "one" p1, .Constant (.int 0) j p2, .Name "MOST_WEIGHT" p3] [] pos) D U (fun v => ∃ i, v = .int i ∧ 0 ≤ i ∧ i ≤ top) := by
  intro cenv A' E' v u s₂ m₂ hs hg hb hA hD' hU hn hm rv hP kp
  obtain ⟨i, rfl, i0, i1⟩ := hP
  obtain ⟨t, rfl⟩ := rv
  subst hs
  refine wpAny_Call_Name_kw (ld_g M kp hk hg hF mF ?_)
  refine PySem.W.callWith_K (h₀ := base) M.kin F.kp ?_ (by rfl) (by rfl)
  show wpAny _ _ (spliced ((false, eval (.Name "one" p1) cenv) :: (false, eval (.Constant (.int 0) j p2) cenv) :: (false, eval (.Name "MOST_WEIGHT" p3) cenv) :: [])) _ _ s₂
  refine Calls.spliced_cons (ld_l hk hx hn hm ?_)
  refine Calls.spliced_cons (wpAny_Constant_int ?_)
  refine Calls.spliced_cons (ld_g (s := { s₂ with toks := s₂.toks + 1 }) M kp hk hg hW mW ?_)
  refine Calls.spliced_nil ⟨M.kin.keeps kp, ?_⟩
  refine thn (run_isin (s := { s₂ with toks := s₂.toks + 1 }) F bI M kp (Nat.lt_of_le_of_lt hD' hD) mI mT mB i0 i1) fun y s' r => ⟨r.1, ?_⟩
  obtain ⟨h', tk, e, k⟩ := r.2
  exact ⟨h', tk, e, k⟩
end
end K37
namespace K37
open PySem PySem.Spec PyProof.Rows L2 GxR
abbrev sTime : Stmt := topS 15
abbrev sIsR : Stmt := topS 12
abbrev sNeedC : Stmt := topS 22
abbrev sNeedS : Stmt := topS 24
theorem scTime : FnScope ["time", "least", "most"] ["time", "least", "most"] (defScope sTime) := ⟨rfl, rfl, rfl, by decide +kernel, rfl, by decide +kernel, by decide +kernel⟩
theorem scIsR : FnScope ["value"] ["value"] (defScope sIsR) := ⟨rfl, rfl, rfl, by decide +kernel, rfl, by decide +kernel, by decide +kernel⟩
theorem scNeedC : FnScope ["claims", "most"] ["claims", "most"] (defScope sNeedC) := ⟨rfl, rfl, rfl, by decide +kernel, rfl, by decide +kernel, by decide +kernel⟩
theorem scNeedS : FnScope ["many", "chance", "claims", "most", "is_waiting"] ["many", "chance", "claims", "most", "is_waiting"] (defScope sNeedS) := ⟨rfl, rfl, rfl, by decide +kernel, rfl, by decide +kernel, by decide +kernel⟩
/-- a def of the text whose code object stands at c -/
structure FunC (K : PySem.W.Frag) (x qual : Str) (st : Stmt) (f : Addr) (fd : FuncData) (c : Addr) : Prop where
  ex : ∃ oc od kV doc pm an ct osl, fd = PySem.W.fnOf x qual (defArgs st) (defBody st) (defScope st) Value.none kV doc pm an (.ref c) ct ∧
    K.lookup f = some { cls := oc, dict := od, data := Data.func fd, slots := osl } ∧ PySem.W.codeIn K (.ref c) qual = true
  kp : PySem.W.keepIn K (.ref f) = true
theorem FunC.fn {K : PySem.W.Frag} {x qual : Str} {st : Stmt} {f c : Addr} {fd : FuncData} (F : FunC K x qual st f fd c) : Fun K x qual st f fd := by
  obtain ⟨oc, od, kV, doc, pm, an, ct, osl, e1, e2, e3⟩ := F.ex
  exact ⟨⟨oc, od, kV, doc, pm, an, _, ct, osl, e1, e2, e3⟩, F.kp⟩
theorem FunC.ok {P : Program} {w : World} {K : PySem.W.Frag} {mg : Str → Option Value} {base : Heap} {x qual : Str} {st : Stmt} {f c : Addr} {fd : FuncData} {N ps : List Str} {k : Nat} {sp : Sp} (F : FunC K x qual st f fd c) (S : FnScope N ps (defScope st))
    (len : ∀ (vs : List V) (H : Hp) (Q : VK) (E : XK), sp vs H Q E → vs.length = ps.length)
    (body : ∀ (A : Around) (outer : List Env) (s : Shared) (H : Hp) (vs : List V) (Q : VK) (E : XK), Room k (A.deeper (PyProof.Rows.envOfC qual (defScope st) s.heap.objs.size f (.ref c))) → sp vs H Q E →
      ∃ t, PSs (cxOf CX0 P w K mg base N qual (defScope st) f (.ref c) A outer s H E).nox (defBody st) t ∧ t { nx := fun x H' => Q V.non H', rt := Q } (L2.start N vs) H) :
    FnOk P w K mg base CX0 (k + 1) f fd ps sp := by
  obtain ⟨oc, od, kV, doc, pm, an, ct, osl, e1, e2, e3⟩ := F.ex
  subst e1
  refine fn_of e2 e3 S len fun A outer s H vs Q E hr h => ?_
  obtain ⟨t, h1, h2⟩ := body A outer s H vs Q E hr h
  exact ⟨t, h1.nox, h2⟩
theorem dp1 {k : Nat} {A : Around} (hr : Room k A) : A.depth + 1 < recursionLimit := by
  have := hr.dp
  omega
/-- the tables' defs have run: all else stands -/
structure Okk (P1 P2 : Addr) (H H' : Hp) : Prop where
  keep : ∀ b o, b ≠ P1 → b ≠ P2 → H b = some o → H' b = some o
  t1 : TabG H' P1
  t2 : TabG H' P2
theorem TabG.same {H H' : Hp} {P : Addr} (t : TabG H P) (s : Same H H') : TabG H' P := by
  obtain ⟨ps, h1, h2⟩ := t
  exact ⟨ps, s _ _ h1, h2⟩
theorem Okk.same {P1 P2 : Addr} {H H1 H2 : Hp} (a : Okk P1 P2 H H1) (s : Same H1 H2) : Okk P1 P2 H H2 :=
  ⟨fun b o h1 h2 e => s _ _ (a.keep b o h1 h2 e), TabG.same a.t1 s, TabG.same a.t2 s⟩
theorem Okk.pre {P1 P2 : Addr} {H H1 H2 : Hp} (s : Same H H1) (a : Okk P1 P2 H1 H2) : Okk P1 P2 H H2 :=
  ⟨fun b o h1 h2 e => a.keep b o h1 h2 (s _ _ e), a.t1, a.t2⟩
theorem Okk.trans {P1 P2 : Addr} {H H1 H2 : Hp} (a : Okk P1 P2 H H1) (b : Okk P1 P2 H1 H2) : Okk P1 P2 H H2 :=
  ⟨fun c o h1 h2 e => b.keep c o h1 h2 (a.keep c o h1 h2 e), b.t1, b.t2⟩
theorem TabG.ne {H : Hp} {P a : Addr} {o : HO} (t : TabG H P) (h : H a = some o) (hn : ∀ q, o ≠ .tbl q) : a ≠ P := by
  obtain ⟨ps, e, _⟩ := t
  exact ne_of h e (hn ps)
theorem Okk.none {P1 P2 a : Addr} {H H' : Hp} (a1 : Okk P1 P2 H H') (h : H' a = Option.none) : H a = Option.none := by
  cases e : H a with
  | none => rfl
  | some o =>
    have n1 : a ≠ P1 := fun z => by
      obtain ⟨ps, e1, _⟩ := a1.t1
      rw [z, e1] at h
      cases h
    have n2 : a ≠ P2 := fun z => by
      obtain ⟨ps, e1, _⟩ := a1.t2
      rw [z, e1] at h
      cases h
    rw [a1.keep _ _ n1 n2 e] at h
    cases h
theorem Okk.get {P1 P2 a : Addr} {H H' : Hp} {o : HO} (k : Okk P1 P2 H H') (t1 : TabG H P1) (t2 : TabG H P2) (h : H a = some o) (hn : ∀ q, o ≠ .tbl q) : H' a = some o :=
  k.keep a o (TabG.ne t1 h hn) (TabG.ne t2 h hn) h
theorem At.ok {P1 P2 a : Addr} {H H' : Hp} {x : Rat} (h : At H a x) (k : Okk P1 P2 H H') (t1 : TabG H P1) (t2 : TabG H P2) : At H' a x := k.get t1 t2 h (fun q z => by cases z)
theorem okk_of {P1 P2 : Addr} {H H1 H2 : Hp} (t1 : TabG H P1) (t2 : TabG H P2) (a : Tabbed P2 H H1) (b : Tabbed P1 H1 H2) : Okk P1 P2 H H2 := by
  refine ⟨fun c o h1 h2 e => by rw [b.2 c h1, a.2 c h2]; exact e, b.1, ?_⟩
  by_cases z : P2 = P1
  · rw [z]
    exact b.1
  · obtain ⟨ps, e1, e2⟩ := a.1
    exact ⟨ps, by rw [b.2 _ z]; exact e1, e2⟩
theorem tab_other {P1 P2 : Addr} {H H1 : Hp} (t1 : TabG H P1) (a : Tabbed P2 H H1) : TabG H1 P1 := by
  by_cases z : P1 = P2
  · rw [z]
    exact a.1
  · obtain ⟨ps, e1, e2⟩ := t1
    exact ⟨ps, by rw [a.2 _ z]; exact e1, e2⟩
/-- claims that need_claims lets pass -/
def OkC (ws : List Int) : Prop := (∀ x ∈ ws, 0 ≤ x ∧ x ≤ 1000) ∧ ∃ zs z, ws = zs ++ [z] ∧ z ≠ 0
section
variable {P : Program} {w : World} {K : PySem.W.Frag} {mg : Str → Option Value} {base : Heap}
def spIn : Sp := fun vs H Q _ => ∃ v lo hi : Int, vs = [.int v, .int lo, .int hi] ∧ lo ≤ v ∧ v ≤ hi ∧ Q (.bl true) H
theorem ok_in {f : Addr} {fd : FuncData} {k : Nat} (F : Fun K "is_in" "is_in" sIn f fd) (mIs : mg "isinstance" = none) (mI : mg "int" = none) (mBo : mg "bool" = none) :
    FnOk P w K mg base CX0 (k + 1) f fd ["value", "least", "most"] spIn := by
  refine F.ok scIn (fun vs H Q E h => ?_) (fun cdv A outer s H vs Q E hr h => ?_)
  · obtain ⟨v, lo, hi, rfl, _⟩ := h
    rfl
  · obtain ⟨v, lo, hi, rfl, h0, h1, q⟩ := h
    refine ⟨_, pss_one (ps_ret (pe_and (pe_callB call_isi (by rfl) mIs boot_isi (pa_cons (pv 0) (pa_cons (pe_bltn (v := .ty "int") (by rfl) mI boot_it rfl) pa_nil)))
      (pe_and (pe_not (pe_callB call_isi (by rfl) mIs boot_isi (pa_cons (pv 0) (pa_cons (pe_bltn (v := .ty "bool") (by rfl) mBo boot_bo rfl) pa_nil))))
      (pe_one (pe_chain op_le op_le (pv 1) (pv 0) (pv 2)))))), ?_⟩
    refine ⟨_, rfl, _, _, _, _, true, rfl, .ty _, .base (.int v), k_int_int, _, rfl, iteT ?_⟩
    refine ⟨_, rfl, _, _, _, _, false, rfl, .ty _, .base (.int v), k_int_bool, _, rfl, true, rfl, iteT ?_⟩
    refine ⟨_, rfl, _, rfl, _, _, rfl, rfl, _, rfl, ?_⟩
    rw [decide_eq_true h0]
    refine iteT ⟨_, rfl, _, _, rfl, rfl, ?_⟩
    show Q (.bl (decide (v ≤ hi))) H
    rw [decide_eq_true h1]
    exact q
def spTime : Sp := fun vs H Q _ => ∃ v lo hi : Int, vs = [.int v, .int lo, .int hi] ∧ lo ≤ v ∧ v ≤ hi ∧ Q .non H
theorem ok_time {f : Addr} {fd : FuncData} {k : Nat} (F : Fun K "need_time" "need_time" sTime f fd) (cI : C8.Cal P w K mg base k "is_in" spIn []) :
    FnOk P w K mg base CX0 (k + 1) f fd ["time", "least", "most"] spTime := by
  refine F.ok scTime (fun vs H Q E h => ?_) (fun cdv A outer s H vs Q E hr h => ?_)
  · obtain ⟨v, lo, hi, rfl, _⟩ := h
    rfl
  · obtain ⟨v, lo, hi, rfl, h0, h1, q⟩ := h
    refine ⟨_, pss_one (ps_if (pt_not (pt_val (C8.pe_c cI hr (Nat.le_refl _) (by rfl) (pa_cons (pv 0) (pa_cons (pv 1) (pa_cons (pv 2) pa_nil)))))) pss_never pss_nil), ?_⟩
    exact ⟨_, rfl, _, rfl, _, rfl, v, lo, hi, rfl, h0, h1, _, rfl, iteF q⟩
def spIsR (P2 : Addr) : Sp := fun vs H Q _ => ∃ (p : Addr) (x : Rat), vs = [.ref p] ∧ At H p x ∧ TabG H P2 ∧ ∀ H', Tabbed P2 H H' → Q (.bl true) H'
theorem ok_isr {f c P2 : Addr} {fd : FuncData} {k : Nat} (F : FunC K "is_ratio" "is_ratio" sIsR f fd c) (TB : GxR.TabB base mg c P2) (mIs : mg "isinstance" = none) (mI : mg "int" = none) (mBo : mg "bool" = none) (mTu : mg "tuple" = none) (mL : mg "len" = none) (mAl : mg "all" = none) (mG : mg "gcd" = some (.builtin "math.gcd")) :
    FnOk P w K mg base CX0 (k + 1) f fd ["value"] (spIsR P2) := by
  refine F.ok scIsR (fun vs H Q E h => ?_) (fun A outer s H vs Q E hr h => ?_)
  · obtain ⟨p, x, rfl, _⟩ := h
    rfl
  · obtain ⟨p, x, rfl, hp, ht, q⟩ := h
    refine ⟨_, pss_cons (ps_if (PW.pt (pw_or (pt_not (pt_val (pe_callB call_isi (by rfl) mIs boot_isi (pa_cons (pv 0) (pa_cons (pe_bltn (v := .ty "tuple") (by rfl) mTu boot_tup rfl) pa_nil)))))
          (pw_or1 (pt_cmpR op_ne (pe_callB call_len_seq (by rfl) mL PySem.boot_len (pa_cons (pv 0) pa_nil)) pe_int (nomark _))))) pss_never pss_nil)
      (pss_cons (ps_if (pt_not (pt_val (pe_allT hr (by rfl) mAl TB rfl ⟨by rfl, by rfl, by decide +kernel, by rfl, by rfl, fun y hy e => absurd e ((by decide +kernel : ∀ y ∈ _, y.2 ≠ NameKind.free) y hy)⟩ (pv 0)
          (fun M => elt_ints M (by rfl) (by rfl) (by rfl) mIs (by rfl) mI (by rfl) mBo) (fun _ => rfl)))) pss_never pss_nil)
      (pss_one (ps_ret (pe_and (pe_cmpR op_gt (pe_ix ix_tup (pv 0) pe_int (fun _ _ => rfl)) pe_int (nomark _))
        (pe_one (pe_cmpR op_eq (pe_callBfun cr_gcd (by rfl) mG (pa_cons (pe_ix ix_tup (pv 0) pe_int (fun _ _ => rfl)) (pa_cons (pe_ix ix_tup (pv 0) pe_int (fun _ _ => rfl)) pa_nil))) pe_int (nomark _))))))), ?_⟩
    refine ⟨_, rfl, _, _, _, _, true, rfl, .ty _, .base (.tup hp), k_tup_tup, _, rfl, iteF ?_⟩
    refine ⟨_, rfl, p, _, rfl, .inr hp.t, rfl, _, rfl, iteF ?_⟩
    refine ⟨_, rfl, p, _, rfl, hp.t, fun v hv => ?_, ht, fun H1 hT => ⟨_, rfl, iteF ?_⟩⟩
    · rcases List.mem_cons.mp hv with rfl | hv
      · exact ⟨_, rfl⟩
      · rcases List.mem_cons.mp hv with rfl | hv
        · exact ⟨_, rfl⟩
        · cases hv
    · have hp1 : At H1 p x := by
        have : p ≠ P2 := TabG.ne ht hp (fun q z => by cases z)
        unfold At
        rw [hT.2 p this]
        exact hp
      refine ⟨_, rfl, p, _, 1, _, rfl, rfl, hp1.t, atI_nat (j := 1) rfl, _, _, rfl, rfl, _, rfl, ?_⟩
      rw [decide_eq_true (den_pos x)]
      refine iteT ⟨_, rfl, p, _, 0, _, rfl, rfl, hp1.t, atI_nat (j := 0) rfl, _, rfl, p, _, 1, _, rfl, rfl, hp1.t, atI_nat (j := 1) rfl, _, _, rfl, rfl, ?_⟩
      have hg : ((Nat.gcd x.num.natAbs ((x.den : Int)).natAbs : Nat) : Int) = 1 := by
        have := x.reduced
        rw [Int.natAbs_natCast]
        unfold Nat.Coprime at this
        rw [this]
        rfl
      rw [hg, decide_eq_true rfl]
      exact q H1 hT
def spNeedC (P1 : Addr) : Sp := fun vs H Q _ => ∃ (pc : Addr) (ws : List Int) (n : Int), vs = [.ref pc, .int n] ∧ H pc = some (.tup (ws.map V.int)) ∧ OkC ws ∧ (ws.length : Int) ≤ n ∧ TabG H P1 ∧ ∀ H', Tabbed P1 H H' → Q .non H'
theorem ok_needc {f c P1 fI : Addr} {fd fdI : FuncData} {k : Nat} {tw : Tok} (F : FunC K "need_claims" "need_claims" sNeedC f fd c) (TB : GxR.TabB base mg c P1) (FI : Fun K "is_in" "is_in" sIn fI fdI) (bI : Binds K fdI ["value", "least", "most"] []) (mF : mg "is_in" = some (.ref fI)) (mW : mg "MOST_WEIGHT" = some (.int 1000 tw))
    (mIs : mg "isinstance" = none) (mI : mg "int" = none) (mBo : mg "bool" = none) (mTu : mg "tuple" = none) (mL : mg "len" = none) (mAl : mg "all" = none) :
    FnOk P w K mg base CX0 (k + 1) f fd ["claims", "most"] (spNeedC P1) := by
  refine F.ok scNeedC (fun vs H Q E h => ?_) (fun A outer s H vs Q E hr h => ?_)
  · obtain ⟨pc, ws, n, rfl, _⟩ := h
    rfl
  · obtain ⟨pc, ws, n, rfl, hc, hok, hn, ht, q⟩ := h
    refine ⟨_, pss_cons (ps_if (PW.pt (pw_or (pt_not (pt_val (pe_callB call_isi (by rfl) mIs boot_isi (pa_cons (pv 0) (pa_cons (pe_bltn (v := .ty "tuple") (by rfl) mTu boot_tup rfl) pa_nil)))))
          (pw_or1 (pt_not (pt_chain op_le op_le pe_int (pe_callB call_len_seq (by rfl) mL PySem.boot_len (pa_cons (pv 0) pa_nil)) (pv 1)))))) pss_never pss_nil)
      (pss_one (ps_if (PW.pt (pw_or (pt_not (pt_val (pe_allT hr (by rfl) mAl TB rfl ⟨by rfl, by rfl, by decide +kernel, by rfl, by rfl, fun y hy e => absurd e ((by decide +kernel : ∀ y ∈ _, y.2 ≠ NameKind.free) y hy)⟩ (pv 0)
          (fun M => elt_isin FI bI mF M (by rfl) (by rfl) (by rfl) (by rfl) mW (dp1 hr) mIs mI mBo) (fun _ => rfl))))
          (pw_or1 (pt_cmpR op_eq (pe_ix ix_tup (pv 0) (pe_un un_neg pe_int) (fun _ _ => rfl)) pe_int (nomark _))))) pss_never pss_nil)), ?_⟩
    obtain ⟨hall, zs, z, ez, hz⟩ := hok
    have hl1 : (1 : Int) ≤ ((ws.map V.int).length : Int) := by
      rw [List.length_map, ez, List.length_append]
      show (1 : Int) ≤ ((zs.length + 1 : Nat) : Int)
      omega
    have hl2 : ((ws.map V.int).length : Int) ≤ n := by rw [List.length_map]; exact hn
    refine ⟨_, rfl, _, _, _, _, true, rfl, .ty _, .base (.tup hc), k_tup_tup, _, rfl, iteF ?_⟩
    refine ⟨_, rfl, pc, _, rfl, .inr (SqT.of hc), _, _, rfl, rfl, _, rfl, ?_⟩
    rw [decide_eq_true hl1]
    refine iteT ⟨_, rfl, _, _, rfl, rfl, _, rfl, ?_⟩
    rw [decide_eq_true hl2]
    refine iteF ?_
    refine ⟨_, rfl, pc, _, rfl, SqT.of hc, fun v hv => ?_, ht, fun H1 hT => ⟨_, rfl, iteF ?_⟩⟩
    · obtain ⟨i, hi, rfl⟩ := List.mem_map.mp hv
      exact ⟨i, rfl, hall i hi⟩
    · have hc1 : H1 pc = some (.tup (ws.map V.int)) := by
        have : pc ≠ P1 := TabG.ne ht hc (fun q z => by cases z)
        rw [hT.2 pc this]
        exact hc
      have ha : atI (ws.map V.int) (-1) = some (.int z) := by
        rw [ez, List.map_append]
        exact atI_last _ _
      refine ⟨_, rfl, _, rfl, pc, _, _, _, rfl, rfl, SqT.of hc1, ha, rfl, _, rfl, ?_⟩
      rw [decide_eq_false (fun e => hz (V.int.inj e))]
      exact iteF (q H1 hT)
/-- a chance that need_sum lets pass -/
def OkP (x : Rat) : Prop := 0 < x ∧ x ≤ 1 ∧ x.den ≤ 1000
theorem okp_num {x : Rat} (h : OkP x) : 0 < x.num ∧ x.num ≤ (x.den : Int) := by
  refine ⟨num_pos h.1, ?_⟩
  have := (Rat.le_iff x 1).mp h.2.1
  simpa using this
def spNeedS (P1 P2 : Addr) : Sp := fun vs H Q _ => ∃ (p pc : Addr) (m n : Int) (x : Rat) (ws : List Int), vs = [.int m, .ref p, .ref pc, .int n, .bl true] ∧ 1 ≤ m ∧ m ≤ 8 ∧ 0 ≤ n ∧ n ≤ 40 ∧ At H p x ∧ OkP x ∧
  H pc = some (.tup (ws.map V.int)) ∧ OkC ws ∧ ws.length ≤ 13 ∧ TabG H P1 ∧ TabG H P2 ∧ ∀ H', Okk P1 P2 H H' → Q .non H'
theorem ok_needs {f P1 P2 : Addr} {fd : FuncData} {k : Nat} {t1 t2 t3 t4 : Tok} (F : Fun K "need_sum" "need_sum" sNeedS f fd) (cT : C8.Cal P w K mg base k "need_time" spTime []) (cR : C8.Cal P w K mg base k "is_ratio" (spIsR P2) []) (cC : C8.Cal P w K mg base k "need_claims" (spNeedC P1) [])
    (m1 : mg "MOST_TIMES" = some (.int 8 t1)) (m2 : mg "MOST_BOTTOM" = some (.int 1000 t2)) (m3 : mg "MOST_AMOUNTS" = some (.int 13 t3)) (m4 : mg "MOST_TOTAL" = some (.int 40 t4)) :
    FnOk P w K mg base CX0 (k + 1) f fd ["many", "chance", "claims", "most", "is_waiting"] (spNeedS P1 P2) := by
  refine F.ok scNeedS (fun vs H Q E h => ?_) (fun cdv A outer s H vs Q E hr h => ?_)
  · obtain ⟨p, pc, m, n, x, ws, rfl, _⟩ := h
    rfl
  · obtain ⟨p, pc, m, n, x, ws, rfl, hm0, hm1, hn0, hn1, hp, hx, hc, hok, hl, ht1, ht2, q⟩ := h
    have kk : k ≤ k := Nat.le_refl _
    refine ⟨_, pss_cons (ps_expr (C8.pe_c cT hr kk (by rfl) (pa_cons (pv 0) (pa_cons pe_int (pa_cons (pe_glob (v := .int 8) (by rfl) m1 ⟨_, rfl⟩) pa_nil)))))
      (pss_cons (ps_if (PW.pt (pw_or (pt_not (pt_val (C8.pe_c cR hr kk (by rfl) (pa_cons (pv 1) pa_nil))))
          (pw_or (pt_cmpR op_gt (pe_ix ix_tup (pv 1) pe_int (fun _ _ => rfl)) (pe_glob (v := .int 1000) (by rfl) m2 ⟨_, rfl⟩) (nomark _))
          (pw_or1 (pt_not (pt_chain op_le op_le pe_int (pe_ix ix_tup (pv 1) pe_int (fun _ _ => rfl)) (pe_ix ix_tup (pv 1) pe_int (fun _ _ => rfl)))))))) pss_never pss_nil)
      (pss_cons (ps_if (PW.pt (pw_and (pt_val (pv 4)) (pw_and1 (pt_cmpR op_eq (pe_ix ix_tup (pv 1) pe_int (fun _ _ => rfl)) pe_int (nomark _))))) pss_never pss_nil)
      (pss_cons (ps_expr (C8.pe_c cC hr kk (by rfl) (pa_cons (pv 2) (pa_cons (pe_glob (v := .int 13) (by rfl) m3 ⟨_, rfl⟩) pa_nil))))
      (pss_one (ps_expr (C8.pe_c cT hr kk (by rfl) (pa_cons (pv 3) (pa_cons pe_int (pa_cons (pe_glob (v := .int 40) (by rfl) m4 ⟨_, rfl⟩) pa_nil))))))))), ?_⟩
    obtain ⟨xn, xd⟩ := okp_num hx
    refine ⟨_, rfl, m, 1, 8, rfl, hm0, hm1, ?_⟩
    refine ⟨_, rfl, p, x, rfl, hp, ht2, fun H1 hT => ⟨_, rfl, iteF ?_⟩⟩
    have np2 : p ≠ P2 := TabG.ne ht2 hp (fun q z => by cases z)
    have hp1 : At H1 p x := by
      unfold At
      rw [hT.2 p np2]
      exact hp
    have hc1 : H1 pc = some (.tup (ws.map V.int)) := by
      rw [hT.2 pc (TabG.ne ht2 hc (fun q z => by cases z))]
      exact hc
    refine ⟨_, rfl, p, _, 1, _, rfl, rfl, hp1.t, atI_nat (j := 1) rfl, _, _, rfl, rfl, _, rfl, ?_⟩
    rw [decide_eq_false (show ¬ (1000 : Int) < (x.den : Int) by have := hx.2.2; omega)]
    refine iteF ⟨_, rfl, p, _, 0, _, rfl, rfl, hp1.t, atI_nat (j := 0) rfl, _, _, rfl, rfl, _, rfl, ?_⟩
    rw [decide_eq_true (show (0 : Int) ≤ x.num by omega)]
    refine iteT ⟨_, rfl, p, _, 1, _, rfl, rfl, hp1.t, atI_nat (j := 1) rfl, _, _, rfl, rfl, _, rfl, ?_⟩
    rw [decide_eq_true xd]
    refine iteF ?_
    refine ⟨_, rfl, _, rfl, iteT ⟨_, rfl, p, _, 0, _, rfl, rfl, hp1.t, atI_nat (j := 0) rfl, rfl, _, rfl, ?_⟩⟩
    rw [decide_eq_false (fun e => by have := V.int.inj e; omega)]
    refine iteF ?_
    refine ⟨_, rfl, pc, ws, 13, rfl, hc1, hok, by omega, tab_other ht1 hT, fun H2 hT2 => ?_⟩
    exact ⟨_, rfl, n, 0, 40, rfl, hn0, hn1, q H2 (okk_of ht1 ht2 hT hT2)⟩
end
end K37
namespace K37
open PySem PySem.Spec PyProof.Rows L2 GxR
abbrev sWait : Stmt := topS 27
theorem scWait : FnScope ["many", "chance", "claims", "most", "failure", "first"] ["many", "chance", "claims", "most"] (defScope sWait) := ⟨rfl, rfl, rfl, by decide +kernel, rfl, by decide +kernel, by decide +kernel⟩
theorem sum_nonneg : ∀ (l : List Int), (∀ x ∈ l, 0 ≤ x ∧ x ≤ 1000) → 0 ≤ l.sum ∧ l.sum ≤ 1000 * (l.length : Int)
  | [], _ => ⟨Int.le_refl 0, Int.le_refl 0⟩
  | x :: r, h => by
    have h1 := h x (List.mem_cons_self ..)
    have h2 := sum_nonneg r fun y hy => h y (List.mem_cons_of_mem _ hy)
    rw [List.sum_cons, List.length_cons]
    omega
theorem okc_sum {ws : List Int} (h : OkC ws) : 0 < ws.sum ∧ ws.sum ≤ 1000 * (ws.length : Int) := by
  obtain ⟨hall, zs, z, e, hz⟩ := h
  have h2 := sum_nonneg ws hall
  refine ⟨?_, h2.2⟩
  have h3 := sum_nonneg zs fun y hy => hall y (by rw [e]; exact List.mem_append_left _ hy)
  have h4 := hall z (by rw [e]; exact List.mem_append_right _ (List.mem_singleton.mpr rfl))
  have e2 : ws.sum = zs.sum + z := by rw [e, List.sum_append, List.sum_singleton]
  omega
theorem okc_wok {ws : List Int} (h : OkC ws) (hl : ws.length ≤ 13) : WOk ws := by
  have hs := okc_sum h
  refine ⟨hs.1, ?_, by omega, ?_⟩
  · refine Nat.lt_of_lt_of_le (show ws.sum.natAbs < 2 ^ 20 by omega) (Nat.pow_le_pow_right (by decide) (by decide))
  · obtain ⟨_, zs, z, e, _⟩ := h
    rw [e, List.length_append]
    show 1 ≤ zs.length + 1
    omega
/-- the sizes of all that waiting_sum reckons; g: what it hands back -/
structure WSz (ws : List Int) (x : Rat) (m n : Nat) (g : Nat → Rat) : Prop where
  zx : Sz x
  zm : Sz ((m - 1 : Nat) : Rat)
  zq : Sz (x / (1 - (1 - x) * cs ws 0))
  zp : ∀ j, j ≤ m → Sz ((x / (1 - (1 - x) * cs ws 0)) ^ j)
  g0 : g 0 = (x / (1 - (1 - x) * cs ws 0)) ^ m
  rc : IsRec (cs ws) ws.length (1 - x) (((m - 1 : Nat) : Rat) * (1 - x)) g
  sz : RecSz (cs ws) ws.length (1 - x) (((m - 1 : Nat) : Rat) * (1 - x)) g n
section
variable {P : Program} {w : World} {K : PySem.W.Frag} {mg : Str → Option Value} {base : Heap}
def spWait (P1 P2 : Addr) : Sp := fun vs H Q _ => ∃ (p pc : Addr) (m n : Nat) (x : Rat) (ws : List Int) (g : Nat → Rat), vs = [.int (m : Int), .ref p, .ref pc, .int (n : Int)] ∧ 1 ≤ m ∧ m ≤ 8 ∧ n ≤ 40 ∧ At H p x ∧ OkP x ∧
  H pc = some (.tup (ws.map V.int)) ∧ OkC ws ∧ ws.length ≤ 13 ∧ TabG H P1 ∧ TabG H P2 ∧ WSz ws x m n g ∧
  ∀ H' t ps, Okk P1 P2 H H' → H t = none → H' t = some (.tup ps) → Rts H' ps (n + 1) g → Q (.ref t) H'
theorem rt_nat (j : Nat) : rt (j : Rat) = [.int (j : Int), .int 1] := by
  unfold rt
  rw [Rat.num_natCast, Rat.den_natCast]
  rfl
theorem ok_wait {f P1 P2 : Addr} {fd : FuncData} {k : Nat} (F : Fun K "waiting_sum" "waiting_sum" sWait f fd) (cN : C8.Cal P w K mg base k "need_sum" (spNeedS P1 P2) [])
    (cC : C8.Cal P w K mg base k "chances_of" (spChances K) []) (cO : C8.Cal P w K mg base k "over" (spBin (· / ·) fun y => 0 < y) []) (cM : C8.Cal P w K mg base k "minus" (spBin (· - ·) fun _ => True) [])
    (cB : C8.Cal P w K mg base k "by" (spBin (· * ·) fun _ => True) []) (cP : C8.Cal P w K mg base k "power_of" spPow []) (cR : C8.Cal P w K mg base k "recursion" (spRec K) []) :
    FnOk P w K mg base CX0 (k + 1) f fd ["many", "chance", "claims", "most"] (spWait P1 P2) := by
  refine F.ok scWait (fun vs H Q E h => ?_) (fun cdv A outer s H vs Q E hr h => ?_)
  · obtain ⟨p, pc, m, n, x, ws, g, rfl, _⟩ := h
    rfl
  · obtain ⟨p, pc, m, n, x, ws, g, rfl, hm0, hm1, hn, hp, hx, hc, hok, hl, ht1, ht2, Z, q⟩ := h
    have kk : k ≤ k := Nat.le_refl _
    have hw : WOk ws := okc_wok hok hl
    refine ⟨_, pss_cons (ps_expr (C8.pe_c cN hr kk (by rfl) (pa_cons (pv 0) (pa_cons (pv 1) (pa_cons (pv 2) (pa_cons (pv 3) (pa_cons pe_bl pa_nil)))))))
      (pss_cons (ps_set (i := 4) scWait.nd rfl (.inl rfl) (C8.pe_c cM hr kk (by rfl) (pa_cons (pe_tup (pa_cons pe_int (pa_cons pe_int pa_nil))) (pa_cons (pv 1) pa_nil))))
      (pss_cons (ps_set (i := 5) scWait.nd rfl (.inl rfl) (C8.pe_c cP hr kk (by rfl) (pa_cons (C8.pe_c cO hr kk (by rfl) (pa_cons (pv 1)
          (pa_cons (C8.pe_c cM hr kk (by rfl) (pa_cons (pe_tup (pa_cons pe_int (pa_cons pe_int pa_nil))) (pa_cons (C8.pe_c cB hr kk (by rfl) (pa_cons (pv 4) (pa_cons (pe_ix ix_list (C8.pe_c cC hr kk (by rfl) (pa_cons (pv 2) pa_nil)) pe_int (fun _ _ => rfl)) pa_nil))) pa_nil))) pa_nil))) (pa_cons (pv 0) pa_nil))))
      (pss_one (ps_ret (C8.pe_c cR hr kk (by rfl) (pa_cons (pv 5) (pa_cons (pv 4) (pa_cons (C8.pe_c cB hr kk (by rfl) (pa_cons (pe_tup (pa_cons (pe_op op_sub (pv 0) pe_int) (pa_cons pe_int pa_nil))) (pa_cons (pv 4) pa_nil))) (pa_cons (pv 2) (pa_cons (pv 3) pa_nil)))))))))), ?_⟩
    refine ⟨_, rfl, _, rfl, _, rfl, _, rfl, p, pc, m, n, x, ws, rfl, by omega, by omega, by omega, by omega, hp, hx, hc, hok, hl, ht1, ht2, fun H1 k1 => ?_⟩
    have hp1 : At H1 p x := hp.ok k1 ht1 ht2
    have hc1 : H1 pc = some (.tup (ws.map V.int)) := k1.get ht1 ht2 hc (fun q z => by cases z)
    -- failure
    refine ⟨(by show 2 ≤ sizeLine; decide), fun t1 h1 => ?_⟩
    have s1 := same_upd (o := .tup [.int 1, .int 1]) h1
    have a1 : At (upd H1 t1 (.tup [.int 1, .int 1])) t1 1 := upd_same
    refine ⟨_, rfl, t1, p, 1, x, rfl, a1, hp1.seq s1, Sz.one, Z.zx, trivial, fun H2 pq s2 n2 hq => ?_⟩
    have s12 := s1.trans s2
    -- first
    refine ⟨_, rfl, (by show 2 ≤ sizeLine; decide), fun t3 h3 => ?_⟩
    have s3 := same_upd (o := .tup [.int 1, .int 1]) h3
    have a3 : At (upd H2 t3 (.tup [.int 1, .int 1])) t3 1 := upd_same
    generalize upd H2 t3 (.tup [.int 1, .int 1]) = H3 at *
    have s13 := s12.trans s3
    refine ⟨_, rfl, _, rfl, pc, ws, rfl, SqT.of (s13 _ _ hc1), hw.pos, hw.lt, hw.len, fun H4 pch cps s4 n4 e4 r4 => ?_⟩
    obtain ⟨pk, ek, hk⟩ := r4.at' (i := 0) hw.ne
    refine ⟨pch, _, 0, _, rfl, rfl, SqL.of e4, ek, pq, pk, _, _, rfl, (hq.seq s3).seq s4, hk, Z.sz.za, Z.sz.zc 0 hw.ne, trivial, fun H5 t5 s5 n5 a5 => ?_⟩
    refine ⟨t3, t5, 1, _, rfl, (a3.seq s4).seq s5, a5, Sz.one, Z.sz.zac, trivial, fun H6 t6 s6 n6 a6 => ?_⟩
    have s16 := ((s13.trans s4).trans s5).trans s6
    refine ⟨p, t6, x, _, rfl, hp1.seq s16, a6, Z.zx, Z.sz.z1, Z.sz.pos, fun H7 t7 s7 n7 a7 => ?_⟩
    refine ⟨_, rfl, t7, m, _, rfl, a7, by omega, Z.zq, Z.zp, fun H8 pf s8 n8 a8 => ?_⟩
    have s18 := (s16.trans s7).trans s8
    have s28 : Same H2 H8 := ((((s3.trans s4).trans s5).trans s6).trans s7).trans s8
    -- the recursion
    refine ⟨_, rfl, _, rfl, _, rfl, _, _, rfl, rfl, (by show 2 ≤ sizeLine; decide), fun t9 h9 => ?_⟩
    have s9 := same_upd (o := .tup [.int ((m : Int) - 1), .int 1]) h9
    have a9 : At (upd H8 t9 (.tup [.int ((m : Int) - 1), .int 1])) t9 ((m - 1 : Nat) : Rat) := by
      unfold At
      rw [upd_same, rt_nat, show ((m - 1 : Nat) : Int) = (m : Int) - 1 by omega]
    refine ⟨_, rfl, t9, pq, _, _, rfl, a9, (hq.seq s28).seq s9, Z.zm, Z.sz.za, trivial, fun H10 pb s10 n10 a10 => ?_⟩
    refine ⟨_, rfl, _, rfl, pf, pq, pb, pc, n, ws, 1 - x, _, g, rfl, ?_, ((hq.seq s28).seq s9).seq s10, a10, SqT.of (((s18.trans s9).trans s10) _ _ hc1), hw, hn, Z.sz, Z.rc, fun H' t ps s11 n11 e11 r11 => ?_⟩
    · rw [Z.g0]
      exact (a8.seq s9).seq s10
    · have sa : Same H1 H10 := (s18.trans s9).trans s10
      exact q H' t ps (k1.same (sa.trans s11)) (k1.none (same_none sa n11)) e11 r11
end
end K37
namespace K37
open PySem PySem.Spec PyProof.Rows L2 GxR
/-! ### tuple * int, the int 0 or 1 -/
/-- a tuple's object -/
abbrev tupO (items : Array Value) (n : Nat) (dd : Option Addr) (sl : Array (Option Value)) : Obj := { cls := .type "tuple", dict := dd, data := .seq items n, slots := sl }
section
variable {l : Addr} {items : Array Value} {n : Nat} {dd : Option Addr} {sl : Array (Option Value)}
/-- once: the tuple itself -/
theorem mul_once (u : Tok) (full : items.isEmpty = false) : Meets (Builtin.«tuple.__mul__» ⟨[.ref l, .int 1 u], []⟩) (fun _ R s => s.heap.get? l = some (tupO items n dd sl) ∧ R (.ok (.ret (Value.ref l))) s) := by
  refine .of_wp fun _ _ _ _ s ⟨eo, hR⟩ => ?_
  cases s
  have idx := AutoSeq1.idx_int
  wp_walk using wpAny_loadPart' eo
  exact ⟨_, rfl, hR⟩
/-- never: a new empty tuple -/
theorem mul_never (u : Tok) (full : items.isEmpty = false) : Meets (Builtin.«tuple.__mul__» ⟨[.ref l, .int 0 u], []⟩) (fun _ R s => s.heap.get? l = some (tupO items n dd sl) ∧
    R (.ok (.ret (Value.ref s.heap.objs.size))) { s with heap := s.heap.push (tupO #[] 0 none #[]) }) := by
  refine .of_wp fun _ _ _ _ s ⟨eo, hR⟩ => ?_
  cases s
  have idx := AutoSeq1.idx_int
  have notSame : (items.isEmpty || (0 : Int) == 1) = false := by rw [full]; rfl
  wp_walk using wpAny_loadPart' eo
  exact ⟨_, rfl, hR⟩
/-- tuple * int goes by tuple.__mul__ -/
theorem mul_road {prog : Program} {w : World} {A : Around} {E : Value → Shared → Prop} {s : Shared} {Q : Value → Shared → Prop} {k : Int} {t : Tok} (eo : s.heap.get? l = some (tupO items n dd sl))
    (h : wpAny (model prog w) A (call (.builtin "tuple.__mul__") [.ref l, .int k t]) Q E s) : wpAny (model prog w) A (binaryOp .Mult (.ref l) (.int k t)) Q E s := by
  have isT : s.TypeIs (.ref l) "tuple" := ⟨_, eo, rfl⟩
  refine wpAny_binaryOp_repeat_ref (T := "tuple") (U := "int") (by decide) isT (fun s' => typeIs_int s' k t) noFill_tuple_mul F.fills_int_mul F.slot_int_rmul repeat_tuple F.slot_int_index.lookup ?_
  exact call_meets F.slot_int_rmul (typeIs_int s k t) F.entry_int_rmul (F.args_int_rmul_2 _ _) (int_rmul_tuple k t l items n dd sl) ⟨eo, rfl, isT, h⟩
end
def rRep01 (K : PySem.W.Frag) : R2 := fun x y H Q => ∃ l k xs, x = .ref l ∧ y = .int k ∧ SqT K H l xs ∧ xs ≠ [] ∧ (k = 0 ∨ k = 1) ∧ (k = 1 → Q (.ref l) H) ∧ (k = 0 → ∀ p, H p = none → Q (.ref p) (upd H p (.tup [])))
theorem op_rep01 {X : Cx} : OpR X (binaryOp .Mult) (rRep01 X.K) := by
  rintro pins t σ H _ _ _ _ Q J rel rel2 ⟨l, k, xs, rfl, rfl, seq, ne, zo, one, zero⟩
  obtain ⟨tk, rfl⟩ := rel2
  cases rel
  obtain ⟨its, vals, ⟨⟨cl, dd, da, sl⟩, eo, ecl, n, eda⟩, _⟩ := J.tuple seq
  cases ecl
  cases eda
  have full : its.toArray.isEmpty = false := by
    cases its with
    | cons _ _ => rfl
    | nil =>
      refine absurd ?_ ne
      cases xs with
      | nil => rfl
      | cons _ _ => exact absurd vals.length (by simp)
  rcases zo with rfl | rfl
  · refine mul_road eo (call_meets F.slot_tuple_mul ⟨_, eo, rfl⟩ F.entry_tuple_mul (F.args_tuple_mul_2 _ _) (mul_never tk full) ⟨eo, ?_⟩)
    exact ⟨.ref t.heap.objs.size, _, J.laid (t' := t.toks) (o := .tup []) (fun b ob q => Heap.get?_push_of_some _ q) (Nat.le_refl _) ⟨Nat.zero_le _, [], .nil, IsTup.new _ _⟩, rfl, zero rfl _ (J.hok.fresh (Nat.le_refl _))⟩
  · refine mul_road eo (call_meets F.slot_tuple_mul ⟨_, eo, rfl⟩ F.entry_tuple_mul (F.args_tuple_mul_2 _ _) (mul_once tk full) ⟨eo, ?_⟩)
    exact ⟨.ref l, H, J, rfl, one rfl⟩
/-- tuple * int, 0 to 1000 -/
theorem op_repN {X : Cx} : OpR X (binaryOp .Mult) (fun x y H Q => rRepT X.K x y H Q ∨ rRep01 X.K x y H Q) := op_repT.or op_rep01
end K37
namespace K37
open PySem PySem.Spec PyProof.Rows L2 GxR
abbrev sLaw : Stmt := topS 39
theorem scLaw : FnScope ["_law_script", "_law_row", "_law_many", "_law_claims_here", "_law_most", "_law_chance", "_law_found", "_law_parts", "_law_failure", "_law_fewer", "_law_goal", "_law_due", "_law_k"] ["_law_script"] (defScope sLaw) := ⟨rfl, rfl, rfl, by decide +kernel, rfl, by decide +kernel, by decide +kernel⟩
/-- an expression's reading, cut: what is kept of its value -/
def tCut (t : TE) : TE := fun σ H Q => ∃ R : V → Hp → Prop, t σ H R ∧ ∀ v H', R v H' → Q v H'
theorem pe_cut {X : Cx} {e : Expr} {t : TE} (h : PE X e t) : PE X e (tCut t) := ⟨fun pins s σ H Q I hq => by
  obtain ⟨R, h1, h2⟩ := hq
  exact thn (h.run pins s σ H R I h1) fun u s1 ⟨v, H1, I1, r1, q1⟩ => ⟨v, H1, I1, r1, h2 v H1 q1⟩⟩
/-- the chances that the law draws -/
def Ch (x : Rat) : Prop := OkP x ∧ rt (1 - x) = [.int ((x.den : Int) - x.num), .int (x.den : Int)]
theorem ch1 : Ch 1 := ⟨⟨by decide +kernel, by decide +kernel, by decide +kernel⟩, by decide +kernel⟩
theorem ch2 : Ch (1 / 2) := ⟨⟨by decide +kernel, by decide +kernel, by decide +kernel⟩, by decide +kernel⟩
theorem ch3 : Ch (1 / 10) := ⟨⟨by decide +kernel, by decide +kernel, by decide +kernel⟩, by decide +kernel⟩
theorem ch4 : Ch (9 / 10) := ⟨⟨by decide +kernel, by decide +kernel, by decide +kernel⟩, by decide +kernel⟩
theorem ch5 : Ch (999 / 1000) := ⟨⟨by decide +kernel, by decide +kernel, by decide +kernel⟩, by decide +kernel⟩
theorem rt1 : rt 1 = [.int 1, .int 1] := by decide +kernel
theorem rt2 : rt (1 / 2) = [.int 1, .int 2] := by decide +kernel
theorem rt3 : rt (1 / 10) = [.int 1, .int 10] := by decide +kernel
theorem rt4 : rt (9 / 10) = [.int 9, .int 10] := by decide +kernel
theorem rt5 : rt (999 / 1000) = [.int 999, .int 1000] := by decide +kernel
theorem rt0 : rt 0 = [.int 0, .int 1] := by decide +kernel
theorem okw_okc {ws : List Int} (h : OkW ws) : OkC ws ∧ ws.length ≤ 4 := by
  obtain ⟨hl, zs, z, e, hz, h1, h5⟩ := h
  refine ⟨⟨fun x hx => ?_, zs, z, e, by omega⟩, hl⟩
  rw [e] at hx
  rcases List.mem_append.mp hx with hx | hx
  · have := hz x hx
    omega
  · rw [List.mem_singleton.mp hx]
    omega
/-- the sizes of all that the law itself reckons -/
structure LSz (c : Nat → Rat) (L : Nat) (x : Rat) (n : Nat) (f g : Nat → Rat) : Prop where
  zx : Sz x
  zq : Sz (1 - x)
  zc : ∀ k, k < L → Sz (c k)
  zf : ∀ j, j ≤ n → Sz (f j)
  zg : ∀ j, j ≤ n → Sz (g j)
  zqc : ∀ k, k < L → Sz ((1 - x) * c k)
  zt : ∀ j k, j ≤ n → k ≤ j → k < L → Sz (((1 - x) * c k) * g (j - k))
  zd : ∀ j k, j ≤ n → k ≤ j + 1 → k ≤ L → Sz (due x (1 - x) c f g j k)
/-- all the mathematics that the walk asks -/
def Good (m n : Nat) (x : Rat) (ws : List Int) : Prop := ∃ f g : Nat → Rat, WSz ws x m n g ∧ (m = 1 → f = unit) ∧ (2 ≤ m → WSz ws x (m - 1) n f) ∧ LSz (cs ws) ws.length x n f g ∧
  ∀ j, due x (1 - x) (cs ws) f g j (min j (ws.length - 1) + 1) = g j
theorem rep_flat (v : V) : ∀ n : Nat, (List.replicate n [v]).flatten = List.replicate n v
  | 0 => rfl
  | n + 1 => by rw [List.replicate_succ, List.flatten_cons, rep_flat v n, List.replicate_succ]; rfl
theorem unit_rts {H : Hp} {a b : Addr} {n : Nat} (ha : At H a 1) (hb : 0 < n → At H b 0) : Rts H ([.ref a] ++ List.replicate n (.ref b)) (n + 1) unit := by
  refine ⟨by rw [List.length_append, List.length_replicate]; show 1 + n = n + 1; omega, fun i hi => ?_⟩
  by_cases h0 : i = 0
  · subst h0
    exact ⟨a, rfl, ha⟩
  · refine ⟨b, ?_, ?_⟩
    · rw [List.getElem?_append_right (show [V.ref a].length ≤ i from by show 1 ≤ i; omega)]
      rw [List.getElem?_replicate]
      rw [if_pos (show i - [V.ref a].length < n by show i - 1 < n; omega)]
    · have : unit i = 0 := by
        unfold unit
        rw [if_neg h0]
      rw [this]
      exact hb (by omega)
section
variable {P : Program} {w : World} {K : PySem.W.Frag} {mg : Str → Option Value} {base : Heap}
def spLaw (K : PySem.W.Frag) (P1 P2 : Addr) : Sp := fun vs H Q _ => ∃ (a : Addr) (ns : List Int), vs = [.ref a] ∧ SqL K H a (ns.map V.int) ∧ TabG H P1 ∧ TabG H P2 ∧ ∀ H', Q (.bl true) H'
theorem ok_law {f P1 P2 : Addr} {fd : FuncData} {k : Nat} (F : Fun K "law" "law" sLaw f fd) (hM : ∀ (m n : Nat) (x : Rat) (ws : List Int), 1 ≤ m → m ≤ 4 → n ≤ 12 → Ch x → OkW ws → Good m n x ws)
    (cT : C8.Cal P w K mg base k "_law_taken" (spTaken K) []) (cPk : C8.Cal P w K mg base k "_law_pick" (spPick K) []) (cCl : C8.Cal P w K mg base k "_law_claims" (spClaims K) []) (cW : C8.Cal P w K mg base k "waiting_sum" (spWait P1 P2) [])
    (cC : C8.Cal P w K mg base k "_law_chances" (spChances K) []) (cB : C8.Cal P w K mg base k "_law_by" (spBin (· * ·) fun _ => True) []) (cP : C8.Cal P w K mg base k "_law_plus" (spBin (· + ·) fun _ => True) []) (cA : C8.Cal P w K mg base k "_law_alike" spAlT [])
    (mRg : mg "range" = none) (mMi : mg "min" = none) (mL : mg "len" = none) (mTu : mg "tuple" = none) (mIs : mg "isinstance" = none) :
    FnOk P w K mg base CX0 (k + 1) f fd ["_law_script"] (spLaw K P1 P2) := by
  refine F.ok scLaw (fun vs H Q E h => ?_) (fun cdv A outer s H vs Q E hr h => ?_)
  · obtain ⟨a, ns, rfl, _⟩ := h
    rfl
  · obtain ⟨a, ns, rfl, hS, ht1, ht2, q⟩ := h
    have kk : k ≤ k := Nat.le_refl _
    refine ⟨_, pss_cons (ps_set (i := 1) scLaw.nd rfl (.inl rfl) (pe_lst (pa_cons (pv 0) (pa_cons pe_int (pa_cons pe_int (pa_cons pe_int pa_nil))))))
      (pss_cons (ps_par3 (i := 2) (j := 3) (l := 4) rfl scLaw.nd rfl rfl rfl (by decide) (by decide) (by decide) rfl rfl rfl
        (pa_cons (pe_op op_add pe_int (C8.pe_c cT hr kk (by rfl) (pa_cons (pv 1) (pa_cons pe_int pa_nil)))) (pa_cons (C8.pe_c cCl hr kk (by rfl) (pa_cons (pv 1) (pa_cons pe_int pa_nil))) (pa_cons (C8.pe_c cT hr kk (by rfl) (pa_cons (pv 1) (pa_cons pe_int pa_nil))) pa_nil))) (by rfl))
      (pss_cons (ps_set (i := 5) scLaw.nd rfl (.inl rfl) (C8.pe_c cPk hr kk (by rfl) (pa_cons (pv 1) (pa_cons (pe_lst (pa_cons (pe_tup (pa_cons pe_int (pa_cons pe_int pa_nil))) (pa_cons (pe_tup (pa_cons pe_int (pa_cons pe_int pa_nil)))
        (pa_cons (pe_tup (pa_cons pe_int (pa_cons pe_int pa_nil))) (pa_cons (pe_tup (pa_cons pe_int (pa_cons pe_int pa_nil))) (pa_cons (pe_tup (pa_cons pe_int (pa_cons pe_int pa_nil))) pa_nil)))))) pa_nil))))
      (pss_cons (ps_par (i := 6) (j := 7) rfl scLaw.nd rfl rfl (by decide) rfl rfl
        (pa_cons (C8.pe_c cW hr kk (by rfl) (pa_cons (pv 2) (pa_cons (pv 5) (pa_cons (pv 3) (pa_cons (pv 4) pa_nil))))) (pa_cons (C8.pe_c cC hr kk (by rfl) (pa_cons (pv 3) pa_nil)) pa_nil)) (by rfl))
      (pss_cons (ps_if (PW.pt (pw_or (pt_not (pt_val (pe_callB call_isi (by rfl) mIs boot_isi (pa_cons (pv 6) (pa_cons (pe_bltn (v := .ty "tuple") (by rfl) mTu boot_tup rfl) pa_nil)))))
          (pw_or1 (pt_cmpR op_ne (pe_callB call_len_seq (by rfl) mL PySem.boot_len (pa_cons (pv 6) pa_nil)) (pe_op op_add (pv 4) pe_int) (nomark _))))) pss_never pss_nil)
      (pss_cons (ps_set (i := 8) scLaw.nd rfl (.inl rfl) (pe_tup (pa_cons (pe_op op_sub (pe_ix ix_tup (pv 5) pe_int (fun _ _ => rfl)) (pe_ix ix_tup (pv 5) pe_int (fun _ _ => rfl))) (pa_cons (pe_ix ix_tup (pv 5) pe_int (fun _ _ => rfl)) pa_nil))))
      (pss_cons (ps_set (i := 9) scLaw.nd rfl (.inl rfl) (pe_cut (pe_ifExp (pt_cmpR op_gt (pv 2) pe_int (nomark _)) (C8.pe_c cW hr kk (by rfl) (pa_cons (pe_op op_sub (pv 2) pe_int) (pa_cons (pv 5) (pa_cons (pv 3) (pa_cons (pv 4) pa_nil)))))
          (pe_op op_catA (pe_tup (pa_cons (pe_tup (pa_cons pe_int (pa_cons pe_int pa_nil))) pa_nil)) (pe_op op_repN (pe_tup (pa_cons (pe_tup (pa_cons pe_int (pa_cons pe_int pa_nil))) pa_nil)) (pv 4))))))
      (pss_cons (ps_for PassesOwn.never rfl (pi_range1 rfl mRg (pa_cons (pe_op op_add (pv 4) pe_int) pa_nil)) (pg_name (i := 10) scLaw.nd rfl (Or.inl rfl))
        (pss_cons (ps_set (i := 11) scLaw.nd rfl (.inl rfl) (C8.pe_c cB hr kk (by rfl) (pa_cons (pv 5) (pa_cons (pe_ix ix_tup (pv 9) (pv 10) (fun _ _ => rfl)) pa_nil))))
        (pss_cons (ps_for PassesOwn.never rfl (pi_range1 rfl mRg (pa_cons (pe_op op_add (pe_callB (call_min2 rfl) (by rfl) mMi boot_min (pa_cons (pv 10) (pa_cons (pe_op op_sub (pe_callB call_len_seq (by rfl) mL PySem.boot_len (pa_cons (pv 7) pa_nil)) pe_int) pa_nil))) pe_int) pa_nil)) (pg_name (i := 12) scLaw.nd rfl (Or.inl rfl))
          (pss_one (ps_set (i := 11) scLaw.nd rfl (.inl rfl) (C8.pe_c cP hr kk (by rfl) (pa_cons (pv 11) (pa_cons (C8.pe_c cB hr kk (by rfl) (pa_cons (C8.pe_c cB hr kk (by rfl) (pa_cons (pv 8) (pa_cons (pe_ix ix_list (pv 7) (pv 12) (fun _ _ => rfl)) pa_nil)))
            (pa_cons (pe_ix ix_tup (pv 6) (pe_op op_sub (pv 10) (pv 12)) (fun _ _ => rfl)) pa_nil))) pa_nil))))))
        (pss_one (ps_if (pt_not (pt_val (C8.pe_c cA hr kk (by rfl) (pa_cons (pe_ix ix_tup (pv 6) (pv 10) (fun _ _ => rfl)) (pa_cons (pv 11) pa_nil))))) pss_never pss_nil)))))
      (pss_one (ps_ret pe_bl))))))))), ?_⟩
    -- the row
    refine ⟨_, rfl, (by show 4 ≤ sizeLine; decide), fun r hr0 => ?_⟩
    have row1 : RowIs (upd H r (.lst [.ref a, .int 0, .int 3437, .int 0])) r a := ⟨0, 3437, 0, upd_same, by decide, by decide, by decide⟩
    have s1 : Same H (upd H r (.lst [.ref a, .int 0, .int 3437, .int 0])) := same_upd hr0
    have S1 : SqL K (upd H r (.lst [.ref a, .int 0, .int 3437, .int 0])) a (ns.map V.int) := by
      rcases hS with (h | ⟨o, h⟩) | h
      · exact .inl (.inl (s1 _ _ h))
      · exact .inl (.inr ⟨o, s1 _ _ h⟩)
      · exact .inr h
    have u1 := TabG.same ht1 s1
    have u2 := TabG.same ht2 s1
    generalize upd H r (.lst [.ref a, .int 0, .int 3437, .int 0]) = H1 at *
    -- the draws
    refine ⟨_, rfl, r, a, 4, ns, rfl, row1, S1, by decide, by decide, fun H2 x1 x10 x11 b2 row2 => ?_⟩
    refine ⟨_, _, rfl, rfl, _, rfl, r, a, 4, ns, rfl, row2, SqL_but row1 S1 b2, by decide, by decide, fun H3 pc ws b3 row3 npc hpc hws => ?_⟩
    have S3 : SqL K H3 a (ns.map V.int) := SqL_but row1 S1 (b2.trans b3)
    have rpc : pc ≠ r := (row2.ne npc).symm
    refine ⟨_, rfl, r, a, 13, ns, rfl, row3, S3, by decide, by decide, fun H4 x2 x20 x21 b4 row4 => ⟨_, _, _, rfl, ?_⟩⟩
    obtain ⟨m0, rfl⟩ := Int.eq_ofNat_of_zero_le x10
    obtain ⟨n, rfl⟩ := Int.eq_ofNat_of_zero_le x20
    have hn : n ≤ 12 := by omega
    obtain ⟨m, hm⟩ : ∃ m : Nat, (1 : Int) + (m0 : Int) = (m : Int) := ⟨m0 + 1, by omega⟩
    have hm1 : 1 ≤ m := by omega
    have hm4 : m ≤ 4 := by omega
    have b14 : But r H1 H4 := (b2.trans b3).trans b4
    have r4 : But r H3 H4 := b4
    have hpc4 : H4 pc = some (.tup (ws.map V.int)) := b4 _ _ rpc hpc
    have S4 : SqL K H4 a (ns.map V.int) := SqL_but row3 S3 b4
    have tab : ∀ {Z Z' : Hp} {P0 : Addr}, RowIs Z r a → TabG Z P0 → But r Z Z' → TabG Z' P0 := fun {Z Z' P0} rw0 t b => by
      obtain ⟨ps, e1, e2⟩ := t
      obtain ⟨i, sd, c, e, _⟩ := rw0
      exact ⟨ps, b _ _ (fun z => by rw [z, e] at e1; cases e1) e1, e2⟩
    have v1 : TabG H4 P1 := tab row1 u1 b14
    have v2 : TabG H4 P2 := tab row1 u2 b14
    -- the chance
    refine ⟨_, rfl, (by show 2 ≤ sizeLine; decide), fun t1 h1 => ?_⟩
    have c1 := same_upd (o := .tup [.int 1, .int 1]) h1
    have d1 : At (upd H4 t1 (.tup [.int 1, .int 1])) t1 1 := by unfold At; rw [upd_same, rt1]
    generalize upd H4 t1 (.tup [.int 1, .int 1]) = Z1 at *
    refine ⟨(by show 2 ≤ sizeLine; decide), fun t2 h2 => ?_⟩
    have c2 := same_upd (o := .tup [.int 1, .int 2]) h2
    have d2 : At (upd Z1 t2 (.tup [.int 1, .int 2])) t2 (1 / 2) := by unfold At; rw [upd_same, rt2]
    generalize upd Z1 t2 (.tup [.int 1, .int 2]) = Z2 at *
    refine ⟨(by show 2 ≤ sizeLine; decide), fun t3 h3 => ?_⟩
    have c3 := same_upd (o := .tup [.int 1, .int 10]) h3
    have d3 : At (upd Z2 t3 (.tup [.int 1, .int 10])) t3 (1 / 10) := by unfold At; rw [upd_same, rt3]
    generalize upd Z2 t3 (.tup [.int 1, .int 10]) = Z3 at *
    refine ⟨(by show 2 ≤ sizeLine; decide), fun t4 h4 => ?_⟩
    have c4 := same_upd (o := .tup [.int 9, .int 10]) h4
    have d4 : At (upd Z3 t4 (.tup [.int 9, .int 10])) t4 (9 / 10) := by unfold At; rw [upd_same, rt4]
    generalize upd Z3 t4 (.tup [.int 9, .int 10]) = Z4 at *
    refine ⟨(by show 2 ≤ sizeLine; decide), fun t5 h5 => ?_⟩
    have c5 := same_upd (o := .tup [.int 999, .int 1000]) h5
    have d5 : At (upd Z4 t5 (.tup [.int 999, .int 1000])) t5 (999 / 1000) := by unfold At; rw [upd_same, rt5]
    generalize upd Z4 t5 (.tup [.int 999, .int 1000]) = Z5 at *
    refine ⟨(by show 5 ≤ sizeLine; decide), fun l hl => ?_⟩
    have c6 := same_upd (o := .lst [.ref t1, .ref t2, .ref t3, .ref t4, .ref t5]) hl
    have el : upd Z5 l (.lst [.ref t1, .ref t2, .ref t3, .ref t4, .ref t5]) l = some (.lst [.ref t1, .ref t2, .ref t3, .ref t4, .ref t5]) := upd_same
    generalize upd Z5 l (.lst [.ref t1, .ref t2, .ref t3, .ref t4, .ref t5]) = Z6 at *
    have c46 : Same H4 Z6 := ((((c1.trans c2).trans c3).trans c4).trans c5).trans c6
    have rowS : ∀ {Z Z' : Hp}, RowIs Z r a → Same Z Z' → RowIs Z' r a := fun {Z Z'} h sm => by
      obtain ⟨i, sd, c, e, rest⟩ := h
      exact ⟨i, sd, c, sm _ _ e, rest⟩
    have row5 : RowIs Z5 r a := rowS row4 ((((c1.trans c2).trans c3).trans c4).trans c5)
    have rl : l ≠ r := (row5.ne hl).symm
    have row6 : RowIs Z6 r a := rowS row5 c6
    refine ⟨r, a, l, _, ns, rfl, el, rl, (by show 0 < 5; decide), (by show 5 < 1000; decide), row6, SqL_but row4 S4 (But.same c46), fun H5 y hy b5 row7 => ?_⟩
    have notR : ∀ {Z : Hp} {t : Addr} {z : Rat}, RowIs Z r a → At Z t z → t ≠ r := fun {Z t z} h1 h2 => by
      obtain ⟨i, sd, c, e, _⟩ := h1
      exact h2.ne_lst e
    obtain ⟨px, x, rfl, hpx, hx⟩ : ∃ px x, y = V.ref px ∧ At H5 px x ∧ Ch x := by
      have w : ∀ t z, At Z6 t z → At H5 t z := fun t z h => b5 _ _ (notR row6 h) h
      have d1' : At Z6 t1 1 := ((((d1.seq c2).seq c3).seq c4).seq c5).seq c6
      have d2' : At Z6 t2 (1 / 2) := (((d2.seq c3).seq c4).seq c5).seq c6
      have d3' : At Z6 t3 (1 / 10) := ((d3.seq c4).seq c5).seq c6
      have d4' : At Z6 t4 (9 / 10) := (d4.seq c5).seq c6
      have d5' : At Z6 t5 (999 / 1000) := d5.seq c6
      simp only [List.mem_cons, List.not_mem_nil, or_false] at hy
      rcases hy with rfl | rfl | rfl | rfl | rfl
      · exact ⟨_, _, rfl, w _ _ d1', ch1⟩
      · exact ⟨_, _, rfl, w _ _ d2', ch2⟩
      · exact ⟨_, _, rfl, w _ _ d3', ch3⟩
      · exact ⟨_, _, rfl, w _ _ d4', ch4⟩
      · exact ⟨_, _, rfl, w _ _ d5', ch5⟩
    have hpc5 : H5 pc = some (.tup (ws.map V.int)) := b5 _ _ rpc (c46 _ _ hpc4)
    have w1 : TabG H5 P1 := tab row6 (TabG.same v1 c46) b5
    have w2 : TabG H5 P2 := tab row6 (TabG.same v2 c46) b5
    clear tab notR rowS
    obtain ⟨f, g, Zg, hf1, hf2, Zl, hdue⟩ := hM m n x ws hm1 hm4 hn hx hws
    obtain ⟨hok, hlen⟩ := okw_okc hws
    have hw : WOk ws := okc_wok hok (by omega)
    -- waiting_sum, the chances
    refine ⟨_, rfl, _, rfl, _, rfl, _, rfl, px, pc, m, n, x, ws, g, (by show [V.int (1 + (m0 : Int)), _, _, _] = _; rw [hm]), hm1, by omega, by omega, hpx, hx.1, hpc5, hok, by omega, w1, w2, Zg, fun H6 pfo gps k6 n6 e6 r6 => ?_⟩
    have hpx6 : At H6 px x := hpx.ok k6 w1 w2
    have hpc6 : H6 pc = some (.tup (ws.map V.int)) := k6.get w1 w2 hpc5 (fun q z => by cases z)
    refine ⟨_, rfl, pc, ws, rfl, SqT.of hpc6, hw.pos, hw.lt, hw.len, fun H7 ppa cps s7 n7 e7 r7 => ⟨_, _, rfl, ?_⟩⟩
    have y1 : TabG H7 P1 := TabG.same k6.t1 s7
    have y2 : TabG H7 P2 := TabG.same k6.t2 s7
    have hpx7 := hpx6.seq s7
    have hpc7 := s7 _ _ hpc6
    have e67 := s7 _ _ e6
    have r67 : Rts H7 gps (n + 1) g := r6.seq fun b y hy => hy.seq s7
    -- the test of the answer's form
    refine ⟨_, rfl, _, _, _, _, true, rfl, .ty _, .base (.tup e67), k_tup_tup, _, rfl, iteF ?_⟩
    refine ⟨_, rfl, pfo, _, rfl, .inr (SqT.of e67), _, rfl, _, _, rfl, rfl, rfl, _, rfl, ?_⟩
    rw [show (decide (V.int (gps.length : Int) = V.int ((n : Int) + 1))) = true from decide_eq_true (by rw [r6.1]; rfl)]
    refine iteF ?_
    -- failure
    refine ⟨_, rfl, px, _, 1, _, rfl, rfl, hpx7.t, atI_nat (j := 1) rfl, _, rfl, px, _, 0, _, rfl, rfl, hpx7.t, atI_nat (j := 0) rfl, _, _, rfl, rfl, _, rfl, px, _, 1, _, rfl, rfl, hpx7.t, atI_nat (j := 1) rfl, (by show 2 ≤ sizeLine; decide), fun pfa nfa => ?_⟩
    have s8 := same_upd (o := .tup [.int ((x.den : Int) - x.num), .int (x.den : Int)]) nfa
    have afa : At (upd H7 pfa (.tup [.int ((x.den : Int) - x.num), .int (x.den : Int)])) pfa (1 - x) := by unfold At; rw [upd_same, hx.2]
    generalize hH8 : upd H7 pfa (.tup [.int ((x.den : Int) - x.num), .int (x.den : Int)]) = H8 at *
    have z1 : TabG H8 P1 := TabG.same y1 s8
    have z2 : TabG H8 P2 := TabG.same y2 s8
    -- fewer
    refine ⟨fun v H' => ∃ u ps, v = .ref u ∧ Okk P1 P2 H8 H' ∧ H' u = some (.tup ps) ∧ Rts H' ps (n + 1) f, ?_, fun v H9 hv => ?_⟩
    · refine ⟨_, rfl, _, _, rfl, rfl, _, rfl, ite2 (fun hgt => ?_) (fun hgt => ?_)⟩
      · have hgt' : (1 : Int) < 1 + (m0 : Int) := of_decide_eq_true hgt
        have hm2 : 2 ≤ m := by omega
        refine ⟨_, rfl, _, _, rfl, rfl, _, rfl, _, rfl, _, rfl, px, pc, m - 1, n, x, ws, f, ?_, by omega, by omega, by omega, hpx7.seq s8, hx.1, s8 _ _ hpc7, hok, by omega, z1, z2, hf2 hm2, fun H' t ps k9 n9 e9 r9 => ⟨t, ps, rfl, k9, e9, r9⟩⟩
        show [V.int ((1 : Int) + (m0 : Int) - 1), _, _, _] = _
        rw [hm, show (m : Int) - 1 = ((m - 1 : Nat) : Int) by omega]
      · have hgt' : ¬ (1 : Int) < 1 + (m0 : Int) := fun z => hgt (decide_eq_true z)
        have hfu : f = unit := hf1 (by omega)
        subst hfu
        refine ⟨(by show 2 ≤ sizeLine; decide), fun q1 g1 => ?_⟩
        have j1 := same_upd (o := .tup [.int 1, .int 1]) g1
        have a1 : At (upd H8 q1 (.tup [.int 1, .int 1])) q1 1 := by unfold At; rw [upd_same, rt1]
        generalize upd H8 q1 (.tup [.int 1, .int 1]) = J1 at *
        refine ⟨(by show 1 ≤ sizeLine; decide), fun q2 g2 => ?_⟩
        have j2 := same_upd (o := .tup [.ref q1]) g2
        have a2 : upd J1 q2 (.tup [.ref q1]) q2 = some (.tup [.ref q1]) := upd_same
        generalize upd J1 q2 (.tup [.ref q1]) = J2 at *
        refine ⟨(by show 2 ≤ sizeLine; decide), fun q3 g3 => ?_⟩
        have j3 := same_upd (o := .tup [.int 0, .int 1]) g3
        have a3 : At (upd J2 q3 (.tup [.int 0, .int 1])) q3 0 := by unfold At; rw [upd_same, rt0]
        generalize upd J2 q3 (.tup [.int 0, .int 1]) = J3 at *
        refine ⟨(by show 1 ≤ sizeLine; decide), fun q4 g4 => ?_⟩
        have j4 := same_upd (o := .tup [.ref q3]) g4
        have a4 : upd J3 q4 (.tup [.ref q3]) q4 = some (.tup [.ref q3]) := upd_same
        generalize upd J3 q4 (.tup [.ref q3]) = J4 at *
        have j14 : Same J1 J4 := (j2.trans j3).trans j4
        have okJ : ∀ {Z : Hp}, Same H8 Z → Okk P1 P2 H8 Z := fun {Z} sm => ⟨fun b o _ _ e => sm _ _ e, TabG.same z1 sm, TabG.same z2 sm⟩
        have cat : ∀ (Z : Hp) (c : Addr), Same J4 Z → Z c = some (.tup (List.replicate n (.ref q3))) → rCatA K (.ref q2) (.ref c) Z (fun v H' => ∃ u ps, v = .ref u ∧ Okk P1 P2 H8 H' ∧ H' u = some (.tup ps) ∧ Rts H' ps (n + 1) unit) := fun Z c sm ec => by
          have e2 : Z q2 = some (.tup [.ref q1]) := sm _ _ ((j3.trans j4) _ _ a2)
          have b1 : At Z q1 1 := (a1.seq j14).seq sm
          have b3 : At Z q3 0 := (a3.seq j4).seq sm
          have s8Z : Same H8 Z := (j1.trans j14).trans sm
          refine ⟨q2, c, _, _, rfl, rfl, SqT.of e2, SqT.of ec, ?_, fun z => (nomatch z), fun _ z => ?_, fun _ z p hp => ?_⟩
          · rw [List.length_replicate]
            exact Nat.le_trans (show 1 + n ≤ 1000 by omega) (by decide)
          · have n0 : n = 0 := by
              have := congrArg List.length z
              rw [List.length_replicate] at this
              exact this
            subst n0
            exact ⟨q2, _, rfl, okJ s8Z, e2, unit_rts (b := q3) (n := 0) b1 (fun _ => b3)⟩
          · have sp := same_upd (o := .tup ([.ref q1] ++ List.replicate n (.ref q3))) hp
            exact ⟨p, _, rfl, okJ (s8Z.trans sp), upd_same, unit_rts (b1.seq sp) (fun _ => b3.seq sp)⟩
        refine ⟨_, rfl, ?_⟩
        by_cases hn2 : 2 ≤ n
        · refine .inl ⟨q4, n, [.ref q3], rfl, rfl, SqT.of a4, (fun z => nomatch z), by omega, by omega, (by show 1 ≤ 1000; decide), fun p hp => ?_⟩
          have sp := same_upd (o := .tup (List.replicate (n : Int).toNat [V.ref q3]).flatten) hp
          refine cat _ p sp ?_
          rw [upd_same, Int.toNat_natCast, rep_flat]
        · refine .inr ⟨q4, n, [.ref q3], rfl, rfl, SqT.of a4, (fun z => nomatch z), by omega, fun h => ?_, fun h p hp => ?_⟩
          · have n1 : n = 1 := by omega
            subst n1
            exact cat J4 q4 (fun _ _ h => h) a4
          · have n0 : n = 0 := by omega
            subst n0
            exact cat _ p (same_upd hp) upd_same
    · obtain ⟨pfe, fps, rfl, k9, e9, r9⟩ := hv
      have keep : ∀ b y, At H7 b y → At H9 b y := fun b y hy => (hy.seq s8).ok k9 z1 z2
      have hpx9 : At H9 px x := keep _ _ hpx7
      have e9o : H9 pfo = some (.tup gps) := k9.get z1 z2 (s8 _ _ e67) (fun q z => by cases z)
      have r9g : Rts H9 gps (n + 1) g := r67.seq keep
      have e9p : H9 ppa = some (.lst cps) := k9.get z1 z2 (s8 _ _ e7) (fun q z => by cases z)
      have r9c : Rts H9 cps ws.length (cs ws) := r7.seq keep
      have hfa9 : At H9 pfa (1 - x) := afa.ok k9 z1 z2
      have hlp := r7.1
      have hne := hw.ne
      clear keep
      refine ⟨_, rfl, _, _, rfl, rfl, _, rfl, by omega, by omega, ?_⟩
      refine for_range (lo := 0) (n := ((n : Int) + 1).toNat) (fun i σ H' => ∃ y10 y11 y12, σ = [some (.ref a), some (.ref r), some (.int (1 + (m0 : Int))), some (.ref pc), some (.int (n : Int)), some (.ref px), some (.ref pfo), some (.ref ppa), some (.ref pfa), some (.ref pfe), y10, y11, y12] ∧ Same H9 H')
        ⟨none, none, none, rfl, fun _ _ h => h⟩ (fun i σ H' hi hI => ?_) (fun σ H' hI => ?_)
      · obtain ⟨y10, y11, y12, rfl, sH⟩ := hI
        have hin : i ≤ n := by omega
        rw [show (0 : Int) + (i : Int) = (i : Int) by omega]
        obtain ⟨pfi, efi, hfi⟩ := r9.at' (i := i) (by omega)
        refine ⟨_, rfl, _, rfl, _, rfl, pfe, _, _, _, rfl, rfl, SqT.of (sH _ _ e9), efi, px, pfi, _, _, rfl, hpx9.seq sH, hfi.seq sH, Zl.zx, Zl.zf i hin, trivial, fun H10 pd s10 n10 a10 => ?_⟩
        have sH10 := sH.trans s10
        refine ⟨_, rfl, _, rfl, ppa, _, rfl, .inl (SqL.of (sH10 _ _ e9p)), _, _, rfl, rfl, _, _, rfl, _, _, rfl, rfl, ?_⟩
        have hMM : (if ((cps.length : Nat) : Int) - 1 < (i : Int) then ((cps.length : Nat) : Int) - 1 else (i : Int)) = ((min i (ws.length - 1) : Nat) : Int) := by
          rw [hlp]
          split <;> omega
        rw [hMM]
        obtain ⟨M, hM2⟩ : ∃ M, M = min i (ws.length - 1) := ⟨_, rfl⟩
        rw [← hM2]
        refine ⟨_, rfl, by omega, by omega, ?_⟩
        refine for_range (lo := 0) (n := ((M : Int) + 1).toNat) (fun j σ H'' => ∃ pd y12, σ = [some (.ref a), some (.ref r), some (.int (1 + (m0 : Int))), some (.ref pc), some (.int (n : Int)), some (.ref px), some (.ref pfo), some (.ref ppa), some (.ref pfa), some (.ref pfe), some (.int (i : Int)), some (.ref pd), y12] ∧ Same H10 H'' ∧
            At H'' pd (due x (1 - x) (cs ws) f g i j)) ⟨pd, y12, rfl, fun _ _ h => h, a10⟩ (fun j σ H'' hj hJ => ?_) (fun σ H'' hJ => ?_)
        · obtain ⟨pe, z12, rfl, s11, a11⟩ := hJ
          rw [show (0 : Int) + (j : Int) = (j : Int) by omega]
          have hji : j ≤ i := by omega
          have hjl : j < ws.length := by omega
          have sA : Same H9 H'' := sH10.trans s11
          obtain ⟨pk, ek, hk⟩ := r9c.at' (i := j) hjl
          obtain ⟨pg, eg, hg⟩ := r9g.at' (i := i - j) (by omega)
          refine ⟨_, rfl, _, rfl, _, rfl, _, rfl, ppa, _, _, _, rfl, rfl, SqL.of (sA _ _ e9p), ek, pfa, pk, _, _, rfl, hfa9.seq sA, hk.seq sA, Zl.zq, Zl.zc j hjl, trivial, fun H12 t12 s12 n12 a12 => ?_⟩
          have sB := sA.trans s12
          refine ⟨_, rfl, _, rfl, _, rfl, _, _, rfl, rfl, pfo, _, _, _, rfl, rfl, SqT.of (sB _ _ e9o), (by rw [show (i : Int) - (j : Int) = ((i - j : Nat) : Int) by omega]; exact eg), ?_⟩
          refine ⟨t12, pg, _, _, rfl, a12, hg.seq sB, Zl.zqc j hjl, Zl.zg _ (by omega), trivial, fun H13 t13 s13 n13 a13 => ?_⟩
          refine ⟨pe, t13, _, _, rfl, (a11.seq s12).seq s13, a13, Zl.zd i j hin (by omega) (by omega), Zl.zt i j hin hji hjl, trivial, fun H14 t14 s14 n14 a14 => ?_⟩
          exact ⟨t14, _, rfl, ((s11.trans s12).trans s13).trans s14, a14⟩
        · obtain ⟨pe, z12, rfl, s11, a11⟩ := hJ
          rw [show ((M : Int) + 1).toNat = min i (ws.length - 1) + 1 by omega, hdue i] at a11
          have sA : Same H9 H'' := sH10.trans s11
          obtain ⟨pg, eg, hg⟩ := r9g.at' (i := i) (by omega)
          refine ⟨_, rfl, _, rfl, pfo, _, _, _, rfl, rfl, SqT.of (sA _ _ e9o), eg, _, rfl, pg, pe, g i, rfl, hg.seq sA, a11, fun H15 s15 => ?_⟩
          exact ⟨_, rfl, iteF ⟨_, _, _, rfl, sA.trans s15⟩⟩
      · obtain ⟨y10, y11, y12, rfl, sH⟩ := hI
        exact q H'
end
end K37
namespace K37
/-! ### sizes: denominators that divide a known number, values below a known number -/
def Iz (d : Nat) (y : Rat) : Prop := ∃ z : Int, y * (d : Rat) = (z : Rat)
theorem Iz.dvd {d d' : Nat} {y : Rat} (h : Iz d y) (hd : d ∣ d') : Iz d' y := by
  obtain ⟨z, e⟩ := h
  obtain ⟨c, rfl⟩ := hd
  refine ⟨z * (c : Int), ?_⟩
  rw [Rat.natCast_mul, Rat.intCast_mul, Rat.intCast_natCast]
  grind
theorem Iz.mul {d d' : Nat} {a b : Rat} (ha : Iz d a) (hb : Iz d' b) : Iz (d * d') (a * b) := by
  obtain ⟨z, e⟩ := ha
  obtain ⟨z', e'⟩ := hb
  refine ⟨z * z', ?_⟩
  rw [Rat.natCast_mul, Rat.intCast_mul]
  grind
theorem Iz.add {d : Nat} {a b : Rat} (ha : Iz d a) (hb : Iz d b) : Iz d (a + b) := by
  obtain ⟨z, e⟩ := ha
  obtain ⟨z', e'⟩ := hb
  refine ⟨z + z', ?_⟩
  rw [Rat.intCast_add]
  grind
theorem Iz.sub {d : Nat} {a b : Rat} (ha : Iz d a) (hb : Iz d b) : Iz d (a - b) := by
  obtain ⟨z, e⟩ := ha
  obtain ⟨z', e'⟩ := hb
  refine ⟨z - z', ?_⟩
  rw [Rat.intCast_sub]
  grind
theorem Iz.nat (n : Nat) : Iz 1 (n : Rat) := ⟨(n : Int), by rw [Rat.intCast_natCast]; simp⟩
theorem Iz.one' (d : Nat) : Iz d 1 := (Iz.nat 1).dvd (Nat.one_dvd d)
theorem Iz.zero' (d : Nat) : Iz d 0 := ⟨0, by simp⟩
theorem Iz.pow {d : Nat} {a : Rat} (ha : Iz d a) : ∀ j : Nat, Iz (d ^ j) (a ^ j)
  | 0 => by rw [Rat.pow_zero]; exact Iz.one' _
  | j + 1 => by rw [Rat.pow_succ, Nat.pow_succ]; exact (Iz.pow ha j).mul ha
theorem Iz.self (x : Rat) : Iz x.den x := by
  refine ⟨x.num, ?_⟩
  have h := num_div x
  have n := den_ne x
  rw [Rat.intCast_natCast] at h n
  generalize (x.num : Rat) = a at *
  generalize (x.den : Rat) = b at *
  grind
theorem Iz.frac {k n F : Nat} (hn : 0 < n) (h : n ∣ F) : Iz F ((k : Rat) / (n : Rat)) := by
  obtain ⟨c, rfl⟩ := h
  refine ⟨((k * c : Nat) : Int), ?_⟩
  have n0 : (n : Rat) ≠ 0 := fun z => by
    have := Rat.natCast_eq_zero_iff.mp z
    omega
  rw [Rat.intCast_natCast, Rat.natCast_mul, Rat.natCast_mul]
  generalize (k : Rat) = a at *
  generalize (n : Rat) = b at *
  generalize (c : Rat) = d at *
  grind
theorem Iz.den {d : Nat} {y : Rat} (h : Iz d y) : y.den ∣ d := by
  obtain ⟨z, e⟩ := h
  have hy := num_div y
  have n := den_ne y
  have e2 : (y.num : Rat) * (d : Rat) = (z : Rat) * ((y.den : Int) : Rat) := by
    generalize hb : ((y.den : Int) : Rat) = b at *
    generalize ha : (y.num : Rat) = a at *
    rw [hy] at e
    grind
  have e3 : y.num * (d : Int) = z * (y.den : Int) := by
    have : ((y.num * (d : Int) : Int) : Rat) = ((z * (y.den : Int) : Int) : Rat) := by
      rw [Rat.intCast_mul, Rat.intCast_mul, Rat.intCast_natCast]
      exact e2
    exact Rat.intCast_inj.mp this
  have e4 : y.num.natAbs * d = z.natAbs * y.den := by
    have := congrArg Int.natAbs e3
    rw [Int.natAbs_mul, Int.natAbs_mul, Int.natAbs_natCast, Int.natAbs_natCast] at this
    exact this
  have h1 : y.den ∣ y.num.natAbs * d := ⟨z.natAbs, by rw [e4, Nat.mul_comm]⟩
  exact (Nat.Coprime.symm y.reduced).dvd_of_dvd_mul_left h1
/-- from 0 to B -/
def Bd (B : Nat) (y : Rat) : Prop := 0 ≤ y ∧ y ≤ (B : Rat)
theorem cast_le {a b : Nat} (h : a ≤ b) : (a : Rat) ≤ (b : Rat) := Rat.natCast_le_natCast.mpr h
theorem Bd.mono {B B' : Nat} {y : Rat} (h : Bd B y) (hb : B ≤ B') : Bd B' y := ⟨h.1, Rat.le_trans h.2 (cast_le hb)⟩
theorem Bd.add {B B' : Nat} {a b : Rat} (ha : Bd B a) (hb : Bd B' b) : Bd (B + B') (a + b) := by
  obtain ⟨a0, a1⟩ := ha
  obtain ⟨b0, b1⟩ := hb
  refine ⟨Rat.add_nonneg a0 b0, ?_⟩
  rw [Rat.natCast_add]
  exact Rat.le_trans (Rat.add_le_add_right.mpr a1) (Rat.add_le_add_left.mpr b1)
theorem Bd.mul {B B' : Nat} {a b : Rat} (ha : Bd B a) (hb : Bd B' b) : Bd (B * B') (a * b) := by
  obtain ⟨a0, a1⟩ := ha
  obtain ⟨b0, b1⟩ := hb
  refine ⟨Rat.mul_nonneg a0 b0, ?_⟩
  rw [Rat.natCast_mul]
  exact Rat.le_trans (Rat.mul_le_mul_of_nonneg_right a1 b0) (Rat.mul_le_mul_of_nonneg_left b1 (Rat.natCast_nonneg))
theorem Bd.pow1 {a : Rat} (ha : Bd 1 a) : ∀ j : Nat, Bd 1 (a ^ j)
  | 0 => by rw [Rat.pow_zero]; exact ⟨by decide +kernel, by decide +kernel⟩
  | j + 1 => by rw [Rat.pow_succ]; exact ((Bd.pow1 ha j).mul ha)
theorem Bd.zero (B : Nat) : Bd B 0 := ⟨Rat.le_refl, Rat.natCast_nonneg⟩
theorem sz_of {d B : Nat} {y : Rat} (h : Iz d y) (b : Bd B y) (hd : 0 < d) (hd2 : d ≤ 2 ^ 1500) (hB : B ≤ 2 ^ 1000) : Sz y := by
  have h1 : y.den ≤ d := Nat.le_of_dvd hd h.den
  have h2 : 0 ≤ y.num := Rat.num_nonneg.mpr b.1
  have h3 : y.num ≤ (B : Int) * (y.den : Int) := by
    have := (Rat.le_iff y (B : Rat)).mp b.2
    rw [Rat.num_natCast, Rat.den_natCast] at this
    simpa using this
  have h4 : y.num.natAbs ≤ B * y.den := by
    have : (y.num.natAbs : Int) ≤ ((B * y.den : Nat) : Int) := by
      rw [Int.natCast_mul]
      omega
    omega
  have h5 : B * y.den ≤ 2 ^ 1000 * 2 ^ 1500 := Nat.mul_le_mul hB (Nat.le_trans h1 hd2)
  have h6 : 2 ^ 1000 * 2 ^ 1500 = 2 ^ 2500 := (Nat.pow_add 2 1000 1500).symm
  have h7 : 2 ^ 2500 < 2 ^ SZ := Nat.pow_lt_pow_right (by decide) (by decide)
  have h8 : 2 ^ 1500 < 2 ^ SZ := Nat.pow_lt_pow_right (by decide) (by decide)
  exact ⟨by omega, by omega⟩
end K37
namespace K37
/-! ### the parameters' sizes -/
structure Par (x : Rat) (ws : List Int) (e W N : Nat) : Prop where
  e0 : 0 < e
  e1 : e ≤ 1000
  W0 : 0 < W
  W1 : W ≤ 4000
  N0 : 0 < N
  N1 : N ≤ e * W
  ix : Iz e x
  bx : Bd 1 x
  iq : Iz e (1 - x)
  bq : Bd 1 (1 - x)
  ic : ∀ k, Iz W (cs ws k)
  bc : ∀ k, Bd 1 (cs ws k)
  A0 : 0 < 1 - (1 - x) * cs ws 0
  bA : Bd 1 (1 - (1 - x) * cs ws 0)
  iA : Iz (e * W) (1 - (1 - x) * cs ws 0)
  is : Iz N (1 / (1 - (1 - x) * cs ws 0))
  bs : Bd 1000 (1 / (1 - (1 - x) * cs ws 0))
  iy : Iz (e * N) (x / (1 - (1 - x) * cs ws 0))
  by' : Bd 1 (x / (1 - (1 - x) * cs ws 0))
theorem mem_le_sum : ∀ (l : List Int), (∀ x ∈ l, 0 ≤ x ∧ x ≤ 1000) → ∀ y ∈ l, y ≤ l.sum
  | [], _, y, hy => absurd hy (by simp)
  | x :: r, h, y, hy => by
    have h1 := h x (List.mem_cons_self ..)
    have h2 := sum_nonneg r fun z hz => h z (List.mem_cons_of_mem _ hz)
    rw [List.sum_cons]
    rcases List.mem_cons.mp hy with e | e
    · omega
    · have := mem_le_sum r (fun z hz => h z (List.mem_cons_of_mem _ hz)) y e
      omega
theorem getD_ok {ws : List Int} (h : OkC ws) (k : Nat) : 0 ≤ ws.getD k 0 ∧ ws.getD k 0 ≤ ws.sum := by
  have hs := okc_sum h
  by_cases hk : k < ws.length
  · rw [List.getD_eq_getElem?_getD, List.getElem?_eq_getElem hk]
    have hm : ws[k] ∈ ws := List.getElem_mem hk
    exact ⟨(h.1 _ hm).1, mem_le_sum ws h.1 _ hm⟩
  · rw [List.getD_eq_getElem?_getD, List.getElem?_eq_none (by omega)]
    exact ⟨Int.le_refl 0, Int.le_of_lt hs.1⟩
theorem one_le : (1 : Rat) = ((1 : Nat) : Rat) := by simp
theorem par_of {x : Rat} {ws : List Int} (hx : OkP x) (hw : OkC ws) (hl : ws.length ≤ 4) : ∃ e W N, Par x ws e W N := by
  obtain ⟨x0, x1, xd⟩ := hx
  have hs := okc_sum hw
  obtain ⟨W, hW⟩ := Int.eq_ofNat_of_zero_le (Int.le_of_lt hs.1)
  have W0 : 0 < W := by omega
  have W1 : W ≤ 4000 := by omega
  have e0 : 0 < x.den := Nat.pos_of_ne_zero x.den_nz
  have WQ : (0 : Rat) < (W : Rat) := Rat.natCast_pos.mpr W0
  have ec : ∀ k, cs ws k * (W : Rat) = ((ws.getD k 0 : Int) : Rat) := fun k => by
    unfold cs
    rw [Rat.divInt_eq_div, hW, Rat.intCast_natCast]
    generalize ((ws.getD k 0 : Int) : Rat) = a
    generalize (W : Rat) = b at *
    have : b ≠ 0 := fun z => by rw [z] at WQ; exact Rat.lt_irrefl WQ
    grind
  have ic : ∀ k, Iz W (cs ws k) := fun k => ⟨_, ec k⟩
  have bc : ∀ k, Bd 1 (cs ws k) := fun k => by
    have hg := getD_ok hw k
    refine ⟨?_, ?_⟩
    · unfold cs
      exact Rat.divInt_nonneg hg.1 (Int.le_of_lt hs.1)
    · refine Rat.le_of_mul_le_mul_right (c := (W : Rat)) ?_ WQ
      rw [ec k, ← one_le, Rat.one_mul, ← Rat.intCast_natCast]
      exact Rat.intCast_le_intCast.mpr (by omega)
  have ix : Iz x.den x := Iz.self x
  have bx : Bd 1 x := ⟨Rat.le_of_lt x0, by rw [← one_le]; exact x1⟩
  have iq : Iz x.den (1 - x) := (Iz.one' _).sub ix
  have bq : Bd 1 (1 - x) := ⟨by grind, by rw [← one_le]; grind⟩
  have iA : Iz (x.den * W) (1 - (1 - x) * cs ws 0) := (Iz.one' _).sub (iq.mul (ic 0))
  have c00 := (bc 0).1
  have c01 := (bc 0).2
  rw [← one_le] at c01
  have hq0 := bq.1
  have hAx : x ≤ 1 - (1 - x) * cs ws 0 := by
    have h1 : (1 - x) * cs ws 0 ≤ (1 - x) * 1 := Rat.mul_le_mul_of_nonneg_left c01 hq0
    generalize (1 - x) * cs ws 0 = y at *
    grind
  have hA1 : 1 - (1 - x) * cs ws 0 ≤ 1 := by
    have h1 : 0 ≤ (1 - x) * cs ws 0 := Rat.mul_nonneg hq0 c00
    generalize (1 - x) * cs ws 0 = y at *
    grind
  generalize hA : 1 - (1 - x) * cs ws 0 = A at *
  have A0 : 0 < A := by grind
  have An : A ≠ 0 := by grind
  have bA : Bd 1 A := ⟨Rat.le_of_lt A0, by rw [← one_le]; exact hA1⟩
  -- the numerator of A
  obtain ⟨z, hz⟩ := iA
  have ewQ : (0 : Rat) < ((x.den * W : Nat) : Rat) := Rat.natCast_pos.mpr (Nat.mul_pos e0 W0)
  have z0 : 0 < z := by
    have : (0 : Rat) < (z : Rat) := by rw [← hz]; exact Rat.mul_pos A0 ewQ
    exact Rat.intCast_pos.mp this
  obtain ⟨N, rfl⟩ := Int.eq_ofNat_of_zero_le (Int.le_of_lt z0)
  have N0 : 0 < N := by omega
  have N1 : N ≤ x.den * W := by
    have h1 : A * ((x.den * W : Nat) : Rat) ≤ 1 * ((x.den * W : Nat) : Rat) := Rat.mul_le_mul_of_nonneg_right hA1 (Rat.le_of_lt ewQ)
    rw [hz, Rat.one_mul, Rat.intCast_natCast] at h1
    exact Rat.natCast_le_natCast.mp h1
  have is : Iz N (1 / A) := by
    refine ⟨((x.den * W : Nat) : Int), ?_⟩
    rw [Rat.intCast_natCast] at hz ⊢
    generalize ((x.den * W : Nat) : Rat) = u at *
    generalize (N : Rat) = v at *
    grind
  have s0 : 0 ≤ 1 / A := by
    rw [Rat.div_def, Rat.one_mul]
    exact Rat.le_of_lt (Rat.inv_pos.mpr A0)
  have sA : (1 / A) * A = 1 := by grind
  have bs : Bd 1000 (1 / A) := by
    refine ⟨s0, ?_⟩
    refine Rat.le_of_mul_le_mul_right (c := A) ?_ A0
    rw [sA]
    -- 1 ≤ 1000 A, since x ≥ 1 / den
    have h1 : (1 : Rat) ≤ x * (x.den : Rat) := by
      obtain ⟨z, hz⟩ := Iz.self x
      have hz0 : 0 < z := by
        have : (0 : Rat) < (z : Rat) := by rw [← hz]; exact Rat.mul_pos x0 (Rat.natCast_pos.mpr e0)
        exact Rat.intCast_pos.mp this
      rw [hz]
      have : ((1 : Int) : Rat) ≤ (z : Rat) := Rat.intCast_le_intCast.mpr (by omega)
      simpa using this
    have h2 : x * (x.den : Rat) ≤ x * ((1000 : Nat) : Rat) := Rat.mul_le_mul_of_nonneg_left (cast_le xd) (Rat.le_of_lt x0)
    have h3 : x * ((1000 : Nat) : Rat) ≤ A * ((1000 : Nat) : Rat) := Rat.mul_le_mul_of_nonneg_right hAx Rat.natCast_nonneg
    rw [Rat.mul_comm ((1000 : Nat) : Rat) A]
    exact Rat.le_trans h1 (Rat.le_trans h2 h3)
  have ey : x / A = x * (1 / A) := by grind
  have iy : Iz (x.den * N) (x / A) := by rw [ey]; exact ix.mul is
  have by' : Bd 1 (x / A) := by
    rw [ey]
    refine ⟨Rat.mul_nonneg (Rat.le_of_lt x0) s0, ?_⟩
    rw [← one_le]
    have h1 : x * (1 / A) ≤ A * (1 / A) := Rat.mul_le_mul_of_nonneg_right hAx s0
    rw [Rat.mul_comm A, sA] at h1
    exact h1
  refine ⟨x.den, W, N, e0, xd, W0, W1, N0, N1, ix, bx, iq, bq, ic, bc, ?_, ?_, ?_, ?_, ?_, ?_, ?_⟩
  · rw [hA]; exact A0
  · rw [hA]; exact bA
  · rw [hA]; exact ⟨_, hz⟩
  · rw [hA]; exact is
  · rw [hA]; exact bs
  · rw [hA]; exact iy
  · rw [hA]; exact by'
end K37
namespace K37
/-! ### the sequences' sizes -/
def FF : Nat := 27720
/-- the known denominators -/
def Qp (e W N : Nat) : Nat := N * (e * FF * W)
def Ep (e N m : Nat) : Nat := (e * N) ^ m
theorem div_FF (n : Nat) (h0 : 1 ≤ n) (h1 : n ≤ 12) : n ∣ FF := by
  match n, h0, h1 with
  | 1, _, _ => decide
  | 2, _, _ => decide
  | 3, _, _ => decide
  | 4, _, _ => decide
  | 5, _, _ => decide
  | 6, _, _ => decide
  | 7, _, _ => decide
  | 8, _, _ => decide
  | 9, _, _ => decide
  | 10, _, _ => decide
  | 11, _, _ => decide
  | 12, _, _ => decide
theorem Bd.frac {k n : Nat} (hn : 1 ≤ n) (h : k ≤ n) : Bd 1 ((k : Rat) / (n : Rat)) := by
  have nQ : (0 : Rat) < (n : Rat) := Rat.natCast_pos.mpr (by omega)
  have e : ((k : Rat) / (n : Rat)) * (n : Rat) = (k : Rat) := Rat.div_mul_cancel (fun z => by rw [z] at nQ; exact Rat.lt_irrefl nQ)
  refine ⟨?_, ?_⟩
  · rw [Rat.div_def]
    exact Rat.mul_nonneg Rat.natCast_nonneg (Rat.le_of_lt (Rat.inv_pos.mpr nQ))
  · refine Rat.le_of_mul_le_mul_right (c := (n : Rat)) ?_ nQ
    rw [e, ← one_le, Rat.one_mul]
    exact cast_le h
section
variable {x : Rat} {ws : List Int} {e W N m : Nat} (p : Par x ws e W N)
include p
theorem iz_b (m : Nat) : Iz e (((m - 1 : Nat) : Rat) * (1 - x)) := by
  have := (Iz.nat (m - 1)).mul p.iq
  rwa [Nat.one_mul] at this
theorem bd_b (hm : m ≤ 4) : Bd 3 (((m - 1 : Nat) : Rat) * (1 - x)) := by
  have h : Bd (m - 1) ((m - 1 : Nat) : Rat) := ⟨Rat.natCast_nonneg, Rat.le_refl⟩
  have := h.mul p.bq
  exact this.mono (by omega)
theorem iz_br {k n : Nat} (hn : 1 ≤ n) (h12 : n ≤ 12) : Iz (e * FF) ((((m - 1 : Nat) : Rat) * (1 - x)) * ((k : Rat) / (n : Rat))) := (iz_b p m).mul (Iz.frac (by omega) (div_FF n hn h12))
theorem bd_br (hm : m ≤ 4) {k n : Nat} (hn : 1 ≤ n) (hk : k ≤ n) : Bd 3 ((((m - 1 : Nat) : Rat) * (1 - x)) * ((k : Rat) / (n : Rat))) := (bd_b p hm).mul (Bd.frac hn hk)
theorem iz_f {k n : Nat} (hn : 1 ≤ n) (h12 : n ≤ 12) : Iz (e * FF) ((1 - x) + (((m - 1 : Nat) : Rat) * (1 - x)) * ((k : Rat) / (n : Rat))) := (p.iq.dvd ⟨FF, rfl⟩).add (iz_br p hn h12)
theorem bd_f (hm : m ≤ 4) {k n : Nat} (hn : 1 ≤ n) (hk : k ≤ n) : Bd 4 ((1 - x) + (((m - 1 : Nat) : Rat) * (1 - x)) * ((k : Rat) / (n : Rat))) := p.bq.add (bd_br p hm hn hk)
theorem iz_fc {k n i : Nat} (hn : 1 ≤ n) (h12 : n ≤ 12) : Iz (e * FF * W) (((1 - x) + (((m - 1 : Nat) : Rat) * (1 - x)) * ((k : Rat) / (n : Rat))) * cs ws i) := (iz_f p hn h12).mul (p.ic i)
theorem bd_fc (hm : m ≤ 4) {k n i : Nat} (hn : 1 ≤ n) (hk : k ≤ n) : Bd 4 (((1 - x) + (((m - 1 : Nat) : Rat) * (1 - x)) * ((k : Rat) / (n : Rat))) * cs ws i) := (bd_f p hm hn hk).mul (p.bc i)
/-- a term of the inner sum -/
theorem iz_t {g : Nat → Rat} {k n l : Nat} (hn : 1 ≤ n) (h12 : n ≤ 12) (hk : 1 ≤ k) (hg : Iz (Ep e N m * Qp e W N ^ (n - k)) (g (n - k))) (hl : n = l + 1) :
    Iz ((e * FF * W) * (Ep e N m * Qp e W N ^ l)) ((((1 - x) + (((m - 1 : Nat) : Rat) * (1 - x)) * ((k : Rat) / (n : Rat))) * cs ws k) * g (n - k)) := by
  refine ((iz_fc p hn h12).mul hg).dvd (Nat.mul_dvd_mul_left _ (Nat.mul_dvd_mul_left _ (Nat.pow_dvd_pow _ (by omega))))
theorem bd_t (hm : m ≤ 4) {g : Nat → Rat} {k n l : Nat} (hn : 1 ≤ n) (hk : 1 ≤ k) (hkn : k ≤ n) (hg : Bd (48000 ^ (n - k)) (g (n - k))) (hl : n = l + 1) :
    Bd (4 * 48000 ^ l) ((((1 - x) + (((m - 1 : Nat) : Rat) * (1 - x)) * ((k : Rat) / (n : Rat))) * cs ws k) * g (n - k)) :=
  ((bd_fc p hm hn hkn).mul hg).mono (Nat.mul_le_mul_left _ (Nat.pow_le_pow_right (by decide) (by omega)))
theorem iz_h {g : Nat → Rat} {n l : Nat} (hn : 1 ≤ n) (h12 : n ≤ 12) (hl : n = l + 1) (hg : ∀ i, i < n → Iz (Ep e N m * Qp e W N ^ i) (g i)) :
    ∀ j, j ≤ n → Iz ((e * FF * W) * (Ep e N m * Qp e W N ^ l)) (here (cs ws) g (1 - x) (((m - 1 : Nat) : Rat) * (1 - x)) n j)
  | 0, _ => Iz.zero' _
  | j + 1, hj => by
    rw [here]
    exact (iz_h hn h12 hl hg j (by omega)).add (iz_t p hn h12 (by omega) (hg _ (by omega)) hl)
theorem bd_h (hm : m ≤ 4) {g : Nat → Rat} {n l : Nat} (hn : 1 ≤ n) (hl : n = l + 1) (hg : ∀ i, i < n → Bd (48000 ^ i) (g i)) :
    ∀ j, j ≤ n → Bd (j * (4 * 48000 ^ l)) (here (cs ws) g (1 - x) (((m - 1 : Nat) : Rat) * (1 - x)) n j)
  | 0, _ => Bd.zero _
  | j + 1, hj => by
    rw [here, Nat.add_mul, Nat.one_mul]
    exact (bd_h hm hn hl hg j (by omega)).add (bd_t p hm hn (by omega) hj (hg _ (by omega)) hl)
theorem iz_g {g : Nat → Rat} (hr : IsRec (cs ws) ws.length (1 - x) (((m - 1 : Nat) : Rat) * (1 - x)) g) (h0 : g 0 = (x / (1 - (1 - x) * cs ws 0)) ^ m) : ∀ n, n ≤ 12 → ∀ i, i ≤ n → Iz (Ep e N m * Qp e W N ^ i) (g i)
  | 0, _, i, hi => by
    have : i = 0 := by omega
    subst this
    rw [h0, Nat.pow_zero, Nat.mul_one]
    exact p.iy.pow m
  | n + 1, hn, i, hi => by
    by_cases hin : i ≤ n
    · exact iz_g hr h0 n (by omega) i hin
    · have : i = n + 1 := by omega
      subst this
      rw [hr (n + 1) (by omega)]
      have h1 := p.is.mul (iz_h p (m := m) (g := g) (n := n + 1) (l := n) (by omega) hn rfl (fun i hi' => iz_g hr h0 n (by omega) i (by omega)) (min (n + 1) (ws.length - 1)) (by omega))
      refine h1.dvd ⟨1, ?_⟩
      unfold Qp
      rw [Nat.mul_one, Nat.pow_succ]
      ac_rfl
theorem bd_g (hm : m ≤ 4) {g : Nat → Rat} (hr : IsRec (cs ws) ws.length (1 - x) (((m - 1 : Nat) : Rat) * (1 - x)) g) (h0 : g 0 = (x / (1 - (1 - x) * cs ws 0)) ^ m) : ∀ n, n ≤ 12 → ∀ i, i ≤ n → Bd (48000 ^ i) (g i)
  | 0, _, i, hi => by
    have : i = 0 := by omega
    subst this
    rw [h0]
    exact p.by'.pow1 m
  | n + 1, hn, i, hi => by
    by_cases hin : i ≤ n
    · exact bd_g hm hr h0 n (by omega) i hin
    · have : i = n + 1 := by omega
      subst this
      rw [hr (n + 1) (by omega)]
      have h1 := p.bs.mul (bd_h p hm (g := g) (n := n + 1) (l := n) (by omega) rfl (fun i hi' => bd_g hm hr h0 n (by omega) i (by omega)) (min (n + 1) (ws.length - 1)) (by omega))
      refine h1.mono ?_
      rw [Nat.pow_succ]
      have h2 : min (n + 1) (ws.length - 1) ≤ 12 := by omega
      have h3 := Nat.mul_le_mul_right (4 * 48000 ^ n) h2
      omega
/-- the greatest denominator -/
theorem dp_pos : 0 < (e * FF * W) * (Ep e N m * Qp e W N ^ 12) := by
  have h1 : 0 < e * FF * W := Nat.mul_pos (Nat.mul_pos p.e0 (by decide)) p.W0
  exact Nat.mul_pos h1 (Nat.mul_pos (Nat.pow_pos (Nat.mul_pos p.e0 p.N0)) (Nat.pow_pos (Nat.mul_pos p.N0 h1)))
theorem dp_le (hm : m ≤ 4) : (e * FF * W) * (Ep e N m * Qp e W N ^ 12) ≤ 2 ^ 1500 := by
  have h1 : e ≤ 2 ^ 10 := Nat.le_trans p.e1 (by decide)
  have h2 : W ≤ 2 ^ 12 := Nat.le_trans p.W1 (by decide)
  have h3 : FF ≤ 2 ^ 15 := by decide
  have h4 : N ≤ 2 ^ 22 := Nat.le_trans p.N1 (Nat.le_trans (Nat.mul_le_mul h1 h2) (by decide))
  have h5 : e * FF * W ≤ 2 ^ 37 := Nat.le_trans (Nat.mul_le_mul (Nat.mul_le_mul h1 h3) h2) (by decide)
  have h6 : Qp e W N ≤ 2 ^ 59 := Nat.le_trans (Nat.mul_le_mul h4 h5) (by decide)
  have h7 : e * N ≤ 2 ^ 32 := Nat.le_trans (Nat.mul_le_mul h1 h4) (by decide)
  have h8 : Ep e N m ≤ 2 ^ 128 := by
    refine Nat.le_trans (Nat.pow_le_pow_left h7 m) ?_
    rw [← Nat.pow_mul]
    exact Nat.pow_le_pow_right (by decide) (by omega)
  have h9 : Qp e W N ^ 12 ≤ 2 ^ 708 := by
    refine Nat.le_trans (Nat.pow_le_pow_left h6 12) ?_
    rw [← Nat.pow_mul]
    exact Nat.pow_le_pow_right (by decide) (by decide)
  refine Nat.le_trans (Nat.mul_le_mul h5 (Nat.mul_le_mul h8 h9)) ?_
  rw [← Nat.pow_add, ← Nat.pow_add]
  exact Nat.pow_le_pow_right (by decide) (by decide)
end
end K37
namespace K37
section
variable {x : Rat} {ws : List Int} {e W N m : Nat} (p : Par x ws e W N)
include p
theorem szD (hm : m ≤ 4) {d B : Nat} {y : Rat} (h : Iz d y) (hd : d ∣ (e * FF * W) * (Ep e N m * Qp e W N ^ 12)) (b : Bd B y) (hB : B ≤ 2 ^ 1000) : Sz y := sz_of (h.dvd hd) b (dp_pos p) (dp_le p hm) hB
omit p in
theorem small {B : Nat} (h : B ≤ 1000 * 48000 ^ 12) : B ≤ 2 ^ 1000 := Nat.le_trans h (Nat.le_trans (show 1000 * 48000 ^ 12 ≤ 2 ^ 210 by decide) (Nat.pow_le_pow_right (by decide) (by decide)))
omit p in
theorem small1 {B : Nat} (h : B ≤ 1000) : B ≤ 2 ^ 1000 := small (Nat.le_trans h (by decide))
omit p in
theorem dvA {d : Nat} (h : d ∣ e * FF * W) : d ∣ (e * FF * W) * (Ep e N m * Qp e W N ^ 12) := Nat.dvd_trans h ⟨_, rfl⟩
omit p in
theorem dv_e : e ∣ e * FF * W := ⟨FF * W, by rw [Nat.mul_assoc]⟩
omit p in
theorem dv_W : W ∣ e * FF * W := ⟨e * FF, by rw [Nat.mul_comm]⟩
omit p in
theorem dv_F : FF ∣ e * FF * W := ⟨e * W, by ac_rfl⟩
omit p in
theorem dv_eW : e * W ∣ e * FF * W := ⟨FF, by ac_rfl⟩
omit p in
theorem dv_eF : e * FF ∣ e * FF * W := ⟨W, rfl⟩
omit p in
theorem dvE {d : Nat} (h : d ∣ Ep e N m) : d ∣ (e * FF * W) * (Ep e N m * Qp e W N ^ 12) := Nat.dvd_trans (Nat.dvd_trans h ⟨_, rfl⟩) ⟨e * FF * W, by rw [Nat.mul_comm]⟩
omit p in
theorem dvN : N ∣ (e * FF * W) * (Ep e N m * Qp e W N ^ 12) := by
  have h1 : N ∣ Qp e W N := ⟨_, rfl⟩
  have h2 : Qp e W N ∣ Qp e W N ^ 12 := ⟨Qp e W N ^ 11, by rw [Nat.mul_comm, ← Nat.pow_succ]⟩
  exact Nat.dvd_trans (Nat.dvd_trans h1 h2) ⟨(e * FF * W) * Ep e N m, by ac_rfl⟩
omit p in
theorem dvG {i : Nat} (h : i ≤ 12) : Ep e N m * Qp e W N ^ i ∣ (e * FF * W) * (Ep e N m * Qp e W N ^ 12) :=
  Nat.dvd_trans (Nat.mul_dvd_mul_left _ (Nat.pow_dvd_pow _ h)) ⟨e * FF * W, by rw [Nat.mul_comm]⟩
omit p in
theorem dvT {i : Nat} (h : i ≤ 12) : (e * FF * W) * (Ep e N m * Qp e W N ^ i) ∣ (e * FF * W) * (Ep e N m * Qp e W N ^ 12) :=
  Nat.mul_dvd_mul_left _ (Nat.mul_dvd_mul_left _ (Nat.pow_dvd_pow _ h))
omit p in
theorem pw {i : Nat} (h : i ≤ 12) : 48000 ^ i ≤ 48000 ^ 12 := Nat.pow_le_pow_right (by decide) h
theorem wsz_of (hL : 1 ≤ ws.length) {n : Nat} (hm1 : 1 ≤ m) (hm : m ≤ 4) (hn : n ≤ 12) {g : Nat → Rat} (hr : IsRec (cs ws) ws.length (1 - x) (((m - 1 : Nat) : Rat) * (1 - x)) g) (h0 : g 0 = (x / (1 - (1 - x) * cs ws 0)) ^ m) : WSz ws x m n g := by
  have ig : ∀ i, i ≤ 12 → Iz (Ep e N m * Qp e W N ^ i) (g i) := fun i hi => iz_g p hr h0 12 (Nat.le_refl _) i hi
  have bg : ∀ i, i ≤ 12 → Bd (48000 ^ i) (g i) := fun i hi => bd_g p hm hr h0 12 (Nat.le_refl _) i hi
  refine ⟨?_, ?_, ?_, fun j hj => ?_, h0, hr, ?_⟩
  · exact szD p hm p.ix (dvA dv_e) p.bx (small1 (by decide))
  · exact szD p hm (Iz.nat (m - 1)) (Nat.one_dvd _) ⟨Rat.natCast_nonneg, Rat.le_refl⟩ (small1 (by omega))
  · exact szD p hm p.iy (dvE (by obtain ⟨d, rfl⟩ : ∃ d, m = d + 1 := ⟨m - 1, by omega⟩
                                 exact ⟨(e * N) ^ d, by unfold Ep; rw [Nat.pow_succ, Nat.mul_comm]⟩)) p.by' (small1 (by decide))
  · exact szD p hm (p.iy.pow j) (dvE (Nat.pow_dvd_pow _ hj)) (p.by'.pow1 j) (small1 (by decide))
  · refine ⟨?_, ?_, fun k hk => ?_, ?_, ?_, p.A0, ?_, fun k l h1 h2 h3 => ?_, fun k l h1 h2 h3 => ?_, fun k l h1 h2 h3 => ?_, fun k l h1 h2 h3 h4 => ?_, fun l hl => ?_, fun k l h1 h2 h3 h4 => ?_, fun l j h1 h2 h3 h4 => ?_⟩
    · exact szD p hm p.iq (dvA dv_e) p.bq (small1 (by decide))
    · exact szD p hm (iz_b p m) (dvA dv_e) (bd_b p hm) (small1 (by decide))
    · exact szD p hm (p.ic k) (dvA dv_W) (p.bc k) (small1 (by decide))
    · exact szD p hm (p.iq.mul (p.ic 0)) (dvA dv_eW) (p.bq.mul (p.bc 0)) (small1 (by decide))
    · exact szD p hm p.iA (dvA dv_eW) p.bA (small1 (by decide))
    · exact szD p hm p.is dvN p.bs (small1 (by decide))
    · exact szD p hm (Iz.frac (by omega) (div_FF l (by omega) (by omega))) (dvA dv_F) (Bd.frac (by omega) h2) (small1 (by decide))
    · exact szD p hm (iz_br p (by omega) (by omega)) (dvA dv_eF) (bd_br p hm (by omega) h2) (small1 (by decide))
    · exact szD p hm (iz_f p (by omega) (by omega)) (dvA dv_eF) (bd_f p hm (by omega) h2) (small1 (by decide))
    · exact szD p hm (iz_fc p (by omega) (by omega)) (dvA (Nat.dvd_refl _)) (bd_fc p hm (by omega) h2) (small1 (by decide))
    · exact szD p hm (ig l (by omega)) (dvG (by omega)) (bg l (by omega)) (small (by have := pw (i := l) (by omega); omega))
    · obtain ⟨i, rfl⟩ : ∃ i, l = i + 1 := ⟨l - 1, by omega⟩
      exact szD p hm (iz_t p (by omega) (by omega) h1 (ig _ (by omega)) rfl) (dvT (by omega)) (bd_t p hm (by omega) h1 h2 (bg _ (by omega)) rfl) (small (by have := pw (i := i) (by omega); omega))
    · obtain ⟨i, rfl⟩ : ∃ i, l = i + 1 := ⟨l - 1, by omega⟩
      refine szD p hm (iz_h p (by omega) (by omega) rfl (fun t ht => ig t (by omega)) j h3) (dvT (by omega)) (bd_h p hm (by omega) rfl (fun t ht => bg t (by omega)) j h3) (small ?_)
      have h5 := pw (i := i) (by omega)
      have h6 : j * (4 * 48000 ^ i) ≤ 12 * (4 * 48000 ^ i) := Nat.mul_le_mul_right _ (by omega)
      omega
theorem lsz_of {n : Nat} (hm : m ≤ 4) (hn : n ≤ 12) {f g : Nat → Rat} (ig : ∀ i, i ≤ 12 → Iz (Ep e N m * Qp e W N ^ i) (g i)) (bg : ∀ i, i ≤ 12 → Bd (48000 ^ i) (g i)) (jf : ∀ i, i ≤ 12 → Iz (Ep e N m * Qp e W N ^ i) (f i)) (bf : ∀ i, i ≤ 12 → Bd (48000 ^ i) (f i)) :
    LSz (cs ws) ws.length x n f g := by
  have it : ∀ j k, j ≤ 12 → Iz ((e * FF * W) * (Ep e N m * Qp e W N ^ 12)) (((1 - x) * cs ws k) * g (j - k)) := fun j k hj =>
    ((((p.iq.mul (p.ic k)).dvd dv_eW).mul (ig (j - k) (by omega))).dvd (dvT (by omega)))
  have bt : ∀ j k, j ≤ 12 → Bd (48000 ^ 12) (((1 - x) * cs ws k) * g (j - k)) := fun j k hj =>
    ((p.bq.mul (p.bc k)).mul (bg (j - k) (by omega))).mono (by have := pw (i := j - k) (by omega); omega)
  have id : ∀ j k, j ≤ 12 → Iz ((e * FF * W) * (Ep e N m * Qp e W N ^ 12)) (due x (1 - x) (cs ws) f g j k) := fun j k hj => by
    induction k with
    | zero => rw [due]; exact ((p.ix.dvd dv_e).mul (jf j hj)).dvd (dvT hj)
    | succ k ih => rw [due]; exact ih.add (it j k hj)
  have bd : ∀ j k, j ≤ 12 → Bd ((k + 1) * 48000 ^ 12) (due x (1 - x) (cs ws) f g j k) := fun j k hj => by
    induction k with
    | zero => rw [due]; exact (p.bx.mul (bf j hj)).mono (by have := pw (i := j) hj; omega)
    | succ k ih => rw [due]; exact (ih.add (bt j k hj)).mono (by rw [Nat.add_mul (k + 1), Nat.one_mul]; exact Nat.le_refl _)
  refine ⟨?_, ?_, fun k hk => ?_, fun j hj => ?_, fun j hj => ?_, fun k hk => ?_, fun j k h1 h2 h3 => ?_, fun j k h1 h2 h3 => ?_⟩
  · exact szD p hm p.ix (dvA dv_e) p.bx (small1 (by decide))
  · exact szD p hm p.iq (dvA dv_e) p.bq (small1 (by decide))
  · exact szD p hm (p.ic k) (dvA dv_W) (p.bc k) (small1 (by decide))
  · exact szD p hm (jf j (by omega)) (dvG (by omega)) (bf j (by omega)) (small (by have := pw (i := j) (by omega); omega))
  · exact szD p hm (ig j (by omega)) (dvG (by omega)) (bg j (by omega)) (small (by have := pw (i := j) (by omega); omega))
  · exact szD p hm (p.iq.mul (p.ic k)) (dvA dv_eW) (p.bq.mul (p.bc k)) (small1 (by decide))
  · exact szD p hm (it j k (by omega)) (Nat.dvd_refl _) (bt j k (by omega)) (small (by omega))
  · refine szD p hm (id j k (by omega)) (Nat.dvd_refl _) (bd j k (by omega)) (small ?_)
    exact Nat.mul_le_mul_right _ (by omega)
end
/-- the mathematics that the walk of the law asks -/
theorem good {m n : Nat} {x : Rat} {ws : List Int} (hm1 : 1 ≤ m) (hm : m ≤ 4) (hn : n ≤ 12) (hx : Ch x) (hws : OkW ws) : Good m n x ws := by
  obtain ⟨hok, hlen⟩ := okw_okc hws
  obtain ⟨e, W, N, p⟩ := par_of hx.1 hok hlen
  have hL : 1 ≤ ws.length := (okc_wok hok (by omega)).ne
  have hA : 1 - (1 - x) * cs ws 0 ≠ 0 := fun z => by
    have := p.A0
    rw [z] at this
    exact Rat.lt_irrefl this
  obtain ⟨g, hg, g0⟩ : ∃ g, IsRec (cs ws) ws.length (1 - x) (((m - 1 : Nat) : Rat) * (1 - x)) g ∧ g 0 = (x / (1 - (1 - x) * cs ws 0)) ^ m := ⟨_, gen_rec _ _ _ _ _, gen_zero _ _ _ _ _⟩
  have ig : ∀ i, i ≤ 12 → Iz (Ep e N m * Qp e W N ^ i) (g i) := fun i hi => iz_g p hg g0 12 (Nat.le_refl _) i hi
  have bg : ∀ i, i ≤ 12 → Bd (48000 ^ i) (g i) := fun i hi => bd_g p hm hg g0 12 (Nat.le_refl _) i hi
  by_cases h1 : m = 1
  · refine ⟨unit, g, wsz_of p hL hm1 hm hn hg g0, fun _ => rfl, fun h2 => absurd h2 (by omega), lsz_of p hm hn ig bg (fun i hi => ?_) (fun i hi => ?_), fun j => ?_⟩
    · unfold unit
      split
      · exact Iz.one' _
      · exact Iz.zero' _
    · unfold unit
      split
      · exact ⟨by decide +kernel, by rw [one_le]; exact cast_le (Nat.pos_of_ne_zero (by have : 0 < 48000 ^ i := Nat.pow_pos (by decide); omega))⟩
      · exact Bd.zero _
    · exact law_holds hL (cs_zero ws) hA hm1 hg g0 (.inl ⟨h1, rfl⟩) j
  · have hm2 : 2 ≤ m := by omega
    obtain ⟨f, hf, f0⟩ : ∃ f, IsRec (cs ws) ws.length (1 - x) (((m - 1 - 1 : Nat) : Rat) * (1 - x)) f ∧ f 0 = (x / (1 - (1 - x) * cs ws 0)) ^ (m - 1) := ⟨_, gen_rec _ _ _ _ _, gen_zero _ _ _ _ _⟩
    refine ⟨f, g, wsz_of p hL hm1 hm hn hg g0, fun h => absurd h h1, fun _ => wsz_of p hL (by omega) (by omega) hn hf f0, lsz_of p hm hn ig bg (fun i hi => ?_) (fun i hi => ?_), fun j => ?_⟩
    · exact (iz_g p hf f0 12 (Nat.le_refl _) i hi).dvd (Nat.mul_dvd_mul_right (Nat.pow_dvd_pow _ (by omega)) _)
    · exact bd_g p (by omega) hf f0 12 (Nat.le_refl _) i hi
    · exact law_holds hL (cs_zero ws) hA hm1 hg g0 (.inr ⟨hm2, hf, f0⟩) j
end K37
namespace K37
open PySem PySem.Spec PyProof.Rows L2 GxR
/-! ### the end -/
def TabsOf (q : Program) (mg : Str → Option Value) (h : Heap) : Prop := ∀ d ∈ recsOf q, ∃ a o fd c P, mg d.name = some (.ref a) ∧ h.get? a = some o ∧ o.data = .func fd ∧ fd.code = .ref c ∧ h.IsCode c P #[] ∧ h.TableAt c P #[]
/-- the law's promise at its 63 ints, the tables of the text's defs told -/
theorem promise {law : PySem.W.OpenLaw} {prog : Program} {free : List Str} {Names : (Str → Option Value) → Heap → Prop} {Stands : World → Heap → Prop} {own : DefRec} {frag : Params → PySem.W.Frag}
    (most : law.most = some 63) (noDef : own.params.defaults = []) (inH : ∀ (u : World) (hp : Heap), Stands u hp → (frag u.params).In hp)
    (atLaw : ∀ (u : World) (g : Str → Option Value) (lawA : Addr) (hp : Heap), (frag u.params).In hp → hp.Ns mainGlobals g → g own.name = some (.ref lawA) → TabsOf prog g hp → LamX.LawAtS law u (frag u.params) CX0 5 63 "_law_script" g lawA hp) :
    PySem.W.WalkO prog free Names Stands law.row.toRowW own [] (fun lawV args => PySem.call lawV args) :=
  Att.attach_callB most noDef fun u _ _ g _ lawA _ _ _ _ script _ its T at0 _ _ _ nameL isObj areInts short bits room => by
    have hF := inH u _ at0
    obtain ⟨_, _, _, isT, noT, code, bound, spec, runs⟩ := atLaw u g lawA _ hF T.T.g nameL T.T.tab
    have len : _ ≤ sizeLine := Nat.le_trans short (by decide)
    have r5 : Room 5 callerA := ⟨rfl, by decide, by decide⟩
    exact LamX.law_callTs hF T.T.g T.T.b T.T.builtins T.T.nolimit room isT noT code T.T.bmain isObj areInts len r5 runs bound (fun H tabs seen => spec H script its short bits tabs seen) fun _ _ _ no => no
/-- a def of the text stands under its name -/
def DefIs (K : PySem.W.Frag) (mg : Str → Option Value) (x : Str) (st : Stmt) : Prop := ∃ f fd, Fun K x x st f fd ∧ mg x = some (.ref f)
theorem def_mk {K : PySem.W.Frag} {h : Heap} {mg : Str → Option Value} {x : Str} {st : Stmt} {f : Addr} {oc : Value} {od an : Option Addr} {osl : Array (Option Value)} {kV doc pm cdv ct : Value} (X : K.In h) (G : h.Ns mainGlobals mg) (a : PySem.W.nsIn K mainGlobals x = some (some (.ref f)))
    (l : K.lookup f = some ⟨oc, od, .func (PySem.W.fnOf x x (defArgs st) (defBody st) (defScope st) .none kV doc pm an cdv ct), osl⟩) (c : PySem.W.codeIn K cdv x = true) (k : PySem.W.keepIn K (.ref f) = true) : DefIs K mg x st :=
  ⟨f, _, fun_mk l c k, PySem.W.mg_of X G a⟩
/-- .. with its code object at c and its table, empty, at P -/
def DefC (K : PySem.W.Frag) (mg : Str → Option Value) (h : Heap) (x : Str) (st : Stmt) : Prop := ∃ f fd c P, FunC K x x st f fd c ∧ mg x = some (.ref f) ∧ h.get? P = some { cls := .none, data := .fields #[] } ∧ K.lookup P = none ∧ PySem.W.CodeHd h c P
theorem defc_mk {K : PySem.W.Frag} {h : Heap} {mg : Str → Option Value} {q : Program} {x : Str} {st : Stmt} {f c P : Addr} {oc oc2 : Value} {od od2 an : Option Addr} {osl osl2 : Array (Option Value)} {kV doc pm ct : Value} {vs : Array Value} (X : K.In h) (G : h.Ns mainGlobals mg) (T : TabsOf q mg h) (hrec : ((recsOf q).any fun e => e.name == x) = true)
    (a : PySem.W.nsIn K mainGlobals x = some (some (.ref f))) (l : K.lookup f = some ⟨oc, od, .func (PySem.W.fnOf x x (defArgs st) (defBody st) (defScope st) .none kV doc pm an (.ref c) ct), osl⟩) (cc : PySem.W.codeIn K (.ref c) x = true) (k : PySem.W.keepIn K (.ref f) = true)
    (lc : K.lookup c = some ⟨oc2, od2, .fields vs, osl2⟩) (v11 : vs[11]? = some (.ref P)) (nP : K.lookup P = none) : DefC K mg h x st := by
  have ⟨row, inRows, isX⟩ := List.any_eq_true.mp hrec
  have hn2 : row.name = x := eq_of_beq isX
  obtain ⟨a', o', fd', c', P', h1, h2, h3, h4, h5, h6⟩ := T row inRows
  have hd := PySem.W.CodeHd.of h5 h6
  rw [hn2, PySem.W.mg_of X G a] at h1
  cases h1
  have g1 := X _ _ l
  rw [g1] at h2
  cases h2
  cases h3
  cases h4
  obtain ⟨⟨oc', vc, e1, _, e3, e4⟩, hP⟩ := h6
  have g2 := X _ _ lc
  rw [g2] at e1
  cases e1
  cases e3
  rw [v11] at e4
  cases e4
  exact ⟨f, _, c, P, ⟨⟨oc, od, kV, doc, pm, an, ct, osl, rfl, l, cc⟩, k⟩, PySem.W.mg_of X G a, hP, nP, hd⟩
theorem cal_mk {P : Program} {w : World} {K : PySem.W.Frag} {mg : Str → Option Value} {base : Heap} {j k : Nat} {x : Str} {f : Addr} {fd : FuncData} {ps : List Str} {sp : Sp} (G : FnOk P w K mg base CX0 j f fd ps sp) (m : mg x = some (.ref f)) (kp : PySem.W.keepIn K (.ref f) = true) (b : Binds K fd ps []) (h : j ≤ k) :
    C8.Cal P w K mg base k x sp [] := ⟨f, fd, ps, [], G.mono h, m, kp, b, .nil⟩
/-- what holds of both tables -/
theorem two {α : Type} {a b : α} {q : α → Prop} (ha : q a) (hb : q b) : ∀ p ∈ [a, b], q p := by simp [ha, hb]
theorem all_mk {l : PySem.W.OpenLaw} {w : World} {K : PySem.W.Frag} {h : Heap} {mg : Str → Option Value} {fa : Addr} (hfa : mg "law" = some (.ref fa))
    (d7 : DefIs K mg "ratio" sRatio) (d8 : DefIs K mg "plus" sPlus) (d9 : DefIs K mg "minus" sMinus) (d10 : DefIs K mg "by" sBy) (d11 : DefIs K mg "over" sOver) (d12 : DefC K mg h "is_ratio" sIsR) (d14 : DefIs K mg "is_in" sIn) (d15 : DefIs K mg "need_time" sTime) (d22 : DefC K mg h "need_claims" sNeedC)
    (d23 : DefIs K mg "chances_of" sChances) (d24 : DefIs K mg "need_sum" sNeedS) (d25 : DefIs K mg "recursion" sRec) (d26 : DefIs K mg "power_of" sPower) (d27 : DefIs K mg "waiting_sum" sWait) (d29 : DefIs K mg "_law_taken" sTaken) (d30 : DefIs K mg "_law_pick" sPick) (d31 : DefIs K mg "_law_alike" sAlike)
    (d32 : DefIs K mg "_law_ratio" sLRatio) (d33 : DefIs K mg "_law_plus" sLPlus) (d34 : DefIs K mg "_law_by" sLBy) (d36 : DefIs K mg "_law_claims" sClaims) (d37 : DefIs K mg "_law_chances" sLChances) (d39 : DefIs K mg "law" sLaw)
    (mG : mg "gcd" = some (.builtin "math.gcd")) (c1 : ∃ t, mg "MOST_TIMES" = some (.int 8 t)) (c2 : ∃ t, mg "MOST_BOTTOM" = some (.int 1000 t)) (c3 : ∃ t, mg "MOST_AMOUNTS" = some (.int 13 t)) (c4 : ∃ t, mg "MOST_TOTAL" = some (.int 40 t)) (c5 : ∃ t, mg "MOST_WEIGHT" = some (.int 1000 t))
    (mA : mg "abs" = none) (mI : mg "int" = none) (mL : mg "len" = none) (mS : mg "sum" = none) (mRg : mg "range" = none) (mTu : mg "tuple" = none) (mIs : mg "isinstance" = none) (mLi : mg "list" = none) (mSt : mg "str" = none) (mBo : mg "bool" = none) (mMi : mg "min" = none) (mAl : mg "all" = none) :
    LamX.LawAtS l w K CX0 5 63 "_law_script" mg fa h := by
  obtain ⟨f7, g7, F7, m7⟩ := d7
  obtain ⟨f8, g8, F8, m8⟩ := d8
  obtain ⟨f9, g9, F9, m9⟩ := d9
  obtain ⟨f10, g10, F10, m10⟩ := d10
  obtain ⟨f11, g11, F11, m11⟩ := d11
  obtain ⟨f12, g12, k12, P2, F12, m12, hP2, nP2, hd2⟩ := d12
  obtain ⟨f14, g14, F14, m14⟩ := d14
  obtain ⟨f15, g15, F15, m15⟩ := d15
  obtain ⟨f22, g22, k22, P1, F22, m22, hP1, nP1, hd1⟩ := d22
  obtain ⟨f23, g23, F23, m23⟩ := d23
  obtain ⟨f24, g24, F24, m24⟩ := d24
  obtain ⟨f25, g25, F25, m25⟩ := d25
  obtain ⟨f26, g26, F26, m26⟩ := d26
  obtain ⟨f27, g27, F27, m27⟩ := d27
  obtain ⟨f29, g29, F29, m29⟩ := d29
  obtain ⟨f30, g30, F30, m30⟩ := d30
  obtain ⟨f31, g31, F31, m31⟩ := d31
  obtain ⟨f32, g32, F32, m32⟩ := d32
  obtain ⟨f33, g33, F33, m33⟩ := d33
  obtain ⟨f34, g34, F34, m34⟩ := d34
  obtain ⟨f36, g36, F36, m36⟩ := d36
  obtain ⟨f37, g37, F37, m37⟩ := d37
  obtain ⟨f39, g39, F39, m39⟩ := d39
  obtain ⟨t1, c1⟩ := c1
  obtain ⟨t2, c2⟩ := c2
  obtain ⟨t3, c3⟩ := c3
  obtain ⟨t4, c4⟩ := c4
  obtain ⟨t5, c5⟩ := c5
  have efa := hfa.symm.trans m39
  cases efa
  have b7 := F7.binds (ps := ["top", "bottom"]) fun _ _ _ _ _ _ us hl => match us, hl with | [_, _], _ => rfl
  have b8 := F8.binds (ps := ["one", "other"]) fun _ _ _ _ _ _ us hl => match us, hl with | [_, _], _ => rfl
  have b9 := F9.binds (ps := ["one", "other"]) fun _ _ _ _ _ _ us hl => match us, hl with | [_, _], _ => rfl
  have b10 := F10.binds (ps := ["one", "other"]) fun _ _ _ _ _ _ us hl => match us, hl with | [_, _], _ => rfl
  have b11 := F11.binds (ps := ["one", "other"]) fun _ _ _ _ _ _ us hl => match us, hl with | [_, _], _ => rfl
  have b12 := F12.fn.binds (ps := ["value"]) fun _ _ _ _ _ _ us hl => match us, hl with | [_], _ => rfl
  have b14 := F14.binds (ps := ["value", "least", "most"]) fun _ _ _ _ _ _ us hl => match us, hl with | [_, _, _], _ => rfl
  have b15 := F15.binds (ps := ["time", "least", "most"]) fun _ _ _ _ _ _ us hl => match us, hl with | [_, _, _], _ => rfl
  have b22 := F22.fn.binds (ps := ["claims", "most"]) fun _ _ _ _ _ _ us hl => match us, hl with | [_, _], _ => rfl
  have b23 := F23.binds (ps := ["claims"]) fun _ _ _ _ _ _ us hl => match us, hl with | [_], _ => rfl
  have b24 := F24.binds (ps := ["many", "chance", "claims", "most", "is_waiting"]) fun _ _ _ _ _ _ us hl => match us, hl with | [_, _, _, _, _], _ => rfl
  have b25 := F25.binds (ps := ["first", "a", "b", "claims", "most"]) fun _ _ _ _ _ _ us hl => match us, hl with | [_, _, _, _, _], _ => rfl
  have b26 := F26.binds (ps := ["one", "times"]) fun _ _ _ _ _ _ us hl => match us, hl with | [_, _], _ => rfl
  have b27 := F27.binds (ps := ["many", "chance", "claims", "most"]) fun _ _ _ _ _ _ us hl => match us, hl with | [_, _, _, _], _ => rfl
  have b29 := F29.binds (ps := ["_law_row", "_law_many"]) fun _ _ _ _ _ _ us hl => match us, hl with | [_, _], _ => rfl
  have b30 := F30.binds (ps := ["_law_row", "_law_things"]) fun _ _ _ _ _ _ us hl => match us, hl with | [_, _], _ => rfl
  have b31 := F31.binds (ps := ["_law_found", "_law_due"]) fun _ _ _ _ _ _ us hl => match us, hl with | [_, _], _ => rfl
  have b32 := F32.binds (ps := ["_law_top", "_law_bottom"]) fun _ _ _ _ _ _ us hl => match us, hl with | [_, _], _ => rfl
  have b33 := F33.binds (ps := ["_law_one", "_law_other"]) fun _ _ _ _ _ _ us hl => match us, hl with | [_, _], _ => rfl
  have b34 := F34.binds (ps := ["_law_one", "_law_other"]) fun _ _ _ _ _ _ us hl => match us, hl with | [_, _], _ => rfl
  have b36 := F36.binds (ps := ["_law_row", "_law_most"]) fun _ _ _ _ _ _ us hl => match us, hl with | [_, _], _ => rfl
  have b37 := F37.binds (ps := ["_law_claims_here"]) fun _ _ _ _ _ _ us hl => match us, hl with | [_], _ => rfl
  refine ⟨g39, [(k22, P1), (k12, P2)], spLaw K P1 P2, fun p hp => ?_, fun p hp => ?_, fun p hp => ?_, fun s v => ?_, fun H a ns _ _ hH hS => ?_, fun base KX Gx TB => ?_⟩
  · exact two (q := fun p => h.get? p.2 = _) hP1 hP2 p hp
  · exact two (q := fun p => K.lookup p.2 = none) nP1 nP2 p hp
  · exact two (q := fun p => PySem.W.CodeHd h p.1 p.2) hd1 hd2 p hp
  · obtain ⟨oc, od, kV, doc, pm, an, cdv, ct, osl, rfl, lk, hcd⟩ := F39.ex
    exact .of_eq rfl
  · have h1 : H P1 = some (.tbl #[]) := hH (k22, P1) (List.mem_cons_self ..)
    have h2 : H P2 = some (.tbl #[]) := hH (k12, P2) (List.mem_cons_of_mem _ (List.mem_cons_self ..))
    exact ⟨a, ns, rfl, hS, ⟨#[], h1, True.intro⟩, ⟨#[], h2, True.intro⟩, fun _ => rfl⟩
  · have T1 : GxR.TabB base mg k22 P1 := let t := TB (k22, P1) (List.mem_cons_self ..); ⟨t.code, t.bm, t.gP⟩
    have T2 : GxR.TabB base mg k12 P2 := let t := TB (k12, P2) (List.mem_cons_of_mem _ (List.mem_cons_self ..)); ⟨t.code, t.bm, t.gP⟩
    have O7 := ok_ratio (P := l.prog) (w := w) (base := base) (k := 0) F7 mG
    have O8 := ok_plus F8 F7 O7 b7 m7
    have O9 := ok_minus F9 F7 O7 b7 m7
    have O10 := ok_by F10 F7 O7 b7 m7
    have O11 := ok_over F11 F7 O7 b7 m7
    have O12 := ok_isr (P := l.prog) (w := w) (k := 0) F12 T2 mIs mI mBo mTu mL mAl mG
    have O14 := ok_in (P := l.prog) (w := w) (base := base) (k := 0) F14 mIs mI mBo
    have O15 := ok_time F15 (cal_mk O14 m14 F14.kp b14 (Nat.le_refl 1))
    have O22 := ok_needc (P := l.prog) (w := w) (k := 0) F22 T1 F14 b14 m14 c5 mIs mI mBo mTu mL mAl
    have O23 := ok_chances F23 F7 O7 b7 m7 mS
    have O24 := ok_needs F24 (cal_mk O15 m15 F15.kp b15 (Nat.le_refl 2)) (cal_mk O12 m12 F12.kp b12 (by decide)) (cal_mk O22 m22 F22.kp b22 (by decide)) c1 c2 c3 c4
    have O25 := ok_rec F25 (cal_mk O23 m23 F23.kp b23 (Nat.le_refl 2)) (cal_mk O11 m11 F11.kp b11 (Nat.le_refl 2)) (cal_mk O9 m9 F9.kp b9 (Nat.le_refl 2)) (cal_mk O10 m10 F10.kp b10 (Nat.le_refl 2)) (cal_mk O8 m8 F8.kp b8 (Nat.le_refl 2)) (cal_mk O7 m7 F7.kp b7 (by decide)) mRg mMi mL mTu
    have O26 := ok_power F26 F10 O10 b10 m10 mRg
    have O27 := ok_wait (k := 3) F27 (cal_mk O24 m24 F24.kp b24 (by decide)) (cal_mk O23 m23 F23.kp b23 (by decide)) (cal_mk O11 m11 F11.kp b11 (by decide)) (cal_mk O9 m9 F9.kp b9 (by decide)) (cal_mk O10 m10 F10.kp b10 (by decide)) (cal_mk O26 m26 F26.kp b26 (by decide)) (cal_mk O25 m25 F25.kp b25 (by decide))
    have O29 := ok_taken (P := l.prog) (w := w) (base := base) (k := 0) F29 mI mL
    have O30 := ok_pick F30 F29 O29 b29 m29 mL
    have O36 := ok_claims F36 F29 (O29.mono (by decide : 1 ≤ 2)) b29 m29 F30 O30 b30 m30 mRg mTu
    have O31 := ok_alikeI (P := l.prog) (w := w) (base := base) (k := 0) F31 mIs mTu mLi mSt mI mBo
    have O31' := ok_alikeT F31 O31 b31 m31 mIs mTu mLi mL mRg
    have O32 := ok_lratio (P := l.prog) (w := w) (base := base) (k := 0) F32 mA mI
    have O33 := ok_lplus F33 F32 O32 b32 m32
    have O34 := ok_lby F34 F32 O32 b32 m32
    have O37 := ok_lchances F37 F32 O32 b32 m32 mS
    exact ok_law (k := 4) F39 (fun m n x ws h1 h2 h3 h4 h5 => good h1 h2 h3 h4 h5) (cal_mk O29 m29 F29.kp b29 (by decide)) (cal_mk O30 m30 F30.kp b30 (by decide)) (cal_mk O36 m36 F36.kp b36 (by decide)) (cal_mk O27 m27 F27.kp b27 (by decide))
      (cal_mk O37 m37 F37.kp b37 (by decide)) (cal_mk O34 m34 F34.kp b34 (by decide)) (cal_mk O33 m33 F33.kp b33 (by decide)) (cal_mk O31' m31 F31.kp b31 (by decide)) mRg mMi mL mTu mIs
end K37
open PySem PySem.W PyProof.Rows
set_option maxRecDepth 100000 in
set_option maxHeartbeats 0 in
theorem PySem.Challenge.cw_actuarium_k37_whole_sums_of_failures_holds : PySem.Challenge.rw_actuarium_k37_whole_sums_of_failures.Holds := by
  w_on; o_law; k_head; (case hw => w_witness2)
  k_fill
  refine K37.promise (law := PySem.Challenge.rw_actuarium_k37_whole_sums_of_failures) rfl rfl (fun _ _ st => PySem.W.kIn_of st) ?F
  case F =>
    intro w mg fa h KX G hmg T
    have d7 := K37.def_mk (x := "ratio") (st := K37.sRatio) KX G (by k_is) (by k_is) (by k_is) (by k_is)
    have d8 := K37.def_mk (x := "plus") (st := K37.sPlus) KX G (by k_is) (by k_is) (by k_is) (by k_is)
    have d9 := K37.def_mk (x := "minus") (st := K37.sMinus) KX G (by k_is) (by k_is) (by k_is) (by k_is)
    have d10 := K37.def_mk (x := "by") (st := K37.sBy) KX G (by k_is) (by k_is) (by k_is) (by k_is)
    have d11 := K37.def_mk (x := "over") (st := K37.sOver) KX G (by k_is) (by k_is) (by k_is) (by k_is)
    have d14 := K37.def_mk (x := "is_in") (st := K37.sIn) KX G (by k_is) (by k_is) (by k_is) (by k_is)
    have d15 := K37.def_mk (x := "need_time") (st := K37.sTime) KX G (by k_is) (by k_is) (by k_is) (by k_is)
    have d23 := K37.def_mk (x := "chances_of") (st := K37.sChances) KX G (by k_is) (by k_is) (by k_is) (by k_is)
    have d24 := K37.def_mk (x := "need_sum") (st := K37.sNeedS) KX G (by k_is) (by k_is) (by k_is) (by k_is)
    have d25 := K37.def_mk (x := "recursion") (st := K37.sRec) KX G (by k_is) (by k_is) (by k_is) (by k_is)
    have d26 := K37.def_mk (x := "power_of") (st := K37.sPower) KX G (by k_is) (by k_is) (by k_is) (by k_is)
    have d27 := K37.def_mk (x := "waiting_sum") (st := K37.sWait) KX G (by k_is) (by k_is) (by k_is) (by k_is)
    have d29 := K37.def_mk (x := "_law_taken") (st := K37.sTaken) KX G (by k_is) (by k_is) (by k_is) (by k_is)
    have d30 := K37.def_mk (x := "_law_pick") (st := K37.sPick) KX G (by k_is) (by k_is) (by k_is) (by k_is)
    have d31 := K37.def_mk (x := "_law_alike") (st := K37.sAlike) KX G (by k_is) (by k_is) (by k_is) (by k_is)
    have d32 := K37.def_mk (x := "_law_ratio") (st := K37.sLRatio) KX G (by k_is) (by k_is) (by k_is) (by k_is)
    have d33 := K37.def_mk (x := "_law_plus") (st := K37.sLPlus) KX G (by k_is) (by k_is) (by k_is) (by k_is)
    have d34 := K37.def_mk (x := "_law_by") (st := K37.sLBy) KX G (by k_is) (by k_is) (by k_is) (by k_is)
    have d36 := K37.def_mk (x := "_law_claims") (st := K37.sClaims) KX G (by k_is) (by k_is) (by k_is) (by k_is)
    have d37 := K37.def_mk (x := "_law_chances") (st := K37.sLChances) KX G (by k_is) (by k_is) (by k_is) (by k_is)
    have d39 := K37.def_mk (x := "law") (st := K37.sLaw) KX G (by k_is) (by k_is) (by k_is) (by k_is)
    have d12 := K37.defc_mk (x := "is_ratio") (st := K37.sIsR) KX G T (by decide +kernel) (by k_is) (by k_is) (by k_is) (by k_is) (by k_is) (by rfl) (by first | kernel_rfl | rfl)
    have d22 := K37.defc_mk (x := "need_claims") (st := K37.sNeedC) KX G T (by decide +kernel) (by k_is) (by k_is) (by k_is) (by k_is) (by k_is) (by rfl) (by first | kernel_rfl | rfl)
    have c1 := PySem.W.mg_of (n := "MOST_TIMES") KX G (by k_is)
    have c2 := PySem.W.mg_of (n := "MOST_BOTTOM") KX G (by k_is)
    have c3 := PySem.W.mg_of (n := "MOST_AMOUNTS") KX G (by k_is)
    have c4 := PySem.W.mg_of (n := "MOST_TOTAL") KX G (by k_is)
    have c5 := PySem.W.mg_of (n := "MOST_WEIGHT") KX G (by k_is)
    have mG := PySem.W.mg_of (n := "gcd") KX G (by k_is)
    have n_abs := PySem.W.mg_none_of (n := "abs") KX G (by k_is)
    have n_int := PySem.W.mg_none_of (n := "int") KX G (by k_is)
    have n_len := PySem.W.mg_none_of (n := "len") KX G (by k_is)
    have n_sum := PySem.W.mg_none_of (n := "sum") KX G (by k_is)
    have n_range := PySem.W.mg_none_of (n := "range") KX G (by k_is)
    have n_tuple := PySem.W.mg_none_of (n := "tuple") KX G (by k_is)
    have n_isinstance := PySem.W.mg_none_of (n := "isinstance") KX G (by k_is)
    have n_list := PySem.W.mg_none_of (n := "list") KX G (by k_is)
    have n_str := PySem.W.mg_none_of (n := "str") KX G (by k_is)
    have n_bool := PySem.W.mg_none_of (n := "bool") KX G (by k_is)
    have n_min := PySem.W.mg_none_of (n := "min") KX G (by k_is)
    have n_all := PySem.W.mg_none_of (n := "all") KX G (by k_is)
    exact K37.all_mk hmg d7 d8 d9 d10 d11 d12 d14 d15 d22 d23 d24 d25 d26 d27 d29 d30 d31 d32 d33 d34 d36 d37 d39 mG ⟨_, c1⟩ ⟨_, c2⟩ ⟨_, c3⟩ ⟨_, c4⟩ ⟨_, c5⟩ n_abs n_int n_len n_sum n_range n_tuple n_isinstance n_list n_str n_bool n_min n_all
