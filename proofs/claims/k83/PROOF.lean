import PyProof.Rows.All
import Wide.All
import OpenK.AllK
import Wide.FinOn
import HandS.ForMost
import HandS.ForExc
import HandS.IsInst
import HandS.TupAny
import HandS.TupMul
import HandS.Wide
import HandS.Zip
import HandS.Conv
import HandS.Small
import HandS.TryMany
import HandS.ExcInit
import HandS.Walk
import HandS.DictTup
import KE.SortData
import KE.KExcSuper
import KE.GoesEnum
import KE.GoesDict
import KE.GoesNewDict
import HandS.SortInts
import KE.KDictDisplayH
import PySem.Challenge.RW_fullorring_k83_whole_families_counted
set_option Elab.async false
set_option linter.all false
set_option maxRecDepth 100000
set_option maxHeartbeats 4000000
/-! Plain mathematics of the law, part 1: finite sums, binomials, the operator. -/
namespace Fo

/-- the sum of f k over k < n -/
def sm : Nat → (Nat → Int) → Int
  | 0, _ => 0
  | n + 1, f => sm n f + f n

theorem sm_zero (f : Nat → Int) : sm 0 f = 0 := rfl
theorem sm_succ (n : Nat) (f : Nat → Int) : sm (n + 1) f = sm n f + f n := rfl

theorem sm_congr {n : Nat} {f g : Nat → Int} (h : ∀ k, k < n → f k = g k) : sm n f = sm n g := by
  induction n with
  | zero => rfl
  | succ n ih =>
    rw [sm_succ, sm_succ, ih fun k hk => h k (Nat.lt_succ_of_lt hk), h n (Nat.lt_succ_self n)]

theorem sm_nil {n : Nat} {f : Nat → Int} (h : ∀ k, k < n → f k = 0) : sm n f = 0 := by
  induction n with
  | zero => rfl
  | succ n ih => rw [sm_succ, ih fun k hk => h k (Nat.lt_succ_of_lt hk), h n (Nat.lt_succ_self n)]; rfl

theorem sm_plus (n : Nat) (f g : Nat → Int) : sm n (fun k => f k + g k) = sm n f + sm n g := by
  induction n with
  | zero => rfl
  | succ n ih => simp only [sm_succ, ih]; omega

theorem sm_minus (n : Nat) (f g : Nat → Int) : sm n (fun k => f k - g k) = sm n f - sm n g := by
  induction n with
  | zero => rfl
  | succ n ih => simp only [sm_succ, ih]; omega

theorem sm_scale (n : Nat) (c : Int) (f : Nat → Int) : sm n (fun k => c * f k) = c * sm n f := by
  induction n with
  | zero => exact (Int.mul_zero c).symm
  | succ n ih => simp only [sm_succ, ih, Int.mul_add]

theorem sm_neg (n : Nat) (f : Nat → Int) : sm n (fun k => - f k) = - sm n f := by
  induction n with
  | zero => rfl
  | succ n ih => simp only [sm_succ, ih]; omega

theorem sm_head (n : Nat) (f : Nat → Int) : sm (n + 1) f = f 0 + sm n (fun k => f (k + 1)) := by
  induction n with
  | zero => simp only [sm_succ, sm_zero]; omega
  | succ n ih => rw [sm_succ, ih, sm_succ]; omega

theorem sm_more {n N : Nat} {f : Nat → Int} (h : n ≤ N) (hz : ∀ k, n ≤ k → k < N → f k = 0) : sm N f = sm n f := by
  induction N with
  | zero => cases Nat.le_zero.mp h; rfl
  | succ N ih =>
    by_cases e : n = N + 1
    · rw [e]
    · rw [sm_succ, ih (by omega) (fun k h1 h2 => hz k h1 (by omega)), hz N (by omega) (by omega), Int.add_zero]

/-- two sums in the other order -/
theorem sm_swap (n m : Nat) (f : Nat → Nat → Int) : sm n (fun i => sm m (fun j => f i j)) = sm m (fun j => sm n (fun i => f i j)) := by
  induction n with
  | zero => exact (sm_nil fun _ _ => rfl).symm
  | succ n ih =>
    rw [sm_succ, ih, ← sm_plus]
    rfl

/-- one item of a sum is another -/
theorem sm_one {N n : Nat} {f g : Nat → Int} (hn : n < N) (h : ∀ k, k ≠ n → f k = g k) : sm N f = sm N g + (f n - g n) := by
  induction N with
  | zero => omega
  | succ N ih =>
    rw [sm_succ, sm_succ]
    by_cases e : n = N
    · subst e
      rw [sm_congr (f := f) (g := g) fun k hk => h k (by omega)]
      omega
    · rw [ih (by omega), h N (fun z => e z.symm)]
      omega

/-- a sum from its end -/
theorem sm_back (n : Nat) (f : Nat → Int) : sm n (fun k => f (n - 1 - k)) = sm n f := by
  induction n with
  | zero => rfl
  | succ n ih =>
    rw [sm_head, sm_succ, ← ih]
    have e1 : f (n + 1 - 1 - 0) = f n := by congr 1
    have e2 : sm n (fun k => f (n + 1 - 1 - (k + 1))) = sm n (fun k => f (n - 1 - k)) := sm_congr fun k hk => by congr 1; omega
    rw [e1, e2]
    omega

/-! ### binomials, falling powers, factorials -/
def ch : Nat → Nat → Nat
  | _, 0 => 1
  | 0, _ + 1 => 0
  | n + 1, k + 1 => ch n k + ch n (k + 1)
/-- t (t - 1) .., k factors -/
def fl : Nat → Nat → Nat
  | _, 0 => 1
  | t, k + 1 => t * fl (t - 1) k
def fa : Nat → Nat
  | 0 => 1
  | n + 1 => (n + 1) * fa n

theorem ch_zero (n : Nat) : ch n 0 = 1 := by cases n <;> rfl
theorem ch_succ (n k : Nat) : ch (n + 1) (k + 1) = ch n k + ch n (k + 1) := rfl
theorem ch_above : ∀ {n k : Nat}, n < k → ch n k = 0
  | 0, 0, h => absurd h (Nat.lt_irrefl _)
  | 0, _ + 1, _ => rfl
  | n + 1, 0, h => absurd h (Nat.not_lt_zero _)
  | n + 1, k + 1, h => by rw [ch_succ, ch_above (by omega), ch_above (by omega)]
theorem ch_self : ∀ n : Nat, ch n n = 1
  | 0 => rfl
  | n + 1 => by rw [ch_succ, ch_self n, ch_above (Nat.lt_succ_self n)]
/-- (k + 1) C(n, k + 1) = (n - k) C(n, k) -/
theorem ch_step : ∀ n k : Nat, (k + 1) * ch n (k + 1) = (n - k) * ch n k
  | 0, k => by
    have e : ch 0 (k + 1) = 0 := rfl
    rw [e, Nat.zero_sub, Nat.mul_zero, Nat.zero_mul]
  | n + 1, 0 => by
    have h := ch_step n 0
    rw [Nat.zero_add, Nat.one_mul, ch_zero, Nat.sub_zero, Nat.mul_one] at h
    rw [ch_succ, ch_zero, ch_zero, Nat.zero_add, Nat.one_mul, Nat.mul_one, h]
    omega
  | n + 1, k + 1 => by
    have h1 := ch_step n k
    have h2 := ch_step n (k + 1)
    by_cases hk : k + 1 ≤ n
    · rw [ch_succ n (k + 1), ch_succ n k, Nat.mul_add]
      rw [h2]
      have e1 : (k + 1 + 1) * ch n (k + 1) = (k + 1) * ch n (k + 1) + ch n (k + 1) := Nat.succ_mul _ _
      rw [e1, h1]
      have e2 : n + 1 - (k + 1) = n - k := by omega
      have e3 : n - k = (n - (k + 1)) + 1 := by omega
      rw [e2, Nat.mul_add (n - k)]
      rw [show (n - k) * ch n (k + 1) = (n - (k + 1)) * ch n (k + 1) + ch n (k + 1) by rw [e3]; exact Nat.succ_mul _ _]
      omega
    · rw [ch_succ n (k + 1), ch_above (show n < k + 1 by omega), ch_above (show n < k + 1 + 1 by omega), Nat.mul_zero]
      have e : n + 1 - (k + 1) = 0 := by omega
      rw [e, Nat.zero_mul]

theorem fl_zero (t : Nat) : fl t 0 = 1 := by cases t <;> rfl
theorem fl_succ (t k : Nat) : fl t (k + 1) = t * fl (t - 1) k := rfl
theorem fl_above : ∀ {t k : Nat}, t < k → fl t k = 0
  | _, 0, h => absurd h (Nat.not_lt_zero _)
  | 0, k + 1, _ => by rw [fl_succ, Nat.zero_mul]
  | t + 1, k + 1, h => by rw [fl_succ, Nat.add_sub_cancel, fl_above (by omega), Nat.mul_zero]
/-- a further factor, at the end -/
theorem fl_last : ∀ t k : Nat, fl t (k + 1) = fl t k * (t - k)
  | t, 0 => by rw [fl_succ, fl_zero, fl_zero, Nat.mul_one, Nat.one_mul, Nat.sub_zero]
  | t, k + 1 => by
    rw [fl_succ t (k + 1), fl_last (t - 1) k, fl_succ t k, Nat.mul_assoc]
    congr 2
    omega
theorem fl_self : ∀ n : Nat, fl n n = fa n
  | 0 => rfl
  | n + 1 => by
    rw [fl_succ, Nat.add_sub_cancel, fl_self n]
    rfl
/-- t! = t (t - 1) .. (k factors) times (t - k)! -/
theorem fa_fl : ∀ {t k : Nat}, k ≤ t → fl t k * fa (t - k) = fa t
  | t, 0, _ => by rw [fl_zero, Nat.one_mul, Nat.sub_zero]
  | 0, k + 1, h => absurd h (Nat.not_succ_le_zero _)
  | t + 1, k + 1, h => by
    rw [fl_succ, Nat.add_sub_cancel, Nat.mul_assoc]
    have e : t + 1 - (k + 1) = t - k := by omega
    rw [e, fa_fl (by omega)]
    rfl
theorem fa_pos : ∀ n : Nat, 0 < fa n
  | 0 => Nat.one_pos
  | n + 1 => Nat.mul_pos (Nat.succ_pos n) (fa_pos n)

/-- how many ways so many of a family can draw names of their own -/
def own (s k : Nat) : Nat := ch s k * fl s k
theorem own_zero (s : Nat) : own s 0 = 1 := by unfold own; rw [ch_zero, fl_zero]
theorem own_step (s k : Nat) : own s k * (s - k) * (s - k) = (k + 1) * own s (k + 1) := by
  unfold own
  have h1 := ch_step s k
  have h2 := fl_last s k
  rw [h2]
  calc ch s k * fl s k * (s - k) * (s - k) = ((s - k) * ch s k) * (fl s k * (s - k)) := by
        rw [Nat.mul_assoc (ch s k * fl s k), Nat.mul_comm (s - k) (ch s k)]
        simp only [Nat.mul_assoc, Nat.mul_left_comm, Nat.mul_comm]
    _ = ((k + 1) * ch s (k + 1)) * (fl s k * (s - k)) := by rw [h1]
    _ = _ := by simp only [Nat.mul_assoc]
theorem own_div (s k : Nat) : own s k * (s - k) * (s - k) / (k + 1) = own s (k + 1) := by
  rw [own_step, Nat.mul_div_cancel_left _ (Nat.succ_pos k)]

/-- 1, -1, 1, .. -/
def sg : Nat → Int
  | 0 => 1
  | k + 1 => - sg k
theorem sg_succ (k : Nat) : sg (k + 1) = - sg k := rfl
theorem sg_add : ∀ i j : Nat, sg (i + j) = sg i * sg j
  | i, 0 => by rw [Nat.add_zero]; exact (Int.mul_one _).symm
  | i, j + 1 => by
    rw [← Nat.add_assoc, sg_succ, sg_add i j, sg_succ, Int.mul_neg]
theorem sg_even : ∀ {k : Nat}, k % 2 = 0 → sg k = 1
  | 0, _ => rfl
  | 1, h => absurd h (by decide)
  | k + 2, h => by
    rw [sg_succ, sg_succ, Int.neg_neg]
    exact sg_even (by omega)
theorem sg_odd : ∀ {k : Nat}, k % 2 = 1 → sg k = -1
  | 0, h => absurd h (by decide)
  | 1, _ => rfl
  | k + 2, h => by
    rw [sg_succ, sg_succ, Int.neg_neg]
    exact sg_odd (by omega)

/-! ### the operator of p people and t things of a kind -/
def cf (p t k : Nat) : Int := sg k * ((ch p k * fl t k : Nat) : Int)
def Op (p t : Nat) (g : Nat → Int) : Nat → Int := fun m => sm (p + 1) fun k => cf p t k * g (m + k)

theorem Op_def (p t : Nat) (g : Nat → Int) (m : Nat) : Op p t g m = sm (p + 1) fun k => cf p t k * g (m + k) := rfl
theorem Op_congr {p t : Nat} {g g' : Nat → Int} {m : Nat} (h : ∀ k, k ≤ p → g (m + k) = g' (m + k)) : Op p t g m = Op p t g' m := by
  rw [Op_def, Op_def]
  exact sm_congr fun k hk => by rw [h k (by omega)]
theorem Op_plus (p t : Nat) (g g' : Nat → Int) (m : Nat) : Op p t (fun x => g x + g' x) m = Op p t g m + Op p t g' m := by
  simp only [Op_def, ← sm_plus, Int.mul_add]
theorem Op_minus (p t : Nat) (g g' : Nat → Int) (m : Nat) : Op p t (fun x => g x - g' x) m = Op p t g m - Op p t g' m := by
  simp only [Op_def, ← sm_minus, Int.mul_sub]
theorem Op_scale (p t : Nat) (c : Int) (g : Nat → Int) (m : Nat) : Op p t (fun x => c * g x) m = c * Op p t g m := by
  simp only [Op_def, ← sm_scale]
  exact sm_congr fun k _ => Int.mul_left_comm _ _ _
theorem Op_shift (p t : Nat) (g : Nat → Int) (m : Nat) : Op p t (fun x => g (x + 1)) m = Op p t g (m + 1) := by
  simp only [Op_def]
  exact sm_congr fun k _ => by rw [show m + k + 1 = m + 1 + k by omega]
/-- two operators in the other order -/
theorem Op_swap (p t q u : Nat) (g : Nat → Int) (m : Nat) : Op p t (Op q u g) m = Op q u (Op p t g) m := by
  simp only [Op_def, ← sm_scale]
  rw [sm_swap]
  refine sm_congr fun j _ => sm_congr fun k _ => ?_
  rw [show m + k + j = m + j + k by omega]
  exact Int.mul_left_comm _ _ _
/-- one person of the kind taken out -/
theorem Op_less (p t : Nat) (g : Nat → Int) (m : Nat) : Op (p + 1) t g m = Op p t g m - (t : Int) * Op p (t - 1) (fun x => g (x + 1)) m := by
  simp only [Op_def]
  rw [← sm_scale]
  have e1 : sm (p + 1 + 1) (fun k => cf (p + 1) t k * g (m + k)) = cf (p + 1) t 0 * g (m + 0) + sm (p + 1) (fun k => cf (p + 1) t (k + 1) * g (m + (k + 1))) := sm_head _ _
  have e2 : sm (p + 1) (fun k => cf p t k * g (m + k)) = sm (p + 1 + 1) (fun k => cf p t k * g (m + k)) := (sm_more (Nat.le_succ _) fun k h1 h2 => by
    have : cf p t k = 0 := by
      unfold cf
      rw [ch_above (by omega), Nat.zero_mul]
      exact Int.mul_zero _
    rw [this, Int.zero_mul]).symm
  rw [e2, sm_head (p + 1) (fun k => cf p t k * g (m + k)), e1]
  have e3 : cf (p + 1) t 0 = cf p t 0 := by unfold cf; rw [ch_zero, ch_zero]
  have key : ∀ k : Nat, cf (p + 1) t (k + 1) * g (m + (k + 1)) = cf p t (k + 1) * g (m + (k + 1)) - (t : Int) * (cf p (t - 1) k * g (m + k + 1)) := fun k => by
    have c : cf (p + 1) t (k + 1) = cf p t (k + 1) - (t : Int) * cf p (t - 1) k := by
      unfold cf
      rw [ch_succ, fl_succ, sg_succ, Nat.add_mul, Int.natCast_add, Int.mul_add]
      have a1 : ((ch p k * (t * fl (t - 1) k) : Nat) : Int) = (t : Int) * ((ch p k * fl (t - 1) k : Nat) : Int) := by
        rw [← Int.natCast_mul]
        congr 1
        exact Nat.mul_left_comm _ _ _
      rw [a1, Int.neg_mul, Int.neg_mul, Int.mul_left_comm (sg k)]
      omega
    rw [c, Int.sub_mul, Int.mul_assoc, show m + (k + 1) = m + k + 1 by omega]
  rw [e3, sm_congr fun k _ => key k, sm_minus]
  omega

/-- the operators of several kinds -/
def A : List (Nat × Nat) → (Nat → Int) → Nat → Int
  | [], f => f
  | x :: r, f => Op x.1 x.2 (A r f)
theorem A_nil (f : Nat → Int) : A [] f = f := rfl
theorem A_cons (x : Nat × Nat) (r : List (Nat × Nat)) (f : Nat → Int) : A (x :: r) f = Op x.1 x.2 (A r f) := rfl
theorem A_snoc : ∀ (l : List (Nat × Nat)) (x : Nat × Nat) (f : Nat → Int), A (l ++ [x]) f = A l (Op x.1 x.2 f)
  | [], _, _ => rfl
  | y :: r, x, f => by
    show Op y.1 y.2 (A (r ++ [x]) f) = Op y.1 y.2 (A r (Op x.1 x.2 f))
    rw [A_snoc r x f]
theorem A_perm {l l' : List (Nat × Nat)} (h : l.Perm l') (f : Nat → Int) : A l f = A l' f := by
  induction h with
  | nil => rfl
  | cons x _ ih => rw [A_cons, A_cons, ih]
  | swap x y r =>
    simp only [A_cons]
    funext m
    exact Op_swap _ _ _ _ _ m
  | trans _ _ a b => exact a.trans b
/-- what the operators read -/
def reach (l : List (Nat × Nat)) : Nat := (l.map (·.1)).sum
theorem reach_cons (x : Nat × Nat) (r : List (Nat × Nat)) : reach (x :: r) = x.1 + reach r := by
  unfold reach
  rw [List.map_cons, List.sum_cons]
theorem A_congr : ∀ {l : List (Nat × Nat)} {f f' : Nat → Int} {m : Nat}, (∀ k, k ≤ reach l → f (m + k) = f' (m + k)) → A l f m = A l f' m
  | [], f, f', m, h => h 0 (Nat.zero_le _)
  | x :: r, f, f', m, h => by
    rw [A_cons, A_cons]
    refine Op_congr fun k hk => A_congr fun j hj => ?_
    have := h (k + j) (by rw [reach_cons]; omega)
    rw [show m + k + j = m + (k + j) by omega]
    exact this
theorem A_scale : ∀ (l : List (Nat × Nat)) (c : Int) (f : Nat → Int) (m : Nat), A l (fun x => c * f x) m = c * A l f m
  | [], _, _, _ => rfl
  | x :: r, c, f, m => by
    rw [A_cons, A_cons]
    have e : A r (fun x => c * f x) = fun y => c * A r f y := funext fun y => A_scale r c f y
    rw [e, Op_scale]
theorem A_minus : ∀ (l : List (Nat × Nat)) (f g : Nat → Int) (m : Nat), A l (fun x => f x - g x) m = A l f m - A l g m
  | [], _, _, _ => rfl
  | x :: r, f, g, m => by
    rw [A_cons, A_cons, A_cons]
    have e : A r (fun x => f x - g x) = fun y => A r f y - A r g y := funext fun y => A_minus r f g y
    rw [e, Op_minus]
theorem A_shift : ∀ (l : List (Nat × Nat)) (f : Nat → Int) (m : Nat), A l (fun x => f (x + 1)) m = A l f (m + 1)
  | [], _, _ => rfl
  | x :: r, f, m => by
    rw [A_cons, A_cons]
    have e : A r (fun x => f (x + 1)) = fun y => A r f (y + 1) := funext fun y => A_shift r f y
    rw [e, Op_shift]
end Fo

/-! Plain mathematics, part 2: one family that is half or more; the table's ways as lists of numbers. -/
namespace Fo

/-! ### differences -/
def Dn : Nat → (Nat → Int) → Nat → Int
  | 0, g, x => g x
  | s + 1, g, x => Dn s g (x + 1) - Dn s g x
theorem Dn_congr : ∀ {s : Nat} {g g' : Nat → Int} (_ : ∀ x, g x = g' x) (x : Nat), Dn s g x = Dn s g' x
  | 0, _, _, h, x => h x
  | s + 1, _, _, h, x => by
    show Dn s _ (x + 1) - Dn s _ x = Dn s _ (x + 1) - Dn s _ x
    rw [Dn_congr h (x + 1), Dn_congr h x]
theorem Dn_scale : ∀ (s : Nat) (c : Int) (g : Nat → Int) (x : Nat), Dn s (fun y => c * g y) x = c * Dn s g x
  | 0, _, _, _ => rfl
  | s + 1, c, g, x => by
    show Dn s _ (x + 1) - Dn s _ x = c * (Dn s g (x + 1) - Dn s g x)
    rw [Dn_scale s c g (x + 1), Dn_scale s c g x, Int.mul_sub]
theorem Dn_in : ∀ (s : Nat) (g : Nat → Int) (x : Nat), Dn (s + 1) g x = Dn s (fun y => g (y + 1) - g y) x
  | 0, _, _ => rfl
  | s + 1, g, x => by
    show Dn (s + 1) g (x + 1) - Dn (s + 1) g x = Dn s (fun y => g (y + 1) - g y) (x + 1) - Dn s (fun y => g (y + 1) - g y) x
    rw [Dn_in s g (x + 1), Dn_in s g x]
/-- the s-th difference, written out -/
theorem Dn_sum : ∀ (s : Nat) (g : Nat → Int) (x : Nat), Dn s g x = sm (s + 1) fun k => sg k * (ch s k : Int) * g (x + (s - k))
  | 0, g, x => by
    show g x = 0 + sg 0 * ((ch 0 0 : Nat) : Int) * g (x + (0 - 0))
    rw [show ((ch 0 0 : Nat) : Int) = 1 from rfl, show sg 0 = 1 from rfl]
    simp
  | s + 1, g, x => by
    show Dn s g (x + 1) - Dn s g x = _
    rw [Dn_sum s g (x + 1), Dn_sum s g x]
    have e1 : sm (s + 1) (fun k => sg k * (ch s k : Int) * g (x + 1 + (s - k))) = sm (s + 1 + 1) (fun k => sg k * (ch s k : Int) * g (x + (s + 1 - k))) := by
      rw [sm_succ (s + 1), ch_above (Nat.lt_succ_self s)]
      rw [show sg (s + 1) * ((0 : Nat) : Int) * g (x + (s + 1 - (s + 1))) = 0 by simp, Int.add_zero]
      exact sm_congr fun k hk => by rw [show x + 1 + (s - k) = x + (s + 1 - k) by omega]
    rw [e1, sm_head (s + 1), sm_head (s + 1)]
    have e2 : ∀ k, sg (k + 1) * ((ch (s + 1) (k + 1) : Nat) : Int) * g (x + (s + 1 - (k + 1))) = sg (k + 1) * (ch s (k + 1) : Int) * g (x + (s + 1 - (k + 1))) - sg k * (ch s k : Int) * g (x + (s - k)) := fun k => by
      rw [ch_succ, Int.natCast_add, show s + 1 - (k + 1) = s - k by omega, Int.mul_add, Int.add_mul, sg_succ, Int.neg_mul, Int.neg_mul]
      omega
    rw [sm_congr (f := fun k => sg (k + 1) * ((ch (s + 1) (k + 1) : Nat) : Int) * g (x + (s + 1 - (k + 1)))) fun k _ => e2 k, sm_minus, ch_zero, ch_zero]
    omega
/-- (x + 1) (x + 2) .., j factors -/
def ri : Nat → Nat → Nat
  | _, 0 => 1
  | x, j + 1 => (x + 1) * ri (x + 1) j
theorem ri_last : ∀ x j : Nat, ri x (j + 1) = ri x j * (x + j + 1)
  | x, 0 => by
    show (x + 1) * 1 = 1 * (x + 0 + 1)
    omega
  | x, j + 1 => by
    show (x + 1) * ri (x + 1) (j + 1) = ((x + 1) * ri (x + 1) j) * (x + (j + 1) + 1)
    rw [ri_last (x + 1) j, Nat.mul_assoc]
    congr 2
    omega
theorem ri_fa : ∀ x j : Nat, fa x * ri x j = fa (x + j)
  | x, 0 => by
    show fa x * 1 = fa (x + 0)
    rw [Nat.mul_one, Nat.add_zero]
  | x, j + 1 => by
    show fa x * ((x + 1) * ri (x + 1) j) = fa (x + (j + 1))
    rw [show x + (j + 1) = x + 1 + j by omega, ← ri_fa (x + 1) j, ← Nat.mul_assoc, Nat.mul_comm (fa x)]
    rfl
theorem ri_diff (a j x : Nat) : ((ri (x + 1 + a) (j + 1) : Nat) : Int) - ((ri (x + a) (j + 1) : Nat) : Int) = ((j + 1 : Nat) : Int) * ((ri (x + (a + 1)) j : Nat) : Int) := by
  have h1 : ri (x + 1 + a) (j + 1) = ri (x + (a + 1)) j * (x + a + 1 + (j + 1)) := by
    rw [ri_last, show x + 1 + a = x + (a + 1) by omega]
    congr 1
  have h2 : ri (x + a) (j + 1) = ri (x + (a + 1)) j * (x + a + 1) := by
    show (x + a + 1) * ri (x + a + 1) j = _
    rw [Nat.mul_comm]
    rfl
  rw [h1, h2, Nat.mul_add, Int.natCast_add, Nat.mul_comm (ri (x + (a + 1)) j) (j + 1), Int.natCast_mul (j + 1)]
  omega
theorem Dn_ri : ∀ (s j a x : Nat), Dn s (fun y => ((ri (y + a) j : Nat) : Int)) x = ((fl j s : Nat) : Int) * ((ri (x + (a + s)) (j - s) : Nat) : Int)
  | 0, j, a, x => by
    show ((ri (x + a) j : Nat) : Int) = _
    rw [fl_zero, Nat.sub_zero, Nat.add_zero]
    simp
  | s + 1, 0, a, x => by
    rw [Dn_in]
    have e : ∀ y, (fun y => ((ri (y + 1 + a) 0 : Nat) : Int) - ((ri (y + a) 0 : Nat) : Int)) y = 0 * 0 := fun y => by
      show ((1 : Nat) : Int) - ((1 : Nat) : Int) = 0 * 0
      rfl
    rw [Dn_congr e, Dn_scale s 0 (fun _ => 0), fl_succ, Nat.zero_mul]
    simp
  | s + 1, j + 1, a, x => by
    rw [Dn_in]
    rw [Dn_congr (fun y => ri_diff a j y), Dn_scale, Dn_ri s j (a + 1) x, fl_succ, Nat.add_sub_cancel, Int.natCast_mul, Int.mul_assoc]
    rw [show a + 1 + s = a + (s + 1) by omega, show j + 1 - (s + 1) = j - s by omega]

/-- the factorials left behind n - m things -/
def lf (n : Nat) : Nat → Int := fun m => ((fa (n - m) : Nat) : Int)

/-- one family of s, s + j things left: none for j < s, and for j = s .. -/
theorem Op_lf (s n m : Nat) (h : m + s ≤ n) : Op s s (lf n) m = ((fa s * (fl (n - m - s) s * ri s (n - m - s - s)) : Nat) : Int) := by
  have hj : ∃ j, n - m = s + j := ⟨n - m - s, by omega⟩
  obtain ⟨j, hj⟩ := hj
  rw [show n - m - s = j by omega]
  have e : ∀ k, k < s + 1 → cf s s k * lf n (m + k) = ((fa s : Nat) : Int) * (sg k * (ch s k : Int) * ((ri (0 + (s - k) + 0) j : Nat) : Int)) := fun k hk => by
    unfold cf lf
    have e1 : n - (m + k) = (s - k) + j := by omega
    rw [e1, ← ri_fa (s - k) j, Nat.zero_add, Nat.add_zero]
    have e2 := fa_fl (show k ≤ s by omega)
    rw [← e2]
    simp only [Int.natCast_mul]
    simp only [Int.mul_assoc, Int.mul_left_comm, Int.mul_comm]
  rw [Op_def, sm_congr e, sm_scale]
  have d := Dn_sum s (fun y => ((ri (y + 0) j : Nat) : Int)) 0
  rw [← d, Dn_ri]
  simp only [Int.natCast_mul, Nat.zero_add]
theorem Op_lf_none {s n m : Nat} (h : m + s ≤ n) (h2 : n < m + 2 * s) : Op s s (lf n) m = 0 := by
  rw [Op_lf s n m h, fl_above (show n - m - s < s by omega), Nat.zero_mul, Nat.mul_zero]
  rfl
theorem Op_lf_half {s n m : Nat} (h : n = m + 2 * s) : Op s s (lf n) m = ((fa s * fa s : Nat) : Int) := by
  rw [Op_lf s n m (by omega), show n - m - s = s by omega, fl_self, Nat.sub_self]
  show ((fa s * (fa s * 1) : Nat) : Int) = _
  rw [Nat.mul_one]

/-- a function that is c at m, and 0 at the numbers above it that are read -/
theorem A_single : ∀ (l : List (Nat × Nat)) (f : Nat → Int) (m : Nat), (∀ k, 0 < k → k ≤ reach l → f (m + k) = 0) → A l f m = f m
  | [], _, _, _ => rfl
  | x :: r, f, m, h => by
    rw [A_cons, Op_def, sm_head]
    have e0 : A r f (m + 0) = f m := by
      rw [Nat.add_zero]
      exact A_single r f m fun k h1 h2 => h k h1 (by rw [reach_cons]; omega)
    have e1 : ∀ k, k < x.1 → cf x.1 x.2 (k + 1) * A r f (m + (k + 1)) = 0 := fun k hk => by
      have z : A r f (m + (k + 1)) = f (m + (k + 1)) := A_single r f (m + (k + 1)) fun j h1 h2 => by
        rw [show m + (k + 1) + j = m + (k + 1 + j) by omega]
        exact h _ (by omega) (by rw [reach_cons]; omega)
      rw [z, h (k + 1) (by omega) (by rw [reach_cons]; omega), Int.mul_zero]
    rw [e0, sm_nil e1]
    have c0 : cf x.1 x.2 0 = 1 := by
      unfold cf
      rw [ch_zero, fl_zero]
      rfl
    rw [c0]
    omega

/-- families by their sizes -/
def dbl (sizes : List Nat) : List (Nat × Nat) := sizes.map fun s => (s, s)
theorem reach_dbl (sizes : List Nat) : reach (dbl sizes) = sizes.sum := by
  unfold reach dbl
  rw [List.map_map]
  congr 1
  exact (List.map_congr_left fun _ _ => rfl).trans (List.map_id sizes)
/-- THE NUMBER of dealings of families, by all orders, less and more -/
def Tn (sizes : List Nat) : Int := A (dbl sizes) (lf sizes.sum) 0
theorem dbl_cons (s : Nat) (r : List Nat) : dbl (s :: r) = (s, s) :: dbl r := rfl
theorem dbl_append (a b : List Nat) : dbl (a ++ b) = dbl a ++ dbl b := List.map_append
theorem Tn_perm {a b : List Nat} (h : a.Perm b) : Tn a = Tn b := by
  have e : A (dbl a) (lf a.sum) = A (dbl b) (lf a.sum) := A_perm (h.map _) _
  unfold Tn
  rw [e, h.sum_nat]
/-- one family is just half -/
theorem Tn_half {sizes parts : List Nat} (h : sizes.Perm (parts ++ [parts.sum])) : Tn sizes = ((fa parts.sum * fa parts.sum : Nat) : Int) := by
  rw [Tn_perm h]
  unfold Tn
  rw [dbl_append, show dbl [parts.sum] = [(parts.sum, parts.sum)] from rfl, A_snoc]
  have e : (parts ++ [parts.sum]).sum = 0 + 2 * parts.sum := by
    rw [List.sum_append]
    show parts.sum + (parts.sum + 0) = _
    omega
  rw [A_single, Op_lf_half (by omega)]
  intro k h1 h2
  rw [reach_dbl] at h2
  exact Op_lf_none (by omega) (by omega)
/-- one family is more than half -/
theorem Tn_more {parts : List Nat} {b : Nat} (hb : parts.sum < b) : Tn (parts ++ [b]) = 0 := by
  unfold Tn
  rw [dbl_append, show dbl [b] = [(b, b)] from rfl, A_snoc]
  have e : (parts ++ [b]).sum = parts.sum + b := by
    rw [List.sum_append]
    show parts.sum + (b + 0) = _
    omega
  have z : ∀ k, k ≤ parts.sum → Op b b (lf (parts ++ [b]).sum) (0 + k) = 0 := fun k hk => Op_lf_none (by omega) (by omega)
  rw [A_single]
  · exact z 0 (Nat.zero_le _)
  · intro k h1 h2
    rw [reach_dbl] at h2
    exact z k h2

/-! ### the ways as lists -/
/-- x added at a place -/
def addAt (l : List Int) (n : Nat) (x : Int) : List Int := l.set n (l.getD n 0 + x)
theorem addAt_length (l : List Int) (n : Nat) (x : Int) : (addAt l n x).length = l.length := List.length_set
def addRow (o : List Int) (i : Nat) (x : Int) (acc : List Int) : Nat → List Int
  | 0 => acc
  | j + 1 => addAt (addRow o i x acc j) (i + j) (x * o.getD j 0)
theorem addRow_length (o : List Int) (i : Nat) (x : Int) (acc : List Int) : ∀ j, (addRow o i x acc j).length = acc.length
  | 0 => rfl
  | j + 1 => by
    show (addAt _ _ _).length = _
    rw [addAt_length, addRow_length o i x acc j]
def addRows (w o acc : List Int) : Nat → List Int
  | 0 => acc
  | i + 1 => addRow o i (w.getD i 0) (addRows w o acc i) o.length
theorem addRows_length (w o acc : List Int) : ∀ i, (addRows w o acc i).length = acc.length
  | 0 => rfl
  | i + 1 => by
    show (addRow _ _ _ _ _).length = _
    rw [addRow_length, addRows_length w o acc i]
def mulL (w o : List Int) : List Int := addRows w o (List.replicate (w.length + (o.length - 1)) 0) w.length
theorem mulL_length (w o : List Int) : (mulL w o).length = w.length + (o.length - 1) := by
  unfold mulL
  rw [addRows_length, List.length_replicate]
/-- a list weighed by signs and a function -/
def Phi (w : List Int) (f : Nat → Int) : Int := sm w.length fun m => sg m * w.getD m 0 * f m
theorem getD_set_self {l : List Int} {n : Nat} {x : Int} (h : n < l.length) : (l.set n x).getD n 0 = x := by
  rw [List.getD_eq_getElem?_getD, List.getElem?_set_self h]
  rfl
theorem getD_set_ne {l : List Int} {n m : Nat} {x : Int} (h : m ≠ n) : (l.set n x).getD m 0 = l.getD m 0 := by
  rw [List.getD_eq_getElem?_getD, List.getD_eq_getElem?_getD, List.getElem?_set_ne (Ne.symm h)]
theorem Phi_addAt {l : List Int} {n : Nat} (x : Int) (f : Nat → Int) (h : n < l.length) : Phi (addAt l n x) f = Phi l f + sg n * x * f n := by
  unfold Phi
  rw [addAt_length]
  rw [sm_one (g := fun m => sg m * l.getD m 0 * f m) h fun k hk => by
    show sg k * (addAt l n x).getD k 0 * f k = sg k * l.getD k 0 * f k
    unfold addAt
    rw [getD_set_ne hk]]
  congr 1
  show sg n * (addAt l n x).getD n 0 * f n - sg n * l.getD n 0 * f n = _
  unfold addAt
  rw [getD_set_self h, Int.mul_add, Int.add_mul]
  omega
theorem Phi_addRow {o acc : List Int} {i : Nat} (x : Int) (f : Nat → Int) : ∀ {j : Nat}, i + j ≤ acc.length → Phi (addRow o i x acc j) f = Phi acc f + sg i * x * sm j (fun k => sg k * o.getD k 0 * f (i + k))
  | 0, _ => by
    show Phi acc f = Phi acc f + sg i * x * 0
    rw [Int.mul_zero, Int.add_zero]
  | j + 1, h => by
    show Phi (addAt (addRow o i x acc j) (i + j) (x * o.getD j 0)) f = _
    rw [Phi_addAt _ f (by rw [addRow_length]; omega), Phi_addRow x f (j := j) (by omega), sm_succ, Int.mul_add, ← Int.add_assoc]
    congr 1
    rw [sg_add]
    simp only [Int.mul_assoc, Int.mul_left_comm, Int.mul_comm]
theorem Phi_addRows {w o acc : List Int} (f : Nat → Int) : ∀ {i : Nat}, i + (o.length - 1) ≤ acc.length → 0 < o.length → Phi (addRows w o acc i) f = Phi acc f + sm i (fun m => sg m * w.getD m 0 * sm o.length (fun k => sg k * o.getD k 0 * f (m + k)))
  | 0, _, _ => by
    show Phi acc f = Phi acc f + 0
    rw [Int.add_zero]
  | i + 1, h, ho => by
    show Phi (addRow o i (w.getD i 0) (addRows w o acc i) o.length) f = _
    rw [Phi_addRow _ f (by rw [addRows_length]; omega), Phi_addRows f (i := i) (by omega) ho, sm_succ, Int.add_assoc]
theorem Phi_zero (n : Nat) (f : Nat → Int) : Phi (List.replicate n 0) f = 0 := by
  unfold Phi
  refine sm_nil fun k _ => ?_
  have e : (List.replicate n (0 : Int)).getD k 0 = 0 := by
    rw [List.getD_eq_getElem?_getD, List.getElem?_replicate]
    by_cases h : k < n
    · rw [if_pos h]
      rfl
    · rw [if_neg h]
      rfl
  rw [e, Int.mul_zero, Int.zero_mul]
theorem Phi_mul {w o : List Int} (ho : 0 < o.length) (f : Nat → Int) : Phi (mulL w o) f = Phi w (fun m => sm o.length (fun k => sg k * o.getD k 0 * f (m + k))) := by
  unfold mulL
  rw [Phi_addRows f (by rw [List.length_replicate]; omega) ho, Phi_zero, Int.zero_add]
  rfl

/-- own_names -/
def ownL (s : Nat) : List Int := (List.range (s + 1)).map fun k => ((own s k : Nat) : Int)
theorem ownL_length (s : Nat) : (ownL s).length = s + 1 := by
  unfold ownL
  rw [List.length_map, List.length_range]
theorem ownL_get {s k : Nat} (h : k ≤ s) : (ownL s).getD k 0 = ((own s k : Nat) : Int) := by
  unfold ownL
  rw [List.getD_eq_getElem?_getD, List.getElem?_map, List.getElem?_range (by omega)]
  rfl
theorem Phi_own (s : Nat) (f : Nat → Int) (m : Nat) : sm (ownL s).length (fun k => sg k * (ownL s).getD k 0 * f (m + k)) = Op s s f m := by
  rw [ownL_length, Op_def]
  exact sm_congr fun k hk => by
    rw [ownL_get (by omega)]
    rfl
/-- the ways behind the first i families -/
def waysL (sizes : List Nat) : Nat → List Int
  | 0 => [1]
  | i + 1 => mulL (waysL sizes i) (ownL (sizes.getD i 0))
theorem Phi_ways (sizes : List Nat) : ∀ {i : Nat} (f : Nat → Int), i ≤ sizes.length → Phi (waysL sizes i) f = A (dbl (sizes.take i)) f 0
  | 0, f, _ => by
    show 0 + sg 0 * 1 * f 0 = A (dbl []) f 0
    show 0 + 1 * 1 * f 0 = f 0
    omega
  | i + 1, f, h => by
    show Phi (mulL (waysL sizes i) (ownL (sizes.getD i 0))) f = _
    rw [Phi_mul (by rw [ownL_length]; omega) f]
    have e : (fun m => sm (ownL (sizes.getD i 0)).length (fun k => sg k * (ownL (sizes.getD i 0)).getD k 0 * f (m + k))) = Op (sizes.getD i 0) (sizes.getD i 0) f := funext fun m => Phi_own _ f m
    rw [e, Phi_ways sizes _ (by omega)]
    have hi : i < sizes.length := by omega
    have e2 : sizes.take (i + 1) = sizes.take i ++ [sizes.getD i 0] := by
      rw [List.take_succ, List.getD_eq_getElem?_getD, List.getElem?_eq_getElem hi]
      rfl
    rw [e2, dbl_append, show dbl [sizes.getD i 0] = [(sizes.getD i 0, sizes.getD i 0)] from rfl, A_snoc]
theorem waysL_length (sizes : List Nat) : ∀ {i : Nat}, i ≤ sizes.length → (waysL sizes i).length = (sizes.take i).sum + 1
  | 0, _ => by
    show 1 = (([] : List Nat).sum) + 1
    rfl
  | i + 1, h => by
    show (mulL (waysL sizes i) (ownL (sizes.getD i 0))).length = _
    have hi : i < sizes.length := by omega
    have e2 : sizes.take (i + 1) = sizes.take i ++ [sizes.getD i 0] := by
      rw [List.take_succ, List.getD_eq_getElem?_getD, List.getElem?_eq_getElem hi]
      rfl
    rw [mulL_length, ownL_length, waysL_length sizes (i := i) (by omega), e2, List.sum_append]
    show _ = (sizes.take i).sum + (sizes.getD i 0 + 0) + 1
    omega
/-- the total, by the orders of what is left -/
def totL (w : List Int) : Nat → Int
  | 0 => 0
  | l + 1 => totL w l + sg (w.length - 1 - l) * w.getD (w.length - 1 - l) 0 * ((fa l : Nat) : Int)
theorem totL_sum (w : List Int) : ∀ l, totL w l = sm l fun k => sg (w.length - 1 - k) * w.getD (w.length - 1 - k) 0 * ((fa k : Nat) : Int)
  | 0 => rfl
  | l + 1 => by
    show totL w l + _ = _
    rw [totL_sum w l, sm_succ]
theorem totL_Phi (w : List Int) : totL w w.length = Phi w (lf (w.length - 1)) := by
  rw [totL_sum]
  unfold Phi
  rw [← sm_back w.length (fun m => sg m * w.getD m 0 * lf (w.length - 1) m)]
  refine sm_congr fun k hk => ?_
  unfold lf
  rw [show w.length - 1 - (w.length - 1 - k) = k by omega]
/-- what families_many reckons is THE NUMBER -/
theorem tot_is (sizes : List Nat) : totL (waysL sizes sizes.length) (waysL sizes sizes.length).length = Tn sizes := by
  rw [totL_Phi, waysL_length sizes (Nat.le_refl _), List.take_length, Nat.add_sub_cancel, Phi_ways sizes _ (Nat.le_refl _), List.take_length]
  rfl
end Fo

/-! Plain mathematics, part 3: people by kinds, one after another; the dealings listed one by one. -/
namespace Fo

theorem Op_rem (p t : Nat) (g : Nat → Int) (m : Nat) : (t : Int) * Op p (t - 1) g m = ((t : Int) + (m : Int)) * Op p t g m - Op p t (fun x => (x : Int) * g x) m := by
  simp only [Op_def]
  rw [← sm_scale, ← sm_scale, ← sm_minus]
  refine sm_congr fun k _ => ?_
  have key : (t : Int) * ((fl (t - 1) k : Nat) : Int) = ((t : Int) - (k : Int)) * ((fl t k : Nat) : Int) := by
    by_cases h : k ≤ t
    · have e := fl_last t k
      rw [fl_succ] at e
      rw [← Int.natCast_mul, e, Int.natCast_mul, Int.mul_comm]
      congr 1
      omega
    · rw [fl_above (show t < k by omega)]
      have e : t * fl (t - 1) k = 0 := by
        cases t with
        | zero => exact Nat.zero_mul _
        | succ t => rw [fl_above (by omega), Nat.mul_zero]
      rw [← Int.natCast_mul, e]
      simp
  have c : (t : Int) * cf p (t - 1) k = ((t : Int) - (k : Int)) * cf p t k := by
    unfold cf
    rw [Int.natCast_mul, Int.natCast_mul, Int.mul_left_comm, Int.mul_left_comm (t : Int), key]
    simp only [Int.mul_assoc, Int.mul_left_comm, Int.mul_comm]
  rw [← Int.mul_assoc, c]
  have e2 : ((m + k : Nat) : Int) = (m : Int) + (k : Int) := Int.natCast_add _ _
  rw [e2]
  have e3 : cf p t k * (((m : Int) + (k : Int)) * g (m + k)) = ((m : Int) + (k : Int)) * (cf p t k * g (m + k)) := Int.mul_left_comm _ _ _
  rw [e3, ← Int.sub_mul, Int.mul_assoc]
  congr 1
  omega

/-- one thing of each kind in turn taken out -/
def R : List (Nat × Nat) → (Nat → Int) → Nat → Int
  | [], _ => fun _ => 0
  | x :: r, f => fun m => (x.2 : Int) * A ((x.1, x.2 - 1) :: r) f m + Op x.1 x.2 (R r f) m
def tsum (z : List (Nat × Nat)) : Nat := (z.map (·.2)).sum
theorem tsum_cons (x : Nat × Nat) (r : List (Nat × Nat)) : tsum (x :: r) = x.2 + tsum r := by
  unfold tsum
  rw [List.map_cons, List.sum_cons]
theorem R_is : ∀ (z : List (Nat × Nat)) (f : Nat → Int) (m : Nat), R z f m = ((tsum z : Int) + (m : Int)) * A z f m - A z (fun x => (x : Int) * f x) m
  | [], f, m => by
    show (0 : Int) = ((0 : Nat) + (m : Int)) * f m - (m : Int) * f m
    simp
  | x :: r, f, m => by
    show (x.2 : Int) * Op x.1 (x.2 - 1) (A r f) m + Op x.1 x.2 (R r f) m = _
    have e : R r f = fun y => ((tsum r : Int) * A r f y + (y : Int) * A r f y) - A r (fun x => (x : Int) * f x) y := funext fun y => by
      rw [R_is r f y, Int.add_mul]
    rw [e, Op_minus, Op_plus, Op_scale, Op_rem, A_cons, A_cons, tsum_cons, Int.natCast_add]
    rw [Int.add_mul, Int.add_mul, Int.add_mul]
    omega
theorem R_sum : ∀ (z : List (Nat × Nat)) (f : Nat → Int) (m : Nat), R z f m = sm z.length fun i => ((z.getD i (0, 0)).2 : Int) * A (z.set i ((z.getD i (0, 0)).1, (z.getD i (0, 0)).2 - 1)) f m
  | [], _, _ => rfl
  | x :: r, f, m => by
    show (x.2 : Int) * A ((x.1, x.2 - 1) :: r) f m + Op x.1 x.2 (R r f) m = sm (r.length + 1) _
    rw [sm_head]
    congr 1
    have e : R r f = fun y => sm r.length fun i => ((r.getD i (0, 0)).2 : Int) * A (r.set i ((r.getD i (0, 0)).1, (r.getD i (0, 0)).2 - 1)) f y := funext fun y => R_sum r f y
    rw [e]
    have lin : ∀ (n : Nat) (G : Nat → Nat → Int), Op x.1 x.2 (fun y => sm n fun i => G i y) m = sm n fun i => Op x.1 x.2 (G i) m := fun n G => by
      induction n with
      | zero =>
        rw [Op_def]
        exact sm_nil fun k _ => Int.mul_zero _
      | succ n ih =>
        show Op x.1 x.2 (fun y => sm n (fun i => G i y) + G n y) m = sm n (fun i => Op x.1 x.2 (G i) m) + Op x.1 x.2 (G n) m
        rw [Op_plus, ih]
    rw [lin]
    refine sm_congr fun i _ => ?_
    rw [Op_scale]
    rfl
/-- one person of the kind k taken out -/
theorem A_less : ∀ (l₁ l₂ : List (Nat × Nat)) (p t : Nat) (f : Nat → Int) (m : Nat),
    A (l₁ ++ (p + 1, t) :: l₂) f m = A (l₁ ++ (p, t) :: l₂) f m - (t : Int) * A (l₁ ++ (p, t - 1) :: l₂) (fun x => f (x + 1)) m
  | [], l₂, p, t, f, m => by
    show Op (p + 1) t (A l₂ f) m = Op p t (A l₂ f) m - (t : Int) * Op p (t - 1) (A l₂ (fun x => f (x + 1))) m
    rw [Op_less]
    have e : A l₂ (fun x => f (x + 1)) = fun x => A l₂ f (x + 1) := funext fun y => A_shift l₂ f y
    rw [e]
  | x :: r, l₂, p, t, f, m => by
    show Op x.1 x.2 (A (r ++ (p + 1, t) :: l₂) f) m = Op x.1 x.2 (A (r ++ (p, t) :: l₂) f) m - (t : Int) * Op x.1 x.2 (A (r ++ (p, t - 1) :: l₂) (fun x => f (x + 1))) m
    have e : A (r ++ (p + 1, t) :: l₂) f = fun y => A (r ++ (p, t) :: l₂) f y - (t : Int) * A (r ++ (p, t - 1) :: l₂) (fun x => f (x + 1)) y := funext fun y => A_less r l₂ p t f y
    rw [e, Op_minus, Op_scale]

theorem sum_filter (p : Nat → Bool) (f : Nat → Int) : ∀ n : Nat, (((List.range n).filter p).map f).sum = sm n fun i => if p i = true then f i else 0
  | 0 => rfl
  | n + 1 => by
    rw [List.range_succ, List.filter_append, List.map_append, List.sum_append, sum_filter p f n, sm_succ]
    congr 1
    by_cases h : p n = true
    · rw [if_pos h, List.filter_cons, if_pos h]
      show f n + 0 = f n
      omega
    · rw [if_neg h, List.filter_cons, if_neg h]
      rfl

/-- the kinds of things that a kind of people may get, of m kinds of families -/
def oth (m k : Nat) : List Nat := (List.range m).filter fun i => i != k
/-- the ways to give things to people, told by their kinds -/
def W : List Nat → List Nat → Int
  | [], _ => 1
  | k :: r, t => ((oth t.length k).map fun i => ((t.getD i 0 : Nat) : Int) * W r (t.set i (t.getD i 0 - 1))).sum
theorem map_set_snd (z : List (Nat × Nat)) (i : Nat) (x : Nat × Nat) : (z.set i x).map (·.2) = (z.map (·.2)).set i x.2 := by
  rw [List.map_set]
theorem getD_snd (z : List (Nat × Nat)) (i : Nat) : (z.map (·.2)).getD i 0 = (z.getD i (0, 0)).2 := by
  rw [List.getD_eq_getElem?_getD, List.getD_eq_getElem?_getD, List.getElem?_map]
  cases z[i]? <;> rfl
theorem split_at {z : List (Nat × Nat)} {k : Nat} (h : k < z.length) (x : Nat × Nat) : z.set k x = z.take k ++ x :: z.drop (k + 1) := List.set_eq_take_append_cons_drop ▸ (by rw [if_pos h])
theorem self_at {z : List (Nat × Nat)} {k : Nat} (h : k < z.length) : z = z.take k ++ z.getD k (0, 0) :: z.drop (k + 1) := by
  rw [List.getD_eq_getElem?_getD, List.getElem?_eq_getElem h]
  show z = z.take k ++ z[k] :: z.drop (k + 1)
  rw [← List.drop_eq_getElem_cons h, List.take_append_drop]
theorem reach_at (l₁ l₂ : List (Nat × Nat)) (x : Nat × Nat) : reach (l₁ ++ x :: l₂) = reach l₁ + (x.1 + reach l₂) := by
  unfold reach
  rw [List.map_append, List.sum_append, List.map_cons, List.sum_cons]
theorem tsum_at (l₁ l₂ : List (Nat × Nat)) (x : Nat × Nat) : tsum (l₁ ++ x :: l₂) = tsum l₁ + (x.2 + tsum l₂) := by
  unfold tsum
  rw [List.map_append, List.sum_append, List.map_cons, List.sum_cons]
theorem lf_step {n x : Nat} (h : x ≤ n) : ((n + 1 : Nat) : Int) * lf n x - (x : Int) * lf n x = lf (n + 1) x := by
  unfold lf
  rw [← Int.sub_mul, show n + 1 - x = (n - x) + 1 by omega]
  show _ = (((n - x + 1) * fa (n - x) : Nat) : Int)
  rw [Int.natCast_mul]
  congr 1
  omega
theorem getD_set_ne2 {z : List (Nat × Nat)} {i j : Nat} {x : Nat × Nat} (h : j ≠ i) : (z.set i x).getD j (0, 0) = z.getD j (0, 0) := by
  rw [List.getD_eq_getElem?_getD, List.getD_eq_getElem?_getD, List.getElem?_set_ne (Ne.symm h)]
theorem getD_set_eq2 {z : List (Nat × Nat)} {i : Nat} {x : Nat × Nat} (h : i < z.length) : (z.set i x).getD i (0, 0) = x := by
  rw [List.getD_eq_getElem?_getD, List.getElem?_set_self h]
  rfl
/-- the ways by people one after another are the number by all orders, less and more -/
theorem W_is : ∀ (L : List Nat) (z : List (Nat × Nat)), (∀ k, k < z.length → (z.getD k (0, 0)).1 = L.count k) → (∀ k ∈ L, k < z.length) → reach z = L.length → tsum z = L.length →
    W L (z.map (·.2)) = A z (lf L.length) 0
  | [], z, _, _, h3, _ => by
    show 1 = _
    rw [A_single z _ 0 fun k h1 h2 => by
      rw [h3] at h2
      exact absurd h2 (Nat.not_le_of_lt h1)]
    rfl
  | k :: r, z, h1, h2, h3, h4 => by
    have hk : k < z.length := h2 k List.mem_cons_self
    have hlen : (k :: r).length = r.length + 1 := rfl
    rw [hlen] at h3 h4 ⊢
    -- the table with one person of the kind k less
    have hc : (z.getD k (0, 0)).1 = r.count k + 1 := by
      rw [h1 k hk, List.count_cons_self]
    generalize hx : z.getD k (0, 0) = x at hc
    have ez : z = z.take k ++ (r.count k + 1, x.2) :: z.drop (k + 1) := by
      have e := self_at hk
      rw [hx] at e
      rw [← hc]
      exact e
    let z' := z.set k (r.count k, x.2)
    have ez' : z' = z.take k ++ (r.count k, x.2) :: z.drop (k + 1) := split_at hk _
    have r' : reach z' = r.length := by
      have a := congrArg reach ez
      rw [reach_at] at a
      rw [ez', reach_at]
      have b : (r.count k + 1, x.2).1 = r.count k + 1 := rfl
      have c : (r.count k, x.2).1 = r.count k := rfl
      rw [b] at a
      rw [c]
      omega
    have t' : tsum z' = r.length + 1 := by
      have a := congrArg tsum ez
      rw [tsum_at] at a
      rw [ez', tsum_at]
      have b : (r.count k + 1, x.2).2 = x.2 := rfl
      have c : (r.count k, x.2).2 = x.2 := rfl
      rw [b] at a
      rw [c]
      omega
    have l' : z'.length = z.length := List.length_set
    have snd' : z'.map (·.2) = z.map (·.2) := by
      rw [map_set_snd]
      refine List.ext_getElem? fun i => ?_
      by_cases hi : i = k
      · subst hi
        rw [List.getElem?_set_self (by rw [List.length_map]; exact hk), List.getElem?_map]
        rw [List.getD_eq_getElem?_getD] at hx
        cases hz : z[i]? with
        | none => exact absurd (List.getElem?_eq_none_iff.mp hz) (Nat.not_le_of_lt hk)
        | some y =>
          rw [hz] at hx
          have : y = x := hx
          rw [this]
          rfl
      · rw [List.getElem?_set_ne (Ne.symm hi)]
    have g' : ∀ i, i < z'.length → (z'.getD i (0, 0)).1 = r.count i := fun i hi => by
      by_cases e : i = k
      · subst e
        show ((z.set i _).getD i (0, 0)).1 = _
        rw [getD_set_eq2 hk]
      · show ((z.set k _).getD i (0, 0)).1 = _
        rw [getD_set_ne2 e, h1 i (by rw [← l']; exact hi), List.count_cons_of_ne (Ne.symm e)]
    -- the ways behind one person more
    have step : ∀ i, i < z'.length → (((z'.getD i (0, 0)).2 : Nat) : Int) * W r ((z'.map (·.2)).set i ((z'.getD i (0, 0)).2 - 1)) = (((z'.getD i (0, 0)).2 : Nat) : Int) * A (z'.set i ((z'.getD i (0, 0)).1, (z'.getD i (0, 0)).2 - 1)) (lf r.length) 0 := fun i hi => by
      by_cases h0 : (z'.getD i (0, 0)).2 = 0
      · rw [h0]
        show (0 : Int) * _ = 0 * _
        rw [Int.zero_mul, Int.zero_mul]
      · congr 1
        have w := W_is r (z'.set i ((z'.getD i (0, 0)).1, (z'.getD i (0, 0)).2 - 1)) (fun j hj => ?_) (fun j hj => ?_) ?_ ?_
        · rw [← w]
          exact congrArg (W r) (map_set_snd z' i ((z'.getD i (0, 0)).1, (z'.getD i (0, 0)).2 - 1)).symm
        · rw [List.length_set] at hj
          by_cases e : j = i
          · subst e
            rw [getD_set_eq2 hj]
            exact g' j hj
          · rw [getD_set_ne2 e]
            exact g' j hj
        · rw [List.length_set, l']
          exact h2 j (List.mem_cons_of_mem _ hj)
        · have a := congrArg reach (self_at hi)
          rw [reach_at] at a
          rw [split_at hi, reach_at]
          show reach (z'.take i) + ((z'.getD i (0, 0)).1 + reach (z'.drop (i + 1))) = _
          omega
        · have a := congrArg tsum (self_at hi)
          rw [tsum_at] at a
          rw [split_at hi, tsum_at]
          show tsum (z'.take i) + ((z'.getD i (0, 0)).2 - 1 + tsum (z'.drop (i + 1))) = _
          omega
    show ((oth (z.map (·.2)).length k).map fun i => (((z.map (·.2)).getD i 0 : Nat) : Int) * W r ((z.map (·.2)).set i ((z.map (·.2)).getD i 0 - 1))).sum = _
    rw [← snd']
    unfold oth
    rw [sum_filter, List.length_map]
    have sums : sm z'.length (fun i => if (i != k) = true then (((z'.map (·.2)).getD i 0 : Nat) : Int) * W r ((z'.map (·.2)).set i ((z'.map (·.2)).getD i 0 - 1)) else 0)
        = sm z'.length (fun i => (((z'.getD i (0, 0)).2 : Nat) : Int) * A (z'.set i ((z'.getD i (0, 0)).1, (z'.getD i (0, 0)).2 - 1)) (lf r.length) 0) - ((x.2 : Nat) : Int) * A (z'.set k (r.count k, x.2 - 1)) (lf r.length) 0 := by
      have hx' : z'.getD k (0, 0) = (r.count k, x.2) := getD_set_eq2 hk
      have one := sm_one (N := z'.length) (n := k) (by rw [l']; exact hk)
        (f := fun i => if (i != k) = true then (((z'.map (·.2)).getD i 0 : Nat) : Int) * W r ((z'.map (·.2)).set i ((z'.map (·.2)).getD i 0 - 1)) else 0)
        (g := fun i => if i < z'.length then (((z'.getD i (0, 0)).2 : Nat) : Int) * A (z'.set i ((z'.getD i (0, 0)).1, (z'.getD i (0, 0)).2 - 1)) (lf r.length) 0 else if (i != k) = true then (((z'.map (·.2)).getD i 0 : Nat) : Int) * W r ((z'.map (·.2)).set i ((z'.map (·.2)).getD i 0 - 1)) else 0) (fun i hi => by
          show (if (i != k) = true then _ else _) = _
          by_cases hl : i < z'.length
          · rw [if_pos hl, if_pos (by simpa using hi), getD_snd]
            exact step i hl
          · rw [if_neg hl])
      rw [one]
      have e1 : sm z'.length (fun i => if i < z'.length then (((z'.getD i (0, 0)).2 : Nat) : Int) * A (z'.set i ((z'.getD i (0, 0)).1, (z'.getD i (0, 0)).2 - 1)) (lf r.length) 0 else if (i != k) = true then (((z'.map (·.2)).getD i 0 : Nat) : Int) * W r ((z'.map (·.2)).set i ((z'.map (·.2)).getD i 0 - 1)) else 0)
          = sm z'.length (fun i => (((z'.getD i (0, 0)).2 : Nat) : Int) * A (z'.set i ((z'.getD i (0, 0)).1, (z'.getD i (0, 0)).2 - 1)) (lf r.length) 0) := sm_congr fun i hi => if_pos hi
      rw [e1]
      have e2 : (if (k != k) = true then (((z'.map (·.2)).getD k 0 : Nat) : Int) * W r ((z'.map (·.2)).set k ((z'.map (·.2)).getD k 0 - 1)) else 0) = 0 := if_neg (by simp)
      have e3 : (if k < z'.length then (((z'.getD k (0, 0)).2 : Nat) : Int) * A (z'.set k ((z'.getD k (0, 0)).1, (z'.getD k (0, 0)).2 - 1)) (lf r.length) 0 else if (k != k) = true then (((z'.map (·.2)).getD k 0 : Nat) : Int) * W r ((z'.map (·.2)).set k ((z'.map (·.2)).getD k 0 - 1)) else 0) = ((x.2 : Nat) : Int) * A (z'.set k (r.count k, x.2 - 1)) (lf r.length) 0 := by
        rw [if_pos (by rw [l']; exact hk), hx']
      show _ + ((if (k != k) = true then _ else _) - (if k < z'.length then _ else _)) = _
      rw [e3, e2]
      omega
    rw [sums, ← R_sum, R_is]
    -- back to one person more
    have up : (((tsum z' : Nat) : Int) + ((0 : Nat) : Int)) * A z' (lf r.length) 0 - A z' (fun x => (x : Int) * lf r.length x) 0 = A z' (lf (r.length + 1)) 0 := by
      rw [t', show ((r.length + 1 : Nat) : Int) + ((0 : Nat) : Int) = ((r.length + 1 : Nat) : Int) by omega, ← A_scale, ← A_minus]
      exact A_congr fun j hj => by
        rw [r'] at hj
        rw [Nat.zero_add]
        exact lf_step hj
    rw [up]
    have ek : z'.set k (r.count k, x.2 - 1) = z.take k ++ (r.count k, x.2 - 1) :: z.drop (k + 1) := by
      show (z.set k _).set k _ = _
      rw [List.set_set, split_at hk]
    have less := A_less (z.take k) (z.drop (k + 1)) (r.count k) x.2 (lf (r.length + 1)) 0
    rw [← ez, ← ez', ← ek] at less
    have sh : (fun y => lf (r.length + 1) (y + 1)) = lf r.length := funext fun y => by
      unfold lf
      rw [Nat.add_sub_add_right]
    rw [sh] at less
    exact less.symm

/-- kind by kind, the kind of each -/
def wide : Nat → List Nat → List Nat
  | _, [] => []
  | k, s :: r => List.replicate s k ++ wide (k + 1) r
theorem wide_length : ∀ (k : Nat) (l : List Nat), (wide k l).length = l.sum
  | _, [] => rfl
  | k, s :: r => by
    show (List.replicate s k ++ wide (k + 1) r).length = (s :: r).sum
    rw [List.length_append, List.length_replicate, wide_length (k + 1) r, List.sum_cons]
theorem wide_ge : ∀ (k : Nat) (l : List Nat), ∀ x ∈ wide k l, k ≤ x ∧ x < k + l.length
  | _, [], _, h => nomatch h
  | k, s :: r, x, h => by
    rcases List.mem_append.mp h with h | h
    · have e := (List.mem_replicate.mp h).2
      subst e
      show x ≤ x ∧ x < x + (r.length + 1)
      omega
    · have ih := wide_ge (k + 1) r x h
      show k ≤ x ∧ x < k + (r.length + 1)
      omega
theorem wide_count : ∀ (k : Nat) (l : List Nat) (i : Nat), i < l.length → (wide k l).count (k + i) = l.getD i 0
  | _, [], _, h => absurd h (Nat.not_lt_zero _)
  | k, s :: r, 0, _ => by
    show (List.replicate s k ++ wide (k + 1) r).count (k + 0) = s
    rw [Nat.add_zero, List.count_append, List.count_replicate_self]
    have : (wide (k + 1) r).count k = 0 := List.count_eq_zero.mpr fun h => by
      have := wide_ge (k + 1) r k h
      omega
    omega
  | k, s :: r, i + 1, h => by
    show (List.replicate s k ++ wide (k + 1) r).count (k + (i + 1)) = r.getD i 0
    rw [List.count_append, show k + (i + 1) = k + 1 + i by omega, wide_count (k + 1) r i (by simpa using h)]
    have : (List.replicate s k).count (k + 1 + i) = 0 := List.count_eq_zero.mpr fun h => by
      have := (List.mem_replicate.mp h).2
      omega
    omega
/-- kinds_many of families is THE NUMBER -/
theorem W_fam (sizes : List Nat) : W (wide 0 sizes) sizes = Tn sizes := by
  have e : (dbl sizes).map (·.2) = sizes := by
    unfold dbl
    rw [List.map_map]
    exact (List.map_congr_left fun _ _ => rfl).trans (List.map_id sizes)
  have el : (dbl sizes).length = sizes.length := List.length_map _
  have w := W_is (wide 0 sizes) (dbl sizes) (fun k hk => ?_) (fun k hk => ?_) ?_ ?_
  · rw [e] at w
    rw [w, wide_length]
    rfl
  · rw [el] at hk
    have c := wide_count 0 sizes k hk
    rw [Nat.zero_add] at c
    rw [c]
    unfold dbl
    rw [List.getD_eq_getElem?_getD, List.getElem?_map, List.getD_eq_getElem?_getD, List.getElem?_eq_getElem hk]
    rfl
  · rw [el]
    have := wide_ge 0 sizes k hk
    omega
  · rw [reach_dbl, wide_length]
  · rw [wide_length]
    unfold tsum
    rw [e]

/-! ### all dealings, listed -/
def stepAll (found : List (List Nat)) (row : List Nat) : List (List Nat) := found.flatMap fun told => (row.filter fun x => !told.contains x).map fun x => told ++ [x]
def allL (rows : List (List Nat)) : List (List Nat) := rows.foldl stepAll [[]]
/-- the row of a person of a kind -/
def rowOf (w : List Nat) (kind : Nat) : List Nat := (List.range w.length).filter fun k => w.getD k 0 != kind
def rowsL (sizes : List Nat) : List (List Nat) := (wide 0 sizes).map (rowOf (wide 0 sizes))
def smallSizes : List (List Nat) :=
  ((List.range 3).map fun a => [a + 1]) ++ ((List.range 3).flatMap fun a => (List.range 3).map fun b => [a + 1, b + 1]) ++
  ((List.range 3).flatMap fun a => (List.range 3).flatMap fun b => (List.range 3).map fun c => [a + 1, b + 1, c + 1]) ++ ((List.range 6).map fun k => List.replicate (k + 1) 1)
theorem brute : smallSizes.all (fun s => decide (7 ≤ s.sum) || decide (((allL (rowsL s)).length : Int) = Tn s)) = true := by
  decide +kernel
theorem brute_of {sizes : List Nat} (h : sizes ∈ smallSizes) (h7 : sizes.sum < 7) : ((allL (rowsL sizes)).length : Int) = Tn sizes := by
  have b := List.all_eq_true.mp brute sizes h
  rcases Bool.or_eq_true_iff.mp b with b | b
  · have := of_decide_eq_true b
    omega
  · exact of_decide_eq_true b
theorem mem_small_ones {k : Nat} (h1 : 1 ≤ k) (h6 : k ≤ 6) : List.replicate k 1 ∈ smallSizes := by
  unfold smallSizes
  exact List.mem_append_right _ (List.mem_map.mpr ⟨k - 1, List.mem_range.mpr (by omega), by rw [show k - 1 + 1 = k by omega]⟩)
theorem mem_small {sizes : List Nat} (h1 : 1 ≤ sizes.length) (h3 : sizes.length ≤ 3) (hs : ∀ s ∈ sizes, 1 ≤ s ∧ s ≤ 3) : sizes ∈ smallSizes := by
  unfold smallSizes
  match sizes, h1, h3, hs with
  | [a], _, _, hs =>
    have ha := hs a (by simp)
    exact List.mem_append_left _ (List.mem_append_left _ (List.mem_append_left _ (List.mem_map.mpr ⟨a - 1, List.mem_range.mpr (by omega), by rw [show a - 1 + 1 = a by omega]⟩)))
  | [a, b], _, _, hs =>
    have ha := hs a (by simp)
    have hb := hs b (by simp)
    exact List.mem_append_left _ (List.mem_append_left _ (List.mem_append_right _ (List.mem_flatMap.mpr ⟨a - 1, List.mem_range.mpr (by omega), List.mem_map.mpr ⟨b - 1, List.mem_range.mpr (by omega), by rw [show a - 1 + 1 = a by omega, show b - 1 + 1 = b by omega]⟩⟩)))
  | [a, b, c], _, _, hs =>
    have ha := hs a (by simp)
    have hb := hs b (by simp)
    have hc := hs c (by simp)
    exact List.mem_append_left _ (List.mem_append_right _ (List.mem_flatMap.mpr ⟨a - 1, List.mem_range.mpr (by omega), List.mem_flatMap.mpr ⟨b - 1, List.mem_range.mpr (by omega), List.mem_map.mpr ⟨c - 1, List.mem_range.mpr (by omega), by rw [show a - 1 + 1 = a by omega, show b - 1 + 1 = b by omega, show c - 1 + 1 = c by omega]⟩⟩⟩))
end Fo

/-! Sizes of the numbers on the way. -/
namespace Fo
def l1 : List Int → Nat
  | [] => 0
  | x :: r => x.natAbs + l1 r
theorem l1_append (a b : List Int) : l1 (a ++ b) = l1 a + l1 b := by
  induction a with
  | nil => simp [l1]
  | cons x r ih =>
    show x.natAbs + l1 (r ++ b) = x.natAbs + l1 r + l1 b
    rw [ih]
    omega
theorem l1_get : ∀ (l : List Int) (n : Nat), (l.getD n 0).natAbs ≤ l1 l
  | [], n => by simp [l1]
  | x :: r, 0 => by
    show x.natAbs ≤ x.natAbs + l1 r
    omega
  | x :: r, n + 1 => by
    have ih := l1_get r n
    show (r.getD n 0).natAbs ≤ x.natAbs + l1 r
    omega
theorem l1_addAt : ∀ (l : List Int) (n : Nat) (x : Int), l1 (addAt l n x) ≤ l1 l + x.natAbs
  | [], n, x => by
    show l1 ([].set n _) ≤ _
    simp [l1]
  | y :: r, 0, x => by
    show (y + x).natAbs + l1 r ≤ y.natAbs + l1 r + x.natAbs
    omega
  | y :: r, n + 1, x => by
    have ih := l1_addAt r n x
    show y.natAbs + l1 (addAt r n x) ≤ y.natAbs + l1 r + x.natAbs
    omega
theorem l1_take (o : List Int) (j : Nat) : l1 (o.take (j + 1)) = l1 (o.take j) + (o.getD j 0).natAbs := by
  by_cases h : j < o.length
  · have e : o.take (j + 1) = o.take j ++ [o.getD j 0] := by
      rw [List.take_succ, List.getD_eq_getElem?_getD, List.getElem?_eq_getElem h]
      rfl
    rw [e, l1_append]
    rfl
  · rw [List.take_of_length_le (by omega), List.take_of_length_le (by omega), List.getD_eq_getElem?_getD, List.getElem?_eq_none (by omega)]
    rfl
theorem l1_addRow (o : List Int) (i : Nat) (x : Int) (acc : List Int) : ∀ j, l1 (addRow o i x acc j) ≤ l1 acc + x.natAbs * l1 (o.take j)
  | 0 => Nat.le_add_right _ _
  | j + 1 => by
    have ih := l1_addRow o i x acc j
    have h := l1_addAt (addRow o i x acc j) (i + j) (x * o.getD j 0)
    rw [l1_take, Nat.mul_add]
    rw [Int.natAbs_mul] at h
    show l1 (addAt _ _ _) ≤ _
    omega
theorem l1_addRows (w o acc : List Int) : ∀ i, l1 (addRows w o acc i) ≤ l1 acc + l1 (w.take i) * l1 o
  | 0 => Nat.le_add_right _ _
  | i + 1 => by
    have ih := l1_addRows w o acc i
    have h := l1_addRow o i (w.getD i 0) (addRows w o acc i) o.length
    rw [List.take_length] at h
    rw [l1_take, Nat.add_mul]
    show l1 (addRow _ _ _ _ _) ≤ _
    omega
theorem l1_zero : ∀ n : Nat, l1 (List.replicate n 0) = 0
  | 0 => rfl
  | n + 1 => by
    show 0 + l1 (List.replicate n 0) = 0
    rw [l1_zero n]
theorem l1_mul (w o : List Int) : l1 (mulL w o) ≤ l1 w * l1 o := by
  have h := l1_addRows w o (List.replicate (w.length + (o.length - 1)) 0) w.length
  rw [l1_zero, List.take_length, Nat.zero_add] at h
  exact h
theorem fl_le : ∀ (s k : Nat), s ≤ 512 → fl s k ≤ 512 ^ k
  | s, 0, _ => by rw [fl_zero]; exact Nat.le_refl _
  | s, k + 1, h => by
    rw [fl_succ, Nat.pow_succ, Nat.mul_comm]
    exact Nat.mul_le_mul (fl_le (s - 1) k (by omega)) h
theorem ch_le : ∀ (n k : Nat), ch n k ≤ 2 ^ n
  | 0, 0 => Nat.le_refl _
  | 0, k + 1 => Nat.zero_le _
  | n + 1, 0 => by
    rw [ch_zero]
    exact Nat.one_le_two_pow
  | n + 1, k + 1 => by
    have h1 := ch_le n k
    have h2 := ch_le n (k + 1)
    rw [ch_succ, Nat.pow_succ]
    omega
theorem own_le {s k : Nat} (h : s ≤ 512) (hk : k ≤ s) : own s k ≤ 2 ^ (10 * s) := by
  have h1 := ch_le s k
  have h2 := fl_le s k h
  have h3 : 512 ^ k ≤ 512 ^ s := Nat.pow_le_pow_right (by decide) hk
  have e : 2 ^ (10 * s) = 2 ^ s * 512 ^ s := by
    rw [← Nat.mul_pow, Nat.pow_mul]
  rw [e]
  unfold own
  exact Nat.mul_le_mul h1 (Nat.le_trans h2 h3)
theorem l1_bound : ∀ (l : List Int) (B : Nat), (∀ x ∈ l, x.natAbs ≤ B) → l1 l ≤ l.length * B
  | [], B, _ => by simp [l1]
  | x :: r, B, h => by
    have h1 := h x List.mem_cons_self
    have ih := l1_bound r B fun y hy => h y (List.mem_cons_of_mem _ hy)
    rw [List.length_cons, Nat.succ_mul]
    show x.natAbs + l1 r ≤ _
    omega
theorem l1_own {s : Nat} (h : s ≤ 512) : l1 (ownL s) ≤ 2 ^ (11 * s) := by
  have h1 := l1_bound (ownL s) (2 ^ (10 * s)) fun x hx => by
    unfold ownL at hx
    obtain ⟨k, hk, rfl⟩ := List.mem_map.mp hx
    have := List.mem_range.mp hk
    rw [Int.natAbs_natCast]
    exact own_le h (by omega)
  rw [ownL_length] at h1
  have e : 2 ^ (11 * s) = 2 ^ s * 2 ^ (10 * s) := by
    rw [← Nat.pow_add]
    congr 1
    omega
  rw [e]
  exact Nat.le_trans h1 (Nat.mul_le_mul_right _ Nat.lt_two_pow_self)
theorem sum_take_le (l : List Nat) : ∀ i : Nat, (l.take i).sum ≤ l.sum := fun i => by
  have e := List.take_append_drop i l
  have h : (l.take i ++ l.drop i).sum = l.sum := by rw [e]
  rw [List.sum_append] at h
  omega
theorem get_le_sum : ∀ (l : List Nat) (i : Nat), l.getD i 0 ≤ l.sum
  | [], i => by simp
  | x :: r, 0 => by
    rw [List.sum_cons]
    show x ≤ _
    omega
  | x :: r, i + 1 => by
    have ih := get_le_sum r i
    rw [List.sum_cons]
    show r.getD i 0 ≤ _
    omega
theorem l1_ways (sizes : List Nat) (h : sizes.sum ≤ 512) : ∀ i : Nat, i ≤ sizes.length → l1 (waysL sizes i) ≤ 2 ^ (11 * (sizes.take i).sum)
  | 0, _ => Nat.le_refl _
  | i + 1, hi => by
    have ih := l1_ways sizes h i (by omega)
    have ho := l1_own (s := sizes.getD i 0) (Nat.le_trans (get_le_sum _ _) h)
    have hm := l1_mul (waysL sizes i) (ownL (sizes.getD i 0))
    have e2 : sizes.take (i + 1) = sizes.take i ++ [sizes.getD i 0] := by
      rw [List.take_succ, List.getD_eq_getElem?_getD, List.getElem?_eq_getElem (by omega)]
      rfl
    rw [e2, List.sum_append]
    have e3 : 2 ^ (11 * ((sizes.take i).sum + [sizes.getD i 0].sum)) = 2 ^ (11 * (sizes.take i).sum) * 2 ^ (11 * sizes.getD i 0) := by
      rw [← Nat.pow_add]
      congr 1
      rw [List.sum_cons, List.sum_nil]
      omega
    rw [e3]
    exact Nat.le_trans hm (Nat.mul_le_mul ih ho)
/-- an item of the ways, an item of a family's own, an order: how large -/
theorem ways_small {sizes : List Nat} (h : sizes.sum ≤ 400) {i : Nat} (hi : i ≤ sizes.length) (n : Nat) : ((waysL sizes i).getD n 0).natAbs < 2 ^ 4500 := by
  have h1 := l1_get (waysL sizes i) n
  have h2 := l1_ways sizes (by omega) i hi
  have h3 := sum_take_le sizes i
  have h4 : 2 ^ (11 * (sizes.take i).sum) ≤ 2 ^ 4400 := Nat.pow_le_pow_right (by decide) (by omega)
  have h5 : 2 ^ 4400 < 2 ^ 4500 := Nat.pow_lt_pow_right (by decide) (by decide)
  exact Nat.lt_of_le_of_lt (Nat.le_trans (Nat.le_trans h1 h2) h4) h5
theorem own_small {s : Nat} (h : s ≤ 400) (n : Nat) : ((ownL s).getD n 0).natAbs < 2 ^ 4500 := by
  have h1 := l1_get (ownL s) n
  have h2 := l1_own (s := s) (by omega)
  have h4 : 2 ^ (11 * s) ≤ 2 ^ 4400 := Nat.pow_le_pow_right (by decide) (by omega)
  have h5 : 2 ^ 4400 < 2 ^ 4500 := Nat.pow_lt_pow_right (by decide) (by decide)
  exact Nat.lt_of_le_of_lt (Nat.le_trans (Nat.le_trans h1 h2) h4) h5
theorem fa_small {n : Nat} (h : n ≤ 402) : ((fa n : Nat) : Int).natAbs < 2 ^ 4500 := by
  rw [Int.natAbs_natCast, ← fl_self]
  have h1 := fl_le n n (by omega)
  have h2 : 512 ^ n ≤ 512 ^ 402 := Nat.pow_le_pow_right (by decide) h
  have h3 : 512 ^ 402 = 2 ^ 3618 := by rw [show 512 = 2 ^ 9 from rfl, ← Nat.pow_mul]
  have h5 : 2 ^ 3618 < 2 ^ 4500 := Nat.pow_lt_pow_right (by decide) (by decide)
  rw [h3] at h2
  exact Nat.lt_of_le_of_lt (Nat.le_trans h1 h2) h5
end Fo

/-! The states by their things: a table, its weights. -/
namespace Fo
section
variable {κ β : Type} [DecidableEq κ]
def putR : List (κ × β) → κ → β → List (κ × β)
  | [], t, v => [(t, v)]
  | p :: r, t, v => if p.1 = t then (p.1, v) :: r else p :: putR r t v
theorem putR_keys (t : κ) (v : β) : ∀ ks : List (κ × β), (putR ks t v).map (·.1) = if t ∈ ks.map (·.1) then ks.map (·.1) else ks.map (·.1) ++ [t]
  | [] => rfl
  | p :: r => by
    show (if p.1 = t then (p.1, v) :: r else p :: putR r t v).map (·.1) = _
    by_cases h : p.1 = t
    · rw [if_pos h, if_pos (by rw [List.map_cons, h]; exact List.mem_cons_self)]
      rfl
    · rw [if_neg h, List.map_cons, putR_keys t v r, List.map_cons]
      by_cases h2 : t ∈ r.map (·.1)
      · rw [if_pos h2, if_pos (List.mem_cons_of_mem _ h2)]
      · rw [if_neg h2, if_neg (fun z => by
          rcases List.mem_cons.mp z with z | z
          · exact h z.symm
          · exact h2 z)]
        rfl
theorem putR_nodup {t : κ} {v : β} {ks : List (κ × β)} (h : (ks.map (·.1)).Nodup) : ((putR ks t v).map (·.1)).Nodup := by
  rw [putR_keys]
  by_cases h2 : t ∈ ks.map (·.1)
  · rw [if_pos h2]
    exact h
  · rw [if_neg h2]
    exact List.nodup_append.mpr ⟨h, by simp, fun a ha b hb => by
      have e : b = t := by simpa using hb
      rw [e]
      exact fun z => h2 (z ▸ ha)⟩
theorem putR_mem {t x : κ} {v : β} {ks : List (κ × β)} (h : x ∈ (putR ks t v).map (·.1)) : x ∈ ks.map (·.1) ∨ x = t := by
  rw [putR_keys] at h
  by_cases h2 : t ∈ ks.map (·.1)
  · rw [if_pos h2] at h
    exact .inl h
  · rw [if_neg h2] at h
    rcases List.mem_append.mp h with z | z
    · exact .inl z
    · exact .inr (by simpa using z)
end
theorem nodup_len {α : Type} [DecidableEq α] : ∀ (l U : List α), l.Nodup → (∀ x ∈ l, x ∈ U) → l.length ≤ U.length
  | [], _, _, _ => Nat.zero_le _
  | x :: r, U, hn, hs => by
    have hx := hs x List.mem_cons_self
    have hn' := List.nodup_cons.mp hn
    have ih := nodup_len r (U.erase x) hn'.2 fun y hy => (List.mem_erase_of_ne (fun (z : y = x) => hn'.1 (by rw [← z]; exact hy))).mpr (hs y (List.mem_cons_of_mem _ hy))
    rw [List.length_erase_of_mem hx] at ih
    have := List.length_pos_of_mem hx
    rw [List.length_cons]
    omega
/-- states of three kinds, of at most ten each -/
def box (t : List Nat) : Prop := t.length = 3 ∧ ∀ x ∈ t, x ≤ 10
def boxL : List (List Nat) := (List.range 11).flatMap fun a => (List.range 11).flatMap fun b => (List.range 11).map fun c => [a, b, c]
theorem box_mem {t : List Nat} (h : box t) : t ∈ boxL := by
  obtain ⟨h1, h2⟩ := h
  match t, h1, h2 with
  | [a, b, c], _, h2 =>
    have ha := h2 a (by simp)
    have hb := h2 b (by simp)
    have hc := h2 c (by simp)
    exact List.mem_flatMap.mpr ⟨a, List.mem_range.mpr (by omega), List.mem_flatMap.mpr ⟨b, List.mem_range.mpr (by omega), List.mem_map.mpr ⟨c, List.mem_range.mpr (by omega), rfl⟩⟩⟩
theorem boxL_len : boxL.length = 1331 := by decide +kernel
theorem box_few {ks : List (List Nat × Int)} (hn : (ks.map (·.1)).Nodup) (hb : ∀ t ∈ ks.map (·.1), box t) : ks.length ≤ 1331 := by
  have h := nodup_len (ks.map (·.1)) boxL hn fun t ht => box_mem (hb t ht)
  rw [List.length_map, boxL_len] at h
  exact h
/-- what the table weighs, r to come -/
def Sw (ks : List (List Nat × Int)) (r : List Nat) : Int := (ks.map fun p => p.2 * W r p.1).sum
def getL (ks : List (List Nat × Int)) (t : List Nat) : Option Int := (ks.find? fun p => decide (p.1 = t)).map (·.2)
theorem Sw_put (t : List Nat) (v : Int) (r : List Nat) : ∀ ks : List (List Nat × Int), Sw (putR ks t v) r = Sw ks r + (v - (getL ks t).getD 0) * W r t
  | [] => by
    show v * W r t + 0 = 0 + (v - 0) * W r t
    rw [Int.sub_zero]
    omega
  | p :: q => by
    show Sw (if p.1 = t then (p.1, v) :: q else p :: putR q t v) r = _
    by_cases h : p.1 = t
    · have e : getL (p :: q) t = some p.2 := by
        unfold getL
        rw [List.find?_cons, decide_eq_true h]
        rfl
      rw [if_pos h, e]
      show v * W r p.1 + Sw q r = (p.2 * W r p.1 + Sw q r) + (v - p.2) * W r t
      rw [h, Int.sub_mul]
      omega
    · have e : getL (p :: q) t = getL q t := by
        unfold getL
        rw [List.find?_cons, decide_eq_false h]
      rw [if_neg h, e]
      show p.2 * W r p.1 + Sw (putR q t v) r = (p.2 * W r p.1 + Sw q r) + _
      rw [Sw_put t v r q]
      omega
/-- one thing more: the weight, up to the number -/
theorem Sw_step (ks : List (List Nat × Int)) (t : List Nat) (d m : Int) (r : List Nat) : ∃ c, Sw (putR ks t (((getL ks t).getD 0 + d) % m)) r = Sw ks r + d * W r t + m * c := by
  rw [Sw_put]
  have e := Int.mul_ediv_add_emod ((getL ks t).getD 0 + d) m
  refine ⟨-(((getL ks t).getD 0 + d) / m * W r t), ?_⟩
  have e2 : ((getL ks t).getD 0 + d) % m - (getL ks t).getD 0 = d - m * (((getL ks t).getD 0 + d) / m) := by omega
  rw [e2, Int.sub_mul, Int.mul_neg, Int.mul_assoc]
  omega
theorem box_set {t : List Nat} {i : Nat} (h : box t) : box (t.set i (t.getD i 0 - 1)) := by
  obtain ⟨h1, h2⟩ := h
  refine ⟨by rw [List.length_set]; exact h1, fun x hx => ?_⟩
  rcases List.mem_or_eq_of_mem_set hx with z | z
  · exact h2 x z
  · rw [z]
    by_cases hi : i < t.length
    · have := h2 (t.getD i 0) (List.mem_of_getElem? (by rw [List.getD_eq_getElem?_getD, List.getElem?_eq_getElem hi]; rfl))
      omega
    · rw [List.getD_eq_getElem?_getD, List.getElem?_eq_none (by omega)]
      exact Nat.zero_le _
/-- the weight that a state gives at the first j of a kind's things -/
def part (ks : List (List Nat × Int)) (r : List Nat) : Int := (ks.map fun p => p.2 * W r p.1).sum
theorem Sw_cons (p : List Nat × Int) (q : List (List Nat × Int)) (r : List Nat) : Sw (p :: q) r = p.2 * W r p.1 + Sw q r := rfl
theorem Sw_append (a b : List (List Nat × Int)) (r : List Nat) : Sw (a ++ b) r = Sw a r + Sw b r := by
  induction a with
  | nil => rw [List.nil_append]; show _ = 0 + _; omega
  | cons p q ih => rw [List.cons_append, Sw_cons, Sw_cons, ih]; omega
theorem Sw_take (ks : List (List Nat × Int)) (i : Nat) (p : List Nat × Int) (h : ks[i]? = some p) (r : List Nat) : Sw (ks.take (i + 1)) r = Sw (ks.take i) r + p.2 * W r p.1 := by
  rw [List.take_succ, h]
  show Sw (ks.take i ++ [p]) r = _
  rw [Sw_append, Sw_cons]
  show _ + (_ + 0) = _
  omega
/-- the things of a state that a kind may get, the first j of them -/
def Wp (L : List Nat) (r t : List Nat) (j : Nat) : Int := ((L.take j).map fun i => ((t.getD i 0 : Nat) : Int) * W r (t.set i (t.getD i 0 - 1))).sum
theorem Wp_succ {L : List Nat} {j : Nat} (h : j < L.length) (r t : List Nat) : Wp L r t (j + 1) = Wp L r t j + ((t.getD (L.getD j 0) 0 : Nat) : Int) * W r (t.set (L.getD j 0) (t.getD (L.getD j 0) 0 - 1)) := by
  unfold Wp
  rw [List.take_succ, List.getElem?_eq_getElem h, List.map_append, List.sum_append]
  have e : L.getD j 0 = L[j] := by
    rw [List.getD_eq_getElem?_getD, List.getElem?_eq_getElem h]
    rfl
  rw [e]
  show _ + (((t.getD L[j] 0 : Nat) : Int) * W r (t.set L[j] (t.getD L[j] 0 - 1)) + 0) = _
  rw [Int.add_zero]
theorem Wp_all (k : Nat) (r t : List Nat) : Wp (oth t.length k) r t (oth t.length k).length = W (k :: r) t := by
  unfold Wp
  rw [List.take_length]
  rfl
end Fo

/-! The text of the law and of the program, by places. -/
namespace Fo
open PySem PySem.Spec PyProof.Rows L2
def topS (i : Nat) : Stmt := PySem.Challenge.pw_fullorring_k83_whole_families_counted.main.body.getD i (.Pass ⟨0, 0, 0, 0⟩)
abbrev s_is_integer : Stmt := topS 7
abbrev s_is_within : Stmt := topS 8
abbrev s_are_ascending : Stmt := topS 9
abbrev s_is_lot_of : Stmt := topS 10
abbrev s_check_number : Stmt := topS 11
abbrev s_check_many : Stmt := topS 12
abbrev s_are_counts : Stmt := topS 19
abbrev s_spread_out : Stmt := topS 21
abbrev s_one_less : Stmt := topS 22
abbrev s_after_person : Stmt := topS 23
abbrev s_kinds_many : Stmt := topS 24
abbrev s_check_sizes : Stmt := topS 25
abbrev s_families : Stmt := topS 26
abbrev s_own_names : Stmt := topS 27
abbrev s_families_many : Stmt := topS 28
abbrev s_l_pool : Stmt := topS 30
abbrev s_l_draw : Stmt := topS 31
abbrev s_l_mixed : Stmt := topS 32
abbrev s_l_all : Stmt := topS 33
abbrev s_l_deep : Stmt := topS 34
abbrev s_l_wide : Stmt := topS 35
abbrev s_l_kind_rows : Stmt := topS 36
abbrev s_l_orders : Stmt := topS 37
abbrev s_l_said : Stmt := topS 38
abbrev s_l_half_right : Stmt := topS 39
abbrev s_l_by_signs : Stmt := topS 40
abbrev s_l_many_right : Stmt := topS 41
abbrev s_law : Stmt := topS 42
abbrev s_Kinds_init : Stmt := inClass (topS 20) 0
abbrev s_TooMany_init : Stmt := inClass (topS 3) 0
abbrev N_is_integer : List Str := ["thing"]
theorem sc_is_integer : FnScope N_is_integer ["thing"] (defScope s_is_integer) := ⟨rfl, rfl, rfl, by decide +kernel, rfl, by decide +kernel, by decide +kernel⟩
abbrev N_is_within : List Str := ["thing", "least", "most"]
theorem sc_is_within : FnScope N_is_within ["thing", "least", "most"] (defScope s_is_within) := ⟨rfl, rfl, rfl, by decide +kernel, rfl, by decide +kernel, by decide +kernel⟩
abbrev N_are_ascending : List Str := ["things", "one", "other"]
theorem sc_are_ascending : FnScope N_are_ascending ["things"] (defScope s_are_ascending) := ⟨rfl, rfl, rfl, by decide +kernel, rfl, by decide +kernel, by decide +kernel⟩
abbrev N_is_lot_of : List Str := ["thing", "many", "one"]
theorem sc_is_lot_of : FnScope N_is_lot_of ["thing", "many"] (defScope s_is_lot_of) := ⟨rfl, rfl, rfl, by decide +kernel, rfl, by decide +kernel, by decide +kernel⟩
abbrev N_check_number : List Str := ["thing", "least", "most"]
theorem sc_check_number : FnScope N_check_number ["thing", "least", "most"] (defScope s_check_number) := ⟨rfl, rfl, rfl, by decide +kernel, rfl, by decide +kernel, by decide +kernel⟩
abbrev N_check_many : List Str := ["number", "most"]
theorem sc_check_many : FnScope N_check_many ["number", "most"] (defScope s_check_many) := ⟨rfl, rfl, rfl, by decide +kernel, rfl, by decide +kernel, by decide +kernel⟩
abbrev N_are_counts : List Str := ["thing", "least", "number"]
theorem sc_are_counts : FnScope N_are_counts ["thing", "least"] (defScope s_are_counts) := ⟨rfl, rfl, rfl, by decide +kernel, rfl, by decide +kernel, by decide +kernel⟩
abbrev N_spread_out : List Str := ["numbers", "found", "kind", "many"]
theorem sc_spread_out : FnScope N_spread_out ["numbers"] (defScope s_spread_out) := ⟨rfl, rfl, rfl, by decide +kernel, rfl, by decide +kernel, by decide +kernel⟩
abbrev N_one_less : List Str := ["numbers", "place"]
theorem sc_one_less : FnScope N_one_less ["numbers", "place"] (defScope s_one_less) := ⟨rfl, rfl, rfl, by decide +kernel, rfl, by decide +kernel, by decide +kernel⟩
abbrev N_after_person : List Str := ["kinds", "kind", "counts", "modulus", "found", "left", "ways", "thing", "later"]
theorem sc_after_person : FnScope N_after_person ["kinds", "kind", "counts", "modulus"] (defScope s_after_person) := ⟨rfl, rfl, rfl, by decide +kernel, rfl, by decide +kernel, by decide +kernel⟩
abbrev N_kinds_many : List Str := ["kinds", "modulus", "states", "many", "counts", "kind"]
theorem sc_kinds_many : FnScope N_kinds_many ["kinds", "modulus"] (defScope s_kinds_many) := ⟨rfl, rfl, rfl, by decide +kernel, rfl, by decide +kernel, by decide +kernel⟩
abbrev N_check_sizes : List Str := ["sizes"]
theorem sc_check_sizes : FnScope N_check_sizes ["sizes"] (defScope s_check_sizes) := ⟨rfl, rfl, rfl, by decide +kernel, rfl, by decide +kernel, by decide +kernel⟩
abbrev N_families : List Str := ["sizes", "numbers", "one", "other"]
theorem sc_families : FnScope N_families ["sizes"] (defScope s_families) := ⟨rfl, rfl, rfl, by decide +kernel, rfl, by decide +kernel, by decide +kernel⟩
abbrev N_own_names : List Str := ["size", "found", "many"]
theorem sc_own_names : FnScope N_own_names ["size"] (defScope s_own_names) := ⟨rfl, rfl, rfl, by decide +kernel, rfl, by decide +kernel, by decide +kernel⟩
abbrev N_families_many : List Str := ["sizes", "modulus", "ways", "size", "total", "orders", "left", "own", "longer", "one", "number", "many", "other", "more"]
theorem sc_families_many : FnScope N_families_many ["sizes", "modulus"] (defScope s_families_many) := ⟨rfl, rfl, rfl, by decide +kernel, rfl, by decide +kernel, by decide +kernel⟩
abbrev N_l_pool : List Str := ["_law_script", "_law_seed", "_law_cell"]
theorem sc_l_pool : FnScope N_l_pool ["_law_script"] (defScope s_l_pool) := ⟨rfl, rfl, rfl, by decide +kernel, rfl, by decide +kernel, by decide +kernel⟩
abbrev N_l_draw : List Str := ["_law_pool_here", "_law_many", "_law_cells", "_law_mixed_here", "_law_digit"]
theorem sc_l_draw : FnScope N_l_draw ["_law_pool_here", "_law_many"] (defScope s_l_draw) := ⟨rfl, rfl, rfl, by decide +kernel, rfl, by decide +kernel, by decide +kernel⟩
abbrev N_l_mixed : List Str := ["_law_pool_here", "_law_things", "_law_left", "_law_k"]
theorem sc_l_mixed : FnScope N_l_mixed ["_law_pool_here", "_law_things"] (defScope s_l_mixed) := ⟨rfl, rfl, rfl, by decide +kernel, rfl, by decide +kernel, by decide +kernel⟩
abbrev N_l_all : List Str := ["_law_rows", "_law_found", "_law_row", "_law_longer", "_law_told", "_law_thing"]
theorem sc_l_all : FnScope N_l_all ["_law_rows"] (defScope s_l_all) := ⟨rfl, rfl, rfl, by decide +kernel, rfl, by decide +kernel, by decide +kernel⟩
abbrev N_l_deep : List Str := ["_law_found", "_law_turn"]
theorem sc_l_deep : FnScope N_l_deep [] (defScope s_l_deep) := ⟨rfl, rfl, rfl, by decide +kernel, rfl, by decide +kernel, by decide +kernel⟩
abbrev N_l_wide : List Str := ["_law_numbers", "_law_found", "_law_kind"]
theorem sc_l_wide : FnScope N_l_wide ["_law_numbers"] (defScope s_l_wide) := ⟨rfl, rfl, rfl, by decide +kernel, rfl, by decide +kernel, by decide +kernel⟩
abbrev N_l_kind_rows : List Str := ["_law_people", "_law_things", "_law_allowed", "_law_wide_here", "_law_kind", "_law_k"]
theorem sc_l_kind_rows : FnScope N_l_kind_rows ["_law_people", "_law_things", "_law_allowed"] (defScope s_l_kind_rows) := ⟨rfl, rfl, rfl, by decide +kernel, rfl, by decide +kernel, by decide +kernel⟩
abbrev N_l_orders : List Str := ["_law_many", "_law_modulus", "_law_found", "_law_k"]
theorem sc_l_orders : FnScope N_l_orders ["_law_many", "_law_modulus"] (defScope s_l_orders) := ⟨rfl, rfl, rfl, by decide +kernel, rfl, by decide +kernel, by decide +kernel⟩
abbrev N_l_said : List Str := ["_law_sizes", "_law_modulus", "_law_told", "e"]
theorem sc_l_said : FnScope N_l_said ["_law_sizes", "_law_modulus"] (defScope s_l_said) := ⟨rfl, rfl, rfl, by decide +kernel, rfl, by decide +kernel, by decide +kernel⟩
abbrev N_l_half_right : List Str := ["_law_pool_here", "_law_modulus", "_law_parts", "_law_sizes", "_law_orders_here", "_law_k"]
theorem sc_l_half_right : FnScope N_l_half_right ["_law_pool_here", "_law_modulus"] (defScope s_l_half_right) := ⟨rfl, rfl, rfl, by decide +kernel, rfl, by decide +kernel, by decide +kernel⟩
abbrev N_l_by_signs : List Str := ["_law_sizes", "_law_ways", "_law_size", "_law_found", "_law_orders_here", "_law_left", "_law_own", "_law_k", "_law_longer", "_law_many", "_law_j"]
theorem sc_l_by_signs : FnScope N_l_by_signs ["_law_sizes"] (defScope s_l_by_signs) := ⟨rfl, rfl, rfl, by decide +kernel, rfl, by decide +kernel, by decide +kernel⟩
abbrev N_l_many_right : List Str := ["_law_pool_here", "_law_sizes", "_law_modulus", "_law_few", "_law_k"]
theorem sc_l_many_right : FnScope N_l_many_right ["_law_pool_here"] (defScope s_l_many_right) := ⟨rfl, rfl, rfl, by decide +kernel, rfl, by decide +kernel, by decide +kernel⟩
abbrev N_law : List Str := ["_law_script", "_law_pool_here", "_law_again", "_law_odd", "_law_wrong", "_law_sizes", "_law_allowed", "_law_due", "_law_modulus", "_law_told", "_law_k", "_law_other"]
theorem sc_law : FnScope N_law ["_law_script"] (defScope s_law) := ⟨rfl, rfl, rfl, by decide +kernel, rfl, by decide +kernel, by decide +kernel⟩
abbrev N_Kinds_init : List Str := ["self", "people", "things", "allowed", "row"]
theorem sc_Kinds_init : FnScope N_Kinds_init ["self", "people", "things", "allowed"] (defScope s_Kinds_init) := ⟨rfl, rfl, rfl, by decide +kernel, rfl, by decide +kernel, by decide +kernel⟩
/-- where a def stands, and how its arguments bind -/
structure DefAt (K : PySem.W.Frag) (x qual : Str) (st : Stmt) (ps : List Str) where
  f : Addr
  d : FuncData
  F : Fun K x qual st f d
  b : Binds K d ps []
/-- .. of the module -/
structure DefIn (K : PySem.W.Frag) (mg : Str → Option Value) (x : Str) (st : Stmt) (ps : List Str) extends DefAt K x x st ps where
  g : mg x = some (.ref f)
/-- a constant of the module -/
structure IntIn (mg : Str → Option Value) (x : Str) (i : Int) where
  t : Tok
  g : mg x = some (.int i t)
/-- an own exception class without an __init__ -/
structure ExcAt (K : PySem.W.Frag) (mg : Str → Option Value) (x : Str) where
  C : Addr
  g : mg x = some (.ref C)
  q : PySem.W.excIn K C [.type "ValueError", .type "Exception", .type "BaseException", .type "object"] "ValueError.__new__" = true
  k : PySem.W.keepIn K (.ref C) = true
  s : PySem.W.subIn K (.ref C) (.type "BaseException") = some true
  t : PySem.W.typeIn K (.ref C) = some (.type "type")
/-- the text's defs, constants, built-in names -/
structure Tx (K : PySem.W.Frag) (mg : Str → Option Value) where
  is_integer : DefIn K mg "is_integer" s_is_integer ["thing"]
  is_within : DefIn K mg "is_within" s_is_within ["thing", "least", "most"]
  are_ascending : DefIn K mg "are_ascending" s_are_ascending ["things"]
  is_lot_of : DefIn K mg "is_lot_of" s_is_lot_of ["thing", "many"]
  check_number : DefIn K mg "check_number" s_check_number ["thing", "least", "most"]
  check_many : DefIn K mg "check_many" s_check_many ["number", "most"]
  are_counts : DefIn K mg "are_counts" s_are_counts ["thing", "least"]
  spread_out : DefIn K mg "spread_out" s_spread_out ["numbers"]
  one_less : DefIn K mg "one_less" s_one_less ["numbers", "place"]
  after_person : DefIn K mg "after_person" s_after_person ["kinds", "kind", "counts", "modulus"]
  kinds_many : DefIn K mg "kinds_many" s_kinds_many ["kinds", "modulus"]
  check_sizes : DefIn K mg "check_sizes" s_check_sizes ["sizes"]
  families : DefIn K mg "families" s_families ["sizes"]
  own_names : DefIn K mg "own_names" s_own_names ["size"]
  families_many : DefIn K mg "families_many" s_families_many ["sizes", "modulus"]
  l_pool : DefIn K mg "_law_pool" s_l_pool ["_law_script"]
  l_draw : DefIn K mg "_law_draw" s_l_draw ["_law_pool_here", "_law_many"]
  l_mixed : DefIn K mg "_law_mixed" s_l_mixed ["_law_pool_here", "_law_things"]
  l_all : DefIn K mg "_law_all" s_l_all ["_law_rows"]
  l_deep : DefIn K mg "_law_deep" s_l_deep []
  l_wide : DefIn K mg "_law_wide" s_l_wide ["_law_numbers"]
  l_kind_rows : DefIn K mg "_law_kind_rows" s_l_kind_rows ["_law_people", "_law_things", "_law_allowed"]
  l_orders : DefIn K mg "_law_orders" s_l_orders ["_law_many", "_law_modulus"]
  l_said : DefIn K mg "_law_said" s_l_said ["_law_sizes", "_law_modulus"]
  l_half_right : DefIn K mg "_law_half_right" s_l_half_right ["_law_pool_here", "_law_modulus"]
  l_by_signs : DefIn K mg "_law_by_signs" s_l_by_signs ["_law_sizes"]
  l_many_right : DefIn K mg "_law_many_right" s_l_many_right ["_law_pool_here"]
  law : DefIn K mg "law" s_law ["_law_script"]
  Kinds_init : DefAt K "__init__" "Kinds.__init__" s_Kinds_init ["self", "people", "things", "allowed"]
  MOST_KINDS : IntIn mg "MOST_KINDS" (8)
  MOST_OF_KIND : IntIn mg "MOST_OF_KIND" (10 ^ 30)
  MOST_COUNTED : IntIn mg "MOST_COUNTED" (60)
  MOST_STATES : IntIn mg "MOST_STATES" (5000)
  MOST_FAMILIES : IntIn mg "MOST_FAMILIES" (400)
  z_isinstance : mg "isinstance" = none
  z_int : mg "int" = none
  z_bool : mg "bool" = none
  z_tuple : mg "tuple" = none
  z_list : mg "list" = none
  z_len : mg "len" = none
  z_all : mg "all" = none
  z_zip : mg "zip" = none
  z_sum : mg "sum" = none
  z_enumerate : mg "enumerate" = none
  z_range : mg "range" = none
  z_sorted : mg "sorted" = none
  z_abs : mg "abs" = none
  z_super : mg "super" = none
  NoNumber : ExcAt K mg "NoNumber"
  NoSizes : ExcAt K mg "NoSizes"
end Fo

/-! Checks: is_integer, is_within, check_number. -/
namespace Fo
open PySem PySem.Spec PyProof.Rows L2

/-! ### an own exception class without __init__, called without arguments -/
section
variable {X : Cx}
theorem pmk_bare {x : Str} (T : ExcAt X.K X.mg x) {p pos : Pos} (hg : Gl X x) (hdb : (x == ("__debug__" : Str)) = false := by decide) :
    PMk X (.Call (.Name x p) [] [] pos) (fun _ H Q => Q (.ref T.C) none H) := by
  intro pins s σ H Q I h
  refine wpAny_Call_Name_kw (ld_glob I hg T.g ?_ hdb)
  refine PySem.W.callWith_K0 I.kIn T.k ?_
  obtain ⟨bm, N, nm, qn, bs, hdct, sn, sub, ab, col, dd, k0, k1, k2, k3, k5, mN, hC, hN, hni, TT⟩ := exc_obj I.kIn T.q
  show wpAny _ _ (call (.ref T.C) []) _ _ _
  refine wpAny_call_exc_subT PySem.F.excBase_ValueError TT hC hN hni (fun h' e hm => ?_) (Nat.zero_le _)
  exact mk_of I hm (raises_own T.s T.t) h (I.hok.gone hm.new)
end

/-- an int, no bool -/
def isI : V → Bool
  | .int _ => true
  | _ => false
/-- an int within bounds -/
def isW (lo hi : Int) : V → Bool
  | .int i => decide (lo ≤ i) && decide (i ≤ hi)
  | _ => false
/-- a value whose class is known -/
def Kn (K : PySem.W.Frag) (H : Hp) (x : V) : Prop := x = .non ∨ (∃ b, x = .bl b) ∨ (∃ i, x = .int i) ∨ (∃ z, x = .str z) ∨ (∃ a xs, x = .ref a ∧ H a = some (.lst xs)) ∨ ∃ a xs, x = .ref a ∧ H a = some (.tup xs)
theorem Kn.same {K : PySem.W.Frag} {H H' : Hp} {x : V} (k : Kn K H x) (s : Same H H') : Kn K H' x := by
  rcases k with k | k | k | k | ⟨a, xs, e, h⟩ | ⟨a, xs, e, h⟩
  · exact .inl k
  · exact .inr (.inl k)
  · exact .inr (.inr (.inl k))
  · exact .inr (.inr (.inr (.inl k)))
  · exact .inr (.inr (.inr (.inr (.inl ⟨a, xs, e, s _ _ h⟩))))
  · exact .inr (.inr (.inr (.inr (.inr ⟨a, xs, e, s _ _ h⟩))))
def isIB : V → Bool
  | .int _ => true
  | .bl _ => true
  | _ => false
def isBl : V → Bool
  | .bl _ => true
  | _ => false
def tupO : Option HO → Bool
  | some (.tup _) => true
  | _ => false
def isTup (H : Hp) : V → Bool
  | .ref a => tupO (H a)
  | _ => false
theorem kit_kn {K : PySem.W.Frag} {H : Hp} {x : V} (k : Kn K H x) {T : String} {b : V → Bool} (hT : (T = "int" ∧ b = isIB) ∨ (T = "bool" ∧ b = isBl) ∨ (T = "tuple" ∧ b = isTup H)) : ∃ t, TyX K H x t ∧ PySem.W.kitOne K t (.type T) = some (b x) := by
  rcases k with rfl | ⟨c, rfl⟩ | ⟨i, rfl⟩ | ⟨z, rfl⟩ | ⟨a, xs, rfl, h⟩ | ⟨a, xs, rfl, h⟩
  · exact ⟨_, .base .non, by rcases hT with ⟨rfl, rfl⟩ | ⟨rfl, rfl⟩ | ⟨rfl, rfl⟩ <;> first | exact kit_ty (r := true) (by decide +kernel) | exact kit_ty (r := false) (by decide +kernel)⟩
  · exact ⟨_, .base (.bl c), by rcases hT with ⟨rfl, rfl⟩ | ⟨rfl, rfl⟩ | ⟨rfl, rfl⟩ <;> first | exact kit_ty (r := true) (by decide +kernel) | exact kit_ty (r := false) (by decide +kernel)⟩
  · exact ⟨_, .base (.int i), by rcases hT with ⟨rfl, rfl⟩ | ⟨rfl, rfl⟩ | ⟨rfl, rfl⟩ <;> first | exact kit_ty (r := true) (by decide +kernel) | exact kit_ty (r := false) (by decide +kernel)⟩
  · exact ⟨_, .base (.str z), by rcases hT with ⟨rfl, rfl⟩ | ⟨rfl, rfl⟩ | ⟨rfl, rfl⟩ <;> first | exact kit_ty (r := true) (by decide +kernel) | exact kit_ty (r := false) (by decide +kernel)⟩
  · refine ⟨_, .base (.lst h), ?_⟩
    rcases hT with ⟨rfl, rfl⟩ | ⟨rfl, rfl⟩ | ⟨rfl, rfl⟩
    · first | exact kit_ty (r := true) (by decide +kernel) | exact kit_ty (r := false) (by decide +kernel)
    · first | exact kit_ty (r := true) (by decide +kernel) | exact kit_ty (r := false) (by decide +kernel)
    · show _ = some (tupO (H a))
      rw [h]
      first | exact kit_ty (r := true) (by decide +kernel) | exact kit_ty (r := false) (by decide +kernel)
  · refine ⟨_, .base (.tup h), ?_⟩
    rcases hT with ⟨rfl, rfl⟩ | ⟨rfl, rfl⟩ | ⟨rfl, rfl⟩
    · first | exact kit_ty (r := true) (by decide +kernel) | exact kit_ty (r := false) (by decide +kernel)
    · first | exact kit_ty (r := true) (by decide +kernel) | exact kit_ty (r := false) (by decide +kernel)
    · show _ = some (tupO (H a))
      rw [h]
      first | exact kit_ty (r := true) (by decide +kernel) | exact kit_ty (r := false) (by decide +kernel)

section
variable {P : Program} {w : World} {K : PySem.W.Frag} {mg : Str → Option Value} {base : Heap}

def spIsInt (K : PySem.W.Frag) : Sp := fun vs H Q _ => ∃ x, vs = [x] ∧ Kn K H x ∧ Q (.bl (isI x)) H
theorem isI_of (x : V) : isI x = (isIB x && !isBl x) := by cases x <;> rfl
theorem ok_is_integer (T : Tx K mg) : FnOk P w K mg base CX0 1 T.is_integer.f T.is_integer.d ["thing"] (spIsInt K) := by
  refine T.is_integer.F.ok sc_is_integer (fun vs H Q E h => ?_) (fun cdv A outer s H vs Q E hr h => ?_)
  · obtain ⟨x, rfl, _⟩ := h
    rfl
  · obtain ⟨x, rfl, hk, q⟩ := h
    refine ⟨_, pss_one (ps_ret (pe_and (pe_callB call_isi (by rfl) T.z_isinstance (by decide +kernel) (pa_cons (pv 0) (pa_cons (pe_bltn (v := .ty "int") (by rfl) T.z_int (by decide +kernel) rfl) pa_nil)))
      (pe_one (pe_not (pe_callB call_isi (by rfl) T.z_isinstance (by decide +kernel) (pa_cons (pv 0) (pa_cons (pe_bltn (v := .ty "bool") (by rfl) T.z_bool (by decide +kernel) rfl) pa_nil))))))), ?_⟩
    obtain ⟨t, ht, e⟩ := kit_kn hk (T := "int") (.inl ⟨rfl, rfl⟩)
    refine ⟨x, rfl, x, _, t, _, _, rfl, .ty "int", ht, e, _, rfl, ?_⟩
    rw [isI_of x] at q
    cases hi : isIB x with
    | false =>
      rw [hi] at q
      exact iteF q
    | true =>
      rw [hi] at q
      refine iteT ?_
      obtain ⟨t, ht, e⟩ := kit_kn hk (T := "bool") (.inr (.inl ⟨rfl, rfl⟩))
      exact ⟨x, rfl, x, _, t, _, _, rfl, .ty "bool", ht, e, _, rfl, q⟩

def spIsWithin (K : PySem.W.Frag) : Sp := fun vs H Q _ => ∃ x lo hi, vs = [x, .int lo, .int hi] ∧ Kn K H x ∧ Q (.bl (isW lo hi x)) H
theorem ok_is_within (T : Tx K mg) : FnOk P w K mg base CX0 2 T.is_within.f T.is_within.d ["thing", "least", "most"] (spIsWithin K) := by
  refine T.is_within.F.ok sc_is_within (fun vs H Q E h => ?_) (fun cdv A outer s H vs Q E hr h => ?_)
  · obtain ⟨x, lo, hi, rfl, _⟩ := h
    rfl
  · obtain ⟨x, lo, hi, rfl, hk, q⟩ := h
    refine ⟨_, pss_one (ps_ret (pe_and (pe_call (ok_is_integer T) hr rfl T.is_integer.g T.is_integer.F.kp T.is_integer.b .nil pass0 (pa_cons (pv 0) pa_nil))
      (pe_one (pe_chain op_le op_le (pv 1) (pv 0) (pv 2))))), ?_⟩
    refine ⟨x, rfl, x, rfl, hk, _, rfl, ?_⟩
    cases x with
    | int i =>
      refine iteT ⟨_, rfl, _, rfl, _, _, rfl, rfl, _, rfl, ?_⟩
      have q' : Q (.bl (decide (lo ≤ i) && decide (i ≤ hi))) H := q
      by_cases h1 : lo ≤ i
      · rw [decide_eq_true h1] at q' ⊢
        exact iteT ⟨_, rfl, _, _, rfl, rfl, q'⟩
      · rw [decide_eq_false h1] at q' ⊢
        exact iteF q'
    | _ => exact iteF q

/-- check_number: nothing, or NoNumber -/
def spCheckNumber (K : PySem.W.Frag) (mg : Str → Option Value) (T : Tx K mg) : Sp := fun vs H Q E => ∃ x lo hi, vs = [x, .int lo, .int hi] ∧ Kn K H x ∧ (isW lo hi x = true → Q .non H) ∧ (isW lo hi x = false → E (.ref T.NoNumber.C) none H)
theorem ok_check_number (T : Tx K mg) : FnOk P w K mg base (L2.CX P w) 3 T.check_number.f T.check_number.d ["thing", "least", "most"] (spCheckNumber K mg T) := by
  refine T.check_number.F.okX sc_check_number (fun vs H Q E h => ?_) (fun cdv A outer s H vs Q E hr h => ?_)
  · obtain ⟨x, lo, hi, rfl, _⟩ := h
    rfl
  · obtain ⟨x, lo, hi, rfl, hk, q1, q2⟩ := h
    refine ⟨_, pss_one (ps_if (pt_not (pt_val (pe_call (ok_is_within T) hr rfl T.is_within.g T.is_within.F.kp T.is_within.b .nil pass0 (pa_cons (pv 0) (pa_cons (pv 1) (pa_cons (pv 2) pa_nil))))))
      (pss_one (ps_raise rfl (takes_of rfl rfl rfl rfl) (pmk_bare T.NoNumber rfl))) pss_nil), ?_⟩
    refine ⟨x, rfl, _, rfl, _, rfl, x, lo, hi, rfl, hk, _, rfl, ?_⟩
    cases hw : isW lo hi x with
    | true => exact iteF (q1 hw)
    | false => exact iteT (q2 hw)
end
end Fo

/-! Comprehensions that keep what stood; sizes, rows. -/
namespace Fo
open PySem PySem.Spec PyProof.Rows L2
open RZ (ItzT pi_zipA)

theorem pe_const {X : Cx} {x : Str} {i : Int} {pos : Pos} (T : IntIn X.mg x i) (hg : Gl X x) (hd : (x == ("__debug__" : Str)) = false := by decide) : PE X (.Name x pos) (tC (.int i)) := pe_glob (v := .int i) hg T.g ⟨T.t, rfl⟩ hd
theorem range_map_succ {α : Type} (f : Nat → α) (i : Nat) : (List.range (i + 1)).map f = (List.range i).map f ++ [f i] := by
  rw [List.range_succ, List.map_append]
  rfl
theorem range_filter_succ (p : Nat → Bool) (i : Nat) : (List.range (i + 1)).filter p = (List.range i).filter p ++ (if p i = true then [i] else []) := by
  rw [List.range_succ, List.filter_append]
  congr 1
  by_cases h : p i = true
  · rw [if_pos h, List.filter_cons, if_pos h]
    rfl
  · rw [if_neg h, List.filter_cons, if_neg h]
    rfl
/-- a list comprehension whose elements keep what stood: each turn gives f i -/
theorem lc_pure {J : It} {n : Nat} {G : Hp → Prop} {Y : Nat → Hp → V → Hp → Prop} (w : Walk J n G Y) (f : Nat → V) {g : TG} {te : TE} {vs : List Nat} {σ : L2.St} {H1 : Hp} {D : Addr} {Qd : Hp → Prop} (hD : H1 D = none) (hn : n ≤ 1000000) (hG : ∀ H, Same H1 H → G H)
    (hs : ∀ i x H H', i < n → Same H1 H → H D = some (.lst ((List.range i).map f)) → Y i H x H' → ∀ R : VK, (∀ H4, Same H H4 → R (f i) H4) → g x (wipe σ vs) H' fun σ2 H2 => wipe σ2 vs = wipe σ vs ∧ te σ2 H2 R)
    (hd : ∀ H, Same H1 H → H D = some (.lst ((List.range n).map f)) → Qd H) :
    ∃ W : Nat → Nat → Hp → Prop, (∃ m, W 0 m (upd H1 D (.lst []))) ∧ ∀ i m H, W i m H →
      (J.stop i H ∧ Qd H) ∨ (J.go i H ∧ ∃ Nx : Hp → Prop, (∀ H', Nx H' → ∃ m', m' < m ∧ W (i + 1) m' H') ∧ ∀ x H', J.yld i H x H' → g x (wipe σ vs) H' fun σ2 H2 => wipe σ2 vs = wipe σ vs ∧ tYes σ2 H2 fun b H3 =>
        if b = true then te σ2 H3 fun y H4 => ∃ acc, H4 D = some (.lst acc) ∧ acc.length < sizeLine ∧ Nx (upd H4 D (.lst (acc ++ [y]))) else Nx H3) := by
  have sD : ∀ {H : Hp} {o : HO}, Same H1 H → Same H1 (upd H D o) := fun {H o} s b u e => by
    rw [upd_ne (ne_of_none e hD)]
    exact s b u e
  refine lc_it w (fun i H => Same H1 H ∧ H D = some (.lst ((List.range i).map f))) ⟨sD (Same.refl _), upd_same⟩ (fun i H hi p => hG H p.1) (fun i x H H' hi p y => ?_) (fun H p => hd H p.1 p.2)
  refine hs i x H H' hi p.1 p.2 y _ fun H4 s4 => ⟨_, s4 _ _ p.2, ?_, sD (p.1.trans s4), ?_⟩
  · rw [List.length_map, List.length_range, sizeLine_eq]
    omega
  · rw [upd_same, range_map_succ]
/-- .. with a test -/
theorem lc_keep {J : It} {n : Nat} {G : Hp → Prop} {Y : Nat → Hp → V → Hp → Prop} (w : Walk J n G Y) (p : Nat → Bool) (f : Nat → V) {g : TG} {tt : TT} {te : TE} {vs : List Nat} {σ : L2.St} {H1 : Hp} {D : Addr} {Qd : Hp → Prop} (hD : H1 D = none) (hn : n ≤ 1000000) (hG : ∀ H, Same H1 H → G H)
    (hs : ∀ i x H H', i < n → Same H1 H → H D = some (.lst (((List.range i).filter p).map f)) → Y i H x H' → ∀ (R : VK) (R' : Hp → Prop), (p i = true → ∀ H4, Same H H4 → R (f i) H4) → (p i = false → ∀ H4, Same H H4 → R' H4) →
      g x (wipe σ vs) H' fun σ2 H2 => wipe σ2 vs = wipe σ vs ∧ tt σ2 H2 fun b H3 => if b = true then te σ2 H3 R else R' H3)
    (hd : ∀ H, Same H1 H → H D = some (.lst (((List.range n).filter p).map f)) → Qd H) :
    ∃ W : Nat → Nat → Hp → Prop, (∃ m, W 0 m (upd H1 D (.lst []))) ∧ ∀ i m H, W i m H →
      (J.stop i H ∧ Qd H) ∨ (J.go i H ∧ ∃ Nx : Hp → Prop, (∀ H', Nx H' → ∃ m', m' < m ∧ W (i + 1) m' H') ∧ ∀ x H', J.yld i H x H' → g x (wipe σ vs) H' fun σ2 H2 => wipe σ2 vs = wipe σ vs ∧ tt σ2 H2 fun b H3 =>
        if b = true then te σ2 H3 fun y H4 => ∃ acc, H4 D = some (.lst acc) ∧ acc.length < sizeLine ∧ Nx (upd H4 D (.lst (acc ++ [y]))) else Nx H3) := by
  have sD : ∀ {H : Hp} {o : HO}, Same H1 H → Same H1 (upd H D o) := fun {H o} s b u e => by
    rw [upd_ne (ne_of_none e hD)]
    exact s b u e
  refine lc_it w (fun i H => Same H1 H ∧ H D = some (.lst (((List.range i).filter p).map f))) ⟨sD (Same.refl _), upd_same⟩ (fun i H hi q => hG H q.1) (fun i x H H' hi q y => ?_) (fun H q => hd H q.1 q.2)
  refine hs i x H H' hi q.1 q.2 y _ _ (fun hp H4 s4 => ⟨_, s4 _ _ q.2, ?_, sD (q.1.trans s4), ?_⟩) (fun hp H4 s4 => ⟨q.1.trans s4, ?_⟩)
  · have h1 : ((List.range i).filter p).length ≤ (List.range i).length := List.length_filter_le _ _
    rw [List.length_range] at h1
    rw [List.length_map, sizeLine_eq]
    omega
  · rw [upd_same, range_filter_succ, if_pos hp, List.map_append]
    rfl
  · rw [range_filter_succ, if_neg (by rw [hp]; exact Bool.false_ne_true), List.append_nil]
    exact s4 _ _ q.2

theorem walk_zipT {K : PySem.W.Frag} {a b : Addr} {xs ys : List V} {n : Nat} (hn : n = min xs.length ys.length) : Walk (ItzT K a b) n (fun H => SqT K H a xs ∧ SqT K H b ys) (YPair (fun i => xs[i]?) (fun i => ys[i]?)) :=
  ⟨fun i H hi q => ⟨xs, ys, xs[i], ys[i], q.1, q.2, List.getElem?_eq_getElem (by omega), List.getElem?_eq_getElem (by omega)⟩,
    fun H q => ⟨xs, ys, q.1, q.2, by omega⟩,
    fun i H v H' hi q y => by
      obtain ⟨T, x', y', e1, hT, e2, f1, f2⟩ := y
      exact ⟨T, x', y', e1, hT, e2, f1 xs q.1, f2 ys q.2⟩⟩

theorem same_upd {H H' : Hp} {p : Addr} {o : HO} (s : Same H H') (hp : H' p = none) : Same H (upd H' p o) := fun b u e => by
  have h := s b u e
  rw [upd_ne (ne_of_none h hp)]
  exact h
theorem same_sqT {K : PySem.W.Frag} {H H' : Hp} {a : Addr} {xs : List V} (e : Same H H') (h : SqT K H a xs) : SqT K H' a xs := by
  rcases h with (h | ⟨o, h⟩) | h
  · exact .inl (.inl (e _ _ h))
  · exact .inl (.inr ⟨o, e _ _ h⟩)
  · exact .inr h
theorem getD_get {α : Type} {xs : List α} {i : Nat} {d : α} (h : i < xs.length) : xs[i]? = some (xs.getD i d) := by
  rw [List.getD_eq_getElem?_getD, List.getElem?_eq_getElem h]
  rfl
theorem of_get {α : Type} {xs : List α} {i : Nat} {x d : α} (h : xs[i]? = some x) : xs.getD i d = x := by
  rw [List.getD_eq_getElem?_getD, h]
  rfl
theorem map_range_getD {α β : Type} (f : α → β) (d : α) : ∀ xs : List α, (List.range xs.length).map (fun i => f (xs.getD i d)) = xs.map f := fun xs => by
  refine List.ext_getElem? fun i => ?_
  rw [List.getElem?_map, List.getElem?_map]
  by_cases h : i < xs.length
  · rw [List.getElem?_range h, List.getElem?_eq_getElem h]
    show some (f (xs.getD i d)) = some (f xs[i])
    rw [of_get (List.getElem?_eq_getElem h)]
  · rw [List.getElem?_eq_none (by rw [List.length_range]; omega), List.getElem?_eq_none (by omega)]
    rfl
theorem all_id_map {α : Type} (p : α → Bool) (xs : List α) : (xs.map p).all id = xs.all p := by
  rw [List.all_map]
  rfl

section
variable {P : Program} {w : World} {K : PySem.W.Frag} {mg : Str → Option Value} {base : Heap}

/-- what are_counts says of a tuple's items -/
def cntB (lo : Int) (xs : List V) : Bool := decide (1 ≤ xs.length) && decide (xs.length ≤ 8) && xs.all (isW lo (10 ^ 30))
def spCounts (K : PySem.W.Frag) : Sp := fun vs H Q _ => ∃ x lo, vs = [x, .int lo] ∧
  ((∃ a xs, x = .ref a ∧ H a = some (.tup xs) ∧ (∀ z ∈ xs, Kn K H z) ∧ ∀ H', Same H H' → Q (.bl (cntB lo xs)) H') ∨ (Kn K H x ∧ isTup H x = false ∧ Q (.bl false) H))
theorem ok_are_counts (T : Tx K mg) : FnOk P w K mg base CX0 3 T.are_counts.f T.are_counts.d ["thing", "least"] (spCounts K) := by
  refine T.are_counts.F.ok sc_are_counts (fun vs H Q E h => ?_) (fun cdv A outer s H vs Q E hr h => ?_)
  · obtain ⟨x, lo, rfl, _⟩ := h
    rfl
  · obtain ⟨x, lo, rfl, h⟩ := h
    refine ⟨_, pss_cons (ps_if (PW.pt (pw_or (pt_not (pt_val (pe_callB call_isi (by rfl) T.z_isinstance (by decide +kernel) (pa_cons (pv 0) (pa_cons (pe_bltn (v := .ty "tuple") (by rfl) T.z_tuple (by decide +kernel) rfl) pa_nil)))))
        (pw_or1 (pt_not (pt_chain op_le op_le pe_int (pe_callB call_len (by rfl) T.z_len (by decide +kernel) (pa_cons (pv 0) pa_nil)) (pe_const T.MOST_KINDS rfl))))))
      (pss_one (ps_ret pe_bl)) pss_nil)
      (pss_one (ps_ret (pe_callB (cr_all rfl) (by rfl) T.z_all (by decide +kernel) (pa_cons (pe_lc (own := [("number", 2)]) (g := gName 2) (tt := tYes) rfl sc_are_counts.nd (pi_tup (pv 0)) (blkOk_by (N := N_are_counts) (sc := defScope s_are_counts) (by decide +kernel))
        (fun _ _ _ _ _ => pg_name (i := 2) sc_are_counts.nd rfl (Or.inl rfl)) (fun _ _ _ _ _ => pts_nil)
        (fun _ _ _ _ _ => pe_call (ok_is_within T) hr rfl T.is_within.g T.is_within.F.kp T.is_within.b .nil pass0 (pa_cons (pv 2) (pa_cons (pv 1) (pa_cons (pe_const T.MOST_OF_KIND rfl) pa_nil))))) pa_nil)))), ?_⟩
    rcases h with ⟨a, xs, rfl, ha, hk, q⟩ | ⟨hk, ht, q⟩
    · obtain ⟨t, ht, e⟩ := kit_kn (x := .ref a) (K := K) (.inr (.inr (.inr (.inr (.inr ⟨a, xs, rfl, ha⟩))))) (T := "tuple") (.inr (.inr ⟨rfl, rfl⟩))
      have et : isTup H (.ref a) = true := by
        show tupO (H a) = true
        rw [ha]
        rfl
      refine ⟨.ref a, rfl, .ref a, _, t, _, _, rfl, .ty "tuple", ht, e, _, rfl, ?_⟩
      rw [et]
      refine iteF ⟨.ref a, rfl, .ref a, xs.length, rfl, .inr ⟨xs, SqT.of ha, rfl⟩, _, _, rfl, rfl, _, rfl, ?_⟩
      by_cases h1 : (1 : Int) ≤ ((xs.length : Nat) : Int)
      · rw [decide_eq_true h1]
        refine iteT ⟨_, _, rfl, rfl, _, rfl, ?_⟩
        by_cases h8 : ((xs.length : Nat) : Int) ≤ 8
        · rw [decide_eq_true h8]
          refine iteF ⟨.ref a, rfl, a, rfl, ⟨xs, SqT.of ha⟩, fun D hD => ?_⟩
          refine lc_pure (walk_tup (K := K) (a := a) (xs := xs)) (fun i => .bl (isW lo (10 ^ 30) (xs.getD i .non))) hD (by omega) (fun H1 s => SqT.of (s _ _ ha)) (fun i x H1 H2 hi s hDl y R hR => ?_) (fun H1 s hl => ?_)
          · obtain ⟨rfl, hx⟩ := y
            have ex : xs.getD i .non = x := of_get hx
            refine ⟨rfl, x, rfl, .int lo, rfl, x, lo, _, rfl, (hk x (List.mem_of_getElem? hx)).same s, ?_⟩
            have r := hR H2 (Same.refl _)
            have e2 : (fun i => V.bl (isW lo (10 ^ 30) (xs.getD i .non))) i = .bl (isW lo (10 ^ 30) x) := by
              show V.bl (isW lo (10 ^ 30) (xs.getD i .non)) = _
              rw [ex]
            rw [← e2]
            exact r
          · refine ⟨D, xs.map (isW lo (10 ^ 30)), rfl, SqL.of ?_, ?_⟩
            · rw [hl]
              have e2 := map_range_getD (fun x => V.bl (isW lo (10 ^ 30) x)) .non xs
              rw [e2, List.map_map]
              rfl
            · rw [all_id_map]
              have e3 : cntB lo xs = xs.all (isW lo (10 ^ 30)) := by
                unfold cntB
                rw [decide_eq_true (show 1 ≤ xs.length by omega), decide_eq_true (show xs.length ≤ 8 by omega)]
                rfl
              rw [← e3]
              exact q _ s
        · rw [decide_eq_false h8]
          refine iteT ?_
          have e3 : cntB lo xs = false := by
            unfold cntB
            rw [decide_eq_false (show ¬ xs.length ≤ 8 by omega), Bool.and_false]
            rfl
          show Q (.bl false) H
          rw [← e3]
          exact q _ (Same.refl _)
      · rw [decide_eq_false h1]
        refine iteF ⟨_, rfl, iteT ?_⟩
        have e3 : cntB lo xs = false := by
          unfold cntB
          rw [decide_eq_false (show ¬ 1 ≤ xs.length by omega), Bool.false_and]
          rfl
        show Q (.bl false) H
        rw [← e3]
        exact q _ (Same.refl _)
    · obtain ⟨t, hty, e⟩ := kit_kn hk (T := "tuple") (.inr (.inr ⟨rfl, rfl⟩))
      refine ⟨x, rfl, x, _, t, _, _, rfl, .ty "tuple", hty, e, _, rfl, ?_⟩
      rw [ht]
      exact iteT (iteT q)

/-- check_sizes: nothing, or NoSizes -/
def spCheckSizes (K : PySem.W.Frag) (mg : Str → Option Value) (T : Tx K mg) : Sp := fun vs H Q E => ∃ x, vs = [x] ∧
  ((∃ a xs, x = .ref a ∧ H a = some (.tup xs) ∧ (∀ z ∈ xs, Kn K H z) ∧ (cntB 1 xs = true → ∀ H', Same H H' → Q .non H') ∧ (cntB 1 xs = false → ∀ H', Same H H' → E (.ref T.NoSizes.C) none H')) ∨ (Kn K H x ∧ isTup H x = false ∧ E (.ref T.NoSizes.C) none H))
theorem ok_check_sizes (T : Tx K mg) : FnOk P w K mg base (L2.CX P w) 4 T.check_sizes.f T.check_sizes.d ["sizes"] (spCheckSizes K mg T) := by
  refine T.check_sizes.F.okX sc_check_sizes (fun vs H Q E h => ?_) (fun cdv A outer s H vs Q E hr h => ?_)
  · obtain ⟨x, rfl, _⟩ := h
    rfl
  · obtain ⟨x, rfl, h⟩ := h
    refine ⟨_, pss_one (ps_if (pt_not (pt_val (pe_call (ok_are_counts T) hr rfl T.are_counts.g T.are_counts.F.kp T.are_counts.b .nil pass0 (pa_cons (pv 0) (pa_cons pe_int pa_nil)))))
      (pss_one (ps_raise rfl (takes_of rfl rfl rfl rfl) (pmk_bare T.NoSizes rfl))) pss_nil), ?_⟩
    refine ⟨x, rfl, x, 1, rfl, ?_⟩
    rcases h with ⟨a, xs, rfl, ha, hk, q1, q2⟩ | ⟨hk, ht, q⟩
    · refine .inl ⟨a, xs, rfl, ha, hk, fun H' s => ⟨_, rfl, ?_⟩⟩
      cases hc : cntB 1 xs with
      | true => exact iteF (q1 hc H' s)
      | false => exact iteT (q2 hc H' s)
    · exact .inr ⟨hk, ht, _, rfl, iteT q⟩

/-- an ascending row -/
def ascB (ns : List Int) : Bool := ((List.range (ns.length - 1)).map fun i => decide (ns.getD i 0 < ns.getD (i + 1) 0)).all id
def spAsc : Sp := fun vs H Q _ => ∃ a ns, vs = [.ref a] ∧ H a = some (.tup (ns.map V.int)) ∧ ns.length ≤ 1000 ∧ ∀ H', Same H H' → Q (.bl (ascB ns)) H'
theorem ok_are_ascending (T : Tx K mg) : FnOk P w K mg base CX0 1 T.are_ascending.f T.are_ascending.d ["things"] spAsc := by
  refine T.are_ascending.F.ok sc_are_ascending (fun vs H Q E h => ?_) (fun cdv A outer s H vs Q E hr h => ?_)
  · obtain ⟨a, ns, rfl, _⟩ := h
    rfl
  · obtain ⟨a, ns, rfl, ha, hlen, q⟩ := h
    refine ⟨_, pss_one (ps_ret (pe_callB (cr_all rfl) (by rfl) T.z_all (by decide +kernel) (pa_cons (pe_lc (own := [("one", 1), ("other", 2)]) (g := gTup K 2 (gCons (gName 1) (gCons (gName 2) gNil))) (tt := tYes) rfl sc_are_ascending.nd
        (pi_zipA (by rfl) T.z_zip (pa_cons (pv 0) (pa_cons (pe_slice sl_tupA (pv 0) (po_some pe_int) po_none) pa_nil))) (blkOk_by (N := N_are_ascending) (sc := defScope s_are_ascending) (by decide +kernel))
        (fun _ _ _ _ _ => pg_tup rfl (pgs_cons (pg_name (i := 1) sc_are_ascending.nd rfl (Or.inl rfl)) (pgs_cons (pg_name (i := 2) sc_are_ascending.nd rfl (Or.inl rfl)) pgs_nil))) (fun _ _ _ _ _ => pts_nil)
        (fun _ _ _ _ _ => pe_cmpR op_lt (pv 1) (pv 2) (nomark _))) pa_nil))), ?_⟩
    have go : ∀ (b : Addr) (H1 : Hp), Same H H1 → SqT K H1 b ((ns.map V.int).drop 1) → ∀ D, H1 D = none → ∃ W : Nat → Nat → Hp → Prop, (∃ m, W 0 m (upd H1 D (.lst []))) ∧ ∀ i m H2, W i m H2 →
        ((ItzT K a b).stop i H2 ∧ (∃ (a : Addr) (bs : List Bool), [V.ref D] = [V.ref a] ∧ SqL K H2 a (bs.map V.bl) ∧ Q (.bl (bs.all id)) H2)) ∨ ((ItzT K a b).go i H2 ∧ ∃ Nx : Hp → Prop, (∀ H', Nx H' → ∃ m', m' < m ∧ W (i + 1) m' H') ∧ ∀ x H', (ItzT K a b).yld i H2 x H' → gTup K 2 (gCons (gName 1) (gCons (gName 2) gNil)) x (wipe (start N_are_ascending [V.ref a]) [1, 2]) H' fun σ2 H2 => wipe σ2 [1, 2] = wipe (start N_are_ascending [V.ref a]) [1, 2] ∧ tYes σ2 H2 fun b H3 =>
          if b = true then tOp (rI0 fun i j => .bl (decide (i < j))) (tVar 1) (tVar 2) σ2 H3 fun y H4 => ∃ acc, H4 D = some (.lst acc) ∧ acc.length < sizeLine ∧ Nx (upd H4 D (.lst (acc ++ [y]))) else Nx H3) := by
      intro b H1 s1 hb D hD
      refine lc_pure (walk_zipT (K := K) (a := a) (b := b) (xs := ns.map V.int) (ys := (ns.map V.int).drop 1) rfl) (fun i => .bl (decide (ns.getD i 0 < ns.getD (i + 1) 0))) hD ?_ (fun H2 s => ⟨SqT.of (s _ _ (s1 _ _ ha)), same_sqT s hb⟩) (fun i x H2 H3 hi s hDl y R hR => ?_) (fun H2 s hl => ?_)
      · rw [List.length_drop, List.length_map]
        omega
      · obtain ⟨Tp, x1, x2, rfl, hT, rfl, e1, e2⟩ := y
        rw [List.length_drop, List.length_map] at hi
        have g1 : (ns.map V.int)[i]? = some (.int (ns.getD i 0)) := by
          rw [List.getElem?_map, getD_get (d := 0) (show i < ns.length by omega)]
          rfl
        have g2 : ((ns.map V.int).drop 1)[i]? = some (.int (ns.getD (i + 1) 0)) := by
          rw [List.getElem?_drop, List.getElem?_map, getD_get (d := 0) (show 1 + i < ns.length by omega), Nat.add_comm]
          rfl
        have f1 : x1 = .int (ns.getD i 0) := Option.some.inj (e1.symm.trans g1)
        have f2 : x2 = .int (ns.getD (i + 1) 0) := Option.some.inj (e2.symm.trans g2)
        subst f1
        subst f2
        refine ⟨Tp, _, rfl, SqT.of upd_same, rfl, _, _, rfl, _, _, rfl, rfl, rfl, ?_⟩
        exact ⟨_, rfl, _, rfl, _, _, rfl, rfl, hR _ (same_upd (Same.refl _) hT)⟩
      · have en : min (ns.map V.int).length ((ns.map V.int).drop 1).length = ns.length - 1 := by
          rw [List.length_drop, List.length_map]
          omega
        rw [en] at hl
        refine ⟨D, (List.range (ns.length - 1)).map fun i => decide (ns.getD i 0 < ns.getD (i + 1) 0), rfl, SqL.of ?_, q _ (s1.trans s)⟩
        rw [hl, List.map_map]
        rfl
    refine ⟨.ref a, rfl, .ref a, rfl, _, rfl, a, _, rfl, SqT.of ha, fun hw => ?_, fun hw p hp => ?_⟩
    · have e : (ns.map V.int).drop 1 = ns.map V.int := by
        have h0 : (ns.map V.int).length = 0 := by
          have h1 : HT.sIx (ns.map V.int).length 0 (some ((1 : Nat) : Int)) = 0 := hw.1
          rw [HT.sIx_nat] at h1
          omega
        rw [List.eq_nil_of_length_eq_zero h0]
        rfl
      exact ⟨a, a, _, _, rfl, .inr ⟨SqT.of ha, SqT.of ha, go a H (Same.refl _) (by rw [e]; exact SqT.of ha)⟩⟩
    · refine ⟨a, p, _, _, rfl, .inr ⟨SqT.of (by rw [upd_ne (ne_of_none ha hp)]; exact ha), SqT.of upd_same, go p _ (same_upd (Same.refl _) hp) (SqT.of ?_)⟩⟩
      rw [upd_same]
      congr 2
      have e : ∀ l : List V, cutV l (some 1) none = l.drop 1 := fun l => by
        show (l.drop (HT.sIx l.length 0 (some ((1 : Nat) : Int)))).take (l.length - HT.sIx l.length 0 (some ((1 : Nat) : Int))) = _
        rw [HT.sIx_nat]
        cases l with
        | nil => rfl
        | cons x r =>
          rw [show min 1 (x :: r).length = 1 by rw [List.length_cons]; omega]
          exact List.take_of_length_le (by rw [List.length_drop]; omega)
      exact e _

/-- a row of kinds -/
def lotB (ns : List Int) (many : Int) : Bool := ns.all (fun z => isW 0 (many - 1) (.int z)) && ascB ns
def spLot : Sp := fun vs H Q _ => ∃ a ns many, vs = [.ref a, .int many] ∧ H a = some (.tup (ns.map V.int)) ∧ ns.length ≤ 1000 ∧ ∀ H', Same H H' → Q (.bl (lotB ns many)) H'
theorem ok_is_lot_of (T : Tx K mg) : FnOk P w K mg base CX0 3 T.is_lot_of.f T.is_lot_of.d ["thing", "many"] spLot := by
  refine T.is_lot_of.F.ok sc_is_lot_of (fun vs H Q E h => ?_) (fun cdv A outer s H vs Q E hr h => ?_)
  · obtain ⟨a, ns, many, rfl, _⟩ := h
    rfl
  · obtain ⟨a, ns, many, rfl, ha, hlen, q⟩ := h
    refine ⟨_, pss_cons (ps_if (PW.pt (pw_or (pt_not (pt_val (pe_callB call_isi (by rfl) T.z_isinstance (by decide +kernel) (pa_cons (pv 0) (pa_cons (pe_bltn (v := .ty "tuple") (by rfl) T.z_tuple (by decide +kernel) rfl) pa_nil)))))
        (pw_or1 (pt_not (pt_val (pe_callB (cr_all rfl) (by rfl) T.z_all (by decide +kernel) (pa_cons (pe_lc (own := [("one", 2)]) (g := gName 2) (tt := tYes) rfl sc_is_lot_of.nd (pi_tup (pv 0)) (blkOk_by (N := N_is_lot_of) (sc := defScope s_is_lot_of) (by decide +kernel))
          (fun _ _ _ _ _ => pg_name (i := 2) sc_is_lot_of.nd rfl (Or.inl rfl)) (fun _ _ _ _ _ => pts_nil)
          (fun _ _ _ _ _ => pe_call (ok_is_within T) hr rfl T.is_within.g T.is_within.F.kp T.is_within.b .nil pass0 (pa_cons (pv 2) (pa_cons pe_int (pa_cons (pe_op op_sub (pv 1) pe_int) pa_nil))))) pa_nil)))))))
      (pss_one (ps_ret pe_bl)) pss_nil)
      (pss_one (ps_ret (pe_call (ok_are_ascending T) (hr.mono (by decide)) rfl T.are_ascending.g T.are_ascending.F.kp T.are_ascending.b .nil pass0 (pa_cons (pv 0) pa_nil)))), ?_⟩
    obtain ⟨t, ht, e⟩ := kit_kn (x := .ref a) (K := K) (.inr (.inr (.inr (.inr (.inr ⟨a, _, rfl, ha⟩))))) (T := "tuple") (.inr (.inr ⟨rfl, rfl⟩))
    have et : isTup H (.ref a) = true := by
      show tupO (H a) = true
      rw [ha]
      rfl
    refine ⟨.ref a, rfl, .ref a, _, t, _, _, rfl, .ty "tuple", ht, e, _, rfl, ?_⟩
    rw [et]
    refine iteF ⟨.ref a, rfl, a, rfl, ⟨_, SqT.of ha⟩, fun D hD => ?_⟩
    refine lc_pure (walk_tup (K := K) (a := a) (xs := ns.map V.int)) (fun i => .bl (isW 0 (many - 1) ((ns.map V.int).getD i .non))) hD (by rw [List.length_map]; omega) (fun H1 s => SqT.of (s _ _ ha)) (fun i x H1 H2 hi s hDl y R hR => ?_) (fun H1 s hl => ?_)
    · obtain ⟨rfl, hx⟩ := y
      have ex : (ns.map V.int).getD i .non = x := of_get hx
      have hk : Kn K H2 x := by
        obtain ⟨z, _, rfl⟩ := List.mem_map.mp (List.mem_of_getElem? hx)
        exact .inr (.inr (.inl ⟨z, rfl⟩))
      refine ⟨rfl, x, rfl, .int many, rfl, _, _, rfl, rfl, x, 0, _, rfl, hk, ?_⟩
      have r := hR H2 (Same.refl _)
      have e2 : (fun i => V.bl (isW 0 (many - 1) ((ns.map V.int).getD i .non))) i = .bl (isW 0 (many - 1) x) := by
        show V.bl (isW 0 (many - 1) ((ns.map V.int).getD i .non)) = _
        rw [ex]
      rw [← e2]
      exact r
    · refine ⟨D, (ns.map V.int).map (isW 0 (many - 1)), rfl, SqL.of ?_, _, rfl, ?_⟩
      · rw [hl]
        have e2 := map_range_getD (fun x => V.bl (isW 0 (many - 1) x)) .non (ns.map V.int)
        rw [e2, List.map_map, List.map_map, List.map_map]
        rfl
      · rw [all_id_map, List.all_map]
        have e3 : lotB ns many = (ns.all (isW 0 (many - 1) ∘ V.int) && ascB ns) := rfl
        cases hc : ns.all (isW 0 (many - 1) ∘ V.int) with
        | false =>
          rw [hc] at e3
          refine iteT ?_
          show Q (.bl false) H1
          rw [show false = lotB ns many from e3.symm]
          exact q _ s
        | true =>
          rw [hc] at e3
          refine iteF ⟨.ref a, rfl, a, ns, rfl, s _ _ ha, hlen, fun H' s' => ?_⟩
          rw [show ascB ns = lotB ns many by rw [e3]; rfl]
          exact q _ (s.trans s')
end
end Fo

/-! TooMany: its __init__ says super().__init__(most), then keeps most. -/
namespace Fo
open PySem PySem.W PySem.Calls PyProof.Rows PySem.HandSPX

/-- what the written part says of TooMany -/
structure TmAt (P : Program) (K : Frag) (mg : Str → Option Value) where
  C : Addr
  fI : Addr
  gC : mg "TooMany" = some (.ref C)
  cls : ∃ nm q N bs bm sn sub ab col dd k0 k1 k2 k3 k5, K.lookup C = some (excClassObj nm q C N bs bm true sn sub ab col dd k0 k1 k2 k3 k5 "ValueError.__new__") ∧ refsVE bm = true
  sa : findIn K (.ref C) "__setattr__" = some (some (.builtin "object.__setattr__"))
  ga : findIn K (.ref C) "__getattribute__" = some (some (.builtin "BaseException.__getattribute__"))
  gg : findIn K (.ref C) "__getattr__" = some none
  noM : findIn K (.ref C) "most" = some none
  iC : findIn K (.ref C) "__init__" = some (some (.ref fI))
  tI : typeIn K (.ref fI) = some (.type "function")
  kC : keepIn K (.ref C) = true
  exC : subIn K (.ref C) (.type "BaseException") = some true
  veC : subIn K (.ref C) (.type "ValueError") = some true
  tyC : typeIn K (.ref C) = some (.type "type")
  hdC : hasDictIn K C = true
  sup : ks_superIn K C C "__init__" = some (some (.builtin "ValueError.__init__"))
  self : mroIn K C (.ref C) = some true
  third : nsIn K cStatics "thirdparty.any" = some none
  noS : mg "super" = none
  file : (P.main.scope.names.lookup ("super" : Str)).isSome = false
  fn : ∃ (oc : Value) (od : Option Addr) (doc pm : Value) (an : Option Addr) (cda cc : Addr) (ct : Value) (osl : Array (Option Value)) (ccl : Value) (cdd : Option Addr) (vs : Array Value) (ccs : Array (Option Value)) (fl : Str) (tf : Tok) (cl : Value) (cld : Option Addr) (csl : Array (Option Value)),
    K.lookup fI = some ⟨oc, od, .func (ksFn "__init__" "TooMany.__init__" (L2.defArgs s_TooMany_init) (L2.defBody s_TooMany_init) (L2.defScope s_TooMany_init) .none .none doc pm an (.ref cda) ct cc), osl⟩ ∧ codeIn K (.ref cda) "TooMany.__init__" = true ∧
    K.lookup cda = some ⟨ccl, cdd, .fields vs, ccs⟩ ∧ vs[2]? = some (.str fl tf) ∧ ((P.main.file : Str) == fl) = true ∧ K.lookup cc = some ⟨cl, cld, .cell (some (.ref C)), csl⟩

theorem wrap_get {M : Model} {A : Around} {E : Value → Shared → Prop} {s : Shared} {u x : Addr} {pos : Pos} {env : Env} {e : Expr} {Q : Value → Shared → Prop}
    (h : wpAny M A (spliced (backTo pos (starEach [e] env))) (fun vs s₁ => KxsAt "ValueError.__init__" u x s₁.heap ∧ wpAny M A (call (.ref u) vs) Q E s₁) E s)
    (he : starEach [e] env = [(false, eval e env)]) : wpAny M A (callWith pos (.ref u) [] (backTo pos (starEach [e] env)) []) Q E s := by
  have hp : (backTo pos (starEach [e] env)).any (·.1) = false := by
    rw [he]
    rfl
  refine kxs_callWith (i := "ValueError.__init__") (x := x) hp ?_
  rw [he] at h ⊢
  exact evalArgs_plain h

/-- the built-in __init__ bound to the exception, called -/
theorem wrap_call {prog : Program} {w : World} {A : Around} {E : Value → Shared → Prop} {h : Heap} {g : Array GenState} {d : Drawn} {t : Nat} {os : OsState} {nm q : Str} {C N : Addr} {bs bm : List Value} {hdct : Bool} {sn : List Str} {sub : List Value} {ab : Bool} {col : Option Bool} {dd : Option Addr}
    {k0 k1 k2 k3 k5 : Option Value} {u e t0 : Addr} {rest : List Value} {Q : Value → Shared → Prop}
    (hC : h.get? C = some (excClassObj nm q C N bs bm hdct sn sub ab col dd k0 k1 k2 k3 k5 "ValueError.__new__")) (he : h.get? e = some (excO C t0)) (hu : h.get? u = some (kxs_mw "ValueError.__init__" e)) (hrest : rest.length ≤ sizeLine)
    (hq : ∀ h' t1, (∀ b o, b ≠ e → h.get? b = some o → h'.get? b = some o) → h'.get? e = some (excO C t1) → Q .none ⟨h', g, d, t, os⟩) :
    wpAny (model prog w) A (call (.ref u) rest) Q E ⟨h, g, d, t, os⟩ := by
  refine wpAny_call (codeAny_of_tree ?_)
  show wpAny _ A.in1 (callAny (.ref u) ⟨rest, []⟩) _ _ _
  simp only [callAny]
  refine wpAny_bind (wpAny_load hu ?_)
  simp only [kxs_mw, show (Value.type "method-wrapper" == Value.type "method" || Value.type "method-wrapper" == Value.type "builtin_function_or_method" || Value.type "method-wrapper" == Value.type "method-wrapper") = true by decide, if_true]
  refine KFB.if_so (by decide) ?_
  refine wpAny_bind (check_bound_init PySem.F.excBase_ValueError.toExcCallFacts hC he rfl ?_)
  refine wpAny_bind (wpAny_pure (wpAny_pure ?_))
  refine ⟨plainId_quiet PySem.F.excBase_ValueError.init.plain _, codeAny_builtin PySem.F.excBase_ValueError.initEntry ?_⟩
  exact exc_init_tree (cls := .ref C) (t0 := t0) (dv := none) (c2 := .none) (c3 := .none) (b4 := .bool false) he hrest fun h' k e' _ => hq h' _ k e'

theorem tm_ld {M : Model} {s : Shared} {env : Env} {m : Str → Option Value} {x : Str} {pos : Pos} {v : Value} {Q : Value → Shared → Prop} {A : Around} {E : Value → Shared → Prop} (hn : s.heap.Ns env.locals m) (hv : m x = some v) (h : Q v s)
    (hk : env.scope.kind = .function := by rfl) (hl : env.kindOf x = some .local := by rfl) (hd : (x == ("__debug__" : Str)) = false := by decide) :
    wpAny M A (eval (.Name x pos) env) Q E s := wpAny_Name (wpAny_loadName_local hk hl hn hv h) hd

/-- what __init__ leaves of a fresh TooMany at x -/
structure TmEnd (h h' : Heap) (x C dx t1 : Addr) (v : Value) : Prop where
  keep : ∀ b o, b ≠ x → h.get? b = some o → h'.get? b = some o
  obj : h'.get? x = some { cls := .ref C, dict := some dx, data := .fields #[.ref t1, .none, .none, .none, .bool false, .none] }
  dbig : h.objs.size ≤ dx
  dne : dx ≠ x
  ns : h'.Ns1 dx (fun y => if y = "most" then some v else none)

section
variable {P : Program} {w : World} {A : Around} {E : Value → Shared → Prop} {R : Result → Shared → Prop} {s : Shared} {K : Frag} {mg mb : Str → Option Value}
theorem tm_init (M : TmAt P K mg) {x t0 : Addr} {v : Value} (X : K.In s.heap) (hlim : s.heap.NoLimit) (hG : s.heap.Ns mainGlobals mg) (hB : s.heap.Ns builtinsNs mb) (hbb : ∀ x : Str, x ≠ "__name__" → mb x = bootBuiltins x)
    (hx : s.heap.get? x = some (excO M.C t0)) (hnx : K.lookup x = none) (hroom : A.depth < recursionLimit)
    (hq : ∀ h' tk dx t1, TmEnd s.heap h' x M.C dx t1 v → R (.ok (.ret .none)) { s with heap := h', toks := tk }) :
    codeAny (model P w) A (.call (.ref M.fI) ⟨[.ref x, v], []⟩) R s := by
  obtain ⟨oc, od, doc, pm, an, cda, cc, ct, osl, ccl, cdd, vs, ccs, fl, tf, cl, cld, csl, ho, hcd, hco, hvs, hfile, hcell⟩ := M.fn
  obtain ⟨nm, q, N, bs, bm, sn, sub, ab, col, dd, k0, k1, k2, k3, k5, hC, hbm⟩ := M.cls
  have hcl : clsIn K M.C = some { name := nm, bases := bs, mro := .ref M.C :: bm, ns := N, qualname := q, hasDict := true, slotNames := sn, subclasses := sub, abstract := ab, collection := col, hasDel := false } := by unfold clsIn; rw [hC] <;> rfl
  refine ks_codeAny_call_defAt (fd := ksFn "__init__" "TooMany.__init__" (L2.defArgs s_TooMany_init) (L2.defBody s_TooMany_init) (L2.defScope s_TooMany_init) .none .none doc pm an (.ref cda) ct cc) (body := L2.defBody s_TooMany_init) (binds := [("self", .ref x), ("most", v)]) hroom (X _ _ ho) rfl hlim (codeRec_of X hcd) rfl (BindsTo.of_eq (by first | rfl | with_unfolding_all rfl))
    (show ∀ x ∈ (L2.defScope s_TooMany_init).names, x.2 ≠ .cell by decide +kernel) (by first | decide +kernel | (intro y hy; simp only [List.mem_cons, List.not_mem_nil, or_false] at hy; rcases hy with rfl | rfl <;> rfl)) (fun h₀ hns hk => ?_)
  have hns : h₀.Ns s.heap.objs.size (fun y => [((("most" : Str)), v), ((("self" : Str)), .ref x)].lookup y) := hns
  obtain ⟨hp, g, d, t, os⟩ := s
  have X0 : K.In h₀ := X.keeps hk
  have hx0 := hk _ _ hx
  have hxC : x ≠ M.C := fun z => by rw [z, hC] at hnx; cases hnx
  -- super().__init__(most)
  refine ks_wpAt_execs_cons (ks_wpAt_Expr_any (ks_wpAt_MethodCall ?_))
  have I0 : InstAt h₀ x (excO M.C t0) M.C none := ⟨hx0, rfl, rfl, trivial⟩
  refine ks_wpAt_super_base (by rfl) (by rfl) (by rfl) rfl (X0 _ _ ho) rfl (by rfl) rfl (X0 _ _ hco) rfl hvs hfile M.file ?_
  refine ks_loadName_global (by rfl) (by rfl) (loadGlobal_builtin (mb := mb) (hG.keeps hk) M.noS (hB.keeps hk) ((hbb _ (by decide +kernel)).trans (by first | boot_by_name | rfl | kernel_rfl)) ⟨rfl, ?_⟩)
  refine wpAny_loadName_free (by rfl) (by rfl) (by rfl) ⟨_, X0 _ _ hcell, rfl⟩ ?_
  refine wpAny_loadName_local (v := .ref x) (by rfl) (by rfl) hns (by rfl) ?_
  refine ks_wpAny_isType_cls (X0 _ _ hC) rfl ⟨rfl, ?_⟩
  refine ks_wpAny_call_super (X0 _ _ hC) rfl hx0 rfl (fun c z => by cases z) (looks_mroIn X0 M.self) (fun h1 hso k1' => ?_)
  have X1 : K.In h1 := X0.keeps k1'
  have hx1 := k1' _ _ hx0
  have I1 : InstAt h1 x (excO M.C t0) M.C none := ⟨hx1, rfl, rfl, trivial⟩
  have hsup := M.sup
  unfold ks_superIn at hsup
  rw [hcl] at hsup
  refine kxs_getMethod kxs_ValueError hso (looks_opaque X1 M.third) (l₀ := .ref M.C :: bm) (fun A Q E s k qq => wpAny_bind ((looks_clsIn X1 hcl) A _ E s k (wpAny_pure qq))) rfl X1 hsup (I1.type.andThen (looks_subIn X1 M.veC)) hxC (by decide) ?_
  have kp : ∀ b o, h1.get? b = some o → (h1.push (kxs_mw "ValueError.__init__" x)).get? b = some o := fun b o e => Heap.get?_push_of_some _ e
  have hu : (h1.push (kxs_mw "ValueError.__init__" x)).get? h1.objs.size = some (kxs_mw "ValueError.__init__" x) := Heap.get?_push_at rfl rfl
  refine wrap_get (x := x) ?_ rfl
  refine PySem.Calls.spliced_cons (tm_ld (v := v) ((hns.keeps k1').keeps kp) (by rfl) (PySem.Calls.spliced_nil ⟨hu, ?_⟩))
  refine wrap_call ((X1.keeps kp) _ _ hC) (kp _ _ hx1) hu (by rw [sizeLine_eq]; exact (by decide : 1 ≤ 16777216)) (fun h2 t1 k2' hx2 => ?_)
  -- self.most = most
  have nx : ∀ b o, b ≠ x → h₀.get? b = some o → h2.get? b = some o := fun b o hb e => k2' b o hb (kp _ _ (k1' _ _ e))
  have X2 : K.In h2 := fun b o e => nx b o (fun z => by rw [z, hnx] at e; cases e) (X0 b o e)
  have hL : hp.objs.size ≠ x := Nat.ne_of_gt (Heap.lt_size hx)
  have hns2 : h2.Ns hp.objs.size (fun y => [((("most" : Str)), v), ((("self" : Str)), .ref x)].lookup y) := by
    obtain ⟨o, es, ep, e, r⟩ := hns
    exact ⟨o, es, ep, nx _ _ hL e, r⟩
  refine wpAt_of_wpAny ?_
  refine wpAny_execs_cons (plainObj_wpAny_Assign_Attribute ?_)
  refine tm_ld (v := v) hns2 (by rfl) (tm_ld (v := .ref x) hns2 (by rfl) ?_)
  refine set_plain X2 (ox := excO M.C t1) (od := none) ⟨hx2, rfl, rfl, trivial⟩ M.sa ?_
  refine exc_osa X2 hx2 hcl (show refsVE (.ref M.C :: bm) = true from hbm) rfl M.noM (fun h3 tk3 dx k3' dn dne hx3 hn3 => ?_)
  show wpAny _ _ (execs _ _) _ _ _
  exact wpAny_execs_nil (hq h3 tk3 dx t1 ⟨fun b o hb e => k3' b o hb (nx b o hb (hk b o e)), hx3, Nat.le_of_lt (Nat.lt_of_lt_of_le hns2.lt dn), dne, hn3⟩)
/-- a made TooMany -/
structure TmMade (h h' : Heap) (e C d : Addr) (v : Value) : Prop where
  keep : ∀ b o, h.get? b = some o → h'.get? b = some o
  new : h.objs.size ≤ e
  obj : ∃ oe vs, h'.get? e = some oe ∧ oe.cls = .ref C ∧ oe.dict = some d ∧ oe.data = .fields vs ∧ vs[1]? = some .none
  dbig : h.objs.size ≤ d
  dne : d ≠ e
  ns : h'.Ns1 d (fun y => if y = "most" then some v else none)
theorem tm_made (M : TmAt P K mg) {v : Value} (X : K.In s.heap) (hlim : s.heap.NoLimit) (hG : s.heap.Ns mainGlobals mg) (hB : s.heap.Ns builtinsNs mb) (hbb : ∀ x : Str, x ≠ "__name__" → mb x = bootBuiltins x) (hroom : A.depth + 1 < recursionLimit)
    (hq : ∀ h' tk e d, TmMade s.heap h' e M.C d v → R (.ok (.ret (.ref e))) { s with heap := h', toks := tk }) :
    codeAny (model P w) A (.call (.ref M.C) ⟨[v], []⟩) R s := by
  obtain ⟨nm, q, N, bs, bm, sn, sub, ab, col, dd, k0, k1, k2, k3, k5, hC, hbm⟩ := M.cls
  obtain ⟨hp, g, dr, tk, os⟩ := s
  have kk : ∀ b o, hp.get? b = some o → ((hp.push (kdv_tup [v])).push (excO M.C hp.objs.size)).get? b = some o := fun b o e => Heap.get?_push_of_some _ (Heap.get?_push_of_some _ e)
  have hg1 : ((hp.push (kdv_tup [v])).push (excO M.C hp.objs.size)).get? (hp.objs.size + 1) = some (excO M.C hp.objs.size) := by heap_get
  have hno : K.lookup (hp.objs.size + 1) = none := by
    cases e : K.lookup (hp.objs.size + 1) with
    | none => rfl
    | some o => exact absurd (Nat.lt_of_succ_lt (Heap.lt_size (show hp.get? (hp.objs.size + 1) = some o from X _ _ e))) (Nat.lt_irrefl _)
  refine call_own PySem.F.excBase_ValueError (fun Y => refsVE_contains Y bm hbm) (X _ _ hC) (looks_findIn X M.iC) (fun self => bind_fn X self M.tI) (by rw [sizeLine_eq]; exact (by decide : 1 ≤ 16777216)) ?_
  refine tm_init (mb := mb) (s := ⟨(hp.push (kdv_tup [v])).push (excO M.C hp.objs.size), g, dr, tk, os⟩) M (X.keeps kk) (hlim.keeps kk) (hG.keeps kk) (hB.keeps kk) hbb hg1 hno hroom fun h' tk' dx t1 W => ?_
  have old : ∀ b o, hp.get? b = some o → h'.get? b = some o := fun b o e => W.keep b o (Nat.ne_of_lt (Nat.lt_succ_of_lt (Heap.lt_size e))) (kk b o e)
  have z : hp.objs.size + 1 + 1 ≤ dx := by
    have q := W.dbig
    rw [Heap.size_push, Heap.size_push] at q
    exact q
  exact ⟨rfl, hq h' tk' (hp.objs.size + 1) dx ⟨old, Nat.le_succ _, ⟨_, _, W.obj, rfl, rfl, rfl, rfl⟩, Nat.le_trans (Nat.le_trans (Nat.le_succ _) (Nat.le_succ _)) z, W.dne, W.ns⟩⟩
end
end Fo

namespace Fo
open PySem PySem.Spec PyProof.Rows L2
theorem relO_most {v : V} {u : Value} (r : RelV v u) (f : Str) : RelO (List.lookup f [(("most" : Str), v)]) (if f = "most" then some u else none) := by
  by_cases hf : f = "most"
  · subst hf
    rw [if_pos rfl, show List.lookup ("most" : Str) [(("most" : Str), v)] = some v by simp [List.lookup]]
    exact r
  · have e : (f == ("most" : Str)) = false := by simpa using hf
    rw [if_neg hf, show List.lookup f [(("most" : Str), v)] = none by simp [List.lookup, e]]
    trivial
section
variable {X : Cx}
/-- TooMany(e) -/
def tMkTm (C : Addr) (ta : TA) : L2.St → Hp → XK → Prop := fun σ H Q => ta σ H fun vs H1 => ∃ v, vs = [v] ∧ ∀ d, H1 d = none → Q (.ref C) (some d) (upd H1 d (.xd [(("most" : Str), v)]))
theorem pmk_tm {a : Expr} {ta : TA} {p pos : Pos} {k : Nat} (M : TmAt X.prog X.K X.mg) (hr : Room k X.A) (ha : PA X [a] ta) (hg : Gl X "TooMany" := by rfl)
    (he : starEach (a :: []) X.env = (false, eval a X.env) :: starEach [] X.env := by rfl) (hpl : (backTo pos (starEach [] X.env)).any (·.1) = false := by rfl) :
    PMk X (.Call (.Name "TooMany" p) [a] [] pos) (tMkTm M.C ta) := by
  intro pins s σ H Q I h
  refine wpAny_Call_Name_kw (ld_glob I hg M.gC ?_)
  refine PySem.W.callWith_K (h₀ := X.base) I.ok.mod.kin M.kC (thn (ha.run pos pins s σ H _ I h) fun us s1 hh => ?_) he hpl
  obtain ⟨vs, H1, I1, r1, v, rfl, q1⟩ := hh
  refine ⟨I1.kIn, ?_⟩
  obtain ⟨u, rfl, rv⟩ := vals1 r1
  show wpAny _ _ (call (.ref M.C) [u]) _ _ _
  have hlim := I1.nolimit
  have hG := I1.mod.glob.keeps I1.bk
  obtain ⟨mb, hb1, hb2⟩ := I1.mod.blt
  have hB := hb1.keeps I1.bk
  obtain ⟨hp, g, dr, tk, os⟩ := s1
  refine wpAny_call (tm_made (mb := mb) M I1.kIn hlim hG hB hb2 (by have := hr.dp; omega) fun h' tk' e d W => ?_)
  show MkP X pins σ Q (.ref e) ⟨h', g, dr, tk', os⟩
  obtain ⟨oe, fv, hoe, hc, hd, hdat, h1⟩ := W.obj
  have hns := W.ns
  obtain ⟨G, g1, g2⟩ := restrict h' fun b => decide (b ≠ e)
  have gk : ∀ b, b ≠ e → G.get? b = h'.get? b := fun b hb => g1 b (decide_eq_true hb)
  have ge : G.get? e = none := g2 e (by simp)
  have old : ∀ b o, hp.get? b = some o → G.get? b = some o := fun b o q => (gk b (Nat.ne_of_lt (Nat.lt_of_lt_of_le (Heap.lt_size q) W.new))).trans (W.keep b o q)
  have ob : ObjOk X.prog X.w (upd H1 d (.xd [(("most" : Str), v)])) G d (.xd [(("most" : Str), v)]) := ⟨_, hns.at (fun o q => (gk d W.dne).trans q), fun f => relO_most rv f⟩
  have J : Inv X pins σ (upd H1 d (.xd [(("most" : Str), v)])) ⟨G, g, dr, tk', os⟩ := I1.laid (t' := tk') old W.dbig ob
  refine ⟨e, oe, fv, ⟨G, g, dr, tk', os⟩, _, .ref M.C, some d, rfl, J, fun b o q => ?_, ge, hoe, ⟨hc, hd⟩, hdat, h1, ?_, rfl, I1.bare, raises_own M.exC M.tyC, q1 d (I1.hok.fresh W.dbig)⟩
  · by_cases hb : b = e
    · rw [show G.get? b = none by rw [hb]; exact ge] at q
      cases q
    · exact (gk b hb).symm.trans q
  · rw [upd_ne (Ne.symm W.dne)]
    exact I1.hok.fresh W.new
/-- e.most, e the TooMany that the suite holds (at a; its class cls, its dict d) -/
def tMost (C : Addr) (a : Addr) (cls : Value) (d : Option Addr) (te : TE) : TE := fun σ H Q => te σ H fun x H1 => x = .ref a ∧ cls = .ref C ∧ ∃ (dd : Addr) (v : V), d = some dd ∧ H1 dd = some (.xd [(("most" : Str), v)]) ∧ Q v H1
theorem pe_most {a : Addr} {oe : Obj} {cls : Value} {d : Option Addr} {pn : List (Addr × Obj)} {e : Expr} {te : TE} {pos : Pos} (M : TmAt X.prog X.K X.mg) (hz : Zc cls d oe) (hf : ∃ vs, oe.data = .fields vs) (he : PE (X.suite a ((a, oe) :: pn)) e te)
    (hb : attributeBase e "most" X.env (eval e X.env) = eval e X.env := by rfl) :
    PE (X.suite a ((a, oe) :: pn)) (.Attribute e "most" pos) (tMost M.C a cls d te) := by
  refine ⟨fun pins s σ H Q I h => ?_⟩
  refine attr_of hb (thn (he.run pins s σ H _ I h) fun u s1 hh => ?_)
  obtain ⟨x, H1, I1, rx, rfl, rfl, dd, v, rfl, ea, q⟩ := hh
  obtain rfl : u = Value.ref a := rx
  obtain ⟨ha, _⟩ := I1.pin (a, oe) (List.mem_append_left _ List.mem_cons_self)
  obtain ⟨vs, hd⟩ := hf
  obtain ⟨mA, hns, hr⟩ := (show ObjOk X.prog X.w H1 s1.heap dd (.xd [(("most" : Str), v)]) from I1.hok dd _ ea)
  obtain ⟨od, ho, hl⟩ := lookIn_ns hns
  have l : List.lookup ("most" : Str) [(("most" : Str), v)] = some v := by simp [List.lookup]
  obtain ⟨u, hu, ru⟩ := RelO.some_of (v := v) (o := mA "most") (by rw [← l]; exact hr "most")
  have J : PySem.W.InstAt s1.heap a oe M.C (some od) := ⟨ha, hz.1, by unfold PySem.W.notCls; rw [hd] <;> rfl, by rw [hz.2]; exact ho⟩
  exact HandSPX.exc_get I1.kIn J M.ga M.gg M.exC (PySem.W.findObj_own M.hdC M.noM rfl (by rw [hl, hu])) (handed_of ru) ⟨v, H1, I1.tok _, ru, q⟩
end
section
variable {P : Program} {w : World} {K : PySem.W.Frag} {mg : Str → Option Value} {base : Heap}
/-- check_many: nothing, or TooMany(most) -/
def spCheckMany (C : Addr) : Sp := fun vs H Q E => ∃ n m : Int, vs = [.int n, .int m] ∧ (n ≤ m → Q .non H) ∧ (m < n → ∀ d, H d = none → E (.ref C) (some d) (upd H d (.xd [(("most" : Str), .int m)])))
theorem ok_check_many (T : Tx K mg) (M : TmAt P K mg) : FnOk P w K mg base (L2.CX P w) 3 T.check_many.f T.check_many.d ["number", "most"] (spCheckMany M.C) := by
  refine T.check_many.F.okX sc_check_many (fun vs H Q E h => ?_) (fun cdv A outer s H vs Q E hr h => ?_)
  · obtain ⟨n, m, rfl, _⟩ := h
    rfl
  · obtain ⟨n, m, rfl, q1, q2⟩ := h
    refine ⟨_, pss_one (ps_if (pt_cmpR op_gt (pv 0) (pv 1) (nomark _)) (pss_one (ps_raise rfl (takes_of rfl rfl rfl rfl) (pmk_tm M hr (pa_cons (pv 1) pa_nil)))) pss_nil), ?_⟩
    refine ⟨_, rfl, _, rfl, _, _, rfl, rfl, _, rfl, ?_⟩
    by_cases h : m < n
    · rw [decide_eq_true h]
      exact iteT ⟨_, rfl, _, rfl, q2 h⟩
    · rw [decide_eq_false h]
      exact iteF (q1 (by omega))
end
end Fo

/-! try with several except clauses, with or without a name. -/
namespace Fo
open PySem PySem.Spec PyProof.Rows L2
/-- an except clause: the class, the slot of its name, the suite's reading -/
structure Cl where
  c : Value
  i : Option Nat
  ts : Addr → Value → Option Addr → TS
/-- the slots when the suite begins, the ends behind it -/
def Cl.inn (l : Cl) (a : Addr) (σ : L2.St) : L2.St := match l.i with
  | none => σ
  | some i => σ.set i (some (.ref a))
def Cl.out (l : Cl) (D : Ends) : Ends := match l.i with
  | none => D
  | some i => { nx := fun σ H => D.nx (σ.set i none) H, rt := D.rt, bk := fun σ H => D.bk (σ.set i none) H, ct := fun σ H => D.ct (σ.set i none) H }
def wCls (K : PySem.W.Frag) (Wout : WX) (D : Ends) : List Cl → WX
  | [] => Wout
  | l :: r => fun cls d σ H => ∃ b, PySem.W.exmOne K cls l.c = some b ∧ (b = true → ∀ a, H a = none → l.ts a cls d (l.out D) (l.inn a σ) H) ∧ (b = false → wCls K Wout D r cls d σ H)
inductive HdCls (X : Cx) : List ExceptHandler → List Cl → Prop
  | nil : HdCls X [] []
  | bare {x : Str} {c : Value} {ts : Addr → Value → Option Addr → TS} {b₀ : Stmt} {suite : List Stmt} {np hp : Pos} {hds : List ExceptHandler} {l : List Cl} (hc : Names X x c)
      (hsu : ∀ (a : Addr) (oe : Obj) (cls : Value) (d : Option Addr) (pn : List (Addr × Obj)), Zc cls d oe → (∃ vs, oe.data = .fields vs) → PSs (X.suite a ((a, oe) :: pn)) (b₀ :: suite) (ts a cls d)) (r : HdCls X hds l) :
      HdCls X (.ExceptHandler (some (.Name x np)) none (b₀ :: suite) hp :: hds) (⟨c, none, ts⟩ :: l)
  | named {x n : Str} {i : Nat} {c : Value} {ts : Addr → Value → Option Addr → TS} {b₀ : Stmt} {suite : List Stmt} {np hp : Pos} {hds : List ExceptHandler} {l : List Cl} (hc : Names X x c) (hi : X.N[i]? = some n) (hn : X.env.kindOf n = some .local)
      (hsu : ∀ (a : Addr) (oe : Obj) (cls : Value) (d : Option Addr) (pn : List (Addr × Obj)), Zc cls d oe → (∃ vs, oe.data = .fields vs) → PSs (X.suite a ((a, oe) :: pn)) (b₀ :: suite) (ts a cls d)) (r : HdCls X hds l) :
      HdCls X (.ExceptHandler (some (.Name x np)) (some n) (b₀ :: suite) hp :: hds) (⟨c, some i, ts⟩ :: l)
section
variable {X : Cx} {body : List Stmt} {h₀ : ExceptHandler} {hds : List ExceptHandler} {l : List Cl} {pos : Pos} {tb : WX → TS} {Wout : WX}
theorem ps_try_cls (hN : X.N.Nodup) (hs : X.stack = X.env :: X.outer) (hf : X.env.frame = some X.env.locals) (tk : Takes X Wout)
    (hb : ∀ (W : WX) (pn : List (Addr × Obj)) (xe : Value → Shared → Prop), Takes (X.tr pn xe) W → PassesOwn (model X.prog X.w) X.A X.env xe → PSs (X.tr pn xe) body (tb W))
    (hh : HdCls X (h₀ :: hds) l) : PS X (.Try body (h₀ :: hds) [] [] pos) (fun D σ H => tb (wCls X.K Wout D l) D σ H) := by
  refine ⟨fun pins s σ H D I h => ?_⟩
  have ok := I.ok
  have hfr : X.A.frames = some (X.env :: X.outer) := by
    rw [ok.frames, hs]
  refine wpAny_Try_except ?_
  have caught : ∀ (u : Value) (s' : Shared), XE (X.tr (X.pn ++ pins) fun e s₁ => wpAny (model X.prog X.w) X.A (noteFrame e X.env) (fun _ s₂ => wpAny (model X.prog X.w) X.A (setFlight e none) (fun _ s₃ => wpAny (model X.prog X.w) X.A (handleBy e X.env (h₀ :: hds)) (SP X pins D) X.xe s₃) X.xe s₂) X.xe s₁) (wCls X.K Wout D l) u s' →
      wpAny (model X.prog X.w) X.A (noteFrame u X.env) (fun _ s₂ => wpAny (model X.prog X.w) X.A (setFlight u none) (fun _ s₃ => wpAny (model X.prog X.w) X.A (handleBy u X.env (h₀ :: hds)) (SP X pins D) X.xe s₃) X.xe s₂) X.xe s' := by
    intro u s' xx
    obtain ⟨a, B, sI, pins', σ', H', cls, d, rfl, J', nb, up, sky, na, os, ag, w⟩ := xx
    have J : Inv X pins σ' H' sI := J'.ofTry ok
    have sky' : Sky B (X.env :: X.outer) a (Zc cls d) X.env.locals s'.heap := by
      rw [← hs]
      exact sky
    refine Sky.land Zc.steady hfr hf sky' fun h3 fl3 up3 => ?_
    have J3 : Inv X pins σ' H' { s' with heap := h3 } := J.landed nb fl3.1 (up.trans up3) os ag
    obtain ⟨oe3, vs3, he3, hz3, hd3⟩ := fl3.there
    have nfr : a ∉ frs (X.env :: X.outer) := fun hm => by
      obtain ⟨_, o', e', hnf⟩ := (fl3.2.2.1).mem hm
      rw [he3] at e'
      cases e'
      exact hnf _ hd3
    have nL : a ≠ X.env.locals := fun z => nfr (List.mem_filterMap.mpr ⟨X.env, List.mem_cons_self, by rw [hf, z]⟩)
    have nF : a ∉ X.fs := fun hm => by
      obtain ⟨e, he, q⟩ := List.mem_filterMap.mp hm
      exact nfr (List.mem_filterMap.mpr ⟨e, List.mem_cons_of_mem _ he, q⟩)
    have S3 := J3.suite he3 hd3 na nL nF
    have go : ∀ {hs' : List ExceptHandler} {l' : List Cl}, HdCls X hs' l' → wCls X.K Wout D l' cls d σ' H' → wpAny (model X.prog X.w) X.A (handleBy (.ref a) X.env hs') (SP X pins D) X.xe { s' with heap := h3 } := by
      intro hs' l' hk
      induction hk with
      | nil =>
        intro w
        refine wpAny_handleBy_nil ?_
        obtain ⟨k1, k2, k3, oe, vs, T, oT, ts', he, hz, hd, h1, hr⟩ := id fl3
        unfold PySem.passOn
        refine wpAny_bind (wpAny_field he hd h1 ?_)
        rw [if_neg (show ¬ ((Value.ref T == Value.none) = true) from by simp)]
        have leave : wpAny (model X.prog X.w) X.A (setFlight (.ref a) X.env.frame) (fun _ s4 => wpAny (model X.prog X.w) X.A (throw (.ref a) : Sem Flow) (SP X pins D) X.xe s4) X.xe { s' with heap := h3 } := by
          rw [hf]
          refine HandSPX.setFlight_upZ fl3 fun h4 hh4 up4 => wpAny_throw (tk _ _ ?_)
          exact ⟨a, B, sI, pins, σ', H', cls, d, rfl, J, nb, (up.trans up3).trans up4, .inr (.inr (by rw [hs]; exact hh4)), na, os, ag, w⟩
        first
          | exact wpAny_bind (wpAny_pure (wpAny_bind leave))
          | exact wpAny_bind leave
      | @bare x c ts b₀ suite np hp hds2 l2 hc hsu r ih =>
        intro w
        obtain ⟨b, hb1, hyes, hno⟩ := w
        refine wpAny_handleBy_cons (codeAny_handlers_test ?_) (by intro q; cases q)
        have LT : PySem.W.Looks (model X.prog X.w) h3 (typeOf (.ref a)) cls := fun A Q E s k q => wpAny_typeOf_ref (k _ _ he3) (by rw [hz3.1]; exact q)
        have LM := PySem.W.exm_one (M := model X.prog X.w) (J3.kIn) LT hb1
        have look : ∀ {Q : Value → Shared → Prop} {E : Value → Shared → Prop}, Q c { s' with heap := h3 } → wpAny (model X.prog X.w) (X.A.mark (some (.ref a))) (eval (.Name x np) X.env) Q E { s' with heap := h3 } := fun {Q E} q => by
          obtain ⟨hg, hdbg, hm | ⟨hm, hv, hnn⟩⟩ := hc
          · exact ld_glob (X := X.suite a ((a, oe3) :: (X.pn ++ pins))) S3 hg hm q hdbg
          · exact ld_blt (X := X.suite a ((a, oe3) :: (X.pn ++ pins))) S3 hg hm hv q hnn hdbg
        refine look (LM.here ?_)
        cases b with
        | true =>
          refine codeAny_handlers_suite ?_
          refine HandSPX.lands_againZ fl3 fun h4 fl4 up4 => ?_
          have J4 : Inv X pins σ' H' { s' with heap := h4 } := J.landed nb fl4.1 ((up.trans up3).trans up4) os ag
          obtain ⟨oe4, vs4, he4, hz4, hd4⟩ := fl4.there
          have S4 := J4.suite he4 hd4 na nL nF
          refine wpAny_mono ((hsu a oe4 cls d (X.pn ++ pins) hz4 ⟨_, hd4⟩).run [] _ _ H' _ S4 (hyes rfl a na)) (fun f s6 hsp => ?_) (fun _ _ z => False.elim z)
          cases f with
          | next =>
            obtain ⟨σ6, H6, S6, q6⟩ := hsp
            exact ⟨_, _, S6.unsuite ok, q6⟩
          | brk =>
            obtain ⟨σ6, H6, S6, q6⟩ := hsp
            exact ⟨_, _, S6.unsuite ok, q6⟩
          | cont =>
            obtain ⟨σ6, H6, S6, q6⟩ := hsp
            exact ⟨_, _, S6.unsuite ok, q6⟩
          | ret u =>
            obtain ⟨v6, σ6, H6, S6, r6, q6⟩ := hsp
            exact ⟨_, _, _, S6.unsuite ok, r6, q6⟩
        | false =>
          show wpAny _ X.A (handleBy (.ref a) X.env hds2) _ _ _
          exact ih (hno rfl)
      | @named x n i c ts b₀ suite np hp hds2 l2 hc hi hn hsu r ih =>
        intro w
        obtain ⟨b, hb1, hyes, hno⟩ := w
        refine wpAny_handleBy_cons (codeAny_handlers_test ?_) (by intro q; cases q)
        have LT : PySem.W.Looks (model X.prog X.w) h3 (typeOf (.ref a)) cls := fun A Q E s k q => wpAny_typeOf_ref (k _ _ he3) (by rw [hz3.1]; exact q)
        have LM := PySem.W.exm_one (M := model X.prog X.w) (J3.kIn) LT hb1
        have look : ∀ {Q : Value → Shared → Prop} {E : Value → Shared → Prop}, Q c { s' with heap := h3 } → wpAny (model X.prog X.w) (X.A.mark (some (.ref a))) (eval (.Name x np) X.env) Q E { s' with heap := h3 } := fun {Q E} q => by
          obtain ⟨hg, hdbg, hm | ⟨hm, hv, hnn⟩⟩ := hc
          · exact ld_glob (X := X.suite a ((a, oe3) :: (X.pn ++ pins))) S3 hg hm q hdbg
          · exact ld_blt (X := X.suite a ((a, oe3) :: (X.pn ++ pins))) S3 hg hm hv q hnn hdbg
        refine look (LM.here ?_)
        cases b with
        | true =>
          refine codeAny_handlers_suite_as ?_
          refine HandSPX.lands_againZ fl3 fun h4 fl4 up4 => ?_
          have J4 : Inv X pins σ' H' { s' with heap := h4 } := J.landed nb fl4.1 ((up.trans up3).trans up4) os ag
          obtain ⟨oe4, vs4, he4, hz4, hd4⟩ := fl4.there
          have S4 := J4.suite he4 hd4 na nL nF
          refine store_ok (X := X.suite a ((a, oe4) :: (X.pn ++ pins))) (v := .ref a) S4 hN hi (.inl hn) rfl (fun s5 S5 => ?_) (.inr hn)
          refine wpAny_mono ((hsu a oe4 cls d (X.pn ++ pins) hz4 ⟨_, hd4⟩).run [] s5 _ H' _ S5 (hyes rfl a na)) (fun f s6 hsp => ?_) (fun _ _ z => False.elim z)
          have drop : ∀ {σ6 : L2.St} {H6 : Hp} {Q : Shared → Prop}, Inv (X.suite a ((a, oe4) :: (X.pn ++ pins))) [] σ6 H6 s6 → (∀ s7, Inv X pins (σ6.set i none) H6 s7 → Q s7) →
              wpAny (model X.prog X.w) X.A (do bindName X.env n .none; unbindBehindTheSuite X.env n hp) (fun _ s7 => Q s7) X.xe s6 := fun {σ6 H6 Q} S6 hq => gone_ok (S6.unsuite ok) hN hi hn hq
          cases f with
          | next =>
            obtain ⟨σ6, H6, S6, q6⟩ := hsp
            exact drop S6 fun s7 J7 => ⟨_, _, J7, q6⟩
          | brk =>
            obtain ⟨σ6, H6, S6, q6⟩ := hsp
            exact drop S6 fun s7 J7 => ⟨_, _, J7, q6⟩
          | cont =>
            obtain ⟨σ6, H6, S6, q6⟩ := hsp
            exact drop S6 fun s7 J7 => ⟨_, _, J7, q6⟩
          | ret u =>
            obtain ⟨v6, σ6, H6, S6, r6, q6⟩ := hsp
            exact drop S6 fun s7 J7 => ⟨_, _, _, J7, r6, q6⟩
        | false =>
          show wpAny _ X.A (handleBy (.ref a) X.env hds2) _ _ _
          exact ih (hno rfl)
    exact go hh w
  refine wpAny_mono ((hb (wCls X.K Wout D l) (X.pn ++ pins) _ caught PassesOwn.looking).run [] s σ H D (I.toTry _) h) (fun f s1 hsp => ?_) (fun e s1 he => he)
  cases f with
  | next =>
    obtain ⟨σ', H', J', q⟩ := hsp
    exact wpAny_execs_nil ⟨σ', H', J'.ofTry ok, q⟩
  | brk =>
    obtain ⟨σ', H', J', q⟩ := hsp
    exact ⟨σ', H', J'.ofTry ok, q⟩
  | cont =>
    obtain ⟨σ', H', J', q⟩ := hsp
    exact ⟨σ', H', J'.ofTry ok, q⟩
  | ret u =>
    obtain ⟨v, σ', H', J', r, q⟩ := hsp
    exact ⟨v, σ', H', J'.ofTry ok, r, q⟩
end
end Fo

/-! Rules that the layer lacks: sum of a tuple, xs[i] op= e, enumerate of a tuple, a tuple once, sorted tuples. -/
namespace Fo
open PySem PySem.Spec PyProof.Rows L2

/-! ### sum of a tuple of ints -/
section
variable {prog : Program} {w : World} {A : Around} {E : Value → Shared → Prop} {s : Shared} {l : Addr} {xs : Array (Int × Tok)}
theorem iter_intTup {Q : Value → Shared → Prop} (hl : s.heap.IsTuple l (intItems xs))
    (h : ∀ s₂ : Shared, s₂ = { s with heap := s.heap.push { cls := .type "tuple_iterator", data := .fields #[.ref l, .int 0 0] } } →
      (s₂.heap.IsTupleIter s.heap.objs.size l 0 ∧ s₂.heap.IsTuple l (intItems xs)) → (∀ b ∈ [s.heap.objs.size, l], b < s₂.heap.objs.size) → l ≠ s.heap.objs.size → Q (.ref s.heap.objs.size) s₂) :
    wpAny (model prog w) A (pyIter (.ref l)) Q E s := by
  have hlt : l < s.heap.objs.size := by
    obtain ⟨_, e, _⟩ := hl
    exact Heap.lt_size e
  refine wpAny_pyIter_tuple hl (h _ rfl ⟨⟨_, Heap.get?_push_size _ rfl, rfl, rfl⟩, hl.at fun o e => Heap.get?_push_of_some _ e⟩ (fun b hb => ?_) (Nat.ne_of_lt hlt))
  show b < (s.heap.push _).objs.size
  rw [Heap.size_push]
  have e : b = s.heap.objs.size ∨ b = l := by simpa using hb
  rcases e with z | z
  · rw [z]
    exact Nat.lt_succ_self _
  · rw [z]
    exact Nat.lt_succ_of_lt hlt
theorem sum_intTup {Q : Value → Shared → Prop} (hh : A.handled = none) (hl : s.heap.IsTuple l (intItems xs))
    (h : ∀ h' tk t', (∀ b o, s.heap.get? b = some o → h'.get? b = some o) → Q (.int (preSum (numAt xs) xs.size) t') { s with heap := h', toks := tk }) :
    wpAny (model prog w) A (call (.builtin "sum") [.ref l]) Q E s := by
  refine call_sum_walkG (iter_intTup hl fun s₂ e st hfp hlI => ?_)
  subst e
  refine ⟨_, _, _, _, _, _, numAt xs, rfl, Walks.tuple (A := A.in1) hh _ l hlI (intItems xs), st, hfp, (fun _ _ => intItems_at), fun h' tk t' hk => ?_⟩
  have r := h h' tk t' fun b o e => hk b o (by simpa using Nat.ne_of_lt (Heap.lt_size e)) (Heap.get?_push_of_some _ e)
  simpa [intItems] using r
end
def rSumT (K : PySem.W.Frag) : List V → Hp → VK → Prop := fun vs H Q => ∃ (a : Addr) (ns : List Int), vs = [V.ref a] ∧ SqT K H a (ns.map V.int) ∧ Q (.int ns.sum) H
section
variable {X : Cx}
theorem cr_sumT (hc : X.calm = true) : CallR X (.builtin "sum") (rSumT X.K) := by
  intro pins s σ H vs us Q I r h
  obtain ⟨a, ns, rfl, hs, q⟩ := h
  obtain ⟨its, rv, hl, _⟩ := I.tuple hs
  rw [Vals.ref1 r]
  have hi := rv.ints
  obtain ⟨xs, e⟩ := hi.allInts.items
  have hn : numsOf (intItems xs).toList = ns := by
    rw [← e]
    exact hi.numsOf
  rw [nums_intItems] at hn
  have hl' : s.heap.IsTuple a its.toArray := hl
  rw [e] at hl'
  refine sum_intTup (I.ok.hd hc) hl' fun h' tk t' hk => ?_
  rw [preSum_eq, List.take_of_length_le (by simp), hn]
  exact ⟨.int ns.sum, H, I.kept hk, ⟨t', rfl⟩, q⟩

/-! ### xs[i] by values, for xs[i] op= e -/
theorem get_list : PGet X (rIxL X.K) := by
  intro pins s σ H o i ov iv Q I ro ri h
  obtain ⟨p, xs, k, z, rfl, rfl, hq, he, q⟩ := h
  cases ro
  obtain ⟨t, rfl⟩ := ri
  obtain ⟨its, r, pl, hz⟩ := I.list hq
  obtain ⟨j, h1, h2, h3, h4, h5⟩ := atI_get he
  obtain ⟨u, eu, ru⟩ := r.get h2
  have hl := r.length
  have hn := line63
  have fin : EP X pins σ Q u s := ⟨z, H, I, ru, q⟩
  by_cases h0 : 0 ≤ k
  · have hj : k.toNat = j := by
      rw [seqIndex_of h0 h5] at h1
      exact Option.some.inj h1
    exact wpAny_getItem_list pl.isList h0 (by omega) (by rw [hj]; simpa using eu) fin
  · have hj : (k + (its.toArray.size : Int)).toNat = j := by
      rw [seqIndex_neg (by omega) h4] at h1
      rw [List.size_toArray, ← hl]
      exact Option.some.inj h1
    exact wpAny_getItem_list_neg pl.isList (by omega) (by rw [List.size_toArray] <;> omega) (by omega) (by rw [hj]; simpa using eu) fin

/-! ### sorted(list of tuples of ints, each with an item), of any length: how many -/
theorem out_vals {R : Value → List Int → Prop} (hR : ∀ v b, R v b → ∃ y : V, RelV y v) : ∀ {out : List Value} {bs : List (List Int)}, PySem.W.EachIs R out bs → ∃ ys : List V, Vals ys out
  | _, _, .nil => ⟨[], .nil⟩
  | _, _, .cons h t => by
    obtain ⟨y, r⟩ := hR _ _ h
    obtain ⟨ys, rs⟩ := out_vals hR t
    exact ⟨y :: ys, .cons r rs⟩
theorem reads_ints (h : Heap) : ∀ {ns : List Int} {us : List Value}, Vals (ns.map V.int) us → ReadsAll h us (ns.map PyData.int) []
  | [], _, r => by
    have r : Vals [] _ := r
    cases r
    exact .nil
  | n :: ns, _, r => by
    have r : Vals (.int n :: ns.map V.int) _ := r
    cases r with
    | cons r1 r2 =>
      obtain ⟨t, rfl⟩ := r1
      have z := reads_ints h r2
      exact ReadsAll.cons (as := []) (bs := []) (.int n t) z
def rSortTu (K : PySem.W.Frag) : List V → Hp → VK → Prop := fun vs H Q => ∃ (a : Addr) (ps : List Addr) (bs : List (List Int)), vs = [.ref a] ∧ SqL K H a (ps.map V.ref) ∧ Paired (fun p b => H p = some (.tup (b.map V.int)) ∧ b ≠ []) ps bs ∧
  ∀ (ys : List V) l, ys.length = ps.length → H l = none → Q (.ref l) (upd H l (.lst ys))
theorem cr_sortedTu (hu : X.A.units + 64 < cLine) : CallR X (.builtin "sorted") (rSortTu X.K) := by
  intro pins s σ H vs us Q I r h
  obtain ⟨a, ps, bs, rfl, hs, hp, q⟩ := h
  obtain ⟨its, rv, hl, hz⟩ := I.list hs
  rw [Vals.ref1 r]
  have hlen : ps.length = bs.length := Paired.length hp
  have key : ∀ {ps : List Addr} {bs : List (List Int)} {its : List Value}, Paired (fun p b => H p = some (.tup (b.map V.int)) ∧ b ≠ []) ps bs → Vals (ps.map V.ref) its →
      PySem.W.EachIs (fun v (b : List Int) => ∃ y : V, RelV y v) its bs ∧ PySem.W.EachIs (fun v b => ∃ as, Reads s.heap v (PyData.tuple (b.map PyData.int)) as) its bs ∧ ∀ b ∈ bs, b ≠ [] := by
    intro ps bs its hp
    induction hp generalizing its with
    | nil =>
      intro rv
      cases rv
      exact ⟨.nil, .nil, fun b hb => nomatch hb⟩
    | @cons p b ps bs h1 _ ih =>
      intro rv
      cases rv with
      | cons r1 r2 =>
        obtain ⟨e1, e2, e3⟩ := ih r2
        cases r1
        obtain ⟨_, us, ru, o, ho, hc, n, hd⟩ := (show ObjOk X.prog X.w H s.heap p (.tup (b.map V.int)) from I.hok p _ h1.1)
        refine ⟨.cons ⟨.ref p, rfl⟩ e1, .cons ⟨[], .tuple ho hc hd ?_⟩ e2, fun b' hb' => ?_⟩
        · exact reads_ints s.heap ru
        · rcases List.mem_cons.mp hb' with z | z
          · rw [z]
            exact h1.2
          · exact e3 b' z
  obtain ⟨e1, e2, e3⟩ := key hp rv
  have lits : its.length = ps.length := by
    rw [← rv.length, List.length_map]
  refine PySem.W.sorted_data (enc := fun b => PyData.tuple (b.map PyData.int)) hl.isList e1 e2 ?_ (.inl fun d hd => ?_) ?_ (fun b hb => ?_) fun out h1 h2 => ?_
  · refine PySem.W.AllAlike.of fun b b' => ?_
    show PySem.W.alikeAll _ _ = true
    exact PySem.W.alike_ints b b'
  · obtain ⟨b, hb, rfl⟩ := List.mem_map.mp hd
    cases b with
    | nil => exact absurd rfl (e3 _ hb)
    | cons x r => exact ⟨_, _, rfl⟩
  · rw [List.length_map] at hz
    rw [← hlen]
    exact hz
  · have ed : (PyData.tuple (b.map PyData.int)).depth = 1 := by
      show PyData.depth _ = 1
      rw [PyData.depth, PySem.W.depth_ints]
    show X.A.units + 2 + (PyData.tuple (b.map PyData.int)).depth < cLine
    rw [ed]
    omega
  · obtain ⟨ys, ry⟩ := out_vals (R := fun v (b : List Int) => ∃ y : V, RelV y v) (fun v b h => h) h2
    obtain ⟨ep, he'⟩ := PyProof.Rows.sortedAll_at s.heap its out.toArray
    have hy : ys.length = ps.length := by
      rw [ry.length, h1, hlen]
    have hys : ys.length ≤ sizeLine := by
      rw [List.length_map] at hz
      rw [hy]
      exact hz
    exact ⟨.ref _, upd H (s.heap.objs.size + 1) (.lst ys), I.laid (t' := s.toks) (fun _ _ => PyProof.Rows.sortedAll_old) (Nat.le_succ _) ⟨hys, out, ep, ry, he'⟩, rfl, q ys _ hy (I.hok.fresh (Nat.le_succ _))⟩
end
end Fo

/-! Rules that the layer lacks, 2: enumerate of a tuple; a dict with tuple keys: items, the sum of its values, a display of one pair. -/
namespace PySem
open Sem (wp)
open AutoSeq1 (wpAny_loadPart')
theorem fo_enumNew (l : Addr) (items : Array Value) :
    Meets (Builtin.«enumerate.__new__» ⟨[.type "enumerate", .ref l], []⟩) (fun _ R s => s.heap.IsTuple l items ∧
      R (.ok (.ret (.ref (s.heap.push { cls := .type "tuple_iterator", data := .fields #[.ref l, .int 0 0] }).objs.size)))
        { s with heap := (s.heap.push { cls := .type "tuple_iterator", data := .fields #[.ref l, .int 0 0] }).push { cls := .type "enumerate", data := .fields #[.none, .bool false, .ref s.heap.objs.size, rawInt 0, .none, .none] } }) :=
  .of_wp fun prog w A R s h => by
    obtain ⟨hp, g, d, tk, os⟩ := s
    obtain ⟨hL, h⟩ := h
    have hsub := sub_enumerate
    have go : ∀ {A' : Around} {E : Value → Shared → Prop} {Q : Value → Shared → Prop}, Q (.ref hp.objs.size) ⟨hp.push { cls := .type "tuple_iterator", data := .fields #[.ref l, .int 0 0] }, g, d, tk, os⟩ → wpAny (model prog w) A' (pyIter (.ref l)) Q E ⟨hp, g, d, tk, os⟩ :=
      fun q => wpAny_pyIter_tuple hL q
    wp_walk using go
    refine wpAny_stack_any fun st => wpAny_pure ?_
    split
    · rename_i c _ _ _ _ _
      cases (c == Value.type "enumerate")
      · wp_walk using go
        exact ⟨_, rfl, h⟩
      · wp_walk using go
        exact ⟨_, rfl, h⟩
    · wp_walk using go
      exact ⟨_, rfl, h⟩
theorem fo_callEnum {prog : Program} {w : World} {A : Around} {E : Value → Shared → Prop} {s : Shared} {l : Addr} {items : Array Value} {Q : Value → Shared → Prop} (hL : s.heap.IsTuple l items)
    (h : ∀ h', IsEnum h' (s.heap.objs.size + 1) s.heap.objs.size 0 .none → h'.IsTupleIter s.heap.objs.size l 0 → h'.objs.size = s.heap.objs.size + 2 →
      (∀ b o, s.heap.get? b = some o → h'.get? b = some o) → Q (.ref (s.heap.objs.size + 1)) { s with heap := h' }) :
    wpAny (model prog w) A (call (.type "enumerate") [.ref l]) Q E s := by
  refine callType_new F.called_enumerate (by decide) (F.typeCall_enumerate_1 _) (F.newCall_enumerate_1 _) (fun obj => F.args_object_init_2 obj _) F.entry_enumerate_new (fo_enumNew l items) ⟨hL, ?_⟩
  have hz : (s.heap.push { cls := .type "tuple_iterator", data := .fields #[.ref l, .int 0 0] }).objs.size = s.heap.objs.size + 1 := Heap.size_push ..
  show _ ∧ _
  rw [hz]
  have he : IsEnum ((s.heap.push { cls := .type "tuple_iterator", data := .fields #[.ref l, .int 0 0] }).push
      { cls := .type "enumerate", data := .fields #[.none, .bool false, .ref s.heap.objs.size, rawInt 0, .none, .none] }) (s.heap.objs.size + 1) s.heap.objs.size 0 .none := by
    have z := Heap.get?_push_size (s.heap.push { cls := .type "tuple_iterator", data := .fields #[.ref l, .int 0 0] })
      (o := { cls := .type "enumerate", data := .fields #[.none, .bool false, .ref s.heap.objs.size, rawInt 0, .none, .none] }) rfl
    rw [hz] at z
    exact z
  refine ⟨⟨_, he, rfl⟩, h _ he ⟨_, Heap.get?_push_of_some _ (Heap.get?_push_size _ rfl), rfl, rfl⟩ ?_ fun b o x => Heap.get?_push_of_some _ (Heap.get?_push_of_some _ x)⟩
  rw [Heap.size_push, hz]
end PySem

namespace Fo
open PySem PySem.Spec PyProof.Rows L2

/-! ### enumerate(tuple) -/
/-- the tuple at a as it stands at each turn, each item in a new pair -/
def IteT (K : PySem.W.Frag) (a : Addr) : It :=
  ⟨fun i H => ∃ (xs : List V) (x : V), SqT K H a xs ∧ xs[i]? = some x, fun i H v H' => ∃ T x, v = .ref T ∧ H T = none ∧ H' = upd H T (.tup [.int (i : Nat), x]) ∧ ∀ xs, SqT K H a xs → xs[i]? = some x, fun i H => ∃ xs : List V, SqT K H a xs ∧ xs.length = i⟩
theorem walk_enumT {K : PySem.W.Frag} {a : Addr} {xs : List V} : Walk (IteT K a) xs.length (fun H => SqT K H a xs) (YPair (fun i => some (.int (i : Nat))) (fun i => xs[i]?)) :=
  ⟨fun i H hi q => ⟨xs, xs[i], q, List.getElem?_eq_getElem hi⟩, fun H q => ⟨xs, q, rfl⟩, fun i H v H' hi q y => by
    obtain ⟨T, x, e1, hT, e2, f⟩ := y
    exact ⟨T, _, x, e1, hT, e2, rfl, f xs q⟩⟩
theorem pair_laid {X : Cx} {pins : List (Addr × Obj)} {σ : L2.St} {H : Hp} {s : Shared} {ch : List Addr} {T : Addr} {x y : V} {u v : Value} {h' : Heap} {tk : Nat} (I : Inv X pins σ H s) (hf : ∀ b ∈ ch, FpOk X pins H b) (hlt : ∀ b ∈ ch, b < s.heap.objs.size)
    (hT : s.heap.objs.size ≤ T) (ht : h'.IsTuple T #[u, v]) (rx : RelV x u) (ry : RelV y v) (k : ∀ b o, b ∉ ch → s.heap.get? b = some o → h'.get? b = some o) :
    Inv X pins σ (upd H T (.tup [x, y])) { s with heap := h', toks := tk } ∧ H T = none ∧ ∀ b ∈ ch, (upd H T (.tup [x, y])) b = none := by
  have hn : H T = none := I.hok.fresh hT
  refine ⟨I.turnedNew (t' := tk) k hf hT ?_, hn, fun b hb => ?_⟩
  · obtain ⟨o, ho, hc, n, hd⟩ := ht
    exact ⟨by show 2 ≤ sizeLine; decide, [u, v], .cons rx (.cons ry .nil), ⟨o, ho, hc, n, hd⟩⟩
  · rw [upd_ne (Nat.ne_of_lt (Nat.lt_of_lt_of_le (hlt b hb) hT))]
    exact (hf b hb).1
theorem turn_enumT {P : Program} {w : World} {K : PySem.W.Frag} {elts : List Expr} {kk : Nat} {tpos : Pos} (a e it : Addr) :
    Turn P w K (.Tuple elts kk tpos) (IteT K a) [e, it] e (fun i h => (∃ old, IsEnum h e it ((i : Nat) : Int) old) ∧ h.IsTupleIter it a i ∧ e ≠ it) where
  mem := by simp
  obj := fun i h st b hb => by
    obtain ⟨⟨old, he⟩, ⟨o, ho, hc, hd⟩, _⟩ := st
    have e' : b = e ∨ b = it := by simpa using hb
    rcases e' with z | z
    · rw [z]
      exact ⟨_, he, fun v q => nomatch q⟩
    · rw [z]
      exact ⟨o, ho, fun v q => by rw [hd] at q; cases q⟩
  keep := fun i h h' st k => let ⟨⟨old, he⟩, hi, hne⟩ := st; ⟨⟨old, k e (by simp) _ he⟩, hi.at fun o q => k it (by simp) o q, hne⟩
  item := by
    intro X hP hw hK hc i pins s σ H E I hf st hg
    subst hP hw hK
    obtain ⟨⟨old, he⟩, hit, hne⟩ := st
    obtain ⟨xs, x, hq, hx⟩ := hg
    obtain ⟨its, rv, p, hz⟩ := I.tuple hq
    obtain ⟨u, hu, ru⟩ := rv.get hx
    have hel : e < s.heap.objs.size := Heap.lt_size he
    have hil : it < s.heap.objs.size := by
      obtain ⟨_, q, _⟩ := hit
      exact Heap.lt_size q
    have hat : a < s.heap.objs.size := by
      obtain ⟨_, q, _⟩ := p
      exact Heap.lt_size q
    have nea : a ≠ e := fun z => by
      obtain ⟨o, ho, hco, _⟩ := p
      rw [z, show s.heap.get? e = _ from he] at ho
      cases ho
      exact absurd (show Value.type "enumerate" = Value.type "tuple" from hco) (by decide)
    have neai : a ≠ it := fun z => by
      obtain ⟨o, ho, hco, _⟩ := p
      obtain ⟨o2, ho2, hc2, _⟩ := hit
      rw [z, ho2] at ho
      cases ho
      rw [hc2] at hco
      exact absurd (show Value.type "tuple_iterator" = Value.type "tuple" from hco) (by decide)
    have D := Draws.tuple (prog := X.prog) (w := X.w) (A := X.A.in1) (I.ok.hd hc) it a neai its.toArray
    have W := GoesN.enumFrom (elts := elts) (x1 := kk) (pos := tpos) 0 D e hne (by simp only [List.mem_cons, List.not_mem_nil, or_false, not_or]; exact ⟨hne, Ne.symm nea⟩) (by simp)
    have hi : i < its.toArray.size := by
      obtain ⟨h1, _⟩ := List.getElem?_eq_some_iff.mp hu
      exact h1
    refine thn (W.goes i s (fun v s2 => ∃ x H', Inv X pins σ H' s2 ∧ RelV x v ∧ (IteT X.K a).yld i H x H' ∧ ((∃ old, IsEnum s2.heap e it (((i + 1 : Nat)) : Int) old) ∧ s2.heap.IsTupleIter it a (i + 1) ∧ e ≠ it) ∧ ∀ b ∈ [e, it], H' b = none) E hi ⟨⟨old, by rw [Int.zero_add]; exact he⟩, hit, p⟩ fun v h' tk hY st' hk htk => ?_) fun r s1 ⟨v, hr, hv⟩ => ⟨v, hr, hv⟩
    obtain ⟨T, t, x', rfl, hT, hx', ht⟩ := hY
    obtain ⟨⟨old', he'⟩, hit', _⟩ := st'
    have hx' : its.toArray[i]? = some x' := hx'
    have ex : x' = u := Option.some.inj (hx'.symm.trans (by simpa using hu))
    subst ex
    obtain ⟨I1, hn, hfr⟩ := pair_laid (x := .int ((i : Nat) : Int)) (y := x) (tk := tk) I hf (fun b hb => by
      have e' : b = e ∨ b = it := by simpa using hb
      rcases e' with z | z
      · rw [z]; exact hel
      · rw [z]; exact hil) hT ht ⟨t, by rw [Int.zero_add]⟩ ru hk
    refine ⟨.ref T, _, I1, rfl, ⟨T, x, rfl, hn, rfl, fun ys hy => by rw [I.tuple_inj hy hq]; exact hx⟩, ⟨⟨old', ?_⟩, hit', hne⟩, hfr⟩
    rw [Int.zero_add] at he'
    exact he'
  done := by
    intro X hP hw hK hc i pins s σ H E I hf st hg
    subst hP hw hK
    obtain ⟨⟨old, he⟩, hit, hne⟩ := st
    obtain ⟨xs, hq, hx⟩ := hg
    obtain ⟨its, rv, p, hz⟩ := I.tuple hq
    have nea : a ≠ e := fun z => by
      obtain ⟨o, ho, hco, _⟩ := p
      rw [z, show s.heap.get? e = _ from he] at ho
      cases ho
      exact absurd (show Value.type "enumerate" = Value.type "tuple" from hco) (by decide)
    have neai : a ≠ it := fun z => by
      obtain ⟨o, ho, hco, _⟩ := p
      obtain ⟨o2, ho2, hc2, _⟩ := hit
      rw [z, ho2] at ho
      cases ho
      rw [hc2] at hco
      exact absurd (show Value.type "tuple_iterator" = Value.type "tuple" from hco) (by decide)
    have D := Draws.tuple (prog := X.prog) (w := X.w) (A := X.A.in1) (I.ok.hd hc) it a neai its.toArray
    have W := GoesN.enumFrom (elts := elts) (x1 := kk) (pos := tpos) 0 D e hne (by simp only [List.mem_cons, List.not_mem_nil, or_false, not_or]; exact ⟨hne, Ne.symm nea⟩) (by simp)
    have hi : its.toArray.size = i := by
      rw [List.size_toArray, ← rv.length]
      exact hx
    refine W.stops s (fun s1 => Inv X pins σ H s1) E (by rw [hi]; exact ⟨⟨old, by rw [Int.zero_add]; exact he⟩, hit, p⟩) fun h' tk hk htk => ?_
    exact I.turnedL (ch := [e, it]) hk hf
  self := fun A i s Q E st h => let ⟨⟨_, he⟩, _⟩ := st; wpAny_pyIter_enum he h
def iEnumT (K : PySem.W.Frag) (ta : TA) : TI := fun σ H R => ta σ H fun vs H1 => ∃ a xs, vs = [.ref a] ∧ SqT K H1 a xs ∧ R (IteT K a) H1
theorem pi_enumT {X : Cx} {e : Expr} {ta : TA} {p pos tpos : Pos} {elts : List Expr} {kk : Nat} (hg : Gl X "enumerate") (hm : X.mg "enumerate" = none) (ha : PA X [e] ta) (hs : starEach [e] X.env = [(false, eval e X.env)] := by rfl) :
    PI X (.Tuple elts kk tpos) (.Call (.Name "enumerate" p) [e] [] pos) (iEnumT X.K ta) := by
  refine ⟨fun pins s σ H R I h => ?_⟩
  refine Call_ (ld_blt I hg hm boot_enumerate (PyProof.Rows.callWith_type1 (thn (ha.run pos pins s σ H _ I h) fun us s1 ⟨vs, H1, I1, r1, q1⟩ => ?_) hs rfl))
  obtain ⟨a, xs, rfl, hq, q⟩ := q1
  rw [Vals.ref1 r1]
  obtain ⟨its, rv, pt, hz⟩ := I1.tuple hq
  refine PySem.fo_callEnum (show s1.heap.IsTuple a its.toArray from pt) fun h' he hit hsz hk => wpAny_pyIter_enum he ?_
  have I2 : Inv X pins σ H1 { s1 with heap := h' } := I1.kept (t' := s1.toks) hk
  refine ⟨s1.heap.objs.size + 1, [s1.heap.objs.size + 1, s1.heap.objs.size], _, _, H1, rfl, I2, turn_enumT a (s1.heap.objs.size + 1) s1.heap.objs.size, ⟨⟨.none, he⟩, hit, Nat.succ_ne_self _⟩, fun b hb => ?_, q⟩
  have hle : s1.heap.objs.size ≤ b := by
    have e' : b = s1.heap.objs.size + 1 ∨ b = s1.heap.objs.size := by simpa using hb
    rcases e' with z | z
    · rw [z]
      exact Nat.le_add_right _ _
    · rw [z]
      exact Nat.le_refl _
  exact I1.fpOk hle (I1.hok.fresh hle)

/-! ### a dict with tuple keys: for k, v in d.items() -/
/-- the pairs of the locked dict at d, each a new tuple of the key's own tuple and the value -/
def ItiT (d : Addr) (o : Obj) (kvs : List (List Key × V)) : It :=
  ⟨fun i H => H d = some (.frz o (.dT kvs)) ∧ i < kvs.length, fun i H x H' => ∃ T k v q, kvs[i]? = some (k, v) ∧ x = .ref T ∧ H T = none ∧ H q = some (.tup (k.map kV)) ∧ H' = upd H T (.tup [.ref q, v]), fun i H => H d = some (.frz o (.dT kvs)) ∧ kvs.length = i⟩
theorem frz_raw {X : Cx} {pins : List (Addr × Obj)} {σ : L2.St} {H : Hp} {s : Shared} {d : Addr} {o : Obj} {kvs : List (List Key × V)} (I : Inv X pins σ H s) (h : H d = some (.frz o (.dT kvs))) :
    (d == sysModules) = false ∧ ∃ (es : Array DictEntry) (ep : Nat), s.heap.DictRaw d es ep ∧ o.data = .dict es ep ∧ es.size = kvs.length ∧
      ∀ (i : Nat) (k : List Key) (v : V), kvs[i]? = some (k, v) → ∃ (en : DictEntry) (q : Addr), es[i]? = some en ∧ en.key = .ref q ∧ H q = some (.tup (k.map kV)) ∧ RelV v en.val := by
  obtain ⟨hd, z, hs, xs, pr, o', es, ep, ho, hx, hdt, he, _⟩ := (show ObjOk X.prog X.w H s.heap d (.frz o (.dT kvs)) from I.hok d _ h)
  rw [hd] at ho
  cases ho
  refine ⟨hs, es, ep, ⟨o, hd, hx, hdt⟩, hdt, ?_, fun i k v e => ?_⟩
  · have l1 : es.size = xs.length := size_of_entries he
    have l2 : kvs.length = xs.length := Paired.length pr
    omega
  · obtain ⟨b, hb, e1, e2, e3⟩ := paired_get pr e
    have q := entry_at he i
    rw [hb] at q
    exact ⟨_, b.2.1, q, rfl, e2, e3⟩
theorem walk_itemsT {d : Addr} {o : Obj} {kvs : List (List Key × V)} : Walk (ItiT d o kvs) kvs.length (fun H => H d = some (.frz o (.dT kvs)))
    (fun i H x H' => ∃ T k v q, kvs[i]? = some (k, v) ∧ x = .ref T ∧ H T = none ∧ H q = some (.tup (k.map kV)) ∧ H' = upd H T (.tup [.ref q, v])) :=
  ⟨fun i H hi q => ⟨q, hi⟩, fun H q => ⟨q, rfl⟩, fun i H v H' hi q y => y⟩
theorem raw_at {h : Heap} {d : Addr} {es es' : Array DictEntry} {ep ep' : Nat} {o : Obj} (a : h.DictRaw d es ep) (b : o.data = .dict es' ep') (c : h.get? d = some o) : es = es' ∧ ep = ep' := by
  obtain ⟨o2, h1, _, h2⟩ := a
  rw [c] at h1
  cases h1
  rw [b] at h2
  injection h2 with x y
  exact ⟨x.symm, y.symm⟩
theorem turn_itemsT {P : Program} {w : World} {K : PySem.W.Frag} {elts : List Expr} {kk : Nat} {tpos : Pos} {d it : Addr} {o : Obj} {es : Array DictEntry} {ep : Nat} {kvs : List (List Key × V)} (hod : o.data = .dict es ep) (hne : d ≠ it) :
    Turn P w K (.Tuple elts kk tpos) (ItiT d o kvs) [it] it (fun i h => ∃ ok ov, IsItemIter h it d i es.size ep ok ov) where
  mem := by simp
  obj := fun i h st b hb => by
    have e : b = it := by simpa using hb
    subst e
    obtain ⟨ok, ov, e⟩ := st
    exact ⟨_, e, fun v z => nomatch z⟩
  keep := fun i h h' st k => let ⟨ok, ov, e⟩ := st; ⟨ok, ov, k it (by simp) _ e⟩
  item := by
    intro X hP hw hK hc i pins s σ H E I hf st hg
    subst hP hw hK
    obtain ⟨hd, hi⟩ := hg
    obtain ⟨hs, es', ep', hm, hdt, hsz, ent⟩ := frz_raw I hd
    rw [hod] at hdt
    injection hdt with z1 z2
    subst z1 z2
    obtain ⟨⟨k, v⟩, hkv⟩ : ∃ p, kvs[i]? = some p := ⟨kvs[i], List.getElem?_eq_getElem hi⟩
    obtain ⟨en, q, hen, hkey, hq, rv⟩ := ent i k v hkv
    obtain ⟨ok, ov, he⟩ := st
    have hlt : it < s.heap.objs.size := Heap.lt_size he
    have W := GoesN.rawItems (prog := X.prog) (w := X.w) (A := X.A) (elts := elts) (x1 := kk) (pos := tpos) (I.ok.hd hc) it d hne es ep
    refine thn (W.goes i s (fun u s2 => ∃ x H', Inv X pins σ H' s2 ∧ RelV x u ∧ (ItiT d o kvs).yld i H x H' ∧ (∃ ok ov, IsItemIter s2.heap it d (i + 1) es.size ep ok ov) ∧ ∀ b ∈ [it], H' b = none) E (by omega) ⟨⟨ok, ov, he⟩, hm⟩ fun u h' tk hY st' hk htk => ?_) fun r s1 ⟨u, hr, hu⟩ => ⟨u, hr, hu⟩
    obtain ⟨T, hi', rfl, hT, ht⟩ := hY
    have een : es[i] = en := by
      rw [Array.getElem?_eq_getElem hi'] at hen
      exact Option.some.inj hen
    rw [een, hkey] at ht
    obtain ⟨I1, hn, hfr⟩ := pair_laid (x := .ref q) (y := v) (tk := tk) I hf (fun b hb => by
      have e : b = it := by simpa using hb
      rw [e]
      exact hlt) hT ht rfl rv hk
    exact ⟨.ref T, _, I1, rfl, ⟨T, k, v, q, hkv, rfl, hn, hq, rfl⟩, st'.1, hfr⟩
  done := by
    intro X hP hw hK hc i pins s σ H E I hf st hg
    subst hP hw hK
    obtain ⟨hd, hi⟩ := hg
    obtain ⟨hs, es', ep', hm, hdt, hsz, ent⟩ := frz_raw I hd
    rw [hod] at hdt
    injection hdt with z1 z2
    subst z1 z2
    obtain ⟨ok, ov, he⟩ := st
    have W := GoesN.rawItems (prog := X.prog) (w := X.w) (A := X.A) (elts := elts) (x1 := kk) (pos := tpos) (I.ok.hd hc) it d hne es ep
    have hi' : es.size = i := by omega
    refine W.stops s (fun s1 => Inv X pins σ H s1) E (by rw [hi']; exact ⟨⟨ok, ov, by rw [hi'] at he; exact he⟩, hm⟩) fun h' tk hk htk => ?_
    exact I.turnedL (ch := [it]) hk hf
  self := fun A i s Q E st h => let ⟨_, _, e⟩ := st; PySem.W.kcp_self e h
def iItemsT (td : TE) : TI := fun σ H R => td σ H fun x H1 => ∃ d o kvs, x = .ref d ∧ H1 d = some (.frz o (.dT kvs)) ∧ R (ItiT d o kvs) H1
theorem pi_itemsT {X : Cx} {e : Expr} {td : TE} {apos cpos tpos : Pos} {elts : List Expr} {kk : Nat} (he : PE X e td) (hbase : attributeBase e "items" X.env (eval e X.env) = eval e X.env := by rfl) (hline : (apos.endLine == cpos.line) = true := by rfl) :
    PI X (.Tuple elts kk tpos) (.Call (.Attribute e "items" apos) [] [] cpos) (iItemsT td) := by
  refine ⟨fun pins s σ H R I h => ?_⟩
  refine wpAny_Call_method (T := "dict") (id := "dict.items") hbase rfl hline F.plainAttrs_dict F.slot_dict_items F.type_dict_items (thn (he.run pins s σ H _ I h) fun u s1 ⟨x, H1, I1, rx, d, o, kvs, ex, hd, q⟩ => ?_)
  subst ex
  obtain rfl : u = Value.ref d := rx
  obtain ⟨hs, es, ep, hm, hdt, hsz, ent⟩ := frz_raw I1 hd
  have hm' := hm
  obtain ⟨od, hod, hxd, hdat⟩ := hm'
  refine ⟨⟨od, hod, hxd.1⟩, fun b eb => ?_, ?_⟩
  · cases eb
    exact ⟨od, hod, hxd.2.1⟩
  have kp : ∀ b u, s1.heap.get? b = some u → (s1.heap.push { cls := .type "dict_items", data := .fields #[.ref d] }).get? b = some u := fun b u q => Heap.get?_push_of_some _ q
  have I2 : Inv X pins σ H1 { s1 with heap := s1.heap.push { cls := .type "dict_items", data := .fields #[.ref d] } } := I1.kept (t' := s1.toks) kp
  have hlt : d < s1.heap.objs.size := Heap.lt_size hod
  have hsz1 : (s1.heap.push { cls := .type "dict_items", data := .fields #[.ref d] }).objs.size = s1.heap.objs.size + 1 := Heap.size_push _ _
  have hne : d ≠ (s1.heap.push { cls := .type "dict_items", data := .fields #[.ref d] }).objs.size := by
    rw [hsz1]
    exact Nat.ne_of_lt (Nat.lt_succ_of_lt hlt)
  have fin : wpAny (model X.prog X.w) X.A (pyIter (.ref s1.heap.objs.size)) (PIE X pins σ (.Tuple elts kk tpos) R) X.xe { s1 with heap := s1.heap.push { cls := .type "dict_items", data := .fields #[.ref d] } } := by
    refine wpAny_pyIter_items_raw (d := d) (es := es) (ep := ep) ⟨_, Heap.get?_push_size _ rfl, rfl, rfl⟩ (hm.at fun o q => kp d o q) (pi_one (tk := s1.toks) I2 _ (turn_itemsT hdt hne) ⟨.none, .none, ?_⟩ q)
    exact Heap.get?_push_size _ rfl
  show wpAny _ _ (callWith cpos (.builtin "dict.items") [.ref d] [] []) _ X.xe s1
  exact method_meetsIn F.slot_dict_items F.entry_dict_items rfl (PySem.evalArgs_none ⟨rfl, ⟨od, hod, hxd.1⟩, F.args_dict_items_1 _, _, meets_dict_items_raw d hs, ⟨⟨es, ep, hm⟩, fin⟩⟩)
end Fo

/-! Rules that the layer lacks, 3: the sum of the values of a dict with tuple keys, its display with one pair; a tuple times 1 or more. -/
namespace Fo
open PySem PySem.Spec PyProof.Rows L2

theorem dt_raw {X : Cx} {pins : List (Addr × Obj)} {σ : L2.St} {H : Hp} {s : Shared} {d : Addr} {kvs : List (List Key × V)} (I : Inv X pins σ H s) (h : H d = some (.dT kvs)) :
    (d == sysModules) = false ∧ ∃ (es : Array DictEntry) (ep : Nat), s.heap.DictRaw d es ep ∧ es.size = kvs.length ∧
      ∀ (i : Nat) (k : List Key) (v : V), kvs[i]? = some (k, v) → ∃ en : DictEntry, es[i]? = some en ∧ RelV v en.val := by
  obtain ⟨z, hs, xs, pr, o, es, ep, ho, hx, hdt, he, _⟩ := (show ObjOk X.prog X.w H s.heap d (.dT kvs) from I.hok d _ h)
  refine ⟨hs, es, ep, ⟨o, ho, hx, hdt⟩, ?_, fun i k v e => ?_⟩
  · have l1 : es.size = xs.length := size_of_entries he
    have l2 : kvs.length = xs.length := Paired.length pr
    omega
  · obtain ⟨b, hb, e1, e2, e3⟩ := paired_get pr e
    have q := entry_at he i
    rw [hb] at q
    exact ⟨_, q, e3⟩
theorem preSum_getD (ns : List Int) : ∀ i, i ≤ ns.length → preSum (fun i => ns.getD i 0) i = (ns.take i).sum
  | 0, _ => rfl
  | i + 1, h => by
    have ih := preSum_getD ns i (by omega)
    rw [sum_take (getD_get (d := 0) (show i < ns.length by omega)), ← ih]
    rfl
/-- sum(d.values()) -/
def tSumVals (td : TE) : TE := fun σ H Q => td σ H fun x H1 => ∃ (a : Addr) (kvs : List (List Key × V)) (ns : List Int), x = V.ref a ∧ H1 a = some (.dT kvs) ∧ kvs.map (·.2) = ns.map V.int ∧ Q (.int ns.sum) H1
section
variable {X : Cx} {o : Expr} {p pos apos mpos : Pos} {td : TE}
theorem pe_sumVals (hc : X.calm = true) (hg : Gl X "sum") (hm : X.mg "sum" = none) (hd : PE X o td) (hbase : attributeBase o "values" X.env (eval o X.env) = eval o X.env := by rfl) (hline : (apos.endLine == mpos.line) = true := by rfl)
    (hse : starEach [Expr.Call (.Attribute o "values" apos) [] [] mpos] X.env = [(false, eval (Expr.Call (.Attribute o "values" apos) [] [] mpos) X.env)] := by rfl) :
    PE X (.Call (.Name "sum" p) [.Call (.Attribute o "values" apos) [] [] mpos] [] pos) (tSumVals td) := by
  refine ⟨fun pins s σ H Q I h => ?_⟩
  refine wpAny_Call_Name_kw (ld_blt I hg hm (u := .builtin "sum") (by first | rfl | decide +kernel) ?_ (by first | decide +kernel | decide) (by first | decide +kernel | decide))
  rw [hse]
  refine PySem.callWith_builtin1 (wpAny_Call_method0_late hbase hline (thn (hd.run pins s σ H _ I h) fun v s1 ⟨x, H1, I1, r1, a, kvs, ns, ex, ha, hv, q⟩ => ?_))
  subst ex
  obtain rfl : v = Value.ref a := r1
  obtain ⟨hsys, es, ep, hm, hsz, ent⟩ := dt_raw I1 ha
  have hm' := hm
  obtain ⟨ob, ho, hx, hdat⟩ := hm'
  refine ⟨"dict", "dict.values", F.plainAttrs_dict, F.slot_dict_values, F.type_dict_values, ⟨ob, ho, hx.1⟩, fun b e => ?_, Calls.callWith_builtin rfl (PySem.evalArgs_none ?_)⟩
  · cases e
    exact ⟨ob, ho, hx.2.1⟩
  refine call_meetsIn F.slot_dict_values ⟨ob, ho, hx.1⟩ F.entry_dict_values (F.args_dict_values_1 _) (meets_dict_values_raw a hsys) ⟨⟨es, ep, hm⟩, ?_⟩
  have k1 : ∀ b u, s1.heap.get? b = some u → (s1.heap.push { cls := .type "dict_values", data := .fields #[.ref a] }).get? b = some u := fun b u e => Heap.get?_push_of_some _ e
  have hlen : es.size = ns.length := by
    have e1 := congrArg List.length hv
    rw [List.length_map, List.length_map] at e1
    omega
  have hval : ∀ (i : Nat) (v : Value), (∃ hi : i < es.size, v = es[i].val) → ∃ t, v = Value.int (ns.getD i 0) t := fun i v ⟨hi, hk⟩ => by
    obtain ⟨⟨k, x⟩, hkv⟩ : ∃ p, kvs[i]? = some p := ⟨kvs[i], List.getElem?_eq_getElem (by omega)⟩
    obtain ⟨en, hen, rx⟩ := ent i k x hkv
    rw [Array.getElem?_eq_getElem hi] at hen
    have een : es[i] = en := Option.some.inj hen
    have e1 : (kvs.map (·.2))[i]? = some x := by
      rw [List.getElem?_map, hkv]
      rfl
    rw [hv, List.getElem?_map] at e1
    obtain ⟨j, hj, e2⟩ := Option.map_eq_some_iff.mp e1
    subst e2
    obtain ⟨t, e3⟩ := rx
    refine ⟨t, ?_⟩
    rw [hk, een, e3, of_get hj]
  have hlt : a < s1.heap.objs.size := Heap.lt_size ho
  have hz1 : (s1.heap.push { cls := .type "dict_values", data := .fields #[.ref a] }).objs.size = s1.heap.objs.size + 1 := Heap.size_push _ _
  refine call_sum_walkG (wpAny_pyIter_values_raw (v := s1.heap.objs.size) (d := a) (es := es) (ep := ep) ⟨_, Heap.get?_push_size _ rfl, rfl, rfl⟩ (hm.at fun o e => k1 a o e) ?_)
  refine ⟨_, _, _, _, _, _, fun i => ns.getD i 0, rfl, Walks.rawValues (A := X.A.in1) (I1.ok.hd hc) (s1.heap.push { cls := .type "dict_values", data := .fields #[.ref a] }).objs.size a (by rw [hz1]; exact Nat.ne_of_lt (Nat.lt_succ_of_lt hlt)) es ep,
    ⟨⟨_, Heap.get?_push_size _ rfl, rfl, rfl⟩, hm.at fun o e => Heap.get?_push_of_some _ (k1 a o e)⟩, fun b hb => ?_, hval, fun h' tk t' hk => ?_⟩
  · show b < ((s1.heap.push _).push _).objs.size
    rw [Heap.size_push, Heap.size_push]
    rw [hz1] at hb
    rcases List.mem_cons.mp hb with e | hb
    · rw [e]
      exact Nat.lt_succ_self _
    · rw [List.mem_singleton.mp hb]
      exact Nat.lt_succ_of_lt (Nat.lt_succ_of_lt hlt)
  · have es1 : preSum (fun i => ns.getD i 0) es.size = ns.sum := by
      rw [hlen, preSum_getD ns _ (Nat.le_refl _), List.take_length]
    refine ⟨.int ns.sum, H1, I1.kept (t' := tk) fun b u e => hk b u (fun hmem => ?_) (Heap.get?_push_of_some _ (k1 b u e)), ⟨t', by rw [es1]⟩, q⟩
    have e1 : b = (s1.heap.push { cls := .type "dict_values", data := .fields #[.ref a] }).objs.size := List.mem_singleton.mp hmem
    have e2 := Heap.lt_size e
    rw [hz1] at e1
    rw [e1] at e2
    exact absurd e2 (Nat.not_lt.mpr (Nat.le_succ _))

/-- {k: v}, k a tuple -/
def tDisp1 (tk tv : TE) : TE := fun σ H Q => ∀ p, H p = none → tk σ (upd H p (.dT [])) fun x H1 => tv σ H1 fun y H2 => H2 p = some (.dT []) ∧ ∃ b k, x = .ref b ∧ H2 b = some (.tup (k.map kV)) ∧ Q (.ref p) (upd H2 p (.dT [(k, y)]))
theorem pe_disp1 {k v : Expr} {tk tv : TE} (hu : X.A.units + 1 < cLine) (hk : PE X k tk) (hv : PE X v tv) : PE X (.Dict [some k] [v] pos) (tDisp1 tk tv) := by
  refine ⟨fun pins s σ H Q I q => ?_⟩
  have hn := I.hok.fresh (Nat.le_refl s.heap.objs.size)
  have I1 := I.laid (a := s.heap.objs.size) (o := .dT []) (h' := s.heap.push { cls := .type "dict", data := .dict #[] }) (t' := s.toks) (fun _ _ q => Heap.get?_push_of_some _ q) (Nat.le_refl _) (dt_empty s.heap I.big)
  have hsh := zip_pairTrees [some k] [v] X.env pos rfl rfl
  have hl := pairTrees_length [some k] [v] X.env pos rfl rfl
  have h0 : pairTrees [some k] [v] X.env pos ≠ [] := fun e => by
    rw [e] at hl
    cases hl
  have h15 : (pairTrees [some k] [v] X.env pos).length ≤ 15 := by
    rw [hl]
    exact (by decide : 1 ≤ 15)
  rw [arm_eval_Dict, hsh, dictDisplay_pairs _ h0 (by omega)]
  refine wpAny_bind (wpAny_standAt (wpAny_bind (wpAny_subDictH (knd := tupleKind (mixKind X.prog X.w)) (Q := fun d s' => wpAny (model X.prog X.w) X.A (pure (Value.ref d)) (EP X pins σ Q) X.xe s') (Nat.lt_of_succ_lt hu) h15 ?_)))
  refine pairTrees_cons_walk (thn (hk.run pins _ σ _ _ I1 (q _ hn)) fun u s1 ⟨x, H1, J1, rx, q1⟩ => thn (hv.run pins s1 σ H1 _ J1 q1) fun u2 s2 ⟨y, H2, J2, ry, e, b, ks, ex, eb, q2⟩ => pairTrees_nil_walk ?_)
  subst ex
  obtain rfl : u = Value.ref b := rx
  obtain ⟨z, hd, xs, rel, dd⟩ := dt_of J2.hok e
  cases rel
  refine ⟨[(ks, b, u2)], ⟨rfl, rfl, key_of J2.hok eb, trivial⟩, dd, fun h' tk' dd' hs => wpAny_pure ⟨.ref s.heap.objs.size, _, ?_, rfl, q2⟩⟩
  have en : storedAllH [] [(ks, b, u2)] = [(ks, b, u2)] := storedAllH_nil_of_nodup _ (by simp)
  rw [en] at dd'
  obtain ⟨ob, es, ep, hq, h2, h3, h4, _, h5⟩ := dd'
  have w := d_write (t' := tk') J2 (by rw [e]; exact True.intro) hs ⟨ob, hq⟩ (ob := .dT [(ks, y)]) ⟨by rw [sizeLine_eq]; exact (by decide : 1 ≤ 16777216), hd, [(ks, b, u2)], .cons ⟨rfl, by
    rw [upd_ne (ne_of eb e (fun z => nomatch z))]
    exact eb, ry⟩ .nil, ob, es, ep, hq, h2, h3, h4, h5⟩
  exact w
end

/-! ### a tuple times 1 or more -/
theorem tup_once (l : Addr) (items : Array Value) (n : Nat) (dd : Option Addr) (sl : Array (Option Value)) (u : Tok) :
    Meets (Builtin.«tuple.__mul__» ⟨[.ref l, .int 1 u], []⟩) (fun _ R s => s.heap.get? l = some { cls := .type "tuple", dict := dd, data := .seq items n, slots := sl } ∧ R (.ok (.ret (.ref l))) s) :=
  .of_wp fun prog w A R s h => by
    obtain ⟨hp, g, d, tk, os⟩ := s
    obtain ⟨hl, h⟩ := h
    have f1 := AutoSeq1.idx_int
    have c0 : (decide ((1 : Int) < -(2 ^ 63)) || decide ((1 : Int) ≥ 2 ^ 63)) = false := by decide
    have c1 : (items.isEmpty || (1 : Int) == 1) = true := by simp
    wp_walk using AutoSeq1.wpAny_loadPart' hl
    repeat (first
      | (refine wpAny_ite_false (decide_eq_false (by rw [c0]; exact Bool.false_ne_true)) ?_; wp_walk using AutoSeq1.wpAny_loadPart' hl)
      | (refine wpAny_ite_true (decide_eq_true c1) ?_; wp_walk using AutoSeq1.wpAny_loadPart' hl))
    exact ⟨_, rfl, h⟩
def rRepA (K : PySem.W.Frag) : R2 := fun x y H Q => ∃ l k xs, x = .ref l ∧ y = .int k ∧ SqT K H l xs ∧ xs ≠ [] ∧ 1 ≤ k ∧ k ≤ 1000 ∧ xs.length ≤ 1000 ∧ (k = 1 → Q (.ref l) H) ∧ (2 ≤ k → ∀ p, H p = none → Q (.ref p) (upd H p (.tup (List.replicate k.toNat xs).flatten)))
section
variable {X : Cx}
theorem op_repA : OpR X (binaryOp .Mult) (rRepA X.K) := by
  intro pins s σ H x y v u Q I rx ry h
  obtain ⟨l, k, xs, rfl, rfl, hT, hne, h1, h2, hz, q1, q2⟩ := h
  by_cases hk : k = 1
  · subst hk
    cases rx
    obtain ⟨t, rfl⟩ := ry
    obtain ⟨its, r, ⟨⟨cls, dd, data, sl⟩, ho, hc, n, hd⟩, hs⟩ := I.tuple hT
    simp only at hc hd
    subst hc hd
    exact wpAny_binaryOp_repeat_ref (T := "tuple") (U := "int") (by decide) ⟨_, ho, rfl⟩ (fun s' => typeIs_int s' 1 t) noFill_tuple_mul F.fills_int_mul F.slot_int_rmul repeat_tuple F.slot_int_index.lookup
      (call_meets F.slot_int_rmul (typeIs_int s 1 t) F.entry_int_rmul (F.args_int_rmul_2 _ _) (int_rmul_tuple 1 t l its.toArray n dd sl)
        ⟨ho, rfl, ⟨_, ho, rfl⟩, call_meets F.slot_tuple_mul ⟨_, ho, rfl⟩ F.entry_tuple_mul (F.args_tuple_mul_2 _ _) (tup_once l its.toArray n dd sl t) ⟨ho, .ref l, H, I, rfl, q1 rfl⟩⟩)
  · exact op_repT pins s σ H _ _ v u Q I rx ry ⟨l, k, xs, rfl, rfl, hT, hne, by omega, h2, hz, q2 (by omega)⟩
end
end Fo

/-! own_names, spread_out, one_less. -/
namespace Fo
open PySem PySem.Spec PyProof.Rows L2
theorem same_set {H H' : Hp} {o : Addr} {x : HO} (s : Same H H') (h : H o = none) : Same H (upd H' o x) := fun b u e => by
  rw [upd_ne (ne_of_none e h)]
  exact s b u e
/-- whole numbers as values -/
def nV (l : List Nat) : List V := l.map fun (n : Nat) => V.int (n : Int)
theorem nV_len (l : List Nat) : (nV l).length = l.length := by
  unfold nV
  rw [List.length_map]
theorem nV_get {l : List Nat} {i : Nat} (h : i < l.length) : (nV l)[i]? = some (.int ((l.getD i 0 : Nat) : Int)) := by
  unfold nV
  rw [List.getElem?_map, getD_get (d := 0) h]
  rfl
theorem line1 {n : Nat} (h : n ≤ 1000000) : n ≤ sizeLine := by
  rw [sizeLine_eq]
  omega
theorem flat1 {α : Type} (x : α) : ∀ n : Nat, (List.replicate n [x]).flatten = List.replicate n x
  | 0 => rfl
  | n + 1 => by
    rw [List.replicate_succ, List.flatten_cons, flat1 x n]
    rfl
section
variable {P : Program} {w : World} {K : PySem.W.Frag} {mg : Str → Option Value} {base : Heap}

def spOwn : Sp := fun vs H Q _ => ∃ s : Nat, vs = [.int (s : Int)] ∧ s ≤ 1000 ∧ ∀ H' p, Same H H' → H p = none → H' p = some (.lst ((ownL s).map V.int)) → Q (.ref p) H'
theorem ok_own_names (T : Tx K mg) : FnOk P w K mg base CX0 1 T.own_names.f T.own_names.d ["size"] spOwn := by
  refine T.own_names.F.ok sc_own_names (fun vs H Q E h => ?_) (fun cdv A outer s H vs Q E hr h => ?_)
  · obtain ⟨s, rfl, _⟩ := h
    rfl
  · obtain ⟨s, rfl, hs, q⟩ := h
    refine ⟨_, pss_cons (ps_set (i := 1) sc_own_names.nd rfl (.inl rfl) (pe_lst (pa_cons pe_int pa_nil)))
      (pss_cons (ps_for PassesOwn.never rfl (pi_range1 (by rfl) T.z_range (pa_cons (pv 0) pa_nil)) (pg_name (i := 2) sc_own_names.nd rfl (.inl rfl))
        (pss_one (ps_expr (pe_bm PySem.F.plainAttrs_list PySem.F.slot_list_append PySem.F.type_list_append mt_append (pv 1)
          (pa_cons (pe_op op_fdiv (pe_op op_mul (pe_op op_mul (pe_ix ix_list (pv 1) (pe_un un_neg pe_int) (fun _ _ => rfl)) (pe_op op_sub (pv 0) (pv 2))) (pe_op op_sub (pv 0) (pv 2))) (pe_op op_add (pv 2) pe_int)) pa_nil)))))
      (pss_one (ps_ret (pv 1)))), ?_⟩
    refine ⟨by decide, fun o no => ?_⟩
    refine ⟨_, rfl, (s : Int), rfl, by omega, by omega, ?_⟩
    have f0 : ∀ i : Nat, (((List.range (i + 1)).map fun k => ((own s k : Nat) : Int)).map V.int) = (((List.range i).map fun k => ((own s k : Nat) : Int)).map V.int) ++ [.int ((own s i : Nat) : Int)] := fun i => by
      rw [range_map_succ, List.map_append]
      rfl
    refine for_it walk_range (fun i σ H3 => ∃ y2, σ = [some (.int (s : Int)), some (.ref o), y2] ∧ Same H H3 ∧ H3 o = some (.lst (((List.range (i + 1)).map fun k => ((own s k : Nat) : Int)).map V.int)))
      ⟨none, rfl, same_set (Same.refl _) no, ?_⟩ (fun _ _ _ _ _ => trivial) (fun i x σ H3 H4 hi hW hy => ?_) (fun σ H3 hW => ?_)
    · rw [upd_same]
      show some (HO.lst [.int 1]) = some (.lst [.int ((own s 0 : Nat) : Int)])
      rw [own_zero]
      rfl
    · obtain ⟨y2, rfl, sm, eo⟩ := hW
      obtain ⟨rfl, rfl⟩ := hy
      rw [Int.toNat_natCast] at hi
      have hzi : (0 : Int) + (i : Nat) = ((i : Nat) : Int) := by omega
      refine ⟨.ref o, rfl, .inl ⟨rfl, _, .inl (.inl eo)⟩, ?_⟩
      refine ⟨_, rfl, 1, rfl, o, _, -1, _, rfl, rfl, SqL.of eo, by rw [f0]; exact atI_last _ _, _, rfl, _, rfl, _, _, rfl, rfl, ?_⟩
      rw [hzi]
      refine ⟨_, _, rfl, rfl, .inr ⟨by omega, by omega⟩, _, rfl, _, rfl, _, _, rfl, rfl, _, _, rfl, rfl, .inr ⟨by omega, by omega⟩, _, rfl, _, _, rfl, rfl, _, _, rfl, rfl, ⟨by omega, by omega⟩, ?_⟩
      have e : ((own s i : Nat) : Int) * ((s : Int) - (i : Nat)) * ((s : Int) - (i : Nat)) / (((i : Nat) : Int) + 1) = ((own s (i + 1) : Nat) : Int) := by
        rw [← own_div s i]
        have e1 : (s : Int) - (i : Nat) = ((s - i : Nat) : Int) := by omega
        rw [e1]
        rfl
      refine ⟨o, _, _, rfl, rfl, eo, ?_, ?_⟩
      · rw [List.length_map, List.length_map, List.length_range, sizeLine_eq]
        omega
      · refine ⟨_, rfl, same_set sm no, ?_⟩
        rw [upd_same, f0 (i + 1)]
        rw [← e, hzi]
    · obtain ⟨y2, rfl, sm, eo⟩ := hW
      rw [Int.toNat_natCast] at eo
      exact ⟨.ref o, rfl, q H3 o sm no eo⟩

def spSpread : Sp := fun vs H Q _ => ∃ a l, vs = [.ref a] ∧ H a = some (.tup (nV l)) ∧ l.sum ≤ 1000 ∧ l.length ≤ 1000 ∧ ∀ H' p, Same H H' → H p = none → H' p = some (.lst (nV (wide 0 l))) → Q (.ref p) H'
theorem wide_take (k : Nat) : ∀ (l : List Nat) (i : Nat), i < l.length → wide k (l.take (i + 1)) = wide k (l.take i) ++ List.replicate (l.getD i 0) (k + i)
  | [], i, h => by cases h
  | s :: r, 0, _ => by
    show wide k [s] = wide k [] ++ List.replicate s (k + 0)
    show List.replicate s k ++ wide (k + 1) [] = [] ++ _
    simp [wide]
  | s :: r, i + 1, h => by
    have hl : i < r.length := by
      rw [List.length_cons] at h
      omega
    have ih := wide_take (k + 1) r i hl
    show List.replicate s k ++ wide (k + 1) (r.take (i + 1)) = (List.replicate s k ++ wide (k + 1) (r.take i)) ++ List.replicate (r.getD i 0) (k + (i + 1))
    rw [ih, List.append_assoc, show k + 1 + i = k + (i + 1) by omega]
theorem wide_take_len (l : List Nat) (i : Nat) : (wide 0 (l.take i)).length ≤ l.sum := by
  rw [wide_length]
  exact sum_take_le l i
theorem ok_spread_out (T : Tx K mg) : FnOk P w K mg base CX0 1 T.spread_out.f T.spread_out.d ["numbers"] spSpread := by
  refine T.spread_out.F.ok sc_spread_out (fun vs H Q E h => ?_) (fun cdv A outer s H vs Q E hr h => ?_)
  · obtain ⟨a, l, rfl, _⟩ := h
    rfl
  · obtain ⟨a, l, rfl, ha, hsum, hlen, q⟩ := h
    refine ⟨_, pss_cons (ps_set (i := 1) sc_spread_out.nd rfl (.inl rfl) (pe_lst pa_nil))
      (pss_cons (ps_for PassesOwn.never rfl (pi_enumT (by rfl) T.z_enumerate (pa_cons (pv 0) pa_nil)) (pg_tup rfl (pgs_cons (pg_name (i := 2) sc_spread_out.nd rfl (.inl rfl)) (pgs_cons (pg_name (i := 3) sc_spread_out.nd rfl (.inl rfl)) pgs_nil)))
        (pss_one (ps_expr (pe_bm PySem.F.plainAttrs_list PySem.F.slot_list_extend PySem.F.type_list_extend mt_extend (pv 1)
          (pa_cons (pe_op op_rep (pe_lst (pa_cons (pv 2) pa_nil)) (pv 3)) pa_nil)))))
      (pss_one (ps_ret (pv 1)))), ?_⟩
    refine ⟨by decide, fun o no => ?_⟩
    refine ⟨_, rfl, a, _, rfl, SqT.of (same_upd (Same.refl _) no _ _ ha), ?_⟩
    refine for_it (walk_enumT (xs := nV l)) (fun i σ H3 => ∃ y2 y3, σ = [some (.ref a), some (.ref o), y2, y3] ∧ Same H H3 ∧ H3 o = some (.lst (nV (wide 0 (l.take i)))))
      ⟨none, none, rfl, same_set (Same.refl _) no, by rw [upd_same]; rfl⟩ (fun i σ H3 _ hW => ?_) (fun i x σ H3 H4 hi hW hy => ?_) (fun σ H3 hW => ?_)
    · obtain ⟨_, _, _, sm, _⟩ := hW
      exact SqT.of (sm _ _ ha)
    · obtain ⟨y2, y3, rfl, sm, eo⟩ := hW
      obtain ⟨Tp, x1, x2, rfl, hT, rfl, e1, e2⟩ := hy
      rw [nV_len] at hi
      have e2 : (nV l)[i]? = some x2 := e2
      rw [nV_get hi] at e2
      obtain rfl : x1 = .int (i : Nat) := (Option.some.inj e1).symm
      obtain rfl : x2 = .int ((l.getD i 0 : Nat) : Int) := (Option.some.inj e2).symm
      refine ⟨Tp, _, rfl, SqT.of upd_same, rfl, _, _, rfl, _, _, rfl, rfl, ?_⟩
      have eoT : (upd H3 Tp (.tup [V.int (i : Nat), .int ((l.getD i 0 : Nat) : Int)])) o = some (.lst (nV (wide 0 (l.take i)))) := by
        rw [upd_ne (ne_of_none eo hT)]
        exact eo
      refine ⟨.ref o, rfl, .inl ⟨rfl, _, SqL.of eoT⟩, ?_⟩
      have hle := get_le_sum l i
      refine ⟨_, rfl, line1 (Nat.le_add_left 1 999999), fun c nc => ⟨_, rfl, c, _, _, rfl, rfl, upd_same, by omega, by omega, ?_, fun d nd => ?_⟩⟩
      · rw [Int.toNat_natCast]
        refine line1 ?_
        show 1 * l.getD i 0 ≤ _
        omega
      · have nco : c ≠ o := fun z => by
          rw [z, eoT] at nc
          cases nc
        have ndo : d ≠ o := fun z => by
          rw [z, upd_ne (Ne.symm nco), eoT] at nd
          cases nd
        refine ⟨o, d, _, _, rfl, rfl, by rw [upd_ne (Ne.symm ndo), upd_ne (Ne.symm nco)]; exact eoT, upd_same, ?_, ?_⟩
        · have h1 := wide_take_len l i
          rw [nV_len, Int.toNat_natCast, flat1, List.length_replicate]
          exact line1 (by omega)
        · refine ⟨_, _, rfl, same_set (same_upd (same_upd (same_upd sm hT) nc) nd) no, ?_⟩
          rw [upd_same, wide_take 0 l i hi]
          unfold nV
          rw [List.map_append, Int.toNat_natCast]
          rw [flat1, List.map_replicate, Nat.zero_add]
    · obtain ⟨y2, y3, rfl, sm, eo⟩ := hW
      rw [nV_len, List.take_length] at eo
      exact ⟨.ref o, rfl, q H3 o sm no eo⟩
end
end Fo

/-! families_many. -/
namespace Fo
open PySem PySem.Spec PyProof.Rows L2
theorem iget {l : List Int} {n : Nat} (h : n < l.length) : atI (l.map V.int) (n : Int) = some (.int (l.getD n 0)) := by
  refine atI_nat ?_
  rw [List.getElem?_map, getD_get (d := 0) h]
  rfl
theorem iget0 {l : List Int} {n : Nat} (h : n < l.length) : (l.map V.int)[n]? = some (.int (l.getD n 0)) := by
  rw [List.getElem?_map, getD_get (d := 0) h]
  rfl
theorem ixNn {n j : Nat} (h : j < n) : ixN n (j : Int) = some j := by
  unfold ixN
  rw [if_pos (by omega), if_pos (by omega)]
  rfl
theorem igetE {l : List Int} {n : Nat} {z : Int} (e : z = (n : Int)) (h : n < l.length) : atI (l.map V.int) z = some (.int (l.getD n 0)) := by
  rw [e]
  exact iget h
theorem ixNE {n j : Nat} {z : Int} (e : z = (j : Int)) (h : j < n) : ixN n z = some j := by
  rw [e]
  exact ixNn h
theorem addAt_V (l : List Int) (n : Nat) (x : Int) : (l.map V.int).set n (.int (l.getD n 0 + x)) = (addAt l n x).map V.int := by
  unfold addAt
  rw [List.map_set]
/-- what stands at both, when one is new -/
theorem ne_new {H : Hp} {a b : Addr} {x : HO} (h : H a = some x) (hb : H b = none) : b ≠ a := fun z => by
  rw [z, h] at hb
  cases hb
theorem walk_r0 {n : Nat} : Walk (Itr 0 n) n (fun _ => True) (YFn fun i => .int ((i : Nat) : Int)) :=
  walk_range.mono (fun _ h => h) fun i H x H' _ _ y => ⟨y.1, y.2.trans (congrArg V.int (Int.zero_add _))⟩
def goodS (l : List Nat) : Prop := 1 ≤ l.length ∧ l.length ≤ 8 ∧ ∀ s ∈ l, 1 ≤ s ∧ (s : Int) ≤ 10 ^ 30
theorem cnt_good {l : List Nat} {lo : Int} (h : goodS l) (h1 : lo ≤ 1) : cntB lo (nV l) = true := by
  obtain ⟨a, b, c⟩ := h
  unfold cntB
  rw [nV_len, decide_eq_true a, decide_eq_true b]
  show (nV l).all _ = true
  refine List.all_eq_true.mpr fun x hx => ?_
  unfold nV at hx
  obtain ⟨n, hn, rfl⟩ := List.mem_map.mp hx
  obtain ⟨c1, c2⟩ := c n hn
  show (decide _ && decide _) = true
  rw [decide_eq_true (show lo ≤ (n : Int) by omega), decide_eq_true c2]
  rfl
theorem nV_kn {K : PySem.W.Frag} {H : Hp} (l : List Nat) : ∀ z ∈ nV l, Kn K H z := fun z hz => by
  unfold nV at hz
  obtain ⟨n, _, rfl⟩ := List.mem_map.mp hz
  exact .inr (.inr (.inl ⟨_, rfl⟩))
theorem nV_int (l : List Nat) : nV l = (l.map fun (n : Nat) => (n : Int)).map V.int := by
  unfold nV
  rw [List.map_map]
  rfl
theorem sum_nat : ∀ l : List Nat, (l.map fun (n : Nat) => (n : Int)).sum = ((l.sum : Nat) : Int)
  | [] => rfl
  | x :: r => by
    rw [List.map_cons, List.sum_cons, List.sum_cons, sum_nat r]
    omega
theorem getD_mem {l : List Nat} {i : Nat} (h : i < l.length) : l.getD i 0 ∈ l := List.mem_of_getElem? (getD_get (d := 0) h)
section
variable {P : Program} {w : World} {K : PySem.W.Frag} {mg : Str → Option Value} {base : Heap}

def spFam (K : PySem.W.Frag) (mg : Str → Option Value) (T : Tx K mg) (C : Addr) : Sp := fun vs H Q E => ∃ x m, vs = [x, m] ∧
  ((Kn K H x ∧ isTup H x = false ∧ E (.ref T.NoSizes.C) none H) ∨
   (∃ a xs, x = .ref a ∧ H a = some (.tup xs) ∧ (∀ z ∈ xs, Kn K H z) ∧ cntB 1 xs = false ∧ ∀ H', Same H H' → E (.ref T.NoSizes.C) none H') ∨
   (∃ a l, x = .ref a ∧ H a = some (.tup (nV l)) ∧ goodS l ∧ Kn K H m ∧ isW 1 (10 ^ 30) m = false ∧ ∀ H', Same H H' → E (.ref T.NoNumber.C) none H') ∨
   (∃ a l k, x = .ref a ∧ H a = some (.tup (nV l)) ∧ goodS l ∧ m = .int k ∧ 1 ≤ k ∧ k ≤ 10 ^ 30 ∧ 400 < l.sum ∧ ∀ H' d, Same H H' → H' d = none → E (.ref C) (some d) (upd H' d (.xd [(("most" : Str), .int 400)]))) ∨
   (∃ a l k, x = .ref a ∧ H a = some (.tup (nV l)) ∧ goodS l ∧ m = .int k ∧ 1 ≤ k ∧ k ≤ 10 ^ 30 ∧ l.sum ≤ 400 ∧ ∀ H', Same H H' → Q (.int (Tn l % k)) H'))
theorem isW_in {k : Int} (h1 : 1 ≤ k) (h2 : k ≤ 10 ^ 30) : isW 1 (10 ^ 30) (.int k) = true := by
  show (decide _ && decide _) = true
  rw [decide_eq_true h1, decide_eq_true h2]
  rfl
theorem ok_families_many (T : Tx K mg) (M : TmAt P K mg) : FnOk P w K mg base (L2.CX P w) 5 T.families_many.f T.families_many.d ["sizes", "modulus"] (spFam K mg T M.C) := by
  refine T.families_many.F.okX sc_families_many (fun vs H Q E h => ?_) (fun cdv A outer s H vs Q E hr h => ?_)
  · obtain ⟨x, m, rfl, _⟩ := h
    rfl
  · obtain ⟨x, m, rfl, h⟩ := h
    have nd := sc_families_many.nd
    refine ⟨_, pss_cons (ps_expr (pe_call (ok_check_sizes T) hr rfl T.check_sizes.g T.check_sizes.F.kp T.check_sizes.b .nil (passes_call (takes_of rfl rfl rfl rfl) (fun _ _ _ _ h => h)) (pa_cons (pv 0) pa_nil)))
      (pss_cons (ps_expr (pe_call (ok_check_number T) (hr.mono (by decide)) rfl T.check_number.g T.check_number.F.kp T.check_number.b .nil (passes_call (takes_of rfl rfl rfl rfl) (fun _ _ _ _ h => h)) (pa_cons (pv 1) (pa_cons pe_int (pa_cons (pe_const T.MOST_OF_KIND rfl) pa_nil)))))
      (pss_cons (ps_expr (pe_call (ok_check_many T M) (hr.mono (by decide)) rfl T.check_many.g T.check_many.F.kp T.check_many.b .nil (passes_call (takes_of rfl rfl rfl rfl) (fun _ _ _ _ h => h)) (pa_cons (pe_callB (cr_sumT rfl) (by rfl) T.z_sum (by decide +kernel) (pa_cons (pv 0) pa_nil)) (pa_cons (pe_const T.MOST_FAMILIES rfl) pa_nil))))
      (pss_cons (ps_set (i := 2) nd rfl (.inl rfl) (pe_lst (pa_cons pe_int pa_nil)))
      (pss_cons (ps_for (passes_of rfl) rfl (pi_tup (pv 0)) (pg_name (i := 3) nd rfl (.inl rfl))
        (pss_cons (ps_set (i := 7) nd rfl (.inl rfl) (pe_call (ok_own_names T) (hr.mono (by decide)) rfl T.own_names.g T.own_names.F.kp T.own_names.b .nil pass0 (pa_cons (pv 3) pa_nil)))
        (pss_cons (ps_set (i := 8) nd rfl (.inl rfl) (pe_op op_rep (pe_lst (pa_cons pe_int pa_nil)) (pe_op op_add (pe_callB call_len (by rfl) T.z_len (by decide +kernel) (pa_cons (pv 2) pa_nil)) (pv 3))))
        (pss_cons (ps_for (passes_of rfl) rfl (pi_enum (by rfl) T.z_enumerate (pa_cons (pv 2) pa_nil)) (pg_tup rfl (pgs_cons (pg_name (i := 9) nd rfl (.inl rfl)) (pgs_cons (pg_name (i := 10) nd rfl (.inl rfl)) pgs_nil)))
          (pss_one (ps_for (passes_of rfl) rfl (pi_enum (by rfl) T.z_enumerate (pa_cons (pv 7) pa_nil)) (pg_tup rfl (pgs_cons (pg_name (i := 12) nd rfl (.inl rfl)) (pgs_cons (pg_name (i := 13) nd rfl (.inl rfl)) pgs_nil)))
            (pss_one (ps_augS (pv 8) (pe_op op_add (pv 9) (pv 12)) get_list (pe_op op_mulW (pv 10) (pv 13)) ip_add set_list)))))
        (pss_one (ps_set (i := 2) nd rfl (.inl rfl) (pv 8)))))))
      (pss_cons (ps_set (i := 4) nd rfl (.inl rfl) pe_int)
      (pss_cons (ps_set (i := 5) nd rfl (.inl rfl) pe_int)
      (pss_cons (ps_for (passes_of rfl) rfl (pi_range1 (by rfl) T.z_range (pa_cons (pe_callB call_len (by rfl) T.z_len (by decide +kernel) (pa_cons (pv 2) pa_nil)) pa_nil)) (pg_name (i := 6) nd rfl (.inl rfl))
        (pss_cons (ps_set (i := 11) nd rfl (.inl rfl) (pe_op op_sub (pe_op op_sub (pe_callB call_len (by rfl) T.z_len (by decide +kernel) (pa_cons (pv 2) pa_nil)) pe_int) (pv 6)))
        (pss_cons (ps_aug (i := 4) nd rfl (.inl rfl) (pe_ifExp (pt_cmpR op_eq (pe_op op_mod (pv 11) pe_int) pe_int (nomark _)) (pe_op op_mulW (pe_ix ix_list (pv 2) (pv 11) (fun _ _ => rfl)) (pv 5)) (pe_op op_mulW (pe_un un_neg (pe_ix ix_list (pv 2) (pv 11) (fun _ _ => rfl))) (pv 5))) ip_add)
        (pss_one (ps_aug (i := 5) nd rfl (.inl rfl) (pe_op op_add (pv 6) pe_int) iop_mul)))))
      (pss_one (ps_ret (pe_op op_mod (pv 4) (pv 1))))))))))), ?_⟩
    rcases h with ⟨hk, ht, q⟩ | ⟨a, xs, rfl, ha, hk, hc, q⟩ | ⟨a, l, rfl, ha, hg, hk, hw, q⟩ | ⟨a, l, k, rfl, ha, hg, rfl, h1, h2, h4, q⟩ | ⟨a, l, k, rfl, ha, hg, rfl, h1, h2, h4, q⟩
    · exact ⟨x, rfl, x, rfl, .inr ⟨hk, ht, q⟩⟩
    · exact ⟨_, rfl, _, rfl, .inl ⟨a, xs, rfl, ha, hk, fun z => by (rw [hc] at z; cases z), fun _ => q⟩⟩
    · refine ⟨_, rfl, _, rfl, .inl ⟨a, _, rfl, ha, nV_kn l, fun _ H1 s1 => ?_, fun z => by (rw [cnt_good hg (Int.le_refl _)] at z; cases z)⟩⟩
      refine ⟨_, rfl, m, 1, _, rfl, hk.same s1, fun z => ?_, fun _ => q H1 s1⟩
      rw [hw] at z
      cases z
    all_goals
      refine ⟨_, rfl, _, rfl, .inl ⟨a, _, rfl, ha, nV_kn l, fun _ H1 s1 => ?_, fun z => by (rw [cnt_good hg (Int.le_refl _)] at z; cases z)⟩⟩
      refine ⟨_, rfl, _, 1, _, rfl, .inr (.inr (.inl ⟨_, rfl⟩)), fun _ => ?_, fun z => by (rw [isW_in h1 h2] at z; cases z)⟩
      refine ⟨_, rfl, a, l.map fun (n : Nat) => (n : Int), rfl, SqT.of (by rw [← nV_int]; exact s1 _ _ ha), _, _, rfl, ?_⟩
      rw [sum_nat]
    · exact ⟨fun z => absurd z (by omega), fun _ d hd => q H1 d s1 hd⟩
    · refine ⟨fun _ => ?_, fun z => absurd z (by omega)⟩
      refine ⟨line1 (Nat.le_add_left 1 999999), fun w0 nw0 => ?_⟩
      have hl1 : l.length ≤ 8 := hg.2.1
      refine ⟨_, rfl, a, rfl, ⟨_, SqT.of (same_upd s1 nw0 _ _ ha)⟩, ?_⟩
      refine for_it (walk_tup (xs := nV l)) (fun i σ H3 => ∃ y3 y7 y8 y9 y10 y12 y13 wa, σ = [some (.ref a), some (.int k), some (.ref wa), y3, none, none, none, y7, y8, y9, y10, none, y12, y13] ∧ Same H1 H3 ∧ H1 wa = none ∧ H3 wa = some (.lst ((waysL l i).map V.int)))
        ⟨none, none, none, none, none, none, none, w0, rfl, same_upd (Same.refl _) nw0, nw0, by rw [upd_same]; rfl⟩ (fun i σ H3 _ hW => ?_) (fun i x σ H3 H4 hi hW hy => ?_) (fun σ H3 hW => ?_)
      · obtain ⟨_, _, _, _, _, _, _, _, _, sm, _⟩ := hW
        exact SqT.of (sm _ _ (s1 _ _ ha))
      · obtain ⟨y3, y7, y8, y9, y10, y12, y13, wa, rfl, sm, nwa, ewa⟩ := hW
        obtain ⟨rfl, hx⟩ := hy
        rw [nV_len] at hi
        rw [nV_get hi] at hx
        obtain rfl : x = .int ((l.getD i 0 : Nat) : Int) := (Option.some.inj hx).symm
        have hs4 : l.getD i 0 ≤ 400 := Nat.le_trans (get_le_sum l i) h4
        have hwl : (waysL l i).length ≤ 401 := by
          rw [waysL_length l (by omega)]
          have := sum_take_le l i
          omega
        -- own
        refine ⟨_, rfl, l.getD i 0, rfl, by omega, fun H5 oa s5 noa eoa => ?_⟩
        have ewa5 := s5 _ _ ewa
        -- longer
        refine ⟨line1 (Nat.le_add_left 1 999999), fun c nc => ?_⟩
        have s6 : Same H5 (upd H5 c (.lst [.int 0])) := same_upd (Same.refl _) nc
        refine ⟨_, rfl, .ref wa, (waysL l i).length, rfl, .inl ⟨_, SqL.of (s6 _ _ ewa5), by rw [List.length_map]⟩, _, rfl, _, _, rfl, rfl, c, _, _, rfl, rfl, upd_same, by omega, by omega, ?_, fun g ng => ?_⟩
        · refine line1 ?_
          show 1 * _ ≤ _
          omega
        have eg0 : (HO.lst (List.replicate ((((waysL l i).length : Nat) : Int) + ((l.getD i 0 : Nat) : Int)).toNat [V.int 0]).flatten) = .lst ((addRows (waysL l i) (ownL (l.getD i 0)) (List.replicate ((waysL l i).length + ((ownL (l.getD i 0)).length - 1)) 0) 0).map V.int) := by
          show _ = HO.lst ((List.replicate ((waysL l i).length + ((ownL (l.getD i 0)).length - 1)) 0).map V.int)
          rw [flat1, List.map_replicate, ownL_length]
          congr 2
        rw [eg0]
        generalize ew : waysL l i = wl at *
        have s7 : Same H5 (upd (upd H5 c (.lst [.int 0])) g (.lst ((addRows wl (ownL (l.getD i 0)) (List.replicate (wl.length + ((ownL (l.getD i 0)).length - 1)) 0) 0).map V.int))) := same_upd s6 ng
        have ng5 : H5 g = none := by
          have hne : g ≠ c := fun z => by
            rw [z, upd_same] at ng
            cases ng
          rw [upd_ne hne] at ng
          exact ng
        have ngH1 : H1 g = none := by
          cases hh : H1 g with
          | none => rfl
          | some v =>
            have := s5 _ _ (sm _ _ hh)
            rw [ng5] at this
            cases this
        have ngwa : g ≠ wa := ne_new ewa5 ng5
        have ngoa : g ≠ oa := ne_new eoa ng5
        refine ⟨_, rfl, wa, _, rfl, SqL.of (s7 _ _ ewa5), ?_⟩
        refine for_it (walk_enum (xs := wl.map V.int)) (fun j σ H6 => ∃ y9 y10 y12 y13, σ = [some (.ref a), some (.int k), some (.ref wa), some (.int ((l.getD i 0 : Nat) : Int)), none, none, none, some (.ref oa), some (.ref g), y9, y10, none, y12, y13] ∧ Same H1 H6 ∧ H6 wa = some (.lst (wl.map V.int)) ∧
            H6 oa = some (.lst ((ownL (l.getD i 0)).map V.int)) ∧ H6 g = some (.lst ((addRows wl (ownL (l.getD i 0)) (List.replicate (wl.length + ((ownL (l.getD i 0)).length - 1)) 0) j).map V.int)))
          ⟨y9, y10, y12, y13, rfl, (sm.trans s5).trans s7, s7 _ _ ewa5, s7 _ _ eoa, upd_same⟩ (fun j σ H6 _ hW => ?_) (fun j x σ H6 H7 hj hW hy => ?_) (fun σ H6 hW => ?_)
        · obtain ⟨_, _, _, _, _, _, e, _⟩ := hW
          exact SqL.of e
        · obtain ⟨z9, z10, z12, z13, rfl, m6, e6w, e6o, e6g⟩ := hW
          obtain ⟨Tp, x1, x2, rfl, hT, rfl, e1, e2⟩ := hy
          rw [List.length_map] at hj
          have e2 : (wl.map V.int)[j]? = some x2 := e2
          rw [iget0 hj] at e2
          obtain rfl : x1 = .int (j : Nat) := (Option.some.inj e1).symm
          obtain rfl : x2 = .int (wl.getD j 0) := (Option.some.inj e2).symm
          have s8 : Same H6 (upd H6 Tp (.tup [V.int (j : Nat), .int (wl.getD j 0)])) := same_upd (Same.refl _) hT
          refine ⟨Tp, _, rfl, SqT.of upd_same, rfl, _, _, rfl, _, _, rfl, rfl, ?_⟩
          refine ⟨_, rfl, oa, _, rfl, SqL.of (s8 _ _ e6o), ?_⟩
          refine for_it (walk_enum (xs := (ownL (l.getD i 0)).map V.int)) (fun t σ H6 => ∃ y12 y13, σ = [some (.ref a), some (.int k), some (.ref wa), some (.int ((l.getD i 0 : Nat) : Int)), none, none, none, some (.ref oa), some (.ref g), some (.int (j : Nat)), some (.int (wl.getD j 0)), none, y12, y13] ∧ Same H1 H6 ∧ H6 wa = some (.lst (wl.map V.int)) ∧
              H6 oa = some (.lst ((ownL (l.getD i 0)).map V.int)) ∧ H6 g = some (.lst ((addRow (ownL (l.getD i 0)) j (wl.getD j 0) (addRows wl (ownL (l.getD i 0)) (List.replicate (wl.length + ((ownL (l.getD i 0)).length - 1)) 0) j) t).map V.int)))
            ⟨z12, z13, rfl, m6.trans s8, s8 _ _ e6w, s8 _ _ e6o, s8 _ _ e6g⟩ (fun t σ H6 _ hW => ?_) (fun t x σ H6 H7 ht hW hy => ?_) (fun σ H6 hW => ?_)
          · obtain ⟨_, _, _, _, _, e, _⟩ := hW
            exact SqL.of e
          · obtain ⟨u12, u13, rfl, m7, e7w, e7o, e7g⟩ := hW
            obtain ⟨Tp, x1, x2, rfl, hT, rfl, e1, e2⟩ := hy
            rw [List.length_map] at ht
            have e2 : ((ownL (l.getD i 0)).map V.int)[t]? = some x2 := e2
            rw [iget0 ht] at e2
            obtain rfl : x1 = .int (t : Nat) := (Option.some.inj e1).symm
            obtain rfl : x2 = .int ((ownL (l.getD i 0)).getD t 0) := (Option.some.inj e2).symm
            have s9 : Same H6 (upd H6 Tp (.tup [V.int (t : Nat), .int ((ownL (l.getD i 0)).getD t 0)])) := same_upd (Same.refl _) hT
            refine ⟨Tp, _, rfl, SqT.of upd_same, rfl, _, _, rfl, _, _, rfl, rfl, ?_⟩
            have e8g := s9 _ _ e7g
            have hjt : j + t < (addRow (ownL (l.getD i 0)) j (wl.getD j 0) (addRows wl (ownL (l.getD i 0)) (List.replicate (wl.length + ((ownL (l.getD i 0)).length - 1)) 0) j) t).length := by
              rw [addRow_length, addRows_length, List.length_replicate]
              omega
            have ejt : ((j : Nat) : Int) + (t : Nat) = ((j + t : Nat) : Int) := by omega
            refine ⟨_, rfl, _, rfl, _, rfl, _, _, rfl, rfl, ?_⟩
            refine ⟨g, _, _, _, rfl, rfl, SqL.of e8g, igetE ejt hjt, _, rfl, _, rfl, _, _, rfl, rfl, ?_, _, _, rfl, rfl, ?_⟩
            · rw [← ew]
              exact wide_mul (ways_small h4 (by omega) j) (own_small hs4 t) (by decide) (by decide) (by decide)
            · refine ⟨g, _, _, j + t, rfl, rfl, e8g, ?_, ?_⟩
              · rw [List.length_map]
                exact ixNE ejt hjt
              · refine ⟨_, _, rfl, same_set (m7.trans s9) ngH1, ?_, ?_, ?_⟩
                · rw [upd_ne (Ne.symm ngwa)]
                  exact s9 _ _ e7w
                · rw [upd_ne (Ne.symm ngoa)]
                  exact s9 _ _ e7o
                · rw [upd_same, addAt_V]
                  rfl
          · obtain ⟨u12, u13, rfl, m7, e7w, e7o, e7g⟩ := hW
            rw [List.length_map] at e7g
            exact ⟨_, _, _, _, rfl, m7, e7w, e7o, e7g⟩
        · obtain ⟨z9, z10, z12, z13, rfl, m6, e6w, e6o, e6g⟩ := hW
          rw [List.length_map] at e6g
          refine ⟨_, rfl, _, _, _, _, _, _, _, g, rfl, m6, ngH1, ?_⟩
          rw [e6g]
          show _ = some (HO.lst ((mulL (waysL l i) (ownL (l.getD i 0))).map V.int))
          rw [ew]
          rfl
      · obtain ⟨y3, y7, y8, y9, y10, y12, y13, wa, rfl, sm, nwa, ewa⟩ := hW
        rw [nV_len] at ewa
        have hwl : (waysL l l.length).length = l.sum + 1 := by
          rw [waysL_length l (Nat.le_refl _), List.take_length]
        have et := tot_is l
        refine ⟨_, rfl, .ref wa, (waysL l l.length).length, rfl, .inl ⟨_, SqL.of ewa, by rw [List.length_map]⟩, _, rfl, by omega, by omega, ?_⟩
        have hsm := fun n => ways_small h4 (Nat.le_refl l.length) n
        generalize waysL l l.length = wl at *
        refine for_it walk_r0 (fun i σ H4 => ∃ y6 y11, σ = [some (.ref a), some (.int k), some (.ref wa), y3, some (.int (totL wl i)), some (.int ((fa i : Nat) : Int)), y6, y7, y8, y9, y10, y11, y12, y13] ∧ H4 = H3)
          ⟨none, none, rfl, rfl⟩ (fun _ _ _ _ _ => trivial) (fun i x σ H4 H5 hi hW hy => ?_) (fun σ H4 hW => ?_)
        · obtain ⟨y6, y11, rfl, rfl⟩ := hW
          obtain ⟨rfl, rfl⟩ := hy
          rw [Int.toNat_natCast] at hi
          refine ⟨_, rfl, .ref wa, wl.length, rfl, .inl ⟨_, SqL.of ewa, by rw [List.length_map]⟩, _, _, rfl, rfl, _, rfl, _, _, rfl, rfl, ?_⟩
          have en : ((wl.length : Nat) : Int) - 1 - (i : Nat) = ((wl.length - 1 - i : Nat) : Int) := by omega
          have hn : wl.length - 1 - i < wl.length := by omega
          refine ⟨_, rfl, _, rfl, _, _, rfl, rfl, (by decide : (0 : Int) < 2), rfl, _, rfl, ?_⟩
          have tot : totL wl (i + 1) = totL wl i + sg (wl.length - 1 - i) * wl.getD (wl.length - 1 - i) 0 * ((fa i : Nat) : Int) := rfl
          generalize hN : wl.length - 1 - i = N at *
          have hmul : CMulW (wl.getD N 0) ((fa i : Nat) : Int) := wide_mul (hsm N) (fa_small (by omega)) (by decide) (by decide) (by decide)
          have hmul2 : CMulW (-wl.getD N 0) ((fa i : Nat) : Int) := wide_mul (by rw [Int.natAbs_neg]; exact hsm N) (fa_small (by omega)) (by decide) (by decide) (by decide)
          have e : ((fa (i + 1) : Nat) : Int) = ((fa i : Nat) : Int) * (((i : Nat) : Int) + 1) := by
            show (((i + 1) * fa i : Nat) : Int) = _
            rw [Int.natCast_mul, Int.mul_comm]
            rfl
          have fin : ∀ z : Int, z = totL wl (i + 1) → ∃ y6 y11, (([some (V.ref a), some (.int k), some (.ref wa), y3, some (.int z), some (.int (((fa i : Nat) : Int) * (((i : Nat) : Int) + 1))), some (.int ((i : Nat) : Int)), y7, y8, y9, y10, some (.int (((wl.length : Nat) : Int) - 1 - ((i : Nat) : Int))), y12, y13] : L2.St) = [some (.ref a), some (.int k), some (.ref wa), y3, some (.int (totL wl (i + 1))), some (.int ((fa (i + 1) : Nat) : Int)), y6, y7, y8, y9, y10, y11, y12, y13]) ∧ H5 = H5 := by
            intro z hz
            rw [hz, e]
            exact ⟨_, _, rfl, rfl⟩
          by_cases hpar : N % 2 = 0
          · have ed : ((((wl.length : Nat) : Int) - 1 - (i : Nat)) % 2 = 0) := by omega
            rw [decide_eq_true (congrArg V.int ed)]
            refine iteT ⟨_, rfl, _, rfl, wa, _, _, _, rfl, rfl, SqL.of ewa, igetE en hn, _, rfl, _, _, rfl, rfl, hmul, _, _, rfl, rfl, ?_⟩
            refine ⟨_, rfl, _, rfl, _, _, rfl, rfl, _, _, rfl, rfl, .inr ⟨by omega, by omega⟩, ?_⟩
            rw [sg_even hpar, Int.one_mul] at tot
            exact fin _ tot.symm
          · have ed : ¬ ((((wl.length : Nat) : Int) - 1 - (i : Nat)) % 2 = 0) := by omega
            rw [decide_eq_false (fun z => ed (V.int.inj z))]
            refine iteF ⟨_, rfl, _, rfl, wa, _, _, _, rfl, rfl, SqL.of ewa, igetE en hn, _, rfl, _, rfl, _, _, rfl, rfl, hmul2, _, _, rfl, rfl, ?_⟩
            refine ⟨_, rfl, _, rfl, _, _, rfl, rfl, _, _, rfl, rfl, .inr ⟨by omega, by omega⟩, ?_⟩
            rw [sg_odd (by omega), Int.neg_one_mul] at tot
            exact fin _ tot.symm
        · obtain ⟨y6, y11, rfl, rfl⟩ := hW
          rw [Int.toNat_natCast]
          refine ⟨_, rfl, _, rfl, _, _, rfl, rfl, by omega, ?_⟩
          rw [et]
          exact q H4 (s1.trans sm)
end
end Fo

/-! one_less, after_person. -/
namespace Fo
open PySem PySem.Spec PyProof.Rows L2
theorem cutV_pre {xs : List V} {i : Nat} : cutV xs none (some ((i : Nat) : Int)) = xs.take i := by
  show (xs.drop (HT.sIx xs.length 0 none)).take (HT.sIx xs.length xs.length (some ((i : Nat) : Int)) - HT.sIx xs.length 0 none) = _
  rw [HT.sIx_nat, HT.sIx_none, List.drop_zero, Nat.sub_zero]
  by_cases h : i ≤ xs.length
  · rw [Nat.min_eq_left h]
  · rw [Nat.min_eq_right (by omega), List.take_length, List.take_of_length_le (by omega)]
theorem cutV_suf {xs : List V} {i : Nat} : cutV xs (some ((i : Nat) : Int)) none = xs.drop i := by
  show (xs.drop (HT.sIx xs.length 0 (some ((i : Nat) : Int)))).take (HT.sIx xs.length xs.length none - HT.sIx xs.length 0 (some ((i : Nat) : Int))) = _
  rw [HT.sIx_nat, HT.sIx_none]
  by_cases h : i ≤ xs.length
  · rw [Nat.min_eq_left h]
    exact List.take_of_length_le (by rw [List.length_drop]; omega)
  · rw [Nat.min_eq_right (by omega), List.drop_length, List.drop_eq_nil_of_le (by omega), List.take_nil]
section
variable {K : PySem.W.Frag} {H : Hp} {a b : Addr} {xs ys : List V} {Q : VK}
theorem cat_use (ha : H a = some (.tup xs)) (hb : H b = some (.tup ys)) (hz : xs.length + ys.length ≤ sizeLine) (q : ∀ p H', Same H H' → H' p = some (.tup (xs ++ ys)) → Q (.ref p) H') : rCatA K (.ref a) (.ref b) H Q :=
  ⟨a, b, xs, ys, rfl, rfl, SqT.of ha, SqT.of hb, hz, fun e => q b H (Same.refl _) (by rw [e]; exact hb), fun _ e => q a H (Same.refl _) (by rw [e, List.append_nil]; exact ha), fun _ _ p hp => q p _ (same_upd (Same.refl _) hp) upd_same⟩
theorem sl_use {lo hi : Option Int} (ha : H a = some (.tup xs)) (q : ∀ p H', Same H H' → H' p = some (.tup (cutV xs lo hi)) → Q (.ref p) H') : rSlA K (.ref a) lo hi H Q :=
  ⟨a, xs, rfl, SqT.of ha, fun hw => q a H (Same.refl _) (by
    have e : cutV xs lo hi = xs := by
      show (xs.drop (HT.sIx xs.length 0 lo)).take (HT.sIx xs.length xs.length hi - HT.sIx xs.length 0 lo) = _
      rw [hw.1, hw.2, List.drop_zero, Nat.sub_zero, List.take_length]
    rw [e]
    exact ha), fun _ p hp => q p _ (same_upd (Same.refl _) hp) upd_same⟩
end
section
variable {P : Program} {w : World} {K : PySem.W.Frag} {mg : Str → Option Value} {base : Heap}
def spLess : Sp := fun vs H Q _ => ∃ (q : Addr) (t : List Nat) (i : Nat), vs = [.ref q, .int (i : Int)] ∧ H q = some (.tup (nV t)) ∧ i < t.length ∧ t.length ≤ 1000 ∧ 1 ≤ t.getD i 0 ∧ ∀ H' p, Same H H' → H' p = some (.tup (nV (t.set i (t.getD i 0 - 1)))) → Q (.ref p) H'
theorem ok_one_less (T : Tx K mg) : FnOk P w K mg base CX0 1 T.one_less.f T.one_less.d ["numbers", "place"] spLess := by
  refine T.one_less.F.ok sc_one_less (fun vs H Q E h => ?_) (fun cdv A outer s H vs Q E hr h => ?_)
  · obtain ⟨q, t, i, rfl, _⟩ := h
    rfl
  · obtain ⟨a, t, i, rfl, ha, hi, hl, h1, q⟩ := h
    refine ⟨_, pss_one (ps_ret (pe_op op_catA (pe_op op_catA (pe_slice sl_tupA (pv 0) po_none (po_some (pv 1))) (pe_tup (pa_cons (pe_op op_sub (pe_ix ix_tup (pv 0) (pv 1) (fun _ _ => rfl)) pe_int) pa_nil))) (pe_slice sl_tupA (pv 0) (po_some (pe_op op_add (pv 1) pe_int)) po_none))), ?_⟩
    refine ⟨_, rfl, _, rfl, _, rfl, sl_use ha fun p1 H1 s1 e1 => ?_⟩
    rw [cutV_pre] at e1
    have g1 : (nV t)[i]? = some (.int ((t.getD i 0 : Nat) : Int)) := nV_get hi
    refine ⟨_, rfl, _, rfl, a, nV t, (i : Int), _, rfl, rfl, SqT.of (s1 _ _ ha), atI_nat g1, _, _, rfl, rfl, line1 (Nat.le_add_left 1 999999), fun p2 n2 => ?_⟩
    refine cat_use (by rw [upd_ne (ne_of_none e1 n2)]; exact e1) upd_same ?_ fun p3 H3 s3 e3 => ?_
    · refine line1 ?_
      rw [List.length_take, nV_len]
      show _ + 1 ≤ _
      omega
    · have s13 : Same H H3 := (same_upd s1 n2).trans s3
      refine ⟨_, rfl, _, rfl, _, _, rfl, rfl, _, rfl, ?_⟩
      simp only [tNoPart]
      refine sl_use (s13 _ _ ha) fun p4 H4 s4 e4 => ?_
      refine cat_use (s4 _ _ e3) e4 ?_ fun p5 H5 s5 e5 => ?_
      · refine line1 ?_
        have e0 : ((i : Nat) : Int) + 1 = ((i + 1 : Nat) : Int) := rfl
        rw [e0, cutV_suf, List.length_append, List.length_take, List.length_drop, nV_len]
        show _ + 1 + _ ≤ _
        omega
      · refine q H5 p5 ((s13.trans s4).trans s5) ?_
        rw [e5]
        have e0 : ((i : Nat) : Int) + 1 = ((i + 1 : Nat) : Int) := rfl
        rw [e0, cutV_suf]
        unfold nV
        rw [List.set_eq_take_append_cons_drop, if_pos hi, List.map_append, List.map_cons, List.map_take, List.map_drop, List.append_assoc]
        congr 2
        have e5 : (((t.getD i 0 : Nat) : Int) - 1) = ((t.getD i 0 - 1 : Nat) : Int) := by omega
        rw [← e5]
        rfl
end
end Fo

/-! after_person. -/
namespace Fo
open PySem PySem.Spec PyProof.Rows L2
/-- the class Kinds -/
structure KiAt (K : PySem.W.Frag) (mg : Str → Option Value) (f : Addr) where
  C : Addr
  g : mg "Kinds" = some (.ref C)
  made : Mk K C f
  cls : Cls K C
  n1 : NoAttr K C "people"
  n2 : NoAttr K C "things"
  n3 : NoAttr K C "allowed"
/-- a table of the families of these sizes -/
structure KindsAt (H : Hp) (C kd a : Addr) (l : List Nat) : Prop where
  sizes : H a = some (.tup (nV l))
  rows : ∃ (dx al : Addr) (rs : List Addr), H kd = some (.ins C dx [(("people" : Str), .ref a), ("things", .ref a), ("allowed", .ref al)]) ∧ H al = some (.tup (rs.map V.ref)) ∧ ∀ i, i < l.length → ∃ r, rs[i]? = some r ∧ H r = some (.tup (nV (oth l.length i)))
theorem KindsAt.same {H H' : Hp} {C kd a : Addr} {l : List Nat} (k : KindsAt H C kd a l) (s : Same H H') : KindsAt H' C kd a l := by
  obtain ⟨h1, dx, al, rs, h2, h3, h4⟩ := k
  refine ⟨s _ _ h1, dx, al, rs, s _ _ h2, s _ _ h3, fun i hi => ?_⟩
  obtain ⟨r, e1, e2⟩ := h4 i hi
  exact ⟨r, e1, s _ _ e2⟩
/-- keys -/
def kN (t : List Nat) : List Key := t.map fun (n : Nat) => Sum.inl (n : Int)
def tV (ks : List (List Nat × Int)) : List (List Key × V) := ks.map fun p => (kN p.1, V.int p.2)
theorem kN_V (t : List Nat) : (kN t).map kV = nV t := by
  unfold kN nV
  rw [List.map_map]
  rfl
theorem kN_inj : ∀ {s t : List Nat}, kN s = kN t → s = t
  | [], [], _ => rfl
  | [], _ :: _, h => by cases h
  | _ :: _, [], h => by cases h
  | x :: s, y :: t, h => by
    have h' : (Sum.inl (x : Int) : Key) :: kN s = Sum.inl (y : Int) :: kN t := h
    injection h' with h1 h2
    have e := kN_inj h2
    have e1 : (x : Int) = y := Sum.inl.inj h1
    rw [e, show x = y by omega]
theorem tV_val (t : List Nat) : ∀ ks : List (List Nat × Int), valV (tV ks) (kN t) = (getL ks t).map V.int
  | [] => rfl
  | p :: r => by
    show valV ((kN p.1, V.int p.2) :: tV r) (kN t) = _
    have g : getL (p :: r) t = if p.1 = t then some p.2 else getL r t := by
      unfold getL
      rw [List.find?_cons]
      by_cases h : p.1 = t
      · rw [decide_eq_true h, if_pos h]
        rfl
      · rw [decide_eq_false h, if_neg h]
    rw [g]
    by_cases h : p.1 = t
    · rw [if_pos h, valV_pos (by rw [h])]
      rfl
    · rw [if_neg h, valV_neg (fun z => h (kN_inj z)), tV_val t r]
theorem tV_put {t : List Nat} {v : Int} : ∀ {ks : List (List Nat × Int)}, (ks.map (·.1)).Nodup → putK (tV ks) (kN t) (V.int v) = tV (putR ks t v)
  | [], _ => rfl
  | p :: r, hn => by
    have hn' := List.nodup_cons.mp (show (p.1 :: r.map (·.1)).Nodup from hn)
    have ih := tV_put (t := t) (v := v) hn'.2
    show putK ((kN p.1, V.int p.2) :: tV r) (kN t) (V.int v) = tV (if p.1 = t then (p.1, v) :: r else p :: putR r t v)
    by_cases h : p.1 = t
    · rw [if_pos h]
      unfold putK
      rw [if_pos (by rw [List.any_cons, decide_eq_true (show kN p.1 = kN t by rw [h])]; rfl), List.map_cons]
      show (if kN p.1 = kN t then _ else _) :: _ = (kN p.1, V.int v) :: tV r
      rw [if_pos (by rw [h])]
      congr 1
      have e : ∀ q : List (List Nat × Int), t ∉ q.map (·.1) → (tV q).map (fun kv => if kv.1 = kN t then (kv.1, V.int v) else kv) = tV q := by
        intro q
        induction q with
        | nil => intro _; rfl
        | cons y q ih2 =>
          intro hq
          rw [List.map_cons, List.mem_cons, not_or] at hq
          show (if kN y.1 = kN t then _ else _) :: (tV q).map _ = (kN y.1, V.int y.2) :: tV q
          rw [ih2 hq.2, if_neg (fun z => hq.1 (kN_inj z).symm)]
      exact e r (h ▸ hn'.1)
    · rw [if_neg h]
      show _ = (kN p.1, V.int p.2) :: tV (putR r t v)
      rw [← ih]
      have hk : ¬ kN p.1 = kN t := fun z => h (kN_inj z)
      unfold putK
      rw [List.any_cons, decide_eq_false hk, Bool.false_or]
      by_cases ha : ((tV r).any fun kv => decide (kv.1 = kN t)) = true
      · rw [if_pos ha, if_pos ha, List.map_cons, if_neg hk]
      · rw [if_neg ha, if_neg ha]
        rfl
theorem tV_len (ks : List (List Nat × Int)) : (tV ks).length = ks.length := List.length_map ..
theorem tV_get {ks : List (List Nat × Int)} {i : Nat} {k : List Key} {v : V} (h : (tV ks)[i]? = some (k, v)) : ∃ p, ks[i]? = some p ∧ k = kN p.1 ∧ v = .int p.2 := by
  unfold tV at h
  rw [List.getElem?_map] at h
  obtain ⟨p, h1, h2⟩ := Option.map_eq_some_iff.mp h
  injection h2 with h3 h4
  exact ⟨p, h1, h3.symm, h4.symm⟩
theorem oth_lt {m k x : Nat} (h : x ∈ oth m k) : x < m := by
  unfold oth at h
  exact List.mem_range.mp (List.mem_filter.mp h).1
theorem optD (o : Option Int) (z : Int) : ((o.map V.int).getD (V.int z)) = V.int (o.getD z) := by cases o <;> rfl
/-- a fair table of states -/
def Okt (ks : List (List Nat × Int)) : Prop := (ks.map (·.1)).Nodup ∧ ∀ t ∈ ks.map (·.1), box t
theorem Okt.put {ks : List (List Nat × Int)} (h : Okt ks) {t : List Nat} (ht : box t) (v : Int) : Okt (putR ks t v) :=
  ⟨putR_nodup h.1, fun x hx => by
    rcases putR_mem hx with z | z
    · exact h.2 x z
    · rw [z]
      exact ht⟩
section
variable {P : Program} {w : World} {K : PySem.W.Frag} {mg : Str → Option Value} {base : Heap}
def spAfter (C : Addr) : Sp := fun vs H Q _ => ∃ (kd a c : Addr) (l : List Nat) (k : Nat) (m : Int) (ks : List (List Nat × Int)), vs = [.ref kd, .int (k : Int), .ref c, .int m] ∧ KindsAt H C kd a l ∧ l.length = 3 ∧ k < 3 ∧ 1 ≤ m ∧ H c = some (.dT (tV ks)) ∧ Okt ks ∧
  ∀ H' p ks', Same H H' → H p = none → H' p = some (.dT (tV ks')) → Okt ks' → (∀ r, ∃ cc, Sw ks' r = Sw ks (k :: r) + m * cc) → Q (.ref p) H'
theorem ok_after_person (T : Tx K mg) (N : KiAt K mg T.Kinds_init.f) : FnOk P w K mg base CX0 2 T.after_person.f T.after_person.d ["kinds", "kind", "counts", "modulus"] (spAfter N.C) := by
  refine T.after_person.F.ok sc_after_person (fun vs H Q E h => ?_) (fun cdv A outer s H vs Q E hr h => ?_)
  · obtain ⟨kd, a, c, l, k, m, ks, rfl, _⟩ := h
    rfl
  · obtain ⟨kd, a, c, l, k, m, ks, rfl, hK, hl, hk, hm, hc, ho, q⟩ := h
    have nd := sc_after_person.nd
    have hu : (A.deeper (envOfC "after_person" (defScope s_after_person) s.heap.objs.size T.after_person.f cdv)).units + 1 < cLine := by
      have := hr.un
      omega
    refine ⟨_, pss_cons (ps_set (i := 4) nd rfl (.inl rfl) pe_dnewT) <| pss_cons (ps_lock <| ps_for PassesOwn.never rfl (pi_itemsT (pv 2)) (pg_tup rfl (pgs_cons (pg_name (i := 5) nd rfl (.inl rfl)) (pgs_cons (pg_name (i := 6) nd rfl (.inl rfl)) pgs_nil)))
        (pss_one <| ps_for PassesOwn.never rfl (pi_tup (pe_ix ix_tup (pe_fld (pv 0) rfl) (pv 1) (fun _ _ => rfl))) (pg_name (i := 7) nd rfl (.inl rfl))
          (pss_one <| ps_if (pt_cmpR op_gt (pe_ix ix_tup (pv 5) (pv 7) (fun _ _ => rfl)) pe_int (nomark _))
            (pss_cons (ps_set (i := 8) nd rfl (.inl rfl) (pe_call (ok_one_less T) hr (by rfl) T.one_less.g T.one_less.F.kp T.one_less.b .nil pass0 (pa_cons (pv 5) (pa_cons (pv 7) pa_nil)))) <|
             pss_one <| ps_dput hu (pv 4) (pv 8) (pe_op op_mod (pe_op op_add (pe_dget2 hu (pv 4) (pv 8) pe_int ⟨rfl, rfl, rfl, rfl⟩) (pe_op op_mul (pv 6) (pe_ix ix_tup (pv 5) (pv 7) (fun _ _ => rfl)))) (pv 3)) rfl) pss_nil))) <|
      pss_one (ps_ret (pv 4)), ?_⟩
    intro o no
    have noc : o ≠ c := ne_new hc no
    refine ⟨c, .dT (tV ks), by rw [upd_ne (Ne.symm noc)]; exact hc, trivial, fun od => ?_⟩
    have hsame : Same (upd H c (.frz od (.dT (tV ks)))) (upd (upd H o (.dT [])) c (.frz od (.dT (tV ks)))) := fun b u e => by
      by_cases hb : b = c
      · rw [hb, upd_same] at e ⊢
        exact e
      · rw [upd_ne hb] at e ⊢
        rw [upd_ne (ne_of_none e no)]
        exact e
    have noL : (upd H c (.frz od (.dT (tV ks)))) o = none := by
      rw [upd_ne noc]
      exact no
    have hKL : KindsAt (upd H c (.frz od (.dT (tV ks)))) N.C kd a l := by
      have nb : ∀ b u, H b = some u → (∀ x, u ≠ .dT x) → (upd H c (.frz od (.dT (tV ks)))) b = some u := fun b u e hne => by
        have : b ≠ c := fun z => by
          rw [z, hc] at e
          exact hne _ (Option.some.inj e).symm
        rw [upd_ne this]
        exact e
      obtain ⟨h1, dx, al, rs, h2, h3, h4⟩ := hK
      refine ⟨nb _ _ h1 (fun _ z => nomatch z), dx, al, rs, nb _ _ h2 (fun _ z => nomatch z), nb _ _ h3 (fun _ z => nomatch z), fun i hi => ?_⟩
      obtain ⟨r, e1, e2⟩ := h4 i hi
      exact ⟨r, e1, nb _ _ e2 (fun _ z => nomatch z)⟩
    have hcL : (upd H c (.frz od (.dT (tV ks)))) c = some (.frz od (.dT (tV ks))) := upd_same
    generalize hHL : upd H c (.frz od (.dT (tV ks))) = HL at *
    refine ⟨_, rfl, c, od, tV ks, rfl, upd_same, ?_⟩
    refine for_it walk_itemsT (fun i σ H3 => ∃ y5 y6 y7 y8 ks1, σ = [some (.ref kd), some (.int (k : Int)), some (.ref c), some (.int m), some (.ref o), y5, y6, y7, y8] ∧ Same HL H3 ∧ H3 o = some (.dT (tV ks1)) ∧ Okt ks1 ∧ ∀ r, ∃ cc, Sw ks1 r = Sw (ks.take i) (k :: r) + m * cc)
      ⟨none, none, none, none, [], rfl, hsame, ?_, ⟨List.nodup_nil, fun _ z => nomatch z⟩, fun r => ⟨0, ?_⟩⟩ (fun i σ H3 _ hW => ?_) (fun i x σ H3 H4 hi hW hy => ?_) (fun σ H3 hW => ?_)
    · rw [upd_ne noc, upd_same]
      rfl
    · rw [Int.mul_zero, Int.add_zero]
      rfl
    · obtain ⟨_, _, _, _, _, _, sm, _⟩ := hW
      exact sm _ _ hcL
    · obtain ⟨y5, y6, y7, y8, ks1, rfl, sm, eo, ok1, hw⟩ := hW
      obtain ⟨Tp, key, v, qa, hkv, rfl, hT, eq, rfl⟩ := hy
      obtain ⟨⟨t, n⟩, hp, rfl, rfl⟩ := tV_get hkv
      have eq : H3 qa = some (.tup (nV t)) := by rw [← kN_V]; exact eq
      have hbt : box t := ho.2 t (List.mem_map.mpr ⟨(t, n), List.mem_of_getElem? hp, rfl⟩)
      have s4 : Same H3 (upd H3 Tp (.tup [.ref qa, .int n])) := same_upd (Same.refl _) hT
      refine ⟨Tp, _, rfl, SqT.of upd_same, rfl, _, _, rfl, _, _, rfl, rfl, ?_⟩
      obtain ⟨h1, dx, al, rs, h2, h3, h4⟩ := hKL.same (sm.trans s4)
      obtain ⟨rw_, er, hrow⟩ := h4 k (by omega)
      rw [hl] at hrow
      have eo4 := s4 _ _ eo
      have eq4 := s4 _ _ eq
      have sm4 := sm.trans s4
      have gr : (rs.map V.ref)[k]? = some (.ref rw_) := by
        rw [List.getElem?_map, er]
        rfl
      refine ⟨_, rfl, kd, N.C, dx, _, .ref al, rfl, h2, N.cls, N.n3, rfl, _, rfl, al, _, _, _, rfl, rfl, SqT.of h3, atI_nat gr, rw_, rfl, ⟨_, SqT.of hrow⟩, ?_⟩
      refine for_it (walk_tup (xs := nV (oth 3 k))) (fun j σ H3 => ∃ y7 y8 ks2, σ = [some (.ref kd), some (.int (k : Int)), some (.ref c), some (.int m), some (.ref o), some (.ref qa), some (.int n), y7, y8] ∧ Same HL H3 ∧ H3 qa = some (.tup (nV t)) ∧ H3 rw_ = some (.tup (nV (oth 3 k))) ∧ H3 o = some (.dT (tV ks2)) ∧ Okt ks2 ∧
          ∀ r, ∃ cc, Sw ks2 r = Sw (ks.take i) (k :: r) + n * Wp (oth 3 k) r t j + m * cc)
        ⟨y7, y8, ks1, rfl, sm4, eq4, hrow, eo4, ok1, fun r => ?_⟩ (fun j σ H3 _ hW => ?_) (fun j x σ H5 H6 hj hW hy => ?_) (fun σ H5 hW => ?_)
      · obtain ⟨cc, e⟩ := hw r
        refine ⟨cc, ?_⟩
        rw [e]
        show _ = _ + n * 0 + _
        rw [Int.mul_zero, Int.add_zero]
      · obtain ⟨_, _, _, _, _, _, e, _⟩ := hW
        exact SqT.of e
      · obtain ⟨z7, z8, ks2, rfl, sm5, eq5, hr5, eo5, ok2, hw2⟩ := hW
        obtain ⟨rfl, hx⟩ := hy
        rw [nV_len] at hj
        rw [nV_get hj] at hx
        obtain rfl : x = .int (((oth 3 k).getD j 0 : Nat) : Int) := (Option.some.inj hx).symm
        have hg : (oth 3 k).getD j 0 < 3 := oth_lt (getD_mem hj)
        have hws := fun r => Wp_succ (L := oth 3 k) hj r t
        generalize hg0 : (oth 3 k).getD j 0 = g at *
        have hgt : g < t.length := by rw [hbt.1]; exact hg
        have ag : atI (nV t) ((g : Nat) : Int) = some (.int ((t.getD g 0 : Nat) : Int)) := atI_nat (nV_get hgt)
        refine ⟨_, rfl, _, rfl, qa, _, _, _, rfl, rfl, SqT.of eq5, ag, _, _, rfl, rfl, _, rfl, ?_⟩
        by_cases h0 : (0 : Int) < ((t.getD g 0 : Nat) : Int)
        · rw [decide_eq_true h0]
          refine iteT ⟨_, rfl, _, rfl, qa, t, g, rfl, eq5, hgt, by rw [hbt.1]; decide, by omega, fun H7 pa s7 e7 => ?_⟩
          have eo7 := s7 _ _ eo5
          have eq7 := s7 _ _ eq5
          have ekey : H7 pa = some (.tup ((kN (t.set g (t.getD g 0 - 1))).map kV)) := by rw [kN_V]; exact e7
          refine ⟨_, rfl, o, rfl, .inr ⟨_, .inl eo7⟩, _, rfl, (getL ks2 (t.set g (t.getD g 0 - 1))).map V.int, .inr ⟨_, kN (t.set g (t.getD g 0 - 1)), pa, .inl eo7, rfl, ekey, (tV_val _ _).symm⟩, _, rfl, _, rfl, _, rfl, qa, _, _, _, rfl, rfl, SqT.of eq7, ag, ?_⟩
          have hle : t.getD g 0 ≤ 10 := hbt.2 _ (getD_mem hgt)
          refine ⟨_, _, rfl, rfl, .inr ⟨by omega, by omega⟩, (getL ks2 (t.set g (t.getD g 0 - 1))).getD 0, _, optD _ _, rfl, _, rfl, _, _, rfl, rfl, by omega, ?_⟩
          have hlen : (tV ks2).length < sizeLine := by
            have := box_few ok2.1 ok2.2
            rw [tV_len, sizeLine_eq]
            omega
          refine ⟨_, rfl, _, rfl, o, _, rfl, .inr ⟨_, _, pa, eo7, rfl, ekey, hlen, rfl⟩, ?_⟩
          have nopa : pa ≠ o := fun z => by
            rw [z, eo7] at e7
            cases e7
          refine ⟨_, _, putR ks2 (t.set g (t.getD g 0 - 1)) (((getL ks2 (t.set g (t.getD g 0 - 1))).getD 0 + n * ((t.getD g 0 : Nat) : Int)) % m), rfl, same_set (sm5.trans s7) noL, ?_, ?_, ?_, ok2.put (box_set hbt) _, fun r => ?_⟩
          · rw [upd_ne (ne_of eq7 eo7 (fun z => nomatch z))]
            exact eq7
          · rw [upd_ne (ne_of (s7 _ _ hr5) eo7 (fun z => nomatch z))]
            exact s7 _ _ hr5
          · rw [upd_same]
            exact congrArg some (congrArg HO.dT (tV_put ok2.1))
          · obtain ⟨c1, e1⟩ := Sw_step ks2 (t.set g (t.getD g 0 - 1)) (n * ((t.getD g 0 : Nat) : Int)) m r
            obtain ⟨c2, e2⟩ := hw2 r
            refine ⟨c1 + c2, ?_⟩
            rw [e1, e2, hws r, Int.mul_add, Int.mul_add, Int.mul_assoc]
            omega
        · rw [decide_eq_false h0]
          refine iteF ⟨_, _, ks2, rfl, sm5, eq5, hr5, eo5, ok2, fun r => ?_⟩
          obtain ⟨c2, e2⟩ := hw2 r
          refine ⟨c2, ?_⟩
          have e0 : ((t.getD g 0 : Nat) : Int) = 0 := by omega
          rw [e2, hws r, e0, Int.zero_mul, Int.add_zero]
      · obtain ⟨z7, z8, ks2, rfl, sm5, eq5, hr5, eo5, ok2, hw2⟩ := hW
        refine ⟨_, _, _, _, ks2, rfl, sm5, eo5, ok2, fun r => ?_⟩
        obtain ⟨c2, e2⟩ := hw2 r
        refine ⟨c2, ?_⟩
        have ew := Wp_all k r t
        rw [hbt.1] at ew
        rw [e2, nV_len, ew, Sw_take ks i (t, n) hp]
    · obtain ⟨y5, y6, y7, y8, ks1, rfl, sm, eo, ok1, hw⟩ := hW
      refine ⟨sm _ _ hcL, _, rfl, ?_⟩
      refine q _ o ks1 (fun b u e => ?_) no ?_ ok1 fun r => ?_
      · by_cases hb : b = c
        · rw [hb, upd_same]
          rw [hb, hc] at e
          exact e
        · rw [upd_ne hb]
          refine sm _ _ ?_
          rw [← hHL, upd_ne hb]
          exact e
      · rw [upd_ne noc]
        exact eo
      · obtain ⟨cc, e⟩ := hw r
        refine ⟨cc, ?_⟩
        rw [tV_len, List.take_length] at e
        exact e
end
end Fo

/-! Kinds.__init__, families. -/
namespace Fo
open PySem PySem.Spec PyProof.Rows L2
/-- the scope of the list comprehension in an expression's argument -/
def lcS : Expr → Scope
  | .ListComp (scope := s) .. => s
  | _ => { kind := .function, names := [], isGenerator := false, isCoroutine := false, more := [] }
def lcElt : Expr → Expr
  | .ListComp (elt := e) .. => e
  | e => e
def argN (i : Nat) : Expr → Expr
  | .Call (args := as) .. => as.getD i (.Name "x" ⟨0, 0, 0, 0⟩)
  | e => e
def retE : Stmt → Expr
  | .Return (some e) _ => e
  | .Assign _ e _ => e
  | _ => .Name "x" ⟨0, 0, 0, 0⟩
def bodyN (s : Stmt) (i : Nat) : Stmt := (defBody s).getD i (.Pass ⟨0, 0, 0, 0⟩)
/-! rules whose reading names K, for blocks -/
theorem call_lenK {X : Cx} (K : PySem.W.Frag) (h : X.K = K) : CallR X (.builtin "len") (fun xs H Q => ∃ x n, xs = [x] ∧ LenV K x H n ∧ Q (.int n) H) := h ▸ call_len
theorem pi_listK {X : Cx} {tg l : Expr} {tl : TE} (K : PySem.W.Frag) (h : X.K = K) (hl : PE X l tl) : PI X tg l (iList K tl) := h ▸ pi_list hl
theorem pi_tupK {X : Cx} {tg l : Expr} {tl : TE} (K : PySem.W.Frag) (h : X.K = K) (hl : PE X l tl) : PI X tg l (iTup K tl) := h ▸ pi_tup hl
theorem pe_tupleOfK {X : Cx} {a : Expr} {ta : TE} {p pos : Pos} (K : PySem.W.Frag) (h : X.K = K) (hg : Gl X "tuple") (hm : X.mg "tuple" = none) (ha : PE X a ta) (na : starEach [a] X.env = (false, eval a X.env) :: starEach [] X.env := by rfl) :
    PE X (.Call (.Name "tuple" p) [a] [] pos) (tThen ta (kTup K)) := h ▸ pe_tupleOf hg hm ha na
theorem ix_tupK {X : Cx} (K : PySem.W.Frag) (h : X.K = K) : IxR X (rIxT K) := h ▸ ix_tup
theorem ix_listK {X : Cx} (K : PySem.W.Frag) (h : X.K = K) : IxR X (rIxL K) := h ▸ ix_list
def nI (l : List Nat) : List Int := l.map fun (n : Nat) => (n : Int)
theorem lot3 : ∀ i, i < 3 → lotB (nI (oth 3 i)) 3 = true := by decide +kernel
theorem oth3_len : ∀ i, i < 3 → (nI (oth 3 i)).length ≤ 1000 := by decide +kernel
section
variable {P : Program} {w : World} {K : PySem.W.Frag} {mg : Str → Option Value} {base : Heap}
def spKi (C : Addr) : Sp := fun vs H Q _ => ∃ (kd a al dx : Addr) (l : List Nat) (rs : List Addr), vs = [.ref kd, .ref a, .ref a, .ref al] ∧ H a = some (.tup (nV l)) ∧ l.length = 3 ∧ goodS l ∧ H al = some (.tup (rs.map V.ref)) ∧ rs.length = 3 ∧ (∀ i, i < 3 → ∃ r, rs[i]? = some r ∧ H r = some (.tup (nV (oth 3 i)))) ∧ H kd = some (.ins C dx []) ∧
  ∀ H', (∀ b u, b ≠ kd → H b = some u → H' b = some u) → H' kd = some (.ins C dx [(("people" : Str), .ref a), ("things", .ref a), ("allowed", .ref al)]) → Q .non H'
theorem ok_Kinds_init (T : Tx K mg) (N : KiAt K mg T.Kinds_init.f) : FnOk P w K mg base CX0 4 T.Kinds_init.f T.Kinds_init.d ["self", "people", "things", "allowed"] (spKi N.C) := by
  refine T.Kinds_init.F.ok sc_Kinds_init (fun vs H Q E h => ?_) (fun cdv A outer s H vs Q E hr h => ?_)
  · obtain ⟨kd, a, al, dx, l, rs, rfl, _⟩ := h
    rfl
  · obtain ⟨kd, a, al, dx, l, rs, rfl, ha, hl, hg, hal, hrs, hrow, hkd, q⟩ := h
    have nd := sc_Kinds_init.nd
    refine ⟨_, pss_cons (ps_if (pt_not (pt_val (pe_call (ok_are_counts T) hr (by rfl) T.are_counts.g T.are_counts.F.kp T.are_counts.b .nil pass0 (pa_cons (pv 1) (pa_cons pe_int pa_nil))))) pss_never pss_nil) <|
      pss_cons (ps_if (pt_not (pt_val (pe_call (ok_are_counts T) hr (by rfl) T.are_counts.g T.are_counts.F.kp T.are_counts.b .nil pass0 (pa_cons (pv 2) (pa_cons pe_int pa_nil))))) pss_never pss_nil) <|
      pss_cons (ps_if (PW.pt (pw_or (pt_not (pt_val (pe_callB call_isi (by rfl) T.z_isinstance (by decide +kernel) (pa_cons (pv 3) (pa_cons (pe_bltn (v := .ty "tuple") (by rfl) T.z_tuple (by decide +kernel) rfl) pa_nil)))))
        (pw_or1 (pt_cmpR op_ne (pe_callB call_len (by rfl) T.z_len (by decide +kernel) (pa_cons (pv 3) pa_nil)) (pe_callB call_len (by rfl) T.z_len (by decide +kernel) (pa_cons (pv 1) pa_nil)) (nomark _))))) pss_never pss_nil) <|
      pss_cons (ps_if (pt_not (pt_val (pe_callB (cr_all rfl) (by rfl) T.z_all (by decide +kernel) (pa_cons (pe_lc (own := [("row", 4)]) (g := gName 4) (tt := tYes) rfl nd (pi_tup (pv 3)) (blkOk_by (N := N_Kinds_init) (sc := defScope s_Kinds_init) (by decide +kernel))
          (fun _ _ _ _ _ => pg_name (i := 4) nd rfl (Or.inl rfl)) (fun _ _ _ _ _ => pts_nil)
          (fun _ _ _ _ _ => pe_call (ok_is_lot_of T) hr (by rfl) T.is_lot_of.g T.is_lot_of.F.kp T.is_lot_of.b .nil pass0 (pa_cons (pv 4) (pa_cons (pe_callB (call_lenK K rfl) (by rfl) T.z_len (by decide +kernel) (pa_cons (pv 2) pa_nil)) pa_nil)))) pa_nil)))) pss_never pss_nil) <|
      pss_cons (ps_if (pt_cmpR op_ne (pe_callB (cr_sumT rfl) (by rfl) T.z_sum (by decide +kernel) (pa_cons (pv 1) pa_nil)) (pe_callB (cr_sumT rfl) (by rfl) T.z_sum (by decide +kernel) (pa_cons (pv 2) pa_nil)) (nomark _)) pss_never pss_nil) <|
      pss_cons (ps_fld (pv 0) (pv 1) rfl) <| pss_cons (ps_fld (pv 0) (pv 2) rfl) <| pss_one (ps_fld (pv 0) (pv 3) rfl), ?_⟩
    -- are_counts, twice
    refine ⟨_, rfl, .ref a, 0, rfl, .inl ⟨a, _, rfl, ha, nV_kn l, fun H1 s1 => ⟨_, rfl, ?_⟩⟩⟩
    rw [cnt_good hg (by decide)]
    refine iteF ?_
    refine ⟨_, rfl, .ref a, 0, rfl, .inl ⟨a, _, rfl, s1 _ _ ha, nV_kn l, fun H2 s2' => ⟨_, rfl, ?_⟩⟩⟩
    rw [cnt_good hg (by decide)]
    refine iteF ?_
    have s2 := s1.trans s2'
    -- isinstance, len
    obtain ⟨t, ht, e⟩ := kit_kn (x := .ref al) (K := K) (.inr (.inr (.inr (.inr (.inr ⟨al, _, rfl, s2 _ _ hal⟩))))) (T := "tuple") (.inr (.inr ⟨rfl, rfl⟩))
    have et : isTup H2 (.ref al) = true := by
      show tupO (H2 al) = true
      rw [s2 _ _ hal]
      rfl
    refine ⟨_, rfl, .ref al, _, t, _, _, rfl, .ty "tuple", ht, e, _, rfl, ?_⟩
    rw [et]
    refine iteF ⟨_, rfl, .ref al, 3, rfl, .inr ⟨_, SqT.of (s2 _ _ hal), by rw [List.length_map, hrs]⟩, _, rfl, .ref a, 3, rfl, .inr ⟨_, SqT.of (s2 _ _ ha), by rw [nV_len, hl]⟩, rfl, _, rfl, ?_⟩
    rw [show (!decide (V.int ((3 : Nat) : Int) = V.int ((3 : Nat) : Int))) = false by rw [decide_eq_true rfl]; rfl]
    refine iteF ?_
    -- the rows
    refine ⟨_, rfl, al, rfl, ⟨_, SqT.of (s2 _ _ hal)⟩, fun D hD => ?_⟩
    refine lc_pure (walk_tup (K := K) (a := al) (xs := rs.map V.ref)) (fun _ => .bl true) hD (by rw [List.length_map]; omega) (fun H3 s3 => SqT.of (s3 _ _ (s2 _ _ hal))) (fun i x H3 H4 hi s3 hDl y R hR => ?_) (fun H3 s3 hl3 => ?_)
    · obtain ⟨rfl, hx⟩ := y
      rw [List.length_map, hrs] at hi
      obtain ⟨r, er, hr2⟩ := hrow i hi
      rw [List.getElem?_map, er] at hx
      obtain rfl : x = .ref r := (Option.some.inj hx).symm
      have s03 := s2.trans s3
      refine ⟨rfl, _, rfl, _, rfl, .ref a, 3, rfl, .inr ⟨_, SqT.of (s03 _ _ ha), by rw [nV_len, hl]⟩, r, nI (oth 3 i), _, rfl, by rw [s03 _ _ hr2, nV_int]; rfl, oth3_len i hi, fun H' s' => ?_⟩
      have el : lotB (nI (oth 3 i)) ((3 : Nat) : Int) = true := lot3 i hi
      rw [el]
      exact hR H' s'
    · have s03 := s2.trans s3
      refine ⟨D, List.replicate 3 true, rfl, SqL.of ?_, _, rfl, ?_⟩
      · rw [hl3, List.length_map, hrs]
        rfl
      · refine iteF ?_
        have ea : H3 a = some (.tup ((nI l).map V.int)) := by
          rw [s03 _ _ ha, nV_int]
          rfl
        refine ⟨_, rfl, a, _, rfl, SqT.of ea, _, rfl, a, _, rfl, SqT.of ea, rfl, _, rfl, ?_⟩
        rw [show (!decide (V.int (nI l).sum = V.int (nI l).sum)) = false by rw [decide_eq_true rfl]; rfl]
        refine iteF ?_
        have hk3 := s03 _ _ hkd
        refine ⟨_, rfl, _, rfl, kd, _, _, _, rfl, hk3, N.cls, N.n1, by show 0 < 1000; decide, ?_⟩
        refine ⟨_, rfl, _, rfl, kd, _, _, _, rfl, upd_same, N.cls, N.n2, by show 1 < 1000; decide, ?_⟩
        refine ⟨_, rfl, _, rfl, kd, _, _, _, rfl, upd_same, N.cls, N.n3, by show 2 < 1000; decide, ?_⟩
        refine q _ (fun b u hb e => ?_) ?_
        · rw [upd_ne hb, upd_ne hb, upd_ne hb]
          exact s03 _ _ e
        · rw [upd_same]
          rfl
def spFams (C : Addr) : Sp := fun vs H Q _ => ∃ (a : Addr) (l : List Nat), vs = [.ref a] ∧ H a = some (.tup (nV l)) ∧ l.length = 3 ∧ goodS l ∧ ∀ H' kd, Same H H' → KindsAt H' C kd a l → Q (.ref kd) H'
theorem ok_families (T : Tx K mg) (N : KiAt K mg T.Kinds_init.f) : FnOk P w K mg base CX0 6 T.families.f T.families.d ["sizes"] (spFams N.C) := by
  refine T.families.F.ok sc_families (fun vs H Q E h => ?_) (fun cdv A outer s H vs Q E hr h => ?_)
  · obtain ⟨a, l, rfl, _⟩ := h
    rfl
  · obtain ⟨a, l, rfl, ha, hl, hg, q⟩ := h
    have nd := sc_families.nd
    refine ⟨_, pss_cons (ps_expr (pe_call (ok_check_sizes T) (hr.mono (by decide)) (by rfl) T.check_sizes.g T.check_sizes.F.kp T.check_sizes.b .nil passL (pa_cons (pv 0) pa_nil))) <|
      pss_cons (ps_set (i := 1) nd rfl (.inr rfl) (pe_listRg rfl (by rfl) T.z_list (prg_1 (by rfl) T.z_range (pe_callB call_len (by rfl) T.z_len (by decide +kernel) (pa_cons (pv 0) pa_nil))))) <|
      pss_one (ps_ret (pe_make N.made (ok_Kinds_init T N) hr (by rfl) N.g T.Kinds_init.b .nil pass0 (pa_cons (pv 0) (pa_cons (pv 0) (pa_cons (pe_tupleOf (by rfl) T.z_tuple
        (pe_lc (own := [("one", 2)]) (g := gName 2) (tt := tYes) rfl nd (pi_list (pv 1)) (blkOk_by (N := N_families) (sc := defScope s_families) (by decide +kernel))
          (fun _ _ _ _ _ => pg_name (i := 2) nd rfl (Or.inr rfl)) (fun _ _ _ _ _ => pts_nil)
          (fun _ _ _ _ _ => pe_tupleOfK K rfl (by rfl) T.z_tuple (pe_lc (own := [("other", 3)]) (g := gName 3) rfl nd (pi_listK K rfl (pv 1)) (blkOk_by (N := N_families) (sc := relS (lcS (argN 0 (argN 2 (retE (bodyN s_families 2))))) (defScope s_families)) (by decide +kernel))
            (fun _ _ _ _ _ => pg_name (i := 3) nd rfl (Or.inl rfl)) (fun _ _ _ _ _ => pts_one (pt_cmpR op_ne (pv 3) (pv 2) (nomark _)))
            (fun _ _ _ _ _ => pv 3))))) pa_nil))))), ?_⟩
    refine ⟨_, rfl, .ref a, rfl, .inl ⟨a, _, rfl, ha, nV_kn l, fun _ H1 s1 => ?_, fun z => by (rw [cnt_good hg (Int.le_refl _)] at z; cases z)⟩⟩
    refine ⟨_, rfl, .ref a, 3, rfl, .inr ⟨_, SqT.of (s1 _ _ ha), by rw [nV_len, hl]⟩, _, rfl, RgOk.of_le (by decide) (by decide) (by decide) (by decide), fun nm nn => ?_⟩
    have hnm : rgV 0 ((3 : Nat) : Int) = nV [0, 1, 2] := rfl
    rw [hnm]
    have s2 : Same H (upd H1 nm (.lst (nV [0, 1, 2]))) := same_upd s1 nn
    have en : (upd H1 nm (.lst (nV [0, 1, 2]))) nm = some (.lst (nV [0, 1, 2])) := upd_same
    generalize upd H1 nm (.lst (nV [0, 1, 2])) = H2 at *
    refine ⟨_, rfl, _, rfl, _, rfl, nm, rfl, ⟨_, SqL.of en⟩, fun D hD => ?_⟩
    have e012 : ∀ i, i < 3 → ([0, 1, 2] : List Nat).getD i 0 = i := by decide
    refine lc_it (walk_list (K := K) (a := nm) (xs := nV [0, 1, 2])) (fun i H3 => Same H2 H3 ∧ ∃ rs : List Addr, H3 D = some (.lst (rs.map V.ref)) ∧ rs.length = i ∧ ∀ j, j < i → ∃ r, rs[j]? = some r ∧ H3 r = some (.tup (nV (oth 3 j))))
      ⟨same_upd (Same.refl _) hD, [], upd_same, rfl, fun _ z => absurd z (Nat.not_lt_zero _)⟩ (fun i H3 _ hP => SqL.of (hP.1 _ _ en)) (fun i x H3 H4 hi hP hy => ?_) (fun H3 hP => ?_)
    · obtain ⟨rfl, hx⟩ := hy
      obtain ⟨s3, rs, hDr, hrs, hrow⟩ := hP
      rw [nV_len] at hi
      have hi : i < 3 := hi
      rw [nV_get hi, e012 i hi] at hx
      obtain rfl : x = .int (i : Nat) := (Option.some.inj hx).symm
      refine ⟨rfl, ?_⟩
      refine ⟨_, rfl, nm, rfl, ⟨_, SqL.of (s3 _ _ en)⟩, fun D2 hD2 => ?_⟩
      refine lc_keep (walk_list (K := K) (a := nm) (xs := nV [0, 1, 2])) (fun j => j != i) (fun j => .int (j : Nat)) hD2 (by decide) (fun H5 s5 => SqL.of (s5 _ _ (s3 _ _ en))) (fun j y H5 H6 hj s5 hDl yy R R' hR hR' => ?_) (fun H5 s5 hl5 => ?_)
      · obtain ⟨rfl, hy⟩ := yy
        have hj : j < 3 := hj
        rw [nV_get hj, e012 j hj] at hy
        obtain rfl : y = .int (j : Nat) := (Option.some.inj hy).symm
        refine ⟨rfl, _, rfl, _, rfl, rfl, _, rfl, ?_⟩
        by_cases hij : j = i
        · have hd : (!decide (V.int (j : Nat) = V.int (i : Nat))) = false := by rw [decide_eq_true (by rw [hij])]; rfl
          rw [hd]
          refine iteF (hR' (by simp [hij]) _ (Same.refl _))
        · have hd : (!decide (V.int (j : Nat) = V.int (i : Nat))) = true := by
            rw [decide_eq_false (fun z => hij (by have := V.int.inj z; omega))]
            rfl
          rw [hd]
          exact iteT ⟨_, rfl, hR (by simp [hij]) _ (Same.refl _)⟩
      · refine .inl ⟨D2, _, rfl, SqL.of hl5, fun r hr3 => ?_⟩
        have hDr5 := s5 _ _ hDr
        refine ⟨rs.map V.ref, same_upd (Same.refl _) hr3 _ _ hDr5, ?_, same_set (same_upd (s3.trans s5) hr3) hD, rs ++ [r], ?_, by rw [List.length_append, hrs]; rfl, fun j hj => ?_⟩
        · rw [List.length_map, hrs, sizeLine_eq]
          omega
        · rw [upd_same, List.map_append]
          rfl
        · have nrD : r ≠ D := ne_new hDr5 hr3
          by_cases hj2 : j < i
          · obtain ⟨r2, e1, e2⟩ := hrow j hj2
            refine ⟨r2, by rw [List.getElem?_append_left (by omega)]; exact e1, ?_⟩
            rw [upd_ne (ne_of e2 hDr (fun z => nomatch z)), upd_ne (ne_of_none (s5 _ _ e2) hr3)]
            exact s5 _ _ e2
          · have ej : j = i := by omega
            subst ej
            refine ⟨r, by rw [List.getElem?_append_right (by omega), hrs, Nat.sub_self]; rfl, ?_⟩
            rw [upd_ne nrD, upd_same]
            rfl
    · obtain ⟨s3, rs, hDr, hrs, hrow⟩ := hP
      have hrs : rs.length = 3 := hrs
      have hrow : ∀ j, j < 3 → ∃ r, rs[j]? = some r ∧ H3 r = some (.tup (nV (oth 3 j))) := hrow
      refine .inl ⟨D, _, rfl, SqL.of hDr, fun al nal => fun kd dx nkd ndx hne => ?_⟩
      have s4 : Same H2 (upd H3 al (.tup (rs.map V.ref))) := same_upd s3 nal
      have e4 : (upd H3 al (.tup (rs.map V.ref))) al = some (.tup (rs.map V.ref)) := upd_same
      have hrow4 : ∀ j, j < 3 → ∃ r, rs[j]? = some r ∧ (upd H3 al (.tup (rs.map V.ref))) r = some (.tup (nV (oth 3 j))) := fun j hj => by
        obtain ⟨r, e1, e2⟩ := hrow j hj
        exact ⟨r, e1, same_upd (Same.refl _) nal _ _ e2⟩
      generalize upd H3 al (.tup (rs.map V.ref)) = H4 at *
      have s5 : Same H4 (upd (upd H4 dx (.own kd)) kd (.ins N.C dx [])) := by
        intro b u e
        rw [upd_ne (ne_of_none e nkd), upd_ne (ne_of_none e ndx)]
        exact e
      have s04 := (s2.trans s4).trans s5
      refine ⟨kd, a, al, dx, l, rs, rfl, s04 _ _ ha, hl, hg, s5 _ _ e4, hrs, fun j hj => ?_, upd_same, fun H6 hk6 hi6 => ⟨rfl, ?_⟩⟩
      · obtain ⟨r, e1, e2⟩ := hrow4 j hj
        exact ⟨r, e1, s5 _ _ e2⟩
      · have s46 : Same H4 H6 := fun b u e => hk6 b u (ne_of_none e nkd) (s5 _ _ e)
        refine q H6 kd ((s2.trans s4).trans s46) ⟨s46 _ _ ((s2.trans s4) _ _ ha), dx, al, rs, hi6, s46 _ _ e4, fun j hj => ?_⟩
        rw [hl] at hj ⊢
        obtain ⟨r, e1, e2⟩ := hrow4 j hj
        exact ⟨r, e1, s46 _ _ e2⟩
end
end Fo

/-! kinds_many. -/
namespace Fo
open PySem PySem.Spec PyProof.Rows L2
theorem prod_le {l : List Nat} (hl : l.length = 3) (hs : ∀ s ∈ l, 1 ≤ s ∧ s ≤ 10) : ∀ i, i ≤ 3 → ((l.take i).map fun s => s + 1).foldl (· * ·) 1 ≤ 11 ^ i := by
  match l, hl, hs with
  | [a, b, c], _, hs =>
    have ha := (hs a (by simp)).2
    have hb := (hs b (by simp)).2
    have hc := (hs c (by simp)).2
    have h1 : (1 * (a + 1)) * (b + 1) ≤ 11 * 11 := Nat.mul_le_mul (by omega) (by omega)
    have h2 : ((1 * (a + 1)) * (b + 1)) * (c + 1) ≤ (11 * 11) * 11 := Nat.mul_le_mul h1 (by omega)
    intro i hi
    match i, hi with
    | 0, _ => exact Nat.le_refl _
    | 1, _ =>
      show 1 * (a + 1) ≤ 11
      omega
    | 2, _ => exact h1
    | 3, _ => exact h2
theorem good_few {l : List Nat} (hl : l.length = 3) (hs : ∀ s ∈ l, 1 ≤ s ∧ s ≤ 10) : goodS l := ⟨by omega, by omega, fun s h => ⟨(hs s h).1, by have := (hs s h).2; omega⟩⟩
theorem sum_few {l : List Nat} (hl : l.length = 3) (hs : ∀ s ∈ l, 1 ≤ s ∧ s ≤ 10) : l.sum ≤ 30 := by
  match l, hl, hs with
  | [a, b, c], _, hs =>
    have ha := (hs a (by simp)).2
    have hb := (hs b (by simp)).2
    have hc := (hs c (by simp)).2
    show a + (b + (c + 0)) ≤ 30
    omega
theorem Sw_nil (ks : List (List Nat × Int)) : Sw ks [] = (ks.map (·.2)).sum := by
  induction ks with
  | nil => rfl
  | cons p r ih =>
    rw [Sw_cons, ih, List.map_cons, List.sum_cons]
    show p.2 * 1 + _ = _
    rw [Int.mul_one]
theorem end_mod {x t m c : Int} (h : x = (1 % m) * t + m * c) : x % m = t % m := by
  have e := Int.mul_ediv_add_emod 1 m
  have e2 : x = t + m * (c - (1 / m) * t) := by
    have e3 : (1 % m) = 1 - m * (1 / m) := by omega
    rw [h, e3, Int.sub_mul, Int.mul_sub, Int.mul_assoc]
    omega
  rw [e2, Int.add_mul_emod_self_left]
section
variable {P : Program} {w : World} {K : PySem.W.Frag} {mg : Str → Option Value} {base : Heap}
def spKm (C : Addr) : Sp := fun vs H Q _ => ∃ (kd a : Addr) (l : List Nat) (m : Int), vs = [.ref kd, .int m] ∧ KindsAt H C kd a l ∧ l.length = 3 ∧ (∀ s ∈ l, 1 ≤ s ∧ s ≤ 10) ∧ 1 ≤ m ∧ m ≤ 10 ^ 30 ∧ ∀ H', Same H H' → Q (.int (Tn l % m)) H'
theorem ok_kinds_many (T : Tx K mg) (M : TmAt P K mg) (N : KiAt K mg T.Kinds_init.f) : FnOk P w K mg base CX0 4 T.kinds_many.f T.kinds_many.d ["kinds", "modulus"] (spKm N.C) := by
  refine T.kinds_many.F.ok sc_kinds_many (fun vs H Q E h => ?_) (fun cdv A outer s H vs Q E hr h => ?_)
  · obtain ⟨kd, a, l, m, rfl, _⟩ := h
    rfl
  · obtain ⟨kd, a, l, m, rfl, hK, hl, hs, hm1, hm2, q⟩ := h
    have nd := sc_kinds_many.nd
    have hu : (A.deeper (envOfC "kinds_many" (defScope s_kinds_many) s.heap.objs.size T.kinds_many.f cdv)).units + 1 < cLine := by
      have := hr.un
      omega
    refine ⟨_, pss_cons (ps_expr (pe_call (ok_check_number T) hr (by rfl) T.check_number.g T.check_number.F.kp T.check_number.b .nil passL (pa_cons (pv 1) (pa_cons pe_int (pa_cons (pe_const T.MOST_OF_KIND rfl) pa_nil))))) <|
      pss_cons (ps_expr (pe_call (ok_check_many T M) hr (by rfl) T.check_many.g T.check_many.F.kp T.check_many.b .nil passL (pa_cons (pe_callB (cr_sumT rfl) (by rfl) T.z_sum (by decide +kernel) (pa_cons (pe_fld (pv 0) rfl) pa_nil)) (pa_cons (pe_const T.MOST_COUNTED rfl) pa_nil)))) <|
      pss_cons (ps_set (i := 2) nd rfl (.inl rfl) pe_int) <|
      pss_cons (ps_for PassesOwn.never rfl (pi_tup (pe_fld (pv 0) rfl)) (pg_name (i := 3) nd rfl (.inl rfl)) (pss_one (ps_aug (i := 2) nd rfl (.inl rfl) (pe_op op_add (pv 3) pe_int) iop_mul))) <|
      pss_cons (ps_expr (pe_call (ok_check_many T M) hr (by rfl) T.check_many.g T.check_many.F.kp T.check_many.b .nil passL (pa_cons (pv 2) (pa_cons (pe_const T.MOST_STATES rfl) pa_nil)))) <|
      pss_cons (ps_set (i := 4) nd rfl (.inl rfl) (pe_disp1 hu (pe_fld (pv 0) rfl) (pe_op op_mod pe_int (pv 1)))) <|
      pss_cons (ps_for PassesOwn.never rfl (pi_list (pe_call (ok_spread_out T) (hr.mono (by decide)) (by rfl) T.spread_out.g T.spread_out.F.kp T.spread_out.b .nil pass0 (pa_cons (pe_fld (pv 0) rfl) pa_nil))) (pg_name (i := 5) nd rfl (.inl rfl))
        (pss_one (ps_set (i := 4) nd rfl (.inl rfl) (pe_call (ok_after_person T N) (hr.mono (by decide)) (by rfl) T.after_person.g T.after_person.F.kp T.after_person.b .nil pass0 (pa_cons (pv 0) (pa_cons (pv 5) (pa_cons (pv 4) (pa_cons (pv 1) pa_nil)))))))) <|
      pss_one (ps_ret (pe_op op_mod (pe_sumVals rfl (by rfl) T.z_sum (pv 4)) (pv 1))), ?_⟩
    have hg := good_few hl hs
    have h30 := sum_few hl hs
    obtain ⟨ha, dx, al, rs, hkd, hal, hrow⟩ := id hK
    have hai : H a = some (.tup ((nI l).map V.int)) := by
      rw [ha, nV_int]
      rfl
    -- the checks
    refine ⟨_, rfl, _, 1, _, rfl, .inr (.inr (.inl ⟨_, rfl⟩)), fun _ => ?_, fun z => by (rw [isW_in hm1 hm2] at z; cases z)⟩
    refine ⟨_, rfl, kd, N.C, dx, _, .ref a, rfl, hkd, N.cls, N.n1, rfl, a, _, rfl, SqT.of hai, _, _, rfl, ?_⟩
    have hsum : (nI l).sum = ((l.sum : Nat) : Int) := sum_nat l
    rw [hsum]
    refine ⟨fun _ => ?_, fun z => absurd z (by omega)⟩
    -- the states
    refine ⟨_, rfl, kd, N.C, dx, _, .ref a, rfl, hkd, N.cls, N.n2, rfl, a, rfl, ⟨_, SqT.of ha⟩, ?_⟩
    refine for_it (walk_tup (xs := nV l)) (fun i σ H3 => ∃ y3, σ = [some (.ref kd), some (.int m), some (.int ((((l.take i).map fun s => s + 1).foldl (· * ·) 1 : Nat) : Int)), y3, none, none] ∧ H3 = H)
      ⟨none, rfl, rfl⟩ (fun i σ H3 _ hW => ?_) (fun i x σ H3 H4 hi hW hy => ?_) (fun σ H3 hW => ?_)
    · obtain ⟨_, _, rfl⟩ := hW
      exact SqT.of ha
    · obtain ⟨y3, rfl, rfl⟩ := hW
      obtain ⟨rfl, hx⟩ := hy
      rw [nV_len] at hi
      rw [nV_get hi] at hx
      obtain rfl : x = .int ((l.getD i 0 : Nat) : Int) := (Option.some.inj hx).symm
      have h10 := hs _ (getD_mem hi)
      refine ⟨_, rfl, _, rfl, _, _, rfl, rfl, _, _, rfl, rfl, .inr ⟨by omega, by omega⟩, some (.int ((l.getD i 0 : Nat) : Int)), ?_, rfl⟩
      have e : ((l.take (i + 1)).map fun s => s + 1).foldl (· * ·) 1 = ((l.take i).map fun s => s + 1).foldl (· * ·) 1 * (l.getD i 0 + 1) := by
        have e2 : l.take (i + 1) = l.take i ++ [l.getD i 0] := by
          rw [List.take_succ, List.getD_eq_getElem?_getD, List.getElem?_eq_getElem hi]
          rfl
        rw [e2, List.map_append, List.foldl_append]
        rfl
      rw [e, Int.natCast_mul]
      rfl
    · obtain ⟨y3, rfl, rfl⟩ := hW
      rw [nV_len, hl]
      have hp := prod_le hl hs 3 (Nat.le_refl _)
      generalize ((l.take 3).map fun s => s + 1).foldl (· * ·) 1 = pr at hp
      have hp : pr ≤ 1331 := hp
      refine ⟨_, rfl, _, _, rfl, fun _ => ?_, fun z => absurd z (by omega)⟩
      -- counts
      intro c nc
      have s1 : Same H3 (upd H3 c (.dT [])) := same_upd (Same.refl _) nc
      refine ⟨_, rfl, kd, N.C, dx, _, .ref a, rfl, s1 _ _ hkd, N.cls, N.n2, rfl, _, rfl, _, _, rfl, rfl, by omega, upd_same, a, kN l, rfl, by rw [kN_V]; exact s1 _ _ ha, ?_⟩
      have s2 : Same H3 (upd (upd H3 c (.dT [])) c (.dT [(kN l, V.int (1 % m))])) := same_set s1 nc
      have ec : (upd (upd H3 c (.dT [])) c (.dT [(kN l, V.int (1 % m))])) c = some (.dT (tV [(l, 1 % m)])) := upd_same
      refine ⟨_, rfl, kd, N.C, dx, _, .ref a, rfl, s2 _ _ hkd, N.cls, N.n1, rfl, a, l, rfl, s2 _ _ ha, by omega, by omega, fun H5 wp s5 nwp ewp => ?_⟩
      refine ⟨wp, rfl, ⟨_, SqL.of ewp⟩, ?_⟩
      refine for_it (walk_list (xs := nV (wide 0 l))) (fun i σ H6 => ∃ y5 c1 ks1, σ = [some (.ref kd), some (.int m), some (.int (pr : Int)), y3, some (.ref c1), y5] ∧ Same H5 H6 ∧ H6 c1 = some (.dT (tV ks1)) ∧ Okt ks1 ∧ ∃ cc, Sw ks1 ((wide 0 l).drop i) = (1 % m) * Tn l + m * cc)
        ⟨none, c, [(l, 1 % m)], rfl, Same.refl _, s5 _ _ ec, ⟨by simp, fun t ht => ?_⟩, 0, ?_⟩ (fun i σ H6 _ hW => ?_) (fun i x σ H6 H7 hi hW hy => ?_) (fun σ H6 hW => ?_)
      · have e : t = l := by simpa using ht
        rw [e]
        exact ⟨hl, fun x hx => (hs x hx).2⟩
      · show (1 % m) * W (wide 0 l) l + 0 = _
        rw [W_fam]
        omega
      · obtain ⟨_, _, _, _, s6, _⟩ := hW
        exact SqL.of (s6 _ _ ewp)
      · obtain ⟨y5, c1, ks1, rfl, s6, ec1, ok1, cc, hw⟩ := hW
        obtain ⟨rfl, hx⟩ := hy
        rw [nV_len] at hi
        rw [nV_get hi] at hx
        obtain rfl : x = .int (((wide 0 l).getD i 0 : Nat) : Int) := (Option.some.inj hx).symm
        have hk3 : (wide 0 l).getD i 0 < 3 := by
          have := (wide_ge 0 l _ (getD_mem hi)).2
          omega
        have s07 := (s2.trans s5).trans s6
        refine ⟨_, rfl, _, rfl, _, rfl, _, rfl, kd, a, c1, l, (wide 0 l).getD i 0, m, ks1, rfl, hK.same s07, hl, hk3, hm1, ec1, ok1, fun H8 c2 ks2 s8 nc2 ec2 ok2 hsw => ?_⟩
        refine ⟨_, c2, ks2, rfl, s6.trans s8, ec2, ok2, ?_⟩
        obtain ⟨c3, e3⟩ := hsw ((wide 0 l).drop (i + 1))
        have ed : (wide 0 l).drop i = (wide 0 l).getD i 0 :: (wide 0 l).drop (i + 1) := by
          rw [List.drop_eq_getElem_cons hi, List.getD_eq_getElem?_getD, List.getElem?_eq_getElem hi]
          rfl
        rw [← ed, hw] at e3
        exact ⟨cc + c3, by rw [e3, Int.mul_add]; omega⟩
      · obtain ⟨y5, c1, ks1, rfl, s6, ec1, ok1, cc, hw⟩ := hW
        rw [nV_len, List.drop_length, Sw_nil] at hw
        refine ⟨_, rfl, c1, tV ks1, ks1.map (·.2), rfl, ec1, ?_, _, rfl, _, _, rfl, rfl, by omega, ?_⟩
        · unfold tV
          rw [List.map_map, List.map_map]
          rfl
        · show Q (.int ((ks1.map (·.2)).sum % m)) H6
          rw [end_mod hw]
          exact q _ ((s2.trans s5).trans s6)
end
end Fo

/-! The law's pool of draws. -/
namespace Fo
open PySem PySem.Spec PyProof.Rows L2
theorem same_sqL {K : PySem.W.Frag} {H H' : Hp} {a : Addr} {xs : List V} (e : Same H H') (h : SqL K H a xs) : SqL K H' a xs := Same.seq e h
/-- the pool at p, its cells at q -/
def Pool (H : Hp) (p q : Addr) : Prop := (∃ sd cn : Int, H p = some (.lst [.int sd, .int cn, .ref q])) ∧ ∃ cs : List Int, H q = some (.lst (cs.map V.int))
/-- all but the pool stands -/
def But (p q : Addr) (H H' : Hp) : Prop := ∀ b u, b ≠ p → b ≠ q → H b = some u → H' b = some u
theorem But.refl {p q : Addr} (H : Hp) : But p q H H := fun _ _ _ _ e => e
theorem But.trans {p q : Addr} {H H' H'' : Hp} (x : But p q H H') (y : But p q H' H'') : But p q H H'' := fun b u h1 h2 e => y b u h1 h2 (x b u h1 h2 e)
theorem But.of {p q : Addr} {H H' : Hp} (s : Same H H') : But p q H H' := fun b u _ _ e => s b u e
theorem Pool.same {p q : Addr} {H H' : Hp} (h : Pool H p q) (s : Same H H') : Pool H' p q := by
  obtain ⟨⟨sd, cn, e1⟩, cs, e2⟩ := h
  exact ⟨⟨sd, cn, s _ _ e1⟩, cs, s _ _ e2⟩
theorem Pool.ne {p q : Addr} {H : Hp} (h : Pool H p q) : p ≠ q := fun z => by
  obtain ⟨⟨sd, cn, e1⟩, cs, e2⟩ := h
  rw [z, e2] at e1
  cases cs with
  | nil => cases e1
  | cons x r => cases r with
    | nil => cases e1
    | cons y r => cases r with
      | nil => cases e1
      | cons w r => cases e1
theorem But.set {p q b : Addr} {H H' : Hp} {x : HO} (s : But p q H H') (h : b = p ∨ b = q ∨ H b = none) : But p q H (upd H' b x) := fun c u h1 h2 e => by
  have hc : c ≠ b := fun z => by
    rcases h with k | k | k
    · exact h1 (z.trans k)
    · exact h2 (z.trans k)
    · rw [z, k] at e
      cases e
  rw [upd_ne hc]
  exact s c u h1 h2 e
theorem map_keep_int (p : Nat → Bool) (g : Nat → Int) (n : Nat) : ((List.range n).filter p).map (fun i => V.int (g i)) = (((List.range n).filter p).map g).map V.int := by
  rw [List.map_map]
  rfl
section
variable {P : Program} {w : World} {K : PySem.W.Frag} {mg : Str → Option Value} {base : Heap}
def spPool (K : PySem.W.Frag) : Sp := fun vs H Q _ => ∃ (a : Addr) (ns : List Int), vs = [.ref a] ∧ SqL K H a (ns.map V.int) ∧ ns.length ≤ 1000 ∧ ∀ H' p q, Same H H' → Pool H' p q → Q (.ref p) H'
theorem ok_l_pool (T : Tx K mg) : FnOk P w K mg base CX0 1 T.l_pool.f T.l_pool.d ["_law_script"] (spPool K) := by
  refine T.l_pool.F.ok sc_l_pool (fun vs H Q E h => ?_) (fun cdv A outer s H vs Q E hr h => ?_)
  · obtain ⟨a, ns, rfl, _⟩ := h
    rfl
  · obtain ⟨a, ns, rfl, hS, hlen, q⟩ := h
    have nd := sc_l_pool.nd
    refine ⟨_, pss_cons (ps_set (i := 1) nd rfl (.inl rfl) (pe_op op_add (pe_op op_add (pe_op op_mod (pe_callTy call_int1 (by rfl) T.z_int (by decide +kernel) (pa_cons (pe_callB (cr_sum rfl) (by rfl) T.z_sum (by decide +kernel) (pa_cons (pe_slice sl_list (pv 0) po_none (po_some pe_int)) pa_nil)) pa_nil)) pe_int)
        (pe_callB call_len (by rfl) T.z_len (by decide +kernel) (pa_cons (pv 0) pa_nil))) pe_int)) <|
      pss_cons (ps_for PassesOwn.never rfl (pi_list (pe_slice sl_list (pv 0) po_none (po_some pe_int))) (pg_name (i := 2) nd rfl (.inl rfl))
        (pss_one (ps_set (i := 1) nd rfl (.inl rfl) (pe_op op_mod (pe_callTy call_int1 (by rfl) T.z_int (by decide +kernel) (pa_cons (pe_op op_add (pe_op op_add (pe_op op_mul (pv 1) pe_int) (pe_op op_mod (pe_callTy call_int1 (by rfl) T.z_int (by decide +kernel) (pa_cons (pv 2) pa_nil)) pe_int)) pe_int) pa_nil)) pe_int)))) <|
      pss_one (ps_ret (pe_lst (pa_cons (pv 1) (pa_cons pe_int (pa_cons (pe_lc (own := [("_law_cell", 2)]) (g := gName 2) rfl nd (pi_list (pe_slice sl_list (pv 0) po_none (po_some pe_int))) (blkOk_by (N := N_l_pool) (sc := defScope s_l_pool) (by decide +kernel))
          (fun _ _ _ _ _ => pg_name (i := 2) nd rfl (Or.inl rfl)) (fun _ _ _ _ _ => pts_one (pt_cmpR op_ge (pe_callB call_abs (by rfl) T.z_abs (by decide +kernel) (pa_cons (pv 2) pa_nil)) (pe_op op_pow pe_int pe_int) (nomark _)))
          (fun _ _ _ _ _ => pe_callB call_abs (by rfl) T.z_abs (by decide +kernel) (pa_cons (pv 2) pa_nil))) pa_nil))))), ?_⟩
    have hcut : ∀ k : Nat, cutV (ns.map V.int) none (some (k : Int)) = (ns.take k).map V.int := fun k => by rw [cutV_pre, List.map_take]
    refine ⟨_, rfl, 1, rfl, a, _, rfl, hS, fun c nc => ?_⟩
    have s1 : Same H (upd H c (.lst (cutV (ns.map V.int) none (some 1)))) := same_upd (Same.refl _) nc
    refine ⟨c, ns.take 1, rfl, SqL.of (by rw [upd_same]; exact congrArg some (congrArg HO.lst (hcut 1))), .inl ⟨_, rfl, ?_⟩⟩
    refine ⟨_, _, rfl, rfl, (by decide : (0 : Int) < 1000003), _, rfl, .ref a, ns.length, rfl, .inl ⟨_, same_sqL s1 hS, (List.length_map ..).symm⟩, _, _, rfl, rfl, _, _, rfl, rfl, ?_⟩
    generalize upd H c (.lst (cutV (ns.map V.int) none (some 1))) = H1 at *
    refine ⟨_, rfl, 63, rfl, a, _, rfl, same_sqL s1 hS, fun c2 nc2 => ?_⟩
    have s2 : Same H1 (upd H1 c2 (.lst (cutV (ns.map V.int) none (some 63)))) := same_upd (Same.refl _) nc2
    have e2 : (upd H1 c2 (.lst (cutV (ns.map V.int) none (some 63)))) c2 = some (.lst ((ns.take 63).map V.int)) := by
      rw [upd_same]
      exact congrArg some (congrArg HO.lst (hcut 63))
    refine ⟨c2, rfl, ⟨_, SqL.of e2⟩, ?_⟩
    generalize upd H1 c2 (.lst (cutV (ns.map V.int) none (some 63))) = H2 at *
    refine for_it (walk_list (xs := (ns.take 63).map V.int)) (fun i σ H3 => ∃ (sd : Int) (y2 : Option V), σ = [some (.ref a), some (.int sd), y2] ∧ H3 = H2)
      ⟨_, none, rfl, rfl⟩ (fun i σ H3 _ hW => ?_) (fun i x σ H3 H4 hi hW hy => ?_) (fun σ H3 hW => ?_)
    · obtain ⟨_, _, _, rfl⟩ := hW
      exact SqL.of e2
    · obtain ⟨sd, y2, rfl, rfl⟩ := hW
      obtain ⟨rfl, hx⟩ := hy
      rw [List.length_map] at hi
      rw [iget0 hi] at hx
      obtain rfl : x = .int ((ns.take 63).getD i 0) := (Option.some.inj hx).symm
      refine ⟨_, rfl, _, _, rfl, rfl, .inr ⟨by omega, by omega⟩, _, rfl, .inl ⟨_, rfl, _, _, rfl, rfl, (by decide : (0 : Int) < 2147483629), _, _, rfl, rfl, _, _, rfl, rfl, .inl ⟨_, rfl, _, _, rfl, rfl, (by decide : (0 : Int) < 2147483647), _, _, rfl, rfl⟩⟩⟩
    · obtain ⟨sd, y2, rfl, rfl⟩ := hW
      have s02 := s1.trans s2
      refine ⟨_, rfl, _, rfl, 63, rfl, a, _, rfl, same_sqL s02 hS, fun c3 nc3 => ?_⟩
      have s3 : Same H3 (upd H3 c3 (.lst (cutV (ns.map V.int) none (some 63)))) := same_upd (Same.refl _) nc3
      have e3 : (upd H3 c3 (.lst (cutV (ns.map V.int) none (some 63)))) c3 = some (.lst ((ns.take 63).map V.int)) := by
        rw [upd_same]
        exact congrArg some (congrArg HO.lst (hcut 63))
      refine ⟨c3, rfl, ⟨_, SqL.of e3⟩, fun D hD => ?_⟩
      refine lc_keep (walk_list (K := K) (a := c3) (xs := (ns.take 63).map V.int)) (fun i => decide ((10 : Int) ^ (18 : Int).toNat ≤ (if (ns.take 63).getD i 0 < 0 then -(ns.take 63).getD i 0 else (ns.take 63).getD i 0)))
        (fun i => .int (if (ns.take 63).getD i 0 < 0 then -(ns.take 63).getD i 0 else (ns.take 63).getD i 0)) hD (by rw [List.length_map, List.length_take]; omega) (fun H5 s5 => SqL.of (s5 _ _ e3)) (fun i x H5 H6 hi s5 hDl y R R' hR hR' => ?_) (fun H5 s5 hl5 => ?_)
      · obtain ⟨rfl, hx⟩ := y
        rw [List.length_map] at hi
        rw [iget0 hi] at hx
        obtain rfl : x = .int ((ns.take 63).getD i 0) := (Option.some.inj hx).symm
        refine ⟨rfl, _, rfl, _, rfl, _, _, rfl, rfl, ⟨by decide, by decide, by decide⟩, _, _, rfl, rfl, _, rfl, ite2 (fun e => ?_) (fun e => ?_)⟩
        · exact ⟨_, rfl, _, rfl, hR e _ (Same.refl _)⟩
        · exact hR' (by simpa using e) _ (Same.refl _)
      · rw [map_keep_int] at hl5
        refine ⟨line1 (Nat.le_add_left 3 999997), fun p np => ?_⟩
        have s6 : Same H5 (upd H5 p (.lst [.int sd, .int 0, .ref D])) := same_upd (Same.refl _) np
        exact q _ p D (((s02.trans s3).trans s5).trans s6) ⟨⟨sd, 0, upd_same⟩, _, s6 _ _ hl5⟩
end
end Fo

/-! draws; a mixed list. -/
namespace Fo
open PySem PySem.Spec PyProof.Rows L2
theorem Pool.put {H : Hp} {p q : Addr} (h : Pool H p q) (a b : Int) : Pool (upd H p (.lst [.int a, .int b, .ref q])) p q := by
  have hne := h.ne
  obtain ⟨_, cs, e2⟩ := h
  exact ⟨⟨a, b, upd_same⟩, cs, by rw [upd_ne (Ne.symm hne)]; exact e2⟩
theorem Pool.cells {H : Hp} {p q : Addr} (h : Pool H p q) (cs : List Int) : Pool (upd H q (.lst (cs.map V.int))) p q := by
  have hne := h.ne
  obtain ⟨⟨a, b, e1⟩, _⟩ := h
  exact ⟨⟨a, b, by rw [upd_ne hne]; exact e1⟩, cs, upd_same⟩
theorem erase_map {α β : Type} (f : α → β) : ∀ (l : List α) (k : Nat), (l.map f).eraseIdx k = (l.eraseIdx k).map f
  | [], _ => rfl
  | _ :: _, 0 => rfl
  | x :: r, k + 1 => by
    show f x :: (r.map f).eraseIdx k = f x :: (r.eraseIdx k).map f
    rw [erase_map f r k]
theorem erase_perm : ∀ (l : List Nat) (k : Nat), k < l.length → (l.getD k 0 :: l.eraseIdx k).Perm l
  | [], _, h => absurd h (Nat.not_lt_zero _)
  | x :: r, 0, _ => List.Perm.refl _
  | x :: r, k + 1, h => by
    have ih := erase_perm r k (Nat.lt_of_succ_lt_succ h)
    show (r.getD k 0 :: x :: r.eraseIdx k).Perm (x :: r)
    exact (List.Perm.swap _ _ _).trans (ih.cons x)
theorem pe_bmK {X : Cx} {o e : Expr} {es : List Expr} {to : TE} {t : TA} {name : Str} {apos cpos : Pos} {T id : String} {r : V → List V → Hp → VK → Prop} (K : PySem.W.Frag) (h : X.K = K) (pa : PlainAttrs T) (slot : Slot T name id) (hty : typeOf (.builtin id) = pure (.type "method_descriptor")) (hm : MtR X id r) (ho : PE X o to) (ha : PA X (e :: es) t)
    (hbase : attributeBase o name X.env (eval o X.env) = eval o X.env := by rfl)
    (hfew : ((backTo cpos (starEach (e :: es) X.env)).all (fun x => !x.1) && (backToKw cpos (keywordEach [] X.env)).all (fun x => x.1.isSome)
      && decide ((e :: es).length + ([] : List Keyword).length + (if ([] : List Keyword).isEmpty then 0 else 1) < 30)) = true := by rfl)
    (hline : (apos.endLine == cpos.line) = true := by rfl) (hs : starEach (e :: es) X.env = (false, eval e X.env) :: starEach es X.env := by rfl) (hplain : (backTo cpos (starEach es X.env)).any (·.1) = false := by rfl) :
    PE X (.Call (.Attribute o name apos) (e :: es) [] cpos) (tBM K T r to t) := h ▸ pe_bm pa slot hty hm ho ha hbase hfew hline hs hplain
section
variable {P : Program} {w : World} {K : PySem.W.Frag} {mg : Str → Option Value} {base : Heap}
def spDraw : Sp := fun vs H Q _ => ∃ (p q : Addr) (many : Int), vs = [.ref p, .int many] ∧ Pool H p q ∧ 1 ≤ many ∧ many ≤ 10 ^ 30 ∧ ∀ H' d, Pool H' p q → But p q H H' → 0 ≤ d → d < many → Q (.int d) H'
theorem ok_l_draw (T : Tx K mg) : FnOk P w K mg base CX0 1 T.l_draw.f T.l_draw.d ["_law_pool_here", "_law_many"] spDraw := by
  refine T.l_draw.F.ok sc_l_draw (fun vs H Q E h => ?_) (fun cdv A outer s H vs Q E hr h => ?_)
  · obtain ⟨p, q, many, rfl, _⟩ := h
    rfl
  · obtain ⟨p, q, many, rfl, hP, hm1, hm2, qq⟩ := h
    have nd := sc_l_draw.nd
    refine ⟨_, pss_cons (ps_asg (pe_op op_add (pe_ix ix_list (pv 0) pe_int (fun _ _ => rfl)) pe_int) (pg_sub (pv 0) pe_int set_list)) <|
      pss_cons (ps_set (i := 2) nd rfl (.inl rfl) (pe_ix ix_list (pv 0) pe_int (fun _ _ => rfl))) <|
      pss_cons (ps_if (pt_cmpR op_gt (pe_callB call_len (by rfl) T.z_len (by decide +kernel) (pa_cons (pv 2) pa_nil)) pe_int (nomark _))
        (pss_cons (ps_set (i := 4) nd rfl (.inl rfl) (pe_op op_mod (pe_callTy call_int1 (by rfl) T.z_int (by decide +kernel) (pa_cons (pe_ix ix_list (pv 2) pe_int (fun _ _ => rfl)) pa_nil)) (pv 1))) <|
         pss_cons (ps_asg (pe_op op_fdivW (pe_callTy call_int1 (by rfl) T.z_int (by decide +kernel) (pa_cons (pe_ix ix_list (pv 2) pe_int (fun _ _ => rfl)) pa_nil)) (pv 1)) (pg_sub (pv 2) pe_int set_list)) <|
         pss_cons (ps_if (pt_cmpR op_eq (pe_ix ix_list (pv 2) pe_int (fun _ _ => rfl)) pe_int (nomark _))
           (pss_one (ps_expr (pe_bm PySem.F.plainAttrs_list PySem.F.slot_list_pop PySem.F.type_list_pop mt_popAt (pv 2) (pa_cons pe_int pa_nil)))) pss_nil) <|
         pss_one (ps_ret (pv 4))) pss_nil) <|
      pss_cons (ps_set (i := 3) nd rfl (.inl rfl) (pe_op op_mod (pe_callTy call_int1 (by rfl) T.z_int (by decide +kernel) (pa_cons (pe_op op_mul (pe_op op_add (pe_ix ix_list (pv 0) pe_int (fun _ _ => rfl)) (pe_op op_mul pe_int (pe_ix ix_list (pv 0) pe_int (fun _ _ => rfl)))) pe_int) pa_nil)) pe_int)) <|
      pss_cons (ps_set (i := 3) nd rfl (.inl rfl) (pe_op op_mod (pe_callTy call_int1 (by rfl) T.z_int (by decide +kernel) (pa_cons (pe_op op_mul (pv 3) (pe_op op_add (pe_op op_fdiv (pv 3) pe_int) pe_int)) pa_nil)) pe_int)) <|
      pss_cons (ps_set (i := 3) nd rfl (.inl rfl) (pe_op op_mod (pe_callTy call_int1 (by rfl) T.z_int (by decide +kernel) (pa_cons (pe_op op_mul (pv 3) (pe_op op_add (pe_op op_fdiv (pv 3) pe_int) pe_int)) pa_nil)) pe_int)) <|
      pss_one (ps_ret (pe_op op_mod (pe_callTy call_int1 (by rfl) T.z_int (by decide +kernel) (pa_cons (pe_op op_fdiv (pv 3) pe_int) pa_nil)) (pv 1))), ?_⟩
    obtain ⟨⟨sd, cn, e1⟩, cs, e2⟩ := id hP
    have hne := hP.ne
    have hb : many.natAbs < 2 ^ 100 := by omega
    refine ⟨_, rfl, p, _, 1, _, rfl, rfl, SqL.of e1, rfl, _, _, rfl, rfl, _, rfl, p, _, 1, 1, rfl, rfl, e1, rfl, ?_⟩
    have hP1 : Pool (upd H p (.lst [V.int sd, .int (cn + 1), .ref q])) p q := hP.put sd (cn + 1)
    have b1 : But p q H (upd H p (.lst [V.int sd, .int (cn + 1), .ref q])) := (But.refl H).set (.inl rfl)
    have e11 : (upd H p (.lst [V.int sd, .int (cn + 1), .ref q])) p = some (.lst [.int sd, .int (cn + 1), .ref q]) := upd_same
    have e21 : (upd H p (.lst [V.int sd, .int (cn + 1), .ref q])) q = some (.lst (cs.map V.int)) := by rw [upd_ne (Ne.symm hne)]; exact e2
    refine ⟨_, rfl, p, _, 2, _, rfl, rfl, SqL.of e11, rfl, ?_⟩
    refine ⟨_, rfl, .ref q, cs.length, rfl, .inl ⟨_, SqL.of e21, (List.length_map ..).symm⟩, _, _, rfl, rfl, _, rfl, ?_⟩
    cases cs with
    | nil =>
      refine iteF ?_
      refine ⟨_, rfl, p, _, 0, _, rfl, rfl, SqL.of e11, rfl, _, rfl, p, _, 1, _, rfl, rfl, SqL.of e11, rfl, _, _, rfl, rfl, .inl ⟨by decide, by decide⟩, _, _, rfl, rfl, _, _, rfl, rfl, .inr ⟨by decide, by decide⟩, .inl ⟨_, rfl, _, _, rfl, rfl, (by decide : (0 : Int) < 2147483647), ?_⟩⟩
      have m1 : ∀ z : Int, -(2 ^ 64) < z % 2147483647 ∧ z % 2147483647 < 2 ^ 64 := fun z => by
        have h1 := Int.emod_nonneg z (b := 2147483647) (by decide)
        have h2 := Int.emod_lt_of_pos z (b := 2147483647) (by decide)
        omega
      refine ⟨_, rfl, _, rfl, _, _, rfl, rfl, ⟨by decide, by decide⟩, _, _, rfl, rfl, _, _, rfl, rfl, .inl (m1 _), .inl ⟨_, rfl, _, _, rfl, rfl, (by decide : (0 : Int) < 2147483647), ?_⟩⟩
      refine ⟨_, rfl, _, rfl, _, _, rfl, rfl, ⟨by decide, by decide⟩, _, _, rfl, rfl, _, _, rfl, rfl, .inl (m1 _), .inl ⟨_, rfl, _, _, rfl, rfl, (by decide : (0 : Int) < 2147483399), ?_⟩⟩
      refine ⟨_, rfl, _, _, rfl, rfl, ⟨by decide, by decide⟩, .inl ⟨_, rfl, _, rfl, _, _, rfl, rfl, by omega, ?_⟩⟩
      exact qq _ _ hP1 b1 (Int.emod_nonneg _ (by omega)) (Int.emod_lt_of_pos _ (by omega))
    | cons c r =>
      have hpos : decide ((0 : Int) < (((c :: r).length : Nat) : Int)) = true := decide_eq_true (by rw [List.length_cons]; omega)
      rw [hpos]
      refine iteT ?_
      have g0 : atI ((c :: r).map V.int) 0 = some (.int c) := igetE (n := 0) rfl (Nat.zero_lt_succ _)
      refine ⟨_, rfl, q, _, 0, _, rfl, rfl, SqL.of e21, g0, .inl ⟨_, rfl, _, rfl, _, _, rfl, rfl, by omega, ?_⟩⟩
      refine ⟨_, rfl, q, _, 0, _, rfl, rfl, SqL.of e21, g0, .inl ⟨_, rfl, _, rfl, _, _, rfl, rfl, wide_div (by omega) hb (by decide) (by decide), ?_⟩⟩
      refine ⟨_, rfl, q, _, 0, 0, rfl, rfl, e21, ixNE (j := 0) rfl (Nat.zero_lt_succ _), ?_⟩
      have hP2 : Pool (upd (upd H p (.lst [V.int sd, .int (cn + 1), .ref q])) q (.lst ((c / many :: r).map V.int))) p q := hP1.cells _
      have b2 : But p q H (upd (upd H p (.lst [V.int sd, .int (cn + 1), .ref q])) q (.lst ((c / many :: r).map V.int))) := b1.set (.inr (.inl rfl))
      have e22 : (upd (upd H p (.lst [V.int sd, .int (cn + 1), .ref q])) q (.lst ((c / many :: r).map V.int))) q = some (.lst ((c / many :: r).map V.int)) := upd_same
      have g2 : atI ((c / many :: r).map V.int) 0 = some (.int (c / many)) := igetE (n := 0) rfl (Nat.zero_lt_succ _)
      refine ⟨_, rfl, q, _, 0, _, rfl, rfl, SqL.of e22, g2, rfl, _, rfl, ite2 (fun _ => ?_) (fun _ => ?_)⟩
      · refine ⟨_, rfl, .inl ⟨rfl, _, SqL.of e22⟩, q, _, 0, 0, _, rfl, rfl, e22, by decide, by decide, (ixN_seq (ixNE (j := 0) rfl (Nat.zero_lt_succ _))).1, rfl, ?_⟩
        exact ⟨_, rfl, qq _ _ (hP2.cells r) (b2.set (.inr (.inl rfl))) (Int.emod_nonneg _ (by omega)) (Int.emod_lt_of_pos _ (by omega))⟩
      · exact ⟨_, rfl, qq _ _ hP2 b2 (Int.emod_nonneg _ (by omega)) (Int.emod_lt_of_pos _ (by omega))⟩
def spMixed : Sp := fun vs H Q _ => ∃ (p q a : Addr) (l : List Nat), vs = [.ref p, .ref a] ∧ Pool H p q ∧ H a = some (.lst (nV l)) ∧ l.length ≤ 1000 ∧ ∀ H' r l', Pool H' p q → But p q H H' → l'.Perm l → H' r = some (.lst (nV l')) → Q (.ref r) H'
theorem ok_l_mixed (T : Tx K mg) : FnOk P w K mg base CX0 2 T.l_mixed.f T.l_mixed.d ["_law_pool_here", "_law_things"] spMixed := by
  refine T.l_mixed.F.ok sc_l_mixed (fun vs H Q E h => ?_) (fun cdv A outer s H vs Q E hr h => ?_)
  · obtain ⟨p, q, a, l, rfl, _⟩ := h
    rfl
  · obtain ⟨p, q, a, l, rfl, hP, ha, hl, qq⟩ := h
    have nd := sc_l_mixed.nd
    refine ⟨_, pss_cons (ps_set (i := 2) nd rfl (.inr rfl) (pe_callTy call_list_of (by rfl) T.z_list (by decide +kernel) (pa_cons (pv 1) pa_nil))) <|
      pss_one (ps_ret (pe_lc (own := [("_law_k", 3)]) (g := gName 3) (tt := tYes) rfl nd (pi_range1 (by rfl) T.z_range (pa_cons (pe_callB call_len (by rfl) T.z_len (by decide +kernel) (pa_cons (pv 2) pa_nil)) pa_nil)) (blkOk_by (N := N_l_mixed) (sc := defScope s_l_mixed) (by decide +kernel))
        (fun _ _ _ _ _ => pg_name (i := 3) nd rfl (Or.inl rfl)) (fun _ _ _ _ _ => pts_nil)
        (fun _ _ _ _ _ => pe_bmK K rfl PySem.F.plainAttrs_list PySem.F.slot_list_pop PySem.F.type_list_pop mt_popAt (pv 2)
          (pa_cons (pe_call (ok_l_draw T) hr (by rfl) T.l_draw.g T.l_draw.F.kp T.l_draw.b .nil pass0 (pa_cons (pv 0) (pa_cons (pe_callB (call_lenK K rfl) (by rfl) T.z_len (by decide +kernel) (pa_cons (pv 2) pa_nil)) pa_nil))) pa_nil)))), ?_⟩
    refine ⟨_, rfl, a, nV l, rfl, .inl (SqL.of ha), fun lf nlf => ?_⟩
    have nop : ∀ b, H b = none → b ≠ p ∧ b ≠ q := fun b hb => by
      obtain ⟨⟨sd, cn, e1⟩, cs, e2⟩ := hP
      exact ⟨ne_new e1 hb, ne_new e2 hb⟩
    have s1 : Same H (upd H lf (.lst (nV l))) := same_upd (Same.refl _) nlf
    refine ⟨_, rfl, .ref lf, l.length, rfl, .inl ⟨_, SqL.of upd_same, (nV_len _).symm⟩, _, rfl, by omega, by omega, fun D hD => ?_⟩
    have nDlf : D ≠ lf := fun z => by
      rw [z, upd_same] at hD
      cases hD
    have hD0 : H D = none := by
      rw [upd_ne nDlf] at hD
      exact hD
    refine lc_it walk_r0 (fun i H3 => But p q H H3 ∧ Pool H3 p q ∧ ∃ l1 dn : List Nat, H3 lf = some (.lst (nV l1)) ∧ H3 D = some (.lst (nV dn)) ∧ dn.length = i ∧ (l1 ++ dn).Perm l)
      ⟨(But.of s1).set (.inr (.inr hD0)), (hP.same s1).same (same_upd (Same.refl _) hD), l, [], ?_, upd_same, rfl, by rw [List.append_nil]⟩ (fun _ _ _ _ => trivial) (fun i x H3 H4 hi hW hy => ?_) (fun H3 hW => ?_)
    · rw [upd_ne (Ne.symm nDlf)]
      exact upd_same
    · obtain ⟨b3, hP3, l1, dn, e1, e2, hdn, hperm⟩ := hW
      obtain ⟨rfl, rfl⟩ := hy
      rw [Int.toNat_natCast] at hi
      have hlen := hperm.length_eq
      rw [List.length_append, hdn] at hlen
      refine ⟨rfl, ?_⟩
      refine ⟨_, rfl, .inl ⟨rfl, _, SqL.of e1⟩, _, rfl, _, rfl, .ref lf, l1.length, rfl, .inl ⟨_, SqL.of e1, (nV_len _).symm⟩, p, q, _, rfl, hP3, by omega, by omega, fun H5 d hP5 b5 d0 d1 => ?_⟩
      have e15 := b5 lf _ (nop lf nlf).1 (nop lf nlf).2 e1
      have e25 := b5 D _ (nop D hD0).1 (nop D hD0).2 e2
      have hk : d.toNat < l1.length := by omega
      refine ⟨lf, _, d, d.toNat, _, rfl, rfl, e15, by omega, by omega, (ixN_seq (ixNE (j := d.toNat) (by omega) (by rw [nV_len]; exact hk))).1, nV_get hk, ?_⟩
      have eD : (upd H5 lf (.lst ((nV l1).eraseIdx d.toNat))) D = some (.lst (nV dn)) := by
        rw [upd_ne nDlf]
        exact e25
      have hne := hP5
      refine ⟨nV dn, eD, ?_, (((b3.trans b5).set (.inr (.inr nlf))).set (.inr (.inr hD0))), ?_, l1.eraseIdx d.toNat, dn ++ [l1.getD d.toNat 0], ?_, ?_, ?_, ?_⟩
      · rw [nV_len, hdn, sizeLine_eq]
        omega
      · obtain ⟨⟨sd, cn, p1⟩, cs, p2⟩ := hP5
        refine ⟨⟨sd, cn, ?_⟩, cs, ?_⟩
        · rw [upd_ne (Ne.symm (nop D hD0).1), upd_ne (Ne.symm (nop lf nlf).1)]
          exact p1
        · rw [upd_ne (Ne.symm (nop D hD0).2), upd_ne (Ne.symm (nop lf nlf).2)]
          exact p2
      · rw [upd_ne (Ne.symm nDlf), upd_same]
        unfold nV
        rw [erase_map]
      · rw [upd_same]
        unfold nV
        rw [List.map_append]
        rfl
      · rw [List.length_append, hdn]
        rfl
      · rw [← List.append_assoc]
        refine (List.perm_append_singleton _ _).trans ?_
        exact ((erase_perm l1 _ hk).append_right dn).trans hperm
    · obtain ⟨b3, hP3, l1, dn, e1, e2, hdn, hperm⟩ := hW
      rw [Int.toNat_natCast] at hdn
      have hlen := hperm.length_eq
      rw [List.length_append, hdn] at hlen
      have h0 : l1 = [] := List.eq_nil_of_length_eq_zero (by omega)
      subst h0
      exact qq H3 D dn hP3 b3 hperm e2
end
end Fo

/-! deep, wide, orders. -/
namespace Fo
open PySem PySem.Spec PyProof.Rows L2
theorem mod_mul (x y m : Int) : ((x % m) * y) % m = (x * y) % m := by
  have e := Int.mul_ediv_add_emod x m
  have e2 : (x % m) * y = x * y + m * (-(x / m * y)) := by
    have e3 : x % m = x - m * (x / m) := by omega
    rw [e3, Int.sub_mul, Int.mul_assoc, Int.mul_neg]
    omega
  rw [e2, Int.add_mul_emod_self_left]
section
variable {P : Program} {w : World} {K : PySem.W.Frag} {mg : Str → Option Value} {base : Heap}
def spDeep : Sp := fun vs H Q _ => vs = [] ∧ ∀ H' a b ys, Same H H' → H' a = some (.tup [.ref b]) → H' b = some (.tup ys) → Q (.ref a) H'
theorem ok_l_deep (T : Tx K mg) : FnOk P w K mg base CX0 1 T.l_deep.f T.l_deep.d [] spDeep := by
  refine T.l_deep.F.ok sc_l_deep (fun vs H Q E h => ?_) (fun cdv A outer s H vs Q E hr h => ?_)
  · obtain ⟨rfl, _⟩ := h
    rfl
  · obtain ⟨rfl, q⟩ := h
    have nd := sc_l_deep.nd
    refine ⟨_, pss_cons (ps_set (i := 0) nd rfl (.inl rfl) (pe_tup (pa_cons pe_int (pa_cons pe_int pa_nil)))) <|
      pss_cons (ps_for PassesOwn.never rfl (pi_range1 (by rfl) T.z_range (pa_cons pe_int pa_nil)) (pg_name (i := 1) nd rfl (.inl rfl)) (pss_one (ps_set (i := 0) nd rfl (.inl rfl) (pe_tup (pa_cons (pv 0) pa_nil))))) <|
      pss_one (ps_ret (pv 0)), ?_⟩
    refine ⟨line1 (Nat.le_add_left 2 999998), fun c nc => ?_⟩
    refine ⟨35, rfl, by decide, by decide, ?_⟩
    refine for_it walk_r0 (fun i σ H3 => ∃ y1 a xs, σ = [some (.ref a), y1] ∧ Same H H3 ∧ H3 a = some (.tup xs) ∧ (1 ≤ i → ∃ b ys, xs = [.ref b] ∧ H3 b = some (.tup ys)))
      ⟨none, c, _, rfl, same_upd (Same.refl _) nc, upd_same, fun z => absurd z (by decide)⟩ (fun _ _ _ _ _ => trivial) (fun i x σ H3 H4 hi hW hy => ?_) (fun σ H3 hW => ?_)
    · obtain ⟨y1, a, xs, rfl, sm, ea, _⟩ := hW
      obtain ⟨rfl, rfl⟩ := hy
      refine ⟨_, rfl, line1 (Nat.le_add_left 1 999999), fun d ndd => ?_⟩
      have s4 : Same H4 (upd H4 d (.tup [.ref a])) := same_upd (Same.refl _) ndd
      exact ⟨_, d, _, rfl, sm.trans s4, upd_same, fun _ => ⟨a, xs, rfl, s4 _ _ ea⟩⟩
    · obtain ⟨y1, a, xs, rfl, sm, ea, hb⟩ := hW
      obtain ⟨b, ys, rfl, eb⟩ := hb (by decide)
      exact ⟨_, rfl, q H3 a b ys sm ea eb⟩

def spWide : Sp := fun vs H Q _ => ∃ a l, vs = [.ref a] ∧ H a = some (.tup (nV l)) ∧ l.sum ≤ 1000 ∧ l.length ≤ 1000 ∧ ∀ H' p, Same H H' → H' p = some (.lst (nV (wide 0 l))) → Q (.ref p) H'
theorem ok_l_wide (T : Tx K mg) : FnOk P w K mg base CX0 1 T.l_wide.f T.l_wide.d ["_law_numbers"] spWide := by
  refine T.l_wide.F.ok sc_l_wide (fun vs H Q E h => ?_) (fun cdv A outer s H vs Q E hr h => ?_)
  · obtain ⟨a, l, rfl, _⟩ := h
    rfl
  · obtain ⟨a, l, rfl, ha, hsum, hlen, q⟩ := h
    have nd := sc_l_wide.nd
    refine ⟨_, pss_cons (ps_set (i := 1) nd rfl (.inl rfl) (pe_lst pa_nil)) <|
      pss_cons (ps_for PassesOwn.never rfl (pi_range1 (by rfl) T.z_range (pa_cons (pe_callB call_len (by rfl) T.z_len (by decide +kernel) (pa_cons (pv 0) pa_nil)) pa_nil)) (pg_name (i := 2) nd rfl (.inl rfl))
        (pss_one (ps_set (i := 1) nd rfl (.inl rfl) (pe_op op_cat (pv 1) (pe_op op_rep (pe_lst (pa_cons (pv 2) pa_nil)) (pe_ix ix_tup (pv 0) (pv 2) (fun _ _ => rfl))))))) <|
      pss_one (ps_ret (pv 1)), ?_⟩
    refine ⟨line1 (Nat.zero_le _), fun o no => ?_⟩
    refine ⟨_, rfl, .ref a, l.length, rfl, .inr ⟨_, SqT.of (same_upd (Same.refl _) no _ _ ha), (nV_len _).symm⟩, _, rfl, by omega, by omega, ?_⟩
    refine for_it walk_r0 (fun i σ H3 => ∃ y2 f, σ = [some (.ref a), some (.ref f), y2] ∧ Same H H3 ∧ H3 f = some (.lst (nV (wide 0 (l.take i)))))
      ⟨none, o, rfl, same_upd (Same.refl _) no, upd_same⟩ (fun _ _ _ _ _ => trivial) (fun i x σ H3 H4 hi hW hy => ?_) (fun σ H3 hW => ?_)
    · obtain ⟨y2, f, rfl, sm, ef⟩ := hW
      obtain ⟨rfl, rfl⟩ := hy
      rw [Int.toNat_natCast] at hi
      have hle := get_le_sum l i
      refine ⟨_, rfl, _, rfl, line1 (Nat.le_add_left 1 999999), fun c nc => ?_⟩
      have s4 : Same H4 (upd H4 c (.lst [.int (i : Nat)])) := same_upd (Same.refl _) nc
      refine ⟨_, rfl, _, rfl, a, _, _, _, rfl, rfl, SqT.of (s4 _ _ (sm _ _ ha)), atI_nat (nV_get hi), c, _, _, rfl, rfl, upd_same, by omega, by omega, ?_, fun d nd' => ?_⟩
      · rw [Int.toNat_natCast]
        refine line1 ?_
        show 1 * l.getD i 0 ≤ _
        omega
      · have s5 := (same_upd s4 nd' (o := .lst (List.replicate ((l.getD i 0 : Nat) : Int).toNat [V.int (i : Nat)]).flatten))
        refine ⟨f, d, _, _, rfl, rfl, s5 _ _ ef, upd_same, ?_, fun g ng => ⟨_, g, rfl, sm.trans (same_upd s5 ng), ?_⟩⟩
        · have h1 := wide_take_len l i
          rw [nV_len, Int.toNat_natCast, flat1, List.length_replicate]
          exact line1 (by omega)
        · rw [upd_same, wide_take 0 l i hi]
          unfold nV
          rw [List.map_append, Int.toNat_natCast, flat1, List.map_replicate, Nat.zero_add]
    · obtain ⟨y2, f, rfl, sm, ef⟩ := hW
      rw [Int.toNat_natCast, List.take_length] at ef
      exact ⟨_, rfl, q H3 f sm ef⟩

def spOrders : Sp := fun vs H Q _ => ∃ (n : Nat) (m : Int), vs = [.int (n : Int), .int m] ∧ 1 ≤ n ∧ n ≤ 1000 ∧ 1 ≤ m ∧ Q (.int (((fa n : Nat) : Int) % m)) H
theorem ok_l_orders (T : Tx K mg) : FnOk P w K mg base CX0 1 T.l_orders.f T.l_orders.d ["_law_many", "_law_modulus"] spOrders := by
  refine T.l_orders.F.ok sc_l_orders (fun vs H Q E h => ?_) (fun cdv A outer s H vs Q E hr h => ?_)
  · obtain ⟨n, m, rfl, _⟩ := h
    rfl
  · obtain ⟨n, m, rfl, h1, h2, hm, q⟩ := h
    have nd := sc_l_orders.nd
    refine ⟨_, pss_cons (ps_set (i := 2) nd rfl (.inl rfl) (pe_op op_mod (pe_callTy call_int1 (by rfl) T.z_int (by decide +kernel) (pa_cons pe_int pa_nil)) (pv 1))) <|
      pss_cons (ps_for PassesOwn.never rfl (pi_range2 (by rfl) T.z_range (pa_cons pe_int (pa_cons (pe_op op_add (pv 0) pe_int) pa_nil))) (pg_name (i := 3) nd rfl (.inl rfl))
        (pss_one (ps_set (i := 2) nd rfl (.inl rfl) (pe_op op_mod (pe_callTy call_int1 (by rfl) T.z_int (by decide +kernel) (pa_cons (pe_op op_mul (pv 2) (pv 3)) pa_nil)) (pv 1))))) <|
      pss_one (ps_ret (pv 2)), ?_⟩
    refine .inl ⟨_, rfl, _, rfl, _, _, rfl, rfl, by omega, ?_⟩
    refine ⟨_, rfl, _, _, rfl, rfl, 2, (n : Int) + 1, rfl, ⟨by decide, by decide, by omega, by omega⟩, ?_⟩
    have en : ((n : Int) + 1 - 2).toNat = n - 1 := by omega
    rw [en]
    refine for_it walk_range (fun i σ H3 => ∃ y3, σ = [some (.int (n : Int)), some (.int m), some (.int (((fa (i + 1) : Nat) : Int) % m)), y3] ∧ H3 = H)
      ⟨none, rfl, rfl⟩ (fun _ _ _ _ _ => trivial) (fun i x σ H3 H4 hi hW hy => ?_) (fun σ H3 hW => ?_)
    · obtain ⟨y3, rfl, rfl⟩ := hW
      obtain ⟨rfl, rfl⟩ := hy
      refine ⟨_, rfl, _, rfl, _, _, rfl, rfl, .inr ⟨by omega, by omega⟩, .inl ⟨_, rfl, _, rfl, _, _, rfl, rfl, by omega, some (.int (2 + (i : Nat))), ?_, rfl⟩⟩
      have e : ((fa (i + 1 + 1) : Nat) : Int) % m = (((fa (i + 1) : Nat) : Int) % m) * (2 + ((i : Nat) : Int)) % m := by
        rw [mod_mul]
        congr 1
        show (((i + 1 + 1) * fa (i + 1) : Nat) : Int) = _
        rw [Int.natCast_mul, Int.mul_comm]
        congr 1
        omega
      rw [e]
      rfl
    · obtain ⟨y3, rfl, rfl⟩ := hW
      rw [show n - 1 + 1 = n by omega]
      exact ⟨_, rfl, q⟩

def spSigns : Sp := fun vs H Q _ => ∃ a l, vs = [.ref a] ∧ H a = some (.tup (nV l)) ∧ l.sum ≤ 400 ∧ l.length ≤ 8 ∧ ∀ H', Same H H' → Q (.int (Tn l)) H'
theorem ok_l_by_signs (T : Tx K mg) : FnOk P w K mg base CX0 1 T.l_by_signs.f T.l_by_signs.d ["_law_sizes"] spSigns := by
  refine T.l_by_signs.F.ok sc_l_by_signs (fun vs H Q E h => ?_) (fun cdv A outer s H vs Q E hr h => ?_)
  · obtain ⟨a, l, rfl, _⟩ := h
    rfl
  · obtain ⟨a, l, rfl, ha, h4, hl1, q⟩ := h
    have nd := sc_l_by_signs.nd
    refine ⟨_, pss_cons (ps_set (i := 1) nd rfl (.inl rfl) (pe_lst (pa_cons pe_int pa_nil))) <|
      pss_cons (ps_for PassesOwn.never rfl (pi_tup (pv 0)) (pg_name (i := 2) nd rfl (.inl rfl))
        (pss_cons (ps_set (i := 6) nd rfl (.inl rfl) (pe_lst (pa_cons pe_int pa_nil))) <|
         pss_cons (ps_for PassesOwn.never rfl (pi_range1 (by rfl) T.z_range (pa_cons (pv 2) pa_nil)) (pg_name (i := 7) nd rfl (.inl rfl))
           (pss_one (ps_expr (pe_bm PySem.F.plainAttrs_list PySem.F.slot_list_append PySem.F.type_list_append mt_append (pv 6)
             (pa_cons (pe_op op_fdiv (pe_op op_mul (pe_op op_mul (pe_ix ix_list (pv 6) (pv 7) (fun _ _ => rfl)) (pe_op op_sub (pv 2) (pv 7))) (pe_op op_sub (pv 2) (pv 7))) (pe_op op_add (pv 7) pe_int)) pa_nil))))) <|
         pss_cons (ps_set (i := 8) nd rfl (.inl rfl) (pe_op op_rep (pe_lst (pa_cons pe_int pa_nil)) (pe_op op_add (pe_callB call_len (by rfl) T.z_len (by decide +kernel) (pa_cons (pv 1) pa_nil)) (pv 2)))) <|
         pss_cons (ps_for PassesOwn.never rfl (pi_range1 (by rfl) T.z_range (pa_cons (pe_callB call_len (by rfl) T.z_len (by decide +kernel) (pa_cons (pv 1) pa_nil)) pa_nil)) (pg_name (i := 7) nd rfl (.inl rfl))
           (pss_one (ps_for PassesOwn.never rfl (pi_range1 (by rfl) T.z_range (pa_cons (pe_callB call_len (by rfl) T.z_len (by decide +kernel) (pa_cons (pv 6) pa_nil)) pa_nil)) (pg_name (i := 10) nd rfl (.inl rfl))
             (pss_one (ps_asg (pe_op op_add (pe_ix ix_list (pv 8) (pe_op op_add (pv 7) (pv 10)) (fun _ _ => rfl)) (pe_op op_mulW (pe_ix ix_list (pv 1) (pv 7) (fun _ _ => rfl)) (pe_ix ix_list (pv 6) (pv 10) (fun _ _ => rfl)))) (pg_sub (pv 8) (pe_op op_add (pv 7) (pv 10)) set_list)))))) <|
         pss_one (ps_set (i := 1) nd rfl (.inl rfl) (pv 8)))) <|
      pss_cons (ps_set (i := 3) nd rfl (.inl rfl) pe_int) <|
      pss_cons (ps_set (i := 4) nd rfl (.inl rfl) pe_int) <|
      pss_cons (ps_for PassesOwn.never rfl (pi_range1 (by rfl) T.z_range (pa_cons (pe_callB call_len (by rfl) T.z_len (by decide +kernel) (pa_cons (pv 1) pa_nil)) pa_nil)) (pg_name (i := 5) nd rfl (.inl rfl))
        (pss_cons (ps_set (i := 9) nd rfl (.inl rfl) (pe_op op_sub (pe_op op_sub (pe_callB call_len (by rfl) T.z_len (by decide +kernel) (pa_cons (pv 1) pa_nil)) pe_int) (pv 5))) <|
         pss_cons (ps_set (i := 3) nd rfl (.inl rfl) (pe_op op_add (pv 3) (pe_op op_mulW (pe_op op_mul (pe_ix ix_list (pe_lst (pa_cons pe_int (pa_cons (pe_un un_neg pe_int) pa_nil))) (pe_op op_mod (pe_callTy call_int1 (by rfl) T.z_int (by decide +kernel) (pa_cons (pv 9) pa_nil)) pe_int) (fun _ _ => rfl)) (pe_ix ix_list (pv 1) (pv 9) (fun _ _ => rfl))) (pv 4)))) <|
         pss_one (ps_set (i := 4) nd rfl (.inl rfl) (pe_op op_mul (pv 4) (pe_op op_add (pv 5) pe_int))))) <|
      pss_one (ps_ret (pv 3)), ?_⟩
    refine ⟨line1 (Nat.le_add_left 1 999999), fun w0 nw0 => ?_⟩
    refine ⟨_, rfl, a, rfl, ⟨_, SqT.of (same_upd (Same.refl _) nw0 _ _ ha)⟩, ?_⟩
    refine for_it (walk_tup (xs := nV l)) (fun i σ H3 => ∃ y2 y6 y7 y8 y10 wa, σ = [some (.ref a), some (.ref wa), y2, none, none, none, y6, y7, y8, none, y10] ∧ Same H H3 ∧ H3 wa = some (.lst ((waysL l i).map V.int)))
      ⟨none, none, none, none, none, w0, rfl, same_upd (Same.refl _) nw0, by rw [upd_same]; rfl⟩ (fun i σ H3 _ hW => ?_) (fun i x σ H3 H4 hi hW hy => ?_) (fun σ H3 hW => ?_)
    · obtain ⟨_, _, _, _, _, _, _, sm, _⟩ := hW
      exact SqT.of (sm _ _ ha)
    · obtain ⟨y2, y6, y7, y8, y10, wa, rfl, sm, ewa⟩ := hW
      obtain ⟨rfl, hx⟩ := hy
      rw [nV_len] at hi
      rw [nV_get hi] at hx
      obtain rfl : x = .int ((l.getD i 0 : Nat) : Int) := (Option.some.inj hx).symm
      have hs4 : l.getD i 0 ≤ 400 := Nat.le_trans (get_le_sum l i) h4
      have hwl : (waysL l i).length ≤ 401 := by
        rw [waysL_length l (by omega)]
        have := sum_take_le l i
        omega
      -- own
      refine ⟨line1 (Nat.le_add_left 1 999999), fun o no => ?_⟩
      refine ⟨_, rfl, _, rfl, by omega, by omega, ?_⟩
      refine for_it walk_r0 (fun k σ H5 => ∃ y7, σ = [some (.ref a), some (.ref wa), some (.int ((l.getD i 0 : Nat) : Int)), none, none, none, some (.ref o), y7, y8, none, y10] ∧ Same H4 H5 ∧ H5 o = some (.lst (((List.range (k + 1)).map fun k => ((own (l.getD i 0) k : Nat) : Int)).map V.int)))
        ⟨y7, rfl, same_upd (Same.refl _) no, ?_⟩ (fun _ _ _ _ _ => trivial) (fun k x σ H5 H6 hk hW hy => ?_) (fun σ H5 hW => ?_)
      · rw [upd_same]
        show some (HO.lst [.int 1]) = some (.lst [.int ((own (l.getD i 0) 0 : Nat) : Int)])
        rw [own_zero]
        rfl
      · obtain ⟨z7, rfl, s5, eo⟩ := hW
        obtain ⟨rfl, rfl⟩ := hy
        rw [Int.toNat_natCast] at hk
        have gk : atI (((List.range (k + 1)).map fun k => ((own (l.getD i 0) k : Nat) : Int)).map V.int) ((k : Nat) : Int) = some (.int ((own (l.getD i 0) k : Nat) : Int)) := atI_nat (by
          rw [List.getElem?_map, List.getElem?_map, List.getElem?_range (by omega)]
          rfl)
        refine ⟨_, rfl, .inl ⟨rfl, _, SqL.of eo⟩, _, rfl, _, rfl, o, _, _, _, rfl, rfl, SqL.of eo, gk, _, rfl, _, rfl, _, _, rfl, rfl, _, _, rfl, rfl, .inr ⟨by omega, by omega⟩, _, rfl, _, rfl, _, _, rfl, rfl, _, _, rfl, rfl, .inr ⟨by omega, by omega⟩, _, rfl, _, _, rfl, rfl, _, _, rfl, rfl, ⟨by omega, by omega⟩, ?_⟩
        generalize hsz : l.getD i 0 = sz at *
        have e : ((own sz k : Nat) : Int) * ((sz : Int) - (k : Nat)) * ((sz : Int) - (k : Nat)) / (((k : Nat) : Int) + 1) = ((own sz (k + 1) : Nat) : Int) := by
          rw [← own_div sz k]
          have e1 : (sz : Int) - (k : Nat) = ((sz - k : Nat) : Int) := by omega
          rw [e1]
          rfl
        refine ⟨o, _, _, rfl, rfl, eo, ?_, ?_⟩
        · rw [List.length_map, List.length_map, List.length_range, sizeLine_eq]
          omega
        · refine ⟨_, rfl, same_set s5 no, ?_⟩
          rw [upd_same, range_map_succ _ (k + 1), List.map_append, ← e]
          rfl
      · obtain ⟨z7, rfl, s5, eo⟩ := hW
        rw [Int.toNat_natCast] at eo
        have eo : H5 o = some (.lst ((ownL (l.getD i 0)).map V.int)) := eo
        have ewa5 := s5 _ _ ewa
        -- longer
        refine ⟨line1 (Nat.le_add_left 1 999999), fun c nc => ?_⟩
        have s6 : Same H5 (upd H5 c (.lst [.int 0])) := same_upd (Same.refl _) nc
        refine ⟨_, rfl, .ref wa, (waysL l i).length, rfl, .inl ⟨_, SqL.of (s6 _ _ ewa5), by rw [List.length_map]⟩, _, rfl, _, _, rfl, rfl, c, _, _, rfl, rfl, upd_same, by omega, by omega, ?_, fun g ng => ?_⟩
        · refine line1 ?_
          show 1 * _ ≤ _
          omega
        have eg0 : (HO.lst (List.replicate ((((waysL l i).length : Nat) : Int) + ((l.getD i 0 : Nat) : Int)).toNat [V.int 0]).flatten) = .lst ((addRows (waysL l i) (ownL (l.getD i 0)) (List.replicate ((waysL l i).length + ((ownL (l.getD i 0)).length - 1)) 0) 0).map V.int) := by
          show _ = HO.lst ((List.replicate ((waysL l i).length + ((ownL (l.getD i 0)).length - 1)) 0).map V.int)
          rw [flat1, List.map_replicate, ownL_length]
          congr 2
        rw [eg0]
        generalize ew : waysL l i = wl at *
        have s7 : Same H5 (upd (upd H5 c (.lst [.int 0])) g (.lst ((addRows wl (ownL (l.getD i 0)) (List.replicate (wl.length + ((ownL (l.getD i 0)).length - 1)) 0) 0).map V.int))) := same_upd s6 ng
        have ng5 : H5 g = none := by
          have hne : g ≠ c := fun z => by
            rw [z, upd_same] at ng
            cases ng
          rw [upd_ne hne] at ng
          exact ng
        have s05 : Same H H5 := sm.trans s5
        have ngH : H g = none := by
          cases hh : H g with
          | none => rfl
          | some v =>
            have := s05 _ _ hh
            rw [ng5] at this
            cases this
        have ngwa : g ≠ wa := ne_new ewa5 ng5
        have ngo : g ≠ o := ne_new eo ng5
        refine ⟨_, rfl, .ref wa, wl.length, rfl, .inl ⟨_, SqL.of (s7 _ _ ewa5), by rw [List.length_map]⟩, _, rfl, by omega, by omega, ?_⟩
        refine for_it walk_r0 (fun j σ H6 => ∃ y7 y10, σ = [some (.ref a), some (.ref wa), some (.int ((l.getD i 0 : Nat) : Int)), none, none, none, some (.ref o), y7, some (.ref g), none, y10] ∧ Same H H6 ∧ H6 wa = some (.lst (wl.map V.int)) ∧
            H6 o = some (.lst ((ownL (l.getD i 0)).map V.int)) ∧ H6 g = some (.lst ((addRows wl (ownL (l.getD i 0)) (List.replicate (wl.length + ((ownL (l.getD i 0)).length - 1)) 0) j).map V.int)))
          ⟨z7, y10, rfl, s05.trans s7, s7 _ _ ewa5, s7 _ _ eo, upd_same⟩ (fun _ _ _ _ _ => trivial) (fun j x σ H6 H7 hj hW hy => ?_) (fun σ H6 hW => ?_)
        · obtain ⟨u7, u10, rfl, m6, e6w, e6o, e6g⟩ := hW
          obtain ⟨rfl, rfl⟩ := hy
          rw [Int.toNat_natCast] at hj
          refine ⟨_, rfl, .ref o, (ownL (l.getD i 0)).length, rfl, .inl ⟨_, SqL.of e6o, by rw [List.length_map]⟩, _, rfl, ?_, ?_, ?_⟩
          · rw [ownL_length]
            omega
          · rw [ownL_length]
            omega
          refine for_it walk_r0 (fun t σ H7 => ∃ y10, σ = [some (.ref a), some (.ref wa), some (.int ((l.getD i 0 : Nat) : Int)), none, none, none, some (.ref o), some (.int (j : Nat)), some (.ref g), none, y10] ∧ Same H H7 ∧ H7 wa = some (.lst (wl.map V.int)) ∧
              H7 o = some (.lst ((ownL (l.getD i 0)).map V.int)) ∧ H7 g = some (.lst ((addRow (ownL (l.getD i 0)) j (wl.getD j 0) (addRows wl (ownL (l.getD i 0)) (List.replicate (wl.length + ((ownL (l.getD i 0)).length - 1)) 0) j) t).map V.int)))
            ⟨u10, rfl, m6, e6w, e6o, e6g⟩ (fun _ _ _ _ _ => trivial) (fun t x σ H7 H8 ht hW hy => ?_) (fun σ H7 hW => ?_)
          · obtain ⟨v10, rfl, m7, e7w, e7o, e7g⟩ := hW
            obtain ⟨rfl, rfl⟩ := hy
            rw [Int.toNat_natCast] at ht
            have hjt : j + t < (addRow (ownL (l.getD i 0)) j (wl.getD j 0) (addRows wl (ownL (l.getD i 0)) (List.replicate (wl.length + ((ownL (l.getD i 0)).length - 1)) 0) j) t).length := by
              rw [addRow_length, addRows_length, List.length_replicate]
              omega
            have ejt : ((j : Nat) : Int) + (t : Nat) = ((j + t : Nat) : Int) := by omega
            refine ⟨_, rfl, _, rfl, _, rfl, _, _, rfl, rfl, g, _, _, _, rfl, rfl, SqL.of e7g, igetE ejt hjt, _, rfl, _, rfl, wa, _, _, _, rfl, rfl, SqL.of e7w, iget hj, _, rfl, _, rfl, o, _, _, _, rfl, rfl, SqL.of e7o, iget ht, _, _, rfl, rfl, ?_, _, _, rfl, rfl, ?_⟩
            · rw [← ew]
              exact wide_mul (ways_small h4 (by omega) j) (own_small hs4 t) (by decide) (by decide) (by decide)
            · refine ⟨_, rfl, _, rfl, _, rfl, _, _, rfl, rfl, g, _, _, j + t, rfl, rfl, e7g, ?_, ?_⟩
              · rw [List.length_map]
                exact ixNE ejt hjt
              · refine ⟨_, rfl, same_set m7 ngH, ?_, ?_, ?_⟩
                · rw [upd_ne (Ne.symm ngwa)]
                  exact e7w
                · rw [upd_ne (Ne.symm ngo)]
                  exact e7o
                · rw [upd_same, addAt_V]
                  rfl
          · obtain ⟨v10, rfl, m7, e7w, e7o, e7g⟩ := hW
            rw [Int.toNat_natCast] at e7g
            exact ⟨_, _, rfl, m7, e7w, e7o, e7g⟩
        · obtain ⟨u7, u10, rfl, m6, e6w, e6o, e6g⟩ := hW
          rw [Int.toNat_natCast] at e6g
          refine ⟨_, rfl, _, _, _, _, _, g, rfl, m6, ?_⟩
          rw [e6g]
          show _ = some (HO.lst ((mulL (waysL l i) (ownL (l.getD i 0))).map V.int))
          rw [ew]
          rfl
    · obtain ⟨y2, y6, y7, y8, y10, wa, rfl, sm, ewa⟩ := hW
      rw [nV_len] at ewa
      have hwl : (waysL l l.length).length = l.sum + 1 := by
        rw [waysL_length l (Nat.le_refl _), List.take_length]
      have et := tot_is l
      refine ⟨_, rfl, .ref wa, (waysL l l.length).length, rfl, .inl ⟨_, SqL.of ewa, by rw [List.length_map]⟩, _, rfl, by omega, by omega, ?_⟩
      have hsm := fun n => ways_small h4 (Nat.le_refl l.length) n
      generalize waysL l l.length = wl at *
      refine for_it walk_r0 (fun i σ H4 => ∃ y5 y9, σ = [some (.ref a), some (.ref wa), y2, some (.int (totL wl i)), some (.int ((fa i : Nat) : Int)), y5, y6, y7, y8, y9, y10] ∧ Same H H4 ∧ H4 wa = some (.lst (wl.map V.int)))
        ⟨none, none, rfl, sm, ewa⟩ (fun _ _ _ _ _ => trivial) (fun i x σ H4 H5 hi hW hy => ?_) (fun σ H4 hW => ?_)
      · obtain ⟨y5, y9, rfl, sm4, ew4⟩ := hW
        obtain ⟨rfl, rfl⟩ := hy
        rw [Int.toNat_natCast] at hi
        refine ⟨_, rfl, .ref wa, wl.length, rfl, .inl ⟨_, SqL.of ew4, by rw [List.length_map]⟩, _, _, rfl, rfl, _, rfl, _, _, rfl, rfl, ?_⟩
        have en : ((wl.length : Nat) : Int) - 1 - (i : Nat) = ((wl.length - 1 - i : Nat) : Int) := by omega
        have hn : wl.length - 1 - i < wl.length := by omega
        have tot : totL wl (i + 1) = totL wl i + sg (wl.length - 1 - i) * wl.getD (wl.length - 1 - i) 0 * ((fa i : Nat) : Int) := rfl
        generalize hN : wl.length - 1 - i = N at *
        have hsg : sg N = 1 ∨ sg N = -1 := by
          by_cases hpar : N % 2 = 0
          · exact .inl (sg_even hpar)
          · exact .inr (sg_odd (by omega))
        have hat : atI [V.int 1, .int (-1)] ((((wl.length : Nat) : Int) - 1 - (i : Nat)) % 2) = some (.int (sg N)) := by
          by_cases hpar : N % 2 = 0
          · rw [show (((wl.length : Nat) : Int) - 1 - (i : Nat)) % 2 = 0 by omega, sg_even hpar]
            rfl
          · rw [show (((wl.length : Nat) : Int) - 1 - (i : Nat)) % 2 = 1 by omega, sg_odd (by omega)]
            rfl
        have hmul : CMulW (sg N * wl.getD N 0) ((fa i : Nat) : Int) := by
          refine wide_mul (a := 4500) ?_ (fa_small (by omega)) (by decide) (by decide) (by decide)
          have h0 := hsm N
          rcases hsg with e | e
          · rw [e, Int.one_mul]
            exact h0
          · rw [e, Int.neg_one_mul, Int.natAbs_neg]
            exact h0
        refine ⟨_, rfl, 1, rfl, line1 (Nat.le_add_left 2 999998), fun c nc => ?_⟩
        have s5 : Same H5 (upd H5 c (.lst [.int 1, .int (-1)])) := same_upd (Same.refl _) nc
        refine ⟨_, rfl, .inl ⟨_, rfl, _, _, rfl, rfl, (by decide : (0 : Int) < 2), c, _, _, _, rfl, rfl, SqL.of upd_same, hat, _, rfl, _, rfl, wa, _, _, _, rfl, rfl, SqL.of (s5 _ _ ew4), igetE en hn, _, _, rfl, rfl, .inl (by rcases hsg with e | e <;> rw [e] <;> exact ⟨by decide, by decide⟩), _, rfl, _, _, rfl, rfl, hmul, _, _, rfl, rfl, ?_⟩⟩
        refine ⟨_, rfl, _, rfl, _, _, rfl, rfl, _, _, rfl, rfl, .inr ⟨by omega, by omega⟩, some (.int (i : Nat)), some (.int (((wl.length : Nat) : Int) - 1 - (i : Nat))), ?_, sm4.trans s5, s5 _ _ ew4⟩
        have e : ((fa (i + 1) : Nat) : Int) = ((fa i : Nat) : Int) * (((i : Nat) : Int) + 1) := by
          show (((i + 1) * fa i : Nat) : Int) = _
          rw [Int.natCast_mul, Int.mul_comm]
          rfl
        rw [tot, e]
        rfl
      · obtain ⟨y5, y9, rfl, sm4, ew4⟩ := hW
        rw [Int.toNat_natCast]
        refine ⟨_, rfl, ?_⟩
        rw [et]
        exact q H4 sm4
end
end Fo

/-! all dealings, listed; rows of kinds. -/
namespace Fo
open PySem PySem.Spec PyProof.Rows L2
theorem paired_snoc {α β : Type} {F : α → β → Prop} {a : α} {b : β} : ∀ {l : List α} {m : List β}, Paired F l m → F a b → Paired F (l ++ [a]) (m ++ [b])
  | _, _, .nil, h => .cons h .nil
  | _, _, .cons x r, h => .cons x (paired_snoc r h)
theorem paired_app {α β : Type} {F : α → β → Prop} {l' : List α} {m' : List β} : ∀ {l : List α} {m : List β}, Paired F l m → Paired F l' m' → Paired F (l ++ l') (m ++ m')
  | _, _, .nil, h => h
  | _, _, .cons x r, h => .cons x (paired_app r h)
theorem paired_map {α β γ : Type} {F : α → γ → Prop} (f : β → γ) : ∀ {l : List α} {m : List β}, Paired (fun a b => F a (f b)) l m → Paired F l (m.map f)
  | _, _, .nil => .nil
  | _, _, .cons x r => .cons x (paired_map f r)
theorem paired_len {α β : Type} {F : α → β → Prop} : ∀ {l : List α} {m : List β}, Paired F l m → l.length = m.length
  | _, _, .nil => rfl
  | _, _, .cons _ r => by rw [List.length_cons, List.length_cons, paired_len r]
/-- the tuples of a list of lists -/
def Tups (H : Hp) (ps : List Addr) (bs : List (List Nat)) : Prop := Paired (fun p b => H p = some (.tup (nV b))) ps bs
theorem Tups.same {H H' : Hp} {ps : List Addr} {bs : List (List Nat)} (h : Tups H ps bs) (s : Same H H') : Tups H' ps bs := L2.Paired.mapP h fun _ _ e => s _ _ e
theorem Tups.wr {H : Hp} {ps : List Addr} {bs : List (List Nat)} (h : Tups H ps bs) {g : Addr} {xs : List V} {o : HO} (e : H g = some (.lst xs)) : Tups (upd H g o) ps bs := L2.Paired.mapP h fun _ _ ep => by
  rw [upd_ne (ne_of ep e (fun z => nomatch z))]
  exact ep
theorem Tups.get {H : Hp} {ps : List Addr} {bs : List (List Nat)} (h : Tups H ps bs) {i : Nat} (hi : i < bs.length) : ∃ p, ps[i]? = some p ∧ H p = some (.tup (nV (bs.getD i []))) := by
  have hl := paired_len h
  have e : ps[i]? = some ps[i] := List.getElem?_eq_getElem (by omega)
  obtain ⟨b, hb, f⟩ := L2.paired_get h e
  refine ⟨ps[i], e, ?_⟩
  rw [List.getD_eq_getElem?_getD, hb]
  exact f
theorem none_of {H H' : Hp} {g : Addr} (s : Same H H') (h : H' g = none) : H g = none := by
  cases e : H g with
  | none => rfl
  | some v =>
    have := s _ _ e
    rw [h] at this
    cases this
theorem inV_nV (x : Nat) : ∀ l : List Nat, inV (.int (x : Int)) (nV l) = l.contains x
  | [] => rfl
  | y :: r => by
    have ih := inV_nV x r
    unfold inV at ih ⊢
    show (eqV (.int (y : Int)) (.int (x : Int)) || (nV r).any _) = _
    rw [ih, List.contains_cons]
    congr 1
    show ((y : Int) == (x : Int)) = (x == y)
    by_cases h : x = y
    · rw [h]
      simp
    · have h1 : ((y : Int) == (x : Int)) = false := beq_eq_false_iff_ne.mpr (by omega)
      have h2 : (x == y) = false := beq_eq_false_iff_ne.mpr h
      rw [h1, h2]
theorem flat_nV (l : List Nat) : (nV l).all flatV = true := by
  unfold nV
  rw [List.all_map]
  exact List.all_eq_true.mpr fun _ _ => rfl
theorem step_app (a b : List (List Nat)) (r : List Nat) : stepAll (a ++ b) r = stepAll a r ++ stepAll b r := by
  unfold stepAll
  rw [List.flatMap_append]
theorem step_len : ∀ (a : List (List Nat)) (r : List Nat), r.length ≤ 6 → (stepAll a r).length ≤ 6 * a.length
  | [], r, _ => by
    show 0 ≤ _
    exact Nat.zero_le _
  | t :: q, r, h => by
    have ih := step_len q r h
    show (((r.filter fun x => !t.contains x).map fun x => t ++ [x]) ++ stepAll q r).length ≤ _
    rw [List.length_append, List.length_map, List.length_cons]
    have := List.length_filter_le (fun x => !t.contains x) r
    omega
theorem fold_take (rows : List (List Nat)) (i : Nat) (hi : i < rows.length) : (rows.take (i + 1)).foldl stepAll [[]] = stepAll ((rows.take i).foldl stepAll [[]]) (rows.getD i []) := by
  have e2 : rows.take (i + 1) = rows.take i ++ [rows.getD i []] := by
    rw [List.take_succ, List.getD_eq_getElem?_getD, List.getElem?_eq_getElem hi]
    rfl
  rw [e2, List.foldl_append]
  rfl
theorem fold_len (rows : List (List Nat)) (h : ∀ b ∈ rows, b.length ≤ 6) : ∀ i, i ≤ rows.length → ((rows.take i).foldl stepAll [[]]).length ≤ 6 ^ i
  | 0, _ => Nat.le_refl _
  | i + 1, hi => by
    have ih := fold_len rows h i (by omega)
    rw [fold_take rows i (by omega)]
    have hb : (rows.getD i []).length ≤ 6 := h _ (List.mem_of_getElem? (by rw [List.getD_eq_getElem?_getD, List.getElem?_eq_getElem (show i < rows.length by omega)]; rfl))
    have := step_len ((rows.take i).foldl stepAll [[]]) (rows.getD i []) hb
    rw [Nat.pow_succ]
    omega
theorem step_item {n : Nat} {a : List (List Nat)} {r : List Nat} (h : ∀ t ∈ a, t.length = n) : ∀ t ∈ stepAll a r, t.length = n + 1 := fun b hb => by
  unfold stepAll at hb
  obtain ⟨t, ht, hb⟩ := List.mem_flatMap.mp hb
  obtain ⟨x, _, rfl⟩ := List.mem_map.mp hb
  rw [List.length_append, h t ht]
  rfl
theorem fold_item (rows : List (List Nat)) : ∀ i, i ≤ rows.length → ∀ t ∈ (rows.take i).foldl stepAll [[]], t.length = i
  | 0, _ => fun t ht => by
    have e : t = [] := by simpa using ht
    rw [e]
    rfl
  | i + 1, hi => by
    rw [fold_take rows i (by omega)]
    exact step_item (fold_item rows i (by omega))
theorem paired_mem {α β : Type} {F : α → β → Prop} {G : β → Prop} : ∀ {l : List α} {m : List β}, Paired F l m → (∀ b ∈ m, G b) → Paired (fun a b => F a b ∧ G b) l m
  | _, _, .nil, _ => .nil
  | _, _, .cons x r, h => .cons ⟨x, h _ List.mem_cons_self⟩ (paired_mem r fun b hb => h b (List.mem_cons_of_mem _ hb))
theorem step_ne (a : List (List Nat)) (r b : List Nat) (h : b ∈ stepAll a r) : b ≠ [] := by
  unfold stepAll at h
  obtain ⟨t, _, h⟩ := List.mem_flatMap.mp h
  obtain ⟨x, _, rfl⟩ := List.mem_map.mp h
  simp
section
variable {K : PySem.W.Frag} {X : Cx}
theorem op_inK (K : PySem.W.Frag) (h : X.K = K) : OpR X (compareOp .In) (rIn K false) := h ▸ op_in_seq
theorem op_notInK (K : PySem.W.Frag) (h : X.K = K) : OpR X (compareOp .NotIn) (rIn K true) := h ▸ op_notIn_seq
theorem op_catAK (K : PySem.W.Frag) (h : X.K = K) : OpR X (binaryOp .Add) (rCatA K) := h ▸ op_catA
end
section
variable {P : Program} {w : World} {K : PySem.W.Frag} {mg : Str → Option Value} {base : Heap}
def spAll : Sp := fun vs H Q _ => ∃ (r : Addr) (qs : List Addr) (rows : List (List Nat)), vs = [.ref r] ∧ H r = some (.tup (qs.map V.ref)) ∧ Tups H qs rows ∧ 1 ≤ rows.length ∧ rows.length ≤ 6 ∧ (∀ b ∈ rows, b.length ≤ 6) ∧
  ∀ H' p ys, Same H H' → H' p = some (.lst ys) → ys.length = (allL rows).length → Q (.ref p) H'
theorem ok_l_all (T : Tx K mg) : FnOk P w K mg base CX0 2 T.l_all.f T.l_all.d ["_law_rows"] spAll := by
  refine T.l_all.F.ok sc_l_all (fun vs H Q E h => ?_) (fun cdv A outer s H vs Q E hr h => ?_)
  · obtain ⟨r, qs, rows, rfl, _⟩ := h
    rfl
  · obtain ⟨r, qs, rows, rfl, hrt, hT, hr1, hr6, hb6, q⟩ := h
    have nd := sc_l_all.nd
    have hu : (A.deeper (envOfC "_law_all" (defScope s_l_all) s.heap.objs.size T.l_all.f cdv)).units + 64 < cLine := by
      have := hr.un
      omega
    refine ⟨_, pss_cons (ps_set (i := 1) nd rfl (.inl rfl) (pe_lst (pa_cons (pe_tup pa_nil) pa_nil))) <|
      pss_cons (ps_for PassesOwn.never rfl (pi_tup (pv 0)) (pg_name (i := 2) nd rfl (.inl rfl))
        (pss_cons (ps_set (i := 3) nd rfl (.inl rfl) (pe_lst pa_nil)) <|
         pss_cons (ps_for PassesOwn.never rfl (pi_list (pv 1)) (pg_name (i := 4) nd rfl (.inr rfl))
           (pss_one (ps_expr (pe_bm PySem.F.plainAttrs_list PySem.F.slot_list_extend PySem.F.type_list_extend mt_extend (pv 3)
             (pa_cons (pe_lc (own := [("_law_thing", 5)]) (g := gName 5) rfl nd (pi_tup (pv 2)) (blkOk_by (N := N_l_all) (sc := defScope s_l_all) (by decide +kernel))
               (fun _ _ _ _ _ => pg_name (i := 5) nd rfl (Or.inl rfl)) (fun _ _ _ _ _ => pts_one (pt_cmpR (op_notInK K rfl) (pv 5) (pv 4) rfl))
               (fun _ _ _ _ _ => pe_op (op_catAK K rfl) (pv 4) (pe_tup (pa_cons (pv 5) pa_nil)))) pa_nil))))) <|
         pss_one (ps_set (i := 1) nd rfl (.inl rfl) (pv 3)))) <|
      pss_one (ps_ret (pe_callB (cr_sortedTu hu) (by rfl) T.z_sorted (by decide +kernel) (pa_cons (pv 1) pa_nil))), ?_⟩
    refine ⟨line1 (Nat.zero_le _), fun c nc => ⟨line1 (Nat.le_add_left 1 999999), fun f0 nf0 => ?_⟩⟩
    have s1 : Same H (upd (upd H c (.tup [])) f0 (.lst [.ref c])) := same_upd (same_upd (Same.refl _) nc) nf0
    have ef0 : (upd (upd H c (.tup [])) f0 (.lst [.ref c])) f0 = some (.lst [.ref c]) := upd_same
    have ec0 : (upd (upd H c (.tup [])) f0 (.lst [.ref c])) c = some (.tup []) := same_upd (Same.refl _) nf0 _ _ upd_same
    refine ⟨_, rfl, r, rfl, ⟨_, SqT.of (s1 _ _ hrt)⟩, ?_⟩
    have hlen := paired_len hT
    have hfl := fold_len rows hb6
    refine for_it (walk_tup (xs := qs.map V.ref)) (fun i σ H3 => ∃ y2 y3 y4 f ps, σ = [some (.ref r), some (.ref f), y2, y3, y4, none] ∧ Same H H3 ∧ H3 f = some (.lst (ps.map V.ref)) ∧ Tups H3 ps ((rows.take i).foldl stepAll [[]]))
      ⟨none, none, none, f0, [c], rfl, s1, ef0, .cons ec0 .nil⟩ (fun i σ H3 _ hW => ?_) (fun i x σ H3 H4 hi hW hy => ?_) (fun σ H3 hW => ?_)
    · obtain ⟨_, _, _, _, _, _, sm, _⟩ := hW
      exact SqT.of (sm _ _ hrt)
    · obtain ⟨y2, y3, y4, f, ps, rfl, sm, ef, hps⟩ := hW
      obtain ⟨rfl, hx⟩ := hy
      rw [List.length_map, hlen] at hi
      obtain ⟨b, eb, hbt⟩ := (hT.same sm).get hi
      rw [List.getElem?_map, eb] at hx
      obtain rfl : x = .ref b := (Option.some.inj hx).symm
      have hbl : (rows.getD i []).length ≤ 6 := hb6 _ (List.mem_of_getElem? (by rw [List.getD_eq_getElem?_getD, List.getElem?_eq_getElem hi]; rfl))
      have hfi := hfl i (by omega)
      have h6i : 6 ^ i ≤ 6 ^ 6 := Nat.pow_le_pow_right (by decide) (by omega)
      have hft := fold_take rows i hi
      have hfit := fold_item rows i (by omega)
      generalize rows.getD i [] = rb at *
      generalize (rows.take i).foldl stepAll [[]] = L at *
      have hL : L.length ≤ 46656 := Nat.le_trans hfi h6i
      -- longer
      refine ⟨line1 (Nat.zero_le _), fun g ng => ?_⟩
      have s5 : Same H4 (upd H4 g (.lst [])) := same_upd (Same.refl _) ng
      have ngH := none_of sm ng
      have eg5 : (upd H4 g (.lst [])) g = some (.lst []) := upd_same
      have ngf : g ≠ f := ne_new ef ng
      refine ⟨_, rfl, f, rfl, ⟨_, SqL.of (s5 _ _ ef)⟩, ?_⟩
      refine for_it (walk_list (xs := ps.map V.ref)) (fun j σ H5 => ∃ y4 ps2, σ = [some (.ref r), some (.ref f), some (.ref b), some (.ref g), y4, none] ∧ Same H H5 ∧ H5 f = some (.lst (ps.map V.ref)) ∧ Tups H5 ps L ∧ H5 b = some (.tup (nV rb)) ∧ H5 g = some (.lst (ps2.map V.ref)) ∧ Tups H5 ps2 (stepAll (L.take j) rb))
        ⟨y4, [], rfl, sm.trans s5, s5 _ _ ef, hps.same s5, s5 _ _ hbt, eg5, .nil⟩ (fun j σ H5 _ hW => ?_) (fun j x σ H5 H6 hj hW hy => ?_) (fun σ H5 hW => ?_)
      · obtain ⟨_, _, _, _, e, _⟩ := hW
        exact SqL.of e
      · obtain ⟨z4, ps2, rfl, sm5, ef5, hps5, eb5, eg5, hp2⟩ := hW
        obtain ⟨rfl, hx⟩ := hy
        have hpl := paired_len hps5
        rw [List.length_map, hpl] at hj
        obtain ⟨tp, etp, ht⟩ := hps5.get hj
        rw [List.getElem?_map, etp] at hx
        obtain rfl : x = .ref tp := (Option.some.inj hx).symm
        have etk : stepAll (L.take (j + 1)) rb = stepAll (L.take j) rb ++ ((rb.filter fun x => !(L.getD j []).contains x).map fun x => L.getD j [] ++ [x]) := by
          have e2 : L.take (j + 1) = L.take j ++ [L.getD j []] := by
            rw [List.take_succ, List.getD_eq_getElem?_getD, List.getElem?_eq_getElem hj]
            rfl
          rw [e2, step_app]
          congr 1
          show ((rb.filter fun x => !(L.getD j []).contains x).map fun x => L.getD j [] ++ [x]) ++ [] = _
          rw [List.append_nil]
        have htl : (L.getD j []).length ≤ 100 := by
          have := hfit (L.getD j []) (List.mem_of_getElem? (by rw [List.getD_eq_getElem?_getD, List.getElem?_eq_getElem hj]; rfl))
          omega
        generalize L.getD j [] = t at *
        have hsl := step_len (L.take j) rb hbl
        have htk : (L.take j).length ≤ L.length := by
          rw [List.length_take]
          exact Nat.min_le_right _ _
        have hp2l := paired_len hp2
        refine ⟨_, rfl, .inl ⟨rfl, _, SqL.of eg5⟩, _, rfl, b, rfl, ⟨_, SqT.of eb5⟩, fun D hD => ?_⟩
        have nDg : D ≠ g := ne_new eg5 hD
        refine lc_it (walk_tup (xs := nV rb)) (fun k H7 => Same H6 H7 ∧ ∃ ps3 : List Addr, H7 D = some (.lst (ps3.map V.ref)) ∧ Tups H7 ps3 (((rb.take k).filter fun x => !t.contains x).map fun x => t ++ [x]))
          ⟨same_upd (Same.refl _) hD, [], upd_same, .nil⟩ (fun k H7 _ hP => SqT.of (hP.1 _ _ eb5)) (fun k x H7 H8 hk hP hy => ?_) (fun H7 hP => ?_)
        · obtain ⟨rfl, hx⟩ := hy
          obtain ⟨s7, ps3, eD, hp3⟩ := hP
          rw [nV_len] at hk
          rw [nV_get hk] at hx
          obtain rfl : x = .int ((rb.getD k 0 : Nat) : Int) := (Option.some.inj hx).symm
          have etk2 : (rb.take (k + 1)).filter (fun x => !t.contains x) = (rb.take k).filter (fun x => !t.contains x) ++ (if (!t.contains (rb.getD k 0)) = true then [rb.getD k 0] else []) := by
            have e2 : rb.take (k + 1) = rb.take k ++ [rb.getD k 0] := by
              rw [List.take_succ, List.getD_eq_getElem?_getD, List.getElem?_eq_getElem hk]
              rfl
            rw [e2, List.filter_append]
            congr 1
            rw [List.filter_cons]
            rfl
          generalize rb.getD k 0 = xk at *
          have hp3l := paired_len hp3
          have hfl2 : (((rb.take k).filter fun x => !t.contains x).map fun x => t ++ [x]).length ≤ 6 := by
            rw [List.length_map]
            have h1 := List.length_filter_le (fun x => !t.contains x) (rb.take k)
            have h2 : (rb.take k).length ≤ rb.length := by
              rw [List.length_take]
              exact Nat.min_le_right _ _
            omega
          refine ⟨rfl, _, rfl, _, rfl, tp, _, rfl, .inr (SqT.of (s7 _ _ ht)), rfl, flat_nV t, _, rfl, ?_⟩
          rw [show (if true = true then !inV (V.int ((xk : Nat) : Int)) (nV t) else inV (V.int ((xk : Nat) : Int)) (nV t)) = !t.contains xk by rw [if_pos rfl, inV_nV]]
          cases hc : t.contains xk with
          | true =>
            refine iteF ⟨s7, ps3, eD, ?_⟩
            rw [etk2, hc, if_neg (by decide), List.append_nil]
            exact hp3
          | false =>
            refine iteT ⟨_, rfl, _, rfl, line1 (Nat.le_add_left 1 999999), fun d ndd => ?_⟩
            have s8 : Same H8 (upd H8 d (.tup [.int ((xk : Nat) : Int)])) := same_upd (Same.refl _) ndd
            refine cat_use (s8 _ _ (s7 _ _ ht)) upd_same ?_ fun pn H9 s9 e9 => ?_
            · refine line1 ?_
              rw [nV_len]
              show _ + 1 ≤ _
              omega
            · have s89 := s8.trans s9
              have eD9 := s89 _ _ eD
              refine ⟨_, eD9, ?_, same_set (s7.trans s89) hD, ps3 ++ [pn], ?_, ?_⟩
              · rw [List.length_map, hp3l, sizeLine_eq]
                omega
              · rw [upd_same, List.map_append]
                rfl
              · rw [etk2, hc, if_pos (by decide), List.map_append]
                refine paired_app ((hp3.same s89).wr eD9) (.cons ?_ .nil)
                rw [upd_ne (ne_of e9 eD9 (fun z => nomatch z)), e9]
                unfold nV
                rw [List.map_append]
                rfl
        · obtain ⟨s7, ps3, eD, hp3⟩ := hP
          rw [nV_len, List.take_length] at hp3
          have hp3l := paired_len hp3
          have hfl2 : ((rb.filter fun x => !t.contains x).map fun x => t ++ [x]).length ≤ 6 := by
            rw [List.length_map]
            have h1 := List.length_filter_le (fun x => !t.contains x) rb
            omega
          have eg7 := s7 _ _ eg5
          refine ⟨g, D, _, _, rfl, rfl, eg7, eD, ?_, ?_⟩
          · rw [List.length_map, List.length_map]
            exact line1 (by omega)
          · refine ⟨_, ps2 ++ ps3, rfl, same_set (sm5.trans s7) ngH, ?_, (hps5.same s7).wr eg7, ?_, ?_, ?_⟩
            · rw [upd_ne (Ne.symm ngf)]
              exact s7 _ _ ef5
            · rw [upd_ne (ne_of (s7 _ _ eb5) eg7 (fun z => nomatch z))]
              exact s7 _ _ eb5
            · rw [upd_same, List.map_append]
            · rw [etk]
              exact paired_app ((hp2.same s7).wr eg7) (hp3.wr eg7)
      · obtain ⟨z4, ps2, rfl, sm5, ef5, hps5, eb5, eg5, hp2⟩ := hW
        have hpl := paired_len hps5
        rw [List.length_map, hpl, List.take_length] at hp2
        exact ⟨_, rfl, _, _, _, g, ps2, rfl, sm5, eg5, by rw [hft]; exact hp2⟩
    · obtain ⟨y2, y3, y4, f, ps, rfl, sm, ef, hps⟩ := hW
      rw [List.length_map, hlen, List.take_length] at hps
      have hpl := paired_len hps
      refine ⟨_, rfl, f, ps, (allL rows).map nI, rfl, SqL.of ef, ?_, fun ys lp hy nl => q _ lp ys (same_upd sm nl) upd_same (by rw [hy, hpl]; rfl)⟩
      have hne : ∀ b ∈ allL rows, b ≠ [] := fun b hb => by
        have e := fold_take rows (rows.length - 1) (by omega)
        rw [show rows.length - 1 + 1 = rows.length by omega, List.take_length] at e
        have hb : b ∈ rows.foldl stepAll [[]] := hb
        rw [e] at hb
        exact step_ne _ _ _ hb
      refine paired_map nI (L2.Paired.mapP (paired_mem hps hne) fun p b h => ⟨by rw [h.1, nV_int]; rfl, fun z => h.2 ?_⟩)
      exact List.map_eq_nil_iff.mp z
end
end Fo

/-! rows of kinds. -/
namespace Fo
open PySem PySem.Spec PyProof.Rows L2
section
variable {P : Program} {w : World} {K : PySem.W.Frag} {mg : Str → Option Value} {base : Heap}
/-- rows: the other families of each -/
def Oths (H : Hp) (al : Addr) (n : Nat) : Prop := ∃ rs : List Addr, H al = some (.tup (rs.map V.ref)) ∧ ∀ i, i < n → ∃ r, rs[i]? = some r ∧ H r = some (.tup (nV (oth n i)))
theorem Oths.same {H H' : Hp} {al : Addr} {n : Nat} (h : Oths H al n) (s : Same H H') : Oths H' al n := by
  obtain ⟨rs, e, f⟩ := h
  refine ⟨rs, s _ _ e, fun i hi => ?_⟩
  obtain ⟨r, e1, e2⟩ := f i hi
  exact ⟨r, e1, s _ _ e2⟩
theorem oth_has {n k x : Nat} (hx : x < n) : (oth n k).contains x = (x != k) := by
  unfold oth
  cases h : (x != k) with
  | true => exact List.contains_iff_mem.mpr (List.mem_filter.mpr ⟨List.mem_range.mpr hx, h⟩)
  | false =>
    cases hc : ((List.range n).filter fun i => i != k).contains x with
    | false => rfl
    | true =>
      have := (List.mem_filter.mp (List.contains_iff_mem.mp hc)).2
      rw [h] at this
      cases this
def spKR : Sp := fun vs H Q _ => ∃ (a al : Addr) (l : List Nat), vs = [.ref a, .ref a, .ref al] ∧ H a = some (.tup (nV l)) ∧ l.sum ≤ 6 ∧ l.length ≤ 6 ∧ Oths H al l.length ∧ ∀ H' r qs, Same H H' → H' r = some (.tup (qs.map V.ref)) → Tups H' qs (rowsL l) → Q (.ref r) H'
theorem ok_l_kind_rows (T : Tx K mg) : FnOk P w K mg base CX0 2 T.l_kind_rows.f T.l_kind_rows.d ["_law_people", "_law_things", "_law_allowed"] spKR := by
  refine T.l_kind_rows.F.ok sc_l_kind_rows (fun vs H Q E h => ?_) (fun cdv A outer s H vs Q E hr h => ?_)
  · obtain ⟨a, al, l, rfl, _⟩ := h
    rfl
  · obtain ⟨a, al, l, rfl, ha, hs6, hl6, hO, q⟩ := h
    have nd := sc_l_kind_rows.nd
    refine ⟨_, pss_cons (ps_set (i := 3) nd rfl (.inr rfl) (pe_call (ok_l_wide T) hr (by rfl) T.l_wide.g T.l_wide.F.kp T.l_wide.b .nil pass0 (pa_cons (pv 1) pa_nil))) <|
      pss_one (ps_ret (pe_tupleOf (by rfl) T.z_tuple
        (pe_lc (own := [("_law_kind", 4)]) (g := gName 4) (tt := tYes) rfl nd (pi_list (pe_call (ok_l_wide T) hr (by rfl) T.l_wide.g T.l_wide.F.kp T.l_wide.b .nil pass0 (pa_cons (pv 0) pa_nil))) (blkOk_by (N := N_l_kind_rows) (sc := defScope s_l_kind_rows) (by decide +kernel))
          (fun _ _ _ _ _ => pg_name (i := 4) nd rfl (Or.inr rfl)) (fun _ _ _ _ _ => pts_nil)
          (fun _ _ _ _ _ => pe_tupleOfK K rfl (by rfl) T.z_tuple (pe_lc (own := [("_law_k", 5)]) (g := gName 5) rfl nd (pi_range1 (by rfl) T.z_range (pa_cons (pe_callB (call_lenK K rfl) (by rfl) T.z_len (by decide +kernel) (pa_cons (pv 3) pa_nil)) pa_nil))
            (blkOk_by (N := N_l_kind_rows) (sc := relS (lcS (argN 0 (retE (bodyN s_l_kind_rows 1)))) (defScope s_l_kind_rows)) (by decide +kernel))
            (fun _ _ _ _ _ => pg_name (i := 5) nd rfl (Or.inl rfl)) (fun _ _ _ _ _ => pts_one (pt_cmpR (op_inK K rfl) (pe_ix (ix_listK K rfl) (pv 3) (pv 5) (fun _ _ => rfl)) (pe_ix (ix_tupK K rfl) (pv 2) (pv 4) (fun _ _ => rfl)) rfl))
            (fun _ _ _ _ _ => pv 5)))))), ?_⟩
    refine ⟨_, rfl, a, l, rfl, ha, by omega, by omega, fun H1 wp s1 ew => ?_⟩
    refine ⟨_, rfl, a, l, rfl, s1 _ _ ha, by omega, by omega, fun H2 vp s2 ev => ?_⟩
    have ew2 := s2 _ _ ew
    have s02 := s1.trans s2
    have hwl : (wide 0 l).length = l.sum := wide_length 0 l
    refine ⟨vp, rfl, ⟨_, SqL.of ev⟩, fun D hD => ?_⟩
    refine lc_it (walk_list (K := K) (a := vp) (xs := nV (wide 0 l))) (fun i H3 => Same H2 H3 ∧ ∃ qs : List Addr, H3 D = some (.lst (qs.map V.ref)) ∧ Tups H3 qs (((wide 0 l).take i).map (rowOf (wide 0 l))))
      ⟨same_upd (Same.refl _) hD, [], upd_same, .nil⟩ (fun i H3 _ hP => SqL.of (hP.1 _ _ ev)) (fun i x H3 H4 hi hP hy => ?_) (fun H3 hP => ?_)
    · obtain ⟨rfl, hx⟩ := hy
      obtain ⟨s3, qs, eD, hq⟩ := hP
      rw [nV_len] at hi
      rw [nV_get hi] at hx
      obtain rfl : x = .int (((wide 0 l).getD i 0 : Nat) : Int) := (Option.some.inj hx).symm
      have etk : ((wide 0 l).take (i + 1)).map (rowOf (wide 0 l)) = ((wide 0 l).take i).map (rowOf (wide 0 l)) ++ [rowOf (wide 0 l) ((wide 0 l).getD i 0)] := by
        have e2 : (wide 0 l).take (i + 1) = (wide 0 l).take i ++ [(wide 0 l).getD i 0] := by
          rw [List.take_succ, List.getD_eq_getElem?_getD, List.getElem?_eq_getElem hi]
          rfl
        rw [e2, List.map_append]
        rfl
      have hk := (wide_ge 0 l _ (getD_mem hi)).2
      generalize (wide 0 l).getD i 0 = kd at *
      have hk : kd < l.length := by omega
      have hql := paired_len hq
      rw [List.length_map] at hql
      have htk : ((wide 0 l).take i).length ≤ 6 := by
        rw [List.length_take]
        omega
      obtain ⟨rs, eal, hrow⟩ := hO.same (s02.trans s3)
      obtain ⟨ro, ero, ert⟩ := hrow kd hk
      have ew4 := s3 _ _ ew2
      refine ⟨rfl, ?_⟩
      refine ⟨_, rfl, .ref wp, (wide 0 l).length, rfl, .inl ⟨_, SqL.of ew4, (nV_len _).symm⟩, _, rfl, by omega, by omega, fun D2 hD2 => ?_⟩
      rw [Int.toNat_natCast]
      refine lc_keep walk_r0 (fun k => (wide 0 l).getD k 0 != kd) (fun k => .int ((k : Nat) : Int)) hD2 (by omega) (fun _ _ => trivial) (fun k y H5 H6 hk2 s5 hDl yy R R' hR hR' => ?_) (fun H5 s5 hl5 => ?_)
      · obtain ⟨rfl, rfl⟩ := yy
        have hkw := (wide_ge 0 l _ (getD_mem hk2)).2
        have gal : atI (rs.map V.ref) ((kd : Nat) : Int) = some (.ref ro) := atI_nat (by rw [List.getElem?_map, ero]; rfl)
        refine ⟨rfl, _, rfl, _, rfl, wp, _, _, _, rfl, rfl, SqL.of (s5 _ _ ew4), atI_nat (nV_get hk2), _, rfl, _, rfl, al, _, _, _, rfl, rfl, SqT.of (s5 _ _ eal), gal, ro, _, rfl, .inr (SqT.of (s5 _ _ ert)), rfl, flat_nV _, _, rfl, ?_⟩
        rw [show (if false = true then !inV (V.int (((wide 0 l).getD k 0 : Nat) : Int)) (nV (oth l.length kd)) else inV (V.int (((wide 0 l).getD k 0 : Nat) : Int)) (nV (oth l.length kd))) = ((wide 0 l).getD k 0 != kd) by rw [if_neg (by decide), inV_nV, oth_has (by omega)]]
        cases hc : ((wide 0 l).getD k 0 != kd) with
        | true => exact iteT ⟨_, rfl, hR hc _ (Same.refl _)⟩
        | false => exact iteF (hR' hc _ (Same.refl _))
      · have hl5 : H5 D2 = some (.lst (nV (rowOf (wide 0 l) kd))) := hl5
        refine .inl ⟨D2, _, rfl, SqL.of hl5, fun r hr3 => ?_⟩
        have s6 := same_upd s5 hr3 (o := .tup (nV (rowOf (wide 0 l) kd)))
        have eD6 := s6 _ _ eD
        have er6 : (upd H5 r (.tup (nV (rowOf (wide 0 l) kd)))) r = some (.tup (nV (rowOf (wide 0 l) kd))) := upd_same
        refine ⟨qs.map V.ref, eD6, ?_, same_set (s3.trans s6) hD, qs ++ [r], ?_, ?_⟩
        · rw [List.length_map, hql, sizeLine_eq]
          omega
        · rw [upd_same, List.map_append]
          rfl
        · rw [etk]
          refine paired_app ((hq.same s6).wr eD6) (.cons ?_ .nil)
          rw [upd_ne (ne_of er6 eD6 (fun z => nomatch z))]
          exact er6
    · obtain ⟨s3, qs, eD, hq⟩ := hP
      rw [nV_len, List.take_length] at hq
      refine .inl ⟨D, _, rfl, SqL.of eD, fun r hr3 => ?_⟩
      have s4 := same_upd (Same.refl H3) hr3 (o := .tup (qs.map V.ref))
      exact q _ r qs ((s02.trans s3).trans s4) upd_same (hq.same s4)
end
end Fo

/-! what is said: the number, or which refusal. -/
namespace Fo
open PySem PySem.Spec PyProof.Rows L2
theorem pe_mostY {P : Program} {K : PySem.W.Frag} {mg : Str → Option Value} {Y : Cx} {a : Addr} {oe : Obj} {cls : Value} {d : Option Addr} {e : Expr} {te : TE} {pos : Pos} (M : TmAt P K mg) (hK : Y.K = K) (hpn : (a, oe) ∈ Y.pn) (hz : Zc cls d oe) (hf : ∃ vs, oe.data = .fields vs) (he : PE Y e te)
    (hb : attributeBase e "most" Y.env (eval e Y.env) = eval e Y.env := by rfl) :
    PE Y (.Attribute e "most" pos) (tMost M.C a cls d te) := by
  subst hK
  refine ⟨fun pins s σ H Q I h => ?_⟩
  refine attr_of hb (thn (he.run pins s σ H _ I h) fun u s1 hh => ?_)
  obtain ⟨x, H1, I1, rx, rfl, rfl, dd, v, rfl, ea, q⟩ := hh
  obtain rfl : u = Value.ref a := rx
  obtain ⟨ha, _⟩ := I1.pin (a, oe) (List.mem_append_left _ hpn)
  obtain ⟨vs, hd⟩ := hf
  obtain ⟨mA, hns, hr⟩ := (show ObjOk Y.prog Y.w H1 s1.heap dd (.xd [(("most" : Str), v)]) from I1.hok dd _ ea)
  obtain ⟨od, ho, hl⟩ := lookIn_ns hns
  have l : List.lookup ("most" : Str) [(("most" : Str), v)] = some v := by simp [List.lookup]
  obtain ⟨u, hu, ru⟩ := RelO.some_of (v := v) (o := mA "most") (by rw [← l]; exact hr "most")
  have J : PySem.W.InstAt s1.heap a oe M.C (some od) := ⟨ha, hz.1, by unfold PySem.W.notCls; rw [hd] <;> rfl, by rw [hz.2]; exact ho⟩
  exact HandSPX.exc_get I1.kIn J M.ga M.gg M.exC (PySem.W.findObj_own M.hdC M.noM rfl (by rw [hl, hu])) (handed_of ru) ⟨v, H1, I1.tok _, ru, q⟩
/-- which except clause takes which exception -/
structure ExF {P : Program} {K : PySem.W.Frag} {mg : Str → Option Value} (T : Tx K mg) (M : TmAt P K mg) where
  e11 : PySem.W.exmOne K (.ref T.NoSizes.C) (.ref T.NoSizes.C) = some true
  e21 : PySem.W.exmOne K (.ref T.NoNumber.C) (.ref T.NoSizes.C) = some false
  e22 : PySem.W.exmOne K (.ref T.NoNumber.C) (.ref T.NoNumber.C) = some true
  e31 : PySem.W.exmOne K (.ref M.C) (.ref T.NoSizes.C) = some false
  e32 : PySem.W.exmOne K (.ref M.C) (.ref T.NoNumber.C) = some false
  e33 : PySem.W.exmOne K (.ref M.C) (.ref M.C) = some true
  D : Addr
  gD : mg "DrawError" = some (.ref D)
section
variable {P : Program} {w : World} {K : PySem.W.Frag} {mg : Str → Option Value} {base : Heap}
def spSaid (K : PySem.W.Frag) : Sp := fun vs H Q _ => ∃ x m, vs = [x, m] ∧
  ((Kn K H x ∧ isTup H x = false ∧ ∀ H', Same H H' → Q (.str "sizes") H') ∨
   (∃ a xs, x = .ref a ∧ H a = some (.tup xs) ∧ (∀ z ∈ xs, Kn K H z) ∧ cntB 1 xs = false ∧ ∀ H', Same H H' → Q (.str "sizes") H') ∨
   (∃ a l, x = .ref a ∧ H a = some (.tup (nV l)) ∧ goodS l ∧ Kn K H m ∧ isW 1 (10 ^ 30) m = false ∧ ∀ H', Same H H' → Q (.str "number") H') ∨
   (∃ a l k, x = .ref a ∧ H a = some (.tup (nV l)) ∧ goodS l ∧ m = .int k ∧ 1 ≤ k ∧ k ≤ 10 ^ 30 ∧ 400 < l.sum ∧ ∀ H' p, Same H H' → H' p = some (.tup [.str "many", .int 400]) → Q (.ref p) H') ∨
   (∃ a l k, x = .ref a ∧ H a = some (.tup (nV l)) ∧ goodS l ∧ m = .int k ∧ 1 ≤ k ∧ k ≤ 10 ^ 30 ∧ l.sum ≤ 400 ∧ ∀ H', Same H H' → Q (.int (Tn l % k)) H'))
theorem ok_l_said (T : Tx K mg) (M : TmAt P K mg) (F : ExF T M) : FnOk P w K mg base (L2.CX P w) 6 T.l_said.f T.l_said.d ["_law_sizes", "_law_modulus"] (spSaid K) := by
  refine T.l_said.F.okX sc_l_said (fun vs H Q E h => ?_) (fun cdv A outer s H vs Q E hr h => ?_)
  · obtain ⟨x, m, rfl, _⟩ := h
    rfl
  · obtain ⟨x, m, rfl, h⟩ := h
    have nd := sc_l_said.nd
    refine ⟨_, pss_cons (ps_set (i := 2) nd rfl (.inl rfl) pe_non) <|
      pss_cons (ps_try_cls nd rfl rfl (takes_of rfl rfl rfl rfl)
        (fun W pn xe tk po => pss_one (ps_set (i := 2) nd rfl (.inl rfl) (pe_callS (ok_families_many T M) hr (by rfl) T.families_many.g T.families_many.F.kp T.families_many.b (fun σ => passAt tk σ) (pa_cons (pv 0) (pa_cons (pv 1) pa_nil)))))
        (HdCls.bare (c := .ref T.NoSizes.C) ⟨by rfl, by decide, .inl T.NoSizes.g⟩ (fun _ _ _ _ _ _ _ => pss_one (ps_set (i := 2) nd rfl (.inl rfl) pe_str)) <|
         HdCls.bare (c := .ref T.NoNumber.C) ⟨by rfl, by decide, .inl T.NoNumber.g⟩ (fun _ _ _ _ _ _ _ => pss_one (ps_set (i := 2) nd rfl (.inl rfl) pe_str)) <|
         HdCls.named (i := 3) (c := .ref M.C) ⟨by rfl, by decide, .inl M.gC⟩ rfl rfl (fun a oe _ _ pn hz hf => pss_one (ps_set (i := 2) nd rfl (.inl rfl) (pe_tup (pa_cons pe_str (pa_cons (pe_mostY (a := a) (oe := oe) M rfl List.mem_cons_self hz hf (pv 3)) pa_nil))))) <|
         HdCls.bare (c := .ref F.D) ⟨by rfl, by decide, .inl F.gD⟩ (fun _ _ _ _ _ _ _ => pss_one (ps_set (i := 2) nd rfl (.inl rfl) pe_str)) .nil)) <|
      pss_one (ps_ret (pv 2)), ?_⟩
    refine ⟨_, rfl, _, rfl, x, m, rfl, ?_⟩
    rcases h with ⟨hk, ht, q⟩ | ⟨a, xs, rfl, ha, hk, hc, q⟩ | ⟨a, l, rfl, ha, hg, hk, hw, q⟩ | ⟨a, l, k, rfl, ha, hg, rfl, h1, h2, h4, q⟩ | ⟨a, l, k, rfl, ha, hg, rfl, h1, h2, h4, q⟩
    · exact .inl ⟨hk, ht, true, F.e11, fun _ _ _ => ⟨_, rfl, q H (Same.refl _)⟩, fun z => nomatch z⟩
    · exact .inr (.inl ⟨a, xs, rfl, ha, hk, hc, fun H' s' => ⟨true, F.e11, fun _ _ _ => ⟨_, rfl, q H' s'⟩, fun z => nomatch z⟩⟩)
    · exact .inr (.inr (.inl ⟨a, l, rfl, ha, hg, hk, hw, fun H' s' => ⟨false, F.e21, fun z => absurd z Bool.false_ne_true, fun _ => ⟨true, F.e22, fun _ _ _ => ⟨_, rfl, q H' s'⟩, fun z => nomatch z⟩⟩⟩))
    · refine .inr (.inr (.inr (.inl ⟨a, l, k, rfl, ha, hg, rfl, h1, h2, h4, fun H' d s' nd' => ⟨false, F.e31, fun z => absurd z Bool.false_ne_true, fun _ => ⟨false, F.e32, fun z => absurd z Bool.false_ne_true, fun _ => ⟨true, F.e33, fun _ e ne => ?_, fun z => nomatch z⟩⟩⟩⟩)))
      refine ⟨_, rfl, rfl, rfl, d, _, rfl, upd_same, line1 (Nat.le_add_left 2 999998), fun p np => ?_⟩
      exact ⟨_, rfl, q _ p (same_upd (same_upd s' nd') np) upd_same⟩
    · exact .inr (.inr (.inr (.inr ⟨a, l, k, rfl, ha, hg, rfl, h1, h2, h4, fun H' s' => ⟨_, rfl, q H' s'⟩⟩)))
end
end Fo

/-! many_right, half_right. -/
namespace Fo
open PySem PySem.Spec PyProof.Rows L2
theorem Pool.notTup {H : Hp} {p q t : Addr} {xs : List V} (hP : Pool H p q) (e : H t = some (.tup xs)) : t ≠ p ∧ t ≠ q := by
  obtain ⟨⟨sd, cn, e1⟩, cs, e2⟩ := hP
  exact ⟨ne_of e e1 (fun z => nomatch z), ne_of e e2 (fun z => nomatch z)⟩
theorem Pool.notNone {H : Hp} {p q t : Addr} (hP : Pool H p q) (e : H t = none) : t ≠ p ∧ t ≠ q := by
  obtain ⟨⟨sd, cn, e1⟩, cs, e2⟩ := hP
  exact ⟨ne_new e1 e, ne_new e2 e⟩
theorem But.tup {H H' : Hp} {p q t : Addr} {xs : List V} (b : But p q H H') (hP : Pool H p q) (e : H t = some (.tup xs)) : H' t = some (.tup xs) := b t _ (hP.notTup e).1 (hP.notTup e).2 e
theorem Pool.wr {H : Hp} {p q b : Addr} {x : HO} (hP : Pool H p q) (h : b ≠ p ∧ b ≠ q) : Pool (upd H b x) p q := by
  obtain ⟨⟨sd, cn, e1⟩, cs, e2⟩ := hP
  exact ⟨⟨sd, cn, by rw [upd_ne (Ne.symm h.1)]; exact e1⟩, cs, by rw [upd_ne (Ne.symm h.2)]; exact e2⟩
/-- [1 + draw for ..] -/
theorem lc_draws {p q D : Addr} {H1 : Hp} {n : Nat} {B : Int} {te : TE} {vs : List Nat} {k : Nat} {σ : L2.St} {Qd : Hp → Prop} (hP : Pool H1 p q) (hD : H1 D = none) (hn : n ≤ 1000) (hw : ∀ v, wipe ((wipe σ vs).set k (some v)) vs = wipe σ vs)
    (hte : ∀ (i : Nat) H R, Pool H p q → (∀ H' d, Pool H' p q → But p q H H' → 0 ≤ d → d < B → R (.int (1 + d)) H') → te ((wipe σ vs).set k (some (.int (i : Int)))) H R)
    (hd : ∀ (H : Hp) (l : List Nat), Pool H p q → But p q H1 H → l.length = n → (∀ x ∈ l, 1 ≤ x ∧ (x : Int) ≤ B) → H D = some (.lst (nV l)) → Qd H) :
    ∃ W : Nat → Nat → Hp → Prop, (∃ m, W 0 m (upd H1 D (.lst []))) ∧ ∀ i m H, W i m H → ((Itr 0 n).stop i H ∧ Qd H) ∨ ((Itr 0 n).go i H ∧ ∃ Nx : Hp → Prop, (∀ H', Nx H' → ∃ m', m' < m ∧ W (i + 1) m' H') ∧ ∀ x H', (Itr 0 n).yld i H x H' →
      gName k x (wipe σ vs) H' fun σ2 H2 => wipe σ2 vs = wipe σ vs ∧ tYes σ2 H2 fun b H3 => if b = true then te σ2 H3 fun y H4 => ∃ acc, H4 D = some (.lst acc) ∧ acc.length < sizeLine ∧ Nx (upd H4 D (.lst (acc ++ [y]))) else Nx H3) := by
  refine lc_it walk_r0 (fun i H => Pool H p q ∧ But p q H1 H ∧ ∃ l : List Nat, l.length = i ∧ (∀ x ∈ l, 1 ≤ x ∧ (x : Int) ≤ B) ∧ H D = some (.lst (nV l)))
    ⟨hP.wr (hP.notNone hD), (But.refl _).set (.inr (.inr hD)), [], rfl, (by intro x hx; cases hx), upd_same⟩ (fun _ _ _ _ => trivial) (fun i x H H' hi hW hy => ?_) (fun H hW => ?_)
  · obtain ⟨hP3, b3, l, hl, hb, eD⟩ := hW
    obtain ⟨rfl, rfl⟩ := hy
    refine ⟨hw _, hte i H' _ hP3 fun H4 d hP4 b4 d0 d1 => ?_⟩
    have eD4 := b4 D _ (hP.notNone hD).1 (hP.notNone hD).2 eD
    refine ⟨_, eD4, ?_, hP4.wr (hP.notNone hD), (b3.trans b4).set (.inr (.inr hD)), l ++ [(1 + d).toNat], ?_, fun x hx => ?_, ?_⟩
    · rw [nV_len, hl, sizeLine_eq]
      omega
    · rw [List.length_append, hl]
      rfl
    · rcases List.mem_append.mp hx with z | z
      · exact hb x z
      · have e : x = (1 + d).toNat := by simpa using z
        rw [e]
        omega
    · rw [upd_same]
      unfold nV
      rw [List.map_append]
      show some (HO.lst (_ ++ [V.int (1 + d)])) = some (.lst (_ ++ [V.int (((1 + d).toNat : Nat) : Int)]))
      rw [Int.toNat_of_nonneg (by omega)]
  · obtain ⟨hP3, b3, l, hl, hb, eD⟩ := hW
    exact hd H l hP3 b3 hl hb eD
theorem sum_le {l : List Nat} {b : Nat} (h : ∀ x ∈ l, x ≤ b) : l.sum ≤ l.length * b := by
  induction l with
  | nil => exact Nat.zero_le _
  | cons x r ih =>
    have h1 := h x List.mem_cons_self
    have h2 := ih fun y hy => h y (List.mem_cons_of_mem _ hy)
    rw [List.sum_cons, List.length_cons, Nat.succ_mul]
    omega
section
variable {P : Program} {w : World} {K : PySem.W.Frag} {mg : Str → Option Value} {base : Heap}
def spMr : Sp := fun vs H Q _ => ∃ (p q : Addr), vs = [.ref p] ∧ Pool H p q ∧ ∀ H', Pool H' p q → But p q H H' → Q (.bl true) H'
theorem ok_l_many_right (T : Tx K mg) (M : TmAt P K mg) (N : KiAt K mg T.Kinds_init.f) (F : ExF T M) : FnOk P w K mg base CX0 8 T.l_many_right.f T.l_many_right.d ["_law_pool_here"] spMr := by
  refine T.l_many_right.F.ok sc_l_many_right (fun vs H Q E h => ?_) (fun cdv A outer s H vs Q E hr h => ?_)
  · obtain ⟨p, q, rfl, _⟩ := h
    rfl
  · obtain ⟨p, q, rfl, hP, qq⟩ := h
    have nd := sc_l_many_right.nd
    refine ⟨_, pss_cons (ps_set (i := 1) nd rfl (.inl rfl) (pe_tupleOf (by rfl) T.z_tuple
        (pe_lc (own := [("_law_k", 4)]) (g := gName 4) (tt := tYes) rfl nd (pi_range1 (by rfl) T.z_range (pa_cons (pe_op op_add pe_int (pe_call (ok_l_draw T) (hr.mono (by decide)) (by rfl) T.l_draw.g T.l_draw.F.kp T.l_draw.b .nil pass0 (pa_cons (pv 0) (pa_cons pe_int pa_nil)))) pa_nil))
          (blkOk_by (N := N_l_many_right) (sc := defScope s_l_many_right) (by decide +kernel))
          (fun _ _ _ _ _ => pg_name (i := 4) nd rfl (Or.inl rfl)) (fun _ _ _ _ _ => pts_nil)
          (fun _ _ _ _ _ => pe_op op_add pe_int (pe_call (ok_l_draw T) (hr.mono (by decide)) (by rfl) T.l_draw.g T.l_draw.F.kp T.l_draw.b .nil pass0 (pa_cons (pv 0) (pa_cons pe_int pa_nil))))))) <|
      pss_cons (ps_set (i := 2) nd rfl (.inl rfl) (pe_op op_add pe_int (pe_call (ok_l_draw T) (hr.mono (by decide)) (by rfl) T.l_draw.g T.l_draw.F.kp T.l_draw.b .nil pass0 (pa_cons (pv 0) (pa_cons (pe_op op_pow pe_int pe_int) pa_nil))))) <|
      pss_cons (ps_if (pt_cmpR op_ne (pe_call (ok_l_said T M F) (hr.mono (by decide)) (by rfl) T.l_said.g T.l_said.F.kp T.l_said.b .nil passL (pa_cons (pv 1) (pa_cons (pv 2) pa_nil)))
        (pe_op op_mod (pe_callTy call_int1 (by rfl) T.z_int (by decide +kernel) (pa_cons (pe_call (ok_l_by_signs T) (hr.mono (by decide)) (by rfl) T.l_by_signs.g T.l_by_signs.F.kp T.l_by_signs.b .nil pass0 (pa_cons (pv 1) pa_nil)) pa_nil)) (pv 2)) (nomark _)) pss_never pss_nil) <|
      pss_cons (ps_set (i := 3) nd rfl (.inl rfl) (pe_tupleOf (by rfl) T.z_tuple
        (pe_lc (own := [("_law_k", 4)]) (g := gName 4) (tt := tYes) rfl nd (pi_range1 (by rfl) T.z_range (pa_cons pe_int pa_nil))
          (blkOk_by (N := N_l_many_right) (sc := defScope s_l_many_right) (by decide +kernel))
          (fun _ _ _ _ _ => pg_name (i := 4) nd rfl (Or.inl rfl)) (fun _ _ _ _ _ => pts_nil)
          (fun _ _ _ _ _ => pe_op op_add pe_int (pe_call (ok_l_draw T) (hr.mono (by decide)) (by rfl) T.l_draw.g T.l_draw.F.kp T.l_draw.b .nil pass0 (pa_cons (pv 0) (pa_cons pe_int pa_nil))))))) <|
      pss_one (ps_ret (pe_cmpR op_eq (pe_call (ok_kinds_many T M N) (hr.mono (by decide)) (by rfl) T.kinds_many.g T.kinds_many.F.kp T.kinds_many.b .nil pass0 (pa_cons (pe_call (ok_families T N) (hr.mono (by decide)) (by rfl) T.families.g T.families.F.kp T.families.b .nil pass0 (pa_cons (pv 3) pa_nil)) (pa_cons (pv 2) pa_nil)))
        (pe_call (ok_l_said T M F) (hr.mono (by decide)) (by rfl) T.l_said.g T.l_said.F.kp T.l_said.b .nil passL (pa_cons (pv 3) (pa_cons (pv 2) pa_nil))) (nomark _))), ?_⟩
    -- sizes
    refine ⟨_, rfl, p, q, 6, rfl, hP, by decide, by decide, fun H1 d hP1 b1 d0 d1 => ?_⟩
    refine ⟨_, _, rfl, rfl, 3 + d, rfl, by omega, by omega, fun D hD => ?_⟩
    refine lc_draws (B := 12) hP1 hD (by omega) (fun _ => rfl) (fun i H2 R hP2 hR => ?_) (fun H2 l hP2 b2 hl hb eD => ?_)
    · exact ⟨_, rfl, p, q, 12, rfl, hP2, by decide, by decide, fun H3 d hP3 b3 d0 d1 => ⟨_, _, rfl, rfl, hR H3 d hP3 b3 d0 d1⟩⟩
    refine .inl ⟨D, _, rfl, SqL.of eD, fun t nt => ?_⟩
    have hP3 : Pool (upd H2 t (.tup (nV l))) p q := hP2.wr (hP2.notNone nt)
    have et3 : (upd H2 t (.tup (nV l))) t = some (.tup (nV l)) := upd_same
    have b03 : But p q H (upd H2 t (.tup (nV l))) := (b1.trans b2).trans (But.of (same_upd (Same.refl _) nt))
    generalize upd H2 t (.tup (nV l)) = H3 at *
    -- the modulus
    refine ⟨_, rfl, _, _, rfl, rfl, ⟨by decide, by decide, by decide⟩, p, q, _, rfl, hP3, by decide, by decide, fun H4 e hP4 b4 e0 e1 => ?_⟩
    have et4 := b4.tup hP3 et3
    have hm2 : 1 + e ≤ 10 ^ 30 := by
      have : e < 10 ^ 30 := e1
      omega
    have hll : 3 ≤ l.length ∧ l.length ≤ 8 := by omega
    have hs12 : ∀ x ∈ l, x ≤ 12 := fun x hx => by have := (hb x hx).2; omega
    have hsum := sum_le hs12
    have hg : goodS l := ⟨by omega, by omega, fun x hx => ⟨(hb x hx).1, by have := hs12 x hx; omega⟩⟩
    have h96 : l.sum ≤ 400 := by
      have : l.length * 12 ≤ 8 * 12 := Nat.mul_le_mul_right _ hll.2
      omega
    refine ⟨_, _, rfl, rfl, ?_⟩
    -- said, by signs
    refine ⟨_, rfl, _, rfl, _, _, rfl, .inr (.inr (.inr (.inr ⟨t, l, 1 + e, rfl, et4, hg, rfl, by omega, hm2, h96, fun H5 s5 => ?_⟩)))⟩
    refine ⟨_, rfl, t, l, rfl, s5 _ _ et4, h96, hll.2, fun H6 s6 => .inl ⟨_, rfl, _, rfl, _, _, rfl, rfl, by omega, rfl, _, rfl, ?_⟩⟩
    rw [show (!decide (V.int (Tn l % (1 + e)) = V.int (Tn l % (1 + e)))) = false by rw [decide_eq_true rfl]; rfl]
    refine iteF ?_
    have s46 := s5.trans s6
    have hP6 := hP4.same s46
    have b06 : But p q H H6 := (b03.trans b4).trans (But.of s46)
    -- few
    refine ⟨3, rfl, by decide, by decide, fun D2 hD2 => ?_⟩
    refine lc_draws (B := 10) hP6 hD2 (by decide) (fun _ => rfl) (fun i H2 R hP2 hR => ?_) (fun H7 l7 hP7 b7 hl7 hb7 eD7 => ?_)
    · exact ⟨_, rfl, p, q, 10, rfl, hP2, by decide, by decide, fun H3 d hP3 b3 d0 d1 => ⟨_, _, rfl, rfl, hR H3 d hP3 b3 d0 d1⟩⟩
    refine .inl ⟨D2, _, rfl, SqL.of eD7, fun u nu => ?_⟩
    have s8 := same_upd (Same.refl H7) nu (o := .tup (nV l7))
    have hl7 : l7.length = 3 := hl7
    have hs10 : ∀ x ∈ l7, 1 ≤ x ∧ x ≤ 10 := fun x hx => ⟨(hb7 x hx).1, by have := (hb7 x hx).2; omega⟩
    have hg7 := good_few hl7 hs10
    have h30 := sum_few hl7 hs10
    refine ⟨_, rfl, u, l7, rfl, upd_same, hl7, hg7, fun H9 kd s9 hK => ?_⟩
    refine ⟨_, rfl, kd, u, l7, 1 + e, rfl, hK, hl7, hs10, by omega, hm2, fun H10 s10 => ?_⟩
    have s810 := s9.trans s10
    refine ⟨_, rfl, _, rfl, _, _, rfl, .inr (.inr (.inr (.inr ⟨u, l7, 1 + e, rfl, s810 _ _ upd_same, hg7, rfl, by omega, hm2, by omega, fun H11 s11 => ?_⟩)))⟩
    refine ⟨rfl, ?_⟩
    rw [show decide (V.int (Tn l7 % (1 + e)) = V.int (Tn l7 % (1 + e))) = true from decide_eq_true rfl]
    have s711 := (s8.trans s810).trans s11
    exact qq H11 (hP7.same s711) ((b06.trans b7).trans (But.of s711))
end
end Fo

/-! half_right. -/
namespace Fo
open PySem PySem.Spec PyProof.Rows L2
theorem nI_V (l : List Nat) : nV l = (nI l).map V.int := nV_int l
theorem nI_sum (l : List Nat) : (nI l).sum = ((l.sum : Nat) : Int) := sum_nat l
section
variable {P : Program} {w : World} {K : PySem.W.Frag} {mg : Str → Option Value} {base : Heap}
def spHr : Sp := fun vs H Q _ => ∃ (p q : Addr) (m : Int), vs = [.ref p, .int m] ∧ Pool H p q ∧ 1 ≤ m ∧ m ≤ 10 ^ 30 ∧ ∀ H', Pool H' p q → But p q H H' → Q (.bl true) H'
theorem ok_l_half_right (T : Tx K mg) (M : TmAt P K mg) (F : ExF T M) : FnOk P w K mg base CX0 8 T.l_half_right.f T.l_half_right.d ["_law_pool_here", "_law_modulus"] spHr := by
  refine T.l_half_right.F.ok sc_l_half_right (fun vs H Q E h => ?_) (fun cdv A outer s H vs Q E hr h => ?_)
  · obtain ⟨p, q, m, rfl, _⟩ := h
    rfl
  · obtain ⟨p, q, m, rfl, hP, hm1, hm2, qq⟩ := h
    have nd := sc_l_half_right.nd
    refine ⟨_, pss_cons (ps_setLc (i := 2) (own := [("_law_k", 5)]) (g := gName 5) (tt := tYes) rfl nd rfl rfl (sw_true rfl rfl rfl rfl) (pi_range1 (by rfl) T.z_range (pa_cons (pe_op op_add pe_int (pe_call (ok_l_draw T) (hr.mono (by decide)) (by rfl) T.l_draw.g T.l_draw.F.kp T.l_draw.b .nil pass0 (pa_cons (pv 0) (pa_cons pe_int pa_nil)))) pa_nil))
          (blkOk_by (N := N_l_half_right) (sc := defScope s_l_half_right) (by decide +kernel))
          (fun _ _ _ _ _ => pg_name (i := 5) nd rfl (Or.inl rfl)) (fun _ _ _ _ _ => pts_nil)
          (fun _ _ _ _ _ => pe_op op_add pe_int (pe_call (ok_l_draw T) (hr.mono (by decide)) (by rfl) T.l_draw.g T.l_draw.F.kp T.l_draw.b .nil pass0 (pa_cons (pv 0) (pa_cons pe_int pa_nil))))) <|
      pss_cons (ps_set (i := 3) nd rfl (.inl rfl) (pe_tupleOf (by rfl) T.z_tuple (pe_call (ok_l_mixed T) (hr.mono (by decide)) (by rfl) T.l_mixed.g T.l_mixed.F.kp T.l_mixed.b .nil pass0 (pa_cons (pv 0)
        (pa_cons (pe_op op_cat (pv 2) (pe_lst (pa_cons (pe_callB (cr_sum rfl) (by rfl) T.z_sum (by decide +kernel) (pa_cons (pv 2) pa_nil)) pa_nil))) pa_nil))))) <|
      pss_cons (ps_set (i := 4) nd rfl (.inl rfl) (pe_call (ok_l_orders T) (hr.mono (by decide)) (by rfl) T.l_orders.g T.l_orders.F.kp T.l_orders.b .nil pass0 (pa_cons (pe_callB (cr_sum rfl) (by rfl) T.z_sum (by decide +kernel) (pa_cons (pv 2) pa_nil)) (pa_cons (pv 1) pa_nil)))) <|
      pss_cons (ps_if (pt_cmpR op_ne (pe_call (ok_l_said T M F) (hr.mono (by decide)) (by rfl) T.l_said.g T.l_said.F.kp T.l_said.b .nil passL (pa_cons (pv 3) (pa_cons (pv 1) pa_nil)))
        (pe_op op_mod (pe_callTy call_int1 (by rfl) T.z_int (by decide +kernel) (pa_cons (pe_op op_mulW (pv 4) (pv 4)) pa_nil)) (pv 1)) (nomark _)) pss_never pss_nil) <|
      pss_one (ps_ret (pe_ifExp (pt_cmpR op_lt (pe_op op_mul pe_int (pe_callB (cr_sum rfl) (by rfl) T.z_sum (by decide +kernel) (pa_cons (pv 2) pa_nil))) pe_int (nomark _))
        (pe_cmpR op_eq (pe_call (ok_l_said T M F) (hr.mono (by decide)) (by rfl) T.l_said.g T.l_said.F.kp T.l_said.b .nil passL (pa_cons (pe_op op_catA (pv 3) (pe_tup (pa_cons (pe_op op_add pe_int (pe_op op_mul pe_int (pe_callB (cr_sum rfl) (by rfl) T.z_sum (by decide +kernel) (pa_cons (pv 2) pa_nil)))) pa_nil))) (pa_cons (pv 1) pa_nil))) pe_int (nomark _)) pe_bl)), ?_⟩
    refine ⟨_, rfl, p, q, 3, rfl, hP, by decide, by decide, fun H1 d hP1 b1 d0 d1 => ?_⟩
    refine ⟨_, _, rfl, rfl, 1 + d, rfl, by omega, by omega, fun D hD => ?_⟩
    refine lc_draws (B := 60) hP1 hD (by omega) (fun _ => rfl) (fun i H2 R hP2 hR => ?_) (fun H2 l hP2 b2 hl hb eD => ?_)
    · exact ⟨_, rfl, p, q, 60, rfl, hP2, by decide, by decide, fun H3 d hP3 b3 d0 d1 => ⟨_, _, rfl, rfl, hR H3 d hP3 b3 d0 d1⟩⟩
    have hll : 1 ≤ l.length ∧ l.length ≤ 3 := by omega
    have hs60 : ∀ x ∈ l, x ≤ 60 := fun x hx => by have := (hb x hx).2; omega
    have hsum := sum_le hs60
    have h180 : l.sum ≤ 180 := by
      have : l.length * 60 ≤ 3 * 60 := Nat.mul_le_mul_right _ hll.2
      omega
    have hS1 : 1 ≤ l.sum := by
      have h1 : l.getD 0 0 ∈ l := getD_mem (by omega)
      have := (hb _ h1).1
      have := get_le_sum l 0
      omega
    have b02 := b1.trans b2
    -- sizes
    refine ⟨_, rfl, _, rfl, _, rfl, D, nI l, rfl, SqL.of (by rw [← nI_V]; exact eD), line1 (Nat.le_add_left 1 999999), fun c nc => ?_⟩
    have s3 := same_upd (Same.refl H2) nc (o := .lst [.int (nI l).sum])
    refine ⟨D, c, _, _, rfl, rfl, s3 _ _ eD, upd_same, ?_, fun g ng => ?_⟩
    · rw [nV_len]
      show _ + 1 ≤ _
      exact line1 (by omega)
    have s4 := same_upd s3 ng (o := .lst (nV l ++ [.int (nI l).sum]))
    have eg : (upd (upd H2 c (.lst [.int (nI l).sum])) g (.lst (nV l ++ [.int (nI l).sum]))) g = some (.lst (nV (l ++ [l.sum]))) := by
      rw [upd_same, nI_sum]
      unfold nV
      rw [List.map_append]
      rfl
    have hP4 := hP2.same s4
    refine ⟨p, q, g, l ++ [l.sum], rfl, hP4, eg, by rw [List.length_append]; show _ + 1 ≤ _; omega, fun H5 r l' hP5 b5 hperm er => ?_⟩
    have hD2 := hP1.notNone hD
    have eD5 : H5 D = some (.lst (nV l)) := b5 D _ hD2.1 hD2.2 (s4 _ _ eD)
    refine .inl ⟨r, _, rfl, SqL.of er, fun t nt => ?_⟩
    have s6 := same_upd (Same.refl H5) nt (o := .tup (nV l'))
    have et6 : (upd H5 t (.tup (nV l'))) t = some (.tup (nV l')) := upd_same
    have eD6 : (upd H5 t (.tup (nV l'))) D = some (.lst ((nI l).map V.int)) := by rw [← nI_V]; exact s6 _ _ eD5
    have hP6 := hP5.same s6
    have b06 : But p q H (upd H5 t (.tup (nV l'))) := ((b02.trans (But.of s4)).trans b5).trans (But.of s6)
    generalize upd H5 t (.tup (nV l')) = H6 at *
    -- orders
    refine ⟨_, rfl, D, nI l, rfl, SqL.of eD6, _, rfl, l.sum, m, by rw [nI_sum]; rfl, hS1, by omega, hm1, ?_⟩
    have hs' : l'.sum = l.sum + l.sum := by
      rw [hperm.sum_nat, List.sum_append]
      rfl
    have hll' : l'.length = l.length + 1 := by
      rw [hperm.length_eq, List.length_append]
      rfl
    have hmem : ∀ x ∈ l', 1 ≤ x ∧ x ≤ 180 := fun x hx => by
      have := hperm.mem_iff.mp hx
      rcases List.mem_append.mp this with z | z
      · exact ⟨(hb x z).1, by have := hs60 x z; omega⟩
      · have e : x = l.sum := by simpa using z
        rw [e]
        exact ⟨hS1, h180⟩
    have hg' : goodS l' := ⟨by omega, by omega, fun x hx => ⟨(hmem x hx).1, by have := (hmem x hx).2; omega⟩⟩
    refine ⟨_, rfl, _, rfl, _, _, rfl, .inr (.inr (.inr (.inr ⟨t, l', m, rfl, et6, hg', rfl, hm1, hm2, by omega, fun H7 s7 => ?_⟩)))⟩
    have f0 := Int.emod_nonneg ((fa l.sum : Nat) : Int) (b := m) (by omega)
    have f1 := Int.emod_lt_of_pos ((fa l.sum : Nat) : Int) (b := m) (by omega)
    have f2 : (((fa l.sum : Nat) : Int) % m).natAbs < 2 ^ 100 := by omega
    refine ⟨_, rfl, _, rfl, _, _, rfl, rfl, wide_mul f2 f2 (by decide) (by decide) (by decide), .inl ⟨_, rfl, _, rfl, _, _, rfl, rfl, by omega, rfl, _, rfl, ?_⟩⟩
    have hval : Tn l' % m = ((((fa l.sum : Nat) : Int) % m) * (((fa l.sum : Nat) : Int) % m)) % m := by
      rw [Tn_half hperm, mod_mul, Int.mul_comm, mod_mul, Int.natCast_mul]
    rw [show (!decide (V.int (Tn l' % m) = V.int (((((fa l.sum : Nat) : Int) % m) * (((fa l.sum : Nat) : Int) % m)) % m))) = false by rw [decide_eq_true (congrArg V.int hval)]; rfl]
    refine iteF ?_
    have eD7 := s7 _ _ eD6
    refine ⟨_, rfl, D, nI l, rfl, SqL.of eD7, _, _, rfl, rfl, .inl ⟨by decide, by decide⟩, _, _, rfl, rfl, _, rfl, ite2 (fun e => ?_) (fun _ => ?_)⟩
    · have h4 : (4 : Int) * (nI l).sum < 400 := of_decide_eq_true e
      rw [nI_sum] at h4
      refine ⟨_, rfl, _, rfl, D, nI l, rfl, SqL.of eD7, _, _, rfl, rfl, .inl ⟨by decide, by decide⟩, _, _, rfl, rfl, line1 (Nat.le_add_left 1 999999), fun c2 nc2 => ?_⟩
      have s8 := same_upd (Same.refl H7) nc2 (o := .tup [.int (1 + 2 * (nI l).sum)])
      refine cat_use (s8 _ _ (s7 _ _ et6)) upd_same ?_ fun p9 H9 s9 e9 => ?_
      · rw [nV_len]
        show _ + 1 ≤ _
        exact line1 (by omega)
      have e9 : H9 p9 = some (.tup (nV (l' ++ [1 + 2 * l.sum]))) := by
        rw [e9]
        unfold nV
        rw [List.map_append]
        show some (HO.tup (_ ++ [V.int (1 + 2 * (nI l).sum)])) = some (.tup (_ ++ [V.int (((1 + 2 * l.sum : Nat) : Nat) : Int)]))
        rw [nI_sum]
        congr 5
      have hg9 : goodS (l' ++ [1 + 2 * l.sum]) := by
        refine ⟨by rw [List.length_append]; show 1 ≤ _ + 1; omega, by rw [List.length_append]; show _ + 1 ≤ 8; omega, fun x hx => ?_⟩
        rcases List.mem_append.mp hx with z | z
        · exact ⟨(hmem x z).1, by have := (hmem x z).2; omega⟩
        · have e : x = 1 + 2 * l.sum := by simpa using z
          rw [e]
          omega
      refine ⟨_, rfl, _, _, rfl, .inr (.inr (.inr (.inr ⟨p9, l' ++ [1 + 2 * l.sum], m, rfl, e9, hg9, rfl, hm1, hm2, ?_, fun H10 s10 => ?_⟩)))⟩
      · rw [List.sum_append, hs']
        show _ + (1 + 2 * l.sum + 0) ≤ 400
        omega
      · refine ⟨rfl, ?_⟩
        rw [Tn_more (by rw [hs']; omega), Int.zero_emod]
        have s79 := (s8.trans s9).trans s10
        exact qq H10 ((hP6.same s7).same s79) ((b06.trans (But.of s7)).trans (But.of s79))
    · exact qq H7 (hP6.same s7) (b06.trans (But.of s7))
end
end Fo

/-! the law. -/
namespace Fo
open PySem PySem.Spec PyProof.Rows L2
theorem two {c A : Prop} [Decidable c] {R : Hp → Prop} {Ok : Hp → Prop} {H2 : Hp} (hA : (∀ H', Ok H' → R H') → c → A) (h2 : Ok H2) (r : ∀ H', Ok H' → R H') : if c then A else R H2 := ite2 (hA r) (fun _ => r H2 h2)
theorem two3 {c A : Prop} [Decidable c] {R : Addr → Hp → Prop} {Ok : Addr → Hp → Prop} {t : Addr} {H2 : Hp} (hA : (∀ t H', Ok t H' → R t H') → c → A) (h2 : Ok t H2) (r : ∀ t H', Ok t H' → R t H') : if c then A else R t H2 := ite2 (hA r) (fun _ => r t H2 h2)
/-- a value whose class is known, not the pool -/
def KnP (K : PySem.W.Frag) (H : Hp) (p q : Addr) (x : V) : Prop := Kn K H x ∧ ∀ a, x = .ref a → a ≠ p ∧ a ≠ q
theorem KnP.but {K : PySem.W.Frag} {H H' : Hp} {p q : Addr} {x : V} (h : KnP K H p q x) (b : But p q H H') : KnP K H' p q x := by
  obtain ⟨k, n⟩ := h
  refine ⟨?_, n⟩
  rcases k with k | k | k | k | ⟨a, xs, e, h⟩ | ⟨a, xs, e, h⟩
  · exact .inl k
  · exact .inr (.inl k)
  · exact .inr (.inr (.inl k))
  · exact .inr (.inr (.inr (.inl k)))
  · exact .inr (.inr (.inr (.inr (.inl ⟨a, xs, e, b _ _ (n a e).1 (n a e).2 h⟩))))
  · exact .inr (.inr (.inr (.inr (.inr ⟨a, xs, e, b _ _ (n a e).1 (n a e).2 h⟩))))
theorem KnP.int {K : PySem.W.Frag} {H : Hp} {p q : Addr} (i : Int) : KnP K H p q (.int i) := ⟨.inr (.inr (.inl ⟨_, rfl⟩)), fun _ z => nomatch z⟩
theorem KnP.bl {K : PySem.W.Frag} {H : Hp} {p q : Addr} (i : Bool) : KnP K H p q (.bl i) := ⟨.inr (.inl ⟨_, rfl⟩), fun _ z => nomatch z⟩
theorem KnP.str {K : PySem.W.Frag} {H : Hp} {p q : Addr} (i : Str) : KnP K H p q (.str i) := ⟨.inr (.inr (.inr (.inl ⟨_, rfl⟩))), fun _ z => nomatch z⟩
theorem KnP.non {K : PySem.W.Frag} {H : Hp} {p q : Addr} : KnP K H p q .non := ⟨.inl rfl, fun _ z => nomatch z⟩
theorem KnP.tup {K : PySem.W.Frag} {H : Hp} {p q a : Addr} {xs : List V} (hP : Pool H p q) (e : H a = some (.tup xs)) : KnP K H p q (.ref a) := ⟨.inr (.inr (.inr (.inr (.inr ⟨a, xs, rfl, e⟩)))), fun b z => by
  cases z
  exact hP.notTup e⟩
/-- no sizes -/
def WrP (K : PySem.W.Frag) (H : Hp) (p q : Addr) (x : V) : Prop := (KnP K H p q x ∧ isTup H x = false) ∨ ∃ a xs, x = .ref a ∧ H a = some (.tup xs) ∧ (∀ z ∈ xs, KnP K H p q z) ∧ cntB 1 xs = false
theorem WrP.but {K : PySem.W.Frag} {H H' : Hp} {p q : Addr} {x : V} (h : WrP K H p q x) (hP : Pool H p q) (b : But p q H H') : WrP K H' p q x := by
  rcases h with ⟨k, ht⟩ | ⟨a, xs, e, h, hk, hc⟩
  · refine .inl ⟨k.but b, ?_⟩
    rcases k.1 with rfl | ⟨_, rfl⟩ | ⟨_, rfl⟩ | ⟨_, rfl⟩ | ⟨a, xs, rfl, h⟩ | ⟨a, xs, rfl, h⟩
    · rfl
    · rfl
    · rfl
    · rfl
    · show tupO (H' a) = false
      rw [b _ _ (k.2 a rfl).1 (k.2 a rfl).2 h]
      rfl
    · have ht : tupO (H a) = false := ht
      rw [h] at ht
      cases ht
  · exact .inr ⟨a, xs, e, b.tup hP h, fun z hz => (hk z hz).but b, hc⟩
theorem said_wrong {K : PySem.W.Frag} {H : Hp} {p q : Addr} {x : V} {Q : Hp → Prop} {R : Prop} (hw : WrP K H p q x) (h : ∀ H', Same H H' → Q H') :
    (Kn K H x ∧ isTup H x = false ∧ ∀ H', Same H H' → Q H') ∨ (∃ a xs, x = .ref a ∧ H a = some (.tup xs) ∧ (∀ z ∈ xs, Kn K H z) ∧ cntB 1 xs = false ∧ ∀ H', Same H H' → Q H') ∨ R := by
  rcases hw with ⟨k, ht⟩ | ⟨a, xs, e, h1, hk, hc⟩
  · exact .inl ⟨k.1, ht, h⟩
  · exact .inr (.inl ⟨a, xs, e, h1, fun z hz => (hk z hz).1, hc, h⟩)
theorem at_mem {xs : List V} {d : Int} (d0 : 0 ≤ d) (d1 : d < xs.length) : ∃ m, atI xs d = some m ∧ m ∈ xs := by
  have hd : d.toNat < xs.length := by omega
  refine ⟨xs[d.toNat], ?_, List.getElem_mem hd⟩
  have e : d = ((d.toNat : Nat) : Int) := by omega
  have h := atI_nat (xs := xs) (j := d.toNat) (List.getElem?_eq_getElem hd)
  rw [← e] at h
  exact h
/-- the sizes that are listed -/
def OkS (p q : Addr) (t : Addr) (H : Hp) : Prop := Pool H p q ∧ ∃ l : List Nat, H t = some (.tup (nV l)) ∧ l ∈ smallSizes ∧ goodS l ∧ l.length ≤ 6
theorem four {e d : Int} (e0 : 0 ≤ e) (e1 : e < 1000) (d0 : 0 ≤ d) (d1 : d < 4) : ∃ m : Int, atI [V.int 1, .int 2, .int (10 ^ (30 : Int).toNat), .int (1 + e)] d = some (.int m) ∧ 1 ≤ m ∧ m ≤ 10 ^ 30 := by
  have h : d = 0 ∨ d = 1 ∨ d = 2 ∨ d = 3 := by omega
  rcases h with rfl | rfl | rfl | rfl
  · exact ⟨1, rfl, by decide, by decide⟩
  · exact ⟨2, rfl, by decide, by decide⟩
  · exact ⟨10 ^ (30 : Int).toNat, rfl, by decide, by decide⟩
  · exact ⟨1 + e, rfl, by omega, by omega⟩
section
variable {P : Program} {w : World} {K : PySem.W.Frag} {mg : Str → Option Value} {base : Heap}
def bodyFor : Stmt → Nat → Stmt
  | .For (body := b) .., i => b.getD i (.Pass ⟨0, 0, 0, 0⟩)
  | .If (body := b) .., i => b.getD i (.Pass ⟨0, 0, 0, 0⟩)
  | s, _ => s
def spLaw (K : PySem.W.Frag) : Sp := fun vs H Q _ => ∃ (a : Addr) (ns : List Int), vs = [.ref a] ∧ SqL K H a (ns.map V.int) ∧ ns.length ≤ 63 ∧ ∀ H', Q (.bl true) H'
theorem ok_law (T : Tx K mg) (M : TmAt P K mg) (N : KiAt K mg T.Kinds_init.f) (F : ExF T M) : FnOk P w K mg base CX0 9 T.law.f T.law.d ["_law_script"] (spLaw K) := by
  refine T.law.F.ok sc_law (fun vs H Q E h => ?_) (fun cdv A outer s H vs Q E hr h => ?_)
  · obtain ⟨a, ns, rfl, _⟩ := h
    rfl
  · obtain ⟨a, ns, rfl, hS, hlen, qq⟩ := h
    have nd := sc_law.nd
    have hu : (A.deeper (envOfC "law" (defScope s_law) s.heap.objs.size T.law.f cdv)).units + 64 < cLine := by
      have := hr.un
      omega
    refine ⟨_, pss_cons (ps_set (i := 1) nd rfl (.inr rfl) (pe_call (ok_l_pool T) (hr.mono (by decide)) (by rfl) T.l_pool.g T.l_pool.F.kp T.l_pool.b .nil pass0 (pa_cons (pv 0) pa_nil))) <|
      pss_cons (ps_if (PW.pt (pw_and (pt_cmpR op_eq (pe_call (ok_l_draw T) (hr.mono (by decide)) (by rfl) T.l_draw.g T.l_draw.F.kp T.l_draw.b .nil pass0 (pa_cons (pv 1) (pa_cons pe_int pa_nil))) pe_int (nomark _))
        (pw_and1 (pt_not (pt_val (pe_call (ok_l_many_right T M N F) hr (by rfl) T.l_many_right.g T.l_many_right.F.kp T.l_many_right.b .nil pass0 (pa_cons (pv 1) pa_nil))))))) pss_never pss_nil) <|
      pss_cons (ps_for PassesOwn.never rfl (pi_range1 (by rfl) T.z_range (pa_cons pe_int pa_nil)) (pg_name (i := 2) nd rfl (.inl rfl))
        (pss_cons (ps_set (i := 5) nd rfl (.inr rfl) (pe_tupleOf (by rfl) T.z_tuple
            (pe_lc (own := [("_law_k", 10)]) (g := gName 10) (tt := tYes) rfl nd (pi_range1 (by rfl) T.z_range (pa_cons (pe_op op_add pe_int (pe_call (ok_l_draw T) (hr.mono (by decide)) (by rfl) T.l_draw.g T.l_draw.F.kp T.l_draw.b .nil pass0 (pa_cons (pv 1) (pa_cons pe_int pa_nil)))) pa_nil))
              (blkOk_by (N := N_law) (sc := defScope s_law) (by decide +kernel))
              (fun _ _ _ _ _ => pg_name (i := 10) nd rfl (Or.inl rfl)) (fun _ _ _ _ _ => pts_nil)
              (fun _ _ _ _ _ => pe_op op_add pe_int (pe_call (ok_l_draw T) (hr.mono (by decide)) (by rfl) T.l_draw.g T.l_draw.F.kp T.l_draw.b .nil pass0 (pa_cons (pv 1) (pa_cons pe_int pa_nil))))))) <|
         pss_cons (ps_if (pt_cmpR op_eq (pe_call (ok_l_draw T) (hr.mono (by decide)) (by rfl) T.l_draw.g T.l_draw.F.kp T.l_draw.b .nil pass0 (pa_cons (pv 1) (pa_cons pe_int pa_nil))) pe_int (nomark _))
           (pss_one (ps_set (i := 5) nd rfl (.inr rfl) (pe_op op_repA (pe_tup (pa_cons pe_int pa_nil)) (pe_op op_add pe_int (pe_call (ok_l_draw T) (hr.mono (by decide)) (by rfl) T.l_draw.g T.l_draw.F.kp T.l_draw.b .nil pass0 (pa_cons (pv 1) (pa_cons pe_int pa_nil))))))) pss_nil) <|
         pss_one (ps_if (pt_cmpR op_lt (pe_callB (cr_sumT rfl) (by rfl) T.z_sum (by decide +kernel) (pa_cons (pv 5) pa_nil)) pe_int (nomark _))
           (pss_cons (ps_set (i := 6) nd rfl (.inl rfl) (pe_tupleOf (by rfl) T.z_tuple
              (pe_lc (own := [("_law_k", 10)]) (g := gName 10) (tt := tYes) rfl nd (pi_range1 (by rfl) T.z_range (pa_cons (pe_callB call_len (by rfl) T.z_len (by decide +kernel) (pa_cons (pv 5) pa_nil)) pa_nil))
                (blkOk_by (N := N_law) (sc := defScope s_law) (by decide +kernel))
                (fun _ _ _ _ _ => pg_name (i := 10) nd rfl (Or.inr rfl)) (fun _ _ _ _ _ => pts_nil)
                (fun _ _ _ _ _ => pe_tupleOfK K rfl (by rfl) T.z_tuple (pe_lc (own := [("_law_other", 11)]) (g := gName 11) rfl nd (pi_range1 (by rfl) T.z_range (pa_cons (pe_callB (call_lenK K rfl) (by rfl) T.z_len (by decide +kernel) (pa_cons (pv 5) pa_nil)) pa_nil))
                  (blkOk_by (N := N_law) (sc := relS (lcS (argN 0 (retE (bodyFor (bodyFor (bodyN s_law 2) 2) 0)))) (defScope s_law)) (by decide +kernel))
                  (fun _ _ _ _ _ => pg_name (i := 11) nd rfl (Or.inl rfl)) (fun _ _ _ _ _ => pts_one (pt_cmpR op_ne (pv 11) (pv 10) (nomark _)))
                  (fun _ _ _ _ _ => pv 11)))))) <|
            pss_cons (ps_set (i := 7) nd rfl (.inl rfl) (pe_callB call_len (by rfl) T.z_len (by decide +kernel) (pa_cons (pe_call (ok_l_all T) (hr.mono (by decide)) (by rfl) T.l_all.g T.l_all.F.kp T.l_all.b .nil pass0
              (pa_cons (pe_call (ok_l_kind_rows T) (hr.mono (by decide)) (by rfl) T.l_kind_rows.g T.l_kind_rows.F.kp T.l_kind_rows.b .nil pass0 (pa_cons (pv 5) (pa_cons (pv 5) (pa_cons (pv 6) pa_nil)))) pa_nil)) pa_nil))) <|
            pss_cons (ps_set (i := 8) nd rfl (.inl rfl) (pe_ix ix_list (pe_lst (pa_cons pe_int (pa_cons pe_int (pa_cons (pe_op op_pow pe_int pe_int) (pa_cons (pe_op op_add pe_int (pe_call (ok_l_draw T) (hr.mono (by decide)) (by rfl) T.l_draw.g T.l_draw.F.kp T.l_draw.b .nil pass0 (pa_cons (pv 1) (pa_cons pe_int pa_nil)))) pa_nil)))))
              (pe_call (ok_l_draw T) (hr.mono (by decide)) (by rfl) T.l_draw.g T.l_draw.F.kp T.l_draw.b .nil pass0 (pa_cons (pv 1) (pa_cons pe_int pa_nil))) (fun _ _ => rfl))) <|
            pss_cons (ps_set (i := 9) nd rfl (.inl rfl) (pe_call (ok_l_said T M F) (hr.mono (by decide)) (by rfl) T.l_said.g T.l_said.F.kp T.l_said.b .nil passL (pa_cons (pv 5) (pa_cons (pv 8) pa_nil)))) <|
            pss_one (ps_if (PW.pt (pw_or (pt_cmpR op_ne (pv 9) (pe_op op_mod (pe_callTy call_int1 (by rfl) T.z_int (by decide +kernel) (pa_cons (pv 7) pa_nil)) (pv 8)) (nomark _))
              (pw_or1 (pt_val (pe_callB call_isi (by rfl) T.z_isinstance (by decide +kernel) (pa_cons (pv 9) (pa_cons (pe_bltn (v := .ty "bool") (by rfl) T.z_bool (by decide +kernel) rfl) pa_nil))))))) pss_never pss_nil)) pss_nil))) <|
      pss_cons (ps_if (PW.pt (pw_and (pt_cmpR op_eq (pe_call (ok_l_draw T) (hr.mono (by decide)) (by rfl) T.l_draw.g T.l_draw.F.kp T.l_draw.b .nil pass0 (pa_cons (pv 1) (pa_cons pe_int pa_nil))) pe_int (nomark _))
        (pw_and1 (pt_not (pt_val (pe_call (ok_l_half_right T M F) hr (by rfl) T.l_half_right.g T.l_half_right.F.kp T.l_half_right.b .nil pass0 (pa_cons (pv 1)
          (pa_cons (pe_op op_add pe_int (pe_call (ok_l_draw T) (hr.mono (by decide)) (by rfl) T.l_draw.g T.l_draw.F.kp T.l_draw.b .nil pass0 (pa_cons (pv 1) (pa_cons (pe_op op_pow pe_int pe_int) pa_nil)))) pa_nil)))))))) pss_never pss_nil) <|
      pss_cons (ps_set (i := 3) nd rfl (.inl rfl) (pe_ix ix_list (pe_lst (pa_cons pe_int (pa_cons (pe_un un_neg pe_int) (pa_cons (pe_op op_add (pe_op op_pow pe_int pe_int) pe_int) (pa_cons pe_non (pa_cons pe_bl (pa_cons pe_str (pa_cons (pe_tup (pa_cons pe_int pa_nil))
          (pa_cons (pe_call0 (ok_l_deep T) (hr.mono (by decide)) (by rfl) T.l_deep.g T.l_deep.F.kp T.l_deep.b .nil pass0) pa_nil)))))))))
        (pe_call (ok_l_draw T) (hr.mono (by decide)) (by rfl) T.l_draw.g T.l_draw.F.kp T.l_draw.b .nil pass0 (pa_cons (pv 1) (pa_cons pe_int pa_nil))) (fun _ _ => rfl))) <|
      pss_cons (ps_set (i := 4) nd rfl (.inl rfl) (pe_ix ix_list (pe_lst (pa_cons pe_non (pa_cons (pe_tup pa_nil) (pa_cons (pe_lst (pa_cons pe_int (pa_cons pe_int pa_nil))) (pa_cons (pe_tup (pa_cons pe_int (pa_cons pe_int pa_nil))) (pa_cons (pe_tup (pa_cons pe_bl (pa_cons pe_int pa_nil)))
          (pa_cons (pe_op op_repA (pe_tup (pa_cons pe_int pa_nil)) pe_int) (pa_cons pe_int (pa_cons pe_str (pa_cons (pe_call0 (ok_l_deep T) (hr.mono (by decide)) (by rfl) T.l_deep.g T.l_deep.F.kp T.l_deep.b .nil pass0) pa_nil))))))))))
        (pe_call (ok_l_draw T) (hr.mono (by decide)) (by rfl) T.l_draw.g T.l_draw.F.kp T.l_draw.b .nil pass0 (pa_cons (pv 1) (pa_cons pe_int pa_nil))) (fun _ _ => rfl))) <|
      pss_cons (ps_if (PW.pt (pw_or (pt_cmpR op_ne (pe_call (ok_l_said T M F) (hr.mono (by decide)) (by rfl) T.l_said.g T.l_said.F.kp T.l_said.b .nil passL (pa_cons (pv 4) (pa_cons (pv 3) pa_nil))) pe_str (nomark _))
        (pw_or1 (pt_cmpR op_ne (pe_call (ok_l_said T M F) (hr.mono (by decide)) (by rfl) T.l_said.g T.l_said.F.kp T.l_said.b .nil passL (pa_cons (pe_tup (pa_cons pe_int (pa_cons pe_int pa_nil))) (pa_cons (pv 3) pa_nil))) pe_str (nomark _))))) pss_never pss_nil) <|
      pss_one (ps_ret (pe_and (pe_cmpR (op_eqD hu) (pe_call (ok_l_said T M F) (hr.mono (by decide)) (by rfl) T.l_said.g T.l_said.F.kp T.l_said.b .nil passL (pa_cons (pe_tup (pa_cons pe_int (pa_cons pe_int pa_nil))) (pa_cons pe_int pa_nil))) (pe_tup (pa_cons pe_str (pa_cons pe_int pa_nil))) (nomark _))
        (pe_one (pe_cmpR op_eq (pe_call (ok_l_said T M F) (hr.mono (by decide)) (by rfl) T.l_said.g T.l_said.F.kp T.l_said.b .nil passL (pa_cons (pe_tup (pa_cons pe_int pa_nil)) (pa_cons pe_int pa_nil))) pe_int (nomark _))))), ?_⟩
    refine ⟨_, rfl, a, ns, rfl, hS, by omega, fun H1 p q s1 hP1 => ?_⟩
    refine ⟨_, rfl, p, q, 6, rfl, hP1, by decide, by decide, fun H2 d hP2 b2 d0 d1 => ⟨rfl, _, rfl, ?_⟩⟩
    refine two (Ok := fun H' => Pool H' p q) (H2 := H2) (fun r _ => ⟨_, rfl, p, q, rfl, hP2, fun H3 hP3 b3 => ⟨_, rfl, r H3 hP3⟩⟩) hP2 (fun H3 hP3 => iteF ?_)
    clear b2 hP2 hP1 d0 d1 s1 hS
    refine ⟨3, rfl, by decide, by decide, ?_⟩
    refine for_it walk_r0 (fun i σ H => (∃ y2 y5 y6 y7 y8 y9, σ = [some (.ref a), some (.ref p), y2, none, none, y5, y6, y7, y8, y9, none, none]) ∧ Pool H p q)
      ⟨⟨none, none, none, none, none, none, rfl⟩, hP3⟩ (fun _ _ _ _ _ => trivial) (fun i x σ H4 H5 hi hW hy => ?_) (fun σ H4 hW => ?_)
    · obtain ⟨⟨y2, y5, y6, y7, y8, y9, rfl⟩, hP4⟩ := hW
      obtain ⟨rfl, rfl⟩ := hy
      -- sizes
      refine ⟨_, rfl, p, q, 3, rfl, hP4, by decide, by decide, fun H6 d hP6 b6 d0 d1 => ?_⟩
      refine ⟨_, _, rfl, rfl, 1 + d, rfl, by omega, by omega, fun D hD => ?_⟩
      refine lc_draws (B := 3) hP6 hD (by omega) (fun _ => rfl) (fun i H2 R hP2 hR => ?_) (fun H7 l hP7 b7 hl hb eD => ?_)
      · exact ⟨_, rfl, p, q, 3, rfl, hP2, by decide, by decide, fun H3 d hP3 b3 d0 d1 => ⟨_, _, rfl, rfl, hR H3 d hP3 b3 d0 d1⟩⟩
      refine .inl ⟨D, _, rfl, SqL.of eD, fun t nt => ?_⟩
      have hs3 : ∀ x ∈ l, 1 ≤ x ∧ x ≤ 3 := fun x hx => ⟨(hb x hx).1, by have := (hb x hx).2; omega⟩
      have ok7 : OkS p q t (upd H7 t (.tup (nV l))) := ⟨hP7.wr (hP7.notNone nt), l, upd_same, mem_small (by omega) (by omega) hs3, ⟨by omega, by omega, fun x hx => ⟨(hs3 x hx).1, by have := (hs3 x hx).2; omega⟩⟩, by omega⟩
      generalize upd H7 t (.tup (nV l)) = H8 at *
      refine ⟨_, rfl, p, q, 3, rfl, ok7.1, by decide, by decide, fun H9 e hP9 b9 e0 e1 => ⟨rfl, _, rfl, ?_⟩⟩
      have ok9 : OkS p q t H9 := by
        obtain ⟨h1, l, h2, h3⟩ := ok7
        exact ⟨hP9, l, b9.tup h1 h2, h3⟩
      refine two3 (R := fun t H' => tNext _ (List.set _ 5 (some (.ref t))) H') (Ok := OkS p q) (t := t) (H2 := H9) ?_ ok9 ?_
      · intro r _
        refine ⟨line1 (Nat.le_add_left 1 999999), fun c nc => ?_⟩
        have hP10 : Pool (upd H9 c (.tup [.int 1])) p q := hP9.wr (hP9.notNone nc)
        refine ⟨_, rfl, p, q, 6, rfl, hP10, by decide, by decide, fun H11 d hP11 b11 d0 d1 => ?_⟩
        have ec := b11.tup hP10 (t := c) upd_same
        refine ⟨_, _, rfl, rfl, c, 1 + d, [.int 1], rfl, rfl, SqT.of ec, by simp, by omega, by omega, by show 1 ≤ 1000; decide, fun e => ?_, fun e g ng => ?_⟩
        · exact r c H11 ⟨hP11, [1], ec, mem_small_ones (k := 1) (by decide) (by decide), ⟨by decide, by decide, fun x hx => by (have e : x = 1 := by simpa using hx); rw [e]; exact ⟨by decide, by decide⟩⟩, by decide⟩
        · refine r g _ ⟨hP11.wr (hP11.notNone ng), List.replicate (1 + d).toNat 1, ?_, mem_small_ones (by omega) (by omega), ⟨?_, ?_, fun x hx => ?_⟩, ?_⟩
          · rw [upd_same, flat1]
            unfold nV
            rw [List.map_replicate]
            rfl
          · rw [List.length_replicate]
            omega
          · rw [List.length_replicate]
            omega
          · rw [(List.mem_replicate.mp hx).2]
            exact ⟨by decide, by decide⟩
          · rw [List.length_replicate]
            omega
      · intro t H10 ok
        clear ok9 ok7 b9 hP9 hP4 hP6 hP7 b7 b6
        obtain ⟨hP10, l, et, hsm, hg, hl6⟩ := ok
        refine ⟨_, rfl, t, nI l, rfl, SqT.of (by rw [← nI_V]; exact et), _, _, rfl, rfl, _, rfl, ?_⟩
        refine ite2 (fun h7 => ?_) (fun _ => ⟨⟨_, _, _, _, _, _, rfl⟩, hP10⟩)
        have h7 : (nI l).sum < 7 := of_decide_eq_true h7
        rw [nI_sum] at h7
        have h7 : l.sum < 7 := by omega
        -- allowed
        refine ⟨_, rfl, .ref t, l.length, rfl, .inr ⟨_, SqT.of et, (nV_len _).symm⟩, _, rfl, by omega, by omega, fun D hD => ?_⟩
        rw [Int.toNat_natCast]
        refine lc_it walk_r0 (fun i H3 => Same H10 H3 ∧ ∃ rs : List Addr, H3 D = some (.lst (rs.map V.ref)) ∧ rs.length = i ∧ ∀ j, j < i → ∃ r, rs[j]? = some r ∧ H3 r = some (.tup (nV (oth l.length j))))
          ⟨same_upd (Same.refl _) hD, [], upd_same, rfl, fun _ z => absurd z (Nat.not_lt_zero _)⟩ (fun _ _ _ _ => trivial) (fun i x H3 H4 hi hP hy => ?_) (fun H11 hP => ?_)
        · obtain ⟨rfl, rfl⟩ := hy
          obtain ⟨s3, rs, hDr, hrs, hrow⟩ := hP
          refine ⟨rfl, ?_⟩
          refine ⟨_, rfl, .ref t, l.length, rfl, .inr ⟨_, SqT.of (s3 _ _ et), (nV_len _).symm⟩, _, rfl, by omega, by omega, fun D2 hD2 => ?_⟩
          rw [Int.toNat_natCast]
          refine lc_keep walk_r0 (fun j => j != i) (fun j => .int ((j : Nat) : Int)) hD2 (by omega) (fun _ _ => trivial) (fun j y H5 H6 hj s5 hDl yy R R' hR hR' => ?_) (fun H5 s5 hl5 => ?_)
          · obtain ⟨rfl, rfl⟩ := yy
            refine ⟨rfl, _, rfl, _, rfl, rfl, _, rfl, ?_⟩
            by_cases hij : j = i
            · have hd : (!decide (V.int (j : Nat) = V.int (i : Nat))) = false := by rw [decide_eq_true (by rw [hij])]; rfl
              rw [hd]
              exact iteF (hR' (by simp [hij]) _ (Same.refl _))
            · have hd : (!decide (V.int (j : Nat) = V.int (i : Nat))) = true := by
                rw [decide_eq_false (fun z => hij (by have := V.int.inj z; omega))]
                rfl
              rw [hd]
              exact iteT ⟨_, rfl, hR (by simp [hij]) _ (Same.refl _)⟩
          · refine .inl ⟨D2, _, rfl, SqL.of hl5, fun r hr3 => ?_⟩
            have hDr5 := s5 _ _ hDr
            refine ⟨rs.map V.ref, same_upd (Same.refl _) hr3 _ _ hDr5, ?_, same_set (same_upd (s3.trans s5) hr3) hD, rs ++ [r], ?_, by rw [List.length_append, hrs]; rfl, fun j hj => ?_⟩
            · rw [List.length_map, hrs, sizeLine_eq]
              omega
            · rw [upd_same, List.map_append]
              rfl
            · have nrD : r ≠ D := ne_new hDr5 hr3
              by_cases hj2 : j < i
              · obtain ⟨r2, e1, e2⟩ := hrow j hj2
                refine ⟨r2, by rw [List.getElem?_append_left (by omega)]; exact e1, ?_⟩
                rw [upd_ne (ne_of e2 hDr (fun z => nomatch z)), upd_ne (ne_of_none (s5 _ _ e2) hr3)]
                exact s5 _ _ e2
              · have ej : j = i := by omega
                subst ej
                refine ⟨r, by rw [List.getElem?_append_right (by omega), hrs, Nat.sub_self]; rfl, ?_⟩
                rw [upd_ne nrD, upd_same]
                rfl
        obtain ⟨s3, rs, hDr, hrs, hrow⟩ := hP
        refine .inl ⟨D, _, rfl, SqL.of hDr, fun al nal => ?_⟩
        have s12 : Same H10 (upd H11 al (.tup (rs.map V.ref))) := same_upd s3 nal
        have hO : Oths (upd H11 al (.tup (rs.map V.ref))) al l.length := ⟨rs, upd_same, fun j hj => by
          obtain ⟨r, e1, e2⟩ := hrow j hj
          exact ⟨r, e1, same_upd (Same.refl _) nal _ _ e2⟩⟩
        generalize upd H11 al (.tup (rs.map V.ref)) = H12 at *
        have hP12 := hP10.same s12
        have et12 := s12 _ _ et
        have hpos : 1 ≤ l.sum := by
          have h1 := hg.2.2 _ (getD_mem (l := l) (i := 0) (by have := hg.1; omega))
          have := get_le_sum l 0
          omega
        -- due
        have hwl : (wide 0 l).length = l.sum := wide_length 0 l
        have hrl : (rowsL l).length = l.sum := by
          unfold rowsL
          rw [List.length_map, hwl]
        refine ⟨_, rfl, _, rfl, _, rfl, t, al, l, rfl, et12, by omega, hl6, hO, fun H13 r qs s13 er hT => ?_⟩
        refine ⟨r, qs, rowsL l, rfl, er, hT, by omega, by omega, fun b hb => ?_, fun H14 lp ys s14 elp hys => ?_⟩
        · unfold rowsL at hb
          obtain ⟨k, _, rfl⟩ := List.mem_map.mp hb
          unfold rowOf
          have := List.length_filter_le (fun i => (wide 0 l).getD i 0 != k) (List.range (wide 0 l).length)
          rw [List.length_range] at this
          omega
        refine ⟨.ref lp, ys.length, rfl, .inl ⟨_, SqL.of elp, rfl⟩, ?_⟩
        have s24 := s13.trans s14
        have hP14 := hP12.same s24
        have et14 := s24 _ _ et12
        -- the modulus
        refine ⟨_, _, rfl, rfl, ⟨by decide, by decide, by decide⟩, _, rfl, p, q, 1000, rfl, hP14, by decide, by decide, fun H15 e hP15 b15 e0 e1 => ⟨_, _, rfl, rfl, line1 (Nat.le_add_left 4 999996), fun D3 nD3 => ?_⟩⟩
        have hP16 := hP15.wr (x := .lst [V.int 1, .int 2, .int (10 ^ (30 : Int).toNat), .int (1 + e)]) (hP15.notNone nD3)
        refine ⟨_, rfl, p, q, 4, rfl, hP16, by decide, by decide, fun H17 d hP17 b17 d0 d1 => ?_⟩
        obtain ⟨m, hat, hm1, hm2⟩ := four e0 e1 d0 d1
        have eD17 := b17 D3 _ (hP15.notNone nD3).1 (hP15.notNone nD3).2 upd_same
        have et17 := b17.tup hP16 (same_upd (Same.refl _) nD3 _ _ (b15.tup hP14 et14))
        refine ⟨D3, _, _, _, rfl, rfl, SqL.of eD17, hat, ?_⟩
        -- said
        refine ⟨_, rfl, _, rfl, _, _, rfl, .inr (.inr (.inr (.inr ⟨t, l, m, rfl, et17, hg, rfl, hm1, hm2, by omega, fun H18 s18 => ?_⟩)))⟩
        refine ⟨_, rfl, _, rfl, .inl ⟨_, rfl, _, rfl, _, _, rfl, rfl, by omega, rfl, _, rfl, ?_⟩⟩
        have hval : Tn l % m = ((ys.length : Nat) : Int) % m := by rw [hys, brute_of hsm h7]
        rw [show (!decide (V.int (Tn l % m) = V.int (((ys.length : Nat) : Int) % m))) = false by rw [decide_eq_true (congrArg V.int hval)]; rfl]
        obtain ⟨ty, hty, e⟩ := kit_kn (x := .int (Tn l % m)) (H := H18) (K := K) (.inr (.inr (.inl ⟨_, rfl⟩))) (T := "bool") (.inr (.inl ⟨rfl, rfl⟩))
        refine iteF ⟨_, rfl, _, _, ty, _, _, rfl, .ty "bool", hty, e, _, rfl, ?_⟩
        exact iteF ⟨⟨_, _, _, _, _, _, rfl⟩, hP17.same s18⟩
    · obtain ⟨⟨y2, y5, y6, y7, y8, y9, rfl⟩, hP4⟩ := hW
      clear hP3
      refine ⟨_, rfl, p, q, 4, rfl, hP4, by decide, by decide, fun H5 d hP5 b5 d0 d1 => ⟨rfl, _, rfl, ?_⟩⟩
      refine two (Ok := fun H' => Pool H' p q) (H2 := H5) (fun r _ => ⟨_, rfl, _, rfl, _, _, rfl, rfl, ⟨by decide, by decide, by decide⟩, p, q, _, rfl, hP5, by decide, by decide, fun H6 e hP6 b6 e0 e1 => ⟨_, _, rfl, rfl, p, q, 1 + e, rfl, hP6, by omega, by (have e1 : e < 10 ^ 30 := e1); omega, fun H7 hP7 b7 => ⟨_, rfl, r H7 hP7⟩⟩⟩) hP5 (fun H6 hP6 => iteF ?_)
      clear hP5 b5 d0 d1 hP4
      -- odd
      refine ⟨1, rfl, _, _, rfl, rfl, ⟨by decide, by decide, by decide⟩, _, _, rfl, rfl, line1 (Nat.le_add_left 1 999999), fun c nc => ?_⟩
      have hP7 := hP6.wr (x := .tup [.int 7]) (hP6.notNone nc)
      have ec7 : (upd H6 c (.tup [.int 7])) c = some (.tup [.int 7]) := upd_same
      generalize upd H6 c (.tup [.int 7]) = H7 at *
      refine ⟨rfl, fun H8 da db ys s8 ea eb => ⟨line1 (Nat.le_add_left 8 999992), fun D nD => ?_⟩⟩
      have hP8 := hP7.same s8
      have ec8 := s8 _ _ ec7
      have hodd : ∀ x ∈ [V.int 0, .int (-1), .int (10 ^ (30 : Int).toNat + 1), .non, .bl true, .str "7", .ref c, .ref da], KnP K H8 p q x ∧ isW 1 (10 ^ 30) x = false := by
        intro x hx
        simp only [List.mem_cons, List.not_mem_nil, or_false] at hx
        rcases hx with rfl | rfl | rfl | rfl | rfl | rfl | rfl | rfl
        · exact ⟨KnP.int _, by decide⟩
        · exact ⟨KnP.int _, by decide⟩
        · exact ⟨KnP.int _, by decide⟩
        · exact ⟨KnP.non, rfl⟩
        · exact ⟨KnP.bl _, rfl⟩
        · exact ⟨KnP.str _, rfl⟩
        · exact ⟨KnP.tup hP8 ec8, rfl⟩
        · exact ⟨KnP.tup hP8 ea, rfl⟩
      have hP9 := hP8.wr (x := .lst [V.int 0, .int (-1), .int (10 ^ (30 : Int).toNat + 1), .non, .bl true, .str "7", .ref c, .ref da]) (hP8.notNone nD)
      refine ⟨_, rfl, p, q, 8, rfl, hP9, by decide, by decide, fun H10 d hP10 b10 d0 d1 => ?_⟩
      obtain ⟨odd, hat, hmem⟩ := at_mem (xs := [V.int 0, .int (-1), .int (10 ^ (30 : Int).toNat + 1), .non, .bl true, .str "7", .ref c, .ref da]) d0 d1
      have eD10 := b10 D _ (hP8.notNone nD).1 (hP8.notNone nD).2 upd_same
      have ho1 := (hodd odd hmem).1.but ((But.of (same_upd (Same.refl _) nD)).trans b10)
      have ho2 := (hodd odd hmem).2
      clear hodd hmem
      refine ⟨D, _, _, _, rfl, rfl, SqL.of eD10, hat, ?_⟩
      clear hat eD10 b10 hP9 nD ec8 hP8 ea eb s8 ec7 hP7 nc hP6
      -- wrong
      refine ⟨line1 (Nat.zero_le _), fun c1 n1 => ?_⟩
      have s1 : Same H10 (upd H10 c1 (.tup [])) := same_upd (Same.refl _) n1
      have e1 : (upd H10 c1 (.tup [])) c1 = some (.tup []) := upd_same
      generalize upd H10 c1 (.tup []) = H11 at *
      refine ⟨line1 (Nat.le_add_left 2 999998), fun c2 n2 => ?_⟩
      have s2 : Same H11 (upd H11 c2 (.lst [.int 1, .int 1])) := same_upd (Same.refl _) n2
      have e2 : (upd H11 c2 (.lst [.int 1, .int 1])) c2 = some (.lst [.int 1, .int 1]) := upd_same
      have k2 := (hP10.same s1).notNone n2
      generalize upd H11 c2 (.lst [.int 1, .int 1]) = H12 at *
      refine ⟨line1 (Nat.le_add_left 2 999998), fun c3 n3 => ?_⟩
      have s3 : Same H12 (upd H12 c3 (.tup [.int 0, .int 1])) := same_upd (Same.refl _) n3
      have e3 : (upd H12 c3 (.tup [.int 0, .int 1])) c3 = some (.tup [.int 0, .int 1]) := upd_same
      generalize upd H12 c3 (.tup [.int 0, .int 1]) = H13 at *
      refine ⟨line1 (Nat.le_add_left 2 999998), fun c4 n4 => ?_⟩
      have s4 : Same H13 (upd H13 c4 (.tup [.bl true, .int 1])) := same_upd (Same.refl _) n4
      have e4 : (upd H13 c4 (.tup [.bl true, .int 1])) c4 = some (.tup [.bl true, .int 1]) := upd_same
      generalize upd H13 c4 (.tup [.bl true, .int 1]) = H14 at *
      refine ⟨line1 (Nat.le_add_left 1 999999), fun c5 n5 => ?_⟩
      have s5 : Same H14 (upd H14 c5 (.tup [.int 1])) := same_upd (Same.refl _) n5
      refine ⟨c5, 9, [.int 1], rfl, rfl, SqT.of upd_same, by simp, by decide, by decide, by show 1 ≤ 1000; decide, fun z => absurd z (by decide), fun _ c6 n6 => ?_⟩
      have s6 : Same (upd H14 c5 (.tup [.int 1])) (upd (upd H14 c5 (.tup [.int 1])) c6 (.tup (List.replicate (9 : Int).toNat [V.int 1]).flatten)) := same_upd (Same.refl _) n6
      have e6 : (upd (upd H14 c5 (.tup [.int 1])) c6 (.tup (List.replicate (9 : Int).toNat [V.int 1]).flatten)) c6 = some (.tup (List.replicate (9 : Int).toNat [V.int 1]).flatten) := upd_same
      have s56 := s5.trans s6
      clear s5 s6
      generalize upd (upd H14 c5 (.tup [.int 1])) c6 (.tup (List.replicate (9 : Int).toNat [V.int 1]).flatten) = H16 at *
      refine ⟨rfl, fun H17 da db ys s7 ea eb => ⟨line1 (Nat.le_add_left 9 999991), fun D nD => ?_⟩⟩
      have s67 := s56.trans s7
      have s47 := s4.trans s67
      have s37 := s3.trans s47
      have s27 := s2.trans s37
      have s17 := s1.trans s27
      have hP17 := hP10.same s17
      have hwr : ∀ x ∈ [V.non, .ref c1, .ref c2, .ref c3, .ref c4, .ref c6, .int 0, .str "11", .ref da], WrP K H17 p q x := by
        intro x hx
        simp only [List.mem_cons, List.not_mem_nil, or_false] at hx
        rcases hx with rfl | rfl | rfl | rfl | rfl | rfl | rfl | rfl | rfl
        · exact .inl ⟨KnP.non, rfl⟩
        · exact .inr ⟨c1, [], rfl, s27 _ _ e1, (by intro z hz; cases hz), rfl⟩
        · refine .inl ⟨⟨.inr (.inr (.inr (.inr (.inl ⟨c2, _, rfl, s37 _ _ e2⟩)))), fun b z => by cases z; exact k2⟩, ?_⟩
          show tupO (H17 c2) = false
          rw [s37 _ _ e2]
          rfl
        · refine .inr ⟨c3, _, rfl, s47 _ _ e3, ?_, by decide⟩
          intro z hz
          simp only [List.mem_cons, List.not_mem_nil, or_false] at hz
          rcases hz with rfl | rfl
          · exact KnP.int _
          · exact KnP.int _
        · refine .inr ⟨c4, _, rfl, s67 _ _ e4, ?_, by decide⟩
          intro z hz
          simp only [List.mem_cons, List.not_mem_nil, or_false] at hz
          rcases hz with rfl | rfl
          · exact KnP.bl _
          · exact KnP.int _
        · refine .inr ⟨c6, _, rfl, s7 _ _ e6, ?_, by decide⟩
          intro z hz
          rw [flat1] at hz
          rw [(List.mem_replicate.mp hz).2]
          exact KnP.int _
        · exact .inl ⟨KnP.int _, rfl⟩
        · exact .inl ⟨KnP.str _, rfl⟩
        · refine .inr ⟨da, _, rfl, ea, ?_, rfl⟩
          intro z hz
          have e : z = .ref db := by simpa using hz
          rw [e]
          exact KnP.tup hP17 eb
      have hP18 := hP17.wr (x := .lst [V.non, .ref c1, .ref c2, .ref c3, .ref c4, .ref c6, .int 0, .str "11", .ref da]) (hP17.notNone nD)
      refine ⟨_, rfl, p, q, 9, rfl, hP18, by decide, by decide, fun H19 e hP19 b19 e0 e1' => ?_⟩
      obtain ⟨wrong, hat, hmem⟩ := at_mem (xs := [V.non, .ref c1, .ref c2, .ref c3, .ref c4, .ref c6, .int 0, .str "11", .ref da]) e0 e1'
      have eD19 := b19 D _ (hP17.notNone nD).1 (hP17.notNone nD).2 upd_same
      have b1019 : But p q H10 H19 := ((But.of s17).trans (But.of (same_upd (Same.refl _) nD))).trans b19
      have hw := (hwr wrong hmem).but hP17 ((But.of (same_upd (Same.refl _) nD)).trans b19)
      have ho3 := ho1.but b1019
      clear hwr hmem
      refine ⟨D, _, _, _, rfl, rfl, SqL.of eD19, hat, ?_⟩
      clear hat eD19 b19 hP18 ea eb e1 e2 e3 e4 e6
      -- said of it
      refine ⟨_, rfl, _, rfl, wrong, odd, rfl, said_wrong hw fun H20 s20 => ⟨rfl, _, rfl, ?_⟩⟩
      rw [show (!decide (V.str "sizes" = V.str "sizes")) = false by rw [decide_eq_true rfl]; rfl]
      refine iteF ⟨line1 (Nat.le_add_left 2 999998), fun g1 ng1 => ?_⟩
      refine ⟨_, rfl, _, _, rfl, .inr (.inr (.inl ⟨g1, [300, 200], rfl, upd_same, ⟨by decide, by decide, by decide⟩, ho3.1.same (same_upd s20 ng1), ho2, fun H21 s21 => ⟨rfl, _, rfl, ?_⟩⟩))⟩
      rw [show (!decide (V.str "number" = V.str "number")) = false by rw [decide_eq_true rfl]; rfl]
      refine iteF ?_
      -- the last row
      refine ⟨line1 (Nat.le_add_left 2 999998), fun g2 ng2 => ?_⟩
      refine ⟨_, _, rfl, .inr (.inr (.inr (.inl ⟨g2, [201, 200], 7, rfl, upd_same, ⟨by decide, by decide, by decide⟩, rfl, by decide, by decide, by decide, fun H22 g3 s22 e22 => ⟨line1 (Nat.le_add_left 2 999998), fun g4 ng4 => ?_⟩⟩)))⟩
      have s23 : Same H22 (upd H22 g4 (.tup [.str "many", .int 400])) := same_upd (Same.refl _) ng4
      refine ⟨.tuple [.str "many", .int 400], .tuple [.str "many", .int 400], .tup (SqT.of (s23 _ _ e22)) (.cons (.str _) (.cons (.int _) .nil)), .tup (SqT.of upd_same) (.cons (.str _) (.cons (.int _) .nil)), by decide +kernel, by decide +kernel, ?_⟩
      rw [show PyData.eqv (.tuple [.str "many", .int 400]) (.tuple [.str "many", .int 400]) = true by decide +kernel]
      refine ⟨_, rfl, iteT ⟨line1 (Nat.le_add_left 1 999999), fun g5 ng5 => ?_⟩⟩
      refine ⟨_, _, rfl, .inr (.inr (.inr (.inr ⟨g5, [5], 7, rfl, upd_same, ⟨by decide, by decide, by decide⟩, rfl, by decide, by decide, by decide, fun H23 s23 => ?_⟩)))⟩
      refine ⟨rfl, ?_⟩
      have h5 : Tn [5] = 0 := Tn_more (parts := []) (b := 5) (by decide)
      rw [h5]
      exact qq _
end
end Fo

/-! What the top has left; the law's head. -/
namespace Fo
open PySem PySem.Spec PyProof.Rows L2
theorem exm_any {K : PySem.W.Frag} {C S : Addr} {b : Bool} (h1 : PySem.W.subIn K (.ref S) (.type "BaseException") = some true) (h2 : PySem.W.isClsIn K S = true) (h3 : PySem.W.typeIn K (.ref S) = some (.type "type")) (h4 : PySem.W.subIn K (.ref C) (.ref S) = some b) :
    PySem.W.exmOne K (.ref C) (.ref S) = some b := by
  have e1 : (PySem.W.subIn K (.ref S) (.type "BaseException") == some true) = true := by rw [h1] <;> rfl
  have e2 : ((PySem.W.clsIn K S).isSome && PySem.W.typeIn K (.ref S) == some (.type "type")) = true := by
    have h2' : (PySem.W.clsIn K S).isSome = true := h2
    rw [h2', h3] <;> rfl
  show (if (PySem.W.subIn K (.ref S) (.type "BaseException") == some true) = true then (if ((PySem.W.clsIn K S).isSome && PySem.W.typeIn K (.ref S) == some (.type "type")) = true then PySem.W.subIn K (.ref C) (.ref S) else none) else none) = some b
  rw [if_pos e1, if_pos e2]
  exact h4
theorem loose_int {h : Heap} {v : Value} {i : Int} (r : PySem.W.ReadsLit h v (.int i) []) : ∃ t, v = .int i t := by
  cases r
  exact ⟨_, rfl⟩
/-- the goal that k_head leaves, where a constant stands among the loose names -/
theorem end_fo {l : PySem.W.OpenLaw} {n k : Nat} {q : Program} {loose : List Str} {lv : List (Str × PySem.W.WData)} {YP : World → Heap → Prop} {d : DefRec} {K : Params → PySem.W.Frag} {x : Str}
    (hn : l.most = some n) (hn2 : n ≤ sizeLine) (hdf : d.params.defaults = []) (hr : Room k callerA)
    (hY : ∀ (w : World) (h : Heap), YP w h → (K w.params).In h)
    (F : ∀ (w : World) (mg : Str → Option Value) (fa : Addr) (h : Heap), (K w.params).In h → h.Ns mainGlobals mg → PySem.W.LooseAre lv mg h → mg d.name = some (.ref fa) →
      ∃ fd : FuncData, (∀ (s : Shared) (u : Value), BindsTo s fd ⟨[u], []⟩ [(x, u)]) ∧
        ∀ base : Heap, (K w.params).In base → base.Ns mainGlobals mg → FnOk l.prog w (K w.params) mg base CX0 k fa fd [x] (spLaw (K w.params)))
    (h63 : n ≤ 63) :
    PySem.W.WalkO q loose (PySem.W.XL q lv) YP l.row.toRowW d [] (fun f vs => PySem.call f vs) := by
  refine Att.attach_call hn hdf fun w s₀ s₁ mg mb fa o pm cd doc a vs ns G Y ho hd hcd hmg hobj hints hlen hg => ?_
  have KX := hY w _ Y
  obtain ⟨fd, hb, hF⟩ := F w mg fa _ KX G.T.g G.X.2 hmg
  exact law_call KX G.T.g G.T.b G.T.builtins G.T.nolimit hg hobj hints (Nat.le_trans hlen hn2) hr hF hb (fun H hO hS => ⟨a, ns, rfl, hS, Nat.le_trans hlen h63, fun _ => rfl⟩) fun H e s' h => h
theorem all_mk {P : Program} {w : World} {K : PySem.W.Frag} {h : Heap} {mg : Str → Option Value} {fa : Addr} (X : K.In h) (G : h.Ns mainGlobals mg) (L : PySem.W.LooseAre [(PySem.Str.ofString "MOST_OF_KIND", PySem.W.WData.int 1000000000000000000000000000000)] mg h) (hfa : mg "law" = some (.ref fa))
    {f0 f1 f2 f3 f4 f5 f6 f7 f8 f9 f10 f11 f12 f13 f14 f15 f16 f17 f18 f19 f20 f21 f22 f23 f24 f25 f26 f27 f28 fI cda cc CK CN CS CD CM NM : Addr} {od0 od1 od2 od3 od4 od5 od6 od7 od8 od9 od10 od11 od12 od13 od14 od15 od16 od17 od18 od19 od20 od21 od22 od23 od24 od25 od26 od27 od28 an0 an1 an2 an3 an4 an5 an6 an7 an8 an9 an10 an11 an12 an13 an14 an15 an16 an17 an18 an19 an20 an21 an22 an23 an24 an25 an26 an27 an28 odI anI dd cdd cld : Option Addr} {sl0 sl1 sl2 sl3 sl4 sl5 sl6 sl7 sl8 sl9 sl10 sl11 sl12 sl13 sl14 sl15 sl16 sl17 sl18 sl19 sl20 sl21 sl22 sl23 sl24 sl25 sl26 sl27 sl28 slI ccs csl : Array (Option Value)} {oc0 oc1 oc2 oc3 oc4 oc5 oc6 oc7 oc8 oc9 oc10 oc11 oc12 oc13 oc14 oc15 oc16 oc17 oc18 oc19 oc20 oc21 oc22 oc23 oc24 oc25 oc26 oc27 oc28 kV0 kV1 kV2 kV3 kV4 kV5 kV6 kV7 kV8 kV9 kV10 kV11 kV12 kV13 kV14 kV15 kV16 kV17 kV18 kV19 kV20 kV21 kV22 kV23 kV24 kV25 kV26 kV27 kV28 dc0 dc1 dc2 dc3 dc4 dc5 dc6 dc7 dc8 dc9 dc10 dc11 dc12 dc13 dc14 dc15 dc16 dc17 dc18 dc19 dc20 dc21 dc22 dc23 dc24 dc25 dc26 dc27 dc28 pm0 pm1 pm2 pm3 pm4 pm5 pm6 pm7 pm8 pm9 pm10 pm11 pm12 pm13 pm14 pm15 pm16 pm17 pm18 pm19 pm20 pm21 pm22 pm23 pm24 pm25 pm26 pm27 pm28 cd0 cd1 cd2 cd3 cd4 cd5 cd6 cd7 cd8 cd9 cd10 cd11 cd12 cd13 cd14 cd15 cd16 cd17 cd18 cd19 cd20 cd21 cd22 cd23 cd24 cd25 cd26 cd27 cd28 ct0 ct1 ct2 ct3 ct4 ct5 ct6 ct7 ct8 ct9 ct10 ct11 ct12 ct13 ct14 ct15 ct16 ct17 ct18 ct19 ct20 ct21 ct22 ct23 ct24 ct25 ct26 ct27 ct28 ocI dcI pmI ctI ccl cl : Value} {tMOST_KINDS tMOST_COUNTED tMOST_STATES tMOST_FAMILIES tf : Tok}
    {nm q fl : Str} {bs bm sub : List Value} {sn : List Str} {ab : Bool} {col : Option Bool} {m0 m1 m2 m3 m5 : Option Value} {fvs : Array Value}
    (a1 : PySem.W.nsIn K mainGlobals "is_integer" = some (some (.ref f1)))
    (l1 : K.lookup f1 = some ⟨oc1, od1, .func (PySem.W.fnOf "is_integer" "is_integer" (defArgs s_is_integer) (defBody s_is_integer) (defScope s_is_integer) .none kV1 dc1 pm1 an1 cd1 ct1), sl1⟩)
    (c1 : PySem.W.codeIn K cd1 "is_integer" = true)
    (k1 : PySem.W.keepIn K (.ref f1) = true)
    (a2 : PySem.W.nsIn K mainGlobals "is_within" = some (some (.ref f2)))
    (l2 : K.lookup f2 = some ⟨oc2, od2, .func (PySem.W.fnOf "is_within" "is_within" (defArgs s_is_within) (defBody s_is_within) (defScope s_is_within) .none kV2 dc2 pm2 an2 cd2 ct2), sl2⟩)
    (c2 : PySem.W.codeIn K cd2 "is_within" = true)
    (k2 : PySem.W.keepIn K (.ref f2) = true)
    (a3 : PySem.W.nsIn K mainGlobals "are_ascending" = some (some (.ref f3)))
    (l3 : K.lookup f3 = some ⟨oc3, od3, .func (PySem.W.fnOf "are_ascending" "are_ascending" (defArgs s_are_ascending) (defBody s_are_ascending) (defScope s_are_ascending) .none kV3 dc3 pm3 an3 cd3 ct3), sl3⟩)
    (c3 : PySem.W.codeIn K cd3 "are_ascending" = true)
    (k3 : PySem.W.keepIn K (.ref f3) = true)
    (a4 : PySem.W.nsIn K mainGlobals "is_lot_of" = some (some (.ref f4)))
    (l4 : K.lookup f4 = some ⟨oc4, od4, .func (PySem.W.fnOf "is_lot_of" "is_lot_of" (defArgs s_is_lot_of) (defBody s_is_lot_of) (defScope s_is_lot_of) .none kV4 dc4 pm4 an4 cd4 ct4), sl4⟩)
    (c4 : PySem.W.codeIn K cd4 "is_lot_of" = true)
    (k4 : PySem.W.keepIn K (.ref f4) = true)
    (a5 : PySem.W.nsIn K mainGlobals "check_number" = some (some (.ref f5)))
    (l5 : K.lookup f5 = some ⟨oc5, od5, .func (PySem.W.fnOf "check_number" "check_number" (defArgs s_check_number) (defBody s_check_number) (defScope s_check_number) .none kV5 dc5 pm5 an5 cd5 ct5), sl5⟩)
    (c5 : PySem.W.codeIn K cd5 "check_number" = true)
    (k5 : PySem.W.keepIn K (.ref f5) = true)
    (a6 : PySem.W.nsIn K mainGlobals "check_many" = some (some (.ref f6)))
    (l6 : K.lookup f6 = some ⟨oc6, od6, .func (PySem.W.fnOf "check_many" "check_many" (defArgs s_check_many) (defBody s_check_many) (defScope s_check_many) .none kV6 dc6 pm6 an6 cd6 ct6), sl6⟩)
    (c6 : PySem.W.codeIn K cd6 "check_many" = true)
    (k6 : PySem.W.keepIn K (.ref f6) = true)
    (a7 : PySem.W.nsIn K mainGlobals "are_counts" = some (some (.ref f7)))
    (l7 : K.lookup f7 = some ⟨oc7, od7, .func (PySem.W.fnOf "are_counts" "are_counts" (defArgs s_are_counts) (defBody s_are_counts) (defScope s_are_counts) .none kV7 dc7 pm7 an7 cd7 ct7), sl7⟩)
    (c7 : PySem.W.codeIn K cd7 "are_counts" = true)
    (k7 : PySem.W.keepIn K (.ref f7) = true)
    (a8 : PySem.W.nsIn K mainGlobals "spread_out" = some (some (.ref f8)))
    (l8 : K.lookup f8 = some ⟨oc8, od8, .func (PySem.W.fnOf "spread_out" "spread_out" (defArgs s_spread_out) (defBody s_spread_out) (defScope s_spread_out) .none kV8 dc8 pm8 an8 cd8 ct8), sl8⟩)
    (c8 : PySem.W.codeIn K cd8 "spread_out" = true)
    (k8 : PySem.W.keepIn K (.ref f8) = true)
    (a9 : PySem.W.nsIn K mainGlobals "one_less" = some (some (.ref f9)))
    (l9 : K.lookup f9 = some ⟨oc9, od9, .func (PySem.W.fnOf "one_less" "one_less" (defArgs s_one_less) (defBody s_one_less) (defScope s_one_less) .none kV9 dc9 pm9 an9 cd9 ct9), sl9⟩)
    (c9 : PySem.W.codeIn K cd9 "one_less" = true)
    (k9 : PySem.W.keepIn K (.ref f9) = true)
    (a10 : PySem.W.nsIn K mainGlobals "after_person" = some (some (.ref f10)))
    (l10 : K.lookup f10 = some ⟨oc10, od10, .func (PySem.W.fnOf "after_person" "after_person" (defArgs s_after_person) (defBody s_after_person) (defScope s_after_person) .none kV10 dc10 pm10 an10 cd10 ct10), sl10⟩)
    (c10 : PySem.W.codeIn K cd10 "after_person" = true)
    (k10 : PySem.W.keepIn K (.ref f10) = true)
    (a11 : PySem.W.nsIn K mainGlobals "kinds_many" = some (some (.ref f11)))
    (l11 : K.lookup f11 = some ⟨oc11, od11, .func (PySem.W.fnOf "kinds_many" "kinds_many" (defArgs s_kinds_many) (defBody s_kinds_many) (defScope s_kinds_many) .none kV11 dc11 pm11 an11 cd11 ct11), sl11⟩)
    (c11 : PySem.W.codeIn K cd11 "kinds_many" = true)
    (k11 : PySem.W.keepIn K (.ref f11) = true)
    (a12 : PySem.W.nsIn K mainGlobals "check_sizes" = some (some (.ref f12)))
    (l12 : K.lookup f12 = some ⟨oc12, od12, .func (PySem.W.fnOf "check_sizes" "check_sizes" (defArgs s_check_sizes) (defBody s_check_sizes) (defScope s_check_sizes) .none kV12 dc12 pm12 an12 cd12 ct12), sl12⟩)
    (c12 : PySem.W.codeIn K cd12 "check_sizes" = true)
    (k12 : PySem.W.keepIn K (.ref f12) = true)
    (a13 : PySem.W.nsIn K mainGlobals "families" = some (some (.ref f13)))
    (l13 : K.lookup f13 = some ⟨oc13, od13, .func (PySem.W.fnOf "families" "families" (defArgs s_families) (defBody s_families) (defScope s_families) .none kV13 dc13 pm13 an13 cd13 ct13), sl13⟩)
    (c13 : PySem.W.codeIn K cd13 "families" = true)
    (k13 : PySem.W.keepIn K (.ref f13) = true)
    (a14 : PySem.W.nsIn K mainGlobals "own_names" = some (some (.ref f14)))
    (l14 : K.lookup f14 = some ⟨oc14, od14, .func (PySem.W.fnOf "own_names" "own_names" (defArgs s_own_names) (defBody s_own_names) (defScope s_own_names) .none kV14 dc14 pm14 an14 cd14 ct14), sl14⟩)
    (c14 : PySem.W.codeIn K cd14 "own_names" = true)
    (k14 : PySem.W.keepIn K (.ref f14) = true)
    (a15 : PySem.W.nsIn K mainGlobals "families_many" = some (some (.ref f15)))
    (l15 : K.lookup f15 = some ⟨oc15, od15, .func (PySem.W.fnOf "families_many" "families_many" (defArgs s_families_many) (defBody s_families_many) (defScope s_families_many) .none kV15 dc15 pm15 an15 cd15 ct15), sl15⟩)
    (c15 : PySem.W.codeIn K cd15 "families_many" = true)
    (k15 : PySem.W.keepIn K (.ref f15) = true)
    (a16 : PySem.W.nsIn K mainGlobals "_law_pool" = some (some (.ref f16)))
    (l16 : K.lookup f16 = some ⟨oc16, od16, .func (PySem.W.fnOf "_law_pool" "_law_pool" (defArgs s_l_pool) (defBody s_l_pool) (defScope s_l_pool) .none kV16 dc16 pm16 an16 cd16 ct16), sl16⟩)
    (c16 : PySem.W.codeIn K cd16 "_law_pool" = true)
    (k16 : PySem.W.keepIn K (.ref f16) = true)
    (a17 : PySem.W.nsIn K mainGlobals "_law_draw" = some (some (.ref f17)))
    (l17 : K.lookup f17 = some ⟨oc17, od17, .func (PySem.W.fnOf "_law_draw" "_law_draw" (defArgs s_l_draw) (defBody s_l_draw) (defScope s_l_draw) .none kV17 dc17 pm17 an17 cd17 ct17), sl17⟩)
    (c17 : PySem.W.codeIn K cd17 "_law_draw" = true)
    (k17 : PySem.W.keepIn K (.ref f17) = true)
    (a18 : PySem.W.nsIn K mainGlobals "_law_mixed" = some (some (.ref f18)))
    (l18 : K.lookup f18 = some ⟨oc18, od18, .func (PySem.W.fnOf "_law_mixed" "_law_mixed" (defArgs s_l_mixed) (defBody s_l_mixed) (defScope s_l_mixed) .none kV18 dc18 pm18 an18 cd18 ct18), sl18⟩)
    (c18 : PySem.W.codeIn K cd18 "_law_mixed" = true)
    (k18 : PySem.W.keepIn K (.ref f18) = true)
    (a19 : PySem.W.nsIn K mainGlobals "_law_all" = some (some (.ref f19)))
    (l19 : K.lookup f19 = some ⟨oc19, od19, .func (PySem.W.fnOf "_law_all" "_law_all" (defArgs s_l_all) (defBody s_l_all) (defScope s_l_all) .none kV19 dc19 pm19 an19 cd19 ct19), sl19⟩)
    (c19 : PySem.W.codeIn K cd19 "_law_all" = true)
    (k19 : PySem.W.keepIn K (.ref f19) = true)
    (a20 : PySem.W.nsIn K mainGlobals "_law_deep" = some (some (.ref f20)))
    (l20 : K.lookup f20 = some ⟨oc20, od20, .func (PySem.W.fnOf "_law_deep" "_law_deep" (defArgs s_l_deep) (defBody s_l_deep) (defScope s_l_deep) .none kV20 dc20 pm20 an20 cd20 ct20), sl20⟩)
    (c20 : PySem.W.codeIn K cd20 "_law_deep" = true)
    (k20 : PySem.W.keepIn K (.ref f20) = true)
    (a21 : PySem.W.nsIn K mainGlobals "_law_wide" = some (some (.ref f21)))
    (l21 : K.lookup f21 = some ⟨oc21, od21, .func (PySem.W.fnOf "_law_wide" "_law_wide" (defArgs s_l_wide) (defBody s_l_wide) (defScope s_l_wide) .none kV21 dc21 pm21 an21 cd21 ct21), sl21⟩)
    (c21 : PySem.W.codeIn K cd21 "_law_wide" = true)
    (k21 : PySem.W.keepIn K (.ref f21) = true)
    (a22 : PySem.W.nsIn K mainGlobals "_law_kind_rows" = some (some (.ref f22)))
    (l22 : K.lookup f22 = some ⟨oc22, od22, .func (PySem.W.fnOf "_law_kind_rows" "_law_kind_rows" (defArgs s_l_kind_rows) (defBody s_l_kind_rows) (defScope s_l_kind_rows) .none kV22 dc22 pm22 an22 cd22 ct22), sl22⟩)
    (c22 : PySem.W.codeIn K cd22 "_law_kind_rows" = true)
    (k22 : PySem.W.keepIn K (.ref f22) = true)
    (a23 : PySem.W.nsIn K mainGlobals "_law_orders" = some (some (.ref f23)))
    (l23 : K.lookup f23 = some ⟨oc23, od23, .func (PySem.W.fnOf "_law_orders" "_law_orders" (defArgs s_l_orders) (defBody s_l_orders) (defScope s_l_orders) .none kV23 dc23 pm23 an23 cd23 ct23), sl23⟩)
    (c23 : PySem.W.codeIn K cd23 "_law_orders" = true)
    (k23 : PySem.W.keepIn K (.ref f23) = true)
    (a24 : PySem.W.nsIn K mainGlobals "_law_said" = some (some (.ref f24)))
    (l24 : K.lookup f24 = some ⟨oc24, od24, .func (PySem.W.fnOf "_law_said" "_law_said" (defArgs s_l_said) (defBody s_l_said) (defScope s_l_said) .none kV24 dc24 pm24 an24 cd24 ct24), sl24⟩)
    (c24 : PySem.W.codeIn K cd24 "_law_said" = true)
    (k24 : PySem.W.keepIn K (.ref f24) = true)
    (a25 : PySem.W.nsIn K mainGlobals "_law_half_right" = some (some (.ref f25)))
    (l25 : K.lookup f25 = some ⟨oc25, od25, .func (PySem.W.fnOf "_law_half_right" "_law_half_right" (defArgs s_l_half_right) (defBody s_l_half_right) (defScope s_l_half_right) .none kV25 dc25 pm25 an25 cd25 ct25), sl25⟩)
    (c25 : PySem.W.codeIn K cd25 "_law_half_right" = true)
    (k25 : PySem.W.keepIn K (.ref f25) = true)
    (a26 : PySem.W.nsIn K mainGlobals "_law_by_signs" = some (some (.ref f26)))
    (l26 : K.lookup f26 = some ⟨oc26, od26, .func (PySem.W.fnOf "_law_by_signs" "_law_by_signs" (defArgs s_l_by_signs) (defBody s_l_by_signs) (defScope s_l_by_signs) .none kV26 dc26 pm26 an26 cd26 ct26), sl26⟩)
    (c26 : PySem.W.codeIn K cd26 "_law_by_signs" = true)
    (k26 : PySem.W.keepIn K (.ref f26) = true)
    (a27 : PySem.W.nsIn K mainGlobals "_law_many_right" = some (some (.ref f27)))
    (l27 : K.lookup f27 = some ⟨oc27, od27, .func (PySem.W.fnOf "_law_many_right" "_law_many_right" (defArgs s_l_many_right) (defBody s_l_many_right) (defScope s_l_many_right) .none kV27 dc27 pm27 an27 cd27 ct27), sl27⟩)
    (c27 : PySem.W.codeIn K cd27 "_law_many_right" = true)
    (k27 : PySem.W.keepIn K (.ref f27) = true)
    (a28 : PySem.W.nsIn K mainGlobals "law" = some (some (.ref f28)))
    (l28 : K.lookup f28 = some ⟨oc28, od28, .func (PySem.W.fnOf "law" "law" (defArgs s_law) (defBody s_law) (defScope s_law) .none kV28 dc28 pm28 an28 cd28 ct28), sl28⟩)
    (c28 : PySem.W.codeIn K cd28 "law" = true)
    (k28 : PySem.W.keepIn K (.ref f28) = true)
    (aK : PySem.W.nsIn K mainGlobals "Kinds" = some (some (.ref CK)))
    (iK : PySem.W.findIn K (.ref CK) "__init__" = some (some (.ref f0)))
    (l0 : K.lookup f0 = some ⟨oc0, od0, .func (PySem.W.fnOf "__init__" "Kinds.__init__" (defArgs s_Kinds_init) (defBody s_Kinds_init) (defScope s_Kinds_init) .none kV0 dc0 pm0 an0 cd0 ct0), sl0⟩)
    (c0 : PySem.W.codeIn K cd0 "Kinds.__init__" = true)
    (k0 : PySem.W.keepIn K (.ref f0) = true)
    (mK : PySem.W.makesIn K CK = true)
    (fK : PySem.W.isFn K (.ref f0) = true)
    (kK : PySem.W.keepIn K (.ref CK) = true)
    (pK : PySem.W.plainGet K CK Str.empty = true)
    (hK : PySem.W.hasDictIn K CK = true)
    (oK : PySem.W.plainOver K CK = true)
    (sK : PySem.W.findIn K (.ref CK) "__setattr__" = some (some (.builtin "object.__setattr__")))
    (n1 : PySem.W.findIn K (.ref CK) "people" = some none)
    (n2 : PySem.W.findIn K (.ref CK) "things" = some none)
    (n3 : PySem.W.findIn K (.ref CK) "allowed" = some none)
    (zMOST_KINDS : PySem.W.nsIn K mainGlobals "MOST_KINDS" = some (some (.int 8 tMOST_KINDS)))
    (zMOST_COUNTED : PySem.W.nsIn K mainGlobals "MOST_COUNTED" = some (some (.int 60 tMOST_COUNTED)))
    (zMOST_STATES : PySem.W.nsIn K mainGlobals "MOST_STATES" = some (some (.int 5000 tMOST_STATES)))
    (zMOST_FAMILIES : PySem.W.nsIn K mainGlobals "MOST_FAMILIES" = some (some (.int 400 tMOST_FAMILIES)))
    (bisinstance : PySem.W.nsIn K mainGlobals "isinstance" = some none)
    (bint : PySem.W.nsIn K mainGlobals "int" = some none)
    (bbool : PySem.W.nsIn K mainGlobals "bool" = some none)
    (btuple : PySem.W.nsIn K mainGlobals "tuple" = some none)
    (blist : PySem.W.nsIn K mainGlobals "list" = some none)
    (blen : PySem.W.nsIn K mainGlobals "len" = some none)
    (ball : PySem.W.nsIn K mainGlobals "all" = some none)
    (bzip : PySem.W.nsIn K mainGlobals "zip" = some none)
    (bsum : PySem.W.nsIn K mainGlobals "sum" = some none)
    (benumerate : PySem.W.nsIn K mainGlobals "enumerate" = some none)
    (brange : PySem.W.nsIn K mainGlobals "range" = some none)
    (bsorted : PySem.W.nsIn K mainGlobals "sorted" = some none)
    (babs : PySem.W.nsIn K mainGlobals "abs" = some none)
    (bsuper : PySem.W.nsIn K mainGlobals "super" = some none)
    (x1N : PySem.W.nsIn K mainGlobals "NoNumber" = some (some (.ref CN)))
    (x2N : PySem.W.excIn K CN [.type "ValueError", .type "Exception", .type "BaseException", .type "object"] "ValueError.__new__" = true)
    (x3N : PySem.W.keepIn K (.ref CN) = true)
    (x4N : PySem.W.subIn K (.ref CN) (.type "BaseException") = some true)
    (x5N : PySem.W.typeIn K (.ref CN) = some (.type "type"))
    (x6N : PySem.W.isClsIn K CN = true)
    (x1S : PySem.W.nsIn K mainGlobals "NoSizes" = some (some (.ref CS)))
    (x2S : PySem.W.excIn K CS [.type "ValueError", .type "Exception", .type "BaseException", .type "object"] "ValueError.__new__" = true)
    (x3S : PySem.W.keepIn K (.ref CS) = true)
    (x4S : PySem.W.subIn K (.ref CS) (.type "BaseException") = some true)
    (x5S : PySem.W.typeIn K (.ref CS) = some (.type "type"))
    (x6S : PySem.W.isClsIn K CS = true)
    (aD : PySem.W.nsIn K mainGlobals "DrawError" = some (some (.ref CD)))
    (aM : PySem.W.nsIn K mainGlobals "TooMany" = some (some (.ref CM)))
    (xM : K.lookup CM = some (excClassObj nm q CM NM bs bm true sn sub ab col dd m0 m1 m2 m3 m5 "ValueError.__new__"))
    (rM : PySem.HandSPX.refsVE bm = true)
    (g1 : PySem.W.findIn K (.ref CM) "__setattr__" = some (some (.builtin "object.__setattr__")))
    (g2 : PySem.W.findIn K (.ref CM) "__getattribute__" = some (some (.builtin "BaseException.__getattribute__")))
    (g3 : PySem.W.findIn K (.ref CM) "__getattr__" = some none)
    (g4 : PySem.W.findIn K (.ref CM) "most" = some none)
    (g5 : PySem.W.findIn K (.ref CM) "__init__" = some (some (.ref fI)))
    (g6 : PySem.W.typeIn K (.ref fI) = some (.type "function"))
    (g7 : PySem.W.keepIn K (.ref CM) = true)
    (g8 : PySem.W.subIn K (.ref CM) (.type "BaseException") = some true)
    (g9 : PySem.W.subIn K (.ref CM) (.type "ValueError") = some true)
    (h1 : PySem.W.typeIn K (.ref CM) = some (.type "type"))
    (h2 : PySem.W.hasDictIn K CM = true)
    (h3 : PySem.W.ks_superIn K CM CM "__init__" = some (some (.builtin "ValueError.__init__")))
    (h4 : PySem.W.mroIn K CM (.ref CM) = some true)
    (h5 : PySem.W.nsIn K PySem.cStatics "thirdparty.any" = some none)
    (h6 : (P.main.scope.names.lookup ("super" : Str)).isSome = false)
    (h7 : K.lookup fI = some ⟨ocI, odI, .func (PySem.W.ksFn "__init__" "TooMany.__init__" (defArgs s_TooMany_init) (defBody s_TooMany_init) (defScope s_TooMany_init) .none .none dcI pmI anI (.ref cda) ctI cc), slI⟩)
    (h8 : PySem.W.codeIn K (.ref cda) "TooMany.__init__" = true)
    (h9 : K.lookup cda = some ⟨ccl, cdd, .fields fvs, ccs⟩)
    (j1 : fvs[2]? = some (.str fl tf))
    (j2 : ((P.main.file : Str) == fl) = true)
    (j3 : K.lookup cc = some ⟨cl, cld, .cell (some (.ref CM)), csl⟩)
    (j4 : PySem.W.isClsIn K CM = true)
    (s11 : PySem.W.subIn K (.ref CS) (.ref CS) = some true)
    (s21 : PySem.W.subIn K (.ref CN) (.ref CS) = some false)
    (s22 : PySem.W.subIn K (.ref CN) (.ref CN) = some true)
    (s31 : PySem.W.subIn K (.ref CM) (.ref CS) = some false)
    (s32 : PySem.W.subIn K (.ref CM) (.ref CN) = some false)
    (s33 : PySem.W.subIn K (.ref CM) (.ref CM) = some true)
    : ∃ fd : FuncData, (∀ (s : Shared) (v : Value), BindsTo s fd ⟨[v], []⟩ [("_law_script", v)]) ∧ ∀ base : Heap, K.In base → base.Ns mainGlobals mg → FnOk P w K mg base CX0 9 fa fd ["_law_script"] (spLaw K) := by
  have e := hfa.symm.trans (PySem.W.mg_of X G a28)
  cases e
  obtain ⟨v, hv, hr⟩ := L.val _ List.mem_cons_self
  obtain ⟨tk, rfl⟩ := loose_int hr
  have F1 := fun_mk (st := s_is_integer) l1 c1 k1
  have F2 := fun_mk (st := s_is_within) l2 c2 k2
  have F3 := fun_mk (st := s_are_ascending) l3 c3 k3
  have F4 := fun_mk (st := s_is_lot_of) l4 c4 k4
  have F5 := fun_mk (st := s_check_number) l5 c5 k5
  have F6 := fun_mk (st := s_check_many) l6 c6 k6
  have F7 := fun_mk (st := s_are_counts) l7 c7 k7
  have F8 := fun_mk (st := s_spread_out) l8 c8 k8
  have F9 := fun_mk (st := s_one_less) l9 c9 k9
  have F10 := fun_mk (st := s_after_person) l10 c10 k10
  have F11 := fun_mk (st := s_kinds_many) l11 c11 k11
  have F12 := fun_mk (st := s_check_sizes) l12 c12 k12
  have F13 := fun_mk (st := s_families) l13 c13 k13
  have F14 := fun_mk (st := s_own_names) l14 c14 k14
  have F15 := fun_mk (st := s_families_many) l15 c15 k15
  have F16 := fun_mk (st := s_l_pool) l16 c16 k16
  have F17 := fun_mk (st := s_l_draw) l17 c17 k17
  have F18 := fun_mk (st := s_l_mixed) l18 c18 k18
  have F19 := fun_mk (st := s_l_all) l19 c19 k19
  have F20 := fun_mk (st := s_l_deep) l20 c20 k20
  have F21 := fun_mk (st := s_l_wide) l21 c21 k21
  have F22 := fun_mk (st := s_l_kind_rows) l22 c22 k22
  have F23 := fun_mk (st := s_l_orders) l23 c23 k23
  have F24 := fun_mk (st := s_l_said) l24 c24 k24
  have F25 := fun_mk (st := s_l_half_right) l25 c25 k25
  have F26 := fun_mk (st := s_l_by_signs) l26 c26 k26
  have F27 := fun_mk (st := s_l_many_right) l27 c27 k27
  have F28 := fun_mk (st := s_law) l28 c28 k28
  have F0 := fun_mk (st := s_Kinds_init) l0 c0 k0
  let T : Tx K mg :=
    {
      is_integer := ⟨⟨_, _, F1, F1.binds (ps := ["thing"]) fun _ _ _ _ _ _ us hl => match us, hl with | [_], _ => rfl⟩, PySem.W.mg_of X G a1⟩
      is_within := ⟨⟨_, _, F2, F2.binds (ps := ["thing", "least", "most"]) fun _ _ _ _ _ _ us hl => match us, hl with | [_, _, _], _ => rfl⟩, PySem.W.mg_of X G a2⟩
      are_ascending := ⟨⟨_, _, F3, F3.binds (ps := ["things"]) fun _ _ _ _ _ _ us hl => match us, hl with | [_], _ => rfl⟩, PySem.W.mg_of X G a3⟩
      is_lot_of := ⟨⟨_, _, F4, F4.binds (ps := ["thing", "many"]) fun _ _ _ _ _ _ us hl => match us, hl with | [_, _], _ => rfl⟩, PySem.W.mg_of X G a4⟩
      check_number := ⟨⟨_, _, F5, F5.binds (ps := ["thing", "least", "most"]) fun _ _ _ _ _ _ us hl => match us, hl with | [_, _, _], _ => rfl⟩, PySem.W.mg_of X G a5⟩
      check_many := ⟨⟨_, _, F6, F6.binds (ps := ["number", "most"]) fun _ _ _ _ _ _ us hl => match us, hl with | [_, _], _ => rfl⟩, PySem.W.mg_of X G a6⟩
      are_counts := ⟨⟨_, _, F7, F7.binds (ps := ["thing", "least"]) fun _ _ _ _ _ _ us hl => match us, hl with | [_, _], _ => rfl⟩, PySem.W.mg_of X G a7⟩
      spread_out := ⟨⟨_, _, F8, F8.binds (ps := ["numbers"]) fun _ _ _ _ _ _ us hl => match us, hl with | [_], _ => rfl⟩, PySem.W.mg_of X G a8⟩
      one_less := ⟨⟨_, _, F9, F9.binds (ps := ["numbers", "place"]) fun _ _ _ _ _ _ us hl => match us, hl with | [_, _], _ => rfl⟩, PySem.W.mg_of X G a9⟩
      after_person := ⟨⟨_, _, F10, F10.binds (ps := ["kinds", "kind", "counts", "modulus"]) fun _ _ _ _ _ _ us hl => match us, hl with | [_, _, _, _], _ => rfl⟩, PySem.W.mg_of X G a10⟩
      kinds_many := ⟨⟨_, _, F11, F11.binds (ps := ["kinds", "modulus"]) fun _ _ _ _ _ _ us hl => match us, hl with | [_, _], _ => rfl⟩, PySem.W.mg_of X G a11⟩
      check_sizes := ⟨⟨_, _, F12, F12.binds (ps := ["sizes"]) fun _ _ _ _ _ _ us hl => match us, hl with | [_], _ => rfl⟩, PySem.W.mg_of X G a12⟩
      families := ⟨⟨_, _, F13, F13.binds (ps := ["sizes"]) fun _ _ _ _ _ _ us hl => match us, hl with | [_], _ => rfl⟩, PySem.W.mg_of X G a13⟩
      own_names := ⟨⟨_, _, F14, F14.binds (ps := ["size"]) fun _ _ _ _ _ _ us hl => match us, hl with | [_], _ => rfl⟩, PySem.W.mg_of X G a14⟩
      families_many := ⟨⟨_, _, F15, F15.binds (ps := ["sizes", "modulus"]) fun _ _ _ _ _ _ us hl => match us, hl with | [_, _], _ => rfl⟩, PySem.W.mg_of X G a15⟩
      l_pool := ⟨⟨_, _, F16, F16.binds (ps := ["_law_script"]) fun _ _ _ _ _ _ us hl => match us, hl with | [_], _ => rfl⟩, PySem.W.mg_of X G a16⟩
      l_draw := ⟨⟨_, _, F17, F17.binds (ps := ["_law_pool_here", "_law_many"]) fun _ _ _ _ _ _ us hl => match us, hl with | [_, _], _ => rfl⟩, PySem.W.mg_of X G a17⟩
      l_mixed := ⟨⟨_, _, F18, F18.binds (ps := ["_law_pool_here", "_law_things"]) fun _ _ _ _ _ _ us hl => match us, hl with | [_, _], _ => rfl⟩, PySem.W.mg_of X G a18⟩
      l_all := ⟨⟨_, _, F19, F19.binds (ps := ["_law_rows"]) fun _ _ _ _ _ _ us hl => match us, hl with | [_], _ => rfl⟩, PySem.W.mg_of X G a19⟩
      l_deep := ⟨⟨_, _, F20, F20.binds (ps := []) fun _ _ _ _ _ _ us hl => match us, hl with | [], _ => rfl⟩, PySem.W.mg_of X G a20⟩
      l_wide := ⟨⟨_, _, F21, F21.binds (ps := ["_law_numbers"]) fun _ _ _ _ _ _ us hl => match us, hl with | [_], _ => rfl⟩, PySem.W.mg_of X G a21⟩
      l_kind_rows := ⟨⟨_, _, F22, F22.binds (ps := ["_law_people", "_law_things", "_law_allowed"]) fun _ _ _ _ _ _ us hl => match us, hl with | [_, _, _], _ => rfl⟩, PySem.W.mg_of X G a22⟩
      l_orders := ⟨⟨_, _, F23, F23.binds (ps := ["_law_many", "_law_modulus"]) fun _ _ _ _ _ _ us hl => match us, hl with | [_, _], _ => rfl⟩, PySem.W.mg_of X G a23⟩
      l_said := ⟨⟨_, _, F24, F24.binds (ps := ["_law_sizes", "_law_modulus"]) fun _ _ _ _ _ _ us hl => match us, hl with | [_, _], _ => rfl⟩, PySem.W.mg_of X G a24⟩
      l_half_right := ⟨⟨_, _, F25, F25.binds (ps := ["_law_pool_here", "_law_modulus"]) fun _ _ _ _ _ _ us hl => match us, hl with | [_, _], _ => rfl⟩, PySem.W.mg_of X G a25⟩
      l_by_signs := ⟨⟨_, _, F26, F26.binds (ps := ["_law_sizes"]) fun _ _ _ _ _ _ us hl => match us, hl with | [_], _ => rfl⟩, PySem.W.mg_of X G a26⟩
      l_many_right := ⟨⟨_, _, F27, F27.binds (ps := ["_law_pool_here"]) fun _ _ _ _ _ _ us hl => match us, hl with | [_], _ => rfl⟩, PySem.W.mg_of X G a27⟩
      law := ⟨⟨_, _, F28, F28.binds (ps := ["_law_script"]) fun _ _ _ _ _ _ us hl => match us, hl with | [_], _ => rfl⟩, PySem.W.mg_of X G a28⟩
      Kinds_init := ⟨f0, _, F0, F0.binds (ps := ["self", "people", "things", "allowed"]) fun _ _ _ _ _ _ us hl => match us, hl with | [_, _, _, _], _ => rfl⟩
      MOST_KINDS := ⟨tMOST_KINDS, PySem.W.mg_of X G zMOST_KINDS⟩
      MOST_COUNTED := ⟨tMOST_COUNTED, PySem.W.mg_of X G zMOST_COUNTED⟩
      MOST_STATES := ⟨tMOST_STATES, PySem.W.mg_of X G zMOST_STATES⟩
      MOST_FAMILIES := ⟨tMOST_FAMILIES, PySem.W.mg_of X G zMOST_FAMILIES⟩
      MOST_OF_KIND := ⟨tk, hv⟩
      z_isinstance := PySem.W.mg_none_of X G bisinstance
      z_int := PySem.W.mg_none_of X G bint
      z_bool := PySem.W.mg_none_of X G bbool
      z_tuple := PySem.W.mg_none_of X G btuple
      z_list := PySem.W.mg_none_of X G blist
      z_len := PySem.W.mg_none_of X G blen
      z_all := PySem.W.mg_none_of X G ball
      z_zip := PySem.W.mg_none_of X G bzip
      z_sum := PySem.W.mg_none_of X G bsum
      z_enumerate := PySem.W.mg_none_of X G benumerate
      z_range := PySem.W.mg_none_of X G brange
      z_sorted := PySem.W.mg_none_of X G bsorted
      z_abs := PySem.W.mg_none_of X G babs
      z_super := PySem.W.mg_none_of X G bsuper
      NoNumber := ⟨CN, PySem.W.mg_of X G x1N, x2N, x3N, x4N, x5N⟩
      NoSizes := ⟨CS, PySem.W.mg_of X G x1S, x2S, x3S, x4S, x5S⟩ }
  let M : TmAt P K mg :=
    { C := CM, fI := fI, gC := PySem.W.mg_of X G aM, cls := ⟨nm, q, NM, bs, bm, sn, sub, ab, col, dd, m0, m1, m2, m3, m5, xM, rM⟩, sa := g1, ga := g2, gg := g3, noM := g4, iC := g5, tI := g6, kC := g7, exC := g8, veC := g9, tyC := h1, hdC := h2, sup := h3, self := h4, third := h5,
      noS := PySem.W.mg_none_of X G bsuper, file := h6, fn := ⟨_, _, _, _, _, _, _, _, _, _, _, _, _, _, _, _, _, _, h7, h8, h9, j1, j2, j3⟩ }
  have Nk : KiAt K mg T.Kinds_init.f := ⟨CK, PySem.W.mg_of X G aK, ⟨mK, iK, fK, kK⟩, ⟨pK, hK, oK, sK⟩, n1, n2, n3⟩
  have EF : ExF T M := ⟨exm_any x4S x6S x5S s11, exm_any x4S x6S x5S s21, exm_any x4N x6N x5N s22, exm_any x4S x6S x5S s31, exm_any x4N x6N x5N s32, exm_any g8 j4 h1 s33, CD, PySem.W.mg_of X G aD⟩
  exact ⟨T.law.d, fun s v => .of_eq rfl, fun base _ _ => ok_law T M Nk EF⟩
end Fo

open PySem PySem.W PyProof.Rows
set_option maxHeartbeats 0 in
theorem PySem.Challenge.cw_fullorring_k83_whole_families_counted_holds : PySem.Challenge.rw_fullorring_k83_whole_families_counted.Holds := by
  w_on; o_law; k_head; (case hw => w_witness2)
  k_fill
  refine Fo.end_fo (l := PySem.Challenge.rw_fullorring_k83_whole_families_counted) (n := 63) (k := 9) (x := "_law_script") rfl (by decide) rfl ⟨rfl, by decide, by decide⟩ (fun w h Y => PySem.W.kIn_of Y) ?F (by decide)
  case F =>
    intro w mg fa h KX G L hmg
    refine' Fo.all_mk KX G L hmg ?a1 ?l1 ?c1 ?k1 ?a2 ?l2 ?c2 ?k2 ?a3 ?l3 ?c3 ?k3 ?a4 ?l4 ?c4 ?k4 ?a5 ?l5 ?c5 ?k5 ?a6 ?l6 ?c6 ?k6 ?a7 ?l7 ?c7 ?k7 ?a8 ?l8 ?c8 ?k8 ?a9 ?l9 ?c9 ?k9 ?a10 ?l10 ?c10 ?k10 ?a11 ?l11 ?c11 ?k11 ?a12 ?l12 ?c12 ?k12 ?a13 ?l13 ?c13 ?k13 ?a14 ?l14 ?c14 ?k14 ?a15 ?l15 ?c15 ?k15 ?a16 ?l16 ?c16 ?k16 ?a17 ?l17 ?c17 ?k17 ?a18 ?l18 ?c18 ?k18 ?a19 ?l19 ?c19 ?k19 ?a20 ?l20 ?c20 ?k20 ?a21 ?l21 ?c21 ?k21 ?a22 ?l22 ?c22 ?k22 ?a23 ?l23 ?c23 ?k23 ?a24 ?l24 ?c24 ?k24 ?a25 ?l25 ?c25 ?k25 ?a26 ?l26 ?c26 ?k26 ?a27 ?l27 ?c27 ?k27 ?a28 ?l28 ?c28 ?k28 ?aK ?iK ?l0 ?c0 ?k0 ?mK ?fK ?kK ?pK ?hK ?oK ?sK ?n1 ?n2 ?n3 ?zMOST_KINDS ?zMOST_COUNTED ?zMOST_STATES ?zMOST_FAMILIES ?bisinstance ?bint ?bbool ?btuple ?blist ?blen ?ball ?bzip ?bsum ?benumerate ?brange ?bsorted ?babs ?bsuper ?x1N ?x2N ?x3N ?x4N ?x5N ?x6N ?x1S ?x2S ?x3S ?x4S ?x5S ?x6S ?aD ?aM ?xM ?rM ?g1 ?g2 ?g3 ?g4 ?g5 ?g6 ?g7 ?g8 ?g9 ?h1 ?h2 ?h3 ?h4 ?h5 ?h6 ?h7 ?h8 ?h9 ?j1 ?j2 ?j3 ?j4 ?s11 ?s21 ?s22 ?s31 ?s32 ?s33
    (case a1 => k_is)
    (case l1 => k_is)
    (case c1 => k_is)
    (case k1 => k_is)
    (case a2 => k_is)
    (case l2 => k_is)
    (case c2 => k_is)
    (case k2 => k_is)
    (case a3 => k_is)
    (case l3 => k_is)
    (case c3 => k_is)
    (case k3 => k_is)
    (case a4 => k_is)
    (case l4 => k_is)
    (case c4 => k_is)
    (case k4 => k_is)
    (case a5 => k_is)
    (case l5 => k_is)
    (case c5 => k_is)
    (case k5 => k_is)
    (case a6 => k_is)
    (case l6 => k_is)
    (case c6 => k_is)
    (case k6 => k_is)
    (case a7 => k_is)
    (case l7 => k_is)
    (case c7 => k_is)
    (case k7 => k_is)
    (case a8 => k_is)
    (case l8 => k_is)
    (case c8 => k_is)
    (case k8 => k_is)
    (case a9 => k_is)
    (case l9 => k_is)
    (case c9 => k_is)
    (case k9 => k_is)
    (case a10 => k_is)
    (case l10 => k_is)
    (case c10 => k_is)
    (case k10 => k_is)
    (case a11 => k_is)
    (case l11 => k_is)
    (case c11 => k_is)
    (case k11 => k_is)
    (case a12 => k_is)
    (case l12 => k_is)
    (case c12 => k_is)
    (case k12 => k_is)
    (case a13 => k_is)
    (case l13 => k_is)
    (case c13 => k_is)
    (case k13 => k_is)
    (case a14 => k_is)
    (case l14 => k_is)
    (case c14 => k_is)
    (case k14 => k_is)
    (case a15 => k_is)
    (case l15 => k_is)
    (case c15 => k_is)
    (case k15 => k_is)
    (case a16 => k_is)
    (case l16 => k_is)
    (case c16 => k_is)
    (case k16 => k_is)
    (case a17 => k_is)
    (case l17 => k_is)
    (case c17 => k_is)
    (case k17 => k_is)
    (case a18 => k_is)
    (case l18 => k_is)
    (case c18 => k_is)
    (case k18 => k_is)
    (case a19 => k_is)
    (case l19 => k_is)
    (case c19 => k_is)
    (case k19 => k_is)
    (case a20 => k_is)
    (case l20 => k_is)
    (case c20 => k_is)
    (case k20 => k_is)
    (case a21 => k_is)
    (case l21 => k_is)
    (case c21 => k_is)
    (case k21 => k_is)
    (case a22 => k_is)
    (case l22 => k_is)
    (case c22 => k_is)
    (case k22 => k_is)
    (case a23 => k_is)
    (case l23 => k_is)
    (case c23 => k_is)
    (case k23 => k_is)
    (case a24 => k_is)
    (case l24 => k_is)
    (case c24 => k_is)
    (case k24 => k_is)
    (case a25 => k_is)
    (case l25 => k_is)
    (case c25 => k_is)
    (case k25 => k_is)
    (case a26 => k_is)
    (case l26 => k_is)
    (case c26 => k_is)
    (case k26 => k_is)
    (case a27 => k_is)
    (case l27 => k_is)
    (case c27 => k_is)
    (case k27 => k_is)
    (case a28 => k_is)
    (case l28 => k_is)
    (case c28 => k_is)
    (case k28 => k_is)
    (case aK => k_is)
    (case iK => k_is)
    (case l0 => k_is)
    (case c0 => k_is)
    (case k0 => k_is)
    (case mK => k_is)
    (case fK => k_is)
    (case kK => k_is)
    (case pK => k_is)
    (case hK => k_is)
    (case oK => k_is)
    (case sK => k_is)
    (case n1 => k_is)
    (case n2 => k_is)
    (case n3 => k_is)
    (case zMOST_KINDS => k_is)
    (case zMOST_COUNTED => k_is)
    (case zMOST_STATES => k_is)
    (case zMOST_FAMILIES => k_is)
    (case bisinstance => k_is)
    (case bint => k_is)
    (case bbool => k_is)
    (case btuple => k_is)
    (case blist => k_is)
    (case blen => k_is)
    (case ball => k_is)
    (case bzip => k_is)
    (case bsum => k_is)
    (case benumerate => k_is)
    (case brange => k_is)
    (case bsorted => k_is)
    (case babs => k_is)
    (case bsuper => k_is)
    (case x1N => k_is)
    (case x2N => k_exc)
    (case x3N => k_is)
    (case x4N => k_is)
    (case x5N => k_is)
    (case x6N => k_is)
    (case x1S => k_is)
    (case x2S => k_exc)
    (case x3S => k_is)
    (case x4S => k_is)
    (case x5S => k_is)
    (case x6S => k_is)
    (case aD => k_is)
    (case aM => k_is)
    (case xM => k_is)
    (case rM => decide +kernel)
    (case g1 => k_is)
    (case g2 => k_is)
    (case g3 => k_is)
    (case g4 => k_is)
    (case g5 => k_is)
    (case g6 => k_is)
    (case g7 => k_is)
    (case g8 => k_is)
    (case g9 => k_is)
    (case h1 => k_is)
    (case h2 => k_is)
    (case h3 => ks_is)
    (case h4 => k_is)
    (case h5 => k_is)
    (case h6 => rfl)
    (case h7 => k_is)
    (case h8 => k_is)
    (case h9 => k_is)
    (case j1 => rfl)
    (case j2 => decide +kernel)
    (case j3 => k_is)
    (case j4 => k_is)
    (case s11 => k_is)
    (case s21 => k_is)
    (case s22 => k_is)
    (case s31 => k_is)
    (case s32 => k_is)
    (case s33 => k_is)
