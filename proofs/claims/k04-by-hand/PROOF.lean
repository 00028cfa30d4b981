import PyProof.Rows.All
import Wide.All
import OpenK.AllK
import Wide.FinOn
import HandS.ForMost
import HandS.IsInst
import HandS.Wide
import HandS.Exc
import HandS.Lambda
import HandS.EndBits
import HandS.EndTab
import HandS.Style
import HandS.SortInts
import KE.IntBitsLaws
import HandS.Nested
import HandS.Conv
import KE.SortKeyHeap
import KE.KSortKey
import PySem.Challenge.RW_evenpowers_k04_answers_by_hand
import HandS.Codes
import HandS.Zip
import HandS.More
import HandS.SetFor
set_option linter.all false
namespace Ep
/-! ### sums by powers -/
def sumTo : Nat → (Nat → Int) → Int
  | 0, _ => 0
  | k + 1, F => sumTo k F + F k
theorem sumTo_congr : ∀ (k : Nat) (F G : Nat → Int), (∀ i, i < k → F i = G i) → sumTo k F = sumTo k G
  | 0, _, _, _ => rfl
  | k + 1, F, G, h => by
    show sumTo k F + F k = sumTo k G + G k
    rw [sumTo_congr k F G (fun i hi => h i (by omega)), h k (by omega)]
theorem sumTo_add (k : Nat) (F G : Nat → Int) : sumTo k (fun i => F i + G i) = sumTo k F + sumTo k G := by
  induction k with
  | zero => rfl
  | succ k ih =>
    show sumTo k (fun i => F i + G i) + (F k + G k) = (sumTo k F + F k) + (sumTo k G + G k)
    rw [ih]; omega
theorem sumTo_mul (c : Int) (k : Nat) (F : Nat → Int) : sumTo k (fun i => c * F i) = c * sumTo k F := by
  induction k with
  | zero => exact (Int.mul_zero c).symm
  | succ k ih =>
    show sumTo k (fun i => c * F i) + c * F k = c * (sumTo k F + F k)
    rw [ih, Int.mul_add]
theorem sumTo_first (k : Nat) (F : Nat → Int) : sumTo (k + 1) F = F 0 + sumTo k (fun i => F (i + 1)) := by
  induction k with
  | zero => show 0 + F 0 = F 0 + 0; omega
  | succ k ih =>
    show sumTo (k + 1) F + F (k + 1) = F 0 + (sumTo k (fun i => F (i + 1)) + F (k + 1))
    rw [ih]; omega
theorem sumTo_zero (k : Nat) (F : Nat → Int) (h : ∀ i, i < k → F i = 0) : sumTo k F = 0 := by
  rw [sumTo_congr k F (fun _ => 0) h]
  induction k with
  | zero => rfl
  | succ k ih => show sumTo k (fun _ => 0) + 0 = 0; rw [ih (fun i hi => h i (by omega))]; rfl

/-- the sum of l by the power k -/
def psum (l : List Int) (k : Nat) : Int := (l.map (· ^ k)).sum
theorem psum_nil (k : Nat) : psum [] k = 0 := rfl
theorem psum_cons (a : Int) (l : List Int) (k : Nat) : psum (a :: l) k = a ^ k + psum l k := by
  unfold psum; rw [List.map_cons, List.sum_cons]
theorem psum_append (l m : List Int) (k : Nat) : psum (l ++ m) k = psum l k + psum m k := by
  induction l with
  | nil => rw [List.nil_append, psum_nil]; omega
  | cons a l ih => rw [List.cons_append, psum_cons, psum_cons, ih]; omega
theorem psum_perm {l m : List Int} (h : l.Perm m) (k : Nat) : psum l k = psum m k := by
  induction h with
  | nil => rfl
  | cons x _ ih => rw [psum_cons, psum_cons, ih]
  | swap x y l => rw [psum_cons, psum_cons, psum_cons, psum_cons]; omega
  | trans _ _ a b => rw [a, b]
theorem psum_zero (l : List Int) : psum l 0 = l.length := by
  induction l with
  | nil => rfl
  | cons a l ih => rw [psum_cons, ih, List.length_cons, Int.pow_zero]; omega

/-! ### Newton -/
/-- the coefficient of t^k in the product of (1 - a t) -/
def el : List Int → Nat → Int
  | [], 0 => 1
  | [], _ + 1 => 0
  | _ :: l, 0 => el l 0
  | a :: l, k + 1 => el l (k + 1) - a * el l k
def pe (l : List Int) : Nat → Int
  | 0 => 0
  | k + 1 => el l k
theorem el_cons (a : Int) (l : List Int) (k : Nat) : el (a :: l) k = el l k - a * pe l k := by
  cases k with
  | zero => show el l 0 = el l 0 - a * 0; omega
  | succ k => rfl
theorem el_zero : ∀ l : List Int, el l 0 = 1
  | [] => rfl
  | _ :: l => el_zero l
/-- the sum that Newton's rule speaks of -/
def cv (l : List Int) (p : Nat → Int) (k : Nat) : Int := sumTo k fun i => el l (k - 1 - i) * p (i + 1)
theorem cv_pe (l : List Int) (p : Nat → Int) (m : Nat) : sumTo (m + 1) (fun i => pe l (m - i) * p (i + 1)) = cv l p m := by
  show sumTo m (fun i => pe l (m - i) * p (i + 1)) + pe l (m - m) * p (m + 1) = _
  have e : m - m = 0 := by omega
  rw [e]
  show _ + 0 * _ = _
  rw [Int.zero_mul, Int.add_zero]
  refine sumTo_congr m _ _ fun i hi => ?_
  have e2 : m - i = (m - 1 - i) + 1 := by omega
  rw [e2]
  rfl
theorem newton : ∀ (l : List Int) (k : Nat), (k : Int) * el l k + cv l (psum l) k = 0
  | [], 0 => rfl
  | [], k + 1 => by
    have h : cv [] (psum []) (k + 1) = 0 := sumTo_zero _ _ fun i _ => by rw [psum_nil, Int.mul_zero]
    rw [h]
    show ((k + 1 : Nat) : Int) * 0 + 0 = 0
    omega
  | a :: l, 0 => by
    show ((0 : Nat) : Int) * _ + 0 = 0
    rw [Int.natCast_zero, Int.zero_mul]; rfl
  | a :: l, m + 1 => by
    have h1 := newton l (m + 1)
    have h0 := newton l m
    have s1 : cv (a :: l) (psum (a :: l)) (m + 1) = sumTo (m + 1) (fun i => el l (m - i) * a ^ (i + 1)) + (-a) * sumTo (m + 1) (fun i => pe l (m - i) * a ^ (i + 1)) + cv l (psum l) (m + 1) + (-a) * cv l (psum l) m := by
      rw [← cv_pe l (psum l) m]
      have e1 : cv l (psum l) (m + 1) = sumTo (m + 1) fun i => el l (m - i) * psum l (i + 1) := rfl
      rw [e1, ← sumTo_mul, ← sumTo_mul, ← sumTo_add, ← sumTo_add, ← sumTo_add]
      refine sumTo_congr _ _ _ fun i _ => ?_
      have e3 : m + 1 - 1 - i = m - i := by omega
      rw [e3, el_cons, psum_cons]
      grind
    have s2 : sumTo (m + 1) (fun i => el l (m - i) * a ^ (i + 1)) = el l m * a + a * cv l (fun j => a ^ j) m := by
      rw [sumTo_first]
      have e : cv l (fun j => a ^ j) m = sumTo m fun i => el l (m - 1 - i) * a ^ (i + 1) := rfl
      rw [e, ← sumTo_mul]
      have e2 : m - 0 = m := rfl
      rw [e2, Int.pow_succ, Int.pow_zero, Int.one_mul]
      congr 1
      refine sumTo_congr _ _ _ fun i _ => ?_
      have e3 : m - (i + 1) = m - 1 - i := by omega
      rw [e3]
      grind
    have s3 : sumTo (m + 1) (fun i => pe l (m - i) * a ^ (i + 1)) = cv l (fun j => a ^ j) m := cv_pe l (fun j => a ^ j) m
    rw [s1, s2, s3, el_cons]
    show ((m + 1 : Nat) : Int) * (el l (m + 1) - a * el l m) + _ = 0
    have em : ((m + 1 : Nat) : Int) = (m : Int) + 1 := by omega
    rw [em] at h1 ⊢
    generalize cv l (psum l) (m + 1) = A at *
    generalize cv l (psum l) m = B at *
    generalize cv l (fun j => a ^ j) m = C at *
    generalize el l (m + 1) = E1 at *
    generalize el l m = E0 at *
    generalize (m : Int) = z at *
    grind
/-- sums by 1 .. n alike: the coefficients to n alike -/
theorem el_alike {l m : List Int} {n : Nat} (h : ∀ k, k ≤ n → psum l k = psum m k) : ∀ k, k ≤ n → el l k = el m k := by
  intro k
  induction k using Nat.strongRecOn with
  | ind k ih =>
    intro hk
    by_cases h0 : k = 0
    · rw [h0, el_zero, el_zero]
    · have a := newton l k
      have b := newton m k
      have e : cv l (psum l) k = cv m (psum m) k := sumTo_congr _ _ _ fun i hi => by
        rw [ih (k - 1 - i) (by omega) (by omega), h (i + 1) (by omega)]
      rw [e] at a
      have z : (k : Int) * el l k = (k : Int) * el m k := by omega
      exact Int.eq_of_mul_eq_mul_left (by omega) z
/-! ### the product of (x - a) -/
def pr (x : Int) : List Int → Int
  | [] => 1
  | a :: l => (x - a) * pr x l
/-- the product by its coefficients: el l 0 x^n + el l 1 x^(n-1) + .. -/
def ev (l : List Int) (n : Nat) (x : Int) : Int := sumTo (n + 1) fun i => el l i * x ^ (n - i)
theorem el_over : ∀ (l : List Int) (k : Nat), l.length < k → el l k = 0
  | [], k + 1, _ => rfl
  | a :: l, k + 1, h => by
    have h : l.length + 1 < k + 1 := h
    show el l (k + 1) - a * el l k = 0
    rw [el_over l (k + 1) (by omega), el_over l k (by omega)]
    omega
theorem pr_ev : ∀ (l : List Int) (x : Int), pr x l = ev l l.length x
  | [], x => by
    show 1 = 0 + 1 * x ^ 0
    rw [Int.pow_zero]; rfl
  | a :: l, x => by
    have ih := pr_ev l x
    show (x - a) * pr x l = sumTo (l.length + 1 + 1) fun i => el (a :: l) i * x ^ (l.length + 1 - i)
    have s1 : sumTo (l.length + 1 + 1) (fun i => el (a :: l) i * x ^ (l.length + 1 - i)) = sumTo (l.length + 1 + 1) (fun i => el l i * x ^ (l.length + 1 - i)) + (-a) * sumTo (l.length + 1 + 1) (fun i => pe l i * x ^ (l.length + 1 - i)) := by
      rw [← sumTo_mul, ← sumTo_add]
      refine sumTo_congr _ _ _ fun i _ => ?_
      rw [el_cons]; grind
    have s2 : sumTo (l.length + 1 + 1) (fun i => el l i * x ^ (l.length + 1 - i)) = x * ev l l.length x := by
      show sumTo (l.length + 1) (fun i => el l i * x ^ (l.length + 1 - i)) + el l (l.length + 1) * _ = _
      rw [el_over l (l.length + 1) (by omega), Int.zero_mul, Int.add_zero]
      unfold ev
      rw [← sumTo_mul]
      refine sumTo_congr _ _ _ fun i hi => ?_
      have e : l.length + 1 - i = (l.length - i) + 1 := by omega
      rw [e, Int.pow_succ]; grind
    have s3 : sumTo (l.length + 1 + 1) (fun i => pe l i * x ^ (l.length + 1 - i)) = ev l l.length x := by
      rw [sumTo_first]
      show 0 * _ + _ = _
      rw [Int.zero_mul, Int.zero_add]
      refine sumTo_congr _ _ _ fun i hi => ?_
      have e : l.length + 1 - (i + 1) = l.length - i := by omega
      rw [e]; rfl
    rw [s1, s2, s3, ih]; grind
theorem pr_zero {x : Int} : ∀ {l : List Int}, pr x l = 0 → x ∈ l
  | [], h => by
    have h : (1 : Int) = 0 := h
    omega
  | a :: l, h => by
    rcases Int.mul_eq_zero.mp (show (x - a) * pr x l = 0 from h) with e | e
    · have : x = a := by omega
      rw [this]; exact List.mem_cons_self
    · exact List.mem_cons_of_mem _ (pr_zero e)
theorem pr_mem {x : Int} : ∀ {l : List Int}, x ∈ l → pr x l = 0
  | a :: l, h => by
    show (x - a) * pr x l = 0
    rcases List.mem_cons.mp h with e | e
    · rw [e, Int.sub_self, Int.zero_mul]
    · rw [pr_mem e, Int.mul_zero]
/-- two lists of n numbers whose sums by 0 .. n are alike have a number in common -/
theorem share {a : Int} {l m : List Int} (h : ∀ k, k ≤ l.length + 1 → psum (a :: l) k = psum m k) : a ∈ m := by
  have hl : m.length = l.length + 1 := by
    have q := h 0 (by omega)
    rw [psum_zero, psum_zero, List.length_cons] at q
    omega
  have e := el_alike h
  refine pr_zero ?_
  rw [pr_ev, hl]
  have z : pr a (a :: l) = 0 := pr_mem List.mem_cons_self
  rw [pr_ev, List.length_cons] at z
  rw [← z]
  unfold ev
  exact sumTo_congr _ _ _ fun i hi => by rw [e i (by omega)]
/-- sums by 0 .. the greater count alike: the same numbers -/
theorem same_of_sums : ∀ (l m : List Int), (∀ k, k ≤ max l.length m.length → psum l k = psum m k) → l.Perm m
  | [], m, h => by
    have q := h 0 (by omega)
    rw [psum_zero, psum_zero] at q
    have : m = [] := List.length_eq_zero_iff.mp (by simp at q; omega)
    rw [this]
  | a :: l, m, h => by
    have hm : a ∈ m := share fun k hk => h k (by rw [List.length_cons]; omega)
    have p : m.Perm (a :: m.erase a) := List.perm_cons_erase hm
    refine (List.Perm.cons a (same_of_sums l (m.erase a) fun k hk => ?_)).trans p.symm
    have q := h k (by
      have := p.length_eq
      rw [List.length_cons] at this ⊢
      omega)
    rw [psum_perm p, psum_cons, psum_cons] at q
    omega
/-- the same numbers or a power, at most the greater count, by which the sums are unlike -/
theorem unlike_at {l m : List Int} (h : ¬ l.Perm m) : ∃ k, k ≤ max l.length m.length ∧ psum l k ≠ psum m k := by
  apply Classical.byContradiction
  intro z
  refine h (same_of_sums l m fun k hk => ?_)
  apply Classical.byContradiction
  intro e
  exact z ⟨k, hk, e⟩
end Ep
namespace Ep
/-! ### functions of a degree -/
/-- g is a polynomial of degree at most d, c stands before x^d -/
def Deg : Nat → Int → (Int → Int) → Prop
  | 0, c, g => ∀ x, g x = c
  | d + 1, c, g => ∃ c' g', Deg d c' g' ∧ ∀ x, g x = c * x ^ (d + 1) + g' x
theorem Deg.congr : ∀ {d : Nat} {c c' : Int} {g h : Int → Int}, Deg d c g → (∀ x, h x = g x) → c' = c → Deg d c' h
  | 0, c, c', g, h, a, e, ec => fun x => by rw [e, a x, ec]
  | d + 1, c, c', g, h, ⟨c1, g1, a, b⟩, e, ec => ⟨c1, g1, a, fun x => by rw [e, b, ec]⟩
theorem Deg.add : ∀ {d : Nat} {c c' : Int} {g h : Int → Int}, Deg d c g → Deg d c' h → Deg d (c + c') fun x => g x + h x
  | 0, c, c', g, h, a, b => fun x => by dsimp only; rw [a x, b x]
  | d + 1, c, c', g, h, ⟨c1, g1, a1, b1⟩, ⟨c2, g2, a2, b2⟩ => ⟨_, _, a1.add a2, fun x => by dsimp only; rw [b1, b2]; grind⟩
theorem Deg.smul (t : Int) : ∀ {d : Nat} {c : Int} {g : Int → Int}, Deg d c g → Deg d (t * c) fun x => t * g x
  | 0, c, g, a => fun x => by dsimp only; rw [a x]
  | d + 1, c, g, ⟨c1, g1, a, b⟩ => ⟨_, _, a.smul t, fun x => by dsimp only; rw [b]; grind⟩
theorem Deg.up {d : Nat} {c : Int} {g : Int → Int} (a : Deg d c g) : Deg (d + 1) 0 g := ⟨c, g, a, fun x => by rw [Int.zero_mul, Int.zero_add]⟩
theorem Deg.mulx : ∀ {d : Nat} {c : Int} {g : Int → Int}, Deg d c g → Deg (d + 1) c fun x => x * g x
  | 0, c, g, a => ⟨0, fun _ => 0, fun _ => rfl, fun x => by dsimp only; rw [a x]; grind⟩
  | d + 1, c, g, ⟨c1, g1, a, b⟩ => ⟨_, _, a.mulx, fun x => by dsimp only; rw [b]; grind⟩
theorem deg_affine (t c : Int) : ∀ d : Nat, Deg d (t ^ d) fun x => (x * t + c) ^ d
  | 0 => fun x => by dsimp only; rw [Int.pow_zero, Int.pow_zero]
  | d + 1 => by
    have ih := deg_affine t c d
    refine ((ih.mulx.smul t).add (ih.smul c).up).congr (fun x => ?_) ?_
    · rw [Int.pow_succ]; grind
    · rw [Int.pow_succ]; grind
theorem deg_pow (d : Nat) : Deg d 1 fun x => x ^ d := (deg_affine 1 0 d).congr (fun x => by rw [Int.mul_one, Int.add_zero]) (by rw [Int.one_pow])
theorem deg_shift (s : Int) (d : Nat) : Deg d 1 fun x => (x + s) ^ d := (deg_affine 1 s d).congr (fun x => by rw [Int.mul_one]) (by rw [Int.one_pow])
theorem deg_powdiff (s : Int) : ∀ d : Nat, Deg d (-((d : Int) + 1) * s) fun x => x ^ (d + 1) - (x + s) ^ (d + 1)
  | 0 => fun x => by grind
  | d + 1 => by
    have ih := deg_powdiff s d
    refine (ih.mulx.add ((deg_shift s (d + 1)).smul (-s))).congr (fun x => ?_) ?_
    · grind
    · have : ((d + 1 : Nat) : Int) = (d : Int) + 1 := by omega
      rw [this]; grind
/-- the difference by a step: one degree less -/
theorem Deg.diff (s : Int) : ∀ {d : Nat} {c : Int} {g : Int → Int}, Deg (d + 1) c g → Deg d (-((d : Int) + 1) * s * c) fun x => g x - g (x + s)
  | 0, c, g, ⟨c1, g1, a, b⟩ => fun x => by dsimp only; rw [b, b, a x, a (x + s)]; grind
  | d + 1, c, g, ⟨c1, g1, a, b⟩ => by
    refine (((deg_powdiff s (d + 1)).smul c).add (a.diff s).up).congr (fun x => ?_) ?_
    · rw [b, b]; grind
    · grind

/-! ### what a sum over two lists says of such functions -/
def over (l m : List Int) (g : Int → Int) : Int := (l.map g).sum - (m.map g).sum
theorem map_sum_congr {g h : Int → Int} (e : ∀ x, g x = h x) (l : List Int) : (l.map g).sum = (l.map h).sum := by
  have : g = h := funext e
  rw [this]
theorem map_sum_lin (t : Int) (g h : Int → Int) : ∀ l : List Int, (l.map fun x => t * g x + h x).sum = t * (l.map g).sum + (l.map h).sum
  | [] => by simp
  | a :: l => by
    rw [List.map_cons, List.sum_cons, map_sum_lin t g h l, List.map_cons, List.sum_cons, List.map_cons, List.sum_cons]; grind
theorem map_sum_const (c : Int) : ∀ l : List Int, (l.map fun _ => c).sum = c * l.length
  | [] => by simp
  | a :: l => by
    rw [List.map_cons, List.sum_cons, map_sum_const c l, List.length_cons]; grind
theorem over_deg {l m : List Int} : ∀ {d : Nat} {c : Int} {g : Int → Int}, (∀ k, k < d → psum l k = psum m k) → Deg d c g → over l m g = c * (psum l d - psum m d)
  | 0, c, g, _, a => by
    unfold over
    rw [map_sum_congr a, map_sum_congr a, map_sum_const, map_sum_const, psum_zero, psum_zero]; grind
  | d + 1, c, g, h, ⟨c1, g1, a, b⟩ => by
    have ih := over_deg (fun k hk => h k (by omega)) a
    have z := h d (by omega)
    unfold over at ih ⊢
    rw [map_sum_congr b, map_sum_congr b, map_sum_lin, map_sum_lin]
    unfold psum at *
    rw [z, Int.sub_self, Int.mul_zero] at ih
    grind
/-! ### the first power -/
/-- k is the least power by which the sums are unlike -/
structure First (l m : List Int) (k : Nat) : Prop where
  ne : psum l k ≠ psum m k
  lt : ∀ j, j < k → psum l j = psum m j
theorem First.le {l m : List Int} {k j : Nat} (h : First l m k) (e : psum l j ≠ psum m j) : k ≤ j := by
  apply Classical.byContradiction
  intro z
  exact e (h.lt j (by omega))
theorem First.uniq {l m : List Int} {k j : Nat} (h : First l m k) (h' : First l m j) : k = j := Nat.le_antisymm (h.le h'.ne) (h'.le h.ne)
theorem First.most {l m : List Int} {k : Nat} (h : First l m k) : k ≤ max l.length m.length := by
  have n : ¬ l.Perm m := fun p => h.ne (psum_perm p k)
  obtain ⟨j, hj, e⟩ := unlike_at n
  exact Nat.le_trans (h.le e) hj
theorem First.symm {l m : List Int} {k : Nat} (h : First l m k) : First m l k := ⟨fun e => h.ne e.symm, fun j hj => (h.lt j hj).symm⟩
theorem First.not_perm {l m : List Int} {k : Nat} (h : First l m k) : ¬ l.Perm m := fun p => h.ne (psum_perm p k)
/-- 3: two heaps by a shift -/
theorem psum_map (l : List Int) (f : Int → Int) (k : Nat) : psum (l.map f) k = (l.map fun x => f x ^ k).sum := by
  unfold psum
  rw [List.map_map]; rfl
theorem raised_over (l m : List Int) (s : Int) (k : Nat) : psum (l ++ m.map (· + s)) k - psum (m ++ l.map (· + s)) k = over l m fun x => x ^ k - (x + s) ^ k := by
  rw [psum_append, psum_append, psum_map, psum_map]
  unfold over
  have e : ∀ q : List Int, (q.map fun x => x ^ k - (x + s) ^ k).sum = psum q k - (q.map fun x => (x + s) ^ k).sum := fun q => by
    have := map_sum_lin (-1) (fun x => (x + s) ^ k) (fun x => x ^ k) q
    have e2 : (q.map fun x => -1 * (x + s) ^ k + x ^ k).sum = (q.map fun x => x ^ k - (x + s) ^ k).sum := map_sum_congr (fun x => by grind) q
    rw [e2] at this
    rw [this]; unfold psum; grind
  rw [e, e]; grind
theorem raised_first {l m : List Int} {s : Int} {k : Nat} (hs : s ≠ 0) (h : First l m k) :
    First (l ++ m.map (· + s)) (m ++ l.map (· + s)) (k + 1) ∧
    psum (l ++ m.map (· + s)) (k + 1) - psum (m ++ l.map (· + s)) (k + 1) = -((k : Int) + 1) * s * (psum l k - psum m k) := by
  have top := raised_over l m s (k + 1)
  rw [over_deg h.lt (deg_powdiff s k)] at top
  refine ⟨⟨fun e => ?_, fun j hj => ?_⟩, top⟩
  · rw [e, Int.sub_self] at top
    rcases Int.mul_eq_zero.mp top.symm with z | z
    · rcases Int.mul_eq_zero.mp z with z | z
      · omega
      · exact hs z
    · exact h.ne (by omega)
  · have low := raised_over l m s j
    cases j with
    | zero =>
      have e : over l m (fun x => x ^ 0 - (x + s) ^ 0) = 0 := by
        unfold over
        rw [map_sum_congr (h := fun _ => 0) (fun x => by rw [Int.pow_zero, Int.pow_zero]; rfl) l, map_sum_congr (h := fun _ => 0) (fun x => by rw [Int.pow_zero, Int.pow_zero]; rfl) m, map_sum_const, map_sum_const]; omega
      rw [e] at low; omega
    | succ j =>
      rw [over_deg (fun i hi => h.lt i (by omega)) (deg_powdiff s j), h.lt j (by omega), Int.sub_self, Int.mul_zero] at low
      omega
theorem raised_perm {l m : List Int} {s : Int} (h : l.Perm m) : (l ++ m.map (· + s)).Perm (m ++ l.map (· + s)) := h.append (h.symm.map _)
theorem pow_ne {t : Int} (ht : t ≠ 0) : ∀ k : Nat, t ^ k ≠ 0
  | 0, e => by rw [Int.pow_zero] at e; omega
  | k + 1, e => by
    rw [Int.pow_succ] at e
    rcases Int.mul_eq_zero.mp e with z | z
    · exact pow_ne ht k z
    · exact ht z
/-- 4: multiplied and moved -/
theorem changed_over (l m : List Int) (t c : Int) (k : Nat) : psum (l.map fun x => x * t + c) k - psum (m.map fun x => x * t + c) k = over l m fun x => (x * t + c) ^ k := by
  rw [psum_map, psum_map]; rfl
theorem changed_first {l m : List Int} {t c : Int} {k : Nat} (ht : t ≠ 0) (h : First l m k) :
    First (l.map fun x => x * t + c) (m.map fun x => x * t + c) k ∧
    psum (l.map fun x => x * t + c) k - psum (m.map fun x => x * t + c) k = t ^ k * (psum l k - psum m k) := by
  have top := changed_over l m t c k
  rw [over_deg h.lt (deg_affine t c k)] at top
  refine ⟨⟨fun e => ?_, fun j hj => ?_⟩, top⟩
  · rw [e, Int.sub_self] at top
    rcases Int.mul_eq_zero.mp top.symm with z | z
    · exact pow_ne ht k z
    · exact h.ne (by omega)
  · have low := changed_over l m t c j
    rw [over_deg (fun i hi => h.lt i (by omega)) (deg_affine t c j), h.lt j hj, Int.sub_self, Int.mul_zero] at low
    omega
end Ep
namespace Ep
/-! ### numbers by the sums of their figures -/
/-- the sum of the figures of n, told with m signs -/
def ds (m n : Nat) : Nat := if h : n = 0 ∨ m < 2 then 0 else n % m + ds m (n / m)
  termination_by n
  decreasing_by exact Nat.div_lt_self (by omega) (by omega)
theorem ds_zero (m : Nat) : ds m 0 = 0 := by unfold ds; simp
theorem ds_step {m n : Nat} (hm : 2 ≤ m) : ds m n = n % m + ds m (n / m) := by
  by_cases h : n = 0
  · rw [h, Nat.zero_div, Nat.zero_mod, ds_zero]
  · rw [ds.eq_def m n, dif_neg (by omega)]
theorem ds_small {m d : Nat} (hm : 2 ≤ m) (h : d < m) : ds m d = d := by
  rw [ds_step hm, Nat.mod_eq_of_lt h, Nat.div_eq_of_lt h, ds_zero]; rfl
/-- a figure ahead -/
theorem ds_top {m : Nat} (hm : 2 ≤ m) : ∀ (f d q : Nat), d < m → q < m ^ f → ds m (d * m ^ f + q) = ds m q + d
  | 0, d, q, hd, hq => by
    rw [Nat.pow_zero] at hq ⊢
    have : q = 0 := by omega
    rw [this, Nat.mul_one, Nat.add_zero, ds_zero, ds_small hm hd, Nat.zero_add]
  | f + 1, d, q, hd, hq => by
    have hq2 : q / m < m ^ f := by
      rw [Nat.div_lt_iff_lt_mul (by omega)]
      rw [Nat.pow_succ] at hq; exact hq
    have e0 : d * m ^ (f + 1) + q = q + m * (d * m ^ f) := by rw [Nat.pow_succ]; grind
    have e1 : (d * m ^ (f + 1) + q) % m = q % m := by rw [e0, Nat.add_mul_mod_self_left]
    have e2 : (d * m ^ (f + 1) + q) / m = d * m ^ f + q / m := by
      rw [e0, Nat.add_mul_div_left _ _ (by omega)]; omega
    rw [ds_step hm, e1, e2, ds_top hm f d (q / m) hd hq2, ds_step (n := q) hm]; omega
theorem sumTo_split (b : Nat) (F : Nat → Int) : ∀ a : Nat, sumTo (a * b) F = sumTo a fun d => sumTo b fun q => F (d * b + q)
  | 0 => by rw [Nat.zero_mul]; rfl
  | a + 1 => by
    have h : ∀ c : Nat, sumTo (a * b + c) F = sumTo (a * b) F + sumTo c fun q => F (a * b + q) := fun c => by
      induction c with
      | zero => show sumTo (a * b) F = sumTo (a * b) F + 0; omega
      | succ c ih => show sumTo (a * b + c) F + F (a * b + c) = sumTo (a * b) F + (sumTo c (fun q => F (a * b + q)) + F (a * b + c)); rw [ih]; omega
    rw [Nat.succ_mul, h, sumTo_split b F a]; rfl
theorem sumTo_swap (a b : Nat) (F : Nat → Nat → Int) : sumTo a (fun i => sumTo b fun j => F i j) = sumTo b fun j => sumTo a fun i => F i j := by
  induction a with
  | zero => exact (sumTo_zero b _ fun _ _ => rfl).symm
  | succ a ih => show sumTo a (fun i => sumTo b fun j => F i j) + sumTo b (fun j => F a j) = _; rw [ih, ← sumTo_add]; rfl
theorem sumTo_one {m d0 : Nat} (v : Int) (h : d0 < m) : sumTo m (fun d => if d = d0 then v else 0) = v := by
  induction m with
  | zero => omega
  | succ m ih =>
    show sumTo m (fun d => if d = d0 then v else 0) + (if m = d0 then v else 0) = v
    by_cases e : m = d0
    · rw [if_pos e, sumTo_zero m _ fun i hi => if_neg (by omega), Int.zero_add]
    · rw [if_neg e, ih (by omega), Int.add_zero]
theorem mod2 {a m : Nat} (h : a < 2 * m) : a % m = if a < m then a else a - m := by
  split
  · rename_i q; exact Nat.mod_eq_of_lt q
  · rename_i q
    rw [Nat.mod_eq_sub_mod (by omega), Nat.mod_eq_of_lt (by omega)]
/-- the sum of g over the numbers of f figures of the heap r -/
def hs (m f r : Nat) (g : Int → Int) : Int := sumTo (m ^ f) fun n => if ds m n % m = r then g n else 0
theorem hs_lin (m f r : Nat) (g h : Int → Int) : hs m f r (fun x => g x + h x) = hs m f r g + hs m f r h := by
  unfold hs
  rw [← sumTo_add]
  refine sumTo_congr _ _ _ fun i _ => ?_
  dsimp only
  split <;> omega
theorem hs_congr (m f r : Nat) {g h : Int → Int} (e : ∀ x, g x = h x) : hs m f r g = hs m f r h := by
  have : g = h := funext e
  rw [this]
theorem hs_succ {m : Nat} (hm : 2 ≤ m) (f r : Nat) (hr : r < m) (g : Int → Int) : hs m (f + 1) r g = sumTo m fun d => hs m f ((r + (m - d)) % m) fun x => g (x + d * (m : Int) ^ f) := by
  have e0 : m ^ (f + 1) = m * m ^ f := by rw [Nat.pow_succ, Nat.mul_comm]
  unfold hs
  rw [e0, sumTo_split]
  refine sumTo_congr _ _ _ fun d hd => sumTo_congr _ _ _ fun q hq => ?_
  rw [ds_top hm f d q hd hq]
  have lt := Nat.mod_lt (ds m q) (show 0 < m by omega)
  have a1 : (ds m q + d) % m = (ds m q % m + d) % m := by rw [Nat.mod_add_mod]
  have iff : ((ds m q + d) % m = r) = (ds m q % m = (r + (m - d)) % m) := by
    rw [a1]
    generalize ds m q % m = x at lt ⊢
    rw [mod2 (a := x + d) (by omega), mod2 (a := r + (m - d)) (by omega)]
    apply propext
    split <;> split <;> omega
  have e1 : ((d * m ^ f + q : Nat) : Int) = (q : Int) + d * (m : Int) ^ f := by
    rw [Int.natCast_add, Int.natCast_mul, Int.natCast_pow]; omega
  simp only [iff, e1]
theorem hs_all {m : Nat} (hm : 2 ≤ m) (f r : Nat) (hr : r < m) (g : Int → Int) : sumTo m (fun d => hs m f ((r + (m - d)) % m) g) = sumTo (m ^ f) fun n => g n := by
  unfold hs
  rw [sumTo_swap]
  refine sumTo_congr _ _ _ fun n hn => ?_
  have lt := Nat.mod_lt (ds m n) (show 0 < m by omega)
  have e : sumTo m (fun d => if ds m n % m = (r + (m - d)) % m then g n else 0) = sumTo m fun d => if d = (r + (m - ds m n % m)) % m then g n else 0 := by
    refine sumTo_congr _ _ _ fun d hd => ?_
    have iff : (ds m n % m = (r + (m - d)) % m) = (d = (r + (m - ds m n % m)) % m) := by
      generalize ds m n % m = x at lt ⊢
      rw [mod2 (a := r + (m - d)) (by omega), mod2 (a := r + (m - x)) (by omega)]
      apply propext
      split <;> split <;> omega
    simp only [iff]
  rw [e, sumTo_one _ (Nat.mod_lt _ (by omega))]
/-- Prouhet: below the count of figures the heaps are alike -/
theorem prouhet {m : Nat} (hm : 2 ≤ m) : ∀ (f d : Nat) (c : Int) (g : Int → Int), d < f → Deg d c g → ∀ r r' : Nat, r < m → r' < m → hs m f r g = hs m f r' g
  | 0, d, c, g, h, _, _, _, _, _ => by omega
  | f + 1, d, c, g, h, D, r, r', hr, hr' => by
    have key : ∀ r : Nat, r < m → hs m (f + 1) r g = sumTo (m ^ f) (fun n => g n) + sumTo m fun i => hs m f 0 fun x => g (x + i * (m : Int) ^ f) - g x := fun r hr => by
      rw [hs_succ hm f r hr, ← hs_all hm f r hr g, ← sumTo_add]
      refine sumTo_congr _ _ _ fun i _ => ?_
      have e : hs m f ((r + (m - i)) % m) (fun x => g (x + i * (m : Int) ^ f)) = hs m f ((r + (m - i)) % m) g + hs m f ((r + (m - i)) % m) fun x => g (x + i * (m : Int) ^ f) - g x := by
        rw [← hs_lin]
        exact hs_congr _ _ _ fun x => by omega
      rw [e]
      congr 1
      cases d with
      | zero =>
        have z : ∀ q : Nat, hs m f q (fun x => g (x + i * (m : Int) ^ f) - g x) = 0 := fun q => by
          unfold hs
          refine sumTo_zero _ _ fun n _ => ?_
          have : g ((n : Int) + i * (m : Int) ^ f) - g n = 0 := by rw [D, D]; omega
          dsimp only
          rw [this]; split <;> rfl
        rw [z, z]
      | succ d =>
        exact prouhet hm f d _ _ (by omega) (((D.diff (i * (m : Int) ^ f)).smul (-1)).congr (fun x => by omega) rfl) _ _ (Nat.mod_lt _ (by omega)) (by omega)
    rw [key r hr, key r' hr']
/-! ### two heaps: by how much -/
def due : Nat → Int
  | 0 => 1
  | f + 1 => due f * (-((f : Int) + 1) * 2 ^ f)
theorem two_diff : ∀ (f : Nat) (c : Int) (g : Int → Int), Deg f c g → hs 2 f 0 g - hs 2 f 1 g = c * due f
  | 0, c, g, D => by
    have a : ds 2 0 % 2 = 0 := by rw [ds_zero]
    show (0 + (if ds 2 0 % 2 = 0 then g (0 : Nat) else 0)) - (0 + (if ds 2 0 % 2 = 1 then g (0 : Nat) else 0)) = c * 1
    rw [if_pos a, if_neg (by omega), D]; omega
  | f + 1, c, g, D => by
    have ih := two_diff f _ _ (D.diff (2 ^ f))
    have sub : ∀ r, hs 2 f r (fun x => g x - g (x + 2 ^ f)) = hs 2 f r g - hs 2 f r fun x => g (x + 2 ^ f) := fun r => by
      have := hs_lin 2 f r (fun x => g x - g (x + 2 ^ f)) fun x => g (x + 2 ^ f)
      rw [hs_congr 2 f r (h := g) fun x => by omega] at this
      omega
    rw [sub, sub] at ih
    rw [hs_succ (by omega) f 0 (by omega), hs_succ (by omega) f 1 (by omega)]
    have s0 : ∀ F : Nat → Int, sumTo 2 F = F 0 + F 1 := fun F => by show 0 + F 0 + F 1 = _; omega
    rw [s0, s0]
    have z0 : ∀ r, hs 2 f r (fun x => g (x + ((0 : Nat) : Int) * ((2 : Nat) : Int) ^ f)) = hs 2 f r g := fun r => hs_congr _ _ _ fun x => by rw [Int.natCast_zero, Int.zero_mul, Int.add_zero]
    have z1 : ∀ r, hs 2 f r (fun x => g (x + ((1 : Nat) : Int) * ((2 : Nat) : Int) ^ f)) = hs 2 f r fun x => g (x + 2 ^ f) := fun r => hs_congr _ _ _ fun x => by
      have : ((1 : Nat) : Int) * ((2 : Nat) : Int) ^ f = 2 ^ f := by rw [Int.natCast_one, Int.one_mul]; rfl
      rw [this]
    rw [z0, z0, z1, z1]
    show hs 2 f 0 g + hs 2 f 1 _ - (hs 2 f 1 g + hs 2 f 0 _) = c * (due f * (-((f : Int) + 1) * 2 ^ f))
    have := ih
    grind
/-! ### the heaps as lists -/
/-- the heap r of the numbers of f figures -/
def heap (m f r : Nat) : List Int := ((List.range (m ^ f)).filter fun n => ds m n % m = r).map fun n : Nat => (n : Int)
theorem filter_sum (p : Nat → Bool) (g : Int → Int) : ∀ N : Nat, (((List.range N).filter p).map fun n : Nat => g n).sum = sumTo N fun n => if p n = true then g n else 0
  | 0 => rfl
  | N + 1 => by
    rw [List.range_succ, List.filter_append, List.map_append, List.sum_append, filter_sum p g N]
    show _ = sumTo N (fun n => if p n = true then g n else 0) + (if p N = true then g N else 0)
    congr 1
    by_cases h : p N = true
    · rw [List.filter_cons_of_pos h, if_pos h]; simp
    · rw [List.filter_cons_of_neg h, if_neg h]; rfl
theorem heap_psum (m f r k : Nat) : psum (heap m f r) k = hs m f r fun x => x ^ k := by
  unfold psum heap hs
  rw [List.map_map]
  have := filter_sum (fun n => decide (ds m n % m = r)) (fun x => x ^ k) (m ^ f)
  rw [show ((fun x : Int => x ^ k) ∘ fun n : Nat => (n : Int)) = fun n : Nat => (n : Int) ^ k from rfl]
  simp only [decide_eq_true_eq] at this
  exact this
theorem heap_below {m : Nat} (hm : 2 ≤ m) {f k r r' : Nat} (hk : k < f) (hr : r < m) (hr' : r' < m) : psum (heap m f r) k = psum (heap m f r') k := by
  rw [heap_psum, heap_psum]
  exact prouhet hm f k 1 _ hk (deg_pow k) r r' hr hr'
theorem heap_two (f : Nat) : psum (heap 2 f 0) f - psum (heap 2 f 1) f = due f := by
  rw [heap_psum, heap_psum, two_diff f 1 _ (deg_pow f), Int.one_mul]
theorem due_ne : ∀ f : Nat, due f ≠ 0
  | 0 => by decide
  | f + 1 => fun z => by
    rcases Int.mul_eq_zero.mp (show due f * (-((f : Int) + 1) * 2 ^ f) = 0 from z) with e | e
    · exact due_ne f e
    · rcases Int.mul_eq_zero.mp e with e | e
      · omega
      · exact pow_ne (by decide) f e
theorem two_first (f : Nat) : First (heap 2 f 0) (heap 2 f 1) f := ⟨fun e => due_ne f (by rw [← heap_two, e, Int.sub_self]), fun j hj => heap_below (by omega) hj (by omega) (by omega)⟩
end Ep
namespace Ep
/-! ### what is left of a heap -/
/-- c tells how many of each are still to go -/
def left : List Int → (Int → Int) → List Int
  | [], _ => []
  | n :: r, c => if 0 < c n then left r (fun x => if x = n then c n - 1 else c x) else n :: left r c
def manyOf (l : List Int) : Int → Int := fun x => (l.count x : Nat)
def leftOf (l m : List Int) : List Int := left l (manyOf m)
theorem left_count : ∀ (l : List Int) (c : Int → Int) (x : Int), (∀ y, 0 ≤ c y) → ((left l c).count x : Int) = max 0 ((l.count x : Int) - c x)
  | [], c, x, h => by
    have := h x
    show ((0 : Nat) : Int) = max 0 (((0 : Nat) : Int) - c x)
    omega
  | n :: r, c, x, h => by
    unfold left
    have hn := h n
    have hx := h x
    split
    · rename_i q
      rw [left_count r _ x (fun y => by split; omega; exact h y), List.count_cons]
      by_cases e : x = n
      · subst e
        simp only [if_pos, beq_self_eq_true]
        omega
      · have e2 : (n == x) = false := by simp; exact fun z => e z.symm
        simp only [if_neg e, e2]
        simp
    · rename_i q
      rw [List.count_cons, List.count_cons, Int.natCast_add, left_count r c x h, Int.natCast_add]
      by_cases e : n = x
      · subst e
        simp only [beq_self_eq_true, if_pos]
        omega
      · have e2 : (n == x) = false := by simpa using e
        simp only [e2]
        simp
theorem leftOf_count (l m : List Int) (x : Int) : (leftOf l m).count x = l.count x - m.count x := by
  have := left_count l (manyOf m) x (fun y => by unfold manyOf; omega)
  unfold manyOf at this
  unfold leftOf
  show (left l (manyOf m)).count x = _
  unfold manyOf
  omega
theorem left_len : ∀ (l : List Int) (c : Int → Int), (left l c).length ≤ l.length
  | [], _ => Nat.le_refl _
  | n :: r, c => by
    unfold left
    split
    · have := left_len r (fun x => if x = n then c n - 1 else c x)
      rw [List.length_cons]; omega
    · have := left_len r c
      rw [List.length_cons, List.length_cons]; omega
theorem leftOf_len (l m : List Int) : (leftOf l m).length ≤ l.length := left_len l _
theorem left_sub : ∀ (l : List Int) (c : Int → Int) (x : Int), x ∈ left l c → x ∈ l
  | [], _, _, h => h
  | n :: r, c, x, h => by
    unfold left at h
    split at h
    · exact List.mem_cons_of_mem _ (left_sub r _ x h)
    · rcases List.mem_cons.mp h with e | e
      · rw [e]; exact List.mem_cons_self
      · exact List.mem_cons_of_mem _ (left_sub r _ x e)
theorem leftOf_sub {l m : List Int} {x : Int} (h : x ∈ leftOf l m) : x ∈ l := left_sub l _ x h
theorem leftOf_perm (l m : List Int) : (leftOf l m ++ m).Perm (leftOf m l ++ l) := by
  rw [List.perm_iff_count]
  intro x
  rw [List.count_append, List.count_append, leftOf_count, leftOf_count]
  omega
theorem leftOf_psum (l m : List Int) (k : Nat) : psum (leftOf l m) k - psum (leftOf m l) k = psum l k - psum m k := by
  have := psum_perm (leftOf_perm l m) k
  rw [psum_append, psum_append] at this
  omega
theorem leftOf_first {l m : List Int} {k : Nat} : First (leftOf l m) (leftOf m l) k ↔ First l m k := by
  constructor
  · intro h
    exact ⟨fun e => h.ne (by have := leftOf_psum l m k; omega), fun j hj => by have := leftOf_psum l m j; have := h.lt j hj; omega⟩
  · intro h
    exact ⟨fun e => h.ne (by have := leftOf_psum l m k; omega), fun j hj => by have := leftOf_psum l m j; have := h.lt j hj; omega⟩
theorem leftOf_nil {l m : List Int} (h : leftOf l m = []) (h' : leftOf m l = []) : l.Perm m := by
  have := leftOf_perm l m
  rw [h, h', List.nil_append, List.nil_append] at this
  exact this.symm
theorem leftOf_of_perm {l m : List Int} (h : l.Perm m) : leftOf l m = [] := by
  refine List.eq_nil_iff_forall_not_mem.mpr fun x hx => ?_
  have c := List.count_pos_iff.mpr hx
  rw [leftOf_count, h.count_eq] at c
  omega
theorem first_of {l m : List Int} : ∀ k : Nat, psum l k ≠ psum m k → ∃ k, First l m k := by
  intro k
  induction k using Nat.strongRecOn with
  | ind k ih =>
    intro e
    by_cases q : ∃ j, j < k ∧ psum l j ≠ psum m j
    · obtain ⟨j, hj, ej⟩ := q
      exact ih j hj ej
    · refine ⟨k, e, fun j hj => ?_⟩
      apply Classical.byContradiction
      intro z
      exact q ⟨j, hj, z⟩
theorem first_exists {l m : List Int} (h : ¬ l.Perm m) : ∃ k, First l m k := by
  obtain ⟨k, _, e⟩ := unlike_at h
  exact first_of k e
/-! ### powers, number by number -/
def pows (l : List Int) (k : Nat) : List Int := l.map (· ^ k)
theorem pows_sum (l : List Int) (k : Nat) : (pows l k).sum = psum l k := rfl
theorem pows_zero (l : List Int) : pows l 0 = List.replicate l.length 1 := by
  unfold pows
  rw [List.eq_replicate_iff]
  refine ⟨List.length_map _, fun b hb => ?_⟩
  obtain ⟨x, _, rfl⟩ := List.mem_map.mp hb
  exact Int.pow_zero x
theorem pows_succ (l : List Int) (k : Nat) : List.zipWith (· * ·) (pows l k) l = pows l (k + 1) := by
  unfold pows
  induction l with
  | nil => rfl
  | cons a l ih => rw [List.map_cons, List.zipWith_cons_cons, ih, List.map_cons, Int.pow_succ]
theorem pows_len (l : List Int) (k : Nat) : (pows l k).length = l.length := List.length_map _
end Ep
namespace Ep
/-! ### places -/
def ranks (ns : List Int) : List Nat := (List.range ns.length).mergeSort fun i j => decide (ns.getD i 0 < ns.getD j 0 ∨ (ns.getD i 0 = ns.getD j 0 ∧ i ≤ j))
theorem ranks_perm (ns : List Int) : (ranks ns).Perm (List.range ns.length) := List.mergeSort_perm _ _
theorem ranks_len (ns : List Int) : (ranks ns).length = ns.length := by rw [(ranks_perm ns).length_eq, List.length_range]
theorem ranks_lt {ns : List Int} {i : Nat} (h : i ∈ ranks ns) : i < ns.length := List.mem_range.mp ((ranks_perm ns).mem_iff.mp h)
theorem map_range_getD (ns : List Int) : (List.range ns.length).map (fun j => ns.getD j 0) = ns := by
  apply List.ext_getElem
  · simp
  · intro i h1 h2
    simp at h1
    simp [List.getD_eq_getElem?_getD, h1]
theorem ranks_rise (ns : List Int) : ((ranks ns).map fun j => ns.getD j 0).Pairwise (· ≤ ·) := by
  rw [List.pairwise_map]
  refine (List.pairwise_mergeSort (le := fun i j => decide (ns.getD i 0 < ns.getD j 0 ∨ (ns.getD i 0 = ns.getD j 0 ∧ i ≤ j))) ?_ ?_ (List.range ns.length)).imp ?_
  · intro a b c h1 h2
    have h1 := of_decide_eq_true h1
    have h2 := of_decide_eq_true h2
    apply decide_eq_true
    omega
  · intro a b
    by_cases h : (ns.getD a 0 < ns.getD b 0 ∨ (ns.getD a 0 = ns.getD b 0 ∧ a ≤ b))
    · rw [decide_eq_true h, Bool.true_or]
    · have : (ns.getD b 0 < ns.getD a 0 ∨ (ns.getD b 0 = ns.getD a 0 ∧ b ≤ a)) := by omega
      rw [decide_eq_true this, Bool.or_true]
  · intro a b h
    have h := of_decide_eq_true h
    omega
theorem ranks_all (ns : List Int) : ((ranks ns).map fun j => ns.getD j 0).Perm ns := by
  have := (ranks_perm ns).map (fun j => ns.getD j 0)
  rw [map_range_getD] at this
  exact this
theorem ranks_same {ns ms : List Int} (h : ns.Perm ms) : ((ranks ns).map fun j => ns.getD j 0) = ((ranks ms).map fun j => ms.getD j 0) :=
  List.Perm.eq_of_pairwise (fun x y _ _ a b => Int.le_antisymm a b) (ranks_rise ns) (ranks_rise ms) (((ranks_all ns).trans h).trans (ranks_all ms).symm)
def fill (l : List Nat) (ps : List (Nat × Nat)) : List Nat := ps.foldl (fun l p => l.set p.1 p.2) l
theorem fill_len (ps : List (Nat × Nat)) : ∀ l : List Nat, (fill l ps).length = l.length := by
  induction ps with
  | nil => exact fun _ => rfl
  | cons p ps ih => intro l; show (fill (l.set p.1 p.2) ps).length = _; rw [ih, List.length_set]
theorem fill_snoc (l : List Nat) (ps : List (Nat × Nat)) (p : Nat × Nat) : fill l (ps ++ [p]) = (fill l ps).set p.1 p.2 := by
  unfold fill; rw [List.foldl_append]; rfl
theorem fill_out {i : Nat} (ps : List (Nat × Nat)) : ∀ l : List Nat, (∀ p ∈ ps, p.1 ≠ i) → (fill l ps)[i]? = l[i]? := by
  induction ps with
  | nil => exact fun _ _ => rfl
  | cons p ps ih =>
    intro l h
    show (fill (l.set p.1 p.2) ps)[i]? = _
    rw [ih _ fun q hq => h q (List.mem_cons_of_mem _ hq), List.getElem?_set_ne (h p (List.mem_cons_self ..))]
theorem fill_in (ps : List (Nat × Nat)) : ∀ l : List Nat, (ps.map Prod.fst).Nodup → ∀ p ∈ ps, p.1 < l.length → (fill l ps)[p.1]? = some p.2 := by
  induction ps with
  | nil => exact fun _ _ p h => by simp at h
  | cons q ps ih =>
    intro l nd p hp hl
    rw [List.map_cons, List.nodup_cons] at nd
    show (fill (l.set q.1 q.2) ps)[p.1]? = _
    rcases List.mem_cons.mp hp with rfl | hp
    · rw [fill_out ps _ fun r hr e => nd.1 (List.mem_map.mpr ⟨r, hr, e⟩), List.getElem?_set_self hl]
    · exact ih _ nd.2 p hp (by rw [List.length_set]; exact hl)
def placesOf (ns ms : List Int) : List Nat := fill (List.replicate ns.length 0) ((ranks ns).zip (ranks ms))
structure Placing (ns ms : List Int) (pls : List Nat) : Prop where
  len : pls.length = ns.length
  perm : pls.Perm (List.range ns.length)
  at_ : ∀ i, i < ns.length → ns.getD i 0 = ms.getD (pls.getD i 0) 0
theorem placing {ns ms : List Int} (h : ns.Perm ms) : Placing ns ms (placesOf ns ms) := by
  have hl := h.length_eq
  have la := ranks_len ns
  have lb := ranks_len ms
  have len : (placesOf ns ms).length = ns.length := by unfold placesOf; rw [fill_len, List.length_replicate]
  have fsts : (((ranks ns).zip (ranks ms)).map Prod.fst) = ranks ns := by rw [List.map_fst_zip (by omega)]
  have key : ∀ t (h1 : t < (ranks ns).length) (h2 : t < (ranks ms).length), (placesOf ns ms)[(ranks ns)[t]]? = some (ranks ms)[t] := fun t h1 h2 => by
    have hm : ((ranks ns)[t], (ranks ms)[t]) ∈ (ranks ns).zip (ranks ms) := by
      rw [List.mem_iff_getElem]
      exact ⟨t, by rw [List.length_zip]; omega, by rw [List.getElem_zip]⟩
    exact fill_in _ _ (by rw [fsts]; exact (ranks_perm ns).nodup_iff.mpr List.nodup_range) _ hm (by rw [List.length_replicate]; exact ranks_lt (List.getElem_mem h1))
  have back : (ranks ns).map (fun i => (placesOf ns ms).getD i 0) = ranks ms := by
    apply List.ext_getElem
    · rw [List.length_map]; omega
    · intro t h1 h2
      rw [List.length_map] at h1
      rw [List.getElem_map, List.getD_eq_getElem?_getD, key t h1 h2]; rfl
  have flat : (List.range ns.length).map (fun i => (placesOf ns ms).getD i 0) = placesOf ns ms := by
    apply List.ext_getElem
    · rw [List.length_map, List.length_range, len]
    · intro i h1 h2
      rw [List.getElem_map, List.getElem_range, List.getD_eq_getElem?_getD, List.getElem?_eq_getElem h2]; rfl
  refine ⟨len, ?_, fun i hi => ?_⟩
  · have p := (ranks_perm ns).map (fun i => (placesOf ns ms).getD i 0)
    rw [back, flat] at p
    have q := ranks_perm ms
    rw [← hl] at q
    exact p.symm.trans q
  · obtain ⟨t, h1, e⟩ := List.getElem_of_mem ((ranks_perm ns).mem_iff.mpr (List.mem_range.mpr hi))
    have h2 : t < (ranks ms).length := by omega
    have k := key t h1 h2
    have s := congrArg (fun l => l[t]?) (ranks_same h)
    simp only [List.getElem?_map, List.getElem?_eq_getElem h1, List.getElem?_eq_getElem h2, Option.map_some, Option.some.injEq] at s
    rw [e] at k s
    rw [s, List.getD_eq_getElem?_getD (l := placesOf ns ms), k]; rfl
end Ep
namespace Ep
/-! ### what is left, by taking away one by one -/
theorem manyOf_erase {n : Int} {rest : List Int} (h : n ∈ rest) : manyOf (rest.erase n) = fun x => if x = n then manyOf rest n - 1 else manyOf rest x := by
  funext x
  unfold manyOf
  have pos := List.count_pos_iff.mpr h
  by_cases e : x = n
  · subst e
    rw [if_pos rfl, List.count_erase_self]
    omega
  · rw [if_neg e, List.count_erase_of_ne e]
theorem left_in {l : List Int} {i : Nat} {n : Int} {rest : List Int} (hi : l[i]? = some n) (h : n ∈ rest) : left (l.drop i) (manyOf rest) = left (l.drop (i + 1)) (manyOf (rest.erase n)) := by
  obtain ⟨hl, e⟩ := List.getElem?_eq_some_iff.mp hi
  rw [List.drop_eq_getElem_cons hl, e, manyOf_erase h]
  have : 0 < manyOf rest n := by unfold manyOf; have := List.count_pos_iff.mpr h; omega
  conv => lhs; unfold left
  rw [if_pos this]
theorem left_out {l : List Int} {i : Nat} {n : Int} {rest : List Int} (hi : l[i]? = some n) (h : n ∉ rest) : left (l.drop i) (manyOf rest) = n :: left (l.drop (i + 1)) (manyOf rest) := by
  obtain ⟨hl, e⟩ := List.getElem?_eq_some_iff.mp hi
  rw [List.drop_eq_getElem_cons hl, e]
  have : ¬ 0 < manyOf rest n := by unfold manyOf; have := List.count_eq_zero.mpr h; omega
  conv => lhs; unfold left
  rw [if_neg this]
theorem erase_at {n : Int} : ∀ {l : List Int}, n ∈ l → ∃ j, l[j]? = some n ∧ (∀ m : Nat, m < j → l[m]? ≠ some n) ∧ l.eraseIdx j = l.erase n
  | [], h => by simp at h
  | a :: r, h => by
    by_cases e : a = n
    · subst e
      exact ⟨0, rfl, fun m hm => by omega, by simp⟩
    · have hr : n ∈ r := (List.mem_cons.mp h).resolve_left fun z => e z.symm
      obtain ⟨j, h1, h2, h3⟩ := erase_at hr
      refine ⟨j + 1, by simpa using h1, fun m hm => ?_, ?_⟩
      · cases m with
        | zero => simpa using e
        | succ m => simpa using h2 m (by omega)
      · rw [List.eraseIdx_cons_succ, h3, List.erase_cons_tail (by simpa using e)]
end Ep
namespace Ep
/-! ### what an answer shows -/
def rng (n : Nat) : List Int := (List.range n).map fun i : Nat => (i : Int)
theorem rng_rise (n : Nat) : (rng n).Pairwise (· ≤ ·) := by
  unfold rng
  rw [List.pairwise_map]
  exact List.pairwise_lt_range.imp fun h => by omega
theorem rng_len (n : Nat) : (rng n).length = n := by unfold rng; rw [List.length_map, List.length_range]
theorem sorted_rng {s pls : List Int} {n : Nat} (hp : s.Perm pls) (hs : s.Pairwise (· ≤ ·)) : s = rng n ↔ pls.Perm (rng n) := by
  constructor
  · rintro rfl; exact hp.symm
  · intro h
    exact List.Perm.eq_of_pairwise (fun x y _ _ a b => Int.le_antisymm a b) hs (rng_rise n) (hp.trans h)
/-- whether places show that two heaps are the same -/
def shownS (pls ns ms : List Int) : Bool := decide (ns.length = ms.length) && (decide (pls.Perm (rng ns.length)) && (((List.range pls.length).map fun k => decide (ns.getD k 0 = ms.getD (pls.getD k 0).toNat 0)).all id))
theorem shownS_long {pls ns ms : List Int} (h : pls.length ≠ ns.length) : shownS pls ns ms = false := by
  unfold shownS
  have : ¬ pls.Perm (rng ns.length) := fun p => h (by rw [p.length_eq, rng_len])
  rw [decide_eq_false this]; simp
theorem shownS_places {ns ms : List Int} (h : ns.Perm ms) : shownS ((placesOf ns ms).map fun i : Nat => (i : Int)) ns ms = true := by
  have P := placing h
  unfold shownS
  have h1 : ((placesOf ns ms).map fun i : Nat => (i : Int)).Perm (rng ns.length) := P.perm.map _
  rw [decide_eq_true h.length_eq, decide_eq_true h1, Bool.true_and, Bool.true_and, List.all_map, List.all_eq_true]
  intro k hk
  have hk := List.mem_range.mp hk
  rw [List.length_map, P.len] at hk
  have e := P.at_ k hk
  have : (((placesOf ns ms).map fun i : Nat => (i : Int)).getD k 0).toNat = (placesOf ns ms).getD k 0 := by
    have hk2 : k < (placesOf ns ms).length := by rw [P.len]; exact hk
    rw [List.getD_eq_getElem?_getD, List.getD_eq_getElem?_getD, List.getElem?_map, List.getElem?_eq_getElem hk2]
    rfl
  show decide _ = true
  rw [this]
  exact decide_eq_true e
/-- whether a power and a difference are those -/
def Due (p m : Int) (ns ms : List Int) : Prop := ∃ k : Nat, p = (k : Int) ∧ First ns ms k ∧ m = psum ns k - psum ms k
theorem due_iff {p m : Int} {ns ms : List Int} : Due p m ns ms ↔ (0 ≤ p ∧ p ≤ ((max ns.length ms.length : Nat) : Int)) ∧ (∀ j : Nat, (j : Int) < p → psum (leftOf ns ms) j = psum (leftOf ms ns) j) ∧ m ≠ 0 ∧ psum (leftOf ns ms) p.toNat - psum (leftOf ms ns) p.toNat = m := by
  constructor
  · rintro ⟨k, rfl, h, rfl⟩
    have h' := leftOf_first.mpr h
    refine ⟨⟨by omega, by have := h.most; omega⟩, fun j hj => h'.lt j (by omega), fun z => h.ne (by omega), ?_⟩
    rw [Int.toNat_natCast, leftOf_psum]
  · rintro ⟨⟨h0, h1⟩, h2, h3, h4⟩
    refine ⟨p.toNat, by omega, leftOf_first.mp ⟨fun e => h3 (by rw [← h4, e, Int.sub_self]), fun j hj => h2 j (by omega)⟩, ?_⟩
    rw [← h4, leftOf_psum]
theorem Due.uniq {p m p' m' : Int} {ns ms : List Int} (h : Due p m ns ms) (h' : Due p' m' ns ms) : p = p' ∧ m = m' := by
  obtain ⟨k, rfl, hk, rfl⟩ := h
  obtain ⟨k', rfl, hk', rfl⟩ := h'
  obtain rfl := hk.uniq hk'
  exact ⟨rfl, rfl⟩
theorem Due.not_perm {p m : Int} {ns ms : List Int} (h : Due p m ns ms) : ¬ ns.Perm ms := by
  obtain ⟨k, rfl, hk, rfl⟩ := h
  exact hk.not_perm
noncomputable def shownU (p m : Int) (ns ms : List Int) : Bool := @decide (Due p m ns ms) (Classical.propDecidable _)
theorem shownU_true {p m : Int} {ns ms : List Int} (h : Due p m ns ms) : shownU p m ns ms = true := @decide_eq_true _ (Classical.propDecidable _) h
theorem shownU_false {p m : Int} {ns ms : List Int} (h : ¬ Due p m ns ms) : shownU p m ns ms = false := @decide_eq_false _ (Classical.propDecidable _) h
end Ep
set_option Elab.async false
set_option maxRecDepth 100000
set_option maxHeartbeats 4000000
namespace Kx
open PySem PySem.Spec PyProof.Rows L2
/-! ### what grows -/
abbrev Tb := List (Addr × Str)
structure Gr (T : Tb) (H H' : Hp) : Prop where
  keep : ∀ b o, H b = some o → (∀ ps, o ≠ .tbl ps) → H' b = some o
  lost : ∀ b, H' b = Option.none → H b = Option.none
  tab : LamX.Tabs T H → LamX.Tabs T H'
section
variable {T : Tb} {K : PySem.W.Frag} {H H1 H2 : Hp} {a b p : Addr} {o u : HO} {xs : List V}
theorem Gr.refl (H : Hp) : Gr T H H := ⟨fun _ _ h _ => h, fun _ h => h, fun h => h⟩
theorem Gr.trans (a : Gr T H H1) (b : Gr T H1 H2) : Gr T H H2 := ⟨fun c o h n => b.keep c o (a.keep c o h n) n, fun c h => a.lost c (b.lost c h), fun h => b.tab (a.tab h)⟩
theorem Gr.new (h : H p = Option.none) : Gr T H (upd H p o) := by
  have k : ∀ b u, H b = some u → upd H p o b = some u := fun b u e => by rw [upd_ne (ne_of_none e h)]; exact e
  refine ⟨fun b u e _ => k b u e, fun b e => ?_, fun t => LamX.Tabs.ext t k⟩
  cases q : H b with
  | none => rfl
  | some u =>
    rw [k b u q] at e
    cases e
/-- a plain thing that H doesn't know may change -/
def plainO : HO → Prop
  | .lst _ => True
  | .dK _ => True
  | .ins _ _ _ => True
  | _ => False
theorem Gr.mut (g : Gr T H H1) (h : H p = Option.none) (e : H1 p = some u) (hu : plainO u) : Gr T H (upd H1 p o) := by
  have nt : ∀ ps, u ≠ .tbl ps := fun ps z => by rw [z] at hu; exact hu
  have nc : ∀ c q, u ≠ LamX.CodeO c q := fun c q z => by rw [z] at hu; exact hu
  refine ⟨fun b w q n => ?_, fun b q => ?_, fun t => ?_⟩
  · rw [upd_ne (ne_of_none q h)]
    exact g.keep b w q n
  · refine g.lost b ?_
    unfold upd at q
    split at q
    · cases q
    · exact q
  · intro x hx
    obtain ⟨ps, h1, h2, h3⟩ := g.tab t x hx
    have n1 : x.1 ≠ p := fun z => by rw [z, e] at h1; exact nt ps (Option.some.inj h1)
    refine ⟨ps, by rw [upd_ne n1]; exact h1, h2, fun pos cv hc => ?_⟩
    obtain ⟨c, e1, e2⟩ := h3 pos cv hc
    have n2 : c ≠ p := fun z => by rw [z, e] at e2; exact nc _ _ (Option.some.inj e2)
    exact ⟨c, e1, by rw [upd_ne n2]; exact e2⟩
theorem Gr.l (g : Gr T H H1) (h : H a = some (.lst xs)) : H1 a = some (.lst xs) := g.keep _ _ h fun _ z => by cases z
theorem Gr.t (g : Gr T H H1) (h : H a = some (.tup xs)) : H1 a = some (.tup xs) := g.keep _ _ h fun _ z => by cases z
theorem Gr.d {kvs : List (Key × V)} (g : Gr T H H1) (h : H a = some (.dK kvs)) : H1 a = some (.dK kvs) := g.keep _ _ h fun _ z => by cases z
theorem Gr.i {C dx : Addr} {fs : List (Str × V)} (g : Gr T H H1) (h : H a = some (.ins C dx fs)) : H1 a = some (.ins C dx fs) := g.keep _ _ h fun _ z => by cases z
theorem Gr.sq (g : Gr T H H1) (h : SqL K H a xs) : SqL K H1 a xs := by
  rcases h with (h | ⟨o, h⟩) | h
  · exact .inl (.inl (g.l h))
  · exact .inl (.inr ⟨o, g.keep _ _ h fun _ z => by cases z⟩)
  · exact .inr h
theorem Gr.st (g : Gr T H H1) (h : SqT K H a xs) : SqT K H1 a xs := by
  rcases h with (h | ⟨o, h⟩) | h
  · exact .inl (.inl (g.t h))
  · exact .inl (.inr ⟨o, g.keep _ _ h fun _ z => by cases z⟩)
  · exact .inr h
end
theorem sq {K : PySem.W.Frag} {H : Hp} {a : Addr} {xs : List V} (h : H a = some (.lst xs)) : SqL K H a xs := .inl (.inl h)
theorem stp {K : PySem.W.Frag} {H : Hp} {a : Addr} {xs : List V} (h : H a = some (.tup xs)) : SqT K H a xs := .inl (.inl h)
/-! ### sizes -/
theorem szl {n : Nat} (h : n ≤ 100000) : n ≤ sizeLine := Nat.le_trans h (by decide)
theorem szs {n : Nat} (h : n < 100000) : n < sizeLine := Nat.lt_of_lt_of_le h (by decide)
/-! ### great products -/
section
variable {X : Cx}
theorem op_mulB : OpR X (binaryOp .Mult) (rI IntMulOk fun i j => .int (i * j)) := opI fun _ _ _ _ _ _ _ hc q => mul_int q hc
theorem iop_mulB : OpR X (inplaceOp .Mult) (rI IntMulOk fun i j => .int (i * j)) := opI fun _ _ _ _ _ _ _ hc q => imul_int q hc
theorem ip_mulB : PIp X .Mult (rI IntMulOk fun i j => .int (i * j)) := iop_mulB
end
/-! ### comprehensions -/
/-- what a list comprehension's reading asks behind its walked thing -/
abbrev LcB (J : It) (g : TG) (tt : TT) (te : TE) (vs : List Nat) (σ : L2.St) (H1 : Hp) (Q : Addr → Hp → Prop) : Prop := ∀ D, H1 D = Option.none → ∃ W : Nat → Nat → Hp → Prop, (∃ m, W 0 m (upd H1 D (.lst []))) ∧ ∀ i m H, W i m H →
  (J.stop i H ∧ Q D H) ∨ (J.go i H ∧ ∃ Nx : Hp → Prop, (∀ H', Nx H' → ∃ m', m' < m ∧ W (i + 1) m' H') ∧ ∀ x H', J.yld i H x H' → g x (wipe σ vs) H' fun σ2 H2 => wipe σ2 vs = wipe σ vs ∧ tt σ2 H2 fun b H3 =>
    if b = true then te σ2 H3 fun y H4 => ∃ acc, H4 D = some (.lst acc) ∧ acc.length < sizeLine ∧ Nx (upd H4 D (.lst (acc ++ [y]))) else Nx H3)
section
variable {T : Tb} {K : PySem.W.Frag} {σ : L2.St} {H : Hp} {a b : Addr} {xs ys : List V} {te : TE} {Q : Addr → Hp → Prop} {i j n : Nat}
theorem take_snoc {α : Type} {l : List α} {i : Nat} {x : α} (h : l[i]? = some x) : l.take (i + 1) = l.take i ++ [x] := by
  rw [List.take_add_one, h]; rfl
/-- the general form: n turns, the j-th gives F j -/
theorem lc_gen {J : It} {g : TG} {vs : List Nat} {n : Nat} (F : Nat → V) (hn : n ≤ 100000) (stop : ∀ H1, Gr T H H1 → J.stop n H1) (go : ∀ j H1, j < n → Gr T H H1 → J.go j H1)
    (turn : ∀ j H1 x H2, j < n → Gr T H H1 → J.yld j H1 x H2 → Gr T H1 H2 ∧ ∀ R : L2.St → Hp → Prop, (∀ σ2 H3, wipe σ2 vs = wipe σ vs → Gr T H2 H3 → (∀ Q : VK, (∀ H4, Gr T H3 H4 → Q (F j) H4) → te σ2 H3 Q) → R σ2 H3) → g x (wipe σ vs) H2 R)
    (done : ∀ p H1, H p = Option.none → Gr T H H1 → H1 p = some (.lst ((List.range n).map F)) → Q p H1) : LcB J g tYes te vs σ H Q := by
  intro D hD
  refine ⟨fun i m H1 => i + m = n ∧ Gr T H H1 ∧ H1 D = some (.lst ((List.range i).map F)), ⟨n, by omega, Gr.new hD, upd_same⟩, fun i m H1 hW => ?_⟩
  obtain ⟨e, gr, eD⟩ := hW
  by_cases hi : i < n
  · refine .inr ⟨go i H1 hi gr, fun H' => Gr T H H' ∧ H' D = some (.lst ((List.range (i + 1)).map F)), fun H' q => ⟨m - 1, by omega, by omega, q.1, q.2⟩, fun x H2 y => ?_⟩
    obtain ⟨g2, t⟩ := turn i H1 x H2 hi gr y
    refine t _ fun σ2 H3 w g3 ev => ⟨w, ?_⟩
    show te σ2 H3 fun y H4 => ∃ acc, H4 D = some (.lst acc) ∧ acc.length < sizeLine ∧ (Gr T H (upd H4 D (.lst (acc ++ [y]))) ∧ (upd H4 D (.lst (acc ++ [y]))) D = some (.lst ((List.range (i + 1)).map F)))
    refine ev _ fun H4 g4 => ?_
    have g04 := ((gr.trans g2).trans g3).trans g4
    have eD4 := ((g2.trans g3).trans g4).l eD
    refine ⟨_, eD4, by rw [List.length_map, List.length_range]; exact szs (by omega), g04.mut hD eD4 trivial, ?_⟩
    rw [upd_same, List.range_succ, List.map_append]; rfl
  · have : i = n := by omega
    subst this
    exact .inl ⟨stop H1 gr, done D H1 hD gr eD⟩
theorem map_range_get {f : V → V} {xs : List V} {F : Nat → V} (h : ∀ (j : Nat) x, xs[j]? = some x → F j = f x) : (List.range xs.length).map F = xs.map f := by
  refine List.ext_getElem (by rw [List.length_map, List.length_map, List.length_range]) fun j h1 h2 => ?_
  rw [List.getElem_map, List.getElem_map, List.getElem_range]
  rw [List.length_map] at h2
  exact h j _ (List.getElem?_eq_getElem h2)
/-- [e for x in xs] -/
theorem lc_map {i : Nat} (f : V → V) (hA : SqL K H a xs) (hn : xs.length ≤ 100000)
    (turn : ∀ x H1, x ∈ xs → Gr T H H1 → ∀ Q : VK, (∀ H2, Gr T H1 H2 → Q (f x) H2) → te ((wipe σ [i]).set i (some x)) H1 Q)
    (done : ∀ p H1, H p = Option.none → Gr T H H1 → H1 p = some (.lst (xs.map f)) → Q p H1) : LcB (Itl K a) (gName i) tYes te [i] σ H Q := by
  refine lc_gen (T := T) (n := xs.length) (fun j => f (xs.getD j .non)) hn (fun H1 g => ⟨xs, g.sq hA, Nat.le_refl _⟩) (fun j H1 hj g => ⟨xs, xs[j], g.sq hA, List.getElem?_eq_getElem hj⟩) (fun j H1 x H2 hj g y => ?_) fun p H1 np g e => ?_
  · obtain ⟨rfl, y⟩ := y
    have hx := y xs (g.sq hA)
    have ex : xs.getD j .non = x := by rw [List.getD_eq_getElem?_getD, hx]; rfl
    refine ⟨Gr.refl _, fun R k => k _ _ ?_ (Gr.refl _) ?_⟩
    · show ((σ.set i Option.none).set i (some x)).set i Option.none = σ.set i Option.none
      rw [List.set_set, List.set_set]
    · rw [ex]
      exact turn x H2 (List.mem_of_getElem? hx) g
  · refine done p H1 np g ?_
    rw [e]
    have : (List.range xs.length).map (fun j => f (xs.getD j .non)) = xs.map f := map_range_get fun j x hx => by rw [List.getD_eq_getElem?_getD, hx]; rfl
    rw [this]
/-- [e for x in range(lo, lo + n)] -/
theorem lc_rng {i : Nat} {lo : Int} {n : Nat} (F : Nat → V) (hn : n ≤ 100000)
    (turn : ∀ (k : Nat) H1, k < n → Gr T H H1 → ∀ Q : VK, (∀ H2, Gr T H1 H2 → Q (F k) H2) → te ((wipe σ [i]).set i (some (.int (lo + k)))) H1 Q)
    (done : ∀ p H1, H p = Option.none → Gr T H H1 → H1 p = some (.lst ((List.range n).map F)) → Q p H1) : LcB (Itr lo n) (gName i) tYes te [i] σ H Q := by
  refine lc_gen (T := T) (n := n) F hn (fun H1 g => Nat.le_refl _) (fun j H1 hj g => hj) (fun j H1 x H2 hj g y => ?_) done
  obtain ⟨rfl, rfl⟩ := y
  refine ⟨Gr.refl _, fun R k => k _ _ ?_ (Gr.refl _) (turn j H2 hj g)⟩
  show ((σ.set i Option.none).set i (some _)).set i Option.none = σ.set i Option.none
  rw [List.set_set, List.set_set]
/-- [e for x, y in zip(xs, ys)] (own: j inner first as wipe does) -/
theorem lc_zip {i j : Nat} (hij : i ≠ j) (f : V → V → V) (hA : SqL K H a xs) (hB : SqL K H b ys) (hl : xs.length = ys.length) (hn : xs.length ≤ 100000)
    (turn : ∀ x y H1, (x, y) ∈ xs.zip ys → Gr T H H1 → ∀ Q : VK, (∀ H2, Gr T H1 H2 → Q (f x y) H2) → te (((wipe σ [i, j]).set i (some x)).set j (some y)) H1 Q)
    (done : ∀ p H1, H p = Option.none → Gr T H H1 → H1 p = some (.lst (List.zipWith f xs ys)) → Q p H1) : LcB (Itz K a b) (gTup K 2 (gCons (gName i) (gCons (gName j) gNil))) tYes te [i, j] σ H Q := by
  refine lc_gen (T := T) (n := xs.length) (fun k => f (xs.getD k .non) (ys.getD k .non)) hn (fun H1 g => ⟨xs, ys, g.sq hA, g.sq hB, .inl (Nat.le_refl _)⟩) (fun k H1 hk g => ⟨xs, ys, xs[k], ys[k], g.sq hA, g.sq hB, List.getElem?_eq_getElem hk, List.getElem?_eq_getElem (by omega)⟩) (fun k H1 v H2 hk g y => ?_) fun p H1 np g e => ?_
  · obtain ⟨U, x, y, rfl, hU, rfl, f1, f2⟩ := y
    have hx := f1 xs (g.sq hA)
    have hy := f2 ys (g.sq hB)
    have ex : xs.getD k .non = x := by rw [List.getD_eq_getElem?_getD, hx]; rfl
    have ey : ys.getD k .non = y := by rw [List.getD_eq_getElem?_getD, hy]; rfl
    refine ⟨Gr.new hU, fun R q => ⟨U, [x, y], rfl, stp upd_same, rfl, x, [y], rfl, y, [], rfl, rfl, q _ _ ?_ (Gr.refl _) ?_⟩⟩
    · show ((((((σ.set j Option.none).set i Option.none).set i (some x)).set j (some y)).set j Option.none).set i Option.none) = (σ.set j Option.none).set i Option.none
      rw [List.set_set, List.set_set, List.set_comm _ _ hij, List.set_set, List.set_set]
    · rw [ex, ey]
      refine turn x y _ ?_ (g.trans (Gr.new hU))
      exact List.mem_of_getElem? (i := k) (by rw [List.getElem?_zip_eq_some]; exact ⟨hx, hy⟩)
  · refine done p H1 np g ?_
    rw [e]
    have : (List.range xs.length).map (fun k => f (xs.getD k .non) (ys.getD k .non)) = List.zipWith f xs ys := by
      refine List.ext_getElem (by rw [List.length_map, List.length_zipWith, List.length_range]; omega) fun k h1 h2 => ?_
      rw [List.length_map, List.length_range] at h1
      have h3 : k < ys.length := by omega
      rw [List.getElem_map, List.getElem_zipWith, List.getElem_range, List.getD_eq_getElem?_getD, List.getD_eq_getElem?_getD, List.getElem?_eq_getElem h1, List.getElem?_eq_getElem h3]; rfl
    rw [this]
/-- [e for k, x in enumerate(xs)] -/
theorem lc_enum {i j : Nat} (hij : i ≠ j) (F : Nat → V → V) (hA : SqL K H a xs) (hn : xs.length ≤ 100000)
    (turn : ∀ (k : Nat) x H1, xs[k]? = some x → Gr T H H1 → ∀ Q : VK, (∀ H2, Gr T H1 H2 → Q (F k x) H2) → te (((wipe σ [i, j]).set i (some (.int k))).set j (some x)) H1 Q)
    (done : ∀ p H1, H p = Option.none → Gr T H H1 → H1 p = some (.lst ((List.range xs.length).map fun k => F k (xs.getD k .non))) → Q p H1) : LcB (Ite K a) (gTup K 2 (gCons (gName i) (gCons (gName j) gNil))) tYes te [i, j] σ H Q := by
  refine lc_gen (T := T) (n := xs.length) (fun k => F k (xs.getD k .non)) hn (fun H1 g => ⟨xs, g.sq hA, Nat.le_refl _⟩) (fun k H1 hk g => ⟨xs, xs[k], g.sq hA, List.getElem?_eq_getElem hk⟩) (fun k H1 v H2 hk g y => ?_) done
  obtain ⟨U, x, rfl, hU, rfl, f1⟩ := y
  have hx := f1 xs (g.sq hA)
  have ex : xs.getD k .non = x := by rw [List.getD_eq_getElem?_getD, hx]; rfl
  refine ⟨Gr.new hU, fun R q => ⟨U, [.int k, x], rfl, stp upd_same, rfl, .int k, [x], rfl, x, [], rfl, rfl, q _ _ ?_ (Gr.refl _) ?_⟩⟩
  · show ((((((σ.set j Option.none).set i Option.none).set i (some _)).set j (some x)).set j Option.none).set i Option.none) = (σ.set j Option.none).set i Option.none
    rw [List.set_set, List.set_set, List.set_comm _ _ hij, List.set_set, List.set_set]
  · rw [ex]
    exact turn k x _ hx (g.trans (Gr.new hU))
end
end Kx
namespace Kx
open PySem PySem.Spec PyProof.Rows L2
/-! ### data: lists of ints, lists of such, tuples of ints -/
def dI (l : List Int) : PyData := .list (l.map PyData.int)
def dL (ls : List (List Int)) : PyData := .list (ls.map dI)
def dT (l : List Int) : PyData := .tuple (l.map PyData.int)
def dTL (ls : List (List Int)) : PyData := .tuple (ls.map dI)
theorem canI : ∀ l : List Int, PyData.canLayAll0 (l.map PyData.int) = true
  | [] => by simp [PyData.canLayAll0]
  | a :: l => by
    have := canI l
    simp [PyData.canLayAll0, PyData.canLay0, this]
theorem depI : ∀ l : List Int, PyData.depthAll (l.map PyData.int) = 0
  | [] => by simp [PyData.depthAll]
  | a :: l => by
    have := depI l
    simp [PyData.depthAll, PyData.depth, this]
theorem eqvI : ∀ l m : List Int, PyData.eqvAll (l.map PyData.int) (m.map PyData.int) = decide (l = m)
  | [], [] => by simp [PyData.eqvAll]
  | [], b :: m => by simp [PyData.eqvAll]
  | a :: l, [] => by simp [PyData.eqvAll]
  | a :: l, b :: m => by
    have := eqvI l m
    simp [PyData.eqvAll, PyData.eqv, this, Bool.beq_eq_decide_eq]
theorem eqv_dI (l m : List Int) : PyData.eqv (dI l) (dI m) = decide (l = m) := by
  unfold dI
  rw [PyData.eqv, eqvI]
theorem eqv_dT (l m : List Int) : PyData.eqv (dT l) (dT m) = decide (l = m) := by
  unfold dT
  rw [PyData.eqv, eqvI]
theorem canL : ∀ ls : List (List Int), PyData.canLayAll0 (ls.map dI) = true
  | [] => by simp [PyData.canLayAll0]
  | a :: l => by
    have := canL l
    have h := canI a
    simp [PyData.canLayAll0, PyData.canLay0, this, dI, h]
theorem depL : ∀ ls : List (List Int), PyData.depthAll (ls.map dI) ≤ 1
  | [] => by simp [PyData.depthAll]
  | a :: l => by
    have := depL l
    have h := depI a
    simp [PyData.depthAll, PyData.depth, dI, h] at this ⊢
    omega
theorem eqvL : ∀ l m : List (List Int), PyData.eqvAll (l.map dI) (m.map dI) = decide (l = m)
  | [], [] => by simp [PyData.eqvAll]
  | [], b :: m => by simp [PyData.eqvAll]
  | a :: l, [] => by simp [PyData.eqvAll]
  | a :: l, b :: m => by
    have := eqvL l m
    have h := eqv_dI a b
    simp [PyData.eqvAll, this, h]
theorem eqv_dL (l m : List (List Int)) : PyData.eqv (dL l) (dL m) = decide (l = m) := by
  unfold dL
  rw [PyData.eqv, eqvL]
theorem eqv_dTL (l m : List (List Int)) : PyData.eqv (dTL l) (dTL m) = decide (l = m) := by
  unfold dTL
  rw [PyData.eqv, eqvL]
theorem sh_dI (l : List Int) : SeqAt.shaped (dI l) = true := by
  unfold SeqAt.shaped dI
  rw [PyData.canLay0, canI, PyData.depth, depI]; rfl
theorem sh_dT (l : List Int) : SeqAt.shaped (dT l) = true := by
  unfold SeqAt.shaped dT
  rw [PyData.canLay0, canI, PyData.depth, depI]; rfl
theorem sh_dL (l : List (List Int)) : SeqAt.shaped (dL l) = true := by
  unfold SeqAt.shaped dL
  rw [PyData.canLay0, canL, PyData.depth]
  have := depL l
  simp; omega
theorem sh_dTL (l : List (List Int)) : SeqAt.shaped (dTL l) = true := by
  unfold SeqAt.shaped dTL
  rw [PyData.canLay0, canL, PyData.depth]
  have := depL l
  simp; omega
section
variable {K : PySem.W.Frag} {H : Hp} {a : Addr}
theorem dpI : ∀ l : List Int, DpAll K H (l.map V.int) (l.map PyData.int)
  | [] => .nil
  | i :: l => .cons (.int i) (dpI l)
theorem dp_l {l : List Int} (h : SqL K H a (l.map V.int)) : Dp K H (.ref a) (dI l) := .lst h (dpI l)
theorem dp_t {l : List Int} (h : SqT K H a (l.map V.int)) : Dp K H (.ref a) (dT l) := .tup h (dpI l)
theorem dpL : ∀ (as : List Addr) (ls : List (List Int)), as.length = ls.length → (∀ (i : Nat) a l, as[i]? = some a → ls[i]? = some l → SqL K H a (l.map V.int)) → DpAll K H (as.map V.ref) (ls.map dI)
  | [], [], _, _ => .nil
  | [], _ :: _, h, _ => by simp at h
  | _ :: _, [], h, _ => by simp at h
  | a :: as, l :: ls, h, e => .cons (dp_l (e 0 a l rfl rfl)) (dpL as ls (by simpa using h) fun i a l h1 h2 => e (i + 1) a l h1 h2)
theorem dp_ll {as : List Addr} {ls : List (List Int)} (h : SqL K H a (as.map V.ref)) (hl : as.length = ls.length) (e : ∀ (i : Nat) a l, as[i]? = some a → ls[i]? = some l → SqL K H a (l.map V.int)) : Dp K H (.ref a) (dL ls) := .lst h (dpL as ls hl e)
theorem dp_tl {as : List Addr} {ls : List (List Int)} (h : SqT K H a (as.map V.ref)) (hl : as.length = ls.length) (e : ∀ (i : Nat) a l, as[i]? = some a → ls[i]? = some l → SqL K H a (l.map V.int)) : Dp K H (.ref a) (dTL ls) := .tup h (dpL as ls hl e)
end
/-! ### rules that name the written part (for a comprehension's block) -/
theorem call_isi_at {X : Cx} {K : PySem.W.Frag} (e : X.K = K) : CallR X (.builtin "isinstance") (rIsi K) := by
  subst e
  exact call_isi
theorem call_len_at {X : Cx} {K : PySem.W.Frag} (e : X.K = K) : CallR X (.builtin "len") (fun xs H Q => ∃ p ys, xs = [.ref p] ∧ (SqL K H p ys ∨ SqT K H p ys) ∧ Q (.int ys.length) H) := by
  subst e
  exact call_len_seq
theorem ix_list_at {X : Cx} {K : PySem.W.Frag} (e : X.K = K) : IxR X (rIxL K) := by
  subst e
  exact ix_list
/-! ### for k, x in enumerate(xs) -/
theorem for_enum {K : PySem.W.Frag} {a : Addr} {xs : List V} {g : TG} {tb : TS} {D : Ends} {σ : L2.St} {H : Hp} (Pv : Nat → L2.St → Hp → Prop) (h0 : Pv 0 σ H) (hq : ∀ i σ H, Pv i σ H → SqL K H a xs)
    (hs : ∀ (i : Nat) (x : V) (U : Addr) (σ : L2.St) (H : Hp), xs[i]? = some x → Pv i σ H → H U = Option.none → g (.ref U) σ (upd H U (.tup [.int (i : Nat), x])) fun σ2 H2 => tb { D with nx := Pv (i + 1), ct := Pv (i + 1), bk := D.nx } σ2 H2) (hd : ∀ σ H, Pv xs.length σ H → D.nx σ H) :
    ∃ W : Nat → Nat → L2.St → Hp → Prop, (∃ m, W 0 m σ H) ∧ ∀ i m σ H, W i m σ H →
      ((Ite K a).stop i H ∧ D.nx σ H) ∨ ((Ite K a).go i H ∧ ∃ N : L2.St → Hp → Prop, (∀ σ' H', N σ' H' → ∃ m', m' < m ∧ W (i + 1) m' σ' H') ∧ ∀ v H', (Ite K a).yld i H v H' → g v σ H' fun σ2 H2 => tb { D with nx := N, ct := N, bk := D.nx } σ2 H2) := by
  refine ⟨fun i m σ H => m = xs.length - i ∧ i ≤ xs.length ∧ Pv i σ H, ⟨xs.length, rfl, Nat.zero_le _, h0⟩, ?_⟩
  rintro i m σ H ⟨rfl, hi, p⟩
  have qx := hq i σ H p
  by_cases hlt : i < xs.length
  · have hx : xs[i]? = some xs[i] := List.getElem?_eq_getElem hlt
    refine .inr ⟨⟨xs, _, qx, hx⟩, Pv (i + 1), fun σ' H' p' => ⟨xs.length - (i + 1), by omega, rfl, hlt, p'⟩, fun v H' y => ?_⟩
    obtain ⟨U, x', rfl, hU, rfl, f1⟩ := y
    exact hs i x' U σ H (f1 xs qx) p hU
  · have e : i = xs.length := by omega
    subst e
    exact .inl ⟨⟨xs, qx, Nat.le_refl _⟩, hd σ H p⟩
/-! ### either way of a conditional expression -/
theorem tIf_ev {t : TT} {ta tb : TE} {σ : L2.St} {H : Hp} {Q : VK} (P : V → Hp → Prop) (ht : ∀ Q : Bool → Hp → Prop, (∀ c, Q c H) → t σ H Q) (ha : ∀ Q : VK, (∀ v H', P v H' → Q v H') → ta σ H Q) (hb : ∀ Q : VK, (∀ v H', P v H' → Q v H') → tb σ H Q)
    (h : ∀ v H', P v H' → Q v H') : tIf t ta tb σ H Q := by
  refine ht _ fun c => ?_
  cases c with
  | true => exact ha Q h
  | false => exact hb Q h
/-! ### slices -/
theorem cut_from (xs : List V) (k : Nat) : cutV xs (some (k : Int)) none = xs.drop k := by
  unfold cutV
  rw [HT.sIx_nat, HT.sIx_none]
  by_cases h : k ≤ xs.length
  · rw [Nat.min_eq_left h, List.take_of_length_le (by rw [List.length_drop]; exact Nat.le_refl _)]
  · rw [Nat.min_eq_right (by omega), List.drop_length, List.drop_eq_nil_of_le (by omega), List.take_nil]
theorem cut_to (xs : List V) (k : Nat) : cutV xs none (some (k : Int)) = xs.take k := by
  unfold cutV
  rw [HT.sIx_nat, HT.sIx_none, List.drop_zero, Nat.sub_zero]
  by_cases h : k ≤ xs.length
  · rw [Nat.min_eq_left h]
  · rw [Nat.min_eq_right (by omega), List.take_length, List.take_of_length_le (by omega)]
theorem cut_mid (xs : List V) (k l : Nat) : cutV xs (some (k : Int)) (some (l : Int)) = (xs.take l).drop k := by
  unfold cutV
  rw [HT.sIx_nat, HT.sIx_nat, List.drop_take]
  by_cases h1 : k ≤ xs.length
  · by_cases h2 : l ≤ xs.length
    · rw [Nat.min_eq_left h1, Nat.min_eq_left h2]
    · rw [Nat.min_eq_left h1, Nat.min_eq_right (by omega), List.take_of_length_le (by rw [List.length_drop]; exact Nat.le_refl _), List.take_of_length_le (by rw [List.length_drop]; omega)]
  · rw [Nat.min_eq_right (a := k) (by omega), List.drop_length, List.take_nil, List.drop_eq_nil_of_le (by omega), List.take_nil]
theorem cut_1 (xs : List V) : cutV xs (some 1) none = xs.drop 1 := cut_from xs 1
theorem cut_12 (xs : List V) : cutV xs (some 1) (some 2) = (xs.take 2).drop 1 := cut_mid xs 1 2
theorem cut_1m1 (xs : List V) : cutV xs (some 1) (some (-1)) = (xs.drop 1).take (xs.length - 1 - 1) := by
  unfold cutV
  rw [show HT.sIx xs.length 0 (some 1) = min 1 xs.length from HT.sIx_nat xs.length 0 1]
  have e : HT.sIx xs.length xs.length (some (-1)) = xs.length - 1 := by
    show (if (-1 : Int) < 0 then ((-1 : Int) + (xs.length : Int)).toNat else min (-1 : Int).toNat xs.length) = _
    rw [if_pos (by decide)]
    omega
  rw [e]
  by_cases h : 1 ≤ xs.length
  · rw [Nat.min_eq_left h]
  · have : xs.length = 0 := by omega
    rw [List.length_eq_zero_iff.mp this]; rfl
end Kx
namespace Kx
open PySem PySem.Spec PyProof.Rows L2 LamX NdefX Ep
/-! ### sorted(range(len(x)), key=lambda y: (x[y], y)) -/
section
variable {X : Cx} {pins : List (Addr × Obj)} {σ : L2.St} {H : Hp} {s : Shared}
/-- a lambda is made; what H knows besides the one table stays, nothing is forgotten -/
theorem lam_here {m P : Addr} {params : Arguments} {body : Expr} {scope : Scope} {pos : Pos} {E Q : Value → Shared → Prop} (I : Inv X pins σ H s) (B : TabB X.base X.mg m P) (hm : X.env.code = .ref m)
    (tb : TabS H P (X.env.qual ++ "<lambda>")) (nd : defaultsOf params X.env = ([], [])) (fr : ∀ y ∈ scope.names, y.2 = .free → ∃ d, X.env.cells.lookup y.1 = some d)
    (go : ∀ (f d : Addr) (pm ct : Value) (J : Hp) (s' : Shared), Inv X pins σ J s' → (∀ b o, b ≠ P → s.heap.get? b = some o → s'.heap.get? b = some o) → (∀ b o, b ≠ P → H b = some o → J b = some o) → (∀ b, J b = Option.none → H b = Option.none) → TabS J P (X.env.qual ++ "<lambda>") →
      s'.heap.get? f = some (PySem.W.kla_obj "<lambda>" (X.env.qual ++ "<lambda>") params body scope (cloFrom X.env.cells scope.names []) pm d ct) → J d = some (CodeO d (X.env.qual ++ "<lambda>")) → Q (.ref f) s') :
    wpAny (model X.prog X.w) X.A (eval (.Lambda params body scope pos) X.env) Q E s := by
  obtain ⟨tab, eP, tri, all⟩ := tb
  have hk : s.heap.get? P = some { cls := .none, data := .fields tab } := I.hok P _ eP
  have bP := B.bm.keeps I.bk
  have cP := B.code.keeps I.bk
  have gP := I.mod.glob.keeps I.bk
  apply PySem.W.kla_eval nd
  match found : codeAmong pos tab.toList with
  | some v =>
    obtain ⟨d, rfl, ed⟩ := all pos v found
    apply PySem.W.kla_makeFunctionHit (closure_ok fr) I.ok.glob gP hm cP hk tri found bP
    intro ct g tk k1 k2
    exact go g.objs.size d _ ct H _ (I.kept fun b o e => Heap.get?_push_of_some _ (k1 b o e)) (fun b o _ e => Heap.get?_push_of_some _ (k1 b o e)) (fun _ _ _ e => e) (fun _ e => e) ⟨tab, eP, tri, all⟩ (Heap.get?_push_size _ rfl) ed
  | Option.none =>
    apply PySem.W.kla_makeFunction (closure_ok fr) I.ok.glob gP hm cP hk tri found B.gP bP
    intro d ct g tk k1 big small rec tabd
    obtain ⟨d', oc, us, t, e, h1, h2, h3⟩ := rec
    cases e
    have fresh : H d = Option.none := I.hok.fresh big
    have dP : P ≠ d := ne_of_none eP fresh
    let more : Array Value := #[rawInt pos.line, rawInt pos.col, .ref d]
    have J := inv_table (t' := tk) (more := more) (c := d) (q := X.env.qual ++ "<lambda>") (h' := g.push (PySem.W.kla_obj "<lambda>" (X.env.qual ++ "<lambda>") params body scope (cloFrom X.env.cells scope.names []) ((X.mg "__name__").getD .none) d ct)) I eP
      (fun b o nb e => Heap.get?_push_of_some _ (k1 b o nb e)) (Heap.get?_push_of_some _ tabd) big ⟨oc, us, t, Heap.get?_push_of_some _ h1, h2, h3⟩
    have stay : ∀ b o, b ≠ P → H b = some o → upd (upd H P (.tbl (tab ++ more))) d (CodeO d (X.env.qual ++ "<lambda>")) b = some o := fun b o nb e => by
      rw [upd_ne (ne_of_none e fresh), upd_ne nb]; exact e
    have listed : (tab ++ more).toList = tab.toList ++ [rawInt pos.line, rawInt pos.col, .ref d] := by simp [more]
    refine go g.objs.size d _ ct _ _ J (fun b o nb e => Heap.get?_push_of_some _ (k1 b o nb e)) stay (fun b e => upd_none (upd_none e)) ?_ (Heap.get?_push_size _ rfl) upd_same
    refine ⟨tab ++ more, by rw [upd_ne dP]; exact upd_same, by rw [listed]; exact PySem.TriplesOk_snoc _ _ _ _ tri, fun p v ev => ?_⟩
    rw [listed] at ev
    rcases among_app _ tri ev with old | new
    · obtain ⟨d0, z1, z2⟩ := all p v old
      exact ⟨d0, z1, stay _ _ (fun z => by rw [z, eP] at z2; exact codeO_ne _ (Option.some.inj z2).symm) z2⟩
    · exact ⟨d, new, upd_same⟩
end
section
variable {prog : Program} {w : World} {A : Around} {s : Shared}
/-- the lambda called -/
theorem lam_pair {f a d c : Addr} {its : Array Value} {q x y : Str} {params : Arguments} {scope : Scope} {cl : List (Str × Addr)} {pm ct : Value} {p1 p2 p3 p4 p5 : Pos} {ctx : Nat} {j : Nat} {tj : Tok} {i : Int} {ti : Tok}
    (hd : A.depth < recursionLimit) (ho : s.heap.get? f = some (PySem.W.kla_obj "<lambda>" q params (.Tuple [.Subscript (.Name x p1) (.Name y p2) p3, .Name y p4] ctx p5) scope cl pm c ct)) (co : scope.isCoroutine = false) (gn : scope.isGenerator = false) (kd : scope.kind = .function)
    (cr : s.heap.CodeRec (.ref c) q) (lim : s.heap.NoLimit) (ly : scope.names.lookup y = some .local) (lx : scope.names.lookup x = some .free) (nc : ∀ z ∈ scope.names, z.2 ≠ .cell) (cx : cl.lookup x = some d) (cell : s.heap.IsCell d (some (.ref a)))
    (il : s.heap.IsList a its) (hj : its[j]? = some (.int i ti)) (small : (j : Int) < 2 ^ 63) (bd : ∀ u, bindArgs (PySem.W.kla_fn "<lambda>" q params (.Tuple [.Subscript (.Name x p1) (.Name y p2) p3, .Name y p4] ctx p5) scope cl pm (.ref c) ct) ⟨[u], []⟩ = pure [(y, u)])
    (dx : (x == ("__debug__" : Str)) = false) (dy : (y == ("__debug__" : Str)) = false) (kx : (x == ("__classdict__" : Str)) = false) :
    wpAny (model prog w) A (call (.ref f) [.int j tj]) (PySem.W.KeyPure (.tuple [.int i, .int j]) s) (fun _ _ => False) s := by
  refine wpAny_call (PySem.W.kla_callFunE hd ho rfl co gn rfl cr ?_)
  rw [bd]
  refine wpAny_pure (wpAny_newFunctionEnv nc (fun z hz => by rw [List.mem_singleton.mp hz]; exact ly) (fun g hns hsb => ⟨lim.fresh _ hsb, ?_⟩) kd)
  have kp : ∀ b o, s.heap.get? b = some o → g.get? b = some o := fun b o e => hsb.extBut b o (Nat.ne_of_lt (Heap.lt_size e)) (Heap.get?_push_of_some _ e)
  refine PySem.W.kla_codeExpr ?_
  have vy : (fun z => ([(y, Value.int j tj)] : List (Str × Value)).reverse.lookup z) y = some (Value.int j tj) := by simp [List.lookup]
  refine wpAny_Tuple_spliced (args_cons ?_ rfl)
  refine Subscript_ (wpAny_Name (wpAny_loadName_free kd lx cx (cell.keeps kp) ?_ kx) dx)
  refine wpAny_Name (wpAny_loadName_local kd ly hns vy ?_) dy
  refine item_listR (let ⟨o, e, r⟩ := il; ⟨o, kp _ _ e, r⟩) (Int.natCast_nonneg j) small (by simpa using hj) ?_ rfl
  refine args_cons (wpAny_Name (wpAny_loadName_local kd ly hns vy ?_) dy) rfl
  refine args_nil ⟨show 2 ≤ sizeLine by decide, ?_⟩
  refine ⟨_, _, rfl, fun b o e => Heap.get?_push_of_some _ (kp b o e), ?_⟩
  have r : ReadsAll (g.push { cls := .type "tuple", data := .seq [Value.int i ti, Value.int j tj].toArray }) [Value.int i ti, Value.int j tj] [.int i, .int j] ([] ++ ([] ++ [])) := .cons (.int i ti) (.cons (.int j tj) .nil)
  exact Reads.tuple (Heap.get?_push_size _ rfl) rfl rfl r
theorem vals_each : ∀ {us : List Value} {js : List Nat}, PySem.W.EachIs (fun v j => ∃ t, v = Value.int ((j : Nat) : Int) t) us js → Vals (js.map fun j => V.int (j : Nat)) us
  | _, _, .nil => .nil
  | _, _, .cons h r => .cons h (vals_each r)
/-- sorted over the numbers below n by a key that keeps the heap -/
theorem sort_range {E Q : Value → Shared → Prop} {r g : Addr} {n : Nat} {t u v : Tok} (k : Nat → PyData) (hh : A.handled = none) (hr : IsRange s.heap r 0 (n : Int) 1 t u v) (hn : n ≤ 100000) (al : ∀ i j, PySem.W.alike (k i) (k j) = true) (so : ∀ i, ∃ x r, k i = .tuple (x :: r)) (un : ∀ i, A.units + 2 + (k i).depth < cLine)
    (turn : ∀ (j : Nat) (tj : Tok), j < n → ∀ (h : Heap) (tk : Nat), (∀ b o, s.heap.get? b = some o → h.get? b = some o) → wpAny (model prog w) A.in1.in1 (call (.ref g) [.int j tj]) (PySem.W.KeyPure (k j) { s with heap := h, toks := tk }) (fun _ _ => False) { s with heap := h, toks := tk })
    (fin : ∀ (h1 : Heap) (tk1 : Nat) (us : List Value) (c : Nat) (h : Heap) (tk : Nat), (∀ b o, s.heap.get? b = some o → h1.get? b = some o) → (∀ b o, h1.get? b = some o → h.get? b = some o) → h.get? h1.objs.size = some (seqObj "list" us.toArray c) → Vals (((List.range n).mergeSort (PySem.W.dataLe false k)).map fun j => V.int (j : Nat)) us → Q (.ref h1.objs.size) { s with heap := h, toks := tk }) :
    wpAny (model prog w) A (call (.builtin "sorted") [.ref r] [("key", .ref g)]) Q E s := by
  refine call_function_entry_kw kind_sorted plain_sorted entry_sorted (ksk_s1 _ _) ?_
  unfold Builtin.«sorted»
  refine wpAny_bind (m := checkCount "sorted" 1 1 _) (wpAny_pure ?_)
  refine wpAny_bind (collect_range (A := A.in1) hh hr (small_one (by omega) (by omega) (by omega) (by omega)) (rangeSize_nat _ _) (by omega) fun h1 tk1 acc kp1 items => ?_)
  have en : ((n : Int) - 0).toNat = n := by omega
  rw [en] at items
  have la : acc.toList.length = n := by rw [Array.length_toList]; exact items.1
  refine wpAny_bind (wpAny_newList ?_ (by rw [la, sizeLine_eq]; omega))
  have got : (h1.push (seqObj "list" acc.toList.toArray 0)).get? h1.objs.size = some (seqObj "list" acc.toList.toArray 0) := Heap.get?_push_size _ rfl
  have kp2 : ∀ b o, s.heap.get? b = some o → (h1.push (seqObj "list" acc.toList.toArray 0)).get? b = some o := fun b o e => Heap.get?_push_of_some _ (kp1 b o e)
  have big : ∀ b o, s.heap.get? b = some o → b ≠ h1.objs.size := fun b o e => Nat.ne_of_lt (Heap.lt_size (kp1 b o e))
  refine wpAny_bind (wpAny_holding (wpAny_call_entry_kw slot_list_sort ⟨_, got, rfl⟩ entry_list_sort ?_ (ksk_l1 _ _)))
  show wpAny (model prog w) A.in1.in1 (Builtin.«list.sort» ⟨[.ref h1.objs.size], [(Str.ofString "key", .ref g)]⟩) _ _ _
  rw [ksk_t1]
  have each : PySem.W.EachIs (fun v j => ∃ t, v = Value.int ((j : Nat) : Int) t) acc.toList (List.range n) := by
    refine PySem.W.EachIs.of_zip (by rw [la, List.length_range]) fun p hp => ?_
    obtain ⟨j, hj, e⟩ := List.getElem_of_mem hp
    rw [List.getElem_zip] at e
    rw [List.length_zip, List.length_range, la, Nat.min_self] at hj
    have ja : j < acc.size := by rw [items.1]; exact hj
    obtain ⟨t, et⟩ := items.2 j acc[j] (Array.getElem?_eq_getElem ja)
    refine ⟨t, ?_⟩
    rw [← e]
    show acc.toList[j]'(by rw [la]; exact hj) = Value.int ((((List.range n)[j]'(by rw [List.length_range]; exact hj)) : Nat) : Int) t
    rw [List.getElem_range, Array.getElem_toList, et]
    congr 1
    omega
  refine PySem.W.keyH_tree (kz := (List.range n).map k) (vs := acc.toList) (s := { s with heap := h1.push (seqObj "list" acc.toList.toArray 0), toks := tk1 }) got (by rw [List.length_map, List.length_range, la]) (by rw [la, sizeLine_eq]; omega)
    (fun d hd d' hd' => ?_) (.inl fun d hd => ?_) (fun d hd => ?_) (PySem.W.keyH_turns (s := { s with heap := h1.push (seqObj "list" acc.toList.toArray 0), toks := tk1 }) each fun v j hv hj h tk kp => ?_) fun h' tk out c kp hD ko => ⟨_, rfl, wpAny_pure ⟨_, rfl, ?_⟩⟩
  · obtain ⟨i, _, rfl⟩ := List.mem_map.mp hd
    obtain ⟨j, _, rfl⟩ := List.mem_map.mp hd'
    exact al i j
  · obtain ⟨i, _, rfl⟩ := List.mem_map.mp hd
    exact so i
  · obtain ⟨i, _, rfl⟩ := List.mem_map.mp hd
    exact un i
  · obtain ⟨t, rfl⟩ := hv
    exact turn j t (List.mem_range.mp hj) h tk fun b o e => kp b o (big b o e) (kp2 b o e)
  · have eo := PySem.W.keyedOut_each k ko each
    exact fin h1 tk1 out c h' tk kp1 (fun b o e => kp b o (Nat.ne_of_lt (Heap.lt_size e)) (Heap.get?_push_of_some _ e)) hD (vals_each eo)
end
theorem ranks_data (ns : List Int) : (List.range ns.length).mergeSort (PySem.W.dataLe false fun j : Nat => .tuple [.int (ns.getD j 0), .int (j : Nat)]) = ranks ns := by
  unfold ranks
  rw [PySem.W.dataLe_ii]
  congr 1
  funext i j
  congr 1
  apply propext
  constructor <;> intro h <;> rcases h with h | ⟨h1, h2⟩
  · exact .inl h
  · exact .inr ⟨h1, by omega⟩
  · exact .inl h
  · exact .inr ⟨h1, by omega⟩
def pairB (scope : Scope) (x y : Str) : Bool :=
  decide (scope.kind = .function) && !scope.isCoroutine && !scope.isGenerator && decide (scope.names.lookup y = some .local) && decide (scope.names.lookup x = some .free) && scope.names.all fun z => !decide (z.2 = .cell) && (!decide (z.2 = .free) || decide (z.1 = x))
def tSortBy (K : PySem.W.Frag) (P : Addr) (q : Str) (i : Nat) (te : L2.St → Hp → (Int → Int → Hp → Prop) → Prop) : TE := fun σ H Q => te σ H fun lo hi H1 => ∃ (a : Addr) (ns : List Int), lo = 0 ∧ hi = ((ns.length : Nat) : Int) ∧ σ[i]? = some (some (.ref a)) ∧ SqL K H1 a (ns.map V.int) ∧ ns.length ≤ 100000 ∧ TabS H1 P q ∧
  ∀ H2 p, Gr [(P, q)] H1 H2 → H1 p = Option.none → H2 p = some (.lst ((ranks ns).map fun j => V.int (j : Nat))) → Q (.ref p) H2
theorem pe_sortBy {X : Cx} {i k : Nat} {x y : Str} {m P : Addr} {rf : Expr} {ra : List Expr} {rp : Pos} {te : L2.St → Hp → (Int → Int → Hp → Prop) → Prop} {params : Arguments} {scope : Scope} {p lp kp pos p1 p2 p3 p4 p5 : Pos} {ctx : Nat}
    (calm : X.calm = true) (hg : Gl X "sorted") (hm : X.mg "sorted" = Option.none) (hr : PRg X (.Call rf ra [] rp) te) (B : TabB X.base X.mg m P) (code : X.env.code = .ref m) (room : Room k X.A) (hN : X.N[i]? = some x) (hx : X.env.scope.names.lookup x = some .cell) (hs : pairB scope x y = true)
    (nd : defaultsOf params X.env = ([], [])) (bd : ∀ (q : Str) (cl : List (Str × Addr)) (pm cv ct u : Value), bindArgs (PySem.W.kla_fn "<lambda>" q params (.Tuple [.Subscript (.Name x p1) (.Name y p2) p3, .Name y p4] ctx p5) scope cl pm cv ct) ⟨[u], []⟩ = pure [(y, u)])
    (dx : (x == ("__debug__" : Str)) = false := by decide) (dy : (y == ("__debug__" : Str)) = false := by decide) (kx : (x == ("__classdict__" : Str)) = false := by decide) :
    PE X (.Call (.Name "sorted" p) [.Call rf ra [] rp] [⟨some "key", .Lambda params (.Tuple [.Subscript (.Name x p1) (.Name y p2) p3, .Name y p4] ctx p5) scope lp, kp⟩] pos) (tSortBy X.K P (X.env.qual ++ "<lambda>") i te) := by
  unfold pairB at hs
  simp only [Bool.and_eq_true, Bool.or_eq_true, Bool.not_eq_true', decide_eq_true_eq, decide_eq_false_iff_not, List.all_eq_true] at hs
  obtain ⟨⟨⟨⟨⟨kd, co⟩, gn⟩, ly⟩, lx⟩, rest⟩ := hs
  refine ⟨fun pins s σ H Q I h => ?_⟩
  have free : ∀ z ∈ scope.names, z.2 = .free → ∃ d, X.env.cells.lookup z.1 = some d := fun z hz e => by
    rcases (rest z hz).2 with n | n
    · exact absurd e n
    · rw [n]; exact I.ok.has x (.inl hx)
  refine wpAny_Call_Name_kw (ld_blt I hg hm (show bootBuiltins "sorted" = some (.builtin "sorted") by decide +kernel) (callWith_kw (args_cons (thn (hr pins s σ H _ I h) fun v s1 hv => ?_) rfl)))
  obtain ⟨r, lo, hi, t, u, w, H1, rfl, rg, I1, a, ns, rfl, rfl, sa, qa, hn, tb, q⟩ := hv
  refine args_nil (kws_cons ?_)
  obtain ⟨tab, eP, _, _⟩ := id tb
  have rP : r ≠ P := fun z => by
    have hP := I1.hok P _ eP
    rw [← z] at hP
    have e := Option.some.inj ((show s1.heap.get? r = _ from rg).symm.trans hP)
    cases congrArg Obj.cls e
  refine lam_here I1 B code tb nd free fun f d pm ct J s2 I2 kp lp' lost tb2 ho ed => ?_
  refine kws_nil ?_
  show wpAny (model X.prog X.w) X.A (call (.builtin "sorted") [.ref r] [("key", .ref f)]) _ _ _
  have g12 : Gr [(P, X.env.qual ++ "<lambda>")] H1 J := ⟨fun b o e n => lp' b o (fun z => n tab (by rw [z, eP] at e; exact (Option.some.inj e).symm)) e, lost, fun _ z hz => by rw [List.mem_singleton.mp hz]; exact tb2⟩
  refine sort_range (n := ns.length) (fun j : Nat => .tuple [.int (ns.getD j 0), .int (j : Nat)]) (I2.ok.hd calm) (kp _ _ rP rg) hn (fun _ _ => rfl) (fun _ => ⟨_, _, rfl⟩) (fun j => ?_) (fun j tj hj h tk k3 => ?_) fun h1 tk1 us c h tk k1 k2 hD rv => ?_
  · have := room.un
    show X.A.units + 2 + (PyData.tuple [.int (ns.getD j 0), .int (j : Nat)]).depth < cLine
    have e : (PyData.tuple [.int (ns.getD j 0), .int (j : Nat)]).depth ≤ 5 := by simp [PyData.depth, PyData.depthAll]
    omega
  · have I3 : Inv X pins σ J { s2 with heap := h, toks := tk } := I2.kept k3
    obtain ⟨its, rl, pl, hz⟩ := I3.list (g12.sq qa)
    have ej : (ns.map V.int)[j]? = some (.int (ns.getD j 0)) := by
      rw [List.getElem?_map, List.getElem?_eq_getElem hj, List.getD_eq_getElem?_getD, List.getElem?_eq_getElem hj]; rfl
    obtain ⟨v, ev, rv⟩ := rl.get ej
    obtain ⟨ti, rfl⟩ := rv
    obtain ⟨mm, hns, hl⟩ := I3.loc
    obtain ⟨v, rv, lk⟩ := hl i x (.ref a) hN sa (.inr (.inl hx))
    obtain rfl : v = Value.ref a := rv
    have cell : ∃ dd, X.env.cells.lookup x = some dd ∧ h.IsCell dd (some (.ref a)) := by
      rcases lk with ⟨z, _⟩ | ⟨_, z⟩
      · have z' : X.env.scope.names.lookup x = some .local := z
        rw [hx] at z'; cases z'
      · exact z
    obtain ⟨dd, e1, e2⟩ := cell
    refine lam_pair (d := dd) (a := a) (its := its.toArray) (ti := ti) (show X.A.depth < _ from room.depth) (k3 _ _ ho) co gn kd (codeO_at I3.hok ed) I3.nolimit ly lx (fun z hz => (rest z hz).1) (clo_has free (PySem.mem_of_lookup lx) e1) e2 pl.isList (by simpa using ev) (by omega) (fun u => bd _ _ _ _ _ u) dx dy kx
  · have I3 : Inv X pins σ J { s2 with heap := h1, toks := tk1 } := I2.kept k1
    rw [ranks_data] at rv
    have lr : ((ranks ns).map fun j => V.int (j : Nat)).length ≤ sizeLine := by
      rw [List.length_map]; unfold ranks
      rw [List.length_mergeSort, List.length_range, sizeLine_eq]; omega
    have nD : J h1.objs.size = Option.none := I3.hok.fresh (Nat.le_refl _)
    refine ⟨.ref h1.objs.size, upd J h1.objs.size (.lst ((ranks ns).map fun j => V.int (j : Nat))), I3.laid (t' := tk) k2 (Nat.le_refl _) ⟨lr, us, c, rv, hD⟩, rfl, ?_⟩
    exact q _ _ (g12.trans (Gr.new nD)) (lost _ nD) upd_same
end Kx
namespace Kx
open PySem PySem.Spec PyProof.Rows L2
/-! ### xs[::2], xs[1::2]: some of the items -/
theorem vals_pick {α : Type} {xs : List V} {us : List Value} (f : α → Nat) (h : Vals xs us) : ∀ l : List α, Vals (l.filterMap fun i => xs[f i]?) (l.filterMap fun i => us[f i]?)
  | [] => .nil
  | i :: l => by
    have hl := h.length
    by_cases hi : f i < xs.length
    · obtain ⟨u, hu, r⟩ := h.get (List.getElem?_eq_getElem hi)
      rw [List.filterMap_cons, List.filterMap_cons, List.getElem?_eq_getElem hi, hu]
      exact .cons r (vals_pick f h l)
    · have h2 : us[f i]? = Option.none := List.getElem?_eq_none (by omega)
      rw [List.filterMap_cons, List.filterMap_cons, List.getElem?_eq_none (by omega), h2]
      exact vals_pick f h l
def tSome (K : PySem.W.Frag) (te : TE) : TE := fun σ H Q => te σ H fun x H1 => ∃ a xs, x = .ref a ∧ SqL K H1 a xs ∧ ∀ p ys, (∀ y ∈ ys, y ∈ xs) → ys.length ≤ xs.length → H1 p = Option.none → Q (.ref p) (upd H1 p (.lst ys))
theorem step_core {X : Cx} {e : Expr} {te : TE} {lo : Option Expr} {k : Nat} {p1 p2 pos : Pos} {lv : Option Int} (he : PE X e te) (hlo : ∀ (pins : List (Addr × Obj)) (s : Shared) (σ : L2.St) (H : Hp), Inv X pins σ H s → ∀ Q : Value → Shared → Prop, (∀ v s', IsPart v lv → Inv X pins σ H s' → Q v s') → wpAny (model X.prog X.w) X.A (evalPart lo X.env) Q X.xe s) :
    PE X (.Subscript e (.Slice lo Option.none (some (.Constant (.int 2) k p1)) p2) pos) (tSome X.K te) := by
  refine ⟨fun pins s σ H Q I h => ?_⟩
  refine Subscript_ (thn (he.run pins s σ H _ I h) fun v s1 ⟨x, H1, I1, r1, a, xs, ex, hx, q⟩ => ?_)
  subst ex
  cases r1
  have stp2 : PO X (some (.Constant (.int 2) k p1)) (tPart (tC (.int 2))) := po_some pe_int
  refine wpAny_Slice (hlo pins s1 σ H1 I1 _ fun vl s2 pl I2 => ?_)
  have up := (po_none (X := X)).run pins s2 σ H1 (fun o H2 => o = Option.none ∧ H2 = H1) I2 ⟨rfl, rfl⟩
  refine thn up fun vu s3 hu => ?_
  obtain ⟨o3, H3, I3, pu, rfl, rfl⟩ := hu
  have st := stp2.run pins s3 σ H3 (fun o H4 => o = some 2 ∧ H4 = H3) I3 ⟨2, rfl, rfl, rfl⟩
  refine thn st fun vs s4 hs => ?_
  obtain ⟨o4, H4, I4, ps, rfl, rfl⟩ := hs
  have I5 : Inv X pins σ H4 { s4 with heap := s4.heap.push { cls := .type "slice", data := .fields #[vl, vu, vs] } } := I4.kept (t' := s4.toks) fun _ _ z => Heap.get?_push_of_some _ z
  obtain ⟨its, rv, pl5, hz⟩ := I5.list hx
  have hl := rv.length
  show wpAny (model X.prog X.w) X.A (subscriptTail e (.Slice lo Option.none (some (.Constant (.int 2) k p1)) p2) (.ref a) (.ref s4.heap.objs.size)) (EP X pins σ Q) X.xe { s4 with heap := s4.heap.push { cls := .type "slice", data := .fields #[vl, vu, vs] } }
  refine tail_any (ops := [.ref a, .ref s4.heap.objs.size]) pl5.isList.typeIs PySem.slot_list_getitem.lookup ?_ (by with_unfolding_all rfl)
  refine wpAny_getItem_list_slice pl5.isList (Heap.IsSliceOf.new _ vl vu vs) pl pu ps (by decide) ?_ (by rw [List.size_toArray]; omega)
  have small := slicePick_size_le its.toArray lv Option.none (some 2)
  unfold slicePick at small ⊢
  generalize (sliceRange (sliceBounds lv Option.none (some 2) its.toArray.size).1 (sliceBounds lv Option.none (some 2) its.toArray.size).2.1 (sliceBounds lv Option.none (some 2) its.toArray.size).2.2) = ix at small ⊢
  have ei : (ix.filterMap fun i => its.toArray[i]?) = ix.filterMap fun i => its[i]? := by congr 1; funext i; simp
  have vp := vals_pick (fun i : Nat => i) rv ix
  have lp := vp.length
  rw [ei] at small ⊢
  rw [List.size_toArray, List.size_toArray] at small
  refine ⟨.ref _, _, I5.laid (t' := s4.toks) (o := .lst (ix.filterMap fun i => xs[i]?)) (fun _ _ z => Heap.get?_push_of_some _ z) (Nat.le_refl _) ⟨by omega, _, 0, vp, Heap.get?_push_size _ rfl⟩, rfl, q _ _ (fun y hy => ?_) (by omega) (I5.hok.fresh (Nat.le_refl _))⟩
  obtain ⟨i, _, ey⟩ := List.mem_filterMap.mp hy
  exact List.mem_of_getElem? ey
theorem pe_step0 {X : Cx} {e : Expr} {te : TE} {k : Nat} {p1 p2 pos : Pos} (he : PE X e te) : PE X (.Subscript e (.Slice Option.none Option.none (some (.Constant (.int 2) k p1)) p2) pos) (tSome X.K te) :=
  step_core (lv := Option.none) he fun pins s σ H I Q h => thn ((po_none (X := X)).run pins s σ H (fun o H2 => o = Option.none ∧ H2 = H) I ⟨rfl, rfl⟩) fun v s' ⟨o, H2, I2, p, e1, e2⟩ => by subst e1 e2; exact h v s' p I2
theorem pe_step1 {X : Cx} {e : Expr} {te : TE} {k k' : Nat} {p1 p2 p3 pos : Pos} (he : PE X e te) : PE X (.Subscript e (.Slice (some (.Constant (.int 1) k' p3)) Option.none (some (.Constant (.int 2) k p1)) p2) pos) (tSome X.K te) :=
  step_core (lv := some 1) he fun pins s σ H I Q h => thn ((po_some (X := X) (pe_int (i := 1) (j := k') (pos := p3))).run pins s σ H (fun o H2 => o = some 1 ∧ H2 = H) I ⟨1, rfl, rfl, rfl⟩) fun v s' ⟨o, H2, I2, p, e1, e2⟩ => by subst e1 e2; exact h v s' p I2
theorem pi_list_at {X : Cx} {K : PySem.W.Frag} {tg l : Expr} {tl : TE} (e : X.K = K) (hl : PE X l tl) : PI X tg l (iList K tl) := by
  subst e
  exact pi_list hl
/-! ### comprehensions whose items are told by what they have -/
section
variable {T : Tb} {K : PySem.W.Frag} {σ : L2.St} {H : Hp} {a b : Addr} {xs ys : List V} {te : TE} {Q : Addr → Hp → Prop} {i j n : Nat}
theorem lc_have {J : It} {g : TG} {vs : List Nat} {n : Nat} (Ok : Nat → V → Prop) (hn : n ≤ 100000) (stop : ∀ H1, Gr T H H1 → J.stop n H1) (go : ∀ j H1, j < n → Gr T H H1 → J.go j H1)
    (turn : ∀ j H1 x H2, j < n → Gr T H H1 → J.yld j H1 x H2 → Gr T H1 H2 ∧ ∀ R : L2.St → Hp → Prop, (∀ σ2 H3, wipe σ2 vs = wipe σ vs → Gr T H2 H3 → (∀ Q : VK, (∀ v H4, Ok j v → Gr T H3 H4 → Q v H4) → te σ2 H3 Q) → R σ2 H3) → g x (wipe σ vs) H2 R)
    (done : ∀ p H1 zs, H p = Option.none → Gr T H H1 → H1 p = some (.lst zs) → zs.length = n → (∀ (j : Nat) v, zs[j]? = some v → Ok j v) → Q p H1) : LcB J g tYes te vs σ H Q := by
  intro D hD
  refine ⟨fun i m H1 => i + m = n ∧ Gr T H H1 ∧ ∃ zs, H1 D = some (.lst zs) ∧ zs.length = i ∧ ∀ (j : Nat) v, zs[j]? = some v → Ok j v, ⟨n, by omega, Gr.new hD, [], upd_same, rfl, fun j v z => by simp at z⟩, fun i m H1 hW => ?_⟩
  obtain ⟨e, gr, zs, eD, lz, oz⟩ := hW
  rcases Nat.lt_or_ge i n with hi | hi
  · refine .inr ⟨go i H1 hi gr, fun H' => Gr T H H' ∧ ∃ zs, H' D = some (.lst zs) ∧ zs.length = i + 1 ∧ ∀ (j : Nat) v, zs[j]? = some v → Ok j v, fun H' q => ⟨m - 1, by omega, by omega, q.1, q.2⟩, fun x H2 y => ?_⟩
    obtain ⟨g2, t⟩ := turn i H1 x H2 hi gr y
    refine t _ fun σ2 H3 w g3 ev => ⟨w, ?_⟩
    show te σ2 H3 fun y H4 => ∃ acc, H4 D = some (.lst acc) ∧ acc.length < sizeLine ∧ (Gr T H (upd H4 D (.lst (acc ++ [y]))) ∧ ∃ zs, (upd H4 D (.lst (acc ++ [y]))) D = some (.lst zs) ∧ zs.length = i + 1 ∧ ∀ (j : Nat) v, zs[j]? = some v → Ok j v)
    refine ev _ fun v H4 ov g4 => ?_
    have eD4 := ((g2.trans g3).trans g4).l eD
    refine ⟨zs, eD4, by rw [lz]; exact szs (by omega), (((gr.trans g2).trans g3).trans g4).mut hD eD4 trivial, zs ++ [v], upd_same, by rw [List.length_append, lz]; rfl, fun j u hj => ?_⟩
    rcases Nat.lt_or_ge j zs.length with h | h
    · rw [List.getElem?_append_left h] at hj
      exact oz j u hj
    · rw [List.getElem?_append_right h] at hj
      have e0 : j - zs.length = 0 := by
        have := (List.getElem?_eq_some_iff.mp hj).1
        rw [List.length_singleton] at this
        omega
      rw [e0] at hj
      have ej : j = i := by omega
      rw [← Option.some.inj hj, ej]
      exact ov
  · obtain rfl : i = n := by omega
    exact .inl ⟨stop H1 gr, done D H1 zs hD gr eD lz oz⟩
theorem lc_enumP {i j : Nat} (hij : i ≠ j) (Ok : Nat → V → Prop) (hA : SqL K H a xs) (hn : xs.length ≤ 100000)
    (turn : ∀ (k : Nat) x H1, xs[k]? = some x → Gr T H H1 → ∀ Q : VK, (∀ v H2, Ok k v → Gr T H1 H2 → Q v H2) → te (((wipe σ [i, j]).set i (some (.int k))).set j (some x)) H1 Q)
    (done : ∀ p H1 zs, H p = Option.none → Gr T H H1 → H1 p = some (.lst zs) → zs.length = xs.length → (∀ (k : Nat) v, zs[k]? = some v → Ok k v) → Q p H1) : LcB (Ite K a) (gTup K 2 (gCons (gName i) (gCons (gName j) gNil))) tYes te [i, j] σ H Q := by
  refine lc_have (T := T) (n := xs.length) Ok hn (fun H1 g => ⟨xs, g.sq hA, Nat.le_refl _⟩) (fun k H1 hk g => ⟨xs, xs[k], g.sq hA, List.getElem?_eq_getElem hk⟩) (fun k H1 v H2 hk g y => ?_) done
  obtain ⟨U, x, rfl, hU, rfl, f1⟩ := y
  refine ⟨Gr.new hU, fun R q => ⟨U, [.int k, x], rfl, stp upd_same, rfl, .int k, [x], rfl, x, [], rfl, rfl, q _ _ ?_ (Gr.refl _) (turn k x _ (f1 xs (g.sq hA)) (g.trans (Gr.new hU)))⟩⟩
  show ((((((σ.set j Option.none).set i Option.none).set i (some _)).set j (some x)).set j Option.none).set i Option.none) = (σ.set j Option.none).set i Option.none
  rw [List.set_set, List.set_set, List.set_comm _ _ hij, List.set_set, List.set_set]
/-- .. whose items are new lists -/
theorem lc_refs {J : It} {g : TG} {vs : List Nat} {n : Nat} (cont : Nat → List V) (hn : n ≤ 100000) (stop : ∀ H1, Gr T H H1 → J.stop n H1) (go : ∀ j H1, j < n → Gr T H H1 → J.go j H1)
    (turn : ∀ j H1 x H2, j < n → Gr T H H1 → J.yld j H1 x H2 → Gr T H1 H2 ∧ ∀ R : L2.St → Hp → Prop, (∀ σ2 H3, wipe σ2 vs = wipe σ vs → Gr T H2 H3 → (∀ Q : VK, (∀ u H4, H3 u = Option.none → Gr T H3 H4 → H4 u = some (.lst (cont j)) → Q (.ref u) H4) → te σ2 H3 Q) → R σ2 H3) → g x (wipe σ vs) H2 R)
    (done : ∀ p H1 (as : List Addr), H p = Option.none → Gr T H H1 → H1 p = some (.lst (as.map V.ref)) → as.length = n → (∀ (j : Nat) a, as[j]? = some a → H a = Option.none ∧ a ≠ p ∧ H1 a = some (.lst (cont j))) → Q p H1) : LcB J g tYes te vs σ H Q := by
  intro D hD
  refine ⟨fun i m H1 => i + m = n ∧ Gr T H H1 ∧ ∃ as : List Addr, H1 D = some (.lst (as.map V.ref)) ∧ as.length = i ∧ ∀ (j : Nat) a, as[j]? = some a → H a = Option.none ∧ a ≠ D ∧ H1 a = some (.lst (cont j)), ⟨n, by omega, Gr.new hD, [], upd_same, rfl, fun j v z => by simp at z⟩, fun i m H1 hW => ?_⟩
  obtain ⟨e, gr, as, eD, lz, oz⟩ := hW
  rcases Nat.lt_or_ge i n with hi | hi
  · refine .inr ⟨go i H1 hi gr, fun H' => Gr T H H' ∧ ∃ as : List Addr, H' D = some (.lst (as.map V.ref)) ∧ as.length = i + 1 ∧ ∀ (j : Nat) a, as[j]? = some a → H a = Option.none ∧ a ≠ D ∧ H' a = some (.lst (cont j)), fun H' q => ⟨m - 1, by omega, by omega, q.1, q.2⟩, fun x H2 y => ?_⟩
    obtain ⟨g2, t⟩ := turn i H1 x H2 hi gr y
    refine t _ fun σ2 H3 w g3 ev => ⟨w, ?_⟩
    show te σ2 H3 fun y H4 => ∃ acc, H4 D = some (.lst acc) ∧ acc.length < sizeLine ∧ (Gr T H (upd H4 D (.lst (acc ++ [y]))) ∧ ∃ as : List Addr, (upd H4 D (.lst (acc ++ [y]))) D = some (.lst (as.map V.ref)) ∧ as.length = i + 1 ∧ ∀ (j : Nat) a, as[j]? = some a → H a = Option.none ∧ a ≠ D ∧ (upd H4 D (.lst (acc ++ [y]))) a = some (.lst (cont j)))
    refine ev _ fun u H4 nu g4 eu => ?_
    have g13 := g2.trans g3
    have uD : u ≠ D := fun z => by rw [z, g13.l eD] at nu; cases nu
    have eD4 := (g13.trans g4).l eD
    refine ⟨as.map V.ref, eD4, by rw [List.length_map, lz]; exact szs (by omega), ((gr.trans g13).trans g4).mut hD eD4 trivial, as ++ [u], by rw [upd_same, List.map_append]; rfl, by rw [List.length_append, lz]; rfl, fun j b hj => ?_⟩
    rcases Nat.lt_or_ge j as.length with h | h
    · rw [List.getElem?_append_left h] at hj
      obtain ⟨z1, z2, z3⟩ := oz j b hj
      exact ⟨z1, z2, by rw [upd_ne z2]; exact (g13.trans g4).l z3⟩
    · rw [List.getElem?_append_right h] at hj
      have e0 : j - as.length = 0 := by
        have := (List.getElem?_eq_some_iff.mp hj).1
        rw [List.length_singleton] at this
        omega
      rw [e0] at hj
      have ej : j = i := by omega
      obtain rfl : u = b := Option.some.inj hj
      rw [ej]
      exact ⟨(gr.trans g13).lost _ nu, uD, by rw [upd_ne uD]; exact eu⟩
  · obtain rfl : i = n := by omega
    exact .inl ⟨stop H1 gr, done D H1 as hD gr eD lz oz⟩
/-- [e for x in a tuple], the items new lists -/
theorem lc_tupR {i : Nat} (cont : Nat → List V) (hA : SqT K H a xs) (hn : xs.length ≤ 100000)
    (turn : ∀ (k : Nat) x H1, xs[k]? = some x → Gr T H H1 → ∀ Q : VK, (∀ u H2, H1 u = Option.none → Gr T H1 H2 → H2 u = some (.lst (cont k)) → Q (.ref u) H2) → te ((wipe σ [i]).set i (some x)) H1 Q)
    (done : ∀ p H1 (as : List Addr), H p = Option.none → Gr T H H1 → H1 p = some (.lst (as.map V.ref)) → as.length = xs.length → (∀ (j : Nat) a, as[j]? = some a → H a = Option.none ∧ a ≠ p ∧ H1 a = some (.lst (cont j))) → Q p H1) : LcB (Itt K a) (gName i) tYes te [i] σ H Q := by
  refine lc_refs (T := T) (n := xs.length) cont hn (fun H1 g => ⟨xs, g.st hA, Nat.le_refl _⟩) (fun k H1 hk g => ⟨xs, xs[k], g.st hA, List.getElem?_eq_getElem hk⟩) (fun k H1 x H2 hk g y => ?_) done
  obtain ⟨rfl, f1⟩ := y
  refine ⟨Gr.refl _, fun R q => q _ _ ?_ (Gr.refl _) (turn k x _ (f1 xs (g.st hA)) g)⟩
  show ((σ.set i Option.none).set i (some x)).set i Option.none = σ.set i Option.none
  rw [List.set_set, List.set_set]
/-- a list all of whose items are ints of a kind -/
theorem ints_of {Pi : Int → Prop} : ∀ {zs : List V}, (∀ v ∈ zs, ∃ z, v = .int z ∧ Pi z) → ∃ ns : List Int, zs = ns.map V.int ∧ ∀ z ∈ ns, Pi z
  | [], _ => ⟨[], rfl, fun _ h => by simp at h⟩
  | v :: zs, h => by
    obtain ⟨z, rfl, p⟩ := h v (List.mem_cons_self ..)
    obtain ⟨ns, rfl, q⟩ := ints_of fun u hu => h u (List.mem_cons_of_mem _ hu)
    exact ⟨z :: ns, rfl, fun u hu => (List.mem_cons.mp hu).elim (fun e => by rw [e]; exact p) (q u)⟩
end
end Kx
set_option pp.maxSteps 400
/-! ### the text -/
namespace Wk
open PySem PySem.Spec PyProof.Rows L2 Kx Ep
def topS (i : Nat) : Stmt := PySem.Challenge.pw_evenpowers_k04_answers_by_hand.main.body.getD i (.Pass ⟨0, 0, 0, 0⟩)
abbrev s_is_whole : Stmt := topS 4
abbrev N_is_whole : List Str := ["thing"]
abbrev s_check_heap : Stmt := topS 5
abbrev N_check_heap : List Str := ["heap", "number"]
abbrev s_taken : Stmt := topS 6
abbrev N_taken : List Str := ["number", "power", "found"]
abbrev s_sum_of : Stmt := topS 7
abbrev N_sum_of : List Str := ["heap", "power", "number"]
abbrev s_left_of : Stmt := topS 8
abbrev N_left_of : List Str := ["one", "other", "counts", "number", "found"]
abbrev s_Same___init__ : Stmt := inClass (topS 11) 0
abbrev N_Same___init__ : List Str := ["self", "places"]
abbrev s_Same_shows : Stmt := inClass (topS 11) 1
abbrev N_Same_shows : List Str := ["self", "one", "other", "place", "at"]
abbrev s_Unlike___init__ : Stmt := inClass (topS 12) 0
abbrev N_Unlike___init__ : List Str := ["self", "power", "more"]
abbrev s_Unlike_shows : Stmt := inClass (topS 12) 1
abbrev N_Unlike_shows : List Str := ["self", "one", "other", "mine", "theirs", "power"]
abbrev s_alike : Stmt := topS 14
abbrev N_alike : List Str := ["one", "other", "mine", "theirs", "places", "ways", "at", "place", "now", "there", "power", "part", "number"]
abbrev s__law_cell_at : Stmt := topS 16
abbrev N__law_cell_at : List Str := ["_law_script", "_law_k"]
abbrev s__law_draw : Stmt := topS 17
abbrev N__law_draw : List Str := ["_law_cell", "_law_k", "_law_many", "_law_primes"]
abbrev s__law_value : Stmt := topS 18
abbrev N__law_value : List Str := ["_law_cell", "_law_k", "_law_most", "_law_rest"]
abbrev s__law_raised : Stmt := topS 19
abbrev N__law_raised : List Str := ["_law_one", "_law_other", "_law_shift", "_law_number"]
abbrev s__law_heaps : Stmt := topS 20
abbrev N__law_heaps : List Str := ["_law_script", "_law_kind", "_law_most", "_law_numbers", "_law_half", "_law_other", "_law_one", "_law_shift", "_law_k", "_law_cell"]
abbrev s__law_first : Stmt := topS 21
abbrev N__law_first : List Str := ["_law_one", "_law_other", "_law_mine", "_law_theirs", "_law_power", "_law_number", "_law_part"]
abbrev s__law_says : Stmt := topS 22
abbrev N__law_says : List Str := ["_law_said", "_law_due"]
abbrev s__law_same : Stmt := topS 23
abbrev N__law_same : List Str := ["_law_one", "_law_other", "_law_places", "_law_at", "_law_place"]
abbrev s__law_bent : Stmt := topS 24
abbrev N__law_bent : List Str := ["_law_some", "_law_cell", "_law_many", "_law_kind", "_law_strange", "_law_at", "_law_other", "_law_found"]
abbrev s__law_sum : Stmt := topS 25
abbrev N__law_sum : List Str := ["_law_heap", "_law_power", "_law_parts", "_law_turn", "_law_number", "_law_part"]
abbrev s_law : Stmt := topS 26
abbrev N_law : List Str := ["_law_script", "_law_one", "_law_other", "_law_first_here", "_law_second", "_law_found", "_law_due", "_law_start", "_law_power", "_law_more", "_law_k", "_law_cell", "_law_places", "_law_handed", "_law_answer", "_law_said", "_law_drawn", "_law_bent_here", "_law_mine", "_law_theirs"]
/-- the built-ins' names are free -/
structure Bt (mg : Str → Option Value) : Prop where
  len : mg "len" = none
  sum : mg "sum" = none
  all : mg "all" = none
  any : mg "any" = none
  zip : mg "zip" = none
  range : mg "range" = none
  sorted : mg "sorted" = none
  isinstance : mg "isinstance" = none
  int : mg "int" = none
  bool : mg "bool" = none
  list : mg "list" = none
  tuple : mg "tuple" = none
  enumerate : mg "enumerate" = none
  min : mg "min" = none
  max : mg "max" = none
  abs : mg "abs" = none
section
variable {P : Program} {w : World} {K : PySem.W.Frag} {mg : Str → Option Value} {base : Heap} {f : Addr} {fd : FuncData} {T : Tb}
/-! ### is_whole -/
def spWhole (K : PySem.W.Frag) : Sp := fun vs H Q _ => ∃ (x : V) (n : String) (b1 b2 : Bool), vs = [x] ∧ TyX K H x (.type n) ∧ kitB n "int" = some b1 ∧ kitB n "bool" = some b2 ∧ Q (.bl (b1 && !b2)) H
theorem kI1 : kitB "int" "int" = some true := by decide +kernel
theorem kI2 : kitB "int" "bool" = some false := by decide +kernel
theorem wholeI {H : Hp} {i : Int} {Q : VK} (q : Q (.bl true) H) : spWhole K [.int i] H Q C8.E0 := ⟨.int i, "int", true, false, rfl, .base (.int i), by decide +kernel, by decide +kernel, q⟩
theorem sc_is_whole : FnScope N_is_whole ["thing"] (C8.fnScope s_is_whole) := C8.fnScope_by (by decide +kernel)
theorem ok_is_whole (B : Bt mg) (F : C8.Def K mg "is_whole" s_is_whole f fd) (b : Binds K fd ["thing"] []) : C8.Cal P w K mg base 1 "is_whole" (spWhole K) [] := by
  refine C8.cal0 F b .nil sc_is_whole (fun vs H Q E h => ?_) (fun cdv A outer s H vs Q E hr h => ?_)
  · obtain ⟨x, n, b1, b2, rfl, _⟩ := h
    rfl
  · obtain ⟨x, n, b1, b2, rfl, ty, h1, h2, q⟩ := h
    refine ⟨_, (pss_one (ps_ret (pe_and (pe_callB call_isi (by rfl) B.isinstance (by decide +kernel) (pa_cons (pv 0) (pa_cons (pe_bltn (v := V.ty "int") (u := Value.type "int") (by rfl) B.int (by decide +kernel) rfl) pa_nil))) (pe_one (pe_not (pe_callB call_isi (by rfl) B.isinstance (by decide +kernel) (pa_cons (pv 0) (pa_cons (pe_bltn (v := V.ty "bool") (u := Value.type "bool") (by rfl) B.bool (by decide +kernel) rfl) pa_nil)))))))), ?_⟩
    refine ⟨x, rfl, x, .ty "int", .type n, .type "int", b1, rfl, .ty _, ty, kit_ty h1, b1, rfl, ?_⟩
    cases b1 with
    | false => exact q
    | true => exact ⟨x, rfl, x, .ty "bool", .type n, .type "bool", b2, rfl, .ty _, ty, kit_ty h2, b2, rfl, q⟩
/-! ### check_heap -/
theorem tyx_list {H : Hp} {a : Addr} {xs : List V} (h : SqL K H a xs) : TyX K H (.ref a) (.type "list") := by
  rcases h with (h | ⟨o, h⟩) | ⟨o, its, n, h1, h2, _⟩
  · exact .base (.lst h)
  · exact .base (.frz h)
  · exact .kList h1 h2
def spCheckHeap (T : Tb) (K : PySem.W.Frag) : Sp := fun vs H Q _ => ∃ (a : Addr) (ns : List Int), vs = [.ref a] ∧ SqL K H a (ns.map V.int) ∧ ns.length ≤ 1000 ∧ ∀ H', Gr T H H' → Q .non H'
theorem sc_check_heap : FnScope N_check_heap ["heap"] (C8.fnScope s_check_heap) := C8.fnScope_by (by decide +kernel)
theorem ok_check_heap (B : Bt mg) (F : C8.Def K mg "check_heap" s_check_heap f fd) (b : Binds K fd ["heap"] []) (c_is_whole : C8.Cal P w K mg base 1 "is_whole" (spWhole K) []) : C8.Cal P w K mg base 2 "check_heap" (spCheckHeap T K) [] := by
  refine C8.cal0 F b .nil sc_check_heap (fun vs H Q E h => ?_) (fun cdv A outer s H vs Q E hr h => ?_)
  · obtain ⟨a, ns, rfl, _⟩ := h
    rfl
  · obtain ⟨a, ns, rfl, hA, hn, q⟩ := h
    refine ⟨_, (pss_one (ps_if (PW.pt (pw_or (pt_not (pt_val (pe_callB call_isi (by rfl) B.isinstance (by decide +kernel) (pa_cons (pv 0) (pa_cons (pe_bltn (v := V.ty "list") (u := Value.type "list") (by rfl) B.list (by decide +kernel) rfl) pa_nil))))) (pw_or1 (pt_not (pt_val (pe_callB (cr_all rfl) (by rfl) B.all (by decide +kernel) (pa_cons (pe_lc (own := [("number", 1)]) (g := gName 1) (tt := tYes) rfl sc_check_heap.nd (pi_list (pv 0)) (blkOk_by (own := [("number", 1)]) (N := N_check_heap) (sc := C8.fnScope s_check_heap) (by decide +kernel)) (fun _ _ _ _ _ => (pg_name (i := 1) sc_check_heap.nd rfl (Or.inl rfl))) (fun _ _ _ _ _ => pts_nil) (fun _ _ _ _ _ => (C8.pe_c c_is_whole hr (by decide) (by rfl) (pa_cons (pv 1) pa_nil)))) pa_nil)))))))
(pss_one ps_never)
pss_nil)), ?_⟩
    refine ⟨.ref a, rfl, .ref a, .ty "list", .type "list", .type "list", true, rfl, .ty _, tyx_list hA, kit_ty (by decide +kernel), true, rfl, ?_⟩
    refine ⟨_, rfl, a, rfl, ⟨_, hA⟩, lc_map (T := T) (i := 1) (fun _ => .bl true) hA (by rw [List.length_map]; omega) (fun x H1 hx g Q' q' => ?_) fun p H1 np g e => ?_⟩
    · obtain ⟨n, _, rfl⟩ := List.mem_map.mp hx
      exact ⟨_, rfl, wholeI (q' H1 (Gr.refl _))⟩
    · refine ⟨p, ns.map fun _ => true, rfl, sq (by rw [e, List.map_map, List.map_map]; rfl), true, ?_, q H1 g⟩
      show V.bl ((ns.map fun _ => true).all id) = V.bl true
      congr 1
      rw [List.all_map]
      exact List.all_eq_true.mpr fun _ _ => rfl
/-! ### left_of -/
/-- the dict tells how many of each -/
def Cn (kvs : List (Key × V)) (c : Int → Int) : Prop := ∀ x : Int, (valV kvs (.inl x)).getD (.int 0) = .int (c x)
theorem Cn.put {kvs : List (Key × V)} {c : Int → Int} (h : Cn kvs c) (z n : Int) : Cn (putK kvs (.inl z) (.int n)) (fun x => if x = z then n else c x) := by
  intro x
  show _ = V.int (if x = z then n else c x)
  rw [valV_put]
  by_cases e : x = z
  · subst e
    rw [if_pos rfl, if_pos rfl]; rfl
  · rw [if_neg e, if_neg (fun q => e (Sum.inl.inj q))]
    exact h x
theorem Cn.some {kvs : List (Key × V)} {c : Int → Int} (h : Cn kvs c) {z : Int} (p : 0 < c z) : valV kvs (.inl z) = some (.int (c z)) := by
  have q := h z
  cases e : valV kvs (.inl z) with
  | none =>
    rw [e] at q
    have q : V.int 0 = V.int (c z) := q
    have := V.int.inj q
    omega
  | some v =>
    rw [e] at q
    have q : v = V.int (c z) := q
    rw [q]
theorem manyOf_snoc (l : List Int) (z : Int) : manyOf (l ++ [z]) = fun x => if x = z then manyOf l z + 1 else manyOf l x := by
  funext x
  unfold manyOf
  rw [List.count_append]
  by_cases e : x = z
  · subst e
    rw [if_pos rfl]; simp
  · have e2 : (z == x) = false := by simp; exact fun q => e q.symm
    rw [if_neg e, List.count_cons, e2]; simp
theorem int_at {ns : List Int} {i : Nat} {y : V} (hi : (ns.map V.int)[i]? = some y) : ∃ z, ns[i]? = some z ∧ y = V.int z := by
  rw [List.getElem?_map] at hi
  cases e : ns[i]? with
  | none =>
    rw [e] at hi
    cases hi
  | some z =>
    rw [e] at hi
    exact ⟨z, rfl, (Option.some.inj hi).symm⟩
theorem drop_at {α : Type} {l : List α} {i : Nat} {x : α} (h : l[i]? = some x) : l.drop i = x :: l.drop (i + 1) := by
  obtain ⟨hi, e⟩ := List.getElem?_eq_some_iff.mp h
  rw [List.drop_eq_getElem_cons hi, e]
def spLeft (T : Tb) (K : PySem.W.Frag) : Sp := fun vs H Q _ => ∃ (a b : Addr) (ns ms : List Int), vs = [.ref a, .ref b] ∧ SqL K H a (ns.map V.int) ∧ SqL K H b (ms.map V.int) ∧ ns.length ≤ 1000 ∧ ms.length ≤ 1000 ∧
  ∀ p H', H p = Option.none → Gr T H H' → H' p = some (.lst ((leftOf ns ms).map V.int)) → Q (.ref p) H'
theorem sc_left_of : FnScope N_left_of ["one", "other"] (C8.fnScope s_left_of) := C8.fnScope_by (by decide +kernel)
theorem ok_left_of (F : C8.Def K mg "left_of" s_left_of f fd) (b : Binds K fd ["one", "other"] []) : C8.Cal P w K mg base 1 "left_of" (spLeft T K) [] := by
  refine C8.cal0 F b .nil sc_left_of (fun vs H Q E h => ?_) (fun cdv A outer s H vs Q E hr h => ?_)
  · obtain ⟨a, b, ns, ms, rfl, _⟩ := h
    rfl
  · obtain ⟨a, b, ns, ms, rfl, hA, hB, hn, hm, q⟩ := h
    refine ⟨_, (pss_cons (ps_set (i := 2) sc_left_of.nd rfl (.inl rfl) pe_dnewK)
(pss_cons (ps_for PassesOwn.never rfl (pi_list (pv 1)) (pg_name (i := 3) sc_left_of.nd rfl (Or.inl rfl))
(pss_one (ps_dput (hu_of hr) (pv 2) (pv 3) (pe_op op_add (pe_dget2 (hu_of hr) (pv 2) (pv 3) pe_int ⟨rfl, by rfl, by rfl, rfl⟩) pe_int) rfl)))
(pss_cons (ps_set (i := 4) sc_left_of.nd rfl (.inl rfl) (pe_lst pa_nil))
(pss_cons (ps_for PassesOwn.never rfl (pi_list (pv 0)) (pg_name (i := 3) sc_left_of.nd rfl (Or.inl rfl))
(pss_one (ps_if (pt_cmpR op_gt (pe_dget2 (hu_of hr) (pv 2) (pv 3) pe_int ⟨rfl, by rfl, by rfl, rfl⟩) pe_int (nomark _))
(pss_one (ps_daug (hu_of hr) (pv 2) (pv 3) pe_int in_sub (fun _ _ _ => rfl)))
(pss_one (ps_expr (pe_bm PySem.F.plainAttrs_list PySem.F.slot_list_append PySem.F.type_list_append mt_append (pv 4) (pa_cons (pv 3) pa_nil)))))))
(pss_one (ps_ret (pv 4))))))), ?_⟩
    refine fun d nd => ?_
    have g0 : Gr T H (upd H d (.dK [])) := Gr.new nd
    refine ⟨_, rfl, b, rfl, ⟨_, g0.sq hB⟩, for_list (K := K) (a := b) (xs := ms.map V.int) (fun i σ H' => ∃ y3 kvs, σ = [some (.ref a), some (.ref b), some (.ref d), y3, Option.none] ∧ Gr T H H' ∧ H' d = some (.dK kvs) ∧ kvs.length ≤ i ∧ Cn kvs (manyOf (ms.take i)))
      ⟨Option.none, [], rfl, g0, upd_same, Nat.zero_le _, fun x => rfl⟩ (fun i σ H' _ hW => ?_) (fun i y σ H' hi hW => ?_) fun σ H' hW => ?_⟩
    · obtain ⟨_, _, _, g, _⟩ := hW
      exact g.sq hB
    · obtain ⟨y3, kvs, rfl, g, ed, hk, cn⟩ := hW
      obtain ⟨z, hz, rfl⟩ := int_at hi
      have hlt := (List.getElem?_eq_some_iff.mp hz).1
      refine ⟨.ref d, rfl, d, rfl, .inl ⟨kvs, .inl ed⟩, .int z, rfl, valV kvs (.inl z), DGet.k (k := .inl z) ed, manyOf (ms.take i) z, 1, cn z, rfl, ?_⟩
      refine ⟨.ref d, rfl, .int z, rfl, d, _, rfl, DPut.k (k := .inl z) ed (szs (by omega)), ?_⟩
      refine ⟨some (.int z), _, rfl, g.mut nd ed trivial, upd_same, Nat.le_trans (length_putK _ _ _) (by omega), ?_⟩
      rw [take_snoc hz, manyOf_snoc]
      exact cn.put z _
    · obtain ⟨y3, kvs, rfl, g, ed, hk, cn⟩ := hW
      rw [List.length_map] at hk
      rw [List.length_map, List.take_length] at cn
      refine ⟨Nat.zero_le _, fun l nl => ?_⟩
      have nHl := g.lost l nl
      have nld : l ≠ d := fun e => by rw [e, ed] at nl; cases nl
      have g1 : Gr T H (upd H' l (.lst [])) := g.trans (Gr.new nl)
      refine ⟨_, rfl, a, rfl, ⟨_, g1.sq hA⟩, for_list (K := K) (a := a) (xs := ns.map V.int) (fun i σ H' => ∃ y3 kvs c acc, σ = [some (.ref a), some (.ref b), some (.ref d), y3, some (.ref l)] ∧ Gr T H H' ∧ H' d = some (.dK kvs) ∧ kvs.length ≤ 1000 + i ∧ Cn kvs c ∧ (∀ x, 0 ≤ c x) ∧
          H' l = some (.lst (acc.map V.int)) ∧ acc.length ≤ i ∧ acc ++ left (ns.drop i) c = leftOf ns ms)
        ⟨y3, kvs, manyOf ms, [], rfl, g1, by rw [upd_ne nld.symm]; exact ed, by omega, cn, fun x => by unfold manyOf; omega, upd_same, Nat.le_refl _, rfl⟩ (fun i σ H' _ hW => ?_) (fun i y σ H' hi hW => ?_) fun σ H' hW => ?_⟩
      · obtain ⟨_, _, _, _, _, g, _⟩ := hW
        exact g.sq hA
      · obtain ⟨y3, kvs, c, acc, rfl, g, ed, hk, cn, h0, el, ha, hl⟩ := hW
        obtain ⟨z, hz, rfl⟩ := int_at hi
        have hlt := (List.getElem?_eq_some_iff.mp hz).1
        rw [drop_at hz] at hl
        unfold left at hl
        refine ⟨.ref d, rfl, d, rfl, .inl ⟨kvs, .inl ed⟩, .int z, rfl, valV kvs (.inl z), DGet.k (k := .inl z) ed, c z, 0, cn z, rfl, decide (0 < c z), rfl, ite2 (fun e => ?_) (fun e => ?_)⟩
        · have hc := of_decide_eq_true e
          rw [if_pos hc] at hl
          have dg : DGet H' d (V.int z) (some (V.int (c z))) := by
            rw [← cn.some hc]
            exact DGet.k (k := .inl z) ed
          refine ⟨.ref d, rfl, .int z, rfl, d, .int (c z), rfl, dg, c z, 1, rfl, rfl, _, DPut.k (k := .inl z) ed (szs (by omega)), ?_⟩
          refine ⟨some (.int z), _, _, acc, rfl, g.mut nd ed trivial, upd_same, Nat.le_trans (length_putK _ _ _) (by omega), cn.put z (c z - 1), fun x => ?_, by rw [upd_ne nld]; exact el, by omega, hl⟩
          have := h0 x
          split <;> omega
        · have hc : ¬ 0 < c z := fun q => e (decide_eq_true q)
          rw [if_neg hc] at hl
          refine ⟨.ref l, rfl, .inl ⟨rfl, _, sq el⟩, .int z, rfl, l, _, _, rfl, rfl, el, szs (by rw [List.length_map]; omega), ?_⟩
          refine ⟨some (.int z), kvs, c, acc ++ [z], rfl, g.mut nHl el trivial, by rw [upd_ne nld.symm]; exact ed, by omega, cn, h0, by rw [upd_same, List.map_append]; rfl, by rw [List.length_append]; show acc.length + 1 ≤ _; omega, ?_⟩
          rw [List.append_assoc]
          exact hl
      · obtain ⟨y3, kvs, c, acc, rfl, g, ed, hk, cn, h0, el, ha, hl⟩ := hW
        rw [List.length_map, List.drop_length] at hl
        have hl : acc ++ [] = leftOf ns ms := hl
        rw [List.append_nil] at hl
        rw [hl] at el
        exact ⟨.ref l, rfl, q l H' nHl g el⟩
end
end Wk
/-! ### answers are made, alike where the heaps are unlike -/
namespace Wk
open PySem PySem.Spec PyProof.Rows L2 Kx Ep
theorem kPM : ¬ (("power" : Str) = "more") := by decide +kernel
theorem kMP : ¬ (("more" : Str) = "power") := by decide +kernel
/-- an Unlike's fields -/
def uf (x y : V) : List (Str × V) := putF "more" y (putF "power" x [])
theorem uf_power (x y : V) : (uf x y).lookup ("power" : Str) = some x := by
  unfold uf
  rw [lookup_putF, if_neg kPM, lookup_putF, if_pos rfl]
theorem uf_more (x y : V) : (uf x y).lookup ("more" : Str) = some y := by
  unfold uf
  rw [lookup_putF, if_pos rfl]
theorem uf_no (x y : V) {m : Str} (h1 : ¬ m = "power") (h2 : ¬ m = "more") : (uf x y).lookup m = Option.none := by
  unfold uf
  rw [lookup_putF, if_neg h2, lookup_putF, if_neg h1]; rfl
structure UCl (K : PySem.W.Frag) (mg : Str → Option Value) (C : Addr) : Prop where
  cl : Cls K C
  nP : NoAttr K C "power"
  nM : NoAttr K C "more"
  mgC : mg "Unlike" = some (.ref C)
structure SCl (K : PySem.W.Frag) (mg : Str → Option Value) (C : Addr) : Prop where
  cl : Cls K C
  nL : NoAttr K C "places"
  mgC : mg "Same" = some (.ref C)
section
variable {P : Program} {w : World} {K : PySem.W.Frag} {mg : Str → Option Value} {base : Heap} {f : Addr} {fd : FuncData} {T : Tb} {CU CS : Addr}
def spUInit (C : Addr) : Sp := fun vs H Q _ => ∃ (p dx : Addr) (x y : V), vs = [.ref p, x, y] ∧ H p = some (.ins C dx []) ∧ Q .non (upd H p (.ins C dx (uf x y)))
theorem sc_Unlike___init__ : FnScope N_Unlike___init__ ["self", "power", "more"] (C8.fnScope s_Unlike___init__) := C8.fnScope_by (by decide +kernel)
theorem ok_uinit (U : UCl K mg CU) (M : Mk K CU f) (F : C8.Fun K "__init__" "Unlike.__init__" s_Unlike___init__ f fd) (b : Binds K fd ["self", "power", "more"] []) : C8.Mak P w K mg base 1 "Unlike" CU (spUInit CU) [] := by
  refine C8.mak0 M U.mgC F b .nil sc_Unlike___init__ (fun vs H Q E h => ?_) (fun cdv A outer s H vs Q E hr h => ?_)
  · obtain ⟨p, dx, x, y, rfl, _⟩ := h
    rfl
  · obtain ⟨p, dx, x, y, rfl, hp, q⟩ := h
    refine ⟨_, (pss_cons (ps_fld (pv 0) (pv 1) rfl)
(pss_one (ps_fld (pv 0) (pv 2) rfl))), ?_⟩
    refine ⟨x, rfl, .ref p, rfl, p, CU, dx, [], rfl, hp, U.cl, U.nP, (by show 0 < 1000; decide), ?_⟩
    refine ⟨y, rfl, .ref p, rfl, p, CU, dx, _, rfl, upd_same, U.cl, U.nM, (by show 1 < 1000; decide), ?_⟩
    rw [upd_upd]
    exact q
/-- making an Unlike -/
theorem u_made {H : Hp} {x dx : Addr} {u v : V} (nx : H x = Option.none) (nd : H dx = Option.none) (ne : dx ≠ x) : Gr T H (upd (upd (upd H dx (.own x)) x (.ins CU dx [])) x (.ins CU dx (uf u v))) := by
  have g1 : Gr T H (upd H dx (.own x)) := Gr.new nd
  have n2 : (upd H dx (.own x)) x = Option.none := by rw [upd_ne ne.symm]; exact nx
  exact (g1.trans (Gr.new n2)).mut nx upd_same trivial
/-! ### alike, of heaps that are unlike -/
/-- all of at most so many bits -/
def Bits (m : Nat) (l : List Int) : Prop := ∀ z ∈ l, PySem.Builtin.Int.intBits z ≤ m
/-- a def whose code object is known -/
structure DefC (K : PySem.W.Frag) (mg : Str → Option Value) (x : Str) (st : Stmt) (f : Addr) (fd : FuncData) (m : Addr) : Prop where
  fn : ∃ (oc : Value) (od : Option Addr) (dV kV doc pm : Value) (an : Option Addr) (ct : Value) (osl : Array (Option Value)),
    fd = PySem.W.fnOf x x (C8.fnArgs st) (C8.fnBody st) (C8.fnScope st) dV kV doc pm an (.ref m) ct ∧ K.lookup f = some ⟨oc, od, .func fd, osl⟩ ∧ PySem.W.codeIn K (.ref m) x = true
  mgf : mg x = some (.ref f)
  kp : PySem.W.keepIn K (.ref f) = true
theorem cal_code {x : Str} {st : Stmt} {N ps : List Str} {k : Nat} {sp : Sp} {m : Addr} (F : DefC K mg x st f fd m) (b : Binds K fd ps []) (S : FnScope N ps (C8.fnScope st)) (len : ∀ vs H Q E, sp vs H Q E → vs.length = ps.length)
    (body : ∀ (A : Around) (outer : List Env) (s : Shared) (H : Hp) (vs : List V) (Q : VK) (E : XK), Room k (A.deeper (envOfC x (C8.fnScope st) s.heap.objs.size f (.ref m))) → sp vs H Q E →
      ∃ t, PSs (cxOf C8.CX0 P w K mg base N x (C8.fnScope st) f (.ref m) A outer s H E).nox (C8.fnBody st) t ∧ t { nx := fun _ H' => Q .non H', rt := Q } (start N vs) H) : C8.Cal P w K mg base (k + 1) x sp [] := by
  obtain ⟨oc, od, dV, kV, doc, pm, an, ct, osl, rfl, lk, cd⟩ := F.fn
  refine ⟨f, _, ps, [], fn_of lk cd S len fun A outer s H vs Q E room h => ?_, F.mgf, F.kp, b, .nil⟩
  obtain ⟨t, hp, hq⟩ := body A outer s H vs Q E room h
  exact ⟨t, hp.nox, hq⟩
/-! ### Same -/
def sf (q : Addr) : List (Str × V) := putF "places" (.ref q) []
theorem sf_places (q : Addr) : (sf q).lookup ("places" : Str) = some (.ref q) := by
  unfold sf
  rw [lookup_putF, if_pos rfl]
def spSInit (K : PySem.W.Frag) (C : Addr) : Sp := fun vs H Q _ => ∃ (p dx a : Addr) (xs : List V), vs = [.ref p, .ref a] ∧ H p = some (.ins C dx []) ∧ SqL K H a xs ∧ ∀ r, H r = Option.none → Q .non (upd (upd H r (.lst xs)) p (.ins C dx (sf r)))
theorem sc_Same___init__ : FnScope N_Same___init__ ["self", "places"] (C8.fnScope s_Same___init__) := C8.fnScope_by (by decide +kernel)
theorem ok_sinit (B : Bt mg) (S : SCl K mg CS) (M : Mk K CS f) (F : C8.Fun K "__init__" "Same.__init__" s_Same___init__ f fd) (b : Binds K fd ["self", "places"] []) : C8.Mak P w K mg base 1 "Same" CS (spSInit K CS) [] := by
  refine C8.mak0 M S.mgC F b .nil sc_Same___init__ (fun vs H Q E h => ?_) (fun cdv A outer s H vs Q E hr h => ?_)
  · obtain ⟨p, dx, a, xs, rfl, _⟩ := h
    rfl
  · obtain ⟨p, dx, a, xs, rfl, hp, ha, q⟩ := h
    refine ⟨_, (pss_one (ps_fld (pv 0) (pe_callTy call_list_of (by rfl) B.list (by decide +kernel) (pa_cons (pv 1) pa_nil)) rfl)), ?_⟩
    refine ⟨.ref a, rfl, ?_⟩
    refine ⟨a, xs, rfl, .inl ha, fun r nr => ?_⟩
    have npr : p ≠ r := ne_of_none hp nr
    refine ⟨.ref p, rfl, p, CS, dx, [], rfl, by rw [upd_ne npr]; exact hp, S.cl, S.nL, (by show 0 < 1000; decide), ?_⟩
    exact q r nr
abbrev qL : Str := "alike.<locals>.<lambda>"
abbrev tabT (PT : Addr) : Tb := [(PT, qL)]
def spAlike (T : Tb) (PT : Addr) (K : PySem.W.Frag) (CU CS : Addr) : Sp := fun vs H Q _ => ∃ (a b : Addr) (ns ms : List Int), vs = [.ref a, .ref b] ∧ SqL K H a (ns.map V.int) ∧ SqL K H b (ms.map V.int) ∧ ns.length ≤ 1000 ∧ ms.length ≤ 1000 ∧ Bits 100000 ns ∧ Bits 100000 ms ∧ LamX.TabS H PT qL ∧
  (ns.Perm ms → ∀ p dx r H', H p = Option.none → H r = Option.none → Gr T H H' → H' p = some (.ins CS dx (sf r)) → H' r = some (.lst ((placesOf ns ms).map fun i : Nat => V.int i)) → Q (.ref p) H') ∧
  (¬ ns.Perm ms → ∀ k p dx H', First ns ms k → H p = Option.none → Gr T H H' → H' p = some (.ins CU dx (uf (.int k) (.int (psum ns k - psum ms k)))) → Q (.ref p) H')
def spAlikeU (T : Tb) (K : PySem.W.Frag) (CU : Addr) : Sp := fun vs H Q _ => ∃ (a b : Addr) (ns ms : List Int), vs = [.ref a, .ref b] ∧ SqL K H a (ns.map V.int) ∧ SqL K H b (ms.map V.int) ∧ ns.length ≤ 1000 ∧ ms.length ≤ 1000 ∧ Bits 100000 ns ∧ Bits 100000 ms ∧ ¬ ns.Perm ms ∧
  ∀ k p dx H', First ns ms k → H p = Option.none → Gr T H H' → H' p = some (.ins CU dx (uf (.int k) (.int (psum ns k - psum ms k)))) → Q (.ref p) H'
theorem rep_ones (n : Nat) : (List.replicate ((n : Nat) : Int).toNat [V.int 1]).flatten = (List.replicate n 1).map V.int := by
  rw [Int.toNat_natCast, List.map_replicate]
  induction n with
  | zero => rfl
  | succ n ih => rw [List.replicate_succ, List.flatten_cons, ih]; rfl
theorem bits_pow {l : List Int} {m : Nat} (h : Bits m l) (k : Nat) : Bits (m * k + 1) (pows l k) := fun z hz => by
  obtain ⟨x, hx, rfl⟩ := List.mem_map.mp hz
  exact PySem.intBits_pow_le (h x hx) k
theorem zip_ints (l m : List Int) : List.zipWith (fun x y => match x, y with | .int i, .int j => V.int (i * j) | _, _ => .non) (l.map V.int) (m.map V.int) = (List.zipWith (· * ·) l m).map V.int := by
  rw [List.zipWith_map, List.map_zipWith]
theorem zip_mem {l m : List Int} {x y : V} (h : (x, y) ∈ (l.map V.int).zip (m.map V.int)) : ∃ i j, x = .int i ∧ y = .int j ∧ i ∈ l ∧ j ∈ m := by
  obtain ⟨h1, h2⟩ := List.of_mem_zip h
  obtain ⟨i, hi, rfl⟩ := List.mem_map.mp h1
  obtain ⟨j, hj, rfl⟩ := List.mem_map.mp h2
  exact ⟨i, j, rfl, rfl, hi, hj⟩
theorem sc_alike : FnScope N_alike ["one", "other"] (C8.fnScope s_alike) := C8.fnScope_by (by decide +kernel)
theorem ok_alike {m PT : Addr} (hT : T = tabT PT) (B : Bt mg) (TB : LamX.TabB base mg m PT) (F : DefC K mg "alike" s_alike f fd m) (b : Binds K fd ["one", "other"] []) (c_check_heap : C8.Cal P w K mg base 2 "check_heap" (spCheckHeap T K) []) (c_left_of : C8.Cal P w K mg base 1 "left_of" (spLeft T K) [])
    (k_Same : C8.Mak P w K mg base 1 "Same" CS (spSInit K CS) []) (k_Unlike : C8.Mak P w K mg base 1 "Unlike" CU (spUInit CU) []) : C8.Cal P w K mg base 4 "alike" (spAlike T PT K CU CS) [] := by
  refine cal_code F b sc_alike (fun vs H Q E h => ?_) (fun A outer s H vs Q E hr h => ?_)
  · obtain ⟨a, b, ns, ms, rfl, _⟩ := h
    rfl
  · obtain ⟨a, b, ns, ms, rfl, hA, hB, hn, hm, bn, bm, tb, q⟩ := h
    refine ⟨_, (pss_cons (ps_expr (C8.pe_c c_check_heap hr (by decide) (by rfl) (pa_cons (pv 0) pa_nil)))
(pss_cons (ps_expr (C8.pe_c c_check_heap hr (by decide) (by rfl) (pa_cons (pv 1) pa_nil)))
(pss_cons (ps_par (i := 2) (j := 3) rfl sc_alike.nd rfl rfl (by decide) rfl rfl (pa_cons (C8.pe_c c_left_of hr (by decide) (by rfl) (pa_cons (pv 0) (pa_cons (pv 1) pa_nil))) (pa_cons (C8.pe_c c_left_of hr (by decide) (by rfl) (pa_cons (pv 1) (pa_cons (pv 0) pa_nil))) pa_nil)) (by rfl))
(C8.pss_cut (ps_if (PW.pt (pw_and (pt_cmpR op_eq (pe_callB call_len_seq (by rfl) B.len PySem.boot_len (pa_cons (pv 2) pa_nil)) pe_int (nomark _)) (pw_and1 (pt_cmpR op_eq (pe_callB call_len_seq (by rfl) B.len PySem.boot_len (pa_cons (pv 3) pa_nil)) pe_int (nomark _)))))
(pss_cons (ps_set (i := 4) sc_alike.nd rfl (.inl rfl) (pe_op op_rep (pe_lst (pa_cons pe_int pa_nil)) (pe_callB call_len_seq (by rfl) B.len PySem.boot_len (pa_cons (pv 0) pa_nil))))
(pss_cons (ps_set (i := 5) sc_alike.nd rfl (.inl rfl) (pe_sortBy (i := 1) rfl (by rfl) B.sorted (prg_1 (by rfl) B.range (pe_callB call_len_seq (by rfl) B.len PySem.boot_len (pa_cons (pv 1) pa_nil))) TB rfl hr rfl (by rfl) (by decide +kernel) rfl (fun _ _ _ _ _ _ => rfl)))
(pss_cons (ps_for PassesOwn.never rfl (pi_zip (by rfl) B.zip (pa_cons (pe_sortBy (i := 0) rfl (by rfl) B.sorted (prg_1 (by rfl) B.range (pe_callB call_len_seq (by rfl) B.len PySem.boot_len (pa_cons (pv 0) pa_nil))) TB rfl hr rfl (by rfl) (by decide +kernel) rfl (fun _ _ _ _ _ _ => rfl)) (pa_cons (pv 5) pa_nil))) (pg_tup rfl (pgs_cons (pg_name (i := 6) sc_alike.nd rfl (Or.inl rfl)) (pgs_cons (pg_name (i := 7) sc_alike.nd rfl (Or.inl rfl)) pgs_nil)))
(pss_one (ps_asg (pv 7) (pg_sub (pv 4) (pv 6) set_list))))
(pss_one (ps_ret (C8.pe_mk k_Same hr (by decide) (by rfl) (pa_cons (pv 4) pa_nil)))))))
pss_nil)
(pss_cons (ps_set (i := 8) sc_alike.nd rfl (.inl rfl) (pe_op op_rep (pe_lst (pa_cons pe_int pa_nil)) (pe_callB call_len_seq (by rfl) B.len PySem.boot_len (pa_cons (pv 2) pa_nil))))
(pss_cons (ps_set (i := 9) sc_alike.nd rfl (.inl rfl) (pe_op op_rep (pe_lst (pa_cons pe_int pa_nil)) (pe_callB call_len_seq (by rfl) B.len PySem.boot_len (pa_cons (pv 3) pa_nil))))
(pss_cons (ps_set (i := 10) sc_alike.nd rfl (.inl rfl) pe_int)
(pss_cons (ps_while PassesOwn.never (pt_cmpR op_eq (pe_callB (cr_sum rfl) (by rfl) B.sum (by decide +kernel) (pa_cons (pv 8) pa_nil)) (pe_callB (cr_sum rfl) (by rfl) B.sum (by decide +kernel) (pa_cons (pv 9) pa_nil)) (nomark _))
(pss_cons (ps_setLc (i := 8) (own := [("part", 11), ("number", 12)]) (g := gTup K 2 (gCons (gName 11) (gCons (gName 12) gNil))) (tt := tYes) rfl sc_alike.nd rfl rfl (sw_true rfl rfl rfl (by decide +kernel)) (pi_zip (by rfl) B.zip (pa_cons (pv 8) (pa_cons (pv 2) pa_nil))) (blkOk_by (own := [("part", 11), ("number", 12)]) (N := N_alike) (sc := C8.fnScope s_alike) (by decide +kernel)) (fun _ _ _ _ _ => (pg_tup rfl (pgs_cons (pg_name (i := 11) sc_alike.nd rfl (Or.inl rfl)) (pgs_cons (pg_name (i := 12) sc_alike.nd rfl (Or.inl rfl)) pgs_nil)))) (fun _ _ _ _ _ => pts_nil) (fun _ _ _ _ _ => (pe_op op_mulB (pv 11) (pv 12))))
(pss_cons (ps_setLc (i := 9) (own := [("part", 11), ("number", 12)]) (g := gTup K 2 (gCons (gName 11) (gCons (gName 12) gNil))) (tt := tYes) rfl sc_alike.nd rfl rfl (sw_true rfl rfl rfl (by decide +kernel)) (pi_zip (by rfl) B.zip (pa_cons (pv 9) (pa_cons (pv 3) pa_nil))) (blkOk_by (own := [("part", 11), ("number", 12)]) (N := N_alike) (sc := C8.fnScope s_alike) (by decide +kernel)) (fun _ _ _ _ _ => (pg_tup rfl (pgs_cons (pg_name (i := 11) sc_alike.nd rfl (Or.inl rfl)) (pgs_cons (pg_name (i := 12) sc_alike.nd rfl (Or.inl rfl)) pgs_nil)))) (fun _ _ _ _ _ => pts_nil) (fun _ _ _ _ _ => (pe_op op_mulB (pv 11) (pv 12))))
(pss_one (ps_aug (i := 10) sc_alike.nd rfl (.inl rfl) pe_int ip_add)))))
(pss_one (ps_ret (C8.pe_mk k_Unlike hr (by decide) (by rfl) (pa_cons (pv 10) (pa_cons (pe_op op_sub (pe_callB (cr_sum rfl) (by rfl) B.sum (by decide +kernel) (pa_cons (pv 8) pa_nil)) (pe_callB (cr_sum rfl) (by rfl) B.sum (by decide +kernel) (pa_cons (pv 9) pa_nil))) pa_nil))))))))))))), ?_⟩
    refine ⟨.ref a, rfl, a, ns, rfl, hA, hn, fun H1 g1 => ?_⟩
    refine ⟨.ref b, rfl, b, ms, rfl, g1.sq hB, hm, fun H2 g2 => ?_⟩
    have g02 := g1.trans g2
    refine ⟨.ref a, rfl, .ref b, rfl, a, b, ns, ms, rfl, g02.sq hA, g02.sq hB, hn, hm, fun l H3 nl g3 el => ?_⟩
    have g03 := g02.trans g3
    refine ⟨.ref b, rfl, .ref a, rfl, b, a, ms, ns, rfl, g03.sq hB, g03.sq hA, hm, hn, fun r H4 nr g4 er => ?_⟩
    have g04 := g03.trans g4
    have el4 := g4.l el
    refine ⟨.ref l, .ref r, rfl, ?_⟩
    by_cases hp : ns.Perm ms
    · refine ⟨fun _ _ => False, ?_, fun _ _ z => z.elim⟩
      refine ⟨.ref l, rfl, l, _, rfl, .inl (sq el4), rfl, _, rfl, ?_⟩
      rw [leftOf_of_perm hp]
      refine ⟨.ref r, rfl, r, _, rfl, .inl (sq er), rfl, _, rfl, ?_⟩
      rw [leftOf_of_perm hp.symm]
      -- places = [0] * len(one)
      refine ⟨(by show 1 ≤ sizeLine; decide), fun u nu => ⟨.ref a, rfl, a, _, rfl, .inl ((g04.trans (Gr.new nu)).sq hA), ?_⟩⟩
      rw [List.length_map]
      refine ⟨u, ns.length, [.int 0], rfl, rfl, upd_same, by omega, by omega, by show 1 * _ ≤ _; rw [Int.toNat_natCast]; exact szl (by omega), fun pl npl => ?_⟩
      have rz : (List.replicate ((ns.length : Nat) : Int).toNat [V.int 0]).flatten = (List.replicate ns.length 0).map (fun i : Nat => V.int i) := by
        rw [Int.toNat_natCast, List.map_replicate]
        generalize ns.length = z
        induction z with
        | zero => rfl
        | succ z ih => rw [List.replicate_succ, List.flatten_cons, ih]; rfl
      rw [rz]
      have g5 := (g04.trans (Gr.new (o := .lst [.int 0]) nu)).trans (Gr.new (o := .lst ((List.replicate ns.length 0).map fun i : Nat => V.int i)) npl)
      have e5 : (upd (upd H4 u (.lst [.int 0])) pl (.lst ((List.replicate ns.length 0).map fun i : Nat => V.int i))) pl = _ := upd_same
      have npl0 : H pl = Option.none := (g04.trans (Gr.new (o := .lst [.int 0]) nu)).lost _ npl
      generalize upd (upd H4 u (.lst [.int 0])) pl (.lst ((List.replicate ns.length 0).map fun i : Nat => V.int i)) = H5 at *
      have hq : (envOfC "alike" (C8.fnScope s_alike) s.heap.objs.size f (.ref m)).qual ++ "<lambda>" = qL := by
        show (("alike" : Str) ++ ".<locals>.") ++ "<lambda>" = qL
        decide +kernel
      -- ways
      have t5 : LamX.TabS H5 PT qL := (g5.tab (fun z hz => by rw [hT] at hz; rw [List.mem_singleton.mp hz]; exact tb)) (PT, qL) (by rw [hT]; exact List.mem_singleton.mpr rfl)
      refine ⟨.ref b, rfl, b, _, rfl, .inl (g5.sq hB), ?_⟩
      rw [List.length_map]
      refine ⟨_, rfl, b, ms, rfl, rfl, rfl, g5.sq hB, by omega, hq ▸ t5, fun H6 wy g56 nw ew => ?_⟩
      have g56 : Gr T H5 H6 := by rw [hT, tabT, ← hq]; exact g56
      have g6 := g5.trans g56
      have t6 : LamX.TabS H6 PT qL := (g6.tab (fun z hz => by rw [hT] at hz; rw [List.mem_singleton.mp hz]; exact tb)) (PT, qL) (by rw [hT]; exact List.mem_singleton.mpr rfl)
      refine ⟨.ref a, rfl, a, _, rfl, .inl (g6.sq hA), ?_⟩
      rw [List.length_map]
      refine ⟨_, rfl, a, ns, rfl, rfl, rfl, g6.sq hA, by omega, hq ▸ t6, fun H7 wa g67 na ea => ?_⟩
      have g67 : Gr T H6 H7 := by rw [hT, tabT, ← hq]; exact g67
      have g7 := g6.trans g67
      have ew7 := g67.l ew
      have e7 := g67.l (g56.l e5)
      have lr : (ranks ns).length = (ranks ms).length := by rw [ranks_len, ranks_len, hp.length_eq]
      have lr' := ranks_len ns
      refine ⟨.ref wy, rfl, wa, wy, _, _, rfl, sq ea, sq ew7, RZ.for_zipL (K := K) (a := wa) (b := wy) (xs := (ranks ns).map fun j : Nat => V.int j) (ys := (ranks ms).map fun j : Nat => V.int j) (by rw [List.length_map, List.length_map]; exact lr) (fun t σ' H' => ∃ y6 y7, σ' = [some (.ref a), some (.ref b), some (.ref l), some (.ref r), some (.ref pl), some (.ref wy), y6, y7, Option.none, Option.none, Option.none, Option.none, Option.none] ∧ Gr T H H' ∧ H' wa = H7 wa ∧ H' wy = H7 wy ∧ H' pl = some (.lst ((fill (List.replicate ns.length 0) (((ranks ns).zip (ranks ms)).take t)).map fun i : Nat => V.int i)))
        ⟨_, _, rfl, g7, rfl, rfl, e7⟩ (fun t σ' H' hW => ?_) (fun t x y U σ' H' hx hy hW nU => ?_) fun σ' H' hW => ?_⟩
      · obtain ⟨_, _, _, _, h1, h2, _⟩ := hW
        exact ⟨sq (h1.trans ea), sq (h2.trans ew7)⟩
      · obtain ⟨y6, y7, rfl, gg, ha, hw, hpl⟩ := hW
        rw [List.getElem?_map] at hx hy
        cases hx1 : (ranks ns)[t]? with
        | none => rw [hx1] at hx; cases hx
        | some i =>
        cases hy1 : (ranks ms)[t]? with
        | none => rw [hy1] at hy; cases hy
        | some j =>
        rw [hx1] at hx
        rw [hy1] at hy
        cases hx
        cases hy
        have hi : i < ns.length := ranks_lt (List.mem_of_getElem? hx1)
        have nUa : wa ≠ U := ne_of_none (ha.trans ea) nU
        have nUw : wy ≠ U := ne_of_none (hw.trans ew7) nU
        have nUp : pl ≠ U := ne_of_none hpl nU
        refine ⟨U, _, rfl, stp upd_same, rfl, _, _, rfl, _, _, rfl, rfl, ?_⟩
        have npa : wa ≠ pl := fun z => by rw [z] at na; rw [g56.l e5] at na; cases na
        have npw : wy ≠ pl := fun z => by rw [z] at nw; rw [e5] at nw; cases nw
        have gU : Gr T H (upd H' U (.tup [.int i, .int j])) := gg.trans (Gr.new nU)
        have eU : (upd H' U (.tup [.int i, .int j])) pl = some (.lst ((fill (List.replicate ns.length 0) (((ranks ns).zip (ranks ms)).take t)).map fun i : Nat => V.int i)) := by rw [upd_ne nUp]; exact hpl
        have aU : (upd H' U (.tup [.int i, .int j])) wa = H7 wa := by rw [upd_ne nUa]; exact ha
        have wU : (upd H' U (.tup [.int i, .int j])) wy = H7 wy := by rw [upd_ne nUw]; exact hw
        generalize upd H' U (.tup [.int i, .int j]) = H9 at *
        refine ⟨_, rfl, _, rfl, _, rfl, pl, _, i, i, rfl, rfl, eU, ?_, ?_⟩
        · rw [List.length_map, fill_len, List.length_replicate]
          unfold ixN
          rw [if_pos (Int.natCast_nonneg i), if_pos (by omega), Int.toNat_natCast]
        · refine ⟨_, _, rfl, gU.mut npl0 eU trivial, by rw [upd_ne npa]; exact aU, by rw [upd_ne npw]; exact wU, ?_⟩
          have zt : ((ranks ns).zip (ranks ms))[t]? = some (i, j) := List.getElem?_zip_eq_some.mpr ⟨hx1, hy1⟩
          rw [upd_same, List.take_add_one, zt, Option.toList_some, fill_snoc, List.map_set]
      · obtain ⟨y6, y7, rfl, gg, ha, hw, hpl⟩ := hW
        rw [List.length_map, List.take_of_length_le (by rw [List.length_zip]; omega)] at hpl
        refine ⟨.ref pl, rfl, fun x dx nx nd ne => ?_⟩
        have gd : Gr T H' (upd H' dx (.own x)) := Gr.new nd
        have nx2 : (upd H' dx (.own x)) x = Option.none := by rw [upd_ne ne.symm]; exact nx
        have gx : Gr T H' (upd (upd H' dx (.own x)) x (.ins CS dx [])) := gd.trans (Gr.new nx2)
        have hpl : H' pl = some (.lst ((placesOf ns ms).map fun i : Nat => V.int i)) := hpl
        refine ⟨x, dx, pl, (placesOf ns ms).map fun i : Nat => V.int i, rfl, upd_same, sq (gx.l hpl), fun r nr => ⟨rfl, ?_⟩⟩
        have ex : (upd (upd H' dx (.own x)) x (.ins CS dx [])) x = some (.ins CS dx []) := upd_same
        generalize upd (upd H' dx (.own x)) x (.ins CS dx []) = J at *
        have nrx : r ≠ x := fun z => by rw [z, ex] at nr; cases nr
        have gr := gx.trans (Gr.new (T := T) (o := .lst ((placesOf ns ms).map fun i : Nat => V.int i)) nr)
        have er2 : (upd J r (.lst ((placesOf ns ms).map fun i : Nat => V.int i))) x = some (.ins CS dx []) := by rw [upd_ne nrx.symm]; exact ex
        have gz := gr.mut (o := .ins CS dx (sf r)) nx er2 trivial
        exact q.1 hp x dx r _ (gg.lost _ nx) (gg.lost _ (gx.lost _ nr)) (gg.trans gz) upd_same (by rw [upd_ne nrx]; exact upd_same)
    have q := q.2 hp
    -- if len(mine) == 0 and len(theirs) == 0
    have nonempty : ∀ Z : Prop, (leftOf ns ms).length = 0 → (leftOf ms ns).length = 0 → Z := fun Z e1 e2 =>
      (hp (leftOf_nil (List.length_eq_zero_iff.mp e1) (List.length_eq_zero_iff.mp e2))).elim
    obtain ⟨k0, hk0⟩ := first_exists hp
    have hM := leftOf_first.mpr hk0
    have most := hM.most
    have lM := leftOf_len ns ms
    have lR := leftOf_len ms ns
    have bM : Bits 100000 (leftOf ns ms) := fun z hz => bn z (leftOf_sub hz)
    have bR : Bits 100000 (leftOf ms ns) := fun z hz => bm z (leftOf_sub hz)
    have dd := leftOf_psum ns ms k0
    generalize leftOf ns ms = M at *
    generalize leftOf ms ns = R at *
    refine ⟨fun σ' H' => σ' = [some (.ref a), some (.ref b), some (.ref l), some (.ref r), Option.none, Option.none, Option.none, Option.none, Option.none, Option.none, Option.none, Option.none, Option.none] ∧ H4 = H', ?_, fun σ5 H5 hmid => ?_⟩
    · refine ⟨.ref l, rfl, l, _, rfl, .inl (sq el4), rfl, _, rfl, ?_⟩
      refine ite2 (fun e => ?_) (fun e => ⟨rfl, rfl⟩)
      refine ⟨.ref r, rfl, r, _, rfl, .inl (sq er), rfl, _, rfl, ite2 (fun e' => ?_) (fun e' => ⟨rfl, rfl⟩)⟩
      refine nonempty _ ?_ ?_
      · have := V.int.inj (of_decide_eq_true e)
        rw [List.length_map] at this
        omega
      · have := V.int.inj (of_decide_eq_true e')
        rw [List.length_map] at this
        omega
    · obtain ⟨rfl, rfl⟩ := hmid
      -- now = [1] * len(mine); there = [1] * len(theirs); power = 0
      refine ⟨(by show 1 ≤ sizeLine; decide), fun u nu => ⟨.ref l, rfl, l, _, rfl, .inl (sq (by rw [upd_ne (ne_of_none el4 nu)]; exact el4)), ?_⟩⟩
      rw [List.length_map]
      have gu : Gr T H4 (upd H4 u (.lst [.int 1])) := Gr.new nu
      refine ⟨u, M.length, [.int 1], rfl, rfl, upd_same, by omega, by omega, by show 1 * _ ≤ _; rw [Int.toNat_natCast]; exact szl (by omega), fun now nnow => ?_⟩
      rw [rep_ones]
      have g5 := (g04.trans gu).trans (Gr.new (o := .lst ((List.replicate M.length 1).map V.int)) nnow)
      have e5 : (upd (upd H4 u (.lst [.int 1])) now (.lst ((List.replicate M.length 1).map V.int))) now = _ := upd_same
      have el5 := (gu.trans (Gr.new (T := T) (o := .lst ((List.replicate M.length 1).map V.int)) nnow)).l el4
      have er5 := (gu.trans (Gr.new (T := T) (o := .lst ((List.replicate M.length 1).map V.int)) nnow)).l er
      generalize upd (upd H4 u (.lst [.int 1])) now (.lst ((List.replicate M.length 1).map V.int)) = H5 at *
      refine ⟨(by show 1 ≤ sizeLine; decide), fun u2 nu2 => ⟨.ref r, rfl, r, _, rfl, .inl (sq (by rw [upd_ne (ne_of_none er5 nu2)]; exact er5)), ?_⟩⟩
      rw [List.length_map]
      have gu2 : Gr T H5 (upd H5 u2 (.lst [.int 1])) := Gr.new nu2
      refine ⟨u2, R.length, [.int 1], rfl, rfl, upd_same, by omega, by omega, by show 1 * _ ≤ _; rw [Int.toNat_natCast]; exact szl (by omega), fun there nthere => ?_⟩
      rw [rep_ones]
      have g56 := gu2.trans (Gr.new (T := T) (o := .lst ((List.replicate R.length 1).map V.int)) nthere)
      have e6 : (upd (upd H5 u2 (.lst [.int 1])) there (.lst ((List.replicate R.length 1).map V.int))) there = _ := upd_same
      generalize upd (upd H5 u2 (.lst [.int 1])) there (.lst ((List.replicate R.length 1).map V.int)) = H6 at *
      have g6 := g5.trans g56
      have el6 := g56.l el5
      have er6 := g56.l er5
      have enow6 := g56.l e5
      rw [← pows_zero] at enow6 e6
      -- the loop
      refine ⟨fun m σ H' => ∃ k c d, k + m = k0 ∧ σ = [some (.ref a), some (.ref b), some (.ref l), some (.ref r), Option.none, Option.none, Option.none, Option.none, some (.ref c), some (.ref d), some (.int k), Option.none, Option.none] ∧ Gr T H6 H' ∧ H' c = some (.lst ((pows M k).map V.int)) ∧ H' d = some (.lst ((pows R k).map V.int)),
        ⟨k0, 0, now, there, by omega, rfl, Gr.refl _, enow6, e6⟩, fun m σ H7 hW => ?_⟩
      obtain ⟨k, c, d, hk, rfl, g67, ec, ed⟩ := hW
      refine ⟨.ref c, rfl, c, _, rfl, sq ec, .ref d, rfl, d, _, rfl, sq ed, rfl, _, rfl, ite2 (fun e => ?_) (fun e => ?_)⟩
      · have e1 : psum M k = psum R k := V.int.inj (of_decide_eq_true e)
        have kl : k < k0 := by
          apply Classical.byContradiction
          intro z
          have : k = k0 := by omega
          exact hM.ne (this ▸ e1)
        refine ⟨fun σ' H' => ∃ c d, σ' = [some (.ref a), some (.ref b), some (.ref l), some (.ref r), Option.none, Option.none, Option.none, Option.none, some (.ref c), some (.ref d), some (.int ((k : Int) + 1)), Option.none, Option.none] ∧ Gr T H6 H' ∧ H' c = some (.lst ((pows M (k + 1)).map V.int)) ∧ H' d = some (.lst ((pows R (k + 1)).map V.int)),
          fun σ' H' ⟨c, d, e1, g, ec, ed⟩ => ⟨m - 1, by omega, k + 1, c, d, by omega, e1, g, ec, ed⟩, ?_⟩
        -- now = [part * number ..]
        have el7 := g67.l el6
        have er7 := g67.l er6
        have turn : ∀ {L : List Int} {H8 : Hp} {σ : L2.St} {x y : V} {Q' : VK}, Bits 100000 L → (x, y) ∈ ((pows L k).map V.int).zip (L.map V.int) → σ[11]? = some (some x) → σ[12]? = some (some y) →
            (Q' (match x, y with | .int i, .int j => V.int (i * j) | _, _ => .non) H8) → tOp (rI IntMulOk fun i j => .int (i * j)) (tVar 11) (tVar 12) σ H8 Q' := fun {L H8 σ x y Q'} bL hxy h1 h2 q' => by
          obtain ⟨i, j, rfl, rfl, hi, hj⟩ := zip_mem hxy
          refine ⟨_, h1, _, h2, i, j, rfl, rfl, IntMulOk.of_le (bits_pow bL k i hi) (bL j hj) ?_, q'⟩
          have : 100000 * k ≤ 100000 * 1000 := Nat.mul_le_mul_left _ (by omega)
          omega
        refine ⟨.ref c, rfl, .ref l, rfl, c, l, _, _, rfl, sq ec, sq el7, lc_zip (T := T) (i := 11) (j := 12) (by decide) (fun x y => match x, y with | .int i, .int j => V.int (i * j) | _, _ => .non) (sq ec) (sq el7) (by rw [List.length_map, List.length_map, pows_len]) (by rw [List.length_map, pows_len]; omega)
          (fun x y H8 hxy g Q' q' => turn bM hxy rfl rfl (q' H8 (Gr.refl _))) fun c2 H8 nc2 g8 ec2 => ?_⟩
        rw [zip_ints, pows_succ] at ec2
        have ed8 := g8.l ed
        have er8 := g8.l er7
        refine ⟨.ref d, rfl, .ref r, rfl, d, r, _, _, rfl, sq ed8, sq er8, lc_zip (T := T) (i := 11) (j := 12) (by decide) (fun x y => match x, y with | .int i, .int j => V.int (i * j) | _, _ => .non) (sq ed8) (sq er8) (by rw [List.length_map, List.length_map, pows_len]) (by rw [List.length_map, pows_len]; omega)
          (fun x y H9 hxy g Q' q' => turn bR hxy rfl rfl (q' H9 (Gr.refl _))) fun d2 H9 nd2 g9 ed2 => ?_⟩
        rw [zip_ints, pows_succ] at ed2
        refine ⟨.int k, rfl, k, 1, rfl, rfl, c2, d2, rfl, (g67.trans g8).trans g9, g9.l ec2, ed2⟩
      · have e1 : psum M k ≠ psum R k := fun z => e (decide_eq_true (congrArg V.int z))
        have kk : k = k0 := by
          have := hM.le e1
          omega
        subst kk
        refine ⟨.int k, rfl, .ref c, rfl, c, _, rfl, sq ec, .ref d, rfl, d, _, rfl, sq ed, _, _, rfl, rfl, ?_⟩
        intro x dx nx ndx ne
        refine ⟨x, dx, _, _, rfl, upd_same, rfl, ?_⟩
        have gx := u_made (T := T) (CU := CU) (u := .int k) (v := .int (psum M k - psum R k)) nx ndx ne
        have g7 := (g6.trans g67)
        rw [dd] at gx
        show Q (.ref x) (upd (upd (upd H7 dx (.own x)) x (.ins CU dx [])) x (.ins CU dx (uf (.int k) (.int (psum M k - psum R k)))))
        rw [dd]
        exact q k x dx _ hk0 (g7.lost x nx) (g7.trans gx) upd_same
end
end Wk
/-! ### the law's own small defs -/
namespace Wk
open PySem PySem.Spec PyProof.Rows L2 Kx Ep
open PySem.Builtin.Int (intBits)
section
variable {P : Program} {w : World} {K : PySem.W.Frag} {mg : Str → Option Value} {base : Heap} {f : Addr} {fd : FuncData} {T : Tb}
def spCellAt (K : PySem.W.Frag) : Sp := fun vs H Q _ => ∃ (a : Addr) (ns : List Int) (k : Nat), vs = [.ref a, .int k] ∧ SqL K H a (ns.map V.int) ∧ (∀ z, z = 0 ∨ z ∈ ns → Q (.int z) H)
theorem sc__law_cell_at : FnScope N__law_cell_at ["_law_script", "_law_k"] (C8.fnScope s__law_cell_at) := C8.fnScope_by (by decide +kernel)
theorem ok_cell_at (B : Bt mg) (F : C8.Def K mg "_law_cell_at" s__law_cell_at f fd) (b : Binds K fd ["_law_script", "_law_k"] []) : C8.Cal P w K mg base 1 "_law_cell_at" (spCellAt K) [] := by
  refine C8.cal0 F b .nil sc__law_cell_at (fun vs H Q E h => ?_) (fun cdv A outer s H vs Q E hr h => ?_)
  · obtain ⟨a, ns, k, rfl, _⟩ := h
    rfl
  · obtain ⟨a, ns, k, rfl, hA, q⟩ := h
    refine ⟨_, (pss_cons (ps_if (pt_cmpR op_lt (pv 1) (pe_callB call_len_seq (by rfl) B.len PySem.boot_len (pa_cons (pv 0) pa_nil)) (nomark _))
(pss_one (ps_ret (pe_ix ix_list (pv 0) (pv 1) (fun _ _ => rfl))))
pss_nil)
(pss_one (ps_ret pe_int))), ?_⟩
    refine ⟨_, rfl, _, rfl, a, _, rfl, .inl hA, k, _, rfl, rfl, _, rfl, ite2 (fun e => ?_) (fun e => ?_)⟩
    · have hk : k < ns.length := by
        have := of_decide_eq_true e
        rw [List.length_map] at this
        omega
      refine ⟨_, rfl, _, rfl, a, _, (k : Int), .int ns[k], rfl, rfl, hA, atI_nat (by rw [List.getElem?_map, List.getElem?_eq_getElem hk]; rfl), ?_⟩
      exact q _ (.inr (List.getElem_mem hk))
    · exact q 0 (.inl rfl)
def primes : List Int := [1000003, 1000033, 1000037, 1000039, 1000081, 1000099, 1000117, 1000121, 1000133, 1000151, 1000159, 1000171, 1000183, 1000187, 1000193, 1000199]
theorem primes_at (k : Nat) : ∃ z : Int, (primes.map V.int)[k % 16]? = some (.int z) ∧ 0 < z := by
  have hl : k % 16 < primes.length := Nat.mod_lt _ (by decide)
  refine ⟨primes[k % 16], by rw [List.getElem?_map, List.getElem?_eq_getElem hl]; rfl, ?_⟩
  have all : ∀ z ∈ primes, (0 : Int) < z := by decide
  exact all _ (List.getElem_mem hl)
def spDraw (T : Tb) : Sp := fun vs H Q _ => ∃ (cell : Int) (k : Nat) (many : Int), vs = [.int cell, .int k, .int many] ∧ k ≤ 1000 ∧ 0 < many ∧ (∀ z H', 0 ≤ z → z < many → Gr T H H' → Q (.int z) H')
theorem mul_small {a b : Int} (h1 : -(2 ^ 60) < b) (h2 : b < 2 ^ 60) : IntMulOk a b := .of_right (PySem.intBits_le_64 (by omega) (by omega))
theorem mul_small' {a b : Int} (h1 : -(2 ^ 60) < a) (h2 : a < 2 ^ 60) : IntMulOk a b := .of_left (PySem.intBits_le_64 (by omega) (by omega))
theorem sc__law_draw : FnScope N__law_draw ["_law_cell", "_law_k", "_law_many"] (C8.fnScope s__law_draw) := C8.fnScope_by (by decide +kernel)
theorem ok_draw (B : Bt mg) (F : C8.Def K mg "_law_draw" s__law_draw f fd) (b : Binds K fd ["_law_cell", "_law_k", "_law_many"] []) : C8.Cal P w K mg base 1 "_law_draw" (spDraw T) [] := by
  refine C8.cal0 F b .nil sc__law_draw (fun vs H Q E h => ?_) (fun cdv A outer s H vs Q E hr h => ?_)
  · obtain ⟨c, k, m, rfl, _⟩ := h
    rfl
  · obtain ⟨c, k, m, rfl, hk, hm, q⟩ := h
    refine ⟨_, (pss_cons (ps_set (i := 3) sc__law_draw.nd rfl (.inl rfl) (pe_tup (pa_cons pe_int (pa_cons pe_int (pa_cons pe_int (pa_cons pe_int (pa_cons pe_int (pa_cons pe_int (pa_cons pe_int (pa_cons pe_int (pa_cons pe_int (pa_cons pe_int (pa_cons pe_int (pa_cons pe_int (pa_cons pe_int (pa_cons pe_int (pa_cons pe_int (pa_cons pe_int pa_nil))))))))))))))))))
(pss_one (ps_ret (pe_op op_mod (pe_op op_mod (pe_op op_add (pe_op op_mulB (pv 0) pe_int) (pe_op op_mulB (pv 1) pe_int)) (pe_ix ix_tup (pv 3) (pe_op op_mod (pv 1) pe_int) (fun _ _ => rfl))) (pv 2))))), ?_⟩
    refine ⟨(by show 16 ≤ sizeLine; decide), fun t nt => ?_⟩
    obtain ⟨z, hz, z0⟩ := primes_at k
    have g : Gr T H (upd H t (.tup (primes.map V.int))) := Gr.new nt
    refine ⟨_, rfl, c, 48271, rfl, rfl, mul_small (by omega) (by omega), _, rfl, k, 69621, rfl, rfl, mul_small (by omega) (by omega), _, _, rfl, rfl, ?_⟩
    refine ⟨.ref t, rfl, _, rfl, k, 16, rfl, rfl, (show (0 : Int) < 16 by decide), t, primes.map V.int, ((k % 16 : Nat) : Int), .int z, rfl, rfl, stp upd_same, atI_nat hz, _, z, rfl, rfl, z0, _, rfl, _, m, rfl, rfl, hm, ?_⟩
    exact q _ _ (Int.emod_nonneg _ (by omega)) (Int.emod_lt_of_pos _ hm) g
theorem big60 : intBits ((10 : Int) ^ (60 : Int).toNat) ≤ 200 := by decide +kernel
theorem big120 : intBits ((10 : Int) ^ (60 : Int).toNat * (10 : Int) ^ (60 : Int).toNat) ≤ 400 := by decide +kernel
theorem big40 : intBits ((10 : Int) ^ (40 : Int).toNat) ≤ 400 := by decide +kernel
theorem value_bits {r M : Int} (b0 : 0 ≤ r) (b1 : r < M) (bM : intBits M ≤ 400) : IntMulOk (r / 2) (1 - r % 2 * 2) ∧ intBits (r / 2 * (1 - r % 2 * 2)) ≤ 500 := by
  have br : intBits r ≤ 400 := PySem.intBits_le_of_natAbs (by omega) bM
  have br2 : intBits (r / 2) ≤ 400 := PySem.intBits_le_of_natAbs (by omega) br
  have bs : intBits (1 - r % 2 * 2) ≤ 64 := PySem.intBits_le_64 (by omega) (by omega)
  exact ⟨IntMulOk.of_le br2 bs (by decide), Nat.le_trans (PySem.intBits_mul_le br2 bs) (by decide)⟩
def spValue (T : Tb) : Sp := fun vs H Q _ => ∃ (cell : Int) (k : Nat) (most : Int), vs = [.int cell, .int k, .int most] ∧ intBits cell ≤ 1048576 ∧ k ≤ 1000 ∧ 0 ≤ most ∧ most ≤ 400000 ∧ (∀ z H', intBits z ≤ 500 → Gr T H H' → Q (.int z) H')
theorem sc__law_value : FnScope N__law_value ["_law_cell", "_law_k", "_law_most"] (C8.fnScope s__law_value) := C8.fnScope_by (by decide +kernel)
theorem ok_value (B : Bt mg) (F : C8.Def K mg "_law_value" s__law_value f fd) (b : Binds K fd ["_law_cell", "_law_k", "_law_most"] []) (c__law_draw : C8.Cal P w K mg base 1 "_law_draw" (spDraw T) []) : C8.Cal P w K mg base 2 "_law_value" (spValue T) [] := by
  refine C8.cal0 F b .nil sc__law_value (fun vs H Q E h => ?_) (fun cdv A outer s H vs Q E hr h => ?_)
  · obtain ⟨c, k, m, rfl, _⟩ := h
    rfl
  · obtain ⟨c, k, m, rfl, bc, hk, hm, hm2, q⟩ := h
    refine ⟨_, (pss_cons (ps_if (pt_cmpR op_ge (pv 0) (pe_op op_pow pe_int pe_int) (nomark _))
(pss_cons (ps_set (i := 3) sc__law_value.nd rfl (.inl rfl) (pe_op op_mod (pe_op op_sub (pv 0) (pe_op op_pow pe_int pe_int)) (pe_op op_pow pe_int pe_int)))
(pss_one (ps_ret (pe_op op_mulB (pe_op op_fdivW (pv 3) pe_int) (pe_op op_sub pe_int (pe_op op_mulB (pe_op op_mod (pv 3) pe_int) pe_int))))))
pss_nil)
(pss_one (ps_ret (pe_op op_sub (C8.pe_c c__law_draw hr (by decide) (by rfl) (pa_cons (pe_op op_mulB (pe_op op_add (pv 0) (pe_op op_mulB pe_int (pv 1))) (pe_op op_add (pe_op op_add (pv 0) (pe_op op_mulB pe_int (pv 1))) pe_int)) (pa_cons (pe_op op_add (pe_op op_mod (pv 1) pe_int) pe_int) (pa_cons (pe_op op_add (pe_op op_mulB pe_int (pv 2)) pe_int) pa_nil)))) (pv 2))))), ?_⟩
    refine ⟨_, rfl, 10, 18, rfl, rfl, ⟨by decide, by decide, by decide⟩, c, _, rfl, rfl, _, rfl, ite2 (fun e => ?_) (fun e => ?_)⟩
    · skip
      refine ⟨_, rfl, 10, 18, rfl, rfl, ⟨by decide, by decide, by decide⟩, c, _, rfl, rfl, 10, 40, rfl, rfl, ⟨by decide, by decide, by decide⟩, _, _, rfl, rfl, (show (0 : Int) < 10 ^ (40 : Int).toNat by decide), ?_⟩
      have b0 := Int.emod_nonneg (c - 10 ^ (18 : Int).toNat) (show (10 : Int) ^ (40 : Int).toNat ≠ 0 by decide)
      have b1 : (c - 10 ^ (18 : Int).toNat) % ((10 : Int) ^ (40 : Int).toNat) < (10 : Int) ^ (40 : Int).toNat := Int.emod_lt_of_pos _ (by decide)
      have bM : intBits ((10 : Int) ^ (40 : Int).toNat) ≤ 400 := big40
      obtain ⟨ok, bz⟩ := value_bits b0 b1 bM
      exact ⟨_, rfl, _, 2, rfl, rfl, ⟨by decide, by decide⟩, _, rfl, _, 2, rfl, rfl, (show (0 : Int) < 2 by decide), _, 2, rfl, rfl, mul_small (by decide) (by decide), 1, _, rfl, rfl, _, _, rfl, rfl, ok, q _ H bz (Gr.refl _)⟩
    · have bk : intBits (977 * (k : Int)) ≤ 64 := PySem.intBits_le_64 (by omega) (by omega)
      have bk2 : intBits (31 * (k : Int)) ≤ 64 := PySem.intBits_le_64 (by omega) (by omega)
      refine ⟨_, rfl, _, rfl, _, _, rfl, rfl, mul_small' (by decide) (by decide), _, _, rfl, rfl, _, rfl, _, rfl, _, _, rfl, rfl, mul_small' (by decide) (by decide), _, _, rfl, rfl, _, _, rfl, rfl, _, _, rfl, rfl,
        IntMulOk.of_le (PySem.intBits_add_le bc bk) (PySem.intBits_add_le (PySem.intBits_add_le bc bk2) (PySem.intBits_le_64 (k := 5) (by decide) (by decide))) (by decide),
        _, rfl, _, _, rfl, rfl, (show (0 : Int) < 9 by decide), _, _, rfl, rfl, _, rfl, _, _, rfl, rfl, mul_small' (by decide) (by decide), _, _, rfl, rfl, ?_⟩
      refine ⟨_, k % 9 + 1, 2 * m + 1, rfl, by omega, by omega, fun z H' h0 h1 g => ⟨_, rfl, z, m, rfl, rfl, q _ H' (Nat.le_trans (PySem.intBits_le_64 (by omega) (by omega)) (by decide)) g⟩⟩
end
end Wk
/-! ### the law's heaps -/
namespace Wk
open PySem PySem.Spec PyProof.Rows L2 Kx Ep
open PySem.Builtin.Int (intBits)
section
variable {P : Program} {w : World} {K : PySem.W.Frag} {mg : Str → Option Value} {base : Heap} {f : Addr} {fd : FuncData} {T : Tb}
theorem Bits.mono {m n : Nat} {l : List Int} (h : Bits m l) (hm : m ≤ n) : Bits n l := fun z hz => Nat.le_trans (h z hz) hm
theorem Bits.append {m : Nat} {k l : List Int} (h : Bits m k) (h' : Bits m l) : Bits m (k ++ l) := fun z hz => (List.mem_append.mp hz).elim (h z) (h' z)
def spRaised (T : Tb) : Sp := fun vs H Q _ => ∃ (a b : Addr) (ns ms : List Int) (z : Int), vs = [.ref a, .ref b, .int z] ∧ H a = some (.lst (ns.map V.int)) ∧ H b = some (.lst (ms.map V.int)) ∧ ns.length ≤ 1000 ∧ ms.length ≤ 1000 ∧
  ∀ p x y H', H p = Option.none → H x = Option.none → H y = Option.none → x ≠ y → Gr T H H' → H' p = some (.tup [.ref x, .ref y]) → H' x = some (.lst ((ns ++ ms.map (· + z)).map V.int)) → H' y = some (.lst ((ms ++ ns.map (· + z)).map V.int)) → Q (.ref p) H'
theorem sc__law_raised : FnScope N__law_raised ["_law_one", "_law_other", "_law_shift"] (C8.fnScope s__law_raised) := C8.fnScope_by (by decide +kernel)
theorem ok_law_raised (B : Bt mg) (F : C8.Def K mg "_law_raised" s__law_raised f fd) (b : Binds K fd ["_law_one", "_law_other", "_law_shift"] []) : C8.Cal P w K mg base 1 "_law_raised" (spRaised T) [] := by
  refine C8.cal0 F b .nil sc__law_raised (fun vs H Q E h => ?_) (fun cdv A outer s H vs Q E hr h => ?_)
  · obtain ⟨a, b, ns, ms, z, rfl, _⟩ := h
    rfl
  · obtain ⟨a, b, ns, ms, z, rfl, hA, hB, hn, hm, q⟩ := h
    refine ⟨_, (pss_one (ps_ret (pe_tup (pa_cons (pe_op op_cat (pv 0) (pe_lc (own := [("_law_number", 3)]) (g := gName 3) (tt := tYes) rfl sc__law_raised.nd (pi_list (pv 1)) (blkOk_by (own := [("_law_number", 3)]) (N := N__law_raised) (sc := C8.fnScope s__law_raised) (by decide +kernel)) (fun _ _ _ _ _ => (pg_name (i := 3) sc__law_raised.nd rfl (Or.inl rfl))) (fun _ _ _ _ _ => pts_nil) (fun _ _ _ _ _ => (pe_op op_add (pv 3) (pv 2))))) (pa_cons (pe_op op_cat (pv 1) (pe_lc (own := [("_law_number", 3)]) (g := gName 3) (tt := tYes) rfl sc__law_raised.nd (pi_list (pv 0)) (blkOk_by (own := [("_law_number", 3)]) (N := N__law_raised) (sc := C8.fnScope s__law_raised) (by decide +kernel)) (fun _ _ _ _ _ => (pg_name (i := 3) sc__law_raised.nd rfl (Or.inl rfl))) (fun _ _ _ _ _ => pts_nil) (fun _ _ _ _ _ => (pe_op op_add (pv 3) (pv 2))))) pa_nil))))), ?_⟩
    have add : ∀ {l : List Int} {x : V}, x ∈ l.map V.int → ∃ i, x = .int i := fun hx => by
      obtain ⟨i, _, rfl⟩ := List.mem_map.mp hx
      exact ⟨i, rfl⟩
    have img : ∀ l : List Int, (l.map V.int).map (fun v => match v with | .int i => V.int (i + z) | _ => .non) = (l.map (· + z)).map V.int := fun l => by rw [List.map_map, List.map_map]; rfl
    refine ⟨_, rfl, _, rfl, b, rfl, ⟨_, sq hB⟩, lc_map (T := T) (i := 3) (fun v => match v with | .int i => .int (i + z) | _ => .non) (sq hB) (by rw [List.length_map]; omega) (fun x H1 hx g Q' q' => ?_) fun u H1 nu g1 eu => ?_⟩
    · obtain ⟨i, rfl⟩ := add hx
      exact ⟨_, rfl, _, rfl, i, z, rfl, rfl, q' _ (Gr.refl _)⟩
    rw [img] at eu
    refine ⟨a, u, _, _, rfl, rfl, g1.l hA, eu, by rw [List.length_map, List.length_map, List.length_map]; exact szl (by omega), fun x nx => ?_⟩
    have g2 := g1.trans (Gr.new (o := .lst (ns.map V.int ++ (ms.map (· + z)).map V.int)) nx)
    have ex : (upd H1 x (.lst (ns.map V.int ++ (ms.map (· + z)).map V.int))) x = some (.lst ((ns ++ ms.map (· + z)).map V.int)) := by rw [List.map_append]; exact upd_same
    generalize upd H1 x (.lst (ns.map V.int ++ (ms.map (· + z)).map V.int)) = H2 at *
    refine ⟨_, rfl, _, rfl, a, rfl, ⟨_, sq (g2.l hA)⟩, lc_map (T := T) (i := 3) (fun v => match v with | .int i => .int (i + z) | _ => .non) (sq (g2.l hA)) (by rw [List.length_map]; omega) (fun x H1 hx g Q' q' => ?_) fun u2 H3 nu2 g23 eu2 => ?_⟩
    · obtain ⟨i, rfl⟩ := add hx
      exact ⟨_, rfl, _, rfl, i, z, rfl, rfl, q' _ (Gr.refl _)⟩
    rw [img] at eu2
    have g3 := g2.trans g23
    have ex3 := g23.l ex
    refine ⟨b, u2, _, _, rfl, rfl, g3.l hB, eu2, by rw [List.length_map, List.length_map, List.length_map]; exact szl (by omega), fun y ny => ?_⟩
    have g34 : Gr T H3 _ := Gr.new (o := .lst (ms.map V.int ++ (ns.map (· + z)).map V.int)) ny
    have ey : (upd H3 y (.lst (ms.map V.int ++ (ns.map (· + z)).map V.int))) y = some (.lst ((ms ++ ns.map (· + z)).map V.int)) := by rw [List.map_append]; exact upd_same
    generalize upd H3 y (.lst (ms.map V.int ++ (ns.map (· + z)).map V.int)) = H4 at *
    have xy : x ≠ y := ne_of_none ex3 ny
    refine ⟨show 2 ≤ sizeLine by decide, fun p np => ?_⟩
    have g4 := g3.trans g34
    have g45 : Gr T H4 _ := Gr.new (o := .tup [.ref x, .ref y]) np
    exact q p x y _ (g4.lost _ np) (g1.lost _ nx) (g3.lost _ ny) xy (g4.trans g45) upd_same (g45.l (g34.l ex3)) (g45.l ey)
def spHeaps (T : Tb) (K : PySem.W.Frag) : Sp := fun vs H Q _ => ∃ (a : Addr) (ns : List Int), vs = [.ref a] ∧ SqL K H a (ns.map V.int) ∧ ns.length ≤ 63 ∧ Bits 1048576 ns ∧
  ∀ p x y xs ys H', H p = Option.none → H x = Option.none → H y = Option.none → Gr T H H' → H' p = some (.tup [.ref x, .ref y]) → H' x = some (.lst (xs.map V.int)) → H' y = some (.lst (ys.map V.int)) → xs.length ≤ 63 → ys.length ≤ 63 → Bits 600 xs → Bits 600 ys → Q (.ref p) H'
def mosts : List Int := [3, 9, 60, 400000]
theorem mosts_at {d : Nat} (h : d < 4) : ∃ m : Int, mosts[d]? = some m ∧ 0 ≤ m ∧ m ≤ 400000 := by
  have : d = 0 ∨ d = 1 ∨ d = 2 ∨ d = 3 := by omega
  rcases this with rfl | rfl | rfl | rfl
  · exact ⟨3, rfl, by decide, by decide⟩
  · exact ⟨9, rfl, by decide, by decide⟩
  · exact ⟨60, rfl, by decide, by decide⟩
  · exact ⟨400000, rfl, by decide, by decide⟩
theorem sc__law_heaps : FnScope N__law_heaps ["_law_script"] (C8.fnScope s__law_heaps) := C8.fnScope_by (by decide +kernel)
theorem ok_law_heaps (B : Bt mg) (F : C8.Def K mg "_law_heaps" s__law_heaps f fd) (b : Binds K fd ["_law_script"] []) (c__law_draw : C8.Cal P w K mg base 1 "_law_draw" (spDraw T) []) (c__law_cell_at : C8.Cal P w K mg base 1 "_law_cell_at" (spCellAt K) []) (c__law_value : C8.Cal P w K mg base 2 "_law_value" (spValue T) [])
    (c__law_raised : C8.Cal P w K mg base 1 "_law_raised" (spRaised T) []) : C8.Cal P w K mg base 3 "_law_heaps" (spHeaps T K) [] := by
  refine C8.cal0 F b .nil sc__law_heaps (fun vs H Q E h => ?_) (fun cdv A outer s H vs Q E hr h => ?_)
  · obtain ⟨a, ns, rfl, _⟩ := h
    rfl
  · obtain ⟨a, ns, rfl, hA, hn, hb, q⟩ := h
    refine ⟨_, (pss_cons (ps_set (i := 0) sc__law_heaps.nd rfl (.inl rfl) (pe_slice sl_list (pv 0) po_none (po_some pe_int)))
(pss_cons (ps_set (i := 1) sc__law_heaps.nd rfl (.inl rfl) (C8.pe_c c__law_draw hr (by decide) (by rfl) (pa_cons (C8.pe_c c__law_cell_at hr (by decide) (by rfl) (pa_cons (pv 0) (pa_cons pe_int pa_nil))) (pa_cons pe_int (pa_cons pe_int pa_nil)))))
(pss_cons (ps_set (i := 2) sc__law_heaps.nd rfl (.inr rfl) (pe_ix ix_tup (pe_tup (pa_cons pe_int (pa_cons pe_int (pa_cons pe_int (pa_cons pe_int pa_nil))))) (C8.pe_c c__law_draw hr (by decide) (by rfl) (pa_cons (C8.pe_c c__law_cell_at hr (by decide) (by rfl) (pa_cons (pv 0) (pa_cons pe_int pa_nil))) (pa_cons pe_int (pa_cons pe_int pa_nil)))) (fun _ _ => rfl)))
(pss_cons (ps_setLc (i := 3) (own := [("_law_k", 8), ("_law_cell", 9)]) (g := gTup K 2 (gCons (gName 8) (gCons (gName 9) gNil))) (tt := tYes) rfl sc__law_heaps.nd rfl rfl (sw_true rfl rfl rfl (by decide +kernel)) (pi_enum (by rfl) B.enumerate (pa_cons (pv 0) pa_nil)) (blkOk_by (own := [("_law_k", 8), ("_law_cell", 9)]) (N := N__law_heaps) (sc := C8.fnScope s__law_heaps) (by decide +kernel)) (fun _ _ _ _ _ => (pg_tup rfl (pgs_cons (pg_name (i := 8) sc__law_heaps.nd rfl (Or.inl rfl)) (pgs_cons (pg_name (i := 9) sc__law_heaps.nd rfl (Or.inl rfl)) pgs_nil)))) (fun _ _ _ _ _ => pts_nil) (fun _ _ _ _ _ => (C8.pe_c c__law_value hr (by decide) (by rfl) (pa_cons (pv 9) (pa_cons (pv 8) (pa_cons (pv 2) pa_nil))))))
(pss_cons (ps_set (i := 4) sc__law_heaps.nd rfl (.inl rfl) (pe_op op_fdivW (pe_callB call_len_seq (by rfl) B.len PySem.boot_len (pa_cons (pv 3) pa_nil)) pe_int))
(pss_cons (ps_if (pt_cmpR op_lt (pv 1) pe_int (nomark _))
(pss_one (ps_ret (pe_ifExp (pt_cmpR op_eq (pv 1) pe_int (nomark _)) (pe_tup (pa_cons (pe_slice sl_list (pv 3) po_none (po_some (pv 4))) (pa_cons (pe_slice sl_list (pv 3) (po_some (pv 4)) (po_some (pe_op op_mulB pe_int (pv 4)))) pa_nil))) (pe_tup (pa_cons (pe_step0 (pv 3)) (pa_cons (pe_step1 (pv 3)) pa_nil))))))
pss_nil)
(pss_cons (ps_if (pt_cmpR op_eq (pv 1) pe_int (nomark _))
(pss_cons (ps_set (i := 5) sc__law_heaps.nd rfl (.inl rfl) (pe_revL (pv 3)))
(C8.pss_cut (ps_if (PW.pt (pw_and (pt_cmpR (op_neD hr.units) (pv 5) (pe_lst pa_nil) (nomark _)) (pw_and1 (pt_cmpR op_eq (C8.pe_c c__law_draw hr (by decide) (by rfl) (pa_cons (C8.pe_c c__law_cell_at hr (by decide) (by rfl) (pa_cons (pv 0) (pa_cons pe_int pa_nil))) (pa_cons pe_int (pa_cons pe_int pa_nil)))) pe_int (nomark _)))))
(pss_one (ps_asg (pe_op op_sub (pe_op op_add (pe_ix ix_list (pv 5) (pv 4) (fun _ _ => rfl)) pe_int) (pe_op op_mulB pe_int (pe_op op_mod (pv 4) pe_int))) (pg_sub (pv 5) (pv 4) set_list)))
pss_nil)
(pss_one (ps_ret (pe_tup (pa_cons (pv 3) (pa_cons (pv 5) pa_nil)))))))
pss_nil)
(pss_cons (ps_par (i := 6) (j := 5) rfl sc__law_heaps.nd rfl rfl (by decide) rfl rfl (pa_cons (pe_lst (pa_cons (pe_ix ix_list (pe_op op_cat (pv 3) (pe_lst (pa_cons pe_int pa_nil))) pe_int (fun _ _ => rfl)) pa_nil)) (pa_cons (pe_lst (pa_cons (pe_ix ix_list (pe_op op_cat (pv 3) (pe_lst (pa_cons pe_int (pa_cons pe_int pa_nil)))) pe_int (fun _ _ => rfl)) pa_nil)) pa_nil)) (by rfl))
(pss_cons (ps_for PassesOwn.never rfl (pi_list (pe_slice sl_list (pv 3) (po_some pe_int) (po_some pe_int))) (pg_name (i := 7) sc__law_heaps.nd rfl (Or.inl rfl))
(pss_one (ps_asg (C8.pe_c c__law_raised hr (by decide) (by rfl) (pa_cons (pv 6) (pa_cons (pv 5) (pa_cons (pe_ifExp (pt_cmpR op_ne (pv 7) pe_int (nomark _)) (pv 7) pe_int) pa_nil)))) (pg_tup rfl (pgs_cons (pg_name (i := 6) sc__law_heaps.nd rfl (Or.inl rfl)) (pgs_cons (pg_name (i := 5) sc__law_heaps.nd rfl (Or.inl rfl)) pgs_nil))))))
(C8.pss_cut (ps_if (pt_cmpR op_eq (pv 1) pe_int (nomark _))
(pss_one (ps_par (i := 6) (j := 5) rfl sc__law_heaps.nd rfl rfl (by decide) rfl rfl (pa_cons (pe_op op_cat (pe_slice sl_list (pv 3) (po_some pe_int) (po_some pe_int)) (pv 6)) (pa_cons (pe_op op_cat (pv 5) (pe_revL (pe_slice sl_list (pv 3) (po_some pe_int) (po_some pe_int)))) pa_nil)) (by rfl)))
pss_nil)
(C8.pss_cut (ps_if (pt_cmpR op_eq (pv 1) pe_int (nomark _))
(pss_one (ps_asg (pe_op op_add (pe_ix ix_list (pv 6) (pe_op op_fdivW (pe_callB call_len_seq (by rfl) B.len PySem.boot_len (pa_cons (pv 6) pa_nil)) pe_int) (fun _ _ => rfl)) (pe_ix ix_list (pe_op op_cat (pv 3) (pe_op op_rep (pe_lst (pa_cons pe_int pa_nil)) pe_int)) pe_int (fun _ _ => rfl))) (pg_sub (pv 6) (pe_op op_fdivW (pe_callB call_len_seq (by rfl) B.len PySem.boot_len (pa_cons (pv 6) pa_nil)) pe_int) set_list)))
pss_nil)
(pss_one (ps_ret (pe_tup (pa_cons (pv 6) (pa_cons (pv 5) pa_nil)))))))))))))))), ?_⟩
    -- script[:63]
    refine ⟨_, rfl, 63, rfl, a, _, rfl, hA, fun s0 n0 => ?_⟩
    rw [show (some (63 : Int)) = some (((63 : Nat)) : Int) from rfl, cut_to, ← List.map_take, List.take_of_length_le hn]
    have g1 : Gr T H (upd H s0 (.lst (ns.map V.int))) := Gr.new n0
    have e1 : SqL K (upd H s0 (.lst (ns.map V.int))) s0 (ns.map V.int) := sq upd_same
    generalize upd H s0 (.lst (ns.map V.int)) = H1 at *
    -- kind
    refine ⟨_, rfl, s0, ns, 0, rfl, e1, fun z hz => ⟨z, 6, 7, rfl, by decide, by decide, fun kd H2 d0 d1 g12 => ?_⟩⟩
    have g2 := g1.trans g12
    have e2 := g12.sq e1
    -- most
    refine ⟨show 4 ≤ sizeLine by decide, fun t nt => ?_⟩
    have g2t : Gr T H2 (upd H2 t (.tup [V.int 3, V.int 9, V.int 60, V.int 400000])) := Gr.new nt
    have et : (upd H2 t (.tup [V.int 3, V.int 9, V.int 60, V.int 400000])) t = some (.tup (mosts.map V.int)) := upd_same
    generalize upd H2 t (.tup [V.int 3, V.int 9, V.int 60, V.int 400000]) = H3 at *
    refine ⟨_, rfl, s0, ns, 1, rfl, g2t.sq e2, fun z hz => ⟨z, 7, 4, rfl, by decide, by decide, fun d H4 d0' d1' g34 => ?_⟩⟩
    obtain ⟨d, rfl⟩ := Int.eq_ofNat_of_zero_le d0'
    obtain ⟨mo, em, m0, m1⟩ := mosts_at (d := d) (by omega)
    refine ⟨t, mosts.map V.int, (d : Int), .int mo, rfl, rfl, stp (g34.t et), atI_nat (by rw [List.getElem?_map, em]; rfl), ?_⟩
    have g4 := (g2.trans g2t).trans g34
    have e4 := g34.sq (g2t.sq e2)
    -- numbers
    refine ⟨_, rfl, s0, _, rfl, e4, lc_enumP (T := T) (i := 8) (j := 9) (by decide) (fun _ v => ∃ z, v = .int z ∧ intBits z ≤ 500) e4 (by rw [List.length_map]; omega) (fun k x H1 hx g Q' q' => ?_) fun nu H5 zs nnu g45 enu lz oz => ?_⟩
    · rw [List.getElem?_map] at hx
      cases ex : ns[k]? with
      | none => rw [ex] at hx; cases hx
      | some c =>
      rw [ex] at hx
      cases hx
      have hk := (List.getElem?_eq_some_iff.mp ex).1
      exact ⟨_, rfl, _, rfl, _, rfl, c, k, mo, rfl, hb c (List.mem_of_getElem? ex), by omega, m0, m1, fun z H2 bz g => q' _ _ ⟨z, rfl, bz⟩ g⟩
    obtain ⟨N, rfl, bN⟩ := ints_of (Pi := fun z => intBits z ≤ 500) (zs := zs) fun v hv => by
      obtain ⟨j, hj⟩ := List.mem_iff_getElem?.mp hv
      exact oz j v hj
    have bN : Bits 500 N := bN
    have lN : N.length ≤ 63 := by rw [List.length_map, List.length_map] at lz; omega
    have g5 := g4.trans g45
    have e5 := g45.sq e4
    clear lz oz
    -- half
    refine ⟨_, rfl, nu, _, rfl, .inl (sq enu), N.length, 2, by rw [List.length_map], rfl, ⟨by decide, show Nat.log2 2 < 9000 by decide⟩, ?_⟩
    have fin : ∀ p x y xs ys H', H5 p = Option.none → H5 x = Option.none → H5 y = Option.none → Gr T H5 H' → H' p = some (.tup [.ref x, .ref y]) → H' x = some (.lst (xs.map V.int)) → H' y = some (.lst (ys.map V.int)) → xs.length ≤ 63 → ys.length ≤ 63 → Bits 600 xs → Bits 600 ys → Q (.ref p) H' :=
      fun p x y xs ys H' n1 n2 n3 g h1 h2 h3 h4 h5 h6 h7 => q p x y xs ys H' (g5.lost _ n1) (g5.lost _ n2) (g5.lost _ n3) (g5.trans g) h1 h2 h3 h4 h5 h6 h7
    refine ⟨_, rfl, kd, 2, rfl, rfl, _, rfl, ite2 (fun _ => ?_) (fun _ => ?_)⟩
    · refine ⟨_, rfl, rfl, _, rfl, ite2 (fun _ => ?_) (fun _ => ?_)⟩
      · refine ⟨_, rfl, _, rfl, ((N.length / 2 : Nat) : Int), rfl, nu, _, rfl, sq enu, fun x nx => ?_⟩
        rw [cut_to, ← List.map_take]
        have g6 : Gr T H5 (upd H5 x (.lst ((N.take (N.length / 2)).map V.int))) := Gr.new nx
        have ex : (upd H5 x (.lst ((N.take (N.length / 2)).map V.int))) x = _ := upd_same
        generalize upd H5 x (.lst ((N.take (N.length / 2)).map V.int)) = H6 at *
        refine ⟨_, rfl, _, rfl, ((N.length / 2 : Nat) : Int), rfl, _, rfl, 2, ((N.length / 2 : Nat) : Int), rfl, rfl, mul_small (a := 2) (by omega) (by omega), ((2 * (N.length / 2) : Nat) : Int), ?_, nu, _, rfl, sq (g6.l enu), fun y ny => ?_⟩
        · rw [Int.natCast_mul]; rfl
        rw [cut_mid, ← List.map_take, ← List.map_drop]
        have g7 := g6.trans (Gr.new (T := T) (o := .lst (((N.take (2 * (N.length / 2))).drop (N.length / 2)).map V.int)) ny)
        have ex7 := (Gr.new (T := T) (o := .lst (((N.take (2 * (N.length / 2))).drop (N.length / 2)).map V.int)) ny).l ex
        have ey : (upd H6 y (.lst (((N.take (2 * (N.length / 2))).drop (N.length / 2)).map V.int))) y = _ := upd_same
        generalize upd H6 y (.lst (((N.take (2 * (N.length / 2))).drop (N.length / 2)).map V.int)) = H7 at *
        refine ⟨show 2 ≤ sizeLine by decide, fun p np => ?_⟩
        have g8 := Gr.new (T := T) (o := .tup [.ref x, .ref y]) np
        refine fin p x y _ _ _ (g7.lost _ np) nx (g6.lost _ ny) (g7.trans g8) upd_same (g8.l ex7) (g8.l ey) (by rw [List.length_take]; omega) (by rw [List.length_drop, List.length_take]; omega) (fun z hz => Nat.le_trans (bN z (List.mem_of_mem_take hz)) (by decide)) (fun z hz => Nat.le_trans (bN z (List.mem_of_mem_take (List.mem_of_mem_drop hz))) (by decide))
      · refine ⟨_, rfl, nu, _, rfl, sq enu, fun x xs sx lx nx => ?_⟩
        obtain ⟨ns1, rfl, b1⟩ := ints_of (Pi := fun z => intBits z ≤ 600) (zs := xs) fun v hv => by
          obtain ⟨z, hz, rfl⟩ := List.mem_map.mp (sx v hv)
          exact ⟨z, rfl, Nat.le_trans (bN z hz) (by decide)⟩
        rw [List.length_map, List.length_map] at lx
        have g6 : Gr T H5 (upd H5 x (.lst (ns1.map V.int))) := Gr.new nx
        have ex : (upd H5 x (.lst (ns1.map V.int))) x = _ := upd_same
        generalize upd H5 x (.lst (ns1.map V.int)) = H6 at *
        refine ⟨_, rfl, nu, _, rfl, sq (g6.l enu), fun y ys sy ly ny => ?_⟩
        obtain ⟨ns2, rfl, b2⟩ := ints_of (Pi := fun z => intBits z ≤ 600) (zs := ys) fun v hv => by
          obtain ⟨z, hz, rfl⟩ := List.mem_map.mp (sy v hv)
          exact ⟨z, rfl, Nat.le_trans (bN z hz) (by decide)⟩
        rw [List.length_map, List.length_map] at ly
        have g67 := Gr.new (T := T) (o := .lst (ns2.map V.int)) ny
        have ey : (upd H6 y (.lst (ns2.map V.int))) y = _ := upd_same
        generalize upd H6 y (.lst (ns2.map V.int)) = H7 at *
        refine ⟨show 2 ≤ sizeLine by decide, fun p np => ?_⟩
        have g8 := Gr.new (T := T) (o := .tup [.ref x, .ref y]) np
        exact fin p x y _ _ _ ((g6.trans g67).lost _ np) nx (g6.lost _ ny) ((g6.trans g67).trans g8) upd_same (g8.l (g67.l ex)) (g8.l ey) (by omega) (by omega) b1 b2
    refine ⟨_, rfl, rfl, _, rfl, ite2 (fun _ => ?_) (fun _ => ?_)⟩
    · -- the one turned about
      refine ⟨_, rfl, nu, _, rfl, sq enu, fun o no => ?_⟩
      rw [← List.map_reverse]
      have g6 : Gr T H5 (upd H5 o (.lst (N.reverse.map V.int))) := Gr.new no
      have eo : (upd H5 o (.lst (N.reverse.map V.int))) o = _ := upd_same
      generalize upd H5 o (.lst (N.reverse.map V.int)) = H6 at *
      refine ⟨fun σ' H' => σ' = [some (.ref s0), some (.int kd), some (.int mo), some (.ref nu), some (.int ((N.length / 2 : Nat) : Int)), some (.ref o), Option.none, Option.none, Option.none, Option.none] ∧ Gr T H5 H' ∧ ∃ ms : List Int, H' o = some (.lst (ms.map V.int)) ∧ ms.length ≤ 63 ∧ Bits 600 ms, ?_, fun σ' H7 hmid => ?_⟩
      · refine ⟨_, rfl, Nat.zero_le _, fun u nu' => ?_⟩
        have g67 : Gr T H6 (upd H6 u (.lst [])) := Gr.new nu'
        have eu : (upd H6 u (.lst [])) u = some (.lst []) := upd_same
        generalize upd H6 u (.lst []) = H7 at *
        have g57 := g6.trans g67
        refine ⟨dI N.reverse, dI [], dp_l (sq (g67.l eo)), dp_l (l := []) (sq eu), sh_dI _, sh_dI _, _, rfl, ?_⟩
        rw [eqv_dI]
        have stay : ∀ J, Gr T H7 J → ∃ ms : List Int, J o = some (.lst (ms.map V.int)) ∧ ms.length ≤ 63 ∧ Bits 600 ms := fun J g => ⟨N.reverse, g.l (g67.l eo), by rw [List.length_reverse]; exact lN, fun z hz => Nat.le_trans (bN z (List.mem_reverse.mp hz)) (by decide)⟩
        refine ite2 (fun hne => ?_) (fun _ => ⟨rfl, g57, stay H7 (Gr.refl _)⟩)
        have pos : 0 < N.length := by
          cases N with
          | nil => simp at hne
          | cons z l => exact Nat.succ_pos _
        refine ⟨_, rfl, s0, ns, 2, rfl, g57.sq e5, fun z hz => ⟨z, 8, 2, rfl, by decide, by decide, fun d H8 _ _ g78 => ⟨rfl, _, rfl, ite2 (fun _ => ?_) (fun _ => ⟨rfl, g57.trans g78, stay H8 g78⟩)⟩⟩⟩
        have eo8 := g78.l (g67.l eo)
        have hl : N.length / 2 < N.reverse.length := by rw [List.length_reverse]; omega
        have eh : N.reverse[N.length / 2]? = some N.reverse[N.length / 2] := List.getElem?_eq_getElem hl
        have bh := bN _ (List.mem_reverse.mp (List.getElem_mem hl))
        generalize N.reverse[N.length / 2] = y at eh bh
        refine ⟨_, rfl, _, rfl, o, _, ((N.length / 2 : Nat) : Int), .int y, rfl, rfl, sq eo8, atI_nat (by rw [List.getElem?_map, eh]; rfl), ?_⟩
        refine ⟨y, 1, rfl, rfl, _, rfl, ((N.length / 2 : Nat) : Int), 2, rfl, rfl, (show (0 : Int) < 2 by decide), 2, ((N.length / 2 % 2 : Nat) : Int), rfl, rfl, mul_small (a := 2) (by omega) (by omega), _, _, rfl, rfl, ?_⟩
        refine ⟨_, rfl, _, rfl, o, _, ((N.length / 2 : Nat) : Int), N.length / 2, rfl, rfl, eo8, ?_, ?_⟩
        · rw [List.length_map]
          unfold ixN
          rw [if_pos (Int.natCast_nonneg _), if_pos (by omega), Int.toNat_natCast]
        refine ⟨rfl, (g57.trans g78).mut no eo8 trivial, N.reverse.set (N.length / 2) (y + 1 - 2 * ((N.length / 2 % 2 : Nat) : Int)), by rw [upd_same, List.map_set], by rw [List.length_set, List.length_reverse]; exact lN, fun v hv => ?_⟩
        rcases List.mem_or_eq_of_mem_set hv with hv | rfl
        · exact Nat.le_trans (bN v (List.mem_reverse.mp hv)) (by decide)
        · have h1 := PySem.intBits_add_le bh (PySem.intBits_le_64 (k := 1) (by decide) (by decide))
          have h2 := PySem.intBits_sub_le h1 (PySem.intBits_le_64 (k := 2 * ((N.length / 2 % 2 : Nat) : Int)) (by omega) (by omega))
          exact Nat.le_trans h2 (by decide)
      obtain ⟨rfl, g7, ms, eo7, lm, bm⟩ := hmid
      refine ⟨_, rfl, _, rfl, show 2 ≤ sizeLine by decide, fun p np => ?_⟩
      have g8 := Gr.new (T := T) (o := .tup [.ref nu, .ref o]) np
      have g57 := g5.trans g7
      exact q p nu o N ms _ (g57.lost _ np) (g4.lost _ nnu) (g5.lost _ no) (g57.trans g8) upd_same (g8.l (g7.l enu)) (g8.l eo7) lN lm (bN.mono (by decide)) bm
    -- made by shifts
    have one_of : ∀ (l : List Int) (k : Nat), k < l.length → Bits 500 l → ∃ z, l[k]? = some z ∧ intBits z ≤ 500 := fun l k hk hl => ⟨l[k], List.getElem?_eq_getElem hk, hl _ (List.getElem_mem hk)⟩
    have few : ∀ l : List Int, (∀ z ∈ l, z = 0 ∨ z = 1) → Bits 500 l := fun l h z hz => by
      rcases h z hz with e | e <;> rw [e] <;> decide
    refine ⟨_, rfl, show 1 ≤ sizeLine by decide, fun u1 n1 => ?_⟩
    have g6 : Gr T H5 (upd H5 u1 (.lst [.int 0])) := Gr.new n1
    have eu1 : (upd H5 u1 (.lst [.int 0])) u1 = some (.lst (([0] : List Int).map V.int)) := upd_same
    generalize upd H5 u1 (.lst [.int 0]) = H6 at *
    refine ⟨nu, u1, _, _, rfl, rfl, g6.l enu, eu1, by rw [List.length_map]; exact szl (show N.length + 1 ≤ 100000 by omega), fun c1 nc1 => ?_⟩
    rw [← List.map_append]
    have g7 := g6.trans (Gr.new (T := T) (o := .lst ((N ++ [0]).map V.int)) nc1)
    have ec1 : (upd H6 c1 (.lst ((N ++ [0]).map V.int))) c1 = _ := upd_same
    generalize upd H6 c1 (.lst ((N ++ [0]).map V.int)) = H7 at *
    obtain ⟨z1, ez1, bz1⟩ := one_of (N ++ [0]) 0 (by rw [List.length_append]; exact Nat.succ_pos _) (bN.append (few _ (by simp)))
    refine ⟨c1, _, 0, .int z1, rfl, rfl, sq ec1, atI_nat (j := 0) (by rw [List.getElem?_map, ez1]; rfl), show 1 ≤ sizeLine by decide, fun x0 nx0 => ?_⟩
    have g8 := g7.trans (Gr.new (T := T) (o := .lst [.int z1]) nx0)
    have ex0 : (upd H7 x0 (.lst [.int z1])) x0 = some (.lst (([z1] : List Int).map V.int)) := upd_same
    generalize upd H7 x0 (.lst [.int z1]) = H8 at *
    refine ⟨_, rfl, show 2 ≤ sizeLine by decide, fun u2 n2 => ?_⟩
    have g9 := g8.trans (Gr.new (T := T) (o := .lst [.int 0, .int 1]) n2)
    have eu2 : (upd H8 u2 (.lst [.int 0, .int 1])) u2 = some (.lst (([0, 1] : List Int).map V.int)) := upd_same
    have ex9 := (Gr.new (T := T) (o := .lst [.int 0, .int 1]) n2).l ex0
    generalize upd H8 u2 (.lst [.int 0, .int 1]) = H9 at *
    refine ⟨nu, u2, _, _, rfl, rfl, g9.l enu, eu2, by rw [List.length_map]; exact szl (show N.length + 2 ≤ 100000 by omega), fun c2 nc2 => ?_⟩
    rw [← List.map_append]
    have g10 := g9.trans (Gr.new (T := T) (o := .lst ((N ++ [0, 1]).map V.int)) nc2)
    have ec2 : (upd H9 c2 (.lst ((N ++ [0, 1]).map V.int))) c2 = _ := upd_same
    have ex10 := (Gr.new (T := T) (o := .lst ((N ++ [0, 1]).map V.int)) nc2).l ex9
    generalize upd H9 c2 (.lst ((N ++ [0, 1]).map V.int)) = H10 at *
    obtain ⟨z2, ez2, bz2⟩ := one_of (N ++ [0, 1]) 1 (by rw [List.length_append]; show 1 < N.length + 2; omega) (bN.append (few _ (by simp)))
    refine ⟨c2, _, 1, .int z2, rfl, rfl, sq ec2, atI_nat (j := 1) (by rw [List.getElem?_map, ez2]; rfl), show 1 ≤ sizeLine by decide, fun y0 ny0 => ?_⟩
    have g11 := g10.trans (Gr.new (T := T) (o := .lst [.int z2]) ny0)
    have ey0 : (upd H10 y0 (.lst [.int z2])) y0 = some (.lst (([z2] : List Int).map V.int)) := upd_same
    have ex11 := (Gr.new (T := T) (o := .lst [.int z2]) ny0).l ex10
    have xy0 : x0 ≠ y0 := ne_of_none ex10 ny0
    have fx0 : H5 x0 = Option.none := g7.lost _ nx0
    have fy0 : H5 y0 = Option.none := g10.lost _ ny0
    generalize upd H10 y0 (.lst [.int z2]) = H11 at *
    -- the shifts
    refine ⟨_, _, rfl, _, rfl, 2, rfl, 6, rfl, nu, _, rfl, sq (g11.l enu), fun qq nq => ?_⟩
    rw [show (some (2 : Int)) = some (((2 : Nat)) : Int) from rfl, show (some (6 : Int)) = some (((6 : Nat)) : Int) from rfl, cut_mid, ← List.map_take, ← List.map_drop]
    have g12 := g11.trans (Gr.new (T := T) (o := .lst (((N.take 6).drop 2).map V.int)) nq)
    have eq : (upd H11 qq (.lst (((N.take 6).drop 2).map V.int))) qq = _ := upd_same
    have ex12 := (Gr.new (T := T) (o := .lst (((N.take 6).drop 2).map V.int)) nq).l ex11
    have ey12 := (Gr.new (T := T) (o := .lst (((N.take 6).drop 2).map V.int)) nq).l ey0
    generalize upd H11 qq (.lst (((N.take 6).drop 2).map V.int)) = H12 at *
    have l4 : ((N.take 6).drop 2).length ≤ 4 := by rw [List.length_drop, List.length_take]; omega
    refine ⟨qq, rfl, ⟨_, sq eq⟩, for_list (K := K) (a := qq) (xs := ((N.take 6).drop 2).map V.int) (fun j σ' H' => ∃ x y y7 ns' ms', σ' = [some (.ref s0), some (.int kd), some (.int mo), some (.ref nu), some (.int ((N.length / 2 : Nat) : Int)), some (.ref y), some (.ref x), y7, Option.none, Option.none] ∧ Gr T H12 H' ∧ x ≠ y ∧ H5 x = Option.none ∧ H5 y = Option.none ∧ H' x = some (.lst (ns'.map V.int)) ∧ H' y = some (.lst (ms'.map V.int)) ∧ 0 < ns'.length ∧ ns'.length ≤ 2 ^ j ∧ ms'.length ≤ 2 ^ j ∧ Bits (500 + j) ns' ∧ Bits (500 + j) ms')
      ⟨x0, y0, _, [z1], [z2], rfl, Gr.refl _, xy0, fx0, fy0, ex12, ey12, Nat.one_pos, Nat.le_refl _, Nat.le_refl _, fun z hz => by rw [List.mem_singleton.mp hz]; exact bz1, fun z hz => by rw [List.mem_singleton.mp hz]; exact bz2⟩ (fun j σ' H' _ hW => ?_) (fun j v σ' H' hx hW => ?_) fun σ' H' hW => ?_⟩
    · obtain ⟨_, _, _, _, _, _, g, _⟩ := hW
      exact sq (g.l eq)
    · obtain ⟨x, y, y7, ns', ms', rfl, g, hxy, fx, fy, ex, ey, l0, l1, l2, b1, b2⟩ := hW
      have hj := (List.getElem?_eq_some_iff.mp hx).1
      rw [List.length_map] at hj
      obtain ⟨sh, hs, rfl⟩ := int_at hx
      have bs : intBits sh ≤ 500 := bN sh (List.mem_of_mem_take (List.mem_of_mem_drop (List.mem_of_getElem? hs)))
      have p2 : 2 ^ j ≤ 2 ^ 4 := Nat.pow_le_pow_right (by decide) (by omega)
      have p2 : 2 ^ j ≤ 16 := p2
      refine ⟨_, rfl, _, rfl, tIf_ev (fun v H8 => ∃ z, v = .int z ∧ intBits z ≤ 500 ∧ H' = H8) (fun Q q => ⟨_, rfl, rfl, _, rfl, q _⟩) (fun Q q => ⟨_, rfl, q _ _ ⟨sh, rfl, bs, rfl⟩⟩) (fun Q q => q _ _ ⟨1, rfl, by decide, rfl⟩) fun v H8 hP => ?_⟩
      obtain ⟨z, rfl, bz, rfl⟩ := hP
      refine ⟨x, y, ns', ms', z, rfl, ex, ey, by omega, by omega, fun p x' y' H9 np nx ny xy g9 ep ex' ey' => ?_⟩
      refine ⟨p, _, rfl, stp ep, rfl, _, _, rfl, _, _, rfl, rfl, ?_⟩
      have gg := g12.trans g
      have up : ∀ {k l : List Int}, Bits (500 + j) k → Bits (500 + j) l → Bits (500 + (j + 1)) (k ++ l.map (· + z)) := fun hk hl => (hk.mono (by omega)).append fun v hv => by
        obtain ⟨u, hu, rfl⟩ := List.mem_map.mp hv
        exact Nat.le_trans (PySem.intBits_add_le (hl u hu) bz) (by omega)
      exact ⟨x', y', _, _, _, rfl, g.trans g9, xy, gg.lost _ nx, gg.lost _ ny, ex', ey', by rw [List.length_append]; omega, by rw [List.length_append, List.length_map, Nat.pow_succ]; omega, by rw [List.length_append, List.length_map, Nat.pow_succ]; omega, up b1 b2, up b2 b1⟩
    obtain ⟨x, y, y7, ns', ms', rfl, g, hxy, fx, fy, ex, ey, l0, l1, l2, b1, b2⟩ := hW
    rw [List.length_map] at l1 l2 b1 b2
    have p2 : 2 ^ ((N.take 6).drop 2).length ≤ 16 := (show 2 ^ ((N.take 6).drop 2).length ≤ 2 ^ 4 from Nat.pow_le_pow_right (by decide) l4)
    have g13 := g12.trans g
    have b1 : Bits 504 ns' := b1.mono (by omega)
    have b2 : Bits 504 ms' := b2.mono (by omega)
    -- kind 5
    refine ⟨fun σ' J => ∃ x y ns' ms', σ' = [some (.ref s0), some (.int kd), some (.int mo), some (.ref nu), some (.int ((N.length / 2 : Nat) : Int)), some (.ref y), some (.ref x), y7, Option.none, Option.none] ∧ Gr T H5 J ∧ x ≠ y ∧ H5 x = Option.none ∧ H5 y = Option.none ∧ J x = some (.lst (ns'.map V.int)) ∧ J y = some (.lst (ms'.map V.int)) ∧ 0 < ns'.length ∧ ns'.length ≤ 22 ∧ ms'.length ≤ 22 ∧ Bits 504 ns' ∧ Bits 504 ms', ?_, fun σ' J hmid => ?_⟩
    · refine ⟨_, rfl, rfl, _, rfl, ite2 (fun _ => ?_) (fun _ => ⟨x, y, ns', ms', rfl, g13, hxy, fx, fy, ex, ey, l0, by omega, by omega, b1, b2⟩)⟩
      have b7 : Bits 504 ((N.take 12).drop 6) := fun z hz => Nat.le_trans (bN z (List.mem_of_mem_take (List.mem_of_mem_drop hz))) (by decide)
      have l7 : ((N.take 12).drop 6).length ≤ 6 := by rw [List.length_drop, List.length_take]; omega
      refine ⟨_, rfl, 6, rfl, 12, rfl, nu, _, rfl, sq (g13.l enu), fun a1 na1 => ?_⟩
      rw [show (some (6 : Int)) = some (((6 : Nat)) : Int) from rfl, show (some (12 : Int)) = some (((12 : Nat)) : Int) from rfl, cut_mid, ← List.map_take, ← List.map_drop]
      generalize (N.take 12).drop 6 = M at b7 l7 ⊢
      have g14 := Gr.new (T := T) (o := .lst (M.map V.int)) na1
      have e14 : (upd H' a1 (.lst (M.map V.int))) a1 = _ := upd_same
      generalize upd H' a1 (.lst (M.map V.int)) = J1 at *
      refine ⟨_, rfl, a1, x, _, _, rfl, rfl, e14, g14.l ex, by rw [List.length_map, List.length_map]; exact szl (by omega), fun x1 nx1 => ?_⟩
      rw [← List.map_append]
      have g15 := g14.trans (Gr.new (T := T) (o := .lst ((M ++ ns').map V.int)) nx1)
      have e15 : (upd J1 x1 (.lst ((M ++ ns').map V.int))) x1 = _ := upd_same
      generalize upd J1 x1 (.lst ((M ++ ns').map V.int)) = J2 at *
      refine ⟨_, rfl, _, rfl, 6, rfl, 12, rfl, nu, _, rfl, sq (g15.l (g13.l enu)), fun a2 na2 => ?_⟩
      have g16 := g15.trans (Gr.new (T := T) (o := .lst (cutV (N.map V.int) (some 6) (some 12))) na2)
      have e16 := (Gr.new (T := T) (o := .lst (cutV (N.map V.int) (some 6) (some 12))) na2).l e15
      have ea2 : (upd J2 a2 (.lst (cutV (N.map V.int) (some 6) (some 12)))) a2 = _ := upd_same
      generalize upd J2 a2 (.lst (cutV (N.map V.int) (some 6) (some 12))) = J3 at *
      rw [show (some (6 : Int)) = some (((6 : Nat)) : Int) from rfl, show (some (12 : Int)) = some (((12 : Nat)) : Int) from rfl, cut_mid, ← List.map_take, ← List.map_drop] at ea2
      have b8 : Bits 504 ((N.take 12).drop 6) := fun z hz => Nat.le_trans (bN z (List.mem_of_mem_take (List.mem_of_mem_drop hz))) (by decide)
      have l8 : ((N.take 12).drop 6).length ≤ 6 := by rw [List.length_drop, List.length_take]; omega
      generalize (N.take 12).drop 6 = M2 at b8 l8 ea2
      refine ⟨a2, _, rfl, sq ea2, fun a3 na3 => ?_⟩
      rw [← List.map_reverse]
      have g17 := g16.trans (Gr.new (T := T) (o := .lst (M2.reverse.map V.int)) na3)
      have e17 := (Gr.new (T := T) (o := .lst (M2.reverse.map V.int)) na3).l e16
      have ea3 : (upd J3 a3 (.lst (M2.reverse.map V.int))) a3 = _ := upd_same
      generalize upd J3 a3 (.lst (M2.reverse.map V.int)) = J4 at *
      refine ⟨y, a3, _, _, rfl, rfl, g17.l ey, ea3, by rw [List.length_map, List.length_map, List.length_reverse]; exact szl (by omega), fun y1 ny1 => ?_⟩
      rw [← List.map_append]
      have g18 := Gr.new (T := T) (o := .lst ((ms' ++ M2.reverse).map V.int)) ny1
      exact ⟨_, _, rfl, x1, y1, M ++ ns', ms' ++ M2.reverse, rfl, (g13.trans g17).trans g18, ne_of_none e17 ny1, (g13.trans g14).lost _ nx1, (g13.trans g17).lost _ ny1, g18.l e17, upd_same, by rw [List.length_append]; omega, by rw [List.length_append]; omega, by rw [List.length_append, List.length_reverse]; omega, b7.append b1, b2.append fun z hz => b8 z (List.mem_reverse.mp hz)⟩
    clear ex ey b1 b2 l0 fx fy g13 g hxy
    obtain ⟨x, y, ns', ms', rfl, g13, hxy, fx, fy, ex, ey, l0, l1, l2, b1, b2⟩ := hmid
    refine ⟨fun σ' J' => σ' = [some (.ref s0), some (.int kd), some (.int mo), some (.ref nu), some (.int ((N.length / 2 : Nat) : Int)), some (.ref y), some (.ref x), y7, Option.none, Option.none] ∧ ∃ ns'', Gr T H5 J' ∧ J' x = some (.lst (ns''.map V.int)) ∧ J' y = some (.lst (ms'.map V.int)) ∧ ns''.length ≤ 22 ∧ Bits 600 ns'', ?_, fun σ' J' hmid => ?_⟩
    · refine ⟨_, rfl, rfl, _, rfl, ite2 (fun _ => ?_) (fun _ => ⟨rfl, ns', g13, ex, ey, l1, b1.mono (by decide)⟩)⟩
      have hl : ns'.length / 2 < ns'.length := by omega
      have eh : ns'[ns'.length / 2]? = some ns'[ns'.length / 2] := List.getElem?_eq_getElem hl
      have bh := b1 _ (List.getElem_mem hl)
      generalize ns'[ns'.length / 2] = u at eh bh
      have cd : CDivW ((ns'.length : Nat) : Int) 2 := ⟨by decide, show Nat.log2 2 < 9000 by decide⟩
      refine ⟨_, rfl, _, rfl, x, _, rfl, .inl (sq ex), ns'.length, 2, by rw [List.length_map], rfl, cd, x, _, ((ns'.length / 2 : Nat) : Int), .int u, rfl, rfl, sq ex, atI_nat (by rw [List.getElem?_map, eh]; rfl), ?_⟩
      refine ⟨_, rfl, show 1 ≤ sizeLine by decide, fun u1 n1 => ?_⟩
      have g14 := Gr.new (T := T) (o := .lst [.int 1]) n1
      have e14 : (upd J u1 (.lst [.int 1])) u1 = _ := upd_same
      generalize upd J u1 (.lst [.int 1]) = J1 at *
      refine ⟨u1, 7, [.int 1], rfl, rfl, e14, by decide, by decide, show 7 ≤ sizeLine by decide, fun r nr => ?_⟩
      have g15 := g14.trans (Gr.new (T := T) (o := .lst (List.replicate (7 : Int).toNat [V.int 1]).flatten) nr)
      have e15 : (upd J1 r (.lst (List.replicate (7 : Int).toNat [V.int 1]).flatten)) r = some (.lst (([1, 1, 1, 1, 1, 1, 1] : List Int).map V.int)) := upd_same
      generalize upd J1 r (.lst (List.replicate (7 : Int).toNat [V.int 1]).flatten) = J2 at *
      refine ⟨nu, r, _, _, rfl, rfl, g15.l (g13.l enu), e15, by rw [List.length_map]; exact szl (show N.length + 7 ≤ 100000 by omega), fun c nc => ?_⟩
      rw [← List.map_append]
      have g16 := g15.trans (Gr.new (T := T) (o := .lst ((N ++ [1, 1, 1, 1, 1, 1, 1]).map V.int)) nc)
      have e16 : (upd J2 c (.lst ((N ++ [1, 1, 1, 1, 1, 1, 1]).map V.int))) c = _ := upd_same
      generalize upd J2 c (.lst ((N ++ [1, 1, 1, 1, 1, 1, 1]).map V.int)) = J3 at *
      obtain ⟨v, ev, bv⟩ := one_of (N ++ [1, 1, 1, 1, 1, 1, 1]) 6 (by rw [List.length_append]; show 6 < N.length + 7; omega) (bN.append (few _ (by simp)))
      refine ⟨c, _, 6, .int v, rfl, rfl, sq e16, atI_nat (j := 6) (by rw [List.getElem?_map, ev]; rfl), u, v, rfl, rfl, ?_⟩
      refine ⟨_, rfl, _, rfl, x, _, rfl, .inl (sq (g16.l ex)), ns'.length, 2, by rw [List.length_map], rfl, cd, x, _, ((ns'.length / 2 : Nat) : Int), ns'.length / 2, rfl, rfl, g16.l ex, ?_, ?_⟩
      · rw [List.length_map]
        unfold ixN
        rw [if_pos (Int.natCast_nonneg _), if_pos (by omega), Int.toNat_natCast]
      refine ⟨rfl, ns'.set (ns'.length / 2) (u + v), (g13.trans g16).mut fx (g16.l ex) trivial, by rw [upd_same, List.map_set], ?_, by rw [List.length_set]; exact l1, fun z hz => ?_⟩
      · rw [upd_ne (Ne.symm hxy)]; exact g16.l ey
      · rcases List.mem_or_eq_of_mem_set hz with hz | rfl
        · exact Nat.le_trans (b1 z hz) (by decide)
        · exact Nat.le_trans (PySem.intBits_add_le bh bv) (by decide)
    obtain ⟨rfl, ns'', g14, ex, ey, l1, b1⟩ := hmid
    refine ⟨_, rfl, _, rfl, show 2 ≤ sizeLine by decide, fun p np => ?_⟩
    have g15 := Gr.new (T := T) (o := .tup [.ref x, .ref y]) np
    exact fin p x y ns'' ms' _ (g14.lost _ np) fx fy (g14.trans g15) upd_same (g15.l ex) (g15.l ey) (by omega) (by omega) b1 (b2.mono (by decide))
end
end Wk
/-! ### what is due, reckoned by the law -/
namespace Wk
open PySem PySem.Spec PyProof.Rows L2 Kx Ep
open PySem.Builtin.Int (intBits)
section
variable {P : Program} {w : World} {K : PySem.W.Frag} {mg : Str → Option Value} {base : Heap} {f : Addr} {fd : FuncData} {T : Tb}
/-- d tells the first power by which ns and ms are unlike, and by how much; nothing if they are the same -/
def Tells (H : Hp) (d : V) (ns ms : List Int) : Prop := (ns.Perm ms → d = .non) ∧ (¬ ns.Perm ms → ∃ (q : Addr) (k : Nat), d = .ref q ∧ First ns ms k ∧ H q = some (.tup [.int k, .int (psum ns k - psum ms k)]))
theorem Tells.grow {H H' : Hp} {d : V} {ns ms : List Int} (h : Tells H d ns ms) (g : Gr T H H') : Tells H' d ns ms :=
  ⟨h.1, fun n => let ⟨q, k, e1, e2, e3⟩ := h.2 n; ⟨q, k, e1, e2, g.t e3⟩⟩
def spFirst (T : Tb) (K : PySem.W.Frag) : Sp := fun vs H Q _ => ∃ (a b : Addr) (ns ms : List Int), vs = [.ref a, .ref b] ∧ SqL K H a (ns.map V.int) ∧ SqL K H b (ms.map V.int) ∧ ns.length ≤ 1000 ∧ ms.length ≤ 1000 ∧ Bits 100000 ns ∧ Bits 100000 ms ∧
  ∀ v H', Gr T H H' → Tells H' v ns ms → Q v H'
theorem ones_pows {ns : List Int} : (ns.map V.int).map (fun _ => V.int 1) = (pows ns 0).map V.int := by
  rw [pows_zero, List.map_map, List.map_replicate]
  exact List.map_const' ..
def mulV : V → V → V
  | .int i, .int j => .int (i * j)
  | _, _ => .non
theorem zip_mulV (l m : List Int) : List.zipWith mulV (l.map V.int) (m.map V.int) = (List.zipWith (· * ·) l m).map V.int := by
  rw [List.zipWith_map, List.map_zipWith]; rfl
theorem sc__law_first : FnScope N__law_first ["_law_one", "_law_other"] (C8.fnScope s__law_first) := C8.fnScope_by (by decide +kernel)
theorem ok_law_first (B : Bt mg) (F : C8.Def K mg "_law_first" s__law_first f fd) (b : Binds K fd ["_law_one", "_law_other"] []) : C8.Cal P w K mg base 1 "_law_first" (spFirst T K) [] := by
  refine C8.cal0 F b .nil sc__law_first (fun vs H Q E h => ?_) (fun cdv A outer s H vs Q E hr h => ?_)
  · obtain ⟨a, b, ns, ms, rfl, _⟩ := h
    rfl
  · obtain ⟨a, b, ns, ms, rfl, hA, hB, hn, hm, bn, bm, q0⟩ := h
    have q1 : ns.Perm ms → ∀ H', Gr T H H' → Q .non H' := fun hp H' g => q0 _ H' g ⟨fun _ => rfl, fun n => absurd hp n⟩
    have q2 : ¬ ns.Perm ms → ∀ k p H', First ns ms k → H p = Option.none → Gr T H H' → H' p = some (.tup [.int (k : Nat), .int (psum ns k - psum ms k)]) → Q (.ref p) H' := fun hp k p H' hk _ g e => q0 _ H' g ⟨fun h => absurd h hp, fun _ => ⟨p, k, rfl, hk, e⟩⟩
    refine ⟨_, (pss_cons (ps_if (pt_cmpR (op_eqD hr.units) (pe_callB cr_sortedI (by rfl) B.sorted (by decide +kernel) (pa_cons (pv 0) pa_nil)) (pe_callB cr_sortedI (by rfl) B.sorted (by decide +kernel) (pa_cons (pv 1) pa_nil)) (nomark _))
(pss_one (ps_ret pe_non))
pss_nil)
(pss_cons (ps_par3 (i := 2) (j := 3) (l := 4) rfl sc__law_first.nd rfl rfl rfl (by decide) (by decide) (by decide) rfl rfl rfl (pa_cons (pe_lc (own := [("_law_number", 5)]) (g := gName 5) (tt := tYes) rfl sc__law_first.nd (pi_list (pv 0)) (blkOk_by (own := [("_law_number", 5)]) (N := N__law_first) (sc := C8.fnScope s__law_first) (by decide +kernel)) (fun _ _ _ _ _ => (pg_name (i := 5) sc__law_first.nd rfl (Or.inl rfl))) (fun _ _ _ _ _ => pts_nil) (fun _ _ _ _ _ => pe_int)) (pa_cons (pe_lc (own := [("_law_number", 5)]) (g := gName 5) (tt := tYes) rfl sc__law_first.nd (pi_list (pv 1)) (blkOk_by (own := [("_law_number", 5)]) (N := N__law_first) (sc := C8.fnScope s__law_first) (by decide +kernel)) (fun _ _ _ _ _ => (pg_name (i := 5) sc__law_first.nd rfl (Or.inl rfl))) (fun _ _ _ _ _ => pts_nil) (fun _ _ _ _ _ => pe_int)) (pa_cons pe_int pa_nil))) (by rfl))
(pss_cons (ps_while PassesOwn.never (pt_cmpR op_eq (pe_callB (cr_sum rfl) (by rfl) B.sum (by decide +kernel) (pa_cons (pv 2) pa_nil)) (pe_callB (cr_sum rfl) (by rfl) B.sum (by decide +kernel) (pa_cons (pv 3) pa_nil)) (nomark _))
(pss_cons (ps_setLc (i := 2) (own := [("_law_part", 6), ("_law_number", 5)]) (g := gTup K 2 (gCons (gName 6) (gCons (gName 5) gNil))) (tt := tYes) rfl sc__law_first.nd rfl rfl (sw_true rfl rfl rfl (by decide +kernel)) (pi_zip (by rfl) B.zip (pa_cons (pv 2) (pa_cons (pv 0) pa_nil))) (blkOk_by (own := [("_law_part", 6), ("_law_number", 5)]) (N := N__law_first) (sc := C8.fnScope s__law_first) (by decide +kernel)) (fun _ _ _ _ _ => (pg_tup rfl (pgs_cons (pg_name (i := 6) sc__law_first.nd rfl (Or.inl rfl)) (pgs_cons (pg_name (i := 5) sc__law_first.nd rfl (Or.inl rfl)) pgs_nil)))) (fun _ _ _ _ _ => pts_nil) (fun _ _ _ _ _ => (pe_op op_mulB (pv 6) (pv 5))))
(pss_cons (ps_setLc (i := 3) (own := [("_law_part", 6), ("_law_number", 5)]) (g := gTup K 2 (gCons (gName 6) (gCons (gName 5) gNil))) (tt := tYes) rfl sc__law_first.nd rfl rfl (sw_true rfl rfl rfl (by decide +kernel)) (pi_zip (by rfl) B.zip (pa_cons (pv 3) (pa_cons (pv 1) pa_nil))) (blkOk_by (own := [("_law_part", 6), ("_law_number", 5)]) (N := N__law_first) (sc := C8.fnScope s__law_first) (by decide +kernel)) (fun _ _ _ _ _ => (pg_tup rfl (pgs_cons (pg_name (i := 6) sc__law_first.nd rfl (Or.inl rfl)) (pgs_cons (pg_name (i := 5) sc__law_first.nd rfl (Or.inl rfl)) pgs_nil)))) (fun _ _ _ _ _ => pts_nil) (fun _ _ _ _ _ => (pe_op op_mulB (pv 6) (pv 5))))
(pss_one (ps_set (i := 4) sc__law_first.nd rfl (.inl rfl) (pe_op op_add (pv 4) pe_int))))))
(pss_one (ps_ret (pe_tup (pa_cons (pv 4) (pa_cons (pe_op op_sub (pe_callB (cr_sum rfl) (by rfl) B.sum (by decide +kernel) (pa_cons (pv 2) pa_nil)) (pe_callB (cr_sum rfl) (by rfl) B.sum (by decide +kernel) (pa_cons (pv 3) pa_nil))) pa_nil)))))))), ?_⟩
    refine ⟨_, rfl, a, ns, rfl, hA, fun s1 p1 pm1 r1 np1 => ?_⟩
    have g1 : Gr T H (upd H p1 (.lst (s1.map V.int))) := Gr.new np1
    have e1 : (upd H p1 (.lst (s1.map V.int))) p1 = _ := upd_same
    generalize upd H p1 (.lst (s1.map V.int)) = H1 at *
    refine ⟨_, rfl, b, ms, rfl, g1.sq hB, fun s2 p2 pm2 r2 np2 => ?_⟩
    have g12 := Gr.new (T := T) (o := .lst (s2.map V.int)) np2
    have e2 : (upd H1 p2 (.lst (s2.map V.int))) p2 = _ := upd_same
    generalize upd H1 p2 (.lst (s2.map V.int)) = H2 at *
    have g2 := g1.trans g12
    refine ⟨dI s1, dI s2, dp_l (sq (g12.l e1)), dp_l (sq e2), sh_dI _, sh_dI _, _, rfl, ?_⟩
    rw [eqv_dI]
    by_cases hp : ns.Perm ms
    · have es : s1 = s2 := List.Perm.eq_of_pairwise (fun x y _ _ a b => Int.le_antisymm a b) r1 r2 ((pm1.trans hp).trans pm2.symm)
      rw [decide_eq_true es]
      exact q1 hp H2 g2
    have q := q2 hp
    have es : s1 ≠ s2 := fun z => hp (pm1.symm.trans (z ▸ pm2))
    rw [decide_eq_false es]
    obtain ⟨k0, hM⟩ := first_exists hp
    have most := hM.most
    clear es r1 r2 pm1 pm2 e1 e2 q1 q2
    refine ⟨_, rfl, a, rfl, ⟨_, g2.sq hA⟩, lc_map (T := T) (i := 5) (fun _ => .int 1) (g2.sq hA) (by rw [List.length_map]; omega) (fun x H3 hx g Q' q' => q' _ (Gr.refl _)) fun c0 H3 nc0 g23 ec0 => ?_⟩
    rw [ones_pows] at ec0
    have g3 := g2.trans g23
    refine ⟨_, rfl, b, rfl, ⟨_, g3.sq hB⟩, lc_map (T := T) (i := 5) (fun _ => .int 1) (g3.sq hB) (by rw [List.length_map]; omega) (fun x H3 hx g Q' q' => q' _ (Gr.refl _)) fun d0 H4 nd0 g34 ed0 => ?_⟩
    rw [ones_pows] at ed0
    have g4 := g3.trans g34
    have ec0 := g34.l ec0
    refine ⟨_, _, _, rfl, ?_⟩
    -- the loop
    refine ⟨fun m σ H' => ∃ k c d y5 y6, k + m = k0 ∧ σ = [some (.ref a), some (.ref b), some (.ref c), some (.ref d), some (.int (k : Nat)), y5, y6] ∧ Gr T H4 H' ∧ H' c = some (.lst ((pows ns k).map V.int)) ∧ H' d = some (.lst ((pows ms k).map V.int)),
      ⟨k0, 0, c0, d0, _, _, by omega, rfl, Gr.refl _, ec0, ed0⟩, fun m σ H7 hW => ?_⟩
    obtain ⟨k, c, d, y5, y6, hk, rfl, g67, ec, ed⟩ := hW
    have g7 := g4.trans g67
    refine ⟨.ref c, rfl, c, _, rfl, sq ec, .ref d, rfl, d, _, rfl, sq ed, rfl, _, rfl, ite2 (fun e => ?_) (fun e => ?_)⟩
    · have e1 : psum ns k = psum ms k := V.int.inj (of_decide_eq_true e)
      have kl : k < k0 := by
        apply Classical.byContradiction
        intro z
        have : k = k0 := by omega
        exact hM.ne (this ▸ e1)
      refine ⟨fun σ' H' => ∃ c d y5 y6, σ' = [some (.ref a), some (.ref b), some (.ref c), some (.ref d), some (.int ((k : Int) + 1)), y5, y6] ∧ Gr T H4 H' ∧ H' c = some (.lst ((pows ns (k + 1)).map V.int)) ∧ H' d = some (.lst ((pows ms (k + 1)).map V.int)),
        fun σ' H' ⟨c, d, y5, y6, e1, g, ec, ed⟩ => ⟨m - 1, by omega, k + 1, c, d, y5, y6, by omega, e1, g, ec, ed⟩, ?_⟩
      have turn : ∀ {L : List Int} {H8 : Hp} {σ : L2.St} {x y : V} {Q' : VK}, Bits 100000 L → (x, y) ∈ ((pows L k).map V.int).zip (L.map V.int) → σ[6]? = some (some x) → σ[5]? = some (some y) →
          (Q' (mulV x y) H8) → tOp (rI IntMulOk fun i j => .int (i * j)) (tVar 6) (tVar 5) σ H8 Q' := fun {L H8 σ x y Q'} bL hxy h1 h2 q' => by
        obtain ⟨i, j, rfl, rfl, hi, hj⟩ := zip_mem hxy
        refine ⟨_, h1, _, h2, i, j, rfl, rfl, IntMulOk.of_le (bits_pow bL k i hi) (bL j hj) ?_, q'⟩
        have : 100000 * k ≤ 100000 * 2000 := Nat.mul_le_mul_left _ (by omega)
        omega
      refine ⟨.ref c, rfl, .ref a, rfl, c, a, _, _, rfl, sq ec, g7.sq hA, lc_zip (T := T) (i := 6) (j := 5) (by decide) mulV (sq ec) (g7.sq hA) (by rw [List.length_map, List.length_map, pows_len]) (by rw [List.length_map, pows_len]; omega)
        (fun x y H8 hxy g Q' q' => turn bn hxy rfl rfl (q' H8 (Gr.refl _))) fun c2 H8 nc2 g8 ec2 => ?_⟩
      rw [zip_mulV, pows_succ] at ec2
      have ed8 := g8.l ed
      have g8' := g7.trans g8
      refine ⟨.ref d, rfl, .ref b, rfl, d, b, _, _, rfl, sq ed8, g8'.sq hB, lc_zip (T := T) (i := 6) (j := 5) (by decide) mulV (sq ed8) (g8'.sq hB) (by rw [List.length_map, List.length_map, pows_len]) (by rw [List.length_map, pows_len]; omega)
        (fun x y H9 hxy g Q' q' => turn bm hxy rfl rfl (q' H9 (Gr.refl _))) fun d2 H9 nd2 g9 ed2 => ?_⟩
      rw [zip_mulV, pows_succ] at ed2
      refine ⟨.int k, rfl, k, 1, rfl, rfl, c2, d2, _, _, rfl, (g67.trans g8).trans g9, g9.l ec2, ed2⟩
    · have e1 : psum ns k ≠ psum ms k := fun z => e (decide_eq_true (congrArg V.int z))
      have kk : k = k0 := by
        have := hM.le e1
        omega
      subst kk
      refine ⟨.int k, rfl, .ref c, rfl, c, _, rfl, sq ec, .ref d, rfl, d, _, rfl, sq ed, _, _, rfl, rfl, show 2 ≤ sizeLine by decide, fun p np => ?_⟩
      exact q k p _ hM (g7.lost _ np) (g7.trans (Gr.new np)) upd_same
end
end Wk
/-! ### sums, and what answers show -/
namespace Wk
open PySem PySem.Spec PyProof.Rows L2 Kx Ep
open PySem.Builtin.Int (intBits)
section
variable {P : Program} {w : World} {K : PySem.W.Frag} {mg : Str → Option Value} {base : Heap} {f : Addr} {fd : FuncData} {T : Tb} {CU CS CA : Addr} {PT : Addr}
def spTaken : Sp := fun vs H Q _ => ∃ (z : Int) (k : Nat), vs = [.int z, .int k] ∧ intBits z ≤ 10000 ∧ k ≤ 2000 ∧ Q (.int (z ^ k)) H
theorem sc_taken : FnScope N_taken ["number", "power"] (C8.fnScope s_taken) := C8.fnScope_by (by decide +kernel)
theorem ok_taken (B : Bt mg) (F : C8.Def K mg "taken" s_taken f fd) (b : Binds K fd ["number", "power"] []) : C8.Cal P w K mg base 1 "taken" spTaken [] := by
  refine C8.cal0 F b .nil sc_taken (fun vs H Q E h => ?_) (fun cdv A outer s H vs Q E hr h => ?_)
  · obtain ⟨z, k, rfl, _⟩ := h
    rfl
  · obtain ⟨z, k, rfl, bz, hk, q⟩ := h
    refine ⟨_, (pss_cons (ps_set (i := 2) sc_taken.nd rfl (.inl rfl) pe_int)
(pss_cons (ps_while PassesOwn.never (pt_cmpR op_gt (pv 1) pe_int (nomark _))
(C8.pss_cut (ps_if (pt_cmpR op_eq (pe_op op_mod (pv 1) pe_int) pe_int (nomark _))
(pss_one (ps_aug (i := 2) sc_taken.nd rfl (.inl rfl) (pv 0) ip_mulB))
pss_nil)
(pss_cons (ps_aug (i := 0) sc_taken.nd rfl (.inl rfl) (pv 0) ip_mulB)
(pss_one (ps_set (i := 1) sc_taken.nd rfl (.inl rfl) (pe_op op_fdivW (pv 1) pe_int))))))
(pss_one (ps_ret (pv 2))))), ?_⟩
    refine ⟨fun m σ H' => ∃ (e p g : Nat), p = m ∧ σ = [some (.int (z ^ e)), some (.int (p : Nat)), some (.int (z ^ g))] ∧ H = H' ∧ g + e * p = k, ⟨k, 1, k, 0, rfl, by rw [Int.pow_zero, Int.pow_succ, Int.pow_zero, Int.one_mul]; rfl, rfl, by omega⟩, fun m σ H' hW => ?_⟩
    obtain ⟨e, p, g, rfl, rfl, rfl, hg⟩ := hW
    refine ⟨_, rfl, (p : Int), 0, rfl, rfl, _, rfl, ite2 (fun hp => ?_) (fun hp => ?_)⟩
    · have hp : 0 < p := by have := of_decide_eq_true hp; omega
      have ek : e ≤ k := by
        have : e * 1 ≤ e * p := Nat.mul_le_mul_left _ hp
        omega
      have gk : g ≤ k := by omega
      have be := PySem.intBits_pow_le bz e
      have bg := PySem.intBits_pow_le bz g
      have e1 : 10000 * e ≤ 10000 * 2000 := Nat.mul_le_mul_left _ (by omega)
      have g1 : 10000 * g ≤ 10000 * 2000 := Nat.mul_le_mul_left _ (by omega)
      refine ⟨fun σ' H' => ∃ (e p' g : Nat), p' < p ∧ σ' = [some (.int (z ^ e)), some (.int (p' : Nat)), some (.int (z ^ g))] ∧ H = H' ∧ g + e * p' = k, fun σ' H' ⟨e, p', g, a, b, c, d⟩ => ⟨p', a, e, p', g, rfl, b, c, d⟩, ?_⟩
      refine ⟨fun σ' H' => σ' = [some (.int (z ^ e)), some (.int (p : Nat)), some (.int (z ^ (g + e * (p % 2))))] ∧ H = H', ?_, fun σ' H' hmid => ?_⟩
      · have p2 : p % 2 = 0 ∨ p % 2 = 1 := by omega
        refine ⟨_, rfl, (p : Int), 2, rfl, rfl, (show (0 : Int) < 2 by decide), rfl, _, rfl, ?_⟩
        rcases p2 with e2 | e2
        · have : decide (V.int ((p : Int) % 2) = V.int 1) = false := decide_eq_false fun z => by have := V.int.inj z; omega
          rw [show (fun i j => V.int (i % j)) (p : Int) 2 = V.int ((p : Int) % 2) from rfl, this, e2, Nat.mul_zero, Nat.add_zero]
          exact ⟨rfl, rfl⟩
        · have : decide (V.int ((p : Int) % 2) = V.int 1) = true := decide_eq_true (congrArg V.int (by omega))
          rw [show (fun i j => V.int (i % j)) (p : Int) 2 = V.int ((p : Int) % 2) from rfl, this, e2, Nat.mul_one]
          refine ⟨_, rfl, _, rfl, z ^ g, z ^ e, rfl, rfl, IntMulOk.of_le bg be (by omega), ?_⟩
          exact ⟨by rw [Int.pow_add]; rfl, rfl⟩
      obtain ⟨rfl, rfl⟩ := hmid
      refine ⟨_, rfl, _, rfl, z ^ e, z ^ e, rfl, rfl, IntMulOk.of_le be be (by omega), ?_⟩
      refine ⟨_, rfl, (p : Int), 2, rfl, rfl, ⟨by decide, show Nat.log2 2 < 9000 by decide⟩, ?_⟩
      refine ⟨e + e, p / 2, g + e * (p % 2), by omega, by rw [Int.pow_add z e e]; rfl, rfl, ?_⟩
      have dm := Nat.div_add_mod p 2
      have : e * p = e * (2 * (p / 2)) + e * (p % 2) := by rw [← Nat.mul_add, dm]
      have e3 : (e + e) * (p / 2) = e * (2 * (p / 2)) := by rw [← Nat.two_mul, Nat.mul_comm 2 e, Nat.mul_assoc]
      rw [Nat.add_assoc, e3, Nat.add_comm (e * (p % 2)), ← this]
      exact hg
    · have : p = 0 := Nat.eq_zero_of_not_pos fun z => hp (decide_eq_true (by omega))
      subst this
      have : g = k := by omega
      subst this
      exact ⟨_, rfl, q⟩
def spSumOf (T : Tb) (K : PySem.W.Frag) : Sp := fun vs H Q _ => ∃ (a : Addr) (ns : List Int) (k : Nat), vs = [.ref a, .int k] ∧ SqL K H a (ns.map V.int) ∧ ns.length ≤ 1000 ∧ Bits 10000 ns ∧ k ≤ 2000 ∧ ∀ H', Gr T H H' → Q (.int (psum ns k)) H'
theorem sc_sum_of : FnScope N_sum_of ["heap", "power"] (C8.fnScope s_sum_of) := C8.fnScope_by (by decide +kernel)
theorem ok_sum_of (B : Bt mg) (F : C8.Def K mg "sum_of" s_sum_of f fd) (b : Binds K fd ["heap", "power"] []) (c_taken : C8.Cal P w K mg base 1 "taken" spTaken []) : C8.Cal P w K mg base 2 "sum_of" (spSumOf T K) [] := by
  refine C8.cal0 F b .nil sc_sum_of (fun vs H Q E h => ?_) (fun cdv A outer s H vs Q E hr h => ?_)
  · obtain ⟨a, ns, k, rfl, _⟩ := h
    rfl
  · obtain ⟨a, ns, k, rfl, hA, hn, bn, hk, q⟩ := h
    refine ⟨_, (pss_one (ps_ret (pe_callB (cr_sum rfl) (by rfl) B.sum (by decide +kernel) (pa_cons (pe_lc (own := [("number", 2)]) (g := gName 2) (tt := tYes) rfl sc_sum_of.nd (pi_list (pv 0)) (blkOk_by (own := [("number", 2)]) (N := N_sum_of) (sc := C8.fnScope s_sum_of) (by decide +kernel)) (fun _ _ _ _ _ => (pg_name (i := 2) sc_sum_of.nd rfl (Or.inl rfl))) (fun _ _ _ _ _ => pts_nil) (fun _ _ _ _ _ => (C8.pe_c c_taken hr (by decide) (by rfl) (pa_cons (pv 2) (pa_cons (pv 1) pa_nil))))) pa_nil)))), ?_⟩
    refine ⟨_, rfl, a, rfl, ⟨_, hA⟩, lc_map (T := T) (i := 2) (fun v => match v with | .int i => .int (i ^ k) | _ => .non) hA (by rw [List.length_map]; omega) (fun x H1 hx g Q' q' => ?_) fun u H1 nu g eu => ?_⟩
    · obtain ⟨i, hi, rfl⟩ := List.mem_map.mp hx
      exact ⟨_, rfl, _, rfl, i, k, rfl, bn i hi, hk, q' _ (Gr.refl _)⟩
    have img : (ns.map V.int).map (fun v => match v with | .int i => V.int (i ^ k) | _ => .non) = (pows ns k).map V.int := by unfold pows; rw [List.map_map, List.map_map]; rfl
    rw [img] at eu
    exact ⟨u, _, rfl, sq eu, q H1 g⟩
end
end Wk
/-! ### what answers show -/
namespace Wk
open PySem PySem.Spec PyProof.Rows L2 Kx Ep
open PySem.Builtin.Int (intBits)
section
variable {P : Program} {w : World} {K : PySem.W.Frag} {mg : Str → Option Value} {base : Heap} {f : Addr} {fd : FuncData} {T : Tb} {CU CS CA : Addr} {PT : Addr}
theorem rgV_rng (n : Nat) : rgV 0 (n : Int) = (rng n).map V.int := by
  unfold rgV rng
  rw [List.map_map]
  have : ((n : Int) - 0).toNat = n := by omega
  rw [this]
  congr 1
  funext i
  show V.int (0 + (i : Int)) = V.int (i : Int)
  rw [Int.zero_add]
theorem dec_ints (i j : Int) : decide (V.int i = V.int j) = decide (i = j) := decide_eq_decide.mpr ⟨V.int.inj, congrArg V.int⟩
def spSShows (T : Tb) (K : PySem.W.Frag) (CS : Addr) : Sp := fun vs H Q _ => ∃ (p dx r a b : Addr) (pls ns ms : List Int), vs = [.ref p, .ref a, .ref b] ∧ H p = some (.ins CS dx (sf r)) ∧ H r = some (.lst (pls.map V.int)) ∧ SqL K H a (ns.map V.int) ∧ SqL K H b (ms.map V.int) ∧ pls.length ≤ 1000 ∧ ns.length ≤ 1000 ∧ ms.length ≤ 1000 ∧ ∀ H', Gr T H H' → Q (.bl (shownS pls ns ms)) H'
/-- one == the other, place by place -/
def meets (ns ms : List Int) (k : Nat) : V → V
  | .int z => .bl (decide (ns.getD k 0 = ms.getD z.toNat 0))
  | _ => .non
theorem meets_img {pls ns ms : List Int} : ((List.range pls.length).map fun k => meets ns ms k ((pls.map V.int).getD k .non)) = ((List.range pls.length).map fun k => decide (ns.getD k 0 = ms.getD (pls.getD k 0).toNat 0)).map V.bl := by
  rw [List.map_map]
  apply List.map_congr_left
  intro k hk
  have hk := List.mem_range.mp hk
  show meets ns ms k ((pls.map V.int).getD k .non) = V.bl (decide (ns.getD k 0 = ms.getD (pls.getD k 0).toNat 0))
  have : (pls.map V.int).getD k .non = .int (pls.getD k 0) := by
    rw [List.getD_eq_getElem?_getD, List.getElem?_map, List.getD_eq_getElem?_getD, List.getElem?_eq_getElem hk]; rfl
  rw [this]; rfl
theorem eqv_none_dT (l : List Int) : PyData.eqv .none (dT l) = false := by
  unfold dT
  rw [PyData.eqv] <;> simp
theorem sc_Same_shows : FnScope N_Same_shows ["self", "one", "other"] (C8.fnScope s_Same_shows) := C8.fnScope_by (by decide +kernel)
theorem ok_sshows (B : Bt mg) (S : SCl K mg CS) (me : Meth K CS "shows" f) (F : C8.Fun K "shows" "Same.shows" s_Same_shows f fd) (b : Binds K fd ["self", "one", "other"] []) (c_is_whole : C8.Cal P w K mg base 1 "is_whole" (spWhole K) []) : C8.Met P w K mg base 2 CS "shows" (spSShows T K CS) [] := by
  refine C8.met0 S.cl me F b sc_Same_shows (fun vs H Q E h => ?_) (fun cdv A outer s H vs Q E hr h => ?_)
  · obtain ⟨p, dx, r, a, b, pls, ns, ms, rfl, _⟩ := h
    rfl
  · obtain ⟨p, dx, r, a, b, pls, ns, ms, rfl, ep, er, hA, hB, hp, hn, hm, q⟩ := h
    refine ⟨_, (pss_cons (ps_if (pt_not (pt_val (pe_callB (cr_all rfl) (by rfl) B.all (by decide +kernel) (pa_cons (pe_lc (own := [("place", 3)]) (g := gName 3) (tt := tYes) rfl sc_Same_shows.nd (pi_list (pe_fld (pv 0) rfl)) (blkOk_by (own := [("place", 3)]) (N := N_Same_shows) (sc := C8.fnScope s_Same_shows) (by decide +kernel)) (fun _ _ _ _ _ => (pg_name (i := 3) sc_Same_shows.nd rfl (Or.inl rfl))) (fun _ _ _ _ _ => pts_nil) (fun _ _ _ _ _ => (C8.pe_c c_is_whole hr (by decide) (by rfl) (pa_cons (pv 3) pa_nil)))) pa_nil))))
(pss_one (ps_ret pe_bl))
pss_nil)
(C8.pss_cut (ps_if (PW.pt (pw_or (pt_cmpR op_ne (pe_callB call_len_seq (by rfl) B.len PySem.boot_len (pa_cons (pv 1) pa_nil)) (pe_callB call_len_seq (by rfl) B.len PySem.boot_len (pa_cons (pv 2) pa_nil)) (nomark _)) (pw_or1 (pt_cmpR (op_neD hr.units) (pe_callB cr_sortedI (by rfl) B.sorted (by decide +kernel) (pa_cons (pe_fld (pv 0) rfl) pa_nil)) (pe_listRg rfl (by rfl) B.list (prg_1 (by rfl) B.range (pe_callB call_len_seq (by rfl) B.len PySem.boot_len (pa_cons (pv 1) pa_nil)))) (nomark _)))))
(pss_one (ps_ret pe_bl))
pss_nil)
(pss_one (ps_ret (pe_callB (cr_all rfl) (by rfl) B.all (by decide +kernel) (pa_cons (pe_lc (own := [("at", 4), ("place", 3)]) (g := gTup K 2 (gCons (gName 4) (gCons (gName 3) gNil))) (tt := tYes) rfl sc_Same_shows.nd (pi_enum (by rfl) B.enumerate (pa_cons (pe_fld (pv 0) rfl) pa_nil)) (blkOk_by (own := [("at", 4), ("place", 3)]) (N := N_Same_shows) (sc := C8.fnScope s_Same_shows) (by decide +kernel)) (fun _ _ _ _ _ => (pg_tup rfl (pgs_cons (pg_name (i := 4) sc_Same_shows.nd rfl (Or.inl rfl)) (pgs_cons (pg_name (i := 3) sc_Same_shows.nd rfl (Or.inl rfl)) pgs_nil)))) (fun _ _ _ _ _ => pts_nil) (fun _ _ _ _ _ => (pe_cmpR op_eq (pe_ix (ix_list_at (K := K) rfl) (pv 1) (pv 4) (fun _ _ => rfl)) (pe_ix (ix_list_at (K := K) rfl) (pv 2) (pv 3) (fun _ _ => rfl)) (nomark _)))) pa_nil)))))), ?_⟩
    refine ⟨_, rfl, p, CS, dx, _, .ref r, rfl, ep, S.cl, S.nL, sf_places _, r, rfl, ⟨_, sq er⟩, lc_map (T := T) (i := 3) (fun _ => .bl true) (sq er) (by rw [List.length_map]; omega) (fun x H1 hx g Q' q' => ?_) fun u H1 nu g1 eu => ?_⟩
    · obtain ⟨n, _, rfl⟩ := List.mem_map.mp hx
      exact ⟨_, rfl, wholeI (q' H1 (Gr.refl _))⟩
    refine ⟨u, pls.map fun _ => true, rfl, sq (by rw [eu, List.map_map, List.map_map]; rfl), true, ?_, ?_⟩
    · show V.bl ((pls.map fun _ => true).all id) = V.bl true
      congr 1
      rw [List.all_map]
      exact List.all_eq_true.mpr fun _ _ => rfl
    have hA1 := g1.sq hA
    have hB1 := g1.sq hB
    have ep1 := g1.i ep
    have er1 := g1.l er
    refine ⟨fun σ' H' => σ' = [some (.ref p), some (.ref a), some (.ref b), Option.none, Option.none] ∧ Gr T H1 H' ∧ ns.length = ms.length ∧ pls.Perm (rng ns.length), ?_, fun σ' H' hmid => ?_⟩
    · refine ⟨_, rfl, a, _, rfl, .inl hA1, _, rfl, b, _, rfl, .inl hB1, rfl, _, rfl, ?_⟩
      rw [List.length_map, List.length_map, dec_ints]
      by_cases hl : ns.length = ms.length
      · rw [decide_eq_true (show ((ns.length : Nat) : Int) = ((ms.length : Nat) : Int) by omega)]
        refine ⟨_, rfl, p, CS, dx, _, .ref r, rfl, ep1, S.cl, S.nL, sf_places _, r, pls, rfl, sq er1, fun s1 p1 pm r1 np1 => ?_⟩
        have g12 := Gr.new (T := T) (o := .lst (s1.map V.int)) np1
        have e1 : (upd H1 p1 (.lst (s1.map V.int))) p1 = _ := upd_same
        generalize upd H1 p1 (.lst (s1.map V.int)) = H2 at *
        refine ⟨_, rfl, a, _, rfl, .inl (g12.sq hA1), ns.length, by rw [List.length_map], RgOk.of_le (by omega) (by omega) (by omega) (by omega), fun q1 nq1 => ?_⟩
        rw [rgV_rng]
        have g23 := Gr.new (T := T) (o := .lst ((rng ns.length).map V.int)) nq1
        have e2 : (upd H2 q1 (.lst ((rng ns.length).map V.int))) q1 = _ := upd_same
        refine ⟨dI s1, dI (rng ns.length), dp_l (sq (g23.l e1)), dp_l (sq e2), sh_dI _, sh_dI _, _, rfl, ?_⟩
        rw [eqv_dI]
        by_cases hs : s1 = rng ns.length
        · rw [decide_eq_true hs]
          exact ⟨rfl, g12.trans g23, hl, (sorted_rng pm r1).mp hs⟩
        · rw [decide_eq_false hs]
          have : shownS pls ns ms = false := by
            unfold shownS
            rw [decide_eq_false (fun h => hs ((sorted_rng pm r1).mpr h)), Bool.false_and, Bool.and_false]
          rw [this] at q
          exact q _ ((g1.trans g12).trans g23)
      · rw [decide_eq_false (show ¬ ((ns.length : Nat) : Int) = ((ms.length : Nat) : Int) by omega)]
        have : shownS pls ns ms = false := by
          unfold shownS
          rw [decide_eq_false hl, Bool.false_and]
        rw [this] at q
        exact q _ g1
    obtain ⟨rfl, g2, hl, hperm⟩ := hmid
    have lp : pls.length = ns.length := by rw [hperm.length_eq, rng_len]
    have g02 := g1.trans g2
    have er2 := g02.l er
    refine ⟨_, rfl, p, CS, dx, _, .ref r, rfl, g02.i ep, S.cl, S.nL, sf_places _, r, _, rfl, sq er2, lc_enum (T := T) (i := 4) (j := 3) (by decide) (meets ns ms) (sq er2) (by rw [List.length_map]; omega) (fun k x H3 hx g Q' q' => ?_) fun u2 H3 nu2 g3 eu2 => ?_⟩
    · obtain ⟨z, hz, rfl⟩ := int_at hx
      have hk := (List.getElem?_eq_some_iff.mp hz).1
      have hk2 : k < ns.length := by omega
      obtain ⟨j, hj, ej⟩ := List.mem_map.mp (hperm.mem_iff.mp (List.mem_of_getElem? hz))
      have hj := List.mem_range.mp hj
      have hj2 : j < ms.length := by omega
      have g03 := g02.trans g
      subst ej
      have e1 : ns.getD k 0 = ns[k] := by rw [List.getD_eq_getElem?_getD, List.getElem?_eq_getElem hk2]; rfl
      have e2 : ms.getD ((j : Int)).toNat 0 = ms[j] := by rw [Int.toNat_natCast, List.getD_eq_getElem?_getD, List.getElem?_eq_getElem hj2]; rfl
      refine ⟨_, rfl, _, rfl, a, _, (k : Int), .int ns[k], rfl, rfl, g03.sq hA, atI_nat (by rw [List.getElem?_map, List.getElem?_eq_getElem hk2]; rfl), _, rfl, _, rfl, b, _, (j : Int), .int ms[j], rfl, rfl, g03.sq hB, atI_nat (by rw [List.getElem?_map, List.getElem?_eq_getElem hj2]; rfl), rfl, ?_⟩
      rw [dec_ints]
      have : meets ns ms k (.int (j : Int)) = .bl (decide (ns[k] = ms[j])) := by
        show V.bl (decide (ns.getD k 0 = ms.getD ((j : Int)).toNat 0)) = _
        rw [e1, e2]
      rw [← this]
      exact q' _ (Gr.refl _)
    rw [List.length_map] at eu2
    rw [meets_img] at eu2
    refine ⟨u2, _, rfl, sq eu2, ?_⟩
    have : shownS pls ns ms = (((List.range pls.length).map fun k => decide (ns.getD k 0 = ms.getD (pls.getD k 0).toNat 0)).all id) := by
      unfold shownS
      rw [decide_eq_true hl, decide_eq_true hperm, Bool.true_and, Bool.true_and]
    rw [← this]
    exact q _ (g02.trans g3)
def spUShows (T : Tb) (K : PySem.W.Frag) (CU : Addr) : Sp := fun vs H Q _ => ∃ (p dx a b : Addr) (pw mo : Int) (ns ms : List Int), vs = [.ref p, .ref a, .ref b] ∧ H p = some (.ins CU dx (uf (.int pw) (.int mo))) ∧ SqL K H a (ns.map V.int) ∧ SqL K H b (ms.map V.int) ∧ ns.length ≤ 1000 ∧ ms.length ≤ 1000 ∧ Bits 10000 ns ∧ Bits 10000 ms ∧ ∀ H', Gr T H H' → Q (.bl (shownU pw mo ns ms)) H'
theorem sc_Unlike_shows : FnScope N_Unlike_shows ["self", "one", "other"] (C8.fnScope s_Unlike_shows) := C8.fnScope_by (by decide +kernel)
theorem ok_ushows (B : Bt mg) (U : UCl K mg CU) (me : Meth K CU "shows" f) (F : C8.Fun K "shows" "Unlike.shows" s_Unlike_shows f fd) (b : Binds K fd ["self", "one", "other"] []) (c_is_whole : C8.Cal P w K mg base 1 "is_whole" (spWhole K) []) (c_left_of : C8.Cal P w K mg base 1 "left_of" (spLeft T K) []) (c_sum_of : C8.Cal P w K mg base 2 "sum_of" (spSumOf T K) []) : C8.Met P w K mg base 3 CU "shows" (spUShows T K CU) [] := by
  refine C8.met0 U.cl me F b sc_Unlike_shows (fun vs H Q E h => ?_) (fun cdv A outer s H vs Q E hr h => ?_)
  · obtain ⟨p, dx, a, b, pw, mo, ns, ms, rfl, _⟩ := h
    rfl
  · obtain ⟨p, dx, a, b, pw, mo, ns, ms, rfl, ep, hA, hB, hn, hm, bn, bm, q⟩ := h
    have iff := due_iff (p := pw) (m := mo) (ns := ns) (ms := ms)
    refine ⟨_, (C8.pss_cut (ps_if (PW.pt (pw_or (pt_not (pt_val (C8.pe_c c_is_whole hr (by decide) (by rfl) (pa_cons (pe_fld (pv 0) rfl) pa_nil)))) (pw_or (pt_not (pt_val (C8.pe_c c_is_whole hr (by decide) (by rfl) (pa_cons (pe_fld (pv 0) rfl) pa_nil)))) (pw_or1 (pt_not (pt_chain op_le op_le pe_int (pe_fld (pv 0) rfl) (pe_callB (call_max2 rfl) (by rfl) B.max (by decide +kernel) (pa_cons (pe_callB call_len_seq (by rfl) B.len PySem.boot_len (pa_cons (pv 1) pa_nil)) (pa_cons (pe_callB call_len_seq (by rfl) B.len PySem.boot_len (pa_cons (pv 2) pa_nil)) pa_nil)))))))))
(pss_one (ps_ret pe_bl))
pss_nil)
(pss_cons (ps_asg (pe_tup (pa_cons (C8.pe_c c_left_of hr (by decide) (by rfl) (pa_cons (pv 1) (pa_cons (pv 2) pa_nil))) (pa_cons (C8.pe_c c_left_of hr (by decide) (by rfl) (pa_cons (pv 2) (pa_cons (pv 1) pa_nil))) pa_nil))) (pg_tup rfl (pgs_cons (pg_name (i := 3) sc_Unlike_shows.nd rfl (Or.inr rfl)) (pgs_cons (pg_name (i := 4) sc_Unlike_shows.nd rfl (Or.inr rfl)) pgs_nil))))
(pss_cons (ps_if (pt_not (pt_val (pe_callB (cr_all rfl) (by rfl) B.all (by decide +kernel) (pa_cons (pe_lc (own := [("power", 5)]) (g := gName 5) (tt := tYes) rfl sc_Unlike_shows.nd (pi_range1 rfl B.range (pa_cons (pe_fld (pv 0) rfl) pa_nil)) (blkOk_by (own := [("power", 5)]) (N := N_Unlike_shows) (sc := C8.fnScope s_Unlike_shows) (by decide +kernel)) (fun _ _ _ _ _ => (pg_name (i := 5) sc_Unlike_shows.nd rfl (Or.inl rfl))) (fun _ _ _ _ _ => pts_nil) (fun _ _ _ _ _ => (pe_cmpR op_eq (C8.pe_c c_sum_of hr (by decide) (by rfl) (pa_cons (pv 3) (pa_cons (pv 5) pa_nil))) (C8.pe_c c_sum_of hr (by decide) (by rfl) (pa_cons (pv 4) (pa_cons (pv 5) pa_nil))) (nomark _)))) pa_nil))))
(pss_one (ps_ret pe_bl))
pss_nil)
(pss_one (ps_ret (pe_and (pe_cmpR op_ne (pe_fld (pv 0) rfl) pe_int (nomark _)) (pe_one (pe_cmpR op_eq (pe_op op_sub (C8.pe_c c_sum_of hr (by decide) (by rfl) (pa_cons (pv 3) (pa_cons (pe_fld (pv 0) rfl) pa_nil))) (C8.pe_c c_sum_of hr (by decide) (by rfl) (pa_cons (pv 4) (pa_cons (pe_fld (pv 0) rfl) pa_nil)))) (pe_fld (pv 0) rfl) (nomark _))))))))), ?_⟩
    have emax : (if ((ms.length : Nat) : Int) > ((ns.length : Nat) : Int) then ((ms.length : Nat) : Int) else ((ns.length : Nat) : Int)) = ((max ns.length ms.length : Nat) : Int) := by
      split <;> omega
    refine ⟨fun σ' H' => σ' = [some (.ref p), some (.ref a), some (.ref b), Option.none, Option.none, Option.none] ∧ H = H' ∧ 0 ≤ pw ∧ pw ≤ ((max ns.length ms.length : Nat) : Int), ?_, fun σ' H' hmid => ?_⟩
    · refine ⟨_, rfl, p, CU, dx, _, .int pw, rfl, ep, U.cl, U.nP, uf_power _ _, .int pw, "int", true, false, rfl, .base (.int pw), kI1, kI2, true, rfl, ?_⟩
      refine ⟨_, rfl, p, CU, dx, _, .int mo, rfl, ep, U.cl, U.nM, uf_more _ _, .int mo, "int", true, false, rfl, .base (.int mo), kI1, kI2, true, rfl, ?_⟩
      refine ⟨_, rfl, p, CU, dx, _, .int pw, rfl, ep, U.cl, U.nP, uf_power _ _, 0, pw, rfl, rfl, _, rfl, ?_⟩
      by_cases h0 : 0 ≤ pw
      · rw [decide_eq_true h0]
        refine ⟨_, rfl, a, _, rfl, .inl hA, _, rfl, b, _, rfl, .inl hB, ((ns.length : Nat) : Int), ((ms.length : Nat) : Int), by rw [List.length_map, List.length_map], pw, _, rfl, rfl, _, rfl, ?_⟩
        rw [emax]
        by_cases h1 : pw ≤ ((max ns.length ms.length : Nat) : Int)
        · rw [decide_eq_true h1]
          exact ⟨rfl, rfl, h0, h1⟩
        · rw [decide_eq_false h1]
          rw [shownU_false (fun h => h1 (iff.mp h).1.2)] at q
          exact q _ (Gr.refl _)
      · rw [decide_eq_false h0]
        rw [shownU_false (fun h => h0 (iff.mp h).1.1)] at q
        rw [if_neg Bool.false_ne_true]
        exact ⟨false, rfl, q _ (Gr.refl _)⟩
    obtain ⟨rfl, rfl, h0, h1⟩ := hmid
    obtain ⟨k, rfl⟩ := Int.eq_ofNat_of_zero_le h0
    have hk : k ≤ 1000 := by omega
    have bM : Bits 10000 (leftOf ns ms) := fun z hz => bn z (leftOf_sub hz)
    have bR : Bits 10000 (leftOf ms ns) := fun z hz => bm z (leftOf_sub hz)
    have lM := leftOf_len ns ms
    have lR := leftOf_len ms ns
    refine ⟨_, rfl, _, rfl, a, b, ns, ms, rfl, hA, hB, hn, hm, fun l H1 nl g1 el => ?_⟩
    refine ⟨_, rfl, _, rfl, b, a, ms, ns, rfl, g1.sq hB, g1.sq hA, hm, hn, fun r H2 nr g12 er => ?_⟩
    refine ⟨show 2 ≤ sizeLine by decide, fun t nt => ?_⟩
    have g23 := Gr.new (T := T) (o := .tup [.ref l, .ref r]) nt
    have et : (upd H2 t (.tup [.ref l, .ref r])) t = some (.tup [.ref l, .ref r]) := upd_same
    have el3 := g23.l (g12.l el)
    have er3 := g23.l er
    have g3 := (g1.trans g12).trans g23
    generalize upd H2 t (.tup [.ref l, .ref r]) = H3 at *
    have ep3 := g3.i ep
    refine ⟨t, _, rfl, stp et, rfl, _, _, rfl, _, _, rfl, rfl, ?_⟩
    refine ⟨_, rfl, p, CU, dx, _, .int k, rfl, ep3, U.cl, U.nP, uf_power _ _, k, rfl, by omega, by omega, lc_rng (T := T) (i := 5) (lo := 0) (n := k) (fun j => .bl (decide (psum (leftOf ns ms) j = psum (leftOf ms ns) j))) (by omega) (fun j H4 hj g Q' q' => ?_) fun u H4 nu g4 eu => ?_⟩
    · rw [Int.zero_add]
      refine ⟨_, rfl, _, rfl, l, leftOf ns ms, j, rfl, sq (g.l el3), by omega, bM, by omega, fun H5 g5 => ?_⟩
      refine ⟨_, rfl, _, rfl, r, leftOf ms ns, j, rfl, sq (g5.l (g.l er3)), by omega, bR, by omega, fun H6 g6 => ?_⟩
      refine ⟨rfl, ?_⟩
      rw [dec_ints]
      exact q' _ (g5.trans g6)
    have g34 := g3.trans g4
    refine ⟨u, (List.range k).map fun j => decide (psum (leftOf ns ms) j = psum (leftOf ms ns) j), rfl, sq (by rw [eu, List.map_map]; rfl), _, rfl, ?_⟩
    by_cases hall : ∀ j : Nat, (j : Int) < (k : Int) → psum (leftOf ns ms) j = psum (leftOf ms ns) j
    · have : (((List.range k).map fun j => decide (psum (leftOf ns ms) j = psum (leftOf ms ns) j)).all id) = true := by
        rw [List.all_map, List.all_eq_true]
        intro j hj
        exact decide_eq_true (hall j (by have := List.mem_range.mp hj; omega))
      rw [this]
      have ep4 := g4.i ep3
      refine ⟨_, rfl, p, CU, dx, _, .int mo, rfl, ep4, U.cl, U.nM, uf_more _ _, rfl, ?_⟩
      rw [dec_ints]
      by_cases hz : mo = 0
      · rw [decide_eq_true hz]
        rw [shownU_false (fun h => (iff.mp h).2.2.1 hz)] at q
        exact ⟨_, rfl, q _ g34⟩
      · rw [decide_eq_false hz]
        refine ⟨_, rfl, _, rfl, _, rfl, p, CU, dx, _, .int k, rfl, ep4, U.cl, U.nP, uf_power _ _, l, leftOf ns ms, k, rfl, sq (g4.l el3), by omega, bM, by omega, fun H5 g5 => ?_⟩
        refine ⟨_, rfl, _, rfl, p, CU, dx, _, .int k, rfl, g5.i ep4, U.cl, U.nP, uf_power _ _, r, leftOf ms ns, k, rfl, sq (g5.l (g4.l er3)), by omega, bR, by omega, fun H6 g6 => ?_⟩
        refine ⟨_, _, rfl, rfl, _, rfl, p, CU, dx, _, .int mo, rfl, g6.i (g5.i ep4), U.cl, U.nM, uf_more _ _, rfl, ?_⟩
        have g06 := (g34.trans g5).trans g6
        show Q (.bl (decide (V.int (psum (leftOf ns ms) k - psum (leftOf ms ns) k) = V.int mo))) _
        rw [dec_ints]
        by_cases hd : psum (leftOf ns ms) k - psum (leftOf ms ns) k = mo
        · rw [decide_eq_true hd]
          rw [shownU_true (iff.mpr ⟨⟨h0, h1⟩, hall, hz, by rw [Int.toNat_natCast]; exact hd⟩)] at q
          exact q _ g06
        · rw [decide_eq_false hd]
          rw [shownU_false (fun h => hd (by have := (iff.mp h).2.2.2; rw [Int.toNat_natCast] at this; exact this))] at q
          exact q _ g06
    · have : (((List.range k).map fun j => decide (psum (leftOf ns ms) j = psum (leftOf ms ns) j)).all id) = false := by
        rw [Bool.eq_false_iff]
        intro h
        rw [List.all_map, List.all_eq_true] at h
        exact hall fun j hj => of_decide_eq_true (h j (List.mem_range.mpr (by omega)))
      rw [this]
      rw [shownU_false (fun h => hall (iff.mp h).2.1)] at q
      exact q _ g34
end
end Wk
/-! ### an answer, of either class -/
namespace Wk
open PySem PySem.Spec PyProof.Rows L2 Kx Ep
open PySem.Builtin.Int (intBits)
inductive Said where
  | same (pls : List Int)
  | unlike (p m : Int)
noncomputable def Said.shows : Said → List Int → List Int → Bool
  | .same pls, ns, ms => shownS pls ns ms
  | .unlike p m, ns, ms => shownU p m ns ms
def Is (CS CU : Addr) (H : Hp) (v : V) : Said → Prop
  | .same pls => pls.length ≤ 1000 ∧ ∃ p dx r, v = .ref p ∧ H p = some (.ins CS dx (sf r)) ∧ H r = some (.lst (pls.map V.int))
  | .unlike pw mo => ∃ p dx, v = .ref p ∧ H p = some (.ins CU dx (uf (.int pw) (.int mo)))
theorem Is.grow {T : Tb} {CS CU : Addr} {H H' : Hp} {v : V} {s : Said} (h : Is CS CU H v s) (g : Gr T H H') : Is CS CU H' v s := by
  cases s with
  | same pls =>
    obtain ⟨h0, p, dx, r, e, h1, h2⟩ := h
    exact ⟨h0, p, dx, r, e, g.i h1, g.l h2⟩
  | unlike pw mo =>
    obtain ⟨p, dx, e, h1⟩ := h
    exact ⟨p, dx, e, g.i h1⟩
theorem kSP : ¬ (("shows" : Str) = "places") := by decide +kernel
theorem kSw : ¬ (("shows" : Str) = "power") := by decide +kernel
theorem kSm : ¬ (("shows" : Str) = "more") := by decide +kernel
theorem sf_no (q : Addr) : (sf q).lookup ("shows" : Str) = Option.none := by
  unfold sf
  rw [lookup_putF, if_neg kSP]; rfl
def tEither (t1 t2 : TE) : TE := fun σ H Q => t1 σ H Q ∨ t2 σ H Q
theorem pe_either {X : Cx} {e : Expr} {t1 t2 : TE} (h1 : PE X e t1) (h2 : PE X e t2) : PE X e (tEither t1 t2) :=
  ⟨fun pins s σ H Q I h => h.elim (h1.run pins s σ H Q I) (h2.run pins s σ H Q I)⟩
section
variable {P : Program} {w : World} {K : PySem.W.Frag} {mg : Str → Option Value} {base : Heap} {f : Addr} {fd : FuncData} {T : Tb} {CU CS CA : Addr} {PT : Addr}
/-- v.shows(one, other), all three in names or not -/
theorem shows_at {σ : L2.St} {H : Hp} {Q : VK} {ta : TE} {t : TA} {v : V} {s : Said} {a b : Addr} {ns ms : List Int} (hv : ∀ R : VK, R v H → ta σ H R) (ht : ∀ R : List V → Hp → Prop, R [.ref a, .ref b] H → t σ H R) (hs : Is CS CU H v s) (hA : SqL K H a (ns.map V.int)) (hB : SqL K H b (ms.map V.int))
    (ln : ns.length ≤ 1000) (lm : ms.length ≤ 1000) (bn : Bits 10000 ns) (bm : Bits 10000 ms) (q : ∀ H', Gr T H H' → Q (.bl (s.shows ns ms)) H') : tEither (tMeth CS "shows" (spSShows T K CS) [] C8.E0 ta t) (tMeth CU "shows" (spUShows T K CU) [] C8.E0 ta t) σ H Q := by
  cases s with
  | same pls =>
    obtain ⟨h0, p, dx, r, rfl, h1, h2⟩ := hs
    exact .inl (hv _ ⟨p, dx, _, rfl, h1, sf_no r, ht _ ⟨p, dx, r, a, b, pls, ns, ms, rfl, h1, h2, hA, hB, h0, ln, lm, q⟩⟩)
  | unlike pw mo =>
    obtain ⟨p, dx, rfl, h1⟩ := hs
    exact .inr (hv _ ⟨p, dx, _, rfl, h1, uf_no _ _ kSw kSm, ht _ ⟨p, dx, a, b, pw, mo, ns, ms, rfl, h1, hA, hB, ln, lm, bn, bm, q⟩⟩)
/-- alike, by what it says -/
noncomputable def saidOf (ns ms : List Int) : Said := @ite _ (ns.Perm ms) (Classical.propDecidable _) (.same ((placesOf ns ms).map fun i : Nat => (i : Int)))
  (@dite _ (∃ k, First ns ms k) (Classical.propDecidable _) (fun h => .unlike (Classical.choose h : Nat) (psum ns (Classical.choose h) - psum ms (Classical.choose h))) fun _ => .unlike 0 0)
theorem saidOf_perm {ns ms : List Int} (h : ns.Perm ms) : saidOf ns ms = .same ((placesOf ns ms).map fun i : Nat => (i : Int)) := if_pos h
theorem saidOf_first {ns ms : List Int} {k : Nat} (h : First ns ms k) : saidOf ns ms = .unlike (k : Nat) (psum ns k - psum ms k) := by
  unfold saidOf
  rw [if_neg h.not_perm]
  have e : ∃ k, First ns ms k := ⟨k, h⟩
  rw [dif_pos e]
  have := (Classical.choose_spec e).uniq h
  rw [this]
theorem saidOf_shows (ns ms : List Int) : (saidOf ns ms).shows ns ms = true := by
  by_cases hp : ns.Perm ms
  · rw [saidOf_perm hp]; exact shownS_places hp
  · obtain ⟨k, hk⟩ := first_exists hp
    rw [saidOf_first hk]; exact shownU_true ⟨k, rfl, hk, rfl⟩
/-- what alike gives: new, and so said -/
theorem alike_said {H : Hp} {Q : VK} {a b : Addr} {ns ms : List Int} (hA : SqL K H a (ns.map V.int)) (hB : SqL K H b (ms.map V.int)) (ln : ns.length ≤ 1000) (lm : ms.length ≤ 1000) (bn : Bits 100000 ns) (bm : Bits 100000 ms) (tb : LamX.TabS H PT qL)
    (q : ∀ v H', Gr T H H' → Is CS CU H' v (saidOf ns ms) → (ns.Perm ms → ∃ p dx r, v = .ref p ∧ H p = Option.none ∧ H r = Option.none ∧ H' p = some (.ins CS dx (sf r)) ∧ H' r = some (.lst ((placesOf ns ms).map fun i : Nat => V.int i))) → Q v H') : spAlike T PT K CU CS [.ref a, .ref b] H Q C8.E0 := by
  refine ⟨a, b, ns, ms, rfl, hA, hB, ln, lm, bn, bm, tb, fun hp p dx r H' np nr g ep er => ?_, fun hp k p dx H' hk np g ep => ?_⟩
  · refine q _ H' g ?_ fun _ => ⟨p, dx, r, rfl, np, nr, ep, er⟩
    rw [saidOf_perm hp]
    exact ⟨by rw [List.length_map, (placing hp).len]; exact ln, p, dx, r, rfl, ep, by rw [er, List.map_map]; rfl⟩
  · refine q _ H' g ?_ fun h => absurd h hp
    rw [saidOf_first hk]
    exact ⟨p, dx, rfl, ep⟩
end
end Wk
/-! ### law 4's small defs -/
namespace Wk
open PySem PySem.Spec PyProof.Rows L2 Kx Ep
open PySem.Builtin.Int (intBits)
section
variable {P : Program} {w : World} {K : PySem.W.Frag} {mg : Str → Option Value} {base : Heap} {f : Addr} {fd : FuncData} {T : Tb} {CU CS CA : Addr} {PT : Addr}
def spSays : Sp := fun vs H Q _ => ∃ a : Bool, vs = [.bl a, .bl a] ∧ Q (.bl true) H
theorem sc__law_says : FnScope N__law_says ["_law_said", "_law_due"] (C8.fnScope s__law_says) := C8.fnScope_by (by decide +kernel)
theorem ok_law_says (B : Bt mg) (F : C8.Def K mg "_law_says" s__law_says f fd) (b : Binds K fd ["_law_said", "_law_due"] []) : C8.Cal P w K mg base 1 "_law_says" spSays [] := by
  refine C8.cal0 F b .nil sc__law_says (fun vs H Q E h => ?_) (fun cdv A outer s H vs Q E hr h => ?_)
  · obtain ⟨a, rfl, _⟩ := h
    rfl
  · obtain ⟨a, rfl, q⟩ := h
    refine ⟨_, (pss_one (ps_ret (pe_and (pe_callB call_isi (by rfl) B.isinstance (by decide +kernel) (pa_cons (pv 0) (pa_cons (pe_bltn (v := V.ty "bool") (u := Value.type "bool") (by rfl) B.bool (by decide +kernel) rfl) pa_nil))) (pe_one (pe_cmpR op_eq (pv 0) (pv 1) (nomark _)))))), ?_⟩
    refine ⟨_, rfl, .bl a, .ty "bool", .type "bool", .type "bool", true, rfl, .ty _, .base (.bl a), kit_ty (by decide +kernel), true, rfl, _, rfl, _, rfl, rfl, ?_⟩
    rw [decide_eq_true rfl]
    exact q
def spSum4 (T : Tb) (K : PySem.W.Frag) : Sp := fun vs H Q _ => ∃ (a : Addr) (ns : List Int) (k : Nat), vs = [.ref a, .int k] ∧ SqL K H a (ns.map V.int) ∧ ns.length ≤ 1000 ∧ Bits 10000 ns ∧ k ≤ 1000 ∧ ∀ H', Gr T H H' → Q (.int (psum ns k)) H'
theorem sc__law_sum : FnScope N__law_sum ["_law_heap", "_law_power"] (C8.fnScope s__law_sum) := C8.fnScope_by (by decide +kernel)
theorem ok_law_sum (B : Bt mg) (F : C8.Def K mg "_law_sum" s__law_sum f fd) (b : Binds K fd ["_law_heap", "_law_power"] []) : C8.Cal P w K mg base 1 "_law_sum" (spSum4 T K) [] := by
  refine C8.cal0 F b .nil sc__law_sum (fun vs H Q E h => ?_) (fun cdv A outer s H vs Q E hr h => ?_)
  · obtain ⟨a, ns, k, rfl, _⟩ := h
    rfl
  · obtain ⟨a, ns, k, rfl, hA, hn, bn, hk, q⟩ := h
    refine ⟨_, (pss_cons (ps_setLc (i := 2) (own := [("_law_number", 4)]) (g := gName 4) (tt := tYes) rfl sc__law_sum.nd rfl rfl (sw_true rfl rfl rfl (by decide +kernel)) (pi_list (pv 0)) (blkOk_by (own := [("_law_number", 4)]) (N := N__law_sum) (sc := C8.fnScope s__law_sum) (by decide +kernel)) (fun _ _ _ _ _ => (pg_name (i := 4) sc__law_sum.nd rfl (Or.inl rfl))) (fun _ _ _ _ _ => pts_nil) (fun _ _ _ _ _ => pe_int))
(pss_cons (ps_for PassesOwn.never rfl (pi_range1 rfl B.range (pa_cons (pv 1) pa_nil)) (pg_name (i := 3) sc__law_sum.nd rfl (Or.inl rfl))
(pss_one (ps_setLc (i := 2) (own := [("_law_part", 5), ("_law_number", 4)]) (g := gTup K 2 (gCons (gName 5) (gCons (gName 4) gNil))) (tt := tYes) rfl sc__law_sum.nd rfl rfl (sw_true rfl rfl rfl (by decide +kernel)) (pi_zip (by rfl) B.zip (pa_cons (pv 2) (pa_cons (pv 0) pa_nil))) (blkOk_by (own := [("_law_part", 5), ("_law_number", 4)]) (N := N__law_sum) (sc := C8.fnScope s__law_sum) (by decide +kernel)) (fun _ _ _ _ _ => (pg_tup rfl (pgs_cons (pg_name (i := 5) sc__law_sum.nd rfl (Or.inl rfl)) (pgs_cons (pg_name (i := 4) sc__law_sum.nd rfl (Or.inl rfl)) pgs_nil)))) (fun _ _ _ _ _ => pts_nil) (fun _ _ _ _ _ => (pe_op op_mulB (pv 5) (pv 4))))))
(pss_one (ps_ret (pe_callB (cr_sum rfl) (by rfl) B.sum (by decide +kernel) (pa_cons (pv 2) pa_nil)))))), ?_⟩
    refine ⟨_, rfl, a, rfl, ⟨_, hA⟩, lc_map (T := T) (i := 4) (fun _ => .int 1) hA (by rw [List.length_map]; omega) (fun x H3 hx g Q' q' => q' _ (Gr.refl _)) fun c0 H1 nc0 g1 ec0 => ?_⟩
    rw [ones_pows] at ec0
    refine ⟨_, rfl, (k : Int), rfl, by omega, by omega, for_range (n := k) (fun j σ' H' => ∃ c y3, σ' = [some (.ref a), some (.int (k : Nat)), some (.ref c), y3, Option.none, Option.none] ∧ Gr T H H' ∧ H' c = some (.lst ((pows ns j).map V.int)))
      ⟨_, _, rfl, g1, ec0⟩ (fun j σ' H2 hj hW => ?_) fun σ' H2 hW => ?_⟩
    · obtain ⟨c, y3, rfl, g2, ec⟩ := hW
      refine ⟨_, rfl, _, rfl, c, a, _, _, rfl, sq ec, g2.sq hA, lc_zip (T := T) (i := 5) (j := 4) (by decide) mulV (sq ec) (g2.sq hA) (by rw [List.length_map, List.length_map, pows_len]) (by rw [List.length_map, pows_len]; omega)
        (fun x y H8 hxy g Q' q' => ?_) fun c2 H3 nc2 g3 ec2 => ?_⟩
      · obtain ⟨i, l, rfl, rfl, hi, hl⟩ := zip_mem hxy
        refine ⟨_, rfl, _, rfl, i, l, rfl, rfl, IntMulOk.of_le (bits_pow bn j i hi) (bn l hl) ?_, q' H8 (Gr.refl _)⟩
        have : 10000 * j ≤ 10000 * 1000 := Nat.mul_le_mul_left _ (by omega)
        omega
      rw [zip_mulV, pows_succ] at ec2
      exact ⟨_, _, rfl, g2.trans g3, ec2⟩
    · obtain ⟨c, y3, rfl, g2, ec⟩ := hW
      exact ⟨_, rfl, c, _, rfl, sq ec, q H2 g2⟩
def spSame4 (T : Tb) (K : PySem.W.Frag) : Sp := fun vs H Q _ => ∃ (a b r : Addr) (pls ns ms : List Int), vs = [.ref a, .ref b, .ref r] ∧ SqL K H r (pls.map V.int) ∧ SqL K H a (ns.map V.int) ∧ SqL K H b (ms.map V.int) ∧ pls.length ≤ 1000 ∧ ns.length ≤ 1000 ∧ ms.length ≤ 1000 ∧ ∀ H', Gr T H H' → Q (.bl (shownS pls ns ms)) H'
theorem sc__law_same : FnScope N__law_same ["_law_one", "_law_other", "_law_places"] (C8.fnScope s__law_same) := C8.fnScope_by (by decide +kernel)
theorem ok_law_same (B : Bt mg) (F : C8.Def K mg "_law_same" s__law_same f fd) (b : Binds K fd ["_law_one", "_law_other", "_law_places"] []) : C8.Cal P w K mg base 1 "_law_same" (spSame4 T K) [] := by
  refine C8.cal0 F b .nil sc__law_same (fun vs H Q E h => ?_) (fun cdv A outer s H vs Q E hr h => ?_)
  · obtain ⟨a, b, r, pls, ns, ms, rfl, _⟩ := h
    rfl
  · obtain ⟨a, b, r, pls, ns, ms, rfl, er, hA, hB, hp, hn, hm, q⟩ := h
    refine ⟨_, (C8.pss_cut (ps_if (PW.pt (pw_or (pt_cmpR op_ne (pe_callB call_len_seq (by rfl) B.len PySem.boot_len (pa_cons (pv 0) pa_nil)) (pe_callB call_len_seq (by rfl) B.len PySem.boot_len (pa_cons (pv 1) pa_nil)) (nomark _)) (pw_or1 (pt_cmpR (op_neD hr.units) (pe_callB cr_sortedI (by rfl) B.sorted (by decide +kernel) (pa_cons (pv 2) pa_nil)) (pe_listRg rfl (by rfl) B.list (prg_1 (by rfl) B.range (pe_callB call_len_seq (by rfl) B.len PySem.boot_len (pa_cons (pv 1) pa_nil)))) (nomark _)))))
(pss_one (ps_ret pe_bl))
pss_nil)
(pss_one (ps_ret (pe_callB (cr_all rfl) (by rfl) B.all (by decide +kernel) (pa_cons (pe_lc (own := [("_law_at", 3), ("_law_place", 4)]) (g := gTup K 2 (gCons (gName 3) (gCons (gName 4) gNil))) (tt := tYes) rfl sc__law_same.nd (pi_enum (by rfl) B.enumerate (pa_cons (pv 2) pa_nil)) (blkOk_by (own := [("_law_at", 3), ("_law_place", 4)]) (N := N__law_same) (sc := C8.fnScope s__law_same) (by decide +kernel)) (fun _ _ _ _ _ => (pg_tup rfl (pgs_cons (pg_name (i := 3) sc__law_same.nd rfl (Or.inl rfl)) (pgs_cons (pg_name (i := 4) sc__law_same.nd rfl (Or.inl rfl)) pgs_nil)))) (fun _ _ _ _ _ => pts_nil) (fun _ _ _ _ _ => (pe_cmpR op_eq (pe_ix (ix_list_at (K := K) rfl) (pv 0) (pv 3) (fun _ _ => rfl)) (pe_ix (ix_list_at (K := K) rfl) (pv 1) (pv 4) (fun _ _ => rfl)) (nomark _)))) pa_nil))))), ?_⟩
    refine ⟨fun σ' H' => σ' = [some (.ref a), some (.ref b), some (.ref r), Option.none, Option.none] ∧ Gr T H H' ∧ ns.length = ms.length ∧ pls.Perm (rng ns.length), ?_, fun σ' H' hmid => ?_⟩
    · refine ⟨_, rfl, a, _, rfl, .inl hA, _, rfl, b, _, rfl, .inl hB, rfl, _, rfl, ?_⟩
      rw [List.length_map, List.length_map, dec_ints]
      by_cases hl : ns.length = ms.length
      · rw [decide_eq_true (show ((ns.length : Nat) : Int) = ((ms.length : Nat) : Int) by omega)]
        refine ⟨_, rfl, r, pls, rfl, er, fun s1 p1 pm r1 np1 => ?_⟩
        have g12 := Gr.new (T := T) (o := .lst (s1.map V.int)) np1
        have e1 : (upd H p1 (.lst (s1.map V.int))) p1 = _ := upd_same
        generalize upd H p1 (.lst (s1.map V.int)) = H2 at *
        refine ⟨_, rfl, b, _, rfl, .inl (g12.sq hB), ms.length, by rw [List.length_map], RgOk.of_le (by omega) (by omega) (by omega) (by omega), fun q1 nq1 => ?_⟩
        rw [rgV_rng, ← hl]
        have g23 := Gr.new (T := T) (o := .lst ((rng ns.length).map V.int)) nq1
        have e2 : (upd H2 q1 (.lst ((rng ns.length).map V.int))) q1 = _ := upd_same
        refine ⟨dI s1, dI (rng ns.length), dp_l (sq (g23.l e1)), dp_l (sq e2), sh_dI _, sh_dI _, _, rfl, ?_⟩
        rw [eqv_dI]
        by_cases hs : s1 = rng ns.length
        · rw [decide_eq_true hs]
          exact ⟨rfl, g12.trans g23, rfl, (sorted_rng pm r1).mp hs⟩
        · rw [decide_eq_false hs]
          have : shownS pls ns ms = false := by
            unfold shownS
            rw [decide_eq_false (fun h => hs ((sorted_rng pm r1).mpr h)), Bool.false_and, Bool.and_false]
          rw [this] at q
          exact q _ (g12.trans g23)
      · rw [decide_eq_false (show ¬ ((ns.length : Nat) : Int) = ((ms.length : Nat) : Int) by omega)]
        have : shownS pls ns ms = false := by
          unfold shownS
          rw [decide_eq_false hl, Bool.false_and]
        rw [this] at q
        exact q _ (Gr.refl _)
    obtain ⟨rfl, g2, hl, hperm⟩ := hmid
    have lp : pls.length = ns.length := by rw [hperm.length_eq, rng_len]
    have er2 := g2.sq er
    refine ⟨_, rfl, r, _, rfl, er2, lc_enum (T := T) (i := 3) (j := 4) (by decide) (meets ns ms) er2 (by rw [List.length_map]; omega) (fun k x H3 hx g Q' q' => ?_) fun u2 H3 nu2 g3 eu2 => ?_⟩
    · obtain ⟨z, hz, rfl⟩ := int_at hx
      have hk := (List.getElem?_eq_some_iff.mp hz).1
      have hk2 : k < ns.length := by omega
      obtain ⟨j, hj, ej⟩ := List.mem_map.mp (hperm.mem_iff.mp (List.mem_of_getElem? hz))
      have hj := List.mem_range.mp hj
      have hj2 : j < ms.length := by omega
      have g03 := g2.trans g
      subst ej
      have e1 : ns.getD k 0 = ns[k] := by rw [List.getD_eq_getElem?_getD, List.getElem?_eq_getElem hk2]; rfl
      have e2 : ms.getD ((j : Int)).toNat 0 = ms[j] := by rw [Int.toNat_natCast, List.getD_eq_getElem?_getD, List.getElem?_eq_getElem hj2]; rfl
      refine ⟨_, rfl, _, rfl, a, _, (k : Int), .int ns[k], rfl, rfl, g03.sq hA, atI_nat (by rw [List.getElem?_map, List.getElem?_eq_getElem hk2]; rfl), _, rfl, _, rfl, b, _, (j : Int), .int ms[j], rfl, rfl, g03.sq hB, atI_nat (by rw [List.getElem?_map, List.getElem?_eq_getElem hj2]; rfl), rfl, ?_⟩
      rw [dec_ints]
      have : meets ns ms k (.int (j : Int)) = .bl (decide (ns[k] = ms[j])) := by
        show V.bl (decide (ns.getD k 0 = ms.getD ((j : Int)).toNat 0)) = _
        rw [e1, e2]
      rw [← this]
      exact q' _ (Gr.refl _)
    rw [List.length_map, meets_img] at eu2
    refine ⟨u2, _, rfl, sq eu2, ?_⟩
    have : shownS pls ns ms = (((List.range pls.length).map fun k => decide (ns.getD k 0 = ms.getD (pls.getD k 0).toNat 0)).all id) := by
      unfold shownS
      rw [decide_eq_true hl, decide_eq_true hperm, Bool.true_and, Bool.true_and]
    rw [← this]
    exact q _ (g2.trans g3)
end
end Wk
/-! ### places with something changed -/
namespace Wk
open PySem PySem.Spec PyProof.Rows L2 Kx Ep
open PySem.Builtin.Int (intBits)
section
variable {P : Program} {w : World} {K : PySem.W.Frag} {mg : Str → Option Value} {base : Heap} {f : Addr} {fd : FuncData} {T : Tb} {CU CS CA : Addr} {PT : Addr}
theorem ixN_at {n j : Nat} (h : j < n) : ixN n (j : Int) = some j := by
  unfold ixN
  rw [if_pos (Int.natCast_nonneg _), if_pos (by omega), Int.toNat_natCast]
def spBent (T : Tb) (K : PySem.W.Frag) : Sp := fun vs H Q _ => ∃ (r : Addr) (zs : List Int) (c : Int) (m : Nat), vs = [.ref r, .int c, .int m] ∧ SqL K H r (zs.map V.int) ∧ zs.length ≤ 900 ∧
  ∀ p (ws : List Int) H', Gr T H H' → H' p = some (.lst (ws.map V.int)) → ws.length ≤ zs.length + 1 → Q (.ref p) H'
theorem sc__law_bent : FnScope N__law_bent ["_law_some", "_law_cell", "_law_many"] (C8.fnScope s__law_bent) := C8.fnScope_by (by decide +kernel)
theorem ok_law_bent (B : Bt mg) (F : C8.Def K mg "_law_bent" s__law_bent f fd) (b : Binds K fd ["_law_some", "_law_cell", "_law_many"] []) (c__law_draw : C8.Cal P w K mg base 1 "_law_draw" (spDraw T) []) : C8.Cal P w K mg base 2 "_law_bent" (spBent T K) [] := by
  refine C8.cal0 F b .nil sc__law_bent (fun vs H Q E h => ?_) (fun cdv A outer s H vs Q E hr h => ?_)
  · obtain ⟨r, zs, c, m, rfl, _⟩ := h
    rfl
  · obtain ⟨r, zs, c, m, rfl, hR, hz, q⟩ := h
    refine ⟨_, (pss_cons (ps_par (i := 3) (j := 4) rfl sc__law_bent.nd rfl rfl (by decide) rfl rfl (pa_cons (C8.pe_c c__law_draw hr (by decide) (by rfl) (pa_cons (pv 1) (pa_cons pe_int (pa_cons pe_int pa_nil)))) (pa_cons (pe_op op_sub (C8.pe_c c__law_draw hr (by decide) (by rfl) (pa_cons (pv 1) (pa_cons pe_int (pa_cons (pe_op op_add (pv 2) pe_int) pa_nil)))) pe_int) pa_nil)) (by rfl))
(pss_cons (ps_if (pt_cmpR (op_eqD hr.units) (pv 0) (pe_lst pa_nil) (nomark _))
(pss_one (ps_ret (pe_ifExp (pt_cmpR op_lt (pv 3) pe_int (nomark _)) (pe_lst (pa_cons (pv 4) pa_nil)) (pe_lst pa_nil))))
pss_nil)
(pss_cons (ps_par3 (i := 5) (j := 6) (l := 7) rfl sc__law_bent.nd rfl rfl rfl (by decide) (by decide) (by decide) rfl rfl rfl (pa_cons (C8.pe_c c__law_draw hr (by decide) (by rfl) (pa_cons (pv 1) (pa_cons pe_int (pa_cons (pe_callB call_len_seq (by rfl) B.len PySem.boot_len (pa_cons (pv 0) pa_nil)) pa_nil)))) (pa_cons (C8.pe_c c__law_draw hr (by decide) (by rfl) (pa_cons (pv 1) (pa_cons pe_int (pa_cons (pe_callB call_len_seq (by rfl) B.len PySem.boot_len (pa_cons (pv 0) pa_nil)) pa_nil)))) (pa_cons (pe_callTy call_list_of (by rfl) B.list (by decide +kernel) (pa_cons (pv 0) pa_nil)) pa_nil))) (by rfl))
(C8.pss_cut (ps_if (pt_cmpR op_lt (pv 3) pe_int (nomark _))
(pss_one (ps_asg (pe_tup (pa_cons (pe_ix ix_list (pv 7) (pv 6) (fun _ _ => rfl)) (pa_cons (pe_ix ix_list (pv 7) (pv 5) (fun _ _ => rfl)) pa_nil))) (pg_tup rfl (pgs_cons (pg_sub (pv 7) (pv 5) set_list) (pgs_cons (pg_sub (pv 7) (pv 6) set_list) pgs_nil)))))
pss_nil)
(C8.pss_cut (ps_if (pt_cmpR op_eq (pv 3) pe_int (nomark _))
(pss_one (ps_expr (pe_bm PySem.F.plainAttrs_list PySem.F.slot_list_pop PySem.F.type_list_pop mt_popAt (pv 7) (pa_cons (pv 5) pa_nil))))
pss_nil)
(C8.pss_cut (ps_if (pt_cmpR op_eq (pv 3) pe_int (nomark _))
(pss_one (ps_asg (pv 4) (pg_sub (pv 7) (pv 5) set_list)))
pss_nil)
(C8.pss_cut (ps_if (pt_cmpR op_eq (pv 3) pe_int (nomark _))
(pss_one (ps_expr (pe_bm PySem.F.plainAttrs_list PySem.F.slot_list_insert PySem.F.type_list_insert mt_insert (pv 7) (pa_cons (pv 5) (pa_cons (pe_ix ix_list (pv 7) (pv 6) (fun _ _ => rfl)) pa_nil)))))
pss_nil)
(pss_cons (ps_if (pt_cmpR op_eq (pv 3) pe_int (nomark _))
(pss_one (ps_ret (pe_revL (pv 7))))
pss_nil)
(pss_one (ps_ret (pv 7))))))))))), ?_⟩
    refine ⟨_, rfl, c, 1, 8, rfl, by decide, by decide, fun kd H1 k0 k1 g1 => ?_⟩
    refine ⟨_, rfl, _, rfl, (m : Int), 2, rfl, rfl, c, 2, (m : Int) + 2, rfl, by decide, by omega, fun st H2 _ _ g12 => ?_⟩
    refine ⟨st, 1, rfl, rfl, _, _, rfl, ?_⟩
    show tSeq _ _ _ [some (.ref r), some (.int c), some (.int m), some (.int kd), some (.int (st - 1)), Option.none, Option.none, Option.none] _
    generalize st - 1 = str
    have g2 := g1.trans g12
    refine ⟨_, rfl, Nat.zero_le _, fun u nu => ?_⟩
    have g23 := Gr.new (T := T) (o := .lst []) nu
    have eu : (upd H2 u (.lst [])) u = some (.lst (([] : List Int).map V.int)) := upd_same
    generalize upd H2 u (.lst []) = H3 at *
    have g3 := g2.trans g23
    refine ⟨dI zs, dI [], dp_l (g3.sq hR), dp_l (l := []) (sq eu), sh_dI _, sh_dI _, _, rfl, ?_⟩
    rw [eqv_dI]
    by_cases hz0 : zs = []
    · rw [decide_eq_true hz0]
      refine ⟨_, rfl, kd, 4, rfl, rfl, _, rfl, ite2 (fun _ => ?_) (fun _ => ?_)⟩
      · refine ⟨_, rfl, show 1 ≤ sizeLine by decide, fun p np => ?_⟩
        exact q p [str] _ (g3.trans (Gr.new np)) upd_same (by rw [hz0]; exact Nat.le_refl _)
      · refine ⟨Nat.zero_le _, fun p np => ?_⟩
        exact q p [] _ (g3.trans (Gr.new np)) upd_same (Nat.zero_le _)
    rw [decide_eq_false hz0]
    have pos : 0 < zs.length := List.length_pos_iff.mpr hz0
    refine ⟨_, rfl, _, rfl, r, _, rfl, .inl (g3.sq hR), c, 3, (zs.length : Int), by rw [List.length_map]; rfl, by decide, by omega, fun at_ H4 a0 a1 g34 => ?_⟩
    have g4 := g3.trans g34
    refine ⟨_, rfl, _, rfl, r, _, rfl, .inl (g4.sq hR), c, 4, (zs.length : Int), by rw [List.length_map]; rfl, by decide, by omega, fun ot H5 o0 o1 g45 => ?_⟩
    have g5 := g4.trans g45
    obtain ⟨at_, rfl⟩ := Int.eq_ofNat_of_zero_le a0
    obtain ⟨ot, rfl⟩ := Int.eq_ofNat_of_zero_le o0
    have ha : at_ < zs.length := by omega
    have ho : ot < zs.length := by omega
    refine ⟨_, rfl, r, zs.map V.int, rfl, .inl (g5.sq hR), fun fo nfo => ?_⟩
    have nfo0 : H fo = Option.none := g5.lost _ nfo
    have g56 := Gr.new (T := T) (o := .lst (zs.map V.int)) nfo
    have ef : (upd H5 fo (.lst (zs.map V.int))) fo = _ := upd_same
    generalize upd H5 fo (.lst (zs.map V.int)) = H6 at *
    have g6 := g5.trans g56
    refine ⟨_, _, _, rfl, ?_⟩
    -- exchanged
    refine ⟨fun σ' J => σ' = [some (.ref r), some (.int c), some (.int m), some (.int kd), some (.int str), some (.int (at_ : Nat)), some (.int (ot : Nat)), some (.ref fo)] ∧ Gr T H J ∧ ∃ ws : List Int, J fo = some (.lst (ws.map V.int)) ∧ ws.length = zs.length, ?_, fun σ' J hmid => ?_⟩
    · refine ⟨_, rfl, kd, 3, rfl, rfl, _, rfl, ite2 (fun _ => ?_) (fun _ => ⟨rfl, g6, zs, ef, rfl⟩)⟩
      have e1 : zs[ot]? = some zs[ot] := List.getElem?_eq_getElem ho
      have e2 : zs[at_]? = some zs[at_] := List.getElem?_eq_getElem ha
      generalize zs[ot] = v1 at e1
      generalize zs[at_] = v2 at e2
      refine ⟨_, rfl, _, rfl, fo, _, (ot : Int), .int v1, rfl, rfl, sq ef, atI_nat (by rw [List.getElem?_map, e1]; rfl), _, rfl, _, rfl, fo, _, (at_ : Int), .int v2, rfl, rfl, sq ef, atI_nat (by rw [List.getElem?_map, e2]; rfl), show 2 ≤ sizeLine by decide, fun t nt => ?_⟩
      have gt := Gr.new (T := T) (o := .tup [.int v1, .int v2]) nt
      have et : (upd H6 t (.tup [.int v1, .int v2])) t = _ := upd_same
      have ef2 := gt.l ef
      have g7 := g6.trans gt
      generalize upd H6 t (.tup [.int v1, .int v2]) = H7 at *
      refine ⟨t, _, rfl, stp et, rfl, _, _, rfl, ?_⟩
      refine ⟨_, rfl, _, rfl, fo, _, (at_ : Int), at_, rfl, rfl, ef2, by rw [List.length_map]; exact ixN_at ha, ?_⟩
      have g8 := g7.mut (o := .lst ((zs.map V.int).set at_ (.int v1))) nfo0 ef2 trivial
      have ef3 : (upd H7 fo (.lst ((zs.map V.int).set at_ (.int v1)))) fo = some (.lst ((zs.set at_ v1).map V.int)) := by rw [upd_same, List.map_set]
      generalize upd H7 fo (.lst ((zs.map V.int).set at_ (.int v1))) = H8 at *
      refine ⟨_, _, rfl, _, rfl, _, rfl, fo, _, (ot : Int), ot, rfl, rfl, ef3, by rw [List.length_map, List.length_set]; exact ixN_at ho, ?_⟩
      exact ⟨rfl, rfl, g8.mut nfo0 ef3 trivial, (zs.set at_ v1).set ot v2, by rw [upd_same]; simp only [List.map_set], by rw [List.length_set, List.length_set]⟩
    obtain ⟨rfl, g7, ws, ef7, lw⟩ := hmid
    refine ⟨fun σ' J' => σ' = [some (.ref r), some (.int c), some (.int m), some (.int kd), some (.int str), some (.int (at_ : Nat)), some (.int (ot : Nat)), some (.ref fo)] ∧ Gr T H J' ∧ ∃ ws : List Int, J' fo = some (.lst (ws.map V.int)) ∧ ws.length ≤ zs.length ∧ (kd ≠ 3 → ws.length = zs.length), ?_, fun σ' J' hmid => ?_⟩
    · refine ⟨_, rfl, rfl, _, rfl, ite2 (fun h3 => ?_) (fun _ => ⟨rfl, g7, ws, ef7, by omega, fun _ => lw⟩)⟩
      have h3 : kd = 3 := V.int.inj (of_decide_eq_true h3)
      have e2 : ws[at_]? = some ws[at_] := List.getElem?_eq_getElem (by omega)
      refine ⟨_, rfl, .inl ⟨rfl, _, sq ef7⟩, _, rfl, fo, _, (at_ : Int), at_, .int ws[at_], rfl, rfl, ef7, by omega, by omega, ?_, by rw [List.getElem?_map, e2]; rfl, ?_⟩
      · rw [seqIndex_of (Int.natCast_nonneg _) (by rw [List.length_map]; omega), Int.toNat_natCast]
      refine ⟨rfl, g7.mut nfo0 ef7 trivial, ws.eraseIdx at_, by rw [upd_same, erase_mapI], by rw [List.length_eraseIdx]; split <;> omega, fun n => absurd h3 n⟩
    clear ef7 lw ws
    obtain ⟨rfl, g8, ws, ef8, lw, lw3⟩ := hmid
    refine ⟨fun σ' J'' => σ' = [some (.ref r), some (.int c), some (.int m), some (.int kd), some (.int str), some (.int (at_ : Nat)), some (.int (ot : Nat)), some (.ref fo)] ∧ Gr T H J'' ∧ ∃ ws : List Int, J'' fo = some (.lst (ws.map V.int)) ∧ ws.length ≤ zs.length ∧ (kd ≠ 3 → ws.length = zs.length), ?_, fun σ' J'' hmid => ?_⟩
    · refine ⟨_, rfl, rfl, _, rfl, ite2 (fun h4 => ?_) (fun _ => ⟨rfl, g8, ws, ef8, lw, lw3⟩)⟩
      have h4 : kd = 4 := V.int.inj (of_decide_eq_true h4)
      have l3 := lw3 (by omega)
      refine ⟨_, rfl, _, rfl, _, rfl, fo, _, (at_ : Int), at_, rfl, rfl, ef8, by rw [List.length_map]; exact ixN_at (by omega), ?_⟩
      exact ⟨rfl, g8.mut nfo0 ef8 trivial, ws.set at_ str, by rw [upd_same, List.map_set], by rw [List.length_set]; exact lw, fun n => by rw [List.length_set]; exact l3⟩
    clear ef8 lw lw3 ws
    obtain ⟨rfl, g9, ws, ef9, lw, lw3⟩ := hmid
    refine ⟨fun σ' J3 => σ' = [some (.ref r), some (.int c), some (.int m), some (.int kd), some (.int str), some (.int (at_ : Nat)), some (.int (ot : Nat)), some (.ref fo)] ∧ Gr T H J3 ∧ ∃ ws : List Int, J3 fo = some (.lst (ws.map V.int)) ∧ ws.length ≤ zs.length + 1, ?_, fun σ' J3 hmid => ?_⟩
    · refine ⟨_, rfl, rfl, _, rfl, ite2 (fun h5 => ?_) (fun _ => ⟨rfl, g9, ws, ef9, by omega⟩)⟩
      have h5 : kd = 5 := V.int.inj (of_decide_eq_true h5)
      have l3 := lw3 (by omega)
      have e1 : ws[ot]? = some ws[ot] := List.getElem?_eq_getElem (by omega)
      generalize ws[ot] = v1 at e1
      refine ⟨_, rfl, .inl ⟨rfl, _, sq ef9⟩, _, rfl, _, rfl, _, rfl, fo, _, (ot : Int), .int v1, rfl, rfl, sq ef9, atI_nat (by rw [List.getElem?_map, e1]; rfl), fo, _, (at_ : Int), .int v1, rfl, rfl, ef9, szs (by rw [List.length_map]; omega), by omega, by omega, ?_⟩
      refine ⟨rfl, g9.mut nfo0 ef9 trivial, ws.take at_ ++ [v1] ++ ws.drop at_, ?_, ?_⟩
      · rw [upd_same, Int.toNat_natCast, List.map_append, List.map_append, List.map_take, List.map_drop]; rfl
      · rw [List.length_append, List.length_append, List.length_take, List.length_drop]; show _ + 1 + _ ≤ _; omega
    clear ef9 lw lw3 ws
    obtain ⟨rfl, g10, ws, ef10, lw⟩ := hmid
    refine ⟨_, rfl, rfl, _, rfl, ite2 (fun _ => ?_) (fun _ => ?_)⟩
    · refine ⟨_, rfl, fo, _, rfl, sq ef10, fun p np => ?_⟩
      rw [← List.map_reverse]
      exact q p ws.reverse _ (g10.trans (Gr.new np)) upd_same (by rw [List.length_reverse]; exact lw)
    · exact ⟨_, rfl, q fo ws _ g10 ef10 lw⟩
end
end Wk
/-! ### law 4 -/
namespace Wk
open PySem PySem.Spec PyProof.Rows L2 Kx Ep
open PySem.Builtin.Int (intBits)
section
variable {P : Program} {w : World} {K : PySem.W.Frag} {mg : Str → Option Value} {base : Heap} {f : Addr} {fd : FuncData} {T : Tb} {CU CS CA : Addr} {PT : Addr}
def spLawT (PT : Addr) (K : PySem.W.Frag) : Sp := fun vs H Q _ => ∃ (a : Addr) (ns : List Int), vs = [.ref a] ∧ SqL K H a (ns.map V.int) ∧ ns.length ≤ 63 ∧ Bits 1048576 ns ∧ LamX.TabS H PT qL ∧ ∀ H', Q (.bl true) H'
theorem ans_cases {H : Hp} {v : V} {l m : List Int} (h : Is CS CU H v (saidOf l m)) : (l.Perm m ∧ ∃ p dx r, v = .ref p ∧ H p = some (.ins CS dx (sf r)) ∧ H r = some (.lst (((placesOf l m).map fun i : Nat => (i : Int)).map V.int))) ∨
    (∃ k p dx, First l m k ∧ v = .ref p ∧ H p = some (.ins CU dx (uf (.int (k : Nat)) (.int (psum l k - psum m k))))) := by
  by_cases hp : l.Perm m
  · rw [saidOf_perm hp] at h
    obtain ⟨_, p, dx, r, e, h1, h2⟩ := h
    exact .inl ⟨hp, p, dx, r, e, h1, h2⟩
  · obtain ⟨k, hk⟩ := first_exists hp
    rw [saidOf_first hk] at h
    obtain ⟨p, dx, e, h1⟩ := h
    exact .inr ⟨k, p, dx, hk, e, h1⟩
/-- due == (p, q) -/
theorem due_eq {H : Hp} {dv : V} {l m : List Int} {p q : Int} {t : Addr} (td : Tells H dv l m) (et : H t = some (.tup [.int p, .int q])) : ∃ d1 d2 : PyData, Dp K H dv d1 ∧ Dp K H (.ref t) d2 ∧ SeqAt.shaped d1 = true ∧ SeqAt.shaped d2 = true ∧ PyData.eqv d1 d2 = shownU p q l m := by
  refine ?_
  by_cases hp : l.Perm m
  · obtain rfl := td.1 hp
    exact ⟨.none, dT [p, q], .non, dp_t (stp et), by decide, sh_dT _, by rw [eqv_none_dT, shownU_false fun h => h.not_perm hp]⟩
  · obtain ⟨r, k, rfl, hk, er⟩ := td.2 hp
    refine ⟨dT [(k : Int), psum l k - psum m k], dT [p, q], dp_t (stp er), dp_t (stp et), sh_dT _, sh_dT _, ?_⟩
    rw [eqv_dT]
    by_cases hd : ([(k : Int), psum l k - psum m k] : List Int) = [p, q]
    · have h1 := (List.cons.inj hd).1
      have h2 := (List.cons.inj (List.cons.inj hd).2).1
      rw [decide_eq_true hd, shownU_true ⟨k, h1.symm, hk, h2.symm⟩]
    · rw [decide_eq_false hd, shownU_false (fun h => hd (by obtain ⟨e1, e2⟩ := h.uniq ⟨k, rfl, hk, rfl⟩; rw [e1, e2]))]
theorem elem7 {H : Hp} {t1 t2 t3 t4 t5 t6 t7 : Addr} {p1 p2 p3 p4 p5 p6 p7 q1 q2 q3 q4 q5 q6 q7 : Int} (f1 : H t1 = some (.tup [.int p1, .int q1])) (f2 : H t2 = some (.tup [.int p2, .int q2])) (f3 : H t3 = some (.tup [.int p3, .int q3])) (f4 : H t4 = some (.tup [.int p4, .int q4])) (f5 : H t5 = some (.tup [.int p5, .int q5])) (f6 : H t6 = some (.tup [.int p6, .int q6])) (f7 : H t7 = some (.tup [.int p7, .int q7])) :
    ∀ w ∈ ([.ref t1, .ref t2, .ref t3, .ref t4, .ref t5, .ref t6, .ref t7] : List V), ∃ (t : Addr) (p q : Int), w = .ref t ∧ H t = some (.tup [.int p, .int q]) := by
  intro w hw
  simp only [List.mem_cons, List.not_mem_nil, or_false] at hw
  rcases hw with rfl | rfl | rfl | rfl | rfl | rfl | rfl
  · exact ⟨_, _, _, rfl, f1⟩
  · exact ⟨_, _, _, rfl, f2⟩
  · exact ⟨_, _, _, rfl, f3⟩
  · exact ⟨_, _, _, rfl, f4⟩
  · exact ⟨_, _, _, rfl, f5⟩
  · exact ⟨_, _, _, rfl, f6⟩
  · exact ⟨_, _, _, rfl, f7⟩
theorem sc_law : FnScope N_law ["_law_script"] (C8.fnScope s_law) := C8.fnScope_by (by decide +kernel)
theorem ok_law (hT : T = tabT PT) (B : Bt mg) (U : UCl K mg CU) (iU : C8.InsC K CU) (S : SCl K mg CS) (iS : C8.InsC K CS) (qUS : PySem.W.kitOne K (.ref CU) (.ref CS) = some false) (F : C8.Def K mg "law" s_law f fd) (c__law_draw : C8.Cal P w K mg base 1 "_law_draw" (spDraw T) []) (c__law_cell_at : C8.Cal P w K mg base 1 "_law_cell_at" (spCellAt K) [])
    (c__law_heaps : C8.Cal P w K mg base 3 "_law_heaps" (spHeaps T K) []) (c__law_first : C8.Cal P w K mg base 1 "_law_first" (spFirst T K) []) (c__law_says : C8.Cal P w K mg base 1 "_law_says" spSays []) (c__law_same : C8.Cal P w K mg base 1 "_law_same" (spSame4 T K) []) (c__law_bent : C8.Cal P w K mg base 2 "_law_bent" (spBent T K) [])
    (c__law_sum : C8.Cal P w K mg base 1 "_law_sum" (spSum4 T K) []) (c_alike : C8.Cal P w K mg base 4 "alike" (spAlike T PT K CU CS) []) (c_sshows : C8.Met P w K mg base 2 CS "shows" (spSShows T K CS) []) (c_ushows : C8.Met P w K mg base 3 CU "shows" (spUShows T K CU) []) (k_Unlike : C8.Mak P w K mg base 1 "Unlike" CU (spUInit CU) []) (k_Same : C8.Mak P w K mg base 1 "Same" CS (spSInit K CS) []) :
    FnOk P w K mg base C8.CX0 7 f fd ["_law_script"] (spLawT PT K) := by
  have g_Same := S.mgC
  have g_Unlike := U.mgC
  refine C8.fn0 F.fn sc_law (fun vs H Q E h => ?_) (fun cdv A outer s H vs Q E hr h => ?_)
  · obtain ⟨a, ns, rfl, _⟩ := h
    rfl
  · obtain ⟨a, ns, rfl, hA, hn, hb, tb, q⟩ := h
    refine ⟨_, (pss_cons (ps_asg (C8.pe_c c__law_heaps hr (by decide) (by rfl) (pa_cons (pv 0) pa_nil)) (pg_tup rfl (pgs_cons (pg_name (i := 1) sc_law.nd rfl (Or.inl rfl)) (pgs_cons (pg_name (i := 2) sc_law.nd rfl (Or.inl rfl)) pgs_nil))))
(pss_cons (ps_for PassesOwn.never rfl (pi_tup (pe_tup (pa_cons (pe_tup (pa_cons (pv 1) (pa_cons (pv 2) pa_nil))) (pa_cons (pe_tup (pa_cons (pv 1) (pa_cons (pe_revL (pv 1)) pa_nil))) (pa_cons (pe_tup (pa_cons (pe_op op_rep (pe_slice sl_list (pv 2) po_none (po_some pe_int)) pe_int) (pa_cons (pe_op op_rep (pe_slice sl_list (pv 2) po_none (po_some pe_int)) pe_int) pa_nil))) pa_nil))))) (pg_tup rfl (pgs_cons (pg_name (i := 3) sc_law.nd rfl (Or.inl rfl)) (pgs_cons (pg_name (i := 4) sc_law.nd rfl (Or.inl rfl)) pgs_nil)))
(pss_cons (ps_par (i := 5) (j := 6) rfl sc_law.nd rfl rfl (by decide) rfl rfl (pa_cons (C8.pe_c c_alike hr (by decide) (by rfl) (pa_cons (pv 3) (pa_cons (pv 4) pa_nil))) (pa_cons (C8.pe_c c__law_first hr (by decide) (by rfl) (pa_cons (pv 3) (pa_cons (pv 4) pa_nil))) pa_nil)) (by rfl))
(C8.pss_cut (ps_set (i := 7) sc_law.nd rfl (.inl rfl) (pe_ifExp (pt_val (pe_callB call_isi (by rfl) B.isinstance (by decide +kernel) (pa_cons (pv 5) (pa_cons (pe_glob (v := V.ref CS) (by rfl) g_Same rfl) pa_nil)))) (pe_fld (pv 5) rfl) (pe_listRg rfl (by rfl) B.list (prg_1 (by rfl) B.range (pe_callB call_len_seq (by rfl) B.len PySem.boot_len (pa_cons (pv 3) pa_nil))))))
(C8.pss_cut (ps_asg (pe_ifExp (pt_cmpR op_notN (pv 6) pe_non (nomark _)) (pv 6) (pe_tup (pa_cons (pe_callB call_len_seq (by rfl) B.len PySem.boot_len (pa_cons (pv 3) pa_nil)) (pa_cons pe_int pa_nil)))) (pg_tup rfl (pgs_cons (pg_name (i := 8) sc_law.nd rfl (Or.inl rfl)) (pgs_cons (pg_name (i := 9) sc_law.nd rfl (Or.inl rfl)) pgs_nil))))
(pss_one (ps_for PassesOwn.never rfl (pi_range1 rfl B.range (pa_cons pe_int pa_nil)) (pg_name (i := 10) sc_law.nd rfl (Or.inl rfl))
(pss_cons (ps_set (i := 11) sc_law.nd rfl (.inl rfl) (pe_op op_add (pe_op op_add (C8.pe_c c__law_cell_at hr (by decide) (by rfl) (pa_cons (pv 0) (pa_cons (pv 10) pa_nil))) (pe_op op_mulB pe_int (pv 10))) (pe_op op_mulB pe_int (C8.pe_c c__law_cell_at hr (by decide) (by rfl) (pa_cons (pv 0) (pa_cons (pe_op op_add (pv 10) pe_int) pa_nil))))))
(pss_cons (ps_for PassesOwn.never rfl (pi_tup (pe_tup (pa_cons (C8.pe_c c__law_bent hr (by decide) (by rfl) (pa_cons (pv 7) (pa_cons (pv 11) (pa_cons (pe_callB call_len_seq (by rfl) B.len PySem.boot_len (pa_cons (pv 4) pa_nil)) pa_nil)))) (pa_cons (pv 7) (pa_cons (pe_listRg rfl (by rfl) B.list (prg_1 (by rfl) B.range (pe_callB call_len_seq (by rfl) B.len PySem.boot_len (pa_cons (pv 3) pa_nil)))) pa_nil))))) (pg_name (i := 12) sc_law.nd rfl (Or.inl rfl))
(pss_cons (ps_set (i := 13) sc_law.nd rfl (.inl rfl) (pe_callTy call_list_of (by rfl) B.list (by decide +kernel) (pa_cons (pv 12) pa_nil)))
(pss_cons (ps_par (i := 14) (j := 15) rfl sc_law.nd rfl rfl (by decide) rfl rfl (pa_cons (C8.pe_mk k_Same hr (by decide) (by rfl) (pa_cons (pv 13) pa_nil)) (pa_cons (C8.pe_c c__law_same hr (by decide) (by rfl) (pa_cons (pv 3) (pa_cons (pv 4) (pa_cons (pv 12) pa_nil)))) pa_nil)) (by rfl))
(pss_cons (ps_expr (pe_bm PySem.F.plainAttrs_list PySem.F.slot_list_append PySem.F.type_list_append mt_append (pv 13) (pa_cons pe_int pa_nil)))
(pss_one (ps_if (PW.pt (pw_or (pt_cmpR (op_neD hr.units) (pe_fld (pv 14) rfl) (pv 12) (nomark _)) (pw_or1 (pt_not (pt_val (C8.pe_c c__law_says hr (by decide) (by rfl) (pa_cons (pe_either (C8.pe_mt c_sshows hr (by decide) (pv 14) (pa_cons (pv 3) (pa_cons (pv 4) pa_nil))) (C8.pe_mt c_ushows hr (by decide) (pv 14) (pa_cons (pv 3) (pa_cons (pv 4) pa_nil)))) (pa_cons (pv 15) pa_nil))))))))
(pss_one (ps_ret pe_bl))
pss_nil))))))
(pss_cons (ps_set (i := 16) sc_law.nd rfl (.inl rfl) (C8.pe_c c__law_draw hr (by decide) (by rfl) (pa_cons (pv 11) (pa_cons pe_int (pa_cons pe_int pa_nil)))))
(pss_cons (ps_set (i := 17) sc_law.nd rfl (.inl rfl) (pe_lst (pa_cons (pe_tup (pa_cons (pv 8) (pa_cons (pv 9) pa_nil))) (pa_cons (pe_tup (pa_cons (pe_op op_add (pv 8) pe_int) (pa_cons (pv 9) pa_nil))) (pa_cons (pe_tup (pa_cons (pe_op op_sub (pv 8) pe_int) (pa_cons (pv 9) pa_nil))) (pa_cons (pe_tup (pa_cons (pv 8) (pa_cons (pe_un un_neg (pv 9)) pa_nil))) (pa_cons (pe_tup (pa_cons (pv 8) (pa_cons pe_int pa_nil))) pa_nil)))))))
(pss_cons (ps_expr (pe_bm PySem.F.plainAttrs_list PySem.F.slot_list_append PySem.F.type_list_append mt_append (pv 17) (pa_cons (pe_tup (pa_cons (pe_op op_add (pv 8) pe_int) (pa_cons (pe_op op_sub (C8.pe_c c__law_sum hr (by decide) (by rfl) (pa_cons (pv 3) (pa_cons (pe_op op_add (pv 8) pe_int) pa_nil))) (C8.pe_c c__law_sum hr (by decide) (by rfl) (pa_cons (pv 4) (pa_cons (pe_op op_add (pv 8) pe_int) pa_nil)))) pa_nil))) pa_nil)))
(pss_cons (ps_for PassesOwn.never rfl (pi_list (pe_op op_cat (pv 17) (pe_lst (pa_cons (pe_tup (pa_cons (pv 8) (pa_cons (pe_op op_add (pv 9) (pv 16)) pa_nil))) pa_nil)))) (pg_tup rfl (pgs_cons (pg_name (i := 18) sc_law.nd rfl (Or.inl rfl)) (pgs_cons (pg_name (i := 19) sc_law.nd rfl (Or.inl rfl)) pgs_nil)))
(pss_cons (ps_set (i := 14) sc_law.nd rfl (.inl rfl) (C8.pe_mk k_Unlike hr (by decide) (by rfl) (pa_cons (pv 18) (pa_cons (pv 19) pa_nil))))
(C8.pss_cut (ps_if (PW.pt (pw_or (pt_cmpR op_ne (pe_fld (pv 14) rfl) (pv 18) (nomark _)) (pw_or1 (pt_cmpR op_ne (pe_fld (pv 14) rfl) (pv 19) (nomark _)))))
(pss_one (ps_ret pe_bl))
pss_nil)
(pss_one (ps_if (pt_not (pt_val (C8.pe_c c__law_says hr (by decide) (by rfl) (pa_cons (pe_either (C8.pe_mt c_sshows hr (by decide) (pv 14) (pa_cons (pv 3) (pa_cons (pv 4) pa_nil))) (C8.pe_mt c_ushows hr (by decide) (pv 14) (pa_cons (pv 3) (pa_cons (pv 4) pa_nil)))) (pa_cons (pe_cmpR (op_eqD hr.units) (pv 6) (pe_tup (pa_cons (pv 18) (pa_cons (pv 19) pa_nil))) (nomark _)) pa_nil)))))
(pss_one (ps_ret pe_bl))
pss_nil)))))
(pss_one (ps_if (pt_not (pt_val (C8.pe_c c__law_says hr (by decide) (by rfl) (pa_cons (pe_either (C8.pe_mt c_sshows hr (by decide) (C8.pe_mk k_Unlike hr (by decide) (by rfl) (pa_cons (pe_op op_sub (pv 16) pe_int) (pa_cons (pv 9) pa_nil))) (pa_cons (pv 3) (pa_cons (pv 4) pa_nil))) (C8.pe_mt c_ushows hr (by decide) (C8.pe_mk k_Unlike hr (by decide) (by rfl) (pa_cons (pe_op op_sub (pv 16) pe_int) (pa_cons (pv 9) pa_nil))) (pa_cons (pv 3) (pa_cons (pv 4) pa_nil)))) (pa_cons (pe_cmpR (op_eqD hr.units) (pv 6) (pe_tup (pa_cons (pe_op op_sub (pv 16) pe_int) (pa_cons (pv 9) pa_nil))) (nomark _)) pa_nil)))))
(pss_one (ps_ret pe_bl))
pss_nil))))))))))))))
(C8.pss_cut (ps_if (PW.pt (pw_or (pt_not (pt_val (C8.pe_c c__law_says hr (by decide) (by rfl) (pa_cons (pe_either (C8.pe_mt c_sshows hr (by decide) (C8.pe_mk k_Unlike hr (by decide) (by rfl) (pa_cons pe_int (pa_cons pe_int pa_nil))) (pa_cons (pe_lst (pa_cons pe_int pa_nil)) (pa_cons (pe_lst pa_nil) pa_nil))) (C8.pe_mt c_ushows hr (by decide) (C8.pe_mk k_Unlike hr (by decide) (by rfl) (pa_cons pe_int (pa_cons pe_int pa_nil))) (pa_cons (pe_lst (pa_cons pe_int pa_nil)) (pa_cons (pe_lst pa_nil) pa_nil)))) (pa_cons pe_bl pa_nil))))) (pw_or1 (pt_not (pt_val (C8.pe_c c__law_says hr (by decide) (by rfl) (pa_cons (pe_either (C8.pe_mt c_sshows hr (by decide) (C8.pe_mk k_Unlike hr (by decide) (by rfl) (pa_cons pe_int (pa_cons pe_int pa_nil))) (pa_cons (pe_lst (pa_cons pe_int pa_nil)) (pa_cons (pe_lst (pa_cons pe_int pa_nil)) pa_nil))) (C8.pe_mt c_ushows hr (by decide) (C8.pe_mk k_Unlike hr (by decide) (by rfl) (pa_cons pe_int (pa_cons pe_int pa_nil))) (pa_cons (pe_lst (pa_cons pe_int pa_nil)) (pa_cons (pe_lst (pa_cons pe_int pa_nil)) pa_nil)))) (pa_cons pe_bl pa_nil))))))))
(pss_one (ps_ret pe_bl))
pss_nil)
(pss_one (ps_ret (pe_and (C8.pe_c c__law_says hr (by decide) (by rfl) (pa_cons (pe_either (C8.pe_mt c_sshows hr (by decide) (C8.pe_mk k_Same hr (by decide) (by rfl) (pa_cons (pe_lst (pa_cons pe_int (pa_cons pe_int pa_nil))) pa_nil)) (pa_cons (pe_lst (pa_cons pe_int (pa_cons pe_int pa_nil))) (pa_cons (pe_lst (pa_cons pe_int (pa_cons pe_int pa_nil))) pa_nil))) (C8.pe_mt c_ushows hr (by decide) (C8.pe_mk k_Same hr (by decide) (by rfl) (pa_cons (pe_lst (pa_cons pe_int (pa_cons pe_int pa_nil))) pa_nil)) (pa_cons (pe_lst (pa_cons pe_int (pa_cons pe_int pa_nil))) (pa_cons (pe_lst (pa_cons pe_int (pa_cons pe_int pa_nil))) pa_nil)))) (pa_cons pe_bl pa_nil))) (pe_one (C8.pe_c c__law_says hr (by decide) (by rfl) (pa_cons (pe_either (C8.pe_mt c_sshows hr (by decide) (C8.pe_mk k_Same hr (by decide) (by rfl) (pa_cons (pe_lst pa_nil) pa_nil)) (pa_cons (pe_lst pa_nil) (pa_cons (pe_lst pa_nil) pa_nil))) (C8.pe_mt c_ushows hr (by decide) (C8.pe_mk k_Same hr (by decide) (by rfl) (pa_cons (pe_lst pa_nil) pa_nil)) (pa_cons (pe_lst pa_nil) (pa_cons (pe_lst pa_nil) pa_nil)))) (pa_cons pe_bl pa_nil)))))))))), ?_⟩
    have tabs : ∀ {H'}, Gr T H H' → LamX.TabS H' PT qL := fun g => (g.tab (fun z hz => by rw [hT] at hz; rw [List.mem_singleton.mp hz]; exact tb)) (PT, qL) (by rw [hT]; exact List.mem_singleton.mpr rfl)
    refine ⟨_, rfl, a, ns, rfl, hA, hn, hb, fun p x y xs ys H1 np nx ny g1 ep ex ey lx ly bx by' => ?_⟩
    refine ⟨p, _, rfl, stp ep, rfl, _, _, rfl, _, _, rfl, rfl, ?_⟩
    refine ⟨_, rfl, _, rfl, show 2 ≤ sizeLine by decide, fun t1 nt1 => ?_⟩
    have g2 := Gr.new (T := T) (o := .tup [.ref x, .ref y]) nt1
    have et1 : (upd H1 t1 (.tup [.ref x, .ref y])) t1 = _ := upd_same
    generalize upd H1 t1 (.tup [.ref x, .ref y]) = H2 at *
    refine ⟨_, rfl, _, rfl, x, _, rfl, sq (g2.l ex), fun r1 nr1 => ?_⟩
    rw [← List.map_reverse]
    have g23 := Gr.new (T := T) (o := .lst (xs.reverse.map V.int)) nr1
    have er1 : (upd H2 r1 (.lst (xs.reverse.map V.int))) r1 = _ := upd_same
    generalize upd H2 r1 (.lst (xs.reverse.map V.int)) = H3 at *
    have g3 := g2.trans g23
    refine ⟨show 2 ≤ sizeLine by decide, fun t2 nt2 => ?_⟩
    have g34 := Gr.new (T := T) (o := .tup [.ref x, .ref r1]) nt2
    have et2 : (upd H3 t2 (.tup [.ref x, .ref r1])) t2 = _ := upd_same
    generalize upd H3 t2 (.tup [.ref x, .ref r1]) = H4 at *
    have g4 := g3.trans g34
    -- other[:3] * 2, twice
    have bW : Bits 600 (ys.take 3 ++ ys.take 3) := fun z hz => by rcases List.mem_append.mp hz with h | h <;> exact by' z (List.mem_of_mem_take h)
    have lW : (ys.take 3 ++ ys.take 3).length ≤ 6 := by rw [List.length_append, List.length_take]; omega
    have rep2 : (List.replicate (2 : Int).toNat ((ys.take 3).map V.int)).flatten = (ys.take 3 ++ ys.take 3).map V.int := by
      rw [List.map_append]
      show (ys.take 3).map V.int ++ ((ys.take 3).map V.int ++ []) = _
      rw [List.append_nil]
    refine ⟨_, rfl, 3, rfl, y, _, rfl, sq (g4.l ey), fun s1 ns1 => ?_⟩
    rw [show (some (3 : Int)) = some (((3 : Nat)) : Int) from rfl, cut_to, ← List.map_take]
    have g45 := Gr.new (T := T) (o := .lst ((ys.take 3).map V.int)) ns1
    have es1 : (upd H4 s1 (.lst ((ys.take 3).map V.int))) s1 = _ := upd_same
    generalize upd H4 s1 (.lst ((ys.take 3).map V.int)) = H5 at *
    have g5 := g4.trans g45
    have l3 : ((ys.take 3).map V.int).length * (2 : Int).toNat ≤ sizeLine := szl (by rw [List.length_map, List.length_take]; show min 3 ys.length * 2 ≤ 100000; omega)
    refine ⟨s1, 2, _, rfl, rfl, es1, by decide, by decide, l3, fun w1 nw1 => ?_⟩
    rw [rep2]
    have g56 := Gr.new (T := T) (o := .lst ((ys.take 3 ++ ys.take 3).map V.int)) nw1
    have ew1 : (upd H5 w1 (.lst ((ys.take 3 ++ ys.take 3).map V.int))) w1 = _ := upd_same
    generalize upd H5 w1 (.lst ((ys.take 3 ++ ys.take 3).map V.int)) = H6 at *
    have g6 := g5.trans g56
    refine ⟨_, rfl, 3, rfl, y, _, rfl, sq (g6.l ey), fun s2 ns2 => ?_⟩
    rw [show (some (3 : Int)) = some (((3 : Nat)) : Int) from rfl, cut_to, ← List.map_take]
    have g67 := Gr.new (T := T) (o := .lst ((ys.take 3).map V.int)) ns2
    have es2 : (upd H6 s2 (.lst ((ys.take 3).map V.int))) s2 = _ := upd_same
    generalize upd H6 s2 (.lst ((ys.take 3).map V.int)) = H7 at *
    have g7 := g6.trans g67
    refine ⟨s2, 2, _, rfl, rfl, es2, by decide, by decide, l3, fun w2 nw2 => ?_⟩
    rw [rep2]
    have g78 := Gr.new (T := T) (o := .lst ((ys.take 3 ++ ys.take 3).map V.int)) nw2
    have ew2 : (upd H7 w2 (.lst ((ys.take 3 ++ ys.take 3).map V.int))) w2 = _ := upd_same
    generalize upd H7 w2 (.lst ((ys.take 3 ++ ys.take 3).map V.int)) = H8 at *
    have g8 := g7.trans g78
    refine ⟨show 2 ≤ sizeLine by decide, fun t3 nt3 => ?_⟩
    have g89 := Gr.new (T := T) (o := .tup [.ref w1, .ref w2]) nt3
    have et3 : (upd H8 t3 (.tup [.ref w1, .ref w2])) t3 = _ := upd_same
    generalize upd H8 t3 (.tup [.ref w1, .ref w2]) = H9 at *
    have g9 := g8.trans g89
    refine ⟨show 3 ≤ sizeLine by decide, fun tp ntp => ?_⟩
    have g910 := Gr.new (T := T) (o := .tup [.ref t1, .ref t2, .ref t3]) ntp
    have etp : (upd H9 tp (.tup [.ref t1, .ref t2, .ref t3])) tp = _ := upd_same
    generalize upd H9 tp (.tup [.ref t1, .ref t2, .ref t3]) = H10 at *
    have g10 := g9.trans g910
    have pairs : ∀ v ∈ ([.ref t1, .ref t2, .ref t3] : List V), ∃ (t u1 u2 : Addr) (l1 l2 : List Int), v = .ref t ∧ H10 t = some (.tup [.ref u1, .ref u2]) ∧ H10 u1 = some (.lst (l1.map V.int)) ∧ H10 u2 = some (.lst (l2.map V.int)) ∧ l1.length ≤ 63 ∧ l2.length ≤ 63 ∧ Bits 600 l1 ∧ Bits 600 l2 := by
      intro v hv
      have g410 := g45.trans (g56.trans (g67.trans (g78.trans (g89.trans g910))))
      simp only [List.mem_cons, List.not_mem_nil, or_false] at hv
      rcases hv with rfl | rfl | rfl
      · exact ⟨t1, x, y, xs, ys, rfl, (g23.trans (g34.trans g410)).t et1, g10.l ex, g10.l ey, lx, ly, bx, by'⟩
      · exact ⟨t2, x, r1, xs, _, rfl, g410.t et2, g10.l ex, (g34.trans g410).l er1, lx, by rw [List.length_reverse]; exact lx, bx, fun z hz => bx z (List.mem_reverse.mp hz)⟩
      · exact ⟨t3, w1, w2, _, _, rfl, g910.t et3, (g67.trans (g78.trans (g89.trans g910))).l ew1, (g89.trans g910).l ew2, by omega, by omega, bW, bW⟩
    have g0 := g1.trans g10
    clear g2 g3 g23 g34 g4 g45 g5 g56 g6 g67 g7 g78 g8 g89 g9 g910 g10 et1 et2 et3 er1 es1 es2 ew1 ew2 ep ex ey np nx ny nt1 nt2 nt3 nr1 ns1 ns2 nw1 nw2 ntp rep2 l3 bW lW
    refine ⟨tp, rfl, ⟨_, stp etp⟩, for_tup (K := K) (a := tp) (xs := [.ref t1, .ref t2, .ref t3]) (fun i σ' H' => ∃ z3 z4 z5 z6 z7 z8 z9 z10 z11 z12 z13 z14 z15 z16 z17 z18 z19, σ' = [some (.ref a), some (.ref x), some (.ref y), z3, z4, z5, z6, z7, z8, z9, z10, z11, z12, z13, z14, z15, z16, z17, z18, z19] ∧ Gr T H10 H')
      ⟨_, _, _, _, _, _, _, _, _, _, _, _, _, _, _, _, _, rfl, Gr.refl _⟩ (fun i σ' H' hi hW => ?_) (fun i v σ' H11 hx hW => ?_) fun σ' H11 hW => ?_⟩
    · obtain ⟨_, _, _, _, _, _, _, _, _, _, _, _, _, _, _, _, _, _, g⟩ := hW
      exact stp (g.t etp)
    · obtain ⟨z3, z4, z5, z6, z7, z8, z9, z10, z11, z12, z13, z14, z15, z16, z17, z18, z19, rfl, gA⟩ := hW
      obtain ⟨t, u1, u2, l1, l2, rfl, et, e1, e2, ll1, ll2, b1, b2⟩ := pairs v (List.mem_of_getElem? hx)
      have b1' : Bits 10000 l1 := b1.mono (by decide)
      have b2' : Bits 10000 l2 := b2.mono (by decide)
      refine ⟨t, _, rfl, stp (gA.t et), rfl, _, _, rfl, _, _, rfl, rfl, ?_⟩
      -- found, due
      refine ⟨_, rfl, _, rfl, ?_⟩
      (try delta L2.tNil); dsimp only
      refine alike_said (sq (gA.l e1)) (sq (gA.l e2)) (by omega) (by omega) (b1.mono (by decide)) (b2.mono (by decide)) (tabs (g0.trans gA)) fun v H12 g12 sv _ => ?_
      have gB := gA.trans g12
      refine ⟨_, rfl, _, rfl, u1, u2, l1, l2, rfl, sq (gB.l e1), sq (gB.l e2), by omega, by omega, b1.mono (by decide), b2.mono (by decide), fun dv H13 g13 td => ⟨_, _, rfl, ?_⟩⟩
      have gC := gB.trans g13
      have sv13 := sv.grow g13
      -- start
      refine ⟨fun σ' H' => ∃ (st : Addr) (zs : List Int), σ' = [some (.ref a), some (.ref x), some (.ref y), some (.ref u1), some (.ref u2), some v, some dv, some (.ref st), z8, z9, z10, z11, z12, z13, z14, z15, z16, z17, z18, z19] ∧ Gr T H13 H' ∧ H' st = some (.lst (zs.map V.int)) ∧ zs.length ≤ 63, ?_, fun σ' H14 hmid => ?_⟩
      · rcases ans_cases sv13 with ⟨hp, p, dx, r, rfl, ep, er⟩ | ⟨k, p, dx, hk, rfl, ep⟩
        · refine ⟨_, rfl, .ref p, .ref CS, .ref CS, .ref CS, true, rfl, .own CS, .base (.ins ep iS.cl iS.ha iS.hn iS.htk iS.hm), iS.me, true, rfl, ?_⟩
          refine ⟨_, rfl, p, CS, dx, _, .ref r, rfl, ep, S.cl, S.nL, sf_places _, ?_⟩
          exact ⟨r, _, rfl, Gr.refl _, er, by rw [List.length_map, (placing hp).len]; exact ll1⟩
        · refine ⟨_, rfl, .ref p, .ref CS, .ref CU, .ref CS, false, rfl, .own CS, .base (.ins ep iU.cl iU.ha iU.hn iU.htk iU.hm), qUS, false, rfl, ?_⟩
          refine ⟨_, rfl, u1, _, rfl, .inl (sq (gC.l e1)), l1.length, by rw [List.length_map], RgOk.of_le (by omega) (by omega) (by omega) (by omega), fun q1 nq1 => ?_⟩
          rw [rgV_rng]
          exact ⟨q1, rng l1.length, rfl, Gr.new nq1, upd_same, by rw [rng_len]; exact ll1⟩
      obtain ⟨st, zs, rfl, g14, est, lz⟩ := hmid
      have gD := gC.trans g14
      have td14 := td.grow g14
      -- power, more
      refine ⟨fun σ' H' => ∃ (k : Nat) (mo : Int), σ' = [some (.ref a), some (.ref x), some (.ref y), some (.ref u1), some (.ref u2), some v, some dv, some (.ref st), some (.int (k : Nat)), some (.int mo), z10, z11, z12, z13, z14, z15, z16, z17, z18, z19] ∧ Gr T H14 H' ∧ k ≤ 63, ?_, fun σ' H15 hmid => ?_⟩
      · by_cases hp : l1.Perm l2
        · obtain rfl := td14.1 hp
          refine ⟨_, rfl, rfl, false, rfl, ?_⟩
          refine ⟨_, rfl, u1, _, rfl, .inl (sq (gD.l e1)), show 2 ≤ sizeLine by decide, fun t nt => ?_⟩
          rw [List.length_map]
          refine ⟨t, _, rfl, stp upd_same, rfl, _, _, rfl, _, _, rfl, rfl, ?_⟩
          exact ⟨l1.length, 1, rfl, Gr.new nt, ll1⟩
        · obtain ⟨r, k, rfl, hk, er⟩ := td14.2 hp
          have most := hk.most
          refine ⟨_, rfl, rfl, true, rfl, _, rfl, ?_⟩
          refine ⟨r, _, rfl, stp er, rfl, _, _, rfl, _, _, rfl, rfl, ?_⟩
          exact ⟨k, _, rfl, Gr.refl _, by omega⟩
      obtain ⟨k, mo, rfl, g15, hk⟩ := hmid
      have gE := gD.trans g15
      have td15 := td14.grow g15
      have est15 := g15.l est
      have g0E := g0.trans gE
      have hA15 := (g1.trans (Gr.refl _)).sq hA
      refine ⟨2, rfl, by decide, by decide, for_range (n := 2) (fun j σ' H' => ∃ z10 z11 z12 z13 z14 z15 z16 z17 z18 z19, σ' = [some (.ref a), some (.ref x), some (.ref y), some (.ref u1), some (.ref u2), some v, some dv, some (.ref st), some (.int (k : Nat)), some (.int mo), z10, z11, z12, z13, z14, z15, z16, z17, z18, z19] ∧ Gr T H15 H')
        ⟨_, _, _, _, _, _, _, _, _, _, rfl, Gr.refl _⟩ (fun j σ' H16 hj hW => ?_) fun σ' H16 hW => ?_⟩
      · obtain ⟨z10, z11, z12, z13, z14, z15, z16, z17, z18, z19, rfl, g16⟩ := hW
        rw [Int.zero_add]
        have hA16 := (g0E.trans g16).sq hA
        refine ⟨_, rfl, _, rfl, a, ns, j, rfl, hA16, fun c1 hc1 => ?_⟩
        refine ⟨_, rfl, 977, (j : Int), rfl, rfl, mul_small' (by decide) (by decide), c1, _, rfl, rfl, ?_⟩
        refine ⟨_, rfl, _, rfl, j, 1, rfl, rfl, a, ns, j + 1, rfl, hA16, fun c2 hc2 => ?_⟩
        refine ⟨7, c2, rfl, rfl, mul_small' (by decide) (by decide), _, _, rfl, rfl, ?_⟩
        show tSeq _ _ _ [some (.ref a), some (.ref x), some (.ref y), some (.ref u1), some (.ref u2), some v, some dv, some (.ref st), some (.int (k : Nat)), some (.int mo), some (.int (j : Nat)), some (.int (c1 + 977 * (j : Int) + 7 * c2)), z12, z13, z14, z15, z16, z17, z18, z19] _
        generalize c1 + 977 * (j : Int) + 7 * c2 = cell
        have gF := gE.trans g16
        have est16 := g16.l est15
        -- the places
        refine ⟨_, rfl, _, rfl, _, rfl, u2, _, rfl, .inl (sq (gF.l e2)), st, zs, cell, (l2.map V.int).length, rfl, sq est16, by omega, fun bp ws H17 g17 ebp lbp => ?_⟩
        have gG := gF.trans g17
        refine ⟨_, rfl, _, rfl, u1, _, rfl, .inl (sq (gG.l e1)), l1.length, by rw [List.length_map], RgOk.of_le (by omega) (by omega) (by omega) (by omega), fun q1 nq1 => ?_⟩
        rw [rgV_rng]
        have g1718 := Gr.new (T := T) (o := .lst ((rng l1.length).map V.int)) nq1
        have eq1 : (upd H17 q1 (.lst ((rng l1.length).map V.int))) q1 = _ := upd_same
        generalize upd H17 q1 (.lst ((rng l1.length).map V.int)) = H18 at *
        have gH := gG.trans g1718
        refine ⟨show 3 ≤ sizeLine by decide, fun pt npt => ?_⟩
        have g1819 := Gr.new (T := T) (o := .tup [.ref bp, .ref st, .ref q1]) npt
        have ept : (upd H18 pt (.tup [.ref bp, .ref st, .ref q1])) pt = _ := upd_same
        generalize upd H18 pt (.tup [.ref bp, .ref st, .ref q1]) = H19 at *
        have gI := gH.trans g1819
        have places : ∀ v ∈ ([.ref bp, .ref st, .ref q1] : List V), ∃ (r : Addr) (ws : List Int), v = .ref r ∧ H19 r = some (.lst (ws.map V.int)) ∧ ws.length ≤ 64 := by
          intro v hv
          simp only [List.mem_cons, List.not_mem_nil, or_false] at hv
          rcases hv with rfl | rfl | rfl
          · exact ⟨bp, ws, rfl, (g1718.trans g1819).l ebp, by omega⟩
          · exact ⟨st, zs, rfl, (g17.trans (g1718.trans g1819)).l est16, by omega⟩
          · exact ⟨q1, _, rfl, g1819.l eq1, by rw [rng_len]; omega⟩
        refine ⟨pt, rfl, ⟨_, stp ept⟩, for_tup (K := K) (a := pt) (xs := [.ref bp, .ref st, .ref q1]) (fun i σ' H' => ∃ z12 z13 z14 z15, σ' = [some (.ref a), some (.ref x), some (.ref y), some (.ref u1), some (.ref u2), some v, some dv, some (.ref st), some (.int (k : Nat)), some (.int mo), some (.int (j : Nat)), some (.int cell), z12, z13, z14, z15, z16, z17, z18, z19] ∧ Gr T H19 H')
          ⟨_, _, _, _, rfl, Gr.refl _⟩ (fun i σ' H' hi hW => ?_) (fun i v2 σ' H20 hx hW => ?_) fun σ' H20 hW => ?_⟩
        · obtain ⟨_, _, _, _, _, g⟩ := hW
          exact stp (g.t ept)
        · obtain ⟨z12, z13, z14, z15, rfl, g20⟩ := hW
          obtain ⟨r, ws, rfl, er, lw⟩ := places v2 (List.mem_of_getElem? hx)
          have er20 := g20.l er
          have gJ := gI.trans g20
          refine ⟨_, rfl, r, ws.map V.int, rfl, .inl (sq er20), fun hh nhh => ?_⟩
          have g21 := Gr.new (T := T) (o := .lst (ws.map V.int)) nhh
          have ehh : (upd H20 hh (.lst (ws.map V.int))) hh = _ := upd_same
          generalize upd H20 hh (.lst (ws.map V.int)) = H21 at *
          refine ⟨_, rfl, fun ax dx nax ndx nxd => ⟨ax, dx, hh, ws.map V.int, rfl, upd_same, ?_, fun r2 nr2 => ⟨rfl, ?_⟩⟩⟩
          · have gd : Gr T H21 (upd H21 dx (.own ax)) := Gr.new ndx
            have nx2 : (upd H21 dx (.own ax)) ax = Option.none := by rw [upd_ne nxd.symm]; exact nax
            exact sq ((gd.trans (Gr.new nx2)).l ehh)
          have gd : Gr T H21 (upd H21 dx (.own ax)) := Gr.new ndx
          have nx2 : (upd H21 dx (.own ax)) ax = Option.none := by rw [upd_ne nxd.symm]; exact nax
          have gx : Gr T H21 (upd (upd H21 dx (.own ax)) ax (.ins CS dx [])) := gd.trans (Gr.new nx2)
          have exx : (upd (upd H21 dx (.own ax)) ax (.ins CS dx [])) ax = some (.ins CS dx []) := upd_same
          generalize upd (upd H21 dx (.own ax)) ax (.ins CS dx []) = H22 at *
          have nrx : r2 ≠ ax := fun z => by rw [z, exx] at nr2; cases nr2
          have gr := gx.trans (Gr.new (T := T) (o := .lst (ws.map V.int)) nr2)
          have er2 : (upd H22 r2 (.lst (ws.map V.int))) ax = some (.ins CS dx []) := by rw [upd_ne nrx.symm]; exact exx
          have g23 := gr.mut (o := .ins CS dx (sf r2)) nax er2 trivial
          have eax : (upd (upd H22 r2 (.lst (ws.map V.int))) ax (.ins CS dx (sf r2))) ax = some (.ins CS dx (sf r2)) := upd_same
          have err : (upd (upd H22 r2 (.lst (ws.map V.int))) ax (.ins CS dx (sf r2))) r2 = some (.lst (ws.map V.int)) := by rw [upd_ne nrx]; exact upd_same
          have hhr : hh ≠ r2 := ne_of_none (gx.l ehh) nr2
          generalize upd (upd H22 r2 (.lst (ws.map V.int))) ax (.ins CS dx (sf r2)) = H23 at *
          have g2023 := g21.trans g23
          have gK := gJ.trans g2023
          refine ⟨_, rfl, _, rfl, _, rfl, u1, u2, r, ws, l1, l2, rfl, sq (g2023.l er20), sq (gK.l e1), sq (gK.l e2), by omega, by omega, by omega, fun H24 g24 => ⟨_, _, rfl, ?_⟩⟩
          have ehh24 := g24.l (g23.l ehh)
          -- handed.append(0)
          refine ⟨_, rfl, .inl ⟨rfl, _, sq ehh24⟩, hh, _, _, rfl, rfl, ehh24, szs (by rw [List.length_map]; omega), ?_⟩
          have g2024 := g2023.trans g24
          have g25 := g2024.mut (o := .lst (ws.map V.int ++ [.int 0])) nhh ehh24 trivial
          have eax24 := g24.i eax
          have err24 := g24.l err
          have hax : ax ≠ hh := fun z => by rw [z, ehh24] at eax24; cases eax24
          have eax25 : (upd H24 hh (.lst (ws.map V.int ++ [.int 0]))) ax = some (.ins CS dx (sf r2)) := by rw [upd_ne hax]; exact eax24
          have err25 : (upd H24 hh (.lst (ws.map V.int ++ [.int 0]))) r2 = some (.lst (ws.map V.int)) := by rw [upd_ne (Ne.symm hhr)]; exact err24
          generalize upd H24 hh (.lst (ws.map V.int ++ [.int 0])) = H25 at *
          have gL := gJ.trans g25
          refine ⟨_, rfl, ax, CS, dx, _, .ref r2, rfl, eax25, S.cl, S.nL, sf_places _, _, rfl, dI ws, dI ws, dp_l (sq err25), dp_l (sq (g25.l er20)), sh_dI _, sh_dI _, _, rfl, ?_⟩
          rw [eqv_dI, decide_eq_true rfl]
          refine shows_at (s := .same ws) (v := .ref ax) (a := u1) (b := u2) (ns := l1) (ms := l2) (fun R hR => ⟨_, rfl, hR⟩) (fun R hR => ⟨_, rfl, _, rfl, hR⟩) ⟨by omega, ax, dx, r2, rfl, eax25, err25⟩ (sq (gL.l e1)) (sq (gL.l e2)) (by omega) (by omega) b1' b2' fun H26 g26 => ?_
          refine ⟨_, rfl, shownS ws l1 l2, rfl, true, rfl, ?_⟩
          exact ⟨_, _, _, _, rfl, (g20.trans g25).trans g26⟩
        obtain ⟨z12, z13, z14, z15, rfl, g20⟩ := hW
        have gJ := gI.trans g20
        have g1620 := g17.trans (g1718.trans (g1819.trans g20))
        refine ⟨_, rfl, cell, 5, 9, rfl, by decide, by decide, fun dr H21 d0 d1 g21 => ?_⟩
        have gK := gJ.trans g21
        -- powers and differences
        refine ⟨_, rfl, _, rfl, show 2 ≤ sizeLine by decide, fun b1t nb1t => ?_⟩
        have hb1t := Gr.new (T := T) (o := .tup [.int (k : Nat), .int mo]) nb1t
        have eb1t : (upd H21 b1t (.tup [.int (k : Nat), .int mo])) b1t = _ := upd_same
        generalize upd H21 b1t (.tup [.int (k : Nat), .int mo]) = B1 at *
        refine ⟨_, rfl, (k : Int), 1, rfl, rfl, _, rfl, show 2 ≤ sizeLine by decide, fun b2t nb2t => ?_⟩
        have hb2t := Gr.new (T := T) (o := .tup [.int ((k : Int) + 1), .int mo]) nb2t
        have eb2t : (upd B1 b2t (.tup [.int ((k : Int) + 1), .int mo])) b2t = _ := upd_same
        generalize upd B1 b2t (.tup [.int ((k : Int) + 1), .int mo]) = B2 at *
        refine ⟨_, rfl, (k : Int), 1, rfl, rfl, _, rfl, show 2 ≤ sizeLine by decide, fun b3t nb3t => ?_⟩
        have hb3t := Gr.new (T := T) (o := .tup [.int ((k : Int) - 1), .int mo]) nb3t
        have eb3t : (upd B2 b3t (.tup [.int ((k : Int) - 1), .int mo])) b3t = _ := upd_same
        generalize upd B2 b3t (.tup [.int ((k : Int) - 1), .int mo]) = B3 at *
        refine ⟨_, rfl, _, rfl, mo, rfl, show 2 ≤ sizeLine by decide, fun b4t nb4t => ?_⟩
        have hb4t := Gr.new (T := T) (o := .tup [.int (k : Nat), .int (-mo)]) nb4t
        have eb4t : (upd B3 b4t (.tup [.int (k : Nat), .int (-mo)])) b4t = _ := upd_same
        generalize upd B3 b4t (.tup [.int (k : Nat), .int (-mo)]) = B4 at *
        refine ⟨_, rfl, show 2 ≤ sizeLine by decide, fun b5t nb5t => ?_⟩
        have hb5t := Gr.new (T := T) (o := .tup [.int (k : Nat), .int 0]) nb5t
        have eb5t : (upd B4 b5t (.tup [.int (k : Nat), .int 0])) b5t = _ := upd_same
        generalize upd B4 b5t (.tup [.int (k : Nat), .int 0]) = B5 at *
        refine ⟨show 5 ≤ sizeLine by decide, fun bl nbl => ?_⟩
        have hbl := Gr.new (T := T) (o := .lst [.ref b1t, .ref b2t, .ref b3t, .ref b4t, .ref b5t]) nbl
        have ebl : (upd B5 bl (.lst [.ref b1t, .ref b2t, .ref b3t, .ref b4t, .ref b5t])) bl = _ := upd_same
        generalize upd B5 bl (.lst [.ref b1t, .ref b2t, .ref b3t, .ref b4t, .ref b5t]) = B6 at *
        have h15 := hb1t.trans (hb2t.trans (hb3t.trans (hb4t.trans hb5t)))
        have gL := gK.trans (h15.trans hbl)
        have nbl0 : H15 bl = Option.none := ((g16.trans g1620).trans (g21.trans h15)).lost _ nbl
        -- append((power + 1, ..))
        refine ⟨_, rfl, .inl ⟨rfl, _, sq ebl⟩, _, rfl, (k : Int), 1, rfl, rfl, _, rfl, _, rfl, (k : Int), 1, rfl, rfl, u1, l1, k + 1, rfl, sq (gL.l e1), by omega, b1', by omega, fun B7 hb7 => ?_⟩
        have gM := gL.trans hb7
        refine ⟨_, rfl, _, rfl, (k : Int), 1, rfl, rfl, u2, l2, k + 1, rfl, sq (gM.l e2), by omega, b2', by omega, fun B8 hb8 => ?_⟩
        have h68 := hb7.trans hb8
        refine ⟨_, _, rfl, rfl, ?_⟩
        refine ⟨show 2 ≤ sizeLine by decide, fun b6t nb6t => ?_⟩
        have hb6t := Gr.new (T := T) (o := .tup [.int ((k : Int) + 1), .int (psum l1 (k + 1) - psum l2 (k + 1))]) nb6t
        have eb6t : (upd B8 b6t (.tup [.int ((k : Int) + 1), .int (psum l1 (k + 1) - psum l2 (k + 1))])) b6t = some (.tup [.int ((k : Int) + 1), .int (psum l1 (k + 1) - psum l2 (k + 1))]) := upd_same
        have h69 := h68.trans hb6t
        have ebl9 := h69.l ebl
        refine ⟨bl, _, .ref b6t, rfl, rfl, ebl9, szs (show 5 < 100000 by decide), ?_⟩
        have gN : Gr T H15 (upd (upd B8 b6t (.tup [.int ((k : Int) + 1), .int (psum l1 (k + 1) - psum l2 (k + 1))])) bl (.lst ([.ref b1t, .ref b2t, .ref b3t, .ref b4t, .ref b5t] ++ [.ref b6t]))) := (((g16.trans g1620).trans (g21.trans h15)).trans (hbl.trans h69)).mut nbl0 ebl9 trivial
        have ebl10 : (upd (upd B8 b6t (.tup [.int ((k : Int) + 1), .int (psum l1 (k + 1) - psum l2 (k + 1))])) bl (.lst ([.ref b1t, .ref b2t, .ref b3t, .ref b4t, .ref b5t] ++ [.ref b6t]))) bl = some (.lst [.ref b1t, .ref b2t, .ref b3t, .ref b4t, .ref b5t, .ref b6t]) := upd_same
        have kp : ∀ (z : Addr) (m1 m2 : Int), (upd B8 b6t (.tup [.int ((k : Int) + 1), .int (psum l1 (k + 1) - psum l2 (k + 1))])) z = some (.tup [.int m1, .int m2]) → (upd (upd B8 b6t (.tup [.int ((k : Int) + 1), .int (psum l1 (k + 1) - psum l2 (k + 1))])) bl (.lst ([.ref b1t, .ref b2t, .ref b3t, .ref b4t, .ref b5t] ++ [.ref b6t]))) z = some (.tup [.int m1, .int m2]) := fun z m1 m2 h => by
          have : z ≠ bl := fun e => by rw [e, ebl9] at h; cases h
          rw [upd_ne this]; exact h
        have hh9 := hbl.trans h69
        have f1 := kp _ _ _ ((hb2t.trans (hb3t.trans (hb4t.trans (hb5t.trans hh9)))).t eb1t)
        have f2 := kp _ _ _ ((hb3t.trans (hb4t.trans (hb5t.trans hh9))).t eb2t)
        have f3 := kp _ _ _ ((hb4t.trans (hb5t.trans hh9)).t eb3t)
        have f4 := kp _ _ _ ((hb5t.trans hh9).t eb4t)
        have f5 := kp _ _ _ (hh9.t eb5t)
        have f6 := kp _ _ _ eb6t
        refine ⟨_, rfl, _, rfl, _, rfl, _, rfl, mo, dr, rfl, rfl, show 2 ≤ sizeLine by decide, fun b7t nb7t => ?_⟩
        have hb7 := Gr.new (T := T) (o := .tup [.int (k : Nat), .int (mo + dr)]) nb7t
        refine ⟨show 1 ≤ sizeLine by decide, fun b8 nb8 => ?_⟩
        have hb8' := Gr.new (T := T) (o := .lst [.ref b7t]) nb8
        have eb8 := upd_same (H := upd (upd (upd B8 b6t (.tup [.int ((k : Int) + 1), .int (psum l1 (k + 1) - psum l2 (k + 1))])) bl (.lst ([.ref b1t, .ref b2t, .ref b3t, .ref b4t, .ref b5t] ++ [.ref b6t]))) b7t (.tup [.int (k : Nat), .int (mo + dr)])) (a := b8) (o := .lst [.ref b7t])
        refine ⟨bl, b8, _, _, rfl, rfl, (hb7.trans hb8').l ebl10, eb8, show 6 + 1 ≤ sizeLine by decide, fun b9 nb9 => ?_⟩
        have hb9 := Gr.new (T := T) (o := .lst ([.ref b1t, .ref b2t, .ref b3t, .ref b4t, .ref b5t, .ref b6t] ++ [.ref b7t])) nb9
        have eb9 := upd_same (H := upd (upd (upd (upd B8 b6t (.tup [.int ((k : Int) + 1), .int (psum l1 (k + 1) - psum l2 (k + 1))])) bl (.lst ([.ref b1t, .ref b2t, .ref b3t, .ref b4t, .ref b5t] ++ [.ref b6t]))) b7t (.tup [.int (k : Nat), .int (mo + dr)])) b8 (.lst [.ref b7t])) (a := b9) (o := .lst ([.ref b1t, .ref b2t, .ref b3t, .ref b4t, .ref b5t, .ref b6t] ++ [.ref b7t]))
        have hh := hb7.trans (hb8'.trans hb9)
        have gO := gN.trans hh
        have f7 := (hb8'.trans hb9).t (upd_same (H := upd (upd B8 b6t (.tup [.int ((k : Int) + 1), .int (psum l1 (k + 1) - psum l2 (k + 1))])) bl (.lst ([.ref b1t, .ref b2t, .ref b3t, .ref b4t, .ref b5t] ++ [.ref b6t]))) (a := b7t) (o := .tup [.int (k : Nat), .int (mo + dr)]))
        have f1 := hh.t f1
        have f2 := hh.t f2
        have f3 := hh.t f3
        have f4 := hh.t f4
        have f5 := hh.t f5
        have f6 := hh.t f6
        refine ⟨b9, rfl, ⟨_, sq eb9⟩, for_list (K := K) (a := b9) (xs := ([.ref b1t, .ref b2t, .ref b3t, .ref b4t, .ref b5t, .ref b6t, .ref b7t] : List V)) (fun i σ' H' => ∃ z14 z18 z19, σ' = [some (.ref a), some (.ref x), some (.ref y), some (.ref u1), some (.ref u2), some v, some dv, some (.ref st), some (.int (k : Nat)), some (.int mo), some (.int (j : Nat)), some (.int cell), z12, z13, z14, z15, some (.int dr), some (.ref bl), z18, z19] ∧ Gr T H15 H' ∧ H' b9 = some (.lst ([.ref b1t, .ref b2t, .ref b3t, .ref b4t, .ref b5t, .ref b6t, .ref b7t] : List V)) ∧ ∀ w ∈ ([.ref b1t, .ref b2t, .ref b3t, .ref b4t, .ref b5t, .ref b6t, .ref b7t] : List V), ∃ (t : Addr) (p q : Int), w = .ref t ∧ H' t = some (.tup [.int p, .int q]))
          ⟨_, _, _, rfl, gO, eb9, elem7 f1 f2 f3 f4 f5 f6 f7⟩ (fun i σ' H' hi hW => ?_) (fun i v2 σ' H20 hx hW => ?_) fun σ' H20 hW => ?_⟩
        · obtain ⟨_, _, _, _, _, e, _⟩ := hW
          exact sq e
        · obtain ⟨z14, z18, z19, rfl, gP, eb, el⟩ := hW
          obtain ⟨t, p, q', rfl, et⟩ := el v2 (List.mem_of_getElem? hx)
          have fin : ∀ H', Gr T H20 H' → ∀ w ∈ ([.ref b1t, .ref b2t, .ref b3t, .ref b4t, .ref b5t, .ref b6t, .ref b7t] : List V), ∃ (t : Addr) (p q : Int), w = .ref t ∧ H' t = some (.tup [.int p, .int q]) := fun H' g w hw => by
            obtain ⟨t, p, q, e1, e2⟩ := el w hw
            exact ⟨t, p, q, e1, g.t e2⟩
          refine ⟨t, _, rfl, stp et, rfl, _, _, rfl, _, _, rfl, rfl, ?_⟩
          refine ⟨_, rfl, _, rfl, fun ax dx nax ndx nxd => ⟨ax, dx, _, _, rfl, upd_same, rfl, ?_⟩⟩
          have g21 := u_made (T := T) (CU := CU) (u := .int p) (v := .int q') nax ndx nxd
          have eax : (upd (upd (upd H20 dx (.own ax)) ax (.ins CU dx [])) ax (.ins CU dx (uf (.int p) (.int q')))) ax = some (.ins CU dx (uf (.int p) (.int q'))) := upd_same
          generalize upd (upd (upd H20 dx (.own ax)) ax (.ins CU dx [])) ax (.ins CU dx (uf (.int p) (.int q'))) = H21 at *
          have gQ := (gE.trans gP).trans g21
          refine ⟨fun σ' H' => σ' = [some (.ref a), some (.ref x), some (.ref y), some (.ref u1), some (.ref u2), some v, some dv, some (.ref st), some (.int (k : Nat)), some (.int mo), some (.int (j : Nat)), some (.int cell), z12, z13, some (.ref ax), z15, some (.int dr), some (.ref bl), some (.int p), some (.int q')] ∧ H21 = H', ?_, fun σ' H' hmid => ?_⟩
          · refine ⟨_, rfl, ax, CU, dx, _, .int p, rfl, eax, U.cl, U.nP, uf_power _ _, _, rfl, rfl, _, rfl, ?_⟩
            rw [decide_eq_true rfl]
            refine ⟨_, rfl, ax, CU, dx, _, .int q', rfl, eax, U.cl, U.nM, uf_more _ _, _, rfl, rfl, _, rfl, ?_⟩
            rw [decide_eq_true rfl]
            exact ⟨rfl, rfl⟩
          obtain ⟨rfl, rfl⟩ := hmid
          refine shows_at (s := .unlike p q') (v := .ref ax) (a := u1) (b := u2) (ns := l1) (ms := l2) (fun R hR => ⟨_, rfl, hR⟩) (fun R hR => ⟨_, rfl, _, rfl, hR⟩) ⟨ax, dx, rfl, eax⟩ (sq (gQ.l e1)) (sq (gQ.l e2)) (by omega) (by omega) b1' b2' fun H22 g22 => ?_
          refine ⟨_, rfl, _, rfl, _, rfl, show 2 ≤ sizeLine by decide, fun tt ntt => ?_⟩
          have gtt := Gr.new (T := T) (o := .tup [.int p, .int q']) ntt
          have ett : (upd H22 tt (.tup [.int p, .int q'])) tt = some (.tup [.int p, .int q']) := upd_same
          have gR := g21.trans (g22.trans gtt)
          obtain ⟨da, db, dp1, dp2, sh1, sh2, eqd⟩ := due_eq (K := K) (td15.grow (gP.trans gR)) ett
          refine ⟨da, db, dp1, dp2, sh1, sh2, ?_⟩
          rw [eqd]
          refine ⟨shownU p q' l1 l2, rfl, true, rfl, ?_⟩
          exact ⟨_, _, _, rfl, gP.trans gR, gR.l eb, fin _ gR⟩
        obtain ⟨z14, z18, z19, rfl, gP, _, _⟩ := hW
        have gS := gE.trans gP
        refine .inr ⟨_, rfl, dr, 2, rfl, rfl, _, rfl, fun ax dx nax ndx nxd => ⟨ax, dx, _, _, rfl, upd_same, rfl, ?_⟩⟩
        have g21 := u_made (T := T) (CU := CU) (u := .int (dr - 2)) (v := .int mo) nax ndx nxd
        have gQ := gS.trans g21
        refine ⟨ax, dx, _, rfl, upd_same, uf_no _ _ kSw kSm, _, rfl, _, rfl, ax, dx, u1, u2, dr - 2, mo, l1, l2, rfl, upd_same, sq (gQ.l e1), sq (gQ.l e2), by omega, by omega, b1', b2', fun H22 g22 => ?_⟩
        refine ⟨_, rfl, _, rfl, dr, 2, rfl, rfl, _, rfl, show 2 ≤ sizeLine by decide, fun tt ntt => ?_⟩
        have gtt := Gr.new (T := T) (o := .tup [.int (dr - 2), .int mo]) ntt
        have ett : (upd H22 tt (.tup [.int (dr - 2), .int mo])) tt = some (.tup [.int (dr - 2), .int mo]) := upd_same
        have gR := g21.trans (g22.trans gtt)
        obtain ⟨da, db, dp1, dp2, sh1, sh2, eqd⟩ := due_eq (K := K) (td15.grow (gP.trans gR)) ett
        refine ⟨da, db, dp1, dp2, sh1, sh2, ?_⟩
        rw [eqd]
        refine ⟨shownU (dr - 2) mo l1 l2, rfl, true, rfl, ?_⟩
        exact ⟨_, _, _, _, _, _, _, _, _, _, rfl, gP.trans gR⟩
      obtain ⟨z10, z11, z12, z13, z14, z15, z16, z17, z18, z19, rfl, g16⟩ := hW
      exact ⟨_, _, _, _, _, _, _, _, _, _, _, _, _, _, _, _, _, rfl, gE.trans g16⟩
    obtain ⟨z3, z4, z5, z6, z7, z8, z9, z10, z11, z12, z13, z14, z15, z16, z17, z18, z19, rfl, gA⟩ := hW
    clear pairs etp
    have small : ∀ l : List Int, (∀ z ∈ l, -(2 ^ 60) < z ∧ z < 2 ^ 60) → Bits 10000 l := fun l h z hz => Nat.le_trans (PySem.intBits_le_64 (by have := h z hz; omega) (by have := h z hz; omega)) (by decide)
    have due1 : Due 0 1 [5] [] := ⟨0, rfl, ⟨by decide, fun j hj => absurd hj (Nat.not_lt_zero _)⟩, by decide⟩
    refine ⟨fun σ' H' => σ' = [some (.ref a), some (.ref x), some (.ref y), z3, z4, z5, z6, z7, z8, z9, z10, z11, z12, z13, z14, z15, z16, z17, z18, z19], ?_, fun σ' H12 hmid => ?_⟩
    · refine .inr (fun ax1 dx1 nax ndx nxd => ⟨ax1, dx1, _, _, rfl, upd_same, rfl, ?_⟩)
      have eax1 : (upd (upd (upd H11 dx1 (.own ax1)) ax1 (.ins CU dx1 [])) ax1 (.ins CU dx1 (uf (.int 0) (.int 1)))) ax1 = some (.ins CU dx1 (uf (.int 0) (.int 1))) := upd_same
      generalize upd (upd (upd H11 dx1 (.own ax1)) ax1 (.ins CU dx1 [])) ax1 (.ins CU dx1 (uf (.int 0) (.int 1))) = J1 at *
      refine ⟨ax1, dx1, _, rfl, eax1, uf_no _ _ kSw kSm, show 1 ≤ sizeLine by decide, fun A1 nA1 => ?_⟩
      have gJ2 := Gr.new (T := T) (o := .lst [.int 5]) nA1
      have eA1 : (upd J1 A1 (.lst [.int 5])) A1 = some (.lst (([5] : List Int).map V.int)) := upd_same
      have eax1 := gJ2.i eax1
      generalize upd J1 A1 (.lst [.int 5]) = J2 at *
      refine ⟨Nat.zero_le _, fun B1 nB1 => ?_⟩
      have gJ3 := Gr.new (T := T) (o := .lst []) nB1
      have eB1 : (upd J2 B1 (.lst [])) B1 = some (.lst (([] : List Int).map V.int)) := upd_same
      have eax1 := gJ3.i eax1
      have eA1 := gJ3.l eA1
      generalize upd J2 B1 (.lst []) = J3 at *
      refine ⟨ax1, dx1, A1, B1, 0, 1, [5], [], rfl, eax1, sq eA1, sq eB1, by decide, by decide, small _ (by decide), small _ (by decide), fun J1x g1x => ?_⟩
      rw [shownU_true due1]
      refine ⟨true, rfl, true, rfl, ?_⟩
      refine .inr (fun ax2 dx2 nax ndx nxd => ⟨ax2, dx2, _, _, rfl, upd_same, rfl, ?_⟩)
      have eax2 : (upd (upd (upd J1x dx2 (.own ax2)) ax2 (.ins CU dx2 [])) ax2 (.ins CU dx2 (uf (.int 1) (.int 0)))) ax2 = some (.ins CU dx2 (uf (.int 1) (.int 0))) := upd_same
      generalize upd (upd (upd J1x dx2 (.own ax2)) ax2 (.ins CU dx2 [])) ax2 (.ins CU dx2 (uf (.int 1) (.int 0))) = J4 at *
      refine ⟨ax2, dx2, _, rfl, eax2, uf_no _ _ kSw kSm, show 1 ≤ sizeLine by decide, fun A2 nA2 => ?_⟩
      have gJ5 := Gr.new (T := T) (o := .lst [.int 5]) nA2
      have eA2 : (upd J4 A2 (.lst [.int 5])) A2 = some (.lst (([5] : List Int).map V.int)) := upd_same
      have eax2 := gJ5.i eax2
      generalize upd J4 A2 (.lst [.int 5]) = J5 at *
      refine ⟨show 1 ≤ sizeLine by decide, fun B2 nB2 => ?_⟩
      have gJ6 := Gr.new (T := T) (o := .lst [.int 5]) nB2
      have eB2 : (upd J5 B2 (.lst [.int 5])) B2 = some (.lst (([5] : List Int).map V.int)) := upd_same
      have eax2 := gJ6.i eax2
      have eA2 := gJ6.l eA2
      generalize upd J5 B2 (.lst [.int 5]) = J6 at *
      refine ⟨ax2, dx2, A2, B2, 1, 0, [5], [5], rfl, eax2, sq eA2, sq eB2, by decide, by decide, small _ (by decide), small _ (by decide), fun J2x g2x => ?_⟩
      rw [shownU_false (fun h => h.not_perm (List.Perm.refl _))]
      exact ⟨false, rfl, true, rfl, rfl⟩
    obtain rfl := hmid
    refine .inl ⟨show 2 ≤ sizeLine by decide, fun L3 nL3 => ?_⟩
    have gJ7 := Gr.new (T := T) (o := .lst [.int 1, .int 0]) nL3
    have eL3 : (upd H12 L3 (.lst [.int 1, .int 0])) L3 = some (.lst (([1, 0] : List Int).map V.int)) := upd_same
    generalize upd H12 L3 (.lst [.int 1, .int 0]) = J7 at *
    refine fun ax3 dx3 nax ndx nxd => ⟨ax3, dx3, L3, (([1, 0] : List Int).map V.int), rfl, upd_same, ?_, fun r3 nr => ⟨rfl, ?_⟩⟩
    · have gd : Gr T J7 (upd J7 dx3 (.own ax3)) := Gr.new ndx
      have nx2 : (upd J7 dx3 (.own ax3)) ax3 = Option.none := by rw [upd_ne nxd.symm]; exact nax
      exact sq ((gd.trans (Gr.new nx2)).l eL3)
    have exx : (upd (upd J7 dx3 (.own ax3)) ax3 (.ins CS dx3 [])) ax3 = some (.ins CS dx3 []) := upd_same
    generalize upd (upd J7 dx3 (.own ax3)) ax3 (.ins CS dx3 []) = J7m at *
    have nrx : r3 ≠ ax3 := fun z => by rw [z, exx] at nr; cases nr
    have eax3 : (upd (upd J7m r3 (.lst (([1, 0] : List Int).map V.int))) ax3 (.ins CS dx3 (sf r3))) ax3 = some (.ins CS dx3 (sf r3)) := upd_same
    have er3 : (upd (upd J7m r3 (.lst (([1, 0] : List Int).map V.int))) ax3 (.ins CS dx3 (sf r3))) r3 = some (.lst (([1, 0] : List Int).map V.int)) := by rw [upd_ne nrx]; exact upd_same
    generalize upd (upd J7m r3 (.lst (([1, 0] : List Int).map V.int))) ax3 (.ins CS dx3 (sf r3)) = J7k at *
    refine ⟨ax3, dx3, _, rfl, eax3, sf_no r3, show 2 ≤ sizeLine by decide, fun A3 nA3 => ?_⟩
    have gJ8 := Gr.new (T := T) (o := .lst [.int 4, .int 9]) nA3
    have eA3 : (upd J7k A3 (.lst [.int 4, .int 9])) A3 = some (.lst (([4, 9] : List Int).map V.int)) := upd_same
    have eax3 := gJ8.i eax3
    have er3 := gJ8.l er3
    generalize upd J7k A3 (.lst [.int 4, .int 9]) = J8 at *
    refine ⟨show 2 ≤ sizeLine by decide, fun B3 nB3 => ?_⟩
    have gJ9 := Gr.new (T := T) (o := .lst [.int 9, .int 4]) nB3
    have eB3 : (upd J8 B3 (.lst [.int 9, .int 4])) B3 = some (.lst (([9, 4] : List Int).map V.int)) := upd_same
    have eax3 := gJ9.i eax3
    have er3 := gJ9.l er3
    have eA3 := gJ9.l eA3
    generalize upd J8 B3 (.lst [.int 9, .int 4]) = J9 at *
    refine ⟨ax3, dx3, r3, A3, B3, [1, 0], [4, 9], [9, 4], rfl, eax3, er3, sq eA3, sq eB3, by decide, by decide, by decide, fun J3x g3x => ?_⟩
    rw [show shownS [1, 0] [4, 9] [9, 4] = true by decide]
    refine ⟨true, rfl, true, rfl, .inl ⟨Nat.zero_le _, fun L4 nL4 => ?_⟩⟩
    have gJ10 := Gr.new (T := T) (o := .lst []) nL4
    have eL4 : (upd J3x L4 (.lst [])) L4 = some (.lst (([] : List Int).map V.int)) := upd_same
    generalize upd J3x L4 (.lst []) = J10 at *
    refine fun ax4 dx4 nax ndx nxd => ⟨ax4, dx4, L4, (([] : List Int).map V.int), rfl, upd_same, ?_, fun r4 nr => ⟨rfl, ?_⟩⟩
    · have gd : Gr T J10 (upd J10 dx4 (.own ax4)) := Gr.new ndx
      have nx2 : (upd J10 dx4 (.own ax4)) ax4 = Option.none := by rw [upd_ne nxd.symm]; exact nax
      exact sq ((gd.trans (Gr.new nx2)).l eL4)
    have exx : (upd (upd J10 dx4 (.own ax4)) ax4 (.ins CS dx4 [])) ax4 = some (.ins CS dx4 []) := upd_same
    generalize upd (upd J10 dx4 (.own ax4)) ax4 (.ins CS dx4 []) = J10m at *
    have nrx : r4 ≠ ax4 := fun z => by rw [z, exx] at nr; cases nr
    have eax4 : (upd (upd J10m r4 (.lst (([] : List Int).map V.int))) ax4 (.ins CS dx4 (sf r4))) ax4 = some (.ins CS dx4 (sf r4)) := upd_same
    have er4 : (upd (upd J10m r4 (.lst (([] : List Int).map V.int))) ax4 (.ins CS dx4 (sf r4))) r4 = some (.lst (([] : List Int).map V.int)) := by rw [upd_ne nrx]; exact upd_same
    generalize upd (upd J10m r4 (.lst (([] : List Int).map V.int))) ax4 (.ins CS dx4 (sf r4)) = J10k at *
    refine ⟨ax4, dx4, _, rfl, eax4, sf_no r4, Nat.zero_le _, fun A4 nA4 => ?_⟩
    have gJ11 := Gr.new (T := T) (o := .lst []) nA4
    have eA4 : (upd J10k A4 (.lst [])) A4 = some (.lst (([] : List Int).map V.int)) := upd_same
    have eax4 := gJ11.i eax4
    have er4 := gJ11.l er4
    generalize upd J10k A4 (.lst []) = J11 at *
    refine ⟨Nat.zero_le _, fun B4 nB4 => ?_⟩
    have gJ12 := Gr.new (T := T) (o := .lst []) nB4
    have eB4 : (upd J11 B4 (.lst [])) B4 = some (.lst (([] : List Int).map V.int)) := upd_same
    have eax4 := gJ12.i eax4
    have er4 := gJ12.l er4
    have eA4 := gJ12.l eA4
    generalize upd J11 B4 (.lst []) = J12 at *
    refine ⟨ax4, dx4, r4, A4, B4, [], [], [], rfl, eax4, er4, sq eA4, sq eB4, by decide, by decide, by decide, fun J4x g4x => ?_⟩
    rw [show shownS [] [] [] = true by decide]
    exact ⟨true, rfl, q _⟩
end
end Wk
namespace Wk
open PySem PySem.Spec PyProof.Rows L2 Kx Ep
section
theorem all_mk {l : PySem.W.OpenLaw} {w : World} {K : PySem.W.Frag} {h : Heap} {mg : Str → Option Value} {fa CS f1 f2 CU f3 f4 f5 f6 f7 f8 f9 f10 m f11 f12 f13 f14 f15 f16 f17 f18 f19 f20 f21 PT : Addr} (X : K.In h) (G : h.Ns mainGlobals mg) (hfa : mg "law" = some (.ref fa))
    {od1 an1 od2 an2 od3 an3 od4 an4 od5 an5 od6 an6 od7 an7 od8 an8 od9 an9 od10 an10 od11 an11 od12 an12 od13 an13 od14 an14 od15 an15 od16 an16 od17 an17 od18 an18 od19 an19 od20 an20 od21 an21 : Option Addr} {sl1 sl2 sl3 sl4 sl5 sl6 sl7 sl8 sl9 sl10 sl11 sl12 sl13 sl14 sl15 sl16 sl17 sl18 sl19 sl20 sl21 : Array (Option Value)} {oc1 kV1 dc1 pm1 cd1 ct1 oc2 kV2 dc2 pm2 cd2 ct2 oc3 kV3 dc3 pm3 cd3 ct3 oc4 kV4 dc4 pm4 cd4 ct4 oc5 kV5 dc5 pm5 cd5 ct5 oc6 kV6 dc6 pm6 cd6 ct6 oc7 kV7 dc7 pm7 cd7 ct7 oc8 kV8 dc8 pm8 cd8 ct8 oc9 kV9 dc9 pm9 cd9 ct9 oc10 kV10 dc10 pm10 ct10 oc11 kV11 dc11 pm11 cd11 ct11 oc12 kV12 dc12 pm12 cd12 ct12 oc13 kV13 dc13 pm13 cd13 ct13 oc14 kV14 dc14 pm14 cd14 ct14 oc15 kV15 dc15 pm15 cd15 ct15 oc16 kV16 dc16 pm16 cd16 ct16 oc17 kV17 dc17 pm17 cd17 ct17 oc18 kV18 dc18 pm18 cd18 ct18 oc19 kV19 dc19 pm19 cd19 ct19 oc20 kV20 dc20 pm20 cd20 ct20 oc21 kV21 dc21 pm21 cd21 ct21 : Value}
    (htab : h.get? PT = some (PySem.W.tabObj #[])) (nT : K.lookup PT = none)
    (z_len : PySem.W.nsIn K mainGlobals "len" = some none)
    (z_sum : PySem.W.nsIn K mainGlobals "sum" = some none)
    (z_all : PySem.W.nsIn K mainGlobals "all" = some none)
    (z_any : PySem.W.nsIn K mainGlobals "any" = some none)
    (z_zip : PySem.W.nsIn K mainGlobals "zip" = some none)
    (z_range : PySem.W.nsIn K mainGlobals "range" = some none)
    (z_sorted : PySem.W.nsIn K mainGlobals "sorted" = some none)
    (z_isinstance : PySem.W.nsIn K mainGlobals "isinstance" = some none)
    (z_int : PySem.W.nsIn K mainGlobals "int" = some none)
    (z_bool : PySem.W.nsIn K mainGlobals "bool" = some none)
    (z_list : PySem.W.nsIn K mainGlobals "list" = some none)
    (z_tuple : PySem.W.nsIn K mainGlobals "tuple" = some none)
    (z_enumerate : PySem.W.nsIn K mainGlobals "enumerate" = some none)
    (z_min : PySem.W.nsIn K mainGlobals "min" = some none)
    (z_max : PySem.W.nsIn K mainGlobals "max" = some none)
    (z_abs : PySem.W.nsIn K mainGlobals "abs" = some none)
    (aCS : PySem.W.nsIn K mainGlobals "Same" = some (some (.ref CS)))
    (pgS : PySem.W.plainGet K CS Str.empty = true) (hdS : PySem.W.hasDictIn K CS = true) (poS : PySem.W.plainOver K CS = true) (saS : PySem.W.findIn K (.ref CS) "__setattr__" = some (some (.builtin "object.__setattr__"))) (mkS : PySem.W.makesIn K CS = true) (kcS : PySem.W.keepIn K (.ref CS) = true)
    (nSplaces : PySem.W.findIn K (.ref CS) "places" = some none)
    (haS : PySem.W.findIn K (.ref CS) "__class__" = some (some (.builtin "object.__class__")))
    (hmS : PySem.W.mroIn K CS (.type "object") = some true)
    (a1 : PySem.W.findIn K (.ref CS) "__init__" = some (some (.ref f1))) (l1 : K.lookup f1 = some ⟨oc1, od1, .func (PySem.W.fnOf "__init__" "Same.__init__" (C8.fnArgs s_Same___init__) (C8.fnBody s_Same___init__) (C8.fnScope s_Same___init__) .none kV1 dc1 pm1 an1 cd1 ct1), sl1⟩) (c1 : PySem.W.codeIn K cd1 "Same.__init__" = true) (k1 : PySem.W.keepIn K (.ref f1) = true)
    (i1 : PySem.W.isFn K (.ref f1) = true)
    (a2 : PySem.W.findIn K (.ref CS) "shows" = some (some (.ref f2))) (l2 : K.lookup f2 = some ⟨oc2, od2, .func (PySem.W.fnOf "shows" "Same.shows" (C8.fnArgs s_Same_shows) (C8.fnBody s_Same_shows) (C8.fnScope s_Same_shows) .none kV2 dc2 pm2 an2 cd2 ct2), sl2⟩) (c2 : PySem.W.codeIn K cd2 "Same.shows" = true) (k2 : PySem.W.keepIn K (.ref f2) = true)
    (i2 : PySem.W.isFn K (.ref f2) = true)
    (aCU : PySem.W.nsIn K mainGlobals "Unlike" = some (some (.ref CU)))
    (pgU : PySem.W.plainGet K CU Str.empty = true) (hdU : PySem.W.hasDictIn K CU = true) (poU : PySem.W.plainOver K CU = true) (saU : PySem.W.findIn K (.ref CU) "__setattr__" = some (some (.builtin "object.__setattr__"))) (mkU : PySem.W.makesIn K CU = true) (kcU : PySem.W.keepIn K (.ref CU) = true)
    (nUpower : PySem.W.findIn K (.ref CU) "power" = some none)
    (nUmore : PySem.W.findIn K (.ref CU) "more" = some none)
    (haU : PySem.W.findIn K (.ref CU) "__class__" = some (some (.builtin "object.__class__")))
    (hmU : PySem.W.mroIn K CU (.type "object") = some true)
    (qUS : PySem.W.kitOne K (.ref CU) (.ref CS) = some false)
    (a3 : PySem.W.findIn K (.ref CU) "__init__" = some (some (.ref f3))) (l3 : K.lookup f3 = some ⟨oc3, od3, .func (PySem.W.fnOf "__init__" "Unlike.__init__" (C8.fnArgs s_Unlike___init__) (C8.fnBody s_Unlike___init__) (C8.fnScope s_Unlike___init__) .none kV3 dc3 pm3 an3 cd3 ct3), sl3⟩) (c3 : PySem.W.codeIn K cd3 "Unlike.__init__" = true) (k3 : PySem.W.keepIn K (.ref f3) = true)
    (i3 : PySem.W.isFn K (.ref f3) = true)
    (a4 : PySem.W.findIn K (.ref CU) "shows" = some (some (.ref f4))) (l4 : K.lookup f4 = some ⟨oc4, od4, .func (PySem.W.fnOf "shows" "Unlike.shows" (C8.fnArgs s_Unlike_shows) (C8.fnBody s_Unlike_shows) (C8.fnScope s_Unlike_shows) .none kV4 dc4 pm4 an4 cd4 ct4), sl4⟩) (c4 : PySem.W.codeIn K cd4 "Unlike.shows" = true) (k4 : PySem.W.keepIn K (.ref f4) = true)
    (i4 : PySem.W.isFn K (.ref f4) = true)
    (hn : PySem.W.specialIn K (.builtin "object.__class__") "__get__" = some (some (.builtin "getset_descriptor.__get__"))) (htk : PySem.W.takesIn K (.builtin "object.__class__") = some true)
    (a5 : PySem.W.nsIn K mainGlobals "is_whole" = some (some (.ref f5))) (l5 : K.lookup f5 = some ⟨oc5, od5, .func (PySem.W.fnOf "is_whole" "is_whole" (C8.fnArgs s_is_whole) (C8.fnBody s_is_whole) (C8.fnScope s_is_whole) .none kV5 dc5 pm5 an5 cd5 ct5), sl5⟩) (c5 : PySem.W.codeIn K cd5 "is_whole" = true) (k5 : PySem.W.keepIn K (.ref f5) = true)
    (a6 : PySem.W.nsIn K mainGlobals "check_heap" = some (some (.ref f6))) (l6 : K.lookup f6 = some ⟨oc6, od6, .func (PySem.W.fnOf "check_heap" "check_heap" (C8.fnArgs s_check_heap) (C8.fnBody s_check_heap) (C8.fnScope s_check_heap) .none kV6 dc6 pm6 an6 cd6 ct6), sl6⟩) (c6 : PySem.W.codeIn K cd6 "check_heap" = true) (k6 : PySem.W.keepIn K (.ref f6) = true)
    (a7 : PySem.W.nsIn K mainGlobals "left_of" = some (some (.ref f7))) (l7 : K.lookup f7 = some ⟨oc7, od7, .func (PySem.W.fnOf "left_of" "left_of" (C8.fnArgs s_left_of) (C8.fnBody s_left_of) (C8.fnScope s_left_of) .none kV7 dc7 pm7 an7 cd7 ct7), sl7⟩) (c7 : PySem.W.codeIn K cd7 "left_of" = true) (k7 : PySem.W.keepIn K (.ref f7) = true)
    (a8 : PySem.W.nsIn K mainGlobals "taken" = some (some (.ref f8))) (l8 : K.lookup f8 = some ⟨oc8, od8, .func (PySem.W.fnOf "taken" "taken" (C8.fnArgs s_taken) (C8.fnBody s_taken) (C8.fnScope s_taken) .none kV8 dc8 pm8 an8 cd8 ct8), sl8⟩) (c8 : PySem.W.codeIn K cd8 "taken" = true) (k8 : PySem.W.keepIn K (.ref f8) = true)
    (a9 : PySem.W.nsIn K mainGlobals "sum_of" = some (some (.ref f9))) (l9 : K.lookup f9 = some ⟨oc9, od9, .func (PySem.W.fnOf "sum_of" "sum_of" (C8.fnArgs s_sum_of) (C8.fnBody s_sum_of) (C8.fnScope s_sum_of) .none kV9 dc9 pm9 an9 cd9 ct9), sl9⟩) (c9 : PySem.W.codeIn K cd9 "sum_of" = true) (k9 : PySem.W.keepIn K (.ref f9) = true)
    (a10 : PySem.W.nsIn K mainGlobals "alike" = some (some (.ref f10))) (l10 : K.lookup f10 = some ⟨oc10, od10, .func (PySem.W.fnOf "alike" "alike" (C8.fnArgs s_alike) (C8.fnBody s_alike) (C8.fnScope s_alike) .none kV10 dc10 pm10 an10 (.ref m) ct10), sl10⟩) (c10 : PySem.W.codeIn K (.ref m) "alike" = true) (k10 : PySem.W.keepIn K (.ref f10) = true)
    (kod : PySem.W.codeHdIn K m PT = true)
    (a11 : PySem.W.nsIn K mainGlobals "_law_cell_at" = some (some (.ref f11))) (l11 : K.lookup f11 = some ⟨oc11, od11, .func (PySem.W.fnOf "_law_cell_at" "_law_cell_at" (C8.fnArgs s__law_cell_at) (C8.fnBody s__law_cell_at) (C8.fnScope s__law_cell_at) .none kV11 dc11 pm11 an11 cd11 ct11), sl11⟩) (c11 : PySem.W.codeIn K cd11 "_law_cell_at" = true) (k11 : PySem.W.keepIn K (.ref f11) = true)
    (a12 : PySem.W.nsIn K mainGlobals "_law_draw" = some (some (.ref f12))) (l12 : K.lookup f12 = some ⟨oc12, od12, .func (PySem.W.fnOf "_law_draw" "_law_draw" (C8.fnArgs s__law_draw) (C8.fnBody s__law_draw) (C8.fnScope s__law_draw) .none kV12 dc12 pm12 an12 cd12 ct12), sl12⟩) (c12 : PySem.W.codeIn K cd12 "_law_draw" = true) (k12 : PySem.W.keepIn K (.ref f12) = true)
    (a13 : PySem.W.nsIn K mainGlobals "_law_value" = some (some (.ref f13))) (l13 : K.lookup f13 = some ⟨oc13, od13, .func (PySem.W.fnOf "_law_value" "_law_value" (C8.fnArgs s__law_value) (C8.fnBody s__law_value) (C8.fnScope s__law_value) .none kV13 dc13 pm13 an13 cd13 ct13), sl13⟩) (c13 : PySem.W.codeIn K cd13 "_law_value" = true) (k13 : PySem.W.keepIn K (.ref f13) = true)
    (a14 : PySem.W.nsIn K mainGlobals "_law_raised" = some (some (.ref f14))) (l14 : K.lookup f14 = some ⟨oc14, od14, .func (PySem.W.fnOf "_law_raised" "_law_raised" (C8.fnArgs s__law_raised) (C8.fnBody s__law_raised) (C8.fnScope s__law_raised) .none kV14 dc14 pm14 an14 cd14 ct14), sl14⟩) (c14 : PySem.W.codeIn K cd14 "_law_raised" = true) (k14 : PySem.W.keepIn K (.ref f14) = true)
    (a15 : PySem.W.nsIn K mainGlobals "_law_heaps" = some (some (.ref f15))) (l15 : K.lookup f15 = some ⟨oc15, od15, .func (PySem.W.fnOf "_law_heaps" "_law_heaps" (C8.fnArgs s__law_heaps) (C8.fnBody s__law_heaps) (C8.fnScope s__law_heaps) .none kV15 dc15 pm15 an15 cd15 ct15), sl15⟩) (c15 : PySem.W.codeIn K cd15 "_law_heaps" = true) (k15 : PySem.W.keepIn K (.ref f15) = true)
    (a16 : PySem.W.nsIn K mainGlobals "_law_first" = some (some (.ref f16))) (l16 : K.lookup f16 = some ⟨oc16, od16, .func (PySem.W.fnOf "_law_first" "_law_first" (C8.fnArgs s__law_first) (C8.fnBody s__law_first) (C8.fnScope s__law_first) .none kV16 dc16 pm16 an16 cd16 ct16), sl16⟩) (c16 : PySem.W.codeIn K cd16 "_law_first" = true) (k16 : PySem.W.keepIn K (.ref f16) = true)
    (a17 : PySem.W.nsIn K mainGlobals "_law_says" = some (some (.ref f17))) (l17 : K.lookup f17 = some ⟨oc17, od17, .func (PySem.W.fnOf "_law_says" "_law_says" (C8.fnArgs s__law_says) (C8.fnBody s__law_says) (C8.fnScope s__law_says) .none kV17 dc17 pm17 an17 cd17 ct17), sl17⟩) (c17 : PySem.W.codeIn K cd17 "_law_says" = true) (k17 : PySem.W.keepIn K (.ref f17) = true)
    (a18 : PySem.W.nsIn K mainGlobals "_law_same" = some (some (.ref f18))) (l18 : K.lookup f18 = some ⟨oc18, od18, .func (PySem.W.fnOf "_law_same" "_law_same" (C8.fnArgs s__law_same) (C8.fnBody s__law_same) (C8.fnScope s__law_same) .none kV18 dc18 pm18 an18 cd18 ct18), sl18⟩) (c18 : PySem.W.codeIn K cd18 "_law_same" = true) (k18 : PySem.W.keepIn K (.ref f18) = true)
    (a19 : PySem.W.nsIn K mainGlobals "_law_bent" = some (some (.ref f19))) (l19 : K.lookup f19 = some ⟨oc19, od19, .func (PySem.W.fnOf "_law_bent" "_law_bent" (C8.fnArgs s__law_bent) (C8.fnBody s__law_bent) (C8.fnScope s__law_bent) .none kV19 dc19 pm19 an19 cd19 ct19), sl19⟩) (c19 : PySem.W.codeIn K cd19 "_law_bent" = true) (k19 : PySem.W.keepIn K (.ref f19) = true)
    (a20 : PySem.W.nsIn K mainGlobals "_law_sum" = some (some (.ref f20))) (l20 : K.lookup f20 = some ⟨oc20, od20, .func (PySem.W.fnOf "_law_sum" "_law_sum" (C8.fnArgs s__law_sum) (C8.fnBody s__law_sum) (C8.fnScope s__law_sum) .none kV20 dc20 pm20 an20 cd20 ct20), sl20⟩) (c20 : PySem.W.codeIn K cd20 "_law_sum" = true) (k20 : PySem.W.keepIn K (.ref f20) = true)
    (a21 : PySem.W.nsIn K mainGlobals "law" = some (some (.ref f21))) (l21 : K.lookup f21 = some ⟨oc21, od21, .func (PySem.W.fnOf "law" "law" (C8.fnArgs s_law) (C8.fnBody s_law) (C8.fnScope s_law) .none kV21 dc21 pm21 an21 cd21 ct21), sl21⟩) (c21 : PySem.W.codeIn K cd21 "law" = true) (k21 : PySem.W.keepIn K (.ref f21) = true)
    : LamX.LawAtS l w K C8.CX0 7 63 "_law_script" mg fa h := by
  have e := hfa.symm.trans (PySem.W.mg_of X G a21)
  cases e
  have one : ∀ p ∈ [(m, PT)], p = (m, PT) := fun p hp => List.mem_singleton.mp hp
  refine ⟨PySem.W.fnOf "law" "law" (C8.fnArgs s_law) (C8.fnBody s_law) (C8.fnScope s_law) .none kV21 dc21 pm21 an21 cd21 ct21, [(m, PT)], spLawT PT K, fun p hp => by rw [one p hp]; exact htab, fun p hp => by rw [one p hp]; exact nT, fun p hp => by rw [one p hp]; exact PySem.W.codeHd_of_K X kod, fun s v => .of_eq rfl, fun H a ns hl hb hH hS => ⟨a, ns, rfl, hS, hl, hb, LamX.TabS.nil (hH (m, PT) (List.mem_singleton.mpr rfl)), fun _ => rfl⟩, fun base _ _ hTB => ?_⟩
  have TB := hTB (m, PT) (List.mem_singleton.mpr rfl)
  have B : Bt mg := ⟨PySem.W.mg_none_of X G z_len, PySem.W.mg_none_of X G z_sum, PySem.W.mg_none_of X G z_all, PySem.W.mg_none_of X G z_any, PySem.W.mg_none_of X G z_zip, PySem.W.mg_none_of X G z_range, PySem.W.mg_none_of X G z_sorted, PySem.W.mg_none_of X G z_isinstance, PySem.W.mg_none_of X G z_int, PySem.W.mg_none_of X G z_bool, PySem.W.mg_none_of X G z_list, PySem.W.mg_none_of X G z_tuple, PySem.W.mg_none_of X G z_enumerate, PySem.W.mg_none_of X G z_min, PySem.W.mg_none_of X G z_max, PySem.W.mg_none_of X G z_abs⟩
  have clS : Cls K CS := ⟨pgS, hdS, poS, saS⟩
  have S : SCl K mg CS := ⟨clS, nSplaces, PySem.W.mg_of X G aCS⟩
  have iS : C8.InsC K CS := ⟨clS, haS, hn, htk, hmS, if_pos (beq_self_eq_true _)⟩
  have F1 : C8.Fun K "__init__" "Same.__init__" s_Same___init__ f1 _ := ⟨_, _, _, _, _, _, _, _, _, _, rfl, l1, c1⟩
  have k_Same := ok_sinit (P := l.prog) (w := w) (base := base) B S ⟨mkS, a1, i1, kcS⟩ F1 (F1.binds rfl (ps := ["self", "places"]) (fun _ _ _ _ _ _ us hl => match us, hl with | [_, _], _ => rfl))
  have F2 : C8.Fun K "shows" "Same.shows" s_Same_shows f2 _ := ⟨_, _, _, _, _, _, _, _, _, _, rfl, l2, c2⟩
  have clU : Cls K CU := ⟨pgU, hdU, poU, saU⟩
  have U : UCl K mg CU := ⟨clU, nUpower, nUmore, PySem.W.mg_of X G aCU⟩
  have iU : C8.InsC K CU := ⟨clU, haU, hn, htk, hmU, if_pos (beq_self_eq_true _)⟩
  have F3 : C8.Fun K "__init__" "Unlike.__init__" s_Unlike___init__ f3 _ := ⟨_, _, _, _, _, _, _, _, _, _, rfl, l3, c3⟩
  have k_Unlike := ok_uinit (P := l.prog) (w := w) (base := base) U ⟨mkU, a3, i3, kcU⟩ F3 (F3.binds rfl (ps := ["self", "power", "more"]) (fun _ _ _ _ _ _ us hl => match us, hl with | [_, _, _], _ => rfl))
  have F4 : C8.Fun K "shows" "Unlike.shows" s_Unlike_shows f4 _ := ⟨_, _, _, _, _, _, _, _, _, _, rfl, l4, c4⟩
  have F5 : C8.Def K mg "is_whole" s_is_whole f5 _ := ⟨⟨_, _, _, _, _, _, _, _, _, _, rfl, l5, c5⟩, PySem.W.mg_of X G a5, k5⟩
  have c_is_whole := ok_is_whole (P := l.prog) (w := w) (base := base) B F5 (F5.fn.binds rfl (ps := ["thing"]) (fun _ _ _ _ _ _ us hl => match us, hl with | [_], _ => rfl))
  have F6 : C8.Def K mg "check_heap" s_check_heap f6 _ := ⟨⟨_, _, _, _, _, _, _, _, _, _, rfl, l6, c6⟩, PySem.W.mg_of X G a6, k6⟩
  have c_check_heap := ok_check_heap (T := tabT PT) (P := l.prog) (w := w) (base := base) B F6 (F6.fn.binds rfl (ps := ["heap"]) (fun _ _ _ _ _ _ us hl => match us, hl with | [_], _ => rfl)) c_is_whole
  have F7 : C8.Def K mg "left_of" s_left_of f7 _ := ⟨⟨_, _, _, _, _, _, _, _, _, _, rfl, l7, c7⟩, PySem.W.mg_of X G a7, k7⟩
  have c_left_of := ok_left_of (T := tabT PT) (P := l.prog) (w := w) (base := base) F7 (F7.fn.binds rfl (ps := ["one", "other"]) (fun _ _ _ _ _ _ us hl => match us, hl with | [_, _], _ => rfl))
  have F8 : C8.Def K mg "taken" s_taken f8 _ := ⟨⟨_, _, _, _, _, _, _, _, _, _, rfl, l8, c8⟩, PySem.W.mg_of X G a8, k8⟩
  have c_taken := ok_taken (P := l.prog) (w := w) (base := base) B F8 (F8.fn.binds rfl (ps := ["number", "power"]) (fun _ _ _ _ _ _ us hl => match us, hl with | [_, _], _ => rfl))
  have F9 : C8.Def K mg "sum_of" s_sum_of f9 _ := ⟨⟨_, _, _, _, _, _, _, _, _, _, rfl, l9, c9⟩, PySem.W.mg_of X G a9, k9⟩
  have c_sum_of := ok_sum_of (T := tabT PT) (P := l.prog) (w := w) (base := base) B F9 (F9.fn.binds rfl (ps := ["heap", "power"]) (fun _ _ _ _ _ _ us hl => match us, hl with | [_, _], _ => rfl)) c_taken
  have c_sshows := ok_sshows (T := tabT PT) (P := l.prog) (w := w) (base := base) B S ⟨a2, i2, k2⟩ F2 (F2.binds rfl (ps := ["self", "one", "other"]) (fun _ _ _ _ _ _ us hl => match us, hl with | [_, _, _], _ => rfl)) c_is_whole
  have c_ushows := ok_ushows (T := tabT PT) (P := l.prog) (w := w) (base := base) B U ⟨a4, i4, k4⟩ F4 (F4.binds rfl (ps := ["self", "one", "other"]) (fun _ _ _ _ _ _ us hl => match us, hl with | [_, _, _], _ => rfl)) c_is_whole c_left_of c_sum_of
  have F10 : DefC K mg "alike" s_alike f10 _ m := ⟨⟨_, _, _, _, _, _, _, _, _, rfl, l10, c10⟩, PySem.W.mg_of X G a10, k10⟩
  have F10b : C8.Fun K "alike" "alike" s_alike f10 _ := ⟨_, _, _, _, _, _, _, _, _, _, rfl, l10, c10⟩
  have c_alike := ok_alike (T := tabT PT) (P := l.prog) (w := w) (base := base) rfl B TB F10 (F10b.binds rfl (ps := ["one", "other"]) (fun _ _ _ _ _ _ us hl => match us, hl with | [_, _], _ => rfl)) c_check_heap c_left_of k_Same k_Unlike
  have F11 : C8.Def K mg "_law_cell_at" s__law_cell_at f11 _ := ⟨⟨_, _, _, _, _, _, _, _, _, _, rfl, l11, c11⟩, PySem.W.mg_of X G a11, k11⟩
  have c__law_cell_at := ok_cell_at (P := l.prog) (w := w) (base := base) B F11 (F11.fn.binds rfl (ps := ["_law_script", "_law_k"]) (fun _ _ _ _ _ _ us hl => match us, hl with | [_, _], _ => rfl))
  have F12 : C8.Def K mg "_law_draw" s__law_draw f12 _ := ⟨⟨_, _, _, _, _, _, _, _, _, _, rfl, l12, c12⟩, PySem.W.mg_of X G a12, k12⟩
  have c__law_draw := ok_draw (T := tabT PT) (P := l.prog) (w := w) (base := base) B F12 (F12.fn.binds rfl (ps := ["_law_cell", "_law_k", "_law_many"]) (fun _ _ _ _ _ _ us hl => match us, hl with | [_, _, _], _ => rfl))
  have F13 : C8.Def K mg "_law_value" s__law_value f13 _ := ⟨⟨_, _, _, _, _, _, _, _, _, _, rfl, l13, c13⟩, PySem.W.mg_of X G a13, k13⟩
  have c__law_value := ok_value (T := tabT PT) (P := l.prog) (w := w) (base := base) B F13 (F13.fn.binds rfl (ps := ["_law_cell", "_law_k", "_law_most"]) (fun _ _ _ _ _ _ us hl => match us, hl with | [_, _, _], _ => rfl)) c__law_draw
  have F14 : C8.Def K mg "_law_raised" s__law_raised f14 _ := ⟨⟨_, _, _, _, _, _, _, _, _, _, rfl, l14, c14⟩, PySem.W.mg_of X G a14, k14⟩
  have c__law_raised := ok_law_raised (T := tabT PT) (P := l.prog) (w := w) (base := base) B F14 (F14.fn.binds rfl (ps := ["_law_one", "_law_other", "_law_shift"]) (fun _ _ _ _ _ _ us hl => match us, hl with | [_, _, _], _ => rfl))
  have F15 : C8.Def K mg "_law_heaps" s__law_heaps f15 _ := ⟨⟨_, _, _, _, _, _, _, _, _, _, rfl, l15, c15⟩, PySem.W.mg_of X G a15, k15⟩
  have c__law_heaps := ok_law_heaps (T := tabT PT) (P := l.prog) (w := w) (base := base) B F15 (F15.fn.binds rfl (ps := ["_law_script"]) (fun _ _ _ _ _ _ us hl => match us, hl with | [_], _ => rfl)) c__law_draw c__law_cell_at c__law_value c__law_raised
  have F16 : C8.Def K mg "_law_first" s__law_first f16 _ := ⟨⟨_, _, _, _, _, _, _, _, _, _, rfl, l16, c16⟩, PySem.W.mg_of X G a16, k16⟩
  have c__law_first := ok_law_first (T := tabT PT) (P := l.prog) (w := w) (base := base) B F16 (F16.fn.binds rfl (ps := ["_law_one", "_law_other"]) (fun _ _ _ _ _ _ us hl => match us, hl with | [_, _], _ => rfl))
  have F17 : C8.Def K mg "_law_says" s__law_says f17 _ := ⟨⟨_, _, _, _, _, _, _, _, _, _, rfl, l17, c17⟩, PySem.W.mg_of X G a17, k17⟩
  have c__law_says := ok_law_says (P := l.prog) (w := w) (base := base) B F17 (F17.fn.binds rfl (ps := ["_law_said", "_law_due"]) (fun _ _ _ _ _ _ us hl => match us, hl with | [_, _], _ => rfl))
  have F18 : C8.Def K mg "_law_same" s__law_same f18 _ := ⟨⟨_, _, _, _, _, _, _, _, _, _, rfl, l18, c18⟩, PySem.W.mg_of X G a18, k18⟩
  have c__law_same := ok_law_same (T := tabT PT) (P := l.prog) (w := w) (base := base) B F18 (F18.fn.binds rfl (ps := ["_law_one", "_law_other", "_law_places"]) (fun _ _ _ _ _ _ us hl => match us, hl with | [_, _, _], _ => rfl))
  have F19 : C8.Def K mg "_law_bent" s__law_bent f19 _ := ⟨⟨_, _, _, _, _, _, _, _, _, _, rfl, l19, c19⟩, PySem.W.mg_of X G a19, k19⟩
  have c__law_bent := ok_law_bent (T := tabT PT) (P := l.prog) (w := w) (base := base) B F19 (F19.fn.binds rfl (ps := ["_law_some", "_law_cell", "_law_many"]) (fun _ _ _ _ _ _ us hl => match us, hl with | [_, _, _], _ => rfl)) c__law_draw
  have F20 : C8.Def K mg "_law_sum" s__law_sum f20 _ := ⟨⟨_, _, _, _, _, _, _, _, _, _, rfl, l20, c20⟩, PySem.W.mg_of X G a20, k20⟩
  have c__law_sum := ok_law_sum (T := tabT PT) (P := l.prog) (w := w) (base := base) B F20 (F20.fn.binds rfl (ps := ["_law_heap", "_law_power"]) (fun _ _ _ _ _ _ us hl => match us, hl with | [_, _], _ => rfl))
  have F21 : C8.Def K mg "law" s_law fa _ := ⟨⟨_, _, _, _, _, _, _, _, _, _, rfl, l21, c21⟩, PySem.W.mg_of X G a21, k21⟩
  have c_law := ok_law (T := tabT PT) (P := l.prog) (w := w) (base := base) rfl B U iU S iS qUS F21 c__law_draw c__law_cell_at c__law_heaps c__law_first c__law_says c__law_same c__law_bent c__law_sum c_alike c_sshows c_ushows k_Unlike k_Same
  exact c_law
end
end Wk
open PySem PySem.W PyProof.Rows in
set_option maxRecDepth 100000 in
set_option maxHeartbeats 0 in
theorem PySem.Challenge.cw_evenpowers_k04_answers_by_hand_holds : PySem.Challenge.rw_evenpowers_k04_answers_by_hand.Holds := by
  w_on; o_law; k_head; (case hw => w_witness2)
  k_fill
  refine LamX.walk_ofTs (l := PySem.Challenge.rw_evenpowers_k04_answers_by_hand) (n := 63) (k := 7) (x := "_law_script") (CX := fun _ => C8.CX0) rfl (by decide) rfl ⟨rfl, by decide, by decide⟩ (fun w h Y => PySem.W.km_in_of Y) ?F (fun _ _ _ _ _ h => h)
  case F =>
    intro w mg fa h Y KX G hmg
    refine' Wk.all_mk KX G hmg (PySem.W.km_tabs_of Y _ (List.mem_cons_self ..)) ?nT ?z_len ?z_sum ?z_all ?z_any ?z_zip ?z_range ?z_sorted ?z_isinstance ?z_int ?z_bool ?z_list ?z_tuple ?z_enumerate ?z_min ?z_max ?z_abs ?aCS ?pgS ?hdS ?poS ?saS ?mkS ?kcS ?nSplaces ?haS ?hmS ?a1 ?l1 ?c1 ?k1 ?i1 ?a2 ?l2 ?c2 ?k2 ?i2 ?aCU ?pgU ?hdU ?poU ?saU ?mkU ?kcU ?nUpower ?nUmore ?haU ?hmU ?qUS ?a3 ?l3 ?c3 ?k3 ?i3 ?a4 ?l4 ?c4 ?k4 ?i4 ?hn ?htk ?a5 ?l5 ?c5 ?k5 ?a6 ?l6 ?c6 ?k6 ?a7 ?l7 ?c7 ?k7 ?a8 ?l8 ?c8 ?k8 ?a9 ?l9 ?c9 ?k9 ?a10 ?l10 ?c10 ?k10 ?kod ?a11 ?l11 ?c11 ?k11 ?a12 ?l12 ?c12 ?k12 ?a13 ?l13 ?c13 ?k13 ?a14 ?l14 ?c14 ?k14 ?a15 ?l15 ?c15 ?k15 ?a16 ?l16 ?c16 ?k16 ?a17 ?l17 ?c17 ?k17 ?a18 ?l18 ?c18 ?k18 ?a19 ?l19 ?c19 ?k19 ?a20 ?l20 ?c20 ?k20 ?a21 ?l21 ?c21 ?k21
    (case nT => first | k_is | kernel_rfl)
    (case z_len => k_is)
    (case z_sum => k_is)
    (case z_all => k_is)
    (case z_any => k_is)
    (case z_zip => k_is)
    (case z_range => k_is)
    (case z_sorted => k_is)
    (case z_isinstance => k_is)
    (case z_int => k_is)
    (case z_bool => k_is)
    (case z_list => k_is)
    (case z_tuple => k_is)
    (case z_enumerate => k_is)
    (case z_min => k_is)
    (case z_max => k_is)
    (case z_abs => k_is)
    (case aCS => k_is)
    (case pgS => k_is)
    (case hdS => k_is)
    (case poS => k_is)
    (case saS => k_is)
    (case mkS => k_is)
    (case kcS => k_is)
    (case nSplaces => k_is)
    (case haS => k_is)
    (case hmS => k_is)
    (case a1 => k_is)
    (case l1 => k_is)
    (case c1 => k_is)
    (case k1 => k_is)
    (case i1 => k_is)
    (case a2 => k_is)
    (case l2 => k_is)
    (case c2 => k_is)
    (case k2 => k_is)
    (case i2 => k_is)
    (case aCU => k_is)
    (case pgU => k_is)
    (case hdU => k_is)
    (case poU => k_is)
    (case saU => k_is)
    (case mkU => k_is)
    (case kcU => k_is)
    (case nUpower => k_is)
    (case nUmore => k_is)
    (case haU => k_is)
    (case hmU => k_is)
    (case a3 => k_is)
    (case l3 => k_is)
    (case c3 => k_is)
    (case k3 => k_is)
    (case i3 => k_is)
    (case a4 => k_is)
    (case l4 => k_is)
    (case c4 => k_is)
    (case k4 => k_is)
    (case i4 => k_is)
    (case hn => k_is)
    (case htk => k_is)
    (case a5 => k_is)
    (case l5 => k_is)
    (case c5 => k_is)
    (case k5 => k_is)
    (case a6 => k_is)
    (case l6 => k_is)
    (case c6 => k_is)
    (case k6 => k_is)
    (case a7 => k_is)
    (case l7 => k_is)
    (case c7 => k_is)
    (case k7 => k_is)
    (case a8 => k_is)
    (case l8 => k_is)
    (case c8 => k_is)
    (case k8 => k_is)
    (case a9 => k_is)
    (case l9 => k_is)
    (case c9 => k_is)
    (case k9 => k_is)
    (case a10 => k_is)
    (case l10 => k_is)
    (case c10 => k_is)
    (case k10 => k_is)
    (case kod => kernel_rfl)
    (case a11 => k_is)
    (case l11 => k_is)
    (case c11 => k_is)
    (case k11 => k_is)
    (case a12 => k_is)
    (case l12 => k_is)
    (case c12 => k_is)
    (case k12 => k_is)
    (case a13 => k_is)
    (case l13 => k_is)
    (case c13 => k_is)
    (case k13 => k_is)
    (case a14 => k_is)
    (case l14 => k_is)
    (case c14 => k_is)
    (case k14 => k_is)
    (case a15 => k_is)
    (case l15 => k_is)
    (case c15 => k_is)
    (case k15 => k_is)
    (case a16 => k_is)
    (case l16 => k_is)
    (case c16 => k_is)
    (case k16 => k_is)
    (case a17 => k_is)
    (case l17 => k_is)
    (case c17 => k_is)
    (case k17 => k_is)
    (case a18 => k_is)
    (case l18 => k_is)
    (case c18 => k_is)
    (case k18 => k_is)
    (case a19 => k_is)
    (case l19 => k_is)
    (case c19 => k_is)
    (case k19 => k_is)
    (case a20 => k_is)
    (case l20 => k_is)
    (case c20 => k_is)
    (case k20 => k_is)
    (case a21 => k_is)
    (case l21 => k_is)
    (case c21 => k_is)
    (case k21 => k_is)
    (case qUS => kit_is)
