import PyProof.Rows.All
import Wide.All
import OpenK.AllK
import Wide.FinOn
import HandS.ForMost
import HandS.IsInst
import HandS.Wide
import HandS.Exc
import HandS.Lambda
import HandS.EndBits
import HandS.EndTab
import HandS.Style
import HandS.SortInts
import KE.IntBitsLaws
import PySem.Challenge.RW_evenpowers_k03_whole_dealt
import HandS.Codes
import HandS.Conv
set_option linter.all false
namespace Ep
/-! ### sums by powers -/
def sumTo : Nat → (Nat → Int) → Int
  | 0, _ => 0
  | k + 1, F => sumTo k F + F k
theorem sumTo_congr : ∀ (k : Nat) (F G : Nat → Int), (∀ i, i < k → F i = G i) → sumTo k F = sumTo k G
  | 0, _, _, _ => rfl
  | k + 1, F, G, h => by
    show sumTo k F + F k = sumTo k G + G k
    rw [sumTo_congr k F G (fun i hi => h i (by omega)), h k (by omega)]
theorem sumTo_add (k : Nat) (F G : Nat → Int) : sumTo k (fun i => F i + G i) = sumTo k F + sumTo k G := by
  induction k with
  | zero => rfl
  | succ k ih =>
    show sumTo k (fun i => F i + G i) + (F k + G k) = (sumTo k F + F k) + (sumTo k G + G k)
    rw [ih]; omega
theorem sumTo_mul (c : Int) (k : Nat) (F : Nat → Int) : sumTo k (fun i => c * F i) = c * sumTo k F := by
  induction k with
  | zero => exact (Int.mul_zero c).symm
  | succ k ih =>
    show sumTo k (fun i => c * F i) + c * F k = c * (sumTo k F + F k)
    rw [ih, Int.mul_add]
theorem sumTo_first (k : Nat) (F : Nat → Int) : sumTo (k + 1) F = F 0 + sumTo k (fun i => F (i + 1)) := by
  induction k with
  | zero => show 0 + F 0 = F 0 + 0; omega
  | succ k ih =>
    show sumTo (k + 1) F + F (k + 1) = F 0 + (sumTo k (fun i => F (i + 1)) + F (k + 1))
    rw [ih]; omega
theorem sumTo_zero (k : Nat) (F : Nat → Int) (h : ∀ i, i < k → F i = 0) : sumTo k F = 0 := by
  rw [sumTo_congr k F (fun _ => 0) h]
  induction k with
  | zero => rfl
  | succ k ih => show sumTo k (fun _ => 0) + 0 = 0; rw [ih (fun i hi => h i (by omega))]; rfl

/-- the sum of l by the power k -/
def psum (l : List Int) (k : Nat) : Int := (l.map (· ^ k)).sum
theorem psum_nil (k : Nat) : psum [] k = 0 := rfl
theorem psum_cons (a : Int) (l : List Int) (k : Nat) : psum (a :: l) k = a ^ k + psum l k := by
  unfold psum; rw [List.map_cons, List.sum_cons]
theorem psum_append (l m : List Int) (k : Nat) : psum (l ++ m) k = psum l k + psum m k := by
  induction l with
  | nil => rw [List.nil_append, psum_nil]; omega
  | cons a l ih => rw [List.cons_append, psum_cons, psum_cons, ih]; omega
theorem psum_perm {l m : List Int} (h : l.Perm m) (k : Nat) : psum l k = psum m k := by
  induction h with
  | nil => rfl
  | cons x _ ih => rw [psum_cons, psum_cons, ih]
  | swap x y l => rw [psum_cons, psum_cons, psum_cons, psum_cons]; omega
  | trans _ _ a b => rw [a, b]
theorem psum_zero (l : List Int) : psum l 0 = l.length := by
  induction l with
  | nil => rfl
  | cons a l ih => rw [psum_cons, ih, List.length_cons, Int.pow_zero]; omega

/-! ### Newton -/
/-- the coefficient of t^k in the product of (1 - a t) -/
def el : List Int → Nat → Int
  | [], 0 => 1
  | [], _ + 1 => 0
  | _ :: l, 0 => el l 0
  | a :: l, k + 1 => el l (k + 1) - a * el l k
def pe (l : List Int) : Nat → Int
  | 0 => 0
  | k + 1 => el l k
theorem el_cons (a : Int) (l : List Int) (k : Nat) : el (a :: l) k = el l k - a * pe l k := by
  cases k with
  | zero => show el l 0 = el l 0 - a * 0; omega
  | succ k => rfl
theorem el_zero : ∀ l : List Int, el l 0 = 1
  | [] => rfl
  | _ :: l => el_zero l
/-- the sum that Newton's rule speaks of -/
def cv (l : List Int) (p : Nat → Int) (k : Nat) : Int := sumTo k fun i => el l (k - 1 - i) * p (i + 1)
theorem cv_pe (l : List Int) (p : Nat → Int) (m : Nat) : sumTo (m + 1) (fun i => pe l (m - i) * p (i + 1)) = cv l p m := by
  show sumTo m (fun i => pe l (m - i) * p (i + 1)) + pe l (m - m) * p (m + 1) = _
  have e : m - m = 0 := by omega
  rw [e]
  show _ + 0 * _ = _
  rw [Int.zero_mul, Int.add_zero]
  refine sumTo_congr m _ _ fun i hi => ?_
  have e2 : m - i = (m - 1 - i) + 1 := by omega
  rw [e2]
  rfl
theorem newton : ∀ (l : List Int) (k : Nat), (k : Int) * el l k + cv l (psum l) k = 0
  | [], 0 => rfl
  | [], k + 1 => by
    have h : cv [] (psum []) (k + 1) = 0 := sumTo_zero _ _ fun i _ => by rw [psum_nil, Int.mul_zero]
    rw [h]
    show ((k + 1 : Nat) : Int) * 0 + 0 = 0
    omega
  | a :: l, 0 => by
    show ((0 : Nat) : Int) * _ + 0 = 0
    rw [Int.natCast_zero, Int.zero_mul]; rfl
  | a :: l, m + 1 => by
    have h1 := newton l (m + 1)
    have h0 := newton l m
    have s1 : cv (a :: l) (psum (a :: l)) (m + 1) = sumTo (m + 1) (fun i => el l (m - i) * a ^ (i + 1)) + (-a) * sumTo (m + 1) (fun i => pe l (m - i) * a ^ (i + 1)) + cv l (psum l) (m + 1) + (-a) * cv l (psum l) m := by
      rw [← cv_pe l (psum l) m]
      have e1 : cv l (psum l) (m + 1) = sumTo (m + 1) fun i => el l (m - i) * psum l (i + 1) := rfl
      rw [e1, ← sumTo_mul, ← sumTo_mul, ← sumTo_add, ← sumTo_add, ← sumTo_add]
      refine sumTo_congr _ _ _ fun i _ => ?_
      have e3 : m + 1 - 1 - i = m - i := by omega
      rw [e3, el_cons, psum_cons]
      grind
    have s2 : sumTo (m + 1) (fun i => el l (m - i) * a ^ (i + 1)) = el l m * a + a * cv l (fun j => a ^ j) m := by
      rw [sumTo_first]
      have e : cv l (fun j => a ^ j) m = sumTo m fun i => el l (m - 1 - i) * a ^ (i + 1) := rfl
      rw [e, ← sumTo_mul]
      have e2 : m - 0 = m := rfl
      rw [e2, Int.pow_succ, Int.pow_zero, Int.one_mul]
      congr 1
      refine sumTo_congr _ _ _ fun i _ => ?_
      have e3 : m - (i + 1) = m - 1 - i := by omega
      rw [e3]
      grind
    have s3 : sumTo (m + 1) (fun i => pe l (m - i) * a ^ (i + 1)) = cv l (fun j => a ^ j) m := cv_pe l (fun j => a ^ j) m
    rw [s1, s2, s3, el_cons]
    show ((m + 1 : Nat) : Int) * (el l (m + 1) - a * el l m) + _ = 0
    have em : ((m + 1 : Nat) : Int) = (m : Int) + 1 := by omega
    rw [em] at h1 ⊢
    generalize cv l (psum l) (m + 1) = A at *
    generalize cv l (psum l) m = B at *
    generalize cv l (fun j => a ^ j) m = C at *
    generalize el l (m + 1) = E1 at *
    generalize el l m = E0 at *
    generalize (m : Int) = z at *
    grind
/-- sums by 1 .. n alike: the coefficients to n alike -/
theorem el_alike {l m : List Int} {n : Nat} (h : ∀ k, k ≤ n → psum l k = psum m k) : ∀ k, k ≤ n → el l k = el m k := by
  intro k
  induction k using Nat.strongRecOn with
  | ind k ih =>
    intro hk
    by_cases h0 : k = 0
    · rw [h0, el_zero, el_zero]
    · have a := newton l k
      have b := newton m k
      have e : cv l (psum l) k = cv m (psum m) k := sumTo_congr _ _ _ fun i hi => by
        rw [ih (k - 1 - i) (by omega) (by omega), h (i + 1) (by omega)]
      rw [e] at a
      have z : (k : Int) * el l k = (k : Int) * el m k := by omega
      exact Int.eq_of_mul_eq_mul_left (by omega) z
/-! ### the product of (x - a) -/
def pr (x : Int) : List Int → Int
  | [] => 1
  | a :: l => (x - a) * pr x l
/-- the product by its coefficients: el l 0 x^n + el l 1 x^(n-1) + .. -/
def ev (l : List Int) (n : Nat) (x : Int) : Int := sumTo (n + 1) fun i => el l i * x ^ (n - i)
theorem el_over : ∀ (l : List Int) (k : Nat), l.length < k → el l k = 0
  | [], k + 1, _ => rfl
  | a :: l, k + 1, h => by
    have h : l.length + 1 < k + 1 := h
    show el l (k + 1) - a * el l k = 0
    rw [el_over l (k + 1) (by omega), el_over l k (by omega)]
    omega
theorem pr_ev : ∀ (l : List Int) (x : Int), pr x l = ev l l.length x
  | [], x => by
    show 1 = 0 + 1 * x ^ 0
    rw [Int.pow_zero]; rfl
  | a :: l, x => by
    have ih := pr_ev l x
    show (x - a) * pr x l = sumTo (l.length + 1 + 1) fun i => el (a :: l) i * x ^ (l.length + 1 - i)
    have s1 : sumTo (l.length + 1 + 1) (fun i => el (a :: l) i * x ^ (l.length + 1 - i)) = sumTo (l.length + 1 + 1) (fun i => el l i * x ^ (l.length + 1 - i)) + (-a) * sumTo (l.length + 1 + 1) (fun i => pe l i * x ^ (l.length + 1 - i)) := by
      rw [← sumTo_mul, ← sumTo_add]
      refine sumTo_congr _ _ _ fun i _ => ?_
      rw [el_cons]; grind
    have s2 : sumTo (l.length + 1 + 1) (fun i => el l i * x ^ (l.length + 1 - i)) = x * ev l l.length x := by
      show sumTo (l.length + 1) (fun i => el l i * x ^ (l.length + 1 - i)) + el l (l.length + 1) * _ = _
      rw [el_over l (l.length + 1) (by omega), Int.zero_mul, Int.add_zero]
      unfold ev
      rw [← sumTo_mul]
      refine sumTo_congr _ _ _ fun i hi => ?_
      have e : l.length + 1 - i = (l.length - i) + 1 := by omega
      rw [e, Int.pow_succ]; grind
    have s3 : sumTo (l.length + 1 + 1) (fun i => pe l i * x ^ (l.length + 1 - i)) = ev l l.length x := by
      rw [sumTo_first]
      show 0 * _ + _ = _
      rw [Int.zero_mul, Int.zero_add]
      refine sumTo_congr _ _ _ fun i hi => ?_
      have e : l.length + 1 - (i + 1) = l.length - i := by omega
      rw [e]; rfl
    rw [s1, s2, s3, ih]; grind
theorem pr_zero {x : Int} : ∀ {l : List Int}, pr x l = 0 → x ∈ l
  | [], h => by
    have h : (1 : Int) = 0 := h
    omega
  | a :: l, h => by
    rcases Int.mul_eq_zero.mp (show (x - a) * pr x l = 0 from h) with e | e
    · have : x = a := by omega
      rw [this]; exact List.mem_cons_self
    · exact List.mem_cons_of_mem _ (pr_zero e)
theorem pr_mem {x : Int} : ∀ {l : List Int}, x ∈ l → pr x l = 0
  | a :: l, h => by
    show (x - a) * pr x l = 0
    rcases List.mem_cons.mp h with e | e
    · rw [e, Int.sub_self, Int.zero_mul]
    · rw [pr_mem e, Int.mul_zero]
/-- two lists of n numbers whose sums by 0 .. n are alike have a number in common -/
theorem share {a : Int} {l m : List Int} (h : ∀ k, k ≤ l.length + 1 → psum (a :: l) k = psum m k) : a ∈ m := by
  have hl : m.length = l.length + 1 := by
    have q := h 0 (by omega)
    rw [psum_zero, psum_zero, List.length_cons] at q
    omega
  have e := el_alike h
  refine pr_zero ?_
  rw [pr_ev, hl]
  have z : pr a (a :: l) = 0 := pr_mem List.mem_cons_self
  rw [pr_ev, List.length_cons] at z
  rw [← z]
  unfold ev
  exact sumTo_congr _ _ _ fun i hi => by rw [e i (by omega)]
/-- sums by 0 .. the greater count alike: the same numbers -/
theorem same_of_sums : ∀ (l m : List Int), (∀ k, k ≤ max l.length m.length → psum l k = psum m k) → l.Perm m
  | [], m, h => by
    have q := h 0 (by omega)
    rw [psum_zero, psum_zero] at q
    have : m = [] := List.length_eq_zero_iff.mp (by simp at q; omega)
    rw [this]
  | a :: l, m, h => by
    have hm : a ∈ m := share fun k hk => h k (by rw [List.length_cons]; omega)
    have p : m.Perm (a :: m.erase a) := List.perm_cons_erase hm
    refine (List.Perm.cons a (same_of_sums l (m.erase a) fun k hk => ?_)).trans p.symm
    have q := h k (by
      have := p.length_eq
      rw [List.length_cons] at this ⊢
      omega)
    rw [psum_perm p, psum_cons, psum_cons] at q
    omega
/-- the same numbers or a power, at most the greater count, by which the sums are unlike -/
theorem unlike_at {l m : List Int} (h : ¬ l.Perm m) : ∃ k, k ≤ max l.length m.length ∧ psum l k ≠ psum m k := by
  apply Classical.byContradiction
  intro z
  refine h (same_of_sums l m fun k hk => ?_)
  apply Classical.byContradiction
  intro e
  exact z ⟨k, hk, e⟩
end Ep
namespace Ep
/-! ### functions of a degree -/
/-- g is a polynomial of degree at most d, c stands before x^d -/
def Deg : Nat → Int → (Int → Int) → Prop
  | 0, c, g => ∀ x, g x = c
  | d + 1, c, g => ∃ c' g', Deg d c' g' ∧ ∀ x, g x = c * x ^ (d + 1) + g' x
theorem Deg.congr : ∀ {d : Nat} {c c' : Int} {g h : Int → Int}, Deg d c g → (∀ x, h x = g x) → c' = c → Deg d c' h
  | 0, c, c', g, h, a, e, ec => fun x => by rw [e, a x, ec]
  | d + 1, c, c', g, h, ⟨c1, g1, a, b⟩, e, ec => ⟨c1, g1, a, fun x => by rw [e, b, ec]⟩
theorem Deg.add : ∀ {d : Nat} {c c' : Int} {g h : Int → Int}, Deg d c g → Deg d c' h → Deg d (c + c') fun x => g x + h x
  | 0, c, c', g, h, a, b => fun x => by dsimp only; rw [a x, b x]
  | d + 1, c, c', g, h, ⟨c1, g1, a1, b1⟩, ⟨c2, g2, a2, b2⟩ => ⟨_, _, a1.add a2, fun x => by dsimp only; rw [b1, b2]; grind⟩
theorem Deg.smul (t : Int) : ∀ {d : Nat} {c : Int} {g : Int → Int}, Deg d c g → Deg d (t * c) fun x => t * g x
  | 0, c, g, a => fun x => by dsimp only; rw [a x]
  | d + 1, c, g, ⟨c1, g1, a, b⟩ => ⟨_, _, a.smul t, fun x => by dsimp only; rw [b]; grind⟩
theorem Deg.up {d : Nat} {c : Int} {g : Int → Int} (a : Deg d c g) : Deg (d + 1) 0 g := ⟨c, g, a, fun x => by rw [Int.zero_mul, Int.zero_add]⟩
theorem Deg.mulx : ∀ {d : Nat} {c : Int} {g : Int → Int}, Deg d c g → Deg (d + 1) c fun x => x * g x
  | 0, c, g, a => ⟨0, fun _ => 0, fun _ => rfl, fun x => by dsimp only; rw [a x]; grind⟩
  | d + 1, c, g, ⟨c1, g1, a, b⟩ => ⟨_, _, a.mulx, fun x => by dsimp only; rw [b]; grind⟩
theorem deg_affine (t c : Int) : ∀ d : Nat, Deg d (t ^ d) fun x => (x * t + c) ^ d
  | 0 => fun x => by dsimp only; rw [Int.pow_zero, Int.pow_zero]
  | d + 1 => by
    have ih := deg_affine t c d
    refine ((ih.mulx.smul t).add (ih.smul c).up).congr (fun x => ?_) ?_
    · rw [Int.pow_succ]; grind
    · rw [Int.pow_succ]; grind
theorem deg_pow (d : Nat) : Deg d 1 fun x => x ^ d := (deg_affine 1 0 d).congr (fun x => by rw [Int.mul_one, Int.add_zero]) (by rw [Int.one_pow])
theorem deg_shift (s : Int) (d : Nat) : Deg d 1 fun x => (x + s) ^ d := (deg_affine 1 s d).congr (fun x => by rw [Int.mul_one]) (by rw [Int.one_pow])
theorem deg_powdiff (s : Int) : ∀ d : Nat, Deg d (-((d : Int) + 1) * s) fun x => x ^ (d + 1) - (x + s) ^ (d + 1)
  | 0 => fun x => by grind
  | d + 1 => by
    have ih := deg_powdiff s d
    refine (ih.mulx.add ((deg_shift s (d + 1)).smul (-s))).congr (fun x => ?_) ?_
    · grind
    · have : ((d + 1 : Nat) : Int) = (d : Int) + 1 := by omega
      rw [this]; grind
/-- the difference by a step: one degree less -/
theorem Deg.diff (s : Int) : ∀ {d : Nat} {c : Int} {g : Int → Int}, Deg (d + 1) c g → Deg d (-((d : Int) + 1) * s * c) fun x => g x - g (x + s)
  | 0, c, g, ⟨c1, g1, a, b⟩ => fun x => by dsimp only; rw [b, b, a x, a (x + s)]; grind
  | d + 1, c, g, ⟨c1, g1, a, b⟩ => by
    refine (((deg_powdiff s (d + 1)).smul c).add (a.diff s).up).congr (fun x => ?_) ?_
    · rw [b, b]; grind
    · grind

/-! ### what a sum over two lists says of such functions -/
def over (l m : List Int) (g : Int → Int) : Int := (l.map g).sum - (m.map g).sum
theorem map_sum_congr {g h : Int → Int} (e : ∀ x, g x = h x) (l : List Int) : (l.map g).sum = (l.map h).sum := by
  have : g = h := funext e
  rw [this]
theorem map_sum_lin (t : Int) (g h : Int → Int) : ∀ l : List Int, (l.map fun x => t * g x + h x).sum = t * (l.map g).sum + (l.map h).sum
  | [] => by simp
  | a :: l => by
    rw [List.map_cons, List.sum_cons, map_sum_lin t g h l, List.map_cons, List.sum_cons, List.map_cons, List.sum_cons]; grind
theorem map_sum_const (c : Int) : ∀ l : List Int, (l.map fun _ => c).sum = c * l.length
  | [] => by simp
  | a :: l => by
    rw [List.map_cons, List.sum_cons, map_sum_const c l, List.length_cons]; grind
theorem over_deg {l m : List Int} : ∀ {d : Nat} {c : Int} {g : Int → Int}, (∀ k, k < d → psum l k = psum m k) → Deg d c g → over l m g = c * (psum l d - psum m d)
  | 0, c, g, _, a => by
    unfold over
    rw [map_sum_congr a, map_sum_congr a, map_sum_const, map_sum_const, psum_zero, psum_zero]; grind
  | d + 1, c, g, h, ⟨c1, g1, a, b⟩ => by
    have ih := over_deg (fun k hk => h k (by omega)) a
    have z := h d (by omega)
    unfold over at ih ⊢
    rw [map_sum_congr b, map_sum_congr b, map_sum_lin, map_sum_lin]
    unfold psum at *
    rw [z, Int.sub_self, Int.mul_zero] at ih
    grind
/-! ### the first power -/
/-- k is the least power by which the sums are unlike -/
structure First (l m : List Int) (k : Nat) : Prop where
  ne : psum l k ≠ psum m k
  lt : ∀ j, j < k → psum l j = psum m j
theorem First.le {l m : List Int} {k j : Nat} (h : First l m k) (e : psum l j ≠ psum m j) : k ≤ j := by
  apply Classical.byContradiction
  intro z
  exact e (h.lt j (by omega))
theorem First.uniq {l m : List Int} {k j : Nat} (h : First l m k) (h' : First l m j) : k = j := Nat.le_antisymm (h.le h'.ne) (h'.le h.ne)
theorem First.most {l m : List Int} {k : Nat} (h : First l m k) : k ≤ max l.length m.length := by
  have n : ¬ l.Perm m := fun p => h.ne (psum_perm p k)
  obtain ⟨j, hj, e⟩ := unlike_at n
  exact Nat.le_trans (h.le e) hj
theorem First.symm {l m : List Int} {k : Nat} (h : First l m k) : First m l k := ⟨fun e => h.ne e.symm, fun j hj => (h.lt j hj).symm⟩
theorem First.not_perm {l m : List Int} {k : Nat} (h : First l m k) : ¬ l.Perm m := fun p => h.ne (psum_perm p k)
/-- 3: two heaps by a shift -/
theorem psum_map (l : List Int) (f : Int → Int) (k : Nat) : psum (l.map f) k = (l.map fun x => f x ^ k).sum := by
  unfold psum
  rw [List.map_map]; rfl
theorem raised_over (l m : List Int) (s : Int) (k : Nat) : psum (l ++ m.map (· + s)) k - psum (m ++ l.map (· + s)) k = over l m fun x => x ^ k - (x + s) ^ k := by
  rw [psum_append, psum_append, psum_map, psum_map]
  unfold over
  have e : ∀ q : List Int, (q.map fun x => x ^ k - (x + s) ^ k).sum = psum q k - (q.map fun x => (x + s) ^ k).sum := fun q => by
    have := map_sum_lin (-1) (fun x => (x + s) ^ k) (fun x => x ^ k) q
    have e2 : (q.map fun x => -1 * (x + s) ^ k + x ^ k).sum = (q.map fun x => x ^ k - (x + s) ^ k).sum := map_sum_congr (fun x => by grind) q
    rw [e2] at this
    rw [this]; unfold psum; grind
  rw [e, e]; grind
theorem raised_first {l m : List Int} {s : Int} {k : Nat} (hs : s ≠ 0) (h : First l m k) :
    First (l ++ m.map (· + s)) (m ++ l.map (· + s)) (k + 1) ∧
    psum (l ++ m.map (· + s)) (k + 1) - psum (m ++ l.map (· + s)) (k + 1) = -((k : Int) + 1) * s * (psum l k - psum m k) := by
  have top := raised_over l m s (k + 1)
  rw [over_deg h.lt (deg_powdiff s k)] at top
  refine ⟨⟨fun e => ?_, fun j hj => ?_⟩, top⟩
  · rw [e, Int.sub_self] at top
    rcases Int.mul_eq_zero.mp top.symm with z | z
    · rcases Int.mul_eq_zero.mp z with z | z
      · omega
      · exact hs z
    · exact h.ne (by omega)
  · have low := raised_over l m s j
    cases j with
    | zero =>
      have e : over l m (fun x => x ^ 0 - (x + s) ^ 0) = 0 := by
        unfold over
        rw [map_sum_congr (h := fun _ => 0) (fun x => by rw [Int.pow_zero, Int.pow_zero]; rfl) l, map_sum_congr (h := fun _ => 0) (fun x => by rw [Int.pow_zero, Int.pow_zero]; rfl) m, map_sum_const, map_sum_const]; omega
      rw [e] at low; omega
    | succ j =>
      rw [over_deg (fun i hi => h.lt i (by omega)) (deg_powdiff s j), h.lt j (by omega), Int.sub_self, Int.mul_zero] at low
      omega
theorem raised_perm {l m : List Int} {s : Int} (h : l.Perm m) : (l ++ m.map (· + s)).Perm (m ++ l.map (· + s)) := h.append (h.symm.map _)
theorem pow_ne {t : Int} (ht : t ≠ 0) : ∀ k : Nat, t ^ k ≠ 0
  | 0, e => by rw [Int.pow_zero] at e; omega
  | k + 1, e => by
    rw [Int.pow_succ] at e
    rcases Int.mul_eq_zero.mp e with z | z
    · exact pow_ne ht k z
    · exact ht z
/-- 4: multiplied and moved -/
theorem changed_over (l m : List Int) (t c : Int) (k : Nat) : psum (l.map fun x => x * t + c) k - psum (m.map fun x => x * t + c) k = over l m fun x => (x * t + c) ^ k := by
  rw [psum_map, psum_map]; rfl
theorem changed_first {l m : List Int} {t c : Int} {k : Nat} (ht : t ≠ 0) (h : First l m k) :
    First (l.map fun x => x * t + c) (m.map fun x => x * t + c) k ∧
    psum (l.map fun x => x * t + c) k - psum (m.map fun x => x * t + c) k = t ^ k * (psum l k - psum m k) := by
  have top := changed_over l m t c k
  rw [over_deg h.lt (deg_affine t c k)] at top
  refine ⟨⟨fun e => ?_, fun j hj => ?_⟩, top⟩
  · rw [e, Int.sub_self] at top
    rcases Int.mul_eq_zero.mp top.symm with z | z
    · exact pow_ne ht k z
    · exact h.ne (by omega)
  · have low := changed_over l m t c j
    rw [over_deg (fun i hi => h.lt i (by omega)) (deg_affine t c j), h.lt j hj, Int.sub_self, Int.mul_zero] at low
    omega
end Ep
namespace Ep
/-! ### numbers by the sums of their figures -/
/-- the sum of the figures of n, told with m signs -/
def ds (m n : Nat) : Nat := if h : n = 0 ∨ m < 2 then 0 else n % m + ds m (n / m)
  termination_by n
  decreasing_by exact Nat.div_lt_self (by omega) (by omega)
theorem ds_zero (m : Nat) : ds m 0 = 0 := by unfold ds; simp
theorem ds_step {m n : Nat} (hm : 2 ≤ m) : ds m n = n % m + ds m (n / m) := by
  by_cases h : n = 0
  · rw [h, Nat.zero_div, Nat.zero_mod, ds_zero]
  · rw [ds.eq_def m n, dif_neg (by omega)]
theorem ds_small {m d : Nat} (hm : 2 ≤ m) (h : d < m) : ds m d = d := by
  rw [ds_step hm, Nat.mod_eq_of_lt h, Nat.div_eq_of_lt h, ds_zero]; rfl
/-- a figure ahead -/
theorem ds_top {m : Nat} (hm : 2 ≤ m) : ∀ (f d q : Nat), d < m → q < m ^ f → ds m (d * m ^ f + q) = ds m q + d
  | 0, d, q, hd, hq => by
    rw [Nat.pow_zero] at hq ⊢
    have : q = 0 := by omega
    rw [this, Nat.mul_one, Nat.add_zero, ds_zero, ds_small hm hd, Nat.zero_add]
  | f + 1, d, q, hd, hq => by
    have hq2 : q / m < m ^ f := by
      rw [Nat.div_lt_iff_lt_mul (by omega)]
      rw [Nat.pow_succ] at hq; exact hq
    have e0 : d * m ^ (f + 1) + q = q + m * (d * m ^ f) := by rw [Nat.pow_succ]; grind
    have e1 : (d * m ^ (f + 1) + q) % m = q % m := by rw [e0, Nat.add_mul_mod_self_left]
    have e2 : (d * m ^ (f + 1) + q) / m = d * m ^ f + q / m := by
      rw [e0, Nat.add_mul_div_left _ _ (by omega)]; omega
    rw [ds_step hm, e1, e2, ds_top hm f d (q / m) hd hq2, ds_step (n := q) hm]; omega
theorem sumTo_split (b : Nat) (F : Nat → Int) : ∀ a : Nat, sumTo (a * b) F = sumTo a fun d => sumTo b fun q => F (d * b + q)
  | 0 => by rw [Nat.zero_mul]; rfl
  | a + 1 => by
    have h : ∀ c : Nat, sumTo (a * b + c) F = sumTo (a * b) F + sumTo c fun q => F (a * b + q) := fun c => by
      induction c with
      | zero => show sumTo (a * b) F = sumTo (a * b) F + 0; omega
      | succ c ih => show sumTo (a * b + c) F + F (a * b + c) = sumTo (a * b) F + (sumTo c (fun q => F (a * b + q)) + F (a * b + c)); rw [ih]; omega
    rw [Nat.succ_mul, h, sumTo_split b F a]; rfl
theorem sumTo_swap (a b : Nat) (F : Nat → Nat → Int) : sumTo a (fun i => sumTo b fun j => F i j) = sumTo b fun j => sumTo a fun i => F i j := by
  induction a with
  | zero => exact (sumTo_zero b _ fun _ _ => rfl).symm
  | succ a ih => show sumTo a (fun i => sumTo b fun j => F i j) + sumTo b (fun j => F a j) = _; rw [ih, ← sumTo_add]; rfl
theorem sumTo_one {m d0 : Nat} (v : Int) (h : d0 < m) : sumTo m (fun d => if d = d0 then v else 0) = v := by
  induction m with
  | zero => omega
  | succ m ih =>
    show sumTo m (fun d => if d = d0 then v else 0) + (if m = d0 then v else 0) = v
    by_cases e : m = d0
    · rw [if_pos e, sumTo_zero m _ fun i hi => if_neg (by omega), Int.zero_add]
    · rw [if_neg e, ih (by omega), Int.add_zero]
theorem mod2 {a m : Nat} (h : a < 2 * m) : a % m = if a < m then a else a - m := by
  split
  · rename_i q; exact Nat.mod_eq_of_lt q
  · rename_i q
    rw [Nat.mod_eq_sub_mod (by omega), Nat.mod_eq_of_lt (by omega)]
/-- the sum of g over the numbers of f figures of the heap r -/
def hs (m f r : Nat) (g : Int → Int) : Int := sumTo (m ^ f) fun n => if ds m n % m = r then g n else 0
theorem hs_lin (m f r : Nat) (g h : Int → Int) : hs m f r (fun x => g x + h x) = hs m f r g + hs m f r h := by
  unfold hs
  rw [← sumTo_add]
  refine sumTo_congr _ _ _ fun i _ => ?_
  dsimp only
  split <;> omega
theorem hs_congr (m f r : Nat) {g h : Int → Int} (e : ∀ x, g x = h x) : hs m f r g = hs m f r h := by
  have : g = h := funext e
  rw [this]
theorem hs_succ {m : Nat} (hm : 2 ≤ m) (f r : Nat) (hr : r < m) (g : Int → Int) : hs m (f + 1) r g = sumTo m fun d => hs m f ((r + (m - d)) % m) fun x => g (x + d * (m : Int) ^ f) := by
  have e0 : m ^ (f + 1) = m * m ^ f := by rw [Nat.pow_succ, Nat.mul_comm]
  unfold hs
  rw [e0, sumTo_split]
  refine sumTo_congr _ _ _ fun d hd => sumTo_congr _ _ _ fun q hq => ?_
  rw [ds_top hm f d q hd hq]
  have lt := Nat.mod_lt (ds m q) (show 0 < m by omega)
  have a1 : (ds m q + d) % m = (ds m q % m + d) % m := by rw [Nat.mod_add_mod]
  have iff : ((ds m q + d) % m = r) = (ds m q % m = (r + (m - d)) % m) := by
    rw [a1]
    generalize ds m q % m = x at lt ⊢
    rw [mod2 (a := x + d) (by omega), mod2 (a := r + (m - d)) (by omega)]
    apply propext
    split <;> split <;> omega
  have e1 : ((d * m ^ f + q : Nat) : Int) = (q : Int) + d * (m : Int) ^ f := by
    rw [Int.natCast_add, Int.natCast_mul, Int.natCast_pow]; omega
  simp only [iff, e1]
theorem hs_all {m : Nat} (hm : 2 ≤ m) (f r : Nat) (hr : r < m) (g : Int → Int) : sumTo m (fun d => hs m f ((r + (m - d)) % m) g) = sumTo (m ^ f) fun n => g n := by
  unfold hs
  rw [sumTo_swap]
  refine sumTo_congr _ _ _ fun n hn => ?_
  have lt := Nat.mod_lt (ds m n) (show 0 < m by omega)
  have e : sumTo m (fun d => if ds m n % m = (r + (m - d)) % m then g n else 0) = sumTo m fun d => if d = (r + (m - ds m n % m)) % m then g n else 0 := by
    refine sumTo_congr _ _ _ fun d hd => ?_
    have iff : (ds m n % m = (r + (m - d)) % m) = (d = (r + (m - ds m n % m)) % m) := by
      generalize ds m n % m = x at lt ⊢
      rw [mod2 (a := r + (m - d)) (by omega), mod2 (a := r + (m - x)) (by omega)]
      apply propext
      split <;> split <;> omega
    simp only [iff]
  rw [e, sumTo_one _ (Nat.mod_lt _ (by omega))]
/-- Prouhet: below the count of figures the heaps are alike -/
theorem prouhet {m : Nat} (hm : 2 ≤ m) : ∀ (f d : Nat) (c : Int) (g : Int → Int), d < f → Deg d c g → ∀ r r' : Nat, r < m → r' < m → hs m f r g = hs m f r' g
  | 0, d, c, g, h, _, _, _, _, _ => by omega
  | f + 1, d, c, g, h, D, r, r', hr, hr' => by
    have key : ∀ r : Nat, r < m → hs m (f + 1) r g = sumTo (m ^ f) (fun n => g n) + sumTo m fun i => hs m f 0 fun x => g (x + i * (m : Int) ^ f) - g x := fun r hr => by
      rw [hs_succ hm f r hr, ← hs_all hm f r hr g, ← sumTo_add]
      refine sumTo_congr _ _ _ fun i _ => ?_
      have e : hs m f ((r + (m - i)) % m) (fun x => g (x + i * (m : Int) ^ f)) = hs m f ((r + (m - i)) % m) g + hs m f ((r + (m - i)) % m) fun x => g (x + i * (m : Int) ^ f) - g x := by
        rw [← hs_lin]
        exact hs_congr _ _ _ fun x => by omega
      rw [e]
      congr 1
      cases d with
      | zero =>
        have z : ∀ q : Nat, hs m f q (fun x => g (x + i * (m : Int) ^ f) - g x) = 0 := fun q => by
          unfold hs
          refine sumTo_zero _ _ fun n _ => ?_
          have : g ((n : Int) + i * (m : Int) ^ f) - g n = 0 := by rw [D, D]; omega
          dsimp only
          rw [this]; split <;> rfl
        rw [z, z]
      | succ d =>
        exact prouhet hm f d _ _ (by omega) (((D.diff (i * (m : Int) ^ f)).smul (-1)).congr (fun x => by omega) rfl) _ _ (Nat.mod_lt _ (by omega)) (by omega)
    rw [key r hr, key r' hr']
/-! ### two heaps: by how much -/
def due : Nat → Int
  | 0 => 1
  | f + 1 => due f * (-((f : Int) + 1) * 2 ^ f)
theorem two_diff : ∀ (f : Nat) (c : Int) (g : Int → Int), Deg f c g → hs 2 f 0 g - hs 2 f 1 g = c * due f
  | 0, c, g, D => by
    have a : ds 2 0 % 2 = 0 := by rw [ds_zero]
    show (0 + (if ds 2 0 % 2 = 0 then g (0 : Nat) else 0)) - (0 + (if ds 2 0 % 2 = 1 then g (0 : Nat) else 0)) = c * 1
    rw [if_pos a, if_neg (by omega), D]; omega
  | f + 1, c, g, D => by
    have ih := two_diff f _ _ (D.diff (2 ^ f))
    have sub : ∀ r, hs 2 f r (fun x => g x - g (x + 2 ^ f)) = hs 2 f r g - hs 2 f r fun x => g (x + 2 ^ f) := fun r => by
      have := hs_lin 2 f r (fun x => g x - g (x + 2 ^ f)) fun x => g (x + 2 ^ f)
      rw [hs_congr 2 f r (h := g) fun x => by omega] at this
      omega
    rw [sub, sub] at ih
    rw [hs_succ (by omega) f 0 (by omega), hs_succ (by omega) f 1 (by omega)]
    have s0 : ∀ F : Nat → Int, sumTo 2 F = F 0 + F 1 := fun F => by show 0 + F 0 + F 1 = _; omega
    rw [s0, s0]
    have z0 : ∀ r, hs 2 f r (fun x => g (x + ((0 : Nat) : Int) * ((2 : Nat) : Int) ^ f)) = hs 2 f r g := fun r => hs_congr _ _ _ fun x => by rw [Int.natCast_zero, Int.zero_mul, Int.add_zero]
    have z1 : ∀ r, hs 2 f r (fun x => g (x + ((1 : Nat) : Int) * ((2 : Nat) : Int) ^ f)) = hs 2 f r fun x => g (x + 2 ^ f) := fun r => hs_congr _ _ _ fun x => by
      have : ((1 : Nat) : Int) * ((2 : Nat) : Int) ^ f = 2 ^ f := by rw [Int.natCast_one, Int.one_mul]; rfl
      rw [this]
    rw [z0, z0, z1, z1]
    show hs 2 f 0 g + hs 2 f 1 _ - (hs 2 f 1 g + hs 2 f 0 _) = c * (due f * (-((f : Int) + 1) * 2 ^ f))
    have := ih
    grind
/-! ### the heaps as lists -/
/-- the heap r of the numbers of f figures -/
def heap (m f r : Nat) : List Int := ((List.range (m ^ f)).filter fun n => ds m n % m = r).map fun n : Nat => (n : Int)
theorem filter_sum (p : Nat → Bool) (g : Int → Int) : ∀ N : Nat, (((List.range N).filter p).map fun n : Nat => g n).sum = sumTo N fun n => if p n = true then g n else 0
  | 0 => rfl
  | N + 1 => by
    rw [List.range_succ, List.filter_append, List.map_append, List.sum_append, filter_sum p g N]
    show _ = sumTo N (fun n => if p n = true then g n else 0) + (if p N = true then g N else 0)
    congr 1
    by_cases h : p N = true
    · rw [List.filter_cons_of_pos h, if_pos h]; simp
    · rw [List.filter_cons_of_neg h, if_neg h]; rfl
theorem heap_psum (m f r k : Nat) : psum (heap m f r) k = hs m f r fun x => x ^ k := by
  unfold psum heap hs
  rw [List.map_map]
  have := filter_sum (fun n => decide (ds m n % m = r)) (fun x => x ^ k) (m ^ f)
  rw [show ((fun x : Int => x ^ k) ∘ fun n : Nat => (n : Int)) = fun n : Nat => (n : Int) ^ k from rfl]
  simp only [decide_eq_true_eq] at this
  exact this
theorem heap_below {m : Nat} (hm : 2 ≤ m) {f k r r' : Nat} (hk : k < f) (hr : r < m) (hr' : r' < m) : psum (heap m f r) k = psum (heap m f r') k := by
  rw [heap_psum, heap_psum]
  exact prouhet hm f k 1 _ hk (deg_pow k) r r' hr hr'
theorem heap_two (f : Nat) : psum (heap 2 f 0) f - psum (heap 2 f 1) f = due f := by
  rw [heap_psum, heap_psum, two_diff f 1 _ (deg_pow f), Int.one_mul]
theorem due_ne : ∀ f : Nat, due f ≠ 0
  | 0 => by decide
  | f + 1 => fun z => by
    rcases Int.mul_eq_zero.mp (show due f * (-((f : Int) + 1) * 2 ^ f) = 0 from z) with e | e
    · exact due_ne f e
    · rcases Int.mul_eq_zero.mp e with e | e
      · omega
      · exact pow_ne (by decide) f e
theorem two_first (f : Nat) : First (heap 2 f 0) (heap 2 f 1) f := ⟨fun e => due_ne f (by rw [← heap_two, e, Int.sub_self]), fun j hj => heap_below (by omega) hj (by omega) (by omega)⟩
end Ep
namespace Ep
/-! ### what is left of a heap -/
/-- c tells how many of each are still to go -/
def left : List Int → (Int → Int) → List Int
  | [], _ => []
  | n :: r, c => if 0 < c n then left r (fun x => if x = n then c n - 1 else c x) else n :: left r c
def manyOf (l : List Int) : Int → Int := fun x => (l.count x : Nat)
def leftOf (l m : List Int) : List Int := left l (manyOf m)
theorem left_count : ∀ (l : List Int) (c : Int → Int) (x : Int), (∀ y, 0 ≤ c y) → ((left l c).count x : Int) = max 0 ((l.count x : Int) - c x)
  | [], c, x, h => by
    have := h x
    show ((0 : Nat) : Int) = max 0 (((0 : Nat) : Int) - c x)
    omega
  | n :: r, c, x, h => by
    unfold left
    have hn := h n
    have hx := h x
    split
    · rename_i q
      rw [left_count r _ x (fun y => by split; omega; exact h y), List.count_cons]
      by_cases e : x = n
      · subst e
        simp only [if_pos, beq_self_eq_true]
        omega
      · have e2 : (n == x) = false := by simp; exact fun z => e z.symm
        simp only [if_neg e, e2]
        simp
    · rename_i q
      rw [List.count_cons, List.count_cons, Int.natCast_add, left_count r c x h, Int.natCast_add]
      by_cases e : n = x
      · subst e
        simp only [beq_self_eq_true, if_pos]
        omega
      · have e2 : (n == x) = false := by simpa using e
        simp only [e2]
        simp
theorem leftOf_count (l m : List Int) (x : Int) : (leftOf l m).count x = l.count x - m.count x := by
  have := left_count l (manyOf m) x (fun y => by unfold manyOf; omega)
  unfold manyOf at this
  unfold leftOf
  show (left l (manyOf m)).count x = _
  unfold manyOf
  omega
theorem left_len : ∀ (l : List Int) (c : Int → Int), (left l c).length ≤ l.length
  | [], _ => Nat.le_refl _
  | n :: r, c => by
    unfold left
    split
    · have := left_len r (fun x => if x = n then c n - 1 else c x)
      rw [List.length_cons]; omega
    · have := left_len r c
      rw [List.length_cons, List.length_cons]; omega
theorem leftOf_len (l m : List Int) : (leftOf l m).length ≤ l.length := left_len l _
theorem left_sub : ∀ (l : List Int) (c : Int → Int) (x : Int), x ∈ left l c → x ∈ l
  | [], _, _, h => h
  | n :: r, c, x, h => by
    unfold left at h
    split at h
    · exact List.mem_cons_of_mem _ (left_sub r _ x h)
    · rcases List.mem_cons.mp h with e | e
      · rw [e]; exact List.mem_cons_self
      · exact List.mem_cons_of_mem _ (left_sub r _ x e)
theorem leftOf_sub {l m : List Int} {x : Int} (h : x ∈ leftOf l m) : x ∈ l := left_sub l _ x h
theorem leftOf_perm (l m : List Int) : (leftOf l m ++ m).Perm (leftOf m l ++ l) := by
  rw [List.perm_iff_count]
  intro x
  rw [List.count_append, List.count_append, leftOf_count, leftOf_count]
  omega
theorem leftOf_psum (l m : List Int) (k : Nat) : psum (leftOf l m) k - psum (leftOf m l) k = psum l k - psum m k := by
  have := psum_perm (leftOf_perm l m) k
  rw [psum_append, psum_append] at this
  omega
theorem leftOf_first {l m : List Int} {k : Nat} : First (leftOf l m) (leftOf m l) k ↔ First l m k := by
  constructor
  · intro h
    exact ⟨fun e => h.ne (by have := leftOf_psum l m k; omega), fun j hj => by have := leftOf_psum l m j; have := h.lt j hj; omega⟩
  · intro h
    exact ⟨fun e => h.ne (by have := leftOf_psum l m k; omega), fun j hj => by have := leftOf_psum l m j; have := h.lt j hj; omega⟩
theorem leftOf_nil {l m : List Int} (h : leftOf l m = []) (h' : leftOf m l = []) : l.Perm m := by
  have := leftOf_perm l m
  rw [h, h', List.nil_append, List.nil_append] at this
  exact this.symm
theorem leftOf_of_perm {l m : List Int} (h : l.Perm m) : leftOf l m = [] := by
  refine List.eq_nil_iff_forall_not_mem.mpr fun x hx => ?_
  have c := List.count_pos_iff.mpr hx
  rw [leftOf_count, h.count_eq] at c
  omega
theorem first_of {l m : List Int} : ∀ k : Nat, psum l k ≠ psum m k → ∃ k, First l m k := by
  intro k
  induction k using Nat.strongRecOn with
  | ind k ih =>
    intro e
    by_cases q : ∃ j, j < k ∧ psum l j ≠ psum m j
    · obtain ⟨j, hj, ej⟩ := q
      exact ih j hj ej
    · refine ⟨k, e, fun j hj => ?_⟩
      apply Classical.byContradiction
      intro z
      exact q ⟨j, hj, z⟩
theorem first_exists {l m : List Int} (h : ¬ l.Perm m) : ∃ k, First l m k := by
  obtain ⟨k, _, e⟩ := unlike_at h
  exact first_of k e
/-! ### powers, number by number -/
def pows (l : List Int) (k : Nat) : List Int := l.map (· ^ k)
theorem pows_sum (l : List Int) (k : Nat) : (pows l k).sum = psum l k := rfl
theorem pows_zero (l : List Int) : pows l 0 = List.replicate l.length 1 := by
  unfold pows
  rw [List.eq_replicate_iff]
  refine ⟨List.length_map _, fun b hb => ?_⟩
  obtain ⟨x, _, rfl⟩ := List.mem_map.mp hb
  exact Int.pow_zero x
theorem pows_succ (l : List Int) (k : Nat) : List.zipWith (· * ·) (pows l k) l = pows l (k + 1) := by
  unfold pows
  induction l with
  | nil => rfl
  | cons a l ih => rw [List.map_cons, List.zipWith_cons_cons, ih, List.map_cons, Int.pow_succ]
theorem pows_len (l : List Int) (k : Nat) : (pows l k).length = l.length := List.length_map _
end Ep
set_option Elab.async false
set_option maxRecDepth 100000
set_option maxHeartbeats 4000000
namespace Kx
open PySem PySem.Spec PyProof.Rows L2
/-! ### what grows -/
abbrev Tb := List (Addr × Str)
structure Gr (T : Tb) (H H' : Hp) : Prop where
  keep : ∀ b o, H b = some o → (∀ ps, o ≠ .tbl ps) → H' b = some o
  lost : ∀ b, H' b = Option.none → H b = Option.none
  tab : LamX.Tabs T H → LamX.Tabs T H'
section
variable {T : Tb} {K : PySem.W.Frag} {H H1 H2 : Hp} {a b p : Addr} {o u : HO} {xs : List V}
theorem Gr.refl (H : Hp) : Gr T H H := ⟨fun _ _ h _ => h, fun _ h => h, fun h => h⟩
theorem Gr.trans (a : Gr T H H1) (b : Gr T H1 H2) : Gr T H H2 := ⟨fun c o h n => b.keep c o (a.keep c o h n) n, fun c h => a.lost c (b.lost c h), fun h => b.tab (a.tab h)⟩
theorem Gr.new (h : H p = Option.none) : Gr T H (upd H p o) := by
  have k : ∀ b u, H b = some u → upd H p o b = some u := fun b u e => by rw [upd_ne (ne_of_none e h)]; exact e
  refine ⟨fun b u e _ => k b u e, fun b e => ?_, fun t => LamX.Tabs.ext t k⟩
  cases q : H b with
  | none => rfl
  | some u =>
    rw [k b u q] at e
    cases e
/-- a plain thing that H doesn't know may change -/
def plainO : HO → Prop
  | .lst _ => True
  | .dK _ => True
  | .ins _ _ _ => True
  | _ => False
theorem Gr.mut (g : Gr T H H1) (h : H p = Option.none) (e : H1 p = some u) (hu : plainO u) : Gr T H (upd H1 p o) := by
  have nt : ∀ ps, u ≠ .tbl ps := fun ps z => by rw [z] at hu; exact hu
  have nc : ∀ c q, u ≠ LamX.CodeO c q := fun c q z => by rw [z] at hu; exact hu
  refine ⟨fun b w q n => ?_, fun b q => ?_, fun t => ?_⟩
  · rw [upd_ne (ne_of_none q h)]
    exact g.keep b w q n
  · refine g.lost b ?_
    unfold upd at q
    split at q
    · cases q
    · exact q
  · intro x hx
    obtain ⟨ps, h1, h2, h3⟩ := g.tab t x hx
    have n1 : x.1 ≠ p := fun z => by rw [z, e] at h1; exact nt ps (Option.some.inj h1)
    refine ⟨ps, by rw [upd_ne n1]; exact h1, h2, fun pos cv hc => ?_⟩
    obtain ⟨c, e1, e2⟩ := h3 pos cv hc
    have n2 : c ≠ p := fun z => by rw [z, e] at e2; exact nc _ _ (Option.some.inj e2)
    exact ⟨c, e1, by rw [upd_ne n2]; exact e2⟩
theorem Gr.l (g : Gr T H H1) (h : H a = some (.lst xs)) : H1 a = some (.lst xs) := g.keep _ _ h fun _ z => by cases z
theorem Gr.t (g : Gr T H H1) (h : H a = some (.tup xs)) : H1 a = some (.tup xs) := g.keep _ _ h fun _ z => by cases z
theorem Gr.d {kvs : List (Key × V)} (g : Gr T H H1) (h : H a = some (.dK kvs)) : H1 a = some (.dK kvs) := g.keep _ _ h fun _ z => by cases z
theorem Gr.i {C dx : Addr} {fs : List (Str × V)} (g : Gr T H H1) (h : H a = some (.ins C dx fs)) : H1 a = some (.ins C dx fs) := g.keep _ _ h fun _ z => by cases z
theorem Gr.sq (g : Gr T H H1) (h : SqL K H a xs) : SqL K H1 a xs := by
  rcases h with (h | ⟨o, h⟩) | h
  · exact .inl (.inl (g.l h))
  · exact .inl (.inr ⟨o, g.keep _ _ h fun _ z => by cases z⟩)
  · exact .inr h
theorem Gr.st (g : Gr T H H1) (h : SqT K H a xs) : SqT K H1 a xs := by
  rcases h with (h | ⟨o, h⟩) | h
  · exact .inl (.inl (g.t h))
  · exact .inl (.inr ⟨o, g.keep _ _ h fun _ z => by cases z⟩)
  · exact .inr h
end
theorem sq {K : PySem.W.Frag} {H : Hp} {a : Addr} {xs : List V} (h : H a = some (.lst xs)) : SqL K H a xs := .inl (.inl h)
theorem stp {K : PySem.W.Frag} {H : Hp} {a : Addr} {xs : List V} (h : H a = some (.tup xs)) : SqT K H a xs := .inl (.inl h)
/-! ### sizes -/
theorem szl {n : Nat} (h : n ≤ 100000) : n ≤ sizeLine := Nat.le_trans h (by decide)
theorem szs {n : Nat} (h : n < 100000) : n < sizeLine := Nat.lt_of_lt_of_le h (by decide)
/-! ### great products -/
section
variable {X : Cx}
theorem op_mulB : OpR X (binaryOp .Mult) (rI IntMulOk fun i j => .int (i * j)) := opI fun _ _ _ _ _ _ _ hc q => mul_int q hc
theorem iop_mulB : OpR X (inplaceOp .Mult) (rI IntMulOk fun i j => .int (i * j)) := opI fun _ _ _ _ _ _ _ hc q => imul_int q hc
theorem ip_mulB : PIp X .Mult (rI IntMulOk fun i j => .int (i * j)) := iop_mulB
end
/-! ### comprehensions -/
/-- what a list comprehension's reading asks behind its walked thing -/
abbrev LcB (J : It) (g : TG) (tt : TT) (te : TE) (vs : List Nat) (σ : L2.St) (H1 : Hp) (Q : Addr → Hp → Prop) : Prop := ∀ D, H1 D = Option.none → ∃ W : Nat → Nat → Hp → Prop, (∃ m, W 0 m (upd H1 D (.lst []))) ∧ ∀ i m H, W i m H →
  (J.stop i H ∧ Q D H) ∨ (J.go i H ∧ ∃ Nx : Hp → Prop, (∀ H', Nx H' → ∃ m', m' < m ∧ W (i + 1) m' H') ∧ ∀ x H', J.yld i H x H' → g x (wipe σ vs) H' fun σ2 H2 => wipe σ2 vs = wipe σ vs ∧ tt σ2 H2 fun b H3 =>
    if b = true then te σ2 H3 fun y H4 => ∃ acc, H4 D = some (.lst acc) ∧ acc.length < sizeLine ∧ Nx (upd H4 D (.lst (acc ++ [y]))) else Nx H3)
section
variable {T : Tb} {K : PySem.W.Frag} {σ : L2.St} {H : Hp} {a b : Addr} {xs ys : List V} {te : TE} {Q : Addr → Hp → Prop} {i j n : Nat}
theorem take_snoc {α : Type} {l : List α} {i : Nat} {x : α} (h : l[i]? = some x) : l.take (i + 1) = l.take i ++ [x] := by
  rw [List.take_add_one, h]; rfl
/-- the general form: n turns, the j-th gives F j -/
theorem lc_gen {J : It} {g : TG} {vs : List Nat} {n : Nat} (F : Nat → V) (hn : n ≤ 100000) (stop : ∀ H1, Gr T H H1 → J.stop n H1) (go : ∀ j H1, j < n → Gr T H H1 → J.go j H1)
    (turn : ∀ j H1 x H2, j < n → Gr T H H1 → J.yld j H1 x H2 → Gr T H1 H2 ∧ ∀ R : L2.St → Hp → Prop, (∀ σ2 H3, wipe σ2 vs = wipe σ vs → Gr T H2 H3 → (∀ Q : VK, (∀ H4, Gr T H3 H4 → Q (F j) H4) → te σ2 H3 Q) → R σ2 H3) → g x (wipe σ vs) H2 R)
    (done : ∀ p H1, H p = Option.none → Gr T H H1 → H1 p = some (.lst ((List.range n).map F)) → Q p H1) : LcB J g tYes te vs σ H Q := by
  intro D hD
  refine ⟨fun i m H1 => i + m = n ∧ Gr T H H1 ∧ H1 D = some (.lst ((List.range i).map F)), ⟨n, by omega, Gr.new hD, upd_same⟩, fun i m H1 hW => ?_⟩
  obtain ⟨e, gr, eD⟩ := hW
  by_cases hi : i < n
  · refine .inr ⟨go i H1 hi gr, fun H' => Gr T H H' ∧ H' D = some (.lst ((List.range (i + 1)).map F)), fun H' q => ⟨m - 1, by omega, by omega, q.1, q.2⟩, fun x H2 y => ?_⟩
    obtain ⟨g2, t⟩ := turn i H1 x H2 hi gr y
    refine t _ fun σ2 H3 w g3 ev => ⟨w, ?_⟩
    show te σ2 H3 fun y H4 => ∃ acc, H4 D = some (.lst acc) ∧ acc.length < sizeLine ∧ (Gr T H (upd H4 D (.lst (acc ++ [y]))) ∧ (upd H4 D (.lst (acc ++ [y]))) D = some (.lst ((List.range (i + 1)).map F)))
    refine ev _ fun H4 g4 => ?_
    have g04 := ((gr.trans g2).trans g3).trans g4
    have eD4 := ((g2.trans g3).trans g4).l eD
    refine ⟨_, eD4, by rw [List.length_map, List.length_range]; exact szs (by omega), g04.mut hD eD4 trivial, ?_⟩
    rw [upd_same, List.range_succ, List.map_append]; rfl
  · have : i = n := by omega
    subst this
    exact .inl ⟨stop H1 gr, done D H1 hD gr eD⟩
theorem map_range_get {f : V → V} {xs : List V} {F : Nat → V} (h : ∀ (j : Nat) x, xs[j]? = some x → F j = f x) : (List.range xs.length).map F = xs.map f := by
  refine List.ext_getElem (by rw [List.length_map, List.length_map, List.length_range]) fun j h1 h2 => ?_
  rw [List.getElem_map, List.getElem_map, List.getElem_range]
  rw [List.length_map] at h2
  exact h j _ (List.getElem?_eq_getElem h2)
/-- [e for x in xs] -/
theorem lc_map {i : Nat} (f : V → V) (hA : SqL K H a xs) (hn : xs.length ≤ 100000)
    (turn : ∀ x H1, x ∈ xs → Gr T H H1 → ∀ Q : VK, (∀ H2, Gr T H1 H2 → Q (f x) H2) → te ((wipe σ [i]).set i (some x)) H1 Q)
    (done : ∀ p H1, H p = Option.none → Gr T H H1 → H1 p = some (.lst (xs.map f)) → Q p H1) : LcB (Itl K a) (gName i) tYes te [i] σ H Q := by
  refine lc_gen (T := T) (n := xs.length) (fun j => f (xs.getD j .non)) hn (fun H1 g => ⟨xs, g.sq hA, Nat.le_refl _⟩) (fun j H1 hj g => ⟨xs, xs[j], g.sq hA, List.getElem?_eq_getElem hj⟩) (fun j H1 x H2 hj g y => ?_) fun p H1 np g e => ?_
  · obtain ⟨rfl, y⟩ := y
    have hx := y xs (g.sq hA)
    have ex : xs.getD j .non = x := by rw [List.getD_eq_getElem?_getD, hx]; rfl
    refine ⟨Gr.refl _, fun R k => k _ _ ?_ (Gr.refl _) ?_⟩
    · show ((σ.set i Option.none).set i (some x)).set i Option.none = σ.set i Option.none
      rw [List.set_set, List.set_set]
    · rw [ex]
      exact turn x H2 (List.mem_of_getElem? hx) g
  · refine done p H1 np g ?_
    rw [e]
    have : (List.range xs.length).map (fun j => f (xs.getD j .non)) = xs.map f := map_range_get fun j x hx => by rw [List.getD_eq_getElem?_getD, hx]; rfl
    rw [this]
/-- [e for x in range(lo, lo + n)] -/
theorem lc_rng {i : Nat} {lo : Int} {n : Nat} (F : Nat → V) (hn : n ≤ 100000)
    (turn : ∀ (k : Nat) H1, k < n → Gr T H H1 → ∀ Q : VK, (∀ H2, Gr T H1 H2 → Q (F k) H2) → te ((wipe σ [i]).set i (some (.int (lo + k)))) H1 Q)
    (done : ∀ p H1, H p = Option.none → Gr T H H1 → H1 p = some (.lst ((List.range n).map F)) → Q p H1) : LcB (Itr lo n) (gName i) tYes te [i] σ H Q := by
  refine lc_gen (T := T) (n := n) F hn (fun H1 g => Nat.le_refl _) (fun j H1 hj g => hj) (fun j H1 x H2 hj g y => ?_) done
  obtain ⟨rfl, rfl⟩ := y
  refine ⟨Gr.refl _, fun R k => k _ _ ?_ (Gr.refl _) (turn j H2 hj g)⟩
  show ((σ.set i Option.none).set i (some _)).set i Option.none = σ.set i Option.none
  rw [List.set_set, List.set_set]
/-- [e for x, y in zip(xs, ys)] (own: j inner first as wipe does) -/
theorem lc_zip {i j : Nat} (hij : i ≠ j) (f : V → V → V) (hA : SqL K H a xs) (hB : SqL K H b ys) (hl : xs.length = ys.length) (hn : xs.length ≤ 100000)
    (turn : ∀ x y H1, (x, y) ∈ xs.zip ys → Gr T H H1 → ∀ Q : VK, (∀ H2, Gr T H1 H2 → Q (f x y) H2) → te (((wipe σ [i, j]).set i (some x)).set j (some y)) H1 Q)
    (done : ∀ p H1, H p = Option.none → Gr T H H1 → H1 p = some (.lst (List.zipWith f xs ys)) → Q p H1) : LcB (Itz K a b) (gTup K 2 (gCons (gName i) (gCons (gName j) gNil))) tYes te [i, j] σ H Q := by
  refine lc_gen (T := T) (n := xs.length) (fun k => f (xs.getD k .non) (ys.getD k .non)) hn (fun H1 g => ⟨xs, ys, g.sq hA, g.sq hB, .inl (Nat.le_refl _)⟩) (fun k H1 hk g => ⟨xs, ys, xs[k], ys[k], g.sq hA, g.sq hB, List.getElem?_eq_getElem hk, List.getElem?_eq_getElem (by omega)⟩) (fun k H1 v H2 hk g y => ?_) fun p H1 np g e => ?_
  · obtain ⟨U, x, y, rfl, hU, rfl, f1, f2⟩ := y
    have hx := f1 xs (g.sq hA)
    have hy := f2 ys (g.sq hB)
    have ex : xs.getD k .non = x := by rw [List.getD_eq_getElem?_getD, hx]; rfl
    have ey : ys.getD k .non = y := by rw [List.getD_eq_getElem?_getD, hy]; rfl
    refine ⟨Gr.new hU, fun R q => ⟨U, [x, y], rfl, stp upd_same, rfl, x, [y], rfl, y, [], rfl, rfl, q _ _ ?_ (Gr.refl _) ?_⟩⟩
    · show ((((((σ.set j Option.none).set i Option.none).set i (some x)).set j (some y)).set j Option.none).set i Option.none) = (σ.set j Option.none).set i Option.none
      rw [List.set_set, List.set_set, List.set_comm _ _ hij, List.set_set, List.set_set]
    · rw [ex, ey]
      refine turn x y _ ?_ (g.trans (Gr.new hU))
      exact List.mem_of_getElem? (i := k) (by rw [List.getElem?_zip_eq_some]; exact ⟨hx, hy⟩)
  · refine done p H1 np g ?_
    rw [e]
    have : (List.range xs.length).map (fun k => f (xs.getD k .non) (ys.getD k .non)) = List.zipWith f xs ys := by
      refine List.ext_getElem (by rw [List.length_map, List.length_zipWith, List.length_range]; omega) fun k h1 h2 => ?_
      rw [List.length_map, List.length_range] at h1
      have h3 : k < ys.length := by omega
      rw [List.getElem_map, List.getElem_zipWith, List.getElem_range, List.getD_eq_getElem?_getD, List.getD_eq_getElem?_getD, List.getElem?_eq_getElem h1, List.getElem?_eq_getElem h3]; rfl
    rw [this]
/-- [e for k, x in enumerate(xs)] -/
theorem lc_enum {i j : Nat} (hij : i ≠ j) (F : Nat → V → V) (hA : SqL K H a xs) (hn : xs.length ≤ 100000)
    (turn : ∀ (k : Nat) x H1, xs[k]? = some x → Gr T H H1 → ∀ Q : VK, (∀ H2, Gr T H1 H2 → Q (F k x) H2) → te (((wipe σ [i, j]).set i (some (.int k))).set j (some x)) H1 Q)
    (done : ∀ p H1, H p = Option.none → Gr T H H1 → H1 p = some (.lst ((List.range xs.length).map fun k => F k (xs.getD k .non))) → Q p H1) : LcB (Ite K a) (gTup K 2 (gCons (gName i) (gCons (gName j) gNil))) tYes te [i, j] σ H Q := by
  refine lc_gen (T := T) (n := xs.length) (fun k => F k (xs.getD k .non)) hn (fun H1 g => ⟨xs, g.sq hA, Nat.le_refl _⟩) (fun k H1 hk g => ⟨xs, xs[k], g.sq hA, List.getElem?_eq_getElem hk⟩) (fun k H1 v H2 hk g y => ?_) done
  obtain ⟨U, x, rfl, hU, rfl, f1⟩ := y
  have hx := f1 xs (g.sq hA)
  have ex : xs.getD k .non = x := by rw [List.getD_eq_getElem?_getD, hx]; rfl
  refine ⟨Gr.new hU, fun R q => ⟨U, [.int k, x], rfl, stp upd_same, rfl, .int k, [x], rfl, x, [], rfl, rfl, q _ _ ?_ (Gr.refl _) ?_⟩⟩
  · show ((((((σ.set j Option.none).set i Option.none).set i (some _)).set j (some x)).set j Option.none).set i Option.none) = (σ.set j Option.none).set i Option.none
    rw [List.set_set, List.set_set, List.set_comm _ _ hij, List.set_set, List.set_set]
  · rw [ex]
    exact turn k x _ hx (g.trans (Gr.new hU))
end
end Kx
namespace Kx
open PySem PySem.Spec PyProof.Rows L2
/-! ### data: lists of ints, lists of such, tuples of ints -/
def dI (l : List Int) : PyData := .list (l.map PyData.int)
def dL (ls : List (List Int)) : PyData := .list (ls.map dI)
def dT (l : List Int) : PyData := .tuple (l.map PyData.int)
def dTL (ls : List (List Int)) : PyData := .tuple (ls.map dI)
theorem canI : ∀ l : List Int, PyData.canLayAll0 (l.map PyData.int) = true
  | [] => by simp [PyData.canLayAll0]
  | a :: l => by
    have := canI l
    simp [PyData.canLayAll0, PyData.canLay0, this]
theorem depI : ∀ l : List Int, PyData.depthAll (l.map PyData.int) = 0
  | [] => by simp [PyData.depthAll]
  | a :: l => by
    have := depI l
    simp [PyData.depthAll, PyData.depth, this]
theorem eqvI : ∀ l m : List Int, PyData.eqvAll (l.map PyData.int) (m.map PyData.int) = decide (l = m)
  | [], [] => by simp [PyData.eqvAll]
  | [], b :: m => by simp [PyData.eqvAll]
  | a :: l, [] => by simp [PyData.eqvAll]
  | a :: l, b :: m => by
    have := eqvI l m
    simp [PyData.eqvAll, PyData.eqv, this, Bool.beq_eq_decide_eq]
theorem eqv_dI (l m : List Int) : PyData.eqv (dI l) (dI m) = decide (l = m) := by
  unfold dI
  rw [PyData.eqv, eqvI]
theorem eqv_dT (l m : List Int) : PyData.eqv (dT l) (dT m) = decide (l = m) := by
  unfold dT
  rw [PyData.eqv, eqvI]
theorem canL : ∀ ls : List (List Int), PyData.canLayAll0 (ls.map dI) = true
  | [] => by simp [PyData.canLayAll0]
  | a :: l => by
    have := canL l
    have h := canI a
    simp [PyData.canLayAll0, PyData.canLay0, this, dI, h]
theorem depL : ∀ ls : List (List Int), PyData.depthAll (ls.map dI) ≤ 1
  | [] => by simp [PyData.depthAll]
  | a :: l => by
    have := depL l
    have h := depI a
    simp [PyData.depthAll, PyData.depth, dI, h] at this ⊢
    omega
theorem eqvL : ∀ l m : List (List Int), PyData.eqvAll (l.map dI) (m.map dI) = decide (l = m)
  | [], [] => by simp [PyData.eqvAll]
  | [], b :: m => by simp [PyData.eqvAll]
  | a :: l, [] => by simp [PyData.eqvAll]
  | a :: l, b :: m => by
    have := eqvL l m
    have h := eqv_dI a b
    simp [PyData.eqvAll, this, h]
theorem eqv_dL (l m : List (List Int)) : PyData.eqv (dL l) (dL m) = decide (l = m) := by
  unfold dL
  rw [PyData.eqv, eqvL]
theorem eqv_dTL (l m : List (List Int)) : PyData.eqv (dTL l) (dTL m) = decide (l = m) := by
  unfold dTL
  rw [PyData.eqv, eqvL]
theorem sh_dI (l : List Int) : SeqAt.shaped (dI l) = true := by
  unfold SeqAt.shaped dI
  rw [PyData.canLay0, canI, PyData.depth, depI]; rfl
theorem sh_dT (l : List Int) : SeqAt.shaped (dT l) = true := by
  unfold SeqAt.shaped dT
  rw [PyData.canLay0, canI, PyData.depth, depI]; rfl
theorem sh_dL (l : List (List Int)) : SeqAt.shaped (dL l) = true := by
  unfold SeqAt.shaped dL
  rw [PyData.canLay0, canL, PyData.depth]
  have := depL l
  simp; omega
theorem sh_dTL (l : List (List Int)) : SeqAt.shaped (dTL l) = true := by
  unfold SeqAt.shaped dTL
  rw [PyData.canLay0, canL, PyData.depth]
  have := depL l
  simp; omega
section
variable {K : PySem.W.Frag} {H : Hp} {a : Addr}
theorem dpI : ∀ l : List Int, DpAll K H (l.map V.int) (l.map PyData.int)
  | [] => .nil
  | i :: l => .cons (.int i) (dpI l)
theorem dp_l {l : List Int} (h : SqL K H a (l.map V.int)) : Dp K H (.ref a) (dI l) := .lst h (dpI l)
theorem dp_t {l : List Int} (h : SqT K H a (l.map V.int)) : Dp K H (.ref a) (dT l) := .tup h (dpI l)
theorem dpL : ∀ (as : List Addr) (ls : List (List Int)), as.length = ls.length → (∀ (i : Nat) a l, as[i]? = some a → ls[i]? = some l → SqL K H a (l.map V.int)) → DpAll K H (as.map V.ref) (ls.map dI)
  | [], [], _, _ => .nil
  | [], _ :: _, h, _ => by simp at h
  | _ :: _, [], h, _ => by simp at h
  | a :: as, l :: ls, h, e => .cons (dp_l (e 0 a l rfl rfl)) (dpL as ls (by simpa using h) fun i a l h1 h2 => e (i + 1) a l h1 h2)
theorem dp_ll {as : List Addr} {ls : List (List Int)} (h : SqL K H a (as.map V.ref)) (hl : as.length = ls.length) (e : ∀ (i : Nat) a l, as[i]? = some a → ls[i]? = some l → SqL K H a (l.map V.int)) : Dp K H (.ref a) (dL ls) := .lst h (dpL as ls hl e)
theorem dp_tl {as : List Addr} {ls : List (List Int)} (h : SqT K H a (as.map V.ref)) (hl : as.length = ls.length) (e : ∀ (i : Nat) a l, as[i]? = some a → ls[i]? = some l → SqL K H a (l.map V.int)) : Dp K H (.ref a) (dTL ls) := .tup h (dpL as ls hl e)
end
/-! ### rules that name the written part (for a comprehension's block) -/
theorem call_isi_at {X : Cx} {K : PySem.W.Frag} (e : X.K = K) : CallR X (.builtin "isinstance") (rIsi K) := by
  subst e
  exact call_isi
theorem call_len_at {X : Cx} {K : PySem.W.Frag} (e : X.K = K) : CallR X (.builtin "len") (fun xs H Q => ∃ p ys, xs = [.ref p] ∧ (SqL K H p ys ∨ SqT K H p ys) ∧ Q (.int ys.length) H) := by
  subst e
  exact call_len_seq
theorem ix_list_at {X : Cx} {K : PySem.W.Frag} (e : X.K = K) : IxR X (rIxL K) := by
  subst e
  exact ix_list
/-! ### for k, x in enumerate(xs) -/
theorem for_enum {K : PySem.W.Frag} {a : Addr} {xs : List V} {g : TG} {tb : TS} {D : Ends} {σ : L2.St} {H : Hp} (Pv : Nat → L2.St → Hp → Prop) (h0 : Pv 0 σ H) (hq : ∀ i σ H, Pv i σ H → SqL K H a xs)
    (hs : ∀ (i : Nat) (x : V) (U : Addr) (σ : L2.St) (H : Hp), xs[i]? = some x → Pv i σ H → H U = Option.none → g (.ref U) σ (upd H U (.tup [.int (i : Nat), x])) fun σ2 H2 => tb { D with nx := Pv (i + 1), ct := Pv (i + 1), bk := D.nx } σ2 H2) (hd : ∀ σ H, Pv xs.length σ H → D.nx σ H) :
    ∃ W : Nat → Nat → L2.St → Hp → Prop, (∃ m, W 0 m σ H) ∧ ∀ i m σ H, W i m σ H →
      ((Ite K a).stop i H ∧ D.nx σ H) ∨ ((Ite K a).go i H ∧ ∃ N : L2.St → Hp → Prop, (∀ σ' H', N σ' H' → ∃ m', m' < m ∧ W (i + 1) m' σ' H') ∧ ∀ v H', (Ite K a).yld i H v H' → g v σ H' fun σ2 H2 => tb { D with nx := N, ct := N, bk := D.nx } σ2 H2) := by
  refine ⟨fun i m σ H => m = xs.length - i ∧ i ≤ xs.length ∧ Pv i σ H, ⟨xs.length, rfl, Nat.zero_le _, h0⟩, ?_⟩
  rintro i m σ H ⟨rfl, hi, p⟩
  have qx := hq i σ H p
  by_cases hlt : i < xs.length
  · have hx : xs[i]? = some xs[i] := List.getElem?_eq_getElem hlt
    refine .inr ⟨⟨xs, _, qx, hx⟩, Pv (i + 1), fun σ' H' p' => ⟨xs.length - (i + 1), by omega, rfl, hlt, p'⟩, fun v H' y => ?_⟩
    obtain ⟨U, x', rfl, hU, rfl, f1⟩ := y
    exact hs i x' U σ H (f1 xs qx) p hU
  · have e : i = xs.length := by omega
    subst e
    exact .inl ⟨⟨xs, qx, Nat.le_refl _⟩, hd σ H p⟩
/-! ### either way of a conditional expression -/
theorem tIf_ev {t : TT} {ta tb : TE} {σ : L2.St} {H : Hp} {Q : VK} (P : V → Hp → Prop) (ht : ∀ Q : Bool → Hp → Prop, (∀ c, Q c H) → t σ H Q) (ha : ∀ Q : VK, (∀ v H', P v H' → Q v H') → ta σ H Q) (hb : ∀ Q : VK, (∀ v H', P v H' → Q v H') → tb σ H Q)
    (h : ∀ v H', P v H' → Q v H') : tIf t ta tb σ H Q := by
  refine ht _ fun c => ?_
  cases c with
  | true => exact ha Q h
  | false => exact hb Q h
/-! ### slices -/
theorem cut_from (xs : List V) (k : Nat) : cutV xs (some (k : Int)) none = xs.drop k := by
  unfold cutV
  rw [HT.sIx_nat, HT.sIx_none]
  by_cases h : k ≤ xs.length
  · rw [Nat.min_eq_left h, List.take_of_length_le (by rw [List.length_drop]; exact Nat.le_refl _)]
  · rw [Nat.min_eq_right (by omega), List.drop_length, List.drop_eq_nil_of_le (by omega), List.take_nil]
theorem cut_to (xs : List V) (k : Nat) : cutV xs none (some (k : Int)) = xs.take k := by
  unfold cutV
  rw [HT.sIx_nat, HT.sIx_none, List.drop_zero, Nat.sub_zero]
  by_cases h : k ≤ xs.length
  · rw [Nat.min_eq_left h]
  · rw [Nat.min_eq_right (by omega), List.take_length, List.take_of_length_le (by omega)]
theorem cut_mid (xs : List V) (k l : Nat) : cutV xs (some (k : Int)) (some (l : Int)) = (xs.take l).drop k := by
  unfold cutV
  rw [HT.sIx_nat, HT.sIx_nat, List.drop_take]
  by_cases h1 : k ≤ xs.length
  · by_cases h2 : l ≤ xs.length
    · rw [Nat.min_eq_left h1, Nat.min_eq_left h2]
    · rw [Nat.min_eq_left h1, Nat.min_eq_right (by omega), List.take_of_length_le (by rw [List.length_drop]; exact Nat.le_refl _), List.take_of_length_le (by rw [List.length_drop]; omega)]
  · rw [Nat.min_eq_right (a := k) (by omega), List.drop_length, List.take_nil, List.drop_eq_nil_of_le (by omega), List.take_nil]
theorem cut_1 (xs : List V) : cutV xs (some 1) none = xs.drop 1 := cut_from xs 1
theorem cut_12 (xs : List V) : cutV xs (some 1) (some 2) = (xs.take 2).drop 1 := cut_mid xs 1 2
theorem cut_1m1 (xs : List V) : cutV xs (some 1) (some (-1)) = (xs.drop 1).take (xs.length - 1 - 1) := by
  unfold cutV
  rw [show HT.sIx xs.length 0 (some 1) = min 1 xs.length from HT.sIx_nat xs.length 0 1]
  have e : HT.sIx xs.length xs.length (some (-1)) = xs.length - 1 := by
    show (if (-1 : Int) < 0 then ((-1 : Int) + (xs.length : Int)).toNat else min (-1 : Int).toNat xs.length) = _
    rw [if_pos (by decide)]
    omega
  rw [e]
  by_cases h : 1 ≤ xs.length
  · rw [Nat.min_eq_left h]
  · have : xs.length = 0 := by omega
    rw [List.length_eq_zero_iff.mp this]; rfl
end Kx
set_option pp.maxSteps 400
/-! ### the text -/
namespace Wk
open PySem PySem.Spec PyProof.Rows L2 Kx Ep
def topS (i : Nat) : Stmt := PySem.Challenge.pw_evenpowers_k03_whole_dealt.main.body.getD i (.Pass ⟨0, 0, 0, 0⟩)
abbrev s_is_whole : Stmt := topS 8
abbrev N_is_whole : List Str := ["thing"]
abbrev s_check_heap : Stmt := topS 9
abbrev N_check_heap : List Str := ["heap", "number"]
abbrev s_left_of : Stmt := topS 10
abbrev N_left_of : List Str := ["one", "other", "counts", "number", "found"]
abbrev s_check_heaps : Stmt := topS 13
abbrev N_check_heaps : List Str := ["heaps"]
abbrev s_check_place : Stmt := topS 14
abbrev N_check_place : List Str := ["number"]
abbrev s_rest_of : Stmt := topS 15
abbrev N_rest_of : List Str := ["heaps", "number", "found"]
abbrev s_heap_of : Stmt := topS 16
abbrev N_heap_of : List Str := ["heaps", "number"]
abbrev s_place_of : Stmt := topS 17
abbrev N_place_of : List Str := ["heaps", "number"]
abbrev s_number_at : Stmt := topS 18
abbrev N_number_at : List Str := ["heaps", "heap", "place"]
abbrev s_dealt : Stmt := topS 19
abbrev N_dealt : List Str := ["heaps", "figures", "many", "figure", "found", "number", "heap"]
abbrev s_Same___init__ : Stmt := inClass (topS 22) 0
abbrev N_Same___init__ : List Str := ["self", "places"]
abbrev s_Same_shows : Stmt := inClass (topS 22) 1
abbrev N_Same_shows : List Str := ["self", "one", "other"]
abbrev s_Unlike___init__ : Stmt := inClass (topS 23) 0
abbrev N_Unlike___init__ : List Str := ["self", "power", "more"]
abbrev s_Unlike_shows : Stmt := inClass (topS 23) 1
abbrev N_Unlike_shows : List Str := ["self", "one", "other"]
abbrev s_alike : Stmt := topS 25
abbrev N_alike : List Str := ["one", "other", "mine", "theirs", "places", "ways", "at", "place", "now", "there", "power", "part", "number"]
abbrev s__law_cell_at : Stmt := topS 27
abbrev N__law_cell_at : List Str := ["_law_script", "_law_k"]
abbrev s__law_draw : Stmt := topS 28
abbrev N__law_draw : List Str := ["_law_cell", "_law_k", "_law_many", "_law_primes"]
abbrev s__law_value : Stmt := topS 29
abbrev N__law_value : List Str := ["_law_cell", "_law_k", "_law_most", "_law_rest_here"]
abbrev s__law_whole : Stmt := topS 30
abbrev N__law_whole : List Str := ["_law_number"]
abbrev s__law_rest : Stmt := topS 31
abbrev N__law_rest : List Str := ["_law_heaps", "_law_number", "_law_total"]
abbrev s__law_number_right : Stmt := topS 32
abbrev N__law_number_right : List Str := ["_law_heaps", "_law_number", "_law_heap", "_law_place", "_law_after", "_law_between", "_law_more"]
abbrev s__law_dealt_right : Stmt := topS 33
abbrev N__law_dealt_right : List Str := ["_law_heaps", "_law_figures", "_law_again", "_law_found", "_law_many", "_law_figure", "_law_due", "_law_number", "_law_heap", "_law_told", "_law_due_more"]
abbrev s_law : Stmt := topS 34
abbrev N_law : List Str := ["_law_script", "_law_heaps", "_law_k", "_law_cell", "_law_number", "_law_more", "_law_figures"]
/-- the built-ins' names are free -/
structure Bt (mg : Str → Option Value) : Prop where
  len : mg "len" = none
  sum : mg "sum" = none
  all : mg "all" = none
  any : mg "any" = none
  zip : mg "zip" = none
  range : mg "range" = none
  sorted : mg "sorted" = none
  isinstance : mg "isinstance" = none
  int : mg "int" = none
  bool : mg "bool" = none
  list : mg "list" = none
  tuple : mg "tuple" = none
  enumerate : mg "enumerate" = none
  min : mg "min" = none
  max : mg "max" = none
  abs : mg "abs" = none
section
variable {P : Program} {w : World} {K : PySem.W.Frag} {mg : Str → Option Value} {base : Heap} {f : Addr} {fd : FuncData} {T : Tb}
/-! ### is_whole -/
def spWhole (K : PySem.W.Frag) : Sp := fun vs H Q _ => ∃ (x : V) (n : String) (b1 b2 : Bool), vs = [x] ∧ TyX K H x (.type n) ∧ kitB n "int" = some b1 ∧ kitB n "bool" = some b2 ∧ Q (.bl (b1 && !b2)) H
theorem kI1 : kitB "int" "int" = some true := by decide +kernel
theorem kI2 : kitB "int" "bool" = some false := by decide +kernel
theorem wholeI {H : Hp} {i : Int} {Q : VK} (q : Q (.bl true) H) : spWhole K [.int i] H Q C8.E0 := ⟨.int i, "int", true, false, rfl, .base (.int i), by decide +kernel, by decide +kernel, q⟩
theorem sc_is_whole : FnScope N_is_whole ["thing"] (C8.fnScope s_is_whole) := C8.fnScope_by (by decide +kernel)
theorem ok_is_whole (B : Bt mg) (F : C8.Def K mg "is_whole" s_is_whole f fd) (b : Binds K fd ["thing"] []) : C8.Cal P w K mg base 1 "is_whole" (spWhole K) [] := by
  refine C8.cal0 F b .nil sc_is_whole (fun vs H Q E h => ?_) (fun cdv A outer s H vs Q E hr h => ?_)
  · obtain ⟨x, n, b1, b2, rfl, _⟩ := h
    rfl
  · obtain ⟨x, n, b1, b2, rfl, ty, h1, h2, q⟩ := h
    refine ⟨_, (pss_one (ps_ret (pe_and (pe_callB call_isi (by rfl) B.isinstance (by decide +kernel) (pa_cons (pv 0) (pa_cons (pe_bltn (v := V.ty "int") (u := Value.type "int") (by rfl) B.int (by decide +kernel) rfl) pa_nil))) (pe_one (pe_not (pe_callB call_isi (by rfl) B.isinstance (by decide +kernel) (pa_cons (pv 0) (pa_cons (pe_bltn (v := V.ty "bool") (u := Value.type "bool") (by rfl) B.bool (by decide +kernel) rfl) pa_nil)))))))), ?_⟩
    refine ⟨x, rfl, x, .ty "int", .type n, .type "int", b1, rfl, .ty _, ty, kit_ty h1, b1, rfl, ?_⟩
    cases b1 with
    | false => exact q
    | true => exact ⟨x, rfl, x, .ty "bool", .type n, .type "bool", b2, rfl, .ty _, ty, kit_ty h2, b2, rfl, q⟩
/-! ### check_heap -/
theorem tyx_list {H : Hp} {a : Addr} {xs : List V} (h : SqL K H a xs) : TyX K H (.ref a) (.type "list") := by
  rcases h with (h | ⟨o, h⟩) | ⟨o, its, n, h1, h2, _⟩
  · exact .base (.lst h)
  · exact .base (.frz h)
  · exact .kList h1 h2
def spCheckHeap (T : Tb) (K : PySem.W.Frag) : Sp := fun vs H Q _ => ∃ (a : Addr) (ns : List Int), vs = [.ref a] ∧ SqL K H a (ns.map V.int) ∧ ns.length ≤ 1000 ∧ ∀ H', Gr T H H' → Q .non H'
theorem sc_check_heap : FnScope N_check_heap ["heap"] (C8.fnScope s_check_heap) := C8.fnScope_by (by decide +kernel)
theorem ok_check_heap (B : Bt mg) (F : C8.Def K mg "check_heap" s_check_heap f fd) (b : Binds K fd ["heap"] []) (c_is_whole : C8.Cal P w K mg base 1 "is_whole" (spWhole K) []) : C8.Cal P w K mg base 2 "check_heap" (spCheckHeap T K) [] := by
  refine C8.cal0 F b .nil sc_check_heap (fun vs H Q E h => ?_) (fun cdv A outer s H vs Q E hr h => ?_)
  · obtain ⟨a, ns, rfl, _⟩ := h
    rfl
  · obtain ⟨a, ns, rfl, hA, hn, q⟩ := h
    refine ⟨_, (pss_one (ps_if (PW.pt (pw_or (pt_not (pt_val (pe_callB call_isi (by rfl) B.isinstance (by decide +kernel) (pa_cons (pv 0) (pa_cons (pe_bltn (v := V.ty "list") (u := Value.type "list") (by rfl) B.list (by decide +kernel) rfl) pa_nil))))) (pw_or1 (pt_not (pt_val (pe_callB (cr_all rfl) (by rfl) B.all (by decide +kernel) (pa_cons (pe_lc (own := [("number", 1)]) (g := gName 1) (tt := tYes) rfl sc_check_heap.nd (pi_list (pv 0)) (blkOk_by (own := [("number", 1)]) (N := N_check_heap) (sc := C8.fnScope s_check_heap) (by decide +kernel)) (fun _ _ _ _ _ => (pg_name (i := 1) sc_check_heap.nd rfl (Or.inl rfl))) (fun _ _ _ _ _ => pts_nil) (fun _ _ _ _ _ => (C8.pe_c c_is_whole hr (by decide) (by rfl) (pa_cons (pv 1) pa_nil)))) pa_nil)))))))
(pss_one ps_never)
pss_nil)), ?_⟩
    refine ⟨.ref a, rfl, .ref a, .ty "list", .type "list", .type "list", true, rfl, .ty _, tyx_list hA, kit_ty (by decide +kernel), true, rfl, ?_⟩
    refine ⟨_, rfl, a, rfl, ⟨_, hA⟩, lc_map (T := T) (i := 1) (fun _ => .bl true) hA (by rw [List.length_map]; omega) (fun x H1 hx g Q' q' => ?_) fun p H1 np g e => ?_⟩
    · obtain ⟨n, _, rfl⟩ := List.mem_map.mp hx
      exact ⟨_, rfl, wholeI (q' H1 (Gr.refl _))⟩
    · refine ⟨p, ns.map fun _ => true, rfl, sq (by rw [e, List.map_map, List.map_map]; rfl), true, ?_, q H1 g⟩
      show V.bl ((ns.map fun _ => true).all id) = V.bl true
      congr 1
      rw [List.all_map]
      exact List.all_eq_true.mpr fun _ _ => rfl
/-! ### left_of -/
/-- the dict tells how many of each -/
def Cn (kvs : List (Key × V)) (c : Int → Int) : Prop := ∀ x : Int, (valV kvs (.inl x)).getD (.int 0) = .int (c x)
theorem Cn.put {kvs : List (Key × V)} {c : Int → Int} (h : Cn kvs c) (z n : Int) : Cn (putK kvs (.inl z) (.int n)) (fun x => if x = z then n else c x) := by
  intro x
  show _ = V.int (if x = z then n else c x)
  rw [valV_put]
  by_cases e : x = z
  · subst e
    rw [if_pos rfl, if_pos rfl]; rfl
  · rw [if_neg e, if_neg (fun q => e (Sum.inl.inj q))]
    exact h x
theorem Cn.some {kvs : List (Key × V)} {c : Int → Int} (h : Cn kvs c) {z : Int} (p : 0 < c z) : valV kvs (.inl z) = some (.int (c z)) := by
  have q := h z
  cases e : valV kvs (.inl z) with
  | none =>
    rw [e] at q
    have q : V.int 0 = V.int (c z) := q
    have := V.int.inj q
    omega
  | some v =>
    rw [e] at q
    have q : v = V.int (c z) := q
    rw [q]
theorem manyOf_snoc (l : List Int) (z : Int) : manyOf (l ++ [z]) = fun x => if x = z then manyOf l z + 1 else manyOf l x := by
  funext x
  unfold manyOf
  rw [List.count_append]
  by_cases e : x = z
  · subst e
    rw [if_pos rfl]; simp
  · have e2 : (z == x) = false := by simp; exact fun q => e q.symm
    rw [if_neg e, List.count_cons, e2]; simp
theorem int_at {ns : List Int} {i : Nat} {y : V} (hi : (ns.map V.int)[i]? = some y) : ∃ z, ns[i]? = some z ∧ y = V.int z := by
  rw [List.getElem?_map] at hi
  cases e : ns[i]? with
  | none =>
    rw [e] at hi
    cases hi
  | some z =>
    rw [e] at hi
    exact ⟨z, rfl, (Option.some.inj hi).symm⟩
theorem drop_at {α : Type} {l : List α} {i : Nat} {x : α} (h : l[i]? = some x) : l.drop i = x :: l.drop (i + 1) := by
  obtain ⟨hi, e⟩ := List.getElem?_eq_some_iff.mp h
  rw [List.drop_eq_getElem_cons hi, e]
def spLeft (T : Tb) (K : PySem.W.Frag) : Sp := fun vs H Q _ => ∃ (a b : Addr) (ns ms : List Int), vs = [.ref a, .ref b] ∧ SqL K H a (ns.map V.int) ∧ SqL K H b (ms.map V.int) ∧ ns.length ≤ 1000 ∧ ms.length ≤ 1000 ∧
  ∀ p H', H p = Option.none → Gr T H H' → H' p = some (.lst ((leftOf ns ms).map V.int)) → Q (.ref p) H'
theorem sc_left_of : FnScope N_left_of ["one", "other"] (C8.fnScope s_left_of) := C8.fnScope_by (by decide +kernel)
theorem ok_left_of (F : C8.Def K mg "left_of" s_left_of f fd) (b : Binds K fd ["one", "other"] []) : C8.Cal P w K mg base 1 "left_of" (spLeft T K) [] := by
  refine C8.cal0 F b .nil sc_left_of (fun vs H Q E h => ?_) (fun cdv A outer s H vs Q E hr h => ?_)
  · obtain ⟨a, b, ns, ms, rfl, _⟩ := h
    rfl
  · obtain ⟨a, b, ns, ms, rfl, hA, hB, hn, hm, q⟩ := h
    refine ⟨_, (pss_cons (ps_set (i := 2) sc_left_of.nd rfl (.inl rfl) pe_dnewK)
(pss_cons (ps_for PassesOwn.never rfl (pi_list (pv 1)) (pg_name (i := 3) sc_left_of.nd rfl (Or.inl rfl))
(pss_one (ps_dput (hu_of hr) (pv 2) (pv 3) (pe_op op_add (pe_dget2 (hu_of hr) (pv 2) (pv 3) pe_int ⟨rfl, by rfl, by rfl, rfl⟩) pe_int) rfl)))
(pss_cons (ps_set (i := 4) sc_left_of.nd rfl (.inl rfl) (pe_lst pa_nil))
(pss_cons (ps_for PassesOwn.never rfl (pi_list (pv 0)) (pg_name (i := 3) sc_left_of.nd rfl (Or.inl rfl))
(pss_one (ps_if (pt_cmpR op_gt (pe_dget2 (hu_of hr) (pv 2) (pv 3) pe_int ⟨rfl, by rfl, by rfl, rfl⟩) pe_int (nomark _))
(pss_one (ps_daug (hu_of hr) (pv 2) (pv 3) pe_int in_sub (fun _ _ _ => rfl)))
(pss_one (ps_expr (pe_bm PySem.F.plainAttrs_list PySem.F.slot_list_append PySem.F.type_list_append mt_append (pv 4) (pa_cons (pv 3) pa_nil)))))))
(pss_one (ps_ret (pv 4))))))), ?_⟩
    refine fun d nd => ?_
    have g0 : Gr T H (upd H d (.dK [])) := Gr.new nd
    refine ⟨_, rfl, b, rfl, ⟨_, g0.sq hB⟩, for_list (K := K) (a := b) (xs := ms.map V.int) (fun i σ H' => ∃ y3 kvs, σ = [some (.ref a), some (.ref b), some (.ref d), y3, Option.none] ∧ Gr T H H' ∧ H' d = some (.dK kvs) ∧ kvs.length ≤ i ∧ Cn kvs (manyOf (ms.take i)))
      ⟨Option.none, [], rfl, g0, upd_same, Nat.zero_le _, fun x => rfl⟩ (fun i σ H' _ hW => ?_) (fun i y σ H' hi hW => ?_) fun σ H' hW => ?_⟩
    · obtain ⟨_, _, _, g, _⟩ := hW
      exact g.sq hB
    · obtain ⟨y3, kvs, rfl, g, ed, hk, cn⟩ := hW
      obtain ⟨z, hz, rfl⟩ := int_at hi
      have hlt := (List.getElem?_eq_some_iff.mp hz).1
      refine ⟨.ref d, rfl, d, rfl, .inl ⟨kvs, .inl ed⟩, .int z, rfl, valV kvs (.inl z), DGet.k (k := .inl z) ed, manyOf (ms.take i) z, 1, cn z, rfl, ?_⟩
      refine ⟨.ref d, rfl, .int z, rfl, d, _, rfl, DPut.k (k := .inl z) ed (szs (by omega)), ?_⟩
      refine ⟨some (.int z), _, rfl, g.mut nd ed trivial, upd_same, Nat.le_trans (length_putK _ _ _) (by omega), ?_⟩
      rw [take_snoc hz, manyOf_snoc]
      exact cn.put z _
    · obtain ⟨y3, kvs, rfl, g, ed, hk, cn⟩ := hW
      rw [List.length_map] at hk
      rw [List.length_map, List.take_length] at cn
      refine ⟨Nat.zero_le _, fun l nl => ?_⟩
      have nHl := g.lost l nl
      have nld : l ≠ d := fun e => by rw [e, ed] at nl; cases nl
      have g1 : Gr T H (upd H' l (.lst [])) := g.trans (Gr.new nl)
      refine ⟨_, rfl, a, rfl, ⟨_, g1.sq hA⟩, for_list (K := K) (a := a) (xs := ns.map V.int) (fun i σ H' => ∃ y3 kvs c acc, σ = [some (.ref a), some (.ref b), some (.ref d), y3, some (.ref l)] ∧ Gr T H H' ∧ H' d = some (.dK kvs) ∧ kvs.length ≤ 1000 + i ∧ Cn kvs c ∧ (∀ x, 0 ≤ c x) ∧
          H' l = some (.lst (acc.map V.int)) ∧ acc.length ≤ i ∧ acc ++ left (ns.drop i) c = leftOf ns ms)
        ⟨y3, kvs, manyOf ms, [], rfl, g1, by rw [upd_ne nld.symm]; exact ed, by omega, cn, fun x => by unfold manyOf; omega, upd_same, Nat.le_refl _, rfl⟩ (fun i σ H' _ hW => ?_) (fun i y σ H' hi hW => ?_) fun σ H' hW => ?_⟩
      · obtain ⟨_, _, _, _, _, g, _⟩ := hW
        exact g.sq hA
      · obtain ⟨y3, kvs, c, acc, rfl, g, ed, hk, cn, h0, el, ha, hl⟩ := hW
        obtain ⟨z, hz, rfl⟩ := int_at hi
        have hlt := (List.getElem?_eq_some_iff.mp hz).1
        rw [drop_at hz] at hl
        unfold left at hl
        refine ⟨.ref d, rfl, d, rfl, .inl ⟨kvs, .inl ed⟩, .int z, rfl, valV kvs (.inl z), DGet.k (k := .inl z) ed, c z, 0, cn z, rfl, decide (0 < c z), rfl, ite2 (fun e => ?_) (fun e => ?_)⟩
        · have hc := of_decide_eq_true e
          rw [if_pos hc] at hl
          have dg : DGet H' d (V.int z) (some (V.int (c z))) := by
            rw [← cn.some hc]
            exact DGet.k (k := .inl z) ed
          refine ⟨.ref d, rfl, .int z, rfl, d, .int (c z), rfl, dg, c z, 1, rfl, rfl, _, DPut.k (k := .inl z) ed (szs (by omega)), ?_⟩
          refine ⟨some (.int z), _, _, acc, rfl, g.mut nd ed trivial, upd_same, Nat.le_trans (length_putK _ _ _) (by omega), cn.put z (c z - 1), fun x => ?_, by rw [upd_ne nld]; exact el, by omega, hl⟩
          have := h0 x
          split <;> omega
        · have hc : ¬ 0 < c z := fun q => e (decide_eq_true q)
          rw [if_neg hc] at hl
          refine ⟨.ref l, rfl, .inl ⟨rfl, _, sq el⟩, .int z, rfl, l, _, _, rfl, rfl, el, szs (by rw [List.length_map]; omega), ?_⟩
          refine ⟨some (.int z), kvs, c, acc ++ [z], rfl, g.mut nHl el trivial, by rw [upd_ne nld.symm]; exact ed, by omega, cn, h0, by rw [upd_same, List.map_append]; rfl, by rw [List.length_append]; show acc.length + 1 ≤ _; omega, ?_⟩
          rw [List.append_assoc]
          exact hl
      · obtain ⟨y3, kvs, c, acc, rfl, g, ed, hk, cn, h0, el, ha, hl⟩ := hW
        rw [List.length_map, List.drop_length] at hl
        have hl : acc ++ [] = leftOf ns ms := hl
        rw [List.append_nil] at hl
        rw [hl] at el
        exact ⟨.ref l, rfl, q l H' nHl g el⟩
end
end Wk
/-! ### answers are made, alike where the heaps are unlike -/
namespace Wk
open PySem PySem.Spec PyProof.Rows L2 Kx Ep
theorem kPM : ¬ (("power" : Str) = "more") := by decide +kernel
theorem kMP : ¬ (("more" : Str) = "power") := by decide +kernel
/-- an Unlike's fields -/
def uf (x y : V) : List (Str × V) := putF "more" y (putF "power" x [])
theorem uf_power (x y : V) : (uf x y).lookup ("power" : Str) = some x := by
  unfold uf
  rw [lookup_putF, if_neg kPM, lookup_putF, if_pos rfl]
theorem uf_more (x y : V) : (uf x y).lookup ("more" : Str) = some y := by
  unfold uf
  rw [lookup_putF, if_pos rfl]
theorem uf_no (x y : V) {m : Str} (h1 : ¬ m = "power") (h2 : ¬ m = "more") : (uf x y).lookup m = Option.none := by
  unfold uf
  rw [lookup_putF, if_neg h2, lookup_putF, if_neg h1]; rfl
structure UCl (K : PySem.W.Frag) (mg : Str → Option Value) (C : Addr) : Prop where
  cl : Cls K C
  nP : NoAttr K C "power"
  nM : NoAttr K C "more"
  mgC : mg "Unlike" = some (.ref C)
structure SCl (K : PySem.W.Frag) (mg : Str → Option Value) (C : Addr) : Prop where
  cl : Cls K C
  nL : NoAttr K C "places"
  mgC : mg "Same" = some (.ref C)
section
variable {P : Program} {w : World} {K : PySem.W.Frag} {mg : Str → Option Value} {base : Heap} {f : Addr} {fd : FuncData} {T : Tb} {CU CS : Addr}
def spUInit (C : Addr) : Sp := fun vs H Q _ => ∃ (p dx : Addr) (x y : V), vs = [.ref p, x, y] ∧ H p = some (.ins C dx []) ∧ Q .non (upd H p (.ins C dx (uf x y)))
theorem sc_Unlike___init__ : FnScope N_Unlike___init__ ["self", "power", "more"] (C8.fnScope s_Unlike___init__) := C8.fnScope_by (by decide +kernel)
theorem ok_uinit (U : UCl K mg CU) (M : Mk K CU f) (F : C8.Fun K "__init__" "Unlike.__init__" s_Unlike___init__ f fd) (b : Binds K fd ["self", "power", "more"] []) : C8.Mak P w K mg base 1 "Unlike" CU (spUInit CU) [] := by
  refine C8.mak0 M U.mgC F b .nil sc_Unlike___init__ (fun vs H Q E h => ?_) (fun cdv A outer s H vs Q E hr h => ?_)
  · obtain ⟨p, dx, x, y, rfl, _⟩ := h
    rfl
  · obtain ⟨p, dx, x, y, rfl, hp, q⟩ := h
    refine ⟨_, (pss_cons (ps_fld (pv 0) (pv 1) rfl)
(pss_one (ps_fld (pv 0) (pv 2) rfl))), ?_⟩
    refine ⟨x, rfl, .ref p, rfl, p, CU, dx, [], rfl, hp, U.cl, U.nP, (by show 0 < 1000; decide), ?_⟩
    refine ⟨y, rfl, .ref p, rfl, p, CU, dx, _, rfl, upd_same, U.cl, U.nM, (by show 1 < 1000; decide), ?_⟩
    rw [upd_upd]
    exact q
/-- making an Unlike -/
theorem u_made {H : Hp} {x dx : Addr} {u v : V} (nx : H x = Option.none) (nd : H dx = Option.none) (ne : dx ≠ x) : Gr T H (upd (upd (upd H dx (.own x)) x (.ins CU dx [])) x (.ins CU dx (uf u v))) := by
  have g1 : Gr T H (upd H dx (.own x)) := Gr.new nd
  have n2 : (upd H dx (.own x)) x = Option.none := by rw [upd_ne ne.symm]; exact nx
  exact (g1.trans (Gr.new n2)).mut nx upd_same trivial
/-! ### alike, of heaps that are unlike -/
/-- all of at most so many bits -/
def Bits (m : Nat) (l : List Int) : Prop := ∀ z ∈ l, PySem.Builtin.Int.intBits z ≤ m
def spAlikeU (T : Tb) (K : PySem.W.Frag) (CU : Addr) : Sp := fun vs H Q _ => ∃ (a b : Addr) (ns ms : List Int), vs = [.ref a, .ref b] ∧ SqL K H a (ns.map V.int) ∧ SqL K H b (ms.map V.int) ∧ ns.length ≤ 1000 ∧ ms.length ≤ 1000 ∧ Bits 100000 ns ∧ Bits 100000 ms ∧ ¬ ns.Perm ms ∧
  ∀ k p dx H', First ns ms k → H p = Option.none → Gr T H H' → H' p = some (.ins CU dx (uf (.int k) (.int (psum ns k - psum ms k)))) → Q (.ref p) H'
theorem rep_ones (n : Nat) : (List.replicate ((n : Nat) : Int).toNat [V.int 1]).flatten = (List.replicate n 1).map V.int := by
  rw [Int.toNat_natCast, List.map_replicate]
  induction n with
  | zero => rfl
  | succ n ih => rw [List.replicate_succ, List.flatten_cons, ih]; rfl
theorem bits_pow {l : List Int} {m : Nat} (h : Bits m l) (k : Nat) : Bits (m * k + 1) (pows l k) := fun z hz => by
  obtain ⟨x, hx, rfl⟩ := List.mem_map.mp hz
  exact PySem.intBits_pow_le (h x hx) k
theorem zip_ints (l m : List Int) : List.zipWith (fun x y => match x, y with | .int i, .int j => V.int (i * j) | _, _ => .non) (l.map V.int) (m.map V.int) = (List.zipWith (· * ·) l m).map V.int := by
  rw [List.zipWith_map, List.map_zipWith]
theorem zip_mem {l m : List Int} {x y : V} (h : (x, y) ∈ (l.map V.int).zip (m.map V.int)) : ∃ i j, x = .int i ∧ y = .int j ∧ i ∈ l ∧ j ∈ m := by
  obtain ⟨h1, h2⟩ := List.of_mem_zip h
  obtain ⟨i, hi, rfl⟩ := List.mem_map.mp h1
  obtain ⟨j, hj, rfl⟩ := List.mem_map.mp h2
  exact ⟨i, j, rfl, rfl, hi, hj⟩
theorem sc_alike : FnScope N_alike ["one", "other"] (C8.fnScope s_alike) := C8.fnScope_by (by decide +kernel)
theorem ok_alikeU (B : Bt mg) (F : C8.Def K mg "alike" s_alike f fd) (b : Binds K fd ["one", "other"] []) (c_check_heap : C8.Cal P w K mg base 2 "check_heap" (spCheckHeap T K) []) (c_left_of : C8.Cal P w K mg base 1 "left_of" (spLeft T K) [])
    (k_Same : C8.Mak P w K mg base 1 "Same" CS (fun _ _ _ _ => False) []) (k_Unlike : C8.Mak P w K mg base 1 "Unlike" CU (spUInit CU) []) : C8.Cal P w K mg base 4 "alike" (spAlikeU T K CU) [] := by
  refine C8.cal0 F b .nil sc_alike (fun vs H Q E h => ?_) (fun cdv A outer s H vs Q E hr h => ?_)
  · obtain ⟨a, b, ns, ms, rfl, _⟩ := h
    rfl
  · obtain ⟨a, b, ns, ms, rfl, hA, hB, hn, hm, bn, bm, hp, q⟩ := h
    refine ⟨_, (pss_cons (ps_expr (C8.pe_c c_check_heap hr (by decide) (by rfl) (pa_cons (pv 0) pa_nil)))
(pss_cons (ps_expr (C8.pe_c c_check_heap hr (by decide) (by rfl) (pa_cons (pv 1) pa_nil)))
(pss_cons (ps_par (i := 2) (j := 3) rfl sc_alike.nd rfl rfl (by decide) rfl rfl (pa_cons (C8.pe_c c_left_of hr (by decide) (by rfl) (pa_cons (pv 0) (pa_cons (pv 1) pa_nil))) (pa_cons (C8.pe_c c_left_of hr (by decide) (by rfl) (pa_cons (pv 1) (pa_cons (pv 0) pa_nil))) pa_nil)) (by rfl))
(C8.pss_cut (ps_if (PW.pt (pw_and (pt_cmpR op_eq (pe_callB call_len_seq (by rfl) B.len PySem.boot_len (pa_cons (pv 2) pa_nil)) pe_int (nomark _)) (pw_and1 (pt_cmpR op_eq (pe_callB call_len_seq (by rfl) B.len PySem.boot_len (pa_cons (pv 3) pa_nil)) pe_int (nomark _)))))
(pss_cons (ps_set (i := 4) sc_alike.nd rfl (.inl rfl) (pe_op op_rep (pe_lst (pa_cons pe_int pa_nil)) (pe_callB call_len_seq (by rfl) B.len PySem.boot_len (pa_cons (pv 0) pa_nil))))
(pss_cons ps_never
(pss_cons ps_never
(pss_one (ps_ret (C8.pe_mk k_Same hr (by decide) (by rfl) (pa_cons (pv 4) pa_nil)))))))
pss_nil)
(pss_cons (ps_set (i := 8) sc_alike.nd rfl (.inl rfl) (pe_op op_rep (pe_lst (pa_cons pe_int pa_nil)) (pe_callB call_len_seq (by rfl) B.len PySem.boot_len (pa_cons (pv 2) pa_nil))))
(pss_cons (ps_set (i := 9) sc_alike.nd rfl (.inl rfl) (pe_op op_rep (pe_lst (pa_cons pe_int pa_nil)) (pe_callB call_len_seq (by rfl) B.len PySem.boot_len (pa_cons (pv 3) pa_nil))))
(pss_cons (ps_set (i := 10) sc_alike.nd rfl (.inl rfl) pe_int)
(pss_cons (ps_while PassesOwn.never (pt_cmpR op_eq (pe_callB (cr_sum rfl) (by rfl) B.sum (by decide +kernel) (pa_cons (pv 8) pa_nil)) (pe_callB (cr_sum rfl) (by rfl) B.sum (by decide +kernel) (pa_cons (pv 9) pa_nil)) (nomark _))
(pss_cons (ps_setLc (i := 8) (own := [("part", 11), ("number", 12)]) (g := gTup K 2 (gCons (gName 11) (gCons (gName 12) gNil))) (tt := tYes) rfl sc_alike.nd rfl rfl (sw_true rfl rfl rfl (by decide +kernel)) (pi_zip (by rfl) B.zip (pa_cons (pv 8) (pa_cons (pv 2) pa_nil))) (blkOk_by (own := [("part", 11), ("number", 12)]) (N := N_alike) (sc := C8.fnScope s_alike) (by decide +kernel)) (fun _ _ _ _ _ => (pg_tup rfl (pgs_cons (pg_name (i := 11) sc_alike.nd rfl (Or.inl rfl)) (pgs_cons (pg_name (i := 12) sc_alike.nd rfl (Or.inl rfl)) pgs_nil)))) (fun _ _ _ _ _ => pts_nil) (fun _ _ _ _ _ => (pe_op op_mulB (pv 11) (pv 12))))
(pss_cons (ps_setLc (i := 9) (own := [("part", 11), ("number", 12)]) (g := gTup K 2 (gCons (gName 11) (gCons (gName 12) gNil))) (tt := tYes) rfl sc_alike.nd rfl rfl (sw_true rfl rfl rfl (by decide +kernel)) (pi_zip (by rfl) B.zip (pa_cons (pv 9) (pa_cons (pv 3) pa_nil))) (blkOk_by (own := [("part", 11), ("number", 12)]) (N := N_alike) (sc := C8.fnScope s_alike) (by decide +kernel)) (fun _ _ _ _ _ => (pg_tup rfl (pgs_cons (pg_name (i := 11) sc_alike.nd rfl (Or.inl rfl)) (pgs_cons (pg_name (i := 12) sc_alike.nd rfl (Or.inl rfl)) pgs_nil)))) (fun _ _ _ _ _ => pts_nil) (fun _ _ _ _ _ => (pe_op op_mulB (pv 11) (pv 12))))
(pss_one (ps_aug (i := 10) sc_alike.nd rfl (.inl rfl) pe_int ip_add)))))
(pss_one (ps_ret (C8.pe_mk k_Unlike hr (by decide) (by rfl) (pa_cons (pv 10) (pa_cons (pe_op op_sub (pe_callB (cr_sum rfl) (by rfl) B.sum (by decide +kernel) (pa_cons (pv 8) pa_nil)) (pe_callB (cr_sum rfl) (by rfl) B.sum (by decide +kernel) (pa_cons (pv 9) pa_nil))) pa_nil))))))))))))), ?_⟩
    refine ⟨.ref a, rfl, a, ns, rfl, hA, hn, fun H1 g1 => ?_⟩
    refine ⟨.ref b, rfl, b, ms, rfl, g1.sq hB, hm, fun H2 g2 => ?_⟩
    have g02 := g1.trans g2
    refine ⟨.ref a, rfl, .ref b, rfl, a, b, ns, ms, rfl, g02.sq hA, g02.sq hB, hn, hm, fun l H3 nl g3 el => ?_⟩
    have g03 := g02.trans g3
    refine ⟨.ref b, rfl, .ref a, rfl, b, a, ms, ns, rfl, g03.sq hB, g03.sq hA, hm, hn, fun r H4 nr g4 er => ?_⟩
    have g04 := g03.trans g4
    have el4 := g4.l el
    refine ⟨.ref l, .ref r, rfl, ?_⟩
    -- if len(mine) == 0 and len(theirs) == 0
    have nonempty : ∀ Z : Prop, (leftOf ns ms).length = 0 → (leftOf ms ns).length = 0 → Z := fun Z e1 e2 =>
      (hp (leftOf_nil (List.length_eq_zero_iff.mp e1) (List.length_eq_zero_iff.mp e2))).elim
    obtain ⟨k0, hk0⟩ := first_exists hp
    have hM := leftOf_first.mpr hk0
    have most := hM.most
    have lM := leftOf_len ns ms
    have lR := leftOf_len ms ns
    have bM : Bits 100000 (leftOf ns ms) := fun z hz => bn z (leftOf_sub hz)
    have bR : Bits 100000 (leftOf ms ns) := fun z hz => bm z (leftOf_sub hz)
    have dd := leftOf_psum ns ms k0
    generalize leftOf ns ms = M at *
    generalize leftOf ms ns = R at *
    refine ⟨fun σ' H' => σ' = [some (.ref a), some (.ref b), some (.ref l), some (.ref r), Option.none, Option.none, Option.none, Option.none, Option.none, Option.none, Option.none, Option.none, Option.none] ∧ H4 = H', ?_, fun σ5 H5 hmid => ?_⟩
    · refine ⟨.ref l, rfl, l, _, rfl, .inl (sq el4), rfl, _, rfl, ?_⟩
      refine ite2 (fun e => ?_) (fun e => ⟨rfl, rfl⟩)
      refine ⟨.ref r, rfl, r, _, rfl, .inl (sq er), rfl, _, rfl, ite2 (fun e' => ?_) (fun e' => ⟨rfl, rfl⟩)⟩
      refine nonempty _ ?_ ?_
      · have := V.int.inj (of_decide_eq_true e)
        rw [List.length_map] at this
        omega
      · have := V.int.inj (of_decide_eq_true e')
        rw [List.length_map] at this
        omega
    · obtain ⟨rfl, rfl⟩ := hmid
      -- now = [1] * len(mine); there = [1] * len(theirs); power = 0
      refine ⟨(by show 1 ≤ sizeLine; decide), fun u nu => ⟨.ref l, rfl, l, _, rfl, .inl (sq (by rw [upd_ne (ne_of_none el4 nu)]; exact el4)), ?_⟩⟩
      rw [List.length_map]
      have gu : Gr T H4 (upd H4 u (.lst [.int 1])) := Gr.new nu
      refine ⟨u, M.length, [.int 1], rfl, rfl, upd_same, by omega, by omega, by show 1 * _ ≤ _; rw [Int.toNat_natCast]; exact szl (by omega), fun now nnow => ?_⟩
      rw [rep_ones]
      have g5 := (g04.trans gu).trans (Gr.new (o := .lst ((List.replicate M.length 1).map V.int)) nnow)
      have e5 : (upd (upd H4 u (.lst [.int 1])) now (.lst ((List.replicate M.length 1).map V.int))) now = _ := upd_same
      have el5 := (gu.trans (Gr.new (T := T) (o := .lst ((List.replicate M.length 1).map V.int)) nnow)).l el4
      have er5 := (gu.trans (Gr.new (T := T) (o := .lst ((List.replicate M.length 1).map V.int)) nnow)).l er
      generalize upd (upd H4 u (.lst [.int 1])) now (.lst ((List.replicate M.length 1).map V.int)) = H5 at *
      refine ⟨(by show 1 ≤ sizeLine; decide), fun u2 nu2 => ⟨.ref r, rfl, r, _, rfl, .inl (sq (by rw [upd_ne (ne_of_none er5 nu2)]; exact er5)), ?_⟩⟩
      rw [List.length_map]
      have gu2 : Gr T H5 (upd H5 u2 (.lst [.int 1])) := Gr.new nu2
      refine ⟨u2, R.length, [.int 1], rfl, rfl, upd_same, by omega, by omega, by show 1 * _ ≤ _; rw [Int.toNat_natCast]; exact szl (by omega), fun there nthere => ?_⟩
      rw [rep_ones]
      have g56 := gu2.trans (Gr.new (T := T) (o := .lst ((List.replicate R.length 1).map V.int)) nthere)
      have e6 : (upd (upd H5 u2 (.lst [.int 1])) there (.lst ((List.replicate R.length 1).map V.int))) there = _ := upd_same
      generalize upd (upd H5 u2 (.lst [.int 1])) there (.lst ((List.replicate R.length 1).map V.int)) = H6 at *
      have g6 := g5.trans g56
      have el6 := g56.l el5
      have er6 := g56.l er5
      have enow6 := g56.l e5
      rw [← pows_zero] at enow6 e6
      -- the loop
      refine ⟨fun m σ H' => ∃ k c d, k + m = k0 ∧ σ = [some (.ref a), some (.ref b), some (.ref l), some (.ref r), Option.none, Option.none, Option.none, Option.none, some (.ref c), some (.ref d), some (.int k), Option.none, Option.none] ∧ Gr T H6 H' ∧ H' c = some (.lst ((pows M k).map V.int)) ∧ H' d = some (.lst ((pows R k).map V.int)),
        ⟨k0, 0, now, there, by omega, rfl, Gr.refl _, enow6, e6⟩, fun m σ H7 hW => ?_⟩
      obtain ⟨k, c, d, hk, rfl, g67, ec, ed⟩ := hW
      refine ⟨.ref c, rfl, c, _, rfl, sq ec, .ref d, rfl, d, _, rfl, sq ed, rfl, _, rfl, ite2 (fun e => ?_) (fun e => ?_)⟩
      · have e1 : psum M k = psum R k := V.int.inj (of_decide_eq_true e)
        have kl : k < k0 := by
          apply Classical.byContradiction
          intro z
          have : k = k0 := by omega
          exact hM.ne (this ▸ e1)
        refine ⟨fun σ' H' => ∃ c d, σ' = [some (.ref a), some (.ref b), some (.ref l), some (.ref r), Option.none, Option.none, Option.none, Option.none, some (.ref c), some (.ref d), some (.int ((k : Int) + 1)), Option.none, Option.none] ∧ Gr T H6 H' ∧ H' c = some (.lst ((pows M (k + 1)).map V.int)) ∧ H' d = some (.lst ((pows R (k + 1)).map V.int)),
          fun σ' H' ⟨c, d, e1, g, ec, ed⟩ => ⟨m - 1, by omega, k + 1, c, d, by omega, e1, g, ec, ed⟩, ?_⟩
        -- now = [part * number ..]
        have el7 := g67.l el6
        have er7 := g67.l er6
        have turn : ∀ {L : List Int} {H8 : Hp} {σ : L2.St} {x y : V} {Q' : VK}, Bits 100000 L → (x, y) ∈ ((pows L k).map V.int).zip (L.map V.int) → σ[11]? = some (some x) → σ[12]? = some (some y) →
            (Q' (match x, y with | .int i, .int j => V.int (i * j) | _, _ => .non) H8) → tOp (rI IntMulOk fun i j => .int (i * j)) (tVar 11) (tVar 12) σ H8 Q' := fun {L H8 σ x y Q'} bL hxy h1 h2 q' => by
          obtain ⟨i, j, rfl, rfl, hi, hj⟩ := zip_mem hxy
          refine ⟨_, h1, _, h2, i, j, rfl, rfl, IntMulOk.of_le (bits_pow bL k i hi) (bL j hj) ?_, q'⟩
          have : 100000 * k ≤ 100000 * 1000 := Nat.mul_le_mul_left _ (by omega)
          omega
        refine ⟨.ref c, rfl, .ref l, rfl, c, l, _, _, rfl, sq ec, sq el7, lc_zip (T := T) (i := 11) (j := 12) (by decide) (fun x y => match x, y with | .int i, .int j => V.int (i * j) | _, _ => .non) (sq ec) (sq el7) (by rw [List.length_map, List.length_map, pows_len]) (by rw [List.length_map, pows_len]; omega)
          (fun x y H8 hxy g Q' q' => turn bM hxy rfl rfl (q' H8 (Gr.refl _))) fun c2 H8 nc2 g8 ec2 => ?_⟩
        rw [zip_ints, pows_succ] at ec2
        have ed8 := g8.l ed
        have er8 := g8.l er7
        refine ⟨.ref d, rfl, .ref r, rfl, d, r, _, _, rfl, sq ed8, sq er8, lc_zip (T := T) (i := 11) (j := 12) (by decide) (fun x y => match x, y with | .int i, .int j => V.int (i * j) | _, _ => .non) (sq ed8) (sq er8) (by rw [List.length_map, List.length_map, pows_len]) (by rw [List.length_map, pows_len]; omega)
          (fun x y H9 hxy g Q' q' => turn bR hxy rfl rfl (q' H9 (Gr.refl _))) fun d2 H9 nd2 g9 ed2 => ?_⟩
        rw [zip_ints, pows_succ] at ed2
        refine ⟨.int k, rfl, k, 1, rfl, rfl, c2, d2, rfl, (g67.trans g8).trans g9, g9.l ec2, ed2⟩
      · have e1 : psum M k ≠ psum R k := fun z => e (decide_eq_true (congrArg V.int z))
        have kk : k = k0 := by
          have := hM.le e1
          omega
        subst kk
        refine ⟨.int k, rfl, .ref c, rfl, c, _, rfl, sq ec, .ref d, rfl, d, _, rfl, sq ed, _, _, rfl, rfl, ?_⟩
        intro x dx nx ndx ne
        refine ⟨x, dx, _, _, rfl, upd_same, rfl, ?_⟩
        have gx := u_made (T := T) (CU := CU) (u := .int k) (v := .int (psum M k - psum R k)) nx ndx ne
        have g7 := (g6.trans g67)
        rw [dd] at gx
        show Q (.ref x) (upd (upd (upd H7 dx (.own x)) x (.ins CU dx [])) x (.ins CU dx (uf (.int k) (.int (psum M k - psum R k)))))
        rw [dd]
        exact q k x dx _ hk0 (g7.lost x nx) (g7.trans gx) upd_same
end
end Wk
/-! ### numbers dealt to heaps -/
namespace Kx
open PySem PySem.Spec PyProof.Rows L2
section
variable {T : Tb} {K : PySem.W.Frag} {σ : L2.St} {H : Hp} {Q : Addr → Hp → Prop}
/-- new lists at as, empty, in H' -/
structure Fresh (T : Tb) (H H' : Hp) (D : Addr) (as : List Addr) : Prop where
  gr : Gr T H H'
  nD : H D = Option.none
  nd : as.Nodup
  nDas : D ∉ as
  new : ∀ a ∈ as, H a = Option.none
  lst : H' D = some (.lst (as.map V.ref))
theorem Fresh.grow {H' H'' : Hp} {D : Addr} {as : List Addr} (f : Fresh T H H' D as) (g : Gr T H' H'') : Fresh T H H'' D as := ⟨f.gr.trans g, f.nD, f.nd, f.nDas, f.new, g.l f.lst⟩
theorem Fresh.put {H' : Hp} {D a : Addr} {as : List Addr} {xs ys : List V} (f : Fresh T H H' D as) (ha : a ∈ as) (e : H' a = some (.lst xs)) : Fresh T H (upd H' a (.lst ys)) D as :=
  ⟨f.gr.mut (f.new a ha) e trivial, f.nD, f.nd, f.nDas, f.new, by rw [upd_ne fun z => f.nDas (by rw [z]; exact ha)]; exact f.lst⟩
/-- [[] for x in range(n)] -/
theorem lc_empties {i n : Nat} {lo : Int} (hn : n ≤ 100000)
    (done : ∀ D as H', as.length = n → Fresh T H H' D as → (∀ a ∈ as, H' a = some (.lst [])) → Q D H') : LcB (Itr lo n) (gName i) tYes (tLst tNil) [i] σ H Q := by
  intro D hD
  refine ⟨fun j m H' => j + m = n ∧ ∃ as : List Addr, as.length = j ∧ Fresh T H H' D as ∧ ∀ a ∈ as, H' a = some (.lst []), ⟨n, by omega, [], rfl, ⟨Gr.new hD, hD, List.nodup_nil, by simp, fun _ h => by simp at h, upd_same⟩, fun _ h => by simp at h⟩, fun j m H' hW => ?_⟩
  obtain ⟨e, as, hl, fr, em⟩ := hW
  by_cases hj : j < n
  · refine .inr ⟨hj, fun H'' => ∃ as : List Addr, as.length = j + 1 ∧ Fresh T H H'' D as ∧ ∀ a ∈ as, H'' a = some (.lst []), fun H'' q => ⟨m - 1, by omega, by omega, q⟩, fun x H2 y => ?_⟩
    obtain ⟨rfl, rfl⟩ := y
    refine ⟨?_, ?_⟩
    · show ((σ.set i Option.none).set i (some _)).set i Option.none = σ.set i Option.none
      rw [List.set_set, List.set_set]
    · refine ⟨Nat.zero_le _, fun p np => ?_⟩
      have pD : D ≠ p := ne_of_none fr.lst np
      have pa : ∀ a ∈ as, a ≠ p := fun a ha => ne_of_none (em a ha) np
      have g : Gr T H2 (upd H2 p (.lst [])) := Gr.new np
      refine ⟨_, g.l fr.lst, by rw [List.length_map]; exact szs (by omega), as ++ [p], by rw [List.length_append, hl]; rfl, ⟨((fr.gr.trans g).mut hD (g.l fr.lst) trivial), hD, ?_, ?_, ?_, ?_⟩, ?_⟩
      · rw [List.nodup_append]
        exact ⟨fr.nd, by simp, fun a ha b hb => by rw [List.mem_singleton.mp hb]; exact pa a ha⟩
      · intro h
        rcases List.mem_append.mp h with h | h
        · exact fr.nDas h
        · exact pD (List.mem_singleton.mp h)
      · intro a ha
        rcases List.mem_append.mp ha with ha | ha
        · exact fr.new a ha
        · rw [List.mem_singleton.mp ha]; exact fr.gr.lost p np
      · rw [upd_same, List.map_append]; rfl
      · intro a ha
        rcases List.mem_append.mp ha with ha | ha
        · rw [upd_ne fun z => fr.nDas (by rw [← z]; exact ha)]; exact g.l (em a ha)
        · rw [List.mem_singleton.mp ha, upd_ne pD.symm, upd_same]
  · have : j = n := by omega
    subst this
    exact .inl ⟨Nat.le_refl _, done D as H' hl fr em⟩
end
end Kx
namespace Ep
/-- the numbers below N of the heap r -/
def upto (m N r : Nat) : List Int := ((List.range N).filter fun n => ds m n % m = r).map fun n : Nat => (n : Int)
theorem upto_heap (m f r : Nat) : upto m (m ^ f) r = heap m f r := rfl
theorem upto_succ (m N r : Nat) : upto m (N + 1) r = if ds m N % m = r then upto m N r ++ [(N : Int)] else upto m N r := by
  unfold upto
  rw [List.range_succ, List.filter_append, List.map_append]
  by_cases h : ds m N % m = r
  · rw [if_pos h, List.filter_cons_of_pos (by simpa using h)]; rfl
  · rw [if_neg h, List.filter_cons_of_neg (by simpa using h)]; simp
theorem upto_len (m r : Nat) : ∀ N : Nat, (upto m N r).length ≤ N := fun N => by
  unfold upto
  rw [List.length_map]
  exact Nat.le_trans (List.length_filter_le _ _) (by rw [List.length_range]; exact Nat.le_refl _)
/-- the number at a place of a heap -/
def numAt (m h p : Nat) : Nat := m * p + (h + (m - ds m p % m)) % m
theorem int_sub_mod {m h r : Nat} (hm : 0 < m) (hh : h < m) (hr : r < m) : ((h : Int) - r) % (m : Int) = (((h + (m - r)) % m : Nat) : Int) := by
  rw [Int.natCast_emod]
  have : ((h + (m - r) : Nat) : Int) = ((h : Int) - r) + m := by omega
  rw [this, Int.add_emod_right]
end Ep
namespace Wk
open PySem PySem.Spec PyProof.Rows L2 Kx Ep
section
variable {P : Program} {w : World} {K : PySem.W.Frag} {mg : Str → Option Value} {base : Heap} {f : Addr} {fd : FuncData} {T : Tb}
def spCheckI (lo : Int) : Sp := fun vs H Q _ => ∃ n : Int, vs = [.int n] ∧ lo ≤ n ∧ Q .non H
theorem sc_check_heaps : FnScope N_check_heaps ["heaps"] (C8.fnScope s_check_heaps) := C8.fnScope_by (by decide +kernel)
theorem ok_check_heaps (F : C8.Def K mg "check_heaps" s_check_heaps f fd) (b : Binds K fd ["heaps"] []) (c_is_whole : C8.Cal P w K mg base 1 "is_whole" (spWhole K) []) : C8.Cal P w K mg base 2 "check_heaps" (spCheckI 2) [] := by
  refine C8.cal0 F b .nil sc_check_heaps (fun vs H Q E h => ?_) (fun cdv A outer s H vs Q E hr h => ?_)
  · obtain ⟨n, rfl, _⟩ := h
    rfl
  · obtain ⟨n, rfl, hn, q⟩ := h
    refine ⟨_, (pss_one (ps_if (PW.pt (pw_or (pt_not (pt_val (C8.pe_c c_is_whole hr (by decide) (by rfl) (pa_cons (pv 0) pa_nil)))) (pw_or1 (pt_cmpR op_lt (pv 0) pe_int (nomark _)))))
(pss_one ps_never)
pss_nil)), ?_⟩
    refine ⟨_, rfl, .int n, "int", true, false, rfl, .base (.int n), kI1, kI2, true, rfl, _, rfl, n, 2, rfl, rfl, _, rfl, ?_⟩
    rw [decide_eq_false (by omega)]
    exact q
theorem sc_check_place : FnScope N_check_place ["number"] (C8.fnScope s_check_place) := C8.fnScope_by (by decide +kernel)
theorem ok_check_place (F : C8.Def K mg "check_place" s_check_place f fd) (b : Binds K fd ["number"] []) (c_is_whole : C8.Cal P w K mg base 1 "is_whole" (spWhole K) []) : C8.Cal P w K mg base 2 "check_place" (spCheckI 0) [] := by
  refine C8.cal0 F b .nil sc_check_place (fun vs H Q E h => ?_) (fun cdv A outer s H vs Q E hr h => ?_)
  · obtain ⟨n, rfl, _⟩ := h
    rfl
  · obtain ⟨n, rfl, hn, q⟩ := h
    refine ⟨_, (pss_one (ps_if (PW.pt (pw_or (pt_not (pt_val (C8.pe_c c_is_whole hr (by decide) (by rfl) (pa_cons (pv 0) pa_nil)))) (pw_or1 (pt_cmpR op_lt (pv 0) pe_int (nomark _)))))
(pss_one ps_never)
pss_nil)), ?_⟩
    refine ⟨_, rfl, .int n, "int", true, false, rfl, .base (.int n), kI1, kI2, true, rfl, _, rfl, n, 0, rfl, rfl, _, rfl, ?_⟩
    rw [decide_eq_false (by omega)]
    exact q
/-! ### rest_of -/
def spRest : Sp := fun vs H Q _ => ∃ m n : Nat, vs = [.int m, .int n] ∧ 2 ≤ m ∧ Nat.log2 m < 9000 ∧ Q (.int ((ds m n % m : Nat))) H
theorem emod_c (n m : Nat) : ((n : Int) % (m : Int)) = ((n % m : Nat) : Int) := (Int.natCast_emod n m).symm
theorem ediv_c (n m : Nat) : ((n : Int) / (m : Int)) = ((n / m : Nat) : Int) := (Int.natCast_ediv n m).symm
theorem sc_rest_of : FnScope N_rest_of ["heaps", "number"] (C8.fnScope s_rest_of) := C8.fnScope_by (by decide +kernel)
theorem ok_rest_of (F : C8.Def K mg "rest_of" s_rest_of f fd) (b : Binds K fd ["heaps", "number"] []) : C8.Cal P w K mg base 1 "rest_of" spRest [] := by
  refine C8.cal0 F b .nil sc_rest_of (fun vs H Q E h => ?_) (fun cdv A outer s H vs Q E hr h => ?_)
  · obtain ⟨m, n, rfl, _⟩ := h
    rfl
  · obtain ⟨m, n, rfl, hm, hl, q⟩ := h
    refine ⟨_, (pss_cons (ps_set (i := 2) sc_rest_of.nd rfl (.inl rfl) pe_int)
(pss_cons (ps_while PassesOwn.never (pt_cmpR op_gt (pv 1) pe_int (nomark _))
(pss_cons (ps_aug (i := 2) sc_rest_of.nd rfl (.inl rfl) (pe_op op_mod (pv 1) (pv 0)) ip_add)
(pss_one (ps_set (i := 1) sc_rest_of.nd rfl (.inl rfl) (pe_op op_fdivW (pv 1) (pv 0))))))
(pss_one (ps_ret (pe_op op_mod (pv 2) (pv 0)))))), ?_⟩
    refine ⟨fun fuel σ H' => ∃ a c : Nat, σ = [some (.int m), some (.int c), some (.int a)] ∧ H' = H ∧ a + ds m c = ds m n ∧ c = fuel, ⟨n, 0, n, rfl, rfl, Nat.zero_add _, rfl⟩, fun fuel σ H' hW => ?_⟩
    obtain ⟨a, c, rfl, rfl, ha, rfl⟩ := hW
    refine ⟨_, rfl, c, 0, rfl, rfl, _, rfl, ite2 (fun e => ?_) (fun e => ?_)⟩
    · have hc : 0 < c := by have := of_decide_eq_true e; omega
      refine ⟨fun σ' H'' => σ' = [some (.int m), some (.int ((c / m : Nat))), some (.int ((a + c % m : Nat)))] ∧ H'' = H', fun σ' H'' z => ⟨c / m, Nat.div_lt_self hc (by omega), a + c % m, c / m, z.1, z.2, ?_, rfl⟩, ?_⟩
      · rw [← ha, ds_step (n := c) (by omega)]; omega
      · refine ⟨.int a, rfl, _, rfl, _, rfl, c, m, rfl, rfl, (by show (0 : Int) < m; omega), a, _, rfl, rfl, ?_⟩
        refine ⟨_, rfl, _, rfl, c, m, rfl, rfl, ⟨(by omega), hl⟩, ?_⟩
        exact ⟨rfl, rfl⟩
    · have hc : c = 0 := by
        apply Classical.byContradiction
        intro z
        exact e (decide_eq_true (by omega))
      subst hc
      rw [ds_zero, Nat.add_zero] at ha
      subst ha
      refine ⟨_, rfl, _, rfl, _, m, rfl, rfl, (by show (0 : Int) < m; omega), ?_⟩
      exact q
def spHeapOf : Sp := spRest
theorem sc_heap_of : FnScope N_heap_of ["heaps", "number"] (C8.fnScope s_heap_of) := C8.fnScope_by (by decide +kernel)
theorem ok_heap_of (F : C8.Def K mg "heap_of" s_heap_of f fd) (b : Binds K fd ["heaps", "number"] []) (c_check_heaps : C8.Cal P w K mg base 2 "check_heaps" (spCheckI 2) []) (c_check_place : C8.Cal P w K mg base 2 "check_place" (spCheckI 0) []) (c_rest_of : C8.Cal P w K mg base 1 "rest_of" spRest []) :
    C8.Cal P w K mg base 3 "heap_of" spRest [] := by
  refine C8.cal0 F b .nil sc_heap_of (fun vs H Q E h => ?_) (fun cdv A outer s H vs Q E hr h => ?_)
  · obtain ⟨m, n, rfl, _⟩ := h
    rfl
  · obtain ⟨m, n, rfl, hm, hl, q⟩ := h
    refine ⟨_, (pss_cons (ps_expr (C8.pe_c c_check_heaps hr (by decide) (by rfl) (pa_cons (pv 0) pa_nil)))
(pss_cons (ps_expr (C8.pe_c c_check_place hr (by decide) (by rfl) (pa_cons (pv 1) pa_nil)))
(pss_one (ps_ret (C8.pe_c c_rest_of hr (by decide) (by rfl) (pa_cons (pv 0) (pa_cons (pv 1) pa_nil))))))), ?_⟩
    exact ⟨_, rfl, m, rfl, by omega, _, rfl, n, rfl, by omega, _, rfl, _, rfl, m, n, rfl, hm, hl, q⟩
def spPlaceOf : Sp := fun vs H Q _ => ∃ m n : Nat, vs = [.int m, .int n] ∧ 2 ≤ m ∧ Nat.log2 m < 9000 ∧ Q (.int ((n / m : Nat))) H
theorem sc_place_of : FnScope N_place_of ["heaps", "number"] (C8.fnScope s_place_of) := C8.fnScope_by (by decide +kernel)
theorem ok_place_of (F : C8.Def K mg "place_of" s_place_of f fd) (b : Binds K fd ["heaps", "number"] []) (c_check_heaps : C8.Cal P w K mg base 2 "check_heaps" (spCheckI 2) []) (c_check_place : C8.Cal P w K mg base 2 "check_place" (spCheckI 0) []) :
    C8.Cal P w K mg base 3 "place_of" spPlaceOf [] := by
  refine C8.cal0 F b .nil sc_place_of (fun vs H Q E h => ?_) (fun cdv A outer s H vs Q E hr h => ?_)
  · obtain ⟨m, n, rfl, _⟩ := h
    rfl
  · obtain ⟨m, n, rfl, hm, hl, q⟩ := h
    refine ⟨_, (pss_cons (ps_expr (C8.pe_c c_check_heaps hr (by decide) (by rfl) (pa_cons (pv 0) pa_nil)))
(pss_cons (ps_expr (C8.pe_c c_check_place hr (by decide) (by rfl) (pa_cons (pv 1) pa_nil)))
(pss_one (ps_ret (pe_op op_fdivW (pv 1) (pv 0)))))), ?_⟩
    refine ⟨_, rfl, m, rfl, by omega, _, rfl, n, rfl, by omega, _, rfl, _, rfl, n, m, rfl, rfl, ⟨by omega, hl⟩, ?_⟩
    exact q
def spNumberAt : Sp := fun vs H Q _ => ∃ m h p : Nat, vs = [.int m, .int h, .int p] ∧ 2 ≤ m ∧ Nat.log2 m < 9000 ∧ h < m ∧ PySem.Builtin.Int.intBits m ≤ 10000 ∧ PySem.Builtin.Int.intBits p ≤ 10000 ∧ Q (.int ((numAt m h p : Nat))) H
theorem sc_number_at : FnScope N_number_at ["heaps", "heap", "place"] (C8.fnScope s_number_at) := C8.fnScope_by (by decide +kernel)
theorem ok_number_at (F : C8.Def K mg "number_at" s_number_at f fd) (b : Binds K fd ["heaps", "heap", "place"] []) (c_is_whole : C8.Cal P w K mg base 1 "is_whole" (spWhole K) []) (c_check_heaps : C8.Cal P w K mg base 2 "check_heaps" (spCheckI 2) []) (c_check_place : C8.Cal P w K mg base 2 "check_place" (spCheckI 0) []) (c_rest_of : C8.Cal P w K mg base 1 "rest_of" spRest []) :
    C8.Cal P w K mg base 3 "number_at" spNumberAt [] := by
  refine C8.cal0 F b .nil sc_number_at (fun vs H Q E h => ?_) (fun cdv A outer s H vs Q E hr h => ?_)
  · obtain ⟨m, h, p, rfl, _⟩ := h
    rfl
  · obtain ⟨m, h, p, rfl, hm, hl, hh, bm, bp, q⟩ := h
    refine ⟨_, (pss_cons (ps_expr (C8.pe_c c_check_heaps hr (by decide) (by rfl) (pa_cons (pv 0) pa_nil)))
(C8.pss_cut (ps_if (PW.pt (pw_or (pt_not (pt_val (C8.pe_c c_is_whole hr (by decide) (by rfl) (pa_cons (pv 1) pa_nil)))) (pw_or1 (pt_not (pt_chain op_le op_lt pe_int (pv 1) (pv 0))))))
(pss_one ps_never)
pss_nil)
(pss_cons (ps_expr (C8.pe_c c_check_place hr (by decide) (by rfl) (pa_cons (pv 2) pa_nil)))
(pss_one (ps_ret (pe_op op_add (pe_op op_mulB (pv 0) (pv 2)) (pe_op op_mod (pe_op op_sub (pv 1) (C8.pe_c c_rest_of hr (by decide) (by rfl) (pa_cons (pv 0) (pa_cons (pv 2) pa_nil)))) (pv 0)))))))), ?_⟩
    refine ⟨_, rfl, m, rfl, by omega, ?_⟩
    refine ⟨fun σ' H' => σ' = [some (.int m), some (.int h), some (.int p)] ∧ H = H', ?_, fun σ' H' z => ?_⟩
    · refine ⟨_, rfl, .int h, "int", true, false, rfl, .base (.int h), kI1, kI2, true, rfl, ?_⟩
      refine ⟨_, rfl, 0, h, rfl, rfl, _, rfl, ?_⟩
      rw [decide_eq_true (by omega)]
      refine ⟨_, rfl, h, m, rfl, rfl, _, rfl, ?_⟩
      rw [decide_eq_true (by omega)]
      exact ⟨rfl, rfl⟩
    · obtain ⟨rfl, rfl⟩ := z
      refine ⟨_, rfl, p, rfl, by omega, ?_⟩
      refine ⟨_, rfl, _, rfl, m, p, rfl, rfl, IntMulOk.of_le bm bp (by omega), _, rfl, _, rfl, _, rfl, m, p, rfl, hm, hl, h, _, rfl, rfl, _, rfl, _, m, rfl, rfl, (by show (0 : Int) < m; omega), _, _, rfl, rfl, ?_⟩
      rw [int_sub_mod (by omega) hh (Nat.mod_lt _ (by omega))]
      exact q
/-! ### dealt -/
def spDealt (T : Tb) : Sp := fun vs H Q _ => ∃ m f : Nat, vs = [.int m, .int f] ∧ 2 ≤ m ∧ m ≤ 1000 ∧ m ^ f ≤ 1000 ∧
  ∀ D as H', as.length = m → Fresh T H H' D as → (∀ (r : Nat) a, as[r]? = some a → H' a = some (.lst ((heap m f r).map V.int))) → Q (.ref D) H'
theorem few_figures {m f : Nat} (hm : 2 ≤ m) (h : m ^ f ≤ 1000) : f ≤ 9 := by
  have h2 : 2 ^ f ≤ m ^ f := Nat.pow_le_pow_left hm f
  have h3 : 2 ^ f < 2 ^ 10 := Nat.lt_of_le_of_lt (Nat.le_trans h2 h) (by decide)
  have := (Nat.pow_lt_pow_iff_right (a := 2) (by decide)).mp h3
  omega
theorem log_small {m : Nat} (h : m ≤ 1000) : Nat.log2 m < 9000 := by
  by_cases h0 : m = 0
  · rw [h0]; decide
  · exact (Nat.log2_lt h0).mpr (Nat.lt_of_le_of_lt h (Nat.lt_of_lt_of_le (show 1000 < 2 ^ 10 by decide) (Nat.pow_le_pow_right (by decide) (by decide))))
/-- one more number is put to its heap -/
theorem put_next {H H1 : Hp} {D a : Addr} {as : List Addr} {m i : Nat} (hm : 2 ≤ m) (fr : Fresh T H H1 D as) (hl : as.length = m) (ha : as[ds m i % m]? = some a) (e : ∀ (r : Nat) a, as[r]? = some a → H1 a = some (.lst ((upto m i r).map V.int))) :
    Fresh T H (upd H1 a (.lst ((upto m i (ds m i % m)).map V.int ++ [.int i]))) D as ∧ ∀ (r : Nat) b, as[r]? = some b → (upd H1 a (.lst ((upto m i (ds m i % m)).map V.int ++ [.int i]))) b = some (.lst ((upto m (i + 1) r).map V.int)) := by
  refine ⟨fr.put (List.mem_of_getElem? ha) (e _ _ ha), fun r b hb => ?_⟩
  by_cases hr : r = ds m i % m
  · subst hr
    have : a = b := Option.some.inj (ha.symm.trans hb)
    subst this
    rw [upd_same, upto_succ, if_pos rfl, List.map_append]; rfl
  · have nb : b ≠ a := fun z => by
      subst z
      obtain ⟨h1, e1⟩ := List.getElem?_eq_some_iff.mp ha
      obtain ⟨h2, e2⟩ := List.getElem?_eq_some_iff.mp hb
      exact hr ((List.getElem_inj fr.nd).mp (e2.trans e1.symm))
    rw [upd_ne nb, upto_succ, if_neg (fun z => hr z.symm)]
    exact e r b hb
theorem sc_dealt : FnScope N_dealt ["heaps", "figures"] (C8.fnScope s_dealt) := C8.fnScope_by (by decide +kernel)
theorem ok_dealt (B : Bt mg) {t : Tok} (g_MOST : mg "MOST" = some (.int 1000 t)) (F : C8.Def K mg "dealt" s_dealt f fd) (b : Binds K fd ["heaps", "figures"] []) (c_is_whole : C8.Cal P w K mg base 1 "is_whole" (spWhole K) []) (c_check_heaps : C8.Cal P w K mg base 2 "check_heaps" (spCheckI 2) []) (c_rest_of : C8.Cal P w K mg base 1 "rest_of" spRest []) :
    C8.Cal P w K mg base 3 "dealt" (spDealt T) [] := by
  refine C8.cal0 F b .nil sc_dealt (fun vs H Q E h => ?_) (fun cdv A outer s H vs Q E hr h => ?_)
  · obtain ⟨m, f, rfl, _⟩ := h
    rfl
  · obtain ⟨m, f, rfl, hm, hm2, hmf, q⟩ := h
    have hf := few_figures hm hmf
    have small : ∀ i, i ≤ f → m ^ i ≤ 1000 := fun i hi => Nat.le_trans (Nat.pow_le_pow_right (by omega) hi) hmf
    refine ⟨_, (pss_cons (ps_expr (C8.pe_c c_check_heaps hr (by decide) (by rfl) (pa_cons (pv 0) pa_nil)))
(C8.pss_cut (ps_if (PW.pt (pw_or (pt_not (pt_val (C8.pe_c c_is_whole hr (by decide) (by rfl) (pa_cons (pv 1) pa_nil)))) (pw_or1 (pt_cmpR op_lt (pv 1) pe_int (nomark _)))))
(pss_one ps_never)
pss_nil)
(pss_cons (ps_set (i := 2) sc_dealt.nd rfl (.inl rfl) pe_int)
(pss_cons (ps_for PassesOwn.never rfl (pi_range1 rfl B.range (pa_cons (pe_callB (call_min2 rfl) (by rfl) B.min (by decide +kernel) (pa_cons (pv 1) (pa_cons pe_int pa_nil))) pa_nil)) (pg_name (i := 3) sc_dealt.nd rfl (Or.inl rfl))
(pss_one (ps_set (i := 2) sc_dealt.nd rfl (.inl rfl) (pe_callB (call_min2 rfl) (by rfl) B.min (by decide +kernel) (pa_cons (pe_op op_add (pe_glob (v := V.int 1000) (by rfl) g_MOST ⟨_, rfl⟩) pe_int) (pa_cons (pe_op op_mulB (pv 2) (pv 0)) pa_nil))))))
(C8.pss_cut (ps_if (PW.pt (pw_or (pt_cmpR op_gt (pv 0) (pe_glob (v := V.int 1000) (by rfl) g_MOST ⟨_, rfl⟩) (nomark _)) (pw_or1 (pt_cmpR op_gt (pv 2) (pe_glob (v := V.int 1000) (by rfl) g_MOST ⟨_, rfl⟩) (nomark _)))))
(pss_one ps_never)
pss_nil)
(pss_cons (ps_setLc (i := 4) (own := [("heap", 6)]) (g := gName 6) (tt := tYes) rfl sc_dealt.nd rfl rfl (sw_true rfl rfl rfl (by decide +kernel)) (pi_range1 rfl B.range (pa_cons (pv 0) pa_nil)) (blkOk_by (own := [("heap", 6)]) (N := N_dealt) (sc := C8.fnScope s_dealt) (by decide +kernel)) (fun _ _ _ _ _ => (pg_name (i := 6) sc_dealt.nd rfl (Or.inl rfl))) (fun _ _ _ _ _ => pts_nil) (fun _ _ _ _ _ => (pe_lst pa_nil)))
(pss_cons (ps_for PassesOwn.never rfl (pi_range1 rfl B.range (pa_cons (pv 2) pa_nil)) (pg_name (i := 5) sc_dealt.nd rfl (Or.inl rfl))
(pss_one (ps_expr (pe_bm PySem.F.plainAttrs_list PySem.F.slot_list_append PySem.F.type_list_append mt_append (pe_ix ix_list (pv 4) (C8.pe_c c_rest_of hr (by decide) (by rfl) (pa_cons (pv 0) (pa_cons (pv 5) pa_nil))) (fun _ _ => rfl)) (pa_cons (pv 5) pa_nil)))))
(pss_one (ps_ret (pv 4)))))))))), ?_⟩
    refine ⟨_, rfl, m, rfl, by omega, ?_⟩
    refine ⟨fun σ' H' => σ' = [some (.int m), some (.int f), Option.none, Option.none, Option.none, Option.none, Option.none] ∧ H = H', ?_, fun σ' H' z => ?_⟩
    · refine ⟨_, rfl, .int f, "int", true, false, rfl, .base (.int f), kI1, kI2, true, rfl, _, rfl, f, 0, rfl, rfl, _, rfl, ?_⟩
      rw [decide_eq_false (by omega)]
      exact ⟨rfl, rfl⟩
    · obtain ⟨rfl, rfl⟩ := z
      refine ⟨_, rfl, f, 11, rfl, f, by rw [if_neg (by omega)], by omega, by omega, for_range (n := f) (fun i σ' H' => ∃ y, σ' = [some (.int m), some (.int f), some (.int ((m ^ i : Nat))), y, Option.none, Option.none, Option.none] ∧ H = H') ⟨_, rfl, rfl⟩ (fun i σ' H' hi hW => ?_) fun σ' H' hW => ?_⟩
      · obtain ⟨y, rfl, rfl⟩ := hW
        have s1 := small (i + 1) (by omega)
        have s0 := small i (by omega)
        have ep : (((m ^ i : Nat) : Int) * m) = ((m ^ (i + 1) : Nat) : Int) := by rw [Nat.pow_succ, Int.natCast_mul]
        refine ⟨1000, 1, rfl, rfl, _, rfl, _, rfl, (m ^ i : Nat), m, rfl, rfl, .of_right (PySem.intBits_le_64 (by omega) (by omega)), 1000 + 1, (m ^ i : Nat) * m, rfl, ?_⟩
        rw [if_pos (by rw [ep]; omega), ep]
        exact ⟨_, rfl, rfl⟩
      · obtain ⟨y, rfl, rfl⟩ := hW
        refine ⟨fun σ' H' => σ' = [some (.int m), some (.int f), some (.int ((m ^ f : Nat))), y, Option.none, Option.none, Option.none] ∧ H = H', ?_, fun σ' H' z => ?_⟩
        · refine ⟨_, rfl, m, 1000, rfl, rfl, _, rfl, ?_⟩
          rw [decide_eq_false (by omega)]
          refine ⟨_, rfl, (m ^ f : Nat), 1000, rfl, rfl, _, rfl, ?_⟩
          rw [decide_eq_false (by omega)]
          exact ⟨rfl, rfl⟩
        · obtain ⟨rfl, rfl⟩ := z
          refine ⟨_, rfl, m, rfl, by omega, by omega, lc_empties (T := T) (i := 6) (n := m) (lo := 0) (by omega) fun D as H1 hl fr em => ?_⟩
          refine ⟨_, rfl, (m ^ f : Nat), rfl, by omega, by omega, for_range (n := m ^ f) (fun i σ' H' => ∃ y5, σ' = [some (.int m), some (.int f), some (.int ((m ^ f : Nat))), y, some (.ref D), y5, Option.none] ∧ Fresh T H H' D as ∧ ∀ (r : Nat) a, as[r]? = some a → H' a = some (.lst ((upto m i r).map V.int)))
            ⟨_, rfl, fr, fun r a ha => em a (List.mem_of_getElem? ha)⟩ (fun i σ' H' hi hW => ?_) fun σ' H' hW => ?_⟩
          · obtain ⟨y5, rfl, fr, e⟩ := hW
            rw [Int.zero_add]
            have hr : ds m i % m < as.length := by rw [hl]; exact Nat.mod_lt _ (by omega)
            have ha : as[ds m i % m]? = some as[ds m i % m] := List.getElem?_eq_getElem hr
            obtain ⟨fr2, e2⟩ := put_next hm fr hl ha e
            have ea := e _ _ ha
            refine ⟨.ref D, rfl, _, rfl, _, rfl, m, i, rfl, hm, log_small hm2, D, _, ((ds m i % m : Nat) : Int), .ref as[ds m i % m], rfl, rfl, sq fr.lst, atI_nat (by rw [List.getElem?_map, ha]; rfl), .inl ⟨rfl, _, sq ea⟩, .int i, rfl, _, _, _, rfl, rfl, ea, szs (by rw [List.length_map]; have := upto_len m (ds m i % m) i; omega), ?_⟩
            exact ⟨_, rfl, fr2, e2⟩
          · obtain ⟨y5, rfl, fr, e⟩ := hW
            exact ⟨.ref D, rfl, q D as H' hl fr e⟩
end
end Wk
/-! ### the law's own small defs -/
namespace Wk
open PySem PySem.Spec PyProof.Rows L2 Kx Ep
open PySem.Builtin.Int (intBits)
section
variable {P : Program} {w : World} {K : PySem.W.Frag} {mg : Str → Option Value} {base : Heap} {f : Addr} {fd : FuncData} {T : Tb}
def spCellAt (K : PySem.W.Frag) : Sp := fun vs H Q _ => ∃ (a : Addr) (ns : List Int) (k : Nat), vs = [.ref a, .int k] ∧ SqL K H a (ns.map V.int) ∧ (∀ z, z = 0 ∨ z ∈ ns → Q (.int z) H)
theorem sc__law_cell_at : FnScope N__law_cell_at ["_law_script", "_law_k"] (C8.fnScope s__law_cell_at) := C8.fnScope_by (by decide +kernel)
theorem ok_cell_at (B : Bt mg) (F : C8.Def K mg "_law_cell_at" s__law_cell_at f fd) (b : Binds K fd ["_law_script", "_law_k"] []) : C8.Cal P w K mg base 1 "_law_cell_at" (spCellAt K) [] := by
  refine C8.cal0 F b .nil sc__law_cell_at (fun vs H Q E h => ?_) (fun cdv A outer s H vs Q E hr h => ?_)
  · obtain ⟨a, ns, k, rfl, _⟩ := h
    rfl
  · obtain ⟨a, ns, k, rfl, hA, q⟩ := h
    refine ⟨_, (pss_cons (ps_if (pt_cmpR op_lt (pv 1) (pe_callB call_len_seq (by rfl) B.len PySem.boot_len (pa_cons (pv 0) pa_nil)) (nomark _))
(pss_one (ps_ret (pe_ix ix_list (pv 0) (pv 1) (fun _ _ => rfl))))
pss_nil)
(pss_one (ps_ret pe_int))), ?_⟩
    refine ⟨_, rfl, _, rfl, a, _, rfl, .inl hA, k, _, rfl, rfl, _, rfl, ite2 (fun e => ?_) (fun e => ?_)⟩
    · have hk : k < ns.length := by
        have := of_decide_eq_true e
        rw [List.length_map] at this
        omega
      refine ⟨_, rfl, _, rfl, a, _, (k : Int), .int ns[k], rfl, rfl, hA, atI_nat (by rw [List.getElem?_map, List.getElem?_eq_getElem hk]; rfl), ?_⟩
      exact q _ (.inr (List.getElem_mem hk))
    · exact q 0 (.inl rfl)
def primes : List Int := [1000003, 1000033, 1000037, 1000039, 1000081, 1000099, 1000117, 1000121, 1000133, 1000151, 1000159, 1000171, 1000183, 1000187, 1000193, 1000199]
theorem primes_at (k : Nat) : ∃ z : Int, (primes.map V.int)[k % 16]? = some (.int z) ∧ 0 < z := by
  have hl : k % 16 < primes.length := Nat.mod_lt _ (by decide)
  refine ⟨primes[k % 16], by rw [List.getElem?_map, List.getElem?_eq_getElem hl]; rfl, ?_⟩
  have all : ∀ z ∈ primes, (0 : Int) < z := by decide
  exact all _ (List.getElem_mem hl)
def spDraw (T : Tb) : Sp := fun vs H Q _ => ∃ (cell : Int) (k : Nat) (many : Int), vs = [.int cell, .int k, .int many] ∧ k ≤ 1000 ∧ 0 < many ∧ (∀ z H', 0 ≤ z → z < many → Gr T H H' → Q (.int z) H')
theorem mul_small {a b : Int} (h1 : -(2 ^ 60) < b) (h2 : b < 2 ^ 60) : IntMulOk a b := .of_right (PySem.intBits_le_64 (by omega) (by omega))
theorem mul_small' {a b : Int} (h1 : -(2 ^ 60) < a) (h2 : a < 2 ^ 60) : IntMulOk a b := .of_left (PySem.intBits_le_64 (by omega) (by omega))
theorem sc__law_draw : FnScope N__law_draw ["_law_cell", "_law_k", "_law_many"] (C8.fnScope s__law_draw) := C8.fnScope_by (by decide +kernel)
theorem ok_draw (B : Bt mg) (F : C8.Def K mg "_law_draw" s__law_draw f fd) (b : Binds K fd ["_law_cell", "_law_k", "_law_many"] []) : C8.Cal P w K mg base 1 "_law_draw" (spDraw T) [] := by
  refine C8.cal0 F b .nil sc__law_draw (fun vs H Q E h => ?_) (fun cdv A outer s H vs Q E hr h => ?_)
  · obtain ⟨c, k, m, rfl, _⟩ := h
    rfl
  · obtain ⟨c, k, m, rfl, hk, hm, q⟩ := h
    refine ⟨_, (pss_cons (ps_set (i := 3) sc__law_draw.nd rfl (.inl rfl) (pe_tup (pa_cons pe_int (pa_cons pe_int (pa_cons pe_int (pa_cons pe_int (pa_cons pe_int (pa_cons pe_int (pa_cons pe_int (pa_cons pe_int (pa_cons pe_int (pa_cons pe_int (pa_cons pe_int (pa_cons pe_int (pa_cons pe_int (pa_cons pe_int (pa_cons pe_int (pa_cons pe_int pa_nil))))))))))))))))))
(pss_one (ps_ret (pe_op op_mod (pe_op op_mod (pe_op op_add (pe_op op_mulB (pv 0) pe_int) (pe_op op_mulB (pv 1) pe_int)) (pe_ix ix_tup (pv 3) (pe_op op_mod (pv 1) pe_int) (fun _ _ => rfl))) (pv 2))))), ?_⟩
    refine ⟨(by show 16 ≤ sizeLine; decide), fun t nt => ?_⟩
    obtain ⟨z, hz, z0⟩ := primes_at k
    have g : Gr T H (upd H t (.tup (primes.map V.int))) := Gr.new nt
    refine ⟨_, rfl, c, 48271, rfl, rfl, mul_small (by omega) (by omega), _, rfl, k, 69621, rfl, rfl, mul_small (by omega) (by omega), _, _, rfl, rfl, ?_⟩
    refine ⟨.ref t, rfl, _, rfl, k, 16, rfl, rfl, (show (0 : Int) < 16 by decide), t, primes.map V.int, ((k % 16 : Nat) : Int), .int z, rfl, rfl, stp upd_same, atI_nat hz, _, z, rfl, rfl, z0, _, rfl, _, m, rfl, rfl, hm, ?_⟩
    exact q _ _ (Int.emod_nonneg _ (by omega)) (Int.emod_lt_of_pos _ hm) g
theorem big60 : intBits ((10 : Int) ^ (60 : Int).toNat) ≤ 200 := by decide +kernel
theorem big120 : intBits ((10 : Int) ^ (60 : Int).toNat * (10 : Int) ^ (60 : Int).toNat) ≤ 400 := by decide +kernel
theorem big40 : intBits ((10 : Int) ^ (40 : Int).toNat) ≤ 400 := by decide +kernel
theorem value_bits {r M : Int} (b0 : 0 ≤ r) (b1 : r < M) (bM : intBits M ≤ 400) : IntMulOk (r / 2) (1 - r % 2 * 2) ∧ intBits (r / 2 * (1 - r % 2 * 2)) ≤ 500 := by
  have br : intBits r ≤ 400 := PySem.intBits_le_of_natAbs (by omega) bM
  have br2 : intBits (r / 2) ≤ 400 := PySem.intBits_le_of_natAbs (by omega) br
  have bs : intBits (1 - r % 2 * 2) ≤ 64 := PySem.intBits_le_64 (by omega) (by omega)
  exact ⟨IntMulOk.of_le br2 bs (by decide), Nat.le_trans (PySem.intBits_mul_le br2 bs) (by decide)⟩
def spValue (T : Tb) : Sp := fun vs H Q _ => ∃ (cell : Int) (k : Nat) (most : Int), vs = [.int cell, .int k, .int most] ∧ intBits cell ≤ 1048576 ∧ k ≤ 1000 ∧ 0 ≤ most ∧ most ≤ 400000 ∧ (∀ z H', intBits z ≤ 500 → Gr T H H' → Q (.int z) H')
theorem sc__law_value : FnScope N__law_value ["_law_cell", "_law_k", "_law_most"] (C8.fnScope s__law_value) := C8.fnScope_by (by decide +kernel)
theorem ok_value (B : Bt mg) (F : C8.Def K mg "_law_value" s__law_value f fd) (b : Binds K fd ["_law_cell", "_law_k", "_law_most"] []) (c__law_draw : C8.Cal P w K mg base 1 "_law_draw" (spDraw T) []) : C8.Cal P w K mg base 2 "_law_value" (spValue T) [] := by
  refine C8.cal0 F b .nil sc__law_value (fun vs H Q E h => ?_) (fun cdv A outer s H vs Q E hr h => ?_)
  · obtain ⟨c, k, m, rfl, _⟩ := h
    rfl
  · obtain ⟨c, k, m, rfl, bc, hk, hm, hm2, q⟩ := h
    refine ⟨_, (pss_cons (ps_if (pt_cmpR op_ge (pv 0) (pe_op op_pow pe_int pe_int) (nomark _))
(pss_cons (ps_set (i := 3) sc__law_value.nd rfl (.inl rfl) (pe_op op_mod (pe_op op_sub (pv 0) (pe_op op_pow pe_int pe_int)) (pe_op op_mulB (pe_op op_pow pe_int pe_int) (pe_op op_pow pe_int pe_int))))
(pss_one (ps_ret (pe_op op_mulB (pe_op op_fdivW (pv 3) pe_int) (pe_op op_sub pe_int (pe_op op_mulB (pe_op op_mod (pv 3) pe_int) pe_int))))))
pss_nil)
(pss_one (ps_ret (pe_op op_sub (C8.pe_c c__law_draw hr (by decide) (by rfl) (pa_cons (pe_op op_mulB (pe_op op_add (pv 0) (pe_op op_mulB pe_int (pv 1))) (pe_op op_add (pe_op op_add (pv 0) (pe_op op_mulB pe_int (pv 1))) pe_int)) (pa_cons (pe_op op_add (pe_op op_mod (pv 1) pe_int) pe_int) (pa_cons (pe_op op_add (pe_op op_mulB pe_int (pv 2)) pe_int) pa_nil)))) (pv 2))))), ?_⟩
    refine ⟨_, rfl, 10, 18, rfl, rfl, ⟨by decide, by decide, by decide⟩, c, _, rfl, rfl, _, rfl, ite2 (fun e => ?_) (fun e => ?_)⟩
    · skip
      refine ⟨_, rfl, 10, 18, rfl, rfl, ⟨by decide, by decide, by decide⟩, c, _, rfl, rfl, 10, 60, rfl, rfl, ⟨by decide, by decide, by decide⟩, 10, 60, rfl, rfl, ⟨by decide, by decide, by decide⟩, _, _, rfl, rfl, IntMulOk.of_le big60 big60 (by decide), _, _, rfl, rfl, (show (0 : Int) < 10 ^ (60 : Int).toNat * 10 ^ (60 : Int).toNat by decide), ?_⟩
      have b0 := Int.emod_nonneg (c - 10 ^ (18 : Int).toNat) (show (10 : Int) ^ (60 : Int).toNat * 10 ^ (60 : Int).toNat ≠ 0 by decide)
      have b1 : (c - 10 ^ (18 : Int).toNat) % ((10 : Int) ^ (60 : Int).toNat * 10 ^ (60 : Int).toNat) < (10 : Int) ^ (60 : Int).toNat * 10 ^ (60 : Int).toNat := Int.emod_lt_of_pos _ (by decide)
      have bM : intBits ((10 : Int) ^ (60 : Int).toNat * 10 ^ (60 : Int).toNat) ≤ 400 := big120
      obtain ⟨ok, bz⟩ := value_bits b0 b1 bM
      exact ⟨_, rfl, _, 2, rfl, rfl, ⟨by decide, by decide⟩, _, rfl, _, 2, rfl, rfl, (show (0 : Int) < 2 by decide), _, 2, rfl, rfl, mul_small (by decide) (by decide), 1, _, rfl, rfl, _, _, rfl, rfl, ok, q _ H bz (Gr.refl _)⟩
    · have bk : intBits (977 * (k : Int)) ≤ 64 := PySem.intBits_le_64 (by omega) (by omega)
      have bk2 : intBits (31 * (k : Int)) ≤ 64 := PySem.intBits_le_64 (by omega) (by omega)
      refine ⟨_, rfl, _, rfl, _, _, rfl, rfl, mul_small' (by decide) (by decide), _, _, rfl, rfl, _, rfl, _, rfl, _, _, rfl, rfl, mul_small' (by decide) (by decide), _, _, rfl, rfl, _, _, rfl, rfl, _, _, rfl, rfl,
        IntMulOk.of_le (PySem.intBits_add_le bc bk) (PySem.intBits_add_le (PySem.intBits_add_le bc bk2) (PySem.intBits_le_64 (k := 5) (by decide) (by decide))) (by decide),
        _, rfl, _, _, rfl, rfl, (show (0 : Int) < 9 by decide), _, _, rfl, rfl, _, rfl, _, _, rfl, rfl, mul_small' (by decide) (by decide), _, _, rfl, rfl, ?_⟩
      refine ⟨_, k % 9 + 1, 2 * m + 1, rfl, by omega, by omega, fun z H' h0 h1 g => ⟨_, rfl, z, m, rfl, rfl, q _ H' (Nat.le_trans (PySem.intBits_le_64 (by omega) (by omega)) (by decide)) g⟩⟩
end
end Wk
namespace Ep
/-! ### numbers of a heap, one in each block -/
theorem numAt_form {m h p : Nat} (hm : 2 ≤ m) (hh : h < m) : ∃ d, d < m ∧ numAt m h p = m * p + d ∧ (d + ds m p) % m = h := by
  refine ⟨(h + (m - ds m p % m)) % m, Nat.mod_lt _ (by omega), rfl, ?_⟩
  have lt := Nat.mod_lt (ds m p) (show 0 < m by omega)
  rw [← Nat.add_mod_mod]
  generalize ds m p % m = r at *
  rw [mod2 (a := h + (m - r)) (by omega)]
  split
  · rw [mod2 (by omega)]; split <;> omega
  · rw [mod2 (by omega)]; split <;> omega
theorem block_div {m p d : Nat} (hd : d < m) : (m * p + d) / m = p := by
  rw [Nat.mul_add_div (by omega), Nat.div_eq_of_lt hd]; rfl
theorem block_mod {m p d : Nat} (hd : d < m) : (m * p + d) % m = d := by
  rw [Nat.mul_add_mod, Nat.mod_eq_of_lt hd]
theorem ds_block {m p d : Nat} (hm : 2 ≤ m) (hd : d < m) : ds m (m * p + d) = d + ds m p := by
  rw [ds_step hm, block_mod hd, block_div hd]
theorem one_figure {m d e s : Nat} (hd : d < m) (he : e < m) (h : (d + s) % m = (e + s) % m) : d = e := by
  rw [← Nat.add_mod_mod, ← Nat.add_mod_mod (m := e)] at h
  have lt := Nat.mod_lt s (show 0 < m by omega)
  generalize s % m = r at *
  rw [mod2 (a := d + r) (by omega), mod2 (a := e + r) (by omega)] at h
  split at h <;> split at h <;> omega
theorem numAt_heap {m h p : Nat} (hm : 2 ≤ m) (hh : h < m) : ds m (numAt m h p) % m = h := by
  obtain ⟨d, hd, e, q⟩ := numAt_form (p := p) hm hh
  rw [e, ds_block hm hd, q]
theorem numAt_place {m h p : Nat} (hm : 2 ≤ m) (hh : h < m) : numAt m h p / m = p := by
  obtain ⟨d, hd, e, q⟩ := numAt_form (p := p) hm hh
  rw [e, block_div hd]
/-- a number by its heap and place -/
theorem numAt_uniq {m n h p : Nat} (hm : 2 ≤ m) (hn : ds m n % m = h) (hp : n / m = p) : n = numAt m h p := by
  have hh : h < m := by rw [← hn]; exact Nat.mod_lt _ (by omega)
  obtain ⟨d, hd, e, q⟩ := numAt_form (p := p) hm hh
  have en : n = m * p + n % m := by rw [← hp]; exact (Nat.div_add_mod n m).symm
  have hd2 : n % m < m := Nat.mod_lt _ (by omega)
  rw [en, ds_block hm hd2, ← q] at hn
  have := one_figure hd2 hd hn
  rw [e, en, this]
theorem numAt_after {m n : Nat} (hm : 2 ≤ m) : n < numAt m (ds m n % m) (n / m + 1) := by
  have hh : ds m n % m < m := Nat.mod_lt _ (by omega)
  have e := numAt_place (p := n / m + 1) hm hh
  apply Classical.byContradiction
  intro z
  have := Nat.div_le_div_right (c := m) (show numAt m (ds m n % m) (n / m + 1) ≤ n by omega)
  omega
theorem numAt_le {m h p : Nat} (hm : 2 ≤ m) (hh : h < m) : numAt m h p < m * (p + 1) := by
  obtain ⟨d, hd, e, q⟩ := numAt_form (p := p) hm hh
  rw [e, Nat.mul_add]; omega
/-- none of the heap stands between -/
theorem between {m n x : Nat} (hm : 2 ≤ m) (h1 : n < x) (h2 : x < numAt m (ds m n % m) (n / m + 1)) : ds m x % m ≠ ds m n % m := by
  intro z
  have hh : ds m n % m < m := Nat.mod_lt _ (by omega)
  have a := Nat.div_le_div_right (c := m) (Nat.le_of_lt h1)
  have b := Nat.div_le_div_right (c := m) (Nat.le_of_lt h2)
  rw [numAt_place hm hh] at b
  by_cases e : x / m = n / m
  · have e1 := numAt_uniq hm z e
    have e2 := numAt_uniq hm (rfl : ds m n % m = ds m n % m) rfl
    omega
  · have e1 := numAt_uniq hm z (show x / m = n / m + 1 by omega)
    omega
end Ep
namespace Wk
open PySem PySem.Spec PyProof.Rows L2 Kx Ep
open PySem.Builtin.Int (intBits)
section
variable {P : Program} {w : World} {K : PySem.W.Frag} {mg : Str → Option Value} {base : Heap} {f : Addr} {fd : FuncData} {T : Tb}
theorem sc__law_whole : FnScope N__law_whole ["_law_number"] (C8.fnScope s__law_whole) := C8.fnScope_by (by decide +kernel)
theorem ok_law_whole (B : Bt mg) (F : C8.Def K mg "_law_whole" s__law_whole f fd) (b : Binds K fd ["_law_number"] []) : C8.Cal P w K mg base 1 "_law_whole" (spWhole K) [] := by
  refine C8.cal0 F b .nil sc__law_whole (fun vs H Q E h => ?_) (fun cdv A outer s H vs Q E hr h => ?_)
  · obtain ⟨x, n, b1, b2, rfl, _⟩ := h
    rfl
  · obtain ⟨x, n, b1, b2, rfl, ty, h1, h2, q⟩ := h
    refine ⟨_, (pss_one (ps_ret (pe_and (pe_callB call_isi (by rfl) B.isinstance (by decide +kernel) (pa_cons (pv 0) (pa_cons (pe_bltn (v := V.ty "int") (u := Value.type "int") (by rfl) B.int (by decide +kernel) rfl) pa_nil))) (pe_one (pe_not (pe_callB call_isi (by rfl) B.isinstance (by decide +kernel) (pa_cons (pv 0) (pa_cons (pe_bltn (v := V.ty "bool") (u := Value.type "bool") (by rfl) B.bool (by decide +kernel) rfl) pa_nil)))))))), ?_⟩
    refine ⟨x, rfl, x, .ty "int", .type n, .type "int", b1, rfl, .ty _, ty, kit_ty h1, b1, rfl, ?_⟩
    cases b1 with
    | false => exact q
    | true => exact ⟨x, rfl, x, .ty "bool", .type n, .type "bool", b2, rfl, .ty _, ty, kit_ty h2, b2, rfl, q⟩
theorem sc__law_rest : FnScope N__law_rest ["_law_heaps", "_law_number"] (C8.fnScope s__law_rest) := C8.fnScope_by (by decide +kernel)
theorem ok_law_rest (F : C8.Def K mg "_law_rest" s__law_rest f fd) (b : Binds K fd ["_law_heaps", "_law_number"] []) : C8.Cal P w K mg base 1 "_law_rest" spRest [] := by
  refine C8.cal0 F b .nil sc__law_rest (fun vs H Q E h => ?_) (fun cdv A outer s H vs Q E hr h => ?_)
  · obtain ⟨m, n, rfl, _⟩ := h
    rfl
  · obtain ⟨m, n, rfl, hm, hl, q⟩ := h
    refine ⟨_, (pss_cons (ps_set (i := 2) sc__law_rest.nd rfl (.inl rfl) pe_int)
(pss_cons (ps_while PassesOwn.never (pt_cmpR op_gt (pv 1) pe_int (nomark _))
(pss_cons (ps_set (i := 2) sc__law_rest.nd rfl (.inl rfl) (pe_op op_add (pv 2) (pe_op op_mod (pv 1) (pv 0))))
(pss_one (ps_set (i := 1) sc__law_rest.nd rfl (.inl rfl) (pe_op op_fdivW (pv 1) (pv 0))))))
(pss_one (ps_ret (pe_op op_mod (pv 2) (pv 0)))))), ?_⟩
    refine ⟨fun fuel σ H' => ∃ a c : Nat, σ = [some (.int m), some (.int c), some (.int a)] ∧ H' = H ∧ a + ds m c = ds m n ∧ c = fuel, ⟨n, 0, n, rfl, rfl, Nat.zero_add _, rfl⟩, fun fuel σ H' hW => ?_⟩
    obtain ⟨a, c, rfl, rfl, ha, rfl⟩ := hW
    refine ⟨_, rfl, c, 0, rfl, rfl, _, rfl, ite2 (fun e => ?_) (fun e => ?_)⟩
    · have hc : 0 < c := by have := of_decide_eq_true e; omega
      refine ⟨fun σ' H'' => σ' = [some (.int m), some (.int ((c / m : Nat))), some (.int ((a + c % m : Nat)))] ∧ H'' = H', fun σ' H'' z => ⟨c / m, Nat.div_lt_self hc (by omega), a + c % m, c / m, z.1, z.2, ?_, rfl⟩, ?_⟩
      · rw [← ha, ds_step (n := c) (by omega)]; omega
      · refine ⟨.int a, rfl, _, rfl, _, rfl, c, m, rfl, rfl, (by show (0 : Int) < m; omega), a, _, rfl, rfl, ?_⟩
        exact ⟨_, rfl, _, rfl, c, m, rfl, rfl, ⟨(by omega), hl⟩, rfl, rfl⟩
    · have hc : c = 0 := by
        apply Classical.byContradiction
        intro z
        exact e (decide_eq_true (by omega))
      subst hc
      rw [ds_zero, Nat.add_zero] at ha
      subst ha
      exact ⟨_, rfl, _, rfl, _, m, rfl, rfl, (by show (0 : Int) < m; omega), q⟩
/-! ### _law_number_right -/
def spNumRight (T : Tb) : Sp := fun vs H Q _ => ∃ m n : Nat, vs = [.int m, .int n] ∧ 2 ≤ m ∧ Nat.log2 m < 9000 ∧ intBits (m : Int) ≤ 9000 ∧ intBits (n : Int) ≤ 9000 ∧ ∀ H', Gr T H H' → Q (.bl true) H'
theorem dint_ne {i j : Int} (h : i = j) : (!decide (V.int i = V.int j)) = false := by rw [h]; simp
theorem dec_ne {i j : Int} (h : i ≠ j) : decide (V.int i = V.int j) = false := decide_eq_false fun z => h (V.int.inj z)
theorem sc__law_number_right : FnScope N__law_number_right ["_law_heaps", "_law_number"] (C8.fnScope s__law_number_right) := C8.fnScope_by (by decide +kernel)
theorem ok_number_right (B : Bt mg) (F : C8.Def K mg "_law_number_right" s__law_number_right f fd) (b : Binds K fd ["_law_heaps", "_law_number"] []) (c_heap_of : C8.Cal P w K mg base 3 "heap_of" spRest []) (c_place_of : C8.Cal P w K mg base 3 "place_of" spPlaceOf []) (c_number_at : C8.Cal P w K mg base 3 "number_at" spNumberAt [])
    (c__law_whole : C8.Cal P w K mg base 1 "_law_whole" (spWhole K) []) (c__law_rest : C8.Cal P w K mg base 1 "_law_rest" spRest []) : C8.Cal P w K mg base 4 "_law_number_right" (spNumRight T) [] := by
  refine C8.cal0 F b .nil sc__law_number_right (fun vs H Q E h => ?_) (fun cdv A outer s H vs Q E hr h => ?_)
  · obtain ⟨m, n, rfl, _⟩ := h
    rfl
  · obtain ⟨m, n, rfl, hm, hl, bm, bn, q⟩ := h
    refine ⟨_, (pss_cons (ps_asg (pe_tup (pa_cons (C8.pe_c c_heap_of hr (by decide) (by rfl) (pa_cons (pv 0) (pa_cons (pv 1) pa_nil))) (pa_cons (C8.pe_c c_place_of hr (by decide) (by rfl) (pa_cons (pv 0) (pa_cons (pv 1) pa_nil))) pa_nil))) (pg_tup rfl (pgs_cons (pg_name (i := 2) sc__law_number_right.nd rfl (Or.inr rfl)) (pgs_cons (pg_name (i := 3) sc__law_number_right.nd rfl (Or.inl rfl)) pgs_nil))))
(C8.pss_cut (ps_if (PW.pt (pw_or (pt_not (pt_val (C8.pe_c c__law_whole hr (by decide) (by rfl) (pa_cons (pv 2) pa_nil)))) (pw_or (pt_not (pt_val (C8.pe_c c__law_whole hr (by decide) (by rfl) (pa_cons (pv 3) pa_nil)))) (pw_or1 (pt_cmpR op_ne (pv 2) (C8.pe_c c__law_rest hr (by decide) (by rfl) (pa_cons (pv 0) (pa_cons (pv 1) pa_nil))) (nomark _))))))
(pss_one (ps_ret pe_bl))
pss_nil)
(C8.pss_cut (ps_if (PW.pt (pw_or (pt_cmpR op_ne (C8.pe_c c_number_at hr (by decide) (by rfl) (pa_cons (pv 0) (pa_cons (pv 2) (pa_cons (pv 3) pa_nil)))) (pv 1) (nomark _)) (pw_or1 (pt_cmpR op_lt (pv 3) pe_int (nomark _)))))
(pss_one (ps_ret pe_bl))
pss_nil)
(pss_cons (ps_set (i := 4) sc__law_number_right.nd rfl (.inl rfl) (C8.pe_c c_number_at hr (by decide) (by rfl) (pa_cons (pv 0) (pa_cons (pv 2) (pa_cons (pe_op op_add (pv 3) pe_int) pa_nil)))))
(C8.pss_cut (ps_if (PW.pt (pw_or (pt_not (pt_val (C8.pe_c c__law_whole hr (by decide) (by rfl) (pa_cons (pv 4) pa_nil)))) (pw_or (pt_cmpR op_ne (C8.pe_c c__law_rest hr (by decide) (by rfl) (pa_cons (pv 0) (pa_cons (pv 4) pa_nil))) (pv 2) (nomark _)) (pw_or1 (pt_cmpR op_ne (C8.pe_c c_place_of hr (by decide) (by rfl) (pa_cons (pv 0) (pa_cons (pv 4) pa_nil))) (pe_op op_add (pv 3) pe_int) (nomark _))))))
(pss_one (ps_ret pe_bl))
pss_nil)
(C8.pss_cut (ps_set (i := 5) sc__law_number_right.nd rfl (.inl rfl) (pe_ifExp (PW.pt (pw_and (pt_cmpR op_lt (pv 0) pe_int (nomark _)) (pw_and1 (pt_cmpR op_lt (pv 1) (pe_op op_pow pe_int pe_int) (nomark _))))) (pe_listRg rfl (by rfl) B.list (prg_2 (by rfl) B.range (pe_op op_add (pv 1) pe_int) (pe_callB (call_min2 rfl) (by rfl) B.min (by decide +kernel) (pa_cons (pv 4) (pa_cons (pe_op op_add (pv 1) pe_int) pa_nil))))) (pe_lst pa_nil)))
(pss_one (ps_ret (pe_and (pe_cmpR op_gt (pv 4) (pv 1) (nomark _)) (pe_one (pe_not (pe_callB (cr_any rfl) (by rfl) B.any (by decide +kernel) (pa_cons (pe_lc (own := [("_law_more", 6)]) (g := gName 6) (tt := tYes) rfl sc__law_number_right.nd (pi_list (pv 5)) (blkOk_by (own := [("_law_more", 6)]) (N := N__law_number_right) (sc := C8.fnScope s__law_number_right) (by decide +kernel)) (fun _ _ _ _ _ => (pg_name (i := 6) sc__law_number_right.nd rfl (Or.inl rfl))) (fun _ _ _ _ _ => pts_nil) (fun _ _ _ _ _ => (pe_cmpR op_eq (C8.pe_c c__law_rest hr (by decide) (by rfl) (pa_cons (pv 0) (pa_cons (pv 6) pa_nil))) (pv 2) (nomark _)))) pa_nil))))))))))))), ?_⟩
    refine ⟨_, rfl, _, rfl, m, n, rfl, hm, hl, _, rfl, _, rfl, m, n, rfl, hm, hl, (by show 2 ≤ sizeLine; decide), fun t nt => ?_⟩
    refine ⟨t, _, rfl, stp upd_same, rfl, _, _, rfl, _, _, rfl, rfl, ?_⟩
    have g1 : Gr T H (upd H t (.tup [.int ((ds m n % m : Nat)), .int ((n / m : Nat))])) := Gr.new nt
    have hh : ds m n % m < m := Nat.mod_lt _ (by omega)
    have un : numAt m (ds m n % m) (n / m) = n := (numAt_uniq hm rfl rfl).symm
    have bp : intBits ((n / m : Nat) : Int) ≤ 9000 := PySem.intBits_le_of_natAbs (by rw [Int.natAbs_natCast, Int.natAbs_natCast]; exact Nat.div_le_self n m) bn
    have bp1 : intBits (((n / m + 1 : Nat)) : Int) ≤ 9001 := by
      have := PySem.intBits_add_le bp (PySem.intBits_le_64 (k := 1) (by decide) (by decide))
      rw [Int.natCast_add]; exact this
    have aH := numAt_heap (p := n / m + 1) hm hh
    have aP := numAt_place (p := n / m + 1) hm hh
    have aA := numAt_after (n := n) hm
    have bt := fun x => between (n := n) (x := x) hm
    generalize eh : ds m n % m = h at *
    generalize n / m = p at *
    generalize H1e : upd H t (.tup [.int (h : Nat), .int (p : Nat)]) = H1 at *
    generalize ea : numAt m h (p + 1) = a at *
    -- if not whole(heap) or not whole(place) or heap != rest
    refine ⟨fun σ' H' => σ' = [some (.int m), some (.int n), some (.int h), some (.int p), Option.none, Option.none, Option.none] ∧ H1 = H', ?_, fun σ' H' z => ?_⟩
    · refine ⟨_, rfl, .int h, "int", true, false, rfl, .base (.int h), kI1, kI2, true, rfl, _, rfl, .int p, "int", true, false, rfl, .base (.int p), kI1, kI2, true, rfl, _, rfl, _, rfl, _, rfl, m, n, rfl, hm, hl, rfl, _, rfl, ?_⟩
      rw [dint_ne (by rw [eh])]
      exact ⟨rfl, rfl⟩
    obtain ⟨rfl, rfl⟩ := z
    -- if number_at(..) != number or place < 0
    refine ⟨fun σ' H' => σ' = [some (.int m), some (.int n), some (.int h), some (.int p), Option.none, Option.none, Option.none] ∧ H1 = H', ?_, fun σ' H' z => ?_⟩
    · refine ⟨_, rfl, _, rfl, _, rfl, m, h, p, rfl, hm, hl, hh, Nat.le_trans bm (by decide), Nat.le_trans bp (by decide), _, rfl, rfl, _, rfl, ?_⟩
      rw [dint_ne (by rw [un])]
      refine ⟨_, rfl, p, 0, rfl, rfl, _, rfl, ?_⟩
      rw [decide_eq_false (by omega)]
      exact ⟨rfl, rfl⟩
    obtain ⟨rfl, rfl⟩ := z
    -- after = ..
    refine ⟨_, rfl, _, rfl, _, rfl, p, 1, rfl, rfl, m, h, p + 1, rfl, hm, hl, hh, Nat.le_trans bm (by decide), Nat.le_trans bp1 (by decide), ?_⟩
    rw [ea]
    refine ⟨fun σ' H' => σ' = [some (.int m), some (.int n), some (.int h), some (.int p), some (.int a), Option.none, Option.none] ∧ H1 = H', ?_, fun σ' H' z => ?_⟩
    · refine ⟨_, rfl, .int a, "int", true, false, rfl, .base (.int a), kI1, kI2, true, rfl, _, rfl, _, rfl, m, a, rfl, hm, hl, _, rfl, rfl, _, rfl, ?_⟩
      rw [dint_ne (by rw [aH])]
      refine ⟨_, rfl, _, rfl, m, a, rfl, hm, hl, _, rfl, p, 1, rfl, rfl, rfl, _, rfl, ?_⟩
      rw [dint_ne (by rw [aP]; omega)]
      exact ⟨rfl, rfl⟩
    obtain ⟨rfl, rfl⟩ := z
    -- between = ..
    refine ⟨fun σ' H' => ∃ l, ∃ L : List Nat, σ' = [some (.int m), some (.int n), some (.int h), some (.int p), some (.int a), some (.ref l), Option.none] ∧ Gr T H1 H' ∧ H' l = some (.lst (L.map fun x : Nat => V.int x)) ∧ L.length ≤ 100 ∧ ∀ x ∈ L, n < x ∧ x < a, ?_, fun σ' H' z => ?_⟩
    · skip
      refine ⟨_, rfl, m, 13, rfl, rfl, _, rfl, ite2 (fun _ => ?_) (fun _ => ⟨Nat.zero_le _, fun l nl => ⟨l, [], rfl, Gr.new nl, upd_same, by decide, fun _ h => by simp at h⟩⟩)⟩
      refine ⟨_, rfl, 10, 9, rfl, rfl, ⟨by decide, by decide, by decide⟩, n, (10 : Int) ^ (9 : Int).toNat, rfl, rfl, decide ((n : Int) < (10 : Int) ^ (9 : Int).toNat), rfl, ?_⟩
      generalize eM : (10 : Int) ^ (9 : Int).toNat = M
      refine ite2 (fun e9 => ?_) (fun _ => ⟨Nat.zero_le _, fun l nl => ⟨l, [], rfl, Gr.new nl, upd_same, by decide, fun _ h => by simp at h⟩⟩)
      have e9 : (n : Int) < M := of_decide_eq_true e9
      have n9 : n < 1000000000 := by
        have : (10 : Int) ^ (9 : Int).toNat = 1000000000 := by decide
        omega
      refine ⟨_, rfl, n, 1, rfl, rfl, _, rfl, _, rfl, n, 30, rfl, rfl, a, _, rfl, _, _, rfl, rfl, ?_⟩
      have hb : (if (n : Int) + 30 < a then (n : Int) + 30 else a) ≤ n + 30 ∧ (if (n : Int) + 30 < a then (n : Int) + 30 else a) ≤ a ∧ (n : Int) < (if (n : Int) + 30 < a then (n : Int) + 30 else a) := by split <;> omega
      generalize (if (n : Int) + 30 < a then (n : Int) + 30 else a) = z at hb ⊢
      refine ⟨⟨by omega, by omega, by omega, by omega, by omega⟩, fun l nl => ?_⟩
      refine ⟨l, (List.range (z - ((n : Int) + 1)).toNat).map (fun i => n + 1 + i), rfl, Gr.new nl, ?_, by rw [List.length_map, List.length_range]; omega, fun x hx => ?_⟩
      · rw [upd_same, List.map_map]
        refine congrArg (fun q => some (HO.lst q)) ?_
        unfold rgV
        refine List.map_congr_left fun i _ => ?_
        show V.int _ = V.int _
        congr 1
      · obtain ⟨i, hi, rfl⟩ := List.mem_map.mp hx
        have := List.mem_range.mp hi
        omega
    obtain ⟨l, L, rfl, g2, el, hL, hx⟩ := z
    -- return after > number and not any(..)
    refine ⟨_, rfl, _, rfl, a, n, rfl, rfl, _, rfl, ?_⟩
    rw [decide_eq_true (by omega)]
    refine ⟨.ref l, rfl, l, rfl, ⟨_, sq el⟩, lc_map (T := T) (i := 6) (fun _ => .bl false) (sq el) (by rw [List.length_map]; omega) (fun x H3 hx3 g Q' q' => ?_) fun r H3 nr g er => ?_⟩
    · obtain ⟨y, hy, rfl⟩ := List.mem_map.mp hx3
      obtain ⟨y1, y2⟩ := hx y hy
      refine ⟨_, rfl, _, rfl, m, y, rfl, hm, hl, _, rfl, rfl, ?_⟩
      rw [dec_ne (by have := bt y y1 y2; omega)]
      exact q' H3 (Gr.refl _)
    · refine ⟨r, L.map fun _ => false, rfl, sq (by rw [er, List.map_map, List.map_map]; rfl), false, ?_, q H3 ((g1.trans g2).trans g)⟩
      show V.bl ((L.map fun _ => false).any id) = V.bl false
      congr 1
      rw [List.any_map]
      exact List.any_eq_false.mpr fun _ _ => by simp
end
end Wk
namespace Ep
theorem zero_in (m f : Nat) (hm : 2 ≤ m) : (0 : Int) ∈ heap m f 0 := by
  unfold heap
  refine List.mem_map.mpr ⟨0, List.mem_filter.mpr ⟨List.mem_range.mpr (Nat.pow_pos (by omega)), ?_⟩, rfl⟩
  rw [ds_zero]; simp
theorem zero_out {m f r : Nat} (hr : 0 < r) : (0 : Int) ∉ heap m f r := by
  unfold heap
  intro h
  obtain ⟨n, h1, h2⟩ := List.mem_map.mp h
  obtain ⟨_, h4⟩ := List.mem_filter.mp h1
  have : n = 0 := by omega
  rw [this, ds_zero] at h4
  have := of_decide_eq_true h4
  simp at this
  omega
theorem heap_unlike {m f r : Nat} (hm : 2 ≤ m) (hr : 0 < r) : ¬ (heap m f 0).Perm (heap m f r) := fun p => zero_out hr (p.mem_iff.mp (zero_in m f hm))
theorem heap_least {m f k r : Nat} (hm : 2 ≤ m) (hr : r < m) (h : First (heap m f 0) (heap m f r) k) : f ≤ k := by
  apply Classical.byContradiction
  intro z
  exact h.ne (heap_below hm (by omega) (by omega) hr)
end Ep
namespace Wk
open PySem PySem.Spec PyProof.Rows L2 Kx Ep
open PySem.Builtin.Int (intBits)
theorem heap_bits {m f r : Nat} (h : m ^ f ≤ 1000) : Bits 100000 (heap m f r) := fun z hz => by
  unfold heap at hz
  obtain ⟨n, h1, rfl⟩ := List.mem_map.mp hz
  have := List.mem_range.mp (List.mem_filter.mp h1).1
  exact Nat.le_trans (PySem.intBits_le_64 (by omega) (by omega)) (by decide)
theorem heap_len {m f r : Nat} (h : m ^ f ≤ 1000) : (heap m f r).length ≤ 1000 := Nat.le_trans (upto_len m r (m ^ f)) h
section
variable {P : Program} {w : World} {K : PySem.W.Frag} {mg : Str → Option Value} {base : Heap} {f : Addr} {fd : FuncData} {T : Tb} {CU : Addr}
def spDealtRight (T : Tb) : Sp := fun vs H Q _ => ∃ m f : Nat, vs = [.int m, .int f] ∧ 2 ≤ m ∧ m ≤ 12 ∧ m ^ f ≤ 1000 ∧ ∀ H', Gr T H H' → Q (.bl true) H'
/-- the heaps of m, f as lists, from the a-th on, b of them -/
def hl (m f : Nat) : List (List Int) := (List.range m).map (heap m f)
theorem hl_at {m f r : Nat} {l : List Int} (h : (hl m f)[r]? = some l) : l = heap m f r ∧ r < m := by
  unfold hl at h
  rw [List.getElem?_map] at h
  by_cases hr : r < m
  · rw [List.getElem?_range hr] at h
    exact ⟨(Option.some.inj h).symm, hr⟩
  · rw [List.getElem?_eq_none (by rw [List.length_range]; omega)] at h
    cases h
theorem hl_len (m f : Nat) : (hl m f).length = m := by unfold hl; rw [List.length_map, List.length_range]
/-- a part of the lists as -/
theorem part_at {α : Type} {l : List α} {c d i : Nat} {x : α} (h : ((l.drop c).take d)[i]? = some x) : l[c + i]? = some x ∧ i < d := by
  by_cases hi : i < d
  · rw [List.getElem?_take_of_lt hi, List.getElem?_drop] at h
    exact ⟨h, hi⟩
  · rw [List.getElem?_eq_none (by rw [List.length_take]; omega)] at h
    cases h
theorem rest_mem {as : List Addr} {v : V} (h : v ∈ (as.map V.ref).drop 1) : ∃ (r : Nat) (a : Addr), 0 < r ∧ r < as.length ∧ as[r]? = some a ∧ v = .ref a := by
  obtain ⟨j, hj, e⟩ := List.getElem_of_mem h
  rw [List.length_drop, List.length_map] at hj
  rw [List.getElem_drop, List.getElem_map] at e
  exact ⟨1 + j, _, by omega, by omega, List.getElem?_eq_getElem (by omega), e.symm⟩
theorem sc__law_dealt_right : FnScope N__law_dealt_right ["_law_heaps", "_law_figures"] (C8.fnScope s__law_dealt_right) := C8.fnScope_by (by decide +kernel)
theorem ok_dealt_right (B : Bt mg) (U : UCl K mg CU) (iU : C8.InsC K CU) (F : C8.Def K mg "_law_dealt_right" s__law_dealt_right f fd) (b : Binds K fd ["_law_heaps", "_law_figures"] []) (c_dealt : C8.Cal P w K mg base 3 "dealt" (spDealt T) []) (c__law_rest : C8.Cal P w K mg base 1 "_law_rest" spRest [])
    (c_alike : C8.Cal P w K mg base 4 "alike" (spAlikeU T K CU) []) : C8.Cal P w K mg base 5 "_law_dealt_right" (spDealtRight T) [] := by
  have g_Unlike := U.mgC
  refine C8.cal0 F b .nil sc__law_dealt_right (fun vs H Q E h => ?_) (fun cdv A outer s H vs Q E hr h => ?_)
  · obtain ⟨m, f, rfl, _⟩ := h
    rfl
  · obtain ⟨m, f, rfl, hm, hm2, hmf, q⟩ := h
    have hf := few_figures hm hmf
    have small : ∀ i, i ≤ f → m ^ i ≤ 1000 := fun i hi => Nat.le_trans (Nat.pow_le_pow_right (by omega) hi) hmf
    refine ⟨_, (pss_cons (ps_for PassesOwn.never rfl (pi_range1 rfl B.range (pa_cons pe_int pa_nil)) (pg_name (i := 2) sc__law_dealt_right.nd rfl (Or.inl rfl))
(pss_cons (ps_par (i := 3) (j := 4) rfl sc__law_dealt_right.nd rfl rfl (by decide) rfl rfl (pa_cons (C8.pe_c c_dealt hr (by decide) (by rfl) (pa_cons (pv 0) (pa_cons (pv 1) pa_nil))) (pa_cons pe_int pa_nil)) (by rfl))
(pss_cons (ps_for PassesOwn.never rfl (pi_range1 rfl B.range (pa_cons (pv 1) pa_nil)) (pg_name (i := 5) sc__law_dealt_right.nd rfl (Or.inl rfl))
(pss_one (ps_set (i := 4) sc__law_dealt_right.nd rfl (.inl rfl) (pe_op op_mulB (pv 4) (pv 0)))))
(pss_cons (ps_setLc (i := 6) (own := [("_law_heap", 8)]) (g := gName 8) (tt := tYes) rfl sc__law_dealt_right.nd rfl rfl (sw_true rfl rfl rfl (by decide +kernel)) (pi_range1 rfl B.range (pa_cons (pv 0) pa_nil)) (blkOk_by (own := [("_law_heap", 8)]) (N := N__law_dealt_right) (sc := C8.fnScope s__law_dealt_right) (by decide +kernel)) (fun _ _ _ _ _ => (pg_name (i := 8) sc__law_dealt_right.nd rfl (Or.inl rfl))) (fun _ _ _ _ _ => pts_nil) (fun _ _ _ _ _ => (pe_lst pa_nil)))
(pss_cons (ps_for PassesOwn.never rfl (pi_range1 rfl B.range (pa_cons (pv 4) pa_nil)) (pg_name (i := 7) sc__law_dealt_right.nd rfl (Or.inl rfl))
(pss_one (ps_expr (pe_bm PySem.F.plainAttrs_list PySem.F.slot_list_append PySem.F.type_list_append mt_append (pe_ix ix_list (pv 6) (C8.pe_c c__law_rest hr (by decide) (by rfl) (pa_cons (pv 0) (pa_cons (pv 7) pa_nil))) (fun _ _ => rfl)) (pa_cons (pv 7) pa_nil)))))
(C8.pss_cut (ps_if (PW.pt (pw_or (pt_cmpR (op_neD hr.units) (pv 3) (pv 6) (nomark _)) (pw_or1 (pt_not (pt_val (pe_callB (cr_all rfl) (by rfl) B.all (by decide +kernel) (pa_cons (pe_lc (own := [("_law_heap", 8)]) (g := gName 8) (tt := tYes) rfl sc__law_dealt_right.nd (pi_list (pv 3)) (blkOk_by (own := [("_law_heap", 8)]) (N := N__law_dealt_right) (sc := C8.fnScope s__law_dealt_right) (by decide +kernel)) (fun _ _ _ _ _ => (pg_name (i := 8) sc__law_dealt_right.nd rfl (Or.inl rfl))) (fun _ _ _ _ _ => pts_nil) (fun _ _ _ _ _ => (pe_callB (call_isi_at (K := K) rfl) (by rfl) B.isinstance (by decide +kernel) (pa_cons (pv 8) (pa_cons (pe_bltn (v := V.ty "list") (u := Value.type "list") (by rfl) B.list (by decide +kernel) rfl) pa_nil))))) pa_nil)))))))
(pss_one (ps_ret pe_bl))
pss_nil)
(pss_cons (ps_for PassesOwn.never rfl (pi_list (pe_ifExp (pt_cmpR op_lt (pv 4) pe_int (nomark _)) (pe_slice sl_list (pv 3) (po_some pe_int) po_none) (pe_slice sl_list (pv 3) (po_some pe_int) (po_some pe_int)))) (pg_name (i := 8) sc__law_dealt_right.nd rfl (Or.inl rfl))
(pss_cons (ps_set (i := 9) sc__law_dealt_right.nd rfl (.inl rfl) (C8.pe_c c_alike hr (by decide) (by rfl) (pa_cons (pe_ix ix_list (pv 3) pe_int (fun _ _ => rfl)) (pa_cons (pv 8) pa_nil))))
(pss_one (ps_if (PW.pt (pw_or (pt_not (pt_val (pe_callB call_isi (by rfl) B.isinstance (by decide +kernel) (pa_cons (pv 9) (pa_cons (pe_glob (v := V.ref CU) (by rfl) g_Unlike rfl) pa_nil))))) (pw_or1 (pt_cmpR op_lt (pe_fld (pv 9) rfl) (pv 1) (nomark _)))))
(pss_one (ps_ret pe_bl))
pss_nil))))
(C8.pss_cut (ps_if (pt_cmpR op_eq (pv 0) pe_int (nomark _))
(pss_cons (ps_set (i := 10) sc__law_dealt_right.nd rfl (.inl rfl) pe_int)
(pss_cons (ps_for PassesOwn.never rfl (pi_range2 rfl B.range (pa_cons pe_int (pa_cons (pe_op op_add (pv 1) pe_int) pa_nil))) (pg_name (i := 5) sc__law_dealt_right.nd rfl (Or.inl rfl))
(pss_one (ps_set (i := 10) sc__law_dealt_right.nd rfl (.inl rfl) (pe_op op_mulB (pe_op op_mulB (pv 10) (pv 5)) (pe_un un_neg (pe_op op_shl pe_int (pe_op op_sub (pv 5) pe_int)))))))
(pss_cons (ps_set (i := 9) sc__law_dealt_right.nd rfl (.inl rfl) (C8.pe_c c_alike hr (by decide) (by rfl) (pa_cons (pe_ix ix_list (pv 3) pe_int (fun _ _ => rfl)) (pa_cons (pe_ix ix_list (pv 3) pe_int (fun _ _ => rfl)) pa_nil))))
(pss_one (ps_if (PW.pt (pw_or (pt_cmpR op_ne (pe_fld (pv 9) rfl) (pv 1) (nomark _)) (pw_or1 (pt_cmpR op_ne (pe_fld (pv 9) rfl) (pv 10) (nomark _)))))
(pss_one (ps_ret pe_bl))
pss_nil)))))
pss_nil)
(pss_cons (ps_expr (pe_bm PySem.F.plainAttrs_list PySem.F.slot_list_append PySem.F.type_list_append mt_append (pe_ix ix_list (pv 3) pe_int (fun _ _ => rfl)) (pa_cons pe_int pa_nil)))
(pss_cons (ps_if (pt_cmpR (op_neD hr.units) (pe_slice sl_list (pv 3) (po_some pe_int) po_none) (pe_slice sl_list (pv 6) (po_some pe_int) po_none) (nomark _))
(pss_one (ps_ret pe_bl))
pss_nil)
(pss_cons (ps_expr (pe_bm PySem.F.plainAttrs_list PySem.F.slot_list_append PySem.F.type_list_append mt_append (pe_ix ix_list (pv 3) (pe_un un_neg pe_int) (fun _ _ => rfl)) (pa_cons pe_int pa_nil)))
(pss_cons (ps_if (pt_cmpR (op_neD hr.units) (pe_slice sl_list (pv 3) (po_some pe_int) (po_some (pe_un un_neg pe_int))) (pe_slice sl_list (pv 6) (po_some pe_int) (po_some (pe_un un_neg pe_int))) (nomark _))
(pss_one (ps_ret pe_bl))
pss_nil)
(pss_one (ps_expr (pe_bm PySem.F.plainAttrs_list PySem.F.slot_list_append PySem.F.type_list_append mt_append (pv 3) (pa_cons (pe_lst pa_nil) pa_nil))))))))))))))))
(pss_one (ps_ret pe_bl))), ?_⟩
    refine ⟨2, rfl, by decide, by decide, for_range (n := 2) (fun i σ' H' => ∃ y2 y3 y4 y5 y6 y7 y9 y8 y10, σ' = [some (.int m), some (.int f), y2, y3, y4, y5, y6, y7, y8, y9, y10] ∧ Gr T H H')
      ⟨_, _, _, _, _, _, _, _, _, rfl, Gr.refl _⟩ (fun i σ' H0 hi hW => ?_) fun σ' H' hW => ?_⟩
    rotate_left
    · obtain ⟨_, _, _, _, _, _, _, _, _, rfl, g⟩ := hW
      exact q H' g
    obtain ⟨y2, y3, y4, y5, y6, y7, y9, y8, y10, rfl, g⟩ := hW
    -- found, many = dealt(heaps, figures), 1
    refine ⟨_, rfl, _, rfl, m, f, rfl, hm, by omega, hmf, fun D as H1 hl1 fr1 e1 => ⟨_, _, rfl, ?_⟩⟩
    -- for figure in range(figures): many = many * heaps
    refine ⟨_, rfl, f, rfl, by omega, by omega, for_range (n := f) (fun j σ' H'' => ∃ y5, σ' = [some (.int m), some (.int f), some (.int (0 + i)), some (.ref D), some (.int ((m ^ j : Nat))), y5, y6, y7, y8, y9, y10] ∧ H1 = H'') ⟨_, rfl, rfl⟩ (fun j σ' H'' hj hW => ?_) fun σ' H'' hW => ?_⟩
    · obtain ⟨y5, rfl, rfl⟩ := hW
      have ep : (((m ^ j : Nat) : Int) * m) = ((m ^ (j + 1) : Nat) : Int) := by rw [Nat.pow_succ, Int.natCast_mul]
      refine ⟨_, rfl, _, rfl, (m ^ j : Nat), m, rfl, rfl, mul_small (by omega) (by omega), ?_⟩
      exact ⟨some (.int (0 + j)), by rw [← ep]; rfl, rfl⟩
    obtain ⟨y5, rfl, rfl⟩ := hW
    -- due = [[] for heap in range(heaps)]
    refine ⟨_, rfl, m, rfl, by omega, by omega, lc_empties (T := T) (i := 8) (n := m) (lo := 0) (by omega) fun D2 as2 H2 hl2 fr2 em2 => ?_⟩
    -- for number in range(many): due[rest(heaps, number)].append(number)
    refine ⟨_, rfl, (m ^ f : Nat), rfl, by omega, by omega, for_range (n := m ^ f) (fun j σ' H' => ∃ y7, σ' = [some (.int m), some (.int f), some (.int (0 + i)), some (.ref D), some (.int ((m ^ f : Nat))), y5, some (.ref D2), y7, y8, y9, y10] ∧ Fresh T H1 H' D2 as2 ∧ ∀ (r : Nat) a, as2[r]? = some a → H' a = some (.lst ((upto m j r).map V.int)))
      ⟨_, rfl, fr2, fun r a ha => em2 a (List.mem_of_getElem? ha)⟩ (fun j σ' H' hj hW => ?_) fun σ' H3 hW => ?_⟩
    · obtain ⟨y7, rfl, fr, e⟩ := hW
      rw [Int.zero_add]
      have hr : ds m j % m < as2.length := by rw [hl2]; exact Nat.mod_lt _ (by omega)
      have ha : as2[ds m j % m]? = some as2[ds m j % m] := List.getElem?_eq_getElem hr
      obtain ⟨frn, en⟩ := put_next hm fr hl2 ha e
      have ea := e _ _ ha
      refine ⟨.ref D2, rfl, _, rfl, _, rfl, m, j, rfl, hm, log_small (by omega), D2, _, ((ds m j % m : Nat) : Int), .ref as2[ds m j % m], rfl, rfl, sq fr.lst, atI_nat (by rw [List.getElem?_map, ha]; rfl), .inl ⟨rfl, _, sq ea⟩, .int j, rfl, _, _, _, rfl, rfl, ea, szs (by rw [List.length_map]; have := upto_len m (ds m j % m) j; omega), ?_⟩
      exact ⟨_, rfl, frn, en⟩
    obtain ⟨y7, rfl, fr3, e3⟩ := hW
    have e3 : ∀ (r : Nat) a, as2[r]? = some a → H3 a = some (.lst ((heap m f r).map V.int)) := e3
    have g13 := fr3.gr
    have fr13 := fr1.grow g13
    have e13 : ∀ (r : Nat) a, as[r]? = some a → H3 a = some (.lst ((heap m f r).map V.int)) := fun r a ha => g13.l (e1 r a ha)
    -- none of found's lists is one of due's
    have apart : ∀ a ∈ as, ∀ c ∈ as2, a ≠ c := fun a ha c hc z => by
      obtain ⟨r, hr, rfl⟩ := List.getElem_of_mem ha
      have h1 := e1 r _ (List.getElem?_eq_getElem hr)
      rw [z, fr3.new c hc] at h1
      cases h1
    have nDD : D ≠ D2 := ne_of_none fr1.lst fr3.nD
    have nD2 : ∀ c ∈ as2, D ≠ c := fun c hc => ne_of_none fr1.lst (fr3.new c hc)
    have nD1 : ∀ c ∈ as, D2 ≠ c := fun c hc z => by
      obtain ⟨r, hr, rfl⟩ := List.getElem_of_mem hc
      have h1 := e1 r _ (List.getElem?_eq_getElem hr)
      rw [← z, fr3.nD] at h1
      cases h1
    -- if found != due or not all(..)
    refine ⟨fun σ' H' => σ' = [some (.int m), some (.int f), some (.int (0 + i)), some (.ref D), some (.int ((m ^ f : Nat))), y5, some (.ref D2), y7, y8, y9, y10] ∧ Gr T H3 H', ?_, fun σ' H4 z => ?_⟩
    · refine ⟨_, rfl, _, rfl, dL (hl m f), dL (hl m f), dp_ll (sq fr13.lst) (by rw [hl_len, hl1]) (fun r a l h1 h2 => ?_), dp_ll (sq fr3.lst) (by rw [hl_len, hl2]) (fun r a l h1 h2 => ?_), sh_dL _, sh_dL _, _, rfl, ?_⟩
      · rw [(hl_at h2).1]; exact sq (e13 r a h1)
      · rw [(hl_at h2).1]; exact sq (e3 r a h1)
      rw [eqv_dL, decide_eq_true rfl]
      refine ⟨_, rfl, D, rfl, ⟨_, sq fr13.lst⟩, lc_map (T := T) (i := 8) (fun _ => .bl true) (sq fr13.lst) (by rw [List.length_map]; omega) (fun x H4 hx g Q' q' => ?_) fun p H4 np g4 ep => ?_⟩
      · obtain ⟨a, ha, rfl⟩ := List.mem_map.mp hx
        obtain ⟨r, hr, rfl⟩ := List.getElem_of_mem ha
        exact ⟨_, rfl, .ref as[r], .ty "list", .type "list", .type "list", true, rfl, .ty _, tyx_list (g.sq (sq (e13 r _ (List.getElem?_eq_getElem hr)))), kit_ty (by decide +kernel), q' H4 (Gr.refl _)⟩
      · refine ⟨p, as.map fun _ => true, rfl, sq (by rw [ep, List.map_map, List.map_map]; rfl), true, ?_, rfl, g4⟩
        show V.bl ((as.map fun _ => true).all id) = V.bl true
        congr 1
        rw [List.all_map]
        exact List.all_eq_true.mpr fun _ _ => rfl
    obtain ⟨rfl, g34⟩ := z
    have fr14 := fr13.grow g34
    have e14 : ∀ (r : Nat) a, as[r]? = some a → H4 a = some (.lst ((heap m f r).map V.int)) := fun r a ha => g34.l (e13 r a ha)
    have h0 : 0 < as.length := by omega
    have e0 : as[0]? = some as[0] := List.getElem?_eq_getElem h0
    -- for heap in ..: told = alike(found[0], heap)
    refine tIf_ev (fun v H5 => ∃ p xs', v = .ref p ∧ Gr T H4 H5 ∧ H5 p = some (.lst xs') ∧ xs'.length ≤ m ∧ ∀ v ∈ xs', ∃ (r : Nat) (a : Addr), 0 < r ∧ r < m ∧ as[r]? = some a ∧ v = .ref a) (fun Q q => ⟨_, rfl, (m ^ f : Nat), 130, rfl, rfl, _, rfl, q _⟩) (fun Q q => ?_) (fun Q q => ?_) fun v H5 hP => ?_
    · refine ⟨_, rfl, 1, rfl, D, _, rfl, sq fr14.lst, fun p np => q _ _ ⟨p, _, rfl, Gr.new np, upd_same, ?_, fun v hv => ?_⟩⟩
      · rw [cut_1, List.length_drop, List.length_map]; omega
      · rw [cut_1] at hv
        obtain ⟨r, a, h1, h2, h3, h4⟩ := rest_mem hv
        exact ⟨r, a, h1, by omega, h3, h4⟩
    · refine ⟨_, rfl, 1, rfl, 2, rfl, D, _, rfl, sq fr14.lst, fun p np => q _ _ ⟨p, _, rfl, Gr.new np, upd_same, ?_, fun v hv => ?_⟩⟩
      · rw [cut_12, List.length_drop, List.length_take, List.length_map]; omega
      · rw [cut_12, List.drop_take] at hv
        obtain ⟨r, a, h1, h2, h3, h4⟩ := rest_mem (List.mem_of_mem_take hv)
        exact ⟨r, a, h1, by omega, h3, h4⟩
    obtain ⟨p, xs', rfl, g45, ep, hxl, good⟩ := hP
    refine ⟨p, rfl, ⟨_, sq ep⟩, for_list (K := K) (a := p) (xs := xs') (fun j σ' H' => ∃ y8 y9, σ' = [some (.int m), some (.int f), some (.int (0 + i)), some (.ref D), some (.int ((m ^ f : Nat))), y5, some (.ref D2), y7, y8, y9, y10] ∧ Gr T H5 H') ⟨_, _, rfl, Gr.refl _⟩
      (fun j σ' H' _ hW => ?_) (fun j x σ' H6 hx hW => ?_) fun σ' H6 hW => ?_⟩
    · obtain ⟨_, _, _, g⟩ := hW
      exact sq (g.l ep)
    · obtain ⟨y8, y9, rfl, g56⟩ := hW
      obtain ⟨r, a, hr0, hrm, ha, rfl⟩ := good x (List.mem_of_getElem? hx)
      have g46 := g45.trans g56
      refine ⟨_, rfl, D, _, 0, .ref as[0], rfl, rfl, sq (g46.l fr14.lst), atI_nat (j := 0) (by rw [List.getElem?_map, e0]; rfl), _, rfl, as[0], a, heap m f 0, heap m f r, rfl, sq (g46.l (e14 0 _ e0)), sq (g46.l (e14 r a ha)), heap_len hmf, heap_len hmf, heap_bits hmf, heap_bits hmf, heap_unlike hm hr0, fun k t dx H7 hk _ g67 et => ?_⟩
      have kf := heap_least hm hrm hk
      refine ⟨_, rfl, .ref t, .ref CU, .ref CU, .ref CU, true, rfl, .own CU, .base (.ins et iU.cl iU.ha iU.hn iU.htk iU.hm), iU.me, true, rfl, _, rfl, t, CU, dx, _, .int k, rfl, et, U.cl, U.nP, uf_power _ _, _, rfl, k, f, rfl, rfl, _, rfl, ?_⟩
      rw [decide_eq_false (by omega)]
      exact ⟨_, _, rfl, g56.trans g67⟩
    obtain ⟨y8', y9', rfl, g56⟩ := hW
    have g46 := g45.trans g56
    -- if heaps == 2
    refine ⟨fun σ' H' => ∃ y5 y9 y10, σ' = [some (.int m), some (.int f), some (.int (0 + i)), some (.ref D), some (.int ((m ^ f : Nat))), y5, some (.ref D2), y7, y8', y9, y10] ∧ Gr T H6 H', ?_, fun σ' H7 z => ?_⟩
    · refine ⟨_, rfl, rfl, _, rfl, ite2 (fun e2 => ?_) (fun _ => ⟨_, _, _, rfl, Gr.refl _⟩)⟩
      have m2 : m = 2 := by
        have := V.int.inj (of_decide_eq_true e2)
        omega
      subst m2
      refine ⟨_, rfl, f, 1, rfl, rfl, 1, (f : Int) + 1, rfl, ⟨by decide, by decide, by omega, by omega⟩, ?_⟩
      rw [show ((f : Int) + 1 - 1).toNat = f by omega]
      refine for_range (lo := 1) (n := f) (fun j σ' H' => ∃ y5, σ' = [some (.int (2 : Nat)), some (.int f), some (.int (0 + i)), some (.ref D), some (.int ((2 ^ f : Nat))), y5, some (.ref D2), y7, y8', y9', some (.int (due j))] ∧ H6 = H') ⟨_, rfl, rfl⟩ (fun j σ' H' hj hW => ?_) fun σ' H' hW => ?_
      · obtain ⟨y5, rfl, rfl⟩ := hW
        have p9 : (2 : Int) ^ j ≤ 512 := by
          have : (2 : Nat) ^ j ≤ 2 ^ 9 := Nat.pow_le_pow_right (by decide) (by omega)
          have e : ((2 ^ j : Nat) : Int) = (2 : Int) ^ j := by rw [Int.natCast_pow]; rfl
          omega
        have p0 : (0 : Int) ≤ (2 : Int) ^ j := by
          have e : ((2 ^ j : Nat) : Int) = (2 : Int) ^ j := by rw [Int.natCast_pow]; rfl
          rw [← e]
          exact Int.natCast_nonneg _
        have tn : (((1 : Int) + j) - 1).toNat = j := by omega
        refine ⟨_, rfl, _, rfl, due j, 1 + j, rfl, rfl, mul_small (by omega) (by omega), _, rfl, 1 + j, 1, rfl, rfl, 1, (1 + j) - 1, rfl, rfl, ⟨by omega, by omega, by decide⟩, 1 * 2 ^ (((1 : Int) + j) - 1).toNat, rfl, due j * (1 + j), -(1 * 2 ^ (((1 : Int) + j) - 1).toNat), rfl, rfl, mul_small (by rw [tn]; omega) (by rw [tn]; omega), ?_⟩
        refine ⟨some (.int (1 + j)), ?_, rfl⟩
        rw [tn]
        have : due j * (1 + (j : Int)) * -(1 * 2 ^ j) = due (j + 1) := by
          show _ = due j * (-((j : Int) + 1) * 2 ^ j)
          grind
        rw [← this]; rfl
      · obtain ⟨y5, rfl, rfl⟩ := hW
        have e1' : as[1]? = some as[1] := List.getElem?_eq_getElem (by omega)
        refine ⟨_, rfl, D, _, 0, .ref as[0], rfl, rfl, sq (g46.l fr14.lst), atI_nat (j := 0) (by rw [List.getElem?_map, e0]; rfl), _, rfl, D, _, 1, .ref as[1], rfl, rfl, sq (g46.l fr14.lst), atI_nat (j := 1) (by rw [List.getElem?_map, e1']; rfl), as[0], as[1], heap 2 f 0, heap 2 f 1, rfl, sq (g46.l (e14 0 _ e0)), sq (g46.l (e14 1 _ e1')), heap_len hmf, heap_len hmf, heap_bits hmf, heap_bits hmf, heap_unlike hm (by decide), fun k t dx H7 hk _ g67 et => ?_⟩
        have kf := hk.uniq (two_first f)
        subst kf
        rw [heap_two] at et
        refine ⟨_, rfl, t, CU, dx, _, .int k, rfl, et, U.cl, U.nP, uf_power _ _, _, rfl, rfl, _, rfl, ?_⟩
        rw [dint_ne rfl]
        refine ⟨_, rfl, t, CU, dx, _, _, rfl, et, U.cl, U.nM, uf_more _ _, _, rfl, rfl, _, rfl, ?_⟩
        rw [dint_ne rfl]
        exact ⟨_, _, _, rfl, g67⟩
    obtain ⟨y5', y9'', y10', rfl, g67⟩ := z
    have g47 := g46.trans g67
    have fr17 := fr14.grow g47
    have e17 : ∀ (r : Nat) a, as[r]? = some a → H7 a = some (.lst ((heap m f r).map V.int)) := fun r a ha => g47.l (e14 r a ha)
    have l27 := (g34.trans g47).l fr3.lst
    have e27 : ∀ (r : Nat) a, as2[r]? = some a → H7 a = some (.lst ((heap m f r).map V.int)) := fun r a ha => (g34.trans g47).l (e3 r a ha)
    -- found[0].append(0)
    refine ⟨_, rfl, D, _, 0, .ref as[0], rfl, rfl, sq fr17.lst, atI_nat (j := 0) (by rw [List.getElem?_map, e0]; rfl), .inl ⟨rfl, _, sq (e17 0 _ e0)⟩, as[0], _, _, rfl, rfl, e17 0 _ e0, szs (by rw [List.length_map]; have := heap_len (r := 0) hmf; omega), ?_⟩
    have fr18 := fr17.put (ys := (heap m f 0).map V.int ++ [.int 0]) (List.mem_of_getElem? e0) (e17 0 _ e0)
    have e18 : ∀ (r : Nat) a, 0 < r → as[r]? = some a → (upd H7 as[0] (.lst ((heap m f 0).map V.int ++ [.int 0]))) a = some (.lst ((heap m f r).map V.int)) := fun r a hr ha => by
      have na : a ≠ as[0] := fun z => by
        obtain ⟨h1, h2⟩ := List.getElem?_eq_some_iff.mp ha
        have := (List.getElem_inj fr17.nd).mp (h2.trans z)
        omega
      rw [upd_ne na]
      exact e17 r a ha
    have m0 : as[0] ∈ as := List.mem_of_getElem? e0
    have l28 : (upd H7 as[0] (.lst ((heap m f 0).map V.int ++ [.int 0]))) D2 = _ := (upd_ne (nD1 _ m0)).trans l27
    have e28 : ∀ (r : Nat) a, as2[r]? = some a → (upd H7 as[0] (.lst ((heap m f 0).map V.int ++ [.int 0]))) a = some (.lst ((heap m f r).map V.int)) := fun r a ha => by
      rw [upd_ne (apart _ m0 a (List.mem_of_getElem? ha)).symm]
      exact e27 r a ha
    generalize upd H7 as[0] (.lst ((heap m f 0).map V.int ++ [.int 0])) = H8 at *
    -- if found[1:] != due[1:]
    refine ⟨_, rfl, 1, rfl, D, _, rfl, sq fr18.lst, fun p8 np8 => ⟨_, rfl, 1, rfl, D2, _, rfl, sq (by rw [upd_ne (ne_of_none l28 np8)]; exact l28), fun r8 nr8 => ?_⟩⟩
    have ga : Gr T H8 (upd H8 p8 (.lst (cutV (as.map V.ref) (some 1) none))) := Gr.new np8
    have gb := ga.trans (Gr.new (o := .lst (cutV (as2.map V.ref) (some 1) none)) nr8)
    have ep8 := (Gr.new (T := T) (o := .lst (cutV (as2.map V.ref) (some 1) none)) nr8).l (upd_same (H := H8) (a := p8) (o := .lst (cutV (as.map V.ref) (some 1) none)))
    have er8 : (upd (upd H8 p8 (.lst (cutV (as.map V.ref) (some 1) none))) r8 (.lst (cutV (as2.map V.ref) (some 1) none))) r8 = _ := upd_same
    generalize upd (upd H8 p8 (.lst (cutV (as.map V.ref) (some 1) none))) r8 (.lst (cutV (as2.map V.ref) (some 1) none)) = H9 at *
    rw [cut_1, ← List.map_drop] at ep8 er8
    refine ⟨dL ((hl m f).drop 1), dL ((hl m f).drop 1), dp_ll (sq ep8) (by rw [List.length_drop, List.length_drop, hl_len, hl1]) (fun r a l h1 h2 => ?_), dp_ll (sq er8) (by rw [List.length_drop, List.length_drop, hl_len, hl2]) (fun r a l h1 h2 => ?_), sh_dL _, sh_dL _, _, rfl, ?_⟩
    · rw [List.getElem?_drop] at h1 h2
      rw [(hl_at h2).1]; exact sq (gb.l (e18 _ a (by omega) h1))
    · rw [List.getElem?_drop] at h1 h2
      rw [(hl_at h2).1]; exact sq (gb.l (e28 _ a h1))
    rw [eqv_dL, decide_eq_true rfl]
    have fr19 := fr18.grow gb
    have e19 : ∀ (r : Nat) a, 0 < r → as[r]? = some a → H9 a = some (.lst ((heap m f r).map V.int)) := fun r a hr ha => gb.l (e18 r a hr ha)
    have l29 := gb.l l28
    have e29 : ∀ (r : Nat) a, as2[r]? = some a → H9 a = some (.lst ((heap m f r).map V.int)) := fun r a ha => gb.l (e28 r a ha)
    -- found[-1].append(0)
    have eL : as[m - 1]? = some as[m - 1] := List.getElem?_eq_getElem (by omega)
    have mL : as[m - 1] ∈ as := List.mem_of_getElem? eL
    refine ⟨_, rfl, 1, rfl, D, _, -1, .ref as[m - 1], rfl, rfl, sq fr19.lst, ?_, .inl ⟨rfl, _, sq (e19 (m - 1) _ (by omega) eL)⟩, as[m - 1], _, _, rfl, rfl, e19 (m - 1) _ (by omega) eL, szs (by rw [List.length_map]; have := heap_len (r := m - 1) hmf; omega), ?_⟩
    · have : as.map V.ref = (as.dropLast.map V.ref) ++ [.ref as[m - 1]] := by
        have e := List.dropLast_concat_getLast (l := as) (by intro z; rw [z] at h0; simp at h0)
        have e2 : as.getLast (by intro z; rw [z] at h0; simp at h0) = as[m - 1] := by
          rw [List.getLast_eq_getElem]
          congr 1
          omega
        rw [e2] at e
        rw [← List.map_singleton, ← List.map_append, e]
      rw [this]
      exact atI_last _ _
    have fr20 := fr19.put (ys := (heap m f (m - 1)).map V.int ++ [.int 0]) mL (e19 (m - 1) _ (by omega) eL)
    have e20 : ∀ (r : Nat) a, 0 < r → r < m - 1 → as[r]? = some a → (upd H9 as[m - 1] (.lst ((heap m f (m - 1)).map V.int ++ [.int 0]))) a = some (.lst ((heap m f r).map V.int)) := fun r a hr hr2 ha => by
      have na : a ≠ as[m - 1] := fun z => by
        obtain ⟨h1, h2⟩ := List.getElem?_eq_some_iff.mp ha
        have := (List.getElem_inj fr17.nd).mp (h2.trans z)
        omega
      rw [upd_ne na]
      exact e19 r a hr ha
    have l210 : (upd H9 as[m - 1] (.lst ((heap m f (m - 1)).map V.int ++ [.int 0]))) D2 = _ := (upd_ne (nD1 _ mL)).trans l29
    have e210 : ∀ (r : Nat) a, as2[r]? = some a → (upd H9 as[m - 1] (.lst ((heap m f (m - 1)).map V.int ++ [.int 0]))) a = some (.lst ((heap m f r).map V.int)) := fun r a ha => by
      rw [upd_ne (apart _ mL a (List.mem_of_getElem? ha)).symm]
      exact e29 r a ha
    generalize upd H9 as[m - 1] (.lst ((heap m f (m - 1)).map V.int ++ [.int 0])) = H10 at *
    -- if found[1:-1] != due[1:-1]
    refine ⟨_, rfl, 1, rfl, 1, rfl, -1, rfl, D, _, rfl, sq fr20.lst, fun p9 np9 => ⟨_, rfl, 1, rfl, 1, rfl, -1, rfl, D2, _, rfl, sq (by rw [upd_ne (ne_of_none l210 np9)]; exact l210), fun r9 nr9 => ?_⟩⟩
    have ga : Gr T H10 (upd H10 p9 (.lst (cutV (as.map V.ref) (some 1) (some (-1))))) := Gr.new np9
    have gb := ga.trans (Gr.new (o := .lst (cutV (as2.map V.ref) (some 1) (some (-1)))) nr9)
    have ep9 := (Gr.new (T := T) (o := .lst (cutV (as2.map V.ref) (some 1) (some (-1)))) nr9).l (upd_same (H := H10) (a := p9) (o := .lst (cutV (as.map V.ref) (some 1) (some (-1)))))
    have er9 : (upd (upd H10 p9 (.lst (cutV (as.map V.ref) (some 1) (some (-1))))) r9 (.lst (cutV (as2.map V.ref) (some 1) (some (-1))))) r9 = _ := upd_same
    generalize upd (upd H10 p9 (.lst (cutV (as.map V.ref) (some 1) (some (-1))))) r9 (.lst (cutV (as2.map V.ref) (some 1) (some (-1)))) = H11 at *
    rw [cut_1m1, ← List.map_drop, ← List.map_take, List.length_map] at ep9 er9
    rw [hl1] at ep9
    rw [hl2] at er9
    refine ⟨dL (((hl m f).drop 1).take (m - 1 - 1)), dL (((hl m f).drop 1).take (m - 1 - 1)), dp_ll (sq ep9) (by rw [List.length_take, List.length_take, List.length_drop, List.length_drop, hl_len, hl1]) (fun r a l h1 h2 => ?_), dp_ll (sq er9) (by rw [List.length_take, List.length_take, List.length_drop, List.length_drop, hl_len, hl2]) (fun r a l h1 h2 => ?_), sh_dL _, sh_dL _, _, rfl, ?_⟩
    · obtain ⟨h1, hr⟩ := part_at h1
      obtain ⟨h2, _⟩ := part_at h2
      rw [(hl_at h2).1]; exact sq (gb.l (e20 _ a (by omega) (by omega) h1))
    · obtain ⟨h1, hr⟩ := part_at h1
      obtain ⟨h2, _⟩ := part_at h2
      rw [(hl_at h2).1]; exact sq (gb.l (e210 _ a h1))
    rw [eqv_dL, decide_eq_true rfl]
    have fr21 := fr20.grow gb
    -- found.append([])
    refine ⟨_, rfl, .inl ⟨rfl, _, sq fr21.lst⟩, Nat.zero_le _, fun z nz => ?_⟩
    have gz : Gr T H11 (upd H11 z (.lst [])) := Gr.new nz
    refine ⟨D, _, _, rfl, rfl, gz.l fr21.lst, szs (by rw [List.length_map]; omega), ?_⟩
    exact ⟨_, _, _, _, _, _, _, _, _, rfl, g.trans ((fr21.gr.trans gz).mut fr21.nD (gz.l fr21.lst) trivial)⟩
end
end Wk
namespace Ep
theorem h31 : (List.range 3).map (heap 3 1) = [[0], [1], [2]] := by
  have d0 : ds 3 0 = 0 := ds_zero 3
  have d1 : ds 3 1 = 1 := ds_small (by omega) (by omega)
  have d2 : ds 3 2 = 2 := ds_small (by omega) (by omega)
  show [heap 3 1 0, heap 3 1 1, heap 3 1 2] = _
  unfold heap
  have r : List.range (3 ^ 1) = [0, 1, 2] := by decide
  rw [r]
  simp [List.filter, d0, d1, d2]
theorem h20 : (List.range 2).map (heap 2 0) = [[0], []] := by
  have d0 : ds 2 0 = 0 := ds_zero 2
  show [heap 2 0 0, heap 2 0 1] = _
  unfold heap
  have r : List.range (2 ^ 0) = [0] := by decide
  rw [r]
  simp [List.filter, d0]
theorem h22 : (List.range 2).map (heap 2 2) = [[0, 3], [1, 2]] := by
  have d0 : ds 2 0 = 0 := ds_zero 2
  have d1 : ds 2 1 = 1 := ds_small (by omega) (by omega)
  have d2 : ds 2 2 = 1 := by rw [ds_step (by omega), show 2 % 2 = 0 from rfl, show 2 / 2 = 1 from rfl, d1]
  have d3 : ds 2 3 = 2 := by rw [ds_step (by omega), show 3 % 2 = 1 from rfl, show 3 / 2 = 1 from rfl, d1]
  show [heap 2 2 0, heap 2 2 1] = _
  unfold heap
  have r : List.range (2 ^ 2) = [0, 1, 2, 3] := by decide
  rw [r]
  simp [List.filter, d0, d1, d2, d3]
def tbl : List Int := [10, 7, 5, 5, 4, 4, 4, 4, 4, 3, 3]
theorem tbl_ok {d : Nat} (hd : d < 11) : ∃ z : Nat, tbl[d]? = some (z : Int) ∧ 0 < z ∧ ∀ {f : Nat}, f < z → (2 + d) ^ f ≤ 1000 := by
  have all : ∀ j : Nat, j < 11 → ∃ z : Nat, z ≤ 10 ∧ tbl[j]? = some (z : Int) ∧ 0 < z ∧ (2 + j) ^ (z - 1) ≤ 1000 := by
    intro j hj
    have : j = 0 ∨ j = 1 ∨ j = 2 ∨ j = 3 ∨ j = 4 ∨ j = 5 ∨ j = 6 ∨ j = 7 ∨ j = 8 ∨ j = 9 ∨ j = 10 := by omega
    rcases this with rfl | rfl | rfl | rfl | rfl | rfl | rfl | rfl | rfl | rfl | rfl
    · exact ⟨10, by decide, rfl, by decide, by decide⟩
    · exact ⟨7, by decide, rfl, by decide, by decide⟩
    · exact ⟨5, by decide, rfl, by decide, by decide⟩
    · exact ⟨5, by decide, rfl, by decide, by decide⟩
    · exact ⟨4, by decide, rfl, by decide, by decide⟩
    · exact ⟨4, by decide, rfl, by decide, by decide⟩
    · exact ⟨4, by decide, rfl, by decide, by decide⟩
    · exact ⟨4, by decide, rfl, by decide, by decide⟩
    · exact ⟨4, by decide, rfl, by decide, by decide⟩
    · exact ⟨3, by decide, rfl, by decide, by decide⟩
    · exact ⟨3, by decide, rfl, by decide, by decide⟩
  obtain ⟨z, _, h1, h2, h3⟩ := all d hd
  exact ⟨z, h1, h2, fun hf => Nat.le_trans (Nat.pow_le_pow_right (by omega) (by omega)) h3⟩
end Ep
namespace Wk
open PySem PySem.Spec PyProof.Rows L2 Kx Ep
open PySem.Builtin.Int (intBits)
section
variable {P : Program} {w : World} {K : PySem.W.Frag} {mg : Str → Option Value} {base : Heap} {f : Addr} {fd : FuncData} {T : Tb} {CU : Addr}
def spLaw (K : PySem.W.Frag) : Sp := fun vs H Q _ => ∃ (a : Addr) (ns : List Int), vs = [.ref a] ∧ SqL K H a (ns.map V.int) ∧ ns.length ≤ 63 ∧ (∀ z ∈ ns, intBits z ≤ 1048576) ∧ ∀ H', Q (.bl true) H'
theorem bits_nat {n m : Nat} (h : n < 2 ^ m) : intBits (n : Int) ≤ m := PySem.intBits_le_iff.mpr (by rw [Int.natAbs_natCast]; exact h)
theorem log_nat {n : Nat} (h : n < 2 ^ 200) : Nat.log2 n < 9000 := by
  by_cases h0 : n = 0
  · rw [h0]; decide
  · exact Nat.lt_trans ((Nat.log2_lt h0).mpr h) (by decide)
theorem sc_law : FnScope N_law ["_law_script"] (C8.fnScope s_law) := C8.fnScope_by (by decide +kernel)
theorem ok_law (B : Bt mg) (F : C8.Def K mg "law" s_law f fd) (c__law_draw : C8.Cal P w K mg base 1 "_law_draw" (spDraw T) []) (c__law_cell_at : C8.Cal P w K mg base 1 "_law_cell_at" (spCellAt K) []) (c__law_value : C8.Cal P w K mg base 2 "_law_value" (spValue T) [])
    (c__law_number_right : C8.Cal P w K mg base 4 "_law_number_right" (spNumRight T) []) (c__law_dealt_right : C8.Cal P w K mg base 5 "_law_dealt_right" (spDealtRight T) []) (c_heap_of : C8.Cal P w K mg base 3 "heap_of" spRest []) (c_number_at : C8.Cal P w K mg base 3 "number_at" spNumberAt []) (c_dealt : C8.Cal P w K mg base 3 "dealt" (spDealt T) []) :
    FnOk P w K mg base C8.CX0 6 f fd ["_law_script"] (spLaw K) := by
  refine C8.fn0 F.fn sc_law (fun vs H Q E h => ?_) (fun cdv A outer s H vs Q E hr h => ?_)
  · obtain ⟨a, ns, rfl, _⟩ := h
    rfl
  · obtain ⟨a, ns, rfl, hA, hn, hb, q⟩ := h
    refine ⟨_, (pss_cons (ps_set (i := 1) sc_law.nd rfl (.inl rfl) (pe_op op_add pe_int (C8.pe_c c__law_draw hr (by decide) (by rfl) (pa_cons (C8.pe_c c__law_cell_at hr (by decide) (by rfl) (pa_cons (pv 0) (pa_cons pe_int pa_nil))) (pa_cons pe_int (pa_cons pe_int pa_nil))))))
(pss_cons (ps_for PassesOwn.never rfl (pi_enum (by rfl) B.enumerate (pa_cons (pe_slice sl_list (pv 0) po_none (po_some pe_int)) pa_nil)) (pg_tup rfl (pgs_cons (pg_name (i := 2) sc_law.nd rfl (Or.inl rfl)) (pgs_cons (pg_name (i := 3) sc_law.nd rfl (Or.inl rfl)) pgs_nil)))
(pss_cons (ps_set (i := 4) sc_law.nd rfl (.inl rfl) (pe_op op_mod (pe_callB call_abs (by rfl) B.abs (by decide +kernel) (pa_cons (C8.pe_c c__law_value hr (by decide) (by rfl) (pa_cons (pv 3) (pa_cons (pv 2) (pa_cons pe_int pa_nil)))) pa_nil)) (pe_op op_pow pe_int pe_int)))
(pss_cons (ps_for PassesOwn.never rfl (pi_range1 rfl B.range (pa_cons pe_int pa_nil)) (pg_name (i := 5) sc_law.nd rfl (Or.inl rfl))
(pss_one (ps_if (pt_not (pt_val (C8.pe_c c__law_number_right hr (by decide) (by rfl) (pa_cons (pv 1) (pa_cons (pe_op op_add (pv 4) (pv 5)) pa_nil)))))
(pss_one (ps_ret pe_bl))
pss_nil)))
(pss_one (ps_if (PW.pt (pw_or (pt_not (pt_val (C8.pe_c c__law_number_right hr (by decide) (by rfl) (pa_cons (pe_op op_add pe_int (pe_op op_mod (pe_op op_fdivW (pv 4) pe_int) (pe_op op_pow pe_int pe_int))) (pa_cons (pv 4) pa_nil))))) (pw_or1 (pt_not (pt_val (C8.pe_c c__law_number_right hr (by decide) (by rfl) (pa_cons pe_int (pa_cons (pv 4) pa_nil))))))))
(pss_one (ps_ret pe_bl))
pss_nil)))))
(pss_cons (ps_set (i := 6) sc_law.nd rfl (.inl rfl) (C8.pe_c c__law_draw hr (by decide) (by rfl) (pa_cons (C8.pe_c c__law_cell_at hr (by decide) (by rfl) (pa_cons (pv 0) (pa_cons pe_int pa_nil))) (pa_cons pe_int (pa_cons (pe_ix ix_tup (pe_tup (pa_cons pe_int (pa_cons pe_int (pa_cons pe_int (pa_cons pe_int (pa_cons pe_int (pa_cons pe_int (pa_cons pe_int (pa_cons pe_int (pa_cons pe_int (pa_cons pe_int (pa_cons pe_int pa_nil)))))))))))) (pe_op op_sub (pv 1) pe_int) (fun _ _ => rfl)) pa_nil)))))
(C8.pss_cut (ps_if (PW.pt (pw_or (pt_not (pt_val (C8.pe_c c__law_dealt_right hr (by decide) (by rfl) (pa_cons (pv 1) (pa_cons (pv 6) pa_nil))))) (pw_or1 (pt_not (pt_val (C8.pe_c c__law_dealt_right hr (by decide) (by rfl) (pa_cons pe_int (pa_cons (C8.pe_c c__law_draw hr (by decide) (by rfl) (pa_cons (C8.pe_c c__law_cell_at hr (by decide) (by rfl) (pa_cons (pv 0) (pa_cons pe_int pa_nil))) (pa_cons pe_int (pa_cons pe_int pa_nil)))) pa_nil))))))))
(pss_one (ps_ret pe_bl))
pss_nil)
(C8.pss_cut (ps_if (PW.pt (pw_or (pt_cmpR op_ne (C8.pe_c c_heap_of hr (by decide) (by rfl) (pa_cons pe_int (pa_cons pe_int pa_nil))) pe_int (nomark _)) (pw_or (pt_cmpR op_ne (C8.pe_c c_number_at hr (by decide) (by rfl) (pa_cons pe_int (pa_cons pe_int (pa_cons pe_int pa_nil)))) pe_int (nomark _)) (pw_or1 (pt_cmpR (op_neD hr.units) (C8.pe_c c_dealt hr (by decide) (by rfl) (pa_cons pe_int (pa_cons pe_int pa_nil))) (pe_lst (pa_cons (pe_lst (pa_cons pe_int pa_nil)) (pa_cons (pe_lst (pa_cons pe_int pa_nil)) (pa_cons (pe_lst (pa_cons pe_int pa_nil)) pa_nil)))) (nomark _))))))
(pss_one (ps_ret pe_bl))
pss_nil)
(pss_one (ps_ret (pe_and (pe_cmpR (op_eqD hr.units) (C8.pe_c c_dealt hr (by decide) (by rfl) (pa_cons pe_int (pa_cons pe_int pa_nil))) (pe_lst (pa_cons (pe_lst (pa_cons pe_int pa_nil)) (pa_cons (pe_lst pa_nil) pa_nil))) (nomark _)) (pe_one (pe_cmpR (op_eqD hr.units) (C8.pe_c c_dealt hr (by decide) (by rfl) (pa_cons pe_int (pa_cons pe_int pa_nil))) (pe_lst (pa_cons (pe_lst (pa_cons pe_int (pa_cons pe_int pa_nil))) (pa_cons (pe_lst (pa_cons pe_int (pa_cons pe_int pa_nil))) pa_nil))) (nomark _))))))))))), ?_⟩
    refine ⟨_, rfl, a, ns, 1, rfl, hA, fun z hz => ⟨z, 5, 11, rfl, by decide, by decide, fun d H1 d0 d1 g1 => ⟨2, d, rfl, rfl, ?_⟩⟩⟩
    obtain ⟨d, rfl⟩ := Int.eq_ofNat_of_zero_le d0
    have hd : d < 11 := by omega
    have hA1 := g1.sq hA
    -- for k, cell in enumerate(script[:8])
    refine ⟨_, rfl, 8, rfl, a, _, rfl, hA1, fun p np => ⟨p, _, rfl, sq upd_same, ?_⟩⟩
    rw [show (some (8 : Int)) = some (((8 : Nat)) : Int) from rfl, cut_to, ← List.map_take]
    have g12 : Gr T H1 (upd H1 p (.lst ((ns.take 8).map V.int))) := Gr.new np
    have ep : (upd H1 p (.lst ((ns.take 8).map V.int))) p = _ := upd_same
    generalize upd H1 p (.lst ((ns.take 8).map V.int)) = H2 at *
    refine for_enum (K := K) (a := p) (xs := (ns.take 8).map V.int) (fun i σ' H' => ∃ y2 y3 y4 y5, σ' = [some (.ref a), some (.int ((2 + d : Nat))), y2, y3, y4, y5, Option.none] ∧ Gr T H2 H') ⟨_, _, _, _, rfl, Gr.refl _⟩ (fun i σ' H' hW => ?_) (fun i x U σ' H3 hx hW nU => ?_) fun σ' H3 hW => ?_
    · obtain ⟨_, _, _, _, _, g⟩ := hW
      exact sq (g.l ep)
    · obtain ⟨y2, y3, y4, y5, rfl, g23⟩ := hW
      obtain ⟨z, hz, rfl⟩ := int_at hx
      have hi := (List.getElem?_eq_some_iff.mp hz).1
      rw [List.length_take] at hi
      have bz := hb z (List.mem_of_mem_take (List.mem_of_getElem? hz))
      refine ⟨U, _, rfl, stp upd_same, rfl, _, _, rfl, _, _, rfl, rfl, ?_⟩
      have g34 : Gr T H3 (upd H3 U (.tup [.int i, .int z])) := Gr.new nU
      generalize upd H3 U (.tup [.int i, .int z]) = H4 at *
      refine ⟨_, rfl, _, rfl, z, i, 400000, rfl, bz, by omega, by decide, by decide, fun v H5 bv g45 => ⟨v, rfl, 10, 60, rfl, rfl, ⟨by decide, by decide, by decide⟩, _, _, rfl, rfl, (show (0 : Int) < 10 ^ (60 : Int).toNat by decide), ?_⟩⟩
      have n0 : 0 ≤ (if v < 0 then -v else v) % 10 ^ (60 : Int).toNat := Int.emod_nonneg _ (by decide)
      have n1 : (if v < 0 then -v else v) % 10 ^ (60 : Int).toNat < 10 ^ (60 : Int).toNat := Int.emod_lt_of_pos _ (by decide)
      have M60 : (10 : Int) ^ (60 : Int).toNat < ((2 ^ 200 : Nat) : Int) := by decide
      show tSeq _ _ _ ([some (.ref a), some (.int ((2 + d : Nat))), some (.int i), some (.int z), some (.int ((if v < 0 then -v else v) % 10 ^ (60 : Int).toNat)), y5, Option.none]) H5
      generalize (if v < 0 then -v else v) % 10 ^ (60 : Int).toNat = nn at *
      obtain ⟨n, rfl⟩ := Int.eq_ofNat_of_zero_le n0
      have hn2 : n < 2 ^ 200 := by omega
      have ln : Nat.log2 (2 + d) < 9000 := log_small (by omega)
      have bd : intBits ((2 + d : Nat) : Int) ≤ 9000 := Nat.le_trans (PySem.intBits_le_64 (by omega) (by omega)) (by decide)
      have bn : ∀ k, k ≤ n + 2 → intBits (k : Int) ≤ 9000 := fun k hk => Nat.le_trans (bits_nat (m := 201) (by omega)) (by decide)
      have lk : ∀ k, k ≤ n + 2 → Nat.log2 k < 9000 := fun k hk => by
        by_cases h0 : k = 0
        · rw [h0]; decide
        · exact Nat.lt_trans ((Nat.log2_lt h0).mpr (show k < 2 ^ 201 by omega)) (by decide)
      refine ⟨2, rfl, by decide, by decide, for_range (n := 2) (fun j σ' H' => ∃ y5, σ' = [some (.ref a), some (.int ((2 + d : Nat))), some (.int i), some (.int z), some (.int (n : Nat)), y5, Option.none] ∧ Gr T H5 H') ⟨_, rfl, Gr.refl _⟩ (fun j σ' H6 hj hW => ?_) fun σ' H6 hW => ?_⟩
      · obtain ⟨y5, rfl, g56⟩ := hW
        rw [Int.zero_add]
        refine ⟨_, rfl, _, rfl, _, rfl, n, j, rfl, rfl, 2 + d, n + j, rfl, by omega, ln, bd, bn _ (by omega), fun H7 g67 => ⟨true, rfl, ?_⟩⟩
        exact ⟨_, rfl, g56.trans g67⟩
      obtain ⟨y5', rfl, g56⟩ := hW
      have e20 : (10 : Int) ^ (20 : Int).toNat = ((10 ^ 20 : Nat) : Int) := by decide
      have bm : 2 + n / 7 % 10 ^ 20 ≤ n + 2 := by
        have := Nat.mod_le (n / 7) (10 ^ 20)
        have := Nat.div_le_self n 7
        omega
      refine ⟨_, rfl, n, 7, rfl, rfl, ⟨by decide, show Nat.log2 7 < 9000 by decide⟩, 10, 20, rfl, rfl, ⟨by decide, by decide, by decide⟩, _, _, rfl, rfl, (show (0 : Int) < 10 ^ (20 : Int).toNat by decide), ?_⟩
      rw [e20]
      refine ⟨2, _, rfl, rfl, _, rfl, 2 + n / 7 % 10 ^ 20, n, rfl, by omega, lk _ bm, bn _ bm, bn _ (by omega), fun H7 g67 => ⟨true, rfl, ?_⟩⟩
      refine ⟨_, rfl, 2, n, rfl, by decide, by decide, by decide, bn _ (by omega), fun H8 g78 => ⟨true, rfl, ?_⟩⟩
      exact ⟨_, _, _, _, rfl, (((g23.trans g34).trans (g45.trans g56)).trans (g67.trans g78))⟩
    obtain ⟨y2, y3, y4, y5, rfl, g23⟩ := hW
    have g13 := g12.trans g23
    have hA3 := g13.sq hA1
    refine ⟨_, rfl, a, ns, 2, rfl, hA3, fun z hz => ⟨by decide, fun t nt => ?_⟩⟩
    have g3t : Gr T H3 (upd H3 t (.tup [V.int 10, V.int 7, V.int 5, V.int 5, V.int 4, V.int 4, V.int 4, V.int 4, V.int 4, V.int 3, V.int 3])) := Gr.new nt
    have et : (upd H3 t (.tup [V.int 10, V.int 7, V.int 5, V.int 5, V.int 4, V.int 4, V.int 4, V.int 4, V.int 4, V.int 3, V.int 3])) t = some (.tup (tbl.map V.int)) := upd_same
    generalize upd H3 t (.tup [V.int 10, V.int 7, V.int 5, V.int 5, V.int 4, V.int 4, V.int 4, V.int 4, V.int 4, V.int 3, V.int 3]) = H4 at *
    refine ⟨_, rfl, ((2 + d : Nat) : Int), 2, rfl, rfl, ?_⟩
    have e2 : (((2 + d : Nat) : Int) - 2) = ((d : Nat) : Int) := by omega
    obtain ⟨zz, ez, z0, small⟩ := tbl_ok hd
    refine ⟨t, tbl.map V.int, ((2 + d : Nat) : Int) - 2, .int zz, rfl, rfl, stp et, by rw [e2]; exact atI_nat (by rw [List.getElem?_map, ez]; rfl), ?_⟩
    refine ⟨z, 4, zz, rfl, by decide, by omega, fun fg H5 f0 f1 g45 => ?_⟩
    obtain ⟨fg, rfl⟩ := Int.eq_ofNat_of_zero_le f0
    have hmf : (2 + d) ^ fg ≤ 1000 := small (by omega)
    have g15 := (g13.trans g3t).trans g45
    have hA5 := g15.sq hA1
    -- if not dealt_right(..) or not dealt_right(2, ..)
    refine ⟨fun σ' H' => σ' = [some (.ref a), some (.int ((2 + d : Nat))), y2, y3, y4, y5, some (.int (fg : Nat))] ∧ Gr T H5 H', ?_, fun σ' H6 z => ?_⟩
    · refine ⟨_, rfl, _, rfl, 2 + d, fg, rfl, by omega, by omega, hmf, fun H6 g56 => ⟨true, rfl, ?_⟩⟩
      refine ⟨_, rfl, a, ns, 3, rfl, g56.sq hA5, fun z hz => ⟨z, 5, 8, rfl, by decide, by decide, fun ff H7 f0 f1 g67 => ?_⟩⟩
      obtain ⟨ff, rfl⟩ := Int.eq_ofNat_of_zero_le f0
      have h2 : 2 ^ ff ≤ 1000 := Nat.le_trans (Nat.pow_le_pow_right (by decide) (show ff ≤ 7 by omega)) (by decide)
      exact ⟨2, ff, rfl, by decide, by decide, h2, fun H8 g78 => ⟨true, rfl, rfl, (g56.trans g67).trans g78⟩⟩
    obtain ⟨rfl, g56⟩ := z
    refine ⟨fun σ' H' => σ' = [some (.ref a), some (.int ((2 + d : Nat))), y2, y3, y4, y5, some (.int (fg : Nat))] ∧ Gr T H6 H', ?_, fun σ' H7 z => ?_⟩
    · refine ⟨10, 0, rfl, by decide, by decide, ?_⟩
      rw [show ds 10 0 % 10 = 0 by rw [ds_zero]]
      refine ⟨rfl, _, rfl, ?_⟩
      rw [dint_ne (by rfl)]
      refine ⟨2, 1, 0, rfl, by decide, by decide, by decide, by decide, by decide, ?_⟩
      rw [show Ep.numAt 2 1 0 = 1 by unfold Ep.numAt; rw [ds_zero]]
      refine ⟨rfl, _, rfl, ?_⟩
      rw [dint_ne (by rfl)]
      refine ⟨3, 1, rfl, by decide, by decide, by decide, fun D as H7 ha fr ea => ?_⟩
      refine ⟨by decide, fun a0 n0 => ⟨by decide, fun a1 n1 => ⟨by decide, fun a2 n2 => ⟨show 3 ≤ sizeLine by decide, fun b nb => ?_⟩⟩⟩⟩
      have g0 := Gr.new (T := T) (o := .lst [.int 0]) n0
      have o0 : (upd H7 a0 (.lst [.int 0])) a0 = some (.lst [.int 0]) := upd_same
      generalize upd H7 a0 (.lst [.int 0]) = I0 at *
      have g1 := Gr.new (T := T) (o := .lst [.int 1]) n1
      have o1 : (upd I0 a1 (.lst [.int 1])) a1 = some (.lst [.int 1]) := upd_same
      generalize upd I0 a1 (.lst [.int 1]) = I1 at *
      have g2 := Gr.new (T := T) (o := .lst [.int 2]) n2
      have o2 : (upd I1 a2 (.lst [.int 2])) a2 = some (.lst [.int 2]) := upd_same
      generalize upd I1 a2 (.lst [.int 2]) = I2 at *
      have g3 := Gr.new (T := T) (o := .lst [.ref a0, .ref a1, .ref a2]) nb
      have o3 : (upd I2 b (.lst [.ref a0, .ref a1, .ref a2])) b = some (.lst [.ref a0, .ref a1, .ref a2]) := upd_same
      generalize upd I2 b (.lst [.ref a0, .ref a1, .ref a2]) = I3 at *
      have gg := ((g0.trans g1).trans g2).trans g3
      refine ⟨dL ((List.range 3).map (heap 3 1)), dL [[0], [1], [2]], dp_ll (sq (gg.l fr.lst)) ha (fun r x l h1 h2 => ?_), .lst (sq o3) (.cons (dp_l (l := [0]) (sq ((g1.trans (g2.trans g3)).l o0))) (.cons (dp_l (l := [1]) (sq ((g2.trans g3).l o1))) (.cons (dp_l (l := [2]) (sq (g3.l o2))) .nil))), sh_dL _, sh_dL _, _, rfl, ?_⟩
      · rw [(hl_at h2).1]; exact sq (gg.l (ea r x h1))
      rw [h31, eqv_dL, decide_eq_true rfl]
      exact ⟨rfl, fr.gr.trans gg⟩
    obtain ⟨rfl, g67⟩ := z
    refine ⟨2, 0, rfl, by decide, by decide, by decide, fun D as J0 ha fr ea => ?_⟩
    refine ⟨by decide, fun a0 n0 => ⟨by decide, fun a1 n1 => ⟨show 2 ≤ sizeLine by decide, fun b nb => ?_⟩⟩⟩
    have g0 := Gr.new (T := T) (o := .lst [.int 0]) n0
    have o0 : (upd J0 a0 (.lst [.int 0])) a0 = some (.lst [.int 0]) := upd_same
    generalize upd J0 a0 (.lst [.int 0]) = I0 at *
    have g1 := Gr.new (T := T) (o := .lst []) n1
    have o1 : (upd I0 a1 (.lst [])) a1 = some (.lst []) := upd_same
    generalize upd I0 a1 (.lst []) = I1 at *
    have g3 := Gr.new (T := T) (o := .lst [.ref a0, .ref a1]) nb
    have o3 : (upd I1 b (.lst [.ref a0, .ref a1])) b = some (.lst [.ref a0, .ref a1]) := upd_same
    generalize upd I1 b (.lst [.ref a0, .ref a1]) = H8 at *
    have gg := (g0.trans g1).trans g3
    refine ⟨dL ((List.range 2).map (heap 2 0)), dL [[0], []], dp_ll (sq (gg.l fr.lst)) ha (fun r x l h1 h2 => ?_), .lst (sq o3) (.cons (dp_l (l := [0]) (sq ((g1.trans g3).l o0))) (.cons (dp_l (l := []) (sq (g3.l o1))) .nil)), sh_dL _, sh_dL _, ?_⟩
    · rw [(hl_at h2).1]; exact sq (gg.l (ea r x h1))
    rw [h20, eqv_dL, decide_eq_true rfl]
    clear g0 o0 g1 o1 g3 o3 gg n0 n1 nb
    clear I0 I1
    refine ⟨true, rfl, 2, 2, rfl, by decide, by decide, by decide, fun D as J1 ha fr ea => ?_⟩
    refine ⟨by decide, fun a0 n0 => ⟨by decide, fun a1 n1 => ⟨show 2 ≤ sizeLine by decide, fun b nb => ?_⟩⟩⟩
    have g0 := Gr.new (T := T) (o := .lst [.int 0, .int 3]) n0
    have o0 : (upd J1 a0 (.lst [.int 0, .int 3])) a0 = some (.lst [.int 0, .int 3]) := upd_same
    generalize upd J1 a0 (.lst [.int 0, .int 3]) = I0 at *
    have g1 := Gr.new (T := T) (o := .lst [.int 1, .int 2]) n1
    have o1 : (upd I0 a1 (.lst [.int 1, .int 2])) a1 = some (.lst [.int 1, .int 2]) := upd_same
    generalize upd I0 a1 (.lst [.int 1, .int 2]) = I1 at *
    have g3 := Gr.new (T := T) (o := .lst [.ref a0, .ref a1]) nb
    have o3 : (upd I1 b (.lst [.ref a0, .ref a1])) b = some (.lst [.ref a0, .ref a1]) := upd_same
    generalize upd I1 b (.lst [.ref a0, .ref a1]) = H9 at *
    have gg := (g0.trans g1).trans g3
    refine ⟨dL ((List.range 2).map (heap 2 2)), dL [[0, 3], [1, 2]], dp_ll (sq (gg.l fr.lst)) ha (fun r x l h1 h2 => ?_), .lst (sq o3) (.cons (dp_l (l := [0, 3]) (sq ((g1.trans g3).l o0))) (.cons (dp_l (l := [1, 2]) (sq (g3.l o1))) .nil)), sh_dL _, sh_dL _, ?_⟩
    · rw [(hl_at h2).1]; exact sq (gg.l (ea r x h1))
    rw [h22, eqv_dL, decide_eq_true rfl]
    exact q _
end
end Wk
namespace Wk
open PySem PySem.Spec PyProof.Rows L2 Kx Ep
theorem sc_Same___init__ : FnScope N_Same___init__ ["self", "places"] (C8.fnScope s_Same___init__) := C8.fnScope_by (by decide +kernel)
/-- no call of it is promised -/
theorem no_init {P : Program} {w : World} {K : PySem.W.Frag} {mg : Str → Option Value} {base : Heap} {f C : Addr} {fd : FuncData} (M : Mk K C f) (g : mg "Same" = some (.ref C)) (F : C8.Fun K "__init__" "Same.__init__" s_Same___init__ f fd) (b : Binds K fd ["self", "places"] []) : C8.Mak P w K mg base 1 "Same" C (fun _ _ _ _ => False) [] :=
  C8.mak0 M g F b .nil sc_Same___init__ (fun _ _ _ _ h => h.elim) (fun _ _ _ _ _ _ _ _ _ h => h.elim)
section
theorem all_mk {l : PySem.W.OpenLaw} {w : World} {K : PySem.W.Frag} {h : Heap} {mg : Str → Option Value} {fa CS f1 CU f2 f3 f4 f5 f6 f7 f8 f9 f10 f11 f12 f13 f14 f15 f16 f17 f18 f19 f20 f21 : Addr} (X : K.In h) (G : h.Ns mainGlobals mg) (hfa : mg "law" = some (.ref fa))
    {od1 an1 od2 an2 od3 an3 od4 an4 od5 an5 od6 an6 od7 an7 od8 an8 od9 an9 od10 an10 od11 an11 od12 an12 od13 an13 od14 an14 od15 an15 od16 an16 od17 an17 od18 an18 od19 an19 od20 an20 od21 an21 : Option Addr} {sl1 sl2 sl3 sl4 sl5 sl6 sl7 sl8 sl9 sl10 sl11 sl12 sl13 sl14 sl15 sl16 sl17 sl18 sl19 sl20 sl21 : Array (Option Value)} {oc1 kV1 dc1 pm1 cd1 ct1 oc2 kV2 dc2 pm2 cd2 ct2 oc3 kV3 dc3 pm3 cd3 ct3 oc4 kV4 dc4 pm4 cd4 ct4 oc5 kV5 dc5 pm5 cd5 ct5 oc6 kV6 dc6 pm6 cd6 ct6 oc7 kV7 dc7 pm7 cd7 ct7 oc8 kV8 dc8 pm8 cd8 ct8 oc9 kV9 dc9 pm9 cd9 ct9 oc10 kV10 dc10 pm10 cd10 ct10 oc11 kV11 dc11 pm11 cd11 ct11 oc12 kV12 dc12 pm12 cd12 ct12 oc13 kV13 dc13 pm13 cd13 ct13 oc14 kV14 dc14 pm14 cd14 ct14 oc15 kV15 dc15 pm15 cd15 ct15 oc16 kV16 dc16 pm16 cd16 ct16 oc17 kV17 dc17 pm17 cd17 ct17 oc18 kV18 dc18 pm18 cd18 ct18 oc19 kV19 dc19 pm19 cd19 ct19 oc20 kV20 dc20 pm20 cd20 ct20 oc21 kV21 dc21 pm21 cd21 ct21 : Value}
    (z_len : PySem.W.nsIn K mainGlobals "len" = some none)
    (z_sum : PySem.W.nsIn K mainGlobals "sum" = some none)
    (z_all : PySem.W.nsIn K mainGlobals "all" = some none)
    (z_any : PySem.W.nsIn K mainGlobals "any" = some none)
    (z_zip : PySem.W.nsIn K mainGlobals "zip" = some none)
    (z_range : PySem.W.nsIn K mainGlobals "range" = some none)
    (z_sorted : PySem.W.nsIn K mainGlobals "sorted" = some none)
    (z_isinstance : PySem.W.nsIn K mainGlobals "isinstance" = some none)
    (z_int : PySem.W.nsIn K mainGlobals "int" = some none)
    (z_bool : PySem.W.nsIn K mainGlobals "bool" = some none)
    (z_list : PySem.W.nsIn K mainGlobals "list" = some none)
    (z_tuple : PySem.W.nsIn K mainGlobals "tuple" = some none)
    (z_enumerate : PySem.W.nsIn K mainGlobals "enumerate" = some none)
    (z_min : PySem.W.nsIn K mainGlobals "min" = some none)
    (z_max : PySem.W.nsIn K mainGlobals "max" = some none)
    (z_abs : PySem.W.nsIn K mainGlobals "abs" = some none)
    {t_MOST : Tok} (n_MOST : PySem.W.nsIn K mainGlobals "MOST" = some (some (.int 1000 t_MOST)))
    (aCS : PySem.W.nsIn K mainGlobals "Same" = some (some (.ref CS)))
    (pgS : PySem.W.plainGet K CS Str.empty = true) (hdS : PySem.W.hasDictIn K CS = true) (poS : PySem.W.plainOver K CS = true) (saS : PySem.W.findIn K (.ref CS) "__setattr__" = some (some (.builtin "object.__setattr__"))) (mkS : PySem.W.makesIn K CS = true) (kcS : PySem.W.keepIn K (.ref CS) = true)
    (a1 : PySem.W.findIn K (.ref CS) "__init__" = some (some (.ref f1))) (l1 : K.lookup f1 = some ⟨oc1, od1, .func (PySem.W.fnOf "__init__" "Same.__init__" (C8.fnArgs s_Same___init__) (C8.fnBody s_Same___init__) (C8.fnScope s_Same___init__) .none kV1 dc1 pm1 an1 cd1 ct1), sl1⟩) (c1 : PySem.W.codeIn K cd1 "Same.__init__" = true) (k1 : PySem.W.keepIn K (.ref f1) = true)
    (i1 : PySem.W.isFn K (.ref f1) = true)
    (aCU : PySem.W.nsIn K mainGlobals "Unlike" = some (some (.ref CU)))
    (pgU : PySem.W.plainGet K CU Str.empty = true) (hdU : PySem.W.hasDictIn K CU = true) (poU : PySem.W.plainOver K CU = true) (saU : PySem.W.findIn K (.ref CU) "__setattr__" = some (some (.builtin "object.__setattr__"))) (mkU : PySem.W.makesIn K CU = true) (kcU : PySem.W.keepIn K (.ref CU) = true)
    (nUpower : PySem.W.findIn K (.ref CU) "power" = some none)
    (nUmore : PySem.W.findIn K (.ref CU) "more" = some none)
    (haU : PySem.W.findIn K (.ref CU) "__class__" = some (some (.builtin "object.__class__")))
    (hmU : PySem.W.mroIn K CU (.type "object") = some true)
    (a2 : PySem.W.findIn K (.ref CU) "__init__" = some (some (.ref f2))) (l2 : K.lookup f2 = some ⟨oc2, od2, .func (PySem.W.fnOf "__init__" "Unlike.__init__" (C8.fnArgs s_Unlike___init__) (C8.fnBody s_Unlike___init__) (C8.fnScope s_Unlike___init__) .none kV2 dc2 pm2 an2 cd2 ct2), sl2⟩) (c2 : PySem.W.codeIn K cd2 "Unlike.__init__" = true) (k2 : PySem.W.keepIn K (.ref f2) = true)
    (i2 : PySem.W.isFn K (.ref f2) = true)
    (hn : PySem.W.specialIn K (.builtin "object.__class__") "__get__" = some (some (.builtin "getset_descriptor.__get__"))) (htk : PySem.W.takesIn K (.builtin "object.__class__") = some true)
    (a3 : PySem.W.nsIn K mainGlobals "is_whole" = some (some (.ref f3))) (l3 : K.lookup f3 = some ⟨oc3, od3, .func (PySem.W.fnOf "is_whole" "is_whole" (C8.fnArgs s_is_whole) (C8.fnBody s_is_whole) (C8.fnScope s_is_whole) .none kV3 dc3 pm3 an3 cd3 ct3), sl3⟩) (c3 : PySem.W.codeIn K cd3 "is_whole" = true) (k3 : PySem.W.keepIn K (.ref f3) = true)
    (a4 : PySem.W.nsIn K mainGlobals "check_heap" = some (some (.ref f4))) (l4 : K.lookup f4 = some ⟨oc4, od4, .func (PySem.W.fnOf "check_heap" "check_heap" (C8.fnArgs s_check_heap) (C8.fnBody s_check_heap) (C8.fnScope s_check_heap) .none kV4 dc4 pm4 an4 cd4 ct4), sl4⟩) (c4 : PySem.W.codeIn K cd4 "check_heap" = true) (k4 : PySem.W.keepIn K (.ref f4) = true)
    (a5 : PySem.W.nsIn K mainGlobals "left_of" = some (some (.ref f5))) (l5 : K.lookup f5 = some ⟨oc5, od5, .func (PySem.W.fnOf "left_of" "left_of" (C8.fnArgs s_left_of) (C8.fnBody s_left_of) (C8.fnScope s_left_of) .none kV5 dc5 pm5 an5 cd5 ct5), sl5⟩) (c5 : PySem.W.codeIn K cd5 "left_of" = true) (k5 : PySem.W.keepIn K (.ref f5) = true)
    (a6 : PySem.W.nsIn K mainGlobals "alike" = some (some (.ref f6))) (l6 : K.lookup f6 = some ⟨oc6, od6, .func (PySem.W.fnOf "alike" "alike" (C8.fnArgs s_alike) (C8.fnBody s_alike) (C8.fnScope s_alike) .none kV6 dc6 pm6 an6 cd6 ct6), sl6⟩) (c6 : PySem.W.codeIn K cd6 "alike" = true) (k6 : PySem.W.keepIn K (.ref f6) = true)
    (a7 : PySem.W.nsIn K mainGlobals "check_heaps" = some (some (.ref f7))) (l7 : K.lookup f7 = some ⟨oc7, od7, .func (PySem.W.fnOf "check_heaps" "check_heaps" (C8.fnArgs s_check_heaps) (C8.fnBody s_check_heaps) (C8.fnScope s_check_heaps) .none kV7 dc7 pm7 an7 cd7 ct7), sl7⟩) (c7 : PySem.W.codeIn K cd7 "check_heaps" = true) (k7 : PySem.W.keepIn K (.ref f7) = true)
    (a8 : PySem.W.nsIn K mainGlobals "check_place" = some (some (.ref f8))) (l8 : K.lookup f8 = some ⟨oc8, od8, .func (PySem.W.fnOf "check_place" "check_place" (C8.fnArgs s_check_place) (C8.fnBody s_check_place) (C8.fnScope s_check_place) .none kV8 dc8 pm8 an8 cd8 ct8), sl8⟩) (c8 : PySem.W.codeIn K cd8 "check_place" = true) (k8 : PySem.W.keepIn K (.ref f8) = true)
    (a9 : PySem.W.nsIn K mainGlobals "rest_of" = some (some (.ref f9))) (l9 : K.lookup f9 = some ⟨oc9, od9, .func (PySem.W.fnOf "rest_of" "rest_of" (C8.fnArgs s_rest_of) (C8.fnBody s_rest_of) (C8.fnScope s_rest_of) .none kV9 dc9 pm9 an9 cd9 ct9), sl9⟩) (c9 : PySem.W.codeIn K cd9 "rest_of" = true) (k9 : PySem.W.keepIn K (.ref f9) = true)
    (a10 : PySem.W.nsIn K mainGlobals "heap_of" = some (some (.ref f10))) (l10 : K.lookup f10 = some ⟨oc10, od10, .func (PySem.W.fnOf "heap_of" "heap_of" (C8.fnArgs s_heap_of) (C8.fnBody s_heap_of) (C8.fnScope s_heap_of) .none kV10 dc10 pm10 an10 cd10 ct10), sl10⟩) (c10 : PySem.W.codeIn K cd10 "heap_of" = true) (k10 : PySem.W.keepIn K (.ref f10) = true)
    (a11 : PySem.W.nsIn K mainGlobals "place_of" = some (some (.ref f11))) (l11 : K.lookup f11 = some ⟨oc11, od11, .func (PySem.W.fnOf "place_of" "place_of" (C8.fnArgs s_place_of) (C8.fnBody s_place_of) (C8.fnScope s_place_of) .none kV11 dc11 pm11 an11 cd11 ct11), sl11⟩) (c11 : PySem.W.codeIn K cd11 "place_of" = true) (k11 : PySem.W.keepIn K (.ref f11) = true)
    (a12 : PySem.W.nsIn K mainGlobals "number_at" = some (some (.ref f12))) (l12 : K.lookup f12 = some ⟨oc12, od12, .func (PySem.W.fnOf "number_at" "number_at" (C8.fnArgs s_number_at) (C8.fnBody s_number_at) (C8.fnScope s_number_at) .none kV12 dc12 pm12 an12 cd12 ct12), sl12⟩) (c12 : PySem.W.codeIn K cd12 "number_at" = true) (k12 : PySem.W.keepIn K (.ref f12) = true)
    (a13 : PySem.W.nsIn K mainGlobals "dealt" = some (some (.ref f13))) (l13 : K.lookup f13 = some ⟨oc13, od13, .func (PySem.W.fnOf "dealt" "dealt" (C8.fnArgs s_dealt) (C8.fnBody s_dealt) (C8.fnScope s_dealt) .none kV13 dc13 pm13 an13 cd13 ct13), sl13⟩) (c13 : PySem.W.codeIn K cd13 "dealt" = true) (k13 : PySem.W.keepIn K (.ref f13) = true)
    (a14 : PySem.W.nsIn K mainGlobals "_law_cell_at" = some (some (.ref f14))) (l14 : K.lookup f14 = some ⟨oc14, od14, .func (PySem.W.fnOf "_law_cell_at" "_law_cell_at" (C8.fnArgs s__law_cell_at) (C8.fnBody s__law_cell_at) (C8.fnScope s__law_cell_at) .none kV14 dc14 pm14 an14 cd14 ct14), sl14⟩) (c14 : PySem.W.codeIn K cd14 "_law_cell_at" = true) (k14 : PySem.W.keepIn K (.ref f14) = true)
    (a15 : PySem.W.nsIn K mainGlobals "_law_draw" = some (some (.ref f15))) (l15 : K.lookup f15 = some ⟨oc15, od15, .func (PySem.W.fnOf "_law_draw" "_law_draw" (C8.fnArgs s__law_draw) (C8.fnBody s__law_draw) (C8.fnScope s__law_draw) .none kV15 dc15 pm15 an15 cd15 ct15), sl15⟩) (c15 : PySem.W.codeIn K cd15 "_law_draw" = true) (k15 : PySem.W.keepIn K (.ref f15) = true)
    (a16 : PySem.W.nsIn K mainGlobals "_law_value" = some (some (.ref f16))) (l16 : K.lookup f16 = some ⟨oc16, od16, .func (PySem.W.fnOf "_law_value" "_law_value" (C8.fnArgs s__law_value) (C8.fnBody s__law_value) (C8.fnScope s__law_value) .none kV16 dc16 pm16 an16 cd16 ct16), sl16⟩) (c16 : PySem.W.codeIn K cd16 "_law_value" = true) (k16 : PySem.W.keepIn K (.ref f16) = true)
    (a17 : PySem.W.nsIn K mainGlobals "_law_whole" = some (some (.ref f17))) (l17 : K.lookup f17 = some ⟨oc17, od17, .func (PySem.W.fnOf "_law_whole" "_law_whole" (C8.fnArgs s__law_whole) (C8.fnBody s__law_whole) (C8.fnScope s__law_whole) .none kV17 dc17 pm17 an17 cd17 ct17), sl17⟩) (c17 : PySem.W.codeIn K cd17 "_law_whole" = true) (k17 : PySem.W.keepIn K (.ref f17) = true)
    (a18 : PySem.W.nsIn K mainGlobals "_law_rest" = some (some (.ref f18))) (l18 : K.lookup f18 = some ⟨oc18, od18, .func (PySem.W.fnOf "_law_rest" "_law_rest" (C8.fnArgs s__law_rest) (C8.fnBody s__law_rest) (C8.fnScope s__law_rest) .none kV18 dc18 pm18 an18 cd18 ct18), sl18⟩) (c18 : PySem.W.codeIn K cd18 "_law_rest" = true) (k18 : PySem.W.keepIn K (.ref f18) = true)
    (a19 : PySem.W.nsIn K mainGlobals "_law_number_right" = some (some (.ref f19))) (l19 : K.lookup f19 = some ⟨oc19, od19, .func (PySem.W.fnOf "_law_number_right" "_law_number_right" (C8.fnArgs s__law_number_right) (C8.fnBody s__law_number_right) (C8.fnScope s__law_number_right) .none kV19 dc19 pm19 an19 cd19 ct19), sl19⟩) (c19 : PySem.W.codeIn K cd19 "_law_number_right" = true) (k19 : PySem.W.keepIn K (.ref f19) = true)
    (a20 : PySem.W.nsIn K mainGlobals "_law_dealt_right" = some (some (.ref f20))) (l20 : K.lookup f20 = some ⟨oc20, od20, .func (PySem.W.fnOf "_law_dealt_right" "_law_dealt_right" (C8.fnArgs s__law_dealt_right) (C8.fnBody s__law_dealt_right) (C8.fnScope s__law_dealt_right) .none kV20 dc20 pm20 an20 cd20 ct20), sl20⟩) (c20 : PySem.W.codeIn K cd20 "_law_dealt_right" = true) (k20 : PySem.W.keepIn K (.ref f20) = true)
    (a21 : PySem.W.nsIn K mainGlobals "law" = some (some (.ref f21))) (l21 : K.lookup f21 = some ⟨oc21, od21, .func (PySem.W.fnOf "law" "law" (C8.fnArgs s_law) (C8.fnBody s_law) (C8.fnScope s_law) .none kV21 dc21 pm21 an21 cd21 ct21), sl21⟩) (c21 : PySem.W.codeIn K cd21 "law" = true) (k21 : PySem.W.keepIn K (.ref f21) = true)
    : ∃ fd : FuncData, (∀ (s : Shared) (v : Value), BindsTo s fd ⟨[v], []⟩ [("_law_script", v)]) ∧ ∀ base : Heap, K.In base → base.Ns mainGlobals mg → FnOk l.prog w K mg base C8.CX0 6 fa fd ["_law_script"] (spLaw K) := by
  have e := hfa.symm.trans (PySem.W.mg_of X G a21)
  cases e
  refine ⟨PySem.W.fnOf "law" "law" (C8.fnArgs s_law) (C8.fnBody s_law) (C8.fnScope s_law) .none kV21 dc21 pm21 an21 cd21 ct21, fun s v => .of_eq rfl, fun base _ _ => ?_⟩
  have g_MOST := PySem.W.mg_of X G n_MOST
  have B : Bt mg := ⟨PySem.W.mg_none_of X G z_len, PySem.W.mg_none_of X G z_sum, PySem.W.mg_none_of X G z_all, PySem.W.mg_none_of X G z_any, PySem.W.mg_none_of X G z_zip, PySem.W.mg_none_of X G z_range, PySem.W.mg_none_of X G z_sorted, PySem.W.mg_none_of X G z_isinstance, PySem.W.mg_none_of X G z_int, PySem.W.mg_none_of X G z_bool, PySem.W.mg_none_of X G z_list, PySem.W.mg_none_of X G z_tuple, PySem.W.mg_none_of X G z_enumerate, PySem.W.mg_none_of X G z_min, PySem.W.mg_none_of X G z_max, PySem.W.mg_none_of X G z_abs⟩
  have clS : Cls K CS := ⟨pgS, hdS, poS, saS⟩
  have F1 : C8.Fun K "__init__" "Same.__init__" s_Same___init__ f1 _ := ⟨_, _, _, _, _, _, _, _, _, _, rfl, l1, c1⟩
  have k_Same := no_init (P := l.prog) (w := w) (base := base) ⟨mkS, a1, i1, kcS⟩ (PySem.W.mg_of X G aCS) F1 (F1.binds rfl (ps := ["self", "places"]) (fun _ _ _ _ _ _ us hl => match us, hl with | [_, _], _ => rfl))
  have clU : Cls K CU := ⟨pgU, hdU, poU, saU⟩
  have U : UCl K mg CU := ⟨clU, nUpower, nUmore, PySem.W.mg_of X G aCU⟩
  have iU : C8.InsC K CU := ⟨clU, haU, hn, htk, hmU, if_pos (beq_self_eq_true _)⟩
  have F2 : C8.Fun K "__init__" "Unlike.__init__" s_Unlike___init__ f2 _ := ⟨_, _, _, _, _, _, _, _, _, _, rfl, l2, c2⟩
  have k_Unlike := ok_uinit (P := l.prog) (w := w) (base := base) U ⟨mkU, a2, i2, kcU⟩ F2 (F2.binds rfl (ps := ["self", "power", "more"]) (fun _ _ _ _ _ _ us hl => match us, hl with | [_, _, _], _ => rfl))
  have F3 : C8.Def K mg "is_whole" s_is_whole f3 _ := ⟨⟨_, _, _, _, _, _, _, _, _, _, rfl, l3, c3⟩, PySem.W.mg_of X G a3, k3⟩
  have c_is_whole := ok_is_whole (P := l.prog) (w := w) (base := base) B F3 (F3.fn.binds rfl (ps := ["thing"]) (fun _ _ _ _ _ _ us hl => match us, hl with | [_], _ => rfl))
  have F4 : C8.Def K mg "check_heap" s_check_heap f4 _ := ⟨⟨_, _, _, _, _, _, _, _, _, _, rfl, l4, c4⟩, PySem.W.mg_of X G a4, k4⟩
  have c_check_heap := ok_check_heap (T := []) (P := l.prog) (w := w) (base := base) B F4 (F4.fn.binds rfl (ps := ["heap"]) (fun _ _ _ _ _ _ us hl => match us, hl with | [_], _ => rfl)) c_is_whole
  have F5 : C8.Def K mg "left_of" s_left_of f5 _ := ⟨⟨_, _, _, _, _, _, _, _, _, _, rfl, l5, c5⟩, PySem.W.mg_of X G a5, k5⟩
  have c_left_of := ok_left_of (T := []) (P := l.prog) (w := w) (base := base) F5 (F5.fn.binds rfl (ps := ["one", "other"]) (fun _ _ _ _ _ _ us hl => match us, hl with | [_, _], _ => rfl))
  have F6 : C8.Def K mg "alike" s_alike f6 _ := ⟨⟨_, _, _, _, _, _, _, _, _, _, rfl, l6, c6⟩, PySem.W.mg_of X G a6, k6⟩
  have c_alike := ok_alikeU (P := l.prog) (w := w) (base := base) B F6 (F6.fn.binds rfl (ps := ["one", "other"]) (fun _ _ _ _ _ _ us hl => match us, hl with | [_, _], _ => rfl)) c_check_heap c_left_of k_Same k_Unlike
  have F7 : C8.Def K mg "check_heaps" s_check_heaps f7 _ := ⟨⟨_, _, _, _, _, _, _, _, _, _, rfl, l7, c7⟩, PySem.W.mg_of X G a7, k7⟩
  have c_check_heaps := ok_check_heaps (P := l.prog) (w := w) (base := base) F7 (F7.fn.binds rfl (ps := ["heaps"]) (fun _ _ _ _ _ _ us hl => match us, hl with | [_], _ => rfl)) c_is_whole
  have F8 : C8.Def K mg "check_place" s_check_place f8 _ := ⟨⟨_, _, _, _, _, _, _, _, _, _, rfl, l8, c8⟩, PySem.W.mg_of X G a8, k8⟩
  have c_check_place := ok_check_place (P := l.prog) (w := w) (base := base) F8 (F8.fn.binds rfl (ps := ["number"]) (fun _ _ _ _ _ _ us hl => match us, hl with | [_], _ => rfl)) c_is_whole
  have F9 : C8.Def K mg "rest_of" s_rest_of f9 _ := ⟨⟨_, _, _, _, _, _, _, _, _, _, rfl, l9, c9⟩, PySem.W.mg_of X G a9, k9⟩
  have c_rest_of := ok_rest_of (P := l.prog) (w := w) (base := base) F9 (F9.fn.binds rfl (ps := ["heaps", "number"]) (fun _ _ _ _ _ _ us hl => match us, hl with | [_, _], _ => rfl))
  have F10 : C8.Def K mg "heap_of" s_heap_of f10 _ := ⟨⟨_, _, _, _, _, _, _, _, _, _, rfl, l10, c10⟩, PySem.W.mg_of X G a10, k10⟩
  have c_heap_of := ok_heap_of (P := l.prog) (w := w) (base := base) F10 (F10.fn.binds rfl (ps := ["heaps", "number"]) (fun _ _ _ _ _ _ us hl => match us, hl with | [_, _], _ => rfl)) c_check_heaps c_check_place c_rest_of
  have F11 : C8.Def K mg "place_of" s_place_of f11 _ := ⟨⟨_, _, _, _, _, _, _, _, _, _, rfl, l11, c11⟩, PySem.W.mg_of X G a11, k11⟩
  have c_place_of := ok_place_of (P := l.prog) (w := w) (base := base) F11 (F11.fn.binds rfl (ps := ["heaps", "number"]) (fun _ _ _ _ _ _ us hl => match us, hl with | [_, _], _ => rfl)) c_check_heaps c_check_place
  have F12 : C8.Def K mg "number_at" s_number_at f12 _ := ⟨⟨_, _, _, _, _, _, _, _, _, _, rfl, l12, c12⟩, PySem.W.mg_of X G a12, k12⟩
  have c_number_at := ok_number_at (P := l.prog) (w := w) (base := base) F12 (F12.fn.binds rfl (ps := ["heaps", "heap", "place"]) (fun _ _ _ _ _ _ us hl => match us, hl with | [_, _, _], _ => rfl)) c_is_whole c_check_heaps c_check_place c_rest_of
  have F13 : C8.Def K mg "dealt" s_dealt f13 _ := ⟨⟨_, _, _, _, _, _, _, _, _, _, rfl, l13, c13⟩, PySem.W.mg_of X G a13, k13⟩
  have c_dealt := ok_dealt (T := []) (P := l.prog) (w := w) (base := base) B g_MOST F13 (F13.fn.binds rfl (ps := ["heaps", "figures"]) (fun _ _ _ _ _ _ us hl => match us, hl with | [_, _], _ => rfl)) c_is_whole c_check_heaps c_rest_of
  have F14 : C8.Def K mg "_law_cell_at" s__law_cell_at f14 _ := ⟨⟨_, _, _, _, _, _, _, _, _, _, rfl, l14, c14⟩, PySem.W.mg_of X G a14, k14⟩
  have c__law_cell_at := ok_cell_at (P := l.prog) (w := w) (base := base) B F14 (F14.fn.binds rfl (ps := ["_law_script", "_law_k"]) (fun _ _ _ _ _ _ us hl => match us, hl with | [_, _], _ => rfl))
  have F15 : C8.Def K mg "_law_draw" s__law_draw f15 _ := ⟨⟨_, _, _, _, _, _, _, _, _, _, rfl, l15, c15⟩, PySem.W.mg_of X G a15, k15⟩
  have c__law_draw := ok_draw (T := []) (P := l.prog) (w := w) (base := base) B F15 (F15.fn.binds rfl (ps := ["_law_cell", "_law_k", "_law_many"]) (fun _ _ _ _ _ _ us hl => match us, hl with | [_, _, _], _ => rfl))
  have F16 : C8.Def K mg "_law_value" s__law_value f16 _ := ⟨⟨_, _, _, _, _, _, _, _, _, _, rfl, l16, c16⟩, PySem.W.mg_of X G a16, k16⟩
  have c__law_value := ok_value (T := []) (P := l.prog) (w := w) (base := base) B F16 (F16.fn.binds rfl (ps := ["_law_cell", "_law_k", "_law_most"]) (fun _ _ _ _ _ _ us hl => match us, hl with | [_, _, _], _ => rfl)) c__law_draw
  have F17 : C8.Def K mg "_law_whole" s__law_whole f17 _ := ⟨⟨_, _, _, _, _, _, _, _, _, _, rfl, l17, c17⟩, PySem.W.mg_of X G a17, k17⟩
  have c__law_whole := ok_law_whole (P := l.prog) (w := w) (base := base) B F17 (F17.fn.binds rfl (ps := ["_law_number"]) (fun _ _ _ _ _ _ us hl => match us, hl with | [_], _ => rfl))
  have F18 : C8.Def K mg "_law_rest" s__law_rest f18 _ := ⟨⟨_, _, _, _, _, _, _, _, _, _, rfl, l18, c18⟩, PySem.W.mg_of X G a18, k18⟩
  have c__law_rest := ok_law_rest (P := l.prog) (w := w) (base := base) F18 (F18.fn.binds rfl (ps := ["_law_heaps", "_law_number"]) (fun _ _ _ _ _ _ us hl => match us, hl with | [_, _], _ => rfl))
  have F19 : C8.Def K mg "_law_number_right" s__law_number_right f19 _ := ⟨⟨_, _, _, _, _, _, _, _, _, _, rfl, l19, c19⟩, PySem.W.mg_of X G a19, k19⟩
  have c__law_number_right := ok_number_right (T := []) (P := l.prog) (w := w) (base := base) B F19 (F19.fn.binds rfl (ps := ["_law_heaps", "_law_number"]) (fun _ _ _ _ _ _ us hl => match us, hl with | [_, _], _ => rfl)) c_heap_of c_place_of c_number_at c__law_whole c__law_rest
  have F20 : C8.Def K mg "_law_dealt_right" s__law_dealt_right f20 _ := ⟨⟨_, _, _, _, _, _, _, _, _, _, rfl, l20, c20⟩, PySem.W.mg_of X G a20, k20⟩
  have c__law_dealt_right := ok_dealt_right (T := []) (P := l.prog) (w := w) (base := base) B U iU F20 (F20.fn.binds rfl (ps := ["_law_heaps", "_law_figures"]) (fun _ _ _ _ _ _ us hl => match us, hl with | [_, _], _ => rfl)) c_dealt c__law_rest c_alike
  have F21 : C8.Def K mg "law" s_law fa _ := ⟨⟨_, _, _, _, _, _, _, _, _, _, rfl, l21, c21⟩, PySem.W.mg_of X G a21, k21⟩
  have c_law := ok_law (T := []) (P := l.prog) (w := w) (base := base) B F21 c__law_draw c__law_cell_at c__law_value c__law_number_right c__law_dealt_right c_heap_of c_number_at c_dealt
  exact c_law
end
end Wk
open PySem PySem.W PyProof.Rows in
set_option maxRecDepth 100000 in
set_option maxHeartbeats 0 in
theorem PySem.Challenge.cw_evenpowers_k03_whole_dealt_holds : PySem.Challenge.rw_evenpowers_k03_whole_dealt.Holds := by
  w_on; o_law; k_head; (case hw => w_witness2)
  k_fill
  refine L2.walk_ofB (l := PySem.Challenge.rw_evenpowers_k03_whole_dealt) (n := 63) (k := 6) (x := "_law_script") (CX := fun _ => C8.CX0) (sp := fun w => Wk.spLaw _) rfl (by decide) rfl ⟨rfl, by decide, by decide⟩ (fun w h Y => PySem.W.km_in_of Y) ?F (fun _ H a ns hl hb _ hS => ⟨a, ns, rfl, hS, hl, hb, fun _ => rfl⟩) (fun _ _ _ _ _ h => h)
  case F =>
    intro w mg fa h KX G hmg
    refine' Wk.all_mk KX G hmg ?z_len ?z_sum ?z_all ?z_any ?z_zip ?z_range ?z_sorted ?z_isinstance ?z_int ?z_bool ?z_list ?z_tuple ?z_enumerate ?z_min ?z_max ?z_abs ?n_MOST ?aCS ?pgS ?hdS ?poS ?saS ?mkS ?kcS ?a1 ?l1 ?c1 ?k1 ?i1 ?aCU ?pgU ?hdU ?poU ?saU ?mkU ?kcU ?nUpower ?nUmore ?haU ?hmU ?a2 ?l2 ?c2 ?k2 ?i2 ?hn ?htk ?a3 ?l3 ?c3 ?k3 ?a4 ?l4 ?c4 ?k4 ?a5 ?l5 ?c5 ?k5 ?a6 ?l6 ?c6 ?k6 ?a7 ?l7 ?c7 ?k7 ?a8 ?l8 ?c8 ?k8 ?a9 ?l9 ?c9 ?k9 ?a10 ?l10 ?c10 ?k10 ?a11 ?l11 ?c11 ?k11 ?a12 ?l12 ?c12 ?k12 ?a13 ?l13 ?c13 ?k13 ?a14 ?l14 ?c14 ?k14 ?a15 ?l15 ?c15 ?k15 ?a16 ?l16 ?c16 ?k16 ?a17 ?l17 ?c17 ?k17 ?a18 ?l18 ?c18 ?k18 ?a19 ?l19 ?c19 ?k19 ?a20 ?l20 ?c20 ?k20 ?a21 ?l21 ?c21 ?k21
    (case z_len => k_is)
    (case z_sum => k_is)
    (case z_all => k_is)
    (case z_any => k_is)
    (case z_zip => k_is)
    (case z_range => k_is)
    (case z_sorted => k_is)
    (case z_isinstance => k_is)
    (case z_int => k_is)
    (case z_bool => k_is)
    (case z_list => k_is)
    (case z_tuple => k_is)
    (case z_enumerate => k_is)
    (case z_min => k_is)
    (case z_max => k_is)
    (case z_abs => k_is)
    (case n_MOST => k_is)
    (case aCS => k_is)
    (case pgS => k_is)
    (case hdS => k_is)
    (case poS => k_is)
    (case saS => k_is)
    (case mkS => k_is)
    (case kcS => k_is)
    (case a1 => k_is)
    (case l1 => k_is)
    (case c1 => k_is)
    (case k1 => k_is)
    (case i1 => k_is)
    (case aCU => k_is)
    (case pgU => k_is)
    (case hdU => k_is)
    (case poU => k_is)
    (case saU => k_is)
    (case mkU => k_is)
    (case kcU => k_is)
    (case nUpower => k_is)
    (case nUmore => k_is)
    (case haU => k_is)
    (case hmU => k_is)
    (case a2 => k_is)
    (case l2 => k_is)
    (case c2 => k_is)
    (case k2 => k_is)
    (case i2 => k_is)
    (case hn => k_is)
    (case htk => k_is)
    (case a3 => k_is)
    (case l3 => k_is)
    (case c3 => k_is)
    (case k3 => k_is)
    (case a4 => k_is)
    (case l4 => k_is)
    (case c4 => k_is)
    (case k4 => k_is)
    (case a5 => k_is)
    (case l5 => k_is)
    (case c5 => k_is)
    (case k5 => k_is)
    (case a6 => k_is)
    (case l6 => k_is)
    (case c6 => k_is)
    (case k6 => k_is)
    (case a7 => k_is)
    (case l7 => k_is)
    (case c7 => k_is)
    (case k7 => k_is)
    (case a8 => k_is)
    (case l8 => k_is)
    (case c8 => k_is)
    (case k8 => k_is)
    (case a9 => k_is)
    (case l9 => k_is)
    (case c9 => k_is)
    (case k9 => k_is)
    (case a10 => k_is)
    (case l10 => k_is)
    (case c10 => k_is)
    (case k10 => k_is)
    (case a11 => k_is)
    (case l11 => k_is)
    (case c11 => k_is)
    (case k11 => k_is)
    (case a12 => k_is)
    (case l12 => k_is)
    (case c12 => k_is)
    (case k12 => k_is)
    (case a13 => k_is)
    (case l13 => k_is)
    (case c13 => k_is)
    (case k13 => k_is)
    (case a14 => k_is)
    (case l14 => k_is)
    (case c14 => k_is)
    (case k14 => k_is)
    (case a15 => k_is)
    (case l15 => k_is)
    (case c15 => k_is)
    (case k15 => k_is)
    (case a16 => k_is)
    (case l16 => k_is)
    (case c16 => k_is)
    (case k16 => k_is)
    (case a17 => k_is)
    (case l17 => k_is)
    (case c17 => k_is)
    (case k17 => k_is)
    (case a18 => k_is)
    (case l18 => k_is)
    (case c18 => k_is)
    (case k18 => k_is)
    (case a19 => k_is)
    (case l19 => k_is)
    (case c19 => k_is)
    (case k19 => k_is)
    (case a20 => k_is)
    (case l20 => k_is)
    (case c20 => k_is)
    (case k20 => k_is)
    (case a21 => k_is)
    (case l21 => k_is)
    (case c21 => k_is)
    (case k21 => k_is)
