import PyProof.Rows.All
import Wide.All
import OpenK.AllK
import Wide.FinOn
import HandS.ForMost
import HandS.ForExc
import HandS.Evl
import HandS.IsInst
import HandS.SortInts
import HandS.Style
import HandS.Conv
import KE.KRevSl
import PySem.Challenge.RW_risefall_k01_whole_counts
set_option maxHeartbeats 1000000
namespace MC
/-! ### sums ahead of each place, and behind it -/
def pres (xs : List Int) : List Int := (List.range (xs.length + 1)).map fun j => (xs.take j).sum
def sufs (xs : List Int) : List Int := (List.range (xs.length + 1)).map fun j => (xs.drop j).sum
def step (b : Bool) (xs : List Int) : List Int := if b then pres xs else sufs xs
def run (v : List Bool) (xs : List Int) : List Int := v.foldl (fun l b => step b l) xs
def G (v : List Bool) (xs : List Int) : Int := (run v xs).sum
def F (v : List Bool) : Int := G v [1]

theorem pres_len (xs : List Int) : (pres xs).length = xs.length + 1 := by simp [pres]
theorem sufs_len (xs : List Int) : (sufs xs).length = xs.length + 1 := by simp [sufs]
theorem step_len (b : Bool) (xs : List Int) : (step b xs).length = xs.length + 1 := by
  cases b <;> simp [step, pres_len, sufs_len]
theorem run_cons (b : Bool) (v : List Bool) (xs : List Int) : run (b :: v) xs = run v (step b xs) := rfl
theorem run_append (v w : List Bool) (xs : List Int) : run (v ++ w) xs = run w (run v xs) := by simp [run, List.foldl_append]
theorem run_len (v : List Bool) (xs : List Int) : (run v xs).length = xs.length + v.length := by
  induction v generalizing xs with
  | nil => rfl
  | cons b v ih => rw [run_cons, ih, step_len, List.length_cons]; omega
theorem G_cons (b : Bool) (v : List Bool) (xs : List Int) : G (b :: v) xs = G v (step b xs) := rfl
theorem G_append (v w : List Bool) (xs : List Int) : G (v ++ w) xs = G w (run v xs) := by simp [G, run_append]
theorem take_drop_sum (xs : List Int) (j : Nat) : (xs.take j).sum + (xs.drop j).sum = xs.sum := by
  rw [← List.sum_append_int, List.take_append_drop]
theorem sufs_eq (xs : List Int) : sufs xs = (pres xs).map (fun s => xs.sum - s) := by
  simp only [sufs, pres, List.map_map]
  refine List.map_congr_left fun j _ => ?_
  have h := take_drop_sum xs j
  simp only [Function.comp]
  omega

/-! ### reversing -/
theorem sum_rev (xs : List Int) : xs.reverse.sum = xs.sum := by
  induction xs with
  | nil => rfl
  | cons x r ih => rw [List.reverse_cons, List.sum_append_int, ih]; simp only [List.sum_cons, List.sum_nil]; omega
theorem pres_rev (xs : List Int) : pres xs.reverse = (sufs xs).reverse := by
  apply List.ext_getElem
  · simp [pres_len, sufs_len]
  · intro i h1 h2
    have hi : i < xs.length + 1 := by simpa [pres_len] using h1
    simp only [pres, sufs, List.getElem_map, List.getElem_range, List.getElem_reverse, List.length_map, List.length_range]
    rw [List.take_reverse, sum_rev]
    congr 2
theorem sufs_rev (xs : List Int) : sufs xs.reverse = (pres xs).reverse := by
  have h := pres_rev xs.reverse
  rw [List.reverse_reverse] at h
  rw [h, List.reverse_reverse]
theorem step_rev (b : Bool) (xs : List Int) : step (!b) xs.reverse = (step b xs).reverse := by
  cases b
  · exact pres_rev xs
  · exact sufs_rev xs
theorem run_rev (v : List Bool) (xs : List Int) : run (v.map (!·)) xs.reverse = (run v xs).reverse := by
  induction v generalizing xs with
  | nil => rfl
  | cons b v ih => rw [List.map_cons, run_cons, run_cons, step_rev, ih]
theorem G_rev (v : List Bool) (xs : List Int) : G (v.map (!·)) xs.reverse = G v xs := by
  unfold G; rw [run_rev, sum_rev]
theorem F_not (v : List Bool) : F (v.map (!·)) = F v := G_rev v [1]

/-! ### adding and multiplying -/
def add : List Int → List Int → List Int
  | x :: xs, y :: ys => (x + y) :: add xs ys
  | _, _ => []
def scale (c : Int) (xs : List Int) : List Int := xs.map (c * ·)
theorem add_len : ∀ {xs ys : List Int}, xs.length = ys.length → (add xs ys).length = xs.length
  | [], [], _ => rfl
  | x :: xs, y :: ys, h => by simp only [add, List.length_cons]; rw [add_len (by simpa using h)]
theorem add_sum : ∀ {xs ys : List Int}, xs.length = ys.length → (add xs ys).sum = xs.sum + ys.sum
  | [], [], _ => rfl
  | x :: xs, y :: ys, h => by
    have ih := add_sum (xs := xs) (ys := ys) (by simpa using h)
    simp only [add, List.sum_cons, ih]; omega
theorem add_take : ∀ (xs ys : List Int) (j : Nat), (add xs ys).take j = add (xs.take j) (ys.take j)
  | _, _, 0 => by simp [add]
  | [], _, j + 1 => by simp [add]
  | x :: xs, [], j + 1 => by simp [add]
  | x :: xs, y :: ys, j + 1 => by simp [add, add_take xs ys j]
theorem add_drop : ∀ (xs ys : List Int) (j : Nat), xs.length = ys.length → (add xs ys).drop j = add (xs.drop j) (ys.drop j)
  | _, _, 0, _ => by simp
  | [], [], j + 1, _ => by simp [add]
  | x :: xs, y :: ys, j + 1, h => by simp [add, add_drop xs ys j (by simpa using h)]
theorem add_map (l : List Nat) (f g : Nat → Int) : add (l.map f) (l.map g) = l.map fun i => f i + g i := by
  induction l with
  | nil => rfl
  | cons x r ih => simp [add, ih]
theorem step_add (b : Bool) {xs ys : List Int} (h : xs.length = ys.length) : step b (add xs ys) = add (step b xs) (step b ys) := by
  cases b
  · simp only [step, sufs, Bool.false_eq_true, if_false, add_len h, ← h, add_map]
    refine List.map_congr_left fun j _ => ?_
    rw [add_drop _ _ _ h, add_sum (by simp [h])]
  · simp only [step, pres, if_true, add_len h, ← h, add_map]
    refine List.map_congr_left fun j _ => ?_
    rw [add_take, add_sum (by simp [h])]
theorem G_add (v : List Bool) {xs ys : List Int} (h : xs.length = ys.length) : G v (add xs ys) = G v xs + G v ys := by
  induction v generalizing xs ys with
  | nil => exact add_sum h
  | cons b v ih =>
    rw [G_cons, G_cons, G_cons, step_add b h, ih (by rw [step_len, step_len, h])]
theorem scale_sum (c : Int) (xs : List Int) : (scale c xs).sum = c * xs.sum := by
  induction xs with
  | nil => simp [scale]
  | cons x r ih => simp only [scale, List.map_cons, List.sum_cons] at ih ⊢; rw [ih, Int.mul_add]
theorem step_scale (b : Bool) (c : Int) (xs : List Int) : step b (scale c xs) = scale c (step b xs) := by
  cases b
  · simp only [step, sufs, Bool.false_eq_true, if_false, scale, List.length_map, List.map_map]
    refine List.map_congr_left fun j _ => ?_
    rw [← List.map_drop]
    exact scale_sum c _
  · simp only [step, pres, if_true, scale, List.length_map, List.map_map]
    refine List.map_congr_left fun j _ => ?_
    rw [← List.map_take]
    exact scale_sum c _
theorem G_scale (v : List Bool) (c : Int) (xs : List Int) : G v (scale c xs) = c * G v xs := by
  induction v generalizing xs with
  | nil => exact scale_sum c xs
  | cons b v ih => rw [G_cons, G_cons, step_scale, ih]
/-- the two letters together -/
def ones (m : Nat) : List Int := List.replicate m 1
theorem both (xs : List Int) : add (step true xs) (step false xs) = scale xs.sum (ones (xs.length + 1)) := by
  simp only [step, if_true, Bool.false_eq_true, if_false, pres, sufs, add_map]
  apply List.ext_getElem
  · simp [scale, ones]
  · intro i h1 h2
    simp only [List.getElem_map, scale, ones, List.getElem_replicate, take_drop_sum]
    omega
theorem G_both (v w : List Bool) (xs : List Int) : G (v ++ true :: w) xs + G (v ++ false :: w) xs = G v xs * G w (ones (xs.length + v.length + 1)) := by
  rw [G_append, G_append, G_cons, G_cons, ← G_add w (by rw [step_len, step_len]), both, G_scale, run_len]
  rfl
def g (v : List Bool) (m : Nat) : Int := G v (ones m)
theorem F_g (v : List Bool) : F v = g v 1 := rfl
theorem g_both (v w : List Bool) (m : Nat) : g (v ++ true :: w) m + g (v ++ false :: w) m = g v m * g w (m + v.length + 1) := by
  have h := G_both v w (ones m)
  rw [show (ones m).length = m by simp [ones]] at h
  exact h

/-! ### the product law -/
def fac : Nat → Int
  | 0 => 1
  | n + 1 => ((n : Int) + 1) * fac n
theorem fac_pos : ∀ n, 0 < fac n
  | 0 => by decide
  | n + 1 => by
    have h := fac_pos n
    show 0 < ((n : Int) + 1) * fac n
    exact Int.mul_pos (by omega) h
theorem fac_succ (n : Nat) : fac (n + 1) = ((n : Int) + 1) * fac n := rfl
/-- prefix sums of a list whose j-th item is known -/
theorem sum_take_range (f : Nat → Int) (n : Nat) : ∀ j, j ≤ n → (((List.range n).map f).take j).sum = ((List.range j).map f).sum := by
  intro j hj
  rw [← List.map_take, List.take_range, Nat.min_eq_left hj]
theorem sum_range_succ (f : Nat → Int) (n : Nat) : ((List.range (n + 1)).map f).sum = ((List.range n).map f).sum + f n := by
  rw [List.range_succ, List.map_append, List.sum_append_int]; simp
/-- the rows behind k rises over m + 1 ones -/
def cu (k i : Nat) : Int := match k, i with
  | 0, _ => 1
  | _ + 1, 0 => 0
  | k + 1, i + 1 => cu (k + 1) i + cu k i
theorem cu_zero (k : Nat) : cu (k + 1) 0 = 0 := by simp [cu]
theorem cu_succ (k i : Nat) : cu (k + 1) (i + 1) = cu (k + 1) i + cu k i := by simp [cu]
theorem cu_sum (k : Nat) : ∀ n, ((List.range n).map (cu k)).sum = cu (k + 1) n
  | 0 => by simp [cu_zero]
  | n + 1 => by rw [sum_range_succ, cu_sum k n, cu_succ]
theorem run_us (k m : Nat) : run (List.replicate k true) (ones m) = (List.range (m + k)).map (cu k) := by
  induction k with
  | zero =>
    simp only [List.replicate_zero, run, List.foldl_nil, ones, Nat.add_zero]
    apply List.ext_getElem
    · simp
    · intro i h1 h2; simp [cu]
  | succ k ih =>
    rw [List.replicate_succ', run_append, ih]
    show step true _ = _
    simp only [step, if_true, pres, List.length_map, List.length_range]
    refine List.map_congr_left fun j hj => ?_
    have hj' : j < m + k + 1 := List.mem_range.mp hj
    rw [sum_take_range _ _ _ (by omega), cu_sum]
theorem g_us (k m : Nat) : g (List.replicate k true) m = cu (k + 1) (m + k) := by
  unfold g G
  rw [run_us, cu_sum]
/-- cu k (n + k) = (n + k - 1 over k) ..: by factorials -/
theorem cu_low : ∀ (k i : Nat), i < k → cu k i = 0
  | 0, _, h => by omega
  | k + 1, 0, _ => cu_zero k
  | k + 1, i + 1, h => by
    rw [cu_succ, cu_low (k + 1) i (by omega), cu_low k i (by omega)]; rfl
theorem cu_fac : ∀ (i k : Nat), fac k * fac i * cu k (i + k) = fac (i + k)
  | i, 0 => by simp [cu, fac]
  | 0, k + 1 => by
    have ih := cu_fac 0 k
    rw [Nat.zero_add] at ih ⊢
    rw [cu_succ, cu_low (k + 1) k (by omega), fac_succ]
    rw [show (0 : Int) + cu k k = cu k k by omega]
    rw [Int.mul_assoc, Int.mul_assoc, ← Int.mul_assoc (fac k), ih]
  | i + 1, k + 1 => by
    have h1 := cu_fac i (k + 1)
    have h2 := cu_fac (i + 1) k
    have e1 : i + 1 + (k + 1) = (i + (k + 1)) + 1 := by omega
    have e2 : i + 1 + k = i + (k + 1) := by omega
    rw [e2] at h2
    rw [e1, cu_succ, fac_succ (i + (k + 1))]
    rw [fac_succ k] at h1 ⊢
    rw [fac_succ i] at h2 ⊢
    push_cast
    generalize cu (k + 1) (i + (k + 1)) = a at *
    generalize cu k (i + (k + 1)) = b at *
    generalize fac (i + (k + 1)) = c at *
    generalize fac i = d at *
    generalize fac k = e at *
    grind

theorem us_or_d : ∀ v : List Bool, v = List.replicate v.length true ∨ ∃ j w, v = List.replicate j true ++ false :: w
  | [] => .inl rfl
  | false :: w => .inr ⟨0, w, rfl⟩
  | true :: w => by
    rcases us_or_d w with h | ⟨j, w', h⟩
    · left; rw [List.length_cons, List.replicate_succ, ← h]
    · right; exact ⟨j + 1, w', by rw [List.replicate_succ, h]; rfl⟩
theorem fac_ne (n : Nat) : fac n ≠ 0 := by have := fac_pos n; omega
theorem g_us_one (k : Nat) : g (List.replicate k true) 1 = 1 := by
  rw [g_us]
  have h := cu_fac 0 (k + 1)
  rw [show 0 + (k + 1) = 1 + k by omega] at h
  rw [show k + 1 = 1 + k by omega] at h ⊢
  have h0 : fac 0 = 1 := rfl
  rw [h0, Int.mul_one] at h
  have h2 : fac (1 + k) * cu (1 + k) (1 + k) = fac (1 + k) * 1 := by rw [h, Int.mul_one]
  exact Int.eq_of_mul_eq_mul_left (fac_ne _) h2
theorem g_us_fac (k m : Nat) : fac m * fac (k + 1) * g (List.replicate k true) (m + 1) = fac (m + k + 1) := by
  rw [g_us]
  have h := cu_fac m (k + 1)
  rw [show m + 1 + k = m + (k + 1) by omega, Int.mul_comm (fac m), h]
  rfl
/-- a row of more ones: as many as from one, times a binomial -/
theorem prodA : ∀ (n : Nat) (v : List Bool), v.count false = n → ∀ m, fac m * fac (v.length + 1) * g v (m + 1) = fac (m + v.length + 1) * g v 1 := by
  intro n
  induction n with
  | zero =>
    intro v hv m
    rcases us_or_d v with h | ⟨j, w, h⟩
    · rw [h, List.length_replicate, g_us_fac, g_us_one, Int.mul_one]
    · rw [h] at hv; simp [List.count_append, List.count_replicate] at hv
  | succ n ih =>
    intro v hv m
    rcases us_or_d v with h | ⟨j, w, h⟩
    · rw [h] at hv; simp [List.count_replicate] at hv
    · rw [h] at hv
      have hw : w.count false = n := by simpa [List.count_append, List.count_replicate] using hv
      have hw2 : (List.replicate j true ++ true :: w).count false = n := by simp [List.count_append, List.count_replicate, hw]
      have i1 := ih w hw
      have i2 := ih _ hw2 m
      have b1 := g_both (List.replicate j true) w (m + 1)
      have b0 := g_both (List.replicate j true) w 1
      have u1 := g_us_fac j m
      have u0 := g_us_one j
      rw [List.length_replicate] at b1 b0
      have a1 := i1 (m + 1 + j)
      have a0 := i1 (1 + j)
      have el : (List.replicate j true ++ true :: w).length = j + w.length + 1 := by simp; omega
      have el2 : v.length = j + w.length + 1 := by rw [h]; simp; omega
      rw [el] at i2
      rw [el2, h]
      rw [u0, Int.one_mul] at b0
      rw [show j + w.length + 1 + 1 = j + w.length + 2 by omega] at i2 ⊢
      rw [show m + (j + w.length + 1) + 1 = m + j + w.length + 2 by omega] at i2 ⊢
      rw [show m + 1 + j + w.length + 1 = m + j + w.length + 2 by omega, show m + 1 + j = m + j + 1 by omega] at a1
      rw [show 1 + j + w.length + 1 = j + w.length + 2 by omega, show 1 + j = j + 1 by omega] at a0
      rw [show m + 1 + j + 1 = m + j + 1 + 1 by omega] at b1
      rw [show 1 + j + 1 = j + 1 + 1 by omega] at b0
      have p1 := fac_ne (m + j + 1)
      have p2 := fac_ne (j + 1)
      have p3 := fac_ne (w.length + 1)
      generalize g (List.replicate j true ++ true :: w) (m + 1) = T1 at *
      generalize g (List.replicate j true ++ true :: w) 1 = T0 at *
      generalize g (List.replicate j true ++ false :: w) (m + 1) = D1 at *
      generalize g (List.replicate j true ++ false :: w) 1 = D0 at *
      generalize g (List.replicate j true) (m + 1) = U at *
      generalize g w (m + j + 1 + 1) = W1 at *
      generalize g w (j + 1 + 1) = W0 at *
      generalize g w 1 = W at *
      generalize fac (m + j + 1) = A at *
      generalize fac (j + 1) = B at *
      generalize fac (w.length + 1) = C at *
      generalize fac (m + j + w.length + 2) = N at *
      generalize fac (j + w.length + 2) = M at *
      generalize fac m = E at *
      -- D1 = U W1 - T1, D0 = W0 - T0
      have e1 : D1 = U * W1 - T1 := by omega
      have e0 : D0 = W0 - T0 := by omega
      subst e1 e0
      have key : E * M * (U * W1) = N * W0 := by
        apply Int.eq_of_mul_eq_mul_left p2
        apply Int.eq_of_mul_eq_mul_left p3
        apply Int.eq_of_mul_eq_mul_left p1
        -- u1 : E * B * U = A; a1 : A * C * W1 = N * W; a0 : B * C * W0 = M * W
        calc A * (C * (B * (E * M * (U * W1)))) = (E * B * U) * M * (A * C * W1) := by grind
          _ = A * M * (N * W) := by rw [u1, a1]
          _ = A * N * (M * W) := by grind
          _ = A * N * (B * C * W0) := by rw [a0]
          _ = A * (C * (B * (N * W0))) := by grind
      grind
theorem prod (v w : List Bool) : fac (v.length + 1) * fac (w.length + 1) * (F (v ++ true :: w) + F (v ++ false :: w)) = fac (v.length + w.length + 2) * F v * F w := by
  have b := g_both v w 1
  have a := prodA _ w rfl (v.length + 1)
  rw [F_g, F_g, F_g, F_g, b]
  rw [show 1 + v.length + 1 = v.length + 1 + 1 by omega]
  rw [show v.length + 1 + w.length + 1 = v.length + w.length + 2 by omega] at a
  calc fac (v.length + 1) * fac (w.length + 1) * (g v 1 * g w (v.length + 1 + 1)) = (fac (v.length + 1) * fac (w.length + 1) * g w (v.length + 1 + 1)) * g v 1 := by grind
    _ = _ := by rw [a]; grind
theorem us_rev (k : Nat) : (List.replicate k true).reverse = List.replicate k true := by simp
/-- told backwards as many -/
theorem F_reverse : ∀ (n : Nat) (v : List Bool), v.count false = n → F v.reverse = F v := by
  intro n
  induction n with
  | zero =>
    intro v hv
    rcases us_or_d v with h | ⟨j, w, h⟩
    · rw [h, us_rev]
    · rw [h] at hv; simp [List.count_append, List.count_replicate] at hv
  | succ n ih =>
    intro v hv
    rcases us_or_d v with h | ⟨j, w, h⟩
    · rw [h] at hv; simp [List.count_replicate] at hv
    · rw [h] at hv
      have hw : w.count false = n := by simpa [List.count_append, List.count_replicate] using hv
      have hw2 : (List.replicate j true ++ true :: w).count false = n := by simp [List.count_append, List.count_replicate, hw]
      have i1 := ih w hw
      have i2 := ih _ hw2
      have q := prod (List.replicate j true) w
      have r := prod w.reverse (List.replicate j true)
      have er : v.reverse = w.reverse ++ false :: List.replicate j true := by rw [h]; simp
      have er2 : (List.replicate j true ++ true :: w).reverse = w.reverse ++ true :: List.replicate j true := by simp
      rw [er2] at i2
      rw [er, h]
      rw [List.length_reverse, List.length_replicate, i1, i2] at r
      rw [List.length_replicate] at q
      rw [show w.length + j + 2 = j + w.length + 2 by omega] at r
      have p1 := fac_ne (j + 1)
      have p2 := fac_ne (w.length + 1)
      have e : F (List.replicate j true ++ true :: w) + F (w.reverse ++ false :: List.replicate j true) = F (List.replicate j true ++ true :: w) + F (List.replicate j true ++ false :: w) := by
        apply Int.eq_of_mul_eq_mul_left p1
        apply Int.eq_of_mul_eq_mul_left p2
        grind
      omega
theorem F_rev (v : List Bool) : F v.reverse = F v := F_reverse _ v rfl
/-- one letter more -/
theorem F_more (v : List Bool) : F (v ++ [true]) + F (v ++ [false]) = ((v.length : Int) + 2) * F v := by
  have b := g_both v [] 1
  rw [F_g, F_g, b]
  have e : g [] (1 + v.length + 1) = (v.length : Int) + 2 := by
    show (ones (1 + v.length + 1)).sum = _
    have h : ∀ n : Nat, (ones n).sum = (n : Int) := by
      intro n
      induction n with
      | zero => rfl
      | succ n ih => simp only [ones, List.replicate_succ, List.sum_cons] at ih ⊢; rw [ih]; push_cast; omega
    rw [h]; push_cast; omega
  rw [e, F_g, Int.mul_comm]
end MC
set_option maxHeartbeats 1000000
namespace MC
/-! ### none more than by turns -/
inductive Le2 : List Int → List Int → Prop where
  | nil : Le2 [] []
  | cons {x y : Int} {xs ys : List Int} : x ≤ y → Le2 xs ys → Le2 (x :: xs) (y :: ys)
theorem Le2.refl : ∀ xs, Le2 xs xs
  | [] => .nil
  | x :: xs => .cons (Int.le_refl x) (Le2.refl xs)
theorem Le2.len {xs ys : List Int} (h : Le2 xs ys) : xs.length = ys.length := by
  induction h with
  | nil => rfl
  | cons _ _ ih => simp [ih]
theorem Le2.sum {xs ys : List Int} (h : Le2 xs ys) : xs.sum ≤ ys.sum := by
  induction h with
  | nil => exact Int.le_refl _
  | cons h _ ih => simp only [List.sum_cons]; omega
theorem Le2.take {xs ys : List Int} (h : Le2 xs ys) : ∀ j, Le2 (xs.take j) (ys.take j) := by
  induction h with
  | nil => intro j; simp; exact .nil
  | cons h _ ih =>
    intro j
    cases j with
    | zero => exact .nil
    | succ j => exact .cons h (ih j)
theorem Le2.drop {xs ys : List Int} (h : Le2 xs ys) : ∀ j, Le2 (xs.drop j) (ys.drop j) := by
  induction h with
  | nil => intro j; simp; exact .nil
  | cons h h2 ih =>
    intro j
    cases j with
    | zero => exact .cons h h2
    | succ j => exact ih j
theorem Le2.of_get : ∀ {xs ys : List Int}, xs.length = ys.length → (∀ (i : Nat) (h1 : i < xs.length) (h2 : i < ys.length), xs[i] ≤ ys[i]) → Le2 xs ys
  | [], [], _, _ => .nil
  | x :: xs, y :: ys, hl, h => .cons (h 0 (by simp) (by simp)) (Le2.of_get (by simpa using hl) fun i h1 h2 => h (i + 1) (by simpa using h1) (by simpa using h2))
theorem le2_map {f g : Nat → Int} : ∀ {l : List Nat}, (∀ j ∈ l, f j ≤ g j) → Le2 (l.map f) (l.map g)
  | [], _ => .nil
  | x :: l, h => .cons (h x (by simp)) (le2_map fun j hj => h j (by simp [hj]))
theorem Le2.step {xs ys : List Int} (h : Le2 xs ys) (b : Bool) : Le2 (step b xs) (step b ys) := by
  cases b
  · simp only [MC.step, Bool.false_eq_true, if_false, sufs, h.len]
    exact le2_map fun j _ => (h.drop j).sum
  · simp only [MC.step, if_true, pres, h.len]
    exact le2_map fun j _ => (h.take j).sum
theorem Le2.G {xs ys : List Int} (h : Le2 xs ys) (v : List Bool) : MC.G v xs ≤ MC.G v ys := by
  induction v generalizing xs ys with
  | nil => exact h.sum
  | cons b v ih => rw [G_cons, G_cons]; exact ih (h.step b)
def NN (xs : List Int) : Prop := ∀ x ∈ xs, 0 ≤ x
def Up (xs : List Int) : Prop := ∀ (i j : Nat) (h1 : i < xs.length) (h2 : j < xs.length), i ≤ j → xs[i] ≤ xs[j]
theorem sum_nn {xs : List Int} (h : NN xs) : 0 ≤ xs.sum := by
  induction xs with
  | nil => exact Int.le_refl _
  | cons x r ih =>
    simp only [List.sum_cons]
    have h1 := h x (by simp)
    have h2 := ih fun y hy => h y (by simp [hy])
    omega
theorem nn_step {xs : List Int} (h : NN xs) (b : Bool) : NN (step b xs) := by
  intro x hx
  cases b
  · simp only [step, Bool.false_eq_true, if_false, sufs, List.mem_map] at hx
    obtain ⟨j, _, rfl⟩ := hx
    exact sum_nn fun y hy => h y (List.mem_of_mem_drop hy)
  · simp only [step, if_true, pres, List.mem_map] at hx
    obtain ⟨j, _, rfl⟩ := hx
    exact sum_nn fun y hy => h y (List.mem_of_mem_take hy)
theorem nn_rev {xs : List Int} (h : NN xs) : NN xs.reverse := fun x hx => h x (by simpa using hx)
theorem sum_take_mono {xs : List Int} (h : NN xs) {i j : Nat} (hij : i ≤ j) : (xs.take i).sum ≤ (xs.take j).sum := by
  have e : xs.take j = xs.take i ++ (xs.take j).drop i := by
    have q := List.take_append_drop i (xs.take j)
    rw [List.take_take, Nat.min_eq_left hij] at q
    exact q.symm
  rw [e, List.sum_append_int]
  have := sum_nn (xs := (xs.take j).drop i) fun y hy => h y (List.mem_of_mem_take (List.mem_of_mem_drop hy))
  omega
theorem up_pres {xs : List Int} (h : NN xs) : Up (step true xs) := by
  intro i j h1 h2 hij
  simp only [step, if_true, pres, List.getElem_map, List.getElem_range]
  exact sum_take_mono h hij
theorem up_rev_sufs {xs : List Int} (h : NN xs) : Up (step false xs).reverse := by
  rw [← step_rev]
  exact up_pres (nn_rev h)
theorem up_le {xs : List Int} (h : Up xs) : Le2 (step true xs) (step true xs.reverse) := by
  simp only [step, if_true, pres, List.length_reverse]
  refine le2_map fun j hj => ?_
  rw [List.take_reverse, sum_rev]
  refine Le2.sum (Le2.of_get ?_ fun i h1 h2 => ?_)
  · have := List.mem_range.mp hj
    simp
    omega
  · simp only [List.getElem_take, List.getElem_drop]
    exact h _ _ _ _ (by omega)
def alt (b : Bool) : Nat → List Bool
  | 0 => []
  | n + 1 => b :: alt (!b) n
theorem alt_len (b : Bool) (n : Nat) : (alt b n).length = n := by
  induction n generalizing b with
  | zero => rfl
  | succ n ih => simp [alt, ih]
theorem alt_not (b : Bool) (n : Nat) : (alt b n).map (!·) = alt (!b) n := by
  induction n generalizing b with
  | zero => rfl
  | succ n ih => simp [alt, ih]
/-- from a rising row none has more than by turns, a fall first -/
theorem max_up : ∀ (n : Nat) (v : List Bool), v.length = n → ∀ xs, NN xs → Up xs → G v xs ≤ G (alt false n) xs := by
  intro n
  induction n with
  | zero =>
    intro v hv xs _ _
    rw [List.eq_nil_of_length_eq_zero hv]
    exact Int.le_refl _
  | succ n ih =>
    intro v hv xs hn hu
    cases v with
    | nil => simp at hv
    | cons b v =>
      have hl : v.length = n := by simpa using hv
      -- the same, told of the row turned about
      have down : ∀ w : List Bool, w.length = n → G w (step false xs) ≤ G (alt true n) (step false xs) := by
        intro w hw
        have q := ih (w.map (!·)) (by simpa using hw) (step false xs).reverse (nn_rev (nn_step hn false)) (up_rev_sufs hn)
        rw [G_rev] at q
        have e : alt false n = (alt true n).map (!·) := by rw [alt_not]; rfl
        rw [e, G_rev] at q
        exact q
      have e : G (alt false (n + 1)) xs = G (alt true n) (step false xs) := rfl
      rw [e]
      cases b with
      | false => rw [G_cons]; exact down v hl
      | true =>
        rw [G_cons]
        have h1 : G v (step true xs) ≤ G v (step true xs.reverse) := (up_le hu).G v
        have e2 : step true xs.reverse = (step false xs).reverse := pres_rev xs
        have e3 : ∀ v : List Bool, (v.map (!·)).map (!·) = v := fun v => by
          induction v with
          | nil => rfl
          | cons b v ih => simp only [List.map_cons, ih, Bool.not_not]
        have h2 : G v (step false xs).reverse = G (v.map (!·)) (step false xs) := by
          have q := G_rev (v.map (!·)) (step false xs)
          rw [e3] at q
          exact q
        have h3 := down (v.map (!·)) (by simpa using hl)
        rw [e2, h2] at h1
        exact Int.le_trans h1 h3
theorem F_max (v : List Bool) : F v ≤ F (alt true v.length) := by
  have h := max_up v.length v rfl [1] (fun x hx => by simp at hx; omega) (fun i j h1 h2 _ => by
    have : i = 0 := by simpa using h1
    have : j = 0 := by simpa using h2
    subst_vars; exact Int.le_refl _)
  have e : F (alt false v.length) = F (alt true v.length) := by
    rw [show alt false v.length = (alt true v.length).map (!·) by rw [alt_not]; rfl, F_not]
  rw [← e]; exact h
theorem G_ge : ∀ (v : List Bool) (xs : List Int), NN xs → xs.sum ≤ G v xs := by
  intro v
  induction v with
  | nil => intro xs _; exact Int.le_refl _
  | cons b v ih =>
    intro xs hn
    rw [G_cons]
    refine Int.le_trans ?_ (ih _ (nn_step hn b))
    have hm : xs.sum ∈ step b xs := by
      cases b
      · simp only [step, Bool.false_eq_true, if_false, sufs, List.mem_map]
        exact ⟨0, by simp, by simp⟩
      · simp only [step, if_true, pres, List.mem_map]
        exact ⟨xs.length, by simp, by simp⟩
    have all := nn_step hn b
    generalize step b xs = l at hm all
    generalize xs.sum = s at hm
    clear ih hn
    induction l with
    | nil => simp at hm
    | cons y l ih =>
      simp only [List.sum_cons]
      rcases List.mem_cons.mp hm with e | e
      · have := sum_nn (xs := l) fun z hz => all z (by simp [hz])
        omega
      · have h1 := ih (fun z hz => all z (by simp [hz])) e
        have h2 := all y (by simp)
        omega
theorem F_pos (v : List Bool) : 1 ≤ F v := G_ge v [1] fun x hx => by simp at hx; omega
end MC
set_option Elab.async false
set_option linter.all false
set_option maxRecDepth 100000
set_option maxHeartbeats 4000000
/-! Rf: Lean data that a value stands for (Rep), readings that come to such data (Er), ways on (Gx). -/
namespace Rf
open PySem L2 Evl

/-! ### what a value stands for -/
class Rep (α : Type) where
  rep : PySem.W.Frag → Hp → V → α → Prop
  mono : ∀ {K : PySem.W.Frag} {H H' : Hp} {v : V} {a : α}, Ex H H' → rep K H v a → rep K H' v a
abbrev rep {α : Type} [Rep α] (K : PySem.W.Frag) (H : Hp) (v : V) (a : α) : Prop := Rep.rep K H v a
theorem up {α : Type} [Rep α] {K : PySem.W.Frag} {H H' : Hp} {v : V} {a : α} (h : rep K H v a) (e : Ex H H') : rep K H' v a := Rep.mono e h
inductive All2 {α : Type} (R : V → α → Prop) : List V → List α → Prop where
  | nil : All2 R [] []
  | cons {v : V} {vs : List V} {a : α} {as : List α} : R v a → All2 R vs as → All2 R (v :: vs) (a :: as)
section
variable {α β : Type} {R S : V → α → Prop}
theorem All2.len {vs : List V} {as : List α} (h : All2 R vs as) : vs.length = as.length := by
  induction h with
  | nil => rfl
  | cons _ _ ih => simp [ih]
theorem All2.mp {vs : List V} {as : List α} (h : All2 R vs as) (f : ∀ v a, R v a → S v a) : All2 S vs as := by
  induction h with
  | nil => exact .nil
  | cons h _ ih => exact .cons (f _ _ h) ih
theorem All2.append {vs ws : List V} {as bs : List α} (h : All2 R vs as) (k : All2 R ws bs) : All2 R (vs ++ ws) (as ++ bs) := by
  induction h with
  | nil => exact k
  | cons h _ ih => exact .cons h ih
theorem All2.one {v : V} {a : α} (h : R v a) : All2 R [v] [a] := .cons h .nil
theorem All2.get {vs : List V} {as : List α} (h : All2 R vs as) : ∀ {i : Nat} {a : α}, as[i]? = some a → ∃ v, vs[i]? = some v ∧ R v a := by
  induction h with
  | nil => intro i a e; simp at e
  | cons h _ ih =>
    intro i a e
    cases i with
    | zero => simp at e; subst e; exact ⟨_, rfl, h⟩
    | succ i => simp at e; obtain ⟨v, e1, r⟩ := ih e; exact ⟨v, by simpa using e1, r⟩
theorem All2.getV {vs : List V} {as : List α} (h : All2 R vs as) : ∀ {i : Nat} {v : V}, vs[i]? = some v → ∃ a, as[i]? = some a ∧ R v a := by
  induction h with
  | nil => intro i a e; simp at e
  | cons h _ ih =>
    intro i a e
    cases i with
    | zero => simp at e; subst e; exact ⟨_, rfl, h⟩
    | succ i => simp at e; obtain ⟨v, e1, r⟩ := ih e; exact ⟨v, by simpa using e1, r⟩
theorem All2.take {vs : List V} {as : List α} (h : All2 R vs as) : ∀ n : Nat, All2 R (vs.take n) (as.take n) := by
  induction h with
  | nil => intro n; simp; exact .nil
  | cons h _ ih =>
    intro n
    cases n with
    | zero => exact .nil
    | succ n => exact .cons h (ih n)
theorem All2.drop {vs : List V} {as : List α} (h : All2 R vs as) : ∀ n : Nat, All2 R (vs.drop n) (as.drop n) := by
  induction h with
  | nil => intro n; simp; exact .nil
  | cons h h2 ih =>
    intro n
    cases n with
    | zero => exact .cons h h2
    | succ n => exact ih n
theorem All2.reverse {vs : List V} {as : List α} (h : All2 R vs as) : All2 R vs.reverse as.reverse := by
  induction h with
  | nil => exact .nil
  | cons h _ ih => rw [List.reverse_cons, List.reverse_cons]; exact ih.append (.one h)
theorem All2.set {vs : List V} {as : List α} (h : All2 R vs as) {v : V} {a : α} (k : R v a) : ∀ i : Nat, All2 R (vs.set i v) (as.set i a) := by
  induction h with
  | nil => intro i; exact .nil
  | cons h h2 ih =>
    intro i
    cases i with
    | zero => exact .cons k h2
    | succ i => exact .cons h (ih i)
theorem All2.eraseIdx {vs : List V} {as : List α} (h : All2 R vs as) : ∀ i : Nat, All2 R (vs.eraseIdx i) (as.eraseIdx i) := by
  induction h with
  | nil => intro i; exact .nil
  | cons h h2 ih =>
    intro i
    cases i with
    | zero => exact h2
    | succ i => exact .cons h (ih i)
theorem All2.of_map {γ : Type} {f : γ → V} {g : γ → α} : ∀ {l : List γ}, (∀ c ∈ l, R (f c) (g c)) → All2 R (l.map f) (l.map g)
  | [], _ => .nil
  | c :: l, h => .cons (h c (by simp)) (All2.of_map fun d hd => h d (by simp [hd]))
end
instance : Rep Int := ⟨fun _ _ v i => v = .int i, fun _ h => h⟩
instance : Rep Bool := ⟨fun _ _ v b => v = .bl b, fun _ h => h⟩
instance : Rep Str := ⟨fun _ _ v z => v = .str z, fun _ h => h⟩
instance : Rep Unit := ⟨fun _ _ v _ => v = .non, fun _ h => h⟩
instance {α : Type} [Rep α] : Rep (Option α) := ⟨fun K H v o => match o with
  | some a => Rep.rep K H v a
  | none => v = .non, fun {K H H' v a} e h => by
    cases a with
    | none => exact h
    | some a => exact Rep.mono e h⟩
/-- a list of such -/
def LstR {α : Type} [Rep α] (K : PySem.W.Frag) (H : Hp) (p : Addr) (as : List α) : Prop := ∃ xs, SqL K H p xs ∧ All2 (Rep.rep K H) xs as
def TupR {α β : Type} [Rep α] [Rep β] (K : PySem.W.Frag) (H : Hp) (p : Addr) (a : α) (b : β) : Prop := ∃ x y, SqT K H p [x, y] ∧ Rep.rep K H x a ∧ Rep.rep K H y b
theorem LstR.up {α : Type} [Rep α] {K : PySem.W.Frag} {H H' : Hp} {p : Addr} {as : List α} (h : LstR K H p as) (e : Ex H H') : LstR K H' p as := by
  obtain ⟨xs, h1, h2⟩ := h
  exact ⟨xs, ex_l e h1, h2.mp fun _ _ r => Rep.mono e r⟩
instance {α : Type} [Rep α] : Rep (List α) := ⟨fun K H v as => ∃ p, v = .ref p ∧ LstR K H p as, fun e ⟨p, h1, h2⟩ => ⟨p, h1, h2.up e⟩⟩
instance {α β : Type} [Rep α] [Rep β] : Rep (α × β) := ⟨fun K H v c => ∃ p, v = .ref p ∧ TupR K H p c.1 c.2, fun e ⟨p, h1, x, y, h2, h3, h4⟩ => ⟨p, h1, x, y, ex_t e h2, Rep.mono e h3, Rep.mono e h4⟩⟩
/-- a list's own object left out -/
def del (H : Hp) (p : Addr) : Hp := fun a => if a = p then none else H a
theorem del_ex (H : Hp) (p : Addr) : Ex (del H p) H := fun a o h => by
  unfold del at h
  split at h
  · cases h
  · exact h
theorem ex_del {H H' : Hp} {p : Addr} (e : Ex H H') (h : H p = none) : Ex H (del H' p) := fun a o q => by
  have hne : a ≠ p := fun z => by rw [z, h] at q; cases q
  unfold del
  rw [if_neg hne]
  exact e a o q
theorem del_del {H H' : Hp} {p : Addr} (e : Ex H H') : Ex (del H p) (del H' p) := fun a o q => by
  unfold del at q ⊢
  split at q
  · cases q
  · rename_i h; rw [if_neg h]; exact e a o q
theorem del_upd {H : Hp} {p : Addr} {o : HO} : del (upd H p o) p = del H p := by
  funext a
  unfold del
  split
  · rfl
  · rename_i h; exact upd_ne h
/-- a list of the def's own, to be changed: it stands at p, and what its items stand for leans on other objects -/
def Own {α : Type} [Rep α] (K : PySem.W.Frag) (H : Hp) (p : Addr) (as : List α) : Prop := ∃ xs, H p = some (.lst xs) ∧ All2 (Rep.rep K (del H p)) xs as
section
variable {α : Type} [Rep α] {K : PySem.W.Frag} {H H' : Hp} {p : Addr} {as : List α}
theorem Own.lst (h : Own K H p as) : LstR K H p as := by
  obtain ⟨xs, h1, h2⟩ := h
  exact ⟨xs, sq_of h1, h2.mp fun _ _ r => Rep.mono (del_ex H p) r⟩
theorem Own.up (h : Own K H p as) (e : Ex H H') : Own K H' p as := by
  obtain ⟨xs, h1, h2⟩ := h
  exact ⟨xs, e _ _ h1, h2.mp fun _ _ r => Rep.mono (del_del e) r⟩
theorem Own.rep (h : Own K H p as) : Rep.rep K H (.ref p) as := ⟨p, rfl, h.lst⟩
theorem Own.some (h : Own K H p as) : ∃ o, H p = Option.some o := let ⟨xs, h1, _⟩ := h; ⟨_, h1⟩
end

/-! ### readings -/
section
variable {α β γ : Type} [Rep α] [Rep β] [Rep γ]
def Er (K : PySem.W.Frag) (te : TE) (σ : L2.St) (H : Hp) (a : α) : Prop := ∀ H1, Ex H H1 → ∀ Q : VK, (∀ v H2, Ex H1 H2 → Rep.rep K H2 v a → Q v H2) → te σ H1 Q
/-- .. a new list -/
def ErF (K : PySem.W.Frag) (te : TE) (σ : L2.St) (H : Hp) (as : List α) : Prop := ∀ H1, Ex H H1 → ∀ Q : VK, (∀ p H2, H1 p = none → Ex H1 H2 → Own K H2 p as → Q (.ref p) H2) → te σ H1 Q
def Et (_ : PySem.W.Frag) (t : TT) (σ : L2.St) (H : Hp) (b : Bool) : Prop := EvT t σ H b
def Ea (ta : TA) (σ : L2.St) (H : Hp) (P : Hp → List V → Prop) : Prop := ∀ H1, Ex H H1 → ∀ Q : List V → Hp → Prop, (∀ vs H2, Ex H1 H2 → P H2 vs → Q vs H2) → ta σ H1 Q
variable {K : PySem.W.Frag} {σ : L2.St} {H H' : Hp} {ta tb tc te : TE} {t u : TT}
theorem ErF.er {as : List α} (h : ErF K te σ H as) : Er K te σ H as := fun H1 e Q q => h H1 e Q fun p H2 _ e2 o => q _ H2 e2 o.rep
theorem Er.mono {a : α} (h : Er K te σ H a) (e : Ex H H') : Er K te σ H' a := fun H1 e1 Q q => h H1 (e.trans e1) Q q
theorem ErF.mono {as : List α} (h : ErF K te σ H as) (e : Ex H H') : ErF K te σ H' as := fun H1 e1 Q q => h H1 (e.trans e1) Q q
theorem Er.to {a b : α} (h : Er K te σ H a) (e : a = b) : Er K te σ H b := e ▸ h
theorem ErF.to {as bs : List α} (h : ErF K te σ H as) (e : as = bs) : ErF K te σ H bs := e ▸ h
theorem er_ev {a : α} {v : V} (h : Ev te σ H v) (r : ∀ H1, Ex H H1 → Rep.rep K H1 v a) : Er K te σ H a := fun H1 e Q q => h H1 e Q fun H2 e2 => q v H2 e2 (r H2 (e.trans e2))
theorem ev_er {v : V} {a : α} (h : Er K te σ H a) (r : ∀ H1 u, Rep.rep K H1 u a → u = v) : Ev te σ H v := fun H1 e Q q => h H1 e Q fun u H2 e2 hr => by
  have := r H2 u hr
  subst this
  exact q H2 e2
theorem er_i {i : Int} (h : Er K te σ H i) : Ev te σ H (.int i) := ev_er h fun _ _ r => r
theorem er_b {i : Bool} (h : Er K te σ H i) : Ev te σ H (.bl i) := ev_er h fun _ _ r => r
theorem er_s {i : Str} (h : Er K te σ H i) : Ev te σ H (.str i) := ev_er h fun _ _ r => r
theorem er_var {i : Nat} {v : V} {a : α} (h : σ[i]? = some (some v)) (r : Rep.rep K H v a) : Er K (tVar i) σ H a := fun H1 e Q q => ⟨v, h, q v H1 (Ex.refl H1) (Rep.mono e r)⟩
theorem er_int {i : Int} : Er K (tC (.int i)) σ H i := fun H1 _ _ q => q _ H1 (Ex.refl H1) rfl
theorem er_bl {b : Bool} : Er K (tC (.bl b)) σ H b := fun H1 _ _ q => q _ H1 (Ex.refl H1) rfl
theorem er_str {z : Str} : Er K (tC (.str z)) σ H z := fun H1 _ _ q => q _ H1 (Ex.refl H1) rfl
theorem er_non : Er K (tC .non) σ H () := fun H1 _ _ q => q _ H1 (Ex.refl H1) rfl
theorem er_nonO : Er K (tC .non) σ H (none : Option α) := fun H1 _ _ q => q _ H1 (Ex.refl H1) rfl
theorem er_some {a : α} (h : Er K te σ H a) : Er K te σ H (some a) := fun H1 e Q q => h H1 e Q fun v H2 e2 r => q v H2 e2 r
/-- two, one behind the other -/
theorem er_two {a : α} {b : β} {c : γ} {r : R2} (ha : Er K ta σ H a) (hb : Er K tb σ H b)
    (hr : ∀ x y H1, Ex H H1 → Rep.rep K H1 x a → Rep.rep K H1 y b → ∀ Q : VK, (∀ v H2, Ex H1 H2 → Rep.rep K H2 v c → Q v H2) → r x y H1 Q) : Er K (tOp r ta tb) σ H c := fun H1 e Q q =>
  ha H1 e _ fun x H2 e2 rx => hb H2 (e.trans e2) _ fun y H3 e3 ry => hr x y H3 ((e.trans e2).trans e3) (Rep.mono e3 rx) ry Q fun v H4 e4 r4 => q v H4 ((e2.trans e3).trans e4) r4
theorem erf_two {a : α} {b : β} {cs : List γ} {r : R2} (ha : Er K ta σ H a) (hb : Er K tb σ H b)
    (hr : ∀ x y H1, Ex H H1 → Rep.rep K H1 x a → Rep.rep K H1 y b → ∀ Q : VK, (∀ p H2, H1 p = none → Ex H1 H2 → Own K H2 p cs → Q (.ref p) H2) → r x y H1 Q) : ErF K (tOp r ta tb) σ H cs := fun H1 e Q q =>
  ha H1 e _ fun x H2 e2 rx => hb H2 (e.trans e2) _ fun y H3 e3 ry => hr x y H3 ((e.trans e2).trans e3) (Rep.mono e3 rx) ry Q fun p H4 hp e4 r4 => q p H4 (fresh_back (e2.trans e3) hp) ((e2.trans e3).trans e4) r4

/-! ### ints -/
def rAddI : R2 := rI0 fun i j => .int (i + j)
def rSubI : R2 := rI0 fun i j => .int (i - j)
def rMulI : R2 := rI CMul fun i j => .int (i * j)
def rModI : R2 := rI (fun _ j => 0 < j) fun i j => .int (i % j)
def rDivI : R2 := rI CDiv fun i j => .int (i / j)
def rLtI : R2 := rI0 fun i j => .bl (decide (i < j))
def rLeI : R2 := rI0 fun i j => .bl (decide (i ≤ j))
def rGtI : R2 := rI0 fun i j => .bl (decide (j < i))
def rGeI : R2 := rI0 fun i j => .bl (decide (j ≤ i))
def rNegI : V → Hp → VK → Prop := rU fun i => .int (-i)
def rEqS : R2 := rEq
def rNeS : R2 := rNe
variable {X : Cx}
theorem oAddI : OpR X (binaryOp .Add) rAddI := op_add
theorem oSubI : OpR X (binaryOp .Sub) rSubI := op_sub
theorem oMulI : OpR X (binaryOp .Mult) rMulI := op_mul
theorem oModI : OpR X (binaryOp .Mod) rModI := op_mod
theorem oDivI : OpR X (binaryOp .FloorDiv) rDivI := op_fdiv
theorem oLtI : OpR X (compareOp .Lt) rLtI := op_lt
theorem oLeI : OpR X (compareOp .LtE) rLeI := op_le
theorem oGtI : OpR X (compareOp .Gt) rGtI := op_gt
theorem oGeI : OpR X (compareOp .GtE) rGeI := op_ge
theorem oNegI : UnR X (unaryOp .USub) rNegI := un_neg
theorem oEqS : OpR X (compareOp .Eq) rEqS := op_eq
theorem oNeS : OpR X (compareOp .NotEq) rNeS := op_ne
theorem er_add {i j : Int} (ha : Er K ta σ H i) (hb : Er K tb σ H j) : Er K (tOp rAddI ta tb) σ H (i + j) := er_ev (ev_op (er_i ha) (er_i hb) rv_I0) fun _ _ => rfl
theorem er_sub {i j : Int} (ha : Er K ta σ H i) (hb : Er K tb σ H j) : Er K (tOp rSubI ta tb) σ H (i - j) := er_ev (ev_op (er_i ha) (er_i hb) rv_I0) fun _ _ => rfl
theorem er_mul {i j : Int} (ha : Er K ta σ H i) (hb : Er K tb σ H j) (hc : CMul i j) : Er K (tOp rMulI ta tb) σ H (i * j) := er_ev (ev_op (er_i ha) (er_i hb) (rv_I hc)) fun _ _ => rfl
theorem er_mod {i j : Int} (ha : Er K ta σ H i) (hb : Er K tb σ H j) (hc : 0 < j) : Er K (tOp rModI ta tb) σ H (i % j) := er_ev (ev_op (er_i ha) (er_i hb) (rv_I hc)) fun _ _ => rfl
theorem er_div {i j : Int} (ha : Er K ta σ H i) (hb : Er K tb σ H j) (hc : CDiv i j) : Er K (tOp rDivI ta tb) σ H (i / j) := er_ev (ev_op (er_i ha) (er_i hb) (rv_I hc)) fun _ _ => rfl
theorem er_lt {i j : Int} (ha : Er K ta σ H i) (hb : Er K tb σ H j) : Er K (tOp rLtI ta tb) σ H (decide (i < j)) := er_ev (ev_op (er_i ha) (er_i hb) rv_I0) fun _ _ => rfl
theorem er_le {i j : Int} (ha : Er K ta σ H i) (hb : Er K tb σ H j) : Er K (tOp rLeI ta tb) σ H (decide (i ≤ j)) := er_ev (ev_op (er_i ha) (er_i hb) rv_I0) fun _ _ => rfl
theorem er_gt {i j : Int} (ha : Er K ta σ H i) (hb : Er K tb σ H j) : Er K (tOp rGtI ta tb) σ H (decide (j < i)) := er_ev (ev_op (er_i ha) (er_i hb) rv_I0) fun _ _ => rfl
theorem er_ge {i j : Int} (ha : Er K ta σ H i) (hb : Er K tb σ H j) : Er K (tOp rGeI ta tb) σ H (decide (j ≤ i)) := er_ev (ev_op (er_i ha) (er_i hb) rv_I0) fun _ _ => rfl
theorem er_neg {i : Int} (ha : Er K ta σ H i) : Er K (tUn rNegI ta) σ H (-i) := er_ev (ev_un (er_i ha) ru_neg) fun _ _ => rfl
theorem er_eqI {i j : Int} (ha : Er K ta σ H i) (hb : Er K tb σ H j) : Er K (tOp rEqS ta tb) σ H (i == j) := er_ev (ev_op (er_i ha) (er_i hb) (rv_eq rfl)) fun _ _ => by rw [dec_int]; rfl
theorem er_neI {i j : Int} (ha : Er K ta σ H i) (hb : Er K tb σ H j) : Er K (tOp rNeS ta tb) σ H (!(i == j)) := er_ev (ev_op (er_i ha) (er_i hb) (rv_ne rfl)) fun _ _ => by rw [dec_int]; rfl
theorem er_eqT {i j : Str} (ha : Er K ta σ H i) (hb : Er K tb σ H j) : Er K (tOp rEqS ta tb) σ H (i == j) := er_ev (ev_op (er_s ha) (er_s hb) (rv_eq rfl)) fun _ _ => by rw [dec_str]; rfl
theorem er_neT {i j : Str} (ha : Er K ta σ H i) (hb : Er K tb σ H j) : Er K (tOp rNeS ta tb) σ H (!(i == j)) := er_ev (ev_op (er_s ha) (er_s hb) (rv_ne rfl)) fun _ _ => by rw [dec_str]; rfl
theorem er_eqB {i j : Bool} (ha : Er K ta σ H i) (hb : Er K tb σ H j) : Er K (tOp rEqS ta tb) σ H (i == j) := er_ev (ev_op (er_b ha) (er_b hb) (rv_eq rfl)) fun _ _ => by rw [dec_bl]; rfl
theorem er_neB {i j : Bool} (ha : Er K ta σ H i) (hb : Er K tb σ H j) : Er K (tOp rNeS ta tb) σ H (!(i == j)) := er_ev (ev_op (er_b ha) (er_b hb) (rv_ne rfl)) fun _ _ => by rw [dec_bl]; rfl

/-! ### tests -/
theorem et_e {b : Bool} (h : Er K te σ H b) : Et K (tTest te) σ H b := et_test (er_b h)
theorem et_v {b : Bool} (h : Er K te σ H b) : Et K (tB te) σ H b := et_B (er_b h)
theorem er_and {a b : Bool} (h1 : Er K ta σ H a) (h2 : a = true → Er K tb σ H b) : Er K (tAndV ta tb) σ H (a && b) := er_ev (ev_andV (er_b h1) fun e => er_b (h2 e)) fun _ _ => rfl
theorem er_or {a b : Bool} (h1 : Er K ta σ H a) (h2 : a = false → Er K tb σ H b) : Er K (tOrV ta tb) σ H (a || b) := er_ev (ev_orV (er_b h1) fun e => er_b (h2 e)) fun _ _ => rfl
theorem er_not {a : Bool} (h1 : Er K ta σ H a) : Er K (tNotV ta) σ H (!a) := er_ev (ev_notV (er_b h1)) fun _ _ => rfl
theorem er_if {b : Bool} {x y : α} (h : Et K t σ H b) (h1 : b = true → Er K ta σ H x) (h2 : b = false → Er K tb σ H y) : Er K (tIf t ta tb) σ H (if b then x else y) := fun H1 e Q q => h H1 e _ fun H2 e2 => by
  cases b with
  | true =>
    show ta σ H2 Q
    exact h1 rfl H2 (e.trans e2) Q fun v H3 e3 r => q v H3 (e2.trans e3) r
  | false =>
    show tb σ H2 Q
    exact h2 rfl H2 (e.trans e2) Q fun v H3 e3 r => q v H3 (e2.trans e3) r
theorem er_chain {i j k : Int} {b1 b2 : Bool} {r r' : R2} (ha : Er K ta σ H i) (hb : Er K tb σ H j) (hc : Er K tc σ H k) (h1 : ∀ H1, RV r (.int i) (.int j) H1 (.bl b1)) (h2 : ∀ H1, RV r' (.int j) (.int k) H1 (.bl b2)) :
    Er K (tChain r r' ta tb tc) σ H (b1 && b2) := fun H1 e Q q => er_i ha H1 e _ fun H2 e2 => er_i hb H2 (e.trans e2) _ fun H3 e3 => h1 H3 H3 (Ex.refl H3) _ fun H4 e4 => ⟨b1, rfl, by
  cases b1 with
  | true =>
    show tc σ H4 fun w' H5 => r' (.int j) w' H5 Q
    exact er_i hc H4 (((e.trans e2).trans e3).trans e4) _ fun H5 e5 => h2 H5 H5 (Ex.refl H5) _ fun H6 e6 => q _ H6 ((((e2.trans e3).trans e4).trans e5).trans e6) rfl
  | false =>
    show Q (.bl false) H4
    exact q _ H4 ((e2.trans e3).trans e4) rfl⟩
theorem rvLt {i j : Int} (H1 : Hp) : RV rLtI (.int i) (.int j) H1 (.bl (decide (i < j))) := rv_I0
theorem rvLe {i j : Int} (H1 : Hp) : RV rLeI (.int i) (.int j) H1 (.bl (decide (i ≤ j))) := rv_I0
end
end Rf
set_option Elab.async false
set_option linter.all false
set_option maxRecDepth 100000
set_option maxHeartbeats 4000000
namespace Rf
open PySem L2 Evl
section
variable {α β γ : Type} [Rep α] [Rep β] [Rep γ] {K : PySem.W.Frag} {σ : L2.St} {H H' : Hp} {ta tb tc te : TE} {t u : TT} {X : Cx}

/-! ### lists: an item, the length, displays -/
theorem ixN_of {n j : Nat} {i : Int} (h : ixN n i = some j) : j < n := (ixN_seq h).2.1
theorem atI_all {R : V → α → Prop} {xs : List V} {as : List α} (h : All2 R xs as) {i : Int} {a : α} (e : atI as i = some a) : ∃ v, atI xs i = some v ∧ R v a := by
  unfold atI at e ⊢
  rw [h.len]
  cases q : ixN as.length i with
  | none => rw [q] at e; simp at e
  | some j =>
    rw [q] at e
    exact h.get e
theorem er_ixL {as : List α} {i : Int} {a : α} (ha : Er K ta σ H as) (hb : Er K tb σ H i) (e : atI as i = some a) : Er K (tOp (rIxL K) ta tb) σ H a :=
  er_two ha hb fun x y H1 _ rx ry Q q => by
    obtain ⟨p, rfl, xs, hs, hall⟩ := rx
    obtain rfl : y = .int i := ry
    obtain ⟨v, hv, r⟩ := atI_all hall e
    exact ⟨p, xs, i, v, rfl, rfl, hs, hv, q v H1 (Ex.refl H1) r⟩
theorem atI_nat' {as : List α} {j : Nat} {a : α} (h : as[j]? = some a) : atI as (j : Int) = some a := by
  unfold atI ixN
  have hj : j < as.length := (List.getElem?_eq_some_iff.mp h).1
  rw [if_pos (by omega), if_pos (by omega)]
  simpa using h
theorem atI_at {as : List α} {i : Int} {a : α} (h0 : 0 ≤ i) (h : as[i.toNat]? = some a) : atI as i = some a := by
  have e : i = (i.toNat : Int) := (Int.toNat_of_nonneg h0).symm
  rw [e]
  exact atI_nat' h
theorem atI_ok {as : List α} {i : Int} (h0 : 0 ≤ i) (h : i.toNat < as.length) : atI as i = some (as[i.toNat]'h) := atI_at h0 (List.getElem?_eq_getElem h)
theorem atI_neg1 {as : List α} {a : α} (h : as.getLast? = some a) : atI as (-1) = some a := by
  unfold atI ixN
  have hl : 0 < as.length := by
    cases as with
    | nil => simp at h
    | cons x r => simp
  rw [if_neg (by omega), if_pos (by omega)]
  rw [List.getLast?_eq_getElem?] at h
  show as[((-1 : Int) + (as.length : Int)).toNat]? = some a
  rw [show ((-1 : Int) + (as.length : Int)).toNat = as.length - 1 by omega]
  exact h
/-- len -/
def rLenL (K : PySem.W.Frag) : List V → Hp → VK → Prop := fun xs H Q => ∃ p ys, xs = [.ref p] ∧ (SqL K H p ys ∨ SqT K H p ys) ∧ Q (.int ys.length) H
def rLenT : List V → Hp → VK → Prop := fun xs H Q => ∃ z, xs = [.str z] ∧ z.length ≤ sizeLine ∧ Q (.int z.length) H
theorem cLenL : CallR X (.builtin "len") (rLenL X.K) := call_len_seq
theorem cLenT : CallR X (.builtin "len") rLenT := call_len_str
theorem er_lenL {as : List α} (ha : Er K ta σ H as) : Er K (tCB (rLenL K) (tCons ta tNil)) σ H (as.length : Int) := fun H1 e Q q =>
  ha H1 e _ fun v H2 e2 ⟨p, e3, xs, hs, hall⟩ => ⟨p, xs, by rw [e3], .inl hs, by rw [hall.len]; exact q _ H2 e2 rfl⟩
theorem er_lenT {z : Str} (ha : Er K ta σ H z) (hz : z.length ≤ 100000) : Er K (tCB rLenT (tCons ta tNil)) σ H (z.length : Int) := fun H1 e Q q =>
  ha H1 e _ fun v H2 e2 e3 => ⟨z, by rw [e3], sz_of hz, q _ H2 e2 rfl⟩
/-- the items of a display -/
def EaL (K : PySem.W.Frag) (ta : TA) (σ : L2.St) (H : Hp) (as : List α) : Prop := Ea ta σ H fun H vs => All2 (Rep.rep K H) vs as
theorem eal_nil : EaL K tNil σ H ([] : List α) := fun H1 _ _ q => q [] H1 (Ex.refl H1) .nil
theorem eal_cons {a : α} {as : List α} {tr : TA} (h : Er K te σ H a) (hr : EaL K tr σ H as) : EaL K (tCons te tr) σ H (a :: as) := fun H1 e _ q =>
  h H1 e _ fun v H2 e2 r => hr H2 (e.trans e2) _ fun vs H3 e3 rs => q _ H3 (e2.trans e3) (.cons (Rep.mono e3 r) rs)
theorem erf_lst {ta : TA} {as : List α} (h : EaL K ta σ H as) (hl : as.length ≤ 100000) : ErF K (tLst ta) σ H as := fun H1 e _ q =>
  h H1 e _ fun vs H2 e2 hv => ⟨sz_of (by rw [hv.len]; exact hl), fun p hp => q p _ (fresh_back e2 hp) (e2.trans (Ex.new hp)) ⟨vs, upd_same, hv.mp fun v a r => Rep.mono (ex_del (Ex.new hp) hp) r⟩⟩
theorem er_tup2 {a : α} {b : β} (h1 : Er K ta σ H a) (h2 : Er K tb σ H b) : Er K (tTup (tCons ta (tCons tb tNil))) σ H (a, b) := fun H1 e _ q =>
  h1 H1 e _ fun v H2 e2 r1 => h2 H2 (e.trans e2) _ fun u H3 e3 r2 => ⟨sz_of (by show 2 ≤ 100000; decide), fun p hp => q _ _ ((e2.trans e3).trans (Ex.new hp)) ⟨p, rfl, v, u, st_of upd_same, Rep.mono (e3.trans (Ex.new hp)) r1, Rep.mono (Ex.new hp) r2⟩⟩
/-- a tuple of things of one kind -/
def TupsR (K : PySem.W.Frag) (H : Hp) (p : Addr) (as : List α) : Prop := ∃ xs, SqT K H p xs ∧ All2 (Rep.rep K H) xs as
theorem er_tupIx {ta : TA} {as : List α} {i : Int} {a : α} (h : EaL K ta σ H as) (hl : as.length ≤ 100000) (hb : Er K tb σ H i) (e : atI as i = some a) : Er K (tOp (rIxT K) (tTup ta) tb) σ H a := fun H1 e1 Q q =>
  h H1 e1 _ fun vs H2 e2 hv => ⟨sz_of (by rw [hv.len]; exact hl), fun p hp => er_i hb _ ((e1.trans e2).trans (Ex.new hp)) _ fun H3 e3 => by
    obtain ⟨v, hv1, r⟩ := atI_all hv e
    exact ⟨p, vs, i, v, rfl, rfl, ex_t e3 (st_of upd_same), hv1, q v H3 ((e2.trans (Ex.new hp)).trans e3) (Rep.mono ((Ex.new hp).trans e3) r)⟩⟩

/-! ### slices -/
def Eo (_ : PySem.W.Frag) (to : TO) (σ : L2.St) (H : Hp) (o : Option Int) : Prop := EvO to σ H o
theorem eo_no : Eo K tNoPart σ H none := eo_none
theorem eo_at {i : Int} (h : Er K te σ H i) : Eo K (tPart te) σ H (some i) := eo_some (er_i h)
/-- an int that is known by an equation -/
theorem er_varI {n : Nat} {v : V} {a : Int} (h : σ[n]? = some (some v)) (e : v = .int a) : Er K (tVar n) σ H a := er_var h e
theorem int_eq {a b : Int} (h : a = b) : V.int a = V.int b := by rw [h]
def cutL (as : List α) (lo hi : Option Int) : List α := (as.drop (HT.sIx as.length 0 lo)).take (HT.sIx as.length as.length hi - HT.sIx as.length 0 lo)
theorem erf_sl {as : List α} {tl th : TO} {lo hi : Option Int} (h : Er K te σ H as) (h1 : Eo K tl σ H lo) (h2 : Eo K th σ H hi) : ErF K (tSl (rSlL K) te tl th) σ H (cutL as lo hi) := fun H1 e Q q =>
  h H1 e _ fun v H2 e2 ⟨p, e3, xs, hs, hall⟩ => h1 H2 (e.trans e2) _ fun H3 e4 => h2 H3 ((e.trans e2).trans e4) _ fun H4 e5 => by
    subst e3
    refine ⟨p, xs, rfl, ex_l (e4.trans e5) hs, fun l hl => q l _ (fresh_back ((e2.trans e4).trans e5) hl) (((e2.trans e4).trans e5).trans (Ex.new hl)) ⟨_, upd_same, ?_⟩⟩
    unfold cutV cutL
    rw [hall.len]
    exact ((hall.mp fun v a r => Rep.mono (ex_del ((e4.trans e5).trans (Ex.new hl)) (fresh_back (e4.trans e5) hl)) r).drop _).take _
theorem erf_rev {as : List α} (h : Er K te σ H as) : ErF K (tRevL K te) σ H as.reverse := fun H1 e Q q =>
  h H1 e _ fun v H2 e2 ⟨p, e3, xs, hs, hall⟩ => ⟨p, xs, e3, hs, fun l hl => q l _ (fresh_back e2 hl) (e2.trans (Ex.new hl)) ⟨_, upd_same, (hall.mp fun v a r => Rep.mono (ex_del (Ex.new hl) hl) r).reverse⟩⟩

/-! ### list(xs), xs + ys, sum -/
def rLstL (K : PySem.W.Frag) : List V → Hp → VK → Prop := fun xs H Q => ∃ p ys, xs = [.ref p] ∧ (SqL K H p ys ∨ SqT K H p ys) ∧ ∀ l, H l = none → Q (.ref l) (upd H l (.lst ys))
theorem cLstL : CallR X (.type "list") (rLstL X.K) := call_list_of
theorem erf_list {as : List α} (ha : Er K ta σ H as) : ErF K (tCB (rLstL K) (tCons ta tNil)) σ H as := fun H1 e Q q =>
  ha H1 e _ fun v H2 e2 ⟨p, e3, xs, hs, hall⟩ => ⟨p, xs, by rw [e3], .inl hs, fun l hl => q l _ (fresh_back e2 hl) (e2.trans (Ex.new hl)) ⟨_, upd_same, hall.mp fun v a r => Rep.mono (ex_del (Ex.new hl) hl) r⟩⟩
theorem cSum (hc : X.calm = true) : CallR X (.builtin "sum") (rSum X.K) := cr_sum hc
theorem all2_int {H : Hp} : ∀ {xs : List V} {ns : List Int}, All2 (Rep.rep K H) xs ns → xs = ns.map V.int
  | _, _, .nil => rfl
  | _, _, .cons h t => by
    have h' : _ = V.int _ := h
    rw [h', all2_int t]; rfl
theorem all2_bl {H : Hp} : ∀ {xs : List V} {ns : List Bool}, All2 (Rep.rep K H) xs ns → xs = ns.map V.bl
  | _, _, .nil => rfl
  | _, _, .cons h t => by
    have h' : _ = V.bl _ := h
    rw [h', all2_bl t]; rfl
theorem all2_str {H : Hp} : ∀ {xs : List V} {ns : List Str}, All2 (Rep.rep K H) xs ns → xs = ns.map V.str
  | _, _, .nil => rfl
  | _, _, .cons h t => by
    have h' : _ = V.str _ := h
    rw [h', all2_str t]; rfl
theorem int_all2 {H : Hp} : ∀ {ns : List Int}, All2 (Rep.rep K H) (ns.map V.int) ns
  | [] => .nil
  | _ :: _ => .cons rfl int_all2
theorem lst_int {H : Hp} {p : Addr} {ns : List Int} (h : LstR K H p ns) : SqL K H p (ns.map V.int) := by
  obtain ⟨xs, h1, h2⟩ := h
  rw [← all2_int h2]; exact h1
theorem int_lst {H : Hp} {p : Addr} {ns : List Int} (h : SqL K H p (ns.map V.int)) : LstR K H p ns := ⟨_, h, int_all2⟩
theorem er_sum {ns : List Int} (ha : Er K ta σ H ns) : Er K (tCB (rSum K) (tCons ta tNil)) σ H ns.sum := fun H1 e Q q =>
  ha H1 e _ fun v H2 e2 ⟨p, e3, hl⟩ => ⟨p, ns, by rw [e3], lst_int hl, q _ H2 e2 rfl⟩
theorem er_all {bs : List Bool} (ha : Er K ta σ H bs) : Er K (tCB (rAll K) (tCons ta tNil)) σ H (bs.all id) := fun H1 e Q q =>
  ha H1 e _ fun v H2 e2 ⟨p, e3, xs, hs, hall⟩ => ⟨p, bs, by rw [e3], by rw [← all2_bl hall]; exact hs, q _ H2 e2 rfl⟩
/-- xs + ys, two lists that stand tracked and plain -/
theorem erf_cat {as bs : List α} (ha : ErF K ta σ H as) (hb : ErF K tb σ H bs) (hl : as.length + bs.length ≤ 100000) : ErF K (tOp rCat ta tb) σ H (as ++ bs) := fun H1 e Q q =>
  ha H1 e _ fun p H2 hp e2 ⟨xs, h1, h2⟩ => hb H2 (e.trans e2) _ fun p' H3 hp' e3 ⟨ys, h3, h4⟩ => by
    refine ⟨p, p', xs, ys, rfl, rfl, e3 _ _ h1, h3, by rw [h2.len, h4.len]; exact sz_of hl, fun l hl => q l _ (fresh_back (e2.trans e3) hl) ((e2.trans e3).trans (Ex.new hl)) ⟨_, upd_same, ?_⟩⟩
    have x3 : Ex H3 (del (upd H3 l (.lst (xs ++ ys))) l) := ex_del (Ex.new hl) hl
    exact (h2.mp fun v a r => Rep.mono (((del_ex H2 p).trans e3).trans x3) r).append (h4.mp fun v a r => Rep.mono ((del_ex H3 p').trans x3) r)
/-- .. the left one a name's, tracked -/
theorem erf_catL {as bs : List α} {p : Addr} (ha : Ev ta σ H (.ref p)) (ho : Own K H p as) (hb : ErF K tb σ H bs) (hl : as.length + bs.length ≤ 100000) : ErF K (tOp rCat ta tb) σ H (as ++ bs) := fun H1 e Q q =>
  ha H1 e _ fun H2 e2 => hb H2 (e.trans e2) _ fun p' H3 hp' e3 ⟨ys, h3, h4⟩ => by
    obtain ⟨xs, h1, h2⟩ := (ho.up (e.trans e2))
    refine ⟨p, p', xs, ys, rfl, rfl, e3 _ _ h1, h3, by rw [h2.len, h4.len]; exact sz_of hl, fun l hl => q l _ (fresh_back (e2.trans e3) hl) ((e2.trans e3).trans (Ex.new hl)) ⟨_, upd_same, ?_⟩⟩
    have x3 : Ex H3 (del (upd H3 l (.lst (xs ++ ys))) l) := ex_del (Ex.new hl) hl
    exact (h2.mp fun v a r => Rep.mono (((del_ex H2 p).trans e3).trans x3) r).append (h4.mp fun v a r => Rep.mono ((del_ex H3 p').trans x3) r)
/-- the left new, the right a name's -/
theorem erf_catR {as bs : List α} {p : Addr} (ha : ErF K ta σ H as) (hb : Ev tb σ H (.ref p)) (ho : Own K H p bs) (hl : as.length + bs.length ≤ 100000) : ErF K (tOp rCat ta tb) σ H (as ++ bs) := fun H1 e Q q =>
  ha H1 e _ fun p' H2 hp' e2 ⟨xs, h1, h2⟩ => hb H2 (e.trans e2) _ fun H3 e3 => by
    obtain ⟨ys, h3, h4⟩ := (ho.up ((e.trans e2).trans e3))
    refine ⟨p', p, xs, ys, rfl, rfl, e3 _ _ h1, h3, by rw [h2.len, h4.len]; exact sz_of hl, fun l hl => q l _ (fresh_back (e2.trans e3) hl) ((e2.trans e3).trans (Ex.new hl)) ⟨_, upd_same, ?_⟩⟩
    have x3 : Ex H3 (del (upd H3 l (.lst (xs ++ ys))) l) := ex_del (Ex.new hl) hl
    exact (h2.mp fun v a r => Rep.mono (((del_ex H2 p').trans e3).trans x3) r).append (h4.mp fun v a r => Rep.mono ((del_ex H3 p).trans x3) r)

/-! ### texts -/
def rAddT : R2 := fun x y H Q => ∃ i j, x = .str i ∧ y = .str j ∧ i.length + j.length ≤ sizeLine ∧ Q (.str (i ++ j)) H
theorem oAddT : OpR X (binaryOp .Add) rAddT := op_add_str
theorem er_addT {a b : Str} (ha : Er K ta σ H a) (hb : Er K tb σ H b) (hl : a.length + b.length ≤ 100000) : Er K (tOp rAddT ta tb) σ H (a ++ b) :=
  er_ev (ev_op (er_s ha) (er_s hb) (rv_val fun H1 _ Q q => ⟨a, b, rfl, rfl, sz_of hl, q⟩)) fun _ _ => rfl
def reps (k : Nat) (x : Str) : Str := ⟨(List.replicate k x.cps.toList).flatten.toArray⟩
def rMulT : R2 := fun x y H Q => ∃ (a : Str) (n : Int), x = .str a ∧ y = .int n ∧ 0 ≤ n ∧ n ≤ 1000 ∧ a.length ≤ 1000 ∧ Q (.str (reps n.toNat a)) H
theorem foldl_reps (c : Array Nat) : ∀ (k : Nat) (acc : Array Nat), (List.replicate k c).foldl (· ++ ·) acc = acc ++ (List.replicate k c.toList).flatten.toArray
  | 0, acc => by simp
  | k + 1, acc => by
    rw [List.replicate_succ, List.foldl_cons, foldl_reps c k, List.replicate_succ, List.flatten_cons, Array.append_assoc]
    congr 1
    apply Array.ext'
    simp
theorem oMulT : OpR X (binaryOp .Mult) rMulT := by
  intro pins s σ H x y v u Q I rx ry h
  obtain ⟨a, n, rfl, rfl, h0, h1, ha, q⟩ := h
  obtain ⟨t, rfl⟩ := rx
  obtain ⟨t', rfl⟩ := ry
  have hb : a.length * n.toNat ≤ 1000000 := Nat.le_trans (Nat.mul_le_mul ha (show n.toNat ≤ 1000 by omega)) (by decide)
  refine PySem.P.mul_str ?_ ?_ ?_ ?_
  · have h2 : ¬ n < -(2 ^ 63 : Int) := by omega
    have h3 : ¬ n ≥ 2 ^ 63 := by omega
    rw [decide_eq_false h2, decide_eq_false h3]; rfl
  · intro hn _ hgt
    have h4 : 1001 ≤ (2 ^ 63 - 1) / n := by
      rw [Int.le_ediv_iff_mul_le (by omega)]
      omega
    omega
  · intro _ _
    unfold Builtin.Str.tooLong
    rw [decide_eq_false_iff_not, sizeLine_eq]
    omega
  · by_cases c1 : n < 1
    · rw [if_pos c1]
      have e0 : n.toNat = 0 := by omega
      have e : reps n.toNat a = Str.empty := by rw [e0]; rfl
      rw [e] at q
      exact ⟨by show (0 : Nat) ≤ sizeLine; exact Nat.zero_le _, .str _, H, I.tok _, ⟨_, rfl⟩, q⟩
    · rw [if_neg c1]
      by_cases c2 : (n == 1 || a.length == 0) = true
      · rw [if_pos c2]
        have e : reps n.toNat a = a := by
          unfold reps
          simp only [Bool.or_eq_true, beq_iff_eq] at c2
          rcases c2 with c2 | c2
          · subst c2
            show (⟨(List.replicate 1 a.cps.toList).flatten.toArray⟩ : Str) = a
            simp
          · have : a.cps = #[] := Array.eq_empty_of_size_eq_zero c2
            cases a
            simp only at this
            subst this
            simp
        rw [e] at q
        exact ⟨.str a, H, I, ⟨t, rfl⟩, q⟩
      · rw [if_neg c2]
        have e : (⟨(List.replicate n.toNat a.cps).foldl (· ++ ·) #[]⟩ : Str) = reps n.toNat a := by
          unfold reps
          rw [foldl_reps]
          simp
        rw [e]
        refine ⟨?_, .str _, H, I.tok _, ⟨_, rfl⟩, q⟩
        show (List.replicate n.toNat a.cps.toList).flatten.toArray.size ≤ sizeLine
        rw [List.size_toArray, List.length_flatten, List.map_replicate, List.sum_replicate_nat]
        have : a.cps.toList.length = a.length := by simp [Str.length]
        rw [this, Nat.mul_comm]
        exact Nat.le_trans hb (by decide)
theorem er_mulT {a : Str} {n : Int} (ha : Er K ta σ H a) (hb : Er K tb σ H n) (h0 : 0 ≤ n) (h1 : n ≤ 1000) (h2 : a.length ≤ 1000) : Er K (tOp rMulT ta tb) σ H (reps n.toNat a) :=
  er_ev (ev_op (er_s ha) (er_i hb) (rv_val fun H1 _ Q q => ⟨a, n, rfl, rfl, h0, h1, h2, q⟩)) fun _ _ => rfl
end
end Rf
set_option Elab.async false
set_option linter.all false
set_option maxRecDepth 100000
set_option maxHeartbeats 4000000
namespace Rf
open PySem L2 Evl
/-! ### what stands for itself, whatever the heap -/
class Flat (α : Type) [Rep α] : Prop where
  flat : ∀ {K : PySem.W.Frag} {H H' : Hp} {v : V} {a : α}, Rep.rep K H v a → Rep.rep K H' v a
instance : Flat Int := ⟨fun h => h⟩
instance : Flat Bool := ⟨fun h => h⟩
instance : Flat Str := ⟨fun h => h⟩
instance : Flat Unit := ⟨fun h => h⟩
instance {α : Type} [Rep α] [Flat α] : Flat (Option α) := ⟨fun {K H H' v a} h => by
  cases a with
  | none => exact h
  | some a => exact Flat.flat (α := α) h⟩
theorem All2.flat {α : Type} [Rep α] [Flat α] {K : PySem.W.Frag} {H H' : Hp} {vs : List V} {as : List α} (h : All2 (Rep.rep K H) vs as) : All2 (Rep.rep K H') vs as := h.mp fun _ _ r => Flat.flat r
/-- the base's objects, and those that are new since H1 -/
def mix (H H1 H2 : Hp) : Hp := fun p => if (H p).isSome = true ∨ H1 p = none then H2 p else none
theorem mix_ex (H H1 H2 : Hp) : Ex (mix H H1 H2) H2 := fun a o h => by
  unfold mix at h
  split at h
  · exact h
  · cases h
theorem ex_mix {H H1 H2 : Hp} (e : Ex H H1) (e2 : Ex H1 H2) : Ex H (mix H H1 H2) := fun a o h => by
  unfold mix
  rw [if_pos (.inl (by rw [h]; rfl))]
  exact e2 _ _ (e _ _ h)
theorem mix_new {H H1 H2 : Hp} {p : Addr} (h : H1 p = none) : mix H H1 H2 p = H2 p := if_pos (.inr h)
theorem mix_del {H H1 H2 : Hp} {D : Addr} (h : H D = none) (h1 : H1 D ≠ none) : Ex (mix H H1 H2) (del H2 D) := fun a o q => by
  have q0 := q
  unfold mix at q
  split at q
  · rename_i c
    have hne : a ≠ D := by
      rintro rfl
      rcases c with c | c
      · rw [h] at c; cases c
      · exact h1 c
    unfold del
    rw [if_neg hne]
    exact q
  · cases q
theorem take_succ_some {α : Type} {as : List α} {i : Nat} {a : α} (h : as[i]? = some a) : as.take (i + 1) = as.take i ++ [a] := by rw [List.take_add_one, h]; rfl
theorem filter_yes {α : Type} (as : List α) : as.filter (fun _ => true) = as := by simp
section
variable {α β γ : Type} [Rep α] [Rep β] [Rep γ] {K : PySem.W.Frag} {σ : L2.St} {H H' : Hp} {ta tb tc te tl : TE} {t u tt : TT} {X : Cx}
/-- as Er; what the value leans on is the base's or new -/
def Es (K : PySem.W.Frag) (te : TE) (σ : L2.St) (H : Hp) (a : α) : Prop := ∀ H1, Ex H H1 → ∀ Q : VK, (∀ v H2, Ex H1 H2 → Rep.rep K (mix H H1 H2) v a → Q v H2) → te σ H1 Q
theorem es_flat [Flat α] {a : α} (h : Er K te σ H a) : Es K te σ H a := fun H1 e Q q => h H1 e Q fun v H2 e2 r => q v H2 e2 (Flat.flat r)
theorem es_lst [Flat α] {as : List α} (h : ErF K te σ H as) : Es K te σ H as := fun H1 e Q q => h H1 e Q fun p H2 hp e2 ⟨xs, h1, h2⟩ => q _ H2 e2 ⟨p, rfl, xs, sq_of (by rw [mix_new hp]; exact h1), h2.flat⟩
theorem es_tup2 [Flat α] [Flat β] {a : α} {b : β} (h1 : Er K ta σ H a) (h2 : Er K tb σ H b) : Es K (tTup (tCons ta (tCons tb tNil))) σ H (a, b) := fun H1 e _ q =>
  h1 H1 e _ fun v H2 e2 r1 => h2 H2 (e.trans e2) _ fun u H3 e3 r2 => ⟨sz_of (by show 2 ≤ 100000; decide), fun p hp => q _ _ ((e2.trans e3).trans (Ex.new hp))
    ⟨p, rfl, v, u, st_of (by rw [mix_new (fresh_back (e2.trans e3) hp)]; exact upd_same), Flat.flat r1, Flat.flat r2⟩⟩
theorem es_var {i : Nat} {v : V} {a : α} (h : σ[i]? = some (some v)) (r : Rep.rep K H v a) : Es K (tVar i) σ H a := fun H1 e Q q => ⟨v, h, q v H1 (Ex.refl H1) (Rep.mono (ex_mix e (Ex.refl H1)) r)⟩
theorem Es.to {a b : α} (h : Es K te σ H a) (e : a = b) : Es K te σ H b := e ▸ h

/-! ### comprehensions -/
/-- the list so far -/
def Cl (K : PySem.W.Frag) (H : Hp) (D : Addr) (H' : Hp) (bs : List β) : Prop := H D = none ∧ Ex H H' ∧ Own K H' D bs
theorem cl_turn {H1 H' : Hp} {D : Addr} {bs : List β} {σ2 : L2.St} {b : Bool} {c : β} {N : Hp → Prop} (p : Cl K H1 D H' bs) (hz : bs.length < 50000) (ht : Et K tt σ2 H1 b) (he : b = true → Es K te σ2 H1 c)
    (hN : ∀ H'', Cl K H1 D H'' (if b then bs ++ [c] else bs) → N H'') :
    tt σ2 H' fun b H3 => if b = true then te σ2 H3 fun y H4 => ∃ acc, H4 D = some (.lst acc) ∧ acc.length < sizeLine ∧ N (upd H4 D (.lst (acc ++ [y]))) else N H3 := by
  obtain ⟨p1, p2, p3⟩ := p
  refine ht H' p2 _ fun H3 e3 => ?_
  cases b with
  | false =>
    rw [if_neg Bool.false_ne_true]
    exact hN H3 ⟨p1, p2.trans e3, p3.up e3⟩
  | true =>
    rw [if_pos rfl]
    refine he rfl H3 (p2.trans e3) _ fun y H4 e4 r => ?_
    obtain ⟨xs, q1, q2⟩ := p3.up (e3.trans e4)
    have hD3 : H3 D ≠ none := by
      obtain ⟨o, ho⟩ := (p3.up e3).some
      rw [ho]; simp
    refine ⟨xs, q1, sz_lt (by rw [q2.len]; omega), hN _ ⟨p1, Ex.mut ((p2.trans e3).trans e4) p1, _, upd_same, ?_⟩⟩
    rw [del_upd, if_pos rfl]
    exact q2.append (.one (Rep.mono (mix_del p1 hD3) r))
theorem cl_start {H1 : Hp} {D : Addr} (h : H1 D = none) : Cl K H1 D (upd H1 D (.lst [])) ([] : List β) := ⟨h, Ex.new h, [], upd_same, .nil⟩
/-- over a list, any target; g0 tells what the target does with the item -/
theorem erf_lcG {as : List α} {g : TG} {vs : List Nat} {p : α → Bool} {f : α → β} (h : Er K tl σ H as) (hz : as.length ≤ 40000)
    (ho : ∀ (i : Nat) (a : α) (v : V) (H1 : Hp), Ex H H1 → as[i]? = some a → Rep.rep K H1 v a →
      ∀ H2, Ex H1 H2 → ∀ R : L2.St → Hp → Prop, (∀ σ2, wipe σ2 vs = wipe σ vs → Et K tt σ2 H1 (p a) → (p a = true → Es K te σ2 H1 (f a)) → R σ2 H2) → g v (wipe σ vs) H2 R) :
    ErF K (tLc (iList K tl) g tt te vs) σ H ((as.filter p).map f) := fun H0 e Q q =>
  h H0 e _ fun v0 H1 e1 ⟨a0, e2, xs, hs, hall⟩ => ⟨a0, e2, ⟨xs, hs⟩, fun D hD =>
    lc_list (xs := xs) (fun i H' => Cl K H1 D H' (((as.take i).filter p).map f)) (cl_start hD) (fun i H' _ c => ex_l c.2.1 hs) (fun i x H' hx c => by
      obtain ⟨a, ha, r⟩ := hall.getV hx
      have hi : i < as.length := (List.getElem?_eq_some_iff.mp ha).1
      refine ho i a x H1 (e.trans e1) ha r H' c.2.1 _ fun σ2 hw ht he => ⟨hw, cl_turn c ?_ ht he fun H'' c' => ?_⟩
      · rw [List.length_map]
        have := List.length_filter_le p (as.take i)
        rw [List.length_take] at this
        omega
      · rw [take_succ_some ha, List.filter_append, List.map_append]
        cases hp : p a with
        | true => rw [hp] at c'; simpa [hp] using c'
        | false => rw [hp] at c'; simpa [hp] using c') (fun H' c => by
      rw [hall.len, List.take_length] at c
      exact q D H' (fresh_back e1 hD) (e1.trans c.2.1) c.2.2)⟩
theorem erf_lcF {as : List α} {j : Nat} {vs : List Nat} {p : α → Bool} {f : α → β} (h : Er K tl σ H as) (hz : as.length ≤ 40000) (hw : ∀ x, wipe ((wipe σ vs).set j (some x)) vs = wipe σ vs)
    (ht : ∀ (i : Nat) (a : α) (v : V) (H1 : Hp), Ex H H1 → as[i]? = some a → Rep.rep K H1 v a → Et K tt ((wipe σ vs).set j (some v)) H1 (p a))
    (he : ∀ (i : Nat) (a : α) (v : V) (H1 : Hp), Ex H H1 → as[i]? = some a → Rep.rep K H1 v a → p a = true → Es K te ((wipe σ vs).set j (some v)) H1 (f a)) :
    ErF K (tLc (iList K tl) (gName j) tt te vs) σ H ((as.filter p).map f) :=
  erf_lcG h hz fun i a v H1 e ha r H2 _ R hR => hR _ (hw _) (ht i a v H1 e ha r) (he i a v H1 e ha r)
theorem et_yes : Et K tYes σ H true := fun H1 _ Q q => q H1 (Ex.refl H1)
theorem erf_lc {as : List α} {j : Nat} {vs : List Nat} {f : α → β} (h : Er K tl σ H as) (hz : as.length ≤ 40000) (hw : ∀ x, wipe ((wipe σ vs).set j (some x)) vs = wipe σ vs)
    (he : ∀ (i : Nat) (a : α) (v : V) (H1 : Hp), Ex H H1 → as[i]? = some a → Rep.rep K H1 v a → Es K te ((wipe σ vs).set j (some v)) H1 (f a)) :
    ErF K (tLc (iList K tl) (gName j) tYes te vs) σ H (as.map f) := by
  have q := erf_lcF (p := fun _ => true) (tt := tYes) h hz hw (fun _ _ _ _ _ _ _ => et_yes) fun i a v H1 e ha r _ => he i a v H1 e ha r
  rw [filter_yes] at q
  exact q
/-- a range is walked -/
def Rg (_ : PySem.W.Frag) (wi : TI) (σ : L2.St) (H : Hp) (lo : Int) (n : Nat) : Prop := ∀ H1, Ex H H1 → ∀ R : It → Hp → Prop, (∀ H2, Ex H1 H2 → R (Itr lo n) H2) → wi σ H1 R
theorem Rg.to {wi : TI} {lo : Int} {n m : Nat} (h : Rg K wi σ H lo n) (e : n = m) : Rg K wi σ H lo m := e ▸ h
/-- over a range -/
theorem erf_lcRG {lo : Int} {n : Nat} {j : Nat} {vs : List Nat} {wi : TI} {p : Nat → Bool} {f : Nat → β} (h : Rg K wi σ H lo n) (hz : n ≤ 40000) (hw : ∀ x, wipe ((wipe σ vs).set j (some x)) vs = wipe σ vs)
    (ht : ∀ (i : Nat) (H1 : Hp), Ex H H1 → i < n → Et K tt ((wipe σ vs).set j (some (.int (lo + i)))) H1 (p i))
    (he : ∀ (i : Nat) (H1 : Hp), Ex H H1 → i < n → p i = true → Es K te ((wipe σ vs).set j (some (.int (lo + i)))) H1 (f i)) :
    ErF K (tLc wi (gName j) tt te vs) σ H (((List.range n).filter p).map f) := fun H0 e Q q =>
  h H0 e _ fun H1 e1 => fun D hD =>
    lc_range (lo := lo) (n := n) (fun i H' => Cl K H1 D H' (((List.range i).filter p).map f)) (cl_start hD) (fun i H' hi c => ⟨hw _, cl_turn c (by
      rw [List.length_map]
      have := List.length_filter_le p (List.range i)
      rw [List.length_range] at this
      omega) (ht i H1 (e.trans e1) hi) (he i H1 (e.trans e1) hi) fun H'' c' => by
      rw [List.range_succ, List.filter_append, List.map_append]
      cases hp : p i with
      | true => rw [hp] at c'; simpa [hp] using c'
      | false => rw [hp] at c'; simpa [hp] using c'⟩) fun H' c => q D H' (fresh_back e1 hD) (e1.trans c.2.1) c.2.2
theorem rng1 {n : Int} (h : Er K ta σ H n) (hn : n ≤ 100000) (hn0 : -100000 ≤ n) : Rg K (iRng1 (tCons ta tNil)) σ H 0 n.toNat := fun H1 e R q =>
  er_i h H1 e _ fun H2 e2 => ⟨n, rfl, by omega, by omega, q H2 e2⟩
theorem rng2 {lo n : Int} (h1 : Er K ta σ H lo) (h : Er K tb σ H n) (hn : n ≤ 100000) (hn0 : -100000 ≤ n) (hl : lo ≤ 100000) (hl0 : -100000 ≤ lo) : Rg K (iRng2 (tCons ta (tCons tb tNil))) σ H lo (n - lo).toNat := fun H1 e R q =>
  er_i h1 H1 e _ fun H2 e2 => er_i h H2 (e.trans e2) _ fun H3 e3 => ⟨lo, n, rfl, ⟨by omega, by omega, by omega, by omega⟩, q H3 (e2.trans e3)⟩
theorem erf_lcR {lo : Int} {n : Nat} {j : Nat} {vs : List Nat} {wi : TI} {f : Nat → β} (h : Rg K wi σ H lo n) (hz : n ≤ 40000) (hw : ∀ x, wipe ((wipe σ vs).set j (some x)) vs = wipe σ vs)
    (he : ∀ (i : Nat) (H1 : Hp), Ex H H1 → i < n → Es K te ((wipe σ vs).set j (some (.int (lo + i)))) H1 (f i)) :
    ErF K (tLc wi (gName j) tYes te vs) σ H ((List.range n).map f) := by
  have q := erf_lcRG (p := fun _ => true) (tt := tYes) h hz hw (fun _ _ _ _ => et_yes) fun i H1 e hi _ => he i H1 e hi
  rw [filter_yes] at q
  exact q
/-- over a text's signs -/
theorem lc_str {x : Str} {g : TG} {vs : List Nat} {H1 : Hp} {D : Addr} {Qd : Hp → Prop} (Pv : Nat → Hp → Prop) (h0 : Pv 0 (upd H1 D (.lst [])))
    (hs : ∀ i c H, x.cps[i]? = some c → Pv i H → g (.str ⟨#[c]⟩) (wipe σ vs) H fun σ2 H2 => wipe σ2 vs = wipe σ vs ∧ tt σ2 H2 fun b H3 =>
      if b = true then te σ2 H3 fun y H4 => ∃ acc, H4 D = some (.lst acc) ∧ acc.length < sizeLine ∧ Pv (i + 1) (upd H4 D (.lst (acc ++ [y]))) else Pv (i + 1) H3) (hd : ∀ H, Pv x.cps.size H → Qd H) :
    ∃ W : Nat → Nat → Hp → Prop, (∃ m, W 0 m (upd H1 D (.lst []))) ∧ ∀ i m H, W i m H →
      ((Its x).stop i H ∧ Qd H) ∨ ((Its x).go i H ∧ ∃ Nx : Hp → Prop, (∀ H', Nx H' → ∃ m', m' < m ∧ W (i + 1) m' H') ∧ ∀ v H', (Its x).yld i H v H' → g v (wipe σ vs) H' fun σ2 H2 => wipe σ2 vs = wipe σ vs ∧ tt σ2 H2 fun b H3 =>
        if b = true then te σ2 H3 fun y H4 => ∃ acc, H4 D = some (.lst acc) ∧ acc.length < sizeLine ∧ Nx (upd H4 D (.lst (acc ++ [y]))) else Nx H3) := by
  refine ⟨fun i m H => m = x.cps.size - i ∧ i ≤ x.cps.size ∧ Pv i H, ⟨x.cps.size, by simp, Nat.zero_le _, h0⟩, ?_⟩
  rintro i m H ⟨rfl, hi, p⟩
  by_cases hlt : i < x.cps.size
  · refine .inr ⟨hlt, Pv (i + 1), fun H' p' => ⟨x.cps.size - (i + 1), by omega, rfl, hlt, p'⟩, fun v H' y => ?_⟩
    obtain ⟨e, c, hc, e2⟩ := y
    subst e e2
    exact hs i c _ hc p
  · have e : i = x.cps.size := by omega
    subst e
    exact .inl ⟨Nat.le_refl _, hd H p⟩
def sgn (c : Nat) : Str := ⟨#[c]⟩
theorem erf_lcS {x : Str} {j : Nat} {vs : List Nat} {f : Nat → β} (h : Er K tl σ H x) (hz : x.length ≤ 40000) (hw : ∀ x, wipe ((wipe σ vs).set j (some x)) vs = wipe σ vs)
    (he : ∀ (i : Nat) (c : Nat) (H1 : Hp), Ex H H1 → x.cps[i]? = some c → Es K te ((wipe σ vs).set j (some (.str (sgn c)))) H1 (f c)) :
    ErF K (tLc (iStr tl) (gName j) tYes te vs) σ H (x.cps.toList.map f) := fun H0 e Q q =>
  er_s h H0 e _ fun H1 e1 => ⟨x, rfl, fun D hD =>
    lc_str (x := x) (fun i H' => Cl K H1 D H' ((x.cps.toList.take i).map f)) (cl_start hD) (fun i c H' hx cl => by
      have hi : i < x.cps.size := (Array.getElem?_eq_some_iff.mp hx).1
      have hx' : x.cps.toList[i]? = some c := by rw [Array.getElem?_toList]; exact hx
      refine ⟨hw _, cl_turn cl ?_ et_yes (fun _ => he i c H1 (e.trans e1) hx) fun H'' c' => ?_⟩
      · rw [List.length_map, List.length_take]
        have : x.cps.size ≤ 40000 := hz
        omega
      · rw [take_succ_some hx', List.map_append]
        simpa using c') fun H' c => by
      rw [List.take_of_length_le (by rw [Array.length_toList]; exact Nat.le_refl _)] at c
      exact q D H' (fresh_back e1 hD) (e1.trans c.2.1) c.2.2⟩
/-- two names of a tuple -/
abbrev gTwo (K : PySem.W.Frag) (i j : Nat) : TG := gTup K 2 (gCons (gName i) (gCons (gName j) gNil))
theorem gTwo_run {i j : Nat} {p : Addr} {x y : V} {σ : L2.St} {H : Hp} {R : L2.St → Hp → Prop} (h : SqT K H p [x, y]) (hR : R ((σ.set i (some x)).set j (some y)) H) : gTwo K i j (.ref p) σ H R :=
  ⟨p, [x, y], rfl, h, rfl, x, [y], rfl, y, [], rfl, rfl, hR⟩
/-- over enumerate(list) -/
theorem lc_enum {a : Addr} {xs : List V} {g : TG} {vs : List Nat} {H1 : Hp} {D : Addr} {Qd : Hp → Prop} (Pv : Nat → Hp → Prop) (h0 : Pv 0 (upd H1 D (.lst []))) (hl : ∀ i H, i ≤ xs.length → Pv i H → SqL K H a xs)
    (hs : ∀ i x T H, xs[i]? = some x → Pv i H → H T = none → g (.ref T) (wipe σ vs) (upd H T (.tup [.int (i : Nat), x])) fun σ2 H2 => wipe σ2 vs = wipe σ vs ∧ tt σ2 H2 fun b H3 =>
      if b = true then te σ2 H3 fun y H4 => ∃ acc, H4 D = some (.lst acc) ∧ acc.length < sizeLine ∧ Pv (i + 1) (upd H4 D (.lst (acc ++ [y]))) else Pv (i + 1) H3) (hd : ∀ H, Pv xs.length H → Qd H) :
    ∃ W : Nat → Nat → Hp → Prop, (∃ m, W 0 m (upd H1 D (.lst []))) ∧ ∀ i m H, W i m H →
      ((Ite K a).stop i H ∧ Qd H) ∨ ((Ite K a).go i H ∧ ∃ Nx : Hp → Prop, (∀ H', Nx H' → ∃ m', m' < m ∧ W (i + 1) m' H') ∧ ∀ v H', (Ite K a).yld i H v H' → g v (wipe σ vs) H' fun σ2 H2 => wipe σ2 vs = wipe σ vs ∧ tt σ2 H2 fun b H3 =>
        if b = true then te σ2 H3 fun y H4 => ∃ acc, H4 D = some (.lst acc) ∧ acc.length < sizeLine ∧ Nx (upd H4 D (.lst (acc ++ [y]))) else Nx H3) := by
  refine ⟨fun i m H => m = xs.length - i ∧ i ≤ xs.length ∧ Pv i H, ⟨xs.length, by simp, Nat.zero_le _, h0⟩, ?_⟩
  rintro i m H ⟨rfl, hi, p⟩
  have q := hl i H hi p
  by_cases hlt : i < xs.length
  · refine .inr ⟨⟨xs, xs[i], q, by simp [hlt]⟩, Pv (i + 1), fun H' p' => ⟨xs.length - (i + 1), by omega, rfl, hlt, p'⟩, fun v H' y => ?_⟩
    obtain ⟨T, x, rfl, hT, rfl, hx⟩ := y
    exact hs i x T H (hx xs q) p hT
  · have e : i = xs.length := by omega
    subst e
    exact .inl ⟨⟨xs, q, Nat.le_refl _⟩, hd H p⟩
theorem erf_lcE {as : List α} {i0 j : Nat} {vs : List Nat} {p : Nat → α → Bool} {f : Nat → α → β} (h : Er K tl σ H as) (hz : as.length ≤ 40000) (hw : ∀ x y, wipe (((wipe σ vs).set i0 (some x)).set j (some y)) vs = wipe σ vs)
    (ht : ∀ (i : Nat) (a : α) (v : V) (H1 : Hp), Ex H H1 → as[i]? = some a → Rep.rep K H1 v a → Et K tt (((wipe σ vs).set i0 (some (.int (i : Nat)))).set j (some v)) H1 (p i a))
    (he : ∀ (i : Nat) (a : α) (v : V) (H1 : Hp), Ex H H1 → as[i]? = some a → Rep.rep K H1 v a → p i a = true → Es K te (((wipe σ vs).set i0 (some (.int (i : Nat)))).set j (some v)) H1 (f i a)) :
    ErF K (tLc (iEnum K (tCons tl tNil)) (gTwo K i0 j) tt te vs) σ H ((as.zipIdx.filter fun c => p c.2 c.1).map fun c => f c.2 c.1) := fun H0 e Q q =>
  h H0 e _ fun v0 H1 e1 ⟨a0, e2, xs, hs, hall⟩ => ⟨a0, xs, by rw [e2], hs, fun D hD =>
    lc_enum (xs := xs) (fun i H' => Cl K H1 D H' ((((as.zipIdx).take i).filter fun c => p c.2 c.1).map fun c => f c.2 c.1)) (cl_start hD) (fun i H' _ c => ex_l c.2.1 hs) (fun i x T H' hx c hT => by
      obtain ⟨a, ha, r⟩ := hall.getV hx
      have hi : i < as.length := (List.getElem?_eq_some_iff.mp ha).1
      have hz' : as.zipIdx[i]? = some (a, i) := by rw [List.getElem?_zipIdx, ha]; simp
      have cT : Cl K H1 D (upd H' T (.tup [.int (i : Nat), x])) ((((as.zipIdx).take i).filter fun c => p c.2 c.1).map fun c => f c.2 c.1) := ⟨c.1, c.2.1.trans (Ex.new hT), c.2.2.up (Ex.new hT)⟩
      refine gTwo_run (st_of upd_same) ⟨hw _ _, cl_turn cT ?_ (ht i a x H1 (e.trans e1) ha r) (he i a x H1 (e.trans e1) ha r) fun H'' c' => ?_⟩
      · rw [List.length_map]
        have := List.length_filter_le (fun c => p c.2 c.1) (as.zipIdx.take i)
        rw [List.length_take, List.length_zipIdx] at this
        omega
      · rw [take_succ_some hz', List.filter_append, List.map_append]
        cases hp : p i a with
        | true => rw [hp] at c'; simpa [hp] using c'
        | false => rw [hp] at c'; simpa [hp] using c') (fun H' c => by
      rw [hall.len, List.take_of_length_le (by simp)] at c
      exact q D H' (fresh_back e1 hD) (e1.trans c.2.1) c.2.2)⟩

/-! ### texts, further -/
theorem er_ixS {z : Str} {i : Int} {c : Nat} (ha : Er K ta σ H z) (hb : Er K tb σ H i) (hz : z.length ≤ 100000) (e : atI z.cps.toList i = some c) : Er K (tOp rIxS ta tb) σ H (sgn c) :=
  er_ev (ev_op (er_s ha) (er_i hb) (rv_ixS hz e)) fun _ _ => rfl
theorem er_slS {z : Str} {tl th : TO} {lo hi : Option Int} (h : Er K te σ H z) (h1 : Eo K tl σ H lo) (h2 : Eo K th σ H hi) (hz : z.length ≤ 100000) : Er K (tSl rSlS te tl th) σ H (cutS z lo hi) := fun H1 e Q q =>
  er_s h H1 e _ fun H2 e2 => h1 H2 (e.trans e2) _ fun H3 e4 => h2 H3 ((e.trans e2).trans e4) _ fun H4 e5 => ⟨z, rfl, sz_of hz, q _ H4 ((e2.trans e4).trans e5) rfl⟩
def rInS (neg : Bool) : R2 := fun x y H Q => ∃ (c : Nat) (z : Str), x = .str (sgn c) ∧ y = .str z ∧ Q (.bl (if neg then !decide (c ∈ z.cps.toList) else decide (c ∈ z.cps.toList))) H
theorem oInS : OpR X (compareOp .In) (rInS false) := fun pins s σ H x y v u Q I rx ry ⟨c, z, h1, h2, q⟩ => op_in_sign pins s σ H x y v u Q I rx ry ⟨c, z, h1, h2, q⟩
theorem er_inS {c : Nat} {z : Str} (ha : Er K ta σ H (sgn c)) (hb : Er K tb σ H z) : Er K (tOp (rInS false) ta tb) σ H (decide (c ∈ z.cps.toList)) :=
  er_ev (ev_op (er_s ha) (er_s hb) (rv_val fun H1 _ Q q => ⟨c, z, rfl, rfl, q⟩)) fun _ _ => rfl
/-- z[::-1] -/
def tRevS (te : TE) : TE := fun σ H Q => te σ H fun x H1 => ∃ z, x = .str z ∧ z.length ≤ sizeLine ∧ Q (.str ⟨z.cps.toList.reverse.toArray⟩) H1
theorem er_revS {z : Str} (h : Er K te σ H z) (hz : z.length ≤ 100000) : Er K (tRevS te) σ H (⟨z.cps.toList.reverse.toArray⟩ : Str) := fun H1 e Q q =>
  er_s h H1 e _ fun H2 e2 => ⟨z, rfl, sz_of hz, q _ H2 e2 rfl⟩
theorem picked_rev (z : Str) : (Builtin.Str.strSliceIndices none none (-1) z.length).filterMap (z.cps[·]?) = z.cps.toList.reverse := by
  have h : Builtin.Str.strSliceIndices none none (-1) z.length = (List.range z.length).map fun k => z.length - 1 - k := by
    rw [← PySem.W.krv_sliceRange]
    rfl
  rw [h, PySem.W.krv_range, List.filterMap_reverse]
  have e : z.length = z.cps.size := rfl
  rw [e, PySem.W.krv_all]
theorem pe_revS {e : Expr} {te : TE} {k : Nat} {p1 p2 p3 pos : Pos} (he : PE X e te) : PE X (.Subscript e (.Slice none none (some (.UnaryOp .USub (.Constant (.int 1) k p1) p2)) p3) pos) (tRevS te) := by
  refine ⟨fun pins s σ H Q I h => ?_⟩
  refine PyProof.Rows.Subscript_ (thn (he.run pins s σ H _ I h) fun v s1 ⟨x, H1, I1, r1, z, ex, hz, q⟩ => ?_)
  subst ex
  obtain ⟨t, rfl⟩ := r1
  have hst : PO X (some (.UnaryOp .USub (.Constant (.int 1) k p1) p2)) (tPart (tUn (rU fun i => .int (-i)) (tC (.int 1)))) := po_some (pe_un un_neg pe_int)
  refine wpAny_Slice (thn (po_none.run pins s1 σ H1 (fun o H2 => o = none ∧ H2 = H1) I1 ⟨rfl, rfl⟩) fun vl s2 ⟨l, H2, I2, pl, el, e2⟩ => ?_)
  subst el e2
  refine thn (po_none.run pins s2 σ H2 (fun o H3 => o = none ∧ H3 = H2) I2 ⟨rfl, rfl⟩) fun vu s3 ⟨u, H3, I3, pu, eu, e3⟩ => ?_
  subst eu e3
  refine thn (hst.run pins s3 σ H3 (fun o H4 => o = some (-1) ∧ H4 = H3) I3 ⟨1, rfl, -1, rfl, rfl, rfl⟩) fun vs s4 ⟨o, H4, I4, ps, eo, e4⟩ => ?_
  subst eo e4
  obtain ⟨l', rfl, hl'⟩ := IsPart.raw pl
  obtain ⟨u', rfl, hu'⟩ := IsPart.raw pu
  obtain ⟨st', rfl, hst'⟩ := IsPart.raw ps
  have I5 : Inv X pins σ H4 { s4 with heap := s4.heap.push { cls := .type "slice", data := .fields #[partValue l', partValue u', partValue st'] } } := I4.kept (t' := s4.toks) fun b ob q => Heap.get?_push_of_some _ q
  show wpAny (model X.prog X.w) X.A (PyProof.Rows.subscriptTail e (.Slice none none (some (.UnaryOp .USub (.Constant (.int 1) k p1) p2)) p3) (.str z t) (.ref s4.heap.objs.size)) (EP X pins σ Q) X.xe _
  have hl0 : l'.map (·.1) = none := hl'
  have hu0 : u'.map (·.1) = none := hu'
  have hs0 : st'.map (·.1) = some (-1) := hst'
  refine PyProof.Rows.tail_any (T := "str") (ops := [.ref s4.heap.objs.size, .str z t]) (typeIs_str _ _ _) F.slot_str_getitem.lookup ?_ (by with_unfolding_all rfl)
  refine wpAny_getItem_str_slice (l := l') (u := u') (st := st') ⟨_, Heap.get?_push_size _ rfl, rfl, rfl⟩ (by rw [hs0]; rfl) ?_
  unfold sliceMade slicePicked
  rw [hl0, hu0, hs0]
  show Made.post (if ((-1 : Int) == 1 && _) = true then _ else Made.str ⟨((Builtin.Str.strSliceIndices none none (-1) z.length).filterMap (z.cps[·]?)).toArray⟩) _ _
  rw [if_neg (by rw [show ((-1 : Int) == 1) = false by decide, Bool.false_and]; decide), picked_rev]
  refine ⟨?_, .str _, H4, I5.tok _, ⟨_, rfl⟩, q⟩
  show z.cps.toList.reverse.toArray.size ≤ sizeLine
  rw [List.size_toArray, List.length_reverse, Array.length_toList]
  exact hz
end
end Rf
set_option Elab.async false
set_option linter.all false
set_option maxRecDepth 100000
set_option maxHeartbeats 4000000
namespace Rf
open PySem L2 Evl
/-! ### data that is compared -/
class Dat (α : Type) [Rep α] where
  data : α → PyData
  dep : Nat
  dp : ∀ {K : PySem.W.Frag} {H : Hp} {v : V} {a : α}, Rep.rep K H v a → Dp K H v (data a)
  deq : ∀ a b : α, PyData.eqv (data a) (data b) = true ↔ a = b
  lay : α → Prop
  can : ∀ {a : α}, lay a → PyData.canLay0 (data a) = true
  deep : ∀ a : α, PyData.depth (data a) ≤ dep
instance : Dat Int where
  data := .int
  dep := 0
  dp := fun {K H v a} h => by
    have h' : v = .int a := h
    rw [h']; exact .int a
  deq := fun a b => by simp [PyData.eqv]
  lay := fun _ => True
  can := fun _ => rfl
  deep := fun _ => Nat.le_refl _
instance : Dat Bool where
  data := .bool
  dep := 0
  dp := fun {K H v a} h => by
    have h' : v = .bl a := h
    rw [h']; exact .bl a
  deq := fun a b => by simp [PyData.eqv]
  lay := fun _ => True
  can := fun _ => rfl
  deep := fun _ => Nat.le_refl _
theorem dpAll_of {α : Type} [Rep α] [Dat α] {K : PySem.W.Frag} {H : Hp} : ∀ {vs : List V} {as : List α}, All2 (Rep.rep K H) vs as → DpAll K H vs (as.map Dat.data)
  | _, _, .nil => .nil
  | _, _, .cons h t => .cons (Dat.dp h) (dpAll_of t)
theorem eqvAll_of {α : Type} [Rep α] [Dat α] : ∀ as bs : List α, PyData.eqvAll (as.map Dat.data) (bs.map Dat.data) = true ↔ as = bs
  | [], [] => by simp [PyData.eqvAll]
  | [], _ :: _ => by simp [PyData.eqvAll]
  | _ :: _, [] => by simp [PyData.eqvAll]
  | a :: as, b :: bs => by simp [PyData.eqvAll, Dat.deq, eqvAll_of as bs]
theorem canAll_of {α : Type} [Rep α] [Dat α] : ∀ as : List α, (∀ a ∈ as, Dat.lay a) → PyData.canLayAll0 (as.map Dat.data) = true
  | [], _ => rfl
  | a :: as, h => by
    simp only [List.map_cons, PyData.canLayAll0, Bool.and_eq_true]
    exact ⟨Dat.can (h a (by simp)), canAll_of as fun b hb => h b (by simp [hb])⟩
theorem deepAll_of {α : Type} [Rep α] [Dat α] : ∀ as : List α, PyData.depthAll (as.map Dat.data) ≤ Dat.dep α
  | [] => Nat.zero_le _
  | a :: as => by
    simp only [List.map_cons, PyData.depthAll]
    exact Nat.max_le.mpr ⟨Dat.deep a, deepAll_of as⟩
instance {α : Type} [Rep α] [Dat α] : Dat (List α) where
  data := fun as => .list (as.map Dat.data)
  dep := Dat.dep α + 1
  dp := fun {K H v a} h => by
    obtain ⟨p, e, xs, h1, h2⟩ := h
    rw [e]
    exact .lst h1 (dpAll_of h2)
  deq := fun a b => by simp only [PyData.eqv]; exact eqvAll_of a b
  lay := fun as => ∀ a ∈ as, Dat.lay a
  can := fun {a} h => by simp only [PyData.canLay0]; exact canAll_of a h
  deep := fun a => by simp only [PyData.depth]; have := deepAll_of a; omega
section
variable {α β γ δ : Type} [Rep α] [Rep β] [Rep γ] [Rep δ] {K : PySem.W.Frag} {σ : L2.St} {H H' : Hp} {ta tb tc te tl : TE} {t u tt : TT} {X : Cx}
theorem shaped_of [Dat α] {a : α} (h : Dat.lay a) (hd : Dat.dep α ≤ 64) : SeqAt.shaped (Dat.data a) = true := by
  unfold SeqAt.shaped
  rw [Dat.can h, decide_eq_true (Nat.le_trans (Dat.deep a) hd)]; rfl
theorem eqv_dec [Dat α] [DecidableEq α] (a b : α) : PyData.eqv (Dat.data a) (Dat.data b) = decide (a = b) := by
  rw [Bool.eq_iff_iff, Dat.deq, decide_eq_true_iff]
theorem er_eqD [Dat α] [DecidableEq α] {a b : α} (ha : Er K ta σ H a) (hb : Er K tb σ H b) (la : Dat.lay a) (lb : Dat.lay b) (hd : Dat.dep α ≤ 64) : Er K (tOp (rEqD K) ta tb) σ H (decide (a = b)) :=
  er_two ha hb fun x y H1 _ rx ry Q q => ⟨Dat.data a, Dat.data b, Dat.dp rx, Dat.dp ry, shaped_of la hd, shaped_of lb hd, q _ H1 (Ex.refl H1) (by rw [eqv_dec]; rfl)⟩
theorem er_neD [Dat α] [DecidableEq α] {a b : α} (ha : Er K ta σ H a) (hb : Er K tb σ H b) (la : Dat.lay a) (lb : Dat.lay b) (hd : Dat.dep α ≤ 64) : Er K (tOp (rNeD K) ta tb) σ H (!decide (a = b)) :=
  er_two ha hb fun x y H1 _ rx ry Q q => ⟨Dat.data a, Dat.data b, Dat.dp rx, Dat.dp ry, shaped_of la hd, shaped_of lb hd, q _ H1 (Ex.refl H1) (by rw [eqv_dec]; rfl)⟩

/-! ### join, max, min, abs, isinstance -/
def catS (ys : List Str) : Str := ⟨(ys.map (·.cps.toList)).flatten.toArray⟩
def rJoin (K : PySem.W.Frag) : V → List V → Hp → VK → Prop := fun x xs H Q => ∃ a p, ∃ ys : List Str, x = .str a ∧ xs = [.ref p] ∧ (SqL K H p (ys.map V.str) ∨ SqT K H p (ys.map V.str)) ∧ (ys.map (·.length)).sum + ys.length * a.length ≤ 16777216 ∧ Q (.str (Txt.join a ys)) H
theorem pe_join' {o e : Expr} {to te : TE} {apos pos : Pos} (ho : PE X o to) (he : PE X e te) (hs : starEach [e] X.env = [(false, eval e X.env)] := by rfl) (hbase : attributeBase o "join" X.env (eval o X.env) = eval o X.env := by rfl) (hline : (apos.endLine == pos.line) = true := by rfl) :
    PE X (.Call (.Attribute o "join" apos) [e] [] pos) (tM1 (rJoin X.K) to te) := pe_join ho he hs hbase hline
theorem join_empty : ∀ ys : List Str, Str.join (⟨#[]⟩ : Str) ys = catS ys
  | [] => rfl
  | [x] => by
    show x = catS [x]
    unfold catS
    simp
  | x :: y :: r => by
    show x ++ (⟨#[]⟩ : Str) ++ Str.join ⟨#[]⟩ (y :: r) = _
    rw [join_empty (y :: r)]
    unfold catS
    show (⟨(x.cps ++ #[]) ++ _⟩ : Str) = _
    congr 1
    apply Array.ext'
    simp
theorem txt_join (ys : List Str) : Txt.join (⟨#[]⟩ : Str) ys = catS ys := by
  rw [← join_empty]
  exact PySem.StrLaws.glued_eq_join _ ys
theorem er_join {z : Str} {ys : List Str} (hz : z = ⟨#[]⟩) (h : Er K te σ H ys) (hl : (ys.map (·.length)).sum ≤ 100000) : Er K (tM1 (rJoin K) (tC (.str z)) te) σ H (catS ys) := fun H1 e Q q =>
  ⟨⟨z, rfl⟩, h H1 e _ fun v H2 e2 ⟨p, e3, xs, hs, hall⟩ => ⟨z, p, ys, rfl, by rw [e3], .inl (by rw [← all2_str hall]; exact hs), by
    have : z.length = 0 := by rw [hz]; rfl
    rw [this]; omega, by rw [hz, txt_join]; exact q _ H2 e2 rfl⟩⟩
def rMaxL (K : PySem.W.Frag) : List V → Hp → VK → Prop := rMax K
def rMinL (K : PySem.W.Frag) : List V → Hp → VK → Prop := rMin K
theorem cMaxL (hc : X.calm = true) : CallR X (.builtin "max") (rMaxL X.K) := cr_max hc
theorem cMinL (hc : X.calm = true) : CallR X (.builtin "min") (rMinL X.K) := cr_min hc
def maxI : List Int → Int
  | [] => 0
  | [a] => a
  | a :: b :: r => if maxI (b :: r) > a then maxI (b :: r) else a
theorem maxI_mem : ∀ {l : List Int}, l ≠ [] → maxI l ∈ l ∧ ∀ y ∈ l, y ≤ maxI l
  | [a], _ => by simp [maxI]
  | a :: b :: r, _ => by
    obtain ⟨h1, h2⟩ := maxI_mem (l := b :: r) (by simp)
    show (if maxI (b :: r) > a then maxI (b :: r) else a) ∈ a :: b :: r ∧ ∀ y ∈ a :: b :: r, y ≤ (if maxI (b :: r) > a then maxI (b :: r) else a)
    split
    · rename_i h
      refine ⟨List.mem_cons_of_mem _ h1, fun y hy => ?_⟩
      rcases List.mem_cons.mp hy with e | e
      · omega
      · exact h2 y e
    · rename_i h
      refine ⟨by simp, fun y hy => ?_⟩
      rcases List.mem_cons.mp hy with e | e
      · omega
      · have := h2 y e; omega
def minI : List Int → Int
  | [] => 0
  | [a] => a
  | a :: b :: r => if minI (b :: r) < a then minI (b :: r) else a
theorem minI_mem : ∀ {l : List Int}, l ≠ [] → minI l ∈ l ∧ ∀ y ∈ l, minI l ≤ y
  | [a], _ => by simp [minI]
  | a :: b :: r, _ => by
    obtain ⟨h1, h2⟩ := minI_mem (l := b :: r) (by simp)
    show (if minI (b :: r) < a then minI (b :: r) else a) ∈ a :: b :: r ∧ ∀ y ∈ a :: b :: r, (if minI (b :: r) < a then minI (b :: r) else a) ≤ y
    split
    · rename_i h
      refine ⟨List.mem_cons_of_mem _ h1, fun y hy => ?_⟩
      rcases List.mem_cons.mp hy with e | e
      · omega
      · exact h2 y e
    · rename_i h
      refine ⟨by simp, fun y hy => ?_⟩
      rcases List.mem_cons.mp hy with e | e
      · omega
      · have := h2 y e; omega
theorem er_maxL {ns : List Int} (h : Er K ta σ H ns) (h0 : ns ≠ []) : Er K (tCB (rMaxL K) (tCons ta tNil)) σ H (maxI ns) := fun H1 e Q q =>
  h H1 e _ fun v H2 e2 ⟨p, e3, hl⟩ => ⟨p, ns, by rw [e3], lst_int hl, by cases ns <;> simp_all, fun m hm hle => by
    have e : m = maxI ns := Int.le_antisymm ((maxI_mem h0).2 m hm) (hle _ (maxI_mem h0).1)
    subst e
    exact q _ H2 e2 rfl⟩
theorem er_minL {ns : List Int} (h : Er K ta σ H ns) (h0 : ns ≠ []) : Er K (tCB (rMinL K) (tCons ta tNil)) σ H (minI ns) := fun H1 e Q q =>
  h H1 e _ fun v H2 e2 ⟨p, e3, hl⟩ => ⟨p, ns, by rw [e3], lst_int hl, by cases ns <;> simp_all, fun m hm hle => by
    have e : m = minI ns := Int.le_antisymm (hle _ (minI_mem h0).1) ((minI_mem h0).2 m hm)
    subst e
    exact q _ H2 e2 rfl⟩
def rAbs : List V → Hp → VK → Prop := fun xs H Q => ∃ i, xs = [.int i] ∧ Q (.int (if i < 0 then -i else i)) H
theorem cAbs : CallR X (.builtin "abs") rAbs := call_abs
theorem er_abs {i : Int} (h : Er K ta σ H i) : Er K (tCB rAbs (tCons ta tNil)) σ H (if i < 0 then -i else i) := fun H1 e Q q =>
  er_i h H1 e _ fun H2 e2 => ⟨i, rfl, q _ H2 e2 rfl⟩
theorem cIsi : CallR X (.builtin "isinstance") (rIsi X.K) := call_isi
theorem er_isi {a : α} {T U : String} {b : Bool} (h : Er K ta σ H a) (ty : ∀ H1 v, Rep.rep K H1 v a → TyX K H1 v (.type T)) (kb : kitB T U = some b) : Er K (tCB (rIsi K) (tCons ta (tCons (tC (.ty U)) tNil))) σ H b := fun H1 e Q q =>
  h H1 e _ fun v H2 e2 r => ⟨v, .ty U, _, _, b, rfl, .ty U, ty H2 v r, kit_ty kb, q _ H2 e2 rfl⟩
theorem ty_int {H1 : Hp} {v : V} {a : Int} (r : Rep.rep K H1 v a) : TyX K H1 v (.type "int") := by
  have r' : v = .int a := r
  rw [r']; exact .base (.int a)
theorem ty_bl {H1 : Hp} {v : V} {a : Bool} (r : Rep.rep K H1 v a) : TyX K H1 v (.type "bool") := by
  have r' : v = .bl a := r
  rw [r']; exact .base (.bl a)
theorem ty_str {H1 : Hp} {v : V} {a : Str} (r : Rep.rep K H1 v a) : TyX K H1 v (.type "str") := by
  have r' : v = .str a := r
  rw [r']; exact .base (.str a)
theorem ty_lst {H1 : Hp} {v : V} {as : List α} (r : Rep.rep K H1 v as) : TyX K H1 v (.type "list") := by
  obtain ⟨p, rfl, xs, hs, _⟩ := r
  rcases hs with (h | ⟨o, h⟩) | ⟨o, its, n, h, hc, _⟩
  · exact .base (.lst h)
  · exact .base (.frz h)
  · exact .kList h hc

/-! ### what a def promises -/
def Pr1 (K : PySem.W.Frag) (pre : α → Prop) (f : α → β) : Sp := fun vs H Q _ => ∃ v a, vs = [v] ∧ Rep.rep K H v a ∧ pre a ∧ ∀ u H', Ex H H' → Rep.rep K H' u (f a) → Q u H'
def Pr2 (K : PySem.W.Frag) (pre : α → β → Prop) (f : α → β → γ) : Sp := fun vs H Q _ => ∃ v w a b, vs = [v, w] ∧ Rep.rep K H v a ∧ Rep.rep K H w b ∧ pre a b ∧ ∀ u H', Ex H H' → Rep.rep K H' u (f a b) → Q u H'
def Pr3 (K : PySem.W.Frag) (pre : α → β → γ → Prop) (f : α → β → γ → δ) : Sp := fun vs H Q _ => ∃ v w z a b c, vs = [v, w, z] ∧ Rep.rep K H v a ∧ Rep.rep K H w b ∧ Rep.rep K H z c ∧ pre a b c ∧ ∀ u H', Ex H H' → Rep.rep K H' u (f a b c) → Q u H'
/-- .. a new list -/
def PrF1 (K : PySem.W.Frag) (pre : α → Prop) (f : α → List β) : Sp := fun vs H Q _ => ∃ v a, vs = [v] ∧ Rep.rep K H v a ∧ pre a ∧ ∀ p H', H p = none → Ex H H' → Own K H' p (f a) → Q (.ref p) H'
def PrF2 (K : PySem.W.Frag) (pre : α → β → Prop) (f : α → β → List γ) : Sp := fun vs H Q _ => ∃ v w a b, vs = [v, w] ∧ Rep.rep K H v a ∧ Rep.rep K H w b ∧ pre a b ∧ ∀ p H', H p = none → Ex H H' → Own K H' p (f a b) → Q (.ref p) H'
theorem er_call1 {pre : α → Prop} {f : α → β} {E : XK} {a : α} (h : Er K ta σ H a) (hp : pre a) : Er K (tCall (Pr1 K pre f) [] E (tCons ta tNil)) σ H (f a) := fun H1 e Q q =>
  h H1 e _ fun v H2 e2 r => ⟨v, a, rfl, r, hp, fun u H3 e3 r3 => q u H3 (e2.trans e3) r3⟩
theorem er_call2 {pre : α → β → Prop} {f : α → β → γ} {E : XK} {a : α} {b : β} (h : Er K ta σ H a) (hb : Er K tb σ H b) (hp : pre a b) : Er K (tCall (Pr2 K pre f) [] E (tCons ta (tCons tb tNil))) σ H (f a b) := fun H1 e Q q =>
  h H1 e _ fun v H2 e2 r => hb H2 (e.trans e2) _ fun w H3 e3 r3 => ⟨v, w, a, b, rfl, Rep.mono e3 r, r3, hp, fun u H4 e4 r4 => q u H4 ((e2.trans e3).trans e4) r4⟩
theorem er_call3 {pre : α → β → γ → Prop} {f : α → β → γ → δ} {E : XK} {a : α} {b : β} {c : γ} (h : Er K ta σ H a) (hb : Er K tb σ H b) (hc : Er K tc σ H c) (hp : pre a b c) : Er K (tCall (Pr3 K pre f) [] E (tCons ta (tCons tb (tCons tc tNil)))) σ H (f a b c) := fun H1 e Q q =>
  h H1 e _ fun v H2 e2 r => hb H2 (e.trans e2) _ fun w H3 e3 r3 => hc H3 ((e.trans e2).trans e3) _ fun z H4 e4 r4 => ⟨v, w, z, a, b, c, rfl, Rep.mono (e3.trans e4) r, Rep.mono e4 r3, r4, hp, fun u H5 e5 r5 => q u H5 (((e2.trans e3).trans e4).trans e5) r5⟩
theorem erf_call1 {pre : α → Prop} {f : α → List β} {E : XK} {a : α} (h : Er K ta σ H a) (hp : pre a) : ErF K (tCall (PrF1 K pre f) [] E (tCons ta tNil)) σ H (f a) := fun H1 e Q q =>
  h H1 e _ fun v H2 e2 r => ⟨v, a, rfl, r, hp, fun p H3 h0 e3 r3 => q p H3 (fresh_back e2 h0) (e2.trans e3) r3⟩
theorem erf_call2 {pre : α → β → Prop} {f : α → β → List γ} {E : XK} {a : α} {b : β} (h : Er K ta σ H a) (hb : Er K tb σ H b) (hp : pre a b) : ErF K (tCall (PrF2 K pre f) [] E (tCons ta (tCons tb tNil))) σ H (f a b) := fun H1 e Q q =>
  h H1 e _ fun v H2 e2 r => hb H2 (e.trans e2) _ fun w H3 e3 r3 => ⟨v, w, a, b, rfl, Rep.mono e3 r, r3, hp, fun p H4 h0 e4 r4 => q p H4 (fresh_back (e2.trans e3) h0) ((e2.trans e3).trans e4) r4⟩
end
end Rf
set_option Elab.async false
set_option linter.all false
set_option maxRecDepth 100000
set_option maxHeartbeats 4000000
namespace Rf
open PySem L2 Evl
/-- from every heap that extends H -/
def Gx (_ : PySem.W.Frag) (P : L2.St → Hp → Prop) (σ : L2.St) (H : Hp) : Prop := ∀ H1, Ex H H1 → P σ H1
theorem Gx.here {K : PySem.W.Frag} {P : L2.St → Hp → Prop} {σ : L2.St} {H : Hp} (h : Gx K P σ H) : P σ H := h H (Ex.refl H)
theorem Gx.up {K : PySem.W.Frag} {P : L2.St → Hp → Prop} {σ : L2.St} {H H' : Hp} (h : Gx K P σ H) (e : Ex H H') : Gx K P σ H' := fun H1 e1 => h H1 (e.trans e1)
/-- all but what stands at p -/
def ExBut (p : Addr) (H H1 : Hp) : Prop := ∀ q o, q ≠ p → H q = some o → H1 q = some o
theorem ExBut.ex {p : Addr} {B H H1 : Hp} (h : ExBut p H H1) (e : Ex B H) (hp : B p = none) : Ex B H1 := fun q o hq => h q o (fun z => by rw [z, hp] at hq; cases hq) (e q o hq)
theorem ExBut.own {α : Type} [Rep α] [Flat α] {K : PySem.W.Frag} {p q : Addr} {H H1 : Hp} {as : List α} (h : ExBut p H H1) (o : Own K H q as) (hq : q ≠ p) : Own K H1 q as := by
  obtain ⟨xs, h1, h2⟩ := o
  exact ⟨xs, h q _ hq h1, h2.flat⟩
section
variable {α β γ δ : Type} [Rep α] [Rep β] [Rep γ] [Rep δ] {K : PySem.W.Frag} {σ : L2.St} {H H' : Hp} {ta tb tc te tl : TE} {t u tt : TT} {X : Cx} {D : Ends} {tu tw tz : TS}
theorem g_seq (h : Gx K (tu { D with nx := tw D }) σ H) : Gx K (tSeq tu tw D) σ H := h
theorem g_next (h : Gx K D.nx σ H) : Gx K (tNext D) σ H := h
theorem g_asg {i : Nat} {a : α} (h : Er K te σ H a) (k : ∀ v H1, Ex H H1 → Rep.rep K H1 v a → Gx K D.nx (σ.set i (some v)) H1) : Gx K (tAsg te (gName i) D) σ H := fun H1 e =>
  h H1 e _ fun v H2 e2 r => (k v H2 (e.trans e2) r).here
theorem g_asgI {i : Nat} {a : Int} (h : Er K te σ H a) (k : Gx K D.nx (σ.set i (some (.int a))) H) : Gx K (tAsg te (gName i) D) σ H := fun H1 e => er_i h H1 e _ fun H2 e2 => k H2 (e.trans e2)
theorem g_asgB {i : Nat} {a : Bool} (h : Er K te σ H a) (k : Gx K D.nx (σ.set i (some (.bl a))) H) : Gx K (tAsg te (gName i) D) σ H := fun H1 e => er_b h H1 e _ fun H2 e2 => k H2 (e.trans e2)
theorem g_asgT {i : Nat} {a : Str} (h : Er K te σ H a) (k : Gx K D.nx (σ.set i (some (.str a))) H) : Gx K (tAsg te (gName i) D) σ H := fun H1 e => er_s h H1 e _ fun H2 e2 => k H2 (e.trans e2)
theorem g_asgF {i : Nat} {as : List α} (h : ErF K te σ H as) (k : ∀ p H1, H p = none → Ex H H1 → Own K H1 p as → Gx K D.nx (σ.set i (some (.ref p))) H1) : Gx K (tAsg te (gName i) D) σ H := fun H1 e =>
  h H1 e _ fun p H2 hp e2 o => (k p H2 (fresh_back e hp) (e.trans e2) o).here
theorem q_asg {i : Nat} {a : α} (h : Er K te σ H a) (k : ∀ v H1, Ex H H1 → Rep.rep K H1 v a → Gx K (tz D) (σ.set i (some v)) H1) : Gx K (tSeq (tAsg te (gName i)) tz D) σ H := g_asg (D := { D with nx := tz D }) h k
theorem q_asgI {i : Nat} {a : Int} (h : Er K te σ H a) (k : Gx K (tz D) (σ.set i (some (.int a))) H) : Gx K (tSeq (tAsg te (gName i)) tz D) σ H := g_asgI (D := { D with nx := tz D }) h k
theorem q_asgB {i : Nat} {a : Bool} (h : Er K te σ H a) (k : Gx K (tz D) (σ.set i (some (.bl a))) H) : Gx K (tSeq (tAsg te (gName i)) tz D) σ H := g_asgB (D := { D with nx := tz D }) h k
theorem q_asgT {i : Nat} {a : Str} (h : Er K te σ H a) (k : Gx K (tz D) (σ.set i (some (.str a))) H) : Gx K (tSeq (tAsg te (gName i)) tz D) σ H := g_asgT (D := { D with nx := tz D }) h k
theorem q_asgF {i : Nat} {as : List α} (h : ErF K te σ H as) (k : ∀ p H1, H p = none → Ex H H1 → Own K H1 p as → Gx K (tz D) (σ.set i (some (.ref p))) H1) : Gx K (tSeq (tAsg te (gName i)) tz D) σ H := g_asgF (D := { D with nx := tz D }) h k
theorem g_if {b : Bool} (h : Et K t σ H b) (h1 : b = true → Gx K (tu D) σ H) (h2 : b = false → Gx K (tw D) σ H) : Gx K (tIfS t tu tw D) σ H := fun H1 e => h H1 e _ fun H2 e2 => by
  cases b with
  | true => exact h1 rfl H2 (e.trans e2)
  | false => exact h2 rfl H2 (e.trans e2)
theorem q_if {b : Bool} (h : Et K t σ H b) (h1 : b = true → Gx K (tu { D with nx := tz D }) σ H) (h2 : b = false → Gx K (tw { D with nx := tz D }) σ H) : Gx K (tSeq (tIfS t tu tw) tz D) σ H := g_if (D := { D with nx := tz D }) h h1 h2
/-- an if without else -/
theorem q_when {b : Bool} (h : Et K t σ H b) (h1 : b = true → Gx K (tu { D with nx := tz D }) σ H) (h2 : b = false → Gx K (tz D) σ H) : Gx K (tSeq (tIfS t tu tNext) tz D) σ H := g_if (D := { D with nx := tz D }) h h1 h2
theorem g_ret {a : α} (h : Er K te σ H a) (k : ∀ v H1, Ex H H1 → Rep.rep K H1 v a → D.rt v H1) : Gx K (tRet te D) σ H := fun H1 e => h H1 e _ fun v H2 e2 r => k v H2 (e.trans e2) r
theorem g_retF {as : List α} (h : ErF K te σ H as) (k : ∀ p H1, H p = none → Ex H H1 → Own K H1 p as → D.rt (.ref p) H1) : Gx K (tRet te D) σ H := fun H1 e => h H1 e _ fun p H2 hp e2 r => k p H2 (fresh_back e hp) (e.trans e2) r
theorem g_drop {a : α} (h : Er K te σ H a) (k : Gx K D.nx σ H) : Gx K (tDrop te D) σ H := fun H1 e => h H1 e _ fun v H2 e2 _ => k H2 (e.trans e2)
theorem q_drop {a : α} (h : Er K te σ H a) (k : Gx K (tz D) σ H) : Gx K (tSeq (tDrop te) tz D) σ H := g_drop (D := { D with nx := tz D }) h k
/-- i += e -/
theorem g_augI {i : Nat} {f : Int → Int → Int} {a b : Int} (hx : σ[i]? = some (some (.int a))) (h : Er K te σ H b) (k : Gx K D.nx (σ.set i (some (.int (f a b)))) H) : Gx K (tAug i te (ipI f) D) σ H := fun H1 e =>
  s_aug hx ((er_i h).mono e) fun H2 e2 => k H2 (e.trans e2)
theorem q_augI {i : Nat} {f : Int → Int → Int} {a b : Int} (hx : σ[i]? = some (some (.int a))) (h : Er K te σ H b) (k : Gx K (tz D) (σ.set i (some (.int (f a b)))) H) : Gx K (tSeq (tAug i te (ipI f)) tz D) σ H := g_augI (D := { D with nx := tz D }) hx h k
/-- text += e -/
def ipT : TIp := fun x y H Q => ∃ i j, x = .str i ∧ y = .str j ∧ i.length + j.length ≤ sizeLine ∧ Q (.str (i ++ j)) H
theorem ip_addT : PIp X .Add ipT := fun pins s σ H x y v u Q I r1 r2 h => iop_add_str pins s σ H x y v u Q I r1 r2 h
theorem g_augT {i : Nat} {a b : Str} (hx : σ[i]? = some (some (.str a))) (h : Er K te σ H b) (hl : a.length + b.length ≤ 100000) (k : Gx K D.nx (σ.set i (some (.str (a ++ b)))) H) : Gx K (tAug i te ipT D) σ H := fun H1 e =>
  ⟨.str a, hx, er_s h H1 e _ fun H2 e2 => ⟨a, b, rfl, rfl, sz_of hl, k H2 (e.trans e2)⟩⟩
/-- xs.append(e), the item something that stands for itself -/
theorem g_app {i : Nat} {p : Addr} {as : List α} [Flat α] {a : α} (ho : Own K H p as) (hv : σ[i]? = some (some (.ref p))) (h : Er K te σ H a) (hz : as.length ≤ 90000) (k : ∀ H1, ExBut p H H1 → Own K H1 p (as ++ [a]) → Gx K D.nx σ H1) :
    Gx K (tDrop (tBM K "list" rAppend (tVar i) (tCons te tNil)) D) σ H := fun H1 e => ⟨.ref p, hv, by
  obtain ⟨xs, h1, h2⟩ := ho.up e
  refine ⟨Or.inl ⟨rfl, xs, sq_of h1⟩, h H1 e _ fun v H2 e2 r => ?_⟩
  refine ⟨p, xs, v, rfl, rfl, e2 _ _ h1, sz_lt (by rw [h2.len]; omega), (k _ (fun q o hq q0 => ?_) ?_).here⟩
  · rw [upd_ne hq]; exact e2 _ _ (e _ _ q0)
  · exact ⟨_, upd_same, h2.flat.append (.one (Flat.flat r))⟩⟩
theorem q_app {i : Nat} {p : Addr} {as : List α} [Flat α] {a : α} (ho : Own K H p as) (hv : σ[i]? = some (some (.ref p))) (h : Er K te σ H a) (hz : as.length ≤ 90000) (k : ∀ H1, ExBut p H H1 → Own K H1 p (as ++ [a]) → Gx K (tz D) σ H1) :
    Gx K (tSeq (tDrop (tBM K "list" rAppend (tVar i) (tCons te tNil))) tz D) σ H := g_app (D := { D with nx := tz D }) ho hv h hz k
/-- .. an item that leans on B, which doesn't know the list -/
theorem g_appB {i : Nat} {p : Addr} {as : List α} {a : α} {B : Hp} (ho : Own K H p as) (hv : σ[i]? = some (some (.ref p))) (eB : Ex B H) (hB : B p = none) (h : Es K te σ B a) (hz : as.length ≤ 90000) (k : ∀ H1, ExBut p H H1 → Own K H1 p (as ++ [a]) → Gx K D.nx σ H1) :
    Gx K (tDrop (tBM K "list" rAppend (tVar i) (tCons te tNil)) D) σ H := fun H1 e => ⟨.ref p, hv, by
  obtain ⟨xs, h1, h2⟩ := ho.up e
  refine ⟨Or.inl ⟨rfl, xs, sq_of h1⟩, h H1 (eB.trans e) _ fun v H2 e2 r => ?_⟩
  refine ⟨p, xs, v, rfl, rfl, e2 _ _ h1, sz_lt (by rw [h2.len]; omega), (k _ (fun q o hq q0 => ?_) ?_).here⟩
  · rw [upd_ne hq]; exact e2 _ _ (e _ _ q0)
  · refine ⟨_, upd_same, ?_⟩
    rw [del_upd]
    exact (h2.mp fun v a r => Rep.mono (del_del e2) r).append (.one (Rep.mono (mix_del hB (by rw [h1]; simp)) r))⟩
theorem q_appB {i : Nat} {p : Addr} {as : List α} {a : α} {B : Hp} (ho : Own K H p as) (hv : σ[i]? = some (some (.ref p))) (eB : Ex B H) (hB : B p = none) (h : Es K te σ B a) (hz : as.length ≤ 90000) (k : ∀ H1, ExBut p H H1 → Own K H1 p (as ++ [a]) → Gx K (tz D) σ H1) :
    Gx K (tSeq (tDrop (tBM K "list" rAppend (tVar i) (tCons te tNil))) tz D) σ H := g_appB (D := { D with nx := tz D }) ho hv eB hB h hz k
/-- xs[i] = e -/
theorem g_setI {i : Nat} {p : Addr} {as : List α} [Flat α] {a : α} {n : Int} {j : Nat} (ho : Own K H p as) (hv : σ[i]? = some (some (.ref p))) (h : Er K te σ H a) (hi : Er K tb σ H n) (hj : ixN as.length n = some j) (k : ∀ H1, ExBut p H H1 → Own K H1 p (as.set j a) → Gx K D.nx σ H1) :
    Gx K (tAsg te (gSub (tVar i) tb rSetL) D) σ H := fun H1 e => h H1 e _ fun v H2 e2 r => ⟨.ref p, hv, er_i hi H2 (e.trans e2) _ fun H3 e3 => by
  obtain ⟨xs, h1, h2⟩ := ho.up ((e.trans e2).trans e3)
  refine ⟨p, xs, n, j, rfl, rfl, h1, by rw [h2.len]; exact hj, (k _ (fun q o hq q0 => ?_) ⟨_, upd_same, h2.flat.set (Flat.flat r) j⟩).here⟩
  rw [upd_ne hq]; exact ((e.trans e2).trans e3) _ _ q0⟩

/-! ### loops -/
/-- over a list that stands in B -/
theorem g_forL {j : Nat} {i0 : Nat} {v0 : V} {as : List α} {B : Hp} (Inv : Nat → L2.St → Hp → Prop) (hv : σ[i0]? = some (some v0)) (r0 : Rep.rep K B v0 as) (eB : Ex B H) (h0 : ∀ H1, Ex H H1 → Inv 0 σ H1) (hI : ∀ i σ' H', Inv i σ' H' → Ex B H')
    (hs : ∀ i a v σ' H', as[i]? = some a → Rep.rep K B v a → Inv i σ' H' → Gx K (tu { D with nx := Inv (i + 1), ct := Inv (i + 1), bk := D.nx }) (σ'.set j (some v)) H') (hd : ∀ σ' H', Inv as.length σ' H' → D.nx σ' H') :
    Gx K (tFor (iList K (tVar i0)) (gName j) tu D) σ H := fun H1 e => by
  obtain ⟨p, rfl, xs, hx, hall⟩ := r0
  exact ⟨.ref p, hv, p, rfl, ⟨xs, ex_l (eB.trans e) hx⟩, for_list (xs := xs) Inv (h0 H1 e) (fun i σ' H' _ iv => ex_l (hI i σ' H' iv) hx) (fun i x σ' H' hxi iv => by
    obtain ⟨a, ha, r⟩ := hall.getV hxi
    exact (hs i a x σ' H' ha r iv).here) fun σ' H' iv => hd σ' H' (by rw [← hall.len]; exact iv)⟩
/-- over a list that is reckoned here -/
theorem g_forN {g : TG} {as : List α} (h : Er K tl σ H as) (Inv : Hp → Nat → L2.St → Hp → Prop) (h0 : ∀ B H1, Ex H B → Ex B H1 → Inv B 0 σ H1) (hI : ∀ B i σ' H', Inv B i σ' H' → Ex B H')
    (hs : ∀ B i a v σ' H', Ex H B → as[i]? = some a → Rep.rep K B v a → Inv B i σ' H' → g v σ' H' fun σ2 H2 => tu { D with nx := Inv B (i + 1), ct := Inv B (i + 1), bk := D.nx } σ2 H2) (hd : ∀ B σ' H', Ex H B → Inv B as.length σ' H' → D.nx σ' H') :
    Gx K (tFor (iList K tl) g tu D) σ H := fun H1 e => h H1 e _ fun v B e2 ⟨p, ep, xs, hx, hall⟩ =>
  ⟨p, ep, ⟨xs, hx⟩, for_list (xs := xs) (Inv B) (h0 B B (e.trans e2) (Ex.refl B)) (fun i σ' H' _ iv => ex_l (hI B i σ' H' iv) hx) (fun i x σ' H' hxi iv => by
    obtain ⟨a, ha, r⟩ := hall.getV hxi
    exact hs B i a x σ' H' (e.trans e2) ha r iv) fun σ' H' iv => hd B σ' H' (e.trans e2) (by rw [← hall.len]; exact iv)⟩
theorem g_forR {j : Nat} {lo : Int} {n : Nat} {wi : TI} (h : Rg K wi σ H lo n) (Inv : Nat → L2.St → Hp → Prop) (h0 : ∀ H1, Ex H H1 → Inv 0 σ H1)
    (hs : ∀ (i : Nat) σ' H', i < n → Inv i σ' H' → Gx K (tu { D with nx := Inv (i + 1), ct := Inv (i + 1), bk := D.nx }) (σ'.set j (some (.int (lo + i)))) H') (hd : ∀ σ' H', Inv n σ' H' → D.nx σ' H') :
    Gx K (tFor wi (gName j) tu D) σ H := fun H1 e => h H1 e _ fun H2 e2 => for_range (lo := lo) (n := n) Inv (h0 H2 (e.trans e2)) (fun i σ' H' hi iv => (hs i σ' H' hi iv).here) hd
/-- over a text -/
theorem for_str {x : Str} {g : TG} {tb : TS} (Pv : Nat → L2.St → Hp → Prop) (h0 : Pv 0 σ H)
    (hs : ∀ i c σ H, x.cps[i]? = some c → Pv i σ H → g (.str (sgn c)) σ H fun σ2 H2 => tb { D with nx := Pv (i + 1), ct := Pv (i + 1), bk := D.nx } σ2 H2) (hd : ∀ σ H, Pv x.cps.size σ H → D.nx σ H) :
    ∃ W : Nat → Nat → L2.St → Hp → Prop, (∃ m, W 0 m σ H) ∧ ∀ i m σ H, W i m σ H →
      ((Its x).stop i H ∧ D.nx σ H) ∨ ((Its x).go i H ∧ ∃ N : L2.St → Hp → Prop, (∀ σ' H', N σ' H' → ∃ m', m' < m ∧ W (i + 1) m' σ' H') ∧ ∀ v H', (Its x).yld i H v H' → g v σ H' fun σ2 H2 => tb { D with nx := N, ct := N, bk := D.nx } σ2 H2) := by
  refine ⟨fun i m σ H => m = x.cps.size - i ∧ i ≤ x.cps.size ∧ Pv i σ H, ⟨x.cps.size, by simp, Nat.zero_le _, h0⟩, ?_⟩
  rintro i m σ H ⟨rfl, hi, p⟩
  by_cases hlt : i < x.cps.size
  · refine .inr ⟨hlt, Pv (i + 1), fun σ' H' p' => ⟨x.cps.size - (i + 1), by omega, rfl, hlt, p'⟩, fun v H' y => ?_⟩
    obtain ⟨e, c, hc, e2⟩ := y
    subst e e2
    exact hs i c σ _ hc p
  · have e : i = x.cps.size := by omega
    subst e
    exact .inl ⟨Nat.le_refl _, hd σ H p⟩
theorem g_forS {j : Nat} {x : Str} (h : Er K tl σ H x) (Inv : Nat → L2.St → Hp → Prop) (h0 : ∀ H1, Ex H H1 → Inv 0 σ H1)
    (hs : ∀ (i c : Nat) σ' H', x.cps[i]? = some c → Inv i σ' H' → Gx K (tu { D with nx := Inv (i + 1), ct := Inv (i + 1), bk := D.nx }) (σ'.set j (some (.str (sgn c)))) H') (hd : ∀ σ' H', Inv x.cps.size σ' H' → D.nx σ' H') :
    Gx K (tFor (iStr tl) (gName j) tu D) σ H := fun H1 e => er_s h H1 e _ fun H2 e2 => ⟨x, rfl, for_str Inv (h0 H2 (e.trans e2)) (fun i c σ' H' hc iv => (hs i c σ' H' hc iv).here) hd⟩
/-- over enumerate(list), the list stands in B -/
theorem for_enum {a : Addr} {xs : List V} {g : TG} {tb : TS} (Pv : Nat → L2.St → Hp → Prop) (h0 : Pv 0 σ H) (hl : ∀ i σ H, i ≤ xs.length → Pv i σ H → SqL K H a xs)
    (hs : ∀ i x T σ H, xs[i]? = some x → Pv i σ H → H T = none → g (.ref T) σ (upd H T (.tup [.int (i : Nat), x])) fun σ2 H2 => tb { D with nx := Pv (i + 1), ct := Pv (i + 1), bk := D.nx } σ2 H2) (hd : ∀ σ H, Pv xs.length σ H → D.nx σ H) :
    ∃ W : Nat → Nat → L2.St → Hp → Prop, (∃ m, W 0 m σ H) ∧ ∀ i m σ H, W i m σ H →
      ((Ite K a).stop i H ∧ D.nx σ H) ∨ ((Ite K a).go i H ∧ ∃ N : L2.St → Hp → Prop, (∀ σ' H', N σ' H' → ∃ m', m' < m ∧ W (i + 1) m' σ' H') ∧ ∀ v H', (Ite K a).yld i H v H' → g v σ H' fun σ2 H2 => tb { D with nx := N, ct := N, bk := D.nx } σ2 H2) := by
  refine ⟨fun i m σ H => m = xs.length - i ∧ i ≤ xs.length ∧ Pv i σ H, ⟨xs.length, by simp, Nat.zero_le _, h0⟩, ?_⟩
  rintro i m σ H ⟨rfl, hi, p⟩
  have q := hl i σ H hi p
  by_cases hlt : i < xs.length
  · refine .inr ⟨⟨xs, xs[i], q, by simp [hlt]⟩, Pv (i + 1), fun σ' H' p' => ⟨xs.length - (i + 1), by omega, rfl, hlt, p'⟩, fun v H' y => ?_⟩
    obtain ⟨T, x, rfl, hT, rfl, hx⟩ := y
    exact hs i x T σ H (hx xs q) p hT
  · have e : i = xs.length := by omega
    subst e
    exact .inl ⟨⟨xs, q, Nat.le_refl _⟩, hd σ H p⟩
theorem g_forE {i0 j1 j2 : Nat} {v0 : V} {as : List α} {B : Hp} (Inv : Nat → L2.St → Hp → Prop) (hv : σ[i0]? = some (some v0)) (r0 : Rep.rep K B v0 as) (eB : Ex B H) (h0 : ∀ H1, Ex H H1 → Inv 0 σ H1) (hI : ∀ i σ' H', Inv i σ' H' → Ex B H') (hU : ∀ i σ' H' H'', Inv i σ' H' → Ex H' H'' → Inv i σ' H'')
    (hs : ∀ i a v σ' H', as[i]? = some a → Rep.rep K B v a → Inv i σ' H' → Gx K (tu { D with nx := Inv (i + 1), ct := Inv (i + 1), bk := D.nx }) ((σ'.set j1 (some (.int (i : Nat)))).set j2 (some v)) H') (hd : ∀ σ' H', Inv as.length σ' H' → D.nx σ' H') :
    Gx K (tFor (iEnum K (tCons (tVar i0) tNil)) (gTwo K j1 j2) tu D) σ H := fun H1 e => by
  obtain ⟨p, rfl, xs, hx, hall⟩ := r0
  exact ⟨.ref p, hv, p, xs, rfl, ex_l (eB.trans e) hx, for_enum (xs := xs) Inv (h0 H1 e) (fun i σ' H' _ iv => ex_l (hI i σ' H' iv) hx) (fun i x T σ' H' hxi iv hT => by
    obtain ⟨a, ha, r⟩ := hall.getV hxi
    exact gTwo_run (st_of upd_same) ((hs i a x σ' _ ha r (hU i σ' H' _ iv (Ex.new hT))).here)) fun σ' H' iv => hd σ' H' (by rw [← hall.len]; exact iv)⟩
/-- while -/
theorem g_while (Inv : L2.St → Hp → Prop) (μ : L2.St → Hp → Nat) (h0 : ∀ H1, Ex H H1 → Inv σ H1)
    (hs : ∀ σ' H', Inv σ' H' → ∃ b, Et K t σ' H' b ∧ (b = true → Gx K (tu { D with nx := fun s h => Inv s h ∧ μ s h < μ σ' H', ct := fun s h => Inv s h ∧ μ s h < μ σ' H', bk := D.nx }) σ' H') ∧ (b = false → Gx K D.nx σ' H')) : Gx K (tWhile t tu D) σ H := fun H1 e =>
  s_while (fun m s h => m = μ s h ∧ Inv s h) (μ σ H1) ⟨rfl, h0 H1 e⟩ fun m σ' H' ⟨em, iv⟩ => by
    subst em
    obtain ⟨b, hb, h1, h2⟩ := hs σ' H' iv
    exact ⟨b, hb, fun hb' H2 e2 => ⟨fun s h => Inv s h ∧ μ s h < μ σ' H', fun s h ⟨iv2, lt⟩ => ⟨μ s h, lt, rfl, iv2⟩, h1 hb' H2 e2⟩, fun hb' H2 e2 => h2 hb' H2 e2⟩
/-- a, b = x, y -/
theorem g_par {i j : Nat} {a : α} {b : β} (h1 : Er K ta σ H a) (h2 : Er K tb σ H b) (k : ∀ v w H1, Ex H H1 → Rep.rep K H1 v a → Rep.rep K H1 w b → Gx K D.nx ((σ.set i (some v)).set j (some w)) H1) : Gx K (tPar i j (tCons ta (tCons tb tNil)) D) σ H := fun H1 e =>
  h1 H1 e _ fun v H2 e2 r1 => h2 H2 (e.trans e2) _ fun w H3 e3 r2 => ⟨v, w, rfl, (k v w H3 ((e.trans e2).trans e3) (Rep.mono e3 r1) r2).here⟩
theorem q_par {i j : Nat} {a : α} {b : β} (h1 : Er K ta σ H a) (h2 : Er K tb σ H b) (k : ∀ v w H1, Ex H H1 → Rep.rep K H1 v a → Rep.rep K H1 w b → Gx K (tz D) ((σ.set i (some v)).set j (some w)) H1) : Gx K (tSeq (tPar i j (tCons ta (tCons tb tNil))) tz D) σ H := g_par (D := { D with nx := tz D }) h1 h2 k
theorem g_par3 {i j l : Nat} {a : α} {b : β} {c : γ} (h1 : Er K ta σ H a) (h2 : Er K tb σ H b) (h3 : Er K tc σ H c) (k : ∀ v w z H1, Ex H H1 → Rep.rep K H1 v a → Rep.rep K H1 w b → Rep.rep K H1 z c → Gx K D.nx (((σ.set i (some v)).set j (some w)).set l (some z)) H1) :
    Gx K (tPar3 i j l (tCons ta (tCons tb (tCons tc tNil))) D) σ H := fun H1 e =>
  h1 H1 e _ fun v H2 e2 r1 => h2 H2 (e.trans e2) _ fun w H3 e3 r2 => h3 H3 ((e.trans e2).trans e3) _ fun z H4 e4 r3 => ⟨v, w, z, rfl, (k v w z H4 (((e.trans e2).trans e3).trans e4) (Rep.mono (e3.trans e4) r1) (Rep.mono e4 r2) r3).here⟩
theorem q_par3 {i j l : Nat} {a : α} {b : β} {c : γ} (h1 : Er K ta σ H a) (h2 : Er K tb σ H b) (h3 : Er K tc σ H c) (k : ∀ v w z H1, Ex H H1 → Rep.rep K H1 v a → Rep.rep K H1 w b → Rep.rep K H1 z c → Gx K (tz D) (((σ.set i (some v)).set j (some w)).set l (some z)) H1) :
    Gx K (tSeq (tPar3 i j l (tCons ta (tCons tb (tCons tc tNil)))) tz D) σ H := g_par3 (D := { D with nx := tz D }) h1 h2 h3 k
end
end Rf
set_option Elab.async false
set_option linter.all false
set_option maxRecDepth 100000
set_option maxHeartbeats 4000000
namespace Rf
open PySem L2 Evl
/-- a tuple of things of one kind -/
structure Tpl (α : Type) where
  l : List α
instance {α : Type} [Rep α] : Rep (Tpl α) := ⟨fun K H v c => ∃ p, v = .ref p ∧ TupsR K H p c.l, fun e ⟨p, h1, xs, h2, h3⟩ => ⟨p, h1, xs, ex_t e h2, h3.mp fun _ _ r => Rep.mono e r⟩⟩
section
variable {α β γ δ : Type} [Rep α] [Rep β] [Rep γ] [Rep δ] {K : PySem.W.Frag} {σ : L2.St} {H H' : Hp} {ta tb tc te tl : TE} {t u tt : TT} {X : Cx} {D : Ends} {tu tw tz : TS}
theorem er_tpl {ta : TA} {as : List α} (h : EaL K ta σ H as) (hl : as.length ≤ 100000) : Er K (tTup ta) σ H (Tpl.mk as) := fun H1 e _ q =>
  h H1 e _ fun vs H2 e2 hv => ⟨sz_of (by rw [hv.len]; exact hl), fun p hp => q _ _ (e2.trans (Ex.new hp)) ⟨p, rfl, vs, st_of upd_same, hv.mp fun v a r => Rep.mono (Ex.new hp) r⟩⟩
theorem er_ixT {as : List α} {i : Int} {a : α} (ha : Er K ta σ H (Tpl.mk as)) (hb : Er K tb σ H i) (e : atI as i = some a) : Er K (tOp (rIxT K) ta tb) σ H a :=
  er_two ha hb fun x y H1 _ rx ry Q q => by
    obtain ⟨p, rfl, xs, hs, hall⟩ := rx
    obtain rfl : y = .int i := ry
    obtain ⟨v, hv, r⟩ := atI_all hall e
    exact ⟨p, xs, i, v, rfl, rfl, hs, hv, q v H1 (Ex.refl H1) r⟩
/-! ### comparisons by kind -/
def rEqI : R2 := rEq
def rNeI : R2 := rNe
def rEqT : R2 := rEq
def rNeT : R2 := rNe
def rEqB : R2 := rEq
def rNeB : R2 := rNe
theorem oEqI : OpR X (compareOp .Eq) rEqI := op_eq
theorem oNeI : OpR X (compareOp .NotEq) rNeI := op_ne
theorem oEqT : OpR X (compareOp .Eq) rEqT := op_eq
theorem oNeT : OpR X (compareOp .NotEq) rNeT := op_ne
theorem oEqB : OpR X (compareOp .Eq) rEqB := op_eq
theorem oNeB : OpR X (compareOp .NotEq) rNeB := op_ne
theorem er_eqi {i j : Int} (ha : Er K ta σ H i) (hb : Er K tb σ H j) : Er K (tOp rEqI ta tb) σ H (i == j) := er_eqI ha hb
theorem er_nei {i j : Int} (ha : Er K ta σ H i) (hb : Er K tb σ H j) : Er K (tOp rNeI ta tb) σ H (!(i == j)) := er_neI ha hb
theorem er_eqt {i j : Str} (ha : Er K ta σ H i) (hb : Er K tb σ H j) : Er K (tOp rEqT ta tb) σ H (i == j) := er_eqT ha hb
theorem er_net {i j : Str} (ha : Er K ta σ H i) (hb : Er K tb σ H j) : Er K (tOp rNeT ta tb) σ H (!(i == j)) := er_neT ha hb
theorem er_eqb {i j : Bool} (ha : Er K ta σ H i) (hb : Er K tb σ H j) : Er K (tOp rEqB ta tb) σ H (i == j) := er_eqB ha hb
theorem er_neb {i j : Bool} (ha : Er K ta σ H i) (hb : Er K tb σ H j) : Er K (tOp rNeB ta tb) σ H (!(i == j)) := er_neB ha hb
/-- x is None, of an option -/
def rIsN' : R2 := fun x y H Q => y = .non ∧ Q (.bl (decide (x = .non))) H
def rNotN' : R2 := fun x y H Q => y = .non ∧ Q (.bl (!decide (x = .non))) H
theorem oIsN : OpR X (compareOp .Is) rIsN' := op_isN
theorem oNotN : OpR X (compareOp .IsNot) rNotN' := op_notN
theorem er_isN {o : Option Str} (ha : Er K ta σ H o) : Er K (tOp rIsN' ta (tC .non)) σ H o.isNone := fun H1 e Q q => ha H1 e _ fun v H2 e2 r => ⟨rfl, q _ H2 e2 (by
  cases o with
  | none => have r' : v = .non := r; rw [r']; rfl
  | some z => have r' : v = .str z := r; rw [r']; rfl)⟩
theorem er_notN {o : Option Str} (ha : Er K ta σ H o) : Er K (tOp rNotN' ta (tC .non)) σ H o.isSome := fun H1 e Q q => ha H1 e _ fun v H2 e2 r => ⟨rfl, q _ H2 e2 (by
  cases o with
  | none => have r' : v = .non := r; rw [r']; rfl
  | some z => have r' : v = .str z := r; rw [r']; rfl)⟩
/-- max(a, b), min(a, b) -/
def rMax2' : List V → Hp → VK → Prop := fun xs H Q => ∃ i j, xs = [.int i, .int j] ∧ Q (.int (if j > i then j else i)) H
def rMin2' : List V → Hp → VK → Prop := fun xs H Q => ∃ i j, xs = [.int i, .int j] ∧ Q (.int (if j < i then j else i)) H
theorem cMax2 (hc : X.calm = true) : CallR X (.builtin "max") rMax2' := call_max2 hc
theorem cMin2 (hc : X.calm = true) : CallR X (.builtin "min") rMin2' := call_min2 hc
theorem er_max2 {i j : Int} (ha : Er K ta σ H i) (hb : Er K tb σ H j) : Er K (tCB rMax2' (tCons ta (tCons tb tNil))) σ H (if j > i then j else i) := fun H1 e Q q => er_i ha H1 e _ fun H2 e2 => er_i hb H2 (e.trans e2) _ fun H3 e3 => ⟨i, j, rfl, q _ H3 (e2.trans e3) rfl⟩
theorem er_min2 {i j : Int} (ha : Er K ta σ H i) (hb : Er K tb σ H j) : Er K (tCB rMin2' (tCons ta (tCons tb tNil))) σ H (if j < i then j else i) := fun H1 e Q q => er_i ha H1 e _ fun H2 e2 => er_i hb H2 (e.trans e2) _ fun H3 e3 => ⟨i, j, rfl, q _ H3 (e2.trans e3) rfl⟩
theorem et_and' {a b : Bool} (h1 : Et K t σ H a) (h2 : a = true → Et K u σ H b) : Et K (tAnd t u) σ H (a && b) := et_and h1 h2
theorem et_or' {a b : Bool} (h1 : Et K t σ H a) (h2 : a = false → Et K u σ H b) : Et K (tOr t u) σ H (a || b) := et_or h1 h2
theorem et_not' {a : Bool} (h1 : Et K t σ H a) : Et K (tNot t) σ H (!a) := et_not h1
theorem er_chLtLt {i j k : Int} (ha : Er K ta σ H i) (hb : Er K tb σ H j) (hc : Er K tc σ H k) : Er K (tChain rLtI rLtI ta tb tc) σ H (decide (i < j) && decide (j < k)) := er_chain ha hb hc rvLt rvLt
theorem er_chLeLt {i j k : Int} (ha : Er K ta σ H i) (hb : Er K tb σ H j) (hc : Er K tc σ H k) : Er K (tChain rLeI rLtI ta tb tc) σ H (decide (i ≤ j) && decide (j < k)) := er_chain ha hb hc rvLe rvLt
/-! ### promises' lengths, what a caller knows -/
theorem len_pr1 {pre : α → Prop} {f : α → β} {vs : List V} {Q : VK} {E : XK} (h : Pr1 K pre f vs H Q E) : vs.length = 1 := by obtain ⟨_, _, rfl, _⟩ := h; rfl
theorem len_pr2 {pre : α → β → Prop} {f : α → β → γ} {vs : List V} {Q : VK} {E : XK} (h : Pr2 K pre f vs H Q E) : vs.length = 2 := by obtain ⟨_, _, _, _, rfl, _⟩ := h; rfl
theorem len_pr3 {pre : α → β → γ → Prop} {f : α → β → γ → δ} {vs : List V} {Q : VK} {E : XK} (h : Pr3 K pre f vs H Q E) : vs.length = 3 := by obtain ⟨_, _, _, _, _, _, rfl, _⟩ := h; rfl
theorem len_prF1 {pre : α → Prop} {f : α → List β} {vs : List V} {Q : VK} {E : XK} (h : PrF1 K pre f vs H Q E) : vs.length = 1 := by obtain ⟨_, _, rfl, _⟩ := h; rfl
theorem len_prF2 {pre : α → β → Prop} {f : α → β → List γ} {vs : List V} {Q : VK} {E : XK} (h : PrF2 K pre f vs H Q E) : vs.length = 2 := by obtain ⟨_, _, _, _, rfl, _⟩ := h; rfl
end
structure Cal (P : Program) (w : World) (K : PySem.W.Frag) (mg : Str → Option Value) (base : Heap) (k : Nat) (x : Str) (ps : List Str) (sp : Sp) (f : Addr) (fd : FuncData) : Prop where
  ok : FnOk P w K mg base CX0 k f fd ps sp
  g : mg x = some (.ref f)
  kp : PySem.W.keepIn K (.ref f) = true
  b : Binds K fd ps []
structure Mtd (P : Program) (w : World) (K : PySem.W.Frag) (mg : Str → Option Value) (base : Heap) (k : Nat) (C : Addr) (x : Str) (ps : List Str) (sp : Sp) (f : Addr) (fd : FuncData) : Prop where
  ok : FnOk P w K mg base CX0 k f fd ps sp
  cl : Cls K C
  m : Meth K C x f
  b : Binds K fd ps []
structure Mkr (K : PySem.W.Frag) (mg : Str → Option Value) (x : Str) (C f : Addr) (fd : FuncData) (ps : List Str) : Prop where
  made : Mk K C f
  g : mg x = some (.ref C)
  b : Binds K fd ps []
end Rf
set_option Elab.async false
set_option linter.all false
set_option maxRecDepth 100000
set_option maxHeartbeats 4000000
namespace Rf
open PySem L2 Evl
/-! ### words as texts: u is true -/
def sg (b : Bool) : Nat := if b then 117 else 100
def tx (w : List Bool) : Str := ⟨(w.map sg).toArray⟩
def unz (z : Str) : List Bool := z.cps.toList.map (· == 117)
theorem sg_u (b : Bool) : (sg b == 117) = b := by cases b <;> rfl
theorem unz_tx (w : List Bool) : unz (tx w) = w := by
  unfold unz tx
  simp only [List.map_map]
  conv => rhs; rw [← List.map_id w]
  refine List.map_congr_left fun b _ => ?_
  exact sg_u b
theorem tx_inj {w v : List Bool} (h : tx w = tx v) : w = v := by rw [← unz_tx w, h, unz_tx]
theorem tx_len (w : List Bool) : (tx w).length = w.length := by
  show ((w.map sg).toArray).size = w.length
  simp
theorem tx_list (w : List Bool) : (tx w).cps.toList = w.map sg := by unfold tx; simp
theorem tx_app (w v : List Bool) : tx w ++ tx v = tx (w ++ v) := by
  show (⟨(w.map sg).toArray ++ (v.map sg).toArray⟩ : Str) = _
  unfold tx
  congr 1
  apply Array.ext'
  simp
theorem tx_beq (w v : List Bool) : (tx w == tx v) = decide (w = v) := by
  rw [Bool.eq_iff_iff, beq_iff_eq, decide_eq_true_iff]
  exact ⟨tx_inj, fun h => by rw [h]⟩
theorem tx_rev (w : List Bool) : (⟨(tx w).cps.toList.reverse.toArray⟩ : Str) = tx w.reverse := by
  rw [tx_list, ← List.map_reverse]
  rfl
theorem tx_cut (w : List Bool) (lo hi : Option Int) : cutS (tx w) lo hi = tx (cutL w lo hi) := by
  unfold cutS cutL
  rw [tx_list, tx_len, ← List.map_drop, ← List.map_take]
  rfl
theorem sgn_tx (b : Bool) : sgn (sg b) = tx [b] := rfl
theorem tx_nil : ("" : Str) = tx [] := by decide +kernel
theorem tx_u : ("u" : Str) = tx [true] := by decide +kernel
theorem tx_d : ("d" : Str) = tx [false] := by decide +kernel
theorem tx_ud : ("ud" : Str) = tx [true, false] := by decide +kernel
theorem tx_du : ("du" : Str) = tx [false, true] := by decide +kernel
theorem tx_cat (ws : List (List Bool)) : catS (ws.map tx) = tx ws.flatten := by
  unfold catS tx
  congr 1
  rw [List.map_map]
  induction ws with
  | nil => rfl
  | cons w r ih =>
    simp only [List.map_cons, List.flatten_cons, List.map_append, Function.comp]
    congr 1
    have e : ∀ l : List (List Nat) , l.flatten.toArray = l.flatten.toArray := fun _ => rfl
    have h : (List.map ((fun x => x.cps.toList) ∘ fun w => (⟨(List.map sg w).toArray⟩ : Str)) r).flatten = List.map sg r.flatten := by
      have := congrArg Array.toList ih
      simpa using this
    simpa using h
theorem tx_reps (k : Nat) (b : Bool) : reps k (tx [b]) = tx (List.replicate k b) := by
  unfold reps
  rw [tx_list]
  unfold tx
  congr 1
  rw [List.map_replicate]
  simp
theorem tx_at {w : List Bool} {i : Int} {b : Bool} (h : atI w i = some b) : atI (tx w).cps.toList i = some (sg b) := by
  rw [tx_list]
  unfold atI at h ⊢
  rw [List.length_map]
  cases q : ixN w.length i with
  | none => rw [q] at h; simp at h
  | some j =>
    rw [q] at h
    show (w.map sg)[j]? = some (sg b)
    rw [List.getElem?_map, show w[j]? = some b from h]
    rfl
/-- a text that is a word -/
def IsW (z : Str) : Prop := ∀ c ∈ z.cps.toList, c = 117 ∨ c = 100
theorem tx_unz {z : Str} (h : IsW z) : tx (unz z) = z := by
  cases z with
  | mk c =>
    unfold tx unz
    congr 1
    apply Array.ext'
    rw [List.map_map]
    conv => rhs; rw [← List.map_id c.toList]
    refine List.map_congr_left fun x hx => ?_
    rcases h x hx with e | e <;> (subst e; rfl)
theorem isW_tx (w : List Bool) : IsW (tx w) := by
  intro c hc
  rw [tx_list] at hc
  obtain ⟨b, _, rfl⟩ := List.mem_map.mp hc
  cases b
  · right; rfl
  · left; rfl
theorem unz_len (z : Str) : (unz z).length = z.length := by
  unfold unz
  rw [List.length_map, Array.length_toList]
  rfl
section
variable {α β γ δ : Type} [Rep α] [Rep β] [Rep γ] [Rep δ] {K : PySem.W.Frag} {σ : L2.St} {H H' : Hp} {ta tb tc te tl : TE} {t u tt : TT} {X : Cx} {D : Ends} {tu tw tz : TS}
theorem g_cut (Mid : L2.St → Hp → Prop) (h : Gx K (tu { D with nx := Mid }) σ H) (k : ∀ σ' H', Mid σ' H' → Gx K (tw D) σ' H') : Gx K (tCut tu tw D) σ H := fun H1 e => ⟨Mid, h H1 e, fun σ' H' m => (k σ' H' m).here⟩
theorem er_call1F {pre : α → Prop} {f : α → List β} {E : XK} {a : α} (h : Er K ta σ H a) (hp : pre a) : Er K (tCall (PrF1 K pre f) [] E (tCons ta tNil)) σ H (f a) := (erf_call1 h hp).er
theorem er_call2F {pre : α → β → Prop} {f : α → β → List γ} {E : XK} {a : α} {b : β} (h : Er K ta σ H a) (hb : Er K tb σ H b) (hp : pre a b) : Er K (tCall (PrF2 K pre f) [] E (tCons ta (tCons tb tNil))) σ H (f a b) := (erf_call2 h hb hp).er
theorem q_forL {j : Nat} {i0 : Nat} {v0 : V} {as : List α} {B : Hp} (Inv : Nat → L2.St → Hp → Prop) (hv : σ[i0]? = some (some v0)) (r0 : Rep.rep K B v0 as) (eB : Ex B H) (h0 : ∀ H1, Ex H H1 → Inv 0 σ H1) (hI : ∀ i σ' H', Inv i σ' H' → Ex B H')
    (hs : ∀ i a v σ' H', as[i]? = some a → Rep.rep K B v a → Inv i σ' H' → Gx K (tu { D with nx := Inv (i + 1), ct := Inv (i + 1), bk := tz D }) (σ'.set j (some v)) H') (hd : ∀ σ' H', Inv as.length σ' H' → Gx K (tz D) σ' H') :
    Gx K (tSeq (tFor (iList K (tVar i0)) (gName j) tu) tz D) σ H :=
  g_forL (D := { D with nx := tz D }) Inv hv r0 eB h0 hI hs (fun σ' H' iv => (hd σ' H' iv).here)
theorem q_forN {g : TG} {as : List α} (h : Er K tl σ H as) (Inv : Hp → Nat → L2.St → Hp → Prop) (h0 : ∀ B H1, Ex H B → Ex B H1 → Inv B 0 σ H1) (hI : ∀ B i σ' H', Inv B i σ' H' → Ex B H')
    (hs : ∀ B i a v σ' H', Ex H B → as[i]? = some a → Rep.rep K B v a → Inv B i σ' H' → g v σ' H' fun σ2 H2 => tu { D with nx := Inv B (i + 1), ct := Inv B (i + 1), bk := tz D } σ2 H2) (hd : ∀ B σ' H', Ex H B → Inv B as.length σ' H' → Gx K (tz D) σ' H') :
    Gx K (tSeq (tFor (iList K tl) g tu) tz D) σ H :=
  g_forN (D := { D with nx := tz D }) h Inv h0 hI hs (fun B σ' H' e iv => (hd B σ' H' e iv).here)
theorem q_forR {j : Nat} {lo : Int} {n : Nat} {wi : TI} (h : Rg K wi σ H lo n) (Inv : Nat → L2.St → Hp → Prop) (h0 : ∀ H1, Ex H H1 → Inv 0 σ H1)
    (hs : ∀ (i : Nat) σ' H', i < n → Inv i σ' H' → Gx K (tu { D with nx := Inv (i + 1), ct := Inv (i + 1), bk := tz D }) (σ'.set j (some (.int (lo + i)))) H') (hd : ∀ σ' H', Inv n σ' H' → Gx K (tz D) σ' H') :
    Gx K (tSeq (tFor wi (gName j) tu) tz D) σ H :=
  g_forR (D := { D with nx := tz D }) h Inv h0 hs (fun σ' H' iv => (hd σ' H' iv).here)
theorem q_forS {j : Nat} {x : Str} (h : Er K tl σ H x) (Inv : Nat → L2.St → Hp → Prop) (h0 : ∀ H1, Ex H H1 → Inv 0 σ H1)
    (hs : ∀ (i c : Nat) σ' H', x.cps[i]? = some c → Inv i σ' H' → Gx K (tu { D with nx := Inv (i + 1), ct := Inv (i + 1), bk := tz D }) (σ'.set j (some (.str (sgn c)))) H') (hd : ∀ σ' H', Inv x.cps.size σ' H' → Gx K (tz D) σ' H') :
    Gx K (tSeq (tFor (iStr tl) (gName j) tu) tz D) σ H :=
  g_forS (D := { D with nx := tz D }) h Inv h0 hs (fun σ' H' iv => (hd σ' H' iv).here)
theorem q_forE {i0 j1 j2 : Nat} {v0 : V} {as : List α} {B : Hp} (Inv : Nat → L2.St → Hp → Prop) (hv : σ[i0]? = some (some v0)) (r0 : Rep.rep K B v0 as) (eB : Ex B H) (h0 : ∀ H1, Ex H H1 → Inv 0 σ H1) (hI : ∀ i σ' H', Inv i σ' H' → Ex B H') (hU : ∀ i σ' H' H'', Inv i σ' H' → Ex H' H'' → Inv i σ' H'')
    (hs : ∀ i a v σ' H', as[i]? = some a → Rep.rep K B v a → Inv i σ' H' → Gx K (tu { D with nx := Inv (i + 1), ct := Inv (i + 1), bk := tz D }) ((σ'.set j1 (some (.int (i : Nat)))).set j2 (some v)) H') (hd : ∀ σ' H', Inv as.length σ' H' → Gx K (tz D) σ' H') :
    Gx K (tSeq (tFor (iEnum K (tCons (tVar i0) tNil)) (gTwo K j1 j2) tu) tz D) σ H :=
  g_forE (D := { D with nx := tz D }) Inv hv r0 eB h0 hI hU hs (fun σ' H' iv => (hd σ' H' iv).here)
theorem q_while (Inv : L2.St → Hp → Prop) (μ : L2.St → Hp → Nat) (h0 : ∀ H1, Ex H H1 → Inv σ H1)
    (hs : ∀ σ' H', Inv σ' H' → ∃ b, Et K t σ' H' b ∧ (b = true → Gx K (tu { D with nx := fun s h => Inv s h ∧ μ s h < μ σ' H', ct := fun s h => Inv s h ∧ μ s h < μ σ' H', bk := tz D }) σ' H') ∧ (b = false → Gx K (tz D) σ' H')) : Gx K (tSeq (tWhile t tu) tz D) σ H :=
  g_while (D := { D with nx := tz D }) Inv μ h0 hs
/-- y = x -/
theorem g_mov {i j : Nat} {v : V} (h : σ[i]? = some (some v)) (k : Gx K D.nx (σ.set j (some v)) H) : Gx K (tAsg (tVar i) (gName j) D) σ H := fun H1 e => ⟨v, h, k H1 e⟩
theorem q_mov {i j : Nat} {v : V} (h : σ[i]? = some (some v)) (k : Gx K (tz D) (σ.set j (some v)) H) : Gx K (tSeq (tAsg (tVar i) (gName j)) tz D) σ H := fun H1 e => ⟨v, h, k H1 e⟩
theorem er_lit {z : Str} {w : List Bool} (h : z = tx w) : Er K (tC (.str z)) σ H (tx w) := er_str.to h
theorem er_ixW {w : List Bool} {i : Int} {b : Bool} (ha : Er K ta σ H (tx w)) (hb : Er K tb σ H i) (hl : w.length ≤ 100000) (e : atI w i = some b) : Er K (tOp rIxS ta tb) σ H (tx [b]) :=
  (er_ixS ha hb (by rw [tx_len]; exact hl) (tx_at e)).to (sgn_tx b)
end
end Rf
set_option Elab.async false
set_option linter.all false
set_option maxRecDepth 100000
set_option maxHeartbeats 4000000
namespace W
open PySem PySem.Spec PyProof.Rows L2 Evl Rf
def topS (i : Nat) : Stmt := PySem.Challenge.pw_risefall_k01_whole_counts.main.body.getD i (.Pass ⟨0, 0, 0, 0⟩)
/-- the built-in names that the text reads -/
structure Bi (mg : Str → Option Value) : Prop where
  abs_ : mg "abs" = none
  all_ : mg "all" = none
  bool_ : mg "bool" = none
  enumerate_ : mg "enumerate" = none
  int_ : mg "int" = none
  isinstance_ : mg "isinstance" = none
  len_ : mg "len" = none
  list_ : mg "list" = none
  max_ : mg "max" = none
  range_ : mg "range" = none
  str_ : mg "str" = none
  sum_ : mg "sum" = none

section
variable {P : Program} {w : World} {K : PySem.W.Frag} {mg : Str → Option Value} {base : Heap}
local macro_rules | `(tactic| walk_at "ex") => `(tactic| first | assumption | exact Ex.refl _ | exact Ex.trans (by assumption) (by assumption))
local macro_rules | `(tactic| walk_at "rep") => `(tactic| first | exact rfl | assumption | exact up (by assumption) (by assumption) | exact Own.rep (by assumption) | exact Own.rep (Own.up (by assumption) (by assumption)) | skip)
local macro_rules | `(tactic| walk_at "side") => `(tactic| first | assumption | omega | decide | trivial | skip)
local macro_rules | `(tactic| walk_at "er") => `(tactic| first
  | with_reducible exact er_int | with_reducible exact er_str | with_reducible exact er_bl | with_reducible exact er_non
  | ((with_reducible apply er_var) <;> walk_at "rep")
  | ((with_reducible apply er_add) <;> walk_at "er")
  | ((with_reducible apply er_sub) <;> walk_at "er")
  | ((with_reducible apply er_neg) <;> walk_at "er")
  | ((with_reducible apply er_mul) <;> walk_at "er")
  | ((with_reducible apply er_mod) <;> walk_at "er")
  | ((with_reducible apply er_div) <;> walk_at "er")
  | ((with_reducible apply er_lt) <;> walk_at "er")
  | ((with_reducible apply er_le) <;> walk_at "er")
  | ((with_reducible apply er_gt) <;> walk_at "er")
  | ((with_reducible apply er_ge) <;> walk_at "er")
  | ((with_reducible apply er_eqi) <;> walk_at "er")
  | ((with_reducible apply er_nei) <;> walk_at "er")
  | ((with_reducible apply er_eqt) <;> walk_at "er")
  | ((with_reducible apply er_net) <;> walk_at "er")
  | ((with_reducible apply er_eqb) <;> walk_at "er")
  | ((with_reducible apply er_neb) <;> walk_at "er")
  | ((with_reducible apply er_lenL) <;> walk_at "er")
  | ((with_reducible apply er_not) <;> walk_at "er")
  | ((with_reducible apply er_sum) <;> walk_at "er")
  | ((with_reducible apply er_abs) <;> walk_at "er")
  | ((with_reducible apply er_max2) <;> walk_at "er")
  | ((with_reducible apply er_min2) <;> walk_at "er")
  | ((with_reducible apply er_chLtLt) <;> walk_at "er")
  | ((with_reducible apply er_chLeLt) <;> walk_at "er")
  | ((with_reducible apply er_ixL) <;> walk_at "er")
  | ((with_reducible apply er_ixT) <;> walk_at "er")
  | ((with_reducible apply er_call1) <;> walk_at "er")
  | ((with_reducible apply er_call2) <;> walk_at "er")
  | ((with_reducible apply er_call3) <;> walk_at "er")
  | assumption | omega | exact Or.inr ⟨by decide, by decide⟩ | exact Or.inl ⟨by decide, by decide⟩ | exact Or.inl ⟨by omega, by omega⟩ | exact Or.inr ⟨by omega, by omega⟩ | exact ⟨by decide, by decide⟩ | exact ⟨by omega, by omega⟩ | trivial
  | skip)
local macro_rules | `(tactic| walk_at "et") => `(tactic| first
  | ((with_reducible apply et_e) <;> walk_at "er")
  | ((with_reducible apply et_v) <;> walk_at "er")
  | ((with_reducible apply et_not') <;> walk_at "et")
  | ((with_reducible refine et_and' ?_ fun hand => ?_) <;> walk_at "et")
  | ((with_reducible refine et_or' ?_ fun hor => ?_) <;> walk_at "et")
  | skip)

/-! ### the words of the program -/
def sp_is_whole (K : PySem.W.Frag) : Sp := Pr1 K (fun (_ : Int) => True) fun _ => true
abbrev s_is_whole : Stmt := topS 5
abbrev N_is_whole : List Str := ["thing"]
theorem sc_is_whole : FnScope N_is_whole ["thing"] (defScope s_is_whole) := ⟨rfl, rfl, rfl, by decide +kernel, rfl, by decide +kernel, by decide +kernel⟩
def t_is_whole (K : PySem.W.Frag) : TS :=
  (tRet (tAndV (tCB (rIsi K) (tCons (tVar 0) (tCons (tC (.ty "int")) tNil))) (tNotV (tCB (rIsi K) (tCons (tVar 0) (tCons (tC (.ty "bool")) tNil))))))

theorem pure_is_whole (K : PySem.W.Frag) (vs : List V) (H : Hp) (Q : VK) (E : XK) (h : sp_is_whole K vs H Q E) : t_is_whole K { nx := fun _ H' => Q .non H', rt := Q } (start N_is_whole vs) H := by
  obtain ⟨_, c, rfl, rfl, _, q⟩ := h
  refine Gx.here (K := K) (g_ret (a := (true && !false)) (er_and (er_isi (er_var rfl rfl) (fun _ _ r => ty_int (a := c) r) (by decide +kernel)) fun _ => er_not (er_isi (er_var rfl rfl) (fun _ _ r => ty_int (a := c) r) (by decide +kernel))) q)
theorem ok_is_whole {f : Addr} {fd : FuncData} (F : Fun K "is_whole" "is_whole" s_is_whole f fd) (T : Bi mg) : FnOk P w K mg base CX0 1 f fd ["thing"] (sp_is_whole K) :=
  F.ok sc_is_whole (fun vs H Q E h => by first | exact len_pr1 h | exact len_pr2 h | exact len_pr3 h | exact len_prF1 h | exact len_prF2 h | exact len_is_whole h) (fun cdv A outer s H vs Q E hr h => ⟨t_is_whole K, by exact
    ((pss_one (ps_ret (pe_and (pe_callB cIsi (by rfl) T.isinstance_ (by decide +kernel) (pa_cons (pv 0) (pa_cons (pe_bltn (v := .ty "int") (by rfl) T.int_ (by decide +kernel) rfl) pa_nil))) (pe_one (pe_not (pe_callB cIsi (by rfl) T.isinstance_ (by decide +kernel) (pa_cons (pv 0) (pa_cons (pe_bltn (v := .ty "bool") (by rfl) T.bool_ (by decide +kernel) rfl) pa_nil))))))))), pure_is_whole K vs H Q E h⟩)


def sp_check_word (K : PySem.W.Frag) : Sp := Pr1 K (fun z : Str => IsW z ∧ z.length ≤ 1000) fun _ => ()
abbrev s_check_word : Stmt := topS 6
abbrev N_check_word : List Str := ["word", "letter"]
theorem sc_check_word : FnScope N_check_word ["word"] (defScope s_check_word) := ⟨rfl, rfl, rfl, by decide +kernel, rfl, by decide +kernel, by decide +kernel⟩
def t_check_word (K : PySem.W.Frag) : TS :=
  (tIfS (tOr (tNot (tB (tCB (rIsi K) (tCons (tVar 0) (tCons (tC (.ty "str")) tNil))))) (tNot (tB (tCB (rAll K) (tCons (tLc (iStr (tVar 0)) (gName 1) tYes (tOp (rInS false) (tVar 1) (tC (.str ("ud" : Str)))) [1]) tNil))))) tNever tNext)

theorem all_ud : ∀ (l : List Nat), (∀ c ∈ l, c = 117 ∨ c = 100) → (l.map fun c => decide (c ∈ (tx [true, false]).cps.toList)).all id = true := by
  intro l h
  rw [List.all_eq_true]
  intro b hb
  obtain ⟨c, hc, rfl⟩ := List.mem_map.mp hb
  rcases h c hc with e | e <;> (subst e; decide +kernel)
theorem pure_check_word (K : PySem.W.Frag) (vs : List V) (H : Hp) (Q : VK) (E : XK) (h : sp_check_word K vs H Q E) : t_check_word K { nx := fun _ H' => Q .non H', rt := Q } (start N_check_word vs) H := by
  obtain ⟨_, z, rfl, rfl, ⟨hw, hl⟩, q⟩ := h
  refine Gx.here (K := K) (g_if (b := (!true || !true)) (et_or' (et_not' (et_v (er_isi (er_var rfl rfl) (fun _ _ r => ty_str (a := z) r) (by decide +kernel)))) fun _ => et_not' (et_v ((er_all (ErF.er (erf_lcS (er_var rfl rfl) (by omega) (fun _ => rfl) fun i c H1 _ _ => es_flat (er_inS (er_var rfl rfl) (er_lit tx_ud))))).to (all_ud _ hw)))) (fun hb => by cases hb) fun _ => g_next fun H1 e => q .non H1 e rfl)
theorem ok_check_word {f : Addr} {fd : FuncData} (F : Fun K "check_word" "check_word" s_check_word f fd) (T : Bi mg) : FnOk P w K mg base CX0 1 f fd ["word"] (sp_check_word K) :=
  F.ok sc_check_word (fun vs H Q E h => by first | exact len_pr1 h | exact len_pr2 h | exact len_pr3 h | exact len_prF1 h | exact len_prF2 h | exact len_check_word h) (fun cdv A outer s H vs Q E hr h => ⟨t_check_word K, by exact
    ((pss_one (ps_if (PW.pt (pw_or (pt_not (pt_val (pe_callB cIsi (by rfl) T.isinstance_ (by decide +kernel) (pa_cons (pv 0) (pa_cons (pe_bltn (v := .ty "str") (by rfl) T.str_ (by decide +kernel) rfl) pa_nil))))) (pw_or1 (pt_not (pt_val (pe_callB (cr_all rfl) (by rfl) T.all_ (by decide +kernel) (pa_cons (pe_lc (own := [("letter", 1)]) (g := (gName 1)) (tt := tYes) rfl sc_check_word.nd (pi_str (pv 0)) (blkOk_by (own := [("letter", 1)]) (N := N_check_word) (sc := defScope s_check_word) (by decide +kernel)) (fun _ _ _ _ _ => (pg_name (i := 1) sc_check_word.nd rfl (.inl rfl))) (fun _ _ _ _ _ => pts_nil) (fun _ _ _ _ _ => (pe_cmpR oInS (pv 1) pe_str (by rfl)))) pa_nil))))))) (pss_one ps_never)
      pss_nil))), pure_check_word K vs H Q E h⟩)


def rest : List Bool → List Int
  | [] => [1]
  | b :: w => MC.step (!b) (rest w)
def restsL : List Bool → List (List Int)
  | [] => [[1]]
  | b :: w => rest (b :: w) :: restsL w
def sp_rests_of (K : PySem.W.Frag) : Sp := PrF1 K (fun z : Str => IsW z ∧ z.length ≤ 1000) fun z => restsL (unz z)
abbrev s_rests_of : Stmt := topS 8
abbrev N_rests_of : List Str := ["word", "last", "found", "letter", "sums", "many", "less"]
theorem sc_rests_of : FnScope N_rests_of ["word"] (defScope s_rests_of) := ⟨rfl, rfl, rfl, by decide +kernel, rfl, by decide +kernel, by decide +kernel⟩
def t_rests_of (K : PySem.W.Frag) : TS :=
  (tSeq (tAsg (tLst (tCons (tC (.int 1)) tNil)) (gName 1))
    (tSeq (tAsg (tLst (tCons (tVar 1) tNil)) (gName 2))
    (tSeq (tFor (iStr (tRevS (tVar 0))) (gName 3) (tSeq (tAsg (tLst (tCons (tC (.int 0)) tNil)) (gName 4))
    (tSeq (tFor (iList K (tVar 1)) (gName 5) (tDrop (tBM K "list" rAppend (tVar 4) (tCons (tOp rAddI (tOp (rIxL K) (tVar 4) (tUn rNegI (tC (.int 1)))) (tVar 5)) tNil))))
    (tCut (tIfS (tTest (tOp rEqT (tVar 3) (tC (.str ("u" : Str))))) (tAsg (tLc (iList K (tVar 4)) (gName 6) tYes (tOp rSubI (tOp (rIxL K) (tVar 4) (tUn rNegI (tC (.int 1)))) (tVar 6)) [6]) (gName 1)) (tAsg (tVar 4) (gName 1)))
    (tDrop (tBM K "list" rAppend (tVar 2) (tCons (tVar 1) tNil)))))))
    (tRet (tRevL K (tVar 2))))))

theorem rest_len : ∀ w, (rest w).length = w.length + 1
  | [] => rfl
  | b :: w => by rw [rest, MC.step_len, rest_len w]; rfl
theorem restsL_len : ∀ w, (restsL w).length = w.length + 1
  | [] => rfl
  | b :: w => by rw [restsL, List.length_cons, restsL_len w]; rfl
/-- the sums so far -/
def presTo (l : List Int) (j : Nat) : List Int := (List.range (j + 1)).map fun i => (l.take i).sum
theorem presTo_all (l : List Int) : presTo l l.length = MC.pres l := rfl
theorem presTo_succ {l : List Int} {j : Nat} {x : Int} (h : l[j]? = some x) : presTo l (j + 1) = presTo l j ++ [(l.take j).sum + x] := by
  unfold presTo
  rw [List.range_succ (n := j + 1), List.map_append]
  congr 1
  show [(l.take (j + 1)).sum] = _
  rw [sum_take h]
theorem presTo_last (l : List Int) (j : Nat) : (presTo l j).getLast? = some (l.take j).sum := by
  unfold presTo
  rw [List.range_succ, List.map_append]
  simp
theorem pres_last (l : List Int) : (MC.pres l).getLast? = some l.sum := by
  rw [← presTo_all, presTo_last, List.take_length]
theorem rev_take {r : List Bool} {i : Nat} {b : Bool} (h : r[i]? = some b) : (r.take (i + 1)).reverse = b :: (r.take i).reverse := by
  rw [take_succ_some h, List.reverse_append]; rfl
/-- between the turns over the letters: the row, the rows -/
def InvR (K : PySem.W.Frag) (B : Hp) (z : Str) (i : Nat) (σ : L2.St) (H : Hp) : Prop := ∃ (pl pf : Addr) (x3 x4 x5 x6 : Option V) (u : List Bool), σ = [some (.str z), some (.ref pl), some (.ref pf), x3, x4, x5, x6] ∧
  u = ((unz z).reverse.take i).reverse ∧ Ex B H ∧ B pf = none ∧ pl ≠ pf ∧ LstR K (del H pf) pl (rest u) ∧ Own K H pf (restsL u).reverse
theorem pure_rests_of (K : PySem.W.Frag) (vs : List V) (H : Hp) (Q : VK) (E : XK) (h : sp_rests_of K vs H Q E) : t_rests_of K { nx := fun _ H' => Q .non H', rt := Q } (start N_rests_of vs) H := by
  obtain ⟨_, z, rfl, rfl, ⟨hw, hl⟩, q⟩ := h
  refine Gx.here (K := K) (q_asgF (as := [1]) (erf_lst (eal_cons er_int eal_nil) (by decide)) fun pl H1 hpl e1 o1 => q_asgF (as := [[1]]) (erf_lst (eal_cons (er_var rfl o1.rep) eal_nil) (by decide)) fun pf H2 hpf e2 o2 => ?_)
  have e3 := e1.trans e2
  have hpf0 : H pf = none := fresh_back e1 hpf
  have hne : pl ≠ pf := by
    rintro rfl
    obtain ⟨o, ho⟩ := o1.some
    rw [ho] at hpf; cases hpf
  have hz : ({ cps := z.cps.toList.reverse.toArray } : Str) = tx (unz z).reverse := by
    conv => lhs; rw [← tx_unz hw]
    rw [tx_rev]
  refine q_forS (x := tx (unz z).reverse) ((er_revS (er_var rfl rfl) (by omega)).to hz) (InvR K H z) (fun H3 e4 => ⟨pl, pf, none, none, none, none, [], rfl, by simp, e3.trans e4, hpf0, hne, ?_, o2.up e4⟩) ?_ ?_
  · exact o1.lst.up (ex_del (e2.trans e4) hpf)
  · rintro i c σ' H' hc ⟨pl, pf, x3, x4, x5, x6, u, rfl, eu, eB, hB, hne, hL, hO⟩
    -- the letter
    have hc' : (unz z).reverse[i]? = some (c == 117) ∧ c = sg (c == 117) := by
      have h1 : (tx (unz z).reverse).cps.toList[i]? = some c := by rw [Array.getElem?_toList]; exact hc
      rw [tx_list, List.getElem?_map] at h1
      cases hq : (unz z).reverse[i]? with
      | none => rw [hq] at h1; simp at h1
      | some b =>
        rw [hq] at h1
        have : sg b = c := by simpa using h1
        subst this
        cases b <;> exact ⟨rfl, rfl⟩
    obtain ⟨hb, hcs⟩ := hc'
    obtain ⟨b, hbd⟩ : ∃ b, (c == 117) = b := ⟨_, rfl⟩
    rw [hbd] at hb hcs
    subst hcs
    have hi : i < (unz z).reverse.length := (List.getElem?_eq_some_iff.mp hb).1
    have hul : u.length ≤ 1000 := by
      rw [eu, List.length_reverse, List.length_take]
      rw [List.length_reverse, unz_len] at hi
      omega
    have erow := rest_len u
    -- sums = [0]
    refine q_asgF (as := [0]) (erf_lst (eal_cons er_int eal_nil) (by decide)) fun ps H1 hps e1 o1 => ?_
    refine q_forL (i0 := 1) (B := H') (as := rest u) (v0 := .ref pl) (fun j σ2 H2 => ∃ x5, σ2 = [some (.str z), some (.ref pl), some (.ref pf), some (.str (sgn (sg b))), some (.ref ps), x5, x6] ∧ Ex H' H2 ∧ Own K H2 ps (presTo (rest u) j)) rfl ⟨pl, rfl, hL.up (del_ex _ _)⟩ e1
      (fun H2 e2 => ⟨x5, rfl, e1.trans e2, o1.up e2⟩) (fun j σ2 H2 ⟨_, _, h, _⟩ => h) ?_ ?_
    · rintro j a v σ2 H2 ha rfl ⟨x5, rfl, e2, o2⟩
      refine g_app (a := ((rest u).take j).sum + a) o2 rfl ?_ ?_ fun H3 eb o3 => fun H4 e4 => ⟨_, rfl, (eb.ex e2 hps).trans e4, ?_⟩
      · exact er_add (er_ixL (er_var rfl o2.rep) (er_neg er_int) (atI_neg1 (presTo_last _ _))) (er_var rfl rfl)
      · have : j < (rest u).length := (List.getElem?_eq_some_iff.mp ha).1
        unfold presTo
        rw [List.length_map, List.length_range]
        omega
      · rw [presTo_succ ha]
        exact o3.up e4
    · rintro σ2 H2 ⟨x5, rfl, e2, o2⟩
      rw [presTo_all] at o2
      have hpsf : ps ≠ pf := by
        rintro rfl
        obtain ⟨o, ho⟩ := hO.some
        rw [ho] at hps; cases hps
      refine (g_cut (fun σ3 H3 => ∃ pn x6, σ3 = [some (.str z), some (.ref pn), some (.ref pf), some (.str (sgn (sg b))), some (.ref ps), x5, x6] ∧ Ex H' H3 ∧ pn ≠ pf ∧ LstR K (del H3 pf) pn (rest (b :: u))) (g_if (b := b) ?_ (fun hb1 => ?_) fun hb1 => ?_) ?_)
      · have q := er_eqt (K := K) (σ := [some (.str z), some (.ref pl), some (.ref pf), some (.str (sgn (sg b))), some (.ref ps), x5, x6]) (H := H2) (i := tx [b]) (j := tx [true]) (ta := tVar 3) (tb := tC (.str "u")) (er_var rfl rfl) (er_lit tx_u)
        refine et_e (q.to ?_)
        rw [tx_beq]
        cases b <;> rfl
      · subst hb1
        refine g_asgF (as := (MC.pres (rest u)).map fun x => (rest u).sum - x) (erf_lc (er_var rfl o2.rep) (by rw [MC.pres_len]; omega) (fun _ => rfl) fun i a v H3 e3 _ r => es_flat (er_sub (er_ixL (er_var rfl (o2.up e3).rep) (er_neg er_int) (atI_neg1 (pres_last _))) (er_var rfl r))) fun pn H3 hpn e3 o3 => fun H4 e4 => ?_
        have hnf : pn ≠ pf := by
          rintro rfl
          obtain ⟨o, ho⟩ := (hO.up e2).some
          rw [ho] at hpn; cases hpn
        refine ⟨pn, x6, rfl, (e2.trans e3).trans e4, hnf, ?_⟩
        rw [rest, ← MC.sufs_eq] at *
        obtain ⟨xs, q1, q2⟩ := o3.up e4
        exact ⟨xs, sq_of (by unfold del; rw [if_neg hnf]; exact q1), q2.flat⟩
      · subst hb1
        refine g_mov rfl fun H4 e4 => ?_
        refine ⟨ps, x6, rfl, e2.trans e4, hpsf, ?_⟩
        rw [rest]
        obtain ⟨xs, q1, q2⟩ := o2.up e4
        exact ⟨xs, sq_of (by unfold del; rw [if_neg hpsf]; exact q1), q2.flat⟩
      · rintro σ3 H3 ⟨pn, x6, rfl, e3, hnf, hr⟩
        refine g_appB (B := del H3 pf) (a := rest (b :: u)) (hO.up e3) rfl (del_ex _ _) (if_pos rfl) (es_var rfl ⟨pn, rfl, hr⟩) ?_ fun H4 eb o4 => fun H5 e5 => ⟨pn, pf, _, _, _, _, b :: u, rfl, ?_, (eb.ex (eB.trans e3) hB).trans e5, hB, hnf, ?_, ?_⟩
        · rw [List.length_reverse, restsL_len]; omega
        · rw [eu, ← rev_take hb]
        · refine hr.up (fun a o q => ?_)
          have ha : a ≠ pf := fun z => by rw [z] at q; unfold del at q; rw [if_pos rfl] at q; cases q
          unfold del at q ⊢
          rw [if_neg ha] at q ⊢
          exact e5 _ _ (eb a o ha q)
        · rw [restsL, List.reverse_cons]
          exact o4.up e5
  · rintro σ' H' ⟨pl, pf, x3, x4, x5, x6, u, rfl, eu, eB, hB, hne, hL, hO⟩
    have hu : u = unz z := by
      rw [eu, List.take_of_length_le, List.reverse_reverse]
      show _ ≤ (tx (unz z).reverse).length
      rw [tx_len]; exact Nat.le_refl _
    subst hu
    refine (g_retF (as := restsL (unz z)) ((erf_rev (er_var rfl hO.rep)).to (List.reverse_reverse _)) fun p H1 hp e o => q p H1 (fresh_back eB hp) (eB.trans e) o)
theorem ok_rests_of {f : Addr} {fd : FuncData} (F : Fun K "rests_of" "rests_of" s_rests_of f fd) (T : Bi mg) : FnOk P w K mg base CX0 1 f fd ["word"] (sp_rests_of K) :=
  F.ok sc_rests_of (fun vs H Q E h => by first | exact len_pr1 h | exact len_pr2 h | exact len_pr3 h | exact len_prF1 h | exact len_prF2 h | exact len_rests_of h) (fun cdv A outer s H vs Q E hr h => ⟨t_rests_of K, by exact
    ((pss_cons (ps_set (i := 1) sc_rests_of.nd rfl (.inl rfl) (pe_lst (pa_cons pe_int pa_nil)))
      (pss_cons (ps_set (i := 2) sc_rests_of.nd rfl (.inl rfl) (pe_lst (pa_cons (pv 1) pa_nil)))
      (pss_cons (ps_for PassesOwn.never rfl (pi_str (pe_revS (pv 0))) (pg_name (i := 3) sc_rests_of.nd rfl (.inl rfl))
      (pss_cons (ps_set (i := 4) sc_rests_of.nd rfl (.inr rfl) (pe_lst (pa_cons pe_int pa_nil)))
      (pss_cons (ps_for PassesOwn.never rfl (pi_list (pv 1)) (pg_name (i := 5) sc_rests_of.nd rfl (.inl rfl))
      (pss_one (ps_expr (pe_bm PySem.F.plainAttrs_list PySem.F.slot_list_append PySem.F.type_list_append mt_append (pv 4) (pa_cons (pe_op oAddI (pe_ix ix_list (pv 4) (pe_un oNegI pe_int) (fun _ _ => rfl)) (pv 5)) pa_nil)))))
      (pss_cut (ps_if (pt_cmpR oEqT (pv 3) pe_str (nomark _)) (pss_one (ps_setLc (i := 1) (own := [("less", 6)]) (g := (gName 6)) (tt := tYes) rfl sc_rests_of.nd rfl rfl (sw_true rfl rfl rfl (by decide +kernel)) (pi_list (pv 4)) (blkOk_by (own := [("less", 6)]) (N := N_rests_of) (sc := defScope s_rests_of) (by decide +kernel)) (fun _ _ _ _ _ => (pg_name (i := 6) sc_rests_of.nd rfl (.inl rfl))) (fun _ _ _ _ _ => pts_nil) (fun _ _ _ _ _ => (pe_op oSubI (pe_ix ix_list (pv 4) (pe_un oNegI pe_int) (fun _ _ => rfl)) (pv 6)))))
      (pss_one (ps_set (i := 1) sc_rests_of.nd rfl (.inl rfl) (pv 4))))
      (pss_one (ps_expr (pe_bm PySem.F.plainAttrs_list PySem.F.slot_list_append PySem.F.type_list_append mt_append (pv 2) (pa_cons (pv 1) pa_nil))))))))
      (pss_one (ps_ret (pe_revL (pv 2)))))))), pure_rests_of K vs H Q E h⟩)


def cntP (w : List Bool) : Int := (rest w).sum
def sp_count (K : PySem.W.Frag) : Sp := Pr1 K (fun z : Str => IsW z ∧ z.length ≤ 1000) fun z => cntP (unz z)
abbrev s_count : Stmt := topS 9
abbrev N_count : List Str := ["word"]
theorem sc_count : FnScope N_count ["word"] (defScope s_count) := ⟨rfl, rfl, rfl, by decide +kernel, rfl, by decide +kernel, by decide +kernel⟩
def t_count (K : PySem.W.Frag) : TS :=
  (tSeq (tDrop (tCall (sp_check_word K) [] E0 (tCons (tVar 0) tNil)))
    (tRet (tCB (rSum K) (tCons (tOp (rIxL K) (tCall (sp_rests_of K) [] E0 (tCons (tVar 0) tNil)) (tC (.int 0))) tNil))))

theorem restsL_head : ∀ w, (restsL w)[0]? = some (rest w)
  | [] => rfl
  | _ :: _ => rfl
theorem pure_count (K : PySem.W.Frag) (vs : List V) (H : Hp) (Q : VK) (E : XK) (h : sp_count K vs H Q E) : t_count K { nx := fun _ H' => Q .non H', rt := Q } (start N_count vs) H := by
  obtain ⟨_, z, rfl, rfl, hp, q⟩ := h
  refine Gx.here (K := K) (q_drop (a := ()) (er_call1 (a := z) (er_var rfl rfl) hp) (g_ret (a := cntP (unz z)) (er_sum (er_ixL (i := 0) (er_call1F (a := z) (er_var rfl rfl) hp) er_int (atI_nat' (j := 0) (restsL_head _)))) q))
theorem ok_count {f f_check_word f_rests_of : Addr} {fd fd_check_word fd_rests_of : FuncData} (F : Fun K "count" "count" s_count f fd) (T : Bi mg) (c_check_word : Cal P w K mg base 1 "check_word" ["word"] (sp_check_word K) f_check_word fd_check_word) (c_rests_of : Cal P w K mg base 1 "rests_of" ["word"] (sp_rests_of K) f_rests_of fd_rests_of) : FnOk P w K mg base CX0 2 f fd ["word"] (sp_count K) :=
  F.ok sc_count (fun vs H Q E h => by first | exact len_pr1 h | exact len_pr2 h | exact len_pr3 h | exact len_prF1 h | exact len_prF2 h | exact len_count h) (fun cdv A outer s H vs Q E hr h => ⟨t_count K, by exact
    ((pss_cons (ps_expr (pe_call c_check_word.ok (hr.mono (by decide)) (by rfl) c_check_word.g c_check_word.kp c_check_word.b .nil pass0 (pa_cons (pv 0) pa_nil)))
      (pss_one (ps_ret (pe_callB (cSum rfl) (by rfl) T.sum_ (by decide +kernel) (pa_cons (pe_ix ix_list (pe_call c_rests_of.ok (hr.mono (by decide)) (by rfl) c_rests_of.g c_rests_of.kp c_rests_of.b .nil pass0 (pa_cons (pv 0) pa_nil)) pe_int (fun _ _ => rfl)) pa_nil)))))), pure_count K vs H Q E h⟩)


/-! ### the word of a row -/
def adj (row : List Int) (i : Nat) : Bool := row.getD (i + 1) 0 == row.getD i 0
def rf (row : List Int) (n : Nat) : List Bool := (List.range n).map fun i => decide (row.getD i 0 < row.getD (i + 1) 0)
def wordBy (row : List Int) : Option (List Bool) := if (List.range (row.length - 1)).any (adj row) then none else some (rf row (row.length - 1))
def sp_word_by (K : PySem.W.Frag) : Sp := Pr1 K (fun row : List Int => row.length ≤ 1000) fun row => (wordBy row).map tx
abbrev s_word_by : Stmt := topS 10
abbrev N_word_by : List Str := ["row", "found", "place"]
theorem sc_word_by : FnScope N_word_by ["row"] (defScope s_word_by) := ⟨rfl, rfl, rfl, by decide +kernel, rfl, by decide +kernel, by decide +kernel⟩
def t_word_by (K : PySem.W.Frag) : TS :=
  (tSeq (tAsg (tC (.str ("" : Str))) (gName 1))
    (tSeq (tFor (iRng2 (tCons (tC (.int 1)) (tCons (tCB (rLenL K) (tCons (tVar 0) tNil)) tNil))) (gName 2) (tSeq (tIfS (tTest (tOp rEqI (tOp (rIxL K) (tVar 0) (tVar 2)) (tOp (rIxL K) (tVar 0) (tOp rSubI (tVar 2) (tC (.int 1)))))) (tRet (tC .non)) tNext)
    (tAug 1 (tIf (tTest (tOp rGtI (tOp (rIxL K) (tVar 0) (tVar 2)) (tOp (rIxL K) (tVar 0) (tOp rSubI (tVar 2) (tC (.int 1)))))) (tC (.str ("u" : Str))) (tC (.str ("d" : Str)))) ipT)))
    (tRet (tVar 1))))

theorem rf_succ (row : List Int) (n : Nat) : rf row (n + 1) = rf row n ++ [decide (row.getD n 0 < row.getD (n + 1) 0)] := by
  unfold rf
  rw [List.range_succ, List.map_append]; rfl
theorem rf_len (row : List Int) (n : Nat) : (rf row n).length = n := by simp [rf]
theorem at_getD {row : List Int} {i : Int} {j : Nat} (e : i = (j : Int)) (h : j < row.length) : atI row i = some (row.getD j 0) := by
  rw [e, List.getD_eq_getElem?_getD, List.getElem?_eq_getElem h]
  exact atI_nat' (List.getElem?_eq_getElem h)
theorem pure_word_by (K : PySem.W.Frag) (vs : List V) (H : Hp) (Q : VK) (E : XK) (h : sp_word_by K vs H Q E) : t_word_by K { nx := fun _ H' => Q .non H', rt := Q } (start N_word_by vs) H := by
  obtain ⟨v, row, rfl, r, hl, q⟩ := h
  refine Gx.here (K := K) (q_asgT (a := tx []) (er_lit tx_nil) ?_)
  refine q_forR (lo := 1) (n := row.length - 1) (j := 2) ?_ (fun i σ H' => ∃ x2, σ = [some v, some (.str (tx (rf row i))), x2] ∧ Ex H H' ∧ (List.range i).any (adj row) = false) (fun H1 e => ⟨none, rfl, e, rfl⟩) ?_ ?_
  · exact (rng2 er_int (er_lenL (er_var rfl r)) (by omega) (by omega) (by omega) (by omega)).to (by omega)
  · rintro i σ H' hi ⟨x2, rfl, e, ha⟩
    have r' := up r e
    refine q_when (b := adj row i) (et_e ?_) (fun hb => ?_) fun hb => ?_
    · exact er_eqi (er_ixL (er_var rfl r') (er_var rfl rfl) (at_getD (by omega) (by omega))) (er_ixL (er_var rfl r') (er_sub (er_var rfl rfl) er_int) (at_getD (by omega) (by omega)))
    · refine g_ret (a := (none : Option Str)) er_nonO fun u H1 e1 r1 => q u H1 (e.trans e1) ?_
      have h2 : wordBy row = none := by
        unfold wordBy
        rw [if_pos]
        rw [List.any_eq_true]
        exact ⟨i, List.mem_range.mpr hi, hb⟩
      show Rep.rep K H1 u ((wordBy row).map tx)
      rw [h2]; exact r1
    · refine g_augT (a := tx (rf row i)) (b := tx [decide (row.getD i 0 < row.getD (i + 1) 0)]) rfl ?_ ?_ fun H1 e1 => ⟨some (.int (1 + (i : Int))), ?_, e.trans e1, ?_⟩
      · refine (er_if (b := decide (row.getD i 0 < row.getD (i + 1) 0)) (x := tx [true]) (y := tx [false]) (et_e ?_) (fun _ => er_lit tx_u) fun _ => er_lit tx_d).to ?_
        · exact er_gt (er_ixL (er_var rfl r') (er_var rfl rfl) (at_getD (by omega) (by omega))) (er_ixL (er_var rfl r') (er_sub (er_var rfl rfl) er_int) (at_getD (by omega) (by omega)))
        · cases decide (row.getD i 0 < row.getD (i + 1) 0) <;> rfl
      · rw [tx_len, tx_len, rf_len]
        show i + 1 ≤ 100000
        omega
      · rw [tx_app, ← rf_succ]; rfl
      · rw [List.range_succ, List.any_append, ha, Bool.false_or]
        simp [hb]
  · rintro σ H' ⟨x2, rfl, e, ha⟩
    have h2 : wordBy row = some (rf row (row.length - 1)) := by
      unfold wordBy
      rw [if_neg (by rw [ha]; decide)]
    refine (g_ret (a := tx (rf row (row.length - 1))) (er_var rfl rfl) fun u H1 e1 r1 => q u H1 (e.trans e1) ?_)
    show Rep.rep K H1 u ((wordBy row).map tx)
    rw [h2]; exact r1
theorem ok_word_by {f : Addr} {fd : FuncData} (F : Fun K "word_by" "word_by" s_word_by f fd) (T : Bi mg) : FnOk P w K mg base CX0 1 f fd ["row"] (sp_word_by K) :=
  F.ok sc_word_by (fun vs H Q E h => by first | exact len_pr1 h | exact len_pr2 h | exact len_pr3 h | exact len_prF1 h | exact len_prF2 h | exact len_word_by h) (fun cdv A outer s H vs Q E hr h => ⟨t_word_by K, by exact
    ((pss_cons (ps_set (i := 1) sc_word_by.nd rfl (.inl rfl) pe_str)
      (pss_cons (ps_for PassesOwn.never rfl (pi_range2 (by rfl) T.range_ (pa_cons pe_int (pa_cons (pe_callB cLenL (by rfl) T.len_ (by decide +kernel) (pa_cons (pv 0) pa_nil)) pa_nil))) (pg_name (i := 2) sc_word_by.nd rfl (.inl rfl))
      (pss_cons (ps_if (pt_cmpR oEqI (pe_ix ix_list (pv 0) (pv 2) (fun _ _ => rfl)) (pe_ix ix_list (pv 0) (pe_op oSubI (pv 2) pe_int) (fun _ _ => rfl)) (nomark _)) (pss_one (ps_ret pe_non))
      pss_nil)
      (pss_one (ps_aug (i := 1) sc_word_by.nd rfl (.inl rfl) (pe_ifExp (pt_cmpR oGtI (pe_ix ix_list (pv 0) (pv 2) (fun _ _ => rfl)) (pe_ix ix_list (pv 0) (pe_op oSubI (pv 2) pe_int) (fun _ _ => rfl)) (nomark _)) pe_str pe_str) ip_addT))))
      (pss_one (ps_ret (pv 1)))))), pure_word_by K vs H Q E h⟩)


def sp_check_row (K : PySem.W.Frag) : Sp := Pr1 K (fun row : List Int => row.length ≤ 1000) fun _ => ()
abbrev s_check_row : Stmt := topS 7
abbrev N_check_row : List Str := ["row", "number"]
theorem sc_check_row : FnScope N_check_row ["row"] (defScope s_check_row) := ⟨rfl, rfl, rfl, by decide +kernel, rfl, by decide +kernel, by decide +kernel⟩
def t_check_row (K : PySem.W.Frag) : TS :=
  (tIfS (tOr (tNot (tB (tCB (rIsi K) (tCons (tVar 0) (tCons (tC (.ty "list")) tNil))))) (tNot (tB (tCB (rAll K) (tCons (tLc (iList K (tVar 0)) (gName 1) tYes (tCall (sp_is_whole K) [] E0 (tCons (tVar 1) tNil)) [1]) tNil))))) tNever tNext)

theorem pure_check_row (K : PySem.W.Frag) (vs : List V) (H : Hp) (Q : VK) (E : XK) (h : sp_check_row K vs H Q E) : t_check_row K { nx := fun _ H' => Q .non H', rt := Q } (start N_check_row vs) H := by
  obtain ⟨v, row, rfl, r, hl, q⟩ := h
  refine Gx.here (K := K) (g_if (b := (!true || !true)) (et_or' (et_not' (et_v (er_isi (a := row) (er_var rfl r) (fun _ _ r => ty_lst r) (by decide +kernel)))) fun _ => et_not' (et_v ((er_all (ErF.er (erf_lc (f := fun _ => true) (er_var rfl r) (by omega) (fun _ => rfl) fun i a v H1 _ _ r1 => es_flat (er_call1 (a := a) (er_var rfl r1) trivial)))).to ?_))) (fun hb => by cases hb) fun _ => g_next fun H1 e => q .non H1 e rfl)
  rw [List.all_eq_true]
  intro b hb
  obtain ⟨_, _, rfl⟩ := List.mem_map.mp hb
  rfl
theorem ok_check_row {f f_is_whole : Addr} {fd fd_is_whole : FuncData} (F : Fun K "check_row" "check_row" s_check_row f fd) (T : Bi mg) (c_is_whole : Cal P w K mg base 1 "is_whole" ["thing"] (sp_is_whole K) f_is_whole fd_is_whole) : FnOk P w K mg base CX0 2 f fd ["row"] (sp_check_row K) :=
  F.ok sc_check_row (fun vs H Q E h => by first | exact len_pr1 h | exact len_pr2 h | exact len_pr3 h | exact len_prF1 h | exact len_prF2 h | exact len_check_row h) (fun cdv A outer s H vs Q E hr h => ⟨t_check_row K, by exact
    ((pss_one (ps_if (PW.pt (pw_or (pt_not (pt_val (pe_callB cIsi (by rfl) T.isinstance_ (by decide +kernel) (pa_cons (pv 0) (pa_cons (pe_bltn (v := .ty "list") (by rfl) T.list_ (by decide +kernel) rfl) pa_nil))))) (pw_or1 (pt_not (pt_val (pe_callB (cr_all rfl) (by rfl) T.all_ (by decide +kernel) (pa_cons (pe_lc (own := [("number", 1)]) (g := (gName 1)) (tt := tYes) rfl sc_check_row.nd (pi_list (pv 0)) (blkOk_by (own := [("number", 1)]) (N := N_check_row) (sc := defScope s_check_row) (by decide +kernel)) (fun _ _ _ _ _ => (pg_name (i := 1) sc_check_row.nd rfl (.inl rfl))) (fun _ _ _ _ _ => pts_nil) (fun _ _ _ _ _ => (pe_call c_is_whole.ok (hr.mono (by decide)) (by rfl) c_is_whole.g c_is_whole.kp c_is_whole.b .nil pass0 (pa_cons (pv 1) pa_nil)))) pa_nil))))))) (pss_one ps_never)
      pss_nil))), pure_check_row K vs H Q E h⟩)


def sp_word_of (K : PySem.W.Frag) : Sp := Pr1 K (fun row : List Int => row.length ≤ 1000 ∧ row ≠ [] ∧ (wordBy row).isSome = true) fun row => tx (rf row (row.length - 1))
abbrev s_word_of : Stmt := topS 11
abbrev N_word_of : List Str := ["row", "found"]
theorem sc_word_of : FnScope N_word_of ["row"] (defScope s_word_of) := ⟨rfl, rfl, rfl, by decide +kernel, rfl, by decide +kernel, by decide +kernel⟩
def t_word_of (K : PySem.W.Frag) : TS :=
  (tSeq (tDrop (tCall (sp_check_row K) [] E0 (tCons (tVar 0) tNil)))
    (tSeq (tIfS (tTest (tOp rEqI (tCB (rLenL K) (tCons (tVar 0) tNil)) (tC (.int 0)))) tNever tNext)
    (tSeq (tAsg (tCall (sp_word_by K) [] E0 (tCons (tVar 0) tNil)) (gName 1))
    (tSeq (tIfS (tTest (tOp rIsN' (tVar 1) (tC .non))) tNever tNext)
    (tRet (tVar 1))))))

theorem pure_word_of (K : PySem.W.Frag) (vs : List V) (H : Hp) (Q : VK) (E : XK) (h : sp_word_of K vs H Q E) : t_word_of K { nx := fun _ H' => Q .non H', rt := Q } (start N_word_of vs) H := by
  obtain ⟨v, row, rfl, r, ⟨hl, h0, hs⟩, q⟩ := h
  have h2 : wordBy row = some (rf row (row.length - 1)) := by
    unfold wordBy at hs ⊢
    split
    · rename_i c; rw [if_pos c] at hs; cases hs
    · rfl
  have hn : 0 < row.length := by
    cases row with
    | nil => exact absurd rfl h0
    | cons _ _ => simp
  refine Gx.here (K := K) (q_drop (a := ()) (er_call1 (a := row) (er_var rfl r) hl) (q_when (b := ((row.length : Int) == 0)) (et_e (er_eqi (er_lenL (er_var rfl r)) er_int)) (fun hb => ?_) fun _ => ?_))
  · have : (row.length : Int) = 0 := by simpa using hb
    omega
  · refine q_asg (a := (wordBy row).map tx) (er_call1 (a := row) (er_var rfl r) hl) fun u H1 e1 r1 => ?_
    rw [h2] at r1
    refine q_when (b := false) (et_e ((er_isN (er_var (a := some (tx (rf row (row.length - 1)))) rfl r1)).to rfl)) (fun hb => by cases hb) fun _ => g_ret (a := tx (rf row (row.length - 1))) (er_var rfl r1) fun u H2 e2 r2 => q u H2 (e1.trans e2) r2
theorem ok_word_of {f f_check_row f_word_by : Addr} {fd fd_check_row fd_word_by : FuncData} (F : Fun K "word_of" "word_of" s_word_of f fd) (T : Bi mg) (c_check_row : Cal P w K mg base 2 "check_row" ["row"] (sp_check_row K) f_check_row fd_check_row) (c_word_by : Cal P w K mg base 1 "word_by" ["row"] (sp_word_by K) f_word_by fd_word_by) : FnOk P w K mg base CX0 3 f fd ["row"] (sp_word_of K) :=
  F.ok sc_word_of (fun vs H Q E h => by first | exact len_pr1 h | exact len_pr2 h | exact len_pr3 h | exact len_prF1 h | exact len_prF2 h | exact len_word_of h) (fun cdv A outer s H vs Q E hr h => ⟨t_word_of K, by exact
    ((pss_cons (ps_expr (pe_call c_check_row.ok (hr.mono (by decide)) (by rfl) c_check_row.g c_check_row.kp c_check_row.b .nil pass0 (pa_cons (pv 0) pa_nil)))
      (pss_cons (ps_if (pt_cmpR oEqI (pe_callB cLenL (by rfl) T.len_ (by decide +kernel) (pa_cons (pv 0) pa_nil)) pe_int (nomark _)) (pss_one ps_never)
      pss_nil)
      (pss_cons (ps_set (i := 1) sc_word_of.nd rfl (.inl rfl) (pe_call c_word_by.ok (hr.mono (by decide)) (by rfl) c_word_by.g c_word_by.kp c_word_by.b .nil pass0 (pa_cons (pv 0) pa_nil)))
      (pss_cons (ps_if (pt_cmpR oIsN (pv 1) pe_non (nomark _)) (pss_one ps_never)
      pss_nil)
      (pss_one (ps_ret (pv 1)))))))), pure_word_of K vs H Q E h⟩)


/-! ### the law's cells and draws -/
def cellAt (s : List Int) (k : Int) : Int := if k < (s.length : Int) then s.getD k.toNat 0 else 0
def sp_l_cell_at (K : PySem.W.Frag) : Sp := Pr2 K (fun (_ : List Int) (k : Int) => 0 ≤ k) cellAt
abbrev s_l_cell_at : Stmt := topS 13
abbrev N_l_cell_at : List Str := ["_law_script", "_law_k"]
theorem sc_l_cell_at : FnScope N_l_cell_at ["_law_script", "_law_k"] (defScope s_l_cell_at) := ⟨rfl, rfl, rfl, by decide +kernel, rfl, by decide +kernel, by decide +kernel⟩
def t_l_cell_at (K : PySem.W.Frag) : TS :=
  (tSeq (tIfS (tTest (tOp rLtI (tVar 1) (tCB (rLenL K) (tCons (tVar 0) tNil)))) (tRet (tOp (rIxL K) (tVar 0) (tVar 1))) tNext)
    (tRet (tC (.int 0))))

theorem pure_l_cell_at (K : PySem.W.Frag) (vs : List V) (H : Hp) (Q : VK) (E : XK) (h : sp_l_cell_at K vs H Q E) : t_l_cell_at K { nx := fun _ H' => Q .non H', rt := Q } (start N_l_cell_at vs) H := by
  obtain ⟨v, w, s, k, rfl, r1, r2, hk, q⟩ := h
  obtain rfl : w = .int k := r2
  refine Gx.here (K := K) (q_when (b := decide (k < (s.length : Int))) ?_ (fun hb => g_ret (a := cellAt s k) ?_ q) (fun hb => g_ret (a := cellAt s k) ?_ q))
  · walk_at "et"
  · have hb' : k < (s.length : Int) := of_decide_eq_true hb
    have hl : k.toNat < s.length := by omega
    have e : cellAt s k = s[k.toNat] := by
      unfold cellAt
      rw [if_pos hb', List.getD_eq_getElem?_getD, List.getElem?_eq_getElem hl]; rfl
    rw [e]
    walk_at "er"
    exact atI_ok hk hl
  · have hb' : ¬ k < (s.length : Int) := of_decide_eq_false hb
    have e : cellAt s k = 0 := if_neg hb'
    rw [e]
    walk_at "er"
theorem ok_l_cell_at {f : Addr} {fd : FuncData} (F : Fun K "_law_cell_at" "_law_cell_at" s_l_cell_at f fd) (T : Bi mg) : FnOk P w K mg base CX0 1 f fd ["_law_script", "_law_k"] (sp_l_cell_at K) :=
  F.ok sc_l_cell_at (fun vs H Q E h => by first | exact len_pr1 h | exact len_pr2 h | exact len_pr3 h | exact len_prF1 h | exact len_prF2 h | exact len_l_cell_at h) (fun cdv A outer s H vs Q E hr h => ⟨t_l_cell_at K, by exact
    ((pss_cons (ps_if (pt_cmpR oLtI (pv 1) (pe_callB cLenL (by rfl) T.len_ (by decide +kernel) (pa_cons (pv 0) pa_nil)) (nomark _)) (pss_one (ps_ret (pe_ix ix_list (pv 0) (pv 1) (fun _ _ => rfl))))
      pss_nil)
      (pss_one (ps_ret pe_int)))), pure_l_cell_at K vs H Q E h⟩)

def primes : List Int := [1000003, 1000033, 1000037, 1000039, 1000081, 1000099, 1000117, 1000121, 1000133, 1000151, 1000159, 1000171, 1000183, 1000187, 1000193, 1000199]
def drawI (c k m : Int) : Int := (c * 48271 + k * 69621) % primes.getD (k % 16).toNat 0 % m
theorem draw_lt (c k : Int) {m : Int} (h : 0 < m) : 0 ≤ drawI c k m ∧ drawI c k m < m := ⟨Int.emod_nonneg _ (by omega), Int.emod_lt_of_pos _ h⟩
def sp_l_draw (K : PySem.W.Frag) : Sp := Pr3 K (fun (_ _ m : Int) => 0 < m) drawI
abbrev s_l_draw : Stmt := topS 14
abbrev N_l_draw : List Str := ["_law_cell", "_law_k", "_law_many", "_law_primes"]
theorem sc_l_draw : FnScope N_l_draw ["_law_cell", "_law_k", "_law_many"] (defScope s_l_draw) := ⟨rfl, rfl, rfl, by decide +kernel, rfl, by decide +kernel, by decide +kernel⟩
def t_l_draw (K : PySem.W.Frag) : TS :=
  (tSeq (tAsg (tTup (tCons (tC (.int 1000003)) (tCons (tC (.int 1000033)) (tCons (tC (.int 1000037)) (tCons (tC (.int 1000039)) (tCons (tC (.int 1000081)) (tCons (tC (.int 1000099)) (tCons (tC (.int 1000117)) (tCons (tC (.int 1000121)) (tCons (tC (.int 1000133)) (tCons (tC (.int 1000151)) (tCons (tC (.int 1000159)) (tCons (tC (.int 1000171)) (tCons (tC (.int 1000183)) (tCons (tC (.int 1000187)) (tCons (tC (.int 1000193)) (tCons (tC (.int 1000199)) tNil))))))))))))))))) (gName 3))
    (tRet (tOp rModI (tOp rModI (tOp rAddI (tOp rMulI (tVar 0) (tC (.int 48271))) (tOp rMulI (tVar 1) (tC (.int 69621)))) (tOp (rIxT K) (tVar 3) (tOp rModI (tVar 1) (tC (.int 16))))) (tVar 2))))

theorem prime_at (k : Int) : atI primes (k % 16) = some (primes.getD (k % 16).toNat 0) ∧ 0 < primes.getD (k % 16).toNat 0 := by
  have h0 : 0 ≤ k % 16 := Int.emod_nonneg _ (by decide)
  have h1 : k % 16 < 16 := Int.emod_lt_of_pos _ (by decide)
  have hl : (k % 16).toNat < primes.length := by show (k % 16).toNat < 16; omega
  have all : ∀ j : Fin 16, 0 < primes.getD j.val 0 := by decide
  refine ⟨?_, all ⟨(k % 16).toNat, hl⟩⟩
  rw [List.getD_eq_getElem?_getD, List.getElem?_eq_getElem hl]
  exact atI_ok h0 hl
theorem pure_l_draw (K : PySem.W.Frag) (vs : List V) (H : Hp) (Q : VK) (E : XK) (h : sp_l_draw K vs H Q E) : t_l_draw K { nx := fun _ H' => Q .non H', rt := Q } (start N_l_draw vs) H := by
  obtain ⟨_, _, _, c, k, m, rfl, rfl, rfl, rfl, hm, q⟩ := h
  refine Gx.here (K := K) (q_asg (a := Tpl.mk primes) (er_tpl ?_ (by decide)) fun v H1 e r => g_ret (a := drawI c k m) ?_ fun v H2 e2 => q v H2 (e.trans e2))
  · unfold primes
    repeat (first | exact eal_nil | refine eal_cons er_int ?_)
  · unfold drawI
    walk_at "er"
    · exact (prime_at k).1
    · exact (prime_at k).2
theorem ok_l_draw {f : Addr} {fd : FuncData} (F : Fun K "_law_draw" "_law_draw" s_l_draw f fd) (T : Bi mg) : FnOk P w K mg base CX0 1 f fd ["_law_cell", "_law_k", "_law_many"] (sp_l_draw K) :=
  F.ok sc_l_draw (fun vs H Q E h => by first | exact len_pr1 h | exact len_pr2 h | exact len_pr3 h | exact len_prF1 h | exact len_prF2 h | exact len_l_draw h) (fun cdv A outer s H vs Q E hr h => ⟨t_l_draw K, by exact
    ((pss_cons (ps_set (i := 3) sc_l_draw.nd rfl (.inl rfl) (pe_tup (pa_cons pe_int (pa_cons pe_int (pa_cons pe_int (pa_cons pe_int (pa_cons pe_int (pa_cons pe_int (pa_cons pe_int (pa_cons pe_int (pa_cons pe_int (pa_cons pe_int (pa_cons pe_int (pa_cons pe_int (pa_cons pe_int (pa_cons pe_int (pa_cons pe_int (pa_cons pe_int pa_nil))))))))))))))))))
      (pss_one (ps_ret (pe_op oModI (pe_op oModI (pe_op oAddI (pe_op oMulI (pv 0) pe_int) (pe_op oMulI (pv 1) pe_int)) (pe_ix ix_tup (pv 3) (pe_op oModI (pv 1) pe_int) (fun _ _ => rfl))) (pv 2)))))), pure_l_draw K vs H Q E h⟩)

def sp_l_whole (K : PySem.W.Frag) : Sp := Pr1 K (fun (_ : Int) => True) fun _ => true
abbrev s_l_whole : Stmt := topS 18
abbrev N_l_whole : List Str := ["_law_number"]
theorem sc_l_whole : FnScope N_l_whole ["_law_number"] (defScope s_l_whole) := ⟨rfl, rfl, rfl, by decide +kernel, rfl, by decide +kernel, by decide +kernel⟩
def t_l_whole (K : PySem.W.Frag) : TS :=
  (tRet (tAndV (tCB (rIsi K) (tCons (tVar 0) (tCons (tC (.ty "int")) tNil))) (tNotV (tCB (rIsi K) (tCons (tVar 0) (tCons (tC (.ty "bool")) tNil))))))

theorem pure_l_whole (K : PySem.W.Frag) (vs : List V) (H : Hp) (Q : VK) (E : XK) (h : sp_l_whole K vs H Q E) : t_l_whole K { nx := fun _ H' => Q .non H', rt := Q } (start N_l_whole vs) H := by
  obtain ⟨_, c, rfl, rfl, _, q⟩ := h
  refine Gx.here (K := K) (g_ret (a := (true && !false)) (er_and (er_isi (er_var rfl rfl) (fun _ _ r => ty_int (a := c) r) (by decide +kernel)) fun _ => er_not (er_isi (er_var rfl rfl) (fun _ _ r => ty_int (a := c) r) (by decide +kernel))) q)
theorem ok_l_whole {f : Addr} {fd : FuncData} (F : Fun K "_law_whole" "_law_whole" s_l_whole f fd) (T : Bi mg) : FnOk P w K mg base CX0 1 f fd ["_law_number"] (sp_l_whole K) :=
  F.ok sc_l_whole (fun vs H Q E h => by first | exact len_pr1 h | exact len_pr2 h | exact len_pr3 h | exact len_prF1 h | exact len_prF2 h | exact len_l_whole h) (fun cdv A outer s H vs Q E hr h => ⟨t_l_whole K, by exact
    ((pss_one (ps_ret (pe_and (pe_callB cIsi (by rfl) T.isinstance_ (by decide +kernel) (pa_cons (pv 0) (pa_cons (pe_bltn (v := .ty "int") (by rfl) T.int_ (by decide +kernel) rfl) pa_nil))) (pe_one (pe_not (pe_callB cIsi (by rfl) T.isinstance_ (by decide +kernel) (pa_cons (pv 0) (pa_cons (pe_bltn (v := .ty "bool") (by rfl) T.bool_ (by decide +kernel) rfl) pa_nil))))))))), pure_l_whole K vs H Q E h⟩)


def cntF (w : List Bool) : Int := MC.F w
def sp_l_count (K : PySem.W.Frag) : Sp := Pr1 K (fun z : Str => IsW z ∧ z.length ≤ 1000) fun z => MC.F (unz z)
abbrev s_l_count : Stmt := topS 16
abbrev N_l_count : List Str := ["_law_word_here", "_law_last", "_law_letter", "_law_sums", "_law_many"]
theorem sc_l_count : FnScope N_l_count ["_law_word_here"] (defScope s_l_count) := ⟨rfl, rfl, rfl, by decide +kernel, rfl, by decide +kernel, by decide +kernel⟩
def t_l_count (K : PySem.W.Frag) : TS :=
  (tSeq (tAsg (tLst (tCons (tC (.int 1)) tNil)) (gName 1))
    (tSeq (tFor (iStr (tVar 0)) (gName 2) (tSeq (tAsg (tLst (tCons (tC (.int 0)) tNil)) (gName 3))
    (tSeq (tFor (iList K (tVar 1)) (gName 4) (tDrop (tBM K "list" rAppend (tVar 3) (tCons (tOp rAddI (tOp (rIxL K) (tVar 3) (tUn rNegI (tC (.int 1)))) (tVar 4)) tNil))))
    (tAsg (tIf (tTest (tOp rEqT (tVar 2) (tC (.str ("u" : Str))))) (tVar 3) (tLc (iList K (tVar 3)) (gName 4) tYes (tOp rSubI (tOp (rIxL K) (tVar 3) (tUn rNegI (tC (.int 1)))) (tVar 4)) [4])) (gName 1)))))
    (tRet (tCB (rSum K) (tCons (tVar 1) tNil)))))

theorem pure_l_count (K : PySem.W.Frag) (vs : List V) (H : Hp) (Q : VK) (E : XK) (h : sp_l_count K vs H Q E) : t_l_count K { nx := fun _ H' => Q .non H', rt := Q } (start N_l_count vs) H := by
  obtain ⟨_, z, rfl, rfl, ⟨hw, hl⟩, q⟩ := h
  refine Gx.here (K := K) (q_asgF (as := [1]) (erf_lst (eal_cons er_int eal_nil) (by decide)) fun pl H1 hpl e1 o1 => ?_)
  refine q_forS (x := tx (unz z)) ((er_var rfl rfl).to (tx_unz hw).symm) (fun i σ H' => ∃ (pl : Addr) (x2 x3 x4 : Option V), σ = [some (.str z), some (.ref pl), x2, x3, x4] ∧ Ex H H' ∧ LstR K H' pl (MC.run ((unz z).take i) [1])) (fun H2 e2 => ⟨pl, none, none, none, rfl, e1.trans e2, (o1.up e2).lst⟩) ?_ ?_
  · rintro i c σ' H' hc ⟨pl, x2, x3, x4, rfl, eB, hL⟩
    have hc' : (unz z)[i]? = some (c == 117) ∧ c = sg (c == 117) := by
      have h1 : (tx (unz z)).cps.toList[i]? = some c := by rw [Array.getElem?_toList]; exact hc
      rw [tx_list, List.getElem?_map] at h1
      cases hq : (unz z)[i]? with
      | none => rw [hq] at h1; simp at h1
      | some b =>
        rw [hq] at h1
        have : sg b = c := by simpa using h1
        subst this
        cases b <;> exact ⟨rfl, rfl⟩
    obtain ⟨hb, hcs⟩ := hc'
    obtain ⟨b, hbd⟩ : ∃ b, (c == 117) = b := ⟨_, rfl⟩
    rw [hbd] at hb hcs
    subst hcs
    have hi : i < (unz z).length := (List.getElem?_eq_some_iff.mp hb).1
    obtain ⟨l, el⟩ : ∃ l, MC.run ((unz z).take i) [1] = l := ⟨_, rfl⟩
    have hll : l.length ≤ 1001 := by
      rw [← el, MC.run_len, List.length_take]
      rw [unz_len] at hi
      show 1 + _ ≤ 1001
      omega
    have enext : MC.run ((unz z).take (i + 1)) [1] = MC.step b l := by
      rw [take_succ_some hb, MC.run_append, el]; rfl
    rw [el] at hL
    refine q_asgF (as := [0]) (erf_lst (eal_cons er_int eal_nil) (by decide)) fun ps H1 hps e1 o1 => ?_
    refine q_forL (i0 := 1) (B := H') (as := l) (v0 := .ref pl) (fun j σ2 H2 => ∃ x4, σ2 = [some (.str z), some (.ref pl), some (.str (sgn (sg b))), some (.ref ps), x4] ∧ Ex H' H2 ∧ Own K H2 ps (presTo l j)) rfl ⟨pl, rfl, hL⟩ e1
      (fun H2 e2 => ⟨x4, rfl, e1.trans e2, o1.up e2⟩) (fun j σ2 H2 ⟨_, _, h, _⟩ => h) ?_ ?_
    · rintro j a v σ2 H2 ha rfl ⟨x4, rfl, e2, o2⟩
      refine g_app (a := (l.take j).sum + a) o2 rfl ?_ ?_ fun H3 eb o3 => fun H4 e4 => ⟨_, rfl, (eb.ex e2 hps).trans e4, ?_⟩
      · exact er_add (er_ixL (er_var rfl o2.rep) (er_neg er_int) (atI_neg1 (presTo_last _ _))) (er_var rfl rfl)
      · have : j < l.length := (List.getElem?_eq_some_iff.mp ha).1
        unfold presTo
        rw [List.length_map, List.length_range]
        omega
      · rw [presTo_succ ha]
        exact o3.up e4
    · rintro σ2 H2 ⟨x4, rfl, e2, o2⟩
      rw [presTo_all] at o2
      refine (g_asg (a := MC.step b l) ((er_if (b := b) (x := MC.pres l) (y := MC.sufs l) (et_e ?_) (fun _ => er_var rfl o2.rep) fun _ => ?_).to ?_) fun v H3 e3 r => fun H4 e4 => ?_)
      · have q := er_eqt (K := K) (σ := [some (.str z), some (.ref pl), some (.str (sgn (sg b))), some (.ref ps), x4]) (H := H2) (i := tx [b]) (j := tx [true]) (ta := tVar 2) (tb := tC (.str "u")) (er_var rfl rfl) (er_lit tx_u)
        refine q.to ?_
        rw [tx_beq]
        cases b <;> rfl
      · refine (ErF.er (erf_lc (er_var rfl o2.rep) (by rw [MC.pres_len]; omega) (fun _ => rfl) fun i a v H3 e3 _ r => es_flat (er_sub (er_ixL (er_var rfl (o2.up e3).rep) (er_neg er_int) (atI_neg1 (pres_last _))) (er_var rfl r)))).to ?_
        rw [MC.sufs_eq]
      · cases b <;> rfl
      · obtain ⟨pn, rfl, hr⟩ := r
        refine ⟨pn, _, _, _, rfl, ((eB.trans e2).trans e3).trans e4, ?_⟩
        rw [enext]
        exact hr.up e4
  · rintro σ' H' ⟨pl, x2, x3, x4, rfl, eB, hL⟩
    have hu : (unz z).take (tx (unz z)).cps.size = unz z := by
      rw [List.take_of_length_le]
      show _ ≤ (tx (unz z)).length
      rw [tx_len]; exact Nat.le_refl _
    rw [hu] at hL
    exact g_ret (a := MC.F (unz z)) (er_sum (er_var rfl ⟨pl, rfl, hL⟩)) fun u H1 e r => q u H1 (eB.trans e) r
theorem ok_l_count {f : Addr} {fd : FuncData} (F : Fun K "_law_count" "_law_count" s_l_count f fd) (T : Bi mg) : FnOk P w K mg base CX0 1 f fd ["_law_word_here"] (sp_l_count K) :=
  F.ok sc_l_count (fun vs H Q E h => by first | exact len_pr1 h | exact len_pr2 h | exact len_pr3 h | exact len_prF1 h | exact len_prF2 h | exact len_l_count h) (fun cdv A outer s H vs Q E hr h => ⟨t_l_count K, by exact
    ((pss_cons (ps_set (i := 1) sc_l_count.nd rfl (.inl rfl) (pe_lst (pa_cons pe_int pa_nil)))
      (pss_cons (ps_for PassesOwn.never rfl (pi_str (pv 0)) (pg_name (i := 2) sc_l_count.nd rfl (.inl rfl))
      (pss_cons (ps_set (i := 3) sc_l_count.nd rfl (.inr rfl) (pe_lst (pa_cons pe_int pa_nil)))
      (pss_cons (ps_for PassesOwn.never rfl (pi_list (pv 1)) (pg_name (i := 4) sc_l_count.nd rfl (.inl rfl))
      (pss_one (ps_expr (pe_bm PySem.F.plainAttrs_list PySem.F.slot_list_append PySem.F.type_list_append mt_append (pv 3) (pa_cons (pe_op oAddI (pe_ix ix_list (pv 3) (pe_un oNegI pe_int) (fun _ _ => rfl)) (pv 4)) pa_nil)))))
      (pss_one (ps_set (i := 1) sc_l_count.nd rfl (.inl rfl) (pe_ifExp (pt_cmpR oEqT (pv 2) pe_str (nomark _)) (pv 3) (pe_lc (own := [("_law_many", 4)]) (g := (gName 4)) (tt := tYes) rfl sc_l_count.nd (pi_list (pv 3)) (blkOk_by (own := [("_law_many", 4)]) (N := N_l_count) (sc := defScope s_l_count) (by decide +kernel)) (fun _ _ _ _ _ => (pg_name (i := 4) sc_l_count.nd rfl (.inl rfl))) (fun _ _ _ _ _ => pts_nil) (fun _ _ _ _ _ => (pe_op oSubI (pe_ix ix_list (pv 3) (pe_un oNegI pe_int) (fun _ _ => rfl)) (pv 4))))))))))
      (pss_one (ps_ret (pe_callB (cSum rfl) (by rfl) T.sum_ (by decide +kernel) (pa_cons (pv 1) pa_nil))))))), pure_l_count K vs H Q E h⟩)


def sp_l_by (K : PySem.W.Frag) : Sp := Pr1 K (fun row : List Int => row.length ≤ 1000) fun row => tx (rf row (row.length - 1))
abbrev s_l_by : Stmt := topS 20
abbrev N_l_by : List Str := ["_law_row", "_law_k"]
theorem sc_l_by : FnScope N_l_by ["_law_row"] (defScope s_l_by) := ⟨rfl, rfl, rfl, by decide +kernel, rfl, by decide +kernel, by decide +kernel⟩
def t_l_by (K : PySem.W.Frag) : TS :=
  (tRet (tM1 (rJoin K) (tC (.str ("" : Str))) (tLc (iRng1 (tCons (tOp rSubI (tCB (rLenL K) (tCons (tVar 0) tNil)) (tC (.int 1))) tNil)) (gName 1) tYes (tIf (tTest (tOp rLtI (tOp (rIxL K) (tVar 0) (tVar 1)) (tOp (rIxL K) (tVar 0) (tOp rAddI (tVar 1) (tC (.int 1)))))) (tC (.str ("u" : Str))) (tC (.str ("d" : Str)))) [1])))

theorem flat_one {α β : Type} (l : List α) (f : α → β) : (l.map fun i => [f i]).flatten = l.map f := by
  induction l with
  | nil => rfl
  | cons x r ih => simp [ih]
theorem tx_map {α : Type} (l : List α) (f : α → Bool) : catS (l.map fun i => tx [f i]) = tx (l.map f) := by
  have h := tx_cat (l.map fun i => [f i])
  rw [List.map_map] at h
  rw [flat_one] at h
  exact h
theorem pure_l_by (K : PySem.W.Frag) (vs : List V) (H : Hp) (Q : VK) (E : XK) (h : sp_l_by K vs H Q E) : t_l_by K { nx := fun _ H' => Q .non H', rt := Q } (start N_l_by vs) H := by
  obtain ⟨v, row, rfl, r, hl, q⟩ := h
  refine Gx.here (K := K) (g_ret (a := tx (rf row (row.length - 1))) ?_ q)
  refine (er_join (ys := (List.range (row.length - 1)).map fun i => tx [decide (row.getD i 0 < row.getD (i + 1) 0)]) (by decide +kernel) (ErF.er (erf_lcR (lo := 0) (n := row.length - 1) ?_ (by omega) (fun _ => rfl) fun i H1 e hi => es_flat ?_)) ?_).to ?_
  · exact (rng1 (er_sub (er_lenL (er_var rfl r)) er_int) (by omega) (by omega)).to (by omega)
  · have r' := up r e
    refine (er_if (b := decide (row.getD i 0 < row.getD (i + 1) 0)) (x := tx [true]) (y := tx [false]) (et_e ?_) (fun _ => er_lit tx_u) fun _ => er_lit tx_d).to ?_
    · exact er_lt (er_ixL (er_var rfl r') (er_var rfl rfl) (at_getD (by omega) (by omega))) (er_ixL (er_var rfl r') (er_add (er_var rfl rfl) er_int) (at_getD (by omega) (by omega)))
    · cases decide (row.getD i 0 < row.getD (i + 1) 0) <;> rfl
  · rw [List.map_map]
    have e : ((fun x : Str => x.length) ∘ fun i => tx [decide (row.getD i 0 < row.getD (i + 1) 0)]) = fun _ : Nat => 1 := by
      funext i
      show (tx _).length = 1
      rw [tx_len]; rfl
    rw [e]
    have e2 : ∀ l : List Nat, (l.map fun _ => 1).sum = l.length := by
      intro l
      induction l with
      | nil => rfl
      | cons x r ih => simp only [List.map_cons, List.sum_cons, ih, List.length_cons]; omega
    rw [e2, List.length_range]
    omega
  · exact tx_map _ _
theorem ok_l_by {f : Addr} {fd : FuncData} (F : Fun K "_law_by" "_law_by" s_l_by f fd) (T : Bi mg) : FnOk P w K mg base CX0 1 f fd ["_law_row"] (sp_l_by K) :=
  F.ok sc_l_by (fun vs H Q E h => by first | exact len_pr1 h | exact len_pr2 h | exact len_pr3 h | exact len_prF1 h | exact len_prF2 h | exact len_l_by h) (fun cdv A outer s H vs Q E hr h => ⟨t_l_by K, by exact
    ((pss_one (ps_ret (pe_join' pe_str (pe_lc (own := [("_law_k", 1)]) (g := (gName 1)) (tt := tYes) rfl sc_l_by.nd (pi_range1 (by rfl) T.range_ (pa_cons (pe_op oSubI (pe_callB cLenL (by rfl) T.len_ (by decide +kernel) (pa_cons (pv 0) pa_nil)) pe_int) pa_nil)) (blkOk_by (own := [("_law_k", 1)]) (N := N_l_by) (sc := defScope s_l_by) (by decide +kernel)) (fun _ _ _ _ _ => (pg_name (i := 1) sc_l_by.nd rfl (.inl rfl))) (fun _ _ _ _ _ => pts_nil) (fun _ _ _ _ _ => (pe_ifExp (pt_cmpR oLtI (pe_ix ix_list (pv 0) (pv 1) (fun _ _ => rfl)) (pe_ix ix_list (pv 0) (pe_op oAddI (pv 1) pe_int) (fun _ _ => rfl)) (nomark _)) pe_str pe_str))))))), pure_l_by K vs H Q E h⟩)


def insAt (o : List Int) (a : Int) (k : Nat) : List Int := o.take k ++ [a] ++ o.drop k
def insAll (n : Nat) (o : List Int) : List (List Int) := (List.range (n + 1)).map (insAt o (n : Int))
def ordersL : Nat → List (List Int)
  | 0 => [[]]
  | n + 1 => (ordersL n).flatMap (insAll n)
def sp_l_orders (K : PySem.W.Frag) : Sp := Pr1 K (fun n : Int => 0 ≤ n ∧ n ≤ 5) fun n => ordersL n.toNat
abbrev s_l_orders : Stmt := topS 19
abbrev N_l_orders : List Str := ["_law_many", "_law_found", "_law_at", "_law_more", "_law_order", "_law_k"]
theorem sc_l_orders : FnScope N_l_orders ["_law_many"] (defScope s_l_orders) := ⟨rfl, rfl, rfl, by decide +kernel, rfl, by decide +kernel, by decide +kernel⟩
def t_l_orders (K : PySem.W.Frag) : TS :=
  (tSeq (tAsg (tLst (tCons (tLst tNil) tNil)) (gName 1))
    (tSeq (tFor (iRng1 (tCons (tVar 0) tNil)) (gName 2) (tSeq (tAsg (tLst tNil) (gName 3))
    (tSeq (tFor (iList K (tVar 1)) (gName 4) (tAsg (tOp rCat (tVar 3) (tLc (iRng1 (tCons (tOp rAddI (tVar 2) (tC (.int 1))) tNil)) (gName 5) tYes (tOp rCat (tOp rCat (tSl (rSlL K) (tVar 4) tNoPart (tPart (tVar 5))) (tLst (tCons (tVar 2) tNil))) (tSl (rSlL K) (tVar 4) (tPart (tVar 5)) tNoPart)) [5])) (gName 3)))
    (tAsg (tVar 3) (gName 1)))))
    (tRet (tVar 1))))

theorem cutL_take {α : Type} (as : List α) (k : Nat) : cutL as none (some (k : Int)) = as.take k := by
  unfold cutL
  rw [HT.sIx_none, HT.sIx_nat, List.drop_zero, Nat.sub_zero]
  rcases Nat.le_total k as.length with h | h
  · rw [Nat.min_eq_left h]
  · rw [Nat.min_eq_right h, List.take_of_length_le h, List.take_of_length_le (Nat.le_refl _)]
theorem cutL_drop {α : Type} (as : List α) (k : Nat) : cutL as (some (k : Int)) none = as.drop k := by
  unfold cutL
  rw [HT.sIx_none, HT.sIx_nat]
  rcases Nat.le_total k as.length with h | h
  · rw [Nat.min_eq_left h, List.take_of_length_le (by rw [List.length_drop]; exact Nat.le_refl _)]
  · rw [Nat.min_eq_right h, List.drop_of_length_le h, List.drop_of_length_le (Nat.le_refl _), List.take_nil]
theorem flat_take {α β : Type} (l : List α) (f : α → List β) {i : Nat} {a : α} (h : l[i]? = some a) : (l.take (i + 1)).flatMap f = (l.take i).flatMap f ++ f a := by
  rw [take_succ_some h, List.flatMap_append]
  simp
theorem flat_len {α β : Type} (f : α → List β) (c : Nat) (hf : ∀ a, (f a).length = c) : ∀ l : List α, (l.flatMap f).length = l.length * c
  | [] => by simp
  | a :: l => by rw [List.flatMap_cons, List.length_append, hf, flat_len f c hf l, List.length_cons, Nat.add_mul]; omega
theorem insAll_len (n : Nat) (o : List Int) : (insAll n o).length = n + 1 := by simp [insAll]
theorem orders_small : ∀ n, n ≤ 5 → (ordersL n).length ≤ 120
  | 0, _ => by decide
  | 1, _ => by decide
  | 2, _ => by decide
  | 3, _ => by decide
  | 4, _ => by decide +kernel
  | 5, _ => by decide +kernel
  | n + 6, h => by omega
theorem orders_item : ∀ n o, o ∈ ordersL n → o.length = n
  | 0, o, h => by
    have : o = [] := by simpa [ordersL] using h
    rw [this]; rfl
  | n + 1, o, h => by
    rw [ordersL, List.mem_flatMap] at h
    obtain ⟨o', h1, h2⟩ := h
    obtain ⟨k, hk, rfl⟩ := List.mem_map.mp h2
    have := orders_item n o' h1
    have := List.mem_range.mp hk
    simp [insAt]
    omega
theorem pure_l_orders (K : PySem.W.Frag) (vs : List V) (H : Hp) (Q : VK) (E : XK) (h : sp_l_orders K vs H Q E) : t_l_orders K { nx := fun _ H' => Q .non H', rt := Q } (start N_l_orders vs) H := by
  obtain ⟨_, n, rfl, rfl, ⟨h0, h5⟩, q⟩ := h
  refine Gx.here (K := K) (q_asg (a := ordersL 0) (ErF.er (erf_lst (eal_cons (ErF.er (erf_lst eal_nil (by decide))) eal_nil) (by decide))) fun vf H1 e1 rf1 => ?_)
  refine q_forR (lo := 0) (n := n.toNat) (rng1 (er_var rfl rfl) (by omega) (by omega)) (fun i σ H' => ∃ (vf : V) (x2 x3 x4 x5 : Option V), σ = [some (.int n), some vf, x2, x3, x4, x5] ∧ Ex H H' ∧ Rep.rep K H' vf (ordersL i)) (fun H2 e2 => ⟨vf, none, none, none, none, rfl, e1.trans e2, up rf1 e2⟩) ?_ ?_
  · rintro i σ H' hi ⟨vf, x2, x3, x4, x5, rfl, eB, hf⟩
    have hlen := orders_small i (by omega)
    refine q_asgF (as := ([] : List (List Int))) (erf_lst eal_nil (by decide)) fun pm H1 hpm e1 om => ?_
    refine q_forL (B := H') (as := ordersL i) (v0 := vf) (fun j σ2 H2 => ∃ (pm : Addr) (x4 : Option V), σ2 = [some (.int n), some vf, some (.int (0 + (i : Nat))), some (.ref pm), x4, x5] ∧ Ex H' H2 ∧ Own K H2 pm (((ordersL i).take j).flatMap (insAll i))) rfl hf e1 (fun H2 e2 => ⟨pm, x4, rfl, e1.trans e2, by rw [List.take_zero]; exact om.up e2⟩) (fun j σ2 H2 ⟨_, _, _, h, _⟩ => h) ?_ ?_
    · rintro j o v σ2 H2 ho ro ⟨pm, x4, rfl, e2, om⟩
      have hil : o.length = i := orders_item i o (List.mem_of_getElem? ho)
      refine g_asgF (as := ((ordersL i).take j).flatMap (insAll i) ++ insAll i o) (erf_catL (ev_var rfl) om ?_ ?_) fun pm2 H3 hp3 e3 o3 => fun H4 e4 => ⟨pm2, some v, rfl, (e2.trans e3).trans e4, ?_⟩
      · unfold insAll
        refine erf_lcR (lo := 0) (n := i + 1) ?_ (by omega) (fun _ => rfl) fun k H3 e3 hk => es_lst ?_
        · exact (rng1 (er_add (er_var rfl rfl) er_int) (by omega) (by omega)).to (by omega)
        · have ro' := up ro (e2.trans e3)
          have ek : V.int (0 + (k : Int)) = V.int (k : Int) := int_eq (by omega)
          have a1 := erf_sl (K := K) (te := tVar 4) (σ := [some (.int n), some vf, some (.int (0 + (i : Nat))), some (.ref pm), some v, some (.int (0 + (k : Nat)))]) (H := H3) (as := o) (tl := tNoPart) (th := tPart (tVar 5)) (er_var rfl ro') eo_no (eo_at (er_varI rfl ek))
          have a2 := erf_sl (K := K) (te := tVar 4) (σ := [some (.int n), some vf, some (.int (0 + (i : Nat))), some (.ref pm), some v, some (.int (0 + (k : Nat)))]) (H := H3) (as := o) (tl := tPart (tVar 5)) (th := tNoPart) (er_var rfl ro') (eo_at (er_varI rfl ek)) eo_no
          rw [cutL_take] at a1
          rw [cutL_drop] at a2
          refine erf_cat (erf_cat a1 (erf_lst (eal_cons (er_varI rfl (int_eq (by omega))) eal_nil) (Nat.le_of_ble_eq_true rfl)) ?_) a2 ?_
          · rw [List.length_take, List.length_singleton]; omega
          · rw [List.length_append, List.length_take, List.length_drop, List.length_singleton]; omega
      · rw [flat_len _ _ (insAll_len i), insAll_len, List.length_take]
        have : min j (ordersL i).length * (i + 1) ≤ 120 * 6 := Nat.mul_le_mul (by omega) (by omega)
        omega
      · rw [flat_take _ _ ho]
        exact o3.up e4
    · rintro σ2 H2 ⟨pm, x4, rfl, e2, om⟩
      rw [List.take_length] at om
      exact g_mov rfl fun H3 e3 => ⟨.ref pm, _, _, _, _, rfl, (eB.trans e2).trans e3, (om.up e3).rep⟩
  · rintro σ H' ⟨vf, x2, x3, x4, x5, rfl, eB, hf⟩
    exact g_ret (a := ordersL n.toNat) (er_var rfl hf) fun u H1 e r => q u H1 (eB.trans e) r
theorem ok_l_orders {f : Addr} {fd : FuncData} (F : Fun K "_law_orders" "_law_orders" s_l_orders f fd) (T : Bi mg) : FnOk P w K mg base CX0 1 f fd ["_law_many"] (sp_l_orders K) :=
  F.ok sc_l_orders (fun vs H Q E h => by first | exact len_pr1 h | exact len_pr2 h | exact len_pr3 h | exact len_prF1 h | exact len_prF2 h | exact len_l_orders h) (fun cdv A outer s H vs Q E hr h => ⟨t_l_orders K, by exact
    ((pss_cons (ps_set (i := 1) sc_l_orders.nd rfl (.inl rfl) (pe_lst (pa_cons (pe_lst pa_nil) pa_nil)))
      (pss_cons (ps_for PassesOwn.never rfl (pi_range1 (by rfl) T.range_ (pa_cons (pv 0) pa_nil)) (pg_name (i := 2) sc_l_orders.nd rfl (.inr rfl))
      (pss_cons (ps_set (i := 3) sc_l_orders.nd rfl (.inl rfl) (pe_lst pa_nil))
      (pss_cons (ps_for PassesOwn.never rfl (pi_list (pv 1)) (pg_name (i := 4) sc_l_orders.nd rfl (.inr rfl))
      (pss_one (ps_set (i := 3) sc_l_orders.nd rfl (.inl rfl) (pe_op op_cat (pv 3) (pe_lc (own := [("_law_k", 5)]) (g := (gName 5)) (tt := tYes) rfl sc_l_orders.nd (pi_range1 (by rfl) T.range_ (pa_cons (pe_op oAddI (pv 2) pe_int) pa_nil)) (blkOk_by (own := [("_law_k", 5)]) (N := N_l_orders) (sc := defScope s_l_orders) (by decide +kernel)) (fun _ _ _ _ _ => (pg_name (i := 5) sc_l_orders.nd rfl (.inl rfl))) (fun _ _ _ _ _ => pts_nil) (fun _ _ _ _ _ => (pe_op op_cat (pe_op op_cat (pe_slice sl_list (pv 4) po_none (po_some (pv 5))) (pe_lst (pa_cons (pv 2) pa_nil))) (pe_slice sl_list (pv 4) (po_some (pv 5)) po_none))))))))
      (pss_one (ps_set (i := 1) sc_l_orders.nd rfl (.inl rfl) (pv 3))))))
      (pss_one (ps_ret (pv 1)))))), pure_l_orders K vs H Q E h⟩)


/-! ### the law's word: some word of at most 64 letters -/
def sp_l_word (K : PySem.W.Frag) : Sp := fun vs H Q _ => ∃ v s, vs = [v] ∧ Rep.rep K H v (s : List Int) ∧ s.length ≤ 63 ∧ ∀ (w : List Bool) H', w.length ≤ 64 → Ex H H' → Q (.str (tx w)) H'
theorem len_l_word {vs : List V} {H : Hp} {Q : VK} {E : XK} (h : sp_l_word K vs H Q E) : vs.length = 1 := by obtain ⟨_, _, rfl, _⟩ := h; rfl
abbrev s_l_word : Stmt := topS 15
abbrev N_l_word : List Str := ["_law_script", "_law_kind", "_law_word_here", "_law_k", "_law_left", "_law_cell"]
theorem sc_l_word : FnScope N_l_word ["_law_script"] (defScope s_l_word) := ⟨rfl, rfl, rfl, by decide +kernel, rfl, by decide +kernel, by decide +kernel⟩
def t_l_word (K : PySem.W.Frag) : TS :=
  (tSeq (tAsg (tSl (rSlL K) (tVar 0) tNoPart (tPart (tC (.int 63)))) (gName 0))
    (tSeq (tAsg (tCall (sp_l_draw K) [] E0 (tCons (tCall (sp_l_cell_at K) [] E0 (tCons (tVar 0) (tCons (tC (.int 0)) tNil))) (tCons (tC (.int 6)) (tCons (tC (.int 5)) tNil)))) (gName 1))
    (tSeq (tAsg (tM1 (rJoin K) (tC (.str ("" : Str))) (tLc (iList K (tVar 0)) (gName 5) tYes (tOp rIxS (tC (.str ("ud" : Str))) (tOp rModI (tVar 5) (tC (.int 2)))) [5])) (gName 2))
    (tCut (tIfS (tTest (tOp rEqI (tVar 1) (tC (.int 1)))) (tAsg (tM1 (rJoin K) (tC (.str ("" : Str))) (tLc (iEnum K (tCons (tVar 0) tNil)) (gTup K 2 (gCons (gName 3) (gCons (gName 5) gNil))) tYes (tIf (tTest (tOp rGtI (tOp rModI (tVar 5) (tC (.int 7))) (tC (.int 0)))) (tOp rIxS (tC (.str ("ud" : Str))) (tOp rModI (tVar 3) (tC (.int 2)))) (tOp rIxS (tC (.str ("du" : Str))) (tOp rModI (tVar 3) (tC (.int 2))))) [3, 5])) (gName 2)) tNext)
    (tCut (tIfS (tTest (tOp rEqI (tVar 1) (tC (.int 2)))) (tAsg (tSl rSlS (tM1 (rJoin K) (tC (.str ("" : Str))) (tLc (iList K (tVar 0)) (gName 5) tYes (tOp rMulT (tOp rIxS (tC (.str ("ud" : Str))) (tOp rModI (tOp rDivI (tVar 5) (tC (.int 2))) (tC (.int 2)))) (tOp rAddI (tC (.int 1)) (tOp rModI (tOp rDivI (tVar 5) (tC (.int 4))) (tC (.int 3))))) [5])) tNoPart (tPart (tC (.int 64)))) (gName 2)) tNext)
    (tCut (tIfS (tAnd (tTest (tOp rEqI (tVar 1) (tC (.int 3)))) (tTest (tOp (rNeD K) (tVar 0) (tLst tNil)))) (tSeq (tAsg (tOp rDivI (tOp (rIxL K) (tVar 0) (tUn rNegI (tC (.int 1)))) (tC (.int 3))) (gName 4))
    (tSeq (tFor (iRng1 (tCons (tCall (sp_l_draw K) [] E0 (tCons (tOp (rIxL K) (tVar 0) (tUn rNegI (tC (.int 1)))) (tCons (tC (.int 8)) (tCons (tC (.int 60)) tNil)))) tNil)) (gName 3) (tSeq (tAsg (tOp rAddT (tVar 2) (tOp rIxS (tC (.str ("ud" : Str))) (tOp rModI (tVar 4) (tC (.int 2))))) (gName 2))
    (tAsg (tOp rDivI (tVar 4) (tC (.int 2))) (gName 4))))
    (tAsg (tSl rSlS (tVar 2) tNoPart (tPart (tC (.int 64)))) (gName 2)))) tNext)
    (tRet (tVar 2))))))))

theorem ud_at (c : Int) : atI [true, false] (c % 2) = some (decide (c % 2 = 0)) := by
  have h0 : 0 ≤ c % 2 := Int.emod_nonneg _ (by decide)
  have h1 : c % 2 < 2 := Int.emod_lt_of_pos _ (by decide)
  rcases (by omega : c % 2 = 0 ∨ c % 2 = 1) with e | e <;> (rw [e]; rfl)
theorem du_at (c : Int) : atI [false, true] (c % 2) = some (!decide (c % 2 = 0)) := by
  have h0 : 0 ≤ c % 2 := Int.emod_nonneg _ (by decide)
  have h1 : c % 2 < 2 := Int.emod_lt_of_pos _ (by decide)
  rcases (by omega : c % 2 = 0 ∨ c % 2 = 1) with e | e <;> (rw [e]; rfl)
theorem er_ud {K : PySem.W.Frag} {σ : L2.St} {H : Hp} {tb : TE} {c : Int} (h : Er K tb σ H c) : Er K (tOp rIxS (tC (.str "ud")) (tOp rModI tb (tC (.int 2)))) σ H (tx [decide (c % 2 = 0)]) :=
  er_ixW (er_lit tx_ud) (er_mod h er_int (by decide)) (by decide) (ud_at c)
theorem er_du {K : PySem.W.Frag} {σ : L2.St} {H : Hp} {tb : TE} {c : Int} (h : Er K tb σ H c) : Er K (tOp rIxS (tC (.str "du")) (tOp rModI tb (tC (.int 2)))) σ H (tx [!decide (c % 2 = 0)]) :=
  er_ixW (er_lit tx_du) (er_mod h er_int (by decide)) (by decide) (du_at c)
theorem sum_le {α : Type} (f : α → Nat) (c : Nat) : ∀ l : List α, (∀ a ∈ l, f a ≤ c) → (l.map f).sum ≤ l.length * c
  | [], _ => by simp
  | a :: l, h => by
    have h1 := sum_le f c l fun b hb => h b (by simp [hb])
    have h2 := h a (by simp)
    rw [List.map_cons, List.sum_cons, List.length_cons, Nat.add_mul]
    omega
/-- a word stands in slot 2 -/
def MidW (K : PySem.W.Frag) (B : Hp) (s : List Int) (k : Int) (n : Nat) (σ : L2.St) (H : Hp) : Prop := ∃ (v : V) (w : List Bool) (x3 x4 x5 : Option V), σ = [some v, some (.int k), some (.str (tx w)), x3, x4, x5] ∧ Ex B H ∧ Rep.rep K H v s ∧ w.length ≤ n
theorem catW_len {α : Type} {l : List α} {f : α → Str} {n : Nat} (h : (l.map fun a => (f a).length).sum ≤ n) : ((l.map f).map (·.length)).sum ≤ n := by
  rw [List.map_map]; exact h
theorem cat_words {α : Type} (l : List α) (f : α → List Bool) : catS (l.map fun a => tx (f a)) = tx (l.flatMap f) := by
  have h := tx_cat (l.map f)
  rw [List.map_map] at h
  rw [List.flatMap_def]
  exact h
theorem flat_le {α β : Type} (f : α → List β) (c : Nat) (hf : ∀ a, (f a).length ≤ c) : ∀ l : List α, (l.flatMap f).length ≤ l.length * c
  | [] => by simp
  | a :: l => by
    have h1 := flat_le f c hf l
    have h2 := hf a
    rw [List.flatMap_cons, List.length_append, List.length_cons, Nat.add_mul]
    omega
theorem pure_l_word (K : PySem.W.Frag) (vs : List V) (H : Hp) (Q : VK) (E : XK) (h : sp_l_word K vs H Q E) : t_l_word K { nx := fun _ H' => Q .non H', rt := Q } (start N_l_word vs) H := by
  obtain ⟨v0, s0, rfl, r0, hl0, q⟩ := h
  -- the first sixty-three
  refine Gx.here (K := K) (q_asg (a := s0.take 63) ((ErF.er (erf_sl (er_var rfl r0) eo_no (eo_at er_int))).to (cutL_take s0 63)) fun v H1 e1 r => ?_)
  obtain ⟨s, es⟩ : ∃ s, s0.take 63 = s := ⟨_, rfl⟩
  have hl : s.length ≤ 63 := by rw [← es, List.length_take]; omega
  rw [es] at r
  refine q_asgI (a := drawI (cellAt s 0) 6 5) (er_call3 (er_call2 (a := s) (b := (0 : Int)) (er_var rfl r) er_int (by decide)) er_int er_int (by decide)) ?_
  generalize drawI (cellAt s 0) 6 5 = k
  -- any letters
  refine q_asgT (a := tx (s.map fun c => decide (c % 2 = 0))) ((er_join (ys := s.map fun c => tx [decide (c % 2 = 0)]) (by decide +kernel) (ErF.er (erf_lc (er_var rfl r) (by omega) (fun _ => rfl) fun i a v H2 _ _ ra => es_flat (er_ud (er_var rfl ra)))) (catW_len ?_)).to (tx_map _ _)) ?_
  · refine Nat.le_trans (sum_le _ 1 s fun a _ => ?_) (by omega)
    rw [tx_len]; exact Nat.le_refl _
  -- by turns but for some
  refine g_cut (MidW K H1 s k 63) (g_if (b := (k == 1)) (et_e (er_eqi (er_var rfl rfl) er_int)) (fun _ => ?_) fun _ => g_next fun H2 e2 => ⟨v, _, none, none, none, rfl, e2, up r e2, by rw [List.length_map]; exact hl⟩) ?_
  · refine g_asgT (a := catS ((s.zipIdx.filter fun _ => true).map fun c => tx [if decide (c.1 % 7 > 0) then decide ((c.2 : Int) % 2 = 0) else !decide ((c.2 : Int) % 2 = 0)])) (er_join (ys := (s.zipIdx.filter fun _ => true).map fun c => tx [if decide (c.1 % 7 > 0) then decide ((c.2 : Int) % 2 = 0) else !decide ((c.2 : Int) % 2 = 0)]) (by decide +kernel)
      (ErF.er (erf_lcE (p := fun _ _ => true) (f := fun i c => tx [if decide (c % 7 > 0) then decide ((i : Int) % 2 = 0) else !decide ((i : Int) % 2 = 0)]) (er_var rfl r) (by omega) (fun _ _ => rfl) (fun _ _ _ _ _ _ _ => et_yes) fun i a v H2 _ _ ra _ => es_flat ?_)) (catW_len ?_)) fun H2 e2 => ⟨v, (s.zipIdx.filter fun _ => true).map fun c => if decide (c.1 % 7 > 0) then decide ((c.2 : Int) % 2 = 0) else !decide ((c.2 : Int) % 2 = 0), none, none, none, ?_, e2, up r e2, ?_⟩
    · refine (er_if (b := decide (a % 7 > 0)) (x := tx [decide ((i : Int) % 2 = 0)]) (y := tx [!decide ((i : Int) % 2 = 0)]) (et_e (er_gt (er_mod (er_var rfl ra) er_int (by decide)) er_int)) (fun _ => er_ud (er_var rfl rfl)) fun _ => er_du (er_var rfl rfl)).to ?_
      cases decide (a % 7 > 0) <;> rfl
    · refine Nat.le_trans (sum_le _ 1 _ fun a _ => ?_) ?_
      · rw [tx_len]; exact Nat.le_refl _
      · rw [filter_yes, List.length_zipIdx]; omega
    · rw [tx_map]; rfl
    · rw [filter_yes, List.length_map, List.length_zipIdx]; exact hl
  · rintro σ H2 ⟨v, w, x3, x4, x5, rfl, e2, r, hw⟩
    -- long runs
    refine g_cut (MidW K H1 s k 64) (g_if (b := (k == 2)) (et_e (er_eqi (er_var rfl rfl) er_int)) (fun _ => ?_) fun _ => g_next fun H3 e3 => ⟨v, w, x3, x4, x5, rfl, e2.trans e3, up r e3, by omega⟩) ?_
    · have hrun : ∀ c : Int, 0 ≤ 1 + c / 4 % 3 ∧ 1 + c / 4 % 3 ≤ 3 := fun c => by
        have := Int.emod_nonneg (c / 4) (show (3 : Int) ≠ 0 by decide)
        have := Int.emod_lt_of_pos (c / 4) (show (0 : Int) < 3 by decide)
        omega
      have hlen : ((s.map fun c => tx (List.replicate (1 + c / 4 % 3).toNat (decide (c / 2 % 2 = 0)))).map (·.length)).sum ≤ 1000 := catW_len (Nat.le_trans (sum_le _ 3 _ fun a _ => by rw [tx_len, List.length_replicate]; have := hrun a; omega) (by omega))
      have hcat := cat_words s fun c => List.replicate (1 + c / 4 % 3).toNat (decide (c / 2 % 2 = 0))
      have hfl := flat_le (fun c : Int => List.replicate (1 + c / 4 % 3).toNat (decide (c / 2 % 2 = 0))) 3 (fun c => by rw [List.length_replicate]; have := hrun c; omega) s
      refine g_asgT (a := tx ((s.flatMap fun c => List.replicate (1 + c / 4 % 3).toNat (decide (c / 2 % 2 = 0))).take 64)) ((er_slS (z := tx (s.flatMap fun c => List.replicate (1 + c / 4 % 3).toNat (decide (c / 2 % 2 = 0)))) ((er_join (ys := s.map fun c => tx (List.replicate (1 + c / 4 % 3).toNat (decide (c / 2 % 2 = 0)))) (by decide +kernel)
        (ErF.er (erf_lc (er_var rfl r) (by omega) (fun _ => rfl) fun i c v H3 _ _ rc => es_flat ((er_mulT (er_ud (er_div (er_var rfl rc) er_int ⟨by decide, by decide⟩)) (er_add er_int (er_mod (er_div (er_var rfl rc) er_int ⟨by decide, by decide⟩) er_int (by decide))) (hrun c).1 (by have := (hrun c).2; omega) (by rw [tx_len]; exact Nat.le_of_ble_eq_true rfl)).to (tx_reps _ _)))) (by omega)).to hcat) eo_no (eo_at er_int) ?_).to ?_) fun H3 e3 => ⟨v, _, _, _, _, rfl, e2.trans e3, up r e3, ?_⟩
      · rw [tx_len]; omega
      · rw [tx_cut]
        exact congrArg tx (cutL_take _ 64)
      · rw [List.length_take]; omega
    · rintro σ H3 ⟨v, w, x3, x4, x5, rfl, e3, r, hw⟩
      refine g_cut (MidW K H1 s k 64) (g_if (b := ((k == 3) && !decide (s = []))) (et_and' (et_e (er_eqi (er_var rfl rfl) er_int)) fun _ => et_e (er_neD (a := s) (b := []) (er_var rfl r) (ErF.er (erf_lst eal_nil (by decide))) (fun _ _ => trivial) (fun _ _ => trivial) (by decide))) (fun hb => ?_) fun _ => g_next fun H4 e4 => ⟨v, w, x3, x4, x5, rfl, e3.trans e4, up r e4, by omega⟩) ?_
      · -- sixty letters more
        have hs : s ≠ [] := by
          simp only [Bool.and_eq_true, Bool.not_eq_true', decide_eq_false_iff_not] at hb
          exact hb.2
        obtain ⟨z, hz⟩ : ∃ z, s.getLast? = some z := by
          cases hq : s.getLast? with
          | none => rw [List.getLast?_eq_none_iff] at hq; exact absurd hq hs
          | some z => exact ⟨z, rfl⟩
        refine q_asgI (a := z / 3) (er_div (er_ixL (er_var rfl r) (er_neg er_int) (atI_neg1 hz)) er_int ⟨by decide, by decide⟩) ?_
        have hd := draw_lt z 8 (m := 60) (by decide)
        refine q_forR (lo := 0) (n := (drawI z 8 60).toNat) (rng1 (er_call3 (er_ixL (er_var rfl r) (er_neg er_int) (atI_neg1 hz)) er_int er_int (by decide)) (by omega) (by omega)) (fun i σ H' => ∃ (w : List Bool) (l : Int) (x3 x5 : Option V), σ = [some v, some (.int k), some (.str (tx w)), x3, some (.int l), x5] ∧ Ex H3 H' ∧ w.length ≤ 64 + i) (fun H4 e4 => ⟨w, _, _, _, rfl, e4, by omega⟩) ?_ ?_
        · rintro i σ H' hi ⟨w, l, x3, x5, rfl, e4, hw⟩
          refine q_asgT (a := tx (w ++ [decide (l % 2 = 0)])) ((er_addT (er_var rfl rfl) (er_ud (er_var rfl rfl)) ?_).to (tx_app _ _)) (g_asgI (a := l / 2) (er_div (er_var rfl rfl) er_int ⟨by decide, by decide⟩) fun H5 e5 => ⟨_, _, _, _, rfl, e4.trans e5, ?_⟩)
          · rw [tx_len, tx_len, List.length_singleton]; omega
          · rw [List.length_append, List.length_singleton]; omega
        · rintro σ H' ⟨w, l, x3, x5, rfl, e4, hw⟩
          refine g_asgT (a := tx (w.take 64)) ((er_slS (er_var rfl rfl) eo_no (eo_at er_int) ?_).to ?_) fun H5 e5 => ⟨v, _, _, _, _, rfl, (e3.trans e4).trans e5, up r (e4.trans e5), ?_⟩
          · rw [tx_len]; omega
          · rw [tx_cut]
            exact congrArg tx (cutL_take _ 64)
          · rw [List.length_take]; omega
      · rintro σ H4 ⟨v, w, x3, x4, x5, rfl, e4, r, hw⟩
        refine g_ret (a := tx w) (er_var rfl rfl) fun u H5 e5 ru => ?_
        obtain rfl : u = .str (tx w) := ru
        exact q w H5 hw ((e1.trans e4).trans e5)
theorem ok_l_word {f f_l_cell_at f_l_draw : Addr} {fd fd_l_cell_at fd_l_draw : FuncData} (F : Fun K "_law_word" "_law_word" s_l_word f fd) (T : Bi mg) (c_l_cell_at : Cal P w K mg base 1 "_law_cell_at" ["_law_script", "_law_k"] (sp_l_cell_at K) f_l_cell_at fd_l_cell_at) (c_l_draw : Cal P w K mg base 1 "_law_draw" ["_law_cell", "_law_k", "_law_many"] (sp_l_draw K) f_l_draw fd_l_draw) : FnOk P w K mg base CX0 2 f fd ["_law_script"] (sp_l_word K) :=
  F.ok sc_l_word (fun vs H Q E h => by first | exact len_pr1 h | exact len_pr2 h | exact len_pr3 h | exact len_prF1 h | exact len_prF2 h | exact len_l_word h) (fun cdv A outer s H vs Q E hr h => ⟨t_l_word K, by exact
    ((pss_cons (ps_set (i := 0) sc_l_word.nd rfl (.inl rfl) (pe_slice sl_list (pv 0) po_none (po_some pe_int)))
      (pss_cons (ps_set (i := 1) sc_l_word.nd rfl (.inl rfl) (pe_call c_l_draw.ok (hr.mono (by decide)) (by rfl) c_l_draw.g c_l_draw.kp c_l_draw.b .nil pass0 (pa_cons (pe_call c_l_cell_at.ok (hr.mono (by decide)) (by rfl) c_l_cell_at.g c_l_cell_at.kp c_l_cell_at.b .nil pass0 (pa_cons (pv 0) (pa_cons pe_int pa_nil))) (pa_cons pe_int (pa_cons pe_int pa_nil)))))
      (pss_cons (ps_set (i := 2) sc_l_word.nd rfl (.inl rfl) (pe_join' pe_str (pe_lc (own := [("_law_cell", 5)]) (g := (gName 5)) (tt := tYes) rfl sc_l_word.nd (pi_list (pv 0)) (blkOk_by (own := [("_law_cell", 5)]) (N := N_l_word) (sc := defScope s_l_word) (by decide +kernel)) (fun _ _ _ _ _ => (pg_name (i := 5) sc_l_word.nd rfl (.inl rfl))) (fun _ _ _ _ _ => pts_nil) (fun _ _ _ _ _ => (pe_ix ix_str pe_str (pe_op oModI (pv 5) pe_int) (fun _ _ => rfl))))))
      (pss_cut (ps_if (pt_cmpR oEqI (pv 1) pe_int (nomark _)) (pss_one (ps_set (i := 2) sc_l_word.nd rfl (.inl rfl) (pe_join' pe_str (pe_lc (own := [("_law_k", 3), ("_law_cell", 5)]) (g := (gTup K 2 (gCons (gName 3) (gCons (gName 5) gNil)))) (tt := tYes) rfl sc_l_word.nd (pi_enum (by rfl) T.enumerate_ (pa_cons (pv 0) pa_nil)) (blkOk_by (own := [("_law_k", 3), ("_law_cell", 5)]) (N := N_l_word) (sc := defScope s_l_word) (by decide +kernel)) (fun _ _ _ _ _ => (pg_tup rfl (pgs_cons (pg_name (i := 3) sc_l_word.nd rfl (.inl rfl)) (pgs_cons (pg_name (i := 5) sc_l_word.nd rfl (.inl rfl)) pgs_nil)))) (fun _ _ _ _ _ => pts_nil) (fun _ _ _ _ _ => (pe_ifExp (pt_cmpR oGtI (pe_op oModI (pv 5) pe_int) pe_int (nomark _)) (pe_ix ix_str pe_str (pe_op oModI (pv 3) pe_int) (fun _ _ => rfl)) (pe_ix ix_str pe_str (pe_op oModI (pv 3) pe_int) (fun _ _ => rfl))))))))
      pss_nil)
      (pss_cut (ps_if (pt_cmpR oEqI (pv 1) pe_int (nomark _)) (pss_one (ps_set (i := 2) sc_l_word.nd rfl (.inl rfl) (pe_slice sl_str (pe_join' pe_str (pe_lc (own := [("_law_cell", 5)]) (g := (gName 5)) (tt := tYes) rfl sc_l_word.nd (pi_list (pv 0)) (blkOk_by (own := [("_law_cell", 5)]) (N := N_l_word) (sc := defScope s_l_word) (by decide +kernel)) (fun _ _ _ _ _ => (pg_name (i := 5) sc_l_word.nd rfl (.inl rfl))) (fun _ _ _ _ _ => pts_nil) (fun _ _ _ _ _ => (pe_op oMulT (pe_ix ix_str pe_str (pe_op oModI (pe_op oDivI (pv 5) pe_int) pe_int) (fun _ _ => rfl)) (pe_op oAddI pe_int (pe_op oModI (pe_op oDivI (pv 5) pe_int) pe_int)))))) po_none (po_some pe_int))))
      pss_nil)
      (pss_cut (ps_if (PW.pt (pw_and (pt_cmpR oEqI (pv 1) pe_int (nomark _)) (pw_and1 (pt_cmpR (op_neD hr.units) (pv 0) (pe_lst pa_nil) (nomark _))))) (pss_cons (ps_set (i := 4) sc_l_word.nd rfl (.inl rfl) (pe_op oDivI (pe_ix ix_list (pv 0) (pe_un oNegI pe_int) (fun _ _ => rfl)) pe_int))
      (pss_cons (ps_for PassesOwn.never rfl (pi_range1 (by rfl) T.range_ (pa_cons (pe_call c_l_draw.ok (hr.mono (by decide)) (by rfl) c_l_draw.g c_l_draw.kp c_l_draw.b .nil pass0 (pa_cons (pe_ix ix_list (pv 0) (pe_un oNegI pe_int) (fun _ _ => rfl)) (pa_cons pe_int (pa_cons pe_int pa_nil)))) pa_nil)) (pg_name (i := 3) sc_l_word.nd rfl (.inl rfl))
      (pss_cons (ps_set (i := 2) sc_l_word.nd rfl (.inl rfl) (pe_op oAddT (pv 2) (pe_ix ix_str pe_str (pe_op oModI (pv 4) pe_int) (fun _ _ => rfl))))
      (pss_one (ps_set (i := 4) sc_l_word.nd rfl (.inl rfl) (pe_op oDivI (pv 4) pe_int)))))
      (pss_one (ps_set (i := 2) sc_l_word.nd rfl (.inl rfl) (pe_slice sl_str (pv 2) po_none (po_some pe_int))))))
      pss_nil)
      (pss_one (ps_ret (pv 2)))))))))), pure_l_word K vs H Q E h⟩)


/-! ### the mathematics of law 1 that speaks of the walk's own functions -/
theorem rest_run : ∀ w, rest w = MC.run (w.reverse.map (!·)) [1]
  | [] => rfl
  | b :: w => by
    rw [rest, rest_run w, List.reverse_cons, List.map_append, MC.run_append]
    rfl
theorem cntP_F (w : List Bool) : cntP w = MC.F w := by
  unfold cntP
  rw [rest_run]
  show MC.F (w.reverse.map (!·)) = MC.F w
  rw [MC.F_not, MC.F_rev]
theorem alt_take2 : ∀ n m, (n ≤ 2 * m → ((List.replicate m [true, false]).flatten).take n = MC.alt true n) ∧ (n ≤ 2 * m + 1 → (false :: (List.replicate m [true, false]).flatten).take n = MC.alt false n) := by
  intro n
  induction n with
  | zero => intro m; exact ⟨fun _ => by simp [MC.alt], fun _ => by simp [MC.alt]⟩
  | succ n ih =>
    intro m
    constructor
    · intro hm
      cases m with
      | zero => omega
      | succ m =>
        rw [List.replicate_succ, List.flatten_cons]
        show true :: (false :: (List.replicate m [true, false]).flatten).take n = true :: MC.alt false n
        rw [(ih m).2 (by omega)]
    · intro hm
      show false :: ((List.replicate m [true, false]).flatten).take n = false :: MC.alt true n
      rw [(ih m).1 (by omega)]
theorem alt_take (n : Nat) : ((List.replicate n [true, false]).flatten).take n = MC.alt true n := (alt_take2 n n).1 (by omega)
theorem tx_reps2 (k : Nat) (w : List Bool) : reps k (tx w) = tx (List.replicate k w).flatten := by
  unfold reps
  rw [tx_list]
  unfold tx
  congr 1
  rw [List.map_flatten, List.map_replicate]
/-- of few letters as many as there are by trying -/
def allW : Nat → List (List Bool)
  | 0 => [[]]
  | n + 1 => (allW n).flatMap fun w => [true :: w, false :: w]
theorem mem_allW : ∀ w : List Bool, w ∈ allW w.length
  | [] => by simp [allW]
  | b :: w => by
    have h := mem_allW w
    show b :: w ∈ (allW w.length).flatMap fun w => [true :: w, false :: w]
    rw [List.mem_flatMap]
    exact ⟨w, h, by cases b <;> simp⟩
def few (n : Nat) : Bool := (allW n).all fun w => MC.F w == (((ordersL (n + 1)).filter fun o => decide (rf o (o.length - 1) = w)).length : Int)
theorem few_all : ∀ n, n ≤ 4 → few n = true
  | 0, _ => by decide +kernel
  | 1, _ => by decide +kernel
  | 2, _ => by decide +kernel
  | 3, _ => by decide +kernel
  | 4, _ => by decide +kernel
  | n + 5, h => by omega
theorem few_is {w : List Bool} (h : w.length ≤ 4) : MC.F w = (((ordersL (w.length + 1)).filter fun o => decide (rf o (o.length - 1) = w)).length : Int) := by
  have h1 := few_all w.length h
  unfold few at h1
  rw [List.all_eq_true] at h1
  exact eq_of_beq (h1 w (mem_allW w))
/-! #### the row without alike neighbours -/
def keepP (s : List Int) (k : Nat) : Bool := ((0 : Int) + (k : Int) == 0) || !(s.getD k 0 == s.getD (k - 1) 0)
def dd (s : List Int) (n : Nat) : List Int := ((List.range n).filter (keepP s)).map fun k => s.getD k 0
def NoAdj (l : List Int) : Prop := ∀ i, i + 1 < l.length → l.getD (i + 1) 0 ≠ l.getD i 0
theorem getD_last {l : List Int} {y : Int} (h : l.getLast? = some y) : l.getD (l.length - 1) 0 = y := by
  rw [List.getLast?_eq_getElem?] at h
  rw [List.getD_eq_getElem?_getD, h]; rfl
theorem noAdj_snoc {l : List Int} {x : Int} (h : NoAdj l) (hx : ∀ y, l.getLast? = some y → y ≠ x) : NoAdj (l ++ [x]) := by
  intro i hi
  rw [List.length_append, List.length_singleton] at hi
  simp only [List.getD_eq_getElem?_getD]
  by_cases c : i + 1 < l.length
  · rw [List.getElem?_append_left c, List.getElem?_append_left (by omega)]
    have := h i c
    simpa only [List.getD_eq_getElem?_getD] using this
  · have e : i + 1 = l.length := by omega
    rw [List.getElem?_append_right (by omega), List.getElem?_append_left (by omega)]
    have hl : l ≠ [] := by
      rintro rfl
      simp at e
    obtain ⟨y, hy⟩ : ∃ y, l.getLast? = some y := by
      cases q : l.getLast? with
      | none => rw [List.getLast?_eq_none_iff] at q; exact absurd q hl
      | some y => exact ⟨y, rfl⟩
    have e2 : l[i]? = some y := by
      rw [List.getLast?_eq_getElem?] at hy
      rw [← hy]; congr 1; omega
    rw [e2, e]
    simp
    exact fun z => hx y hy z.symm
theorem dd_succ (s : List Int) (n : Nat) : dd s (n + 1) = dd s n ++ (if keepP s n then [s.getD n 0] else []) := by
  unfold dd
  rw [List.range_succ, List.filter_append, List.map_append]
  congr 1
  cases h : keepP s n <;> simp [h]
theorem dd_ok (s : List Int) : ∀ n, NoAdj (dd s n) ∧ ∀ y, (dd s n).getLast? = some y → 0 < n ∧ y = s.getD (n - 1) 0
  | 0 => ⟨fun i hi => by simp [dd] at hi, fun y hy => by simp [dd] at hy⟩
  | n + 1 => by
    obtain ⟨h1, h2⟩ := dd_ok s n
    rw [dd_succ]
    cases hk : keepP s n with
    | true =>
      rw [if_pos rfl]
      refine ⟨noAdj_snoc h1 fun y hy e => ?_, fun y hy => ?_⟩
      · obtain ⟨h3, h4⟩ := h2 y hy
        unfold keepP at hk
        rw [h4] at e
        rw [← e] at hk
        simp at hk
        omega
      · rw [List.getLast?_append] at hy
        simp at hy
        exact ⟨by omega, hy.symm⟩
    | false =>
      rw [if_neg (by decide), List.append_nil]
      refine ⟨h1, fun y hy => ?_⟩
      obtain ⟨h3, h4⟩ := h2 y hy
      refine ⟨by omega, ?_⟩
      unfold keepP at hk
      simp at hk
      rw [h4, Nat.add_sub_cancel]
      simp only [List.getD_eq_getElem?_getD]
      exact hk.2.symm
theorem wordBy_of {l : List Int} (h : NoAdj l) : (wordBy l).isSome = true := by
  unfold wordBy
  have e : (List.range (l.length - 1)).any (adj l) = false := by
    rw [List.any_eq_false]
    intro i hi
    have hi' := List.mem_range.mp hi
    unfold adj
    rw [beq_iff_eq]
    exact h i (by omega)
  rw [e]; rfl
theorem dd_len (s : List Int) (n : Nat) : (dd s n).length ≤ n := by
  unfold dd
  rw [List.length_map]
  have := List.length_filter_le (keepP s) (List.range n)
  rw [List.length_range] at this
  exact this
def topOf (l : List Int) : Int := 1 + maxI ([0] ++ l.map fun i => if i < 0 then -i else i)
theorem top_ne {l : List Int} {y : Int} (h : y ∈ l) : y ≠ topOf l := by
  have h1 := (maxI_mem (l := [0] ++ l.map fun i => if i < 0 then -i else i) (by simp)).2 (if y < 0 then -y else y) (by
    rw [List.mem_append]
    exact .inr (List.mem_map.mpr ⟨y, h, rfl⟩))
  unfold topOf
  split at h1 <;> omega
theorem row_ok (s : List Int) (n : Nat) : NoAdj (dd s n ++ [topOf (dd s n)]) := noAdj_snoc (dd_ok s n).1 fun y hy => top_ne (List.mem_of_getLast? hy)
/-! ### law 1 -/
def sp_law (K : PySem.W.Frag) : Sp := fun vs H Q _ => ∃ v s, vs = [v] ∧ Rep.rep K H v (s : List Int) ∧ s.length ≤ 63 ∧ ∀ H', Q (.bl true) H'
theorem len_law {vs : List V} {H : Hp} {Q : VK} {E : XK} (h : sp_law K vs H Q E) : vs.length = 1 := by obtain ⟨_, _, rfl, _⟩ := h; rfl
theorem law_asks {K : PySem.W.Frag} {H : Hp} {a : Addr} {ns : List Int} (hl : ns.length ≤ 63) (hS : SqL K H a (ns.map V.int)) : sp_law K [.ref a] H (fun v _ => v = .bl true) fun _ _ _ => False :=
  ⟨_, ns, rfl, ⟨a, rfl, int_lst hS⟩, hl, fun _ => rfl⟩
abbrev s_law : Stmt := topS 21
abbrev N_law : List Str := ["_law_script", "_law_word_here", "_law_whole_here", "_law_other", "_law_few", "_law_row", "_law_kept", "_law_k", "_law_letter", "_law_order", "_law_number"]
theorem sc_law : FnScope N_law ["_law_script"] (defScope s_law) := ⟨rfl, rfl, rfl, by decide +kernel, rfl, by decide +kernel, by decide +kernel⟩
def t_law (K : PySem.W.Frag) : TS :=
  (tSeq (tAsg (tCall (sp_l_word K) [] E0 (tCons (tVar 0) tNil)) (gName 1))
    (tSeq (tAsg (tCall (sp_count K) [] E0 (tCons (tVar 1) tNil)) (gName 2))
    (tSeq (tIfS (tOr (tNot (tB (tCall (sp_l_whole K) [] E0 (tCons (tVar 2) tNil)))) (tOr (tTest (tOp rNeI (tVar 2) (tCall (sp_l_count K) [] E0 (tCons (tVar 1) tNil)))) (tTest (tOp rLtI (tVar 2) (tC (.int 1)))))) (tRet (tC (.bl false))) tNext)
    (tSeq (tIfS (tTest (tOp rNeI (tOp rAddI (tCall (sp_count K) [] E0 (tCons (tOp rAddT (tVar 1) (tC (.str ("u" : Str)))) tNil)) (tCall (sp_count K) [] E0 (tCons (tOp rAddT (tVar 1) (tC (.str ("d" : Str)))) tNil))) (tOp rMulI (tOp rAddI (tCB rLenT (tCons (tVar 1) tNil)) (tC (.int 2))) (tVar 2)))) (tRet (tC (.bl false))) tNext)
    (tSeq (tAsg (tM1 (rJoin K) (tC (.str ("" : Str))) (tLc (iStr (tVar 1)) (gName 8) tYes (tIf (tTest (tOp rEqT (tVar 8) (tC (.str ("u" : Str))))) (tC (.str ("d" : Str))) (tC (.str ("u" : Str)))) [8])) (gName 3))
    (tSeq (tIfS (tOr (tTest (tOp rNeI (tCall (sp_count K) [] E0 (tCons (tVar 3) tNil)) (tVar 2))) (tOr (tTest (tOp rNeI (tCall (sp_count K) [] E0 (tCons (tRevS (tVar 1)) tNil)) (tVar 2))) (tTest (tOp rNeI (tCall (sp_count K) [] E0 (tCons (tRevS (tVar 3)) tNil)) (tVar 2))))) (tRet (tC (.bl false))) tNext)
    (tSeq (tIfS (tTest (tOp rGtI (tVar 2) (tCall (sp_count K) [] E0 (tCons (tSl rSlS (tOp rMulT (tC (.str ("ud" : Str))) (tCB rLenT (tCons (tVar 1) tNil))) tNoPart (tPart (tCB rLenT (tCons (tVar 1) tNil)))) tNil)))) (tRet (tC (.bl false))) tNext)
    (tSeq (tAsg (tSl rSlS (tVar 1) tNoPart (tPart (tCall (sp_l_draw K) [] E0 (tCons (tCall (sp_l_cell_at K) [] E0 (tCons (tVar 0) (tCons (tC (.int 1)) tNil))) (tCons (tC (.int 4)) (tCons (tC (.int 5)) tNil)))))) (gName 4))
    (tSeq (tIfS (tTest (tOp rNeI (tCall (sp_count K) [] E0 (tCons (tVar 4) tNil)) (tCB (rLenL K) (tCons (tLc (iList K (tCall (sp_l_orders K) [] E0 (tCons (tOp rAddI (tCB rLenT (tCons (tVar 4) tNil)) (tC (.int 1))) tNil))) (gName 9) (tTest (tOp rEqT (tCall (sp_l_by K) [] E0 (tCons (tVar 9) tNil)) (tVar 4))) (tVar 9) [9]) tNil)))) (tRet (tC (.bl false))) tNext)
    (tSeq (tAsg (tLc (iRng1 (tCons (tCB (rLenL K) (tCons (tVar 0) tNil)) tNil)) (gName 7) (tOr (tTest (tOp rEqI (tVar 7) (tC (.int 0)))) (tTest (tOp rNeI (tOp (rIxL K) (tVar 0) (tVar 7)) (tOp (rIxL K) (tVar 0) (tOp rSubI (tVar 7) (tC (.int 1))))))) (tOp (rIxL K) (tVar 0) (tVar 7)) [7]) (gName 5))
    (tSeq (tDrop (tBM K "list" rAppend (tVar 5) (tCons (tOp rAddI (tC (.int 1)) (tCB (rMaxL K) (tCons (tOp rCat (tLst (tCons (tC (.int 0)) tNil)) (tLc (iList K (tVar 5)) (gName 10) tYes (tCB rAbs (tCons (tVar 10) tNil)) [10])) tNil))) tNil)))
    (tSeq (tAsg (tCB (rLstL K) (tCons (tVar 5) tNil)) (gName 6))
    (tRet (tAndV (tOp rEqT (tCall (sp_word_of K) [] E0 (tCons (tVar 5) tNil)) (tCall (sp_l_by K) [] E0 (tCons (tVar 5) tNil))) (tAndV (tOp (rEqD K) (tVar 5) (tVar 6)) (tAndV (tOp rEqI (tCall (sp_count K) [] E0 (tCons (tC (.str ("" : Str))) tNil)) (tC (.int 1))) (tOp rEqT (tCall (sp_word_of K) [] E0 (tCons (tLst (tCons (tC (.int 7)) tNil)) tNil)) (tC (.str ("" : Str))))))))))))))))))))

section
variable {α : Type} [Rep α] {K : PySem.W.Frag} {σ : L2.St} {H : Hp} {ta te : TE} {t u : TT} {D : Ends} {tu tz : TS}
theorem er_cnt {w : List Bool} (h : Er K te σ H (tx w)) (hl : w.length ≤ 1000) : Er K (tCall (sp_count K) [] E0 (tCons te tNil)) σ H (MC.F w) :=
  (er_call1 (f := fun z => cntP (unz z)) (a := tx w) h ⟨isW_tx w, by rw [tx_len]; exact hl⟩).to (by show cntP (unz (tx w)) = _; rw [unz_tx, cntP_F])
theorem er_cntF {w : List Bool} (h : Er K te σ H (tx w)) (hl : w.length ≤ 1000) : Er K (tCall (sp_l_count K) [] E0 (tCons te tNil)) σ H (MC.F w) :=
  (er_call1 (f := fun z => MC.F (unz z)) (a := tx w) h ⟨isW_tx w, by rw [tx_len]; exact hl⟩).to (by show MC.F (unz (tx w)) = _; rw [unz_tx])
theorem q_skip (h : Et K t σ H false) (k : Gx K (tz D) σ H) : Gx K (tSeq (tIfS t tu tNext) tz D) σ H := q_when h (fun e => by cases e) fun _ => k
theorem et_orF (h1 : Et K t σ H false) (h2 : Et K u σ H false) : Et K (tOr t u) σ H false := et_or' h1 fun _ => h2
theorem et_nT (h1 : Et K t σ H true) : Et K (tNot t) σ H false := et_not' h1
theorem et_neI {i j : Int} {tb : TE} (h1 : Er K ta σ H i) (h2 : Er K tb σ H j) (e : i = j) : Et K (tTest (tOp rNeI ta tb)) σ H false := et_e ((er_nei h1 h2).to (by rw [e]; simp))
theorem q_word {i : Nat} {s : List Int} (h : Er K te σ H s) (hl : s.length ≤ 63) (k : ∀ w : List Bool, w.length ≤ 64 → Gx K (tz D) (σ.set i (some (.str (tx w)))) H) : Gx K (tSeq (tAsg (tCall (sp_l_word K) [] E0 (tCons te tNil)) (gName i)) tz D) σ H := fun H1 e =>
  h H1 e _ fun v H2 e2 r => ⟨v, s, rfl, r, hl, fun w H3 hw e3 => k w hw H3 ((e.trans e2).trans e3)⟩
end
theorem pure_law (K : PySem.W.Frag) (vs : List V) (H : Hp) (Q : VK) (E : XK) (h : sp_law K vs H Q E) : t_law K { nx := fun _ H' => Q .non H', rt := Q } (start N_law vs) H := by
  obtain ⟨v, s, rfl, r, hs, q⟩ := h
  refine Gx.here (K := K) (q_word (s := s) (er_var rfl r) hs fun w hw => ?_)
  have W : ∀ {σ : L2.St} {H' : Hp}, σ[1]? = some (some (.str (tx w))) → Er K (tVar 1) σ H' (tx w) := fun h => er_var h rfl
  refine q_asgI (a := MC.F w) (er_cnt (W rfl) (by omega)) ?_
  have N : ∀ {σ : L2.St} {H' : Hp}, σ[2]? = some (some (.int (MC.F w))) → Er K (tVar 2) σ H' (MC.F w) := fun h => er_var h rfl
  have hpos := MC.F_pos w
  refine q_skip (et_orF (et_nT (et_v (er_call1 (a := MC.F w) (N rfl) trivial))) (et_orF (et_neI (N rfl) (er_cntF (W rfl) (by omega)) rfl) (et_e ((er_lt (N rfl) er_int).to (by rw [decide_eq_false_iff_not]; omega))))) ?_
  refine q_skip (et_neI (er_add (er_cnt (w := w ++ [true]) ((er_addT (W rfl) (er_lit tx_u) (by rw [tx_len, tx_len, List.length_singleton]; omega)).to (tx_app _ _)) (by rw [List.length_append, List.length_singleton]; omega)) (er_cnt (w := w ++ [false]) ((er_addT (W rfl) (er_lit tx_d) (by rw [tx_len, tx_len, List.length_singleton]; omega)).to (tx_app _ _)) (by rw [List.length_append, List.length_singleton]; omega)))
    (er_mul (er_add ((er_lenT (W rfl) (by rw [tx_len]; omega)).to (by rw [tx_len])) er_int) (N rfl) (Or.inl ⟨by omega, by omega⟩)) (MC.F_more w)) ?_
  refine q_asgT (a := tx (w.map (!·))) ((er_join (ys := w.map fun b => tx [!b]) (by decide +kernel) ((ErF.er (erf_lcS (f := fun c => tx [!(c == 117)]) (W rfl) (by rw [tx_len]; omega) (fun _ => rfl) fun i c H1 _ hc => es_flat ?_)).to ?_) ?_).to (tx_map w (!·))) ?_
  · have hc' : c = sg (c == 117) := by
      have h1 : (tx w).cps.toList[i]? = some c := by rw [Array.getElem?_toList]; exact hc
      rw [tx_list, List.getElem?_map] at h1
      cases hq : w[i]? with
      | none => rw [hq] at h1; simp at h1
      | some b =>
        rw [hq] at h1
        have : sg b = c := by simpa using h1
        subst this
        cases b <;> rfl
    obtain ⟨b, hbd⟩ : ∃ b, (c == 117) = b := ⟨_, rfl⟩
    rw [hbd] at hc' ⊢
    subst hc'
    refine (er_if (b := b) (x := tx [false]) (y := tx [true]) (et_e ((er_eqt (i := tx [b]) (j := tx [true]) (er_var rfl rfl) (er_lit tx_u)).to ?_)) (fun _ => er_lit tx_d) fun _ => er_lit tx_u).to ?_
    · rw [tx_beq]; cases b <;> rfl
    · cases b <;> rfl
  · rw [tx_list, List.map_map]
    refine List.map_congr_left fun b _ => ?_
    show tx [!(sg b == 117)] = tx [!b]
    rw [sg_u]
  · refine catW_len (Nat.le_trans (sum_le _ 1 w fun a _ => ?_) (by omega))
    rw [tx_len]; exact Nat.le_refl _
  have O : ∀ {σ : L2.St} {H' : Hp}, σ[3]? = some (some (.str (tx (w.map (!·))))) → Er K (tVar 3) σ H' (tx (w.map (!·))) := fun h => er_var h rfl
  have hO : (w.map (!·)).length ≤ 64 := by rw [List.length_map]; exact hw
  refine q_skip (et_orF (et_neI (er_cnt (O rfl) (by omega)) (N rfl) (MC.F_not w)) (et_orF (et_neI (er_cnt (w := w.reverse) ((er_revS (W rfl) (by rw [tx_len]; omega)).to (tx_rev w)) (by rw [List.length_reverse]; omega)) (N rfl) (MC.F_rev w))
    (et_neI (er_cnt (w := (w.map (!·)).reverse) ((er_revS (O rfl) (by rw [tx_len]; omega)).to (tx_rev _)) (by rw [List.length_reverse]; omega)) (N rfl) (by rw [MC.F_rev, MC.F_not])))) ?_
  refine q_skip (et_e ((er_gt (N rfl) (er_cnt (w := MC.alt true w.length) ((er_slS (z := tx (List.replicate w.length [true, false]).flatten) (hi := some (w.length : Int)) ((er_mulT (n := (w.length : Int)) (er_lit tx_ud) ((er_lenT (W rfl) (by rw [tx_len]; omega)).to (by rw [tx_len])) (by omega) (by omega) (by decide)).to (by rw [tx_reps2, Int.toNat_natCast])) eo_no (eo_at ((er_lenT (W rfl) (by rw [tx_len]; omega)).to (by rw [tx_len]))) ?_).to ?_) (by rw [MC.alt_len]; omega))).to ?_)) ?_
  · rw [tx_len, List.length_flatten, List.map_replicate, List.sum_replicate_nat]
    show w.length * 2 ≤ 100000
    omega
  · rw [tx_cut, cutL_take, alt_take w.length]
  · rw [decide_eq_false_iff_not]
    have := MC.F_max w
    omega
  -- of few letters
  have hdr := draw_lt (cellAt s 1) 4 (m := 5) (by decide)
  obtain ⟨m, em⟩ : ∃ m : Nat, drawI (cellAt s 1) 4 5 = (m : Int) := ⟨(drawI (cellAt s 1) 4 5).toNat, by omega⟩
  refine q_asgT (a := tx (w.take m)) ((er_slS (hi := some (m : Int)) (W rfl) eo_no (eo_at ((er_call3 (er_call2 (a := s) (b := (1 : Int)) (er_var rfl r) er_int (by decide)) er_int er_int (by decide)).to em)) (by rw [tx_len]; omega)).to (by rw [tx_cut, cutL_take])) ?_
  obtain ⟨f, ef⟩ : ∃ f, w.take m = f := ⟨_, rfl⟩
  have hf : f.length ≤ 4 := by rw [← ef, List.length_take]; omega
  rw [ef]
  have hno : (ordersL (f.length + 1)).length ≤ 120 := orders_small _ (by omega)
  have Fw : ∀ {σ : L2.St} {H' : Hp}, σ[4]? = some (some (.str (tx f))) → Er K (tVar 4) σ H' (tx f) := fun h => er_var h rfl
  refine q_skip (et_neI (er_cnt (Fw rfl) (by omega)) ((er_lenL (ErF.er (erf_lcF (as := ordersL (f.length + 1)) (p := fun o => decide (rf o (o.length - 1) = f)) (f := fun o => o) ((er_call1 (a := (f.length : Int) + 1) (er_add ((er_lenT (Fw rfl) (by rw [tx_len]; omega)).to (by rw [tx_len])) er_int) ⟨by omega, by omega⟩).to (by show ordersL ((f.length : Int) + 1).toNat = _; congr 1)) (by omega) (fun _ => rfl)
    (fun i o v H1 _ ho ro => et_e ((er_eqt (i := tx (rf o (o.length - 1))) (er_call1 (f := fun row => tx (rf row (row.length - 1))) (a := o) (er_var rfl ro) (by have := orders_item _ o (List.mem_of_getElem? ho); omega)) (Fw rfl)).to (tx_beq _ _))) fun i o v H1 _ ho ro _ => es_var rfl ro))).to rfl) (by rw [List.map_id']; exact few_is hf)) ?_
  -- the row
  have hdl := dd_len s s.length
  refine q_asgF (as := dd s s.length) (erf_lcRG (lo := 0) (n := s.length) (p := keepP s) (f := fun k => s.getD k 0) ((rng1 (er_lenL (er_var rfl r)) (by omega) (by omega)).to (by omega)) (by omega) (fun _ => rfl) (fun k H1 e hk => ?_) fun k H1 e hk _ => es_flat (er_ixL (er_var rfl (up r e)) (er_var rfl rfl) (at_getD (by omega) hk))) fun pr H1 hpr e1 o1 => ?_
  · unfold keepP
    refine et_or' (et_e (er_eqi (er_var rfl rfl) er_int)) fun hk0 => et_e (er_nei (er_ixL (er_var rfl (up r e)) (er_var rfl rfl) (at_getD (by omega) hk)) (er_ixL (er_var rfl (up r e)) (er_sub (er_var rfl rfl) er_int) (at_getD ?_ (by omega))))
    have : k ≠ 0 := by
      rintro rfl
      simp at hk0
    omega
  refine q_app (a := topOf (dd s s.length)) o1 rfl (er_add er_int (er_maxL (ErF.er (erf_cat (erf_lst (eal_cons er_int eal_nil) (by decide)) (erf_lc (er_var rfl o1.rep) (by omega) (fun _ => rfl) fun i a v H2 _ _ ra => es_flat (er_abs (er_var rfl ra))) ?_)) (by simp))) (by omega) fun H2 eb o2 => ?_
  · rw [List.length_map, List.length_singleton]; omega
  have hnb := row_ok s s.length
  have hrl : (dd s s.length ++ [topOf (dd s s.length)]).length ≤ 64 := by rw [List.length_append, List.length_singleton]; omega
  have hne : dd s s.length ++ [topOf (dd s s.length)] ≠ [] := by simp
  generalize dd s s.length ++ [topOf (dd s s.length)] = row at o2 hnb hrl hne
  refine q_asg (a := row) (ErF.er (erf_list (er_var rfl o2.rep))) fun vk H3 e3 rk => ?_
  have hw7 : (wordBy [7]).isSome = true := by decide
  refine g_ret (a := true) ((er_and (a := true) (b := true) ((er_eqt (er_call1 (f := fun row => tx (rf row (row.length - 1))) (a := row) (er_var rfl (o2.up e3).rep) ⟨by omega, hne, wordBy_of hnb⟩) (er_call1 (f := fun row => tx (rf row (row.length - 1))) (a := row) (er_var rfl (o2.up e3).rep) (by omega))).to (by simp)) fun _ =>
    (er_and (a := true) (b := true) ((er_eqD (a := row) (b := row) (er_var rfl (o2.up e3).rep) (er_var rfl rk) (fun _ _ => trivial) (fun _ _ => trivial) (by decide)).to (by simp)) fun _ =>
    (er_and (a := true) (b := true) ((er_eqi (er_cnt (w := []) (er_lit tx_nil) (by decide)) er_int).to (by decide)) fun _ =>
    ((er_eqt (er_call1 (f := fun row => tx (rf row (row.length - 1))) (a := [7]) (ErF.er (erf_lst (eal_cons er_int eal_nil) (by decide))) ⟨by decide, by decide, hw7⟩) (er_lit tx_nil)).to (by rw [tx_beq]; decide))).to rfl).to rfl).to rfl) fun u H4 e4 ru => ?_
  obtain rfl : u = .bl true := ru
  exact q H4
theorem ok_law {f f_l_word f_count f_l_whole f_l_count f_l_cell_at f_l_draw f_l_orders f_l_by f_word_of : Addr} {fd fd_l_word fd_count fd_l_whole fd_l_count fd_l_cell_at fd_l_draw fd_l_orders fd_l_by fd_word_of : FuncData} (F : Fun K "law" "law" s_law f fd) (T : Bi mg) (c_l_word : Cal P w K mg base 2 "_law_word" ["_law_script"] (sp_l_word K) f_l_word fd_l_word) (c_count : Cal P w K mg base 2 "count" ["word"] (sp_count K) f_count fd_count) (c_l_whole : Cal P w K mg base 1 "_law_whole" ["_law_number"] (sp_l_whole K) f_l_whole fd_l_whole) (c_l_count : Cal P w K mg base 1 "_law_count" ["_law_word_here"] (sp_l_count K) f_l_count fd_l_count) (c_l_cell_at : Cal P w K mg base 1 "_law_cell_at" ["_law_script", "_law_k"] (sp_l_cell_at K) f_l_cell_at fd_l_cell_at) (c_l_draw : Cal P w K mg base 1 "_law_draw" ["_law_cell", "_law_k", "_law_many"] (sp_l_draw K) f_l_draw fd_l_draw) (c_l_orders : Cal P w K mg base 1 "_law_orders" ["_law_many"] (sp_l_orders K) f_l_orders fd_l_orders) (c_l_by : Cal P w K mg base 1 "_law_by" ["_law_row"] (sp_l_by K) f_l_by fd_l_by) (c_word_of : Cal P w K mg base 3 "word_of" ["row"] (sp_word_of K) f_word_of fd_word_of) : FnOk P w K mg base CX0 4 f fd ["_law_script"] (sp_law K) :=
  F.ok sc_law (fun vs H Q E h => by first | exact len_pr1 h | exact len_pr2 h | exact len_pr3 h | exact len_prF1 h | exact len_prF2 h | exact len_law h) (fun cdv A outer s H vs Q E hr h => ⟨t_law K, by exact
    ((pss_cons (ps_set (i := 1) sc_law.nd rfl (.inl rfl) (pe_call c_l_word.ok (hr.mono (by decide)) (by rfl) c_l_word.g c_l_word.kp c_l_word.b .nil pass0 (pa_cons (pv 0) pa_nil)))
      (pss_cons (ps_set (i := 2) sc_law.nd rfl (.inl rfl) (pe_call c_count.ok (hr.mono (by decide)) (by rfl) c_count.g c_count.kp c_count.b .nil pass0 (pa_cons (pv 1) pa_nil)))
      (pss_cons (ps_if (PW.pt (pw_or (pt_not (pt_val (pe_call c_l_whole.ok (hr.mono (by decide)) (by rfl) c_l_whole.g c_l_whole.kp c_l_whole.b .nil pass0 (pa_cons (pv 2) pa_nil)))) (pw_or (pt_cmpR oNeI (pv 2) (pe_call c_l_count.ok (hr.mono (by decide)) (by rfl) c_l_count.g c_l_count.kp c_l_count.b .nil pass0 (pa_cons (pv 1) pa_nil)) (nomark _)) (pw_or1 (pt_cmpR oLtI (pv 2) pe_int (nomark _)))))) (pss_one (ps_ret pe_bl))
      pss_nil)
      (pss_cons (ps_if (pt_cmpR oNeI (pe_op oAddI (pe_call c_count.ok (hr.mono (by decide)) (by rfl) c_count.g c_count.kp c_count.b .nil pass0 (pa_cons (pe_op oAddT (pv 1) pe_str) pa_nil)) (pe_call c_count.ok (hr.mono (by decide)) (by rfl) c_count.g c_count.kp c_count.b .nil pass0 (pa_cons (pe_op oAddT (pv 1) pe_str) pa_nil))) (pe_op oMulI (pe_op oAddI (pe_callB cLenT (by rfl) T.len_ (by decide +kernel) (pa_cons (pv 1) pa_nil)) pe_int) (pv 2)) (nomark _)) (pss_one (ps_ret pe_bl))
      pss_nil)
      (pss_cons (ps_set (i := 3) sc_law.nd rfl (.inl rfl) (pe_join' pe_str (pe_lc (own := [("_law_letter", 8)]) (g := (gName 8)) (tt := tYes) rfl sc_law.nd (pi_str (pv 1)) (blkOk_by (own := [("_law_letter", 8)]) (N := N_law) (sc := defScope s_law) (by decide +kernel)) (fun _ _ _ _ _ => (pg_name (i := 8) sc_law.nd rfl (.inl rfl))) (fun _ _ _ _ _ => pts_nil) (fun _ _ _ _ _ => (pe_ifExp (pt_cmpR oEqT (pv 8) pe_str (nomark _)) pe_str pe_str)))))
      (pss_cons (ps_if (PW.pt (pw_or (pt_cmpR oNeI (pe_call c_count.ok (hr.mono (by decide)) (by rfl) c_count.g c_count.kp c_count.b .nil pass0 (pa_cons (pv 3) pa_nil)) (pv 2) (nomark _)) (pw_or (pt_cmpR oNeI (pe_call c_count.ok (hr.mono (by decide)) (by rfl) c_count.g c_count.kp c_count.b .nil pass0 (pa_cons (pe_revS (pv 1)) pa_nil)) (pv 2) (nomark _)) (pw_or1 (pt_cmpR oNeI (pe_call c_count.ok (hr.mono (by decide)) (by rfl) c_count.g c_count.kp c_count.b .nil pass0 (pa_cons (pe_revS (pv 3)) pa_nil)) (pv 2) (nomark _)))))) (pss_one (ps_ret pe_bl))
      pss_nil)
      (pss_cons (ps_if (pt_cmpR oGtI (pv 2) (pe_call c_count.ok (hr.mono (by decide)) (by rfl) c_count.g c_count.kp c_count.b .nil pass0 (pa_cons (pe_slice sl_str (pe_op oMulT pe_str (pe_callB cLenT (by rfl) T.len_ (by decide +kernel) (pa_cons (pv 1) pa_nil))) po_none (po_some (pe_callB cLenT (by rfl) T.len_ (by decide +kernel) (pa_cons (pv 1) pa_nil)))) pa_nil)) (nomark _)) (pss_one (ps_ret pe_bl))
      pss_nil)
      (pss_cons (ps_set (i := 4) sc_law.nd rfl (.inr rfl) (pe_slice sl_str (pv 1) po_none (po_some (pe_call c_l_draw.ok (hr.mono (by decide)) (by rfl) c_l_draw.g c_l_draw.kp c_l_draw.b .nil pass0 (pa_cons (pe_call c_l_cell_at.ok (hr.mono (by decide)) (by rfl) c_l_cell_at.g c_l_cell_at.kp c_l_cell_at.b .nil pass0 (pa_cons (pv 0) (pa_cons pe_int pa_nil))) (pa_cons pe_int (pa_cons pe_int pa_nil)))))))
      (pss_cons (ps_if (pt_cmpR oNeI (pe_call c_count.ok (hr.mono (by decide)) (by rfl) c_count.g c_count.kp c_count.b .nil pass0 (pa_cons (pv 4) pa_nil)) (pe_callB cLenL (by rfl) T.len_ (by decide +kernel) (pa_cons (pe_lc (own := [("_law_order", 9)]) (g := (gName 9)) (tt := (tTest (tOp rEqT (tCall (sp_l_by K) [] E0 (tCons (tVar 9) tNil)) (tVar 4)))) rfl sc_law.nd (pi_list (pe_call c_l_orders.ok (hr.mono (by decide)) (by rfl) c_l_orders.g c_l_orders.kp c_l_orders.b .nil pass0 (pa_cons (pe_op oAddI (pe_callB cLenT (by rfl) T.len_ (by decide +kernel) (pa_cons (pv 4) pa_nil)) pe_int) pa_nil))) (blkOk_by (own := [("_law_order", 9)]) (N := N_law) (sc := defScope s_law) (by decide +kernel)) (fun _ _ _ _ _ => (pg_name (i := 9) sc_law.nd rfl (.inl rfl))) (fun _ _ _ _ _ => (pts_one (pt_cmpR oEqT (pe_call c_l_by.ok (hr.mono (by decide)) (by rfl) c_l_by.g c_l_by.kp c_l_by.b .nil pass0 (pa_cons (pv 9) pa_nil)) (pv 4) (nomark _)))) (fun _ _ _ _ _ => (pv 9))) pa_nil)) (nomark _)) (pss_one (ps_ret pe_bl))
      pss_nil)
      (pss_cons (ps_setLc (i := 5) (own := [("_law_k", 7)]) (g := (gName 7)) (tt := (tOr (tTest (tOp rEqI (tVar 7) (tC (.int 0)))) (tTest (tOp rNeI (tOp (rIxL K) (tVar 0) (tVar 7)) (tOp (rIxL K) (tVar 0) (tOp rSubI (tVar 7) (tC (.int 1)))))))) rfl sc_law.nd rfl rfl (sw_true rfl rfl rfl (by decide +kernel)) (pi_range1 (by rfl) T.range_ (pa_cons (pe_callB cLenL (by rfl) T.len_ (by decide +kernel) (pa_cons (pv 0) pa_nil)) pa_nil)) (blkOk_by (own := [("_law_k", 7)]) (N := N_law) (sc := defScope s_law) (by decide +kernel)) (fun _ _ _ _ _ => (pg_name (i := 7) sc_law.nd rfl (.inl rfl))) (fun _ _ _ _ _ => (pts_one (PW.pt (pw_or (pt_cmpR oEqI (pv 7) pe_int (nomark _)) (pw_or1 (pt_cmpR oNeI (pe_ix ix_list (pv 0) (pv 7) (fun _ _ => rfl)) (pe_ix ix_list (pv 0) (pe_op oSubI (pv 7) pe_int) (fun _ _ => rfl)) (nomark _))))))) (fun _ _ _ _ _ => (pe_ix ix_list (pv 0) (pv 7) (fun _ _ => rfl))))
      (pss_cons (ps_expr (pe_bm PySem.F.plainAttrs_list PySem.F.slot_list_append PySem.F.type_list_append mt_append (pv 5) (pa_cons (pe_op oAddI pe_int (pe_callB (cMaxL rfl) (by rfl) T.max_ (by decide +kernel) (pa_cons (pe_op op_cat (pe_lst (pa_cons pe_int pa_nil)) (pe_lc (own := [("_law_number", 10)]) (g := (gName 10)) (tt := tYes) rfl sc_law.nd (pi_list (pv 5)) (blkOk_by (own := [("_law_number", 10)]) (N := N_law) (sc := defScope s_law) (by decide +kernel)) (fun _ _ _ _ _ => (pg_name (i := 10) sc_law.nd rfl (.inl rfl))) (fun _ _ _ _ _ => pts_nil) (fun _ _ _ _ _ => (pe_callB cAbs (by rfl) T.abs_ (by decide +kernel) (pa_cons (pv 10) pa_nil))))) pa_nil))) pa_nil)))
      (pss_cons (ps_set (i := 6) sc_law.nd rfl (.inl rfl) (pe_callTy cLstL (by rfl) T.list_ (by decide +kernel) (pa_cons (pv 5) pa_nil)))
      (pss_one (ps_ret (pe_and (pe_cmpR oEqT (pe_call c_word_of.ok (hr.mono (by decide)) (by rfl) c_word_of.g c_word_of.kp c_word_of.b .nil pass0 (pa_cons (pv 5) pa_nil)) (pe_call c_l_by.ok (hr.mono (by decide)) (by rfl) c_l_by.g c_l_by.kp c_l_by.b .nil pass0 (pa_cons (pv 5) pa_nil)) (nomark _)) (pe_and (pe_cmpR (op_eqD hr.units) (pv 5) (pv 6) (nomark _)) (pe_and (pe_cmpR oEqI (pe_call c_count.ok (hr.mono (by decide)) (by rfl) c_count.g c_count.kp c_count.b .nil pass0 (pa_cons pe_str pa_nil)) pe_int (nomark _)) (pe_one (pe_cmpR oEqT (pe_call c_word_of.ok (hr.mono (by decide)) (by rfl) c_word_of.g c_word_of.kp c_word_of.b .nil pass0 (pa_cons (pe_lst (pa_cons pe_int pa_nil)) pa_nil)) pe_str (nomark _))))))))))))))))))))), pure_law K vs H Q E h⟩)


theorem all_mk {l : PySem.W.OpenLaw} {w : World} {K : PySem.W.Frag} {h : Heap} {mg : Str → Option Value} {fa f0 f1 f2 f3 f4 f5 f6 f7 f8 f9 f10 f11 f12 f13 f14 : Addr} {od0 an0 od1 an1 od2 an2 od3 an3 od4 an4 od5 an5 od6 an6 od7 an7 od8 an8 od9 an9 od10 an10 od11 an11 od12 an12 od13 an13 od14 an14 : Option Addr} {sl0 sl1 sl2 sl3 sl4 sl5 sl6 sl7 sl8 sl9 sl10 sl11 sl12 sl13 sl14 : Array (Option Value)} {oc0 kV0 dc0 pm0 cd0 ct0 oc1 kV1 dc1 pm1 cd1 ct1 oc2 kV2 dc2 pm2 cd2 ct2 oc3 kV3 dc3 pm3 cd3 ct3 oc4 kV4 dc4 pm4 cd4 ct4 oc5 kV5 dc5 pm5 cd5 ct5 oc6 kV6 dc6 pm6 cd6 ct6 oc7 kV7 dc7 pm7 cd7 ct7 oc8 kV8 dc8 pm8 cd8 ct8 oc9 kV9 dc9 pm9 cd9 ct9 oc10 kV10 dc10 pm10 cd10 ct10 oc11 kV11 dc11 pm11 cd11 ct11 oc12 kV12 dc12 pm12 cd12 ct12 oc13 kV13 dc13 pm13 cd13 ct13 oc14 kV14 dc14 pm14 cd14 ct14 : Value} (X : K.In h) (G : h.Ns mainGlobals mg) (hfa : mg "law" = some (.ref fa))
    (a0 : PySem.W.nsIn K mainGlobals "is_whole" = some (some (.ref f0)))
    (l0 : K.lookup f0 = some ⟨oc0, od0, .func (PySem.W.fnOf "is_whole" "is_whole" (defArgs s_is_whole) (defBody s_is_whole) (defScope s_is_whole) .none kV0 dc0 pm0 an0 cd0 ct0), sl0⟩) (c0 : PySem.W.codeIn K cd0 "is_whole" = true) (k0 : PySem.W.keepIn K (.ref f0) = true)
    (a1 : PySem.W.nsIn K mainGlobals "check_word" = some (some (.ref f1)))
    (l1 : K.lookup f1 = some ⟨oc1, od1, .func (PySem.W.fnOf "check_word" "check_word" (defArgs s_check_word) (defBody s_check_word) (defScope s_check_word) .none kV1 dc1 pm1 an1 cd1 ct1), sl1⟩) (c1 : PySem.W.codeIn K cd1 "check_word" = true) (k1 : PySem.W.keepIn K (.ref f1) = true)
    (a2 : PySem.W.nsIn K mainGlobals "rests_of" = some (some (.ref f2)))
    (l2 : K.lookup f2 = some ⟨oc2, od2, .func (PySem.W.fnOf "rests_of" "rests_of" (defArgs s_rests_of) (defBody s_rests_of) (defScope s_rests_of) .none kV2 dc2 pm2 an2 cd2 ct2), sl2⟩) (c2 : PySem.W.codeIn K cd2 "rests_of" = true) (k2 : PySem.W.keepIn K (.ref f2) = true)
    (a3 : PySem.W.nsIn K mainGlobals "count" = some (some (.ref f3)))
    (l3 : K.lookup f3 = some ⟨oc3, od3, .func (PySem.W.fnOf "count" "count" (defArgs s_count) (defBody s_count) (defScope s_count) .none kV3 dc3 pm3 an3 cd3 ct3), sl3⟩) (c3 : PySem.W.codeIn K cd3 "count" = true) (k3 : PySem.W.keepIn K (.ref f3) = true)
    (a4 : PySem.W.nsIn K mainGlobals "word_by" = some (some (.ref f4)))
    (l4 : K.lookup f4 = some ⟨oc4, od4, .func (PySem.W.fnOf "word_by" "word_by" (defArgs s_word_by) (defBody s_word_by) (defScope s_word_by) .none kV4 dc4 pm4 an4 cd4 ct4), sl4⟩) (c4 : PySem.W.codeIn K cd4 "word_by" = true) (k4 : PySem.W.keepIn K (.ref f4) = true)
    (a5 : PySem.W.nsIn K mainGlobals "check_row" = some (some (.ref f5)))
    (l5 : K.lookup f5 = some ⟨oc5, od5, .func (PySem.W.fnOf "check_row" "check_row" (defArgs s_check_row) (defBody s_check_row) (defScope s_check_row) .none kV5 dc5 pm5 an5 cd5 ct5), sl5⟩) (c5 : PySem.W.codeIn K cd5 "check_row" = true) (k5 : PySem.W.keepIn K (.ref f5) = true)
    (a6 : PySem.W.nsIn K mainGlobals "word_of" = some (some (.ref f6)))
    (l6 : K.lookup f6 = some ⟨oc6, od6, .func (PySem.W.fnOf "word_of" "word_of" (defArgs s_word_of) (defBody s_word_of) (defScope s_word_of) .none kV6 dc6 pm6 an6 cd6 ct6), sl6⟩) (c6 : PySem.W.codeIn K cd6 "word_of" = true) (k6 : PySem.W.keepIn K (.ref f6) = true)
    (a7 : PySem.W.nsIn K mainGlobals "_law_cell_at" = some (some (.ref f7)))
    (l7 : K.lookup f7 = some ⟨oc7, od7, .func (PySem.W.fnOf "_law_cell_at" "_law_cell_at" (defArgs s_l_cell_at) (defBody s_l_cell_at) (defScope s_l_cell_at) .none kV7 dc7 pm7 an7 cd7 ct7), sl7⟩) (c7 : PySem.W.codeIn K cd7 "_law_cell_at" = true) (k7 : PySem.W.keepIn K (.ref f7) = true)
    (a8 : PySem.W.nsIn K mainGlobals "_law_draw" = some (some (.ref f8)))
    (l8 : K.lookup f8 = some ⟨oc8, od8, .func (PySem.W.fnOf "_law_draw" "_law_draw" (defArgs s_l_draw) (defBody s_l_draw) (defScope s_l_draw) .none kV8 dc8 pm8 an8 cd8 ct8), sl8⟩) (c8 : PySem.W.codeIn K cd8 "_law_draw" = true) (k8 : PySem.W.keepIn K (.ref f8) = true)
    (a9 : PySem.W.nsIn K mainGlobals "_law_whole" = some (some (.ref f9)))
    (l9 : K.lookup f9 = some ⟨oc9, od9, .func (PySem.W.fnOf "_law_whole" "_law_whole" (defArgs s_l_whole) (defBody s_l_whole) (defScope s_l_whole) .none kV9 dc9 pm9 an9 cd9 ct9), sl9⟩) (c9 : PySem.W.codeIn K cd9 "_law_whole" = true) (k9 : PySem.W.keepIn K (.ref f9) = true)
    (a10 : PySem.W.nsIn K mainGlobals "_law_count" = some (some (.ref f10)))
    (l10 : K.lookup f10 = some ⟨oc10, od10, .func (PySem.W.fnOf "_law_count" "_law_count" (defArgs s_l_count) (defBody s_l_count) (defScope s_l_count) .none kV10 dc10 pm10 an10 cd10 ct10), sl10⟩) (c10 : PySem.W.codeIn K cd10 "_law_count" = true) (k10 : PySem.W.keepIn K (.ref f10) = true)
    (a11 : PySem.W.nsIn K mainGlobals "_law_by" = some (some (.ref f11)))
    (l11 : K.lookup f11 = some ⟨oc11, od11, .func (PySem.W.fnOf "_law_by" "_law_by" (defArgs s_l_by) (defBody s_l_by) (defScope s_l_by) .none kV11 dc11 pm11 an11 cd11 ct11), sl11⟩) (c11 : PySem.W.codeIn K cd11 "_law_by" = true) (k11 : PySem.W.keepIn K (.ref f11) = true)
    (a12 : PySem.W.nsIn K mainGlobals "_law_orders" = some (some (.ref f12)))
    (l12 : K.lookup f12 = some ⟨oc12, od12, .func (PySem.W.fnOf "_law_orders" "_law_orders" (defArgs s_l_orders) (defBody s_l_orders) (defScope s_l_orders) .none kV12 dc12 pm12 an12 cd12 ct12), sl12⟩) (c12 : PySem.W.codeIn K cd12 "_law_orders" = true) (k12 : PySem.W.keepIn K (.ref f12) = true)
    (a13 : PySem.W.nsIn K mainGlobals "_law_word" = some (some (.ref f13)))
    (l13 : K.lookup f13 = some ⟨oc13, od13, .func (PySem.W.fnOf "_law_word" "_law_word" (defArgs s_l_word) (defBody s_l_word) (defScope s_l_word) .none kV13 dc13 pm13 an13 cd13 ct13), sl13⟩) (c13 : PySem.W.codeIn K cd13 "_law_word" = true) (k13 : PySem.W.keepIn K (.ref f13) = true)
    (a14 : PySem.W.nsIn K mainGlobals "law" = some (some (.ref f14)))
    (l14 : K.lookup f14 = some ⟨oc14, od14, .func (PySem.W.fnOf "law" "law" (defArgs s_law) (defBody s_law) (defScope s_law) .none kV14 dc14 pm14 an14 cd14 ct14), sl14⟩) (c14 : PySem.W.codeIn K cd14 "law" = true) (k14 : PySem.W.keepIn K (.ref f14) = true)
    (z_abs : PySem.W.nsIn K mainGlobals "abs" = some none)
    (z_all : PySem.W.nsIn K mainGlobals "all" = some none)
    (z_bool : PySem.W.nsIn K mainGlobals "bool" = some none)
    (z_enumerate : PySem.W.nsIn K mainGlobals "enumerate" = some none)
    (z_int : PySem.W.nsIn K mainGlobals "int" = some none)
    (z_isinstance : PySem.W.nsIn K mainGlobals "isinstance" = some none)
    (z_len : PySem.W.nsIn K mainGlobals "len" = some none)
    (z_list : PySem.W.nsIn K mainGlobals "list" = some none)
    (z_max : PySem.W.nsIn K mainGlobals "max" = some none)
    (z_range : PySem.W.nsIn K mainGlobals "range" = some none)
    (z_str : PySem.W.nsIn K mainGlobals "str" = some none)
    (z_sum : PySem.W.nsIn K mainGlobals "sum" = some none) :
    ∃ fd : FuncData, (∀ (s : Shared) (v : Value), BindsTo s fd ⟨[v], []⟩ [("_law_script", v)]) ∧ ∀ base : Heap, K.In base → base.Ns mainGlobals mg → FnOk l.prog w K mg base CX0 4 fa fd ["_law_script"] (sp_law K) := by
  have e := hfa.symm.trans (PySem.W.mg_of X G a14)
  cases e
  have T : Bi mg := ⟨PySem.W.mg_none_of X G z_abs, PySem.W.mg_none_of X G z_all, PySem.W.mg_none_of X G z_bool, PySem.W.mg_none_of X G z_enumerate, PySem.W.mg_none_of X G z_int, PySem.W.mg_none_of X G z_isinstance, PySem.W.mg_none_of X G z_len, PySem.W.mg_none_of X G z_list, PySem.W.mg_none_of X G z_max, PySem.W.mg_none_of X G z_range, PySem.W.mg_none_of X G z_str, PySem.W.mg_none_of X G z_sum⟩
  have F0 := fun_mk (st := s_is_whole) l0 c0 k0
  have b0 := F0.binds (ps := ["thing"]) fun _ _ _ _ _ _ us hl => match us, hl with | [_], _ => rfl
  have F1 := fun_mk (st := s_check_word) l1 c1 k1
  have b1 := F1.binds (ps := ["word"]) fun _ _ _ _ _ _ us hl => match us, hl with | [_], _ => rfl
  have F2 := fun_mk (st := s_rests_of) l2 c2 k2
  have b2 := F2.binds (ps := ["word"]) fun _ _ _ _ _ _ us hl => match us, hl with | [_], _ => rfl
  have F3 := fun_mk (st := s_count) l3 c3 k3
  have b3 := F3.binds (ps := ["word"]) fun _ _ _ _ _ _ us hl => match us, hl with | [_], _ => rfl
  have F4 := fun_mk (st := s_word_by) l4 c4 k4
  have b4 := F4.binds (ps := ["row"]) fun _ _ _ _ _ _ us hl => match us, hl with | [_], _ => rfl
  have F5 := fun_mk (st := s_check_row) l5 c5 k5
  have b5 := F5.binds (ps := ["row"]) fun _ _ _ _ _ _ us hl => match us, hl with | [_], _ => rfl
  have F6 := fun_mk (st := s_word_of) l6 c6 k6
  have b6 := F6.binds (ps := ["row"]) fun _ _ _ _ _ _ us hl => match us, hl with | [_], _ => rfl
  have F7 := fun_mk (st := s_l_cell_at) l7 c7 k7
  have b7 := F7.binds (ps := ["_law_script", "_law_k"]) fun _ _ _ _ _ _ us hl => match us, hl with | [_, _], _ => rfl
  have F8 := fun_mk (st := s_l_draw) l8 c8 k8
  have b8 := F8.binds (ps := ["_law_cell", "_law_k", "_law_many"]) fun _ _ _ _ _ _ us hl => match us, hl with | [_, _, _], _ => rfl
  have F9 := fun_mk (st := s_l_whole) l9 c9 k9
  have b9 := F9.binds (ps := ["_law_number"]) fun _ _ _ _ _ _ us hl => match us, hl with | [_], _ => rfl
  have F10 := fun_mk (st := s_l_count) l10 c10 k10
  have b10 := F10.binds (ps := ["_law_word_here"]) fun _ _ _ _ _ _ us hl => match us, hl with | [_], _ => rfl
  have F11 := fun_mk (st := s_l_by) l11 c11 k11
  have b11 := F11.binds (ps := ["_law_row"]) fun _ _ _ _ _ _ us hl => match us, hl with | [_], _ => rfl
  have F12 := fun_mk (st := s_l_orders) l12 c12 k12
  have b12 := F12.binds (ps := ["_law_many"]) fun _ _ _ _ _ _ us hl => match us, hl with | [_], _ => rfl
  have F13 := fun_mk (st := s_l_word) l13 c13 k13
  have b13 := F13.binds (ps := ["_law_script"]) fun _ _ _ _ _ _ us hl => match us, hl with | [_], _ => rfl
  have F14 := fun_mk (st := s_law) l14 c14 k14
  refine ⟨PySem.W.fnOf "law" "law" (defArgs s_law) (defBody s_law) (defScope s_law) .none kV14 dc14 pm14 an14 cd14 ct14, fun s v => .of_eq rfl, fun base _ _ => ?_⟩
  have q_is_whole : Cal l.prog w K mg base 1 "is_whole" ["thing"] (sp_is_whole K) f0 _ := ⟨ok_is_whole F0 T, PySem.W.mg_of X G a0, k0, b0⟩
  have q_check_word : Cal l.prog w K mg base 1 "check_word" ["word"] (sp_check_word K) f1 _ := ⟨ok_check_word F1 T, PySem.W.mg_of X G a1, k1, b1⟩
  have q_rests_of : Cal l.prog w K mg base 1 "rests_of" ["word"] (sp_rests_of K) f2 _ := ⟨ok_rests_of F2 T, PySem.W.mg_of X G a2, k2, b2⟩
  have q_count : Cal l.prog w K mg base 2 "count" ["word"] (sp_count K) f3 _ := ⟨ok_count F3 T q_check_word q_rests_of, PySem.W.mg_of X G a3, k3, b3⟩
  have q_word_by : Cal l.prog w K mg base 1 "word_by" ["row"] (sp_word_by K) f4 _ := ⟨ok_word_by F4 T, PySem.W.mg_of X G a4, k4, b4⟩
  have q_check_row : Cal l.prog w K mg base 2 "check_row" ["row"] (sp_check_row K) f5 _ := ⟨ok_check_row F5 T q_is_whole, PySem.W.mg_of X G a5, k5, b5⟩
  have q_word_of : Cal l.prog w K mg base 3 "word_of" ["row"] (sp_word_of K) f6 _ := ⟨ok_word_of F6 T q_check_row q_word_by, PySem.W.mg_of X G a6, k6, b6⟩
  have q_l_cell_at : Cal l.prog w K mg base 1 "_law_cell_at" ["_law_script", "_law_k"] (sp_l_cell_at K) f7 _ := ⟨ok_l_cell_at F7 T, PySem.W.mg_of X G a7, k7, b7⟩
  have q_l_draw : Cal l.prog w K mg base 1 "_law_draw" ["_law_cell", "_law_k", "_law_many"] (sp_l_draw K) f8 _ := ⟨ok_l_draw F8 T, PySem.W.mg_of X G a8, k8, b8⟩
  have q_l_whole : Cal l.prog w K mg base 1 "_law_whole" ["_law_number"] (sp_l_whole K) f9 _ := ⟨ok_l_whole F9 T, PySem.W.mg_of X G a9, k9, b9⟩
  have q_l_count : Cal l.prog w K mg base 1 "_law_count" ["_law_word_here"] (sp_l_count K) f10 _ := ⟨ok_l_count F10 T, PySem.W.mg_of X G a10, k10, b10⟩
  have q_l_by : Cal l.prog w K mg base 1 "_law_by" ["_law_row"] (sp_l_by K) f11 _ := ⟨ok_l_by F11 T, PySem.W.mg_of X G a11, k11, b11⟩
  have q_l_orders : Cal l.prog w K mg base 1 "_law_orders" ["_law_many"] (sp_l_orders K) f12 _ := ⟨ok_l_orders F12 T, PySem.W.mg_of X G a12, k12, b12⟩
  have q_l_word : Cal l.prog w K mg base 2 "_law_word" ["_law_script"] (sp_l_word K) f13 _ := ⟨ok_l_word F13 T q_l_cell_at q_l_draw, PySem.W.mg_of X G a13, k13, b13⟩
  exact ok_law F14 T q_l_word q_count q_l_whole q_l_count q_l_cell_at q_l_draw q_l_orders q_l_by q_word_of

end
end W
open PySem PySem.W PyProof.Rows
set_option maxHeartbeats 0 in
theorem PySem.Challenge.cw_risefall_k01_whole_counts_holds : PySem.Challenge.rw_risefall_k01_whole_counts.Holds := by
  w_on; o_law; k_head; (case hw => w_witness2)
  k_fill
  refine L2.walk_of (l := PySem.Challenge.rw_risefall_k01_whole_counts) (n := 63) (k := 4) (x := "_law_script") (CX := fun _ => L2.CX0) (sp := fun w => W.sp_law _) rfl (by decide) rfl ⟨rfl, by decide, by decide⟩ (fun w h Y => PySem.W.kIn_of Y) ?F (fun _ _ a ns hl _ hS => W.law_asks hl hS) (fun _ _ _ _ _ h => h)
  case F =>
    intro w mg fa h KX G hmg
    refine' W.all_mk KX G hmg ?a0 ?l0 ?c0 ?k0 ?a1 ?l1 ?c1 ?k1 ?a2 ?l2 ?c2 ?k2 ?a3 ?l3 ?c3 ?k3 ?a4 ?l4 ?c4 ?k4 ?a5 ?l5 ?c5 ?k5 ?a6 ?l6 ?c6 ?k6 ?a7 ?l7 ?c7 ?k7 ?a8 ?l8 ?c8 ?k8 ?a9 ?l9 ?c9 ?k9 ?a10 ?l10 ?c10 ?k10 ?a11 ?l11 ?c11 ?k11 ?a12 ?l12 ?c12 ?k12 ?a13 ?l13 ?c13 ?k13 ?a14 ?l14 ?c14 ?k14 ?z_abs ?z_all ?z_bool ?z_enumerate ?z_int ?z_isinstance ?z_len ?z_list ?z_max ?z_range ?z_str ?z_sum
    (case a0 => k_is)
    (case l0 => k_is)
    (case c0 => k_is)
    (case k0 => k_is)
    (case a1 => k_is)
    (case l1 => k_is)
    (case c1 => k_is)
    (case k1 => k_is)
    (case a2 => k_is)
    (case l2 => k_is)
    (case c2 => k_is)
    (case k2 => k_is)
    (case a3 => k_is)
    (case l3 => k_is)
    (case c3 => k_is)
    (case k3 => k_is)
    (case a4 => k_is)
    (case l4 => k_is)
    (case c4 => k_is)
    (case k4 => k_is)
    (case a5 => k_is)
    (case l5 => k_is)
    (case c5 => k_is)
    (case k5 => k_is)
    (case a6 => k_is)
    (case l6 => k_is)
    (case c6 => k_is)
    (case k6 => k_is)
    (case a7 => k_is)
    (case l7 => k_is)
    (case c7 => k_is)
    (case k7 => k_is)
    (case a8 => k_is)
    (case l8 => k_is)
    (case c8 => k_is)
    (case k8 => k_is)
    (case a9 => k_is)
    (case l9 => k_is)
    (case c9 => k_is)
    (case k9 => k_is)
    (case a10 => k_is)
    (case l10 => k_is)
    (case c10 => k_is)
    (case k10 => k_is)
    (case a11 => k_is)
    (case l11 => k_is)
    (case c11 => k_is)
    (case k11 => k_is)
    (case a12 => k_is)
    (case l12 => k_is)
    (case c12 => k_is)
    (case k12 => k_is)
    (case a13 => k_is)
    (case l13 => k_is)
    (case c13 => k_is)
    (case k13 => k_is)
    (case a14 => k_is)
    (case l14 => k_is)
    (case c14 => k_is)
    (case k14 => k_is)
    (case z_abs => k_is)
    (case z_all => k_is)
    (case z_bool => k_is)
    (case z_enumerate => k_is)
    (case z_int => k_is)
    (case z_isinstance => k_is)
    (case z_len => k_is)
    (case z_list => k_is)
    (case z_max => k_is)
    (case z_range => k_is)
    (case z_str => k_is)
    (case z_sum => k_is)
