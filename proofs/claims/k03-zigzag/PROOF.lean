import PyProof.Rows.All
import Wide.All
import OpenK.AllK
import Wide.FinOn
import HandS.ForMost
import HandS.ForExc
import HandS.Evl
import HandS.IsInst
import HandS.SortInts
import HandS.Style
import HandS.Conv
import KE.KRevSl
import HandS.SetFor
import HandS.Strs
import PyProof.Rows.SortShellAny
import HandS.WideBits
import HandS.Iter
import PyProof.StrLawsIn
import PyProof.EnumMake
import PyProof.Draws
import HandS.EndBits
import PySem.Challenge.RW_risefall_k03_whole_zigzag
set_option maxHeartbeats 1000000
namespace MC
/-! ### sums ahead of each place, and behind it -/
def pres (xs : List Int) : List Int := (List.range (xs.length + 1)).map fun j => (xs.take j).sum
def sufs (xs : List Int) : List Int := (List.range (xs.length + 1)).map fun j => (xs.drop j).sum
def step (b : Bool) (xs : List Int) : List Int := if b then pres xs else sufs xs
def run (v : List Bool) (xs : List Int) : List Int := v.foldl (fun l b => step b l) xs
def G (v : List Bool) (xs : List Int) : Int := (run v xs).sum
def F (v : List Bool) : Int := G v [1]

theorem pres_len (xs : List Int) : (pres xs).length = xs.length + 1 := by simp [pres]
theorem sufs_len (xs : List Int) : (sufs xs).length = xs.length + 1 := by simp [sufs]
theorem step_len (b : Bool) (xs : List Int) : (step b xs).length = xs.length + 1 := by
  cases b <;> simp [step, pres_len, sufs_len]
theorem run_cons (b : Bool) (v : List Bool) (xs : List Int) : run (b :: v) xs = run v (step b xs) := rfl
theorem run_append (v w : List Bool) (xs : List Int) : run (v ++ w) xs = run w (run v xs) := by simp [run, List.foldl_append]
theorem run_len (v : List Bool) (xs : List Int) : (run v xs).length = xs.length + v.length := by
  induction v generalizing xs with
  | nil => rfl
  | cons b v ih => rw [run_cons, ih, step_len, List.length_cons]; omega
theorem G_cons (b : Bool) (v : List Bool) (xs : List Int) : G (b :: v) xs = G v (step b xs) := rfl
theorem G_append (v w : List Bool) (xs : List Int) : G (v ++ w) xs = G w (run v xs) := by simp [G, run_append]
theorem take_drop_sum (xs : List Int) (j : Nat) : (xs.take j).sum + (xs.drop j).sum = xs.sum := by
  rw [← List.sum_append_int, List.take_append_drop]
theorem sufs_eq (xs : List Int) : sufs xs = (pres xs).map (fun s => xs.sum - s) := by
  simp only [sufs, pres, List.map_map]
  refine List.map_congr_left fun j _ => ?_
  have h := take_drop_sum xs j
  simp only [Function.comp]
  omega

/-! ### reversing -/
theorem sum_rev (xs : List Int) : xs.reverse.sum = xs.sum := by
  induction xs with
  | nil => rfl
  | cons x r ih => rw [List.reverse_cons, List.sum_append_int, ih]; simp only [List.sum_cons, List.sum_nil]; omega
theorem pres_rev (xs : List Int) : pres xs.reverse = (sufs xs).reverse := by
  apply List.ext_getElem
  · simp [pres_len, sufs_len]
  · intro i h1 h2
    have hi : i < xs.length + 1 := by simpa [pres_len] using h1
    simp only [pres, sufs, List.getElem_map, List.getElem_range, List.getElem_reverse, List.length_map, List.length_range]
    rw [List.take_reverse, sum_rev]
    congr 2
theorem sufs_rev (xs : List Int) : sufs xs.reverse = (pres xs).reverse := by
  have h := pres_rev xs.reverse
  rw [List.reverse_reverse] at h
  rw [h, List.reverse_reverse]
theorem step_rev (b : Bool) (xs : List Int) : step (!b) xs.reverse = (step b xs).reverse := by
  cases b
  · exact pres_rev xs
  · exact sufs_rev xs
theorem run_rev (v : List Bool) (xs : List Int) : run (v.map (!·)) xs.reverse = (run v xs).reverse := by
  induction v generalizing xs with
  | nil => rfl
  | cons b v ih => rw [List.map_cons, run_cons, run_cons, step_rev, ih]
theorem G_rev (v : List Bool) (xs : List Int) : G (v.map (!·)) xs.reverse = G v xs := by
  unfold G; rw [run_rev, sum_rev]
theorem F_not (v : List Bool) : F (v.map (!·)) = F v := G_rev v [1]

/-! ### adding and multiplying -/
def add : List Int → List Int → List Int
  | x :: xs, y :: ys => (x + y) :: add xs ys
  | _, _ => []
def scale (c : Int) (xs : List Int) : List Int := xs.map (c * ·)
theorem add_len : ∀ {xs ys : List Int}, xs.length = ys.length → (add xs ys).length = xs.length
  | [], [], _ => rfl
  | x :: xs, y :: ys, h => by simp only [add, List.length_cons]; rw [add_len (by simpa using h)]
theorem add_sum : ∀ {xs ys : List Int}, xs.length = ys.length → (add xs ys).sum = xs.sum + ys.sum
  | [], [], _ => rfl
  | x :: xs, y :: ys, h => by
    have ih := add_sum (xs := xs) (ys := ys) (by simpa using h)
    simp only [add, List.sum_cons, ih]; omega
theorem add_take : ∀ (xs ys : List Int) (j : Nat), (add xs ys).take j = add (xs.take j) (ys.take j)
  | _, _, 0 => by simp [add]
  | [], _, j + 1 => by simp [add]
  | x :: xs, [], j + 1 => by simp [add]
  | x :: xs, y :: ys, j + 1 => by simp [add, add_take xs ys j]
theorem add_drop : ∀ (xs ys : List Int) (j : Nat), xs.length = ys.length → (add xs ys).drop j = add (xs.drop j) (ys.drop j)
  | _, _, 0, _ => by simp
  | [], [], j + 1, _ => by simp [add]
  | x :: xs, y :: ys, j + 1, h => by simp [add, add_drop xs ys j (by simpa using h)]
theorem add_map (l : List Nat) (f g : Nat → Int) : add (l.map f) (l.map g) = l.map fun i => f i + g i := by
  induction l with
  | nil => rfl
  | cons x r ih => simp [add, ih]
theorem step_add (b : Bool) {xs ys : List Int} (h : xs.length = ys.length) : step b (add xs ys) = add (step b xs) (step b ys) := by
  cases b
  · simp only [step, sufs, Bool.false_eq_true, if_false, add_len h, ← h, add_map]
    refine List.map_congr_left fun j _ => ?_
    rw [add_drop _ _ _ h, add_sum (by simp [h])]
  · simp only [step, pres, if_true, add_len h, ← h, add_map]
    refine List.map_congr_left fun j _ => ?_
    rw [add_take, add_sum (by simp [h])]
theorem G_add (v : List Bool) {xs ys : List Int} (h : xs.length = ys.length) : G v (add xs ys) = G v xs + G v ys := by
  induction v generalizing xs ys with
  | nil => exact add_sum h
  | cons b v ih =>
    rw [G_cons, G_cons, G_cons, step_add b h, ih (by rw [step_len, step_len, h])]
theorem scale_sum (c : Int) (xs : List Int) : (scale c xs).sum = c * xs.sum := by
  induction xs with
  | nil => simp [scale]
  | cons x r ih => simp only [scale, List.map_cons, List.sum_cons] at ih ⊢; rw [ih, Int.mul_add]
theorem step_scale (b : Bool) (c : Int) (xs : List Int) : step b (scale c xs) = scale c (step b xs) := by
  cases b
  · simp only [step, sufs, Bool.false_eq_true, if_false, scale, List.length_map, List.map_map]
    refine List.map_congr_left fun j _ => ?_
    rw [← List.map_drop]
    exact scale_sum c _
  · simp only [step, pres, if_true, scale, List.length_map, List.map_map]
    refine List.map_congr_left fun j _ => ?_
    rw [← List.map_take]
    exact scale_sum c _
theorem G_scale (v : List Bool) (c : Int) (xs : List Int) : G v (scale c xs) = c * G v xs := by
  induction v generalizing xs with
  | nil => exact scale_sum c xs
  | cons b v ih => rw [G_cons, G_cons, step_scale, ih]
/-- the two letters together -/
def ones (m : Nat) : List Int := List.replicate m 1
theorem both (xs : List Int) : add (step true xs) (step false xs) = scale xs.sum (ones (xs.length + 1)) := by
  simp only [step, if_true, Bool.false_eq_true, if_false, pres, sufs, add_map]
  apply List.ext_getElem
  · simp [scale, ones]
  · intro i h1 h2
    simp only [List.getElem_map, scale, ones, List.getElem_replicate, take_drop_sum]
    omega
theorem G_both (v w : List Bool) (xs : List Int) : G (v ++ true :: w) xs + G (v ++ false :: w) xs = G v xs * G w (ones (xs.length + v.length + 1)) := by
  rw [G_append, G_append, G_cons, G_cons, ← G_add w (by rw [step_len, step_len]), both, G_scale, run_len]
  rfl
def g (v : List Bool) (m : Nat) : Int := G v (ones m)
theorem F_g (v : List Bool) : F v = g v 1 := rfl
theorem g_both (v w : List Bool) (m : Nat) : g (v ++ true :: w) m + g (v ++ false :: w) m = g v m * g w (m + v.length + 1) := by
  have h := G_both v w (ones m)
  rw [show (ones m).length = m by simp [ones]] at h
  exact h

/-! ### the product law -/
def fac : Nat → Int
  | 0 => 1
  | n + 1 => ((n : Int) + 1) * fac n
theorem fac_pos : ∀ n, 0 < fac n
  | 0 => by decide
  | n + 1 => by
    have h := fac_pos n
    show 0 < ((n : Int) + 1) * fac n
    exact Int.mul_pos (by omega) h
theorem fac_succ (n : Nat) : fac (n + 1) = ((n : Int) + 1) * fac n := rfl
/-- prefix sums of a list whose j-th item is known -/
theorem sum_take_range (f : Nat → Int) (n : Nat) : ∀ j, j ≤ n → (((List.range n).map f).take j).sum = ((List.range j).map f).sum := by
  intro j hj
  rw [← List.map_take, List.take_range, Nat.min_eq_left hj]
theorem sum_range_succ (f : Nat → Int) (n : Nat) : ((List.range (n + 1)).map f).sum = ((List.range n).map f).sum + f n := by
  rw [List.range_succ, List.map_append, List.sum_append_int]; simp
/-- the rows behind k rises over m + 1 ones -/
def cu (k i : Nat) : Int := match k, i with
  | 0, _ => 1
  | _ + 1, 0 => 0
  | k + 1, i + 1 => cu (k + 1) i + cu k i
theorem cu_zero (k : Nat) : cu (k + 1) 0 = 0 := by simp [cu]
theorem cu_succ (k i : Nat) : cu (k + 1) (i + 1) = cu (k + 1) i + cu k i := by simp [cu]
theorem cu_sum (k : Nat) : ∀ n, ((List.range n).map (cu k)).sum = cu (k + 1) n
  | 0 => by simp [cu_zero]
  | n + 1 => by rw [sum_range_succ, cu_sum k n, cu_succ]
theorem run_us (k m : Nat) : run (List.replicate k true) (ones m) = (List.range (m + k)).map (cu k) := by
  induction k with
  | zero =>
    simp only [List.replicate_zero, run, List.foldl_nil, ones, Nat.add_zero]
    apply List.ext_getElem
    · simp
    · intro i h1 h2; simp [cu]
  | succ k ih =>
    rw [List.replicate_succ', run_append, ih]
    show step true _ = _
    simp only [step, if_true, pres, List.length_map, List.length_range]
    refine List.map_congr_left fun j hj => ?_
    have hj' : j < m + k + 1 := List.mem_range.mp hj
    rw [sum_take_range _ _ _ (by omega), cu_sum]
theorem g_us (k m : Nat) : g (List.replicate k true) m = cu (k + 1) (m + k) := by
  unfold g G
  rw [run_us, cu_sum]
/-- cu k (n + k) = (n + k - 1 over k) ..: by factorials -/
theorem cu_low : ∀ (k i : Nat), i < k → cu k i = 0
  | 0, _, h => by omega
  | k + 1, 0, _ => cu_zero k
  | k + 1, i + 1, h => by
    rw [cu_succ, cu_low (k + 1) i (by omega), cu_low k i (by omega)]; rfl
theorem cu_fac : ∀ (i k : Nat), fac k * fac i * cu k (i + k) = fac (i + k)
  | i, 0 => by simp [cu, fac]
  | 0, k + 1 => by
    have ih := cu_fac 0 k
    rw [Nat.zero_add] at ih ⊢
    rw [cu_succ, cu_low (k + 1) k (by omega), fac_succ]
    rw [show (0 : Int) + cu k k = cu k k by omega]
    rw [Int.mul_assoc, Int.mul_assoc, ← Int.mul_assoc (fac k), ih]
  | i + 1, k + 1 => by
    have h1 := cu_fac i (k + 1)
    have h2 := cu_fac (i + 1) k
    have e1 : i + 1 + (k + 1) = (i + (k + 1)) + 1 := by omega
    have e2 : i + 1 + k = i + (k + 1) := by omega
    rw [e2] at h2
    rw [e1, cu_succ, fac_succ (i + (k + 1))]
    rw [fac_succ k] at h1 ⊢
    rw [fac_succ i] at h2 ⊢
    push_cast
    generalize cu (k + 1) (i + (k + 1)) = a at *
    generalize cu k (i + (k + 1)) = b at *
    generalize fac (i + (k + 1)) = c at *
    generalize fac i = d at *
    generalize fac k = e at *
    grind

theorem us_or_d : ∀ v : List Bool, v = List.replicate v.length true ∨ ∃ j w, v = List.replicate j true ++ false :: w
  | [] => .inl rfl
  | false :: w => .inr ⟨0, w, rfl⟩
  | true :: w => by
    rcases us_or_d w with h | ⟨j, w', h⟩
    · left; rw [List.length_cons, List.replicate_succ, ← h]
    · right; exact ⟨j + 1, w', by rw [List.replicate_succ, h]; rfl⟩
theorem fac_ne (n : Nat) : fac n ≠ 0 := by have := fac_pos n; omega
theorem g_us_one (k : Nat) : g (List.replicate k true) 1 = 1 := by
  rw [g_us]
  have h := cu_fac 0 (k + 1)
  rw [show 0 + (k + 1) = 1 + k by omega] at h
  rw [show k + 1 = 1 + k by omega] at h ⊢
  have h0 : fac 0 = 1 := rfl
  rw [h0, Int.mul_one] at h
  have h2 : fac (1 + k) * cu (1 + k) (1 + k) = fac (1 + k) * 1 := by rw [h, Int.mul_one]
  exact Int.eq_of_mul_eq_mul_left (fac_ne _) h2
theorem g_us_fac (k m : Nat) : fac m * fac (k + 1) * g (List.replicate k true) (m + 1) = fac (m + k + 1) := by
  rw [g_us]
  have h := cu_fac m (k + 1)
  rw [show m + 1 + k = m + (k + 1) by omega, Int.mul_comm (fac m), h]
  rfl
/-- a row of more ones: as many as from one, times a binomial -/
theorem prodA : ∀ (n : Nat) (v : List Bool), v.count false = n → ∀ m, fac m * fac (v.length + 1) * g v (m + 1) = fac (m + v.length + 1) * g v 1 := by
  intro n
  induction n with
  | zero =>
    intro v hv m
    rcases us_or_d v with h | ⟨j, w, h⟩
    · rw [h, List.length_replicate, g_us_fac, g_us_one, Int.mul_one]
    · rw [h] at hv; simp [List.count_append, List.count_replicate] at hv
  | succ n ih =>
    intro v hv m
    rcases us_or_d v with h | ⟨j, w, h⟩
    · rw [h] at hv; simp [List.count_replicate] at hv
    · rw [h] at hv
      have hw : w.count false = n := by simpa [List.count_append, List.count_replicate] using hv
      have hw2 : (List.replicate j true ++ true :: w).count false = n := by simp [List.count_append, List.count_replicate, hw]
      have i1 := ih w hw
      have i2 := ih _ hw2 m
      have b1 := g_both (List.replicate j true) w (m + 1)
      have b0 := g_both (List.replicate j true) w 1
      have u1 := g_us_fac j m
      have u0 := g_us_one j
      rw [List.length_replicate] at b1 b0
      have a1 := i1 (m + 1 + j)
      have a0 := i1 (1 + j)
      have el : (List.replicate j true ++ true :: w).length = j + w.length + 1 := by simp; omega
      have el2 : v.length = j + w.length + 1 := by rw [h]; simp; omega
      rw [el] at i2
      rw [el2, h]
      rw [u0, Int.one_mul] at b0
      rw [show j + w.length + 1 + 1 = j + w.length + 2 by omega] at i2 ⊢
      rw [show m + (j + w.length + 1) + 1 = m + j + w.length + 2 by omega] at i2 ⊢
      rw [show m + 1 + j + w.length + 1 = m + j + w.length + 2 by omega, show m + 1 + j = m + j + 1 by omega] at a1
      rw [show 1 + j + w.length + 1 = j + w.length + 2 by omega, show 1 + j = j + 1 by omega] at a0
      rw [show m + 1 + j + 1 = m + j + 1 + 1 by omega] at b1
      rw [show 1 + j + 1 = j + 1 + 1 by omega] at b0
      have p1 := fac_ne (m + j + 1)
      have p2 := fac_ne (j + 1)
      have p3 := fac_ne (w.length + 1)
      generalize g (List.replicate j true ++ true :: w) (m + 1) = T1 at *
      generalize g (List.replicate j true ++ true :: w) 1 = T0 at *
      generalize g (List.replicate j true ++ false :: w) (m + 1) = D1 at *
      generalize g (List.replicate j true ++ false :: w) 1 = D0 at *
      generalize g (List.replicate j true) (m + 1) = U at *
      generalize g w (m + j + 1 + 1) = W1 at *
      generalize g w (j + 1 + 1) = W0 at *
      generalize g w 1 = W at *
      generalize fac (m + j + 1) = A at *
      generalize fac (j + 1) = B at *
      generalize fac (w.length + 1) = C at *
      generalize fac (m + j + w.length + 2) = N at *
      generalize fac (j + w.length + 2) = M at *
      generalize fac m = E at *
      -- D1 = U W1 - T1, D0 = W0 - T0
      have e1 : D1 = U * W1 - T1 := by omega
      have e0 : D0 = W0 - T0 := by omega
      subst e1 e0
      have key : E * M * (U * W1) = N * W0 := by
        apply Int.eq_of_mul_eq_mul_left p2
        apply Int.eq_of_mul_eq_mul_left p3
        apply Int.eq_of_mul_eq_mul_left p1
        -- u1 : E * B * U = A; a1 : A * C * W1 = N * W; a0 : B * C * W0 = M * W
        calc A * (C * (B * (E * M * (U * W1)))) = (E * B * U) * M * (A * C * W1) := by grind
          _ = A * M * (N * W) := by rw [u1, a1]
          _ = A * N * (M * W) := by grind
          _ = A * N * (B * C * W0) := by rw [a0]
          _ = A * (C * (B * (N * W0))) := by grind
      grind
theorem prod (v w : List Bool) : fac (v.length + 1) * fac (w.length + 1) * (F (v ++ true :: w) + F (v ++ false :: w)) = fac (v.length + w.length + 2) * F v * F w := by
  have b := g_both v w 1
  have a := prodA _ w rfl (v.length + 1)
  rw [F_g, F_g, F_g, F_g, b]
  rw [show 1 + v.length + 1 = v.length + 1 + 1 by omega]
  rw [show v.length + 1 + w.length + 1 = v.length + w.length + 2 by omega] at a
  calc fac (v.length + 1) * fac (w.length + 1) * (g v 1 * g w (v.length + 1 + 1)) = (fac (v.length + 1) * fac (w.length + 1) * g w (v.length + 1 + 1)) * g v 1 := by grind
    _ = _ := by rw [a]; grind
theorem us_rev (k : Nat) : (List.replicate k true).reverse = List.replicate k true := by simp
/-- told backwards as many -/
theorem F_reverse : ∀ (n : Nat) (v : List Bool), v.count false = n → F v.reverse = F v := by
  intro n
  induction n with
  | zero =>
    intro v hv
    rcases us_or_d v with h | ⟨j, w, h⟩
    · rw [h, us_rev]
    · rw [h] at hv; simp [List.count_append, List.count_replicate] at hv
  | succ n ih =>
    intro v hv
    rcases us_or_d v with h | ⟨j, w, h⟩
    · rw [h] at hv; simp [List.count_replicate] at hv
    · rw [h] at hv
      have hw : w.count false = n := by simpa [List.count_append, List.count_replicate] using hv
      have hw2 : (List.replicate j true ++ true :: w).count false = n := by simp [List.count_append, List.count_replicate, hw]
      have i1 := ih w hw
      have i2 := ih _ hw2
      have q := prod (List.replicate j true) w
      have r := prod w.reverse (List.replicate j true)
      have er : v.reverse = w.reverse ++ false :: List.replicate j true := by rw [h]; simp
      have er2 : (List.replicate j true ++ true :: w).reverse = w.reverse ++ true :: List.replicate j true := by simp
      rw [er2] at i2
      rw [er, h]
      rw [List.length_reverse, List.length_replicate, i1, i2] at r
      rw [List.length_replicate] at q
      rw [show w.length + j + 2 = j + w.length + 2 by omega] at r
      have p1 := fac_ne (j + 1)
      have p2 := fac_ne (w.length + 1)
      have e : F (List.replicate j true ++ true :: w) + F (w.reverse ++ false :: List.replicate j true) = F (List.replicate j true ++ true :: w) + F (List.replicate j true ++ false :: w) := by
        apply Int.eq_of_mul_eq_mul_left p1
        apply Int.eq_of_mul_eq_mul_left p2
        grind
      omega
theorem F_rev (v : List Bool) : F v.reverse = F v := F_reverse _ v rfl
/-- one letter more -/
theorem F_more (v : List Bool) : F (v ++ [true]) + F (v ++ [false]) = ((v.length : Int) + 2) * F v := by
  have b := g_both v [] 1
  rw [F_g, F_g, b]
  have e : g [] (1 + v.length + 1) = (v.length : Int) + 2 := by
    show (ones (1 + v.length + 1)).sum = _
    have h : ∀ n : Nat, (ones n).sum = (n : Int) := by
      intro n
      induction n with
      | zero => rfl
      | succ n ih => simp only [ones, List.replicate_succ, List.sum_cons] at ih ⊢; rw [ih]; push_cast; omega
    rw [h]; push_cast; omega
  rw [e, F_g, Int.mul_comm]
end MC
set_option maxHeartbeats 1000000
namespace MC
/-! ### none more than by turns -/
inductive Le2 : List Int → List Int → Prop where
  | nil : Le2 [] []
  | cons {x y : Int} {xs ys : List Int} : x ≤ y → Le2 xs ys → Le2 (x :: xs) (y :: ys)
theorem Le2.refl : ∀ xs, Le2 xs xs
  | [] => .nil
  | x :: xs => .cons (Int.le_refl x) (Le2.refl xs)
theorem Le2.len {xs ys : List Int} (h : Le2 xs ys) : xs.length = ys.length := by
  induction h with
  | nil => rfl
  | cons _ _ ih => simp [ih]
theorem Le2.sum {xs ys : List Int} (h : Le2 xs ys) : xs.sum ≤ ys.sum := by
  induction h with
  | nil => exact Int.le_refl _
  | cons h _ ih => simp only [List.sum_cons]; omega
theorem Le2.take {xs ys : List Int} (h : Le2 xs ys) : ∀ j, Le2 (xs.take j) (ys.take j) := by
  induction h with
  | nil => intro j; simp; exact .nil
  | cons h _ ih =>
    intro j
    cases j with
    | zero => exact .nil
    | succ j => exact .cons h (ih j)
theorem Le2.drop {xs ys : List Int} (h : Le2 xs ys) : ∀ j, Le2 (xs.drop j) (ys.drop j) := by
  induction h with
  | nil => intro j; simp; exact .nil
  | cons h h2 ih =>
    intro j
    cases j with
    | zero => exact .cons h h2
    | succ j => exact ih j
theorem Le2.of_get : ∀ {xs ys : List Int}, xs.length = ys.length → (∀ (i : Nat) (h1 : i < xs.length) (h2 : i < ys.length), xs[i] ≤ ys[i]) → Le2 xs ys
  | [], [], _, _ => .nil
  | x :: xs, y :: ys, hl, h => .cons (h 0 (by simp) (by simp)) (Le2.of_get (by simpa using hl) fun i h1 h2 => h (i + 1) (by simpa using h1) (by simpa using h2))
theorem le2_map {f g : Nat → Int} : ∀ {l : List Nat}, (∀ j ∈ l, f j ≤ g j) → Le2 (l.map f) (l.map g)
  | [], _ => .nil
  | x :: l, h => .cons (h x (by simp)) (le2_map fun j hj => h j (by simp [hj]))
theorem Le2.step {xs ys : List Int} (h : Le2 xs ys) (b : Bool) : Le2 (step b xs) (step b ys) := by
  cases b
  · simp only [MC.step, Bool.false_eq_true, if_false, sufs, h.len]
    exact le2_map fun j _ => (h.drop j).sum
  · simp only [MC.step, if_true, pres, h.len]
    exact le2_map fun j _ => (h.take j).sum
theorem Le2.G {xs ys : List Int} (h : Le2 xs ys) (v : List Bool) : MC.G v xs ≤ MC.G v ys := by
  induction v generalizing xs ys with
  | nil => exact h.sum
  | cons b v ih => rw [G_cons, G_cons]; exact ih (h.step b)
def NN (xs : List Int) : Prop := ∀ x ∈ xs, 0 ≤ x
def Up (xs : List Int) : Prop := ∀ (i j : Nat) (h1 : i < xs.length) (h2 : j < xs.length), i ≤ j → xs[i] ≤ xs[j]
theorem sum_nn {xs : List Int} (h : NN xs) : 0 ≤ xs.sum := by
  induction xs with
  | nil => exact Int.le_refl _
  | cons x r ih =>
    simp only [List.sum_cons]
    have h1 := h x (by simp)
    have h2 := ih fun y hy => h y (by simp [hy])
    omega
theorem nn_step {xs : List Int} (h : NN xs) (b : Bool) : NN (step b xs) := by
  intro x hx
  cases b
  · simp only [step, Bool.false_eq_true, if_false, sufs, List.mem_map] at hx
    obtain ⟨j, _, rfl⟩ := hx
    exact sum_nn fun y hy => h y (List.mem_of_mem_drop hy)
  · simp only [step, if_true, pres, List.mem_map] at hx
    obtain ⟨j, _, rfl⟩ := hx
    exact sum_nn fun y hy => h y (List.mem_of_mem_take hy)
theorem nn_rev {xs : List Int} (h : NN xs) : NN xs.reverse := fun x hx => h x (by simpa using hx)
theorem sum_take_mono {xs : List Int} (h : NN xs) {i j : Nat} (hij : i ≤ j) : (xs.take i).sum ≤ (xs.take j).sum := by
  have e : xs.take j = xs.take i ++ (xs.take j).drop i := by
    have q := List.take_append_drop i (xs.take j)
    rw [List.take_take, Nat.min_eq_left hij] at q
    exact q.symm
  rw [e, List.sum_append_int]
  have := sum_nn (xs := (xs.take j).drop i) fun y hy => h y (List.mem_of_mem_take (List.mem_of_mem_drop hy))
  omega
theorem up_pres {xs : List Int} (h : NN xs) : Up (step true xs) := by
  intro i j h1 h2 hij
  simp only [step, if_true, pres, List.getElem_map, List.getElem_range]
  exact sum_take_mono h hij
theorem up_rev_sufs {xs : List Int} (h : NN xs) : Up (step false xs).reverse := by
  rw [← step_rev]
  exact up_pres (nn_rev h)
theorem up_le {xs : List Int} (h : Up xs) : Le2 (step true xs) (step true xs.reverse) := by
  simp only [step, if_true, pres, List.length_reverse]
  refine le2_map fun j hj => ?_
  rw [List.take_reverse, sum_rev]
  refine Le2.sum (Le2.of_get ?_ fun i h1 h2 => ?_)
  · have := List.mem_range.mp hj
    simp
    omega
  · simp only [List.getElem_take, List.getElem_drop]
    exact h _ _ _ _ (by omega)
def alt (b : Bool) : Nat → List Bool
  | 0 => []
  | n + 1 => b :: alt (!b) n
theorem alt_len (b : Bool) (n : Nat) : (alt b n).length = n := by
  induction n generalizing b with
  | zero => rfl
  | succ n ih => simp [alt, ih]
theorem alt_not (b : Bool) (n : Nat) : (alt b n).map (!·) = alt (!b) n := by
  induction n generalizing b with
  | zero => rfl
  | succ n ih => simp [alt, ih]
/-- from a rising row none has more than by turns, a fall first -/
theorem max_up : ∀ (n : Nat) (v : List Bool), v.length = n → ∀ xs, NN xs → Up xs → G v xs ≤ G (alt false n) xs := by
  intro n
  induction n with
  | zero =>
    intro v hv xs _ _
    rw [List.eq_nil_of_length_eq_zero hv]
    exact Int.le_refl _
  | succ n ih =>
    intro v hv xs hn hu
    cases v with
    | nil => simp at hv
    | cons b v =>
      have hl : v.length = n := by simpa using hv
      -- the same, told of the row turned about
      have down : ∀ w : List Bool, w.length = n → G w (step false xs) ≤ G (alt true n) (step false xs) := by
        intro w hw
        have q := ih (w.map (!·)) (by simpa using hw) (step false xs).reverse (nn_rev (nn_step hn false)) (up_rev_sufs hn)
        rw [G_rev] at q
        have e : alt false n = (alt true n).map (!·) := by rw [alt_not]; rfl
        rw [e, G_rev] at q
        exact q
      have e : G (alt false (n + 1)) xs = G (alt true n) (step false xs) := rfl
      rw [e]
      cases b with
      | false => rw [G_cons]; exact down v hl
      | true =>
        rw [G_cons]
        have h1 : G v (step true xs) ≤ G v (step true xs.reverse) := (up_le hu).G v
        have e2 : step true xs.reverse = (step false xs).reverse := pres_rev xs
        have e3 : ∀ v : List Bool, (v.map (!·)).map (!·) = v := fun v => by
          induction v with
          | nil => rfl
          | cons b v ih => simp only [List.map_cons, ih, Bool.not_not]
        have h2 : G v (step false xs).reverse = G (v.map (!·)) (step false xs) := by
          have q := G_rev (v.map (!·)) (step false xs)
          rw [e3] at q
          exact q
        have h3 := down (v.map (!·)) (by simpa using hl)
        rw [e2, h2] at h1
        exact Int.le_trans h1 h3
theorem F_max (v : List Bool) : F v ≤ F (alt true v.length) := by
  have h := max_up v.length v rfl [1] (fun x hx => by simp at hx; omega) (fun i j h1 h2 _ => by
    have : i = 0 := by simpa using h1
    have : j = 0 := by simpa using h2
    subst_vars; exact Int.le_refl _)
  have e : F (alt false v.length) = F (alt true v.length) := by
    rw [show alt false v.length = (alt true v.length).map (!·) by rw [alt_not]; rfl, F_not]
  rw [← e]; exact h
theorem G_ge : ∀ (v : List Bool) (xs : List Int), NN xs → xs.sum ≤ G v xs := by
  intro v
  induction v with
  | nil => intro xs _; exact Int.le_refl _
  | cons b v ih =>
    intro xs hn
    rw [G_cons]
    refine Int.le_trans ?_ (ih _ (nn_step hn b))
    have hm : xs.sum ∈ step b xs := by
      cases b
      · simp only [step, Bool.false_eq_true, if_false, sufs, List.mem_map]
        exact ⟨0, by simp, by simp⟩
      · simp only [step, if_true, pres, List.mem_map]
        exact ⟨xs.length, by simp, by simp⟩
    have all := nn_step hn b
    generalize step b xs = l at hm all
    generalize xs.sum = s at hm
    clear ih hn
    induction l with
    | nil => simp at hm
    | cons y l ih =>
      simp only [List.sum_cons]
      rcases List.mem_cons.mp hm with e | e
      · have := sum_nn (xs := l) fun z hz => all z (by simp [hz])
        omega
      · have h1 := ih (fun z hz => all z (by simp [hz])) e
        have h2 := all y (by simp)
        omega
theorem F_pos (v : List Bool) : 1 ≤ F v := G_ge v [1] fun x hx => by simp at hx; omega
end MC
set_option Elab.async false
set_option linter.all false
set_option maxRecDepth 100000
set_option maxHeartbeats 4000000
/-! Rf: Lean data that a value stands for (Rep), readings that come to such data (Er), ways on (Gx). -/
namespace Rf
open PySem L2 Evl

/-! ### what a value stands for -/
class Rep (α : Type) where
  rep : PySem.W.Frag → Hp → V → α → Prop
  mono : ∀ {K : PySem.W.Frag} {H H' : Hp} {v : V} {a : α}, Ex H H' → rep K H v a → rep K H' v a
abbrev rep {α : Type} [Rep α] (K : PySem.W.Frag) (H : Hp) (v : V) (a : α) : Prop := Rep.rep K H v a
theorem up {α : Type} [Rep α] {K : PySem.W.Frag} {H H' : Hp} {v : V} {a : α} (h : rep K H v a) (e : Ex H H') : rep K H' v a := Rep.mono e h
inductive All2 {α : Type} (R : V → α → Prop) : List V → List α → Prop where
  | nil : All2 R [] []
  | cons {v : V} {vs : List V} {a : α} {as : List α} : R v a → All2 R vs as → All2 R (v :: vs) (a :: as)
section
variable {α β : Type} {R S : V → α → Prop}
theorem All2.len {vs : List V} {as : List α} (h : All2 R vs as) : vs.length = as.length := by
  induction h with
  | nil => rfl
  | cons _ _ ih => simp [ih]
theorem All2.mp {vs : List V} {as : List α} (h : All2 R vs as) (f : ∀ v a, R v a → S v a) : All2 S vs as := by
  induction h with
  | nil => exact .nil
  | cons h _ ih => exact .cons (f _ _ h) ih
theorem All2.append {vs ws : List V} {as bs : List α} (h : All2 R vs as) (k : All2 R ws bs) : All2 R (vs ++ ws) (as ++ bs) := by
  induction h with
  | nil => exact k
  | cons h _ ih => exact .cons h ih
theorem All2.one {v : V} {a : α} (h : R v a) : All2 R [v] [a] := .cons h .nil
theorem All2.get {vs : List V} {as : List α} (h : All2 R vs as) : ∀ {i : Nat} {a : α}, as[i]? = some a → ∃ v, vs[i]? = some v ∧ R v a := by
  induction h with
  | nil => intro i a e; simp at e
  | cons h _ ih =>
    intro i a e
    cases i with
    | zero => simp at e; subst e; exact ⟨_, rfl, h⟩
    | succ i => simp at e; obtain ⟨v, e1, r⟩ := ih e; exact ⟨v, by simpa using e1, r⟩
theorem All2.getV {vs : List V} {as : List α} (h : All2 R vs as) : ∀ {i : Nat} {v : V}, vs[i]? = some v → ∃ a, as[i]? = some a ∧ R v a := by
  induction h with
  | nil => intro i a e; simp at e
  | cons h _ ih =>
    intro i a e
    cases i with
    | zero => simp at e; subst e; exact ⟨_, rfl, h⟩
    | succ i => simp at e; obtain ⟨v, e1, r⟩ := ih e; exact ⟨v, by simpa using e1, r⟩
theorem All2.take {vs : List V} {as : List α} (h : All2 R vs as) : ∀ n : Nat, All2 R (vs.take n) (as.take n) := by
  induction h with
  | nil => intro n; simp; exact .nil
  | cons h _ ih =>
    intro n
    cases n with
    | zero => exact .nil
    | succ n => exact .cons h (ih n)
theorem All2.drop {vs : List V} {as : List α} (h : All2 R vs as) : ∀ n : Nat, All2 R (vs.drop n) (as.drop n) := by
  induction h with
  | nil => intro n; simp; exact .nil
  | cons h h2 ih =>
    intro n
    cases n with
    | zero => exact .cons h h2
    | succ n => exact ih n
theorem All2.reverse {vs : List V} {as : List α} (h : All2 R vs as) : All2 R vs.reverse as.reverse := by
  induction h with
  | nil => exact .nil
  | cons h _ ih => rw [List.reverse_cons, List.reverse_cons]; exact ih.append (.one h)
theorem All2.set {vs : List V} {as : List α} (h : All2 R vs as) {v : V} {a : α} (k : R v a) : ∀ i : Nat, All2 R (vs.set i v) (as.set i a) := by
  induction h with
  | nil => intro i; exact .nil
  | cons h h2 ih =>
    intro i
    cases i with
    | zero => exact .cons k h2
    | succ i => exact .cons h (ih i)
theorem All2.eraseIdx {vs : List V} {as : List α} (h : All2 R vs as) : ∀ i : Nat, All2 R (vs.eraseIdx i) (as.eraseIdx i) := by
  induction h with
  | nil => intro i; exact .nil
  | cons h h2 ih =>
    intro i
    cases i with
    | zero => exact h2
    | succ i => exact .cons h (ih i)
theorem All2.of_map {γ : Type} {f : γ → V} {g : γ → α} : ∀ {l : List γ}, (∀ c ∈ l, R (f c) (g c)) → All2 R (l.map f) (l.map g)
  | [], _ => .nil
  | c :: l, h => .cons (h c (by simp)) (All2.of_map fun d hd => h d (by simp [hd]))
end
instance : Rep Int := ⟨fun _ _ v i => v = .int i, fun _ h => h⟩
instance : Rep Bool := ⟨fun _ _ v b => v = .bl b, fun _ h => h⟩
instance : Rep Str := ⟨fun _ _ v z => v = .str z, fun _ h => h⟩
instance : Rep Unit := ⟨fun _ _ v _ => v = .non, fun _ h => h⟩
instance {α : Type} [Rep α] : Rep (Option α) := ⟨fun K H v o => match o with
  | some a => Rep.rep K H v a
  | none => v = .non, fun {K H H' v a} e h => by
    cases a with
    | none => exact h
    | some a => exact Rep.mono e h⟩
/-- a list of such -/
def LstR {α : Type} [Rep α] (K : PySem.W.Frag) (H : Hp) (p : Addr) (as : List α) : Prop := ∃ xs, SqL K H p xs ∧ All2 (Rep.rep K H) xs as
def TupR {α β : Type} [Rep α] [Rep β] (K : PySem.W.Frag) (H : Hp) (p : Addr) (a : α) (b : β) : Prop := ∃ x y, SqT K H p [x, y] ∧ Rep.rep K H x a ∧ Rep.rep K H y b
theorem LstR.up {α : Type} [Rep α] {K : PySem.W.Frag} {H H' : Hp} {p : Addr} {as : List α} (h : LstR K H p as) (e : Ex H H') : LstR K H' p as := by
  obtain ⟨xs, h1, h2⟩ := h
  exact ⟨xs, ex_l e h1, h2.mp fun _ _ r => Rep.mono e r⟩
instance {α : Type} [Rep α] : Rep (List α) := ⟨fun K H v as => ∃ p, v = .ref p ∧ LstR K H p as, fun e ⟨p, h1, h2⟩ => ⟨p, h1, h2.up e⟩⟩
instance {α β : Type} [Rep α] [Rep β] : Rep (α × β) := ⟨fun K H v c => ∃ p, v = .ref p ∧ TupR K H p c.1 c.2, fun e ⟨p, h1, x, y, h2, h3, h4⟩ => ⟨p, h1, x, y, ex_t e h2, Rep.mono e h3, Rep.mono e h4⟩⟩
/-- a list's own object left out -/
def del (H : Hp) (p : Addr) : Hp := fun a => if a = p then none else H a
theorem del_ex (H : Hp) (p : Addr) : Ex (del H p) H := fun a o h => by
  unfold del at h
  split at h
  · cases h
  · exact h
theorem ex_del {H H' : Hp} {p : Addr} (e : Ex H H') (h : H p = none) : Ex H (del H' p) := fun a o q => by
  have hne : a ≠ p := fun z => by rw [z, h] at q; cases q
  unfold del
  rw [if_neg hne]
  exact e a o q
theorem del_del {H H' : Hp} {p : Addr} (e : Ex H H') : Ex (del H p) (del H' p) := fun a o q => by
  unfold del at q ⊢
  split at q
  · cases q
  · rename_i h; rw [if_neg h]; exact e a o q
theorem del_upd {H : Hp} {p : Addr} {o : HO} : del (upd H p o) p = del H p := by
  funext a
  unfold del
  split
  · rfl
  · rename_i h; exact upd_ne h
/-- a list of the def's own, to be changed: it stands at p, and what its items stand for leans on other objects -/
def Own {α : Type} [Rep α] (K : PySem.W.Frag) (H : Hp) (p : Addr) (as : List α) : Prop := ∃ xs, H p = some (.lst xs) ∧ All2 (Rep.rep K (del H p)) xs as
section
variable {α : Type} [Rep α] {K : PySem.W.Frag} {H H' : Hp} {p : Addr} {as : List α}
theorem Own.lst (h : Own K H p as) : LstR K H p as := by
  obtain ⟨xs, h1, h2⟩ := h
  exact ⟨xs, sq_of h1, h2.mp fun _ _ r => Rep.mono (del_ex H p) r⟩
theorem Own.up (h : Own K H p as) (e : Ex H H') : Own K H' p as := by
  obtain ⟨xs, h1, h2⟩ := h
  exact ⟨xs, e _ _ h1, h2.mp fun _ _ r => Rep.mono (del_del e) r⟩
theorem Own.rep (h : Own K H p as) : Rep.rep K H (.ref p) as := ⟨p, rfl, h.lst⟩
theorem Own.some (h : Own K H p as) : ∃ o, H p = Option.some o := let ⟨xs, h1, _⟩ := h; ⟨_, h1⟩
end

/-! ### readings -/
section
variable {α β γ : Type} [Rep α] [Rep β] [Rep γ]
def Er (K : PySem.W.Frag) (te : TE) (σ : L2.St) (H : Hp) (a : α) : Prop := ∀ H1, Ex H H1 → ∀ Q : VK, (∀ v H2, Ex H1 H2 → Rep.rep K H2 v a → Q v H2) → te σ H1 Q
/-- .. a new list -/
def ErF (K : PySem.W.Frag) (te : TE) (σ : L2.St) (H : Hp) (as : List α) : Prop := ∀ H1, Ex H H1 → ∀ Q : VK, (∀ p H2, H1 p = none → Ex H1 H2 → Own K H2 p as → Q (.ref p) H2) → te σ H1 Q
def Et (_ : PySem.W.Frag) (t : TT) (σ : L2.St) (H : Hp) (b : Bool) : Prop := EvT t σ H b
def Ea (ta : TA) (σ : L2.St) (H : Hp) (P : Hp → List V → Prop) : Prop := ∀ H1, Ex H H1 → ∀ Q : List V → Hp → Prop, (∀ vs H2, Ex H1 H2 → P H2 vs → Q vs H2) → ta σ H1 Q
variable {K : PySem.W.Frag} {σ : L2.St} {H H' : Hp} {ta tb tc te : TE} {t u : TT}
theorem ErF.er {as : List α} (h : ErF K te σ H as) : Er K te σ H as := fun H1 e Q q => h H1 e Q fun p H2 _ e2 o => q _ H2 e2 o.rep
theorem Er.mono {a : α} (h : Er K te σ H a) (e : Ex H H') : Er K te σ H' a := fun H1 e1 Q q => h H1 (e.trans e1) Q q
theorem ErF.mono {as : List α} (h : ErF K te σ H as) (e : Ex H H') : ErF K te σ H' as := fun H1 e1 Q q => h H1 (e.trans e1) Q q
theorem Er.to {a b : α} (h : Er K te σ H a) (e : a = b) : Er K te σ H b := e ▸ h
theorem ErF.to {as bs : List α} (h : ErF K te σ H as) (e : as = bs) : ErF K te σ H bs := e ▸ h
theorem er_ev {a : α} {v : V} (h : Ev te σ H v) (r : ∀ H1, Ex H H1 → Rep.rep K H1 v a) : Er K te σ H a := fun H1 e Q q => h H1 e Q fun H2 e2 => q v H2 e2 (r H2 (e.trans e2))
theorem ev_er {v : V} {a : α} (h : Er K te σ H a) (r : ∀ H1 u, Rep.rep K H1 u a → u = v) : Ev te σ H v := fun H1 e Q q => h H1 e Q fun u H2 e2 hr => by
  have := r H2 u hr
  subst this
  exact q H2 e2
theorem er_i {i : Int} (h : Er K te σ H i) : Ev te σ H (.int i) := ev_er h fun _ _ r => r
theorem er_b {i : Bool} (h : Er K te σ H i) : Ev te σ H (.bl i) := ev_er h fun _ _ r => r
theorem er_s {i : Str} (h : Er K te σ H i) : Ev te σ H (.str i) := ev_er h fun _ _ r => r
theorem er_var {i : Nat} {v : V} {a : α} (h : σ[i]? = some (some v)) (r : Rep.rep K H v a) : Er K (tVar i) σ H a := fun H1 e Q q => ⟨v, h, q v H1 (Ex.refl H1) (Rep.mono e r)⟩
theorem er_int {i : Int} : Er K (tC (.int i)) σ H i := fun H1 _ _ q => q _ H1 (Ex.refl H1) rfl
theorem er_bl {b : Bool} : Er K (tC (.bl b)) σ H b := fun H1 _ _ q => q _ H1 (Ex.refl H1) rfl
theorem er_str {z : Str} : Er K (tC (.str z)) σ H z := fun H1 _ _ q => q _ H1 (Ex.refl H1) rfl
theorem er_non : Er K (tC .non) σ H () := fun H1 _ _ q => q _ H1 (Ex.refl H1) rfl
theorem er_nonO : Er K (tC .non) σ H (none : Option α) := fun H1 _ _ q => q _ H1 (Ex.refl H1) rfl
theorem er_some {a : α} (h : Er K te σ H a) : Er K te σ H (some a) := fun H1 e Q q => h H1 e Q fun v H2 e2 r => q v H2 e2 r
/-- two, one behind the other -/
theorem er_two {a : α} {b : β} {c : γ} {r : R2} (ha : Er K ta σ H a) (hb : Er K tb σ H b)
    (hr : ∀ x y H1, Ex H H1 → Rep.rep K H1 x a → Rep.rep K H1 y b → ∀ Q : VK, (∀ v H2, Ex H1 H2 → Rep.rep K H2 v c → Q v H2) → r x y H1 Q) : Er K (tOp r ta tb) σ H c := fun H1 e Q q =>
  ha H1 e _ fun x H2 e2 rx => hb H2 (e.trans e2) _ fun y H3 e3 ry => hr x y H3 ((e.trans e2).trans e3) (Rep.mono e3 rx) ry Q fun v H4 e4 r4 => q v H4 ((e2.trans e3).trans e4) r4
theorem erf_two {a : α} {b : β} {cs : List γ} {r : R2} (ha : Er K ta σ H a) (hb : Er K tb σ H b)
    (hr : ∀ x y H1, Ex H H1 → Rep.rep K H1 x a → Rep.rep K H1 y b → ∀ Q : VK, (∀ p H2, H1 p = none → Ex H1 H2 → Own K H2 p cs → Q (.ref p) H2) → r x y H1 Q) : ErF K (tOp r ta tb) σ H cs := fun H1 e Q q =>
  ha H1 e _ fun x H2 e2 rx => hb H2 (e.trans e2) _ fun y H3 e3 ry => hr x y H3 ((e.trans e2).trans e3) (Rep.mono e3 rx) ry Q fun p H4 hp e4 r4 => q p H4 (fresh_back (e2.trans e3) hp) ((e2.trans e3).trans e4) r4

/-! ### ints -/
def rAddI : R2 := rI0 fun i j => .int (i + j)
def rSubI : R2 := rI0 fun i j => .int (i - j)
def rMulI : R2 := rI CMul fun i j => .int (i * j)
def rModI : R2 := rI (fun _ j => 0 < j) fun i j => .int (i % j)
def rDivI : R2 := rI CDiv fun i j => .int (i / j)
def rLtI : R2 := rI0 fun i j => .bl (decide (i < j))
def rLeI : R2 := rI0 fun i j => .bl (decide (i ≤ j))
def rGtI : R2 := rI0 fun i j => .bl (decide (j < i))
def rGeI : R2 := rI0 fun i j => .bl (decide (j ≤ i))
def rNegI : V → Hp → VK → Prop := rU fun i => .int (-i)
def rEqS : R2 := rEq
def rNeS : R2 := rNe
variable {X : Cx}
theorem oAddI : OpR X (binaryOp .Add) rAddI := op_add
theorem oSubI : OpR X (binaryOp .Sub) rSubI := op_sub
theorem oMulI : OpR X (binaryOp .Mult) rMulI := op_mul
theorem oModI : OpR X (binaryOp .Mod) rModI := op_mod
theorem oDivI : OpR X (binaryOp .FloorDiv) rDivI := op_fdiv
theorem oLtI : OpR X (compareOp .Lt) rLtI := op_lt
theorem oLeI : OpR X (compareOp .LtE) rLeI := op_le
theorem oGtI : OpR X (compareOp .Gt) rGtI := op_gt
theorem oGeI : OpR X (compareOp .GtE) rGeI := op_ge
theorem oNegI : UnR X (unaryOp .USub) rNegI := un_neg
theorem oEqS : OpR X (compareOp .Eq) rEqS := op_eq
theorem oNeS : OpR X (compareOp .NotEq) rNeS := op_ne
theorem er_add {i j : Int} (ha : Er K ta σ H i) (hb : Er K tb σ H j) : Er K (tOp rAddI ta tb) σ H (i + j) := er_ev (ev_op (er_i ha) (er_i hb) rv_I0) fun _ _ => rfl
theorem er_sub {i j : Int} (ha : Er K ta σ H i) (hb : Er K tb σ H j) : Er K (tOp rSubI ta tb) σ H (i - j) := er_ev (ev_op (er_i ha) (er_i hb) rv_I0) fun _ _ => rfl
theorem er_mul {i j : Int} (ha : Er K ta σ H i) (hb : Er K tb σ H j) (hc : CMul i j) : Er K (tOp rMulI ta tb) σ H (i * j) := er_ev (ev_op (er_i ha) (er_i hb) (rv_I hc)) fun _ _ => rfl
theorem er_mod {i j : Int} (ha : Er K ta σ H i) (hb : Er K tb σ H j) (hc : 0 < j) : Er K (tOp rModI ta tb) σ H (i % j) := er_ev (ev_op (er_i ha) (er_i hb) (rv_I hc)) fun _ _ => rfl
theorem er_div {i j : Int} (ha : Er K ta σ H i) (hb : Er K tb σ H j) (hc : CDiv i j) : Er K (tOp rDivI ta tb) σ H (i / j) := er_ev (ev_op (er_i ha) (er_i hb) (rv_I hc)) fun _ _ => rfl
theorem er_lt {i j : Int} (ha : Er K ta σ H i) (hb : Er K tb σ H j) : Er K (tOp rLtI ta tb) σ H (decide (i < j)) := er_ev (ev_op (er_i ha) (er_i hb) rv_I0) fun _ _ => rfl
theorem er_le {i j : Int} (ha : Er K ta σ H i) (hb : Er K tb σ H j) : Er K (tOp rLeI ta tb) σ H (decide (i ≤ j)) := er_ev (ev_op (er_i ha) (er_i hb) rv_I0) fun _ _ => rfl
theorem er_gt {i j : Int} (ha : Er K ta σ H i) (hb : Er K tb σ H j) : Er K (tOp rGtI ta tb) σ H (decide (j < i)) := er_ev (ev_op (er_i ha) (er_i hb) rv_I0) fun _ _ => rfl
theorem er_ge {i j : Int} (ha : Er K ta σ H i) (hb : Er K tb σ H j) : Er K (tOp rGeI ta tb) σ H (decide (j ≤ i)) := er_ev (ev_op (er_i ha) (er_i hb) rv_I0) fun _ _ => rfl
theorem er_neg {i : Int} (ha : Er K ta σ H i) : Er K (tUn rNegI ta) σ H (-i) := er_ev (ev_un (er_i ha) ru_neg) fun _ _ => rfl
theorem er_eqI {i j : Int} (ha : Er K ta σ H i) (hb : Er K tb σ H j) : Er K (tOp rEqS ta tb) σ H (i == j) := er_ev (ev_op (er_i ha) (er_i hb) (rv_eq rfl)) fun _ _ => by rw [dec_int]; rfl
theorem er_neI {i j : Int} (ha : Er K ta σ H i) (hb : Er K tb σ H j) : Er K (tOp rNeS ta tb) σ H (!(i == j)) := er_ev (ev_op (er_i ha) (er_i hb) (rv_ne rfl)) fun _ _ => by rw [dec_int]; rfl
theorem er_eqT {i j : Str} (ha : Er K ta σ H i) (hb : Er K tb σ H j) : Er K (tOp rEqS ta tb) σ H (i == j) := er_ev (ev_op (er_s ha) (er_s hb) (rv_eq rfl)) fun _ _ => by rw [dec_str]; rfl
theorem er_neT {i j : Str} (ha : Er K ta σ H i) (hb : Er K tb σ H j) : Er K (tOp rNeS ta tb) σ H (!(i == j)) := er_ev (ev_op (er_s ha) (er_s hb) (rv_ne rfl)) fun _ _ => by rw [dec_str]; rfl
theorem er_eqB {i j : Bool} (ha : Er K ta σ H i) (hb : Er K tb σ H j) : Er K (tOp rEqS ta tb) σ H (i == j) := er_ev (ev_op (er_b ha) (er_b hb) (rv_eq rfl)) fun _ _ => by rw [dec_bl]; rfl
theorem er_neB {i j : Bool} (ha : Er K ta σ H i) (hb : Er K tb σ H j) : Er K (tOp rNeS ta tb) σ H (!(i == j)) := er_ev (ev_op (er_b ha) (er_b hb) (rv_ne rfl)) fun _ _ => by rw [dec_bl]; rfl

/-! ### tests -/
theorem et_e {b : Bool} (h : Er K te σ H b) : Et K (tTest te) σ H b := et_test (er_b h)
theorem et_v {b : Bool} (h : Er K te σ H b) : Et K (tB te) σ H b := et_B (er_b h)
theorem er_and {a b : Bool} (h1 : Er K ta σ H a) (h2 : a = true → Er K tb σ H b) : Er K (tAndV ta tb) σ H (a && b) := er_ev (ev_andV (er_b h1) fun e => er_b (h2 e)) fun _ _ => rfl
theorem er_or {a b : Bool} (h1 : Er K ta σ H a) (h2 : a = false → Er K tb σ H b) : Er K (tOrV ta tb) σ H (a || b) := er_ev (ev_orV (er_b h1) fun e => er_b (h2 e)) fun _ _ => rfl
theorem er_not {a : Bool} (h1 : Er K ta σ H a) : Er K (tNotV ta) σ H (!a) := er_ev (ev_notV (er_b h1)) fun _ _ => rfl
theorem er_if {b : Bool} {x y : α} (h : Et K t σ H b) (h1 : b = true → Er K ta σ H x) (h2 : b = false → Er K tb σ H y) : Er K (tIf t ta tb) σ H (if b then x else y) := fun H1 e Q q => h H1 e _ fun H2 e2 => by
  cases b with
  | true =>
    show ta σ H2 Q
    exact h1 rfl H2 (e.trans e2) Q fun v H3 e3 r => q v H3 (e2.trans e3) r
  | false =>
    show tb σ H2 Q
    exact h2 rfl H2 (e.trans e2) Q fun v H3 e3 r => q v H3 (e2.trans e3) r
theorem er_chain {i j k : Int} {b1 b2 : Bool} {r r' : R2} (ha : Er K ta σ H i) (hb : Er K tb σ H j) (hc : Er K tc σ H k) (h1 : ∀ H1, RV r (.int i) (.int j) H1 (.bl b1)) (h2 : ∀ H1, RV r' (.int j) (.int k) H1 (.bl b2)) :
    Er K (tChain r r' ta tb tc) σ H (b1 && b2) := fun H1 e Q q => er_i ha H1 e _ fun H2 e2 => er_i hb H2 (e.trans e2) _ fun H3 e3 => h1 H3 H3 (Ex.refl H3) _ fun H4 e4 => ⟨b1, rfl, by
  cases b1 with
  | true =>
    show tc σ H4 fun w' H5 => r' (.int j) w' H5 Q
    exact er_i hc H4 (((e.trans e2).trans e3).trans e4) _ fun H5 e5 => h2 H5 H5 (Ex.refl H5) _ fun H6 e6 => q _ H6 ((((e2.trans e3).trans e4).trans e5).trans e6) rfl
  | false =>
    show Q (.bl false) H4
    exact q _ H4 ((e2.trans e3).trans e4) rfl⟩
theorem rvLt {i j : Int} (H1 : Hp) : RV rLtI (.int i) (.int j) H1 (.bl (decide (i < j))) := rv_I0
theorem rvLe {i j : Int} (H1 : Hp) : RV rLeI (.int i) (.int j) H1 (.bl (decide (i ≤ j))) := rv_I0
end
end Rf
set_option Elab.async false
set_option linter.all false
set_option maxRecDepth 100000
set_option maxHeartbeats 4000000
namespace Rf
open PySem L2 Evl
section
variable {α β γ : Type} [Rep α] [Rep β] [Rep γ] {K : PySem.W.Frag} {σ : L2.St} {H H' : Hp} {ta tb tc te : TE} {t u : TT} {X : Cx}

/-! ### lists: an item, the length, displays -/
theorem ixN_of {n j : Nat} {i : Int} (h : ixN n i = some j) : j < n := (ixN_seq h).2.1
theorem atI_all {R : V → α → Prop} {xs : List V} {as : List α} (h : All2 R xs as) {i : Int} {a : α} (e : atI as i = some a) : ∃ v, atI xs i = some v ∧ R v a := by
  unfold atI at e ⊢
  rw [h.len]
  cases q : ixN as.length i with
  | none => rw [q] at e; simp at e
  | some j =>
    rw [q] at e
    exact h.get e
theorem er_ixL {as : List α} {i : Int} {a : α} (ha : Er K ta σ H as) (hb : Er K tb σ H i) (e : atI as i = some a) : Er K (tOp (rIxL K) ta tb) σ H a :=
  er_two ha hb fun x y H1 _ rx ry Q q => by
    obtain ⟨p, rfl, xs, hs, hall⟩ := rx
    obtain rfl : y = .int i := ry
    obtain ⟨v, hv, r⟩ := atI_all hall e
    exact ⟨p, xs, i, v, rfl, rfl, hs, hv, q v H1 (Ex.refl H1) r⟩
theorem atI_nat' {as : List α} {j : Nat} {a : α} (h : as[j]? = some a) : atI as (j : Int) = some a := by
  unfold atI ixN
  have hj : j < as.length := (List.getElem?_eq_some_iff.mp h).1
  rw [if_pos (by omega), if_pos (by omega)]
  simpa using h
theorem atI_at {as : List α} {i : Int} {a : α} (h0 : 0 ≤ i) (h : as[i.toNat]? = some a) : atI as i = some a := by
  have e : i = (i.toNat : Int) := (Int.toNat_of_nonneg h0).symm
  rw [e]
  exact atI_nat' h
theorem atI_ok {as : List α} {i : Int} (h0 : 0 ≤ i) (h : i.toNat < as.length) : atI as i = some (as[i.toNat]'h) := atI_at h0 (List.getElem?_eq_getElem h)
theorem atI_neg1 {as : List α} {a : α} (h : as.getLast? = some a) : atI as (-1) = some a := by
  unfold atI ixN
  have hl : 0 < as.length := by
    cases as with
    | nil => simp at h
    | cons x r => simp
  rw [if_neg (by omega), if_pos (by omega)]
  rw [List.getLast?_eq_getElem?] at h
  show as[((-1 : Int) + (as.length : Int)).toNat]? = some a
  rw [show ((-1 : Int) + (as.length : Int)).toNat = as.length - 1 by omega]
  exact h
/-- len -/
def rLenL (K : PySem.W.Frag) : List V → Hp → VK → Prop := fun xs H Q => ∃ p ys, xs = [.ref p] ∧ (SqL K H p ys ∨ SqT K H p ys) ∧ Q (.int ys.length) H
def rLenT : List V → Hp → VK → Prop := fun xs H Q => ∃ z, xs = [.str z] ∧ z.length ≤ sizeLine ∧ Q (.int z.length) H
theorem cLenL : CallR X (.builtin "len") (rLenL X.K) := call_len_seq
theorem cLenT : CallR X (.builtin "len") rLenT := call_len_str
theorem er_lenL {as : List α} (ha : Er K ta σ H as) : Er K (tCB (rLenL K) (tCons ta tNil)) σ H (as.length : Int) := fun H1 e Q q =>
  ha H1 e _ fun v H2 e2 ⟨p, e3, xs, hs, hall⟩ => ⟨p, xs, by rw [e3], .inl hs, by rw [hall.len]; exact q _ H2 e2 rfl⟩
theorem er_lenT {z : Str} (ha : Er K ta σ H z) (hz : z.length ≤ 100000) : Er K (tCB rLenT (tCons ta tNil)) σ H (z.length : Int) := fun H1 e Q q =>
  ha H1 e _ fun v H2 e2 e3 => ⟨z, by rw [e3], sz_of hz, q _ H2 e2 rfl⟩
/-- the items of a display -/
def EaL (K : PySem.W.Frag) (ta : TA) (σ : L2.St) (H : Hp) (as : List α) : Prop := Ea ta σ H fun H vs => All2 (Rep.rep K H) vs as
theorem eal_nil : EaL K tNil σ H ([] : List α) := fun H1 _ _ q => q [] H1 (Ex.refl H1) .nil
theorem eal_cons {a : α} {as : List α} {tr : TA} (h : Er K te σ H a) (hr : EaL K tr σ H as) : EaL K (tCons te tr) σ H (a :: as) := fun H1 e _ q =>
  h H1 e _ fun v H2 e2 r => hr H2 (e.trans e2) _ fun vs H3 e3 rs => q _ H3 (e2.trans e3) (.cons (Rep.mono e3 r) rs)
theorem erf_lst {ta : TA} {as : List α} (h : EaL K ta σ H as) (hl : as.length ≤ 100000) : ErF K (tLst ta) σ H as := fun H1 e _ q =>
  h H1 e _ fun vs H2 e2 hv => ⟨sz_of (by rw [hv.len]; exact hl), fun p hp => q p _ (fresh_back e2 hp) (e2.trans (Ex.new hp)) ⟨vs, upd_same, hv.mp fun v a r => Rep.mono (ex_del (Ex.new hp) hp) r⟩⟩
theorem er_tup2 {a : α} {b : β} (h1 : Er K ta σ H a) (h2 : Er K tb σ H b) : Er K (tTup (tCons ta (tCons tb tNil))) σ H (a, b) := fun H1 e _ q =>
  h1 H1 e _ fun v H2 e2 r1 => h2 H2 (e.trans e2) _ fun u H3 e3 r2 => ⟨sz_of (by show 2 ≤ 100000; decide), fun p hp => q _ _ ((e2.trans e3).trans (Ex.new hp)) ⟨p, rfl, v, u, st_of upd_same, Rep.mono (e3.trans (Ex.new hp)) r1, Rep.mono (Ex.new hp) r2⟩⟩
/-- a tuple of things of one kind -/
def TupsR (K : PySem.W.Frag) (H : Hp) (p : Addr) (as : List α) : Prop := ∃ xs, SqT K H p xs ∧ All2 (Rep.rep K H) xs as
theorem er_tupIx {ta : TA} {as : List α} {i : Int} {a : α} (h : EaL K ta σ H as) (hl : as.length ≤ 100000) (hb : Er K tb σ H i) (e : atI as i = some a) : Er K (tOp (rIxT K) (tTup ta) tb) σ H a := fun H1 e1 Q q =>
  h H1 e1 _ fun vs H2 e2 hv => ⟨sz_of (by rw [hv.len]; exact hl), fun p hp => er_i hb _ ((e1.trans e2).trans (Ex.new hp)) _ fun H3 e3 => by
    obtain ⟨v, hv1, r⟩ := atI_all hv e
    exact ⟨p, vs, i, v, rfl, rfl, ex_t e3 (st_of upd_same), hv1, q v H3 ((e2.trans (Ex.new hp)).trans e3) (Rep.mono ((Ex.new hp).trans e3) r)⟩⟩

/-! ### slices -/
def Eo (_ : PySem.W.Frag) (to : TO) (σ : L2.St) (H : Hp) (o : Option Int) : Prop := EvO to σ H o
theorem eo_no : Eo K tNoPart σ H none := eo_none
theorem eo_at {i : Int} (h : Er K te σ H i) : Eo K (tPart te) σ H (some i) := eo_some (er_i h)
/-- an int that is known by an equation -/
theorem er_varI {n : Nat} {v : V} {a : Int} (h : σ[n]? = some (some v)) (e : v = .int a) : Er K (tVar n) σ H a := er_var h e
theorem int_eq {a b : Int} (h : a = b) : V.int a = V.int b := by rw [h]
def cutL (as : List α) (lo hi : Option Int) : List α := (as.drop (HT.sIx as.length 0 lo)).take (HT.sIx as.length as.length hi - HT.sIx as.length 0 lo)
theorem erf_sl {as : List α} {tl th : TO} {lo hi : Option Int} (h : Er K te σ H as) (h1 : Eo K tl σ H lo) (h2 : Eo K th σ H hi) : ErF K (tSl (rSlL K) te tl th) σ H (cutL as lo hi) := fun H1 e Q q =>
  h H1 e _ fun v H2 e2 ⟨p, e3, xs, hs, hall⟩ => h1 H2 (e.trans e2) _ fun H3 e4 => h2 H3 ((e.trans e2).trans e4) _ fun H4 e5 => by
    subst e3
    refine ⟨p, xs, rfl, ex_l (e4.trans e5) hs, fun l hl => q l _ (fresh_back ((e2.trans e4).trans e5) hl) (((e2.trans e4).trans e5).trans (Ex.new hl)) ⟨_, upd_same, ?_⟩⟩
    unfold cutV cutL
    rw [hall.len]
    exact ((hall.mp fun v a r => Rep.mono (ex_del ((e4.trans e5).trans (Ex.new hl)) (fresh_back (e4.trans e5) hl)) r).drop _).take _
theorem erf_rev {as : List α} (h : Er K te σ H as) : ErF K (tRevL K te) σ H as.reverse := fun H1 e Q q =>
  h H1 e _ fun v H2 e2 ⟨p, e3, xs, hs, hall⟩ => ⟨p, xs, e3, hs, fun l hl => q l _ (fresh_back e2 hl) (e2.trans (Ex.new hl)) ⟨_, upd_same, (hall.mp fun v a r => Rep.mono (ex_del (Ex.new hl) hl) r).reverse⟩⟩

/-! ### list(xs), xs + ys, sum -/
def rLstL (K : PySem.W.Frag) : List V → Hp → VK → Prop := fun xs H Q => ∃ p ys, xs = [.ref p] ∧ (SqL K H p ys ∨ SqT K H p ys) ∧ ∀ l, H l = none → Q (.ref l) (upd H l (.lst ys))
theorem cLstL : CallR X (.type "list") (rLstL X.K) := call_list_of
theorem erf_list {as : List α} (ha : Er K ta σ H as) : ErF K (tCB (rLstL K) (tCons ta tNil)) σ H as := fun H1 e Q q =>
  ha H1 e _ fun v H2 e2 ⟨p, e3, xs, hs, hall⟩ => ⟨p, xs, by rw [e3], .inl hs, fun l hl => q l _ (fresh_back e2 hl) (e2.trans (Ex.new hl)) ⟨_, upd_same, hall.mp fun v a r => Rep.mono (ex_del (Ex.new hl) hl) r⟩⟩
theorem cSum (hc : X.calm = true) : CallR X (.builtin "sum") (rSum X.K) := cr_sum hc
theorem all2_int {H : Hp} : ∀ {xs : List V} {ns : List Int}, All2 (Rep.rep K H) xs ns → xs = ns.map V.int
  | _, _, .nil => rfl
  | _, _, .cons h t => by
    have h' : _ = V.int _ := h
    rw [h', all2_int t]; rfl
theorem all2_bl {H : Hp} : ∀ {xs : List V} {ns : List Bool}, All2 (Rep.rep K H) xs ns → xs = ns.map V.bl
  | _, _, .nil => rfl
  | _, _, .cons h t => by
    have h' : _ = V.bl _ := h
    rw [h', all2_bl t]; rfl
theorem all2_str {H : Hp} : ∀ {xs : List V} {ns : List Str}, All2 (Rep.rep K H) xs ns → xs = ns.map V.str
  | _, _, .nil => rfl
  | _, _, .cons h t => by
    have h' : _ = V.str _ := h
    rw [h', all2_str t]; rfl
theorem int_all2 {H : Hp} : ∀ {ns : List Int}, All2 (Rep.rep K H) (ns.map V.int) ns
  | [] => .nil
  | _ :: _ => .cons rfl int_all2
theorem lst_int {H : Hp} {p : Addr} {ns : List Int} (h : LstR K H p ns) : SqL K H p (ns.map V.int) := by
  obtain ⟨xs, h1, h2⟩ := h
  rw [← all2_int h2]; exact h1
theorem int_lst {H : Hp} {p : Addr} {ns : List Int} (h : SqL K H p (ns.map V.int)) : LstR K H p ns := ⟨_, h, int_all2⟩
theorem er_sum {ns : List Int} (ha : Er K ta σ H ns) : Er K (tCB (rSum K) (tCons ta tNil)) σ H ns.sum := fun H1 e Q q =>
  ha H1 e _ fun v H2 e2 ⟨p, e3, hl⟩ => ⟨p, ns, by rw [e3], lst_int hl, q _ H2 e2 rfl⟩
theorem er_all {bs : List Bool} (ha : Er K ta σ H bs) : Er K (tCB (rAll K) (tCons ta tNil)) σ H (bs.all id) := fun H1 e Q q =>
  ha H1 e _ fun v H2 e2 ⟨p, e3, xs, hs, hall⟩ => ⟨p, bs, by rw [e3], by rw [← all2_bl hall]; exact hs, q _ H2 e2 rfl⟩
/-- xs + ys, two lists that stand tracked and plain -/
theorem erf_cat {as bs : List α} (ha : ErF K ta σ H as) (hb : ErF K tb σ H bs) (hl : as.length + bs.length ≤ 100000) : ErF K (tOp rCat ta tb) σ H (as ++ bs) := fun H1 e Q q =>
  ha H1 e _ fun p H2 hp e2 ⟨xs, h1, h2⟩ => hb H2 (e.trans e2) _ fun p' H3 hp' e3 ⟨ys, h3, h4⟩ => by
    refine ⟨p, p', xs, ys, rfl, rfl, e3 _ _ h1, h3, by rw [h2.len, h4.len]; exact sz_of hl, fun l hl => q l _ (fresh_back (e2.trans e3) hl) ((e2.trans e3).trans (Ex.new hl)) ⟨_, upd_same, ?_⟩⟩
    have x3 : Ex H3 (del (upd H3 l (.lst (xs ++ ys))) l) := ex_del (Ex.new hl) hl
    exact (h2.mp fun v a r => Rep.mono (((del_ex H2 p).trans e3).trans x3) r).append (h4.mp fun v a r => Rep.mono ((del_ex H3 p').trans x3) r)
/-- .. the left one a name's, tracked -/
theorem erf_catL {as bs : List α} {p : Addr} (ha : Ev ta σ H (.ref p)) (ho : Own K H p as) (hb : ErF K tb σ H bs) (hl : as.length + bs.length ≤ 100000) : ErF K (tOp rCat ta tb) σ H (as ++ bs) := fun H1 e Q q =>
  ha H1 e _ fun H2 e2 => hb H2 (e.trans e2) _ fun p' H3 hp' e3 ⟨ys, h3, h4⟩ => by
    obtain ⟨xs, h1, h2⟩ := (ho.up (e.trans e2))
    refine ⟨p, p', xs, ys, rfl, rfl, e3 _ _ h1, h3, by rw [h2.len, h4.len]; exact sz_of hl, fun l hl => q l _ (fresh_back (e2.trans e3) hl) ((e2.trans e3).trans (Ex.new hl)) ⟨_, upd_same, ?_⟩⟩
    have x3 : Ex H3 (del (upd H3 l (.lst (xs ++ ys))) l) := ex_del (Ex.new hl) hl
    exact (h2.mp fun v a r => Rep.mono (((del_ex H2 p).trans e3).trans x3) r).append (h4.mp fun v a r => Rep.mono ((del_ex H3 p').trans x3) r)
/-- the left new, the right a name's -/
theorem erf_catR {as bs : List α} {p : Addr} (ha : ErF K ta σ H as) (hb : Ev tb σ H (.ref p)) (ho : Own K H p bs) (hl : as.length + bs.length ≤ 100000) : ErF K (tOp rCat ta tb) σ H (as ++ bs) := fun H1 e Q q =>
  ha H1 e _ fun p' H2 hp' e2 ⟨xs, h1, h2⟩ => hb H2 (e.trans e2) _ fun H3 e3 => by
    obtain ⟨ys, h3, h4⟩ := (ho.up ((e.trans e2).trans e3))
    refine ⟨p', p, xs, ys, rfl, rfl, e3 _ _ h1, h3, by rw [h2.len, h4.len]; exact sz_of hl, fun l hl => q l _ (fresh_back (e2.trans e3) hl) ((e2.trans e3).trans (Ex.new hl)) ⟨_, upd_same, ?_⟩⟩
    have x3 : Ex H3 (del (upd H3 l (.lst (xs ++ ys))) l) := ex_del (Ex.new hl) hl
    exact (h2.mp fun v a r => Rep.mono (((del_ex H2 p').trans e3).trans x3) r).append (h4.mp fun v a r => Rep.mono ((del_ex H3 p).trans x3) r)

/-! ### texts -/
def rAddT : R2 := fun x y H Q => ∃ i j, x = .str i ∧ y = .str j ∧ i.length + j.length ≤ sizeLine ∧ Q (.str (i ++ j)) H
theorem oAddT : OpR X (binaryOp .Add) rAddT := op_add_str
theorem er_addT {a b : Str} (ha : Er K ta σ H a) (hb : Er K tb σ H b) (hl : a.length + b.length ≤ 100000) : Er K (tOp rAddT ta tb) σ H (a ++ b) :=
  er_ev (ev_op (er_s ha) (er_s hb) (rv_val fun H1 _ Q q => ⟨a, b, rfl, rfl, sz_of hl, q⟩)) fun _ _ => rfl
def reps (k : Nat) (x : Str) : Str := ⟨(List.replicate k x.cps.toList).flatten.toArray⟩
def rMulT : R2 := fun x y H Q => ∃ (a : Str) (n : Int), x = .str a ∧ y = .int n ∧ 0 ≤ n ∧ n ≤ 1000 ∧ a.length ≤ 1000 ∧ Q (.str (reps n.toNat a)) H
theorem foldl_reps (c : Array Nat) : ∀ (k : Nat) (acc : Array Nat), (List.replicate k c).foldl (· ++ ·) acc = acc ++ (List.replicate k c.toList).flatten.toArray
  | 0, acc => by simp
  | k + 1, acc => by
    rw [List.replicate_succ, List.foldl_cons, foldl_reps c k, List.replicate_succ, List.flatten_cons, Array.append_assoc]
    congr 1
    apply Array.ext'
    simp
theorem oMulT : OpR X (binaryOp .Mult) rMulT := by
  intro pins s σ H x y v u Q I rx ry h
  obtain ⟨a, n, rfl, rfl, h0, h1, ha, q⟩ := h
  obtain ⟨t, rfl⟩ := rx
  obtain ⟨t', rfl⟩ := ry
  have hb : a.length * n.toNat ≤ 1000000 := Nat.le_trans (Nat.mul_le_mul ha (show n.toNat ≤ 1000 by omega)) (by decide)
  refine PySem.P.mul_str ?_ ?_ ?_ ?_
  · have h2 : ¬ n < -(2 ^ 63 : Int) := by omega
    have h3 : ¬ n ≥ 2 ^ 63 := by omega
    rw [decide_eq_false h2, decide_eq_false h3]; rfl
  · intro hn _ hgt
    have h4 : 1001 ≤ (2 ^ 63 - 1) / n := by
      rw [Int.le_ediv_iff_mul_le (by omega)]
      omega
    omega
  · intro _ _
    unfold Builtin.Str.tooLong
    rw [decide_eq_false_iff_not, sizeLine_eq]
    omega
  · by_cases c1 : n < 1
    · rw [if_pos c1]
      have e0 : n.toNat = 0 := by omega
      have e : reps n.toNat a = Str.empty := by rw [e0]; rfl
      rw [e] at q
      exact ⟨by show (0 : Nat) ≤ sizeLine; exact Nat.zero_le _, .str _, H, I.tok _, ⟨_, rfl⟩, q⟩
    · rw [if_neg c1]
      by_cases c2 : (n == 1 || a.length == 0) = true
      · rw [if_pos c2]
        have e : reps n.toNat a = a := by
          unfold reps
          simp only [Bool.or_eq_true, beq_iff_eq] at c2
          rcases c2 with c2 | c2
          · subst c2
            show (⟨(List.replicate 1 a.cps.toList).flatten.toArray⟩ : Str) = a
            simp
          · have : a.cps = #[] := Array.eq_empty_of_size_eq_zero c2
            cases a
            simp only at this
            subst this
            simp
        rw [e] at q
        exact ⟨.str a, H, I, ⟨t, rfl⟩, q⟩
      · rw [if_neg c2]
        have e : (⟨(List.replicate n.toNat a.cps).foldl (· ++ ·) #[]⟩ : Str) = reps n.toNat a := by
          unfold reps
          rw [foldl_reps]
          simp
        rw [e]
        refine ⟨?_, .str _, H, I.tok _, ⟨_, rfl⟩, q⟩
        show (List.replicate n.toNat a.cps.toList).flatten.toArray.size ≤ sizeLine
        rw [List.size_toArray, List.length_flatten, List.map_replicate, List.sum_replicate_nat]
        have : a.cps.toList.length = a.length := by simp [Str.length]
        rw [this, Nat.mul_comm]
        exact Nat.le_trans hb (by decide)
theorem er_mulT {a : Str} {n : Int} (ha : Er K ta σ H a) (hb : Er K tb σ H n) (h0 : 0 ≤ n) (h1 : n ≤ 1000) (h2 : a.length ≤ 1000) : Er K (tOp rMulT ta tb) σ H (reps n.toNat a) :=
  er_ev (ev_op (er_s ha) (er_i hb) (rv_val fun H1 _ Q q => ⟨a, n, rfl, rfl, h0, h1, h2, q⟩)) fun _ _ => rfl
end
end Rf
set_option Elab.async false
set_option linter.all false
set_option maxRecDepth 100000
set_option maxHeartbeats 4000000
namespace Rf
open PySem L2 Evl
/-! ### what stands for itself, whatever the heap -/
class Flat (α : Type) [Rep α] : Prop where
  flat : ∀ {K : PySem.W.Frag} {H H' : Hp} {v : V} {a : α}, Rep.rep K H v a → Rep.rep K H' v a
instance : Flat Int := ⟨fun h => h⟩
instance : Flat Bool := ⟨fun h => h⟩
instance : Flat Str := ⟨fun h => h⟩
instance : Flat Unit := ⟨fun h => h⟩
instance {α : Type} [Rep α] [Flat α] : Flat (Option α) := ⟨fun {K H H' v a} h => by
  cases a with
  | none => exact h
  | some a => exact Flat.flat (α := α) h⟩
theorem All2.flat {α : Type} [Rep α] [Flat α] {K : PySem.W.Frag} {H H' : Hp} {vs : List V} {as : List α} (h : All2 (Rep.rep K H) vs as) : All2 (Rep.rep K H') vs as := h.mp fun _ _ r => Flat.flat r
/-- the base's objects, and those that are new since H1 -/
def mix (H H1 H2 : Hp) : Hp := fun p => if (H p).isSome = true ∨ H1 p = none then H2 p else none
theorem mix_ex (H H1 H2 : Hp) : Ex (mix H H1 H2) H2 := fun a o h => by
  unfold mix at h
  split at h
  · exact h
  · cases h
theorem ex_mix {H H1 H2 : Hp} (e : Ex H H1) (e2 : Ex H1 H2) : Ex H (mix H H1 H2) := fun a o h => by
  unfold mix
  rw [if_pos (.inl (by rw [h]; rfl))]
  exact e2 _ _ (e _ _ h)
theorem mix_new {H H1 H2 : Hp} {p : Addr} (h : H1 p = none) : mix H H1 H2 p = H2 p := if_pos (.inr h)
theorem mix_del {H H1 H2 : Hp} {D : Addr} (h : H D = none) (h1 : H1 D ≠ none) : Ex (mix H H1 H2) (del H2 D) := fun a o q => by
  have q0 := q
  unfold mix at q
  split at q
  · rename_i c
    have hne : a ≠ D := by
      rintro rfl
      rcases c with c | c
      · rw [h] at c; cases c
      · exact h1 c
    unfold del
    rw [if_neg hne]
    exact q
  · cases q
theorem take_succ_some {α : Type} {as : List α} {i : Nat} {a : α} (h : as[i]? = some a) : as.take (i + 1) = as.take i ++ [a] := by rw [List.take_add_one, h]; rfl
theorem filter_yes {α : Type} (as : List α) : as.filter (fun _ => true) = as := by simp
section
variable {α β γ : Type} [Rep α] [Rep β] [Rep γ] {K : PySem.W.Frag} {σ : L2.St} {H H' : Hp} {ta tb tc te tl : TE} {t u tt : TT} {X : Cx}
/-- as Er; what the value leans on is the base's or new -/
def Es (K : PySem.W.Frag) (te : TE) (σ : L2.St) (H : Hp) (a : α) : Prop := ∀ H1, Ex H H1 → ∀ Q : VK, (∀ v H2, Ex H1 H2 → Rep.rep K (mix H H1 H2) v a → Q v H2) → te σ H1 Q
theorem es_flat [Flat α] {a : α} (h : Er K te σ H a) : Es K te σ H a := fun H1 e Q q => h H1 e Q fun v H2 e2 r => q v H2 e2 (Flat.flat r)
theorem es_lst [Flat α] {as : List α} (h : ErF K te σ H as) : Es K te σ H as := fun H1 e Q q => h H1 e Q fun p H2 hp e2 ⟨xs, h1, h2⟩ => q _ H2 e2 ⟨p, rfl, xs, sq_of (by rw [mix_new hp]; exact h1), h2.flat⟩
theorem es_tup2 [Flat α] [Flat β] {a : α} {b : β} (h1 : Er K ta σ H a) (h2 : Er K tb σ H b) : Es K (tTup (tCons ta (tCons tb tNil))) σ H (a, b) := fun H1 e _ q =>
  h1 H1 e _ fun v H2 e2 r1 => h2 H2 (e.trans e2) _ fun u H3 e3 r2 => ⟨sz_of (by show 2 ≤ 100000; decide), fun p hp => q _ _ ((e2.trans e3).trans (Ex.new hp))
    ⟨p, rfl, v, u, st_of (by rw [mix_new (fresh_back (e2.trans e3) hp)]; exact upd_same), Flat.flat r1, Flat.flat r2⟩⟩
theorem es_var {i : Nat} {v : V} {a : α} (h : σ[i]? = some (some v)) (r : Rep.rep K H v a) : Es K (tVar i) σ H a := fun H1 e Q q => ⟨v, h, q v H1 (Ex.refl H1) (Rep.mono (ex_mix e (Ex.refl H1)) r)⟩
theorem Es.to {a b : α} (h : Es K te σ H a) (e : a = b) : Es K te σ H b := e ▸ h

/-! ### comprehensions -/
/-- the list so far -/
def Cl (K : PySem.W.Frag) (H : Hp) (D : Addr) (H' : Hp) (bs : List β) : Prop := H D = none ∧ Ex H H' ∧ Own K H' D bs
theorem cl_turn {H1 H' : Hp} {D : Addr} {bs : List β} {σ2 : L2.St} {b : Bool} {c : β} {N : Hp → Prop} (p : Cl K H1 D H' bs) (hz : bs.length < 50000) (ht : Et K tt σ2 H1 b) (he : b = true → Es K te σ2 H1 c)
    (hN : ∀ H'', Cl K H1 D H'' (if b then bs ++ [c] else bs) → N H'') :
    tt σ2 H' fun b H3 => if b = true then te σ2 H3 fun y H4 => ∃ acc, H4 D = some (.lst acc) ∧ acc.length < sizeLine ∧ N (upd H4 D (.lst (acc ++ [y]))) else N H3 := by
  obtain ⟨p1, p2, p3⟩ := p
  refine ht H' p2 _ fun H3 e3 => ?_
  cases b with
  | false =>
    rw [if_neg Bool.false_ne_true]
    exact hN H3 ⟨p1, p2.trans e3, p3.up e3⟩
  | true =>
    rw [if_pos rfl]
    refine he rfl H3 (p2.trans e3) _ fun y H4 e4 r => ?_
    obtain ⟨xs, q1, q2⟩ := p3.up (e3.trans e4)
    have hD3 : H3 D ≠ none := by
      obtain ⟨o, ho⟩ := (p3.up e3).some
      rw [ho]; simp
    refine ⟨xs, q1, sz_lt (by rw [q2.len]; omega), hN _ ⟨p1, Ex.mut ((p2.trans e3).trans e4) p1, _, upd_same, ?_⟩⟩
    rw [del_upd, if_pos rfl]
    exact q2.append (.one (Rep.mono (mix_del p1 hD3) r))
theorem cl_start {H1 : Hp} {D : Addr} (h : H1 D = none) : Cl K H1 D (upd H1 D (.lst [])) ([] : List β) := ⟨h, Ex.new h, [], upd_same, .nil⟩
/-- over a list, any target; g0 tells what the target does with the item -/
theorem erf_lcG {as : List α} {g : TG} {vs : List Nat} {p : α → Bool} {f : α → β} (h : Er K tl σ H as) (hz : as.length ≤ 40000)
    (ho : ∀ (i : Nat) (a : α) (v : V) (H1 : Hp), Ex H H1 → as[i]? = some a → Rep.rep K H1 v a →
      ∀ H2, Ex H1 H2 → ∀ R : L2.St → Hp → Prop, (∀ σ2, wipe σ2 vs = wipe σ vs → Et K tt σ2 H1 (p a) → (p a = true → Es K te σ2 H1 (f a)) → R σ2 H2) → g v (wipe σ vs) H2 R) :
    ErF K (tLc (iList K tl) g tt te vs) σ H ((as.filter p).map f) := fun H0 e Q q =>
  h H0 e _ fun v0 H1 e1 ⟨a0, e2, xs, hs, hall⟩ => ⟨a0, e2, ⟨xs, hs⟩, fun D hD =>
    lc_list (xs := xs) (fun i H' => Cl K H1 D H' (((as.take i).filter p).map f)) (cl_start hD) (fun i H' _ c => ex_l c.2.1 hs) (fun i x H' hx c => by
      obtain ⟨a, ha, r⟩ := hall.getV hx
      have hi : i < as.length := (List.getElem?_eq_some_iff.mp ha).1
      refine ho i a x H1 (e.trans e1) ha r H' c.2.1 _ fun σ2 hw ht he => ⟨hw, cl_turn c ?_ ht he fun H'' c' => ?_⟩
      · rw [List.length_map]
        have := List.length_filter_le p (as.take i)
        rw [List.length_take] at this
        omega
      · rw [take_succ_some ha, List.filter_append, List.map_append]
        cases hp : p a with
        | true => rw [hp] at c'; simpa [hp] using c'
        | false => rw [hp] at c'; simpa [hp] using c') (fun H' c => by
      rw [hall.len, List.take_length] at c
      exact q D H' (fresh_back e1 hD) (e1.trans c.2.1) c.2.2)⟩
theorem erf_lcF {as : List α} {j : Nat} {vs : List Nat} {p : α → Bool} {f : α → β} (h : Er K tl σ H as) (hz : as.length ≤ 40000) (hw : ∀ x, wipe ((wipe σ vs).set j (some x)) vs = wipe σ vs)
    (ht : ∀ (i : Nat) (a : α) (v : V) (H1 : Hp), Ex H H1 → as[i]? = some a → Rep.rep K H1 v a → Et K tt ((wipe σ vs).set j (some v)) H1 (p a))
    (he : ∀ (i : Nat) (a : α) (v : V) (H1 : Hp), Ex H H1 → as[i]? = some a → Rep.rep K H1 v a → p a = true → Es K te ((wipe σ vs).set j (some v)) H1 (f a)) :
    ErF K (tLc (iList K tl) (gName j) tt te vs) σ H ((as.filter p).map f) :=
  erf_lcG h hz fun i a v H1 e ha r H2 _ R hR => hR _ (hw _) (ht i a v H1 e ha r) (he i a v H1 e ha r)
theorem et_yes : Et K tYes σ H true := fun H1 _ Q q => q H1 (Ex.refl H1)
theorem erf_lc {as : List α} {j : Nat} {vs : List Nat} {f : α → β} (h : Er K tl σ H as) (hz : as.length ≤ 40000) (hw : ∀ x, wipe ((wipe σ vs).set j (some x)) vs = wipe σ vs)
    (he : ∀ (i : Nat) (a : α) (v : V) (H1 : Hp), Ex H H1 → as[i]? = some a → Rep.rep K H1 v a → Es K te ((wipe σ vs).set j (some v)) H1 (f a)) :
    ErF K (tLc (iList K tl) (gName j) tYes te vs) σ H (as.map f) := by
  have q := erf_lcF (p := fun _ => true) (tt := tYes) h hz hw (fun _ _ _ _ _ _ _ => et_yes) fun i a v H1 e ha r _ => he i a v H1 e ha r
  rw [filter_yes] at q
  exact q
/-- a range is walked -/
def Rg (_ : PySem.W.Frag) (wi : TI) (σ : L2.St) (H : Hp) (lo : Int) (n : Nat) : Prop := ∀ H1, Ex H H1 → ∀ R : It → Hp → Prop, (∀ H2, Ex H1 H2 → R (Itr lo n) H2) → wi σ H1 R
theorem Rg.to {wi : TI} {lo : Int} {n m : Nat} (h : Rg K wi σ H lo n) (e : n = m) : Rg K wi σ H lo m := e ▸ h
/-- over a range -/
theorem erf_lcRG {lo : Int} {n : Nat} {j : Nat} {vs : List Nat} {wi : TI} {p : Nat → Bool} {f : Nat → β} (h : Rg K wi σ H lo n) (hz : n ≤ 40000) (hw : ∀ x, wipe ((wipe σ vs).set j (some x)) vs = wipe σ vs)
    (ht : ∀ (i : Nat) (H1 : Hp), Ex H H1 → i < n → Et K tt ((wipe σ vs).set j (some (.int (lo + i)))) H1 (p i))
    (he : ∀ (i : Nat) (H1 : Hp), Ex H H1 → i < n → p i = true → Es K te ((wipe σ vs).set j (some (.int (lo + i)))) H1 (f i)) :
    ErF K (tLc wi (gName j) tt te vs) σ H (((List.range n).filter p).map f) := fun H0 e Q q =>
  h H0 e _ fun H1 e1 => fun D hD =>
    lc_range (lo := lo) (n := n) (fun i H' => Cl K H1 D H' (((List.range i).filter p).map f)) (cl_start hD) (fun i H' hi c => ⟨hw _, cl_turn c (by
      rw [List.length_map]
      have := List.length_filter_le p (List.range i)
      rw [List.length_range] at this
      omega) (ht i H1 (e.trans e1) hi) (he i H1 (e.trans e1) hi) fun H'' c' => by
      rw [List.range_succ, List.filter_append, List.map_append]
      cases hp : p i with
      | true => rw [hp] at c'; simpa [hp] using c'
      | false => rw [hp] at c'; simpa [hp] using c'⟩) fun H' c => q D H' (fresh_back e1 hD) (e1.trans c.2.1) c.2.2
theorem rng1 {n : Int} (h : Er K ta σ H n) (hn : n ≤ 100000) (hn0 : -100000 ≤ n) : Rg K (iRng1 (tCons ta tNil)) σ H 0 n.toNat := fun H1 e R q =>
  er_i h H1 e _ fun H2 e2 => ⟨n, rfl, by omega, by omega, q H2 e2⟩
theorem rng2 {lo n : Int} (h1 : Er K ta σ H lo) (h : Er K tb σ H n) (hn : n ≤ 100000) (hn0 : -100000 ≤ n) (hl : lo ≤ 100000) (hl0 : -100000 ≤ lo) : Rg K (iRng2 (tCons ta (tCons tb tNil))) σ H lo (n - lo).toNat := fun H1 e R q =>
  er_i h1 H1 e _ fun H2 e2 => er_i h H2 (e.trans e2) _ fun H3 e3 => ⟨lo, n, rfl, ⟨by omega, by omega, by omega, by omega⟩, q H3 (e2.trans e3)⟩
theorem erf_lcR {lo : Int} {n : Nat} {j : Nat} {vs : List Nat} {wi : TI} {f : Nat → β} (h : Rg K wi σ H lo n) (hz : n ≤ 40000) (hw : ∀ x, wipe ((wipe σ vs).set j (some x)) vs = wipe σ vs)
    (he : ∀ (i : Nat) (H1 : Hp), Ex H H1 → i < n → Es K te ((wipe σ vs).set j (some (.int (lo + i)))) H1 (f i)) :
    ErF K (tLc wi (gName j) tYes te vs) σ H ((List.range n).map f) := by
  have q := erf_lcRG (p := fun _ => true) (tt := tYes) h hz hw (fun _ _ _ _ => et_yes) fun i H1 e hi _ => he i H1 e hi
  rw [filter_yes] at q
  exact q
/-- over a text's signs -/
theorem lc_str {x : Str} {g : TG} {vs : List Nat} {H1 : Hp} {D : Addr} {Qd : Hp → Prop} (Pv : Nat → Hp → Prop) (h0 : Pv 0 (upd H1 D (.lst [])))
    (hs : ∀ i c H, x.cps[i]? = some c → Pv i H → g (.str ⟨#[c]⟩) (wipe σ vs) H fun σ2 H2 => wipe σ2 vs = wipe σ vs ∧ tt σ2 H2 fun b H3 =>
      if b = true then te σ2 H3 fun y H4 => ∃ acc, H4 D = some (.lst acc) ∧ acc.length < sizeLine ∧ Pv (i + 1) (upd H4 D (.lst (acc ++ [y]))) else Pv (i + 1) H3) (hd : ∀ H, Pv x.cps.size H → Qd H) :
    ∃ W : Nat → Nat → Hp → Prop, (∃ m, W 0 m (upd H1 D (.lst []))) ∧ ∀ i m H, W i m H →
      ((Its x).stop i H ∧ Qd H) ∨ ((Its x).go i H ∧ ∃ Nx : Hp → Prop, (∀ H', Nx H' → ∃ m', m' < m ∧ W (i + 1) m' H') ∧ ∀ v H', (Its x).yld i H v H' → g v (wipe σ vs) H' fun σ2 H2 => wipe σ2 vs = wipe σ vs ∧ tt σ2 H2 fun b H3 =>
        if b = true then te σ2 H3 fun y H4 => ∃ acc, H4 D = some (.lst acc) ∧ acc.length < sizeLine ∧ Nx (upd H4 D (.lst (acc ++ [y]))) else Nx H3) := by
  refine ⟨fun i m H => m = x.cps.size - i ∧ i ≤ x.cps.size ∧ Pv i H, ⟨x.cps.size, by simp, Nat.zero_le _, h0⟩, ?_⟩
  rintro i m H ⟨rfl, hi, p⟩
  by_cases hlt : i < x.cps.size
  · refine .inr ⟨hlt, Pv (i + 1), fun H' p' => ⟨x.cps.size - (i + 1), by omega, rfl, hlt, p'⟩, fun v H' y => ?_⟩
    obtain ⟨e, c, hc, e2⟩ := y
    subst e e2
    exact hs i c _ hc p
  · have e : i = x.cps.size := by omega
    subst e
    exact .inl ⟨Nat.le_refl _, hd H p⟩
def sgn (c : Nat) : Str := ⟨#[c]⟩
theorem erf_lcS {x : Str} {j : Nat} {vs : List Nat} {f : Nat → β} (h : Er K tl σ H x) (hz : x.length ≤ 40000) (hw : ∀ x, wipe ((wipe σ vs).set j (some x)) vs = wipe σ vs)
    (he : ∀ (i : Nat) (c : Nat) (H1 : Hp), Ex H H1 → x.cps[i]? = some c → Es K te ((wipe σ vs).set j (some (.str (sgn c)))) H1 (f c)) :
    ErF K (tLc (iStr tl) (gName j) tYes te vs) σ H (x.cps.toList.map f) := fun H0 e Q q =>
  er_s h H0 e _ fun H1 e1 => ⟨x, rfl, fun D hD =>
    lc_str (x := x) (fun i H' => Cl K H1 D H' ((x.cps.toList.take i).map f)) (cl_start hD) (fun i c H' hx cl => by
      have hi : i < x.cps.size := (Array.getElem?_eq_some_iff.mp hx).1
      have hx' : x.cps.toList[i]? = some c := by rw [Array.getElem?_toList]; exact hx
      refine ⟨hw _, cl_turn cl ?_ et_yes (fun _ => he i c H1 (e.trans e1) hx) fun H'' c' => ?_⟩
      · rw [List.length_map, List.length_take]
        have : x.cps.size ≤ 40000 := hz
        omega
      · rw [take_succ_some hx', List.map_append]
        simpa using c') fun H' c => by
      rw [List.take_of_length_le (by rw [Array.length_toList]; exact Nat.le_refl _)] at c
      exact q D H' (fresh_back e1 hD) (e1.trans c.2.1) c.2.2⟩
/-- two names of a tuple -/
abbrev gTwo (K : PySem.W.Frag) (i j : Nat) : TG := gTup K 2 (gCons (gName i) (gCons (gName j) gNil))
theorem gTwo_run {i j : Nat} {p : Addr} {x y : V} {σ : L2.St} {H : Hp} {R : L2.St → Hp → Prop} (h : SqT K H p [x, y]) (hR : R ((σ.set i (some x)).set j (some y)) H) : gTwo K i j (.ref p) σ H R :=
  ⟨p, [x, y], rfl, h, rfl, x, [y], rfl, y, [], rfl, rfl, hR⟩
/-- over enumerate(list) -/
theorem lc_enum {a : Addr} {xs : List V} {g : TG} {vs : List Nat} {H1 : Hp} {D : Addr} {Qd : Hp → Prop} (Pv : Nat → Hp → Prop) (h0 : Pv 0 (upd H1 D (.lst []))) (hl : ∀ i H, i ≤ xs.length → Pv i H → SqL K H a xs)
    (hs : ∀ i x T H, xs[i]? = some x → Pv i H → H T = none → g (.ref T) (wipe σ vs) (upd H T (.tup [.int (i : Nat), x])) fun σ2 H2 => wipe σ2 vs = wipe σ vs ∧ tt σ2 H2 fun b H3 =>
      if b = true then te σ2 H3 fun y H4 => ∃ acc, H4 D = some (.lst acc) ∧ acc.length < sizeLine ∧ Pv (i + 1) (upd H4 D (.lst (acc ++ [y]))) else Pv (i + 1) H3) (hd : ∀ H, Pv xs.length H → Qd H) :
    ∃ W : Nat → Nat → Hp → Prop, (∃ m, W 0 m (upd H1 D (.lst []))) ∧ ∀ i m H, W i m H →
      ((Ite K a).stop i H ∧ Qd H) ∨ ((Ite K a).go i H ∧ ∃ Nx : Hp → Prop, (∀ H', Nx H' → ∃ m', m' < m ∧ W (i + 1) m' H') ∧ ∀ v H', (Ite K a).yld i H v H' → g v (wipe σ vs) H' fun σ2 H2 => wipe σ2 vs = wipe σ vs ∧ tt σ2 H2 fun b H3 =>
        if b = true then te σ2 H3 fun y H4 => ∃ acc, H4 D = some (.lst acc) ∧ acc.length < sizeLine ∧ Nx (upd H4 D (.lst (acc ++ [y]))) else Nx H3) := by
  refine ⟨fun i m H => m = xs.length - i ∧ i ≤ xs.length ∧ Pv i H, ⟨xs.length, by simp, Nat.zero_le _, h0⟩, ?_⟩
  rintro i m H ⟨rfl, hi, p⟩
  have q := hl i H hi p
  by_cases hlt : i < xs.length
  · refine .inr ⟨⟨xs, xs[i], q, by simp [hlt]⟩, Pv (i + 1), fun H' p' => ⟨xs.length - (i + 1), by omega, rfl, hlt, p'⟩, fun v H' y => ?_⟩
    obtain ⟨T, x, rfl, hT, rfl, hx⟩ := y
    exact hs i x T H (hx xs q) p hT
  · have e : i = xs.length := by omega
    subst e
    exact .inl ⟨⟨xs, q, Nat.le_refl _⟩, hd H p⟩
theorem erf_lcE {as : List α} {i0 j : Nat} {vs : List Nat} {p : Nat → α → Bool} {f : Nat → α → β} (h : Er K tl σ H as) (hz : as.length ≤ 40000) (hw : ∀ x y, wipe (((wipe σ vs).set i0 (some x)).set j (some y)) vs = wipe σ vs)
    (ht : ∀ (i : Nat) (a : α) (v : V) (H1 : Hp), Ex H H1 → as[i]? = some a → Rep.rep K H1 v a → Et K tt (((wipe σ vs).set i0 (some (.int (i : Nat)))).set j (some v)) H1 (p i a))
    (he : ∀ (i : Nat) (a : α) (v : V) (H1 : Hp), Ex H H1 → as[i]? = some a → Rep.rep K H1 v a → p i a = true → Es K te (((wipe σ vs).set i0 (some (.int (i : Nat)))).set j (some v)) H1 (f i a)) :
    ErF K (tLc (iEnum K (tCons tl tNil)) (gTwo K i0 j) tt te vs) σ H ((as.zipIdx.filter fun c => p c.2 c.1).map fun c => f c.2 c.1) := fun H0 e Q q =>
  h H0 e _ fun v0 H1 e1 ⟨a0, e2, xs, hs, hall⟩ => ⟨a0, xs, by rw [e2], hs, fun D hD =>
    lc_enum (xs := xs) (fun i H' => Cl K H1 D H' ((((as.zipIdx).take i).filter fun c => p c.2 c.1).map fun c => f c.2 c.1)) (cl_start hD) (fun i H' _ c => ex_l c.2.1 hs) (fun i x T H' hx c hT => by
      obtain ⟨a, ha, r⟩ := hall.getV hx
      have hi : i < as.length := (List.getElem?_eq_some_iff.mp ha).1
      have hz' : as.zipIdx[i]? = some (a, i) := by rw [List.getElem?_zipIdx, ha]; simp
      have cT : Cl K H1 D (upd H' T (.tup [.int (i : Nat), x])) ((((as.zipIdx).take i).filter fun c => p c.2 c.1).map fun c => f c.2 c.1) := ⟨c.1, c.2.1.trans (Ex.new hT), c.2.2.up (Ex.new hT)⟩
      refine gTwo_run (st_of upd_same) ⟨hw _ _, cl_turn cT ?_ (ht i a x H1 (e.trans e1) ha r) (he i a x H1 (e.trans e1) ha r) fun H'' c' => ?_⟩
      · rw [List.length_map]
        have := List.length_filter_le (fun c => p c.2 c.1) (as.zipIdx.take i)
        rw [List.length_take, List.length_zipIdx] at this
        omega
      · rw [take_succ_some hz', List.filter_append, List.map_append]
        cases hp : p i a with
        | true => rw [hp] at c'; simpa [hp] using c'
        | false => rw [hp] at c'; simpa [hp] using c') (fun H' c => by
      rw [hall.len, List.take_of_length_le (by simp)] at c
      exact q D H' (fresh_back e1 hD) (e1.trans c.2.1) c.2.2)⟩

/-! ### texts, further -/
theorem er_ixS {z : Str} {i : Int} {c : Nat} (ha : Er K ta σ H z) (hb : Er K tb σ H i) (hz : z.length ≤ 100000) (e : atI z.cps.toList i = some c) : Er K (tOp rIxS ta tb) σ H (sgn c) :=
  er_ev (ev_op (er_s ha) (er_i hb) (rv_ixS hz e)) fun _ _ => rfl
theorem er_slS {z : Str} {tl th : TO} {lo hi : Option Int} (h : Er K te σ H z) (h1 : Eo K tl σ H lo) (h2 : Eo K th σ H hi) (hz : z.length ≤ 100000) : Er K (tSl rSlS te tl th) σ H (cutS z lo hi) := fun H1 e Q q =>
  er_s h H1 e _ fun H2 e2 => h1 H2 (e.trans e2) _ fun H3 e4 => h2 H3 ((e.trans e2).trans e4) _ fun H4 e5 => ⟨z, rfl, sz_of hz, q _ H4 ((e2.trans e4).trans e5) rfl⟩
def rInS (neg : Bool) : R2 := fun x y H Q => ∃ (c : Nat) (z : Str), x = .str (sgn c) ∧ y = .str z ∧ Q (.bl (if neg then !decide (c ∈ z.cps.toList) else decide (c ∈ z.cps.toList))) H
theorem oInS : OpR X (compareOp .In) (rInS false) := fun pins s σ H x y v u Q I rx ry ⟨c, z, h1, h2, q⟩ => op_in_sign pins s σ H x y v u Q I rx ry ⟨c, z, h1, h2, q⟩
theorem er_inS {c : Nat} {z : Str} (ha : Er K ta σ H (sgn c)) (hb : Er K tb σ H z) : Er K (tOp (rInS false) ta tb) σ H (decide (c ∈ z.cps.toList)) :=
  er_ev (ev_op (er_s ha) (er_s hb) (rv_val fun H1 _ Q q => ⟨c, z, rfl, rfl, q⟩)) fun _ _ => rfl
/-- z[::-1] -/
def tRevS (te : TE) : TE := fun σ H Q => te σ H fun x H1 => ∃ z, x = .str z ∧ z.length ≤ sizeLine ∧ Q (.str ⟨z.cps.toList.reverse.toArray⟩) H1
theorem er_revS {z : Str} (h : Er K te σ H z) (hz : z.length ≤ 100000) : Er K (tRevS te) σ H (⟨z.cps.toList.reverse.toArray⟩ : Str) := fun H1 e Q q =>
  er_s h H1 e _ fun H2 e2 => ⟨z, rfl, sz_of hz, q _ H2 e2 rfl⟩
theorem picked_rev (z : Str) : (Builtin.Str.strSliceIndices none none (-1) z.length).filterMap (z.cps[·]?) = z.cps.toList.reverse := by
  have h : Builtin.Str.strSliceIndices none none (-1) z.length = (List.range z.length).map fun k => z.length - 1 - k := by
    rw [← PySem.W.krv_sliceRange]
    rfl
  rw [h, PySem.W.krv_range, List.filterMap_reverse]
  have e : z.length = z.cps.size := rfl
  rw [e, PySem.W.krv_all]
theorem pe_revS {e : Expr} {te : TE} {k : Nat} {p1 p2 p3 pos : Pos} (he : PE X e te) : PE X (.Subscript e (.Slice none none (some (.UnaryOp .USub (.Constant (.int 1) k p1) p2)) p3) pos) (tRevS te) := by
  refine ⟨fun pins s σ H Q I h => ?_⟩
  refine PyProof.Rows.Subscript_ (thn (he.run pins s σ H _ I h) fun v s1 ⟨x, H1, I1, r1, z, ex, hz, q⟩ => ?_)
  subst ex
  obtain ⟨t, rfl⟩ := r1
  have hst : PO X (some (.UnaryOp .USub (.Constant (.int 1) k p1) p2)) (tPart (tUn (rU fun i => .int (-i)) (tC (.int 1)))) := po_some (pe_un un_neg pe_int)
  refine wpAny_Slice (thn (po_none.run pins s1 σ H1 (fun o H2 => o = none ∧ H2 = H1) I1 ⟨rfl, rfl⟩) fun vl s2 ⟨l, H2, I2, pl, el, e2⟩ => ?_)
  subst el e2
  refine thn (po_none.run pins s2 σ H2 (fun o H3 => o = none ∧ H3 = H2) I2 ⟨rfl, rfl⟩) fun vu s3 ⟨u, H3, I3, pu, eu, e3⟩ => ?_
  subst eu e3
  refine thn (hst.run pins s3 σ H3 (fun o H4 => o = some (-1) ∧ H4 = H3) I3 ⟨1, rfl, -1, rfl, rfl, rfl⟩) fun vs s4 ⟨o, H4, I4, ps, eo, e4⟩ => ?_
  subst eo e4
  obtain ⟨l', rfl, hl'⟩ := IsPart.raw pl
  obtain ⟨u', rfl, hu'⟩ := IsPart.raw pu
  obtain ⟨st', rfl, hst'⟩ := IsPart.raw ps
  have I5 : Inv X pins σ H4 { s4 with heap := s4.heap.push { cls := .type "slice", data := .fields #[partValue l', partValue u', partValue st'] } } := I4.kept (t' := s4.toks) fun b ob q => Heap.get?_push_of_some _ q
  show wpAny (model X.prog X.w) X.A (PyProof.Rows.subscriptTail e (.Slice none none (some (.UnaryOp .USub (.Constant (.int 1) k p1) p2)) p3) (.str z t) (.ref s4.heap.objs.size)) (EP X pins σ Q) X.xe _
  have hl0 : l'.map (·.1) = none := hl'
  have hu0 : u'.map (·.1) = none := hu'
  have hs0 : st'.map (·.1) = some (-1) := hst'
  refine PyProof.Rows.tail_any (T := "str") (ops := [.ref s4.heap.objs.size, .str z t]) (typeIs_str _ _ _) F.slot_str_getitem.lookup ?_ (by with_unfolding_all rfl)
  refine wpAny_getItem_str_slice (l := l') (u := u') (st := st') ⟨_, Heap.get?_push_size _ rfl, rfl, rfl⟩ (by rw [hs0]; rfl) ?_
  unfold sliceMade slicePicked
  rw [hl0, hu0, hs0]
  show Made.post (if ((-1 : Int) == 1 && _) = true then _ else Made.str ⟨((Builtin.Str.strSliceIndices none none (-1) z.length).filterMap (z.cps[·]?)).toArray⟩) _ _
  rw [if_neg (by rw [show ((-1 : Int) == 1) = false by decide, Bool.false_and]; decide), picked_rev]
  refine ⟨?_, .str _, H4, I5.tok _, ⟨_, rfl⟩, q⟩
  show z.cps.toList.reverse.toArray.size ≤ sizeLine
  rw [List.size_toArray, List.length_reverse, Array.length_toList]
  exact hz
end
end Rf
set_option Elab.async false
set_option linter.all false
set_option maxRecDepth 100000
set_option maxHeartbeats 4000000
namespace Rf
open PySem L2 Evl
/-! ### data that is compared -/
class Dat (α : Type) [Rep α] where
  data : α → PyData
  dep : Nat
  dp : ∀ {K : PySem.W.Frag} {H : Hp} {v : V} {a : α}, Rep.rep K H v a → Dp K H v (data a)
  deq : ∀ a b : α, PyData.eqv (data a) (data b) = true ↔ a = b
  lay : α → Prop
  can : ∀ {a : α}, lay a → PyData.canLay0 (data a) = true
  deep : ∀ a : α, PyData.depth (data a) ≤ dep
instance : Dat Int where
  data := .int
  dep := 0
  dp := fun {K H v a} h => by
    have h' : v = .int a := h
    rw [h']; exact .int a
  deq := fun a b => by simp [PyData.eqv]
  lay := fun _ => True
  can := fun _ => rfl
  deep := fun _ => Nat.le_refl _
instance : Dat Bool where
  data := .bool
  dep := 0
  dp := fun {K H v a} h => by
    have h' : v = .bl a := h
    rw [h']; exact .bl a
  deq := fun a b => by simp [PyData.eqv]
  lay := fun _ => True
  can := fun _ => rfl
  deep := fun _ => Nat.le_refl _
theorem dpAll_of {α : Type} [Rep α] [Dat α] {K : PySem.W.Frag} {H : Hp} : ∀ {vs : List V} {as : List α}, All2 (Rep.rep K H) vs as → DpAll K H vs (as.map Dat.data)
  | _, _, .nil => .nil
  | _, _, .cons h t => .cons (Dat.dp h) (dpAll_of t)
theorem eqvAll_of {α : Type} [Rep α] [Dat α] : ∀ as bs : List α, PyData.eqvAll (as.map Dat.data) (bs.map Dat.data) = true ↔ as = bs
  | [], [] => by simp [PyData.eqvAll]
  | [], _ :: _ => by simp [PyData.eqvAll]
  | _ :: _, [] => by simp [PyData.eqvAll]
  | a :: as, b :: bs => by simp [PyData.eqvAll, Dat.deq, eqvAll_of as bs]
theorem canAll_of {α : Type} [Rep α] [Dat α] : ∀ as : List α, (∀ a ∈ as, Dat.lay a) → PyData.canLayAll0 (as.map Dat.data) = true
  | [], _ => rfl
  | a :: as, h => by
    simp only [List.map_cons, PyData.canLayAll0, Bool.and_eq_true]
    exact ⟨Dat.can (h a (by simp)), canAll_of as fun b hb => h b (by simp [hb])⟩
theorem deepAll_of {α : Type} [Rep α] [Dat α] : ∀ as : List α, PyData.depthAll (as.map Dat.data) ≤ Dat.dep α
  | [] => Nat.zero_le _
  | a :: as => by
    simp only [List.map_cons, PyData.depthAll]
    exact Nat.max_le.mpr ⟨Dat.deep a, deepAll_of as⟩
instance {α : Type} [Rep α] [Dat α] : Dat (List α) where
  data := fun as => .list (as.map Dat.data)
  dep := Dat.dep α + 1
  dp := fun {K H v a} h => by
    obtain ⟨p, e, xs, h1, h2⟩ := h
    rw [e]
    exact .lst h1 (dpAll_of h2)
  deq := fun a b => by simp only [PyData.eqv]; exact eqvAll_of a b
  lay := fun as => ∀ a ∈ as, Dat.lay a
  can := fun {a} h => by simp only [PyData.canLay0]; exact canAll_of a h
  deep := fun a => by simp only [PyData.depth]; have := deepAll_of a; omega
section
variable {α β γ δ : Type} [Rep α] [Rep β] [Rep γ] [Rep δ] {K : PySem.W.Frag} {σ : L2.St} {H H' : Hp} {ta tb tc te tl : TE} {t u tt : TT} {X : Cx}
theorem shaped_of [Dat α] {a : α} (h : Dat.lay a) (hd : Dat.dep α ≤ 64) : SeqAt.shaped (Dat.data a) = true := by
  unfold SeqAt.shaped
  rw [Dat.can h, decide_eq_true (Nat.le_trans (Dat.deep a) hd)]; rfl
theorem eqv_dec [Dat α] [DecidableEq α] (a b : α) : PyData.eqv (Dat.data a) (Dat.data b) = decide (a = b) := by
  rw [Bool.eq_iff_iff, Dat.deq, decide_eq_true_iff]
theorem er_eqD [Dat α] [DecidableEq α] {a b : α} (ha : Er K ta σ H a) (hb : Er K tb σ H b) (la : Dat.lay a) (lb : Dat.lay b) (hd : Dat.dep α ≤ 64) : Er K (tOp (rEqD K) ta tb) σ H (decide (a = b)) :=
  er_two ha hb fun x y H1 _ rx ry Q q => ⟨Dat.data a, Dat.data b, Dat.dp rx, Dat.dp ry, shaped_of la hd, shaped_of lb hd, q _ H1 (Ex.refl H1) (by rw [eqv_dec]; rfl)⟩
theorem er_neD [Dat α] [DecidableEq α] {a b : α} (ha : Er K ta σ H a) (hb : Er K tb σ H b) (la : Dat.lay a) (lb : Dat.lay b) (hd : Dat.dep α ≤ 64) : Er K (tOp (rNeD K) ta tb) σ H (!decide (a = b)) :=
  er_two ha hb fun x y H1 _ rx ry Q q => ⟨Dat.data a, Dat.data b, Dat.dp rx, Dat.dp ry, shaped_of la hd, shaped_of lb hd, q _ H1 (Ex.refl H1) (by rw [eqv_dec]; rfl)⟩

/-! ### join, max, min, abs, isinstance -/
def catS (ys : List Str) : Str := ⟨(ys.map (·.cps.toList)).flatten.toArray⟩
def rJoin (K : PySem.W.Frag) : V → List V → Hp → VK → Prop := fun x xs H Q => ∃ a p, ∃ ys : List Str, x = .str a ∧ xs = [.ref p] ∧ (SqL K H p (ys.map V.str) ∨ SqT K H p (ys.map V.str)) ∧ (ys.map (·.length)).sum + ys.length * a.length ≤ 16777216 ∧ Q (.str (Txt.join a ys)) H
theorem pe_join' {o e : Expr} {to te : TE} {apos pos : Pos} (ho : PE X o to) (he : PE X e te) (hs : starEach [e] X.env = [(false, eval e X.env)] := by rfl) (hbase : attributeBase o "join" X.env (eval o X.env) = eval o X.env := by rfl) (hline : (apos.endLine == pos.line) = true := by rfl) :
    PE X (.Call (.Attribute o "join" apos) [e] [] pos) (tM1 (rJoin X.K) to te) := pe_join ho he hs hbase hline
theorem join_empty : ∀ ys : List Str, Str.join (⟨#[]⟩ : Str) ys = catS ys
  | [] => rfl
  | [x] => by
    show x = catS [x]
    unfold catS
    simp
  | x :: y :: r => by
    show x ++ (⟨#[]⟩ : Str) ++ Str.join ⟨#[]⟩ (y :: r) = _
    rw [join_empty (y :: r)]
    unfold catS
    show (⟨(x.cps ++ #[]) ++ _⟩ : Str) = _
    congr 1
    apply Array.ext'
    simp
theorem txt_join (ys : List Str) : Txt.join (⟨#[]⟩ : Str) ys = catS ys := by
  rw [← join_empty]
  exact PySem.StrLaws.glued_eq_join _ ys
theorem er_join {z : Str} {ys : List Str} (hz : z = ⟨#[]⟩) (h : Er K te σ H ys) (hl : (ys.map (·.length)).sum ≤ 100000) : Er K (tM1 (rJoin K) (tC (.str z)) te) σ H (catS ys) := fun H1 e Q q =>
  ⟨⟨z, rfl⟩, h H1 e _ fun v H2 e2 ⟨p, e3, xs, hs, hall⟩ => ⟨z, p, ys, rfl, by rw [e3], .inl (by rw [← all2_str hall]; exact hs), by
    have : z.length = 0 := by rw [hz]; rfl
    rw [this]; omega, by rw [hz, txt_join]; exact q _ H2 e2 rfl⟩⟩
def rMaxL (K : PySem.W.Frag) : List V → Hp → VK → Prop := rMax K
def rMinL (K : PySem.W.Frag) : List V → Hp → VK → Prop := rMin K
theorem cMaxL (hc : X.calm = true) : CallR X (.builtin "max") (rMaxL X.K) := cr_max hc
theorem cMinL (hc : X.calm = true) : CallR X (.builtin "min") (rMinL X.K) := cr_min hc
def maxI : List Int → Int
  | [] => 0
  | [a] => a
  | a :: b :: r => if maxI (b :: r) > a then maxI (b :: r) else a
theorem maxI_mem : ∀ {l : List Int}, l ≠ [] → maxI l ∈ l ∧ ∀ y ∈ l, y ≤ maxI l
  | [a], _ => by simp [maxI]
  | a :: b :: r, _ => by
    obtain ⟨h1, h2⟩ := maxI_mem (l := b :: r) (by simp)
    show (if maxI (b :: r) > a then maxI (b :: r) else a) ∈ a :: b :: r ∧ ∀ y ∈ a :: b :: r, y ≤ (if maxI (b :: r) > a then maxI (b :: r) else a)
    split
    · rename_i h
      refine ⟨List.mem_cons_of_mem _ h1, fun y hy => ?_⟩
      rcases List.mem_cons.mp hy with e | e
      · omega
      · exact h2 y e
    · rename_i h
      refine ⟨by simp, fun y hy => ?_⟩
      rcases List.mem_cons.mp hy with e | e
      · omega
      · have := h2 y e; omega
def minI : List Int → Int
  | [] => 0
  | [a] => a
  | a :: b :: r => if minI (b :: r) < a then minI (b :: r) else a
theorem minI_mem : ∀ {l : List Int}, l ≠ [] → minI l ∈ l ∧ ∀ y ∈ l, minI l ≤ y
  | [a], _ => by simp [minI]
  | a :: b :: r, _ => by
    obtain ⟨h1, h2⟩ := minI_mem (l := b :: r) (by simp)
    show (if minI (b :: r) < a then minI (b :: r) else a) ∈ a :: b :: r ∧ ∀ y ∈ a :: b :: r, (if minI (b :: r) < a then minI (b :: r) else a) ≤ y
    split
    · rename_i h
      refine ⟨List.mem_cons_of_mem _ h1, fun y hy => ?_⟩
      rcases List.mem_cons.mp hy with e | e
      · omega
      · exact h2 y e
    · rename_i h
      refine ⟨by simp, fun y hy => ?_⟩
      rcases List.mem_cons.mp hy with e | e
      · omega
      · have := h2 y e; omega
theorem er_maxL {ns : List Int} (h : Er K ta σ H ns) (h0 : ns ≠ []) : Er K (tCB (rMaxL K) (tCons ta tNil)) σ H (maxI ns) := fun H1 e Q q =>
  h H1 e _ fun v H2 e2 ⟨p, e3, hl⟩ => ⟨p, ns, by rw [e3], lst_int hl, by cases ns <;> simp_all, fun m hm hle => by
    have e : m = maxI ns := Int.le_antisymm ((maxI_mem h0).2 m hm) (hle _ (maxI_mem h0).1)
    subst e
    exact q _ H2 e2 rfl⟩
theorem er_minL {ns : List Int} (h : Er K ta σ H ns) (h0 : ns ≠ []) : Er K (tCB (rMinL K) (tCons ta tNil)) σ H (minI ns) := fun H1 e Q q =>
  h H1 e _ fun v H2 e2 ⟨p, e3, hl⟩ => ⟨p, ns, by rw [e3], lst_int hl, by cases ns <;> simp_all, fun m hm hle => by
    have e : m = minI ns := Int.le_antisymm (hle _ (minI_mem h0).1) ((minI_mem h0).2 m hm)
    subst e
    exact q _ H2 e2 rfl⟩
def rAbs : List V → Hp → VK → Prop := fun xs H Q => ∃ i, xs = [.int i] ∧ Q (.int (if i < 0 then -i else i)) H
theorem cAbs : CallR X (.builtin "abs") rAbs := call_abs
theorem er_abs {i : Int} (h : Er K ta σ H i) : Er K (tCB rAbs (tCons ta tNil)) σ H (if i < 0 then -i else i) := fun H1 e Q q =>
  er_i h H1 e _ fun H2 e2 => ⟨i, rfl, q _ H2 e2 rfl⟩
theorem cIsi : CallR X (.builtin "isinstance") (rIsi X.K) := call_isi
theorem er_isi {a : α} {T U : String} {b : Bool} (h : Er K ta σ H a) (ty : ∀ H1 v, Rep.rep K H1 v a → TyX K H1 v (.type T)) (kb : kitB T U = some b) : Er K (tCB (rIsi K) (tCons ta (tCons (tC (.ty U)) tNil))) σ H b := fun H1 e Q q =>
  h H1 e _ fun v H2 e2 r => ⟨v, .ty U, _, _, b, rfl, .ty U, ty H2 v r, kit_ty kb, q _ H2 e2 rfl⟩
theorem ty_int {H1 : Hp} {v : V} {a : Int} (r : Rep.rep K H1 v a) : TyX K H1 v (.type "int") := by
  have r' : v = .int a := r
  rw [r']; exact .base (.int a)
theorem ty_bl {H1 : Hp} {v : V} {a : Bool} (r : Rep.rep K H1 v a) : TyX K H1 v (.type "bool") := by
  have r' : v = .bl a := r
  rw [r']; exact .base (.bl a)
theorem ty_str {H1 : Hp} {v : V} {a : Str} (r : Rep.rep K H1 v a) : TyX K H1 v (.type "str") := by
  have r' : v = .str a := r
  rw [r']; exact .base (.str a)
theorem ty_lst {H1 : Hp} {v : V} {as : List α} (r : Rep.rep K H1 v as) : TyX K H1 v (.type "list") := by
  obtain ⟨p, rfl, xs, hs, _⟩ := r
  rcases hs with (h | ⟨o, h⟩) | ⟨o, its, n, h, hc, _⟩
  · exact .base (.lst h)
  · exact .base (.frz h)
  · exact .kList h hc

/-! ### what a def promises -/
def Pr1 (K : PySem.W.Frag) (pre : α → Prop) (f : α → β) : Sp := fun vs H Q _ => ∃ v a, vs = [v] ∧ Rep.rep K H v a ∧ pre a ∧ ∀ u H', Ex H H' → Rep.rep K H' u (f a) → Q u H'
def Pr2 (K : PySem.W.Frag) (pre : α → β → Prop) (f : α → β → γ) : Sp := fun vs H Q _ => ∃ v w a b, vs = [v, w] ∧ Rep.rep K H v a ∧ Rep.rep K H w b ∧ pre a b ∧ ∀ u H', Ex H H' → Rep.rep K H' u (f a b) → Q u H'
def Pr3 (K : PySem.W.Frag) (pre : α → β → γ → Prop) (f : α → β → γ → δ) : Sp := fun vs H Q _ => ∃ v w z a b c, vs = [v, w, z] ∧ Rep.rep K H v a ∧ Rep.rep K H w b ∧ Rep.rep K H z c ∧ pre a b c ∧ ∀ u H', Ex H H' → Rep.rep K H' u (f a b c) → Q u H'
/-- .. a new list -/
def PrF1 (K : PySem.W.Frag) (pre : α → Prop) (f : α → List β) : Sp := fun vs H Q _ => ∃ v a, vs = [v] ∧ Rep.rep K H v a ∧ pre a ∧ ∀ p H', H p = none → Ex H H' → Own K H' p (f a) → Q (.ref p) H'
def PrF2 (K : PySem.W.Frag) (pre : α → β → Prop) (f : α → β → List γ) : Sp := fun vs H Q _ => ∃ v w a b, vs = [v, w] ∧ Rep.rep K H v a ∧ Rep.rep K H w b ∧ pre a b ∧ ∀ p H', H p = none → Ex H H' → Own K H' p (f a b) → Q (.ref p) H'
theorem er_call1 {pre : α → Prop} {f : α → β} {E : XK} {a : α} (h : Er K ta σ H a) (hp : pre a) : Er K (tCall (Pr1 K pre f) [] E (tCons ta tNil)) σ H (f a) := fun H1 e Q q =>
  h H1 e _ fun v H2 e2 r => ⟨v, a, rfl, r, hp, fun u H3 e3 r3 => q u H3 (e2.trans e3) r3⟩
theorem er_call2 {pre : α → β → Prop} {f : α → β → γ} {E : XK} {a : α} {b : β} (h : Er K ta σ H a) (hb : Er K tb σ H b) (hp : pre a b) : Er K (tCall (Pr2 K pre f) [] E (tCons ta (tCons tb tNil))) σ H (f a b) := fun H1 e Q q =>
  h H1 e _ fun v H2 e2 r => hb H2 (e.trans e2) _ fun w H3 e3 r3 => ⟨v, w, a, b, rfl, Rep.mono e3 r, r3, hp, fun u H4 e4 r4 => q u H4 ((e2.trans e3).trans e4) r4⟩
theorem er_call3 {pre : α → β → γ → Prop} {f : α → β → γ → δ} {E : XK} {a : α} {b : β} {c : γ} (h : Er K ta σ H a) (hb : Er K tb σ H b) (hc : Er K tc σ H c) (hp : pre a b c) : Er K (tCall (Pr3 K pre f) [] E (tCons ta (tCons tb (tCons tc tNil)))) σ H (f a b c) := fun H1 e Q q =>
  h H1 e _ fun v H2 e2 r => hb H2 (e.trans e2) _ fun w H3 e3 r3 => hc H3 ((e.trans e2).trans e3) _ fun z H4 e4 r4 => ⟨v, w, z, a, b, c, rfl, Rep.mono (e3.trans e4) r, Rep.mono e4 r3, r4, hp, fun u H5 e5 r5 => q u H5 (((e2.trans e3).trans e4).trans e5) r5⟩
theorem erf_call1 {pre : α → Prop} {f : α → List β} {E : XK} {a : α} (h : Er K ta σ H a) (hp : pre a) : ErF K (tCall (PrF1 K pre f) [] E (tCons ta tNil)) σ H (f a) := fun H1 e Q q =>
  h H1 e _ fun v H2 e2 r => ⟨v, a, rfl, r, hp, fun p H3 h0 e3 r3 => q p H3 (fresh_back e2 h0) (e2.trans e3) r3⟩
theorem erf_call2 {pre : α → β → Prop} {f : α → β → List γ} {E : XK} {a : α} {b : β} (h : Er K ta σ H a) (hb : Er K tb σ H b) (hp : pre a b) : ErF K (tCall (PrF2 K pre f) [] E (tCons ta (tCons tb tNil))) σ H (f a b) := fun H1 e Q q =>
  h H1 e _ fun v H2 e2 r => hb H2 (e.trans e2) _ fun w H3 e3 r3 => ⟨v, w, a, b, rfl, Rep.mono e3 r, r3, hp, fun p H4 h0 e4 r4 => q p H4 (fresh_back (e2.trans e3) h0) ((e2.trans e3).trans e4) r4⟩
end
end Rf
set_option Elab.async false
set_option linter.all false
set_option maxRecDepth 100000
set_option maxHeartbeats 4000000
namespace Rf
open PySem L2 Evl
/-- from every heap that extends H -/
def Gx (_ : PySem.W.Frag) (P : L2.St → Hp → Prop) (σ : L2.St) (H : Hp) : Prop := ∀ H1, Ex H H1 → P σ H1
theorem Gx.here {K : PySem.W.Frag} {P : L2.St → Hp → Prop} {σ : L2.St} {H : Hp} (h : Gx K P σ H) : P σ H := h H (Ex.refl H)
theorem Gx.up {K : PySem.W.Frag} {P : L2.St → Hp → Prop} {σ : L2.St} {H H' : Hp} (h : Gx K P σ H) (e : Ex H H') : Gx K P σ H' := fun H1 e1 => h H1 (e.trans e1)
/-- all but what stands at p -/
def ExBut (p : Addr) (H H1 : Hp) : Prop := ∀ q o, q ≠ p → H q = some o → H1 q = some o
theorem ExBut.ex {p : Addr} {B H H1 : Hp} (h : ExBut p H H1) (e : Ex B H) (hp : B p = none) : Ex B H1 := fun q o hq => h q o (fun z => by rw [z, hp] at hq; cases hq) (e q o hq)
theorem ExBut.own {α : Type} [Rep α] [Flat α] {K : PySem.W.Frag} {p q : Addr} {H H1 : Hp} {as : List α} (h : ExBut p H H1) (o : Own K H q as) (hq : q ≠ p) : Own K H1 q as := by
  obtain ⟨xs, h1, h2⟩ := o
  exact ⟨xs, h q _ hq h1, h2.flat⟩
section
variable {α β γ δ : Type} [Rep α] [Rep β] [Rep γ] [Rep δ] {K : PySem.W.Frag} {σ : L2.St} {H H' : Hp} {ta tb tc te tl : TE} {t u tt : TT} {X : Cx} {D : Ends} {tu tw tz : TS}
theorem g_seq (h : Gx K (tu { D with nx := tw D }) σ H) : Gx K (tSeq tu tw D) σ H := h
theorem g_next (h : Gx K D.nx σ H) : Gx K (tNext D) σ H := h
theorem g_asg {i : Nat} {a : α} (h : Er K te σ H a) (k : ∀ v H1, Ex H H1 → Rep.rep K H1 v a → Gx K D.nx (σ.set i (some v)) H1) : Gx K (tAsg te (gName i) D) σ H := fun H1 e =>
  h H1 e _ fun v H2 e2 r => (k v H2 (e.trans e2) r).here
theorem g_asgI {i : Nat} {a : Int} (h : Er K te σ H a) (k : Gx K D.nx (σ.set i (some (.int a))) H) : Gx K (tAsg te (gName i) D) σ H := fun H1 e => er_i h H1 e _ fun H2 e2 => k H2 (e.trans e2)
theorem g_asgB {i : Nat} {a : Bool} (h : Er K te σ H a) (k : Gx K D.nx (σ.set i (some (.bl a))) H) : Gx K (tAsg te (gName i) D) σ H := fun H1 e => er_b h H1 e _ fun H2 e2 => k H2 (e.trans e2)
theorem g_asgT {i : Nat} {a : Str} (h : Er K te σ H a) (k : Gx K D.nx (σ.set i (some (.str a))) H) : Gx K (tAsg te (gName i) D) σ H := fun H1 e => er_s h H1 e _ fun H2 e2 => k H2 (e.trans e2)
theorem g_asgF {i : Nat} {as : List α} (h : ErF K te σ H as) (k : ∀ p H1, H p = none → Ex H H1 → Own K H1 p as → Gx K D.nx (σ.set i (some (.ref p))) H1) : Gx K (tAsg te (gName i) D) σ H := fun H1 e =>
  h H1 e _ fun p H2 hp e2 o => (k p H2 (fresh_back e hp) (e.trans e2) o).here
theorem q_asg {i : Nat} {a : α} (h : Er K te σ H a) (k : ∀ v H1, Ex H H1 → Rep.rep K H1 v a → Gx K (tz D) (σ.set i (some v)) H1) : Gx K (tSeq (tAsg te (gName i)) tz D) σ H := g_asg (D := { D with nx := tz D }) h k
theorem q_asgI {i : Nat} {a : Int} (h : Er K te σ H a) (k : Gx K (tz D) (σ.set i (some (.int a))) H) : Gx K (tSeq (tAsg te (gName i)) tz D) σ H := g_asgI (D := { D with nx := tz D }) h k
theorem q_asgB {i : Nat} {a : Bool} (h : Er K te σ H a) (k : Gx K (tz D) (σ.set i (some (.bl a))) H) : Gx K (tSeq (tAsg te (gName i)) tz D) σ H := g_asgB (D := { D with nx := tz D }) h k
theorem q_asgT {i : Nat} {a : Str} (h : Er K te σ H a) (k : Gx K (tz D) (σ.set i (some (.str a))) H) : Gx K (tSeq (tAsg te (gName i)) tz D) σ H := g_asgT (D := { D with nx := tz D }) h k
theorem q_asgF {i : Nat} {as : List α} (h : ErF K te σ H as) (k : ∀ p H1, H p = none → Ex H H1 → Own K H1 p as → Gx K (tz D) (σ.set i (some (.ref p))) H1) : Gx K (tSeq (tAsg te (gName i)) tz D) σ H := g_asgF (D := { D with nx := tz D }) h k
theorem g_if {b : Bool} (h : Et K t σ H b) (h1 : b = true → Gx K (tu D) σ H) (h2 : b = false → Gx K (tw D) σ H) : Gx K (tIfS t tu tw D) σ H := fun H1 e => h H1 e _ fun H2 e2 => by
  cases b with
  | true => exact h1 rfl H2 (e.trans e2)
  | false => exact h2 rfl H2 (e.trans e2)
theorem q_if {b : Bool} (h : Et K t σ H b) (h1 : b = true → Gx K (tu { D with nx := tz D }) σ H) (h2 : b = false → Gx K (tw { D with nx := tz D }) σ H) : Gx K (tSeq (tIfS t tu tw) tz D) σ H := g_if (D := { D with nx := tz D }) h h1 h2
/-- an if without else -/
theorem q_when {b : Bool} (h : Et K t σ H b) (h1 : b = true → Gx K (tu { D with nx := tz D }) σ H) (h2 : b = false → Gx K (tz D) σ H) : Gx K (tSeq (tIfS t tu tNext) tz D) σ H := g_if (D := { D with nx := tz D }) h h1 h2
theorem g_ret {a : α} (h : Er K te σ H a) (k : ∀ v H1, Ex H H1 → Rep.rep K H1 v a → D.rt v H1) : Gx K (tRet te D) σ H := fun H1 e => h H1 e _ fun v H2 e2 r => k v H2 (e.trans e2) r
theorem g_retF {as : List α} (h : ErF K te σ H as) (k : ∀ p H1, H p = none → Ex H H1 → Own K H1 p as → D.rt (.ref p) H1) : Gx K (tRet te D) σ H := fun H1 e => h H1 e _ fun p H2 hp e2 r => k p H2 (fresh_back e hp) (e.trans e2) r
theorem g_drop {a : α} (h : Er K te σ H a) (k : Gx K D.nx σ H) : Gx K (tDrop te D) σ H := fun H1 e => h H1 e _ fun v H2 e2 _ => k H2 (e.trans e2)
theorem q_drop {a : α} (h : Er K te σ H a) (k : Gx K (tz D) σ H) : Gx K (tSeq (tDrop te) tz D) σ H := g_drop (D := { D with nx := tz D }) h k
/-- i += e -/
theorem g_augI {i : Nat} {f : Int → Int → Int} {a b : Int} (hx : σ[i]? = some (some (.int a))) (h : Er K te σ H b) (k : Gx K D.nx (σ.set i (some (.int (f a b)))) H) : Gx K (tAug i te (ipI f) D) σ H := fun H1 e =>
  s_aug hx ((er_i h).mono e) fun H2 e2 => k H2 (e.trans e2)
theorem q_augI {i : Nat} {f : Int → Int → Int} {a b : Int} (hx : σ[i]? = some (some (.int a))) (h : Er K te σ H b) (k : Gx K (tz D) (σ.set i (some (.int (f a b)))) H) : Gx K (tSeq (tAug i te (ipI f)) tz D) σ H := g_augI (D := { D with nx := tz D }) hx h k
/-- text += e -/
def ipT : TIp := fun x y H Q => ∃ i j, x = .str i ∧ y = .str j ∧ i.length + j.length ≤ sizeLine ∧ Q (.str (i ++ j)) H
theorem ip_addT : PIp X .Add ipT := fun pins s σ H x y v u Q I r1 r2 h => iop_add_str pins s σ H x y v u Q I r1 r2 h
theorem g_augT {i : Nat} {a b : Str} (hx : σ[i]? = some (some (.str a))) (h : Er K te σ H b) (hl : a.length + b.length ≤ 100000) (k : Gx K D.nx (σ.set i (some (.str (a ++ b)))) H) : Gx K (tAug i te ipT D) σ H := fun H1 e =>
  ⟨.str a, hx, er_s h H1 e _ fun H2 e2 => ⟨a, b, rfl, rfl, sz_of hl, k H2 (e.trans e2)⟩⟩
/-- xs.append(e), the item something that stands for itself -/
theorem g_app {i : Nat} {p : Addr} {as : List α} [Flat α] {a : α} (ho : Own K H p as) (hv : σ[i]? = some (some (.ref p))) (h : Er K te σ H a) (hz : as.length ≤ 90000) (k : ∀ H1, ExBut p H H1 → Own K H1 p (as ++ [a]) → Gx K D.nx σ H1) :
    Gx K (tDrop (tBM K "list" rAppend (tVar i) (tCons te tNil)) D) σ H := fun H1 e => ⟨.ref p, hv, by
  obtain ⟨xs, h1, h2⟩ := ho.up e
  refine ⟨Or.inl ⟨rfl, xs, sq_of h1⟩, h H1 e _ fun v H2 e2 r => ?_⟩
  refine ⟨p, xs, v, rfl, rfl, e2 _ _ h1, sz_lt (by rw [h2.len]; omega), (k _ (fun q o hq q0 => ?_) ?_).here⟩
  · rw [upd_ne hq]; exact e2 _ _ (e _ _ q0)
  · exact ⟨_, upd_same, h2.flat.append (.one (Flat.flat r))⟩⟩
theorem q_app {i : Nat} {p : Addr} {as : List α} [Flat α] {a : α} (ho : Own K H p as) (hv : σ[i]? = some (some (.ref p))) (h : Er K te σ H a) (hz : as.length ≤ 90000) (k : ∀ H1, ExBut p H H1 → Own K H1 p (as ++ [a]) → Gx K (tz D) σ H1) :
    Gx K (tSeq (tDrop (tBM K "list" rAppend (tVar i) (tCons te tNil))) tz D) σ H := g_app (D := { D with nx := tz D }) ho hv h hz k
/-- .. an item that leans on B, which doesn't know the list -/
theorem g_appB {i : Nat} {p : Addr} {as : List α} {a : α} {B : Hp} (ho : Own K H p as) (hv : σ[i]? = some (some (.ref p))) (eB : Ex B H) (hB : B p = none) (h : Es K te σ B a) (hz : as.length ≤ 90000) (k : ∀ H1, ExBut p H H1 → Own K H1 p (as ++ [a]) → Gx K D.nx σ H1) :
    Gx K (tDrop (tBM K "list" rAppend (tVar i) (tCons te tNil)) D) σ H := fun H1 e => ⟨.ref p, hv, by
  obtain ⟨xs, h1, h2⟩ := ho.up e
  refine ⟨Or.inl ⟨rfl, xs, sq_of h1⟩, h H1 (eB.trans e) _ fun v H2 e2 r => ?_⟩
  refine ⟨p, xs, v, rfl, rfl, e2 _ _ h1, sz_lt (by rw [h2.len]; omega), (k _ (fun q o hq q0 => ?_) ?_).here⟩
  · rw [upd_ne hq]; exact e2 _ _ (e _ _ q0)
  · refine ⟨_, upd_same, ?_⟩
    rw [del_upd]
    exact (h2.mp fun v a r => Rep.mono (del_del e2) r).append (.one (Rep.mono (mix_del hB (by rw [h1]; simp)) r))⟩
theorem q_appB {i : Nat} {p : Addr} {as : List α} {a : α} {B : Hp} (ho : Own K H p as) (hv : σ[i]? = some (some (.ref p))) (eB : Ex B H) (hB : B p = none) (h : Es K te σ B a) (hz : as.length ≤ 90000) (k : ∀ H1, ExBut p H H1 → Own K H1 p (as ++ [a]) → Gx K (tz D) σ H1) :
    Gx K (tSeq (tDrop (tBM K "list" rAppend (tVar i) (tCons te tNil))) tz D) σ H := g_appB (D := { D with nx := tz D }) ho hv eB hB h hz k
/-- xs[i] = e -/
theorem g_setI {i : Nat} {p : Addr} {as : List α} [Flat α] {a : α} {n : Int} {j : Nat} (ho : Own K H p as) (hv : σ[i]? = some (some (.ref p))) (h : Er K te σ H a) (hi : Er K tb σ H n) (hj : ixN as.length n = some j) (k : ∀ H1, ExBut p H H1 → Own K H1 p (as.set j a) → Gx K D.nx σ H1) :
    Gx K (tAsg te (gSub (tVar i) tb rSetL) D) σ H := fun H1 e => h H1 e _ fun v H2 e2 r => ⟨.ref p, hv, er_i hi H2 (e.trans e2) _ fun H3 e3 => by
  obtain ⟨xs, h1, h2⟩ := ho.up ((e.trans e2).trans e3)
  refine ⟨p, xs, n, j, rfl, rfl, h1, by rw [h2.len]; exact hj, (k _ (fun q o hq q0 => ?_) ⟨_, upd_same, h2.flat.set (Flat.flat r) j⟩).here⟩
  rw [upd_ne hq]; exact ((e.trans e2).trans e3) _ _ q0⟩

/-! ### loops -/
/-- over a list that stands in B -/
theorem g_forL {j : Nat} {i0 : Nat} {v0 : V} {as : List α} {B : Hp} (Inv : Nat → L2.St → Hp → Prop) (hv : σ[i0]? = some (some v0)) (r0 : Rep.rep K B v0 as) (eB : Ex B H) (h0 : ∀ H1, Ex H H1 → Inv 0 σ H1) (hI : ∀ i σ' H', Inv i σ' H' → Ex B H')
    (hs : ∀ i a v σ' H', as[i]? = some a → Rep.rep K B v a → Inv i σ' H' → Gx K (tu { D with nx := Inv (i + 1), ct := Inv (i + 1), bk := D.nx }) (σ'.set j (some v)) H') (hd : ∀ σ' H', Inv as.length σ' H' → D.nx σ' H') :
    Gx K (tFor (iList K (tVar i0)) (gName j) tu D) σ H := fun H1 e => by
  obtain ⟨p, rfl, xs, hx, hall⟩ := r0
  exact ⟨.ref p, hv, p, rfl, ⟨xs, ex_l (eB.trans e) hx⟩, for_list (xs := xs) Inv (h0 H1 e) (fun i σ' H' _ iv => ex_l (hI i σ' H' iv) hx) (fun i x σ' H' hxi iv => by
    obtain ⟨a, ha, r⟩ := hall.getV hxi
    exact (hs i a x σ' H' ha r iv).here) fun σ' H' iv => hd σ' H' (by rw [← hall.len]; exact iv)⟩
/-- over a list that is reckoned here -/
theorem g_forN {g : TG} {as : List α} (h : Er K tl σ H as) (Inv : Hp → Nat → L2.St → Hp → Prop) (h0 : ∀ B H1, Ex H B → Ex B H1 → Inv B 0 σ H1) (hI : ∀ B i σ' H', Inv B i σ' H' → Ex B H')
    (hs : ∀ B i a v σ' H', Ex H B → as[i]? = some a → Rep.rep K B v a → Inv B i σ' H' → g v σ' H' fun σ2 H2 => tu { D with nx := Inv B (i + 1), ct := Inv B (i + 1), bk := D.nx } σ2 H2) (hd : ∀ B σ' H', Ex H B → Inv B as.length σ' H' → D.nx σ' H') :
    Gx K (tFor (iList K tl) g tu D) σ H := fun H1 e => h H1 e _ fun v B e2 ⟨p, ep, xs, hx, hall⟩ =>
  ⟨p, ep, ⟨xs, hx⟩, for_list (xs := xs) (Inv B) (h0 B B (e.trans e2) (Ex.refl B)) (fun i σ' H' _ iv => ex_l (hI B i σ' H' iv) hx) (fun i x σ' H' hxi iv => by
    obtain ⟨a, ha, r⟩ := hall.getV hxi
    exact hs B i a x σ' H' (e.trans e2) ha r iv) fun σ' H' iv => hd B σ' H' (e.trans e2) (by rw [← hall.len]; exact iv)⟩
theorem g_forR {j : Nat} {lo : Int} {n : Nat} {wi : TI} (h : Rg K wi σ H lo n) (Inv : Nat → L2.St → Hp → Prop) (h0 : ∀ H1, Ex H H1 → Inv 0 σ H1)
    (hs : ∀ (i : Nat) σ' H', i < n → Inv i σ' H' → Gx K (tu { D with nx := Inv (i + 1), ct := Inv (i + 1), bk := D.nx }) (σ'.set j (some (.int (lo + i)))) H') (hd : ∀ σ' H', Inv n σ' H' → D.nx σ' H') :
    Gx K (tFor wi (gName j) tu D) σ H := fun H1 e => h H1 e _ fun H2 e2 => for_range (lo := lo) (n := n) Inv (h0 H2 (e.trans e2)) (fun i σ' H' hi iv => (hs i σ' H' hi iv).here) hd
/-- over a text -/
theorem for_str {x : Str} {g : TG} {tb : TS} (Pv : Nat → L2.St → Hp → Prop) (h0 : Pv 0 σ H)
    (hs : ∀ i c σ H, x.cps[i]? = some c → Pv i σ H → g (.str (sgn c)) σ H fun σ2 H2 => tb { D with nx := Pv (i + 1), ct := Pv (i + 1), bk := D.nx } σ2 H2) (hd : ∀ σ H, Pv x.cps.size σ H → D.nx σ H) :
    ∃ W : Nat → Nat → L2.St → Hp → Prop, (∃ m, W 0 m σ H) ∧ ∀ i m σ H, W i m σ H →
      ((Its x).stop i H ∧ D.nx σ H) ∨ ((Its x).go i H ∧ ∃ N : L2.St → Hp → Prop, (∀ σ' H', N σ' H' → ∃ m', m' < m ∧ W (i + 1) m' σ' H') ∧ ∀ v H', (Its x).yld i H v H' → g v σ H' fun σ2 H2 => tb { D with nx := N, ct := N, bk := D.nx } σ2 H2) := by
  refine ⟨fun i m σ H => m = x.cps.size - i ∧ i ≤ x.cps.size ∧ Pv i σ H, ⟨x.cps.size, by simp, Nat.zero_le _, h0⟩, ?_⟩
  rintro i m σ H ⟨rfl, hi, p⟩
  by_cases hlt : i < x.cps.size
  · refine .inr ⟨hlt, Pv (i + 1), fun σ' H' p' => ⟨x.cps.size - (i + 1), by omega, rfl, hlt, p'⟩, fun v H' y => ?_⟩
    obtain ⟨e, c, hc, e2⟩ := y
    subst e e2
    exact hs i c σ _ hc p
  · have e : i = x.cps.size := by omega
    subst e
    exact .inl ⟨Nat.le_refl _, hd σ H p⟩
theorem g_forS {j : Nat} {x : Str} (h : Er K tl σ H x) (Inv : Nat → L2.St → Hp → Prop) (h0 : ∀ H1, Ex H H1 → Inv 0 σ H1)
    (hs : ∀ (i c : Nat) σ' H', x.cps[i]? = some c → Inv i σ' H' → Gx K (tu { D with nx := Inv (i + 1), ct := Inv (i + 1), bk := D.nx }) (σ'.set j (some (.str (sgn c)))) H') (hd : ∀ σ' H', Inv x.cps.size σ' H' → D.nx σ' H') :
    Gx K (tFor (iStr tl) (gName j) tu D) σ H := fun H1 e => er_s h H1 e _ fun H2 e2 => ⟨x, rfl, for_str Inv (h0 H2 (e.trans e2)) (fun i c σ' H' hc iv => (hs i c σ' H' hc iv).here) hd⟩
/-- over enumerate(list), the list stands in B -/
theorem for_enum {a : Addr} {xs : List V} {g : TG} {tb : TS} (Pv : Nat → L2.St → Hp → Prop) (h0 : Pv 0 σ H) (hl : ∀ i σ H, i ≤ xs.length → Pv i σ H → SqL K H a xs)
    (hs : ∀ i x T σ H, xs[i]? = some x → Pv i σ H → H T = none → g (.ref T) σ (upd H T (.tup [.int (i : Nat), x])) fun σ2 H2 => tb { D with nx := Pv (i + 1), ct := Pv (i + 1), bk := D.nx } σ2 H2) (hd : ∀ σ H, Pv xs.length σ H → D.nx σ H) :
    ∃ W : Nat → Nat → L2.St → Hp → Prop, (∃ m, W 0 m σ H) ∧ ∀ i m σ H, W i m σ H →
      ((Ite K a).stop i H ∧ D.nx σ H) ∨ ((Ite K a).go i H ∧ ∃ N : L2.St → Hp → Prop, (∀ σ' H', N σ' H' → ∃ m', m' < m ∧ W (i + 1) m' σ' H') ∧ ∀ v H', (Ite K a).yld i H v H' → g v σ H' fun σ2 H2 => tb { D with nx := N, ct := N, bk := D.nx } σ2 H2) := by
  refine ⟨fun i m σ H => m = xs.length - i ∧ i ≤ xs.length ∧ Pv i σ H, ⟨xs.length, by simp, Nat.zero_le _, h0⟩, ?_⟩
  rintro i m σ H ⟨rfl, hi, p⟩
  have q := hl i σ H hi p
  by_cases hlt : i < xs.length
  · refine .inr ⟨⟨xs, xs[i], q, by simp [hlt]⟩, Pv (i + 1), fun σ' H' p' => ⟨xs.length - (i + 1), by omega, rfl, hlt, p'⟩, fun v H' y => ?_⟩
    obtain ⟨T, x, rfl, hT, rfl, hx⟩ := y
    exact hs i x T σ H (hx xs q) p hT
  · have e : i = xs.length := by omega
    subst e
    exact .inl ⟨⟨xs, q, Nat.le_refl _⟩, hd σ H p⟩
theorem g_forE {i0 j1 j2 : Nat} {v0 : V} {as : List α} {B : Hp} (Inv : Nat → L2.St → Hp → Prop) (hv : σ[i0]? = some (some v0)) (r0 : Rep.rep K B v0 as) (eB : Ex B H) (h0 : ∀ H1, Ex H H1 → Inv 0 σ H1) (hI : ∀ i σ' H', Inv i σ' H' → Ex B H') (hU : ∀ i σ' H' H'', Inv i σ' H' → Ex H' H'' → Inv i σ' H'')
    (hs : ∀ i a v σ' H', as[i]? = some a → Rep.rep K B v a → Inv i σ' H' → Gx K (tu { D with nx := Inv (i + 1), ct := Inv (i + 1), bk := D.nx }) ((σ'.set j1 (some (.int (i : Nat)))).set j2 (some v)) H') (hd : ∀ σ' H', Inv as.length σ' H' → D.nx σ' H') :
    Gx K (tFor (iEnum K (tCons (tVar i0) tNil)) (gTwo K j1 j2) tu D) σ H := fun H1 e => by
  obtain ⟨p, rfl, xs, hx, hall⟩ := r0
  exact ⟨.ref p, hv, p, xs, rfl, ex_l (eB.trans e) hx, for_enum (xs := xs) Inv (h0 H1 e) (fun i σ' H' _ iv => ex_l (hI i σ' H' iv) hx) (fun i x T σ' H' hxi iv hT => by
    obtain ⟨a, ha, r⟩ := hall.getV hxi
    exact gTwo_run (st_of upd_same) ((hs i a x σ' _ ha r (hU i σ' H' _ iv (Ex.new hT))).here)) fun σ' H' iv => hd σ' H' (by rw [← hall.len]; exact iv)⟩
/-- while -/
theorem g_while (Inv : L2.St → Hp → Prop) (μ : L2.St → Hp → Nat) (h0 : ∀ H1, Ex H H1 → Inv σ H1)
    (hs : ∀ σ' H', Inv σ' H' → ∃ b, Et K t σ' H' b ∧ (b = true → Gx K (tu { D with nx := fun s h => Inv s h ∧ μ s h < μ σ' H', ct := fun s h => Inv s h ∧ μ s h < μ σ' H', bk := D.nx }) σ' H') ∧ (b = false → Gx K D.nx σ' H')) : Gx K (tWhile t tu D) σ H := fun H1 e =>
  s_while (fun m s h => m = μ s h ∧ Inv s h) (μ σ H1) ⟨rfl, h0 H1 e⟩ fun m σ' H' ⟨em, iv⟩ => by
    subst em
    obtain ⟨b, hb, h1, h2⟩ := hs σ' H' iv
    exact ⟨b, hb, fun hb' H2 e2 => ⟨fun s h => Inv s h ∧ μ s h < μ σ' H', fun s h ⟨iv2, lt⟩ => ⟨μ s h, lt, rfl, iv2⟩, h1 hb' H2 e2⟩, fun hb' H2 e2 => h2 hb' H2 e2⟩
/-- a, b = x, y -/
theorem g_par {i j : Nat} {a : α} {b : β} (h1 : Er K ta σ H a) (h2 : Er K tb σ H b) (k : ∀ v w H1, Ex H H1 → Rep.rep K H1 v a → Rep.rep K H1 w b → Gx K D.nx ((σ.set i (some v)).set j (some w)) H1) : Gx K (tPar i j (tCons ta (tCons tb tNil)) D) σ H := fun H1 e =>
  h1 H1 e _ fun v H2 e2 r1 => h2 H2 (e.trans e2) _ fun w H3 e3 r2 => ⟨v, w, rfl, (k v w H3 ((e.trans e2).trans e3) (Rep.mono e3 r1) r2).here⟩
theorem q_par {i j : Nat} {a : α} {b : β} (h1 : Er K ta σ H a) (h2 : Er K tb σ H b) (k : ∀ v w H1, Ex H H1 → Rep.rep K H1 v a → Rep.rep K H1 w b → Gx K (tz D) ((σ.set i (some v)).set j (some w)) H1) : Gx K (tSeq (tPar i j (tCons ta (tCons tb tNil))) tz D) σ H := g_par (D := { D with nx := tz D }) h1 h2 k
theorem g_par3 {i j l : Nat} {a : α} {b : β} {c : γ} (h1 : Er K ta σ H a) (h2 : Er K tb σ H b) (h3 : Er K tc σ H c) (k : ∀ v w z H1, Ex H H1 → Rep.rep K H1 v a → Rep.rep K H1 w b → Rep.rep K H1 z c → Gx K D.nx (((σ.set i (some v)).set j (some w)).set l (some z)) H1) :
    Gx K (tPar3 i j l (tCons ta (tCons tb (tCons tc tNil))) D) σ H := fun H1 e =>
  h1 H1 e _ fun v H2 e2 r1 => h2 H2 (e.trans e2) _ fun w H3 e3 r2 => h3 H3 ((e.trans e2).trans e3) _ fun z H4 e4 r3 => ⟨v, w, z, rfl, (k v w z H4 (((e.trans e2).trans e3).trans e4) (Rep.mono (e3.trans e4) r1) (Rep.mono e4 r2) r3).here⟩
theorem q_par3 {i j l : Nat} {a : α} {b : β} {c : γ} (h1 : Er K ta σ H a) (h2 : Er K tb σ H b) (h3 : Er K tc σ H c) (k : ∀ v w z H1, Ex H H1 → Rep.rep K H1 v a → Rep.rep K H1 w b → Rep.rep K H1 z c → Gx K (tz D) (((σ.set i (some v)).set j (some w)).set l (some z)) H1) :
    Gx K (tSeq (tPar3 i j l (tCons ta (tCons tb (tCons tc tNil)))) tz D) σ H := g_par3 (D := { D with nx := tz D }) h1 h2 h3 k
end
end Rf
set_option Elab.async false
set_option linter.all false
set_option maxRecDepth 100000
set_option maxHeartbeats 4000000
namespace Rf
open PySem L2 Evl
/-- a tuple of things of one kind -/
structure Tpl (α : Type) where
  l : List α
instance {α : Type} [Rep α] : Rep (Tpl α) := ⟨fun K H v c => ∃ p, v = .ref p ∧ TupsR K H p c.l, fun e ⟨p, h1, xs, h2, h3⟩ => ⟨p, h1, xs, ex_t e h2, h3.mp fun _ _ r => Rep.mono e r⟩⟩
section
variable {α β γ δ : Type} [Rep α] [Rep β] [Rep γ] [Rep δ] {K : PySem.W.Frag} {σ : L2.St} {H H' : Hp} {ta tb tc te tl : TE} {t u tt : TT} {X : Cx} {D : Ends} {tu tw tz : TS}
theorem er_tpl {ta : TA} {as : List α} (h : EaL K ta σ H as) (hl : as.length ≤ 100000) : Er K (tTup ta) σ H (Tpl.mk as) := fun H1 e _ q =>
  h H1 e _ fun vs H2 e2 hv => ⟨sz_of (by rw [hv.len]; exact hl), fun p hp => q _ _ (e2.trans (Ex.new hp)) ⟨p, rfl, vs, st_of upd_same, hv.mp fun v a r => Rep.mono (Ex.new hp) r⟩⟩
theorem er_ixT {as : List α} {i : Int} {a : α} (ha : Er K ta σ H (Tpl.mk as)) (hb : Er K tb σ H i) (e : atI as i = some a) : Er K (tOp (rIxT K) ta tb) σ H a :=
  er_two ha hb fun x y H1 _ rx ry Q q => by
    obtain ⟨p, rfl, xs, hs, hall⟩ := rx
    obtain rfl : y = .int i := ry
    obtain ⟨v, hv, r⟩ := atI_all hall e
    exact ⟨p, xs, i, v, rfl, rfl, hs, hv, q v H1 (Ex.refl H1) r⟩
/-! ### comparisons by kind -/
def rEqI : R2 := rEq
def rNeI : R2 := rNe
def rEqT : R2 := rEq
def rNeT : R2 := rNe
def rEqB : R2 := rEq
def rNeB : R2 := rNe
theorem oEqI : OpR X (compareOp .Eq) rEqI := op_eq
theorem oNeI : OpR X (compareOp .NotEq) rNeI := op_ne
theorem oEqT : OpR X (compareOp .Eq) rEqT := op_eq
theorem oNeT : OpR X (compareOp .NotEq) rNeT := op_ne
theorem oEqB : OpR X (compareOp .Eq) rEqB := op_eq
theorem oNeB : OpR X (compareOp .NotEq) rNeB := op_ne
theorem er_eqi {i j : Int} (ha : Er K ta σ H i) (hb : Er K tb σ H j) : Er K (tOp rEqI ta tb) σ H (i == j) := er_eqI ha hb
theorem er_nei {i j : Int} (ha : Er K ta σ H i) (hb : Er K tb σ H j) : Er K (tOp rNeI ta tb) σ H (!(i == j)) := er_neI ha hb
theorem er_eqt {i j : Str} (ha : Er K ta σ H i) (hb : Er K tb σ H j) : Er K (tOp rEqT ta tb) σ H (i == j) := er_eqT ha hb
theorem er_net {i j : Str} (ha : Er K ta σ H i) (hb : Er K tb σ H j) : Er K (tOp rNeT ta tb) σ H (!(i == j)) := er_neT ha hb
theorem er_eqb {i j : Bool} (ha : Er K ta σ H i) (hb : Er K tb σ H j) : Er K (tOp rEqB ta tb) σ H (i == j) := er_eqB ha hb
theorem er_neb {i j : Bool} (ha : Er K ta σ H i) (hb : Er K tb σ H j) : Er K (tOp rNeB ta tb) σ H (!(i == j)) := er_neB ha hb
/-- x is None, of an option -/
def rIsN' : R2 := fun x y H Q => y = .non ∧ Q (.bl (decide (x = .non))) H
def rNotN' : R2 := fun x y H Q => y = .non ∧ Q (.bl (!decide (x = .non))) H
theorem oIsN : OpR X (compareOp .Is) rIsN' := op_isN
theorem oNotN : OpR X (compareOp .IsNot) rNotN' := op_notN
theorem er_isN {o : Option Str} (ha : Er K ta σ H o) : Er K (tOp rIsN' ta (tC .non)) σ H o.isNone := fun H1 e Q q => ha H1 e _ fun v H2 e2 r => ⟨rfl, q _ H2 e2 (by
  cases o with
  | none => have r' : v = .non := r; rw [r']; rfl
  | some z => have r' : v = .str z := r; rw [r']; rfl)⟩
theorem er_notN {o : Option Str} (ha : Er K ta σ H o) : Er K (tOp rNotN' ta (tC .non)) σ H o.isSome := fun H1 e Q q => ha H1 e _ fun v H2 e2 r => ⟨rfl, q _ H2 e2 (by
  cases o with
  | none => have r' : v = .non := r; rw [r']; rfl
  | some z => have r' : v = .str z := r; rw [r']; rfl)⟩
/-- max(a, b), min(a, b) -/
def rMax2' : List V → Hp → VK → Prop := fun xs H Q => ∃ i j, xs = [.int i, .int j] ∧ Q (.int (if j > i then j else i)) H
def rMin2' : List V → Hp → VK → Prop := fun xs H Q => ∃ i j, xs = [.int i, .int j] ∧ Q (.int (if j < i then j else i)) H
theorem cMax2 (hc : X.calm = true) : CallR X (.builtin "max") rMax2' := call_max2 hc
theorem cMin2 (hc : X.calm = true) : CallR X (.builtin "min") rMin2' := call_min2 hc
theorem er_max2 {i j : Int} (ha : Er K ta σ H i) (hb : Er K tb σ H j) : Er K (tCB rMax2' (tCons ta (tCons tb tNil))) σ H (if j > i then j else i) := fun H1 e Q q => er_i ha H1 e _ fun H2 e2 => er_i hb H2 (e.trans e2) _ fun H3 e3 => ⟨i, j, rfl, q _ H3 (e2.trans e3) rfl⟩
theorem er_min2 {i j : Int} (ha : Er K ta σ H i) (hb : Er K tb σ H j) : Er K (tCB rMin2' (tCons ta (tCons tb tNil))) σ H (if j < i then j else i) := fun H1 e Q q => er_i ha H1 e _ fun H2 e2 => er_i hb H2 (e.trans e2) _ fun H3 e3 => ⟨i, j, rfl, q _ H3 (e2.trans e3) rfl⟩
theorem et_and' {a b : Bool} (h1 : Et K t σ H a) (h2 : a = true → Et K u σ H b) : Et K (tAnd t u) σ H (a && b) := et_and h1 h2
theorem et_or' {a b : Bool} (h1 : Et K t σ H a) (h2 : a = false → Et K u σ H b) : Et K (tOr t u) σ H (a || b) := et_or h1 h2
theorem et_not' {a : Bool} (h1 : Et K t σ H a) : Et K (tNot t) σ H (!a) := et_not h1
theorem er_chLtLt {i j k : Int} (ha : Er K ta σ H i) (hb : Er K tb σ H j) (hc : Er K tc σ H k) : Er K (tChain rLtI rLtI ta tb tc) σ H (decide (i < j) && decide (j < k)) := er_chain ha hb hc rvLt rvLt
theorem er_chLeLt {i j k : Int} (ha : Er K ta σ H i) (hb : Er K tb σ H j) (hc : Er K tc σ H k) : Er K (tChain rLeI rLtI ta tb tc) σ H (decide (i ≤ j) && decide (j < k)) := er_chain ha hb hc rvLe rvLt
/-! ### promises' lengths, what a caller knows -/
theorem len_pr1 {pre : α → Prop} {f : α → β} {vs : List V} {Q : VK} {E : XK} (h : Pr1 K pre f vs H Q E) : vs.length = 1 := by obtain ⟨_, _, rfl, _⟩ := h; rfl
theorem len_pr2 {pre : α → β → Prop} {f : α → β → γ} {vs : List V} {Q : VK} {E : XK} (h : Pr2 K pre f vs H Q E) : vs.length = 2 := by obtain ⟨_, _, _, _, rfl, _⟩ := h; rfl
theorem len_pr3 {pre : α → β → γ → Prop} {f : α → β → γ → δ} {vs : List V} {Q : VK} {E : XK} (h : Pr3 K pre f vs H Q E) : vs.length = 3 := by obtain ⟨_, _, _, _, _, _, rfl, _⟩ := h; rfl
theorem len_prF1 {pre : α → Prop} {f : α → List β} {vs : List V} {Q : VK} {E : XK} (h : PrF1 K pre f vs H Q E) : vs.length = 1 := by obtain ⟨_, _, rfl, _⟩ := h; rfl
theorem len_prF2 {pre : α → β → Prop} {f : α → β → List γ} {vs : List V} {Q : VK} {E : XK} (h : PrF2 K pre f vs H Q E) : vs.length = 2 := by obtain ⟨_, _, _, _, rfl, _⟩ := h; rfl
end
structure Cal (P : Program) (w : World) (K : PySem.W.Frag) (mg : Str → Option Value) (base : Heap) (k : Nat) (x : Str) (ps : List Str) (sp : Sp) (f : Addr) (fd : FuncData) : Prop where
  ok : FnOk P w K mg base CX0 k f fd ps sp
  g : mg x = some (.ref f)
  kp : PySem.W.keepIn K (.ref f) = true
  b : Binds K fd ps []
structure Mtd (P : Program) (w : World) (K : PySem.W.Frag) (mg : Str → Option Value) (base : Heap) (k : Nat) (C : Addr) (x : Str) (ps : List Str) (sp : Sp) (f : Addr) (fd : FuncData) : Prop where
  ok : FnOk P w K mg base CX0 k f fd ps sp
  cl : Cls K C
  m : Meth K C x f
  b : Binds K fd ps []
structure Mkr (K : PySem.W.Frag) (mg : Str → Option Value) (x : Str) (C f : Addr) (fd : FuncData) (ps : List Str) : Prop where
  made : Mk K C f
  g : mg x = some (.ref C)
  b : Binds K fd ps []
end Rf
set_option Elab.async false
set_option linter.all false
set_option maxRecDepth 100000
set_option maxHeartbeats 4000000
namespace Rf
open PySem L2 Evl
/-! ### words as texts: u is true -/
def sg (b : Bool) : Nat := if b then 117 else 100
def tx (w : List Bool) : Str := ⟨(w.map sg).toArray⟩
def unz (z : Str) : List Bool := z.cps.toList.map (· == 117)
theorem sg_u (b : Bool) : (sg b == 117) = b := by cases b <;> rfl
theorem unz_tx (w : List Bool) : unz (tx w) = w := by
  unfold unz tx
  simp only [List.map_map]
  conv => rhs; rw [← List.map_id w]
  refine List.map_congr_left fun b _ => ?_
  exact sg_u b
theorem tx_inj {w v : List Bool} (h : tx w = tx v) : w = v := by rw [← unz_tx w, h, unz_tx]
theorem tx_len (w : List Bool) : (tx w).length = w.length := by
  show ((w.map sg).toArray).size = w.length
  simp
theorem tx_list (w : List Bool) : (tx w).cps.toList = w.map sg := by unfold tx; simp
theorem tx_app (w v : List Bool) : tx w ++ tx v = tx (w ++ v) := by
  show (⟨(w.map sg).toArray ++ (v.map sg).toArray⟩ : Str) = _
  unfold tx
  congr 1
  apply Array.ext'
  simp
theorem tx_beq (w v : List Bool) : (tx w == tx v) = decide (w = v) := by
  rw [Bool.eq_iff_iff, beq_iff_eq, decide_eq_true_iff]
  exact ⟨tx_inj, fun h => by rw [h]⟩
theorem tx_rev (w : List Bool) : (⟨(tx w).cps.toList.reverse.toArray⟩ : Str) = tx w.reverse := by
  rw [tx_list, ← List.map_reverse]
  rfl
theorem tx_cut (w : List Bool) (lo hi : Option Int) : cutS (tx w) lo hi = tx (cutL w lo hi) := by
  unfold cutS cutL
  rw [tx_list, tx_len, ← List.map_drop, ← List.map_take]
  rfl
theorem sgn_tx (b : Bool) : sgn (sg b) = tx [b] := rfl
theorem tx_nil : ("" : Str) = tx [] := by decide +kernel
theorem tx_u : ("u" : Str) = tx [true] := by decide +kernel
theorem tx_d : ("d" : Str) = tx [false] := by decide +kernel
theorem tx_ud : ("ud" : Str) = tx [true, false] := by decide +kernel
theorem tx_du : ("du" : Str) = tx [false, true] := by decide +kernel
theorem tx_cat (ws : List (List Bool)) : catS (ws.map tx) = tx ws.flatten := by
  unfold catS tx
  congr 1
  rw [List.map_map]
  induction ws with
  | nil => rfl
  | cons w r ih =>
    simp only [List.map_cons, List.flatten_cons, List.map_append, Function.comp]
    congr 1
    have e : ∀ l : List (List Nat) , l.flatten.toArray = l.flatten.toArray := fun _ => rfl
    have h : (List.map ((fun x => x.cps.toList) ∘ fun w => (⟨(List.map sg w).toArray⟩ : Str)) r).flatten = List.map sg r.flatten := by
      have := congrArg Array.toList ih
      simpa using this
    simpa using h
theorem tx_reps (k : Nat) (b : Bool) : reps k (tx [b]) = tx (List.replicate k b) := by
  unfold reps
  rw [tx_list]
  unfold tx
  congr 1
  rw [List.map_replicate]
  simp
theorem tx_at {w : List Bool} {i : Int} {b : Bool} (h : atI w i = some b) : atI (tx w).cps.toList i = some (sg b) := by
  rw [tx_list]
  unfold atI at h ⊢
  rw [List.length_map]
  cases q : ixN w.length i with
  | none => rw [q] at h; simp at h
  | some j =>
    rw [q] at h
    show (w.map sg)[j]? = some (sg b)
    rw [List.getElem?_map, show w[j]? = some b from h]
    rfl
/-- a text that is a word -/
def IsW (z : Str) : Prop := ∀ c ∈ z.cps.toList, c = 117 ∨ c = 100
theorem tx_unz {z : Str} (h : IsW z) : tx (unz z) = z := by
  cases z with
  | mk c =>
    unfold tx unz
    congr 1
    apply Array.ext'
    rw [List.map_map]
    conv => rhs; rw [← List.map_id c.toList]
    refine List.map_congr_left fun x hx => ?_
    rcases h x hx with e | e <;> (subst e; rfl)
theorem isW_tx (w : List Bool) : IsW (tx w) := by
  intro c hc
  rw [tx_list] at hc
  obtain ⟨b, _, rfl⟩ := List.mem_map.mp hc
  cases b
  · right; rfl
  · left; rfl
theorem unz_len (z : Str) : (unz z).length = z.length := by
  unfold unz
  rw [List.length_map, Array.length_toList]
  rfl
section
variable {α β γ δ : Type} [Rep α] [Rep β] [Rep γ] [Rep δ] {K : PySem.W.Frag} {σ : L2.St} {H H' : Hp} {ta tb tc te tl : TE} {t u tt : TT} {X : Cx} {D : Ends} {tu tw tz : TS}
theorem g_cut (Mid : L2.St → Hp → Prop) (h : Gx K (tu { D with nx := Mid }) σ H) (k : ∀ σ' H', Mid σ' H' → Gx K (tw D) σ' H') : Gx K (tCut tu tw D) σ H := fun H1 e => ⟨Mid, h H1 e, fun σ' H' m => (k σ' H' m).here⟩
theorem er_call1F {pre : α → Prop} {f : α → List β} {E : XK} {a : α} (h : Er K ta σ H a) (hp : pre a) : Er K (tCall (PrF1 K pre f) [] E (tCons ta tNil)) σ H (f a) := (erf_call1 h hp).er
theorem er_call2F {pre : α → β → Prop} {f : α → β → List γ} {E : XK} {a : α} {b : β} (h : Er K ta σ H a) (hb : Er K tb σ H b) (hp : pre a b) : Er K (tCall (PrF2 K pre f) [] E (tCons ta (tCons tb tNil))) σ H (f a b) := (erf_call2 h hb hp).er
theorem q_forL {j : Nat} {i0 : Nat} {v0 : V} {as : List α} {B : Hp} (Inv : Nat → L2.St → Hp → Prop) (hv : σ[i0]? = some (some v0)) (r0 : Rep.rep K B v0 as) (eB : Ex B H) (h0 : ∀ H1, Ex H H1 → Inv 0 σ H1) (hI : ∀ i σ' H', Inv i σ' H' → Ex B H')
    (hs : ∀ i a v σ' H', as[i]? = some a → Rep.rep K B v a → Inv i σ' H' → Gx K (tu { D with nx := Inv (i + 1), ct := Inv (i + 1), bk := tz D }) (σ'.set j (some v)) H') (hd : ∀ σ' H', Inv as.length σ' H' → Gx K (tz D) σ' H') :
    Gx K (tSeq (tFor (iList K (tVar i0)) (gName j) tu) tz D) σ H :=
  g_forL (D := { D with nx := tz D }) Inv hv r0 eB h0 hI hs (fun σ' H' iv => (hd σ' H' iv).here)
theorem q_forN {g : TG} {as : List α} (h : Er K tl σ H as) (Inv : Hp → Nat → L2.St → Hp → Prop) (h0 : ∀ B H1, Ex H B → Ex B H1 → Inv B 0 σ H1) (hI : ∀ B i σ' H', Inv B i σ' H' → Ex B H')
    (hs : ∀ B i a v σ' H', Ex H B → as[i]? = some a → Rep.rep K B v a → Inv B i σ' H' → g v σ' H' fun σ2 H2 => tu { D with nx := Inv B (i + 1), ct := Inv B (i + 1), bk := tz D } σ2 H2) (hd : ∀ B σ' H', Ex H B → Inv B as.length σ' H' → Gx K (tz D) σ' H') :
    Gx K (tSeq (tFor (iList K tl) g tu) tz D) σ H :=
  g_forN (D := { D with nx := tz D }) h Inv h0 hI hs (fun B σ' H' e iv => (hd B σ' H' e iv).here)
theorem q_forR {j : Nat} {lo : Int} {n : Nat} {wi : TI} (h : Rg K wi σ H lo n) (Inv : Nat → L2.St → Hp → Prop) (h0 : ∀ H1, Ex H H1 → Inv 0 σ H1)
    (hs : ∀ (i : Nat) σ' H', i < n → Inv i σ' H' → Gx K (tu { D with nx := Inv (i + 1), ct := Inv (i + 1), bk := tz D }) (σ'.set j (some (.int (lo + i)))) H') (hd : ∀ σ' H', Inv n σ' H' → Gx K (tz D) σ' H') :
    Gx K (tSeq (tFor wi (gName j) tu) tz D) σ H :=
  g_forR (D := { D with nx := tz D }) h Inv h0 hs (fun σ' H' iv => (hd σ' H' iv).here)
theorem q_forS {j : Nat} {x : Str} (h : Er K tl σ H x) (Inv : Nat → L2.St → Hp → Prop) (h0 : ∀ H1, Ex H H1 → Inv 0 σ H1)
    (hs : ∀ (i c : Nat) σ' H', x.cps[i]? = some c → Inv i σ' H' → Gx K (tu { D with nx := Inv (i + 1), ct := Inv (i + 1), bk := tz D }) (σ'.set j (some (.str (sgn c)))) H') (hd : ∀ σ' H', Inv x.cps.size σ' H' → Gx K (tz D) σ' H') :
    Gx K (tSeq (tFor (iStr tl) (gName j) tu) tz D) σ H :=
  g_forS (D := { D with nx := tz D }) h Inv h0 hs (fun σ' H' iv => (hd σ' H' iv).here)
theorem q_forE {i0 j1 j2 : Nat} {v0 : V} {as : List α} {B : Hp} (Inv : Nat → L2.St → Hp → Prop) (hv : σ[i0]? = some (some v0)) (r0 : Rep.rep K B v0 as) (eB : Ex B H) (h0 : ∀ H1, Ex H H1 → Inv 0 σ H1) (hI : ∀ i σ' H', Inv i σ' H' → Ex B H') (hU : ∀ i σ' H' H'', Inv i σ' H' → Ex H' H'' → Inv i σ' H'')
    (hs : ∀ i a v σ' H', as[i]? = some a → Rep.rep K B v a → Inv i σ' H' → Gx K (tu { D with nx := Inv (i + 1), ct := Inv (i + 1), bk := tz D }) ((σ'.set j1 (some (.int (i : Nat)))).set j2 (some v)) H') (hd : ∀ σ' H', Inv as.length σ' H' → Gx K (tz D) σ' H') :
    Gx K (tSeq (tFor (iEnum K (tCons (tVar i0) tNil)) (gTwo K j1 j2) tu) tz D) σ H :=
  g_forE (D := { D with nx := tz D }) Inv hv r0 eB h0 hI hU hs (fun σ' H' iv => (hd σ' H' iv).here)
theorem q_while (Inv : L2.St → Hp → Prop) (μ : L2.St → Hp → Nat) (h0 : ∀ H1, Ex H H1 → Inv σ H1)
    (hs : ∀ σ' H', Inv σ' H' → ∃ b, Et K t σ' H' b ∧ (b = true → Gx K (tu { D with nx := fun s h => Inv s h ∧ μ s h < μ σ' H', ct := fun s h => Inv s h ∧ μ s h < μ σ' H', bk := tz D }) σ' H') ∧ (b = false → Gx K (tz D) σ' H')) : Gx K (tSeq (tWhile t tu) tz D) σ H :=
  g_while (D := { D with nx := tz D }) Inv μ h0 hs
/-- y = x -/
theorem g_mov {i j : Nat} {v : V} (h : σ[i]? = some (some v)) (k : Gx K D.nx (σ.set j (some v)) H) : Gx K (tAsg (tVar i) (gName j) D) σ H := fun H1 e => ⟨v, h, k H1 e⟩
theorem q_mov {i j : Nat} {v : V} (h : σ[i]? = some (some v)) (k : Gx K (tz D) (σ.set j (some v)) H) : Gx K (tSeq (tAsg (tVar i) (gName j)) tz D) σ H := fun H1 e => ⟨v, h, k H1 e⟩
theorem er_lit {z : Str} {w : List Bool} (h : z = tx w) : Er K (tC (.str z)) σ H (tx w) := er_str.to h
theorem er_ixW {w : List Bool} {i : Int} {b : Bool} (ha : Er K ta σ H (tx w)) (hb : Er K tb σ H i) (hl : w.length ≤ 100000) (e : atI w i = some b) : Er K (tOp rIxS ta tb) σ H (tx [b]) :=
  (er_ixS ha hb (by rw [tx_len]; exact hl) (tx_at e)).to (sgn_tx b)
end
end Rf
set_option Elab.async false
set_option linter.all false
set_option maxRecDepth 100000
set_option maxHeartbeats 4000000
/-! Sx: the set of a list of ints, and sorted of it, of any size that fits. -/
namespace Rf
open PySem PySem.Spec PyProof.Rows L2 Evl

/-- what lay there lies there -/
abbrev Kpt (h h' : Heap) : Prop := ∀ b o, h.get? b = some o → h'.get? b = some o
/-- the object that a new set is -/
abbrev mtS (w : World) : Obj := { cls := .type "set", dict := none, data := .set #[] 0 (.fresh 0 0 (!w.params.followText "set-order")) }
section
variable {P : Program} {w : World} {A : Around} {E : Value → Shared → Prop} {s : Shared}

theorem setL_new {l : Addr} {items : Array Value} {ns : List Int} {Q : Value → Shared → Prop} (hh : A.handled = none) (hl : s.heap.IsList l items) (hit : PyProof.Rows.IntsAre items.toList ns) (hb : ns.length + 1 < scanBound)
    (fin : ∀ (h' : Heap) (tk c : Nat), SetR w h' s.heap.objs.size (fun j => decide (j ∈ ns)) c → c ≤ ns.length → Kpt s.heap h' → Q (.ref s.heap.objs.size) { s with heap := h', toks := tk }) :
    wpAny (model P w) A (call (.type "set") [.ref l]) Q E s := by
  have isz : items.size = ns.length := by have q := PyProof.Rows.IntsAre.length hit; rw [Array.length_toList] at q; exact q
  obtain ⟨cm, tm, mro⟩ := F.called_set.mro
  have made := F.called_set.made
  have below := F.called_set.sub
  refine wpAny_call (codeAny_of_tree ?_)
  show wpAny _ _ (callAny (.type "set") _) _ _ _
  refine wpAny_pure ⟨Code.quiet_builtin _ (by decide +kernel), codeAny_builtin F.entry_type_call ?_⟩
  rw [Around.under_plain (weight_type_call_type "set" [.ref l] []) rfl]
  have not1 := F.called_set.notType
  have can1 := F.called_set.canCreate
  have type1 := F.typeCall_set_1 (.ref l)
  repeat (any_goals (first | assumption | wp_step))
  refine codeAny_mono (code_set_led1 (.ref l) (E := E) (Q₁ := fun x s1 => x = .ref s.heap.objs.size ∧ s1 = { s with heap := s.heap.push (mtS w) }) ⟨rfl, rfl⟩) fun r s1 end1 => ?_
  match r with
  | .error e => exact end1
  | .ok (.ret x) =>
    obtain ⟨rfl, rfl⟩ := end1
    have at0 : (s.heap.push (mtS w)).get? s.heap.objs.size = some (mtS w) := Heap.get?_push_size _ rfl
    have ty0 : Shared.TypeIs { s with heap := s.heap.push (mtS w) } (.ref s.heap.objs.size) "set" := ⟨_, at0, rfl⟩
    have look0 := F.called_set.init.lookup
    have bind0 := F.called_set.init.bind (.ref s.heap.objs.size)
    repeat (any_goals (first | assumption | wp_step))
    refine codeAny_mono (codeAny_call_builtin (R := wants (fun r s2 => r = .none ∧ ∃ h' tk c, s2 = { s with heap := h', toks := tk } ∧ SetR w h' s.heap.objs.size (fun j => decide (j ∈ ns)) c ∧ c ≤ ns.length ∧ Kpt s.heap h') E)
      F.called_set.init.plain F.entry_set_init (check_set_init_1 ty0 ?_)) fun r2 s2 end2 => ?_
    · obtain ⟨⟨ocls, odict, odata, oslots⟩, hol, hcl, nl, hdl⟩ := hl
      simp only at hcl hdl
      subst hcl; subst hdl
      have hol1 : (s.heap.push (mtS w)).get? l = some { cls := .type "list", dict := odict, data := .seq items nl, slots := oslots } := Heap.get?_push_of_some _ hol
      have b1 := F.sub_list_set
      have b2 := F.sub_list_frozenset
      have b3 : (Value.type "list" == Value.type "dict") = false := by decide
      have lst1 : (s.heap.push (mtS w)).IsList l items := ⟨_, hol1, rfl, nl, rfl⟩
      unfold Builtin.«set.__init__» noKeywords Builtin.Frozenset.updateFrom
      generalize way : pyIter = PI
      wp_walk
      subst way
      refine wpAny_pyIter_list lst1 ?_
      refine wpAny_bind (wpAny_runValue ?_)
      have ltS : l < s.heap.objs.size := Heap.lt_size hol
      have hh3 : A.in1.in1.in1.handled = none := by simp [hh]
      have big1 : (s.heap.push (mtS w)).objs.size = s.heap.objs.size + 1 := Heap.size_push ..
      have neI : l ≠ (s.heap.push (mtS w)).objs.size := fun e => by rw [big1] at e; exact absurd ltS (by rw [e]; exact Nat.not_lt_of_le (Nat.le_succ _))
      have offS : s.heap.objs.size ∉ [(s.heap.push (mtS w)).objs.size, l] := by
        rw [big1]; simp only [List.mem_cons, List.not_mem_nil, or_false, not_or]
        exact ⟨Nat.ne_of_lt (Nat.lt_succ_self _), Nat.ne_of_gt ltS⟩
      have vals : ∀ (i : Nat) (v : Value), items[i]? = some v → ∃ k t, ns[i]? = some k ∧ v = .int k t := fun i v hv => by
        have hi : i < ns.length := by rw [← isz]; exact (Array.getElem?_eq_some_iff.mp hv).1
        obtain ⟨t, e⟩ := PyProof.Rows.IntsAre.int_at hit i v (by rw [Array.getElem?_toList]; exact hv)
        refine ⟨ns[i], t, List.getElem?_eq_getElem hi, ?_⟩
        rw [e, List.getD_eq_getElem?_getD, List.getElem?_eq_getElem hi] <;> rfl
      refine set_update_ints ((Walks.list hh3 _ l neI items).toS) s.heap.objs.size offS ns isz hb vals (items.size - 0) 0 _ (by omega) (Nat.zero_le _)
        ⟨⟨_, Heap.get?_push_size _ rfl, rfl, rfl⟩, (lst1.push _)⟩ ⟨0, Nat.le_refl 0, setR_new_at (Heap.get?_push_of_some _ at0)⟩ ?_
      intro s' c' mv hc' set'
      obtain ⟨h', g2, d', tk', os'⟩ := s'
      have eg : g2 = s.gens := mv.gens
      have ed : d' = s.drawn := mv.drawn
      have eo : os' = s.os := mv.os
      subst eg; subst ed; subst eo
      show wpAny _ _ _ _ _ _
      refine wpAny_pure ?_
      show wpAny _ _ (ret Value.none) _ _ _
      rw [isz] at hc'
      refine wpAny_pure ⟨rfl, h', tk', c', rfl, set', hc', fun b o e => ?_⟩
      have lt0 : b < s.heap.objs.size := Heap.lt_size e
      refine mv.heap b o ?_ (Heap.get?_push_of_some _ (Heap.get?_push_of_some _ e))
      rw [big1]; simp only [List.mem_cons, List.not_mem_nil, or_false, not_or]
      exact ⟨Nat.ne_of_lt lt0, Nat.ne_of_lt (Nat.lt_succ_of_lt lt0)⟩
    · cases r2 with
      | error e => exact end2
      | ok fl =>
        cases fl
        case ret x =>
          obtain ⟨rfl, h', tk, c, rfl, set', hc', keep'⟩ := end2
          repeat (any_goals (first | assumption | wp_step))
          exact fin _ _ _ set' hc' keep'
        all_goals exact end2.elim
  | .ok .next => exact end1.elim
  | .ok .brk => exact end1.elim
  | .ok .cont => exact end1.elim
end
end Rf
set_option Elab.async false
set_option linter.all false
set_option maxRecDepth 100000
set_option maxHeartbeats 4000000
namespace Rf
open PySem PySem.Spec PyProof.Rows L2 Evl

/-! ### sorted of it -/
section
variable {P : Program} {w : World} {A : Around} {E : Value → Shared → Prop} {s : Shared} {a : Addr}
theorem srtS_any {S : Int → Bool} {n : Nat} {Q : Value → Shared → Prop} (R : SetR w s.heap a S n) (hh : A.handled = none) (hz : n ≤ sizeLine)
    (fin : ∀ s' p (out : Array Value) (c : Nat) (ns : List Int), Kpt s.heap s'.heap → s'.gens = s.gens → s'.os = s.os → s.heap.objs.size ≤ p →
      s'.heap.get? p = some (seqObj "list" out c) → PyProof.Rows.IntsAre out.toList ns → ns.Pairwise (· < ·) → (∀ k, k ∈ ns ↔ S k = true) → Q (.ref p) s') :
    wpAny (model P w) A (call (.builtin "sorted") [.ref a]) Q E s := by
  obtain ⟨o, es, ep, t, ho, ex, hd, g, nd, mem, hb, hf, hn, hr, hl⟩ := R
  refine Calls.call_function_entry kind_sorted plain_sorted entry_sorted (args_sorted1 _) ?_
  unfold Builtin.«sorted»
  refine wpAny_bind (m := checkCount "sorted" 1 1 _) (wpAny_pure ?_)
  refine wpAny_bind (collect_set (A := A.in1) hh ⟨o, ho, ex.1, hd⟩ hf hb hr hl fun s1 vs k1 zs g1 o1 pm => ?_)
  have len1 : vs.length = n := by rw [pm.length_eq, List.length_map, Array.length_toList]; exact hn
  have ints1 : PyProof.Rows.IntsAre vs (vs.map Builtin.Re.reRawOf) := ints_of vs fun v hv => by
    obtain ⟨e, he, q⟩ := List.mem_map.mp (pm.mem_iff.mp hv)
    obtain ⟨k, tk, h1, _⟩ := g e he
    exact ⟨k, tk, by rw [← q]; exact h1⟩
  have perm1 : (vs.map Builtin.Re.reRawOf).Perm (es.toList.map keyOf) := by
    have q := pm.map Builtin.Re.reRawOf
    rw [List.map_map] at q
    exact q
  refine wpAny_bind (wpAny_newList ?_ (by rw [len1]; exact hz))
  have new1 : (s1.heap.push (seqObj "list" vs.toArray 0)).get? s1.heap.objs.size = some (seqObj "list" vs.toArray 0) := Heap.get?_push_size _ rfl
  refine wpAny_bind (wpAny_holding (wpAny_call_entry slot_list_sort ⟨_, new1, rfl⟩ entry_list_sort (list_sort_treeAny new1 ints1 (by rw [len1]; exact hz) fun out ns' a1 a2 a3 => ⟨_, rfl, ?_⟩) (args_list_sort _)))
  obtain ⟨c, hc⟩ := sortedHeap_at (vs := vs) (out := out) new1
  have pn : ns'.Perm (es.toList.map keyOf) := a2.trans perm1
  refine wpAny_pure ⟨_, rfl, fin _ s1.heap.objs.size out c ns' (fun b u e => ?_) g1 o1 zs hc a1 (lt_of_le_nodup ns' a3 (pn.nodup_iff.mpr nd)) fun k => by rw [pn.mem_iff, ← mem k]⟩
  have q := k1 b u e
  have lt1 := Heap.lt_size q
  show (sortedHeap (s1.heap.push (seqObj "list" vs.toArray 0)) s1.heap.objs.size vs out).get? b = some u
  rw [sortedHeap_old (Nat.ne_of_lt lt1) (by rw [size_push']; exact Nat.lt_succ_of_lt lt1)]
  exact Heap.get?_push_of_some _ q
end

/-- k put in its place; nothing where it stands already -/
def put1 (k : Int) : List Int → List Int
  | [] => [k]
  | a :: l => if k < a then k :: a :: l else if k = a then a :: l else a :: put1 k l
/-- the members of a list, rising -/
def srt (ns : List Int) : List Int := ns.foldr put1 []
theorem put1_mem (k j : Int) : ∀ l : List Int, j ∈ put1 k l ↔ j = k ∨ j ∈ l
  | [] => by simp [put1]
  | a :: l => by
    unfold put1
    split
    · simp
    · split
      · rename_i h; subst h; simp
      · simp only [List.mem_cons, put1_mem k j l]
        constructor
        · rintro (h | h | h) <;> simp [h]
        · rintro (h | h | h) <;> simp [h]
theorem put1_ris (k : Int) : ∀ l : List Int, l.Pairwise (· < ·) → (put1 k l).Pairwise (· < ·)
  | [], _ => by simp [put1]
  | a :: l, h => by
    obtain ⟨h1, h2⟩ := List.pairwise_cons.mp h
    unfold put1
    split
    · rename_i c
      refine List.pairwise_cons.mpr ⟨fun y hy => ?_, h⟩
      rcases List.mem_cons.mp hy with e | e
      · omega
      · have := h1 y e; omega
    · split
      · exact h
      · refine List.pairwise_cons.mpr ⟨fun y hy => ?_, put1_ris k l h2⟩
        rcases (put1_mem k y l).mp hy with e | e
        · omega
        · exact h1 y e
theorem srt_mem (j : Int) : ∀ ns : List Int, j ∈ srt ns ↔ j ∈ ns
  | [] => by simp [srt]
  | k :: ns => by
    show j ∈ put1 k (srt ns) ↔ _
    rw [put1_mem, srt_mem j ns, List.mem_cons]
theorem srt_ris : ∀ ns : List Int, (srt ns).Pairwise (· < ·)
  | [] => by simp [srt]
  | k :: ns => put1_ris k _ (srt_ris ns)
theorem ris_one : ∀ {l m : List Int}, l.Pairwise (· < ·) → m.Pairwise (· < ·) → (∀ j, j ∈ l ↔ j ∈ m) → l = m
  | [], [], _, _, _ => rfl
  | [], b :: m, _, _, h => by have := (h b).mpr (by simp); simp at this
  | a :: l, [], _, _, h => by have := (h a).mp (by simp); simp at this
  | a :: l, b :: m, hl, hm, h => by
    obtain ⟨l1, l2⟩ := List.pairwise_cons.mp hl
    obtain ⟨m1, m2⟩ := List.pairwise_cons.mp hm
    have e : a = b := by
      rcases List.mem_cons.mp ((h a).mp (by simp)) with e | e
      · exact e
      · rcases List.mem_cons.mp ((h b).mpr (by simp)) with e' | e'
        · exact e'.symm
        · have := m1 a e; have := l1 b e'; omega
    subst e
    rw [ris_one l2 m2 fun j => ?_]
    constructor
    · intro hj
      rcases List.mem_cons.mp ((h j).mp (by simp [hj])) with e | e
      · have := l1 j hj; omega
      · exact e
    · intro hj
      rcases List.mem_cons.mp ((h j).mpr (by simp [hj])) with e | e
      · have := m1 j hj; omega
      · exact e
theorem srt_self {ns : List Int} : srt ns = ns ↔ ns.Pairwise (· < ·) := by
  constructor
  · intro h; rw [← h]; exact srt_ris ns
  · intro h; exact ris_one (srt_ris ns) h fun j => srt_mem j ns
theorem put1_le (k : Int) : ∀ l : List Int, (put1 k l).length ≤ l.length + 1
  | [] => by simp [put1]
  | a :: l => by
    unfold put1
    split
    · simp
    · split
      · simp
      · have := put1_le k l; simp; omega
theorem srt_le : ∀ ns : List Int, (srt ns).length ≤ ns.length
  | [] => Nat.le_refl _
  | k :: ns => by
    have h1 := put1_le k (srt ns)
    have h2 := srt_le ns
    show (put1 k (srt ns)).length ≤ ns.length + 1
    omega

/-- sorted(set(e)), e a list of ints -/
def tSrtSet (K : PySem.W.Frag) (ta : TE) : TE := fun σ H Q => ta σ H fun x H1 => ∃ (l : Addr) (ns : List Int), x = .ref l ∧ SqL K H1 l (ns.map V.int) ∧ ns.length ≤ 1000 ∧ ∀ p, H1 p = none → Q (.ref p) (upd H1 p (.lst ((srt ns).map V.int)))
section
variable {X : Cx}
theorem pe_srtSet {a : Expr} {ta : TE} {p p2 q pos : Pos} (hc : X.calm = true) (hg : Gl X "sorted") (hm : X.mg "sorted" = none) (hg2 : Gl X "set") (hm2 : X.mg "set" = none) (ha : PE X a ta)
    (na : starEach [a] X.env = (false, eval a X.env) :: starEach [] X.env := by rfl) : PE X (.Call (.Name "sorted" p) [.Call (.Name "set" p2) [a] [] q] [] pos) (tSrtSet X.K ta) := by
  refine ⟨fun pins s σ H Q I h => ?_⟩
  refine Call_ (ld_blt I hg hm (by decide +kernel : bootBuiltins "sorted" = some (.builtin "sorted")) ?_)
  refine PyProof.Rows.callWith_builtin1 (PyProof.Rows.args_cons ?_ rfl) rfl rfl
  refine Call_ (ld_blt I hg2 hm2 boot_set ?_)
  refine PyProof.Rows.callWith_type1 (PyProof.Rows.args_cons (thn (ha.run pins s σ H _ I h) fun v s1 ⟨x, H1, I1, r1, q1⟩ => PyProof.Rows.args_nil ?_) na) na rfl
  obtain ⟨l, ns, rfl, hq, h1, q1⟩ := q1
  cases r1
  obtain ⟨its, r, pl, hz⟩ := I1.list hq
  refine setL_new (I1.ok.hd hc) pl.isList (ns := ns) (by simpa using r.ints) (by unfold scanBound; omega) fun h' tk c hS hcn hk => ?_
  refine PyProof.Rows.args_nil ?_
  have I2 : Inv X pins σ H1 { s1 with heap := h', toks := tk } := I1.kept fun b o e => hk b o e
  have big : (1000 : Nat) ≤ sizeLine := by rw [sizeLine_eq]; decide
  refine srtS_any hS (I2.ok.hd hc) (Nat.le_trans hcn (Nat.le_trans h1 big)) fun s' p out c ns' k g o hp hg' hi hs hm => ?_
  have en : ns' = srt ns := ris_one hs (srt_ris ns) fun j => by rw [hm, srt_mem, decide_eq_true_iff]
  subst en
  have hn : H1 p = none := I2.hok.fresh hp
  have hlen : ((srt ns).map V.int).length ≤ sizeLine := by
    rw [List.length_map]
    exact Nat.le_trans (srt_le ns) (Nat.le_trans h1 big)
  have J : Inv X pins σ (upd H1 p (.lst ((srt ns).map V.int))) { s1 with heap := s'.heap, gens := s'.gens, drawn := s'.drawn, toks := s'.toks } :=
    Inv.call (s := { s1 with heap := h', toks := tk }) (ch := []) I2 (Un.laid k hp hn) (I2.hok.laid k hp ⟨hlen, out.toList, c, vals_of_ints hi, hg'⟩) (by rw [g]; exact I2.bare) (fun _ z => nomatch z)
  have e : s' = { s1 with heap := s'.heap, gens := s'.gens, drawn := s'.drawn, toks := s'.toks } := by
    cases s'
    cases s1
    cases o
    rfl
  rw [e]
  exact ⟨.ref p, _, J, rfl, q1 p hn⟩
end
section
variable {K : PySem.W.Frag} {σ : L2.St} {H : Hp} {ta tb te : TE}
theorem erf_srtSet {ns : List Int} (h : Er K ta σ H ns) (hl : ns.length ≤ 1000) : ErF K (tSrtSet K ta) σ H (srt ns) := fun H1 e Q q =>
  h H1 e _ fun v H2 e2 ⟨p, e3, hs⟩ => ⟨p, ns, e3, lst_int hs, hl, fun l hn => q l _ (fresh_back e2 hn) (e2.trans (Ex.new hn)) ⟨_, upd_same, int_all2⟩⟩
/-! ### sorted of a list of ints -/
def rSortL (K : PySem.W.Frag) : List V → Hp → VK → Prop := rSortedI K
theorem cSortL {X : Cx} : CallR X (.builtin "sorted") (rSortL X.K) := cr_sortedI
theorem sort_uniq {l m : List Int} (h : l.Perm m) (hl : l.Pairwise (· ≤ ·)) (hm : m.Pairwise (· ≤ ·)) : l = m := h.eq_of_pairwise (fun _ _ _ _ h1 h2 => Int.le_antisymm h1 h2) hl hm
/-- a list told in order -/
def ord (ns : List Int) : List Int := ns.mergeSort (fun a b => decide (a ≤ b))
theorem ord_perm (ns : List Int) : (ord ns).Perm ns := List.mergeSort_perm ns _
theorem ord_ris (ns : List Int) : (ord ns).Pairwise (· ≤ ·) := by
  have h := List.pairwise_mergeSort (le := fun a b : Int => decide (a ≤ b)) (fun a b c h1 h2 => by simp only [decide_eq_true_iff] at *; omega) (fun a b => by simp only [Bool.or_eq_true, decide_eq_true_iff]; omega) ns
  exact h.imp fun {a b} h => of_decide_eq_true h
theorem erf_sortL {ns : List Int} (h : Er K ta σ H ns) : ErF K (tCB (rSortL K) (tCons ta tNil)) σ H (ord ns) := fun H1 e Q q =>
  h H1 e _ fun v H2 e2 ⟨p, e3, hs⟩ => ⟨p, ns, by rw [e3], lst_int hs, fun ns' l hp hr hn => by
    have e4 : ns' = ord ns := sort_uniq (hp.trans (ord_perm ns).symm) hr (ord_ris ns)
    subst e4
    exact q l _ (fresh_back e2 hn) (e2.trans (Ex.new hn)) ⟨_, upd_same, int_all2⟩⟩
end
end Rf
set_option Elab.async false
set_option linter.all false
set_option maxRecDepth 100000
set_option maxHeartbeats 4000000
namespace Rf
open PySem L2 Evl
/-! ### a word of two letters in a word -/
def hasP (a b : Bool) : List Bool → Bool
  | x :: y :: r => (x == a && y == b) || hasP a b (y :: r)
  | _ => false
theorem hasP_iff (a b : Bool) : ∀ w : List Bool, hasP a b w = true ↔ ∃ i, (w.drop i).take 2 = [a, b]
  | [] => by simp [hasP]
  | [x] => by
    simp only [hasP, Bool.false_eq_true, false_iff, not_exists]
    intro i
    cases i with
    | zero => simp
    | succ i => simp
  | x :: y :: r => by
    have ih := hasP_iff a b (y :: r)
    simp only [hasP, Bool.or_eq_true, Bool.and_eq_true, beq_iff_eq]
    rw [ih]
    constructor
    · rintro (⟨h1, h2⟩ | ⟨i, h⟩)
      · exact ⟨0, by simp [h1, h2]⟩
      · exact ⟨i + 1, by simpa using h⟩
    · rintro ⟨i, h⟩
      cases i with
      | zero => simp at h; exact .inl h
      | succ i => exact .inr ⟨i, by simpa using h⟩
theorem map_sg_inj {w v : List Bool} (h : w.map sg = v.map sg) : w = v := tx_inj (by unfold tx; rw [h])
theorem in_word (a b : Bool) (w : List Bool) : (!(Builtin.Str.occurrences (tx w) (tx [a, b]) 0 (tx w).length 1).isEmpty) = hasP a b w := by
  rw [Bool.eq_iff_iff, PySem.StrLaws.found_iff, hasP_iff]
  have key : ∀ i, (Builtin.Str.subAt (tx w) (tx [a, b]) i = true) ↔ (w.drop i).take 2 = [a, b] := fun i => by
    unfold Builtin.Str.subAt
    rw [tx_len, beq_iff_eq]
    constructor
    · intro h
      have h2 := congrArg Array.toList h
      rw [Array.toList_extract, tx_list, tx_list] at h2
      have h3 : ((w.drop i).take 2).map sg = [a, b].map sg := by
        rw [← h2]
        show _ = List.take (i + 2 - i) (List.drop i (w.map sg))
        rw [Nat.add_sub_cancel_left, List.map_take, List.map_drop]
      exact map_sg_inj h3
    · intro h
      apply Array.ext'
      rw [Array.toList_extract, tx_list, tx_list]
      show List.take (i + 2 - i) (List.drop i (w.map sg)) = _
      rw [Nat.add_sub_cancel_left, ← List.map_drop, ← List.map_take, h]
  constructor
  · rintro ⟨i, _, h⟩
    exact ⟨i, (key i).mp h⟩
  · rintro ⟨i, h⟩
    refine ⟨i, ?_, (key i).mpr h⟩
    have h2 := congrArg List.length h
    rw [List.length_take, List.length_drop] at h2
    simp only [List.length_cons, List.length_nil] at h2
    rw [tx_len, tx_len]
    simp only [List.length_cons, List.length_nil]
    omega
def rNotInT : R2 := fun x y H Q => ∃ i j, x = .str i ∧ y = .str j ∧ Q (.bl (!(!(Builtin.Str.occurrences j i 0 j.length 1).isEmpty))) H
section
variable {α β γ δ : Type} [Rep α] [Rep β] [Rep γ] [Rep δ] {K : PySem.W.Frag} {σ : L2.St} {H H' : Hp} {ta tb tc te tl : TE} {t u tt : TT} {X : Cx} {D : Ends} {tu tw tz : TS}
theorem oNotInT : OpR X (compareOp .NotIn) rNotInT := op_notIn_str
theorem er_notInW {a b : Bool} {w : List Bool} (ha : Er K ta σ H (tx [a, b])) (hb : Er K tb σ H (tx w)) : Er K (tOp rNotInT ta tb) σ H (!hasP a b w) :=
  er_ev (ev_op (er_s ha) (er_s hb) (rv_val fun H1 _ Q q => ⟨_, _, rfl, rfl, by rw [in_word]; exact q⟩)) fun _ _ => rfl
/-! ### a number not in a list -/
theorem inV_int (x : Int) : ∀ ns : List Int, inV (.int x) (ns.map V.int) = ns.contains x
  | [] => rfl
  | a :: ns => by
    have h := inV_int x ns
    unfold inV at h ⊢
    rw [List.map_cons, List.any_cons, h, List.contains_cons]
    congr 1
    show (a == x) = (x == a)
    rw [Bool.eq_iff_iff, beq_iff_eq, beq_iff_eq]
    exact ⟨fun e => e.symm, fun e => e.symm⟩
theorem flat_ints : ∀ ns : List Int, (ns.map V.int).all flatV = true
  | [] => rfl
  | a :: ns => by rw [List.map_cons, List.all_cons, flat_ints ns]; rfl
theorem er_notInL {x : Int} {ns : List Int} (ha : Er K ta σ H x) (hb : Er K tb σ H ns) : Er K (tOp (rIn K true) ta tb) σ H (!ns.contains x) :=
  er_two ha hb fun v w H1 _ rv rw_ Q q => by
    obtain rfl : v = .int x := rv
    obtain ⟨p, rfl, h⟩ := rw_
    exact ⟨p, ns.map V.int, rfl, .inl (lst_int h), rfl, flat_ints ns, q _ H1 (Ex.refl H1) (by rw [inV_int]; rfl)⟩
/-! ### numbers' bits -/
def rMulX : R2 := rI CMulX fun i j => .int (i * j)
theorem oMulX : OpR X (binaryOp .Mult) rMulX := op_mulX
theorem er_mulX {i j : Int} (ha : Er K ta σ H i) (hb : Er K tb σ H j) (hc : CMulX i j) : Er K (tOp rMulX ta tb) σ H (i * j) := er_ev (ev_op (er_i ha) (er_i hb) (rv_I hc)) fun _ _ => rfl
/-- at most n bits -/
def Bits (n : Nat) (z : Int) : Prop := z.natAbs < 2 ^ n
theorem bits_of {n : Nat} {z : Int} (h : Builtin.Int.intBits z ≤ n) : Bits n z := by
  unfold Bits
  by_cases h0 : z.natAbs = 0
  · rw [h0]; exact Nat.pow_pos (by decide)
  · have h2 : z.natAbs.log2 + 1 ≤ n := by
      unfold Builtin.Int.intBits at h
      rw [if_neg (by rw [beq_iff_eq]; omega)] at h
      exact h
    exact Nat.lt_of_lt_of_le Nat.lt_log2_self (Nat.pow_le_pow_right (by decide) h2)
theorem of_bits {n : Nat} {z : Int} (h : Bits n z) : Builtin.Int.intBits z ≤ n := by
  unfold Builtin.Int.intBits
  split
  · omega
  · rename_i h0
    have h1 : z.natAbs ≠ 0 := by rw [beq_iff_eq] at h0; omega
    have := (Nat.log2_lt h1).mpr h
    omega
theorem bits_sub {n : Nat} {a b : Int} (ha : Bits n a) (hb : Bits n b) : Bits (n + 1) (a - b) := by
  unfold Bits at *
  rw [Nat.pow_succ]
  omega
theorem bits_up {n m : Nat} {a : Int} (ha : Bits n a) (h : n ≤ m) : Bits m a := Nat.lt_of_lt_of_le ha (Nat.pow_le_pow_right (by decide) h)
theorem bits_mul {n : Nat} {a b : Int} (ha : Bits n a) (hb : Bits n b) (hn : n ≤ 2000000) : CMulX a b := by
  have h1 := of_bits ha
  have h2 := of_bits hb
  unfold CMulX
  omega
/-! ### comprehensions over zip(xs, ys) -/
theorem lc_zip {a b : Addr} {xs ys : List V} {g : TG} {vs : List Nat} {H1 : Hp} {A : Addr} {Qd : Hp → Prop} (Pv : Nat → Hp → Prop) (h0 : Pv 0 (upd H1 A (.lst []))) (hl : ∀ i H, Pv i H → SqL K H a xs ∧ SqL K H b ys)
    (hs : ∀ i x y T H, xs[i]? = some x → ys[i]? = some y → Pv i H → H T = none → g (.ref T) (wipe σ vs) (upd H T (.tup [x, y])) fun σ2 H2 => wipe σ2 vs = wipe σ vs ∧ tt σ2 H2 fun b H3 =>
      if b = true then te σ2 H3 fun y H4 => ∃ acc, H4 A = some (.lst acc) ∧ acc.length < sizeLine ∧ Pv (i + 1) (upd H4 A (.lst (acc ++ [y]))) else Pv (i + 1) H3) (hd : ∀ H, Pv (min xs.length ys.length) H → Qd H) :
    ∃ W : Nat → Nat → Hp → Prop, (∃ m, W 0 m (upd H1 A (.lst []))) ∧ ∀ i m H, W i m H →
      ((Itz K a b).stop i H ∧ Qd H) ∨ ((Itz K a b).go i H ∧ ∃ Nx : Hp → Prop, (∀ H', Nx H' → ∃ m', m' < m ∧ W (i + 1) m' H') ∧ ∀ v H', (Itz K a b).yld i H v H' → g v (wipe σ vs) H' fun σ2 H2 => wipe σ2 vs = wipe σ vs ∧ tt σ2 H2 fun b H3 =>
        if b = true then te σ2 H3 fun y H4 => ∃ acc, H4 A = some (.lst acc) ∧ acc.length < sizeLine ∧ Nx (upd H4 A (.lst (acc ++ [y]))) else Nx H3) := by
  refine ⟨fun i m H => m = min xs.length ys.length - i ∧ i ≤ min xs.length ys.length ∧ Pv i H, ⟨min xs.length ys.length, by simp, Nat.zero_le _, h0⟩, ?_⟩
  rintro i m H ⟨rfl, hi, p⟩
  obtain ⟨qx, qy⟩ := hl i H p
  by_cases hlt : i < min xs.length ys.length
  · have hx : i < xs.length := by omega
    have hy : i < ys.length := by omega
    refine .inr ⟨⟨xs, ys, xs[i], ys[i], qx, qy, by simp [hx], by simp [hy]⟩, Pv (i + 1), fun H' p' => ⟨min xs.length ys.length - (i + 1), by omega, rfl, hlt, p'⟩, fun v H' y => ?_⟩
    obtain ⟨T, x', y', rfl, hT, rfl, f1, f2⟩ := y
    exact hs i x' y' T H (f1 xs qx) (f2 ys qy) p hT
  · have e : i = min xs.length ys.length := by omega
    subst e
    exact .inl ⟨⟨xs, ys, qx, qy, by omega⟩, hd H p⟩
theorem erf_lcZ {as : List α} {bs : List β} {i0 j : Nat} {vs : List Nat} {f : α → β → γ} (h1 : Er K ta σ H as) (h2 : Er K tb σ H bs) (hz : as.length ≤ 40000) (hw : ∀ x y, wipe (((wipe σ vs).set i0 (some x)).set j (some y)) vs = wipe σ vs)
    (he : ∀ (i : Nat) (a : α) (b : β) (v w : V) (H1 : Hp), Ex H H1 → as[i]? = some a → bs[i]? = some b → Rep.rep K H1 v a → Rep.rep K H1 w b → Es K te (((wipe σ vs).set i0 (some v)).set j (some w)) H1 (f a b)) :
    ErF K (tLc (iZip K (tCons ta (tCons tb tNil))) (gTwo K i0 j) tYes te vs) σ H ((as.zip bs).map fun c => f c.1 c.2) := fun H0 e Q q =>
  h1 H0 e _ fun v0 H1 e1 r1 => h2 H1 (e.trans e1) _ fun v1 H2 e2 r2 => by
    obtain ⟨a0, rfl, xs, hs, hall⟩ := Rep.mono (K := K) e2 r1
    obtain ⟨b0, rfl, ys, hs2, hall2⟩ := r2
    refine ⟨a0, b0, xs, ys, rfl, hs, hs2, fun A hA => lc_zip (xs := xs) (ys := ys) (fun i H' => Cl K H2 A H' ((((as.zip bs)).take i).map fun c => f c.1 c.2)) (cl_start hA) (fun i H' c => ⟨ex_l c.2.1 hs, ex_l c.2.1 hs2⟩) (fun i x y T H' hx hy c hT => ?_) (fun H' c => ?_)⟩
    · obtain ⟨a, ha, r⟩ := hall.getV hx
      obtain ⟨b, hb, r'⟩ := hall2.getV hy
      have hi : i < as.length := (List.getElem?_eq_some_iff.mp ha).1
      have hz' : (as.zip bs)[i]? = some (a, b) := by rw [List.getElem?_zip_eq_some]; exact ⟨ha, hb⟩
      have cT : Cl K H2 A (upd H' T (.tup [x, y])) ((((as.zip bs)).take i).map fun c => f c.1 c.2) := ⟨c.1, c.2.1.trans (Ex.new hT), c.2.2.up (Ex.new hT)⟩
      refine gTwo_run (st_of upd_same) ⟨hw _ _, cl_turn cT ?_ et_yes (fun _ => he i a b x y H2 ((e.trans e1).trans e2) ha hb r r') fun H'' c' => ?_⟩
      · rw [List.length_map, List.length_take]
        omega
      · rw [take_succ_some hz', List.map_append]
        simpa using c'
    · rw [hall.len, hall2.len, ← List.length_zip, List.take_length] at c
      exact q A H' (fresh_back (e1.trans e2) hA) ((e1.trans e2).trans c.2.1) c.2.2
end
end Rf
set_option Elab.async false
set_option linter.all false
set_option maxRecDepth 100000
set_option maxHeartbeats 4000000
namespace Rf
open PySem L2 Evl
/-! ### an instance of two lists of ints -/
theorem ne_pc : ¬ (("places" : Str) = "cuts") := by decide +kernel
def zf (p q : Addr) : List (Str × V) := putF "cuts" (.ref q) (putF "places" (.ref p) [])
theorem zf_p (p q : Addr) : (zf p q).lookup ("places" : Str) = some (.ref p) := by
  unfold zf
  rw [lookup_putF, if_neg ne_pc, lookup_putF, if_pos rfl]
theorem zf_c (p q : Addr) : (zf p q).lookup ("cuts" : Str) = some (.ref q) := by
  unfold zf
  rw [lookup_putF, if_pos rfl]
theorem zf_no (p q : Addr) {m : Str} (h1 : ¬ m = "cuts") (h2 : ¬ m = "places") : (zf p q).lookup m = none := by
  unfold zf
  rw [lookup_putF, if_neg h1, lookup_putF, if_neg h2]
  all_goals rfl
structure ZC (K : PySem.W.Frag) (C : Addr) : Prop where
  cl : Cls K C
  nP : NoAttr K C "places"
  nC : NoAttr K C "cuts"
  g : PySem.W.nsIn K mainGlobals "Zigzag" = some (some (.ref C))
theorem ZC.one {K : PySem.W.Frag} {C C' : Addr} (h : ZC K C) (h' : ZC K C') : C = C' := by
  have e := h.g.symm.trans h'.g
  cases e
  rfl
structure Zz where
  ps : List Int
  cs : List Int
/-- .. where it stands, its lists to be changed -/
def ZAt (K : PySem.W.Frag) (H : Hp) (x p q : Addr) (z : Zz) : Prop := ∃ C dx, ZC K C ∧ H x = some (.ins C dx (zf p q)) ∧ H p = some (.lst (z.ps.map V.int)) ∧ H q = some (.lst (z.cs.map V.int))
instance : Rep Zz := ⟨fun K H v z => ∃ x p q, v = .ref x ∧ ZAt K H x p q z, fun e ⟨x, p, q, h1, C, dx, h2, h3, h4, h5⟩ => ⟨x, p, q, h1, C, dx, h2, e _ _ h3, e _ _ h4, e _ _ h5⟩⟩
section
variable {K : PySem.W.Frag} {H H' : Hp} {x p q : Addr} {z : Zz}
theorem ZAt.up (h : ZAt K H x p q z) (e : Ex H H') : ZAt K H' x p q z := by
  obtain ⟨C, dx, h1, h2, h3, h4⟩ := h
  exact ⟨C, dx, h1, e _ _ h2, e _ _ h3, e _ _ h4⟩
theorem ZAt.rep (h : ZAt K H x p q z) : Rep.rep K H (.ref x) z := by
  exact ⟨x, p, q, rfl, h⟩
theorem ZAt.but {y : Addr} (h : ZAt K H x p q z) (e : ExBut y H H') (h1 : x ≠ y) (h2 : p ≠ y) (h3 : q ≠ y) : ZAt K H' x p q z := by
  obtain ⟨C, dx, k1, k2, k3, k4⟩ := h
  exact ⟨C, dx, k1, e _ _ h1 k2, e _ _ h2 k3, e _ _ h3 k4⟩
theorem own_int {ns : List Int} (h : Own K H p ns) : H p = some (.lst (ns.map V.int)) := by
  obtain ⟨xs, h1, h2⟩ := h
  rw [← all2_int h2]; exact h1
theorem int_own {ns : List Int} (h : H p = some (.lst (ns.map V.int))) : Own K H p ns := ⟨_, h, int_all2⟩
end
/-- a list of ints that stands tracked -/
structure Lo where
  l : List Int
instance : Rep Lo := ⟨fun _ H v a => ∃ p, v = .ref p ∧ H p = some (.lst (a.l.map V.int)), fun e ⟨p, h1, h2⟩ => ⟨p, h1, e _ _ h2⟩⟩
theorem lo_lst {K : PySem.W.Frag} {H : Hp} {v : V} {as : List Int} (h : Rep.rep K H v (Lo.mk as)) : Rep.rep K H v as := by
  obtain ⟨p, h1, h2⟩ := h
  exact ⟨p, h1, int_lst (sq_of h2)⟩
/-- an instance, new, and its lists -/
def New3 (H : Hp) (x p q : Addr) : Prop := H x = none ∧ H p = none ∧ H q = none ∧ x ≠ p ∧ x ≠ q ∧ p ≠ q
def ErZ (K : PySem.W.Frag) (te : TE) (σ : L2.St) (H : Hp) (z : Zz) : Prop := ∀ H1, Ex H H1 → ∀ Q : VK, (∀ x p q H2, New3 H1 x p q → Ex H1 H2 → ZAt K H2 x p q z → Q (.ref x) H2) → te σ H1 Q
def PrZ1 {α : Type} [Rep α] (K : PySem.W.Frag) (pre : α → Prop) (f : α → Zz) : Sp := fun vs H Q _ => ∃ v a, vs = [v] ∧ Rep.rep K H v a ∧ pre a ∧ ∀ x p q H', New3 H x p q → Ex H H' → ZAt K H' x p q (f a) → Q (.ref x) H'
/-- what __init__ promises -/
def PrInit (K : PySem.W.Frag) : Sp := fun vs H Q _ => ∃ H0 x dx a b C z, vs = [.ref x, a, b] ∧ ZC K C ∧ H x = some (.ins C dx []) ∧ H0 x = none ∧ Ex H0 H ∧ Rep.rep K H0 a (z : Zz).ps ∧ Rep.rep K H0 b z.cs ∧
  ∀ p q H', H p = none → H q = none → p ≠ q → Ex H0 H' → ZAt K H' x p q z → Q .non H'
theorem New3.back {H H1 : Hp} {x p q : Addr} (h : New3 H1 x p q) (e : Ex H H1) : New3 H x p q := ⟨fresh_back e h.1, fresh_back e h.2.1, fresh_back e h.2.2.1, h.2.2.2⟩
section
variable {α β γ δ : Type} [Rep α] [Rep β] [Rep γ] [Rep δ] {K : PySem.W.Frag} {σ : L2.St} {H H' : Hp} {ta tb tc te tl : TE} {t u tt : TT} {X : Cx} {D : Ends} {tu tw tz : TS} {z : Zz} {C : Addr}
theorem ErZ.er (h : ErZ K te σ H z) : Er K te σ H z := fun H1 e Q q => h H1 e Q fun x p q' H2 _ e2 o => q _ H2 e2 o.rep
theorem er_fldP (h : Er K te σ H z) : Er K (tFld K te "places") σ H z.ps := fun H1 e Q k => h H1 e _ fun v H2 e2 ⟨x, p, q, ev, C, dx, zc, hx, hp, hq⟩ => ⟨x, C, dx, zf p q, .ref p, ev, hx, zc.cl, zc.nP, zf_p p q, k _ H2 e2 ⟨p, rfl, int_lst (sq_of hp)⟩⟩
theorem er_fldC (h : Er K te σ H z) : Er K (tFld K te "cuts") σ H z.cs := fun H1 e Q k => h H1 e _ fun v H2 e2 ⟨x, p, q, ev, C, dx, zc, hx, hp, hq⟩ => ⟨x, C, dx, zf p q, .ref q, ev, hx, zc.cl, zc.nC, zf_c p q, k _ H2 e2 ⟨q, rfl, int_lst (sq_of hq)⟩⟩
theorem er_lo {as : List Int} (h : Er K te σ H (Lo.mk as)) : Er K te σ H as := fun H1 e Q q => h H1 e Q fun v H2 e2 r => q v H2 e2 (lo_lst r)
theorem ErF.lo {as : List Int} (h : ErF K te σ H as) : Er K te σ H (Lo.mk as) := fun H1 e Q q => h H1 e Q fun p H2 _ e2 o => q _ H2 e2 ⟨p, rfl, own_int o⟩
theorem er_loP (h : Er K te σ H z) : Er K (tFld K te "places") σ H (Lo.mk z.ps) := fun H1 e Q k => h H1 e _ fun v H2 e2 ⟨x, p, q, ev, C, dx, zc, hx, hp, hq⟩ => ⟨x, C, dx, zf p q, .ref p, ev, hx, zc.cl, zc.nP, zf_p p q, k _ H2 e2 ⟨p, rfl, hp⟩⟩
theorem er_loC (h : Er K te σ H z) : Er K (tFld K te "cuts") σ H (Lo.mk z.cs) := fun H1 e Q k => h H1 e _ fun v H2 e2 ⟨x, p, q, ev, C, dx, zc, hx, hp, hq⟩ => ⟨x, C, dx, zf p q, .ref q, ev, hx, zc.cl, zc.nC, zf_c p q, k _ H2 e2 ⟨q, rfl, hq⟩⟩
/-- xs + ys, tracked lists of ints -/
theorem erf_catI {as bs : List Int} (ha : Er K ta σ H (Lo.mk as)) (hb : Er K tb σ H (Lo.mk bs)) (hl : as.length + bs.length ≤ 100000) : ErF K (tOp rCat ta tb) σ H (as ++ bs) :=
  erf_two ha hb fun x y H1 _ rx ry Q q => by
    obtain ⟨p, rfl, h1⟩ := rx
    obtain ⟨p', rfl, h2⟩ := ry
    refine ⟨p, p', _, _, rfl, rfl, h1, h2, by rw [List.length_map, List.length_map]; exact sz_of hl, fun l hn => q l _ hn (Ex.new hn) (int_own ?_)⟩
    rw [List.map_append]
    exact upd_same
/-- some new list of ints -/
def ErL (_ : PySem.W.Frag) (te : TE) (σ : L2.St) (H : Hp) (P : List Int → Prop) : Prop := ∀ H1, Ex H H1 → ∀ Q : VK, (∀ p out H2, P out → H1 p = none → Ex H1 H2 → H2 p = some (.lst (out.map V.int)) → Q (.ref p) H2) → te σ H1 Q
theorem ErF.some {as : List Int} {P : List Int → Prop} (h : ErF K te σ H as) (hp : P as) : ErL K te σ H P := fun H1 e Q q => h H1 e Q fun p H2 n e2 o => q p as H2 hp n e2 (own_int o)
theorem g_retL {P : List Int → Prop} (h : ErL K te σ H P) (k : ∀ p out H1, P out → H p = none → Ex H H1 → H1 p = some (.lst (out.map V.int)) → D.rt (.ref p) H1) : Gx K (tRet te D) σ H := fun H1 e =>
  h H1 e _ fun p out H2 hp n e2 o => k p out H2 hp (fresh_back e n) (e.trans e2) o
/-- a list times a number -/
theorem erf_rep {as : List Int} {k : Int} (ha : ErF K ta σ H as) (hb : Er K tb σ H k) (h1 : -1000 ≤ k) (h2 : k ≤ 1000) (h3 : as.length ≤ 10) : ErF K (tOp rRep ta tb) σ H (List.replicate k.toNat as).flatten := fun H1 e Q q =>
  ha H1 e _ fun p H2 n e2 o => er_i hb H2 (e.trans e2) _ fun H3 e3 => by
    refine ⟨p, k, _, rfl, rfl, e3 _ _ (own_int o), by omega, by omega, ?_, fun l hn => q l _ (fresh_back (e2.trans e3) hn) ((e2.trans e3).trans (Ex.new hn)) (int_own ?_)⟩
    · rw [List.length_map, sizeLine_eq]
      have : as.length * k.toNat ≤ 10 * 1000 := Nat.mul_le_mul h3 (by omega)
      omega
    · have e4 : ((List.replicate k.toNat as).flatten).map V.int = (List.replicate k.toNat (as.map V.int)).flatten := by rw [List.map_flatten, List.map_replicate]
      rw [e4]
      exact upd_same
/-- a list of pairs of ints is walked -/
theorem erf_lcP {as : List (Int × Int)} {i0 j : Nat} {vs : List Nat} {f : Int → Int → β} (h : Er K tl σ H as) (hz : as.length ≤ 40000) (hw : ∀ x y, wipe (((wipe σ vs).set i0 (some x)).set j (some y)) vs = wipe σ vs)
    (he : ∀ (a b : Int) (H1 : Hp), Ex H H1 → Es K te (((wipe σ vs).set i0 (some (.int a))).set j (some (.int b))) H1 (f a b)) :
    ErF K (tLc (iList K tl) (gTwo K i0 j) tYes te vs) σ H (as.map fun c => f c.1 c.2) := by
  have q := erf_lcG (p := fun _ => true) (tt := tYes) (te := te) (vs := vs) (g := gTwo K i0 j) (f := fun c : Int × Int => f c.1 c.2) h hz fun i a v H1 e ha r H2 e2 R hR => by
    obtain ⟨p, rfl, x, y, hs, hx, hy⟩ := r
    obtain rfl : x = .int a.1 := hx
    obtain rfl : y = .int a.2 := hy
    exact gTwo_run (ex_t e2 hs) (hR _ (hw _ _) et_yes fun _ => he a.1 a.2 H1 e)
  rw [filter_yes] at q
  exact q
/-- over a tuple that is displayed -/
theorem g_forT {j : Nat} {ta : TA} {as : List α} (h : EaL K ta σ H as) (hl : as.length ≤ 100000) (Inv : Hp → Nat → L2.St → Hp → Prop) (h0 : ∀ B H1, Ex H B → Ex B H1 → Inv B 0 σ H1) (hI : ∀ B i σ' H', Inv B i σ' H' → Ex B H')
    (hs : ∀ B i a v σ' H', Ex H B → as[i]? = some a → Rep.rep K B v a → Inv B i σ' H' → Gx K (tu { D with nx := Inv B (i + 1), ct := Inv B (i + 1), bk := D.nx }) (σ'.set j (some v)) H') (hd : ∀ B σ' H', Ex H B → Inv B as.length σ' H' → D.nx σ' H') :
    Gx K (tFor (iTup K (tTup ta)) (gName j) tu D) σ H := fun H1 e => h H1 e _ fun vs B e2 hv => ⟨sz_of (by rw [hv.len]; exact hl), fun p hp => by
  have eB : Ex H (upd B p (.tup vs)) := (e.trans e2).trans (Ex.new hp)
  have hx : SqT K (upd B p (.tup vs)) p vs := st_of upd_same
  have hall : All2 (Rep.rep K (upd B p (.tup vs))) vs as := hv.mp fun v a r => Rep.mono (Ex.new hp) r
  exact ⟨p, rfl, ⟨vs, hx⟩, for_tup (xs := vs) (Inv (upd B p (.tup vs))) (h0 _ _ eB (Ex.refl _)) (fun i σ' H' _ iv => ex_t (hI _ i σ' H' iv) hx) (fun i x σ' H' hxi iv => by
    obtain ⟨a, ha, r⟩ := hall.getV hxi
    exact (hs _ i a x σ' H' eB ha r iv).here) fun σ' H' iv => hd _ σ' H' eB (by rw [← hall.len]; exact iv)⟩⟩
theorem q_forT {j : Nat} {ta : TA} {as : List α} (h : EaL K ta σ H as) (hl : as.length ≤ 100000) (Inv : Hp → Nat → L2.St → Hp → Prop) (h0 : ∀ B H1, Ex H B → Ex B H1 → Inv B 0 σ H1) (hI : ∀ B i σ' H', Inv B i σ' H' → Ex B H')
    (hs : ∀ B i a v σ' H', Ex H B → as[i]? = some a → Rep.rep K B v a → Inv B i σ' H' → Gx K (tu { D with nx := Inv B (i + 1), ct := Inv B (i + 1), bk := tz D }) (σ'.set j (some v)) H') (hd : ∀ B σ' H', Ex H B → Inv B as.length σ' H' → Gx K (tz D) σ' H') :
    Gx K (tSeq (tFor (iTup K (tTup ta)) (gName j) tu) tz D) σ H := g_forT (D := { D with nx := tz D }) h hl Inv h0 hI hs (fun B σ' H' e iv => (hd B σ' H' e iv).here)
theorem erz_make {ps cs : List Int} {E : XK} (zc : ZC K C) (h1 : Er K ta σ H ps) (h2 : Er K tb σ H cs) : ErZ K (tMake C (PrInit K) [] E (tCons ta (tCons tb tNil))) σ H ⟨ps, cs⟩ := fun H1 e Q k =>
  h1 H1 e _ fun v H2 e2 r1 => h2 H2 (e.trans e2) _ fun w H3 e3 r2 => fun x dx hx hdx hne => by
    have e4 : Ex H3 (upd (upd H3 dx (.own x)) x (.ins C dx [])) := (Ex.new hdx).trans (Ex.new (by rw [upd_ne (Ne.symm hne)]; exact hx))
    refine ⟨H3, x, dx, v, w, C, ⟨ps, cs⟩, rfl, zc, upd_same, hx, e4, Rep.mono e3 r1, r2, fun p q H' hp hq hpq e5 za => ⟨rfl, ?_⟩⟩
    have xp : x ≠ p := fun z => by rw [← z, upd_same] at hp; cases hp
    have xq : x ≠ q := fun z => by rw [← z, upd_same] at hq; cases hq
    exact k x p q H' (New3.back ⟨hx, fresh_back e4 hp, fresh_back e4 hq, xp, xq, hpq⟩ (e2.trans e3)) ((e2.trans e3).trans e5) za
theorem erz_call1 {pre : α → Prop} {f : α → Zz} {E : XK} {a : α} (h : Er K ta σ H a) (hp : pre a) : ErZ K (tCall (PrZ1 K pre f) [] E (tCons ta tNil)) σ H (f a) := fun H1 e Q k =>
  h H1 e _ fun v H2 e2 r => ⟨v, a, rfl, r, hp, fun x p q H3 n e3 r3 => k x p q H3 (n.back e2) (e2.trans e3) r3⟩
theorem q_asgZ {i : Nat} (h : ErZ K te σ H z) (k : ∀ x p q H1, New3 H x p q → Ex H H1 → ZAt K H1 x p q z → Gx K (tz D) (σ.set i (some (.ref x))) H1) : Gx K (tSeq (tAsg te (gName i)) tz D) σ H := fun H1 e =>
  h H1 e _ fun x p q H2 n e2 o => (k x p q H2 (n.back e) (e.trans e2) o).here
theorem g_retZ (h : ErZ K te σ H z) (k : ∀ x p q H1, New3 H x p q → Ex H H1 → ZAt K H1 x p q z → D.rt (.ref x) H1) : Gx K (tRet te D) σ H := fun H1 e =>
  h H1 e _ fun x p q H2 n e2 o => k x p q H2 (n.back e) (e.trans e2) o
theorem er_meth1 {pre : Zz → β → Prop} {f : Zz → β → γ} {E : XK} {b : β} {m : Str} (zc : ZC K C) (h1 : Er K ta σ H z) (h2 : Er K tb σ H b) (hp : pre z b) (m1 : ¬ m = "cuts") (m2 : ¬ m = "places") :
    Er K (tMeth C m (Pr2 K pre f) [] E ta (tCons tb tNil)) σ H (f z b) := fun H1 e Q k =>
  h1 H1 e _ fun v H2 e2 r => by
    obtain ⟨x, p, q, ev, C', dx, zc', hx, hpp, hq⟩ := id r
    have eC := zc.one zc'
    subst eC
    exact ⟨x, dx, zf p q, ev, hx, zf_no p q m1 m2, h2 H2 (e.trans e2) _ fun w H3 e3 r3 => ⟨v, w, z, b, rfl, Rep.mono e3 r, r3, hp, fun u H4 e4 r4 => k u H4 ((e2.trans e3).trans e4) r4⟩⟩
end
theorem len_prZ1 {α : Type} [Rep α] {K : PySem.W.Frag} {pre : α → Prop} {f : α → Zz} {vs : List V} {H : Hp} {Q : VK} {E : XK} (h : PrZ1 K pre f vs H Q E) : vs.length = 1 := by obtain ⟨_, _, rfl, _⟩ := h; rfl
theorem len_prInit {K : PySem.W.Frag} {vs : List V} {H : Hp} {Q : VK} {E : XK} (h : PrInit K vs H Q E) : vs.length = 3 := by obtain ⟨_, _, _, _, _, _, _, rfl, _⟩ := h; rfl
end Rf
set_option Elab.async false
set_option linter.all false
set_option maxRecDepth 100000
set_option maxHeartbeats 4000000
namespace Rf
/-! Zm: whether a zigzag shows what it tells, as the program says it and as the law says it. Plain lists. -/
/-! ### places -/
def arePl (n : Int) : Int → List Int → Bool
  | _, [] => true
  | last, p :: r => (decide (last < p) && decide (p < n)) && arePl n p r
theorem arePl_iff (n : Int) : ∀ (last : Int) (ps : List Int), arePl n last ps = true ↔ ((∀ p ∈ ps, last < p ∧ p < n) ∧ ps.Pairwise (· < ·))
  | last, [] => by simp [arePl]
  | last, p :: r => by
    simp only [arePl, Bool.and_eq_true, decide_eq_true_eq, arePl_iff n p r, List.pairwise_cons, List.mem_cons, forall_eq_or_imp]
    constructor
    · rintro ⟨⟨h1, h2⟩, h3, h4⟩
      exact ⟨⟨⟨h1, h2⟩, fun q hq => ⟨by have := h3 q hq; omega, (h3 q hq).2⟩⟩, fun q hq => (h3 q hq).1, h4⟩
    · rintro ⟨⟨⟨h1, h2⟩, h3⟩, h4, h5⟩
      exact ⟨⟨h1, h2⟩, fun q hq => ⟨h4 q hq, (h3 q hq).2⟩, h5⟩
def lPl (n : Int) (ps : List Int) : Bool := decide (ps = srt ps) && ps.all fun p => decide (0 ≤ p) && decide (p < n)
theorem lPl_eq (n : Int) (ps : List Int) : lPl n ps = arePl n (-1) ps := by
  rw [Bool.eq_iff_iff, arePl_iff]
  unfold lPl
  simp only [Bool.and_eq_true, decide_eq_true_eq, List.all_eq_true]
  constructor
  · rintro ⟨h1, h2⟩
    exact ⟨fun p hp => by have := h2 p hp; omega, srt_self.mp h1.symm⟩
  · rintro ⟨h1, h2⟩
    exact ⟨(srt_self.mpr h2).symm, fun p hp => by have := h1 p hp; omega⟩
/-! ### by turns -/
def turnsR : List Int → Bool
  | a :: b :: c :: r => (a != b) && (decide (a < b) != decide (b < c)) && turnsR (b :: c :: r)
  | [a, b] => a != b
  | _ => true
def stepsR (ns : List Int) : List Int := (ns.zip (ns.drop 1)).map fun c => c.2 - c.1
def lTurns (ns : List Int) : Bool := !(stepsR ns).contains 0 && (((stepsR ns).zip ((stepsR ns).drop 1)).map fun c => decide (c.1 * c.2 < 0)).all id
theorem stepsR_cons (a b : Int) (r : List Int) : stepsR (a :: b :: r) = (b - a) :: stepsR (b :: r) := rfl
theorem neg_iff (a b c : Int) (h : a ≠ b) (h2 : b ≠ c) : ((b - a) * (c - b) < 0) ↔ ((a < b) ≠ (b < c)) := by
  rcases Int.lt_or_gt_of_ne h with h | h <;> rcases Int.lt_or_gt_of_ne h2 with h2 | h2
  · have : 0 < (b - a) * (c - b) := Int.mul_pos (by omega) (by omega)
    simp only [h, h2, ne_eq, not_true, iff_false]
    omega
  · have : (b - a) * (c - b) < 0 := Int.mul_neg_of_pos_of_neg (by omega) (by omega)
    have h3 : ¬ b < c := by omega
    simp [h, h3, this]
  · have : (b - a) * (c - b) < 0 := Int.mul_neg_of_neg_of_pos (by omega) (by omega)
    have h3 : ¬ a < b := by omega
    simp [h2, h3, this]
  · have : 0 < (b - a) * (c - b) := Int.mul_pos_of_neg_of_neg (by omega) (by omega)
    have h3 : ¬ b < c := by omega
    have h4 : ¬ a < b := by omega
    simp only [h3, h4, ne_eq, not_true, iff_false]
    omega
theorem lTurns_eq : ∀ ns : List Int, lTurns ns = turnsR ns
  | [] => rfl
  | [a] => rfl
  | [a, b] => by
    unfold lTurns turnsR
    rw [stepsR_cons]
    rw [Bool.eq_iff_iff]
    simp [stepsR]
    omega
  | a :: b :: c :: r => by
    have ih := lTurns_eq (b :: c :: r)
    unfold lTurns at ih ⊢
    unfold turnsR
    rw [← ih, stepsR_cons, stepsR_cons b c r]
    rw [Bool.eq_iff_iff]
    simp only [List.drop_succ_cons, List.drop_zero, List.zip_cons_cons, List.map_cons, List.all_cons, id, Bool.and_eq_true, Bool.not_eq_true', List.contains_cons, Bool.or_eq_false_iff, bne_iff_ne, ne_eq, decide_eq_true_eq, beq_eq_false_iff_ne]
    constructor
    · rintro ⟨⟨h1, h2, h3⟩, h4, h5⟩
      refine ⟨⟨by omega, fun e => ?_⟩, ⟨h2, h3⟩, h5⟩
      have q := (neg_iff a b c (by omega) (by omega)).mp h4
      exact q (propext (decide_eq_decide.mp e))
    · rintro ⟨⟨h1, h2⟩, ⟨h3, h4⟩, h5⟩
      exact ⟨⟨by omega, h3, h4⟩, (neg_iff a b c (by omega) (by omega)).mpr fun e => h2 (decide_eq_decide.mpr (by rw [e])), h5⟩
/-! ### stretches -/
def upR : List Int → Bool
  | a :: b :: r => decide (a ≤ b) && upR (b :: r)
  | _ => true
def dnR : List Int → Bool
  | a :: b :: r => decide (a ≥ b) && dnR (b :: r)
  | _ => true
theorem upR_iff : ∀ l : List Int, upR l = true ↔ l.Pairwise (· ≤ ·)
  | [] => by simp [upR]
  | [a] => by simp [upR]
  | a :: b :: r => by
    simp only [upR, Bool.and_eq_true, decide_eq_true_eq]
    rw [upR_iff (b :: r), List.pairwise_cons (a := a)]
    constructor
    · rintro ⟨h1, h2⟩
      refine ⟨fun y hy => ?_, h2⟩
      rcases List.mem_cons.mp hy with e | e
      · omega
      · have := (List.pairwise_cons.mp h2).1 y e; omega
    · rintro ⟨h1, h2⟩
      exact ⟨h1 b (by simp), h2⟩
theorem dnR_iff : ∀ l : List Int, dnR l = true ↔ l.Pairwise (· ≥ ·)
  | [] => by simp [dnR]
  | [a] => by simp [dnR]
  | a :: b :: r => by
    simp only [dnR, Bool.and_eq_true, decide_eq_true_eq]
    rw [dnR_iff (b :: r), List.pairwise_cons (a := a)]
    constructor
    · rintro ⟨h1, h2⟩
      refine ⟨fun y hy => ?_, h2⟩
      rcases List.mem_cons.mp hy with e | e
      · omega
      · have := (List.pairwise_cons.mp h2).1 y e; omega
    · rintro ⟨h1, h2⟩
      exact ⟨h1 b (by simp), h2⟩
theorem ord_up (l : List Int) : l = ord l ↔ upR l = true := by
  rw [upR_iff]
  constructor
  · intro h; rw [h]; exact ord_ris l
  · intro h; exact sort_uniq (ord_perm l).symm h (ord_ris l)
theorem ord_dn (l : List Int) : l = (ord l).reverse ↔ dnR l = true := by
  rw [dnR_iff]
  constructor
  · intro h
    rw [h, List.pairwise_reverse]
    exact ord_ris l
  · intro h
    have h2 : l.reverse = ord l := sort_uniq ((List.reverse_perm l).trans (ord_perm l).symm) (List.pairwise_reverse.mpr h) (ord_ris l)
    rw [← h2, List.reverse_reverse]
theorem up_take : ∀ (n : Nat) (l : List Int), n < l.length → ((List.range n).all fun i => decide (l.getD i 0 ≤ l.getD (i + 1) 0)) = upR (l.take (n + 1))
  | 0, l, h => by
    cases l with
    | nil => rfl
    | cons a r => rfl
  | n + 1, l, h => by
    match l, h with
    | a :: b :: r, h =>
      have ih := up_take n (b :: r) (by simpa using h)
      rw [List.range_succ_eq_map, List.all_cons, List.all_map]
      show (decide (a ≤ b) && (List.range n).all fun i => decide ((b :: r).getD i 0 ≤ (b :: r).getD (i + 1) 0)) = upR (a :: b :: r.take n)
      rw [ih]
      rfl
    | [a], h => simp at h
    | [], h => simp at h
theorem dn_take : ∀ (n : Nat) (l : List Int), n < l.length → ((List.range n).all fun i => decide (l.getD i 0 ≥ l.getD (i + 1) 0)) = dnR (l.take (n + 1))
  | 0, l, h => by
    cases l with
    | nil => rfl
    | cons a r => rfl
  | n + 1, l, h => by
    match l, h with
    | a :: b :: r, h =>
      have ih := dn_take n (b :: r) (by simpa using h)
      rw [List.range_succ_eq_map, List.all_cons, List.all_map]
      show (decide (a ≥ b) && (List.range n).all fun i => decide ((b :: r).getD i 0 ≥ (b :: r).getD (i + 1) 0)) = dnR (a :: b :: r.take n)
      rw [ih]
      rfl
    | [a], h => simp at h
    | [], h => simp at h
/-- a stretch's steps all up, or all down -/
def evenB (row : List Int) (a b : Nat) : Bool := ((List.range (b - a)).all fun i => decide (row.getD (a + i) 0 ≤ row.getD (a + i + 1) 0)) || (List.range (b - a)).all fun i => decide (row.getD (a + i) 0 ≥ row.getD (a + i + 1) 0)
def partB (l : List Int) : Bool := decide (l = ord l) || decide (l = (ord l).reverse)
theorem getD_drop (row : List Int) (a i : Nat) : (row.drop a).getD i 0 = row.getD (a + i) 0 := by
  rw [List.getD_eq_getElem?_getD, List.getElem?_drop, ← List.getD_eq_getElem?_getD]
theorem evenB_eq (row : List Int) (a b : Nat) (hab : a ≤ b) (hb : b < row.length) : evenB row a b = partB ((row.drop a).take (b + 1 - a)) := by
  have hl : b - a < (row.drop a).length := by rw [List.length_drop]; omega
  have h1 := up_take (b - a) (row.drop a) hl
  have h2 := dn_take (b - a) (row.drop a) hl
  have e : b - a + 1 = b + 1 - a := by omega
  simp only [getD_drop] at h1 h2
  rw [e] at h1 h2
  unfold evenB partB
  show (((List.range (b - a)).all fun i => decide (row.getD (a + i) 0 ≤ row.getD (a + (i + 1)) 0)) || (List.range (b - a)).all fun i => decide (row.getD (a + i) 0 ≥ row.getD (a + (i + 1)) 0)) = _
  rw [h1, h2, Bool.eq_iff_iff]
  simp only [Bool.or_eq_true, decide_eq_true_eq, ord_up, ord_dn]
/-! ### the whole -/
def endsR (n : Nat) (cs : List Int) : List Int := [0] ++ cs ++ [(n : Int) - 1]
def eAt (es : List Int) (k : Nat) : Nat := (es.getD k 0).toNat
def evensB (row cs : List Int) : Bool := (List.range (cs.length + 1)).all fun k => evenB row (eAt (endsR row.length cs) k) (eAt (endsR row.length cs) (k + 1))
def partsB (row cs : List Int) : Bool := (List.range (cs.length + 1)).all fun k => partB ((row.drop (eAt (endsR row.length cs) k)).take (eAt (endsR row.length cs) (k + 1) + 1 - eAt (endsR row.length cs) k))
theorem ends_ok {row cs : List Int} (h : arePl row.length (-1) cs = true) (h0 : row ≠ []) {k : Nat} (hk : k < cs.length + 1) :
    0 ≤ (endsR row.length cs).getD k 0 ∧ (endsR row.length cs).getD k 0 ≤ (endsR row.length cs).getD (k + 1) 0 ∧ (endsR row.length cs).getD (k + 1) 0 < row.length := by
  obtain ⟨h1, h2⟩ := (arePl_iff _ _ _).mp h
  have hl : 0 < row.length := List.length_pos_iff.mpr h0
  have at' : ∀ j, j < cs.length → (endsR row.length cs).getD (j + 1) 0 = cs.getD j 0 := fun j hj => by
    unfold endsR
    rw [List.append_assoc, List.singleton_append, List.getD_cons_succ, List.getD_eq_getElem?_getD, List.getElem?_append_left hj, ← List.getD_eq_getElem?_getD]
  have last : (endsR row.length cs).getD (cs.length + 1) 0 = (row.length : Int) - 1 := by
    unfold endsR
    rw [List.append_assoc, List.singleton_append, List.getD_cons_succ, List.getD_eq_getElem?_getD, List.getElem?_append_right (Nat.le_refl _)]
    simp
  have mem : ∀ j, j < cs.length → cs.getD j 0 ∈ cs := fun j hj => by
    rw [List.getD_eq_getElem?_getD, List.getElem?_eq_getElem hj]
    exact List.getElem_mem hj
  have zero : (endsR row.length cs).getD 0 0 = 0 := rfl
  have ris : ∀ j, j + 1 < cs.length → cs.getD j 0 < cs.getD (j + 1) 0 := fun j hj => by
    have q := List.pairwise_iff_getElem.mp h2 j (j + 1) (by omega) hj (by omega)
    rw [List.getD_eq_getElem?_getD, List.getD_eq_getElem?_getD, List.getElem?_eq_getElem hj, List.getElem?_eq_getElem (by omega : j < cs.length)]
    exact q
  cases k with
  | zero =>
    rw [zero]
    by_cases hc : 0 < cs.length
    · rw [at' 0 hc]
      have := h1 _ (mem 0 hc)
      omega
    · have e : cs.length = 0 := by omega
      have l2 := last
      rw [e] at l2
      rw [l2]
      omega
  | succ k =>
    have hk' : k < cs.length := by omega
    rw [at' k hk']
    have m1 := h1 _ (mem k hk')
    by_cases hc : k + 1 < cs.length
    · rw [at' (k + 1) hc]
      have m2 := h1 _ (mem (k + 1) hc)
      have := ris k hc
      omega
    · have e : k + 1 = cs.length := by omega
      rw [e, last]
      omega
theorem parts_eq {row cs : List Int} (h : arePl row.length (-1) cs = true) (h0 : row ≠ []) : evensB row cs = partsB row cs := by
  have key : ∀ k, k < cs.length + 1 → evenB row (eAt (endsR row.length cs) k) (eAt (endsR row.length cs) (k + 1)) = partB ((row.drop (eAt (endsR row.length cs) k)).take (eAt (endsR row.length cs) (k + 1) + 1 - eAt (endsR row.length cs) k)) := fun k hk => by
    obtain ⟨q1, q2, q3⟩ := ends_ok h h0 hk
    refine evenB_eq row _ _ ?_ ?_
    · unfold eAt; omega
    · unfold eAt; omega
  unfold evensB partsB
  rw [Bool.eq_iff_iff, List.all_eq_true, List.all_eq_true]
  exact ⟨fun q k hk => by rw [← key k (List.mem_range.mp hk)]; exact q k hk, fun q k hk => by rw [key k (List.mem_range.mp hk)]; exact q k hk⟩
def numsAt (row ps : List Int) : List Int := ps.map fun p => row.getD p.toNat 0
def flatRow (row : List Int) : Bool := decide (row = []) || (minI row == maxI row)
def showsB (row : List Int) (z : Zz) : Bool :=
  arePl row.length (-1) z.ps && (arePl row.length (-1) z.cs && (turnsR (numsAt row z.ps) &&
    (if flatRow row then decide (z.ps.length = min 1 row.length) && decide (z.cs = []) else evensB row z.cs && decide (z.ps.length = z.cs.length + 2))))
def dueB (row : List Int) (z : Zz) : Bool :=
  lPl row.length z.ps && (lPl row.length z.cs && (lTurns (numsAt row z.ps) &&
    (if flatRow row then decide (z.ps.length = (row.take 1).length) && decide (z.cs = []) else partsB row z.cs && decide (z.ps.length = z.cs.length + 2))))
theorem due_eq (row : List Int) (z : Zz) : dueB row z = showsB row z := by
  unfold dueB showsB
  rw [lPl_eq, lPl_eq, lTurns_eq, List.length_take]
  cases h1 : arePl row.length (-1) z.cs with
  | false => simp
  | true =>
    by_cases hf : flatRow row = true
    · rw [if_pos hf, if_pos hf]
    · rw [if_neg hf, if_neg hf, parts_eq h1]
      intro h0
      apply hf
      unfold flatRow
      rw [decide_eq_true h0]; rfl
/-! ### cuts -/
open PySem L2 Evl
theorem cut_take {α : Type} (as : List α) (k : Nat) : cutL as none (some (k : Int)) = as.take k := by
  unfold cutL
  rw [HT.sIx_none, HT.sIx_nat, List.drop_zero, Nat.sub_zero]
  rcases Nat.le_total k as.length with h | h
  · rw [Nat.min_eq_left h]
  · rw [Nat.min_eq_right h, List.take_of_length_le h, List.take_of_length_le (Nat.le_refl _)]
theorem cut_drop {α : Type} (as : List α) (k : Nat) : cutL as (some (k : Int)) none = as.drop k := by
  unfold cutL
  rw [HT.sIx_none, HT.sIx_nat]
  rcases Nat.le_total k as.length with h | h
  · rw [Nat.min_eq_left h, List.take_of_length_le (by rw [List.length_drop]; exact Nat.le_refl _)]
  · rw [Nat.min_eq_right h, List.drop_of_length_le h, List.drop_of_length_le (Nat.le_refl _), List.take_nil]
theorem cut_ab {α : Type} (as : List α) (a b : Nat) (hb : b ≤ as.length) (hab : a ≤ b) : cutL as (some (a : Int)) (some (b : Int)) = (as.drop a).take (b - a) := by
  unfold cutL
  rw [HT.sIx_nat, HT.sIx_nat, Nat.min_eq_left hb, Nat.min_eq_left (Nat.le_trans hab hb)]
theorem cut_le {α : Type} (as : List α) (lo hi : Option Int) : (cutL as lo hi).length ≤ as.length := by
  unfold cutL
  rw [List.length_take, List.length_drop]
  omega
section
variable {K : PySem.W.Frag} {σ : L2.St} {H : Hp} {ta tb te : TE} {t u : TT} {D : Ends} {tu tz : TS}
theorem q_no (h : Et K t σ H false) (k : Gx K (tz D) σ H) : Gx K (tSeq (tIfS t tu tNext) tz D) σ H := q_when h (fun e => by cases e) fun _ => k
theorem g_no (h : Et K t σ H false) (k : Gx K D.nx σ H) : Gx K (tIfS t tu tNext D) σ H := g_if h (fun e => by cases e) fun _ => k
theorem et_orN (h1 : Et K t σ H false) (h2 : Et K u σ H false) : Et K (tOr t u) σ H false := et_or' h1 fun _ => h2
theorem et_nY (h1 : Er K te σ H true) : Et K (tNot (tB te)) σ H false := et_not' (et_v h1)
/-- two new lists in a list -/
theorem q_asg2L {i : Nat} {as bs : List Int} (h1 : ErF K ta σ H as) (h2 : ErF K tb σ H bs)
    (k : ∀ l a b H1, H a = none → H b = none → H l = none → l ≠ a → l ≠ b → a ≠ b → Ex H H1 → H1 a = some (.lst (as.map V.int)) → H1 b = some (.lst (bs.map V.int)) → H1 l = some (.lst [.ref a, .ref b]) → Gx K (tz D) (σ.set i (some (.ref l))) H1) :
    Gx K (tSeq (tAsg (tLst (tCons ta (tCons tb tNil))) (gName i)) tz D) σ H := fun H1 e =>
  h1 H1 e _ fun a H2 na e2 oa => h2 H2 (e.trans e2) _ fun b H3 nb e3 ob => ⟨sz_of (by show 2 ≤ 100000; decide), fun l nl => by
    have ha := own_int oa
    have hb := own_int ob
    have la : l ≠ a := fun z => by rw [z, e3 _ _ ha] at nl; cases nl
    have lb : l ≠ b := fun z => by rw [z, hb] at nl; cases nl
    have ab : a ≠ b := fun z => by rw [z] at ha; rw [ha] at nb; cases nb
    have el : Ex H3 (upd H3 l (.lst [.ref a, .ref b])) := Ex.new nl
    exact (k l a b _ (fresh_back e na) (fresh_back (e.trans e2) nb) (fresh_back ((e.trans e2).trans e3) nl) la lb ab (((e.trans e2).trans e3).trans el) (el _ _ (e3 _ _ ha)) (el _ _ hb) upd_same).here⟩
/-- append to a list that an expression tells -/
theorem q_appE {p : Addr} {as : List Int} {a : Int} (ho : H p = some (.lst (as.map V.int))) (hv : Ev te σ H (.ref p)) (h : Er K tb σ H a) (hz : as.length ≤ 90000) (k : ∀ H1, ExBut p H H1 → H1 p = some (.lst ((as ++ [a]).map V.int)) → Gx K (tz D) σ H1) :
    Gx K (tSeq (tDrop (tBM K "list" rAppend te (tCons tb tNil))) tz D) σ H := fun H1 e => hv H1 e _ fun H2 e2 => ⟨Or.inl ⟨rfl, _, sq_of ((e.trans e2) _ _ ho)⟩, er_i h H2 (e.trans e2) _ fun H3 e3 => by
  have e4 := (e.trans e2).trans e3
  refine ⟨p, _, _, rfl, rfl, e4 _ _ ho, sz_lt (by rw [List.length_map]; omega), (k _ (fun q o hq q0 => ?_) ?_).here⟩
  · rw [upd_ne hq]; exact e4 _ _ q0
  · rw [List.map_append]
    exact upd_same⟩
theorem ev_ix2 {i : Nat} {l a b : Addr} (hv : σ[i]? = some (some (.ref l))) (hl : H l = some (.lst [.ref a, .ref b])) : Ev (tOp (rIxL K) (tVar i) (tC (.int 0))) σ H (.ref a) ∧ Ev (tOp (rIxL K) (tVar i) (tC (.int 1))) σ H (.ref b) :=
  ⟨fun H1 e Q q => ⟨.ref l, hv, l, [.ref a, .ref b], 0, .ref a, rfl, rfl, sq_of (e _ _ hl), rfl, q H1 (Ex.refl _)⟩, fun H1 e Q q => ⟨.ref l, hv, l, [.ref a, .ref b], 1, .ref b, rfl, rfl, sq_of (e _ _ hl), rfl, q H1 (Ex.refl _)⟩⟩
theorem q_parL {i j : Nat} {P P' : List Int → Prop} (h1 : ErL K ta σ H P) (h2 : ErL K tb σ H P') (k : ∀ v as w bs H1, P as → P' bs → Ex H H1 → Rep.rep K H1 v (Lo.mk as) → Rep.rep K H1 w (Lo.mk bs) → Gx K (tz D) ((σ.set i (some v)).set j (some w)) H1) :
    Gx K (tSeq (tPar i j (tCons ta (tCons tb tNil))) tz D) σ H := fun H1 e =>
  h1 H1 e _ fun p as H2 pa n e2 ha => h2 H2 (e.trans e2) _ fun q bs H3 pb n3 e3 hb => ⟨.ref p, .ref q, rfl, (k _ as _ bs H3 pa pb ((e.trans e2).trans e3) ⟨p, rfl, e3 _ _ ha⟩ ⟨q, rfl, hb⟩).here⟩
end
end Rf
set_option Elab.async false
set_option linter.all false
set_option maxRecDepth 100000
set_option maxHeartbeats 4000000
/-! Sx3: enumerate of a text; an instance's class; shifts; reverse; is True. -/
namespace Rf
open PySem PySem.Spec PyProof.Rows L2 Evl
/-- a text's signs, each with its place in a new pair -/
def Itse (x : Str) : It := ⟨fun i _ => i < x.cps.size, fun i H v H' => ∃ T c, v = .ref T ∧ H T = none ∧ H' = upd H T (.tup [.int (i : Nat), .str (sgn c)]) ∧ x.cps[i]? = some c, fun i _ => x.cps.size ≤ i⟩
theorem drawsS {P : Program} {w : World} {A : Around} (hh : A.handled = none) (it : Addr) (x : Str) (t : Tok) :
    Draws P w A it [it] x.cps.size (fun i v => ∃ c u, x.cps[i]? = some c ∧ v = .str ⟨#[c]⟩ u) (fun i h => h.IsStrIter it (strIterType x) x t i) := by
  unfold strIterType
  split
  · exact Draws.strAscii hh it x t
  · exact Draws.strWide hh it x t
theorem turn_enumS {P : Program} {w : World} {K : PySem.W.Frag} {elts : List Expr} {kk : Nat} {tpos : Pos} (x : Str) (t : Tok) (e it : Addr) :
    Turn P w K (.Tuple elts kk tpos) (Itse x) [e, it] e (fun i h => (∃ old, IsEnum h e it ((i : Nat) : Int) old) ∧ h.IsStrIter it (strIterType x) x t i ∧ e ≠ it ∧ i ≤ x.cps.size) where
  mem := by simp
  obj := fun i h st b hb => by
    obtain ⟨⟨old, he⟩, ⟨o, ho, hc, hd⟩, _⟩ := st
    have two : b = e ∨ b = it := by simpa using hb
    rcases two with z | z
    · rw [z]; exact ⟨_, he, fun v q => nomatch q⟩
    · rw [z]; exact ⟨o, ho, fun v q => by rw [hd] at q; cases q⟩
  keep := fun i h h' st k => by
    obtain ⟨⟨old, he⟩, ⟨o, ho, r⟩, hne, hi⟩ := st
    exact ⟨⟨old, k e (by simp) _ he⟩, ⟨o, k it (by simp) _ ho, r⟩, hne, hi⟩
  item := by
    intro X hP hw hK hc i pins s σ H E I hf st hg
    subst hP hw hK
    obtain ⟨⟨old, he⟩, hit, hne, hi⟩ := st
    have lt1 : e < s.heap.objs.size := Heap.lt_size he
    have lt2 : it < s.heap.objs.size := by obtain ⟨_, q, _⟩ := hit; exact Heap.lt_size q
    have hh1 : X.A.in1.handled = none := by simp [I.ok.hd hc]
    refine wpAny_pyNext_enum_itemD (drawsS hh1 it x t) he hit hg hne (by simpa using hne) fun v h' tk hv ho hit' hT hsz hk => ?_
    obtain ⟨c, u, hcx, rfl⟩ := hv
    refine ⟨_, rfl, wpAny_letOwnedTupleGo_enum (s := { s with heap := h', toks := tk + 1 }) ho fun h'' he' sb => ?_⟩
    have hT2 : h''.get? s.heap.objs.size = some { cls := .type "tuple", data := .seq #[.int i tk, .str ⟨#[c]⟩ u] } := (sb.2 _ (Nat.ne_of_gt lt1)).trans hT
    have new : ObjOk X.prog X.w (upd H s.heap.objs.size (.tup [.int (i : Nat), .str (sgn c)])) h'' s.heap.objs.size (.tup [.int (i : Nat), .str (sgn c)]) :=
      ⟨by show 2 ≤ sizeLine; decide, [.int i tk, .str ⟨#[c]⟩ u], .cons ⟨_, rfl⟩ (.cons ⟨u, rfl⟩ .nil), ⟨_, hT2, rfl, _, rfl⟩⟩
    have I1 : Inv X pins σ (upd H s.heap.objs.size (.tup [.int (i : Nat), .str (sgn c)])) { s with heap := h'', toks := tk + 1 } :=
      I.turnedNew (ch := [e, it]) (fun b ob hb q => (sb.2 b (fun z => hb (by simp [z]))).trans (hk b ob (fun z => hb (by simp [z])) (fun z => hb (by simp [z])) q)) hf (Nat.le_refl _) new
    refine ⟨.ref s.heap.objs.size, _, I1, rfl, ⟨_, c, rfl, I.hok.fresh (Nat.le_refl _), rfl, hcx⟩, ⟨⟨.str ⟨#[c]⟩ u, ?_⟩, ?_, hne, hg⟩, fun b hb => ?_⟩
    · rw [show ((i + 1 : Nat) : Int) = (i : Int) + 1 by omega]
      exact he'
    · obtain ⟨o, q1, q2⟩ := hit'
      exact ⟨o, (sb.2 it (Ne.symm hne)).trans q1, q2⟩
    · have two : b = e ∨ b = it := by simpa using hb
      have ltb : b < s.heap.objs.size := by
        rcases two with z | z
        · rw [z]; exact lt1
        · rw [z]; exact lt2
      rw [upd_ne (Nat.ne_of_lt ltb)]
      exact (hf b hb).1
  done := by
    intro X hP hw hK hc i pins s σ H E I hf st hg
    subst hP hw hK
    obtain ⟨⟨old, he⟩, hit, hne, hi⟩ := st
    obtain ⟨f0, f1, f2, f3, f4, f5⟩ := hf it (by simp)
    have ei : i = x.cps.size := Nat.le_antisymm hi hg
    have hh1 : X.A.in1.handled = none := by simp [I.ok.hd hc]
    rw [ei] at hit
    exact wpAny_pyNext_enum_endD (drawsS hh1 it x t) he hit fun h' eb => ⟨rfl, I.turned (t' := s.toks) (fun b o hb q => eb b o hb q) f0 f1 f3 f4 f5⟩
  self := fun A i s Q E st h => let ⟨⟨_, he⟩, _⟩ := st; wpAny_pyIter_enum he h
def iEnumS (ta : TE) : TI := fun σ H R => ta σ H fun v H1 => ∃ x, v = .str x ∧ R (Itse x) H1
theorem pi_enumS {X : Cx} {e : Expr} {ta : TE} {p pos tpos : Pos} {elts : List Expr} {kk : Nat} (hg : Gl X "enumerate") (hm : X.mg "enumerate" = none) (ha : PE X e ta) (hs : starEach [e] X.env = (false, eval e X.env) :: starEach [] X.env := by rfl) :
    PI X (.Tuple elts kk tpos) (.Call (.Name "enumerate" p) [e] [] pos) (iEnumS ta) := by
  refine ⟨fun pins s σ H R I h => ?_⟩
  refine Call_ (ld_blt I hg hm boot_enumerate (PyProof.Rows.callWith_type1 (PyProof.Rows.args_cons (thn (ha.run pins s σ H _ I h) fun v s1 ⟨y, H1, I1, r1, q1⟩ => PyProof.Rows.args_nil ?_) hs) hs rfl))
  obtain ⟨x, ex, q⟩ := q1
  subst ex
  obtain ⟨t, rfl⟩ := r1
  refine call_enumerate_str fun h' he hit hsz hk => wpAny_pyIter_enum he ?_
  have I2 : Inv X pins σ H1 { s1 with heap := h' } := I1.kept (t' := s1.toks) hk
  refine ⟨s1.heap.objs.size + 1, [s1.heap.objs.size + 1, s1.heap.objs.size], _, _, H1, rfl, I2, turn_enumS x t (s1.heap.objs.size + 1) s1.heap.objs.size, ⟨⟨.none, he⟩, hit, Nat.succ_ne_self _, Nat.zero_le _⟩, fun b hb => ?_, q⟩
  have two : b = s1.heap.objs.size + 1 ∨ b = s1.heap.objs.size := by simpa using hb
  have hle : s1.heap.objs.size ≤ b := by
    rcases two with z | z
    · rw [z]; exact Nat.le_add_right _ _
    · rw [z]; exact Nat.le_refl _
  exact I1.fpOk hle (I1.hok.fresh hle)
section
variable {α β γ δ : Type} [Rep α] [Rep β] [Rep γ] [Rep δ] {K : PySem.W.Frag} {σ : L2.St} {H H' : Hp} {ta tb tc te tl : TE} {t u tt : TT} {X : Cx} {D : Ends} {tu tw tz : TS}
theorem for_enumS {x : Str} {g : TG} {tb : TS} (Pv : Nat → L2.St → Hp → Prop) (h0 : Pv 0 σ H)
    (hs : ∀ i c T σ H, x.cps[i]? = some c → Pv i σ H → H T = none → g (.ref T) σ (upd H T (.tup [.int (i : Nat), .str (sgn c)])) fun σ2 H2 => tb { D with nx := Pv (i + 1), ct := Pv (i + 1), bk := D.nx } σ2 H2) (hd : ∀ σ H, Pv x.cps.size σ H → D.nx σ H) :
    ∃ W : Nat → Nat → L2.St → Hp → Prop, (∃ m, W 0 m σ H) ∧ ∀ i m σ H, W i m σ H →
      ((Itse x).stop i H ∧ D.nx σ H) ∨ ((Itse x).go i H ∧ ∃ N : L2.St → Hp → Prop, (∀ σ' H', N σ' H' → ∃ m', m' < m ∧ W (i + 1) m' σ' H') ∧ ∀ v H', (Itse x).yld i H v H' → g v σ H' fun σ2 H2 => tb { D with nx := N, ct := N, bk := D.nx } σ2 H2) := by
  refine ⟨fun i m σ H => m = x.cps.size - i ∧ i ≤ x.cps.size ∧ Pv i σ H, ⟨x.cps.size, by simp, Nat.zero_le _, h0⟩, ?_⟩
  rintro i m σ H ⟨rfl, hi, p⟩
  by_cases hlt : i < x.cps.size
  · refine .inr ⟨hlt, Pv (i + 1), fun σ' H' p' => ⟨x.cps.size - (i + 1), by omega, rfl, hlt, p'⟩, fun v H' y => ?_⟩
    obtain ⟨T, c, rfl, hT, rfl, hx⟩ := y
    exact hs i c T σ H hx p hT
  · have e : i = x.cps.size := by omega
    subst e
    exact .inl ⟨Nat.le_refl _, hd σ H p⟩
theorem q_forES {j1 j2 : Nat} {x : Str} (h : ∀ H1, Ex H H1 → ∀ Q : VK, (∀ H2, Ex H1 H2 → Q (.str x) H2) → tl σ H1 Q) (Inv : Nat → L2.St → Hp → Prop) (h0 : ∀ H1, Ex H H1 → Inv 0 σ H1) (hU : ∀ i σ' H' H'', Inv i σ' H' → Ex H' H'' → Inv i σ' H'')
    (hs : ∀ (i c : Nat) σ' H', x.cps[i]? = some c → Inv i σ' H' → Gx K (tu { D with nx := Inv (i + 1), ct := Inv (i + 1), bk := tz D }) ((σ'.set j1 (some (.int (i : Nat)))).set j2 (some (.str (sgn c)))) H') (hd : ∀ σ' H', Inv x.cps.size σ' H' → Gx K (tz D) σ' H') :
    Gx K (tSeq (tFor (iEnumS tl) (gTwo K j1 j2) tu) tz D) σ H := fun H1 e => h H1 e _ fun H2 e2 => ⟨x, rfl, for_enumS (D := { D with nx := tz D }) Inv (h0 H2 (e.trans e2)) (fun i c T σ' H' hc iv hT =>
  gTwo_run (st_of upd_same) ((hs i c σ' _ hc (hU i σ' H' _ iv (Ex.new hT))).here)) fun σ' H' iv => (hd σ' H' iv).here⟩
/-! ### shifts -/
def rShlI : R2 := fun x y H Q => ∃ k : Nat, x = V.int 1 ∧ y = V.int (k : Int) ∧ k ≤ 134217727 ∧ Q (.int (2 ^ k)) H
theorem oShlI : OpR X (binaryOp .LShift) rShlI := op_oneShl
theorem er_shl {k : Nat} (ha : Er K ta σ H (1 : Int)) (hb : Er K tb σ H (k : Int)) (hk : k ≤ 100000) : Er K (tOp rShlI ta tb) σ H ((2 ^ k : Nat) : Int) := er_two ha hb fun x y H1 _ rx ry Q q => by
  obtain rfl : x = .int 1 := rx
  obtain rfl : y = .int (k : Int) := ry
  exact ⟨k, rfl, rfl, by omega, q _ H1 (Ex.refl _) (by show V.int (2 ^ k) = V.int ((2 ^ k : Nat) : Int); rw [Int.natCast_pow]; rfl)⟩
def rShrI : R2 := fun x y H Q => ∃ (i : Int) (k : Nat), x = V.int i ∧ y = V.int (k : Int) ∧ Q (.int (i / 2 ^ k)) H
theorem oShrI : OpR X (binaryOp .RShift) rShrI := op_shrN
theorem er_shr {c k : Nat} (ha : Er K ta σ H (c : Int)) (hb : Er K tb σ H (k : Int)) : Er K (tOp rShrI ta tb) σ H ((c / 2 ^ k : Nat) : Int) := er_two ha hb fun x y H1 _ rx ry Q q => by
  obtain rfl : x = .int (c : Int) := rx
  obtain rfl : y = .int (k : Int) := ry
  exact ⟨c, k, rfl, rfl, q _ H1 (Ex.refl _) (by show V.int ((c : Int) / 2 ^ k) = V.int ((c / 2 ^ k : Nat) : Int); rw [Int.natCast_ediv, Int.natCast_pow]; rfl)⟩
def rAndI : R2 := fun x y H Q => ∃ n : Nat, x = V.int (n : Int) ∧ y = V.int 1 ∧ Q (.int ((n % 2 : Nat) : Int)) H
theorem oAndI : OpR X (binaryOp .BitAnd) rAndI := op_odd
theorem er_odd {c : Nat} (ha : Er K ta σ H (c : Int)) (hb : Er K tb σ H (1 : Int)) : Er K (tOp rAndI ta tb) σ H ((c % 2 : Nat) : Int) := er_two ha hb fun x y H1 _ rx ry Q q => by
  obtain rfl : x = .int (c : Int) := rx
  obtain rfl : y = .int 1 := ry
  exact ⟨c, rfl, rfl, q _ H1 (Ex.refl _) rfl⟩
/-! ### is True, is not True -/
theorem er_notB {a b : Bool} (ha : Er K ta σ H a) (hb : Er K tb σ H b) : Er K (tOp rNotB ta tb) σ H (!decide (a = b)) := er_two ha hb fun x y H1 _ rx ry Q q => by
  obtain rfl : x = .bl a := rx
  obtain rfl : y = .bl b := ry
  exact ⟨a, b, rfl, rfl, q _ H1 (Ex.refl _) rfl⟩
/-- xs.reverse() -/
theorem q_reverse {i : Nat} {p : Addr} {as : List Int} (ho : H p = some (.lst (as.map V.int))) (hv : σ[i]? = some (some (.ref p))) (k : ∀ H1, ExBut p H H1 → H1 p = some (.lst (as.reverse.map V.int)) → Gx K (tz D) σ H1) :
    Gx K (tSeq (tDrop (tBM0 K "list" rReverse (tVar i))) tz D) σ H := fun H1 e => ⟨.ref p, hv, Or.inl ⟨rfl, _, sq_of (e _ _ ho)⟩, p, _, rfl, rfl, e _ _ ho, (k _ (fun q o hq q0 => by rw [upd_ne hq]; exact e _ _ q0) (by rw [List.map_reverse]; exact upd_same)).here⟩
end
end Rf
set_option Elab.async false
set_option linter.all false
set_option maxRecDepth 100000
set_option maxHeartbeats 4000000
namespace Rf
/-! Zq: the longest zigzag, found from the left, the last place first. Plain lists. -/
section
variable (v : Nat → Int)
def zzS (rs : List Nat) (i : Nat) : List Nat := match rs with
  | [] => [i]
  | p :: r => if v i = v p then p :: r else match r with
    | [] => [i, p]
    | q :: r' => if decide (v p < v i) = decide (v q < v p) then i :: q :: r' else i :: p :: q :: r'
def zzR : Nat → List Nat
  | 0 => []
  | i + 1 => zzS v (zzR i) i
end
/-! ### by turns, the last first -/
def revT : List Int → Bool
  | c :: b :: a :: r => (b != c) && (decide (a < b) != decide (b < c)) && revT (b :: a :: r)
  | [b, a] => a != b
  | _ => true
theorem turns_snoc : ∀ (l : List Int) (a b c : Int), turnsR (l ++ [a, b, c]) = ((b != c) && (decide (a < b) != decide (b < c)) && turnsR (l ++ [a, b]))
  | [], a, b, c => by
    show ((a != b) && (decide (a < b) != decide (b < c)) && (b != c)) = ((b != c) && (decide (a < b) != decide (b < c)) && (a != b))
    cases (a != b) <;> cases (b != c) <;> cases (decide (a < b) != decide (b < c)) <;> rfl
  | [x], a, b, c => by
    show ((x != a) && (decide (x < a) != decide (a < b)) && ((a != b) && (decide (a < b) != decide (b < c)) && (b != c))) = ((b != c) && (decide (a < b) != decide (b < c)) && ((x != a) && (decide (x < a) != decide (a < b)) && (a != b)))
    cases (x != a) <;> cases (a != b) <;> cases (b != c) <;> cases (decide (a < b) != decide (b < c)) <;> cases (decide (x < a) != decide (a < b)) <;> rfl
  | [x, y], a, b, c => by
    have ih := turns_snoc [y] a b c
    show ((x != y) && (decide (x < y) != decide (y < a)) && turnsR ([y] ++ [a, b, c])) = ((b != c) && (decide (a < b) != decide (b < c)) && ((x != y) && (decide (x < y) != decide (y < a)) && turnsR ([y] ++ [a, b])))
    rw [ih]
    cases (x != y) <;> cases (decide (x < y) != decide (y < a)) <;> cases (b != c) <;> cases (decide (a < b) != decide (b < c)) <;> cases turnsR ([y] ++ [a, b]) <;> rfl
  | x :: y :: z :: l, a, b, c => by
    have ih := turns_snoc (y :: z :: l) a b c
    show ((x != y) && (decide (x < y) != decide (y < z)) && turnsR (y :: z :: l ++ [a, b, c])) = ((b != c) && (decide (a < b) != decide (b < c)) && ((x != y) && (decide (x < y) != decide (y < z)) && turnsR (y :: z :: l ++ [a, b])))
    rw [ih]
    cases (x != y) <;> cases (decide (x < y) != decide (y < z)) <;> cases (b != c) <;> cases (decide (a < b) != decide (b < c)) <;> cases turnsR (y :: z :: l ++ [a, b]) <;> rfl
theorem revT_eq : ∀ l : List Int, turnsR l.reverse = revT l
  | [] => rfl
  | [a] => rfl
  | [b, a] => rfl
  | c :: b :: a :: r => by
    have ih := revT_eq (b :: a :: r)
    have e1 : (c :: b :: a :: r).reverse = r.reverse ++ [a, b, c] := by simp
    have e2 : (b :: a :: r).reverse = r.reverse ++ [a, b] := by simp
    rw [e1, turns_snoc, ← e2, ih]
    rfl
/-! ### none is longer -/
def ltd (d : Bool) (a b : Int) : Prop := if d then a < b else b < a
theorem ltd_t (a b : Int) : ltd true a b ↔ a < b := by simp [ltd]
theorem ltd_f (a b : Int) : ltd false a b ↔ b < a := by simp [ltd]
theorem ltd_ne {d : Bool} {a b : Int} (h : ltd d a b) : a ≠ b := by cases d <;> simp only [ltd_t, ltd_f] at h <;> omega
theorem ltd_tri (d : Bool) (a b : Int) : ltd d a b ∨ a = b ∨ ltd (!d) a b := by cases d <;> simp only [ltd_t, ltd_f, Bool.not_true, Bool.not_false] <;> omega
theorem ltd_not {d : Bool} {a b : Int} (h : ltd d a b) : ¬ ltd (!d) a b := by cases d <;> simp only [ltd_t, ltd_f, Bool.not_true, Bool.not_false] at * <;> omega
/-- which way the last step goes: a single number goes both ways -/
def Eds (d : Bool) : List Int → Prop
  | y :: z :: _ => ltd d z y
  | _ => True
theorem eds_or (d : Bool) {L : List Int} (h : revT L = true) : Eds d L ∨ Eds (!d) L := by
  match L, h with
  | [], _ => exact .inl trivial
  | [y], _ => exact .inl trivial
  | y :: z :: r, h =>
    have hne : z ≠ y := by
      cases r with
      | nil => simpa [revT] using h
      | cons a r => simp [revT] at h; exact h.1.1
    rcases ltd_tri d z y with q | q | q
    · exact .inl q
    · exact absurd q hne
    · exact .inr q
theorem revT_tail {x : Int} {L : List Int} (h : revT (x :: L) = true) : revT L = true := by
  match L, h with
  | [], _ => rfl
  | [y], _ => rfl
  | y :: z :: r, h => simp [revT] at h; exact h.2
/-- a step in a direction comes behind a step in the other -/
theorem eds_tail {d : Bool} {x y : Int} {L : List Int} (h : revT (x :: y :: L) = true) (e : ltd d y x) : Eds (!d) (y :: L) := by
  match L, h with
  | [], _ => exact trivial
  | z :: r, h =>
    simp only [revT, Bool.and_eq_true, bne_iff_ne, ne_eq] at h
    obtain ⟨⟨h1, h2⟩, h3⟩ := h
    have hne : z ≠ y := by
      cases r with
      | nil => simpa [revT] using h3
      | cons a r => simp [revT] at h3; exact h3.1.1
    show ltd (!d) z y
    cases d
    · rw [ltd_f] at e
      rw [Bool.not_false, ltd_t]
      by_cases c : z < y
      · exact c
      · exact absurd (by rw [decide_eq_false c, decide_eq_false (by omega : ¬ y < x)]) h2
    · rw [ltd_t] at e
      rw [Bool.not_true, ltd_f]
      by_cases c : z < y
      · exact absurd (by rw [decide_eq_true c, decide_eq_true e]) h2
      · omega
/-- of all zigzags in a row (the last first): at most m long; those that end the other way less; those that end this way and are nearly as long end at most at M -/
structure UB (d : Bool) (m : Nat) (M : Int) (A : List Int) : Prop where
  all : ∀ L, L.Sublist A → revT L = true → L.length ≤ m
  other : ∀ L, L.Sublist A → revT L = true → Eds (!d) L → L.length + 1 ≤ m
  top : ∀ y L, (y :: L).Sublist A → revT (y :: L) = true → Eds d (y :: L) → m ≤ (y :: L).length + 1 → ¬ ltd d M y
theorem UB.on {d : Bool} {m : Nat} {M x : Int} {A : List Int} (u : UB d m M A) (h2 : 2 ≤ m) (hx : ¬ ltd (!d) M x) : UB d m x (x :: A) := by
  have mx : ∀ y, ¬ ltd d M y → ¬ ltd d x y := fun y h => by cases d <;> simp only [ltd_t, ltd_f, Bool.not_true, Bool.not_false] at * <;> omega
  have oth : ∀ L, L.Sublist (x :: A) → revT L = true → Eds (!d) L → L.length + 1 ≤ m := fun L hs hr he => by
    rcases List.sublist_cons_iff.mp hs with q | ⟨L0, rfl, q⟩
    · exact u.other L q hr he
    · match L0, q, hr, he with
      | [], _, _, _ => simp; omega
      | y :: r, q, hr, he =>
        have he' : ltd (!d) y x := he
        have q1 := eds_tail hr he'
        rw [Bool.not_not] at q1
        have q2 := u.top y r q (revT_tail hr) q1
        have q3 : ltd d M y := by cases d <;> simp only [ltd_t, ltd_f, Bool.not_true, Bool.not_false] at * <;> omega
        have q4 : ¬ m ≤ (y :: r).length + 1 := fun h => q2 h q3
        simp only [List.length_cons] at q4 ⊢
        omega
  refine ⟨fun L hs hr => ?_, oth, fun y L hs hr he hm => ?_⟩
  · rcases eds_or d hr with e | e
    · rcases List.sublist_cons_iff.mp hs with q | ⟨L0, rfl, q⟩
      · exact u.all L q hr
      · match L0, q, hr, e with
        | [], _, _, _ => simp; omega
        | y :: r, q, hr, e =>
          have e' : ltd d y x := e
          have q2 := u.other (y :: r) q (revT_tail hr) (eds_tail hr e')
          simp only [List.length_cons] at q2 ⊢
          omega
    · have := oth L hs hr e; omega
  · rcases List.sublist_cons_iff.mp hs with q | ⟨L0, q0, q⟩
    · exact mx y (u.top y L q hr he hm)
    · cases q0
      cases d <;> simp only [ltd_t, ltd_f] <;> omega
theorem UB.turn {d : Bool} {m : Nat} {M x : Int} {A : List Int} (u : UB d m M A) (h2 : 2 ≤ m) (hx : ltd (!d) M x) : UB (!d) (m + 1) x (x :: A) := by
  have oth : ∀ L, L.Sublist (x :: A) → revT L = true → Eds d L → L.length + 1 ≤ m + 1 := fun L hs hr he => by
    rcases List.sublist_cons_iff.mp hs with q | ⟨L0, rfl, q⟩
    · have := u.all L q hr; omega
    · match L0, q, hr, he with
      | [], _, _, _ => simp; omega
      | y :: r, q, hr, he =>
        have e' : ltd d y x := he
        have q2 := u.other (y :: r) q (revT_tail hr) (eds_tail hr e')
        simp only [List.length_cons] at q2 ⊢
        omega
  refine ⟨fun L hs hr => ?_, fun L hs hr he => by rw [Bool.not_not] at he; exact oth L hs hr he, fun y L hs hr he hm => ?_⟩
  · rcases List.sublist_cons_iff.mp hs with q | ⟨L0, rfl, q⟩
    · have := u.all L q hr; omega
    · have := u.all L0 q (revT_tail hr)
      simp only [List.length_cons]
      omega
  · rcases List.sublist_cons_iff.mp hs with q | ⟨L0, q0, q⟩
    · have := u.other (y :: L) q hr he
      omega
    · cases q0
      cases d <;> simp only [ltd_t, ltd_f, Bool.not_true, Bool.not_false] <;> omega
/-- the first number that is another -/
theorem UB.first {d : Bool} {c x : Int} {A : List Int} (hA : ∀ y ∈ A, y = c) (hx : ltd d c x) : UB d 2 x (x :: A) := by
  have one : ∀ L, L.Sublist A → revT L = true → L.length ≤ 1 := fun L hs hr => by
    match L, hs, hr with
    | [], _, _ => simp
    | [y], _, _ => simp
    | y :: z :: r, hs, hr =>
      have h1 := hA y (hs.subset (by simp))
      have h2 := hA z (hs.subset (by simp))
      have hne : z ≠ y := by
        cases r with
        | nil => simpa [revT] using hr
        | cons a r => simp [revT] at hr; exact hr.1.1
      omega
  refine ⟨fun L hs hr => ?_, fun L hs hr he => ?_, fun y L hs hr he _ => ?_⟩
  · rcases List.sublist_cons_iff.mp hs with q | ⟨L0, rfl, q⟩
    · have := one L q hr; omega
    · have := one L0 q (revT_tail hr); simp only [List.length_cons]; omega
  · rcases List.sublist_cons_iff.mp hs with q | ⟨L0, rfl, q⟩
    · have := one L q hr; omega
    · match L0, q, hr, he with
      | [], _, _, _ => simp
      | y :: r, q, hr, he =>
        have he' : ltd (!d) y x := he
        rw [hA y (q.subset (by simp))] at he'
        exact absurd he' (ltd_not hx)
  · rcases List.sublist_cons_iff.mp hs with q | ⟨L0, q0, q⟩
    · rw [hA y (q.subset (by simp))]
      cases d <;> simp only [ltd_t, ltd_f] at * <;> omega
    · cases q0
      cases d <;> simp only [ltd_t, ltd_f] <;> omega
/-! ### stretches -/
def monoS (d : Bool) (v : Nat → Int) (a b : Nat) : Prop := ∀ k, a ≤ k → k < b → ¬ ltd d (v (k + 1)) (v k)
def stretch (v : Nat → Int) : List Nat → Prop
  | p :: q :: r => (∃ d, monoS d v q p) ∧ stretch v (q :: r)
  | _ => True
theorem monoS.cut {d : Bool} {v : Nat → Int} {a b c : Nat} (h : monoS d v a b) (hc : c ≤ b) : monoS d v a c := fun k h1 h2 => h k h1 (by omega)
/-- how it stands before place i -/
inductive ZI (v : Nat → Int) (i : Nat) (A : List Int) : List Nat → Prop
  | none : i = 0 → A = [] → ZI v i A []
  | one : 0 < i → (∀ k, k < i → v k = v 0) → (∀ y ∈ A, y = v 0) → ZI v i A [0]
  | more {p q : Nat} {r : List Nat} (d : Bool) : p < i → q < p → ltd d (v q) (v p) → (∀ k, p ≤ k → k < i → v k = v p) → monoS d v q (i - 1) → stretch v (q :: r) → (p :: q :: r).Pairwise (· > ·) → (p :: q :: r).getLast? = some 0 →
      revT ((p :: q :: r).map v) = true → UB d (p :: q :: r).length (v p) A → ZI v i A (p :: q :: r)
theorem dir_eq {d : Bool} {a b c : Int} (h1 : ltd d a b) (h2 : b ≠ c) : (decide (b < c) = decide (a < b)) ↔ ltd d b c := by
  cases d
  · rw [ltd_f] at *
    rw [decide_eq_false (by omega : ¬ a < b), decide_eq_false_iff_not]
    omega
  · rw [ltd_t] at *
    rw [decide_eq_true h1, decide_eq_true_iff]
theorem zi_step {v : Nat → Int} {i : Nat} {A : List Int} {rs : List Nat} (h : ZI v i A rs) : ZI v (i + 1) (v i :: A) (zzS v rs i) := by
  cases h with
  | none h0 hA =>
    subst h0 hA
    refine .one (by omega) (fun k hk => ?_) (fun y hy => ?_)
    · rw [show k = 0 by omega]
    · simpa using hy
  | one h0 hv hA =>
    show ZI v (i + 1) (v i :: A) (if v i = v 0 then [0] else [i, 0])
    by_cases e : v i = v 0
    · rw [if_pos e]
      refine .one (by omega) (fun k hk => ?_) (fun y hy => ?_)
      · by_cases c : k = i
        · rw [c, e]
        · exact hv k (by omega)
      · rcases List.mem_cons.mp hy with q | q
        · rw [q, e]
        · exact hA y q
    · rw [if_neg e]
      obtain ⟨d, hd⟩ : ∃ d, ltd d (v 0) (v i) := by
        rcases ltd_tri true (v 0) (v i) with q | q | q
        · exact ⟨_, q⟩
        · exact absurd q.symm e
        · exact ⟨_, q⟩
      refine .more d (by omega) h0 hd (fun k h1 h2 => by rw [show k = i by omega]) (fun k h1 h2 => ?_) trivial ?_ (by simp) ?_ (UB.first hA hd)
      · have h3 : k < i := by omega
        by_cases c : k + 1 = i
        · rw [c, hv k h3]
          cases d <;> simp only [ltd_t, ltd_f] at * <;> omega
        · rw [hv k h3, hv (k + 1) (by omega)]
          cases d <;> simp only [ltd_t, ltd_f] <;> omega
      · simp; omega
      · simp [revT]; exact fun z => e z.symm
  | @more p q r d h1 h2 h3 h4 h5 h6 h7 h8 h9 h10 =>
    show ZI v (i + 1) (v i :: A) (if v i = v p then p :: q :: r else if decide (v p < v i) = decide (v q < v p) then i :: q :: r else i :: p :: q :: r)
    have hl : 2 ≤ (p :: q :: r).length := by simp
    have step : ¬ ltd (!d) (v p) (v i) → monoS d v q i := fun hn k k1 k2 => by
      by_cases c : k + 1 = i
      · rw [c, h4 k (by omega) (by omega)]
        cases d <;> simp only [ltd_t, ltd_f, Bool.not_true, Bool.not_false] at * <;> omega
      · exact h5 k k1 (by omega)
    by_cases e : v i = v p
    · rw [if_pos e]
      have hn : ¬ ltd (!d) (v p) (v i) := fun z => ltd_ne z e.symm
      have u := h10.on hl hn
      rw [e] at u ⊢
      refine .more d (by omega) h2 h3 (fun k k1 k2 => ?_) (step hn) h6 h7 h8 h9 u
      by_cases c : k = i
      · rw [c, e]
      · exact h4 k k1 (by omega)
    · rw [if_neg e]
      by_cases c : decide (v p < v i) = decide (v q < v p)
      · rw [if_pos c]
        have hd : ltd d (v p) (v i) := (dir_eq h3 (fun z => e z.symm)).mp c
        have hn := ltd_not hd
        have hqi : ltd d (v q) (v i) := by cases d <;> simp only [ltd_t, ltd_f] at * <;> omega
        obtain ⟨g1, g2⟩ := List.pairwise_cons.mp h7
        refine .more d (by omega) (by omega) hqi (fun k k1 k2 => by rw [show k = i by omega]) (step hn) h6 (List.pairwise_cons.mpr ⟨fun y hy => by have := g1 y hy; omega, g2⟩) ?_ ?_ (h10.on hl hn)
        · rw [List.getLast?_cons_cons] at h8 ⊢
          exact h8
        · cases r with
          | nil =>
            simp [revT]
            exact ltd_ne hqi
          | cons a r =>
            simp only [List.map_cons, revT, Bool.and_eq_true, bne_iff_ne, ne_eq] at h9 ⊢
            refine ⟨⟨ltd_ne hqi, fun z => h9.1.2 (z.trans ?_)⟩, h9.2⟩
            rw [decide_eq_decide]
            cases d <;> simp only [ltd_t, ltd_f] at * <;> omega
      · rw [if_neg c]
        have hd : ltd (!d) (v p) (v i) := by
          rcases ltd_tri d (v p) (v i) with q' | q' | q'
          · exact absurd ((dir_eq h3 (fun z => e z.symm)).mpr q') c
          · exact absurd q'.symm e
          · exact q'
        obtain ⟨g1, g2⟩ := List.pairwise_cons.mp h7
        refine .more (!d) (by omega) h1 hd (fun k k1 k2 => by rw [show k = i by omega]) (fun k k1 k2 => ?_) ⟨⟨d, h5.cut (by omega)⟩, h6⟩ (List.pairwise_cons.mpr ⟨fun y hy => ?_, h7⟩) ?_ ?_ (h10.turn hl hd)
        · by_cases c2 : k + 1 = i
          · rw [c2, h4 k k1 (by omega)]
            cases d <;> simp only [ltd_t, ltd_f, Bool.not_true, Bool.not_false] at * <;> omega
          · rw [h4 k k1 (by omega), h4 (k + 1) (by omega) (by omega)]
            cases d <;> simp only [ltd_t, ltd_f, Bool.not_true, Bool.not_false] <;> omega
        · rcases List.mem_cons.mp hy with z | z
          · omega
          · have := g1 y z; omega
        · rw [List.getLast?_cons_cons]
          exact h8
        · simp only [List.map_cons, revT, Bool.and_eq_true, bne_iff_ne, ne_eq]
          refine ⟨⟨ltd_ne hd, fun z => c z.symm⟩, h9⟩
theorem zi_all (row : List Int) : ∀ i, i ≤ row.length → ZI (fun k => row.getD k 0) i (row.take i).reverse (zzR (fun k => row.getD k 0) i)
  | 0, _ => .none rfl (by simp)
  | i + 1, h => by
    have ih := zi_all row i (by omega)
    have e : (row.take (i + 1)).reverse = row.getD i 0 :: (row.take i).reverse := by
      rw [List.take_add_one, List.getElem?_eq_getElem (by omega), List.reverse_append]
      simp [List.getD_eq_getElem?_getD, List.getElem?_eq_getElem (show i < row.length by omega)]
    rw [e]
    exact zi_step ih
end Rf
set_option Elab.async false
set_option linter.all false
set_option maxRecDepth 100000
set_option maxHeartbeats 4000000
namespace Rf
open PySem L2 Evl
/-! ### what is found shows what it tells -/
def rowV (row : List Int) (k : Nat) : Int := row.getD k 0
def plZ (row : List Int) : List Int := ((zzR (rowV row) row.length).reverse).map fun k : Nat => (k : Int)
def ctZ (ps : List Int) : List Int := cutL ps (some 1) (some (-1))
theorem ctZ_mid (x : Int) (t : List Int) (y : Int) : ctZ (x :: (t ++ [y])) = t := by
  unfold ctZ cutL
  have h2 : HT.sIx (x :: (t ++ [y])).length (x :: (t ++ [y])).length (some (-1)) = t.length + 1 := by
    show (if (-1 : Int) < 0 then ((-1 : Int) + ((x :: (t ++ [y])).length : Int)).toNat else min (-1 : Int).toNat (x :: (t ++ [y])).length) = t.length + 1
    rw [if_pos (by decide)]
    simp
    omega
  have h1 : HT.sIx (x :: (t ++ [y])).length 0 (some 1) = 1 := by
    show HT.sIx _ 0 (some ((1 : Nat) : Int)) = 1
    rw [HT.sIx_nat]
    simp
  rw [h1, h2]
  simp
theorem stretch_get {v : Nat → Int} : ∀ {L : List Nat}, stretch v L → ∀ j, j + 1 < L.length → ∃ d, monoS d v (L.getD (j + 1) 0) (L.getD j 0)
  | p :: q :: r, h, 0, _ => h.1
  | p :: q :: r, h, j + 1, hj => by
    have := stretch_get h.2 j (by simpa using hj)
    simpa using this
  | [], _, _, hj => by simp at hj
  | [_], _, _, hj => by simp at hj
theorem even_of {row : List Int} {d : Bool} {a b : Nat} (h : monoS d (rowV row) a b) : evenB row a b = true := by
  unfold evenB
  rw [Bool.or_eq_true, List.all_eq_true, List.all_eq_true]
  cases d with
  | true =>
    left
    intro i hi
    have := h (a + i) (by omega) (by have := List.mem_range.mp hi; omega)
    rw [ltd_t] at this
    unfold rowV at this
    exact decide_eq_true (by omega)
  | false =>
    right
    intro i hi
    have := h (a + i) (by omega) (by have := List.mem_range.mp hi; omega)
    rw [ltd_f] at this
    unfold rowV at this
    exact decide_eq_true (by omega)
theorem rowV_mem {row : List Int} {k : Nat} (h : k < row.length) : rowV row k ∈ row := by
  unfold rowV
  rw [List.getD_eq_getElem?_getD, List.getElem?_eq_getElem h]
  exact List.getElem_mem h
theorem mem_rowV {row : List Int} {y : Int} (h : y ∈ row) : ∃ k, k < row.length ∧ y = rowV row k := by
  obtain ⟨k, hk, e⟩ := List.getElem_of_mem h
  refine ⟨k, hk, ?_⟩
  unfold rowV
  rw [List.getD_eq_getElem?_getD, List.getElem?_eq_getElem hk, ← e]
  rfl
theorem getD_rev {L : List Nat} {k : Nat} (h : k < L.length) : ((L.reverse.map fun k : Nat => (k : Int)).getD k 0) = ((L.getD (L.length - 1 - k) 0 : Nat) : Int) := by
  rw [List.getD_eq_getElem?_getD, List.getElem?_map, List.getElem?_reverse h, List.getD_eq_getElem?_getD, List.getElem?_eq_getElem (by omega)]
  rfl
theorem nums_rev (row : List Int) (rs : List Nat) : numsAt row ((rs.reverse).map fun k : Nat => (k : Int)) = (rs.map (rowV row)).reverse := by
  unfold numsAt rowV
  rw [List.map_map, ← List.map_reverse]
  rfl
theorem zz_shows (row : List Int) : showsB row ⟨plZ row, ctZ (plZ row)⟩ = true := by
  have H := zi_all row row.length (Nat.le_refl _)
  rw [List.take_length] at H
  unfold plZ
  show showsB row ⟨((zzR (fun k => row.getD k 0) row.length).reverse).map fun k : Nat => (k : Int), ctZ (((zzR (fun k => row.getD k 0) row.length).reverse).map fun k : Nat => (k : Int))⟩ = true
  generalize zzR (fun k => row.getD k 0) row.length = rs at H
  cases H with
  | none h0 hA =>
    have : row = [] := List.length_eq_zero_iff.mp h0
    subst this
    decide
  | one h0 hv hA =>
    have hne : row ≠ [] := List.length_pos_iff.mp h0
    have hf : flatRow row = true := by
      unfold flatRow
      rw [Bool.or_eq_true, beq_iff_eq]
      right
      rw [hA _ (List.mem_reverse.mpr (minI_mem hne).1), hA _ (List.mem_reverse.mpr (maxI_mem hne).1)]
    have e : ctZ [0] = [] := by decide
    show showsB row ⟨[0], ctZ [0]⟩ = true
    rw [e]
    unfold showsB
    rw [hf, if_pos rfl]
    have h1 : arePl row.length (-1) [0] = true := by
      simp [arePl]; omega
    show (arePl row.length (-1) [0] && (arePl row.length (-1) [] && (turnsR (numsAt row [0]) && (decide (1 = min 1 row.length) && decide (([] : List Int) = []))))) = true
    rw [h1]
    have : decide (1 = min 1 row.length) = true := decide_eq_true (by omega)
    rw [this]
    rfl
  | @more p q r d h1 h2 h3 h4 h5 h6 h7 h8 h9 h10 =>
    have hlast : (q :: r).getLast? = some 0 := by rw [List.getLast?_cons_cons] at h8; exact h8
    obtain ⟨t, ht⟩ : ∃ t, (q :: r).reverse = 0 :: t := by
      have : (q :: r).reverse.head? = some 0 := by rw [List.head?_reverse]; exact hlast
      cases hr : (q :: r).reverse with
      | nil => rw [hr] at this; cases this
      | cons a t =>
        rw [hr] at this
        exact ⟨t, by rw [show a = 0 by simpa using this]⟩
    have e1 : ((p :: q :: r).reverse).map (fun k : Nat => (k : Int)) = 0 :: (t.map (fun k : Nat => (k : Int)) ++ [(p : Int)]) := by
      rw [List.reverse_cons, ht]; simp
    have ecs : ctZ (((p :: q :: r).reverse).map (fun k : Nat => (k : Int))) = t.map (fun k : Nat => (k : Int)) := by rw [e1, ctZ_mid]
    have eE : endsR row.length (t.map (fun k : Nat => (k : Int))) = (((row.length - 1) :: q :: r).reverse).map (fun k : Nat => (k : Int)) := by
      rw [List.reverse_cons, ht]
      unfold endsR
      simp
      omega
    have hlen : (t.map (fun k : Nat => (k : Int))).length + 2 = (p :: q :: r).length := by
      have := congrArg List.length ht
      simp at this ⊢
      omega
    have hpl : arePl row.length (-1) (((p :: q :: r).reverse).map (fun k : Nat => (k : Int))) = true := by
      rw [arePl_iff]
      refine ⟨fun x hx => ?_, ?_⟩
      · obtain ⟨k, hk, rfl⟩ := List.mem_map.mp hx
        rw [List.mem_reverse] at hk
        have : k ≤ p := by
          rcases List.mem_cons.mp hk with z | z
          · omega
          · have := (List.pairwise_cons.mp h7).1 k z; omega
        omega
      · rw [List.pairwise_map, List.pairwise_reverse]
        exact h7.imp fun {a b} h => by omega
    have hct : arePl row.length (-1) (t.map (fun k : Nat => (k : Int))) = true := by
      rw [arePl_iff] at hpl ⊢
      rw [e1] at hpl
      obtain ⟨g1, g2⟩ := hpl
      refine ⟨fun x hx => g1 x (by simp only [List.mem_cons, List.mem_append]; exact .inr (.inl hx)), ?_⟩
      exact (List.pairwise_append.mp (List.pairwise_cons.mp g2).2).1
    have htn : turnsR (numsAt row (((p :: q :: r).reverse).map (fun k : Nat => (k : Int)))) = true := by
      rw [nums_rev, revT_eq]
      exact h9
    have hf : flatRow row = false := by
      have hp := rowV_mem h1
      have hq := rowV_mem (show q < row.length by omega)
      have hne : row ≠ [] := List.ne_nil_of_mem hp
      have a1 := (minI_mem hne).2 _ hp
      have a2 := (minI_mem hne).2 _ hq
      have a3 := (maxI_mem hne).2 _ hp
      have a4 := (maxI_mem hne).2 _ hq
      have a5 := ltd_ne h3
      unfold flatRow
      rw [decide_eq_false hne, Bool.false_or, beq_eq_false_iff_ne]
      intro z
      apply a5
      show rowV row q = rowV row p
      omega
    have hev : evensB row (t.map (fun k : Nat => (k : Int))) = true := by
      have hs : stretch (rowV row) ((row.length - 1) :: q :: r) := ⟨⟨d, h5⟩, h6⟩
      unfold evensB
      rw [List.all_eq_true]
      intro k hk
      have hk' : k < (t.map (fun k : Nat => (k : Int))).length + 1 := List.mem_range.mp hk
      have hLl : ((row.length - 1) :: q :: r).length = (p :: q :: r).length := by simp
      rw [← hlen] at hLl
      obtain ⟨d', hd'⟩ := stretch_get hs (((row.length - 1) :: q :: r).length - 1 - (k + 1)) (by omega)
      have x1 : eAt (endsR row.length (t.map (fun k : Nat => (k : Int)))) k = ((row.length - 1) :: q :: r).getD (((row.length - 1) :: q :: r).length - 1 - (k + 1) + 1) 0 := by
        unfold eAt
        rw [eE, getD_rev (by omega), Int.toNat_natCast, show ((row.length - 1) :: q :: r).length - 1 - (k + 1) + 1 = ((row.length - 1) :: q :: r).length - 1 - k by omega]
      have x2 : eAt (endsR row.length (t.map (fun k : Nat => (k : Int)))) (k + 1) = ((row.length - 1) :: q :: r).getD (((row.length - 1) :: q :: r).length - 1 - (k + 1)) 0 := by
        unfold eAt
        rw [eE, getD_rev (by omega), Int.toNat_natCast]
      rw [x1, x2]
      exact even_of hd'
    rw [ecs]
    unfold showsB
    show (arePl row.length (-1) (((p :: q :: r).reverse).map (fun k : Nat => (k : Int))) && (arePl row.length (-1) (t.map (fun k : Nat => (k : Int))) && (turnsR (numsAt row (((p :: q :: r).reverse).map (fun k : Nat => (k : Int)))) && _))) = true
    rw [hpl, hct, htn, hf, if_neg Bool.false_ne_true]
    show (evensB row (t.map (fun k : Nat => (k : Int))) && decide ((((p :: q :: r).reverse).map (fun k : Nat => (k : Int))).length = (t.map (fun k : Nat => (k : Int))).length + 2)) = true
    rw [hev, decide_eq_true (by rw [List.length_map, List.length_reverse, hlen])]
    rfl
/-! ### none of all choices is longer -/
theorem zz_most (row : List Int) (l : List Int) (hs : l.Sublist row) (ht : turnsR l = true) : l.length ≤ (plZ row).length := by
  have H := zi_all row row.length (Nat.le_refl _)
  rw [List.take_length] at H
  unfold plZ
  rw [List.length_map, List.length_reverse]
  show l.length ≤ (zzR (fun k => row.getD k 0) row.length).length
  generalize zzR (fun k => row.getD k 0) row.length = rs at H
  have hs' : l.reverse.Sublist row.reverse := List.reverse_sublist.mpr hs
  have hr : revT l.reverse = true := by rw [← revT_eq, List.reverse_reverse]; exact ht
  rw [← List.length_reverse]
  generalize l.reverse = L at hs' hr
  cases H with
  | none h0 hA =>
    have : row = [] := List.length_eq_zero_iff.mp h0
    subst this
    simpa using hs'.length_le
  | one h0 hv hA =>
    match L, hs', hr with
    | [], _, _ => simp
    | [y], _, _ => simp
    | y :: z :: r, hs', hr =>
      have h1 := hA y (hs'.subset (by simp))
      have h2 := hA z (hs'.subset (by simp))
      have hne : z ≠ y := by
        cases r with
        | nil => simpa [revT] using hr
        | cons a r => simp [revT] at hr; exact hr.1.1
      omega
  | more d h1 h2 h3 h4 h5 h6 h7 h8 h9 h10 => exact h10.all L hs' hr
/-! ### all choices -/
def bitP (c k : Nat) : Bool := c / 2 ^ k % 2 == 1
def maskN (P : Nat → Bool) : Nat → Nat
  | 0 => 0
  | n + 1 => maskN P n + if P n then 2 ^ n else 0
theorem maskN_lt (P : Nat → Bool) : ∀ n, maskN P n < 2 ^ n
  | 0 => by show 0 < 2 ^ 0; decide
  | n + 1 => by
    have := maskN_lt P n
    unfold maskN
    rw [Nat.pow_succ]
    split <;> omega
theorem maskN_bit (P : Nat → Bool) : ∀ n k, k < n → bitP (maskN P n) k = P k
  | n + 1, k, h => by
    have h0 := maskN_lt P n
    unfold bitP maskN
    by_cases c : k = n
    · subst c
      cases hp : P k with
      | true =>
        rw [if_pos rfl, Nat.add_div_right _ (Nat.pow_pos (by decide)), Nat.div_eq_of_lt h0]
        rfl
      | false =>
        rw [if_neg (by decide), Nat.add_zero, Nat.div_eq_of_lt h0]
        rfl
    · have ih := maskN_bit P n k (by omega)
      unfold bitP at ih
      rw [← ih]
      cases hp : P n with
      | false => rw [if_neg (by decide), Nat.add_zero]
      | true =>
        rw [if_pos rfl]
        have e : (2 : Nat) ^ n = 2 ^ k * (2 * 2 ^ (n - k - 1)) := by
          rw [← Nat.pow_succ', ← Nat.pow_add]
          congr 1
          omega
        rw [e, Nat.add_mul_div_left _ _ (Nat.pow_pos (by decide)), Nat.add_mul_mod_self_left]
def chs (row : List Int) (c : Nat) : List Int := (row.zipIdx.filter fun a => bitP c a.2).map fun a => a.1
def mostN (row : List Int) : Nat → Nat
  | 0 => 0
  | c + 1 => if decide (mostN row c < (chs row c).length) && turnsR (chs row c) then (chs row c).length else mostN row c
theorem zipIdx_rowV (row : List Int) : row.zipIdx = (List.range row.length).map fun k => (rowV row k, k) := by
  apply List.ext_getElem
  · simp
  · intro i h1 h2
    simp only [List.length_zipIdx] at h1
    simp [rowV, List.getD_eq_getElem?_getD, List.getElem?_eq_getElem h1]
theorem chs_eq (row : List Int) (c : Nat) : chs row c = ((List.range row.length).filter (bitP c)).map (rowV row) := by
  unfold chs
  rw [zipIdx_rowV, List.filter_map, List.map_map]
  rfl
theorem chs_sub (row : List Int) (c : Nat) : (chs row c).Sublist row := by
  have e : row = (List.range row.length).map (rowV row) := by
    apply List.ext_getElem
    · simp
    · intro i h1 h2
      simp [rowV, List.getD_eq_getElem?_getD, List.getElem?_eq_getElem h1]
  rw [chs_eq]
  conv => rhs; rw [e]
  exact (List.filter_sublist).map _
theorem ris_oneN : ∀ {l m : List Nat}, l.Pairwise (· < ·) → m.Pairwise (· < ·) → (∀ j, j ∈ l ↔ j ∈ m) → l = m
  | [], [], _, _, _ => rfl
  | [], b :: m, _, _, h => by have := (h b).mpr (by simp); simp at this
  | a :: l, [], _, _, h => by have := (h a).mp (by simp); simp at this
  | a :: l, b :: m, hl, hm, h => by
    obtain ⟨l1, l2⟩ := List.pairwise_cons.mp hl
    obtain ⟨m1, m2⟩ := List.pairwise_cons.mp hm
    have e : a = b := by
      rcases List.mem_cons.mp ((h a).mp (by simp)) with e | e
      · exact e
      · rcases List.mem_cons.mp ((h b).mpr (by simp)) with e' | e'
        · exact e'.symm
        · have := m1 a e; have := l1 b e'; omega
    subst e
    rw [ris_oneN l2 m2 fun j => ?_]
    constructor
    · intro hj
      rcases List.mem_cons.mp ((h j).mp (by simp [hj])) with e | e
      · have := l1 j hj; omega
      · exact e
    · intro hj
      rcases List.mem_cons.mp ((h j).mpr (by simp [hj])) with e | e
      · have := m1 j hj; omega
      · exact e
theorem most_le (row : List Int) : ∀ c, mostN row c ≤ (plZ row).length
  | 0 => Nat.zero_le _
  | c + 1 => by
    unfold mostN
    split
    · rename_i h
      rw [Bool.and_eq_true] at h
      exact zz_most row _ (chs_sub row c) h.2
    · exact most_le row c
theorem most_ge (row : List Int) : ∀ c k, k < c → turnsR (chs row k) = true → (chs row k).length ≤ mostN row c
  | c + 1, k, h, ht => by
    unfold mostN
    by_cases e : k = c
    · subst e
      rw [ht, Bool.and_true]
      split
      · exact Nat.le_refl _
      · rename_i h2
        rw [decide_eq_true_iff] at h2
        omega
    · have := most_ge row c k (by omega) ht
      split
      · rename_i h2
        rw [Bool.and_eq_true, decide_eq_true_iff] at h2
        omega
      · exact this
theorem zz_ris (row : List Int) : (zzR (rowV row) row.length).Pairwise (· > ·) ∧ (∀ k ∈ zzR (rowV row) row.length, k < row.length) ∧ turnsR (numsAt row (plZ row)) = true := by
  have H := zi_all row row.length (Nat.le_refl _)
  have hs := zz_shows row
  have h3 : turnsR (numsAt row (plZ row)) = true := by
    unfold showsB at hs
    simp only [Bool.and_eq_true] at hs
    exact hs.2.2.1
  refine ⟨?_, ?_, h3⟩
  · show (zzR (fun k => row.getD k 0) row.length).Pairwise (· > ·)
    generalize zzR (fun k => row.getD k 0) row.length = rs at H
    cases H with
    | none h0 hA => exact List.Pairwise.nil
    | one h0 hv hA => simp
    | more d h1 h2 h3 h4 h5 h6 h7 h8 h9 h10 => exact h7
  · show ∀ k ∈ zzR (fun k => row.getD k 0) row.length, k < row.length
    generalize zzR (fun k => row.getD k 0) row.length = rs at H
    cases H with
    | none h0 hA => simp
    | one h0 hv hA => simp; exact h0
    | more d h1 h2 h3 h4 h5 h6 h7 h8 h9 h10 =>
      intro k hk
      rcases List.mem_cons.mp hk with z | z
      · omega
      · have := (List.pairwise_cons.mp h7).1 k z; omega
theorem most_eq (row : List Int) : mostN row (2 ^ row.length) = (plZ row).length := by
  obtain ⟨h1, h2, h3⟩ := zz_ris row
  refine Nat.le_antisymm (most_le row _) ?_
  have hm : (List.range row.length).filter (bitP (maskN (fun k => decide (k ∈ zzR (rowV row) row.length)) row.length)) = (zzR (rowV row) row.length).reverse := by
    refine ris_oneN (List.Pairwise.filter _ List.pairwise_lt_range) (List.pairwise_reverse.mpr (h1.imp fun {a b} h => h)) fun j => ?_
    rw [List.mem_filter, List.mem_range, List.mem_reverse]
    constructor
    · rintro ⟨q1, q2⟩
      rw [maskN_bit _ _ _ q1] at q2
      exact of_decide_eq_true q2
    · intro q
      refine ⟨h2 j q, ?_⟩
      rw [maskN_bit _ _ _ (h2 j q)]
      exact decide_eq_true q
  have e : chs row (maskN (fun k => decide (k ∈ zzR (rowV row) row.length)) row.length) = numsAt row (plZ row) := by
    rw [chs_eq, hm]
    unfold plZ
    rw [nums_rev, List.map_reverse]
  have := most_ge row (2 ^ row.length) _ (maskN_lt _ _) (by rw [e]; exact h3)
  rw [e] at this
  have e2 : (numsAt row (plZ row)).length = (plZ row).length := by unfold numsAt; rw [List.length_map]
  rw [e2] at this
  exact this
end Rf
set_option Elab.async false
set_option linter.all false
set_option maxRecDepth 100000
set_option maxHeartbeats 4000000
namespace W
open PySem PySem.Spec PyProof.Rows L2 Evl Rf
def topS (i : Nat) : Stmt := PySem.Challenge.pw_risefall_k03_whole_zigzag.main.body.getD i (.Pass ⟨0, 0, 0, 0⟩)
/-- the built-in names that the text reads -/
structure Bi (mg : Str → Option Value) : Prop where
  all_ : mg "all" = none
  bool_ : mg "bool" = none
  enumerate_ : mg "enumerate" = none
  int_ : mg "int" = none
  isinstance_ : mg "isinstance" = none
  len_ : mg "len" = none
  list_ : mg "list" = none
  max_ : mg "max" = none
  min_ : mg "min" = none
  range_ : mg "range" = none
  set_ : mg "set" = none
  sorted_ : mg "sorted" = none
  zip_ : mg "zip" = none

section
variable {P : Program} {w : World} {K : PySem.W.Frag} {mg : Str → Option Value} {base : Heap}
local macro_rules | `(tactic| walk_at "ex") => `(tactic| first | assumption | exact Ex.refl _ | exact Ex.trans (by assumption) (by assumption))
local macro_rules | `(tactic| walk_at "rep") => `(tactic| first | exact rfl | assumption | exact up (by assumption) (by assumption) | exact Own.rep (by assumption) | exact Own.rep (Own.up (by assumption) (by assumption)) | skip)
local macro_rules | `(tactic| walk_at "side") => `(tactic| first | assumption | omega | decide | trivial | skip)
local macro_rules | `(tactic| walk_at "er") => `(tactic| first
  | with_reducible exact er_int | with_reducible exact er_str | with_reducible exact er_bl | with_reducible exact er_non
  | ((with_reducible apply er_var) <;> walk_at "rep")
  | ((with_reducible apply er_add) <;> walk_at "er")
  | ((with_reducible apply er_sub) <;> walk_at "er")
  | ((with_reducible apply er_neg) <;> walk_at "er")
  | ((with_reducible apply er_mul) <;> walk_at "er")
  | ((with_reducible apply er_mod) <;> walk_at "er")
  | ((with_reducible apply er_div) <;> walk_at "er")
  | ((with_reducible apply er_lt) <;> walk_at "er")
  | ((with_reducible apply er_le) <;> walk_at "er")
  | ((with_reducible apply er_gt) <;> walk_at "er")
  | ((with_reducible apply er_ge) <;> walk_at "er")
  | ((with_reducible apply er_eqi) <;> walk_at "er")
  | ((with_reducible apply er_nei) <;> walk_at "er")
  | ((with_reducible apply er_eqt) <;> walk_at "er")
  | ((with_reducible apply er_net) <;> walk_at "er")
  | ((with_reducible apply er_eqb) <;> walk_at "er")
  | ((with_reducible apply er_neb) <;> walk_at "er")
  | ((with_reducible apply er_lenL) <;> walk_at "er")
  | ((with_reducible apply er_not) <;> walk_at "er")
  | ((with_reducible apply er_sum) <;> walk_at "er")
  | ((with_reducible apply er_abs) <;> walk_at "er")
  | ((with_reducible apply er_max2) <;> walk_at "er")
  | ((with_reducible apply er_min2) <;> walk_at "er")
  | ((with_reducible apply er_chLtLt) <;> walk_at "er")
  | ((with_reducible apply er_chLeLt) <;> walk_at "er")
  | ((with_reducible apply er_ixL) <;> walk_at "er")
  | ((with_reducible apply er_ixT) <;> walk_at "er")
  | ((with_reducible apply er_call1) <;> walk_at "er")
  | ((with_reducible apply er_call2) <;> walk_at "er")
  | ((with_reducible apply er_call3) <;> walk_at "er")
  | assumption | omega | exact Or.inr ⟨by decide, by decide⟩ | exact Or.inl ⟨by decide, by decide⟩ | exact Or.inl ⟨by omega, by omega⟩ | exact Or.inr ⟨by omega, by omega⟩ | exact ⟨by decide, by decide⟩ | exact ⟨by omega, by omega⟩ | trivial
  | skip)
local macro_rules | `(tactic| walk_at "et") => `(tactic| first
  | ((with_reducible apply et_e) <;> walk_at "er")
  | ((with_reducible apply et_v) <;> walk_at "er")
  | ((with_reducible apply et_not') <;> walk_at "et")
  | ((with_reducible refine et_and' ?_ fun hand => ?_) <;> walk_at "et")
  | ((with_reducible refine et_or' ?_ fun hor => ?_) <;> walk_at "et")
  | skip)

theorem flat_one {α β : Type} (l : List α) (f : α → β) : (l.map fun i => [f i]).flatten = l.map f := by
  induction l with
  | nil => rfl
  | cons x r ih => simp [ih]
theorem tx_map {α : Type} (l : List α) (f : α → Bool) : catS (l.map fun i => tx [f i]) = tx (l.map f) := by
  have h := tx_cat (l.map fun i => [f i])
  rw [List.map_map] at h
  rw [flat_one] at h
  exact h
theorem cutL_take {α : Type} (as : List α) (k : Nat) : cutL as none (some (k : Int)) = as.take k := by
  unfold cutL
  rw [HT.sIx_none, HT.sIx_nat, List.drop_zero, Nat.sub_zero]
  rcases Nat.le_total k as.length with h | h
  · rw [Nat.min_eq_left h]
  · rw [Nat.min_eq_right h, List.take_of_length_le h, List.take_of_length_le (Nat.le_refl _)]
theorem cutL_drop {α : Type} (as : List α) (k : Nat) : cutL as (some (k : Int)) none = as.drop k := by
  unfold cutL
  rw [HT.sIx_none, HT.sIx_nat]
  rcases Nat.le_total k as.length with h | h
  · rw [Nat.min_eq_left h, List.take_of_length_le (by rw [List.length_drop]; exact Nat.le_refl _)]
  · rw [Nat.min_eq_right h, List.drop_of_length_le h, List.drop_of_length_le (Nat.le_refl _), List.take_nil]

/-! ### the words of the program -/
def sp_is_whole (K : PySem.W.Frag) : Sp := Pr1 K (fun (_ : Int) => True) fun _ => true
abbrev s_is_whole : Stmt := topS 4
abbrev N_is_whole : List Str := ["thing"]
theorem sc_is_whole : FnScope N_is_whole ["thing"] (defScope s_is_whole) := ⟨rfl, rfl, rfl, by decide +kernel, rfl, by decide +kernel, by decide +kernel⟩
def t_is_whole (K : PySem.W.Frag) : TS :=
  (tRet (tAndV (tCB (rIsi K) (tCons (tVar 0) (tCons (tC (.ty "int")) tNil))) (tNotV (tCB (rIsi K) (tCons (tVar 0) (tCons (tC (.ty "bool")) tNil))))))

theorem pure_is_whole (K : PySem.W.Frag) (vs : List V) (H : Hp) (Q : VK) (E : XK) (h : sp_is_whole K vs H Q E) : t_is_whole K { nx := fun _ H' => Q .non H', rt := Q } (start N_is_whole vs) H := by
  obtain ⟨_, c, rfl, rfl, _, q⟩ := h
  refine Gx.here (K := K) (g_ret (a := (true && !false)) (er_and (er_isi (er_var rfl rfl) (fun _ _ r => ty_int (a := c) r) (by decide +kernel)) fun _ => er_not (er_isi (er_var rfl rfl) (fun _ _ r => ty_int (a := c) r) (by decide +kernel))) q)
theorem ok_is_whole {f : Addr} {fd : FuncData} (F : Fun K "is_whole" "is_whole" s_is_whole f fd) (T : Bi mg) : FnOk P w K mg base CX0 1 f fd ["thing"] (sp_is_whole K) :=
  F.ok sc_is_whole (fun vs H Q E h => by first | exact len_pr1 h | exact len_pr2 h | exact len_pr3 h | exact len_prF1 h | exact len_prF2 h | exact len_is_whole h) (fun cdv A outer s H vs Q E hr h => ⟨t_is_whole K, by exact
    ((pss_one (ps_ret (pe_and (pe_callB cIsi (by rfl) T.isinstance_ (by decide +kernel) (pa_cons (pv 0) (pa_cons (pe_bltn (v := .ty "int") (by rfl) T.int_ (by decide +kernel) rfl) pa_nil))) (pe_one (pe_not (pe_callB cIsi (by rfl) T.isinstance_ (by decide +kernel) (pa_cons (pv 0) (pa_cons (pe_bltn (v := .ty "bool") (by rfl) T.bool_ (by decide +kernel) rfl) pa_nil))))))))), pure_is_whole K vs H Q E h⟩)


def sp_check_row (K : PySem.W.Frag) : Sp := Pr1 K (fun row : List Int => row.length ≤ 1000) fun _ => ()
abbrev s_check_row : Stmt := topS 5
abbrev N_check_row : List Str := ["row", "number"]
theorem sc_check_row : FnScope N_check_row ["row"] (defScope s_check_row) := ⟨rfl, rfl, rfl, by decide +kernel, rfl, by decide +kernel, by decide +kernel⟩
def t_check_row (K : PySem.W.Frag) : TS :=
  (tIfS (tOr (tNot (tB (tCB (rIsi K) (tCons (tVar 0) (tCons (tC (.ty "list")) tNil))))) (tNot (tB (tCB (rAll K) (tCons (tLc (iList K (tVar 0)) (gName 1) tYes (tCall (sp_is_whole K) [] E0 (tCons (tVar 1) tNil)) [1]) tNil))))) tNever tNext)

theorem pure_check_row (K : PySem.W.Frag) (vs : List V) (H : Hp) (Q : VK) (E : XK) (h : sp_check_row K vs H Q E) : t_check_row K { nx := fun _ H' => Q .non H', rt := Q } (start N_check_row vs) H := by
  obtain ⟨v, row, rfl, r, hl, q⟩ := h
  refine Gx.here (K := K) (g_if (b := (!true || !true)) (et_or' (et_not' (et_v (er_isi (a := row) (er_var rfl r) (fun _ _ r => ty_lst r) (by decide +kernel)))) fun _ => et_not' (et_v ((er_all (ErF.er (erf_lc (f := fun _ => true) (er_var rfl r) (by omega) (fun _ => rfl) fun i a v H1 _ _ r1 => es_flat (er_call1 (a := a) (er_var rfl r1) trivial)))).to ?_))) (fun hb => by cases hb) fun _ => g_next fun H1 e => q .non H1 e rfl)
  rw [List.all_eq_true]
  intro b hb
  obtain ⟨_, _, rfl⟩ := List.mem_map.mp hb
  rfl
theorem ok_check_row {f f_is_whole : Addr} {fd fd_is_whole : FuncData} (F : Fun K "check_row" "check_row" s_check_row f fd) (T : Bi mg) (c_is_whole : Cal P w K mg base 1 "is_whole" ["thing"] (sp_is_whole K) f_is_whole fd_is_whole) : FnOk P w K mg base CX0 2 f fd ["row"] (sp_check_row K) :=
  F.ok sc_check_row (fun vs H Q E h => by first | exact len_pr1 h | exact len_pr2 h | exact len_pr3 h | exact len_prF1 h | exact len_prF2 h | exact len_check_row h) (fun cdv A outer s H vs Q E hr h => ⟨t_check_row K, by exact
    ((pss_one (ps_if (PW.pt (pw_or (pt_not (pt_val (pe_callB cIsi (by rfl) T.isinstance_ (by decide +kernel) (pa_cons (pv 0) (pa_cons (pe_bltn (v := .ty "list") (by rfl) T.list_ (by decide +kernel) rfl) pa_nil))))) (pw_or1 (pt_not (pt_val (pe_callB (cr_all rfl) (by rfl) T.all_ (by decide +kernel) (pa_cons (pe_lc (own := [("number", 1)]) (g := (gName 1)) (tt := tYes) rfl sc_check_row.nd (pi_list (pv 0)) (blkOk_by (own := [("number", 1)]) (N := N_check_row) (sc := defScope s_check_row) (by decide +kernel)) (fun _ _ _ _ _ => (pg_name (i := 1) sc_check_row.nd rfl (.inl rfl))) (fun _ _ _ _ _ => pts_nil) (fun _ _ _ _ _ => (pe_call c_is_whole.ok (hr.mono (by decide)) (by rfl) c_is_whole.g c_is_whole.kp c_is_whole.b .nil pass0 (pa_cons (pv 1) pa_nil)))) pa_nil))))))) (pss_one ps_never)
      pss_nil))), pure_check_row K vs H Q E h⟩)


/-! ### the word of a row -/
def adj (row : List Int) (i : Nat) : Bool := row.getD (i + 1) 0 == row.getD i 0
def rf (row : List Int) (n : Nat) : List Bool := (List.range n).map fun i => decide (row.getD i 0 < row.getD (i + 1) 0)
def wordBy (row : List Int) : Option (List Bool) := if (List.range (row.length - 1)).any (adj row) then none else some (rf row (row.length - 1))
def sp_word_by (K : PySem.W.Frag) : Sp := Pr1 K (fun row : List Int => row.length ≤ 1000) fun row => (wordBy row).map tx
abbrev s_word_by : Stmt := topS 6
abbrev N_word_by : List Str := ["row", "found", "place"]
theorem sc_word_by : FnScope N_word_by ["row"] (defScope s_word_by) := ⟨rfl, rfl, rfl, by decide +kernel, rfl, by decide +kernel, by decide +kernel⟩
def t_word_by (K : PySem.W.Frag) : TS :=
  (tSeq (tAsg (tC (.str ("" : Str))) (gName 1))
    (tSeq (tFor (iRng2 (tCons (tC (.int 1)) (tCons (tCB (rLenL K) (tCons (tVar 0) tNil)) tNil))) (gName 2) (tSeq (tIfS (tTest (tOp rEqI (tOp (rIxL K) (tVar 0) (tVar 2)) (tOp (rIxL K) (tVar 0) (tOp rSubI (tVar 2) (tC (.int 1)))))) (tRet (tC .non)) tNext)
    (tAug 1 (tIf (tTest (tOp rGtI (tOp (rIxL K) (tVar 0) (tVar 2)) (tOp (rIxL K) (tVar 0) (tOp rSubI (tVar 2) (tC (.int 1)))))) (tC (.str ("u" : Str))) (tC (.str ("d" : Str)))) ipT)))
    (tRet (tVar 1))))

theorem rf_succ (row : List Int) (n : Nat) : rf row (n + 1) = rf row n ++ [decide (row.getD n 0 < row.getD (n + 1) 0)] := by
  unfold rf
  rw [List.range_succ, List.map_append]; rfl
theorem rf_len (row : List Int) (n : Nat) : (rf row n).length = n := by simp [rf]
theorem at_getD {row : List Int} {i : Int} {j : Nat} (e : i = (j : Int)) (h : j < row.length) : atI row i = some (row.getD j 0) := by
  rw [e, List.getD_eq_getElem?_getD, List.getElem?_eq_getElem h]
  exact atI_nat' (List.getElem?_eq_getElem h)
theorem pure_word_by (K : PySem.W.Frag) (vs : List V) (H : Hp) (Q : VK) (E : XK) (h : sp_word_by K vs H Q E) : t_word_by K { nx := fun _ H' => Q .non H', rt := Q } (start N_word_by vs) H := by
  obtain ⟨v, row, rfl, r, hl, q⟩ := h
  refine Gx.here (K := K) (q_asgT (a := tx []) (er_lit tx_nil) ?_)
  refine q_forR (lo := 1) (n := row.length - 1) (j := 2) ?_ (fun i σ H' => ∃ x2, σ = [some v, some (.str (tx (rf row i))), x2] ∧ Ex H H' ∧ (List.range i).any (adj row) = false) (fun H1 e => ⟨none, rfl, e, rfl⟩) ?_ ?_
  · exact (rng2 er_int (er_lenL (er_var rfl r)) (by omega) (by omega) (by omega) (by omega)).to (by omega)
  · rintro i σ H' hi ⟨x2, rfl, e, ha⟩
    have r' := up r e
    refine q_when (b := adj row i) (et_e ?_) (fun hb => ?_) fun hb => ?_
    · exact er_eqi (er_ixL (er_var rfl r') (er_var rfl rfl) (at_getD (by omega) (by omega))) (er_ixL (er_var rfl r') (er_sub (er_var rfl rfl) er_int) (at_getD (by omega) (by omega)))
    · refine g_ret (a := (none : Option Str)) er_nonO fun u H1 e1 r1 => q u H1 (e.trans e1) ?_
      have h2 : wordBy row = none := by
        unfold wordBy
        rw [if_pos]
        rw [List.any_eq_true]
        exact ⟨i, List.mem_range.mpr hi, hb⟩
      show Rep.rep K H1 u ((wordBy row).map tx)
      rw [h2]; exact r1
    · refine g_augT (a := tx (rf row i)) (b := tx [decide (row.getD i 0 < row.getD (i + 1) 0)]) rfl ?_ ?_ fun H1 e1 => ⟨some (.int (1 + (i : Int))), ?_, e.trans e1, ?_⟩
      · refine (er_if (b := decide (row.getD i 0 < row.getD (i + 1) 0)) (x := tx [true]) (y := tx [false]) (et_e ?_) (fun _ => er_lit tx_u) fun _ => er_lit tx_d).to ?_
        · exact er_gt (er_ixL (er_var rfl r') (er_var rfl rfl) (at_getD (by omega) (by omega))) (er_ixL (er_var rfl r') (er_sub (er_var rfl rfl) er_int) (at_getD (by omega) (by omega)))
        · cases decide (row.getD i 0 < row.getD (i + 1) 0) <;> rfl
      · rw [tx_len, tx_len, rf_len]
        show i + 1 ≤ 100000
        omega
      · rw [tx_app, ← rf_succ]; rfl
      · rw [List.range_succ, List.any_append, ha, Bool.false_or]
        simp [hb]
  · rintro σ H' ⟨x2, rfl, e, ha⟩
    have h2 : wordBy row = some (rf row (row.length - 1)) := by
      unfold wordBy
      rw [if_neg (by rw [ha]; decide)]
    refine (g_ret (a := tx (rf row (row.length - 1))) (er_var rfl rfl) fun u H1 e1 r1 => q u H1 (e.trans e1) ?_)
    show Rep.rep K H1 u ((wordBy row).map tx)
    rw [h2]; exact r1
theorem ok_word_by {f : Addr} {fd : FuncData} (F : Fun K "word_by" "word_by" s_word_by f fd) (T : Bi mg) : FnOk P w K mg base CX0 1 f fd ["row"] (sp_word_by K) :=
  F.ok sc_word_by (fun vs H Q E h => by first | exact len_pr1 h | exact len_pr2 h | exact len_pr3 h | exact len_prF1 h | exact len_prF2 h | exact len_word_by h) (fun cdv A outer s H vs Q E hr h => ⟨t_word_by K, by exact
    ((pss_cons (ps_set (i := 1) sc_word_by.nd rfl (.inl rfl) pe_str)
      (pss_cons (ps_for PassesOwn.never rfl (pi_range2 (by rfl) T.range_ (pa_cons pe_int (pa_cons (pe_callB cLenL (by rfl) T.len_ (by decide +kernel) (pa_cons (pv 0) pa_nil)) pa_nil))) (pg_name (i := 2) sc_word_by.nd rfl (.inl rfl))
      (pss_cons (ps_if (pt_cmpR oEqI (pe_ix ix_list (pv 0) (pv 2) (fun _ _ => rfl)) (pe_ix ix_list (pv 0) (pe_op oSubI (pv 2) pe_int) (fun _ _ => rfl)) (nomark _)) (pss_one (ps_ret pe_non))
      pss_nil)
      (pss_one (ps_aug (i := 1) sc_word_by.nd rfl (.inl rfl) (pe_ifExp (pt_cmpR oGtI (pe_ix ix_list (pv 0) (pv 2) (fun _ _ => rfl)) (pe_ix ix_list (pv 0) (pe_op oSubI (pv 2) pe_int) (fun _ _ => rfl)) (nomark _)) pe_str pe_str) ip_addT))))
      (pss_one (ps_ret (pv 1)))))), pure_word_by K vs H Q E h⟩)


/-! ### places -/
def sp_are_places (K : PySem.W.Frag) : Sp := Pr2 K (fun (row ps : List Int) => row.length ≤ 1000 ∧ ps.length ≤ 1000) fun row ps => arePl row.length (-1) ps
abbrev s_are_places : Stmt := topS 8
abbrev N_are_places : List Str := ["row", "places", "last", "place"]
theorem sc_are_places : FnScope N_are_places ["row", "places"] (defScope s_are_places) := ⟨rfl, rfl, rfl, by decide +kernel, rfl, by decide +kernel, by decide +kernel⟩
def t_are_places (K : PySem.W.Frag) : TS :=
  (tSeq (tAsg (tUn rNegI (tC (.int 1))) (gName 2))
    (tSeq (tFor (iList K (tVar 1)) (gName 3) (tSeq (tIfS (tOr (tNot (tB (tCall (sp_is_whole K) [] E0 (tCons (tVar 3) tNil)))) (tNot (tTest (tChain rLtI rLtI (tVar 2) (tVar 3) (tCB (rLenL K) (tCons (tVar 0) tNil)))))) (tRet (tC (.bl false))) tNext)
    (tAsg (tVar 3) (gName 2))))
    (tRet (tC (.bl true)))))

theorem drop_some {α : Type} {l : List α} {i : Nat} {a : α} (h : l[i]? = some a) : l.drop i = a :: l.drop (i + 1) := by
  obtain ⟨h1, h2⟩ := List.getElem?_eq_some_iff.mp h
  rw [List.drop_eq_getElem_cons h1, h2]
theorem pure_are_places (K : PySem.W.Frag) (vs : List V) (H : Hp) (Q : VK) (E : XK) (h : sp_are_places K vs H Q E) : t_are_places K { nx := fun _ H' => Q .non H', rt := Q } (start N_are_places vs) H := by
  obtain ⟨v, w, row, ps, rfl, r1, r2, ⟨hl, hl2⟩, q⟩ := h
  refine Gx.here (K := K) (q_asgI (a := -1) (er_neg er_int) ?_)
  refine q_forL (B := H) (fun i σ H' => ∃ (last : Int) (x3 : Option V), σ = [some v, some w, some (.int last), x3] ∧ Ex H H' ∧ arePl row.length last (ps.drop i) = arePl row.length (-1) ps) rfl r2 (Ex.refl _) (fun H1 e => ⟨-1, none, rfl, e, rfl⟩) (fun i σ H' ⟨_, _, _, e, _⟩ => e) ?_ ?_
  · rintro i a va σ H' ha ra ⟨last, x3, rfl, e, he⟩
    obtain rfl : va = .int a := ra
    rw [drop_some ha] at he
    refine q_when (b := (!true || !(decide (last < a) && decide (a < (row.length : Int))))) (et_or' (et_not' (et_v (er_call1 (a := a) (er_var rfl rfl) trivial))) fun _ => et_not' (et_e (er_chLtLt (er_var rfl rfl) (er_var rfl rfl) (er_lenL (er_var rfl (up r1 e)))))) (fun hb => ?_) fun hb => ?_
    · refine g_ret (a := false) er_bl fun u H1 e1 r => q u H1 (e.trans e1) ?_
      have : arePl row.length (-1) ps = false := by
        rw [← he]
        simp only [Bool.not_true, Bool.false_or, Bool.not_eq_true'] at hb
        unfold arePl
        rw [hb]; rfl
      show Rep.rep K H1 u (arePl row.length (-1) ps)
      rw [this]; exact r
    · refine g_asgI (a := a) (er_var rfl rfl) fun H1 e1 => ⟨a, _, rfl, e.trans e1, ?_⟩
      rw [← he]
      simp only [Bool.not_true, Bool.false_or, Bool.not_eq_false'] at hb
      conv => rhs; unfold arePl
      rw [hb]; rfl
  · rintro σ H' ⟨last, x3, rfl, e, he⟩
    rw [List.drop_length] at he
    refine g_ret (a := true) er_bl fun u H1 e1 r => q u H1 (e.trans e1) ?_
    show Rep.rep K H1 u (arePl row.length (-1) ps)
    rw [← he]; exact r
theorem ok_are_places {f f_is_whole : Addr} {fd fd_is_whole : FuncData} (F : Fun K "are_places" "are_places" s_are_places f fd) (T : Bi mg) (c_is_whole : Cal P w K mg base 1 "is_whole" ["thing"] (sp_is_whole K) f_is_whole fd_is_whole) : FnOk P w K mg base CX0 2 f fd ["row", "places"] (sp_are_places K) :=
  F.ok sc_are_places (fun vs H Q E h => by first | exact len_pr1 h | exact len_pr2 h | exact len_pr3 h | exact len_prF1 h | exact len_prF2 h | exact len_are_places h) (fun cdv A outer s H vs Q E hr h => ⟨t_are_places K, by exact
    ((pss_cons (ps_set (i := 2) sc_are_places.nd rfl (.inl rfl) (pe_un oNegI pe_int))
      (pss_cons (ps_for PassesOwn.never rfl (pi_list (pv 1)) (pg_name (i := 3) sc_are_places.nd rfl (.inl rfl))
      (pss_cons (ps_if (PW.pt (pw_or (pt_not (pt_val (pe_call c_is_whole.ok (hr.mono (by decide)) (by rfl) c_is_whole.g c_is_whole.kp c_is_whole.b .nil pass0 (pa_cons (pv 3) pa_nil)))) (pw_or1 (pt_not (pt_chain oLtI oLtI (pv 2) (pv 3) (pe_callB cLenL (by rfl) T.len_ (by decide +kernel) (pa_cons (pv 0) pa_nil))))))) (pss_one (ps_ret pe_bl))
      pss_nil)
      (pss_one (ps_set (i := 2) sc_are_places.nd rfl (.inl rfl) (pv 3)))))
      (pss_one (ps_ret pe_bl))))), pure_are_places K vs H Q E h⟩)

/-! ### turns -/
def sp_is_zigzag (K : PySem.W.Frag) : Sp := Pr2 K (fun (row ps : List Int) => row.length ≤ 1000 ∧ ps.length ≤ 1000 ∧ ∀ p ∈ ps, 0 ≤ p ∧ p < (row.length : Int)) fun row ps => turnsR (numsAt row ps)
abbrev s_is_zigzag : Stmt := topS 9
abbrev N_is_zigzag : List Str := ["row", "places", "word", "place"]
theorem sc_is_zigzag : FnScope N_is_zigzag ["row", "places"] (defScope s_is_zigzag) := ⟨rfl, rfl, rfl, by decide +kernel, rfl, by decide +kernel, by decide +kernel⟩
def t_is_zigzag (K : PySem.W.Frag) : TS :=
  (tSeq (tAsg (tCall (sp_word_by K) [] E0 (tCons (tLc (iList K (tVar 1)) (gName 3) tYes (tOp (rIxL K) (tVar 0) (tVar 3)) [3]) tNil)) (gName 2))
    (tRet (tAndV (tOp rNotN' (tVar 2) (tC .non)) (tAndV (tOp rNotInT (tC (.str ("uu" : Str))) (tVar 2)) (tOp rNotInT (tC (.str ("dd" : Str))) (tVar 2))))))

def adjR : List Int → Bool
  | a :: b :: r => b == a || adjR (b :: r)
  | _ => false
def rfR : List Int → List Bool
  | a :: b :: r => decide (a < b) :: rfR (b :: r)
  | _ => []
theorem adj_R : ∀ ns : List Int, (List.range (ns.length - 1)).any (adj ns) = adjR ns
  | [] => rfl
  | [a] => rfl
  | a :: b :: r => by
    have ih := adj_R (b :: r)
    show (List.range (r.length + 1)).any (adj (a :: b :: r)) = (b == a || adjR (b :: r))
    rw [← ih, List.range_succ_eq_map, List.any_cons, List.any_map]
    rfl
theorem rf_R : ∀ ns : List Int, rf ns (ns.length - 1) = rfR ns
  | [] => rfl
  | [a] => rfl
  | a :: b :: r => by
    have ih := rf_R (b :: r)
    show rf (a :: b :: r) (r.length + 1) = decide (a < b) :: rfR (b :: r)
    rw [← ih]
    unfold rf
    rw [List.range_succ_eq_map, List.map_cons, List.map_map]
    rfl
theorem turns_R : ∀ ns : List Int, turnsR ns = (!adjR ns && (!hasP true true (rfR ns) && !hasP false false (rfR ns)))
  | [] => rfl
  | [a] => rfl
  | [a, b] => by
    show (a != b) = (!(b == a || false) && (!false && !false))
    simp only [Bool.or_false, Bool.not_false, Bool.and_true]
    rw [Bool.eq_iff_iff]
    simp
    omega
  | a :: b :: c :: r => by
    have ih := turns_R (b :: c :: r)
    unfold turnsR
    rw [ih]
    show _ = (!(b == a || adjR (b :: c :: r)) && (!((decide (a < b) == true && decide (b < c) == true) || hasP true true (rfR (b :: c :: r))) && !((decide (a < b) == false && decide (b < c) == false) || hasP false false (rfR (b :: c :: r)))))
    have e : (b == a) = (a == b) := by rw [Bool.eq_iff_iff, beq_iff_eq, beq_iff_eq]; exact ⟨fun e => e.symm, fun e => e.symm⟩
    rw [e]
    unfold bne
    cases (a == b) <;> cases decide (a < b) <;> cases decide (b < c) <;> cases adjR (b :: c :: r) <;> cases hasP true true (rfR (b :: c :: r)) <;> cases hasP false false (rfR (b :: c :: r)) <;> rfl
theorem turns_none {ns : List Int} (h : wordBy ns = none) : turnsR ns = false := by
  unfold wordBy at h
  split at h
  · rename_i c
    rw [adj_R] at c
    rw [turns_R, c]; rfl
  · cases h
theorem turns_some {ns : List Int} {w : List Bool} (h : wordBy ns = some w) : turnsR ns = (!hasP true true w && !hasP false false w) ∧ w.length ≤ ns.length := by
  unfold wordBy at h
  split at h
  · cases h
  · rename_i c
    rw [adj_R] at c
    have c' : adjR ns = false := by simpa using c
    have e : w = rfR ns := by rw [← rf_R]; exact (Option.some.inj h).symm
    refine ⟨by rw [turns_R, c', e]; rfl, ?_⟩
    have e2 := Option.some.inj h
    rw [← e2, rf_len]
    omega
theorem at_num {row : List Int} {p : Int} (h0 : 0 ≤ p) (h1 : p < (row.length : Int)) : atI row p = some (row.getD p.toNat 0) := at_getD (by omega) (by omega)
theorem tx_uu : ("uu" : Str) = tx [true, true] := by decide +kernel
theorem tx_dd : ("dd" : Str) = tx [false, false] := by decide +kernel
theorem pure_is_zigzag (K : PySem.W.Frag) (vs : List V) (H : Hp) (Q : VK) (E : XK) (h : sp_is_zigzag K vs H Q E) : t_is_zigzag K { nx := fun _ H' => Q .non H', rt := Q } (start N_is_zigzag vs) H := by
  obtain ⟨v, w, row, ps, rfl, r1, r2, ⟨hl, hl2, hp⟩, q⟩ := h
  refine Gx.here (K := K) (q_asg (a := (wordBy (numsAt row ps)).map tx) (er_call1 (f := fun row => (wordBy row).map tx) (a := numsAt row ps) (ErF.er (erf_lc (er_var rfl r2) (by omega) (fun _ => rfl) fun i a va H1 e ha ra => es_flat (er_ixL (er_var rfl (up r1 e)) (er_var rfl ra) (at_num (hp a (List.mem_of_getElem? ha)).1 (hp a (List.mem_of_getElem? ha)).2)))) ?_) fun u H1 e ru => ?_)
  · show (numsAt row ps).length ≤ 1000
    unfold numsAt
    rw [List.length_map]; exact hl2
  · cases hw : wordBy (numsAt row ps) with
    | none =>
      rw [hw] at ru
      refine g_ret (a := turnsR (numsAt row ps)) ((er_and (a := false) (b := false) (er_notN (o := (none : Option Str)) (er_var rfl ru)) fun h => by cases h).to ?_) fun u H2 e2 => q u H2 (e.trans e2)
      rw [turns_none hw]; rfl
    | some x =>
      rw [hw] at ru
      obtain ⟨h1, h2⟩ := turns_some hw
      have rx : Rep.rep K H1 u (tx x) := ru
      refine g_ret (a := turnsR (numsAt row ps)) ((er_and (a := true) (b := (!hasP true true x && !hasP false false x)) (er_notN (o := some (tx x)) (er_var rfl ru)) fun _ => er_and (er_notInW (er_lit tx_uu) (er_var rfl rx)) fun _ => er_notInW (er_lit tx_dd) (er_var rfl rx)).to ?_) fun u H2 e2 => q u H2 (e.trans e2)
      rw [h1]; rfl
theorem ok_is_zigzag {f f_word_by : Addr} {fd fd_word_by : FuncData} (F : Fun K "is_zigzag" "is_zigzag" s_is_zigzag f fd) (T : Bi mg) (c_word_by : Cal P w K mg base 1 "word_by" ["row"] (sp_word_by K) f_word_by fd_word_by) : FnOk P w K mg base CX0 2 f fd ["row", "places"] (sp_is_zigzag K) :=
  F.ok sc_is_zigzag (fun vs H Q E h => by first | exact len_pr1 h | exact len_pr2 h | exact len_pr3 h | exact len_prF1 h | exact len_prF2 h | exact len_is_zigzag h) (fun cdv A outer s H vs Q E hr h => ⟨t_is_zigzag K, by exact
    ((pss_cons (ps_set (i := 2) sc_is_zigzag.nd rfl (.inl rfl) (pe_call c_word_by.ok (hr.mono (by decide)) (by rfl) c_word_by.g c_word_by.kp c_word_by.b .nil pass0 (pa_cons (pe_lc (own := [("place", 3)]) (g := (gName 3)) (tt := tYes) rfl sc_is_zigzag.nd (pi_list (pv 1)) (blkOk_by (own := [("place", 3)]) (N := N_is_zigzag) (sc := defScope s_is_zigzag) (by decide +kernel)) (fun _ _ _ _ _ => (pg_name (i := 3) sc_is_zigzag.nd rfl (.inl rfl))) (fun _ _ _ _ _ => pts_nil) (fun _ _ _ _ _ => (pe_ix ix_list (pv 0) (pv 3) (fun _ _ => rfl)))) pa_nil)))
      (pss_one (ps_ret (pe_and (pe_cmpR oNotN (pv 2) pe_non (nomark _)) (pe_and (pe_cmpR oNotInT pe_str (pv 2) (by rfl)) (pe_one (pe_cmpR oNotInT pe_str (pv 2) (by rfl))))))))), pure_is_zigzag K vs H Q E h⟩)

/-! ### stretches -/
def sp_is_even (K : PySem.W.Frag) : Sp := Pr3 K (fun (row : List Int) (a b : Int) => row.length ≤ 1000 ∧ 0 ≤ a ∧ a ≤ b ∧ b < (row.length : Int)) fun row a b => evenB row a.toNat b.toNat
abbrev s_is_even : Stmt := topS 10
abbrev N_is_even : List Str := ["row", "first", "last", "steps", "place", "one", "other"]
theorem sc_is_even : FnScope N_is_even ["row", "first", "last"] (defScope s_is_even) := ⟨rfl, rfl, rfl, by decide +kernel, rfl, by decide +kernel, by decide +kernel⟩
def t_is_even (K : PySem.W.Frag) : TS :=
  (tSeq (tAsg (tLc (iRng2 (tCons (tVar 1) (tCons (tVar 2) tNil))) (gName 4) tYes (tTup (tCons (tOp (rIxL K) (tVar 0) (tVar 4)) (tCons (tOp (rIxL K) (tVar 0) (tOp rAddI (tVar 4) (tC (.int 1)))) tNil))) [4]) (gName 3))
    (tRet (tOrV (tCB (rAll K) (tCons (tLc (iList K (tVar 3)) (gTup K 2 (gCons (gName 5) (gCons (gName 6) gNil))) tYes (tOp rLeI (tVar 5) (tVar 6)) [5, 6]) tNil)) (tCB (rAll K) (tCons (tLc (iList K (tVar 3)) (gTup K 2 (gCons (gName 5) (gCons (gName 6) gNil))) tYes (tOp rGeI (tVar 5) (tVar 6)) [5, 6]) tNil)))))

theorem pure_is_even (K : PySem.W.Frag) (vs : List V) (H : Hp) (Q : VK) (E : XK) (h : sp_is_even K vs H Q E) : t_is_even K { nx := fun _ H' => Q .non H', rt := Q } (start N_is_even vs) H := by
  obtain ⟨v, _, _, row, a, b, rfl, r1, rfl, rfl, ⟨hl, h0, hab, hb⟩, q⟩ := h
  refine Gx.here (K := K) (q_asg (a := (List.range (b.toNat - a.toNat)).map fun i => (row.getD (a.toNat + i) 0, row.getD (a.toNat + i + 1) 0)) (ErF.er (erf_lcR (lo := a) (n := b.toNat - a.toNat) ((rng2 (er_var rfl rfl) (er_var rfl rfl) (by omega) (by omega) (by omega) (by omega)).to (by omega)) (by omega) (fun _ => rfl) fun i H1 e hi => es_tup2
    (er_ixL (er_var rfl (up r1 e)) (er_var rfl rfl) (at_getD (by omega) (by omega))) (er_ixL (er_var rfl (up r1 e)) (er_add (er_var rfl rfl) er_int) (at_getD (by omega) (by omega))))) fun u H1 e ru => ?_)
  have hz : ((List.range (b.toNat - a.toNat)).map fun i => (row.getD (a.toNat + i) 0, row.getD (a.toNat + i + 1) 0)).length ≤ 40000 := by rw [List.length_map, List.length_range]; omega
  refine g_ret (a := evenB row a.toNat b.toNat) ((er_or (er_all (ErF.er (erf_lcP (f := fun a b => decide (a ≤ b)) (er_var rfl ru) hz (fun _ _ => rfl) fun a b H2 e2 => es_flat (er_le (er_var rfl rfl) (er_var rfl rfl)))))
    fun _ => er_all (ErF.er (erf_lcP (f := fun a b => decide (b ≤ a)) (er_var rfl ru) hz (fun _ _ => rfl) fun a b H2 e2 => es_flat (er_ge (er_var rfl rfl) (er_var rfl rfl))))).to ?_) fun u H2 e2 => q u H2 (e.trans e2)
  unfold evenB
  simp only [List.map_map, List.all_map]
  rfl
theorem ok_is_even {f : Addr} {fd : FuncData} (F : Fun K "is_even" "is_even" s_is_even f fd) (T : Bi mg) : FnOk P w K mg base CX0 1 f fd ["row", "first", "last"] (sp_is_even K) :=
  F.ok sc_is_even (fun vs H Q E h => by first | exact len_pr1 h | exact len_pr2 h | exact len_pr3 h | exact len_prF1 h | exact len_prF2 h | exact len_is_even h) (fun cdv A outer s H vs Q E hr h => ⟨t_is_even K, by exact
    ((pss_cons (ps_setLc (i := 3) (own := [("place", 4)]) (g := (gName 4)) (tt := tYes) rfl sc_is_even.nd rfl rfl (sw_true rfl rfl rfl (by decide +kernel)) (pi_range2 (by rfl) T.range_ (pa_cons (pv 1) (pa_cons (pv 2) pa_nil))) (blkOk_by (own := [("place", 4)]) (N := N_is_even) (sc := defScope s_is_even) (by decide +kernel)) (fun _ _ _ _ _ => (pg_name (i := 4) sc_is_even.nd rfl (.inl rfl))) (fun _ _ _ _ _ => pts_nil) (fun _ _ _ _ _ => (pe_tup (pa_cons (pe_ix ix_list (pv 0) (pv 4) (fun _ _ => rfl)) (pa_cons (pe_ix ix_list (pv 0) (pe_op oAddI (pv 4) pe_int) (fun _ _ => rfl)) pa_nil)))))
      (pss_one (ps_ret (pe_or (pe_callB (cr_all rfl) (by rfl) T.all_ (by decide +kernel) (pa_cons (pe_lc (own := [("one", 5), ("other", 6)]) (g := (gTup K 2 (gCons (gName 5) (gCons (gName 6) gNil)))) (tt := tYes) rfl sc_is_even.nd (pi_list (pv 3)) (blkOk_by (own := [("one", 5), ("other", 6)]) (N := N_is_even) (sc := defScope s_is_even) (by decide +kernel)) (fun _ _ _ _ _ => (pg_tup rfl (pgs_cons (pg_name (i := 5) sc_is_even.nd rfl (.inl rfl)) (pgs_cons (pg_name (i := 6) sc_is_even.nd rfl (.inl rfl)) pgs_nil)))) (fun _ _ _ _ _ => pts_nil) (fun _ _ _ _ _ => (pe_cmpR oLeI (pv 5) (pv 6) (nomark _)))) pa_nil)) (pe_one (pe_callB (cr_all rfl) (by rfl) T.all_ (by decide +kernel) (pa_cons (pe_lc (own := [("one", 5), ("other", 6)]) (g := (gTup K 2 (gCons (gName 5) (gCons (gName 6) gNil)))) (tt := tYes) rfl sc_is_even.nd (pi_list (pv 3)) (blkOk_by (own := [("one", 5), ("other", 6)]) (N := N_is_even) (sc := defScope s_is_even) (by decide +kernel)) (fun _ _ _ _ _ => (pg_tup rfl (pgs_cons (pg_name (i := 5) sc_is_even.nd rfl (.inl rfl)) (pgs_cons (pg_name (i := 6) sc_is_even.nd rfl (.inl rfl)) pgs_nil)))) (fun _ _ _ _ _ => pts_nil) (fun _ _ _ _ _ => (pe_cmpR oGeI (pv 5) (pv 6) (nomark _)))) pa_nil)))))))), pure_is_even K vs H Q E h⟩)

/-! ### the class -/
def sp_Zigzag___init__ (K : PySem.W.Frag) : Sp := PrInit K
theorem len_Zigzag___init__ {K : PySem.W.Frag} {vs : List V} {H : Hp} {Q : VK} {E : XK} (h : sp_Zigzag___init__ K vs H Q E) : vs.length = 3 := len_prInit h
abbrev s_Zigzag___init__ : Stmt := inClass (topS 11) 0
abbrev N_Zigzag___init__ : List Str := ["self", "places", "cuts"]
theorem sc_Zigzag___init__ : FnScope N_Zigzag___init__ ["self", "places", "cuts"] (defScope s_Zigzag___init__) := ⟨rfl, rfl, rfl, by decide +kernel, rfl, by decide +kernel, by decide +kernel⟩
def t_Zigzag___init__ (K : PySem.W.Frag) : TS :=
  (tSeq (sFld K (tVar 0) (tCB (rLstL K) (tCons (tVar 1) tNil)) ("places" : Str))
    (sFld K (tVar 0) (tCB (rLstL K) (tCons (tVar 2) tNil)) ("cuts" : Str)))

theorem pure_Zigzag___init__ (K : PySem.W.Frag) (vs : List V) (H : Hp) (Q : VK) (E : XK) (h : sp_Zigzag___init__ K vs H Q E) : t_Zigzag___init__ K { nx := fun _ H' => Q .non H', rt := Q } (start N_Zigzag___init__ vs) H := by
  obtain ⟨H0, x, dx, a, b, C, z, rfl, zc, hx, h0, e0, ra, rb, k⟩ := h
  refine (erf_list (K := K) (as := z.ps) (σ := start N_Zigzag___init__ [.ref x, a, b]) (er_var rfl (up ra e0))) H (Ex.refl H) _ fun p H1 hp e1 o1 => ⟨.ref x, rfl, x, C, dx, [], rfl, e1 _ _ hx, zc.cl, zc.nP, by decide, ?_⟩
  have x0 : ∀ {p' : Addr} {o : HO}, H0 p' = some o → p' ≠ x := fun q z => by rw [z, h0] at q; cases q
  have e2 : Ex H0 (upd H1 x (.ins C dx (putF "places" (.ref p) []))) := fun q o hq => by rw [upd_ne (x0 hq)]; exact e1 _ _ (e0 _ _ hq)
  refine (erf_list (K := K) (as := z.cs) (σ := start N_Zigzag___init__ [.ref x, a, b]) (er_var rfl (up rb e2))) _ (Ex.refl _) _ fun r H2 hr e3 o2 => ⟨.ref x, rfl, x, C, dx, putF "places" (.ref p) [], rfl, e3 _ _ upd_same, zc.cl, zc.nC, by show 1 < 1000; decide, ?_⟩
  have px : p ≠ x := fun z => by rw [z, hx] at hp; cases hp
  have rx : r ≠ x := fun z => by rw [z, upd_same] at hr; cases hr
  have hp1 := own_int o1
  have rp : r ≠ p := fun z => by
    rw [z, upd_ne px, hp1] at hr
    cases hr
  refine k p r _ hp ?_ (Ne.symm rp) (fun q o hq => ?_) ⟨C, dx, zc, upd_same, ?_, ?_⟩
  · have hr1 : H1 r = none := by rw [upd_ne rx] at hr; exact hr
    exact fresh_back e1 hr1
  · rw [upd_ne (x0 hq)]
    exact e3 _ _ (e2 _ _ hq)
  · rw [upd_ne px]
    exact e3 _ _ (by rw [upd_ne px]; exact hp1)
  · rw [upd_ne rx]
    exact own_int o2
theorem ok_Zigzag___init__ {f : Addr} {fd : FuncData} (F : Fun K "__init__" "Zigzag.__init__" s_Zigzag___init__ f fd) (T : Bi mg) : FnOk P w K mg base CX0 1 f fd ["self", "places", "cuts"] (sp_Zigzag___init__ K) :=
  F.ok sc_Zigzag___init__ (fun vs H Q E h => by first | exact len_pr1 h | exact len_pr2 h | exact len_pr3 h | exact len_prF1 h | exact len_prF2 h | exact len_Zigzag___init__ h) (fun cdv A outer s H vs Q E hr h => ⟨t_Zigzag___init__ K, by exact
    ((pss_cons (ps_fld (pv 0) (pe_callTy cLstL (by rfl) T.list_ (by decide +kernel) (pa_cons (pv 1) pa_nil)) rfl)
      (pss_one (ps_fld (pv 0) (pe_callTy cLstL (by rfl) T.list_ (by decide +kernel) (pa_cons (pv 2) pa_nil)) rfl)))), pure_Zigzag___init__ K vs H Q E h⟩)

/-! ### shows -/
def sp_Zigzag_shows (K : PySem.W.Frag) : Sp := Pr2 K (fun (z : Zz) (row : List Int) => row.length ≤ 1000 ∧ z.ps.length ≤ 1000 ∧ z.cs.length ≤ 1000) fun z row => showsB row z
abbrev s_Zigzag_shows : Stmt := inClass (topS 11) 1
abbrev N_Zigzag_shows : List Str := ["self", "row", "ends", "k"]
theorem sc_Zigzag_shows : FnScope N_Zigzag_shows ["self", "row"] (defScope s_Zigzag_shows) := ⟨rfl, rfl, rfl, by decide +kernel, rfl, by decide +kernel, by decide +kernel⟩
def t_Zigzag_shows (K : PySem.W.Frag) : TS :=
  (tSeq (tIfS (tOr (tNot (tB (tCall (sp_are_places K) [] E0 (tCons (tVar 1) (tCons (tFld K (tVar 0) ("places" : Str)) tNil))))) (tOr (tNot (tB (tCall (sp_are_places K) [] E0 (tCons (tVar 1) (tCons (tFld K (tVar 0) ("cuts" : Str)) tNil))))) (tNot (tB (tCall (sp_is_zigzag K) [] E0 (tCons (tVar 1) (tCons (tFld K (tVar 0) ("places" : Str)) tNil))))))) (tRet (tC (.bl false))) tNext)
    (tSeq (tIfS (tOr (tTest (tOp rEqI (tCB (rLenL K) (tCons (tVar 1) tNil)) (tC (.int 0)))) (tTest (tOp rEqI (tCB (rMinL K) (tCons (tVar 1) tNil)) (tCB (rMaxL K) (tCons (tVar 1) tNil))))) (tRet (tAndV (tOp rEqI (tCB (rLenL K) (tCons (tFld K (tVar 0) ("places" : Str)) tNil)) (tCB rMin2' (tCons (tC (.int 1)) (tCons (tCB (rLenL K) (tCons (tVar 1) tNil)) tNil)))) (tOp rEqI (tCB (rLenL K) (tCons (tFld K (tVar 0) ("cuts" : Str)) tNil)) (tC (.int 0))))) tNext)
    (tSeq (tAsg (tOp rCat (tOp rCat (tLst (tCons (tC (.int 0)) tNil)) (tFld K (tVar 0) ("cuts" : Str))) (tLst (tCons (tOp rSubI (tCB (rLenL K) (tCons (tVar 1) tNil)) (tC (.int 1))) tNil))) (gName 2))
    (tSeq (tFor (iRng2 (tCons (tC (.int 1)) (tCons (tCB (rLenL K) (tCons (tVar 2) tNil)) tNil))) (gName 3) (tIfS (tNot (tB (tCall (sp_is_even K) [] E0 (tCons (tVar 1) (tCons (tOp (rIxL K) (tVar 2) (tOp rSubI (tVar 3) (tC (.int 1)))) (tCons (tOp (rIxL K) (tVar 2) (tVar 3)) tNil)))))) (tRet (tC (.bl false))) tNext))
    (tRet (tOp rEqI (tCB (rLenL K) (tCons (tFld K (tVar 0) ("places" : Str)) tNil)) (tOp rAddI (tCB (rLenL K) (tCons (tFld K (tVar 0) ("cuts" : Str)) tNil)) (tC (.int 2)))))))))

theorem flat_iff {row : List Int} (h : row ≠ []) : flatRow row = (minI row == maxI row) := by
  unfold flatRow
  rw [decide_eq_false h, Bool.false_or]
theorem len_zero (row : List Int) : ((row.length : Int) == 0) = decide (row = []) := by
  rw [Bool.eq_iff_iff, beq_iff_eq, decide_eq_true_iff]
  constructor
  · intro h; exact List.length_eq_zero_iff.mp (by omega)
  · intro h; rw [h]; rfl
theorem all_succ {f : Nat → Bool} (n : Nat) : (List.range (n + 1)).all f = ((List.range n).all f && f n) := by
  rw [List.range_succ, List.all_append]
  simp
theorem et_are {K : PySem.W.Frag} {σ : L2.St} {H : Hp} {ta tb : TE} {row ps : List Int} (h1 : Er K ta σ H row) (h2 : Er K tb σ H ps) (hl : row.length ≤ 1000) (hl2 : ps.length ≤ 1000) :
    Et K (tNot (tB (tCall (sp_are_places K) [] E0 (tCons ta (tCons tb tNil))))) σ H (!arePl row.length (-1) ps) := et_not' (et_v (er_call2 (f := fun (row ps : List Int) => arePl row.length (-1) ps) (a := row) (b := ps) h1 h2 ⟨hl, hl2⟩))
theorem pure_Zigzag_shows (K : PySem.W.Frag) (vs : List V) (H : Hp) (Q : VK) (E : XK) (h : sp_Zigzag_shows K vs H Q E) : t_Zigzag_shows K { nx := fun _ H' => Q .non H', rt := Q } (start N_Zigzag_shows vs) H := by
  obtain ⟨v, w, z, row, rfl, rz, r, ⟨hl, hp, hc⟩, q⟩ := h
  refine Gx.here (K := K) (q_when (b := (!arePl row.length (-1) z.ps || (!arePl row.length (-1) z.cs || !turnsR (numsAt row z.ps))))
    (et_or' (et_are (er_var rfl r) (er_fldP (er_var rfl rz)) hl hp) fun h1 => et_or' (et_are (er_var rfl r) (er_fldC (er_var rfl rz)) hl hc) fun _ =>
      et_not' (et_v (er_call2 (f := fun row ps => turnsR (numsAt row ps)) (a := row) (b := z.ps) (er_var rfl r) (er_fldP (er_var rfl rz)) ⟨hl, hp, fun p hpp => ?_⟩))) (fun hb => ?_) fun hb => ?_)
  · have h2 := (arePl_iff _ _ _).mp (by simpa using h1)
    have := h2.1 p hpp
    omega
  · refine g_ret (a := false) er_bl fun u H1 e1 ru => q u H1 e1 ?_
    have : showsB row z = false := by
      unfold showsB
      revert hb
      cases arePl row.length (-1) z.ps <;> cases arePl row.length (-1) z.cs <;> cases turnsR (numsAt row z.ps) <;> simp
    show Rep.rep K H1 u (showsB row z)
    rw [this]; exact ru
  · have hs : arePl row.length (-1) z.cs = true ∧ showsB row z = (if flatRow row then decide (z.ps.length = min 1 row.length) && decide (z.cs = []) else evensB row z.cs && decide (z.ps.length = z.cs.length + 2)) := by
      unfold showsB
      revert hb
      cases arePl row.length (-1) z.ps <;> cases arePl row.length (-1) z.cs <;> cases turnsR (numsAt row z.ps) <;> simp
    obtain ⟨hcs, hs⟩ := hs
    refine q_when (b := flatRow row) ((et_or' (a := decide (row = [])) (b := (minI row == maxI row)) (et_e ((er_eqi (er_lenL (er_var rfl r)) er_int).to (len_zero row))) fun h0 => et_e (er_eqi (er_minL (er_var rfl r) (of_decide_eq_false h0)) (er_maxL (er_var rfl r) (of_decide_eq_false h0))))) (fun hf => ?_) fun hf => ?_
    · refine g_ret (a := showsB row z) ((er_and (er_eqi (er_lenL (er_fldP (er_var rfl rz))) (er_min2 er_int (er_lenL (er_var rfl r)))) fun _ => er_eqi (er_lenL (er_fldC (er_var rfl rz))) er_int).to ?_) q
      rw [hs, hf, if_pos rfl, len_zero]
      congr 1
      rw [Bool.eq_iff_iff, beq_iff_eq, decide_eq_true_iff]
      split <;> omega
    · have hne : row ≠ [] := by
        intro e
        unfold flatRow at hf
        rw [decide_eq_true e] at hf
        cases hf
      rw [hf, if_neg Bool.false_ne_true] at hs
      have hlen : (endsR row.length z.cs).length = z.cs.length + 2 := by unfold endsR; simp
      refine q_asgF (as := endsR row.length z.cs) (erf_catI (ErF.lo (erf_catI (ErF.lo (erf_lst (eal_cons er_int eal_nil) (by decide))) (er_loC (er_var rfl rz)) (by simp; omega))) (ErF.lo (erf_lst (eal_cons (er_sub (er_lenL (er_var rfl r)) er_int) eal_nil) (by show 1 ≤ 100000; decide))) (by simp; omega)) fun p H1 hp1 e1 o1 => ?_
      refine q_forR (lo := 1) (n := z.cs.length + 1) ((rng2 er_int (er_lenL (er_var rfl o1.rep)) (by omega) (by omega) (by omega) (by omega)).to (by rw [hlen]; omega)) (fun i σ H' => ∃ x3 : Option V, σ = [some v, some w, some (.ref p), x3] ∧ Ex H1 H' ∧
        (List.range i).all (fun k => evenB row (eAt (endsR row.length z.cs) k) (eAt (endsR row.length z.cs) (k + 1))) = true) (fun H2 e2 => ⟨none, rfl, e2, rfl⟩) ?_ ?_
      · rintro i σ H' hi ⟨x3, rfl, e, hall⟩
        obtain ⟨q1, q2, q3⟩ := ends_ok hcs hne hi
        have ok := o1.up e
        refine g_if (b := !evenB row (eAt (endsR row.length z.cs) i) (eAt (endsR row.length z.cs) (i + 1))) (et_not' (et_v (er_call3 (f := fun row a b => evenB row a.toNat b.toNat) (a := row) (b := (endsR row.length z.cs).getD i 0) (c := (endsR row.length z.cs).getD (i + 1) 0) (er_var rfl (up r (e1.trans e)))
          (er_ixL (er_var rfl ok.rep) (er_sub (er_var rfl rfl) er_int) (at_getD (by omega) (by rw [hlen]; omega))) (er_ixL (er_var rfl ok.rep) (er_var rfl rfl) (at_getD (by omega) (by rw [hlen]; omega))) ⟨hl, q1, q2, q3⟩))) (fun hb => ?_) fun hb => ?_
        · refine g_ret (a := false) er_bl fun u H2 e2 ru => q u H2 ((e1.trans e).trans e2) ?_
          have : evensB row z.cs = false := by
            rw [Bool.eq_false_iff]
            intro hq
            unfold evensB at hq
            rw [List.all_eq_true] at hq
            have := hq i (List.mem_range.mpr hi)
            rw [this] at hb
            cases hb
          show Rep.rep K H2 u (showsB row z)
          rw [hs, this]; exact ru
        · refine g_next fun H2 e2 => ⟨_, rfl, e.trans e2, ?_⟩
          rw [all_succ, hall]
          simpa using hb
      · rintro σ H' ⟨x3, rfl, e, hall⟩
        refine g_ret (a := showsB row z) ((er_eqi (er_lenL (er_fldP (er_var rfl (up rz (e1.trans e))))) (er_add (er_lenL (er_fldC (er_var rfl (up rz (e1.trans e))))) er_int)).to ?_) fun u H2 e2 => q u H2 ((e1.trans e).trans e2)
        rw [hs]
        unfold evensB
        rw [hall, Bool.true_and, Bool.eq_iff_iff, beq_iff_eq, decide_eq_true_iff]
        omega
theorem ok_Zigzag_shows {f f_are_places f_is_zigzag f_is_even : Addr} {fd fd_are_places fd_is_zigzag fd_is_even : FuncData} (F : Fun K "shows" "Zigzag.shows" s_Zigzag_shows f fd) (T : Bi mg) (c_are_places : Cal P w K mg base 2 "are_places" ["row", "places"] (sp_are_places K) f_are_places fd_are_places) (c_is_zigzag : Cal P w K mg base 2 "is_zigzag" ["row", "places"] (sp_is_zigzag K) f_is_zigzag fd_is_zigzag) (c_is_even : Cal P w K mg base 1 "is_even" ["row", "first", "last"] (sp_is_even K) f_is_even fd_is_even) : FnOk P w K mg base CX0 3 f fd ["self", "row"] (sp_Zigzag_shows K) :=
  F.ok sc_Zigzag_shows (fun vs H Q E h => by first | exact len_pr1 h | exact len_pr2 h | exact len_pr3 h | exact len_prF1 h | exact len_prF2 h | exact len_Zigzag_shows h) (fun cdv A outer s H vs Q E hr h => ⟨t_Zigzag_shows K, by exact
    ((pss_cons (ps_if (PW.pt (pw_or (pt_not (pt_val (pe_call c_are_places.ok (hr.mono (by decide)) (by rfl) c_are_places.g c_are_places.kp c_are_places.b .nil pass0 (pa_cons (pv 1) (pa_cons (pe_fld (pv 0) rfl) pa_nil))))) (pw_or (pt_not (pt_val (pe_call c_are_places.ok (hr.mono (by decide)) (by rfl) c_are_places.g c_are_places.kp c_are_places.b .nil pass0 (pa_cons (pv 1) (pa_cons (pe_fld (pv 0) rfl) pa_nil))))) (pw_or1 (pt_not (pt_val (pe_call c_is_zigzag.ok (hr.mono (by decide)) (by rfl) c_is_zigzag.g c_is_zigzag.kp c_is_zigzag.b .nil pass0 (pa_cons (pv 1) (pa_cons (pe_fld (pv 0) rfl) pa_nil))))))))) (pss_one (ps_ret pe_bl))
      pss_nil)
      (pss_cons (ps_if (PW.pt (pw_or (pt_cmpR oEqI (pe_callB cLenL (by rfl) T.len_ (by decide +kernel) (pa_cons (pv 1) pa_nil)) pe_int (nomark _)) (pw_or1 (pt_cmpR oEqI (pe_callB (cMinL rfl) (by rfl) T.min_ (by decide +kernel) (pa_cons (pv 1) pa_nil)) (pe_callB (cMaxL rfl) (by rfl) T.max_ (by decide +kernel) (pa_cons (pv 1) pa_nil)) (nomark _))))) (pss_one (ps_ret (pe_and (pe_cmpR oEqI (pe_callB cLenL (by rfl) T.len_ (by decide +kernel) (pa_cons (pe_fld (pv 0) rfl) pa_nil)) (pe_callB (cMin2 rfl) (by rfl) T.min_ (by decide +kernel) (pa_cons pe_int (pa_cons (pe_callB cLenL (by rfl) T.len_ (by decide +kernel) (pa_cons (pv 1) pa_nil)) pa_nil))) (nomark _)) (pe_one (pe_cmpR oEqI (pe_callB cLenL (by rfl) T.len_ (by decide +kernel) (pa_cons (pe_fld (pv 0) rfl) pa_nil)) pe_int (nomark _))))))
      pss_nil)
      (pss_cons (ps_set (i := 2) sc_Zigzag_shows.nd rfl (.inl rfl) (pe_op op_cat (pe_op op_cat (pe_lst (pa_cons pe_int pa_nil)) (pe_fld (pv 0) rfl)) (pe_lst (pa_cons (pe_op oSubI (pe_callB cLenL (by rfl) T.len_ (by decide +kernel) (pa_cons (pv 1) pa_nil)) pe_int) pa_nil))))
      (pss_cons (ps_for PassesOwn.never rfl (pi_range2 (by rfl) T.range_ (pa_cons pe_int (pa_cons (pe_callB cLenL (by rfl) T.len_ (by decide +kernel) (pa_cons (pv 2) pa_nil)) pa_nil))) (pg_name (i := 3) sc_Zigzag_shows.nd rfl (.inl rfl))
      (pss_one (ps_if (pt_not (pt_val (pe_call c_is_even.ok (hr.mono (by decide)) (by rfl) c_is_even.g c_is_even.kp c_is_even.b .nil pass0 (pa_cons (pv 1) (pa_cons (pe_ix ix_list (pv 2) (pe_op oSubI (pv 3) pe_int) (fun _ _ => rfl)) (pa_cons (pe_ix ix_list (pv 2) (pv 3) (fun _ _ => rfl)) pa_nil)))))) (pss_one (ps_ret pe_bl))
      pss_nil)))
      (pss_one (ps_ret (pe_cmpR oEqI (pe_callB cLenL (by rfl) T.len_ (by decide +kernel) (pa_cons (pe_fld (pv 0) rfl) pa_nil)) (pe_op oAddI (pe_callB cLenL (by rfl) T.len_ (by decide +kernel) (pa_cons (pe_fld (pv 0) rfl) pa_nil)) pe_int) (nomark _))))))))), pure_Zigzag_shows K vs H Q E h⟩)

/-! ### the longest -/
def zzStep (row ps : List Int) (i : Nat) : List Int :=
  if ps.length = 0 then ps ++ [(i : Int)]
  else if row.getD i 0 = row.getD (ps.getD (ps.length - 1) 0).toNat 0 then ps
  else if 1 < ps.length ∧ (decide (row.getD (ps.getD (ps.length - 1) 0).toNat 0 < row.getD i 0) = decide (row.getD (ps.getD (ps.length - 2) 0).toNat 0 < row.getD (ps.getD (ps.length - 1) 0).toNat 0)) then ps.set (ps.length - 1) (i : Int)
  else ps ++ [(i : Int)]
def zzN (row : List Int) : Nat → List Int
  | 0 => []
  | i + 1 => zzStep row (zzN row i) i
def zzP (row : List Int) : Zz := ⟨zzN row row.length, cutL (zzN row row.length) (some 1) (some (-1))⟩
theorem zzStep_in {row ps : List Int} {i : Nat} (h : ∀ p ∈ ps, 0 ≤ p ∧ p < (i : Int)) (hl : ps.length ≤ i) : (∀ p ∈ zzStep row ps i, 0 ≤ p ∧ p < ((i + 1 : Nat) : Int)) ∧ (zzStep row ps i).length ≤ i + 1 := by
  have h' : ∀ p ∈ ps, 0 ≤ p ∧ p < ((i + 1 : Nat) : Int) := fun p hp => by have := h p hp; omega
  have ha : ∀ p ∈ ps ++ [(i : Int)], 0 ≤ p ∧ p < ((i + 1 : Nat) : Int) := fun p hp => by
    rcases List.mem_append.mp hp with e | e
    · exact h' p e
    · rw [List.mem_singleton.mp e]; omega
  unfold zzStep
  split
  · exact ⟨ha, by simp; omega⟩
  · split
    · exact ⟨h', by omega⟩
    · split
      · refine ⟨fun p hp => ?_, by rw [List.length_set]; omega⟩
        rcases List.mem_or_eq_of_mem_set hp with e | e
        · exact h' p e
        · rw [e]; omega
      · exact ⟨ha, by simp; omega⟩
theorem zzN_in (row : List Int) : ∀ i, (∀ p ∈ zzN row i, 0 ≤ p ∧ p < (i : Int)) ∧ (zzN row i).length ≤ i
  | 0 => ⟨fun p hp => by simp [zzN] at hp, Nat.le_refl _⟩
  | i + 1 => zzStep_in (zzN_in row i).1 (zzN_in row i).2
theorem atI_neg2 {as : List Int} (h : 1 < as.length) : atI as (-2) = some (as.getD (as.length - 2) 0) := by
  unfold atI ixN
  rw [if_neg (by omega), if_pos (by omega)]
  show as[((-2 : Int) + (as.length : Int)).toNat]? = _
  rw [show ((-2 : Int) + (as.length : Int)).toNat = as.length - 2 by omega, List.getD_eq_getElem?_getD, List.getElem?_eq_getElem (by omega)]
  rfl
theorem atI_neg1' {as : List Int} (h : 0 < as.length) : atI as (-1) = some (as.getD (as.length - 1) 0) := by
  refine atI_neg1 ?_
  rw [List.getLast?_eq_getElem?, List.getD_eq_getElem?_getD, List.getElem?_eq_getElem (by omega)]
  rfl
theorem getD_in {as : List Int} {j : Nat} (h : j < as.length) : as.getD j 0 ∈ as := by
  rw [List.getD_eq_getElem?_getD, List.getElem?_eq_getElem h]
  exact List.getElem_mem h
theorem ixN_neg1 {n : Nat} (h : 0 < n) : ixN n (-1) = some (n - 1) := by
  unfold ixN
  rw [if_neg (by omega), if_pos (by omega)]
  congr 1
  omega
def sp_longest (K : PySem.W.Frag) : Sp := PrZ1 K (fun row : List Int => row.length ≤ 1000) zzP
theorem len_longest {K : PySem.W.Frag} {vs : List V} {H : Hp} {Q : VK} {E : XK} (h : sp_longest K vs H Q E) : vs.length = 1 := len_prZ1 h
abbrev s_longest : Stmt := topS 13
abbrev N_longest : List Str := ["row", "places", "place", "number", "rises"]
theorem sc_longest : FnScope N_longest ["row"] (defScope s_longest) := ⟨rfl, rfl, rfl, by decide +kernel, rfl, by decide +kernel, by decide +kernel⟩
def t_longest (K : PySem.W.Frag) (C_Zigzag : Addr) : TS :=
  (tSeq (tDrop (tCall (sp_check_row K) [] E0 (tCons (tVar 0) tNil)))
    (tSeq (tAsg (tLst tNil) (gName 1))
    (tSeq (tFor (iEnum K (tCons (tVar 0) tNil)) (gTup K 2 (gCons (gName 2) (gCons (gName 3) gNil))) (tIfS (tTest (tOp rEqI (tCB (rLenL K) (tCons (tVar 1) tNil)) (tC (.int 0)))) (tDrop (tBM K "list" rAppend (tVar 1) (tCons (tVar 2) tNil))) (tIfS (tTest (tOp rNeI (tVar 3) (tOp (rIxL K) (tVar 0) (tOp (rIxL K) (tVar 1) (tUn rNegI (tC (.int 1))))))) (tSeq (tAsg (tOp rGtI (tVar 3) (tOp (rIxL K) (tVar 0) (tOp (rIxL K) (tVar 1) (tUn rNegI (tC (.int 1)))))) (gName 4))
    (tIfS (tAnd (tTest (tOp rGtI (tCB (rLenL K) (tCons (tVar 1) tNil)) (tC (.int 1)))) (tTest (tOp rEqB (tVar 4) (tOp rGtI (tOp (rIxL K) (tVar 0) (tOp (rIxL K) (tVar 1) (tUn rNegI (tC (.int 1))))) (tOp (rIxL K) (tVar 0) (tOp (rIxL K) (tVar 1) (tUn rNegI (tC (.int 2))))))))) (tAsg (tVar 2) (gSub (tVar 1) (tUn rNegI (tC (.int 1))) rSetL)) (tDrop (tBM K "list" rAppend (tVar 1) (tCons (tVar 2) tNil))))) tNext)))
    (tRet (tMake C_Zigzag (sp_Zigzag___init__ K) [] E0 (tCons (tVar 1) (tCons (tSl (rSlL K) (tVar 1) (tPart (tC (.int 1))) (tPart (tUn rNegI (tC (.int 1))))) tNil)))))))

theorem pure_longest (K : PySem.W.Frag) (C_Zigzag : Addr) (hZ : ZC K C_Zigzag) (vs : List V) (H : Hp) (Q : VK) (E : XK) (h : sp_longest K vs H Q E) : t_longest K C_Zigzag { nx := fun _ H' => Q .non H', rt := Q } (start N_longest vs) H := by
  obtain ⟨v, row, rfl, r, hl, q⟩ := h
  refine Gx.here (K := K) (q_drop (a := ()) (er_call1 (f := fun _ => ()) (a := row) (er_var rfl r) hl) ?_)
  refine q_asgF (as := ([] : List Int)) (erf_lst eal_nil (by decide)) fun p H1 hp e1 o1 => ?_
  refine q_forE (B := H) (fun i σ H' => ∃ x2 x3 x4 : Option V, σ = [some v, some (.ref p), x2, x3, x4] ∧ Ex H H' ∧ Own K H' p (zzN row i)) rfl r e1 (fun H2 e2 => ⟨none, none, none, rfl, e1.trans e2, o1.up e2⟩) (fun i σ H' ⟨_, _, _, _, e, _⟩ => e) (fun i σ H' H'' ⟨x2, x3, x4, h1, h2, h3⟩ e => ⟨x2, x3, x4, h1, h2.trans e, h3.up e⟩) ?_ ?_
  · rintro i a va σ H' ha ra ⟨x2, x3, x4, rfl, e, o⟩
    obtain rfl : va = .int a := ra
    have hi : i < row.length := (List.getElem?_eq_some_iff.mp ha).1
    have ea : a = row.getD i 0 := by rw [List.getD_eq_getElem?_getD, ha]; rfl
    obtain ⟨hin, hlen⟩ := zzN_in row i
    have hstep : zzN row (i + 1) = zzStep row (zzN row i) i := rfl
    generalize zzN row i = ps at o hin hlen hstep
    have eR := up r e
    refine g_if (b := ((ps.length : Int) == 0)) (et_e (er_eqi (er_lenL (er_var rfl o.rep)) er_int)) (fun hb => ?_) fun hb => ?_
    · rw [beq_iff_eq] at hb
      refine g_app (a := (i : Int)) o rfl (er_var rfl rfl) (by omega) fun H2 eb o2 => g_next fun H3 e3 => ⟨_, _, _, rfl, (eb.ex e hp).trans e3, ?_⟩
      rw [hstep]
      unfold zzStep
      rw [if_pos (by omega)]
      exact o2.up e3
    · rw [beq_eq_false_iff_ne] at hb
      have hpos : 0 < ps.length := by omega
      have m1 := hin _ (getD_in (as := ps) (j := ps.length - 1) (by omega))
      have lastE : ∀ {x3 x4 : Option V} {H2 : Hp}, Ex H' H2 → Er K (tOp (rIxL K) (tVar 0) (tOp (rIxL K) (tVar 1) (tUn rNegI (tC (.int 1))))) [some v, some (.ref p), some (.int (i : Nat)), x3, x4] H2 (row.getD (ps.getD (ps.length - 1) 0).toNat 0) := fun e2 =>
        er_ixL (er_var rfl (up eR e2)) (er_ixL (er_var rfl (o.up e2).rep) (er_neg er_int) (atI_neg1' hpos)) (at_num m1.1 (by omega))
      refine g_if (b := !(a == row.getD (ps.getD (ps.length - 1) 0).toNat 0)) (et_e (er_nei (er_var rfl rfl) (lastE (Ex.refl _)))) (fun hne => ?_) fun heq => g_next fun H2 e2 => ⟨_, _, _, rfl, e.trans e2, ?_⟩
      · have hne' : ¬ row.getD i 0 = row.getD (ps.getD (ps.length - 1) 0).toNat 0 := by
          intro z
          rw [ea, z] at hne
          simp at hne
        refine q_asgB (a := decide (row.getD (ps.getD (ps.length - 1) 0).toNat 0 < a)) (er_gt (er_var rfl rfl) (lastE (Ex.refl _))) ?_
        refine g_if (b := (decide (1 < (ps.length : Int)) && (decide (row.getD (ps.getD (ps.length - 1) 0).toNat 0 < a) == decide (row.getD (ps.getD (ps.length - 2) 0).toNat 0 < row.getD (ps.getD (ps.length - 1) 0).toNat 0)))) (et_and' (et_e (er_gt (er_lenL (er_var rfl o.rep)) er_int)) fun h1 => et_e (er_eqb (er_var rfl rfl) (er_gt (lastE (Ex.refl _)) ?_))) (fun hc => ?_) fun hc => ?_
        · have h1' : 1 < ps.length := by have := of_decide_eq_true h1; omega
          have m2 := hin _ (getD_in (as := ps) (j := ps.length - 2) (by omega))
          exact er_ixL (er_var rfl eR) (er_ixL (er_var rfl o.rep) (er_neg er_int) (atI_neg2 h1')) (at_num m2.1 (by omega))
        · simp only [Bool.and_eq_true, decide_eq_true_eq, beq_iff_eq] at hc
          refine g_setI (a := (i : Int)) o rfl (er_var rfl rfl) (er_neg er_int) (ixN_neg1 hpos) fun H2 eb o2 => g_next fun H3 e3 => ⟨_, _, _, rfl, (eb.ex e hp).trans e3, ?_⟩
          rw [hstep]
          unfold zzStep
          rw [if_neg (by omega), if_neg hne', if_pos ⟨by omega, by rw [← ea]; exact hc.2⟩]
          exact o2.up e3
        · refine g_app (a := (i : Int)) o rfl (er_var rfl rfl) (by omega) fun H2 eb o2 => g_next fun H3 e3 => ⟨_, _, _, rfl, (eb.ex e hp).trans e3, ?_⟩
          rw [hstep]
          unfold zzStep
          rw [if_neg (by omega), if_neg hne', if_neg]
          · exact o2.up e3
          · rintro ⟨k1, k2⟩
            rw [← ea] at k2
            rw [k2] at hc
            simp at hc
            omega
      · have heq' : row.getD i 0 = row.getD (ps.getD (ps.length - 1) 0).toNat 0 := by
          rw [← ea]
          simpa using heq
        rw [hstep]
        unfold zzStep
        rw [if_neg (by omega), if_pos heq']
        exact o.up e2
  · rintro σ H' ⟨x2, x3, x4, rfl, e, o⟩
    refine g_retZ (z := zzP row) (erz_make hZ (er_var rfl o.rep) (ErF.er (erf_sl (er_var rfl o.rep) (eo_at er_int) (eo_at (er_neg er_int))))) fun x p' q' H2 n e2 za => q x p' q' H2 (n.back e) (e.trans e2) za
theorem ok_longest {f f_check_row f_Zigzag___init__ C_Zigzag : Addr} {fd fd_check_row fd_Zigzag___init__ : FuncData} (F : Fun K "longest" "longest" s_longest f fd) (T : Bi mg) (hZ : ZC K C_Zigzag) (c_check_row : Cal P w K mg base 2 "check_row" ["row"] (sp_check_row K) f_check_row fd_check_row) (m_Zigzag : Mkr K mg "Zigzag" C_Zigzag f_Zigzag___init__ fd_Zigzag___init__ ["self", "places", "cuts"]) (c_Zigzag___init__ : FnOk P w K mg base CX0 1 f_Zigzag___init__ fd_Zigzag___init__ ["self", "places", "cuts"] (sp_Zigzag___init__ K)) : FnOk P w K mg base CX0 3 f fd ["row"] (sp_longest K) :=
  F.ok sc_longest (fun vs H Q E h => by first | exact len_pr1 h | exact len_pr2 h | exact len_pr3 h | exact len_prF1 h | exact len_prF2 h | exact len_longest h) (fun cdv A outer s H vs Q E hr h => ⟨t_longest K C_Zigzag, by exact
    ((pss_cons (ps_expr (pe_call c_check_row.ok (hr.mono (by decide)) (by rfl) c_check_row.g c_check_row.kp c_check_row.b .nil pass0 (pa_cons (pv 0) pa_nil)))
      (pss_cons (ps_set (i := 1) sc_longest.nd rfl (.inl rfl) (pe_lst pa_nil))
      (pss_cons (ps_for PassesOwn.never rfl (pi_enum (by rfl) T.enumerate_ (pa_cons (pv 0) pa_nil)) (pg_tup rfl (pgs_cons (pg_name (i := 2) sc_longest.nd rfl (.inl rfl)) (pgs_cons (pg_name (i := 3) sc_longest.nd rfl (.inl rfl)) pgs_nil)))
      (pss_one (ps_if (pt_cmpR oEqI (pe_callB cLenL (by rfl) T.len_ (by decide +kernel) (pa_cons (pv 1) pa_nil)) pe_int (nomark _)) (pss_one (ps_expr (pe_bm PySem.F.plainAttrs_list PySem.F.slot_list_append PySem.F.type_list_append mt_append (pv 1) (pa_cons (pv 2) pa_nil))))
      (pss_one (ps_if (pt_cmpR oNeI (pv 3) (pe_ix ix_list (pv 0) (pe_ix ix_list (pv 1) (pe_un oNegI pe_int) (fun _ _ => rfl)) (fun _ _ => rfl)) (nomark _)) (pss_cons (ps_set (i := 4) sc_longest.nd rfl (.inl rfl) (pe_cmpR oGtI (pv 3) (pe_ix ix_list (pv 0) (pe_ix ix_list (pv 1) (pe_un oNegI pe_int) (fun _ _ => rfl)) (fun _ _ => rfl)) (nomark _)))
      (pss_one (ps_if (PW.pt (pw_and (pt_cmpR oGtI (pe_callB cLenL (by rfl) T.len_ (by decide +kernel) (pa_cons (pv 1) pa_nil)) pe_int (nomark _)) (pw_and1 (pt_cmpR oEqB (pv 4) (pe_cmpR oGtI (pe_ix ix_list (pv 0) (pe_ix ix_list (pv 1) (pe_un oNegI pe_int) (fun _ _ => rfl)) (fun _ _ => rfl)) (pe_ix ix_list (pv 0) (pe_ix ix_list (pv 1) (pe_un oNegI pe_int) (fun _ _ => rfl)) (fun _ _ => rfl)) (nomark _)) (nomark _))))) (pss_one (ps_asg (pv 2) (pg_sub (pv 1) (pe_un oNegI pe_int) set_list)))
      (pss_one (ps_expr (pe_bm PySem.F.plainAttrs_list PySem.F.slot_list_append PySem.F.type_list_append mt_append (pv 1) (pa_cons (pv 2) pa_nil)))))))
      pss_nil)))))
      (pss_one (ps_ret (pe_make m_Zigzag.made c_Zigzag___init__ (hr.mono (by decide)) (by rfl) m_Zigzag.g m_Zigzag.b .nil pass0 (pa_cons (pv 1) (pa_cons (pe_slice sl_list (pv 1) (po_some pe_int) (po_some (pe_un oNegI pe_int))) pa_nil))))))))), pure_longest K C_Zigzag hZ vs H Q E h⟩)


/-! ### the law's cells and draws -/
def cellAt (s : List Int) (k : Int) : Int := if k < (s.length : Int) then s.getD k.toNat 0 else 0
def sp_l_cell_at (K : PySem.W.Frag) : Sp := Pr2 K (fun (_ : List Int) (k : Int) => 0 ≤ k) cellAt
abbrev s_l_cell_at : Stmt := topS 15
abbrev N_l_cell_at : List Str := ["_law_script", "_law_k"]
theorem sc_l_cell_at : FnScope N_l_cell_at ["_law_script", "_law_k"] (defScope s_l_cell_at) := ⟨rfl, rfl, rfl, by decide +kernel, rfl, by decide +kernel, by decide +kernel⟩
def t_l_cell_at (K : PySem.W.Frag) : TS :=
  (tSeq (tIfS (tTest (tOp rLtI (tVar 1) (tCB (rLenL K) (tCons (tVar 0) tNil)))) (tRet (tOp (rIxL K) (tVar 0) (tVar 1))) tNext)
    (tRet (tC (.int 0))))

theorem pure_l_cell_at (K : PySem.W.Frag) (vs : List V) (H : Hp) (Q : VK) (E : XK) (h : sp_l_cell_at K vs H Q E) : t_l_cell_at K { nx := fun _ H' => Q .non H', rt := Q } (start N_l_cell_at vs) H := by
  obtain ⟨v, w, s, k, rfl, r1, r2, hk, q⟩ := h
  obtain rfl : w = .int k := r2
  refine Gx.here (K := K) (q_when (b := decide (k < (s.length : Int))) ?_ (fun hb => g_ret (a := cellAt s k) ?_ q) (fun hb => g_ret (a := cellAt s k) ?_ q))
  · walk_at "et"
  · have hb' : k < (s.length : Int) := of_decide_eq_true hb
    have hl : k.toNat < s.length := by omega
    have e : cellAt s k = s[k.toNat] := by
      unfold cellAt
      rw [if_pos hb', List.getD_eq_getElem?_getD, List.getElem?_eq_getElem hl]; rfl
    rw [e]
    walk_at "er"
    exact atI_ok hk hl
  · have hb' : ¬ k < (s.length : Int) := of_decide_eq_false hb
    have e : cellAt s k = 0 := if_neg hb'
    rw [e]
    walk_at "er"
theorem ok_l_cell_at {f : Addr} {fd : FuncData} (F : Fun K "_law_cell_at" "_law_cell_at" s_l_cell_at f fd) (T : Bi mg) : FnOk P w K mg base CX0 1 f fd ["_law_script", "_law_k"] (sp_l_cell_at K) :=
  F.ok sc_l_cell_at (fun vs H Q E h => by first | exact len_pr1 h | exact len_pr2 h | exact len_pr3 h | exact len_prF1 h | exact len_prF2 h | exact len_l_cell_at h) (fun cdv A outer s H vs Q E hr h => ⟨t_l_cell_at K, by exact
    ((pss_cons (ps_if (pt_cmpR oLtI (pv 1) (pe_callB cLenL (by rfl) T.len_ (by decide +kernel) (pa_cons (pv 0) pa_nil)) (nomark _)) (pss_one (ps_ret (pe_ix ix_list (pv 0) (pv 1) (fun _ _ => rfl))))
      pss_nil)
      (pss_one (ps_ret pe_int)))), pure_l_cell_at K vs H Q E h⟩)

def primes : List Int := [1000003, 1000033, 1000037, 1000039, 1000081, 1000099, 1000117, 1000121, 1000133, 1000151, 1000159, 1000171, 1000183, 1000187, 1000193, 1000199]
def drawI (c k m : Int) : Int := (c * 48271 + k * 69621) % primes.getD (k % 16).toNat 0 % m
theorem draw_lt (c k : Int) {m : Int} (h : 0 < m) : 0 ≤ drawI c k m ∧ drawI c k m < m := ⟨Int.emod_nonneg _ (by omega), Int.emod_lt_of_pos _ h⟩
def sp_l_draw (K : PySem.W.Frag) : Sp := Pr3 K (fun (_ _ m : Int) => 0 < m) drawI
abbrev s_l_draw : Stmt := topS 16
abbrev N_l_draw : List Str := ["_law_cell", "_law_k", "_law_many", "_law_primes"]
theorem sc_l_draw : FnScope N_l_draw ["_law_cell", "_law_k", "_law_many"] (defScope s_l_draw) := ⟨rfl, rfl, rfl, by decide +kernel, rfl, by decide +kernel, by decide +kernel⟩
def t_l_draw (K : PySem.W.Frag) : TS :=
  (tSeq (tAsg (tTup (tCons (tC (.int 1000003)) (tCons (tC (.int 1000033)) (tCons (tC (.int 1000037)) (tCons (tC (.int 1000039)) (tCons (tC (.int 1000081)) (tCons (tC (.int 1000099)) (tCons (tC (.int 1000117)) (tCons (tC (.int 1000121)) (tCons (tC (.int 1000133)) (tCons (tC (.int 1000151)) (tCons (tC (.int 1000159)) (tCons (tC (.int 1000171)) (tCons (tC (.int 1000183)) (tCons (tC (.int 1000187)) (tCons (tC (.int 1000193)) (tCons (tC (.int 1000199)) tNil))))))))))))))))) (gName 3))
    (tRet (tOp rModI (tOp rModI (tOp rAddI (tOp rMulI (tVar 0) (tC (.int 48271))) (tOp rMulI (tVar 1) (tC (.int 69621)))) (tOp (rIxT K) (tVar 3) (tOp rModI (tVar 1) (tC (.int 16))))) (tVar 2))))

theorem prime_at (k : Int) : atI primes (k % 16) = some (primes.getD (k % 16).toNat 0) ∧ 0 < primes.getD (k % 16).toNat 0 := by
  have h0 : 0 ≤ k % 16 := Int.emod_nonneg _ (by decide)
  have h1 : k % 16 < 16 := Int.emod_lt_of_pos _ (by decide)
  have hl : (k % 16).toNat < primes.length := by show (k % 16).toNat < 16; omega
  have all : ∀ j : Fin 16, 0 < primes.getD j.val 0 := by decide
  refine ⟨?_, all ⟨(k % 16).toNat, hl⟩⟩
  rw [List.getD_eq_getElem?_getD, List.getElem?_eq_getElem hl]
  exact atI_ok h0 hl
theorem pure_l_draw (K : PySem.W.Frag) (vs : List V) (H : Hp) (Q : VK) (E : XK) (h : sp_l_draw K vs H Q E) : t_l_draw K { nx := fun _ H' => Q .non H', rt := Q } (start N_l_draw vs) H := by
  obtain ⟨_, _, _, c, k, m, rfl, rfl, rfl, rfl, hm, q⟩ := h
  refine Gx.here (K := K) (q_asg (a := Tpl.mk primes) (er_tpl ?_ (by decide)) fun v H1 e r => g_ret (a := drawI c k m) ?_ fun v H2 e2 => q v H2 (e.trans e2))
  · unfold primes
    repeat (first | exact eal_nil | refine eal_cons er_int ?_)
  · unfold drawI
    walk_at "er"
    · exact (prime_at k).1
    · exact (prime_at k).2
theorem ok_l_draw {f : Addr} {fd : FuncData} (F : Fun K "_law_draw" "_law_draw" s_l_draw f fd) (T : Bi mg) : FnOk P w K mg base CX0 1 f fd ["_law_cell", "_law_k", "_law_many"] (sp_l_draw K) :=
  F.ok sc_l_draw (fun vs H Q E h => by first | exact len_pr1 h | exact len_pr2 h | exact len_pr3 h | exact len_prF1 h | exact len_prF2 h | exact len_l_draw h) (fun cdv A outer s H vs Q E hr h => ⟨t_l_draw K, by exact
    ((pss_cons (ps_set (i := 3) sc_l_draw.nd rfl (.inl rfl) (pe_tup (pa_cons pe_int (pa_cons pe_int (pa_cons pe_int (pa_cons pe_int (pa_cons pe_int (pa_cons pe_int (pa_cons pe_int (pa_cons pe_int (pa_cons pe_int (pa_cons pe_int (pa_cons pe_int (pa_cons pe_int (pa_cons pe_int (pa_cons pe_int (pa_cons pe_int (pa_cons pe_int pa_nil))))))))))))))))))
      (pss_one (ps_ret (pe_op oModI (pe_op oModI (pe_op oAddI (pe_op oMulI (pv 0) pe_int) (pe_op oMulI (pv 1) pe_int)) (pe_ix ix_tup (pv 3) (pe_op oModI (pv 1) pe_int) (fun _ _ => rfl))) (pv 2)))))), pure_l_draw K vs H Q E h⟩)


def sp_l_whole (K : PySem.W.Frag) : Sp := Pr1 K (fun (_ : Int) => True) fun _ => true
abbrev s_l_whole : Stmt := topS 20
abbrev N_l_whole : List Str := ["_law_number"]
theorem sc_l_whole : FnScope N_l_whole ["_law_number"] (defScope s_l_whole) := ⟨rfl, rfl, rfl, by decide +kernel, rfl, by decide +kernel, by decide +kernel⟩
def t_l_whole (K : PySem.W.Frag) : TS :=
  (tRet (tAndV (tCB (rIsi K) (tCons (tVar 0) (tCons (tC (.ty "int")) tNil))) (tNotV (tCB (rIsi K) (tCons (tVar 0) (tCons (tC (.ty "bool")) tNil))))))

theorem pure_l_whole (K : PySem.W.Frag) (vs : List V) (H : Hp) (Q : VK) (E : XK) (h : sp_l_whole K vs H Q E) : t_l_whole K { nx := fun _ H' => Q .non H', rt := Q } (start N_l_whole vs) H := by
  obtain ⟨_, c, rfl, rfl, _, q⟩ := h
  refine Gx.here (K := K) (g_ret (a := (true && !false)) (er_and (er_isi (er_var rfl rfl) (fun _ _ r => ty_int (a := c) r) (by decide +kernel)) fun _ => er_not (er_isi (er_var rfl rfl) (fun _ _ r => ty_int (a := c) r) (by decide +kernel))) q)
theorem ok_l_whole {f : Addr} {fd : FuncData} (F : Fun K "_law_whole" "_law_whole" s_l_whole f fd) (T : Bi mg) : FnOk P w K mg base CX0 1 f fd ["_law_number"] (sp_l_whole K) :=
  F.ok sc_l_whole (fun vs H Q E h => by first | exact len_pr1 h | exact len_pr2 h | exact len_pr3 h | exact len_prF1 h | exact len_prF2 h | exact len_l_whole h) (fun cdv A outer s H vs Q E hr h => ⟨t_l_whole K, by exact
    ((pss_one (ps_ret (pe_and (pe_callB cIsi (by rfl) T.isinstance_ (by decide +kernel) (pa_cons (pv 0) (pa_cons (pe_bltn (v := .ty "int") (by rfl) T.int_ (by decide +kernel) rfl) pa_nil))) (pe_one (pe_not (pe_callB cIsi (by rfl) T.isinstance_ (by decide +kernel) (pa_cons (pv 0) (pa_cons (pe_bltn (v := .ty "bool") (by rfl) T.bool_ (by decide +kernel) rfl) pa_nil))))))))), pure_l_whole K vs H Q E h⟩)


/-! ### the law's word: some word of at most 64 letters -/
def sp_l_word (K : PySem.W.Frag) : Sp := fun vs H Q _ => ∃ v s, vs = [v] ∧ Rep.rep K H v (s : List Int) ∧ s.length ≤ 63 ∧ ∀ (w : List Bool) H', w.length ≤ 64 → Ex H H' → Q (.str (tx w)) H'
theorem len_l_word {vs : List V} {H : Hp} {Q : VK} {E : XK} (h : sp_l_word K vs H Q E) : vs.length = 1 := by obtain ⟨_, _, rfl, _⟩ := h; rfl
abbrev s_l_word : Stmt := topS 17
abbrev N_l_word : List Str := ["_law_script", "_law_kind", "_law_word_here", "_law_k", "_law_left", "_law_cell"]
theorem sc_l_word : FnScope N_l_word ["_law_script"] (defScope s_l_word) := ⟨rfl, rfl, rfl, by decide +kernel, rfl, by decide +kernel, by decide +kernel⟩
def t_l_word (K : PySem.W.Frag) : TS :=
  (tSeq (tAsg (tSl (rSlL K) (tVar 0) tNoPart (tPart (tC (.int 63)))) (gName 0))
    (tSeq (tAsg (tCall (sp_l_draw K) [] E0 (tCons (tCall (sp_l_cell_at K) [] E0 (tCons (tVar 0) (tCons (tC (.int 0)) tNil))) (tCons (tC (.int 6)) (tCons (tC (.int 5)) tNil)))) (gName 1))
    (tSeq (tAsg (tM1 (rJoin K) (tC (.str ("" : Str))) (tLc (iList K (tVar 0)) (gName 5) tYes (tOp rIxS (tC (.str ("ud" : Str))) (tOp rModI (tVar 5) (tC (.int 2)))) [5])) (gName 2))
    (tCut (tIfS (tTest (tOp rEqI (tVar 1) (tC (.int 1)))) (tAsg (tM1 (rJoin K) (tC (.str ("" : Str))) (tLc (iEnum K (tCons (tVar 0) tNil)) (gTup K 2 (gCons (gName 3) (gCons (gName 5) gNil))) tYes (tIf (tTest (tOp rGtI (tOp rModI (tVar 5) (tC (.int 7))) (tC (.int 0)))) (tOp rIxS (tC (.str ("ud" : Str))) (tOp rModI (tVar 3) (tC (.int 2)))) (tOp rIxS (tC (.str ("du" : Str))) (tOp rModI (tVar 3) (tC (.int 2))))) [3, 5])) (gName 2)) tNext)
    (tCut (tIfS (tTest (tOp rEqI (tVar 1) (tC (.int 2)))) (tAsg (tSl rSlS (tM1 (rJoin K) (tC (.str ("" : Str))) (tLc (iList K (tVar 0)) (gName 5) tYes (tOp rMulT (tOp rIxS (tC (.str ("ud" : Str))) (tOp rModI (tOp rDivI (tVar 5) (tC (.int 2))) (tC (.int 2)))) (tOp rAddI (tC (.int 1)) (tOp rModI (tOp rDivI (tVar 5) (tC (.int 4))) (tC (.int 3))))) [5])) tNoPart (tPart (tC (.int 64)))) (gName 2)) tNext)
    (tCut (tIfS (tAnd (tTest (tOp rEqI (tVar 1) (tC (.int 3)))) (tTest (tOp (rNeD K) (tVar 0) (tLst tNil)))) (tSeq (tAsg (tOp rDivI (tOp (rIxL K) (tVar 0) (tUn rNegI (tC (.int 1)))) (tC (.int 3))) (gName 4))
    (tSeq (tFor (iRng1 (tCons (tCall (sp_l_draw K) [] E0 (tCons (tOp (rIxL K) (tVar 0) (tUn rNegI (tC (.int 1)))) (tCons (tC (.int 8)) (tCons (tC (.int 60)) tNil)))) tNil)) (gName 3) (tSeq (tAsg (tOp rAddT (tVar 2) (tOp rIxS (tC (.str ("ud" : Str))) (tOp rModI (tVar 4) (tC (.int 2))))) (gName 2))
    (tAsg (tOp rDivI (tVar 4) (tC (.int 2))) (gName 4))))
    (tAsg (tSl rSlS (tVar 2) tNoPart (tPart (tC (.int 64)))) (gName 2)))) tNext)
    (tRet (tVar 2))))))))

theorem ud_at (c : Int) : atI [true, false] (c % 2) = some (decide (c % 2 = 0)) := by
  have h0 : 0 ≤ c % 2 := Int.emod_nonneg _ (by decide)
  have h1 : c % 2 < 2 := Int.emod_lt_of_pos _ (by decide)
  rcases (by omega : c % 2 = 0 ∨ c % 2 = 1) with e | e <;> (rw [e]; rfl)
theorem du_at (c : Int) : atI [false, true] (c % 2) = some (!decide (c % 2 = 0)) := by
  have h0 : 0 ≤ c % 2 := Int.emod_nonneg _ (by decide)
  have h1 : c % 2 < 2 := Int.emod_lt_of_pos _ (by decide)
  rcases (by omega : c % 2 = 0 ∨ c % 2 = 1) with e | e <;> (rw [e]; rfl)
theorem er_ud {K : PySem.W.Frag} {σ : L2.St} {H : Hp} {tb : TE} {c : Int} (h : Er K tb σ H c) : Er K (tOp rIxS (tC (.str "ud")) (tOp rModI tb (tC (.int 2)))) σ H (tx [decide (c % 2 = 0)]) :=
  er_ixW (er_lit tx_ud) (er_mod h er_int (by decide)) (by decide) (ud_at c)
theorem er_du {K : PySem.W.Frag} {σ : L2.St} {H : Hp} {tb : TE} {c : Int} (h : Er K tb σ H c) : Er K (tOp rIxS (tC (.str "du")) (tOp rModI tb (tC (.int 2)))) σ H (tx [!decide (c % 2 = 0)]) :=
  er_ixW (er_lit tx_du) (er_mod h er_int (by decide)) (by decide) (du_at c)
theorem sum_le {α : Type} (f : α → Nat) (c : Nat) : ∀ l : List α, (∀ a ∈ l, f a ≤ c) → (l.map f).sum ≤ l.length * c
  | [], _ => by simp
  | a :: l, h => by
    have h1 := sum_le f c l fun b hb => h b (by simp [hb])
    have h2 := h a (by simp)
    rw [List.map_cons, List.sum_cons, List.length_cons, Nat.add_mul]
    omega
/-- a word stands in slot 2 -/
def MidW (K : PySem.W.Frag) (B : Hp) (s : List Int) (k : Int) (n : Nat) (σ : L2.St) (H : Hp) : Prop := ∃ (v : V) (w : List Bool) (x3 x4 x5 : Option V), σ = [some v, some (.int k), some (.str (tx w)), x3, x4, x5] ∧ Ex B H ∧ Rep.rep K H v s ∧ w.length ≤ n
theorem catW_len {α : Type} {l : List α} {f : α → Str} {n : Nat} (h : (l.map fun a => (f a).length).sum ≤ n) : ((l.map f).map (·.length)).sum ≤ n := by
  rw [List.map_map]; exact h
theorem cat_words {α : Type} (l : List α) (f : α → List Bool) : catS (l.map fun a => tx (f a)) = tx (l.flatMap f) := by
  have h := tx_cat (l.map f)
  rw [List.map_map] at h
  rw [List.flatMap_def]
  exact h
theorem flat_le {α β : Type} (f : α → List β) (c : Nat) (hf : ∀ a, (f a).length ≤ c) : ∀ l : List α, (l.flatMap f).length ≤ l.length * c
  | [] => by simp
  | a :: l => by
    have h1 := flat_le f c hf l
    have h2 := hf a
    rw [List.flatMap_cons, List.length_append, List.length_cons, Nat.add_mul]
    omega
theorem pure_l_word (K : PySem.W.Frag) (vs : List V) (H : Hp) (Q : VK) (E : XK) (h : sp_l_word K vs H Q E) : t_l_word K { nx := fun _ H' => Q .non H', rt := Q } (start N_l_word vs) H := by
  obtain ⟨v0, s0, rfl, r0, hl0, q⟩ := h
  -- the first sixty-three
  refine Gx.here (K := K) (q_asg (a := s0.take 63) ((ErF.er (erf_sl (er_var rfl r0) eo_no (eo_at er_int))).to (cutL_take s0 63)) fun v H1 e1 r => ?_)
  obtain ⟨s, es⟩ : ∃ s, s0.take 63 = s := ⟨_, rfl⟩
  have hl : s.length ≤ 63 := by rw [← es, List.length_take]; omega
  rw [es] at r
  refine q_asgI (a := drawI (cellAt s 0) 6 5) (er_call3 (er_call2 (a := s) (b := (0 : Int)) (er_var rfl r) er_int (by decide)) er_int er_int (by decide)) ?_
  generalize drawI (cellAt s 0) 6 5 = k
  -- any letters
  refine q_asgT (a := tx (s.map fun c => decide (c % 2 = 0))) ((er_join (ys := s.map fun c => tx [decide (c % 2 = 0)]) (by decide +kernel) (ErF.er (erf_lc (er_var rfl r) (by omega) (fun _ => rfl) fun i a v H2 _ _ ra => es_flat (er_ud (er_var rfl ra)))) (catW_len ?_)).to (tx_map _ _)) ?_
  · refine Nat.le_trans (sum_le _ 1 s fun a _ => ?_) (by omega)
    rw [tx_len]; exact Nat.le_refl _
  -- by turns but for some
  refine g_cut (MidW K H1 s k 63) (g_if (b := (k == 1)) (et_e (er_eqi (er_var rfl rfl) er_int)) (fun _ => ?_) fun _ => g_next fun H2 e2 => ⟨v, _, none, none, none, rfl, e2, up r e2, by rw [List.length_map]; exact hl⟩) ?_
  · refine g_asgT (a := catS ((s.zipIdx.filter fun _ => true).map fun c => tx [if decide (c.1 % 7 > 0) then decide ((c.2 : Int) % 2 = 0) else !decide ((c.2 : Int) % 2 = 0)])) (er_join (ys := (s.zipIdx.filter fun _ => true).map fun c => tx [if decide (c.1 % 7 > 0) then decide ((c.2 : Int) % 2 = 0) else !decide ((c.2 : Int) % 2 = 0)]) (by decide +kernel)
      (ErF.er (erf_lcE (p := fun _ _ => true) (f := fun i c => tx [if decide (c % 7 > 0) then decide ((i : Int) % 2 = 0) else !decide ((i : Int) % 2 = 0)]) (er_var rfl r) (by omega) (fun _ _ => rfl) (fun _ _ _ _ _ _ _ => et_yes) fun i a v H2 _ _ ra _ => es_flat ?_)) (catW_len ?_)) fun H2 e2 => ⟨v, (s.zipIdx.filter fun _ => true).map fun c => if decide (c.1 % 7 > 0) then decide ((c.2 : Int) % 2 = 0) else !decide ((c.2 : Int) % 2 = 0), none, none, none, ?_, e2, up r e2, ?_⟩
    · refine (er_if (b := decide (a % 7 > 0)) (x := tx [decide ((i : Int) % 2 = 0)]) (y := tx [!decide ((i : Int) % 2 = 0)]) (et_e (er_gt (er_mod (er_var rfl ra) er_int (by decide)) er_int)) (fun _ => er_ud (er_var rfl rfl)) fun _ => er_du (er_var rfl rfl)).to ?_
      cases decide (a % 7 > 0) <;> rfl
    · refine Nat.le_trans (sum_le _ 1 _ fun a _ => ?_) ?_
      · rw [tx_len]; exact Nat.le_refl _
      · rw [filter_yes, List.length_zipIdx]; omega
    · rw [tx_map]; rfl
    · rw [filter_yes, List.length_map, List.length_zipIdx]; exact hl
  · rintro σ H2 ⟨v, w, x3, x4, x5, rfl, e2, r, hw⟩
    -- long runs
    refine g_cut (MidW K H1 s k 64) (g_if (b := (k == 2)) (et_e (er_eqi (er_var rfl rfl) er_int)) (fun _ => ?_) fun _ => g_next fun H3 e3 => ⟨v, w, x3, x4, x5, rfl, e2.trans e3, up r e3, by omega⟩) ?_
    · have hrun : ∀ c : Int, 0 ≤ 1 + c / 4 % 3 ∧ 1 + c / 4 % 3 ≤ 3 := fun c => by
        have := Int.emod_nonneg (c / 4) (show (3 : Int) ≠ 0 by decide)
        have := Int.emod_lt_of_pos (c / 4) (show (0 : Int) < 3 by decide)
        omega
      have hlen : ((s.map fun c => tx (List.replicate (1 + c / 4 % 3).toNat (decide (c / 2 % 2 = 0)))).map (·.length)).sum ≤ 1000 := catW_len (Nat.le_trans (sum_le _ 3 _ fun a _ => by rw [tx_len, List.length_replicate]; have := hrun a; omega) (by omega))
      have hcat := cat_words s fun c => List.replicate (1 + c / 4 % 3).toNat (decide (c / 2 % 2 = 0))
      have hfl := flat_le (fun c : Int => List.replicate (1 + c / 4 % 3).toNat (decide (c / 2 % 2 = 0))) 3 (fun c => by rw [List.length_replicate]; have := hrun c; omega) s
      refine g_asgT (a := tx ((s.flatMap fun c => List.replicate (1 + c / 4 % 3).toNat (decide (c / 2 % 2 = 0))).take 64)) ((er_slS (z := tx (s.flatMap fun c => List.replicate (1 + c / 4 % 3).toNat (decide (c / 2 % 2 = 0)))) ((er_join (ys := s.map fun c => tx (List.replicate (1 + c / 4 % 3).toNat (decide (c / 2 % 2 = 0)))) (by decide +kernel)
        (ErF.er (erf_lc (er_var rfl r) (by omega) (fun _ => rfl) fun i c v H3 _ _ rc => es_flat ((er_mulT (er_ud (er_div (er_var rfl rc) er_int ⟨by decide, by decide⟩)) (er_add er_int (er_mod (er_div (er_var rfl rc) er_int ⟨by decide, by decide⟩) er_int (by decide))) (hrun c).1 (by have := (hrun c).2; omega) (by rw [tx_len]; exact Nat.le_of_ble_eq_true rfl)).to (tx_reps _ _)))) (by omega)).to hcat) eo_no (eo_at er_int) ?_).to ?_) fun H3 e3 => ⟨v, _, _, _, _, rfl, e2.trans e3, up r e3, ?_⟩
      · rw [tx_len]; omega
      · rw [tx_cut]
        exact congrArg tx (cutL_take _ 64)
      · rw [List.length_take]; omega
    · rintro σ H3 ⟨v, w, x3, x4, x5, rfl, e3, r, hw⟩
      refine g_cut (MidW K H1 s k 64) (g_if (b := ((k == 3) && !decide (s = []))) (et_and' (et_e (er_eqi (er_var rfl rfl) er_int)) fun _ => et_e (er_neD (a := s) (b := []) (er_var rfl r) (ErF.er (erf_lst eal_nil (by decide))) (fun _ _ => trivial) (fun _ _ => trivial) (by decide))) (fun hb => ?_) fun _ => g_next fun H4 e4 => ⟨v, w, x3, x4, x5, rfl, e3.trans e4, up r e4, by omega⟩) ?_
      · -- sixty letters more
        have hs : s ≠ [] := by
          simp only [Bool.and_eq_true, Bool.not_eq_true', decide_eq_false_iff_not] at hb
          exact hb.2
        obtain ⟨z, hz⟩ : ∃ z, s.getLast? = some z := by
          cases hq : s.getLast? with
          | none => rw [List.getLast?_eq_none_iff] at hq; exact absurd hq hs
          | some z => exact ⟨z, rfl⟩
        refine q_asgI (a := z / 3) (er_div (er_ixL (er_var rfl r) (er_neg er_int) (atI_neg1 hz)) er_int ⟨by decide, by decide⟩) ?_
        have hd := draw_lt z 8 (m := 60) (by decide)
        refine q_forR (lo := 0) (n := (drawI z 8 60).toNat) (rng1 (er_call3 (er_ixL (er_var rfl r) (er_neg er_int) (atI_neg1 hz)) er_int er_int (by decide)) (by omega) (by omega)) (fun i σ H' => ∃ (w : List Bool) (l : Int) (x3 x5 : Option V), σ = [some v, some (.int k), some (.str (tx w)), x3, some (.int l), x5] ∧ Ex H3 H' ∧ w.length ≤ 64 + i) (fun H4 e4 => ⟨w, _, _, _, rfl, e4, by omega⟩) ?_ ?_
        · rintro i σ H' hi ⟨w, l, x3, x5, rfl, e4, hw⟩
          refine q_asgT (a := tx (w ++ [decide (l % 2 = 0)])) ((er_addT (er_var rfl rfl) (er_ud (er_var rfl rfl)) ?_).to (tx_app _ _)) (g_asgI (a := l / 2) (er_div (er_var rfl rfl) er_int ⟨by decide, by decide⟩) fun H5 e5 => ⟨_, _, _, _, rfl, e4.trans e5, ?_⟩)
          · rw [tx_len, tx_len, List.length_singleton]; omega
          · rw [List.length_append, List.length_singleton]; omega
        · rintro σ H' ⟨w, l, x3, x5, rfl, e4, hw⟩
          refine g_asgT (a := tx (w.take 64)) ((er_slS (er_var rfl rfl) eo_no (eo_at er_int) ?_).to ?_) fun H5 e5 => ⟨v, _, _, _, _, rfl, (e3.trans e4).trans e5, up r (e4.trans e5), ?_⟩
          · rw [tx_len]; omega
          · rw [tx_cut]
            exact congrArg tx (cutL_take _ 64)
          · rw [List.length_take]; omega
      · rintro σ H4 ⟨v, w, x3, x4, x5, rfl, e4, r, hw⟩
        refine g_ret (a := tx w) (er_var rfl rfl) fun u H5 e5 ru => ?_
        obtain rfl : u = .str (tx w) := ru
        exact q w H5 hw ((e1.trans e4).trans e5)
theorem ok_l_word {f f_l_cell_at f_l_draw : Addr} {fd fd_l_cell_at fd_l_draw : FuncData} (F : Fun K "_law_word" "_law_word" s_l_word f fd) (T : Bi mg) (c_l_cell_at : Cal P w K mg base 1 "_law_cell_at" ["_law_script", "_law_k"] (sp_l_cell_at K) f_l_cell_at fd_l_cell_at) (c_l_draw : Cal P w K mg base 1 "_law_draw" ["_law_cell", "_law_k", "_law_many"] (sp_l_draw K) f_l_draw fd_l_draw) : FnOk P w K mg base CX0 2 f fd ["_law_script"] (sp_l_word K) :=
  F.ok sc_l_word (fun vs H Q E h => by first | exact len_pr1 h | exact len_pr2 h | exact len_pr3 h | exact len_prF1 h | exact len_prF2 h | exact len_l_word h) (fun cdv A outer s H vs Q E hr h => ⟨t_l_word K, by exact
    ((pss_cons (ps_set (i := 0) sc_l_word.nd rfl (.inl rfl) (pe_slice sl_list (pv 0) po_none (po_some pe_int)))
      (pss_cons (ps_set (i := 1) sc_l_word.nd rfl (.inl rfl) (pe_call c_l_draw.ok (hr.mono (by decide)) (by rfl) c_l_draw.g c_l_draw.kp c_l_draw.b .nil pass0 (pa_cons (pe_call c_l_cell_at.ok (hr.mono (by decide)) (by rfl) c_l_cell_at.g c_l_cell_at.kp c_l_cell_at.b .nil pass0 (pa_cons (pv 0) (pa_cons pe_int pa_nil))) (pa_cons pe_int (pa_cons pe_int pa_nil)))))
      (pss_cons (ps_set (i := 2) sc_l_word.nd rfl (.inl rfl) (pe_join' pe_str (pe_lc (own := [("_law_cell", 5)]) (g := (gName 5)) (tt := tYes) rfl sc_l_word.nd (pi_list (pv 0)) (blkOk_by (own := [("_law_cell", 5)]) (N := N_l_word) (sc := defScope s_l_word) (by decide +kernel)) (fun _ _ _ _ _ => (pg_name (i := 5) sc_l_word.nd rfl (.inl rfl))) (fun _ _ _ _ _ => pts_nil) (fun _ _ _ _ _ => (pe_ix ix_str pe_str (pe_op oModI (pv 5) pe_int) (fun _ _ => rfl))))))
      (pss_cut (ps_if (pt_cmpR oEqI (pv 1) pe_int (nomark _)) (pss_one (ps_set (i := 2) sc_l_word.nd rfl (.inl rfl) (pe_join' pe_str (pe_lc (own := [("_law_k", 3), ("_law_cell", 5)]) (g := (gTup K 2 (gCons (gName 3) (gCons (gName 5) gNil)))) (tt := tYes) rfl sc_l_word.nd (pi_enum (by rfl) T.enumerate_ (pa_cons (pv 0) pa_nil)) (blkOk_by (own := [("_law_k", 3), ("_law_cell", 5)]) (N := N_l_word) (sc := defScope s_l_word) (by decide +kernel)) (fun _ _ _ _ _ => (pg_tup rfl (pgs_cons (pg_name (i := 3) sc_l_word.nd rfl (.inl rfl)) (pgs_cons (pg_name (i := 5) sc_l_word.nd rfl (.inl rfl)) pgs_nil)))) (fun _ _ _ _ _ => pts_nil) (fun _ _ _ _ _ => (pe_ifExp (pt_cmpR oGtI (pe_op oModI (pv 5) pe_int) pe_int (nomark _)) (pe_ix ix_str pe_str (pe_op oModI (pv 3) pe_int) (fun _ _ => rfl)) (pe_ix ix_str pe_str (pe_op oModI (pv 3) pe_int) (fun _ _ => rfl))))))))
      pss_nil)
      (pss_cut (ps_if (pt_cmpR oEqI (pv 1) pe_int (nomark _)) (pss_one (ps_set (i := 2) sc_l_word.nd rfl (.inl rfl) (pe_slice sl_str (pe_join' pe_str (pe_lc (own := [("_law_cell", 5)]) (g := (gName 5)) (tt := tYes) rfl sc_l_word.nd (pi_list (pv 0)) (blkOk_by (own := [("_law_cell", 5)]) (N := N_l_word) (sc := defScope s_l_word) (by decide +kernel)) (fun _ _ _ _ _ => (pg_name (i := 5) sc_l_word.nd rfl (.inl rfl))) (fun _ _ _ _ _ => pts_nil) (fun _ _ _ _ _ => (pe_op oMulT (pe_ix ix_str pe_str (pe_op oModI (pe_op oDivI (pv 5) pe_int) pe_int) (fun _ _ => rfl)) (pe_op oAddI pe_int (pe_op oModI (pe_op oDivI (pv 5) pe_int) pe_int)))))) po_none (po_some pe_int))))
      pss_nil)
      (pss_cut (ps_if (PW.pt (pw_and (pt_cmpR oEqI (pv 1) pe_int (nomark _)) (pw_and1 (pt_cmpR (op_neD hr.units) (pv 0) (pe_lst pa_nil) (nomark _))))) (pss_cons (ps_set (i := 4) sc_l_word.nd rfl (.inl rfl) (pe_op oDivI (pe_ix ix_list (pv 0) (pe_un oNegI pe_int) (fun _ _ => rfl)) pe_int))
      (pss_cons (ps_for PassesOwn.never rfl (pi_range1 (by rfl) T.range_ (pa_cons (pe_call c_l_draw.ok (hr.mono (by decide)) (by rfl) c_l_draw.g c_l_draw.kp c_l_draw.b .nil pass0 (pa_cons (pe_ix ix_list (pv 0) (pe_un oNegI pe_int) (fun _ _ => rfl)) (pa_cons pe_int (pa_cons pe_int pa_nil)))) pa_nil)) (pg_name (i := 3) sc_l_word.nd rfl (.inl rfl))
      (pss_cons (ps_set (i := 2) sc_l_word.nd rfl (.inl rfl) (pe_op oAddT (pv 2) (pe_ix ix_str pe_str (pe_op oModI (pv 4) pe_int) (fun _ _ => rfl))))
      (pss_one (ps_set (i := 4) sc_l_word.nd rfl (.inl rfl) (pe_op oDivI (pv 4) pe_int)))))
      (pss_one (ps_set (i := 2) sc_l_word.nd rfl (.inl rfl) (pe_slice sl_str (pv 2) po_none (po_some pe_int))))))
      pss_nil)
      (pss_one (ps_ret (pv 2)))))))))), pure_l_word K vs H Q E h⟩)


/-! ### the law's own words of it -/
def sp_l_places (K : PySem.W.Frag) : Sp := Pr2 K (fun (row ps : List Int) => row.length ≤ 1000 ∧ ps.length ≤ 1000) fun row ps => lPl row.length ps
abbrev s_l_places : Stmt := topS 21
abbrev N_l_places : List Str := ["_law_row", "_law_places_here", "_law_place"]
theorem sc_l_places : FnScope N_l_places ["_law_row", "_law_places_here"] (defScope s_l_places) := ⟨rfl, rfl, rfl, by decide +kernel, rfl, by decide +kernel, by decide +kernel⟩
def t_l_places (K : PySem.W.Frag) : TS :=
  (tRet (tAndV (tOp (rEqD K) (tVar 1) (tSrtSet K (tVar 1))) (tCB (rAll K) (tCons (tLc (iList K (tVar 1)) (gName 2) tYes (tChain rLeI rLtI (tC (.int 0)) (tVar 2) (tCB (rLenL K) (tCons (tVar 0) tNil))) [2]) tNil))))

theorem pure_l_places (K : PySem.W.Frag) (vs : List V) (H : Hp) (Q : VK) (E : XK) (h : sp_l_places K vs H Q E) : t_l_places K { nx := fun _ H' => Q .non H', rt := Q } (start N_l_places vs) H := by
  obtain ⟨v, w, row, ps, rfl, r1, r2, ⟨hl, hl2⟩, q⟩ := h
  refine Gx.here (K := K) (g_ret (a := lPl row.length ps) ((er_and (a := decide (ps = srt ps)) (b := (ps.map fun p => decide (0 ≤ p) && decide (p < (row.length : Int))).all id) (er_eqD (er_var rfl r2) (ErF.er (erf_srtSet (er_var rfl r2) hl2)) (fun _ _ => trivial) (fun _ _ => trivial) (by decide))
    fun _ => er_all (ErF.er (erf_lc (f := fun p => decide (0 ≤ p) && decide (p < (row.length : Int))) (er_var rfl r2) (by omega) (fun _ => rfl) fun i a va H1 e ha ra => es_flat (er_chLeLt er_int (er_var rfl ra) (er_lenL (er_var rfl (up r1 e))))))).to ?_) q)
  unfold lPl
  rw [List.all_map]
  rfl
theorem ok_l_places {f : Addr} {fd : FuncData} (F : Fun K "_law_places" "_law_places" s_l_places f fd) (T : Bi mg) : FnOk P w K mg base CX0 1 f fd ["_law_row", "_law_places_here"] (sp_l_places K) :=
  F.ok sc_l_places (fun vs H Q E h => by first | exact len_pr1 h | exact len_pr2 h | exact len_pr3 h | exact len_prF1 h | exact len_prF2 h | exact len_l_places h) (fun cdv A outer s H vs Q E hr h => ⟨t_l_places K, by exact
    ((pss_one (ps_ret (pe_and (pe_cmpR (op_eqD hr.units) (pv 1) (pe_srtSet rfl (by rfl) T.sorted_ (by rfl) T.set_ (pv 1)) (nomark _)) (pe_one (pe_callB (cr_all rfl) (by rfl) T.all_ (by decide +kernel) (pa_cons (pe_lc (own := [("_law_place", 2)]) (g := (gName 2)) (tt := tYes) rfl sc_l_places.nd (pi_list (pv 1)) (blkOk_by (own := [("_law_place", 2)]) (N := N_l_places) (sc := defScope s_l_places) (by decide +kernel)) (fun _ _ _ _ _ => (pg_name (i := 2) sc_l_places.nd rfl (.inl rfl))) (fun _ _ _ _ _ => pts_nil) (fun _ _ _ _ _ => (pe_chain oLeI oLtI pe_int (pv 2) (pe_callB cLenL (by rfl) T.len_ (by decide +kernel) (pa_cons (pv 0) pa_nil))))) pa_nil))))))), pure_l_places K vs H Q E h⟩)

def sp_l_turns (K : PySem.W.Frag) : Sp := Pr1 K (fun ns : List Int => ns.length ≤ 1000 ∧ ∀ z ∈ ns, Bits 1048576 z) lTurns
abbrev s_l_turns : Stmt := topS 22
abbrev N_l_turns : List Str := ["_law_numbers", "_law_steps", "_law_one", "_law_other"]
theorem sc_l_turns : FnScope N_l_turns ["_law_numbers"] (defScope s_l_turns) := ⟨rfl, rfl, rfl, by decide +kernel, rfl, by decide +kernel, by decide +kernel⟩
def t_l_turns (K : PySem.W.Frag) : TS :=
  (tSeq (tAsg (tLc (iZip K (tCons (tVar 0) (tCons (tSl (rSlL K) (tVar 0) (tPart (tC (.int 1))) tNoPart) tNil))) (gTup K 2 (gCons (gName 2) (gCons (gName 3) gNil))) tYes (tOp rSubI (tVar 3) (tVar 2)) [2, 3]) (gName 1))
    (tRet (tAndV (tOp (rIn K true) (tC (.int 0)) (tVar 1)) (tCB (rAll K) (tCons (tLc (iZip K (tCons (tVar 1) (tCons (tSl (rSlL K) (tVar 1) (tPart (tC (.int 1))) tNoPart) tNil))) (gTup K 2 (gCons (gName 2) (gCons (gName 3) gNil))) tYes (tOp rLtI (tOp rMulX (tVar 2) (tVar 3)) (tC (.int 0))) [2, 3]) tNil)))))

theorem steps_bits {ns : List Int} (h : ∀ z ∈ ns, Bits 1048576 z) : ∀ z ∈ stepsR ns, Bits 1048577 z := by
  intro z hz
  unfold stepsR at hz
  obtain ⟨c, hc, rfl⟩ := List.mem_map.mp hz
  have h1 := List.of_mem_zip hc
  exact bits_sub (h _ (List.mem_of_mem_drop h1.2)) (h _ h1.1)
theorem pure_l_turns (K : PySem.W.Frag) (vs : List V) (H : Hp) (Q : VK) (E : XK) (h : sp_l_turns K vs H Q E) : t_l_turns K { nx := fun _ H' => Q .non H', rt := Q } (start N_l_turns vs) H := by
  obtain ⟨v, ns, rfl, r, ⟨hl, hb⟩, q⟩ := h
  have hsl : (stepsR ns).length ≤ ns.length := by unfold stepsR; rw [List.length_map, List.length_zip]; omega
  have hsb := steps_bits hb
  refine Gx.here (K := K) (q_asgF (as := stepsR ns) (erf_lcZ (f := fun a b => b - a) (er_var rfl r) ((ErF.er (erf_sl (er_var rfl r) (eo_at er_int) eo_no)).to (cut_drop ns 1)) (by omega) (fun _ _ => rfl) fun i a b va vb H1 e ha hb' ra rb => es_flat (er_sub (er_var rfl rb) (er_var rfl ra))) fun p H1 hp e1 o1 => ?_)
  refine g_ret (a := lTurns ns) (er_and (er_notInL er_int (er_var rfl o1.rep)) fun _ => er_all (ErF.er (erf_lcZ (as := stepsR ns) (bs := (stepsR ns).drop 1) (f := fun a b => decide (a * b < 0)) (er_var rfl o1.rep) ((ErF.er (erf_sl (er_var rfl o1.rep) (eo_at er_int) eo_no)).to (cut_drop (stepsR ns) 1)) (by omega) (fun _ _ => rfl)
    fun i a b va vb H2 e2 ha hb' ra rb => es_flat (er_lt (er_mulX (er_var rfl ra) (er_var rfl rb) (bits_mul (hsb a (List.mem_of_getElem? ha)) (hsb b (List.mem_of_mem_drop (List.mem_of_getElem? hb'))) (by decide))) er_int)))) fun u H2 e2 => q u H2 (e1.trans e2)
theorem ok_l_turns {f : Addr} {fd : FuncData} (F : Fun K "_law_turns" "_law_turns" s_l_turns f fd) (T : Bi mg) : FnOk P w K mg base CX0 1 f fd ["_law_numbers"] (sp_l_turns K) :=
  F.ok sc_l_turns (fun vs H Q E h => by first | exact len_pr1 h | exact len_pr2 h | exact len_pr3 h | exact len_prF1 h | exact len_prF2 h | exact len_l_turns h) (fun cdv A outer s H vs Q E hr h => ⟨t_l_turns K, by exact
    ((pss_cons (ps_setLc (i := 1) (own := [("_law_one", 2), ("_law_other", 3)]) (g := (gTup K 2 (gCons (gName 2) (gCons (gName 3) gNil)))) (tt := tYes) rfl sc_l_turns.nd rfl rfl (sw_true rfl rfl rfl (by decide +kernel)) (pi_zip (by rfl) T.zip_ (pa_cons (pv 0) (pa_cons (pe_slice sl_list (pv 0) (po_some pe_int) po_none) pa_nil))) (blkOk_by (own := [("_law_one", 2), ("_law_other", 3)]) (N := N_l_turns) (sc := defScope s_l_turns) (by decide +kernel)) (fun _ _ _ _ _ => (pg_tup rfl (pgs_cons (pg_name (i := 2) sc_l_turns.nd rfl (.inl rfl)) (pgs_cons (pg_name (i := 3) sc_l_turns.nd rfl (.inl rfl)) pgs_nil)))) (fun _ _ _ _ _ => pts_nil) (fun _ _ _ _ _ => (pe_op oSubI (pv 3) (pv 2))))
      (pss_one (ps_ret (pe_and (pe_cmpR op_notIn_seq pe_int (pv 1) (by rfl)) (pe_one (pe_callB (cr_all rfl) (by rfl) T.all_ (by decide +kernel) (pa_cons (pe_lc (own := [("_law_one", 2), ("_law_other", 3)]) (g := (gTup K 2 (gCons (gName 2) (gCons (gName 3) gNil)))) (tt := tYes) rfl sc_l_turns.nd (pi_zip (by rfl) T.zip_ (pa_cons (pv 1) (pa_cons (pe_slice sl_list (pv 1) (po_some pe_int) po_none) pa_nil))) (blkOk_by (own := [("_law_one", 2), ("_law_other", 3)]) (N := N_l_turns) (sc := defScope s_l_turns) (by decide +kernel)) (fun _ _ _ _ _ => (pg_tup rfl (pgs_cons (pg_name (i := 2) sc_l_turns.nd rfl (.inl rfl)) (pgs_cons (pg_name (i := 3) sc_l_turns.nd rfl (.inl rfl)) pgs_nil)))) (fun _ _ _ _ _ => pts_nil) (fun _ _ _ _ _ => (pe_cmpR oLtI (pe_op oMulX (pv 2) (pv 3)) pe_int (nomark _)))) pa_nil)))))))), pure_l_turns K vs H Q E h⟩)

theorem nums_bits {row ps : List Int} (h : ∀ z ∈ row, Bits 1048576 z) (hp : ∀ p ∈ ps, 0 ≤ p ∧ p < (row.length : Int)) : ∀ z ∈ numsAt row ps, Bits 1048576 z := by
  intro z hz
  unfold numsAt at hz
  obtain ⟨p, hpp, rfl⟩ := List.mem_map.mp hz
  have := hp p hpp
  exact h _ (getD_in (by omega))
theorem et_pl {K : PySem.W.Frag} {σ : L2.St} {H : Hp} {ta tb : TE} {row ps : List Int} (h1 : Er K ta σ H row) (h2 : Er K tb σ H ps) (hl : row.length ≤ 1000) (hl2 : ps.length ≤ 1000) :
    Et K (tNot (tB (tCall (sp_l_places K) [] E0 (tCons ta (tCons tb tNil))))) σ H (!lPl row.length ps) := et_not' (et_v (er_call2 (f := fun (row ps : List Int) => lPl row.length ps) (a := row) (b := ps) h1 h2 ⟨hl, hl2⟩))

def sp_l_due (K : PySem.W.Frag) : Sp := Pr3 K (fun (row : List Int) (ps cs : Lo) => row.length ≤ 1000 ∧ ps.l.length ≤ 500 ∧ cs.l.length ≤ 500 ∧ ∀ z ∈ row, Bits 1048576 z) fun row ps cs => dueB row ⟨ps.l, cs.l⟩
abbrev s_l_due : Stmt := topS 23
abbrev N_l_due : List Str := ["_law_row", "_law_places_here", "_law_cuts", "_law_ends", "_law_k", "_law_part", "_law_place", "_law_at"]
theorem sc_l_due : FnScope N_l_due ["_law_row", "_law_places_here", "_law_cuts"] (defScope s_l_due) := ⟨rfl, rfl, rfl, by decide +kernel, rfl, by decide +kernel, by decide +kernel⟩
def t_l_due (K : PySem.W.Frag) : TS :=
  (tSeq (tIfS (tNot (tB (tCB (rAll K) (tCons (tLc (iList K (tOp rCat (tVar 1) (tVar 2))) (gName 6) tYes (tCall (sp_l_whole K) [] E0 (tCons (tVar 6) tNil)) [6]) tNil)))) (tRet (tC (.bl false))) tNext)
    (tSeq (tIfS (tOr (tNot (tB (tCall (sp_l_places K) [] E0 (tCons (tVar 0) (tCons (tVar 1) tNil))))) (tOr (tNot (tB (tCall (sp_l_places K) [] E0 (tCons (tVar 0) (tCons (tVar 2) tNil))))) (tNot (tB (tCall (sp_l_turns K) [] E0 (tCons (tLc (iList K (tVar 1)) (gName 7) tYes (tOp (rIxL K) (tVar 0) (tVar 7)) [7]) tNil)))))) (tRet (tC (.bl false))) tNext)
    (tSeq (tIfS (tOr (tTest (tOp (rEqD K) (tVar 0) (tLst tNil))) (tTest (tOp rEqI (tCB (rMinL K) (tCons (tVar 0) tNil)) (tCB (rMaxL K) (tCons (tVar 0) tNil))))) (tRet (tAndV (tOp rEqI (tCB (rLenL K) (tCons (tVar 1) tNil)) (tCB (rLenL K) (tCons (tSl (rSlL K) (tVar 0) tNoPart (tPart (tC (.int 1)))) tNil))) (tOp (rEqD K) (tVar 2) (tLst tNil)))) tNext)
    (tSeq (tAsg (tOp rCat (tOp rCat (tLst (tCons (tC (.int 0)) tNil)) (tVar 2)) (tLst (tCons (tOp rSubI (tCB (rLenL K) (tCons (tVar 0) tNil)) (tC (.int 1))) tNil))) (gName 3))
    (tSeq (tFor (iRng1 (tCons (tOp rSubI (tCB (rLenL K) (tCons (tVar 3) tNil)) (tC (.int 1))) tNil)) (gName 4) (tSeq (tAsg (tSl (rSlL K) (tVar 0) (tPart (tOp (rIxL K) (tVar 3) (tVar 4))) (tPart (tOp rAddI (tOp (rIxL K) (tVar 3) (tOp rAddI (tVar 4) (tC (.int 1)))) (tC (.int 1))))) (gName 5))
    (tIfS (tAnd (tTest (tOp (rNeD K) (tVar 5) (tCB (rSortL K) (tCons (tVar 5) tNil)))) (tTest (tOp (rNeD K) (tVar 5) (tRevL K (tCB (rSortL K) (tCons (tVar 5) tNil)))))) (tRet (tC (.bl false))) tNext)))
    (tRet (tOp rEqI (tCB (rLenL K) (tCons (tVar 1) tNil)) (tOp rAddI (tCB (rLenL K) (tCons (tVar 2) tNil)) (tC (.int 2))))))))))


theorem part_eq {row cs : List Int} (h : arePl row.length (-1) cs = true) (h0 : row ≠ []) {k : Nat} (hk : k < cs.length + 1) :
    cutL row (some ((endsR row.length cs).getD k 0)) (some ((endsR row.length cs).getD (k + 1) 0 + 1)) = (row.drop (eAt (endsR row.length cs) k)).take (eAt (endsR row.length cs) (k + 1) + 1 - eAt (endsR row.length cs) k) := by
  obtain ⟨q1, q2, q3⟩ := ends_ok h h0 hk
  have e1 : (endsR row.length cs).getD k 0 = ((eAt (endsR row.length cs) k : Nat) : Int) := by unfold eAt; omega
  have e2 : (endsR row.length cs).getD (k + 1) 0 + 1 = ((eAt (endsR row.length cs) (k + 1) + 1 : Nat) : Int) := by unfold eAt; omega
  rw [e1, e2]
  exact cut_ab row _ _ (by unfold eAt; omega) (by unfold eAt; omega)
theorem pure_l_due (K : PySem.W.Frag) (vs : List V) (H : Hp) (Q : VK) (E : XK) (h : sp_l_due K vs H Q E) : t_l_due K { nx := fun _ H' => Q .non H', rt := Q } (start N_l_due vs) H := by
  obtain ⟨v, vp, vc, row, ps, cs, rfl, r, rp, rc, ⟨hl, hp, hc, hb⟩, k⟩ := h
  refine Gx.here (K := K) ?_
  refine q_no (et_nY ((er_all (ErF.er (erf_lc (f := fun _ => true) (ErF.er (erf_catI (er_var rfl rp) (er_var rfl rc) (by omega))) (by rw [List.length_append]; omega) (fun _ => rfl) fun i a va H1 e ha ra => es_flat (er_call1 (a := a) (er_var rfl ra) trivial)))).to (by simp))) ?_
  refine q_when (b := (!lPl row.length ps.l || (!lPl row.length cs.l || !lTurns (numsAt row ps.l))))
    (et_or' (et_pl (er_var rfl r) (er_lo (er_var rfl rp)) hl (by omega)) fun h1 => et_or' (et_pl (er_var rfl r) (er_lo (er_var rfl rc)) hl (by omega)) fun _ =>
      et_not' (et_v (er_call1 (a := numsAt row ps.l) (ErF.er (erf_lc (er_lo (er_var rfl rp)) (by omega) (fun _ => rfl) fun i a va H1 e ha ra => es_flat (er_ixL (er_var rfl (up r e)) (er_var rfl ra) ?_))) ?_))) (fun hq => ?_) fun hq => ?_
  · rw [lPl_eq] at h1
    have h2 := (arePl_iff _ _ _).mp (by simpa using h1)
    have := h2.1 a (List.mem_of_getElem? ha)
    exact at_num (by omega) (by omega)
  · rw [lPl_eq] at h1
    have h2 := (arePl_iff _ _ _).mp (by simpa using h1)
    refine ⟨by unfold numsAt; rw [List.length_map]; omega, nums_bits hb fun p hpp => ?_⟩
    have := h2.1 p hpp
    omega
  · refine g_ret (a := false) er_bl fun u H1 e1 ru => k u H1 e1 ?_
    have : dueB row ⟨ps.l, cs.l⟩ = false := by
      unfold dueB
      revert hq
      show (!lPl row.length ps.l || (!lPl row.length cs.l || !lTurns (numsAt row ps.l))) = true → (lPl row.length ps.l && (lPl row.length cs.l && (lTurns (numsAt row ps.l) && _))) = false
      cases lPl row.length ps.l <;> cases lPl row.length cs.l <;> cases lTurns (numsAt row ps.l) <;> simp
    show Rep.rep K H1 u (dueB row ⟨ps.l, cs.l⟩)
    rw [this]; exact ru
  · have hs : lPl row.length cs.l = true ∧ dueB row ⟨ps.l, cs.l⟩ = (if flatRow row then decide (ps.l.length = (row.take 1).length) && decide (cs.l = []) else partsB row cs.l && decide (ps.l.length = cs.l.length + 2)) := by
      unfold dueB
      revert hq
      show (!lPl row.length ps.l || (!lPl row.length cs.l || !lTurns (numsAt row ps.l))) = false → lPl row.length cs.l = true ∧ (lPl row.length ps.l && (lPl row.length cs.l && (lTurns (numsAt row ps.l) && _))) = _
      cases lPl row.length ps.l <;> cases lPl row.length cs.l <;> cases lTurns (numsAt row ps.l) <;> simp
    obtain ⟨hcs, hs⟩ := hs
    rw [lPl_eq] at hcs
    refine q_when (b := flatRow row) ((et_or' (a := decide (row = [])) (b := (minI row == maxI row)) (et_e (er_eqD (er_var rfl r) (ErF.er (erf_lst eal_nil (by decide))) (fun _ _ => trivial) (fun _ _ => trivial) (by decide))) fun h0 => et_e (er_eqi (er_minL (er_var rfl r) (of_decide_eq_false h0)) (er_maxL (er_var rfl r) (of_decide_eq_false h0))))) (fun hf => ?_) fun hf => ?_
    · refine g_ret (a := dueB row ⟨ps.l, cs.l⟩) ((er_and (er_eqi (er_lenL (er_lo (er_var rfl rp))) (er_lenL ((ErF.er (erf_sl (er_var rfl r) eo_no (eo_at er_int))).to (cut_take row 1)))) fun _ => er_eqD (er_lo (er_var rfl rc)) (ErF.er (erf_lst eal_nil (by decide))) (fun _ _ => trivial) (fun _ _ => trivial) (by decide)).to ?_) k
      rw [hs, hf, if_pos rfl]
      congr 1
      rw [Bool.eq_iff_iff, beq_iff_eq, decide_eq_true_iff]
      omega
    · have hne : row ≠ [] := by
        intro e
        unfold flatRow at hf
        rw [decide_eq_true e] at hf
        cases hf
      rw [hf, if_neg Bool.false_ne_true] at hs
      have hlen : (endsR row.length cs.l).length = cs.l.length + 2 := by unfold endsR; simp
      refine q_asgF (as := endsR row.length cs.l) (erf_catI (ErF.lo (erf_catI (ErF.lo (erf_lst (eal_cons er_int eal_nil) (by decide))) (er_var rfl rc) (by simp; omega))) (ErF.lo (erf_lst (eal_cons (er_sub (er_lenL (er_var rfl r)) er_int) eal_nil) (by show 1 ≤ 100000; decide))) (by simp; omega)) fun p H1 hp1 e1 o1 => ?_
      refine q_forR (lo := 0) (n := cs.l.length + 1) ((rng1 (er_sub (er_lenL (er_var rfl o1.rep)) er_int) (by omega) (by omega)).to (by rw [hlen]; omega)) (fun i σ H' => ∃ y4 y5 : Option V, σ = [some v, some vp, some vc, some (.ref p), y4, y5, none, none] ∧ Ex H1 H' ∧
        (List.range i).all (fun k => partB ((row.drop (eAt (endsR row.length cs.l) k)).take (eAt (endsR row.length cs.l) (k + 1) + 1 - eAt (endsR row.length cs.l) k))) = true) (fun H2 e2 => ⟨_, _, rfl, e2, rfl⟩) ?_ ?_
      · rintro i σ H' hi ⟨y4, y5, rfl, e, hall⟩
        have ok := o1.up e
        obtain ⟨part, ep⟩ : ∃ part, (row.drop (eAt (endsR row.length cs.l) i)).take (eAt (endsR row.length cs.l) (i + 1) + 1 - eAt (endsR row.length cs.l) i) = part := ⟨_, rfl⟩
        refine q_asgF (as := part) ((erf_sl (lo := some ((endsR row.length cs.l).getD i 0)) (hi := some ((endsR row.length cs.l).getD (i + 1) 0 + 1)) (er_var rfl (up r (e1.trans e))) (eo_at (er_ixL (er_var rfl ok.rep) (er_var rfl rfl) (at_getD (by omega) (by rw [hlen]; omega))))
          (eo_at (er_add (er_ixL (er_var rfl ok.rep) (er_add (er_var rfl rfl) er_int) (at_getD (by omega) (by rw [hlen]; omega))) er_int))).to ((part_eq hcs hne hi).trans ep)) fun p2 H2 hp2 e2 o2 => ?_
        refine g_if (b := (!decide (part = ord part) && !decide (part = (ord part).reverse))) (et_and' (et_e (er_neD (er_var rfl o2.rep) (ErF.er (erf_sortL (er_var rfl o2.rep))) (fun _ _ => trivial) (fun _ _ => trivial) (by decide))) fun _ => et_e (er_neD (er_var rfl o2.rep) (ErF.er (erf_rev (ErF.er (erf_sortL (er_var rfl o2.rep))))) (fun _ _ => trivial) (fun _ _ => trivial) (by decide))) (fun hb => ?_) fun hb => ?_
        · refine g_ret (a := false) er_bl fun u H3 e3 ru => k u H3 (((e1.trans e).trans e2).trans e3) ?_
          have : partsB row cs.l = false := by
            rw [Bool.eq_false_iff]
            intro hq
            unfold partsB at hq
            rw [List.all_eq_true] at hq
            have := hq i (List.mem_range.mpr hi)
            rw [ep] at this
            unfold partB at this
            revert hb this
            cases decide (part = ord part) <;> cases decide (part = (ord part).reverse) <;> simp
          show Rep.rep K H3 u (dueB row ⟨ps.l, cs.l⟩)
          rw [hs, this]; exact ru
        · refine g_next fun H3 e3 => ⟨_, _, rfl, (e.trans e2).trans e3, ?_⟩
          rw [all_succ, hall, ep]
          unfold partB
          revert hb
          cases decide (part = ord part) <;> cases decide (part = (ord part).reverse) <;> simp
      · rintro σ H' ⟨y4, y5, rfl, e, hall⟩
        refine g_ret (a := dueB row ⟨ps.l, cs.l⟩) ((er_eqi (er_lenL (er_lo (er_var rfl (up rp (e1.trans e))))) (er_add (er_lenL (er_lo (er_var rfl (up rc (e1.trans e))))) er_int)).to ?_) fun u H2 e2 => k u H2 ((e1.trans e).trans e2)
        rw [hs]
        unfold partsB
        rw [hall, Bool.true_and, Bool.eq_iff_iff, beq_iff_eq, decide_eq_true_iff]
        omega
theorem ok_l_due {f f_l_whole f_l_places f_l_turns : Addr} {fd fd_l_whole fd_l_places fd_l_turns : FuncData} (F : Fun K "_law_due" "_law_due" s_l_due f fd) (T : Bi mg) (c_l_whole : Cal P w K mg base 1 "_law_whole" ["_law_number"] (sp_l_whole K) f_l_whole fd_l_whole) (c_l_places : Cal P w K mg base 1 "_law_places" ["_law_row", "_law_places_here"] (sp_l_places K) f_l_places fd_l_places) (c_l_turns : Cal P w K mg base 1 "_law_turns" ["_law_numbers"] (sp_l_turns K) f_l_turns fd_l_turns) : FnOk P w K mg base CX0 2 f fd ["_law_row", "_law_places_here", "_law_cuts"] (sp_l_due K) :=
  F.ok sc_l_due (fun vs H Q E h => by first | exact len_pr1 h | exact len_pr2 h | exact len_pr3 h | exact len_prF1 h | exact len_prF2 h | exact len_l_due h) (fun cdv A outer s H vs Q E hr h => ⟨t_l_due K, by exact
    ((pss_cons (ps_if (pt_not (pt_val (pe_callB (cr_all rfl) (by rfl) T.all_ (by decide +kernel) (pa_cons (pe_lc (own := [("_law_place", 6)]) (g := (gName 6)) (tt := tYes) rfl sc_l_due.nd (pi_list (pe_op op_cat (pv 1) (pv 2))) (blkOk_by (own := [("_law_place", 6)]) (N := N_l_due) (sc := defScope s_l_due) (by decide +kernel)) (fun _ _ _ _ _ => (pg_name (i := 6) sc_l_due.nd rfl (.inl rfl))) (fun _ _ _ _ _ => pts_nil) (fun _ _ _ _ _ => (pe_call c_l_whole.ok (hr.mono (by decide)) (by rfl) c_l_whole.g c_l_whole.kp c_l_whole.b .nil pass0 (pa_cons (pv 6) pa_nil)))) pa_nil)))) (pss_one (ps_ret pe_bl))
      pss_nil)
      (pss_cons (ps_if (PW.pt (pw_or (pt_not (pt_val (pe_call c_l_places.ok (hr.mono (by decide)) (by rfl) c_l_places.g c_l_places.kp c_l_places.b .nil pass0 (pa_cons (pv 0) (pa_cons (pv 1) pa_nil))))) (pw_or (pt_not (pt_val (pe_call c_l_places.ok (hr.mono (by decide)) (by rfl) c_l_places.g c_l_places.kp c_l_places.b .nil pass0 (pa_cons (pv 0) (pa_cons (pv 2) pa_nil))))) (pw_or1 (pt_not (pt_val (pe_call c_l_turns.ok (hr.mono (by decide)) (by rfl) c_l_turns.g c_l_turns.kp c_l_turns.b .nil pass0 (pa_cons (pe_lc (own := [("_law_at", 7)]) (g := (gName 7)) (tt := tYes) rfl sc_l_due.nd (pi_list (pv 1)) (blkOk_by (own := [("_law_at", 7)]) (N := N_l_due) (sc := defScope s_l_due) (by decide +kernel)) (fun _ _ _ _ _ => (pg_name (i := 7) sc_l_due.nd rfl (.inl rfl))) (fun _ _ _ _ _ => pts_nil) (fun _ _ _ _ _ => (pe_ix ix_list (pv 0) (pv 7) (fun _ _ => rfl)))) pa_nil)))))))) (pss_one (ps_ret pe_bl))
      pss_nil)
      (pss_cons (ps_if (PW.pt (pw_or (pt_cmpR (op_eqD hr.units) (pv 0) (pe_lst pa_nil) (nomark _)) (pw_or1 (pt_cmpR oEqI (pe_callB (cMinL rfl) (by rfl) T.min_ (by decide +kernel) (pa_cons (pv 0) pa_nil)) (pe_callB (cMaxL rfl) (by rfl) T.max_ (by decide +kernel) (pa_cons (pv 0) pa_nil)) (nomark _))))) (pss_one (ps_ret (pe_and (pe_cmpR oEqI (pe_callB cLenL (by rfl) T.len_ (by decide +kernel) (pa_cons (pv 1) pa_nil)) (pe_callB cLenL (by rfl) T.len_ (by decide +kernel) (pa_cons (pe_slice sl_list (pv 0) po_none (po_some pe_int)) pa_nil)) (nomark _)) (pe_one (pe_cmpR (op_eqD hr.units) (pv 2) (pe_lst pa_nil) (nomark _))))))
      pss_nil)
      (pss_cons (ps_set (i := 3) sc_l_due.nd rfl (.inl rfl) (pe_op op_cat (pe_op op_cat (pe_lst (pa_cons pe_int pa_nil)) (pv 2)) (pe_lst (pa_cons (pe_op oSubI (pe_callB cLenL (by rfl) T.len_ (by decide +kernel) (pa_cons (pv 0) pa_nil)) pe_int) pa_nil))))
      (pss_cons (ps_for PassesOwn.never rfl (pi_range1 (by rfl) T.range_ (pa_cons (pe_op oSubI (pe_callB cLenL (by rfl) T.len_ (by decide +kernel) (pa_cons (pv 3) pa_nil)) pe_int) pa_nil)) (pg_name (i := 4) sc_l_due.nd rfl (.inl rfl))
      (pss_cons (ps_set (i := 5) sc_l_due.nd rfl (.inl rfl) (pe_slice sl_list (pv 0) (po_some (pe_ix ix_list (pv 3) (pv 4) (fun _ _ => rfl))) (po_some (pe_op oAddI (pe_ix ix_list (pv 3) (pe_op oAddI (pv 4) pe_int) (fun _ _ => rfl)) pe_int))))
      (pss_one (ps_if (PW.pt (pw_and (pt_cmpR (op_neD hr.units) (pv 5) (pe_callB cSortL (by rfl) T.sorted_ (by decide +kernel) (pa_cons (pv 5) pa_nil)) (nomark _)) (pw_and1 (pt_cmpR (op_neD hr.units) (pv 5) (pe_revL (pe_callB cSortL (by rfl) T.sorted_ (by decide +kernel) (pa_cons (pv 5) pa_nil))) (nomark _))))) (pss_one (ps_ret pe_bl))
      pss_nil))))
      (pss_one (ps_ret (pe_cmpR oEqI (pe_callB cLenL (by rfl) T.len_ (by decide +kernel) (pa_cons (pv 1) pa_nil)) (pe_op oAddI (pe_callB cLenL (by rfl) T.len_ (by decide +kernel) (pa_cons (pv 2) pa_nil)) pe_int) (nomark _)))))))))), pure_l_due K vs H Q E h⟩)


/-! ### what longest finds is what the plain law knows -/
theorem getD_snoc (l : List Int) (x : Int) : (l ++ [x]).getD l.length 0 = x := by
  rw [List.getD_eq_getElem?_getD, List.getElem?_append_right (Nat.le_refl _)]
  simp
theorem zz_rel (row : List Int) : ∀ i, zzN row i = ((zzR (rowV row) i).reverse).map fun k : Nat => (k : Int)
  | 0 => rfl
  | i + 1 => by
    have ih := zz_rel row i
    show zzStep row (zzN row i) i = ((zzS (rowV row) (zzR (rowV row) i) i).reverse).map fun k : Nat => (k : Int)
    rw [ih]
    generalize zzR (rowV row) i = rs
    cases rs with
    | nil => rfl
    | cons p r =>
      have e1 : ((p :: r).reverse).map (fun k : Nat => (k : Int)) = (r.reverse.map fun k : Nat => (k : Int)) ++ [(p : Int)] := by simp
      have l1 : (((p :: r).reverse).map (fun k : Nat => (k : Int))).length - 1 = (r.reverse.map fun k : Nat => (k : Int)).length := by simp
      have g1 : (((p :: r).reverse).map (fun k : Nat => (k : Int))).getD ((((p :: r).reverse).map (fun k : Nat => (k : Int))).length - 1) 0 = (p : Int) := by rw [l1, e1, getD_snoc]
      unfold zzStep
      rw [if_neg (by simp), g1, Int.toNat_natCast]
      show (if rowV row i = rowV row p then _ else _) = _
      cases r with
      | nil =>
        show _ = ((if rowV row i = rowV row p then [p] else [i, p]).reverse).map fun k : Nat => (k : Int)
        by_cases c : rowV row i = rowV row p
        · rw [if_pos c, if_pos c]
        · rw [if_neg c, if_neg c, if_neg (by simp)]
          simp
      | cons q r =>
        have e2 : ((p :: q :: r).reverse).map (fun k : Nat => (k : Int)) = ((r.reverse.map fun k : Nat => (k : Int)) ++ [(q : Int)]) ++ [(p : Int)] := by simp
        have g2 : (((p :: q :: r).reverse).map (fun k : Nat => (k : Int))).getD ((((p :: q :: r).reverse).map (fun k : Nat => (k : Int))).length - 2) 0 = (q : Int) := by
          have l2 : (((p :: q :: r).reverse).map (fun k : Nat => (k : Int))).length - 2 = (r.reverse.map fun k : Nat => (k : Int)).length := by simp
          rw [l2, e2, List.append_assoc, List.getD_eq_getElem?_getD, List.getElem?_append_right (Nat.le_refl _)]
          simp
        rw [g2, Int.toNat_natCast]
        show (if rowV row i = rowV row p then _ else if 1 < _ ∧ (decide (rowV row p < rowV row i) = decide (rowV row q < rowV row p)) then _ else _) = ((if rowV row i = rowV row p then p :: q :: r else if decide (rowV row p < rowV row i) = decide (rowV row q < rowV row p) then i :: q :: r else i :: p :: q :: r).reverse).map fun k : Nat => (k : Int)
        by_cases c : rowV row i = rowV row p
        · rw [if_pos c, if_pos c]
        · rw [if_neg c, if_neg c]
          by_cases c2 : decide (rowV row p < rowV row i) = decide (rowV row q < rowV row p)
          · refine Eq.trans (if_pos ⟨by simp, c2⟩) ?_
            rw [if_pos c2, l1, e1]
            rw [List.set_append_right _ _ (Nat.le_refl _)]
            simp
          · refine Eq.trans (if_neg (fun z => c2 z.2)) ?_
            rw [if_neg c2]
            simp
theorem zzP_eq (row : List Int) : zzP row = ⟨plZ row, ctZ (plZ row)⟩ := by
  unfold zzP plZ ctZ
  rw [zz_rel]
theorem zzP_shows (row : List Int) : showsB row (zzP row) = true := by rw [zzP_eq]; exact zz_shows row
theorem zzP_len (row : List Int) : (zzP row).ps.length ≤ row.length ∧ (zzP row).cs.length ≤ row.length := ⟨(zzN_in row row.length).2, Nat.le_trans (cut_le _ _ _) (zzN_in row row.length).2⟩
theorem zzP_most (row : List Int) : (zzP row).ps.length = mostN row (2 ^ row.length) := by rw [zzP_eq, most_eq]
theorem shows_not (row ps cs : List Int) : showsB row ⟨ps ++ [(row.length : Int)], cs⟩ = false := by
  have h : arePl row.length (-1) (ps ++ [(row.length : Int)]) = false := by
    rw [Bool.eq_false_iff]
    intro z
    have := ((arePl_iff _ _ _).mp z).1 (row.length : Int) (by simp)
    omega
  unfold showsB
  rw [h]; rfl
/-! ### of few numbers, by all choices -/
def sp_l_most (K : PySem.W.Frag) : Sp := Pr1 K (fun row : List Int => row.length ≤ 7 ∧ ∀ z ∈ row, Bits 1048576 z) fun row => ((mostN row (2 ^ row.length) : Nat) : Int)
abbrev s_l_most : Stmt := topS 24
abbrev N_l_most : List Str := ["_law_row", "_law_found", "_law_choice", "_law_some", "_law_k", "_law_number"]
theorem sc_l_most : FnScope N_l_most ["_law_row"] (defScope s_l_most) := ⟨rfl, rfl, rfl, by decide +kernel, rfl, by decide +kernel, by decide +kernel⟩
def t_l_most (K : PySem.W.Frag) : TS :=
  (tSeq (tAsg (tC (.int 0)) (gName 1))
    (tSeq (tFor (iRng1 (tCons (tOp rShlI (tC (.int 1)) (tCB (rLenL K) (tCons (tVar 0) tNil))) tNil)) (gName 2) (tSeq (tAsg (tLc (iEnum K (tCons (tVar 0) tNil)) (gTup K 2 (gCons (gName 4) (gCons (gName 5) gNil))) (tTest (tOp rEqI (tOp rAndI (tOp rShrI (tVar 2) (tVar 4)) (tC (.int 1))) (tC (.int 1)))) (tVar 5) [4, 5]) (gName 3))
    (tIfS (tAnd (tTest (tOp rGtI (tCB (rLenL K) (tCons (tVar 3) tNil)) (tVar 1))) (tB (tCall (sp_l_turns K) [] E0 (tCons (tVar 3) tNil)))) (tAsg (tCB (rLenL K) (tCons (tVar 3) tNil)) (gName 1)) tNext)))
    (tRet (tVar 1))))

theorem pure_l_most (K : PySem.W.Frag) (vs : List V) (H : Hp) (Q : VK) (E : XK) (h : sp_l_most K vs H Q E) : t_l_most K { nx := fun _ H' => Q .non H', rt := Q } (start N_l_most vs) H := by
  obtain ⟨v, row, rfl, r, ⟨hl, hb⟩, q⟩ := h
  obtain ⟨N, hN⟩ : ∃ N, 2 ^ row.length = N := ⟨_, rfl⟩
  have hp : N ≤ 128 := by rw [← hN]; exact Nat.le_trans (Nat.pow_le_pow_right (by decide) hl) (by decide)
  refine Gx.here (K := K) (q_asgI (a := 0) er_int ?_)
  refine q_forR (lo := 0) (n := N) ((rng1 (n := (N : Int)) ((er_shl er_int (er_lenL (er_var rfl r)) (by omega)).to (by rw [hN])) (by omega) (by omega)).to (by omega)) (fun c σ H' => ∃ x2 x3 x4 x5 : Option V, σ = [some v, some (.int ((mostN row c : Nat) : Int)), x2, x3, x4, x5] ∧ Ex H H') (fun H1 e => ⟨_, _, _, _, rfl, e⟩) ?_ ?_
  · rintro c σ H' hc ⟨x2, x3, x4, x5, rfl, e⟩
    have ec : (0 : Int) + (c : Int) = (c : Int) := by omega
    refine q_asgF (as := chs row c) (erf_lcE (p := fun i _ => bitP c i) (f := fun _ a => a) (er_var rfl (up r e)) (by omega) (fun _ _ => rfl) (fun i a va H1 e1 ha ra => et_e ((er_eqi (er_odd (c := c / 2 ^ i) (er_shr (c := c) (k := i) ((er_var rfl rfl : Er K (tVar 2) _ H1 ((0 : Int) + (c : Int))).to ec) (er_var rfl rfl)) er_int) er_int).to ?_)) fun i a va H1 e1 ha ra _ => es_flat (er_var rfl ra)) fun p H1 np e1 o1 => ?_
    · unfold bitP
      rw [Bool.eq_iff_iff, beq_iff_eq, beq_iff_eq]
      omega
    have hs := chs_sub row c
    have hcl : (chs row c).length ≤ 7 := Nat.le_trans hs.length_le hl
    refine g_if (b := (decide (((mostN row c : Nat) : Int) < ((chs row c).length : Int)) && turnsR (chs row c))) (et_and' (et_e (er_gt (er_lenL (er_var rfl o1.rep)) (er_var rfl rfl))) fun _ => et_v ((er_call1 (a := chs row c) (er_var rfl o1.rep) ⟨by omega, fun z hz => hb z (hs.subset hz)⟩).to (lTurns_eq _))) (fun hq => ?_) fun hq => ?_
    · refine g_asgI (a := ((chs row c).length : Int)) (er_lenL (er_var rfl o1.rep)) fun H2 e2 => ⟨some (.int (0 + (c : Int))), some (.ref p), x4, x5, ?_, (e.trans e1).trans e2⟩
      have : mostN row (c + 1) = (chs row c).length := by
        rw [Bool.and_eq_true, decide_eq_true_iff] at hq
        show (if decide (mostN row c < (chs row c).length) && turnsR (chs row c) then (chs row c).length else mostN row c) = _
        rw [if_pos]
        rw [Bool.and_eq_true, decide_eq_true_iff]
        exact ⟨by omega, hq.2⟩
      rw [this]
      rfl
    · refine g_next fun H2 e2 => ⟨some (.int (0 + (c : Int))), some (.ref p), x4, x5, ?_, (e.trans e1).trans e2⟩
      have : mostN row (c + 1) = mostN row c := by
        show (if decide (mostN row c < (chs row c).length) && turnsR (chs row c) then (chs row c).length else mostN row c) = _
        rw [if_neg]
        intro z
        rw [Bool.and_eq_true, decide_eq_true_iff] at z
        rw [z.2, Bool.and_true, decide_eq_false_iff_not] at hq
        omega
      rw [this]
      rfl
  · rintro σ H' ⟨x2, x3, x4, x5, rfl, e⟩
    exact g_ret (a := ((mostN row (2 ^ row.length) : Nat) : Int)) ((er_var rfl rfl : Er K (tVar 1) _ H' ((mostN row N : Nat) : Int)).to (by rw [hN])) fun u H1 e1 => q u H1 (e.trans e1)
theorem ok_l_most {f f_l_turns : Addr} {fd fd_l_turns : FuncData} (F : Fun K "_law_most" "_law_most" s_l_most f fd) (T : Bi mg) (c_l_turns : Cal P w K mg base 1 "_law_turns" ["_law_numbers"] (sp_l_turns K) f_l_turns fd_l_turns) : FnOk P w K mg base CX0 2 f fd ["_law_row"] (sp_l_most K) :=
  F.ok sc_l_most (fun vs H Q E h => by first | exact len_pr1 h | exact len_pr2 h | exact len_pr3 h | exact len_prF1 h | exact len_prF2 h | exact len_l_most h) (fun cdv A outer s H vs Q E hr h => ⟨t_l_most K, by exact
    ((pss_cons (ps_set (i := 1) sc_l_most.nd rfl (.inl rfl) pe_int)
      (pss_cons (ps_for PassesOwn.never rfl (pi_range1 (by rfl) T.range_ (pa_cons (pe_op oShlI pe_int (pe_callB cLenL (by rfl) T.len_ (by decide +kernel) (pa_cons (pv 0) pa_nil))) pa_nil)) (pg_name (i := 2) sc_l_most.nd rfl (.inr rfl))
      (pss_cons (ps_setLc (i := 3) (own := [("_law_k", 4), ("_law_number", 5)]) (g := (gTup K 2 (gCons (gName 4) (gCons (gName 5) gNil)))) (tt := (tTest (tOp rEqI (tOp rAndI (tOp rShrI (tVar 2) (tVar 4)) (tC (.int 1))) (tC (.int 1))))) rfl sc_l_most.nd rfl rfl (sw_true rfl rfl rfl (by decide +kernel)) (pi_enum (by rfl) T.enumerate_ (pa_cons (pv 0) pa_nil)) (blkOk_by (own := [("_law_k", 4), ("_law_number", 5)]) (N := N_l_most) (sc := defScope s_l_most) (by decide +kernel)) (fun _ _ _ _ _ => (pg_tup rfl (pgs_cons (pg_name (i := 4) sc_l_most.nd rfl (.inl rfl)) (pgs_cons (pg_name (i := 5) sc_l_most.nd rfl (.inl rfl)) pgs_nil)))) (fun _ _ _ _ _ => (pts_one (pt_cmpR oEqI (pe_op oAndI (pe_op oShrI (pv 2) (pv 4)) pe_int) pe_int (nomark _)))) (fun _ _ _ _ _ => (pv 5)))
      (pss_one (ps_if (PW.pt (pw_and (pt_cmpR oGtI (pe_callB cLenL (by rfl) T.len_ (by decide +kernel) (pa_cons (pv 3) pa_nil)) (pv 1) (nomark _)) (pw_and1 (pt_val (pe_call c_l_turns.ok (hr.mono (by decide)) (by rfl) c_l_turns.g c_l_turns.kp c_l_turns.b .nil pass0 (pa_cons (pv 3) pa_nil)))))) (pss_one (ps_set (i := 1) sc_l_most.nd rfl (.inl rfl) (pe_callB cLenL (by rfl) T.len_ (by decide +kernel) (pa_cons (pv 3) pa_nil))))
      pss_nil))))
      (pss_one (ps_ret (pv 1)))))), pure_l_most K vs H Q E h⟩)

/-! ### law 3 -/
structure ZK (K : PySem.W.Frag) (C : Addr) : Prop where
  ca : PySem.W.findIn K (.ref C) "__class__" = some (some (.builtin "object.__class__"))
  cn : PySem.W.specialIn K (.builtin "object.__class__") "__get__" = some (some (.builtin "getset_descriptor.__get__"))
  ct : PySem.W.takesIn K (.builtin "object.__class__") = some true
  cm : PySem.W.mroIn K C (.type "object") = some true
section
variable {α : Type} [Rep α] {K : PySem.W.Frag} {σ : L2.St} {H : Hp} {ta tb te tl : TE} {t u : TT} {D : Ends} {tu tz : TS} {C : Addr} {z : Zz}
theorem er_isZ (zc : ZC K C) (zk : ZK K C) (h : Er K te σ H z) : Er K (tCB (rIsi K) (tCons te (tCons (tC (.ref C)) tNil))) σ H true := fun H1 e Q q => h H1 e _ fun v H2 e2 ⟨x, p, r, ev, C', dx, zc', hx, _, _⟩ => by
  have eC := zc.one zc'
  subst eC
  refine ⟨v, .ref C, .ref C, .ref C, true, rfl, .own C, ?_, ?_, q _ H2 e2 rfl⟩
  · rw [ev]
    exact .base (.ins hx zc.cl zk.ca zk.cn zk.ct zk.cm)
  · show (if (Value.ref C == Value.ref C) = true then some true else _) = some true
    rw [if_pos (by rw [beq_iff_eq])]
theorem ev_fldP {i : Nat} {x p q : Addr} (hv : σ[i]? = some (some (.ref x))) (za : ZAt K H x p q z) : Ev (tFld K (tVar i) "places") σ H (.ref p) := fun H1 e Q k => by
  obtain ⟨C, dx, zc, hx, _, _⟩ := za
  exact ⟨.ref x, hv, x, C, dx, zf p q, .ref p, rfl, e _ _ hx, zc.cl, zc.nP, zf_p p q, k H1 (Ex.refl _)⟩
theorem et_andF {a : Bool} (h1 : Et K t σ H a) (h2 : a = true → Et K u σ H false) : Et K (tAnd t u) σ H false := by
  have := et_and' h1 h2
  rwa [Bool.and_false] at this
/-- a new list and a number -/
theorem q_parFI {i j : Nat} {as : List Int} {n : Int} (h1 : ErF K ta σ H as) (h2 : Er K tb σ H n) (k : ∀ p H1, H p = none → Ex H H1 → H1 p = some (.lst (as.map V.int)) → Gx K (tz D) ((σ.set i (some (.ref p))).set j (some (.int n))) H1) :
    Gx K (tSeq (tPar i j (tCons ta (tCons tb tNil))) tz D) σ H := fun H1 e => h1 H1 e _ fun p H2 np e2 o => er_i h2 H2 (e.trans e2) _ fun H3 e3 => ⟨.ref p, .int n, rfl, (k p H3 (fresh_back e np) ((e.trans e2).trans e3) (e3 _ _ (own_int o))).here⟩
/-- over enumerate of some text -/
theorem q_forESr {j1 j2 : Nat} {P : Str → Prop} (h : ∀ H1, Ex H H1 → ∀ Q : VK, (∀ x H2, P x → Ex H1 H2 → Q (.str x) H2) → tl σ H1 Q) (Inv : Nat → L2.St → Hp → Prop) (h0 : ∀ H1, Ex H H1 → Inv 0 σ H1) (hU : ∀ i σ' H' H'', Inv i σ' H' → Ex H' H'' → Inv i σ' H'')
    (hs : ∀ x, P x → ∀ (i c : Nat) σ' H', x.cps[i]? = some c → Inv i σ' H' → Gx K (tu { D with nx := Inv (i + 1), ct := Inv (i + 1), bk := tz D }) ((σ'.set j1 (some (.int (i : Nat)))).set j2 (some (.str (sgn c)))) H') (hd : ∀ x σ' H', P x → Inv x.cps.size σ' H' → Gx K (tz D) σ' H') :
    Gx K (tSeq (tFor (iEnumS tl) (gTwo K j1 j2) tu) tz D) σ H := fun H1 e => h H1 e _ fun x H2 hx e2 => ⟨x, rfl, for_enumS (D := { D with nx := tz D }) Inv (h0 H2 (e.trans e2)) (fun i c T σ' H' hc iv hT =>
  gTwo_run (st_of upd_same) ((hs x hx i c σ' _ hc (hU i σ' H' _ iv (Ex.new hT))).here)) fun σ' H' iv => (hd x σ' H' hx iv).here⟩
theorem er_due {row ps cs : List Int} (h1 : Er K ta σ H row) (h2 : Er K tb σ H (Lo.mk ps)) (h3 : Er K te σ H (Lo.mk cs)) (hl : row.length ≤ 1000) (hp : ps.length ≤ 500) (hc : cs.length ≤ 500) (hb : ∀ z ∈ row, Bits 1048576 z) :
    Er K (tCall (sp_l_due K) [] E0 (tCons ta (tCons tb (tCons te tNil)))) σ H (showsB row ⟨ps, cs⟩) := (er_call3 (f := fun (row : List Int) (ps cs : Lo) => dueB row ⟨ps.l, cs.l⟩) (a := row) (b := Lo.mk ps) (c := Lo.mk cs) h1 h2 h3 ⟨hl, hp, hc, hb⟩).to (due_eq _ _)
theorem er_shows {row : List Int} (zc : ZC K C) (h1 : Er K ta σ H z) (h2 : Er K tb σ H row) (hl : row.length ≤ 1000) (hp : z.ps.length ≤ 1000) (hc : z.cs.length ≤ 1000) :
    Er K (tMeth C "shows" (sp_Zigzag_shows K) [] E0 ta (tCons tb tNil)) σ H (showsB row z) := er_meth1 (f := fun z row => showsB row z) (z := z) (b := row) zc h1 h2 ⟨hl, hp, hc⟩ (by decide +kernel) (by decide +kernel)
end
theorem bits_small {z : Int} (h0 : -1000 < z) (h : z < 1000) : Bits 1048576 z := bits_up (n := 10) (by unfold Bits; omega) (by decide)
def sp_law (K : PySem.W.Frag) : Sp := fun vs H Q _ => ∃ v s, vs = [v] ∧ Rep.rep K H v (s : List Int) ∧ s.length ≤ 63 ∧ (∀ z ∈ s, Bits 1048576 z) ∧ ∀ H', Q (.bl true) H'
theorem len_law {vs : List V} {H : Hp} {Q : VK} {E : XK} (h : sp_law K vs H Q E) : vs.length = 1 := by obtain ⟨_, _, rfl, _⟩ := h; rfl
theorem law_asks {K : PySem.W.Frag} {H : Hp} {a : Addr} {ns : List Int} (hl : ns.length ≤ 63) (hb : ∀ z ∈ ns, Builtin.Int.intBits z ≤ 1048576) (hS : SqL K H a (ns.map V.int)) : sp_law K [.ref a] H (fun v _ => v = .bl true) fun _ _ _ => False :=
  ⟨_, ns, rfl, ⟨a, rfl, int_lst hS⟩, hl, fun z hz => bits_of (hb z hz), fun _ => rfl⟩
abbrev s_law : Stmt := topS 25
abbrev N_law : List Str := ["_law_script", "_law_few", "_law_steps", "_law_height", "_law_k", "_law_letter", "_law_row", "_law_handed", "_law_found", "_law_other", "_law_cell"]
theorem sc_law : FnScope N_law ["_law_script"] (defScope s_law) := ⟨rfl, rfl, rfl, by decide +kernel, rfl, by decide +kernel, by decide +kernel⟩
def t_law (K : PySem.W.Frag) (C_Zigzag : Addr) : TS :=
  (tSeq (tAsg (tLc (iList K (tVar 0)) (gName 10) tYes (tOp rModI (tOp rDivI (tVar 10) (tC (.int 3))) (tOp rAddI (tC (.int 2)) (tCall (sp_l_draw K) [] E0 (tCons (tCall (sp_l_cell_at K) [] E0 (tCons (tVar 0) (tCons (tC (.int 1)) tNil))) (tCons (tC (.int 3)) (tCons (tC (.int 5)) tNil)))))) [10]) (gName 1))
    (tSeq (tPar 2 3 (tCons (tLst tNil) (tCons (tC (.int 0)) tNil)))
    (tSeq (tFor (iEnumS (tCall (sp_l_word K) [] E0 (tCons (tVar 0) tNil))) (gTup K 2 (gCons (gName 4) (gCons (gName 5) gNil))) (tSeq (tAsg (tOp rAddI (tVar 3) (tOp rMulI (tIf (tTest (tOp rEqT (tVar 5) (tC (.str ("u" : Str))))) (tC (.int 1)) (tUn rNegI (tC (.int 1)))) (tOp rAddI (tC (.int 1)) (tOp rModI (tVar 4) (tC (.int 3)))))) (gName 3))
    (tDrop (tBM K "list" rAppend (tVar 2) (tCons (tVar 3) tNil)))))
    (tSeq (tFor (iTup K (tTup (tCons (tCB (rLstL K) (tCons (tVar 0) tNil)) (tCons (tVar 1) (tCons (tVar 2) (tCons (tOp rRep (tLst (tCons (tC (.int 5)) tNil)) (tCB (rLenL K) (tCons (tVar 0) tNil))) (tCons (tSl (rSlL K) (tVar 1) tNoPart (tPart (tC (.int 7)))) (tCons (tCB (rLstL K) (tCons (tVar 0) tNil)) tNil)))))))) (gName 6) (tSeq (tAsg (tCB (rLstL K) (tCons (tVar 6) tNil)) (gName 7))
    (tSeq (tAsg (tCall (sp_longest K) [] E0 (tCons (tVar 7) tNil)) (gName 8))
    (tSeq (tIfS (tOr (tNot (tB (tCB (rIsi K) (tCons (tVar 8) (tCons (tC (.ref C_Zigzag)) tNil))))) (tOr (tNot (tB (tCB (rIsi K) (tCons (tFld K (tVar 8) ("places" : Str)) (tCons (tC (.ty "list")) tNil))))) (tNot (tB (tCB (rIsi K) (tCons (tFld K (tVar 8) ("cuts" : Str)) (tCons (tC (.ty "list")) tNil))))))) (tRet (tC (.bl false))) tNext)
    (tSeq (tIfS (tOr (tNot (tB (tCall (sp_l_due K) [] E0 (tCons (tVar 6) (tCons (tFld K (tVar 8) ("places" : Str)) (tCons (tFld K (tVar 8) ("cuts" : Str)) tNil)))))) (tOr (tTest (tOp rNotB (tMeth C_Zigzag ("shows" : Str) (sp_Zigzag_shows K) [] E0 (tVar 8) (tCons (tVar 6) tNil)) (tC (.bl true)))) (tTest (tOp (rNeD K) (tVar 7) (tVar 6))))) (tRet (tC (.bl false))) tNext)
    (tSeq (tFor (iTup K (tTup (tCons (tRevL K (tVar 6)) (tCons (tOp rCat (tVar 6) (tLst (tCons (tC (.int 9)) tNil))) (tCons (tSl (rSlL K) (tVar 6) (tPart (tC (.int 1))) tNoPart) (tCons (tVar 1) tNil)))))) (gName 9) (tIfS (tTest (tOp rNeB (tMeth C_Zigzag ("shows" : Str) (sp_Zigzag_shows K) [] E0 (tVar 8) (tCons (tVar 9) tNil)) (tCall (sp_l_due K) [] E0 (tCons (tVar 9) (tCons (tFld K (tVar 8) ("places" : Str)) (tCons (tFld K (tVar 8) ("cuts" : Str)) tNil)))))) (tRet (tC (.bl false))) tNext))
    (tSeq (tIfS (tAnd (tTest (tOp rLtI (tCB (rLenL K) (tCons (tVar 6) tNil)) (tC (.int 8)))) (tTest (tOp rNeI (tCB (rLenL K) (tCons (tFld K (tVar 8) ("places" : Str)) tNil)) (tCall (sp_l_most K) [] E0 (tCons (tVar 6) tNil))))) (tRet (tC (.bl false))) tNext)
    (tSeq (tDrop (tBM K "list" rAppend (tFld K (tVar 8) ("places" : Str)) (tCons (tCB (rLenL K) (tCons (tVar 6) tNil)) tNil)))
    (tSeq (tIfS (tTest (tOp rNotB (tMeth C_Zigzag ("shows" : Str) (sp_Zigzag_shows K) [] E0 (tVar 8) (tCons (tVar 6) tNil)) (tC (.bl false)))) (tRet (tC (.bl false))) tNext)
    (tSeq (tDrop (tBM0 K "list" rReverse (tVar 7)))
    (tSeq (tAsg (tCall (sp_longest K) [] E0 (tCons (tVar 7) tNil)) (gName 8))
    (tIfS (tNot (tB (tCall (sp_l_due K) [] E0 (tCons (tRevL K (tVar 6)) (tCons (tFld K (tVar 8) ("places" : Str)) (tCons (tFld K (tVar 8) ("cuts" : Str)) tNil)))))) (tRet (tC (.bl false))) tNext))))))))))))
    (tRet (tAndV (tOp (rEqD K) (tFld K (tCall (sp_longest K) [] E0 (tCons (tLst tNil) tNil)) ("places" : Str)) (tLst tNil)) (tAndV (tOp (rEqD K) (tFld K (tCall (sp_longest K) [] E0 (tCons (tLst (tCons (tC (.int 4)) (tCons (tC (.int 4)) tNil))) tNil)) ("cuts" : Str)) (tLst tNil)) (tOp rEqI (tCB (rLenL K) (tCons (tFld K (tCall (sp_longest K) [] E0 (tCons (tLst (tCons (tC (.int 1)) (tCons (tC (.int 3)) (tCons (tC (.int 3)) (tCons (tC (.int 2)) (tCons (tC (.int 5)) tNil)))))) tNil)) ("places" : Str)) tNil)) (tC (.int 4))))))))))

theorem pure_law (K : PySem.W.Frag) (C_Zigzag : Addr) (hZ : ZC K C_Zigzag) (hK : ZK K C_Zigzag) (vs : List V) (H : Hp) (Q : VK) (E : XK) (h : sp_law K vs H Q E) : t_law K C_Zigzag { nx := fun _ H' => Q .non H', rt := Q } (start N_law vs) H := by
  obtain ⟨v, s, rfl, r, hs, hb, q⟩ := h
  have hd0 := draw_lt (cellAt s 1) 3 (m := 5) (by decide)
  refine Gx.here (K := K) (q_asgF (as := s.map fun c => c / 3 % (2 + drawI (cellAt s 1) 3 5)) (erf_lc (f := fun c => c / 3 % (2 + drawI (cellAt s 1) 3 5)) (er_var rfl r) (by omega) (fun _ => rfl) fun i a va H1 e ha ra => es_flat (er_mod (er_div (er_var rfl ra) er_int ⟨by decide, by decide⟩) (er_add er_int (er_call3 (er_call2 (a := s) (b := (1 : Int)) (er_var rfl (up r e)) er_int (by decide)) er_int er_int (by decide))) (by omega))) fun pf H1 hpf e1 of => ?_)
  have r1 := up r e1
  have fewB : ∀ z ∈ s.map (fun c => c / 3 % (2 + drawI (cellAt s 1) 3 5)), Bits 1048576 z := fun z hz => by
    obtain ⟨c, _, rfl⟩ := List.mem_map.mp hz
    have h1 := Int.emod_nonneg (c / 3) (show 2 + drawI (cellAt s 1) 3 5 ≠ 0 by omega)
    have h2 := Int.emod_lt_of_pos (c / 3) (show 0 < 2 + drawI (cellAt s 1) 3 5 by omega)
    exact bits_small (by omega) (by omega)
  have fewL : (s.map fun c => c / 3 % (2 + drawI (cellAt s 1) 3 5)).length ≤ 63 := by rw [List.length_map]; exact hs
  generalize s.map (fun c => c / 3 % (2 + drawI (cellAt s 1) 3 5)) = few at of fewB fewL
  -- the word's steps
  refine q_parFI (as := []) (n := 0) (erf_lst eal_nil (by decide)) er_int fun ps H2 hps e2 o2 => ?_
  refine q_forESr (P := fun x => x.length ≤ 64) (fun H3 e3 Q' q' => ⟨v, rfl, v, s, rfl, up r1 (e2.trans e3), hs, fun w H4 hw e4 => q' _ H4 (by rw [tx_len]; exact hw) e4⟩)
    (fun i σ H' => ∃ (hs : List Int) (h : Int) (x4 x5 x6 x7 x8 x9 x10 : Option V), σ = [some v, some (.ref pf), some (.ref ps), some (.int h), x4, x5, x6, x7, x8, x9, x10] ∧ Ex H1 H' ∧ H' ps = some (.lst (hs.map V.int)) ∧ (∀ z ∈ hs, -(3 * (i : Int)) ≤ z ∧ z ≤ 3 * (i : Int)) ∧ -(3 * (i : Int)) ≤ h ∧ h ≤ 3 * (i : Int) ∧ hs.length = i)
    (fun H3 e3 => ⟨[], 0, none, none, none, none, none, none, none, rfl, e2.trans e3, e3 _ _ o2, fun z hz => (by simp at hz), by omega, by omega, rfl⟩) (fun i σ' H' H'' ⟨hs, h, x4, x5, x6, x7, x8, x9, x10, k1, k2, k3, k4⟩ e => ⟨hs, h, x4, x5, x6, x7, x8, x9, x10, k1, k2.trans e, e _ _ k3, k4⟩) ?_ ?_
  · rintro x hx i c σ H' hc ⟨hs, h, x4, x5, x6, x7, x8, x9, x10, rfl, e, hp, hz, g1, g2, hlen⟩
    have hi : i < 64 := Nat.lt_of_lt_of_le (Array.getElem?_eq_some_iff.mp hc).1 hx
    obtain ⟨b, hb⟩ : ∃ b, ((sgn c : Str) == ("u" : Str)) = b := ⟨_, rfl⟩
    refine q_asgI (a := h + (if b then 1 else -1) * (1 + (i : Int) % 3)) (er_add (er_var rfl rfl) (er_mul (er_if (b := b) (x := (1 : Int)) (y := -1) (et_e ((er_eqt (er_var rfl rfl) er_str).to hb)) (fun _ => er_int) fun _ => er_neg er_int) (er_add er_int (er_mod (er_var rfl rfl) er_int (by decide))) (Or.inl (by cases b <;> decide)))) ?_
    have hm0 := Int.emod_nonneg (i : Int) (show (3 : Int) ≠ 0 by decide)
    have hm1 := Int.emod_lt_of_pos (i : Int) (show (0 : Int) < 3 by decide)
    have hh : -(3 * ((i + 1 : Nat) : Int)) ≤ h + (if b then 1 else -1) * (1 + (i : Int) % 3) ∧ h + (if b then 1 else -1) * (1 + (i : Int) % 3) ≤ 3 * ((i + 1 : Nat) : Int) := by
      cases b
      · rw [if_neg (by decide)]; omega
      · rw [if_pos rfl]; omega
    generalize h + (if b then 1 else -1) * (1 + (i : Int) % 3) = h' at hh
    refine g_app (a := h') (int_own (K := K) hp) rfl (er_var rfl rfl) (by omega) fun H3 eb o3 => g_next fun H4 e4 => ⟨hs ++ [h'], h', _, _, _, _, _, _, _, rfl, (eb.ex e hps).trans e4, e4 _ _ (own_int o3), fun z hz' => ?_, hh.1, hh.2, by rw [List.length_append, hlen]; rfl⟩
    rcases List.mem_append.mp hz' with y | y
    · have := hz z y; omega
    · rw [List.mem_singleton.mp y]; exact hh
  · rintro x σ H3 hx ⟨steps, h, x4, x5, x6, x7, x8, x9, x10, rfl, e3, hsp, hz, g1, g2, hlen⟩
    have hlen2 : steps.length ≤ 64 := by rw [hlen]; exact hx
    have hx2 : x.cps.size ≤ 64 := hx
    have stepsB : ∀ z ∈ steps, Bits 1048576 z := fun z hz' => by
      have := hz z hz'
      exact bits_small (by omega) (by omega)
    have r3 := up r1 e3
    have rf : Rep.rep K H3 (.ref pf) (Lo.mk few) := ⟨pf, rfl, e3 _ _ (own_int of)⟩
    refine q_forT (as := [Lo.mk s, Lo.mk few, Lo.mk steps, Lo.mk (List.replicate (s.length : Int).toNat [5]).flatten, Lo.mk (few.take 7), Lo.mk s]) (eal_cons (ErF.lo (erf_list (er_var rfl r3))) (eal_cons (er_var rfl rf) (eal_cons (er_var (a := Lo.mk steps) rfl ⟨ps, rfl, hsp⟩) (eal_cons (ErF.lo (erf_rep (erf_lst (eal_cons er_int eal_nil) (by decide)) (er_lenL (er_var rfl r3)) (by omega) (by omega) (by decide)))
      (eal_cons (ErF.lo ((erf_sl (er_lo (er_var rfl rf)) eo_no (eo_at er_int)).to (cut_take few 7))) (eal_cons (ErF.lo (erf_list (er_var rfl r3))) eal_nil)))))) (by show 6 ≤ 100000; decide)
      (fun B i σ H' => ∃ y3 y4 y5 y6 y7 y8 y9 y10 : Option V, σ = [some v, some (.ref pf), some (.ref ps), y3, y4, y5, y6, y7, y8, y9, y10] ∧ Ex B H') (fun B H2 _ e2 => ⟨_, _, _, _, _, _, _, _, rfl, e2⟩) (fun B i σ' H' ⟨_, _, _, _, _, _, _, _, _, e⟩ => e) ?_ ?_
    · rintro B i ⟨row⟩ vr σ H4 eB hrow rr ⟨y3, y4, y5, y6, y7, y8, y9, y10, rfl, e4⟩
      have hrw : row.length ≤ 64 ∧ ∀ z ∈ row, Bits 1048576 z := by
        have hm := List.mem_of_getElem? hrow
        simp only [List.mem_cons, List.not_mem_nil, or_false, Lo.mk.injEq] at hm
        rcases hm with e | e | e | e | e | e
        · rw [e]; exact ⟨by omega, hb⟩
        · rw [e]; exact ⟨by omega, fewB⟩
        · rw [e]; exact ⟨hlen2, stepsB⟩
        · rw [e]
          refine ⟨?_, fun z hz => ?_⟩
          · rw [List.length_flatten, List.map_replicate, List.sum_replicate_nat]
            show (s.length : Int).toNat * 1 ≤ 64
            omega
          · obtain ⟨l, h1, h2⟩ := List.mem_flatten.mp hz
            rw [List.eq_of_mem_replicate h1] at h2
            rw [List.mem_singleton.mp h2]
            exact bits_small (by decide) (by decide)
        · rw [e]
          exact ⟨by rw [List.length_take]; omega, fun z hz => fewB z (List.mem_of_mem_take hz)⟩
        · rw [e]; exact ⟨by omega, hb⟩
      obtain ⟨hrl, hrb⟩ := hrw
      have rfB := up rf eB
      have hzl := zzP_len row
      have hsz := zzP_shows row
      have hmz := zzP_most row
      refine q_asgF (as := row) (erf_list (er_lo (er_var rfl (up rr e4)))) fun ph H5 nh e5 oh => ?_
      refine q_asgZ (z := zzP row) (erz_call1 (er_var rfl oh.rep) (by omega)) fun xz pz qz H6 n6 e6 za => ?_
      generalize zzP row = z at za hzl hsz hmz
      have eB6 : Ex B H6 := (e4.trans e5).trans e6
      have rr6 := up rr eB6
      refine q_no (et_orN (et_nY (er_isZ hZ hK (er_var rfl za.rep))) (et_orN (et_nY (er_isi (er_fldP (er_var rfl za.rep)) (fun _ _ r => ty_lst (α := Int) r) (by decide +kernel))) (et_nY (er_isi (er_fldC (er_var rfl za.rep)) (fun _ _ r => ty_lst (α := Int) r) (by decide +kernel))))) ?_
      refine q_no (et_orN (et_nY ((er_due (er_lo (er_var rfl rr6)) (er_loP (er_var rfl za.rep)) (er_loC (er_var rfl za.rep)) (by omega) (by omega) (by omega) hrb).to hsz)) (et_orN (et_e ((er_notB (b := true) (er_shows hZ (er_var rfl za.rep) (er_lo (er_var rfl rr6)) (by omega) (by omega) (by omega)) er_bl).to (by rw [hsz]; rfl)))
        (et_e ((er_neD (a := row) (b := row) (er_var rfl (oh.up e6).rep) (er_lo (er_var rfl rr6)) (fun _ _ => trivial) (fun _ _ => trivial) (by decide)).to (by simp))))) ?_
      refine q_forT (as := [row.reverse, row ++ [9], row.drop 1, few]) (eal_cons (ErF.er (erf_rev (er_lo (er_var rfl rr6)))) (eal_cons (ErF.er (erf_catI (er_var rfl rr6) (ErF.lo (erf_lst (eal_cons er_int eal_nil) (by decide))) (by simp; omega))) (eal_cons ((ErF.er (erf_sl (er_lo (er_var rfl rr6)) (eo_at er_int) eo_no)).to (cut_drop row 1)) (eal_cons (er_lo (er_var rfl (up rfB eB6))) eal_nil)))) (by show 4 ≤ 100000; decide)
        (fun B2 j σ H' => ∃ w9 : Option V, σ = [some v, some (.ref pf), some (.ref ps), y3, y4, y5, some vr, some (.ref ph), some (.ref xz), w9, y10] ∧ Ex B2 H') (fun B2 H7 _ e7 => ⟨_, rfl, e7⟩) (fun B2 j σ' H' ⟨_, _, e⟩ => e) ?_ ?_
      · rintro B2 j o vo σ H7 eB2 ho ro ⟨w9, rfl, e7⟩
        have hol : o.length ≤ 65 ∧ ∀ z ∈ o, Bits 1048576 z := by
          have hm := List.mem_of_getElem? ho
          simp only [List.mem_cons, List.not_mem_nil, or_false] at hm
          rcases hm with e | e | e | e
          · rw [e]; exact ⟨by rw [List.length_reverse]; omega, fun z hz => hrb z (List.mem_reverse.mp hz)⟩
          · rw [e]
            refine ⟨by simp; omega, fun z hz => ?_⟩
            rcases List.mem_append.mp hz with y | y
            · exact hrb z y
            · rw [List.mem_singleton.mp y]; exact bits_small (by decide) (by decide)
          · rw [e]; exact ⟨by rw [List.length_drop]; omega, fun z hz => hrb z (List.mem_of_mem_drop hz)⟩
          · rw [e]; exact ⟨by omega, fewB⟩
        have za7 := za.up (eB2.trans e7)
        refine g_no (et_e ((er_neb (er_shows hZ (er_var rfl za7.rep) (er_var rfl (up ro e7)) (by omega) (by omega) (by omega)) (er_due (er_var rfl (up ro e7)) (er_loP (er_var rfl za7.rep)) (er_loC (er_var rfl za7.rep)) (by omega) (by omega) (by omega) hol.2)).to (by simp))) ?_
        exact fun H8 e8 => ⟨_, rfl, e7.trans e8⟩
      · rintro B2 σ H7 eB2 ⟨w9, rfl, e7⟩
        have za7 := za.up (eB2.trans e7)
        have eB7 := eB6.trans (eB2.trans e7)
        have rr7 := up rr eB7
        refine q_no (et_andF (et_e (er_lt (er_lenL (er_lo (er_var rfl rr7))) er_int)) fun hlt => et_e ((er_nei (er_lenL (er_fldP (er_var rfl za7.rep))) (er_call1 (f := fun row : List Int => ((mostN row (2 ^ row.length) : Nat) : Int)) (a := row) (er_lo (er_var rfl rr7)) ⟨by have := of_decide_eq_true hlt; omega, hrb⟩)).to (by rw [hmz]; simp))) ?_
        obtain ⟨C, dx, zc, hxz, hpz, hqz⟩ := id za7
        refine q_appE (p := pz) (as := z.ps) (a := (row.length : Int)) hpz (ev_fldP rfl za7) (er_lenL (er_lo (er_var rfl rr7))) (by omega) fun H8 x8 hp8 => ?_
        have za8 : ZAt K H8 xz pz qz ⟨z.ps ++ [(row.length : Int)], z.cs⟩ := ⟨C, dx, zc, x8 _ _ n6.2.2.2.1 hxz, hp8, x8 _ _ (Ne.symm n6.2.2.2.2.2) hqz⟩
        have npB : B pz = none := fresh_back (e4.trans e5) n6.2.1
        have eB8 : Ex B H8 := x8.ex eB7 npB
        have rr8 := up rr eB8
        refine q_no (et_e ((er_notB (b := false) (er_shows hZ (er_var rfl za8.rep) (er_lo (er_var rfl rr8)) (by omega) (by show (z.ps ++ [(row.length : Int)]).length ≤ 1000; rw [List.length_append]; show z.ps.length + 1 ≤ 1000; omega) (by show z.cs.length ≤ 1000; omega)) er_bl).to (by rw [shows_not]; rfl))) ?_
        have hph : ph ≠ pz := fun z => by have := own_int oh; rw [z, n6.2.1] at this; cases this
        have h8 : H8 ph = some (.lst (row.map V.int)) := x8 _ _ hph ((e6.trans (eB2.trans e7)) _ _ (own_int oh))
        refine q_reverse (p := ph) (as := row) h8 rfl fun H9 x9 h9 => ?_
        have eB9 : Ex B H9 := x9.ex eB8 (fresh_back e4 nh)
        have hzr := zzP_len row.reverse
        have hsr := zzP_shows row.reverse
        refine q_asgZ (z := zzP row.reverse) (erz_call1 (er_var rfl (int_own (K := K) h9).rep) (by rw [List.length_reverse]; omega)) fun x' p' q' H10 n10 e10 za10 => ?_
        generalize zzP row.reverse = zr at za10 hzr hsr
        rw [List.length_reverse] at hzr
        refine g_no (et_nY ((er_due (ErF.er (erf_rev (er_lo (er_var rfl (up rr (eB9.trans e10)))))) (er_loP (er_var rfl za10.rep)) (er_loC (er_var rfl za10.rep)) (by rw [List.length_reverse]; omega) (by omega) (by omega) (fun z hz => hrb z (List.mem_reverse.mp hz))).to hsr)) ?_
        exact fun H11 e11 => ⟨_, _, _, _, _, _, _, _, rfl, (eB9.trans e10).trans e11⟩
    · rintro B σ H4 eB ⟨y3, y4, y5, y6, y7, y8, y9, y10, rfl, e4⟩
      refine g_ret (a := true) ((er_and (a := true) (b := true) ((er_eqD (a := (zzP []).ps) (b := []) (er_fldP (ErZ.er (erz_call1 (a := ([] : List Int)) (ErF.er (erf_lst eal_nil (by decide))) (by decide)))) (ErF.er (erf_lst eal_nil (by decide))) (fun _ _ => trivial) (fun _ _ => trivial) (by decide)).to (by decide)) fun _ =>
        (er_and (a := true) (b := true) ((er_eqD (a := (zzP [4, 4]).cs) (b := []) (er_fldC (ErZ.er (erz_call1 (a := [4, 4]) (ErF.er (erf_lst (eal_cons er_int (eal_cons er_int eal_nil)) (by decide))) (by decide)))) (ErF.er (erf_lst eal_nil (by decide))) (fun _ _ => trivial) (fun _ _ => trivial) (by decide)).to (by decide)) fun _ =>
        ((er_eqi (er_lenL (er_fldP (ErZ.er (erz_call1 (a := [1, 3, 3, 2, 5]) (ErF.er (erf_lst (eal_cons er_int (eal_cons er_int (eal_cons er_int (eal_cons er_int (eal_cons er_int eal_nil))))) (by decide))) (by decide))))) er_int).to (by decide))).to rfl).to rfl) fun u H5 e5 ru => ?_
      obtain rfl : u = .bl true := ru
      exact q H5
theorem ok_law {f f_l_cell_at f_l_draw f_l_word f_longest f_l_due f_Zigzag_shows f_l_most C_Zigzag : Addr} {fd fd_l_cell_at fd_l_draw fd_l_word fd_longest fd_l_due fd_Zigzag_shows fd_l_most : FuncData} (F : Fun K "law" "law" s_law f fd) (T : Bi mg) (hZ : ZC K C_Zigzag) (hK : ZK K C_Zigzag) (g_Zigzag : mg "Zigzag" = some (.ref C_Zigzag)) (c_l_cell_at : Cal P w K mg base 1 "_law_cell_at" ["_law_script", "_law_k"] (sp_l_cell_at K) f_l_cell_at fd_l_cell_at) (c_l_draw : Cal P w K mg base 1 "_law_draw" ["_law_cell", "_law_k", "_law_many"] (sp_l_draw K) f_l_draw fd_l_draw) (c_l_word : Cal P w K mg base 2 "_law_word" ["_law_script"] (sp_l_word K) f_l_word fd_l_word) (c_longest : Cal P w K mg base 3 "longest" ["row"] (sp_longest K) f_longest fd_longest) (c_l_due : Cal P w K mg base 2 "_law_due" ["_law_row", "_law_places_here", "_law_cuts"] (sp_l_due K) f_l_due fd_l_due) (c_Zigzag_shows : Mtd P w K mg base 3 C_Zigzag "shows" ["self", "row"] (sp_Zigzag_shows K) f_Zigzag_shows fd_Zigzag_shows) (c_l_most : Cal P w K mg base 2 "_law_most" ["_law_row"] (sp_l_most K) f_l_most fd_l_most) : FnOk P w K mg base CX0 4 f fd ["_law_script"] (sp_law K) :=
  F.ok sc_law (fun vs H Q E h => by first | exact len_pr1 h | exact len_pr2 h | exact len_pr3 h | exact len_prF1 h | exact len_prF2 h | exact len_law h) (fun cdv A outer s H vs Q E hr h => ⟨t_law K C_Zigzag, by exact
    ((pss_cons (ps_setLc (i := 1) (own := [("_law_cell", 10)]) (g := (gName 10)) (tt := tYes) rfl sc_law.nd rfl rfl (sw_true rfl rfl rfl (by decide +kernel)) (pi_list (pv 0)) (blkOk_by (own := [("_law_cell", 10)]) (N := N_law) (sc := defScope s_law) (by decide +kernel)) (fun _ _ _ _ _ => (pg_name (i := 10) sc_law.nd rfl (.inl rfl))) (fun _ _ _ _ _ => pts_nil) (fun _ _ _ _ _ => (pe_op oModI (pe_op oDivI (pv 10) pe_int) (pe_op oAddI pe_int (pe_call c_l_draw.ok (hr.mono (by decide)) (by rfl) c_l_draw.g c_l_draw.kp c_l_draw.b .nil pass0 (pa_cons (pe_call c_l_cell_at.ok (hr.mono (by decide)) (by rfl) c_l_cell_at.g c_l_cell_at.kp c_l_cell_at.b .nil pass0 (pa_cons (pv 0) (pa_cons pe_int pa_nil))) (pa_cons pe_int (pa_cons pe_int pa_nil))))))))
      (pss_cons (ps_par (by rfl) sc_law.nd rfl rfl (by decide) rfl rfl (pa_cons (pe_lst pa_nil) (pa_cons pe_int pa_nil)) (by rfl))
      (pss_cons (ps_for PassesOwn.never rfl (pi_enumS (by rfl) T.enumerate_ (pe_call c_l_word.ok (hr.mono (by decide)) (by rfl) c_l_word.g c_l_word.kp c_l_word.b .nil pass0 (pa_cons (pv 0) pa_nil))) (pg_tup rfl (pgs_cons (pg_name (i := 4) sc_law.nd rfl (.inl rfl)) (pgs_cons (pg_name (i := 5) sc_law.nd rfl (.inl rfl)) pgs_nil)))
      (pss_cons (ps_set (i := 3) sc_law.nd rfl (.inl rfl) (pe_op oAddI (pv 3) (pe_op oMulI (pe_ifExp (pt_cmpR oEqT (pv 5) pe_str (nomark _)) pe_int (pe_un oNegI pe_int)) (pe_op oAddI pe_int (pe_op oModI (pv 4) pe_int)))))
      (pss_one (ps_expr (pe_bm PySem.F.plainAttrs_list PySem.F.slot_list_append PySem.F.type_list_append mt_append (pv 2) (pa_cons (pv 3) pa_nil))))))
      (pss_cons (ps_for PassesOwn.never rfl (pi_tup (pe_tup (pa_cons (pe_callTy cLstL (by rfl) T.list_ (by decide +kernel) (pa_cons (pv 0) pa_nil)) (pa_cons (pv 1) (pa_cons (pv 2) (pa_cons (pe_op op_rep (pe_lst (pa_cons pe_int pa_nil)) (pe_callB cLenL (by rfl) T.len_ (by decide +kernel) (pa_cons (pv 0) pa_nil))) (pa_cons (pe_slice sl_list (pv 1) po_none (po_some pe_int)) (pa_cons (pe_callTy cLstL (by rfl) T.list_ (by decide +kernel) (pa_cons (pv 0) pa_nil)) pa_nil)))))))) (pg_name (i := 6) sc_law.nd rfl (.inl rfl))
      (pss_cons (ps_set (i := 7) sc_law.nd rfl (.inl rfl) (pe_callTy cLstL (by rfl) T.list_ (by decide +kernel) (pa_cons (pv 6) pa_nil)))
      (pss_cons (ps_set (i := 8) sc_law.nd rfl (.inl rfl) (pe_call c_longest.ok (hr.mono (by decide)) (by rfl) c_longest.g c_longest.kp c_longest.b .nil pass0 (pa_cons (pv 7) pa_nil)))
      (pss_cons (ps_if (PW.pt (pw_or (pt_not (pt_val (pe_callB cIsi (by rfl) T.isinstance_ (by decide +kernel) (pa_cons (pv 8) (pa_cons (pe_glob (v := .ref C_Zigzag) (by rfl) g_Zigzag rfl) pa_nil))))) (pw_or (pt_not (pt_val (pe_callB cIsi (by rfl) T.isinstance_ (by decide +kernel) (pa_cons (pe_fld (pv 8) rfl) (pa_cons (pe_bltn (v := .ty "list") (by rfl) T.list_ (by decide +kernel) rfl) pa_nil))))) (pw_or1 (pt_not (pt_val (pe_callB cIsi (by rfl) T.isinstance_ (by decide +kernel) (pa_cons (pe_fld (pv 8) rfl) (pa_cons (pe_bltn (v := .ty "list") (by rfl) T.list_ (by decide +kernel) rfl) pa_nil))))))))) (pss_one (ps_ret pe_bl))
      pss_nil)
      (pss_cons (ps_if (PW.pt (pw_or (pt_not (pt_val (pe_call c_l_due.ok (hr.mono (by decide)) (by rfl) c_l_due.g c_l_due.kp c_l_due.b .nil pass0 (pa_cons (pv 6) (pa_cons (pe_fld (pv 8) rfl) (pa_cons (pe_fld (pv 8) rfl) pa_nil)))))) (pw_or (pt_cmpR op_notBl (pe_meth (pv 8) c_Zigzag_shows.cl c_Zigzag_shows.m c_Zigzag_shows.ok (hr.mono (by decide)) c_Zigzag_shows.b .nil pass0 (pa_cons (pv 6) pa_nil)) pe_bl (nomark _)) (pw_or1 (pt_cmpR (op_neD hr.units) (pv 7) (pv 6) (nomark _)))))) (pss_one (ps_ret pe_bl))
      pss_nil)
      (pss_cons (ps_for PassesOwn.never rfl (pi_tup (pe_tup (pa_cons (pe_revL (pv 6)) (pa_cons (pe_op op_cat (pv 6) (pe_lst (pa_cons pe_int pa_nil))) (pa_cons (pe_slice sl_list (pv 6) (po_some pe_int) po_none) (pa_cons (pv 1) pa_nil)))))) (pg_name (i := 9) sc_law.nd rfl (.inl rfl))
      (pss_one (ps_if (pt_cmpR oNeB (pe_meth (pv 8) c_Zigzag_shows.cl c_Zigzag_shows.m c_Zigzag_shows.ok (hr.mono (by decide)) c_Zigzag_shows.b .nil pass0 (pa_cons (pv 9) pa_nil)) (pe_call c_l_due.ok (hr.mono (by decide)) (by rfl) c_l_due.g c_l_due.kp c_l_due.b .nil pass0 (pa_cons (pv 9) (pa_cons (pe_fld (pv 8) rfl) (pa_cons (pe_fld (pv 8) rfl) pa_nil)))) (nomark _)) (pss_one (ps_ret pe_bl))
      pss_nil)))
      (pss_cons (ps_if (PW.pt (pw_and (pt_cmpR oLtI (pe_callB cLenL (by rfl) T.len_ (by decide +kernel) (pa_cons (pv 6) pa_nil)) pe_int (nomark _)) (pw_and1 (pt_cmpR oNeI (pe_callB cLenL (by rfl) T.len_ (by decide +kernel) (pa_cons (pe_fld (pv 8) rfl) pa_nil)) (pe_call c_l_most.ok (hr.mono (by decide)) (by rfl) c_l_most.g c_l_most.kp c_l_most.b .nil pass0 (pa_cons (pv 6) pa_nil)) (nomark _))))) (pss_one (ps_ret pe_bl))
      pss_nil)
      (pss_cons (ps_expr (pe_bm PySem.F.plainAttrs_list PySem.F.slot_list_append PySem.F.type_list_append mt_append (pe_fld (pv 8) rfl) (pa_cons (pe_callB cLenL (by rfl) T.len_ (by decide +kernel) (pa_cons (pv 6) pa_nil)) pa_nil)))
      (pss_cons (ps_if (pt_cmpR op_notBl (pe_meth (pv 8) c_Zigzag_shows.cl c_Zigzag_shows.m c_Zigzag_shows.ok (hr.mono (by decide)) c_Zigzag_shows.b .nil pass0 (pa_cons (pv 6) pa_nil)) pe_bl (nomark _)) (pss_one (ps_ret pe_bl))
      pss_nil)
      (pss_cons (ps_expr (pe_bm0 PySem.F.plainAttrs_list PySem.F.slot_list_reverse PySem.F.type_list_reverse mt_reverse (pv 7)))
      (pss_cons (ps_set (i := 8) sc_law.nd rfl (.inl rfl) (pe_call c_longest.ok (hr.mono (by decide)) (by rfl) c_longest.g c_longest.kp c_longest.b .nil pass0 (pa_cons (pv 7) pa_nil)))
      (pss_one (ps_if (pt_not (pt_val (pe_call c_l_due.ok (hr.mono (by decide)) (by rfl) c_l_due.g c_l_due.kp c_l_due.b .nil pass0 (pa_cons (pe_revL (pv 6)) (pa_cons (pe_fld (pv 8) rfl) (pa_cons (pe_fld (pv 8) rfl) pa_nil)))))) (pss_one (ps_ret pe_bl))
      pss_nil)))))))))))))
      (pss_one (ps_ret (pe_and (pe_cmpR (op_eqD hr.units) (pe_fld (pe_call c_longest.ok (hr.mono (by decide)) (by rfl) c_longest.g c_longest.kp c_longest.b .nil pass0 (pa_cons (pe_lst pa_nil) pa_nil)) rfl) (pe_lst pa_nil) (nomark _)) (pe_and (pe_cmpR (op_eqD hr.units) (pe_fld (pe_call c_longest.ok (hr.mono (by decide)) (by rfl) c_longest.g c_longest.kp c_longest.b .nil pass0 (pa_cons (pe_lst (pa_cons pe_int (pa_cons pe_int pa_nil))) pa_nil)) rfl) (pe_lst pa_nil) (nomark _)) (pe_one (pe_cmpR oEqI (pe_callB cLenL (by rfl) T.len_ (by decide +kernel) (pa_cons (pe_fld (pe_call c_longest.ok (hr.mono (by decide)) (by rfl) c_longest.g c_longest.kp c_longest.b .nil pass0 (pa_cons (pe_lst (pa_cons pe_int (pa_cons pe_int (pa_cons pe_int (pa_cons pe_int (pa_cons pe_int pa_nil)))))) pa_nil)) rfl) pa_nil)) pe_int (nomark _)))))))))))), pure_law K C_Zigzag hZ hK vs H Q E h⟩)


theorem all_mk {l : PySem.W.OpenLaw} {w : World} {K : PySem.W.Frag} {h : Heap} {mg : Str → Option Value} {fa C_Zigzag f0 f1 f2 f3 f4 f5 f6 f7 f8 f9 f10 f11 f12 f13 f14 f15 f16 f17 : Addr} {od0 an0 od1 an1 od2 an2 od3 an3 od4 an4 od5 an5 od6 an6 od7 an7 od8 an8 od9 an9 od10 an10 od11 an11 od12 an12 od13 an13 od14 an14 od15 an15 od16 an16 od17 an17 : Option Addr} {sl0 sl1 sl2 sl3 sl4 sl5 sl6 sl7 sl8 sl9 sl10 sl11 sl12 sl13 sl14 sl15 sl16 sl17 : Array (Option Value)} {oc0 kV0 dc0 pm0 cd0 ct0 oc1 kV1 dc1 pm1 cd1 ct1 oc2 kV2 dc2 pm2 cd2 ct2 oc3 kV3 dc3 pm3 cd3 ct3 oc4 kV4 dc4 pm4 cd4 ct4 oc5 kV5 dc5 pm5 cd5 ct5 oc6 kV6 dc6 pm6 cd6 ct6 oc7 kV7 dc7 pm7 cd7 ct7 oc8 kV8 dc8 pm8 cd8 ct8 oc9 kV9 dc9 pm9 cd9 ct9 oc10 kV10 dc10 pm10 cd10 ct10 oc11 kV11 dc11 pm11 cd11 ct11 oc12 kV12 dc12 pm12 cd12 ct12 oc13 kV13 dc13 pm13 cd13 ct13 oc14 kV14 dc14 pm14 cd14 ct14 oc15 kV15 dc15 pm15 cd15 ct15 oc16 kV16 dc16 pm16 cd16 ct16 oc17 kV17 dc17 pm17 cd17 ct17 : Value} (X : K.In h) (G : h.Ns mainGlobals mg) (hfa : mg "law" = some (.ref fa))
    (a_Zigzag : PySem.W.nsIn K mainGlobals "Zigzag" = some (some (.ref C_Zigzag)))
    (a0 : PySem.W.nsIn K mainGlobals "is_whole" = some (some (.ref f0)))
    (l0 : K.lookup f0 = some ⟨oc0, od0, .func (PySem.W.fnOf "is_whole" "is_whole" (defArgs s_is_whole) (defBody s_is_whole) (defScope s_is_whole) .none kV0 dc0 pm0 an0 cd0 ct0), sl0⟩) (c0 : PySem.W.codeIn K cd0 "is_whole" = true) (k0 : PySem.W.keepIn K (.ref f0) = true)
    (a1 : PySem.W.nsIn K mainGlobals "check_row" = some (some (.ref f1)))
    (l1 : K.lookup f1 = some ⟨oc1, od1, .func (PySem.W.fnOf "check_row" "check_row" (defArgs s_check_row) (defBody s_check_row) (defScope s_check_row) .none kV1 dc1 pm1 an1 cd1 ct1), sl1⟩) (c1 : PySem.W.codeIn K cd1 "check_row" = true) (k1 : PySem.W.keepIn K (.ref f1) = true)
    (a2 : PySem.W.nsIn K mainGlobals "word_by" = some (some (.ref f2)))
    (l2 : K.lookup f2 = some ⟨oc2, od2, .func (PySem.W.fnOf "word_by" "word_by" (defArgs s_word_by) (defBody s_word_by) (defScope s_word_by) .none kV2 dc2 pm2 an2 cd2 ct2), sl2⟩) (c2 : PySem.W.codeIn K cd2 "word_by" = true) (k2 : PySem.W.keepIn K (.ref f2) = true)
    (a3 : PySem.W.nsIn K mainGlobals "are_places" = some (some (.ref f3)))
    (l3 : K.lookup f3 = some ⟨oc3, od3, .func (PySem.W.fnOf "are_places" "are_places" (defArgs s_are_places) (defBody s_are_places) (defScope s_are_places) .none kV3 dc3 pm3 an3 cd3 ct3), sl3⟩) (c3 : PySem.W.codeIn K cd3 "are_places" = true) (k3 : PySem.W.keepIn K (.ref f3) = true)
    (a4 : PySem.W.nsIn K mainGlobals "is_zigzag" = some (some (.ref f4)))
    (l4 : K.lookup f4 = some ⟨oc4, od4, .func (PySem.W.fnOf "is_zigzag" "is_zigzag" (defArgs s_is_zigzag) (defBody s_is_zigzag) (defScope s_is_zigzag) .none kV4 dc4 pm4 an4 cd4 ct4), sl4⟩) (c4 : PySem.W.codeIn K cd4 "is_zigzag" = true) (k4 : PySem.W.keepIn K (.ref f4) = true)
    (a5 : PySem.W.nsIn K mainGlobals "is_even" = some (some (.ref f5)))
    (l5 : K.lookup f5 = some ⟨oc5, od5, .func (PySem.W.fnOf "is_even" "is_even" (defArgs s_is_even) (defBody s_is_even) (defScope s_is_even) .none kV5 dc5 pm5 an5 cd5 ct5), sl5⟩) (c5 : PySem.W.codeIn K cd5 "is_even" = true) (k5 : PySem.W.keepIn K (.ref f5) = true)
    (a6 : PySem.W.findIn K (.ref C_Zigzag) "__init__" = some (some (.ref f6))) (i6 : PySem.W.isFn K (.ref f6) = true)
    (l6 : K.lookup f6 = some ⟨oc6, od6, .func (PySem.W.fnOf "__init__" "Zigzag.__init__" (defArgs s_Zigzag___init__) (defBody s_Zigzag___init__) (defScope s_Zigzag___init__) .none kV6 dc6 pm6 an6 cd6 ct6), sl6⟩) (c6 : PySem.W.codeIn K cd6 "Zigzag.__init__" = true) (k6 : PySem.W.keepIn K (.ref f6) = true)
    (a7 : PySem.W.findIn K (.ref C_Zigzag) "shows" = some (some (.ref f7))) (i7 : PySem.W.isFn K (.ref f7) = true)
    (l7 : K.lookup f7 = some ⟨oc7, od7, .func (PySem.W.fnOf "shows" "Zigzag.shows" (defArgs s_Zigzag_shows) (defBody s_Zigzag_shows) (defScope s_Zigzag_shows) .none kV7 dc7 pm7 an7 cd7 ct7), sl7⟩) (c7 : PySem.W.codeIn K cd7 "Zigzag.shows" = true) (k7 : PySem.W.keepIn K (.ref f7) = true)
    (a8 : PySem.W.nsIn K mainGlobals "longest" = some (some (.ref f8)))
    (l8 : K.lookup f8 = some ⟨oc8, od8, .func (PySem.W.fnOf "longest" "longest" (defArgs s_longest) (defBody s_longest) (defScope s_longest) .none kV8 dc8 pm8 an8 cd8 ct8), sl8⟩) (c8 : PySem.W.codeIn K cd8 "longest" = true) (k8 : PySem.W.keepIn K (.ref f8) = true)
    (a9 : PySem.W.nsIn K mainGlobals "_law_cell_at" = some (some (.ref f9)))
    (l9 : K.lookup f9 = some ⟨oc9, od9, .func (PySem.W.fnOf "_law_cell_at" "_law_cell_at" (defArgs s_l_cell_at) (defBody s_l_cell_at) (defScope s_l_cell_at) .none kV9 dc9 pm9 an9 cd9 ct9), sl9⟩) (c9 : PySem.W.codeIn K cd9 "_law_cell_at" = true) (k9 : PySem.W.keepIn K (.ref f9) = true)
    (a10 : PySem.W.nsIn K mainGlobals "_law_draw" = some (some (.ref f10)))
    (l10 : K.lookup f10 = some ⟨oc10, od10, .func (PySem.W.fnOf "_law_draw" "_law_draw" (defArgs s_l_draw) (defBody s_l_draw) (defScope s_l_draw) .none kV10 dc10 pm10 an10 cd10 ct10), sl10⟩) (c10 : PySem.W.codeIn K cd10 "_law_draw" = true) (k10 : PySem.W.keepIn K (.ref f10) = true)
    (a11 : PySem.W.nsIn K mainGlobals "_law_whole" = some (some (.ref f11)))
    (l11 : K.lookup f11 = some ⟨oc11, od11, .func (PySem.W.fnOf "_law_whole" "_law_whole" (defArgs s_l_whole) (defBody s_l_whole) (defScope s_l_whole) .none kV11 dc11 pm11 an11 cd11 ct11), sl11⟩) (c11 : PySem.W.codeIn K cd11 "_law_whole" = true) (k11 : PySem.W.keepIn K (.ref f11) = true)
    (a12 : PySem.W.nsIn K mainGlobals "_law_word" = some (some (.ref f12)))
    (l12 : K.lookup f12 = some ⟨oc12, od12, .func (PySem.W.fnOf "_law_word" "_law_word" (defArgs s_l_word) (defBody s_l_word) (defScope s_l_word) .none kV12 dc12 pm12 an12 cd12 ct12), sl12⟩) (c12 : PySem.W.codeIn K cd12 "_law_word" = true) (k12 : PySem.W.keepIn K (.ref f12) = true)
    (a13 : PySem.W.nsIn K mainGlobals "_law_places" = some (some (.ref f13)))
    (l13 : K.lookup f13 = some ⟨oc13, od13, .func (PySem.W.fnOf "_law_places" "_law_places" (defArgs s_l_places) (defBody s_l_places) (defScope s_l_places) .none kV13 dc13 pm13 an13 cd13 ct13), sl13⟩) (c13 : PySem.W.codeIn K cd13 "_law_places" = true) (k13 : PySem.W.keepIn K (.ref f13) = true)
    (a14 : PySem.W.nsIn K mainGlobals "_law_turns" = some (some (.ref f14)))
    (l14 : K.lookup f14 = some ⟨oc14, od14, .func (PySem.W.fnOf "_law_turns" "_law_turns" (defArgs s_l_turns) (defBody s_l_turns) (defScope s_l_turns) .none kV14 dc14 pm14 an14 cd14 ct14), sl14⟩) (c14 : PySem.W.codeIn K cd14 "_law_turns" = true) (k14 : PySem.W.keepIn K (.ref f14) = true)
    (a15 : PySem.W.nsIn K mainGlobals "_law_due" = some (some (.ref f15)))
    (l15 : K.lookup f15 = some ⟨oc15, od15, .func (PySem.W.fnOf "_law_due" "_law_due" (defArgs s_l_due) (defBody s_l_due) (defScope s_l_due) .none kV15 dc15 pm15 an15 cd15 ct15), sl15⟩) (c15 : PySem.W.codeIn K cd15 "_law_due" = true) (k15 : PySem.W.keepIn K (.ref f15) = true)
    (a16 : PySem.W.nsIn K mainGlobals "_law_most" = some (some (.ref f16)))
    (l16 : K.lookup f16 = some ⟨oc16, od16, .func (PySem.W.fnOf "_law_most" "_law_most" (defArgs s_l_most) (defBody s_l_most) (defScope s_l_most) .none kV16 dc16 pm16 an16 cd16 ct16), sl16⟩) (c16 : PySem.W.codeIn K cd16 "_law_most" = true) (k16 : PySem.W.keepIn K (.ref f16) = true)
    (a17 : PySem.W.nsIn K mainGlobals "law" = some (some (.ref f17)))
    (l17 : K.lookup f17 = some ⟨oc17, od17, .func (PySem.W.fnOf "law" "law" (defArgs s_law) (defBody s_law) (defScope s_law) .none kV17 dc17 pm17 an17 cd17 ct17), sl17⟩) (c17 : PySem.W.codeIn K cd17 "law" = true) (k17 : PySem.W.keepIn K (.ref f17) = true)
    (z_all : PySem.W.nsIn K mainGlobals "all" = some none)
    (z_bool : PySem.W.nsIn K mainGlobals "bool" = some none)
    (z_enumerate : PySem.W.nsIn K mainGlobals "enumerate" = some none)
    (z_int : PySem.W.nsIn K mainGlobals "int" = some none)
    (z_isinstance : PySem.W.nsIn K mainGlobals "isinstance" = some none)
    (z_len : PySem.W.nsIn K mainGlobals "len" = some none)
    (z_list : PySem.W.nsIn K mainGlobals "list" = some none)
    (z_max : PySem.W.nsIn K mainGlobals "max" = some none)
    (z_min : PySem.W.nsIn K mainGlobals "min" = some none)
    (z_range : PySem.W.nsIn K mainGlobals "range" = some none)
    (z_set : PySem.W.nsIn K mainGlobals "set" = some none)
    (z_sorted : PySem.W.nsIn K mainGlobals "sorted" = some none)
    (z_zip : PySem.W.nsIn K mainGlobals "zip" = some none)
    (pg_Zigzag : PySem.W.plainGet K C_Zigzag Str.empty = true) (hd_Zigzag : PySem.W.hasDictIn K C_Zigzag = true) (po_Zigzag : PySem.W.plainOver K C_Zigzag = true)
    (sa_Zigzag : PySem.W.findIn K (.ref C_Zigzag) "__setattr__" = some (some (.builtin "object.__setattr__"))) (mk_Zigzag : PySem.W.makesIn K C_Zigzag = true) (kc_Zigzag : PySem.W.keepIn K (.ref C_Zigzag) = true)
    (nP_Zigzag : PySem.W.findIn K (.ref C_Zigzag) "places" = some none) (nC_Zigzag : PySem.W.findIn K (.ref C_Zigzag) "cuts" = some none)
    (ca_Zigzag : PySem.W.findIn K (.ref C_Zigzag) "__class__" = some (some (.builtin "object.__class__"))) (cn_Zigzag : PySem.W.specialIn K (.builtin "object.__class__") "__get__" = some (some (.builtin "getset_descriptor.__get__")))
    (ct_Zigzag : PySem.W.takesIn K (.builtin "object.__class__") = some true) (cm_Zigzag : PySem.W.mroIn K C_Zigzag (.type "object") = some true) :
    ∃ fd : FuncData, (∀ (s : Shared) (v : Value), BindsTo s fd ⟨[v], []⟩ [("_law_script", v)]) ∧ ∀ base : Heap, K.In base → base.Ns mainGlobals mg → FnOk l.prog w K mg base CX0 4 fa fd ["_law_script"] (sp_law K) := by
  have e := hfa.symm.trans (PySem.W.mg_of X G a17)
  cases e
  have T : Bi mg := ⟨PySem.W.mg_none_of X G z_all, PySem.W.mg_none_of X G z_bool, PySem.W.mg_none_of X G z_enumerate, PySem.W.mg_none_of X G z_int, PySem.W.mg_none_of X G z_isinstance, PySem.W.mg_none_of X G z_len, PySem.W.mg_none_of X G z_list, PySem.W.mg_none_of X G z_max, PySem.W.mg_none_of X G z_min, PySem.W.mg_none_of X G z_range, PySem.W.mg_none_of X G z_set, PySem.W.mg_none_of X G z_sorted, PySem.W.mg_none_of X G z_zip⟩
  have F0 := fun_mk (st := s_is_whole) l0 c0 k0
  have b0 := F0.binds (ps := ["thing"]) fun _ _ _ _ _ _ us hl => match us, hl with | [_], _ => rfl
  have F1 := fun_mk (st := s_check_row) l1 c1 k1
  have b1 := F1.binds (ps := ["row"]) fun _ _ _ _ _ _ us hl => match us, hl with | [_], _ => rfl
  have F2 := fun_mk (st := s_word_by) l2 c2 k2
  have b2 := F2.binds (ps := ["row"]) fun _ _ _ _ _ _ us hl => match us, hl with | [_], _ => rfl
  have F3 := fun_mk (st := s_are_places) l3 c3 k3
  have b3 := F3.binds (ps := ["row", "places"]) fun _ _ _ _ _ _ us hl => match us, hl with | [_, _], _ => rfl
  have F4 := fun_mk (st := s_is_zigzag) l4 c4 k4
  have b4 := F4.binds (ps := ["row", "places"]) fun _ _ _ _ _ _ us hl => match us, hl with | [_, _], _ => rfl
  have F5 := fun_mk (st := s_is_even) l5 c5 k5
  have b5 := F5.binds (ps := ["row", "first", "last"]) fun _ _ _ _ _ _ us hl => match us, hl with | [_, _, _], _ => rfl
  have F6 := fun_mk (st := s_Zigzag___init__) l6 c6 k6
  have b6 := F6.binds (ps := ["self", "places", "cuts"]) fun _ _ _ _ _ _ us hl => match us, hl with | [_, _, _], _ => rfl
  have F7 := fun_mk (st := s_Zigzag_shows) l7 c7 k7
  have b7 := F7.binds (ps := ["self", "row"]) fun _ _ _ _ _ _ us hl => match us, hl with | [_, _], _ => rfl
  have F8 := fun_mk (st := s_longest) l8 c8 k8
  have b8 := F8.binds (ps := ["row"]) fun _ _ _ _ _ _ us hl => match us, hl with | [_], _ => rfl
  have F9 := fun_mk (st := s_l_cell_at) l9 c9 k9
  have b9 := F9.binds (ps := ["_law_script", "_law_k"]) fun _ _ _ _ _ _ us hl => match us, hl with | [_, _], _ => rfl
  have F10 := fun_mk (st := s_l_draw) l10 c10 k10
  have b10 := F10.binds (ps := ["_law_cell", "_law_k", "_law_many"]) fun _ _ _ _ _ _ us hl => match us, hl with | [_, _, _], _ => rfl
  have F11 := fun_mk (st := s_l_whole) l11 c11 k11
  have b11 := F11.binds (ps := ["_law_number"]) fun _ _ _ _ _ _ us hl => match us, hl with | [_], _ => rfl
  have F12 := fun_mk (st := s_l_word) l12 c12 k12
  have b12 := F12.binds (ps := ["_law_script"]) fun _ _ _ _ _ _ us hl => match us, hl with | [_], _ => rfl
  have F13 := fun_mk (st := s_l_places) l13 c13 k13
  have b13 := F13.binds (ps := ["_law_row", "_law_places_here"]) fun _ _ _ _ _ _ us hl => match us, hl with | [_, _], _ => rfl
  have F14 := fun_mk (st := s_l_turns) l14 c14 k14
  have b14 := F14.binds (ps := ["_law_numbers"]) fun _ _ _ _ _ _ us hl => match us, hl with | [_], _ => rfl
  have F15 := fun_mk (st := s_l_due) l15 c15 k15
  have b15 := F15.binds (ps := ["_law_row", "_law_places_here", "_law_cuts"]) fun _ _ _ _ _ _ us hl => match us, hl with | [_, _, _], _ => rfl
  have F16 := fun_mk (st := s_l_most) l16 c16 k16
  have b16 := F16.binds (ps := ["_law_row"]) fun _ _ _ _ _ _ us hl => match us, hl with | [_], _ => rfl
  have F17 := fun_mk (st := s_law) l17 c17 k17
  have hZ_Zigzag : ZC K C_Zigzag := ⟨⟨pg_Zigzag, hd_Zigzag, po_Zigzag, sa_Zigzag⟩, nP_Zigzag, nC_Zigzag, a_Zigzag⟩
  have cl_Zigzag := hZ_Zigzag.cl
  have m_Zigzag : Mkr K mg "Zigzag" C_Zigzag f6 _ ["self", "places", "cuts"] := ⟨⟨mk_Zigzag, a6, i6, kc_Zigzag⟩, PySem.W.mg_of X G a_Zigzag, b6⟩
  have hK_Zigzag : ZK K C_Zigzag := ⟨ca_Zigzag, cn_Zigzag, ct_Zigzag, cm_Zigzag⟩
  refine ⟨PySem.W.fnOf "law" "law" (defArgs s_law) (defBody s_law) (defScope s_law) .none kV17 dc17 pm17 an17 cd17 ct17, fun s v => .of_eq rfl, fun base _ _ => ?_⟩
  have q_is_whole : Cal l.prog w K mg base 1 "is_whole" ["thing"] (sp_is_whole K) f0 _ := ⟨ok_is_whole F0 T, PySem.W.mg_of X G a0, k0, b0⟩
  have q_check_row : Cal l.prog w K mg base 2 "check_row" ["row"] (sp_check_row K) f1 _ := ⟨ok_check_row F1 T q_is_whole, PySem.W.mg_of X G a1, k1, b1⟩
  have q_word_by : Cal l.prog w K mg base 1 "word_by" ["row"] (sp_word_by K) f2 _ := ⟨ok_word_by F2 T, PySem.W.mg_of X G a2, k2, b2⟩
  have q_are_places : Cal l.prog w K mg base 2 "are_places" ["row", "places"] (sp_are_places K) f3 _ := ⟨ok_are_places F3 T q_is_whole, PySem.W.mg_of X G a3, k3, b3⟩
  have q_is_zigzag : Cal l.prog w K mg base 2 "is_zigzag" ["row", "places"] (sp_is_zigzag K) f4 _ := ⟨ok_is_zigzag F4 T q_word_by, PySem.W.mg_of X G a4, k4, b4⟩
  have q_is_even : Cal l.prog w K mg base 1 "is_even" ["row", "first", "last"] (sp_is_even K) f5 _ := ⟨ok_is_even F5 T, PySem.W.mg_of X G a5, k5, b5⟩
  have q_Zigzag___init__ := ok_Zigzag___init__ (P := l.prog) (w := w) (base := base) F6 T
  have q_Zigzag_shows : Mtd l.prog w K mg base 3 C_Zigzag "shows" ["self", "row"] (sp_Zigzag_shows K) f7 _ := ⟨ok_Zigzag_shows F7 T q_are_places q_is_zigzag q_is_even, cl_Zigzag, ⟨a7, i7, k7⟩, b7⟩
  have q_longest : Cal l.prog w K mg base 3 "longest" ["row"] (sp_longest K) f8 _ := ⟨ok_longest F8 T hZ_Zigzag q_check_row m_Zigzag q_Zigzag___init__, PySem.W.mg_of X G a8, k8, b8⟩
  have q_l_cell_at : Cal l.prog w K mg base 1 "_law_cell_at" ["_law_script", "_law_k"] (sp_l_cell_at K) f9 _ := ⟨ok_l_cell_at F9 T, PySem.W.mg_of X G a9, k9, b9⟩
  have q_l_draw : Cal l.prog w K mg base 1 "_law_draw" ["_law_cell", "_law_k", "_law_many"] (sp_l_draw K) f10 _ := ⟨ok_l_draw F10 T, PySem.W.mg_of X G a10, k10, b10⟩
  have q_l_whole : Cal l.prog w K mg base 1 "_law_whole" ["_law_number"] (sp_l_whole K) f11 _ := ⟨ok_l_whole F11 T, PySem.W.mg_of X G a11, k11, b11⟩
  have q_l_word : Cal l.prog w K mg base 2 "_law_word" ["_law_script"] (sp_l_word K) f12 _ := ⟨ok_l_word F12 T q_l_cell_at q_l_draw, PySem.W.mg_of X G a12, k12, b12⟩
  have q_l_places : Cal l.prog w K mg base 1 "_law_places" ["_law_row", "_law_places_here"] (sp_l_places K) f13 _ := ⟨ok_l_places F13 T, PySem.W.mg_of X G a13, k13, b13⟩
  have q_l_turns : Cal l.prog w K mg base 1 "_law_turns" ["_law_numbers"] (sp_l_turns K) f14 _ := ⟨ok_l_turns F14 T, PySem.W.mg_of X G a14, k14, b14⟩
  have q_l_due : Cal l.prog w K mg base 2 "_law_due" ["_law_row", "_law_places_here", "_law_cuts"] (sp_l_due K) f15 _ := ⟨ok_l_due F15 T q_l_whole q_l_places q_l_turns, PySem.W.mg_of X G a15, k15, b15⟩
  have q_l_most : Cal l.prog w K mg base 2 "_law_most" ["_law_row"] (sp_l_most K) f16 _ := ⟨ok_l_most F16 T q_l_turns, PySem.W.mg_of X G a16, k16, b16⟩
  exact ok_law F17 T hZ_Zigzag hK_Zigzag (PySem.W.mg_of X G a_Zigzag) q_l_cell_at q_l_draw q_l_word q_longest q_l_due q_Zigzag_shows q_l_most

end
end W
open PySem PySem.W PyProof.Rows
set_option maxHeartbeats 0 in
theorem PySem.Challenge.cw_risefall_k03_whole_zigzag_holds : PySem.Challenge.rw_risefall_k03_whole_zigzag.Holds := by
  w_on; o_law; k_head; (case hw => w_witness2)
  k_fill
  refine L2.walk_ofB (l := PySem.Challenge.rw_risefall_k03_whole_zigzag) (n := 63) (k := 4) (x := "_law_script") (CX := fun _ => L2.CX0) (sp := fun w => W.sp_law _) rfl (by decide) rfl ⟨rfl, by decide, by decide⟩ (fun w h Y => PySem.W.kIn_of Y) ?F (fun _ _ a ns hl hb _ hS => W.law_asks hl hb hS) (fun _ _ _ _ _ h => h)
  case F =>
    intro w mg fa h KX G hmg
    refine' W.all_mk KX G hmg ?a_Zigzag ?a0 ?l0 ?c0 ?k0 ?a1 ?l1 ?c1 ?k1 ?a2 ?l2 ?c2 ?k2 ?a3 ?l3 ?c3 ?k3 ?a4 ?l4 ?c4 ?k4 ?a5 ?l5 ?c5 ?k5 ?a6 ?i6 ?l6 ?c6 ?k6 ?a7 ?i7 ?l7 ?c7 ?k7 ?a8 ?l8 ?c8 ?k8 ?a9 ?l9 ?c9 ?k9 ?a10 ?l10 ?c10 ?k10 ?a11 ?l11 ?c11 ?k11 ?a12 ?l12 ?c12 ?k12 ?a13 ?l13 ?c13 ?k13 ?a14 ?l14 ?c14 ?k14 ?a15 ?l15 ?c15 ?k15 ?a16 ?l16 ?c16 ?k16 ?a17 ?l17 ?c17 ?k17 ?z_all ?z_bool ?z_enumerate ?z_int ?z_isinstance ?z_len ?z_list ?z_max ?z_min ?z_range ?z_set ?z_sorted ?z_zip ?pg_Zigzag ?hd_Zigzag ?po_Zigzag ?sa_Zigzag ?mk_Zigzag ?kc_Zigzag ?nP_Zigzag ?nC_Zigzag ?ca_Zigzag ?cn_Zigzag ?ct_Zigzag ?cm_Zigzag
    (case a_Zigzag => k_is)
    (case a0 => k_is)
    (case l0 => k_is)
    (case c0 => k_is)
    (case k0 => k_is)
    (case a1 => k_is)
    (case l1 => k_is)
    (case c1 => k_is)
    (case k1 => k_is)
    (case a2 => k_is)
    (case l2 => k_is)
    (case c2 => k_is)
    (case k2 => k_is)
    (case a3 => k_is)
    (case l3 => k_is)
    (case c3 => k_is)
    (case k3 => k_is)
    (case a4 => k_is)
    (case l4 => k_is)
    (case c4 => k_is)
    (case k4 => k_is)
    (case a5 => k_is)
    (case l5 => k_is)
    (case c5 => k_is)
    (case k5 => k_is)
    (case a6 => k_is)
    (case i6 => k_is)
    (case l6 => k_is)
    (case c6 => k_is)
    (case k6 => k_is)
    (case a7 => k_is)
    (case i7 => k_is)
    (case l7 => k_is)
    (case c7 => k_is)
    (case k7 => k_is)
    (case a8 => k_is)
    (case l8 => k_is)
    (case c8 => k_is)
    (case k8 => k_is)
    (case a9 => k_is)
    (case l9 => k_is)
    (case c9 => k_is)
    (case k9 => k_is)
    (case a10 => k_is)
    (case l10 => k_is)
    (case c10 => k_is)
    (case k10 => k_is)
    (case a11 => k_is)
    (case l11 => k_is)
    (case c11 => k_is)
    (case k11 => k_is)
    (case a12 => k_is)
    (case l12 => k_is)
    (case c12 => k_is)
    (case k12 => k_is)
    (case a13 => k_is)
    (case l13 => k_is)
    (case c13 => k_is)
    (case k13 => k_is)
    (case a14 => k_is)
    (case l14 => k_is)
    (case c14 => k_is)
    (case k14 => k_is)
    (case a15 => k_is)
    (case l15 => k_is)
    (case c15 => k_is)
    (case k15 => k_is)
    (case a16 => k_is)
    (case l16 => k_is)
    (case c16 => k_is)
    (case k16 => k_is)
    (case a17 => k_is)
    (case l17 => k_is)
    (case c17 => k_is)
    (case k17 => k_is)
    (case z_all => k_is)
    (case z_bool => k_is)
    (case z_enumerate => k_is)
    (case z_int => k_is)
    (case z_isinstance => k_is)
    (case z_len => k_is)
    (case z_list => k_is)
    (case z_max => k_is)
    (case z_min => k_is)
    (case z_range => k_is)
    (case z_set => k_is)
    (case z_sorted => k_is)
    (case z_zip => k_is)
    (case pg_Zigzag => k_is)
    (case hd_Zigzag => k_is)
    (case po_Zigzag => k_is)
    (case sa_Zigzag => k_is)
    (case mk_Zigzag => k_is)
    (case kc_Zigzag => k_is)
    (case nP_Zigzag => k_is)
    (case nC_Zigzag => k_is)
    (case ca_Zigzag => k_is)
    (case cn_Zigzag => k_is)
    (case ct_Zigzag => k_is)
    (case cm_Zigzag => k_is)
