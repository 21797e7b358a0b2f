import PyProof.Rows.All
import Wide.All
import OpenK.AllK
import Wide.FinOn
import HandS.ForMost
import HandS.ForExc
import HandS.Evl
import HandS.IsInst
import HandS.SortInts
import HandS.Style
import HandS.Conv
import KE.KRevSl
import HandS.SetFor
import HandS.Strs
import PyProof.Rows.SortShellAny
import HandS.WideBits
import HandS.Iter
import PyProof.StrLawsIn
import HandS.HotCalls
import HandS.ExcIs
import HandS.ExcInitHot
import HandS.CallLocal
import HandS.Dict
import PySem.Challenge.RW_risefall_k05_refused
set_option maxHeartbeats 1000000
namespace MC
/-! ### sums ahead of each place, and behind it -/
def pres (xs : List Int) : List Int := (List.range (xs.length + 1)).map fun j => (xs.take j).sum
def sufs (xs : List Int) : List Int := (List.range (xs.length + 1)).map fun j => (xs.drop j).sum
def step (b : Bool) (xs : List Int) : List Int := if b then pres xs else sufs xs
def run (v : List Bool) (xs : List Int) : List Int := v.foldl (fun l b => step b l) xs
def G (v : List Bool) (xs : List Int) : Int := (run v xs).sum
def F (v : List Bool) : Int := G v [1]

theorem pres_len (xs : List Int) : (pres xs).length = xs.length + 1 := by simp [pres]
theorem sufs_len (xs : List Int) : (sufs xs).length = xs.length + 1 := by simp [sufs]
theorem step_len (b : Bool) (xs : List Int) : (step b xs).length = xs.length + 1 := by
  cases b <;> simp [step, pres_len, sufs_len]
theorem run_cons (b : Bool) (v : List Bool) (xs : List Int) : run (b :: v) xs = run v (step b xs) := rfl
theorem run_append (v w : List Bool) (xs : List Int) : run (v ++ w) xs = run w (run v xs) := by simp [run, List.foldl_append]
theorem run_len (v : List Bool) (xs : List Int) : (run v xs).length = xs.length + v.length := by
  induction v generalizing xs with
  | nil => rfl
  | cons b v ih => rw [run_cons, ih, step_len, List.length_cons]; omega
theorem G_cons (b : Bool) (v : List Bool) (xs : List Int) : G (b :: v) xs = G v (step b xs) := rfl
theorem G_append (v w : List Bool) (xs : List Int) : G (v ++ w) xs = G w (run v xs) := by simp [G, run_append]
theorem take_drop_sum (xs : List Int) (j : Nat) : (xs.take j).sum + (xs.drop j).sum = xs.sum := by
  rw [← List.sum_append_int, List.take_append_drop]
theorem sufs_eq (xs : List Int) : sufs xs = (pres xs).map (fun s => xs.sum - s) := by
  simp only [sufs, pres, List.map_map]
  refine List.map_congr_left fun j _ => ?_
  have h := take_drop_sum xs j
  simp only [Function.comp]
  omega

/-! ### reversing -/
theorem sum_rev (xs : List Int) : xs.reverse.sum = xs.sum := by
  induction xs with
  | nil => rfl
  | cons x r ih => rw [List.reverse_cons, List.sum_append_int, ih]; simp only [List.sum_cons, List.sum_nil]; omega
theorem pres_rev (xs : List Int) : pres xs.reverse = (sufs xs).reverse := by
  apply List.ext_getElem
  · simp [pres_len, sufs_len]
  · intro i h1 h2
    have hi : i < xs.length + 1 := by simpa [pres_len] using h1
    simp only [pres, sufs, List.getElem_map, List.getElem_range, List.getElem_reverse, List.length_map, List.length_range]
    rw [List.take_reverse, sum_rev]
    congr 2
theorem sufs_rev (xs : List Int) : sufs xs.reverse = (pres xs).reverse := by
  have h := pres_rev xs.reverse
  rw [List.reverse_reverse] at h
  rw [h, List.reverse_reverse]
theorem step_rev (b : Bool) (xs : List Int) : step (!b) xs.reverse = (step b xs).reverse := by
  cases b
  · exact pres_rev xs
  · exact sufs_rev xs
theorem run_rev (v : List Bool) (xs : List Int) : run (v.map (!·)) xs.reverse = (run v xs).reverse := by
  induction v generalizing xs with
  | nil => rfl
  | cons b v ih => rw [List.map_cons, run_cons, run_cons, step_rev, ih]
theorem G_rev (v : List Bool) (xs : List Int) : G (v.map (!·)) xs.reverse = G v xs := by
  unfold G; rw [run_rev, sum_rev]
theorem F_not (v : List Bool) : F (v.map (!·)) = F v := G_rev v [1]

/-! ### adding and multiplying -/
def add : List Int → List Int → List Int
  | x :: xs, y :: ys => (x + y) :: add xs ys
  | _, _ => []
def scale (c : Int) (xs : List Int) : List Int := xs.map (c * ·)
theorem add_len : ∀ {xs ys : List Int}, xs.length = ys.length → (add xs ys).length = xs.length
  | [], [], _ => rfl
  | x :: xs, y :: ys, h => by simp only [add, List.length_cons]; rw [add_len (by simpa using h)]
theorem add_sum : ∀ {xs ys : List Int}, xs.length = ys.length → (add xs ys).sum = xs.sum + ys.sum
  | [], [], _ => rfl
  | x :: xs, y :: ys, h => by
    have ih := add_sum (xs := xs) (ys := ys) (by simpa using h)
    simp only [add, List.sum_cons, ih]; omega
theorem add_take : ∀ (xs ys : List Int) (j : Nat), (add xs ys).take j = add (xs.take j) (ys.take j)
  | _, _, 0 => by simp [add]
  | [], _, j + 1 => by simp [add]
  | x :: xs, [], j + 1 => by simp [add]
  | x :: xs, y :: ys, j + 1 => by simp [add, add_take xs ys j]
theorem add_drop : ∀ (xs ys : List Int) (j : Nat), xs.length = ys.length → (add xs ys).drop j = add (xs.drop j) (ys.drop j)
  | _, _, 0, _ => by simp
  | [], [], j + 1, _ => by simp [add]
  | x :: xs, y :: ys, j + 1, h => by simp [add, add_drop xs ys j (by simpa using h)]
theorem add_map (l : List Nat) (f g : Nat → Int) : add (l.map f) (l.map g) = l.map fun i => f i + g i := by
  induction l with
  | nil => rfl
  | cons x r ih => simp [add, ih]
theorem step_add (b : Bool) {xs ys : List Int} (h : xs.length = ys.length) : step b (add xs ys) = add (step b xs) (step b ys) := by
  cases b
  · simp only [step, sufs, Bool.false_eq_true, if_false, add_len h, ← h, add_map]
    refine List.map_congr_left fun j _ => ?_
    rw [add_drop _ _ _ h, add_sum (by simp [h])]
  · simp only [step, pres, if_true, add_len h, ← h, add_map]
    refine List.map_congr_left fun j _ => ?_
    rw [add_take, add_sum (by simp [h])]
theorem G_add (v : List Bool) {xs ys : List Int} (h : xs.length = ys.length) : G v (add xs ys) = G v xs + G v ys := by
  induction v generalizing xs ys with
  | nil => exact add_sum h
  | cons b v ih =>
    rw [G_cons, G_cons, G_cons, step_add b h, ih (by rw [step_len, step_len, h])]
theorem scale_sum (c : Int) (xs : List Int) : (scale c xs).sum = c * xs.sum := by
  induction xs with
  | nil => simp [scale]
  | cons x r ih => simp only [scale, List.map_cons, List.sum_cons] at ih ⊢; rw [ih, Int.mul_add]
theorem step_scale (b : Bool) (c : Int) (xs : List Int) : step b (scale c xs) = scale c (step b xs) := by
  cases b
  · simp only [step, sufs, Bool.false_eq_true, if_false, scale, List.length_map, List.map_map]
    refine List.map_congr_left fun j _ => ?_
    rw [← List.map_drop]
    exact scale_sum c _
  · simp only [step, pres, if_true, scale, List.length_map, List.map_map]
    refine List.map_congr_left fun j _ => ?_
    rw [← List.map_take]
    exact scale_sum c _
theorem G_scale (v : List Bool) (c : Int) (xs : List Int) : G v (scale c xs) = c * G v xs := by
  induction v generalizing xs with
  | nil => exact scale_sum c xs
  | cons b v ih => rw [G_cons, G_cons, step_scale, ih]
/-- the two letters together -/
def ones (m : Nat) : List Int := List.replicate m 1
theorem both (xs : List Int) : add (step true xs) (step false xs) = scale xs.sum (ones (xs.length + 1)) := by
  simp only [step, if_true, Bool.false_eq_true, if_false, pres, sufs, add_map]
  apply List.ext_getElem
  · simp [scale, ones]
  · intro i h1 h2
    simp only [List.getElem_map, scale, ones, List.getElem_replicate, take_drop_sum]
    omega
theorem G_both (v w : List Bool) (xs : List Int) : G (v ++ true :: w) xs + G (v ++ false :: w) xs = G v xs * G w (ones (xs.length + v.length + 1)) := by
  rw [G_append, G_append, G_cons, G_cons, ← G_add w (by rw [step_len, step_len]), both, G_scale, run_len]
  rfl
def g (v : List Bool) (m : Nat) : Int := G v (ones m)
theorem F_g (v : List Bool) : F v = g v 1 := rfl
theorem g_both (v w : List Bool) (m : Nat) : g (v ++ true :: w) m + g (v ++ false :: w) m = g v m * g w (m + v.length + 1) := by
  have h := G_both v w (ones m)
  rw [show (ones m).length = m by simp [ones]] at h
  exact h

/-! ### the product law -/
def fac : Nat → Int
  | 0 => 1
  | n + 1 => ((n : Int) + 1) * fac n
theorem fac_pos : ∀ n, 0 < fac n
  | 0 => by decide
  | n + 1 => by
    have h := fac_pos n
    show 0 < ((n : Int) + 1) * fac n
    exact Int.mul_pos (by omega) h
theorem fac_succ (n : Nat) : fac (n + 1) = ((n : Int) + 1) * fac n := rfl
/-- prefix sums of a list whose j-th item is known -/
theorem sum_take_range (f : Nat → Int) (n : Nat) : ∀ j, j ≤ n → (((List.range n).map f).take j).sum = ((List.range j).map f).sum := by
  intro j hj
  rw [← List.map_take, List.take_range, Nat.min_eq_left hj]
theorem sum_range_succ (f : Nat → Int) (n : Nat) : ((List.range (n + 1)).map f).sum = ((List.range n).map f).sum + f n := by
  rw [List.range_succ, List.map_append, List.sum_append_int]; simp
/-- the rows behind k rises over m + 1 ones -/
def cu (k i : Nat) : Int := match k, i with
  | 0, _ => 1
  | _ + 1, 0 => 0
  | k + 1, i + 1 => cu (k + 1) i + cu k i
theorem cu_zero (k : Nat) : cu (k + 1) 0 = 0 := by simp [cu]
theorem cu_succ (k i : Nat) : cu (k + 1) (i + 1) = cu (k + 1) i + cu k i := by simp [cu]
theorem cu_sum (k : Nat) : ∀ n, ((List.range n).map (cu k)).sum = cu (k + 1) n
  | 0 => by simp [cu_zero]
  | n + 1 => by rw [sum_range_succ, cu_sum k n, cu_succ]
theorem run_us (k m : Nat) : run (List.replicate k true) (ones m) = (List.range (m + k)).map (cu k) := by
  induction k with
  | zero =>
    simp only [List.replicate_zero, run, List.foldl_nil, ones, Nat.add_zero]
    apply List.ext_getElem
    · simp
    · intro i h1 h2; simp [cu]
  | succ k ih =>
    rw [List.replicate_succ', run_append, ih]
    show step true _ = _
    simp only [step, if_true, pres, List.length_map, List.length_range]
    refine List.map_congr_left fun j hj => ?_
    have hj' : j < m + k + 1 := List.mem_range.mp hj
    rw [sum_take_range _ _ _ (by omega), cu_sum]
theorem g_us (k m : Nat) : g (List.replicate k true) m = cu (k + 1) (m + k) := by
  unfold g G
  rw [run_us, cu_sum]
/-- cu k (n + k) = (n + k - 1 over k) ..: by factorials -/
theorem cu_low : ∀ (k i : Nat), i < k → cu k i = 0
  | 0, _, h => by omega
  | k + 1, 0, _ => cu_zero k
  | k + 1, i + 1, h => by
    rw [cu_succ, cu_low (k + 1) i (by omega), cu_low k i (by omega)]; rfl
theorem cu_fac : ∀ (i k : Nat), fac k * fac i * cu k (i + k) = fac (i + k)
  | i, 0 => by simp [cu, fac]
  | 0, k + 1 => by
    have ih := cu_fac 0 k
    rw [Nat.zero_add] at ih ⊢
    rw [cu_succ, cu_low (k + 1) k (by omega), fac_succ]
    rw [show (0 : Int) + cu k k = cu k k by omega]
    rw [Int.mul_assoc, Int.mul_assoc, ← Int.mul_assoc (fac k), ih]
  | i + 1, k + 1 => by
    have h1 := cu_fac i (k + 1)
    have h2 := cu_fac (i + 1) k
    have e1 : i + 1 + (k + 1) = (i + (k + 1)) + 1 := by omega
    have e2 : i + 1 + k = i + (k + 1) := by omega
    rw [e2] at h2
    rw [e1, cu_succ, fac_succ (i + (k + 1))]
    rw [fac_succ k] at h1 ⊢
    rw [fac_succ i] at h2 ⊢
    push_cast
    generalize cu (k + 1) (i + (k + 1)) = a at *
    generalize cu k (i + (k + 1)) = b at *
    generalize fac (i + (k + 1)) = c at *
    generalize fac i = d at *
    generalize fac k = e at *
    grind

theorem us_or_d : ∀ v : List Bool, v = List.replicate v.length true ∨ ∃ j w, v = List.replicate j true ++ false :: w
  | [] => .inl rfl
  | false :: w => .inr ⟨0, w, rfl⟩
  | true :: w => by
    rcases us_or_d w with h | ⟨j, w', h⟩
    · left; rw [List.length_cons, List.replicate_succ, ← h]
    · right; exact ⟨j + 1, w', by rw [List.replicate_succ, h]; rfl⟩
theorem fac_ne (n : Nat) : fac n ≠ 0 := by have := fac_pos n; omega
theorem g_us_one (k : Nat) : g (List.replicate k true) 1 = 1 := by
  rw [g_us]
  have h := cu_fac 0 (k + 1)
  rw [show 0 + (k + 1) = 1 + k by omega] at h
  rw [show k + 1 = 1 + k by omega] at h ⊢
  have h0 : fac 0 = 1 := rfl
  rw [h0, Int.mul_one] at h
  have h2 : fac (1 + k) * cu (1 + k) (1 + k) = fac (1 + k) * 1 := by rw [h, Int.mul_one]
  exact Int.eq_of_mul_eq_mul_left (fac_ne _) h2
theorem g_us_fac (k m : Nat) : fac m * fac (k + 1) * g (List.replicate k true) (m + 1) = fac (m + k + 1) := by
  rw [g_us]
  have h := cu_fac m (k + 1)
  rw [show m + 1 + k = m + (k + 1) by omega, Int.mul_comm (fac m), h]
  rfl
/-- a row of more ones: as many as from one, times a binomial -/
theorem prodA : ∀ (n : Nat) (v : List Bool), v.count false = n → ∀ m, fac m * fac (v.length + 1) * g v (m + 1) = fac (m + v.length + 1) * g v 1 := by
  intro n
  induction n with
  | zero =>
    intro v hv m
    rcases us_or_d v with h | ⟨j, w, h⟩
    · rw [h, List.length_replicate, g_us_fac, g_us_one, Int.mul_one]
    · rw [h] at hv; simp [List.count_append, List.count_replicate] at hv
  | succ n ih =>
    intro v hv m
    rcases us_or_d v with h | ⟨j, w, h⟩
    · rw [h] at hv; simp [List.count_replicate] at hv
    · rw [h] at hv
      have hw : w.count false = n := by simpa [List.count_append, List.count_replicate] using hv
      have hw2 : (List.replicate j true ++ true :: w).count false = n := by simp [List.count_append, List.count_replicate, hw]
      have i1 := ih w hw
      have i2 := ih _ hw2 m
      have b1 := g_both (List.replicate j true) w (m + 1)
      have b0 := g_both (List.replicate j true) w 1
      have u1 := g_us_fac j m
      have u0 := g_us_one j
      rw [List.length_replicate] at b1 b0
      have a1 := i1 (m + 1 + j)
      have a0 := i1 (1 + j)
      have el : (List.replicate j true ++ true :: w).length = j + w.length + 1 := by simp; omega
      have el2 : v.length = j + w.length + 1 := by rw [h]; simp; omega
      rw [el] at i2
      rw [el2, h]
      rw [u0, Int.one_mul] at b0
      rw [show j + w.length + 1 + 1 = j + w.length + 2 by omega] at i2 ⊢
      rw [show m + (j + w.length + 1) + 1 = m + j + w.length + 2 by omega] at i2 ⊢
      rw [show m + 1 + j + w.length + 1 = m + j + w.length + 2 by omega, show m + 1 + j = m + j + 1 by omega] at a1
      rw [show 1 + j + w.length + 1 = j + w.length + 2 by omega, show 1 + j = j + 1 by omega] at a0
      rw [show m + 1 + j + 1 = m + j + 1 + 1 by omega] at b1
      rw [show 1 + j + 1 = j + 1 + 1 by omega] at b0
      have p1 := fac_ne (m + j + 1)
      have p2 := fac_ne (j + 1)
      have p3 := fac_ne (w.length + 1)
      generalize g (List.replicate j true ++ true :: w) (m + 1) = T1 at *
      generalize g (List.replicate j true ++ true :: w) 1 = T0 at *
      generalize g (List.replicate j true ++ false :: w) (m + 1) = D1 at *
      generalize g (List.replicate j true ++ false :: w) 1 = D0 at *
      generalize g (List.replicate j true) (m + 1) = U at *
      generalize g w (m + j + 1 + 1) = W1 at *
      generalize g w (j + 1 + 1) = W0 at *
      generalize g w 1 = W at *
      generalize fac (m + j + 1) = A at *
      generalize fac (j + 1) = B at *
      generalize fac (w.length + 1) = C at *
      generalize fac (m + j + w.length + 2) = N at *
      generalize fac (j + w.length + 2) = M at *
      generalize fac m = E at *
      -- D1 = U W1 - T1, D0 = W0 - T0
      have e1 : D1 = U * W1 - T1 := by omega
      have e0 : D0 = W0 - T0 := by omega
      subst e1 e0
      have key : E * M * (U * W1) = N * W0 := by
        apply Int.eq_of_mul_eq_mul_left p2
        apply Int.eq_of_mul_eq_mul_left p3
        apply Int.eq_of_mul_eq_mul_left p1
        -- u1 : E * B * U = A; a1 : A * C * W1 = N * W; a0 : B * C * W0 = M * W
        calc A * (C * (B * (E * M * (U * W1)))) = (E * B * U) * M * (A * C * W1) := by grind
          _ = A * M * (N * W) := by rw [u1, a1]
          _ = A * N * (M * W) := by grind
          _ = A * N * (B * C * W0) := by rw [a0]
          _ = A * (C * (B * (N * W0))) := by grind
      grind
theorem prod (v w : List Bool) : fac (v.length + 1) * fac (w.length + 1) * (F (v ++ true :: w) + F (v ++ false :: w)) = fac (v.length + w.length + 2) * F v * F w := by
  have b := g_both v w 1
  have a := prodA _ w rfl (v.length + 1)
  rw [F_g, F_g, F_g, F_g, b]
  rw [show 1 + v.length + 1 = v.length + 1 + 1 by omega]
  rw [show v.length + 1 + w.length + 1 = v.length + w.length + 2 by omega] at a
  calc fac (v.length + 1) * fac (w.length + 1) * (g v 1 * g w (v.length + 1 + 1)) = (fac (v.length + 1) * fac (w.length + 1) * g w (v.length + 1 + 1)) * g v 1 := by grind
    _ = _ := by rw [a]; grind
theorem us_rev (k : Nat) : (List.replicate k true).reverse = List.replicate k true := by simp
/-- told backwards as many -/
theorem F_reverse : ∀ (n : Nat) (v : List Bool), v.count false = n → F v.reverse = F v := by
  intro n
  induction n with
  | zero =>
    intro v hv
    rcases us_or_d v with h | ⟨j, w, h⟩
    · rw [h, us_rev]
    · rw [h] at hv; simp [List.count_append, List.count_replicate] at hv
  | succ n ih =>
    intro v hv
    rcases us_or_d v with h | ⟨j, w, h⟩
    · rw [h] at hv; simp [List.count_replicate] at hv
    · rw [h] at hv
      have hw : w.count false = n := by simpa [List.count_append, List.count_replicate] using hv
      have hw2 : (List.replicate j true ++ true :: w).count false = n := by simp [List.count_append, List.count_replicate, hw]
      have i1 := ih w hw
      have i2 := ih _ hw2
      have q := prod (List.replicate j true) w
      have r := prod w.reverse (List.replicate j true)
      have er : v.reverse = w.reverse ++ false :: List.replicate j true := by rw [h]; simp
      have er2 : (List.replicate j true ++ true :: w).reverse = w.reverse ++ true :: List.replicate j true := by simp
      rw [er2] at i2
      rw [er, h]
      rw [List.length_reverse, List.length_replicate, i1, i2] at r
      rw [List.length_replicate] at q
      rw [show w.length + j + 2 = j + w.length + 2 by omega] at r
      have p1 := fac_ne (j + 1)
      have p2 := fac_ne (w.length + 1)
      have e : F (List.replicate j true ++ true :: w) + F (w.reverse ++ false :: List.replicate j true) = F (List.replicate j true ++ true :: w) + F (List.replicate j true ++ false :: w) := by
        apply Int.eq_of_mul_eq_mul_left p1
        apply Int.eq_of_mul_eq_mul_left p2
        grind
      omega
theorem F_rev (v : List Bool) : F v.reverse = F v := F_reverse _ v rfl
/-- one letter more -/
theorem F_more (v : List Bool) : F (v ++ [true]) + F (v ++ [false]) = ((v.length : Int) + 2) * F v := by
  have b := g_both v [] 1
  rw [F_g, F_g, b]
  have e : g [] (1 + v.length + 1) = (v.length : Int) + 2 := by
    show (ones (1 + v.length + 1)).sum = _
    have h : ∀ n : Nat, (ones n).sum = (n : Int) := by
      intro n
      induction n with
      | zero => rfl
      | succ n ih => simp only [ones, List.replicate_succ, List.sum_cons] at ih ⊢; rw [ih]; push_cast; omega
    rw [h]; push_cast; omega
  rw [e, F_g, Int.mul_comm]
end MC
set_option maxHeartbeats 1000000
namespace MC
/-! ### none more than by turns -/
inductive Le2 : List Int → List Int → Prop where
  | nil : Le2 [] []
  | cons {x y : Int} {xs ys : List Int} : x ≤ y → Le2 xs ys → Le2 (x :: xs) (y :: ys)
theorem Le2.refl : ∀ xs, Le2 xs xs
  | [] => .nil
  | x :: xs => .cons (Int.le_refl x) (Le2.refl xs)
theorem Le2.len {xs ys : List Int} (h : Le2 xs ys) : xs.length = ys.length := by
  induction h with
  | nil => rfl
  | cons _ _ ih => simp [ih]
theorem Le2.sum {xs ys : List Int} (h : Le2 xs ys) : xs.sum ≤ ys.sum := by
  induction h with
  | nil => exact Int.le_refl _
  | cons h _ ih => simp only [List.sum_cons]; omega
theorem Le2.take {xs ys : List Int} (h : Le2 xs ys) : ∀ j, Le2 (xs.take j) (ys.take j) := by
  induction h with
  | nil => intro j; simp; exact .nil
  | cons h _ ih =>
    intro j
    cases j with
    | zero => exact .nil
    | succ j => exact .cons h (ih j)
theorem Le2.drop {xs ys : List Int} (h : Le2 xs ys) : ∀ j, Le2 (xs.drop j) (ys.drop j) := by
  induction h with
  | nil => intro j; simp; exact .nil
  | cons h h2 ih =>
    intro j
    cases j with
    | zero => exact .cons h h2
    | succ j => exact ih j
theorem Le2.of_get : ∀ {xs ys : List Int}, xs.length = ys.length → (∀ (i : Nat) (h1 : i < xs.length) (h2 : i < ys.length), xs[i] ≤ ys[i]) → Le2 xs ys
  | [], [], _, _ => .nil
  | x :: xs, y :: ys, hl, h => .cons (h 0 (by simp) (by simp)) (Le2.of_get (by simpa using hl) fun i h1 h2 => h (i + 1) (by simpa using h1) (by simpa using h2))
theorem le2_map {f g : Nat → Int} : ∀ {l : List Nat}, (∀ j ∈ l, f j ≤ g j) → Le2 (l.map f) (l.map g)
  | [], _ => .nil
  | x :: l, h => .cons (h x (by simp)) (le2_map fun j hj => h j (by simp [hj]))
theorem Le2.step {xs ys : List Int} (h : Le2 xs ys) (b : Bool) : Le2 (step b xs) (step b ys) := by
  cases b
  · simp only [MC.step, Bool.false_eq_true, if_false, sufs, h.len]
    exact le2_map fun j _ => (h.drop j).sum
  · simp only [MC.step, if_true, pres, h.len]
    exact le2_map fun j _ => (h.take j).sum
theorem Le2.G {xs ys : List Int} (h : Le2 xs ys) (v : List Bool) : MC.G v xs ≤ MC.G v ys := by
  induction v generalizing xs ys with
  | nil => exact h.sum
  | cons b v ih => rw [G_cons, G_cons]; exact ih (h.step b)
def NN (xs : List Int) : Prop := ∀ x ∈ xs, 0 ≤ x
def Up (xs : List Int) : Prop := ∀ (i j : Nat) (h1 : i < xs.length) (h2 : j < xs.length), i ≤ j → xs[i] ≤ xs[j]
theorem sum_nn {xs : List Int} (h : NN xs) : 0 ≤ xs.sum := by
  induction xs with
  | nil => exact Int.le_refl _
  | cons x r ih =>
    simp only [List.sum_cons]
    have h1 := h x (by simp)
    have h2 := ih fun y hy => h y (by simp [hy])
    omega
theorem nn_step {xs : List Int} (h : NN xs) (b : Bool) : NN (step b xs) := by
  intro x hx
  cases b
  · simp only [step, Bool.false_eq_true, if_false, sufs, List.mem_map] at hx
    obtain ⟨j, _, rfl⟩ := hx
    exact sum_nn fun y hy => h y (List.mem_of_mem_drop hy)
  · simp only [step, if_true, pres, List.mem_map] at hx
    obtain ⟨j, _, rfl⟩ := hx
    exact sum_nn fun y hy => h y (List.mem_of_mem_take hy)
theorem nn_rev {xs : List Int} (h : NN xs) : NN xs.reverse := fun x hx => h x (by simpa using hx)
theorem sum_take_mono {xs : List Int} (h : NN xs) {i j : Nat} (hij : i ≤ j) : (xs.take i).sum ≤ (xs.take j).sum := by
  have e : xs.take j = xs.take i ++ (xs.take j).drop i := by
    have q := List.take_append_drop i (xs.take j)
    rw [List.take_take, Nat.min_eq_left hij] at q
    exact q.symm
  rw [e, List.sum_append_int]
  have := sum_nn (xs := (xs.take j).drop i) fun y hy => h y (List.mem_of_mem_take (List.mem_of_mem_drop hy))
  omega
theorem up_pres {xs : List Int} (h : NN xs) : Up (step true xs) := by
  intro i j h1 h2 hij
  simp only [step, if_true, pres, List.getElem_map, List.getElem_range]
  exact sum_take_mono h hij
theorem up_rev_sufs {xs : List Int} (h : NN xs) : Up (step false xs).reverse := by
  rw [← step_rev]
  exact up_pres (nn_rev h)
theorem up_le {xs : List Int} (h : Up xs) : Le2 (step true xs) (step true xs.reverse) := by
  simp only [step, if_true, pres, List.length_reverse]
  refine le2_map fun j hj => ?_
  rw [List.take_reverse, sum_rev]
  refine Le2.sum (Le2.of_get ?_ fun i h1 h2 => ?_)
  · have := List.mem_range.mp hj
    simp
    omega
  · simp only [List.getElem_take, List.getElem_drop]
    exact h _ _ _ _ (by omega)
def alt (b : Bool) : Nat → List Bool
  | 0 => []
  | n + 1 => b :: alt (!b) n
theorem alt_len (b : Bool) (n : Nat) : (alt b n).length = n := by
  induction n generalizing b with
  | zero => rfl
  | succ n ih => simp [alt, ih]
theorem alt_not (b : Bool) (n : Nat) : (alt b n).map (!·) = alt (!b) n := by
  induction n generalizing b with
  | zero => rfl
  | succ n ih => simp [alt, ih]
/-- from a rising row none has more than by turns, a fall first -/
theorem max_up : ∀ (n : Nat) (v : List Bool), v.length = n → ∀ xs, NN xs → Up xs → G v xs ≤ G (alt false n) xs := by
  intro n
  induction n with
  | zero =>
    intro v hv xs _ _
    rw [List.eq_nil_of_length_eq_zero hv]
    exact Int.le_refl _
  | succ n ih =>
    intro v hv xs hn hu
    cases v with
    | nil => simp at hv
    | cons b v =>
      have hl : v.length = n := by simpa using hv
      -- the same, told of the row turned about
      have down : ∀ w : List Bool, w.length = n → G w (step false xs) ≤ G (alt true n) (step false xs) := by
        intro w hw
        have q := ih (w.map (!·)) (by simpa using hw) (step false xs).reverse (nn_rev (nn_step hn false)) (up_rev_sufs hn)
        rw [G_rev] at q
        have e : alt false n = (alt true n).map (!·) := by rw [alt_not]; rfl
        rw [e, G_rev] at q
        exact q
      have e : G (alt false (n + 1)) xs = G (alt true n) (step false xs) := rfl
      rw [e]
      cases b with
      | false => rw [G_cons]; exact down v hl
      | true =>
        rw [G_cons]
        have h1 : G v (step true xs) ≤ G v (step true xs.reverse) := (up_le hu).G v
        have e2 : step true xs.reverse = (step false xs).reverse := pres_rev xs
        have e3 : ∀ v : List Bool, (v.map (!·)).map (!·) = v := fun v => by
          induction v with
          | nil => rfl
          | cons b v ih => simp only [List.map_cons, ih, Bool.not_not]
        have h2 : G v (step false xs).reverse = G (v.map (!·)) (step false xs) := by
          have q := G_rev (v.map (!·)) (step false xs)
          rw [e3] at q
          exact q
        have h3 := down (v.map (!·)) (by simpa using hl)
        rw [e2, h2] at h1
        exact Int.le_trans h1 h3
theorem F_max (v : List Bool) : F v ≤ F (alt true v.length) := by
  have h := max_up v.length v rfl [1] (fun x hx => by simp at hx; omega) (fun i j h1 h2 _ => by
    have : i = 0 := by simpa using h1
    have : j = 0 := by simpa using h2
    subst_vars; exact Int.le_refl _)
  have e : F (alt false v.length) = F (alt true v.length) := by
    rw [show alt false v.length = (alt true v.length).map (!·) by rw [alt_not]; rfl, F_not]
  rw [← e]; exact h
theorem G_ge : ∀ (v : List Bool) (xs : List Int), NN xs → xs.sum ≤ G v xs := by
  intro v
  induction v with
  | nil => intro xs _; exact Int.le_refl _
  | cons b v ih =>
    intro xs hn
    rw [G_cons]
    refine Int.le_trans ?_ (ih _ (nn_step hn b))
    have hm : xs.sum ∈ step b xs := by
      cases b
      · simp only [step, Bool.false_eq_true, if_false, sufs, List.mem_map]
        exact ⟨0, by simp, by simp⟩
      · simp only [step, if_true, pres, List.mem_map]
        exact ⟨xs.length, by simp, by simp⟩
    have all := nn_step hn b
    generalize step b xs = l at hm all
    generalize xs.sum = s at hm
    clear ih hn
    induction l with
    | nil => simp at hm
    | cons y l ih =>
      simp only [List.sum_cons]
      rcases List.mem_cons.mp hm with e | e
      · have := sum_nn (xs := l) fun z hz => all z (by simp [hz])
        omega
      · have h1 := ih (fun z hz => all z (by simp [hz])) e
        have h2 := all y (by simp)
        omega
theorem F_pos (v : List Bool) : 1 ≤ F v := G_ge v [1] fun x hx => by simp at hx; omega
end MC
set_option Elab.async false
set_option linter.all false
set_option maxRecDepth 100000
set_option maxHeartbeats 4000000
/-! Rf: Lean data that a value stands for (Rep), readings that come to such data (Er), ways on (Gx). -/
namespace Rf
open PySem L2 Evl

/-! ### what a value stands for -/
class Rep (α : Type) where
  rep : PySem.W.Frag → Hp → V → α → Prop
  mono : ∀ {K : PySem.W.Frag} {H H' : Hp} {v : V} {a : α}, Ex H H' → rep K H v a → rep K H' v a
abbrev rep {α : Type} [Rep α] (K : PySem.W.Frag) (H : Hp) (v : V) (a : α) : Prop := Rep.rep K H v a
theorem up {α : Type} [Rep α] {K : PySem.W.Frag} {H H' : Hp} {v : V} {a : α} (h : rep K H v a) (e : Ex H H') : rep K H' v a := Rep.mono e h
inductive All2 {α : Type} (R : V → α → Prop) : List V → List α → Prop where
  | nil : All2 R [] []
  | cons {v : V} {vs : List V} {a : α} {as : List α} : R v a → All2 R vs as → All2 R (v :: vs) (a :: as)
section
variable {α β : Type} {R S : V → α → Prop}
theorem All2.len {vs : List V} {as : List α} (h : All2 R vs as) : vs.length = as.length := by
  induction h with
  | nil => rfl
  | cons _ _ ih => simp [ih]
theorem All2.mp {vs : List V} {as : List α} (h : All2 R vs as) (f : ∀ v a, R v a → S v a) : All2 S vs as := by
  induction h with
  | nil => exact .nil
  | cons h _ ih => exact .cons (f _ _ h) ih
theorem All2.append {vs ws : List V} {as bs : List α} (h : All2 R vs as) (k : All2 R ws bs) : All2 R (vs ++ ws) (as ++ bs) := by
  induction h with
  | nil => exact k
  | cons h _ ih => exact .cons h ih
theorem All2.one {v : V} {a : α} (h : R v a) : All2 R [v] [a] := .cons h .nil
theorem All2.get {vs : List V} {as : List α} (h : All2 R vs as) : ∀ {i : Nat} {a : α}, as[i]? = some a → ∃ v, vs[i]? = some v ∧ R v a := by
  induction h with
  | nil => intro i a e; simp at e
  | cons h _ ih =>
    intro i a e
    cases i with
    | zero => simp at e; subst e; exact ⟨_, rfl, h⟩
    | succ i => simp at e; obtain ⟨v, e1, r⟩ := ih e; exact ⟨v, by simpa using e1, r⟩
theorem All2.getV {vs : List V} {as : List α} (h : All2 R vs as) : ∀ {i : Nat} {v : V}, vs[i]? = some v → ∃ a, as[i]? = some a ∧ R v a := by
  induction h with
  | nil => intro i a e; simp at e
  | cons h _ ih =>
    intro i a e
    cases i with
    | zero => simp at e; subst e; exact ⟨_, rfl, h⟩
    | succ i => simp at e; obtain ⟨v, e1, r⟩ := ih e; exact ⟨v, by simpa using e1, r⟩
theorem All2.take {vs : List V} {as : List α} (h : All2 R vs as) : ∀ n : Nat, All2 R (vs.take n) (as.take n) := by
  induction h with
  | nil => intro n; simp; exact .nil
  | cons h _ ih =>
    intro n
    cases n with
    | zero => exact .nil
    | succ n => exact .cons h (ih n)
theorem All2.drop {vs : List V} {as : List α} (h : All2 R vs as) : ∀ n : Nat, All2 R (vs.drop n) (as.drop n) := by
  induction h with
  | nil => intro n; simp; exact .nil
  | cons h h2 ih =>
    intro n
    cases n with
    | zero => exact .cons h h2
    | succ n => exact ih n
theorem All2.reverse {vs : List V} {as : List α} (h : All2 R vs as) : All2 R vs.reverse as.reverse := by
  induction h with
  | nil => exact .nil
  | cons h _ ih => rw [List.reverse_cons, List.reverse_cons]; exact ih.append (.one h)
theorem All2.set {vs : List V} {as : List α} (h : All2 R vs as) {v : V} {a : α} (k : R v a) : ∀ i : Nat, All2 R (vs.set i v) (as.set i a) := by
  induction h with
  | nil => intro i; exact .nil
  | cons h h2 ih =>
    intro i
    cases i with
    | zero => exact .cons k h2
    | succ i => exact .cons h (ih i)
theorem All2.eraseIdx {vs : List V} {as : List α} (h : All2 R vs as) : ∀ i : Nat, All2 R (vs.eraseIdx i) (as.eraseIdx i) := by
  induction h with
  | nil => intro i; exact .nil
  | cons h h2 ih =>
    intro i
    cases i with
    | zero => exact h2
    | succ i => exact .cons h (ih i)
theorem All2.of_map {γ : Type} {f : γ → V} {g : γ → α} : ∀ {l : List γ}, (∀ c ∈ l, R (f c) (g c)) → All2 R (l.map f) (l.map g)
  | [], _ => .nil
  | c :: l, h => .cons (h c (by simp)) (All2.of_map fun d hd => h d (by simp [hd]))
end
instance : Rep Int := ⟨fun _ _ v i => v = .int i, fun _ h => h⟩
instance : Rep Bool := ⟨fun _ _ v b => v = .bl b, fun _ h => h⟩
instance : Rep Str := ⟨fun _ _ v z => v = .str z, fun _ h => h⟩
instance : Rep Unit := ⟨fun _ _ v _ => v = .non, fun _ h => h⟩
instance {α : Type} [Rep α] : Rep (Option α) := ⟨fun K H v o => match o with
  | some a => Rep.rep K H v a
  | none => v = .non, fun {K H H' v a} e h => by
    cases a with
    | none => exact h
    | some a => exact Rep.mono e h⟩
/-- a list of such -/
def LstR {α : Type} [Rep α] (K : PySem.W.Frag) (H : Hp) (p : Addr) (as : List α) : Prop := ∃ xs, SqL K H p xs ∧ All2 (Rep.rep K H) xs as
def TupR {α β : Type} [Rep α] [Rep β] (K : PySem.W.Frag) (H : Hp) (p : Addr) (a : α) (b : β) : Prop := ∃ x y, SqT K H p [x, y] ∧ Rep.rep K H x a ∧ Rep.rep K H y b
theorem LstR.up {α : Type} [Rep α] {K : PySem.W.Frag} {H H' : Hp} {p : Addr} {as : List α} (h : LstR K H p as) (e : Ex H H') : LstR K H' p as := by
  obtain ⟨xs, h1, h2⟩ := h
  exact ⟨xs, ex_l e h1, h2.mp fun _ _ r => Rep.mono e r⟩
instance {α : Type} [Rep α] : Rep (List α) := ⟨fun K H v as => ∃ p, v = .ref p ∧ LstR K H p as, fun e ⟨p, h1, h2⟩ => ⟨p, h1, h2.up e⟩⟩
instance {α β : Type} [Rep α] [Rep β] : Rep (α × β) := ⟨fun K H v c => ∃ p, v = .ref p ∧ TupR K H p c.1 c.2, fun e ⟨p, h1, x, y, h2, h3, h4⟩ => ⟨p, h1, x, y, ex_t e h2, Rep.mono e h3, Rep.mono e h4⟩⟩
/-- a list's own object left out -/
def del (H : Hp) (p : Addr) : Hp := fun a => if a = p then none else H a
theorem del_ex (H : Hp) (p : Addr) : Ex (del H p) H := fun a o h => by
  unfold del at h
  split at h
  · cases h
  · exact h
theorem ex_del {H H' : Hp} {p : Addr} (e : Ex H H') (h : H p = none) : Ex H (del H' p) := fun a o q => by
  have hne : a ≠ p := fun z => by rw [z, h] at q; cases q
  unfold del
  rw [if_neg hne]
  exact e a o q
theorem del_del {H H' : Hp} {p : Addr} (e : Ex H H') : Ex (del H p) (del H' p) := fun a o q => by
  unfold del at q ⊢
  split at q
  · cases q
  · rename_i h; rw [if_neg h]; exact e a o q
theorem del_upd {H : Hp} {p : Addr} {o : HO} : del (upd H p o) p = del H p := by
  funext a
  unfold del
  split
  · rfl
  · rename_i h; exact upd_ne h
/-- a list of the def's own, to be changed: it stands at p, and what its items stand for leans on other objects -/
def Own {α : Type} [Rep α] (K : PySem.W.Frag) (H : Hp) (p : Addr) (as : List α) : Prop := ∃ xs, H p = some (.lst xs) ∧ All2 (Rep.rep K (del H p)) xs as
section
variable {α : Type} [Rep α] {K : PySem.W.Frag} {H H' : Hp} {p : Addr} {as : List α}
theorem Own.lst (h : Own K H p as) : LstR K H p as := by
  obtain ⟨xs, h1, h2⟩ := h
  exact ⟨xs, sq_of h1, h2.mp fun _ _ r => Rep.mono (del_ex H p) r⟩
theorem Own.up (h : Own K H p as) (e : Ex H H') : Own K H' p as := by
  obtain ⟨xs, h1, h2⟩ := h
  exact ⟨xs, e _ _ h1, h2.mp fun _ _ r => Rep.mono (del_del e) r⟩
theorem Own.rep (h : Own K H p as) : Rep.rep K H (.ref p) as := ⟨p, rfl, h.lst⟩
theorem Own.some (h : Own K H p as) : ∃ o, H p = Option.some o := let ⟨xs, h1, _⟩ := h; ⟨_, h1⟩
end

/-! ### readings -/
section
variable {α β γ : Type} [Rep α] [Rep β] [Rep γ]
def Er (K : PySem.W.Frag) (te : TE) (σ : L2.St) (H : Hp) (a : α) : Prop := ∀ H1, Ex H H1 → ∀ Q : VK, (∀ v H2, Ex H1 H2 → Rep.rep K H2 v a → Q v H2) → te σ H1 Q
/-- .. a new list -/
def ErF (K : PySem.W.Frag) (te : TE) (σ : L2.St) (H : Hp) (as : List α) : Prop := ∀ H1, Ex H H1 → ∀ Q : VK, (∀ p H2, H1 p = none → Ex H1 H2 → Own K H2 p as → Q (.ref p) H2) → te σ H1 Q
def Et (_ : PySem.W.Frag) (t : TT) (σ : L2.St) (H : Hp) (b : Bool) : Prop := EvT t σ H b
def Ea (ta : TA) (σ : L2.St) (H : Hp) (P : Hp → List V → Prop) : Prop := ∀ H1, Ex H H1 → ∀ Q : List V → Hp → Prop, (∀ vs H2, Ex H1 H2 → P H2 vs → Q vs H2) → ta σ H1 Q
variable {K : PySem.W.Frag} {σ : L2.St} {H H' : Hp} {ta tb tc te : TE} {t u : TT}
theorem ErF.er {as : List α} (h : ErF K te σ H as) : Er K te σ H as := fun H1 e Q q => h H1 e Q fun p H2 _ e2 o => q _ H2 e2 o.rep
theorem Er.mono {a : α} (h : Er K te σ H a) (e : Ex H H') : Er K te σ H' a := fun H1 e1 Q q => h H1 (e.trans e1) Q q
theorem ErF.mono {as : List α} (h : ErF K te σ H as) (e : Ex H H') : ErF K te σ H' as := fun H1 e1 Q q => h H1 (e.trans e1) Q q
theorem Er.to {a b : α} (h : Er K te σ H a) (e : a = b) : Er K te σ H b := e ▸ h
theorem ErF.to {as bs : List α} (h : ErF K te σ H as) (e : as = bs) : ErF K te σ H bs := e ▸ h
theorem er_ev {a : α} {v : V} (h : Ev te σ H v) (r : ∀ H1, Ex H H1 → Rep.rep K H1 v a) : Er K te σ H a := fun H1 e Q q => h H1 e Q fun H2 e2 => q v H2 e2 (r H2 (e.trans e2))
theorem ev_er {v : V} {a : α} (h : Er K te σ H a) (r : ∀ H1 u, Rep.rep K H1 u a → u = v) : Ev te σ H v := fun H1 e Q q => h H1 e Q fun u H2 e2 hr => by
  have := r H2 u hr
  subst this
  exact q H2 e2
theorem er_i {i : Int} (h : Er K te σ H i) : Ev te σ H (.int i) := ev_er h fun _ _ r => r
theorem er_b {i : Bool} (h : Er K te σ H i) : Ev te σ H (.bl i) := ev_er h fun _ _ r => r
theorem er_s {i : Str} (h : Er K te σ H i) : Ev te σ H (.str i) := ev_er h fun _ _ r => r
theorem er_var {i : Nat} {v : V} {a : α} (h : σ[i]? = some (some v)) (r : Rep.rep K H v a) : Er K (tVar i) σ H a := fun H1 e Q q => ⟨v, h, q v H1 (Ex.refl H1) (Rep.mono e r)⟩
theorem er_int {i : Int} : Er K (tC (.int i)) σ H i := fun H1 _ _ q => q _ H1 (Ex.refl H1) rfl
theorem er_bl {b : Bool} : Er K (tC (.bl b)) σ H b := fun H1 _ _ q => q _ H1 (Ex.refl H1) rfl
theorem er_str {z : Str} : Er K (tC (.str z)) σ H z := fun H1 _ _ q => q _ H1 (Ex.refl H1) rfl
theorem er_non : Er K (tC .non) σ H () := fun H1 _ _ q => q _ H1 (Ex.refl H1) rfl
theorem er_nonO : Er K (tC .non) σ H (none : Option α) := fun H1 _ _ q => q _ H1 (Ex.refl H1) rfl
theorem er_some {a : α} (h : Er K te σ H a) : Er K te σ H (some a) := fun H1 e Q q => h H1 e Q fun v H2 e2 r => q v H2 e2 r
/-- two, one behind the other -/
theorem er_two {a : α} {b : β} {c : γ} {r : R2} (ha : Er K ta σ H a) (hb : Er K tb σ H b)
    (hr : ∀ x y H1, Ex H H1 → Rep.rep K H1 x a → Rep.rep K H1 y b → ∀ Q : VK, (∀ v H2, Ex H1 H2 → Rep.rep K H2 v c → Q v H2) → r x y H1 Q) : Er K (tOp r ta tb) σ H c := fun H1 e Q q =>
  ha H1 e _ fun x H2 e2 rx => hb H2 (e.trans e2) _ fun y H3 e3 ry => hr x y H3 ((e.trans e2).trans e3) (Rep.mono e3 rx) ry Q fun v H4 e4 r4 => q v H4 ((e2.trans e3).trans e4) r4
theorem erf_two {a : α} {b : β} {cs : List γ} {r : R2} (ha : Er K ta σ H a) (hb : Er K tb σ H b)
    (hr : ∀ x y H1, Ex H H1 → Rep.rep K H1 x a → Rep.rep K H1 y b → ∀ Q : VK, (∀ p H2, H1 p = none → Ex H1 H2 → Own K H2 p cs → Q (.ref p) H2) → r x y H1 Q) : ErF K (tOp r ta tb) σ H cs := fun H1 e Q q =>
  ha H1 e _ fun x H2 e2 rx => hb H2 (e.trans e2) _ fun y H3 e3 ry => hr x y H3 ((e.trans e2).trans e3) (Rep.mono e3 rx) ry Q fun p H4 hp e4 r4 => q p H4 (fresh_back (e2.trans e3) hp) ((e2.trans e3).trans e4) r4

/-! ### ints -/
def rAddI : R2 := rI0 fun i j => .int (i + j)
def rSubI : R2 := rI0 fun i j => .int (i - j)
def rMulI : R2 := rI CMul fun i j => .int (i * j)
def rModI : R2 := rI (fun _ j => 0 < j) fun i j => .int (i % j)
def rDivI : R2 := rI CDiv fun i j => .int (i / j)
def rLtI : R2 := rI0 fun i j => .bl (decide (i < j))
def rLeI : R2 := rI0 fun i j => .bl (decide (i ≤ j))
def rGtI : R2 := rI0 fun i j => .bl (decide (j < i))
def rGeI : R2 := rI0 fun i j => .bl (decide (j ≤ i))
def rNegI : V → Hp → VK → Prop := rU fun i => .int (-i)
def rEqS : R2 := rEq
def rNeS : R2 := rNe
variable {X : Cx}
theorem oAddI : OpR X (binaryOp .Add) rAddI := op_add
theorem oSubI : OpR X (binaryOp .Sub) rSubI := op_sub
theorem oMulI : OpR X (binaryOp .Mult) rMulI := op_mul
theorem oModI : OpR X (binaryOp .Mod) rModI := op_mod
theorem oDivI : OpR X (binaryOp .FloorDiv) rDivI := op_fdiv
theorem oLtI : OpR X (compareOp .Lt) rLtI := op_lt
theorem oLeI : OpR X (compareOp .LtE) rLeI := op_le
theorem oGtI : OpR X (compareOp .Gt) rGtI := op_gt
theorem oGeI : OpR X (compareOp .GtE) rGeI := op_ge
theorem oNegI : UnR X (unaryOp .USub) rNegI := un_neg
theorem oEqS : OpR X (compareOp .Eq) rEqS := op_eq
theorem oNeS : OpR X (compareOp .NotEq) rNeS := op_ne
theorem er_add {i j : Int} (ha : Er K ta σ H i) (hb : Er K tb σ H j) : Er K (tOp rAddI ta tb) σ H (i + j) := er_ev (ev_op (er_i ha) (er_i hb) rv_I0) fun _ _ => rfl
theorem er_sub {i j : Int} (ha : Er K ta σ H i) (hb : Er K tb σ H j) : Er K (tOp rSubI ta tb) σ H (i - j) := er_ev (ev_op (er_i ha) (er_i hb) rv_I0) fun _ _ => rfl
theorem er_mul {i j : Int} (ha : Er K ta σ H i) (hb : Er K tb σ H j) (hc : CMul i j) : Er K (tOp rMulI ta tb) σ H (i * j) := er_ev (ev_op (er_i ha) (er_i hb) (rv_I hc)) fun _ _ => rfl
theorem er_mod {i j : Int} (ha : Er K ta σ H i) (hb : Er K tb σ H j) (hc : 0 < j) : Er K (tOp rModI ta tb) σ H (i % j) := er_ev (ev_op (er_i ha) (er_i hb) (rv_I hc)) fun _ _ => rfl
theorem er_div {i j : Int} (ha : Er K ta σ H i) (hb : Er K tb σ H j) (hc : CDiv i j) : Er K (tOp rDivI ta tb) σ H (i / j) := er_ev (ev_op (er_i ha) (er_i hb) (rv_I hc)) fun _ _ => rfl
theorem er_lt {i j : Int} (ha : Er K ta σ H i) (hb : Er K tb σ H j) : Er K (tOp rLtI ta tb) σ H (decide (i < j)) := er_ev (ev_op (er_i ha) (er_i hb) rv_I0) fun _ _ => rfl
theorem er_le {i j : Int} (ha : Er K ta σ H i) (hb : Er K tb σ H j) : Er K (tOp rLeI ta tb) σ H (decide (i ≤ j)) := er_ev (ev_op (er_i ha) (er_i hb) rv_I0) fun _ _ => rfl
theorem er_gt {i j : Int} (ha : Er K ta σ H i) (hb : Er K tb σ H j) : Er K (tOp rGtI ta tb) σ H (decide (j < i)) := er_ev (ev_op (er_i ha) (er_i hb) rv_I0) fun _ _ => rfl
theorem er_ge {i j : Int} (ha : Er K ta σ H i) (hb : Er K tb σ H j) : Er K (tOp rGeI ta tb) σ H (decide (j ≤ i)) := er_ev (ev_op (er_i ha) (er_i hb) rv_I0) fun _ _ => rfl
theorem er_neg {i : Int} (ha : Er K ta σ H i) : Er K (tUn rNegI ta) σ H (-i) := er_ev (ev_un (er_i ha) ru_neg) fun _ _ => rfl
theorem er_eqI {i j : Int} (ha : Er K ta σ H i) (hb : Er K tb σ H j) : Er K (tOp rEqS ta tb) σ H (i == j) := er_ev (ev_op (er_i ha) (er_i hb) (rv_eq rfl)) fun _ _ => by rw [dec_int]; rfl
theorem er_neI {i j : Int} (ha : Er K ta σ H i) (hb : Er K tb σ H j) : Er K (tOp rNeS ta tb) σ H (!(i == j)) := er_ev (ev_op (er_i ha) (er_i hb) (rv_ne rfl)) fun _ _ => by rw [dec_int]; rfl
theorem er_eqT {i j : Str} (ha : Er K ta σ H i) (hb : Er K tb σ H j) : Er K (tOp rEqS ta tb) σ H (i == j) := er_ev (ev_op (er_s ha) (er_s hb) (rv_eq rfl)) fun _ _ => by rw [dec_str]; rfl
theorem er_neT {i j : Str} (ha : Er K ta σ H i) (hb : Er K tb σ H j) : Er K (tOp rNeS ta tb) σ H (!(i == j)) := er_ev (ev_op (er_s ha) (er_s hb) (rv_ne rfl)) fun _ _ => by rw [dec_str]; rfl
theorem er_eqB {i j : Bool} (ha : Er K ta σ H i) (hb : Er K tb σ H j) : Er K (tOp rEqS ta tb) σ H (i == j) := er_ev (ev_op (er_b ha) (er_b hb) (rv_eq rfl)) fun _ _ => by rw [dec_bl]; rfl
theorem er_neB {i j : Bool} (ha : Er K ta σ H i) (hb : Er K tb σ H j) : Er K (tOp rNeS ta tb) σ H (!(i == j)) := er_ev (ev_op (er_b ha) (er_b hb) (rv_ne rfl)) fun _ _ => by rw [dec_bl]; rfl

/-! ### tests -/
theorem et_e {b : Bool} (h : Er K te σ H b) : Et K (tTest te) σ H b := et_test (er_b h)
theorem et_v {b : Bool} (h : Er K te σ H b) : Et K (tB te) σ H b := et_B (er_b h)
theorem er_and {a b : Bool} (h1 : Er K ta σ H a) (h2 : a = true → Er K tb σ H b) : Er K (tAndV ta tb) σ H (a && b) := er_ev (ev_andV (er_b h1) fun e => er_b (h2 e)) fun _ _ => rfl
theorem er_or {a b : Bool} (h1 : Er K ta σ H a) (h2 : a = false → Er K tb σ H b) : Er K (tOrV ta tb) σ H (a || b) := er_ev (ev_orV (er_b h1) fun e => er_b (h2 e)) fun _ _ => rfl
theorem er_not {a : Bool} (h1 : Er K ta σ H a) : Er K (tNotV ta) σ H (!a) := er_ev (ev_notV (er_b h1)) fun _ _ => rfl
theorem er_if {b : Bool} {x y : α} (h : Et K t σ H b) (h1 : b = true → Er K ta σ H x) (h2 : b = false → Er K tb σ H y) : Er K (tIf t ta tb) σ H (if b then x else y) := fun H1 e Q q => h H1 e _ fun H2 e2 => by
  cases b with
  | true =>
    show ta σ H2 Q
    exact h1 rfl H2 (e.trans e2) Q fun v H3 e3 r => q v H3 (e2.trans e3) r
  | false =>
    show tb σ H2 Q
    exact h2 rfl H2 (e.trans e2) Q fun v H3 e3 r => q v H3 (e2.trans e3) r
theorem er_chain {i j k : Int} {b1 b2 : Bool} {r r' : R2} (ha : Er K ta σ H i) (hb : Er K tb σ H j) (hc : Er K tc σ H k) (h1 : ∀ H1, RV r (.int i) (.int j) H1 (.bl b1)) (h2 : ∀ H1, RV r' (.int j) (.int k) H1 (.bl b2)) :
    Er K (tChain r r' ta tb tc) σ H (b1 && b2) := fun H1 e Q q => er_i ha H1 e _ fun H2 e2 => er_i hb H2 (e.trans e2) _ fun H3 e3 => h1 H3 H3 (Ex.refl H3) _ fun H4 e4 => ⟨b1, rfl, by
  cases b1 with
  | true =>
    show tc σ H4 fun w' H5 => r' (.int j) w' H5 Q
    exact er_i hc H4 (((e.trans e2).trans e3).trans e4) _ fun H5 e5 => h2 H5 H5 (Ex.refl H5) _ fun H6 e6 => q _ H6 ((((e2.trans e3).trans e4).trans e5).trans e6) rfl
  | false =>
    show Q (.bl false) H4
    exact q _ H4 ((e2.trans e3).trans e4) rfl⟩
theorem rvLt {i j : Int} (H1 : Hp) : RV rLtI (.int i) (.int j) H1 (.bl (decide (i < j))) := rv_I0
theorem rvLe {i j : Int} (H1 : Hp) : RV rLeI (.int i) (.int j) H1 (.bl (decide (i ≤ j))) := rv_I0
end
end Rf
set_option Elab.async false
set_option linter.all false
set_option maxRecDepth 100000
set_option maxHeartbeats 4000000
namespace Rf
open PySem L2 Evl
section
variable {α β γ : Type} [Rep α] [Rep β] [Rep γ] {K : PySem.W.Frag} {σ : L2.St} {H H' : Hp} {ta tb tc te : TE} {t u : TT} {X : Cx}

/-! ### lists: an item, the length, displays -/
theorem ixN_of {n j : Nat} {i : Int} (h : ixN n i = some j) : j < n := (ixN_seq h).2.1
theorem atI_all {R : V → α → Prop} {xs : List V} {as : List α} (h : All2 R xs as) {i : Int} {a : α} (e : atI as i = some a) : ∃ v, atI xs i = some v ∧ R v a := by
  unfold atI at e ⊢
  rw [h.len]
  cases q : ixN as.length i with
  | none => rw [q] at e; simp at e
  | some j =>
    rw [q] at e
    exact h.get e
theorem er_ixL {as : List α} {i : Int} {a : α} (ha : Er K ta σ H as) (hb : Er K tb σ H i) (e : atI as i = some a) : Er K (tOp (rIxL K) ta tb) σ H a :=
  er_two ha hb fun x y H1 _ rx ry Q q => by
    obtain ⟨p, rfl, xs, hs, hall⟩ := rx
    obtain rfl : y = .int i := ry
    obtain ⟨v, hv, r⟩ := atI_all hall e
    exact ⟨p, xs, i, v, rfl, rfl, hs, hv, q v H1 (Ex.refl H1) r⟩
theorem atI_nat' {as : List α} {j : Nat} {a : α} (h : as[j]? = some a) : atI as (j : Int) = some a := by
  unfold atI ixN
  have hj : j < as.length := (List.getElem?_eq_some_iff.mp h).1
  rw [if_pos (by omega), if_pos (by omega)]
  simpa using h
theorem atI_at {as : List α} {i : Int} {a : α} (h0 : 0 ≤ i) (h : as[i.toNat]? = some a) : atI as i = some a := by
  have e : i = (i.toNat : Int) := (Int.toNat_of_nonneg h0).symm
  rw [e]
  exact atI_nat' h
theorem atI_ok {as : List α} {i : Int} (h0 : 0 ≤ i) (h : i.toNat < as.length) : atI as i = some (as[i.toNat]'h) := atI_at h0 (List.getElem?_eq_getElem h)
theorem atI_neg1 {as : List α} {a : α} (h : as.getLast? = some a) : atI as (-1) = some a := by
  unfold atI ixN
  have hl : 0 < as.length := by
    cases as with
    | nil => simp at h
    | cons x r => simp
  rw [if_neg (by omega), if_pos (by omega)]
  rw [List.getLast?_eq_getElem?] at h
  show as[((-1 : Int) + (as.length : Int)).toNat]? = some a
  rw [show ((-1 : Int) + (as.length : Int)).toNat = as.length - 1 by omega]
  exact h
/-- len -/
def rLenL (K : PySem.W.Frag) : List V → Hp → VK → Prop := fun xs H Q => ∃ p ys, xs = [.ref p] ∧ (SqL K H p ys ∨ SqT K H p ys) ∧ Q (.int ys.length) H
def rLenT : List V → Hp → VK → Prop := fun xs H Q => ∃ z, xs = [.str z] ∧ z.length ≤ sizeLine ∧ Q (.int z.length) H
theorem cLenL : CallR X (.builtin "len") (rLenL X.K) := call_len_seq
theorem cLenT : CallR X (.builtin "len") rLenT := call_len_str
theorem er_lenL {as : List α} (ha : Er K ta σ H as) : Er K (tCB (rLenL K) (tCons ta tNil)) σ H (as.length : Int) := fun H1 e Q q =>
  ha H1 e _ fun v H2 e2 ⟨p, e3, xs, hs, hall⟩ => ⟨p, xs, by rw [e3], .inl hs, by rw [hall.len]; exact q _ H2 e2 rfl⟩
theorem er_lenT {z : Str} (ha : Er K ta σ H z) (hz : z.length ≤ 100000) : Er K (tCB rLenT (tCons ta tNil)) σ H (z.length : Int) := fun H1 e Q q =>
  ha H1 e _ fun v H2 e2 e3 => ⟨z, by rw [e3], sz_of hz, q _ H2 e2 rfl⟩
/-- the items of a display -/
def EaL (K : PySem.W.Frag) (ta : TA) (σ : L2.St) (H : Hp) (as : List α) : Prop := Ea ta σ H fun H vs => All2 (Rep.rep K H) vs as
theorem eal_nil : EaL K tNil σ H ([] : List α) := fun H1 _ _ q => q [] H1 (Ex.refl H1) .nil
theorem eal_cons {a : α} {as : List α} {tr : TA} (h : Er K te σ H a) (hr : EaL K tr σ H as) : EaL K (tCons te tr) σ H (a :: as) := fun H1 e _ q =>
  h H1 e _ fun v H2 e2 r => hr H2 (e.trans e2) _ fun vs H3 e3 rs => q _ H3 (e2.trans e3) (.cons (Rep.mono e3 r) rs)
theorem erf_lst {ta : TA} {as : List α} (h : EaL K ta σ H as) (hl : as.length ≤ 100000) : ErF K (tLst ta) σ H as := fun H1 e _ q =>
  h H1 e _ fun vs H2 e2 hv => ⟨sz_of (by rw [hv.len]; exact hl), fun p hp => q p _ (fresh_back e2 hp) (e2.trans (Ex.new hp)) ⟨vs, upd_same, hv.mp fun v a r => Rep.mono (ex_del (Ex.new hp) hp) r⟩⟩
theorem er_tup2 {a : α} {b : β} (h1 : Er K ta σ H a) (h2 : Er K tb σ H b) : Er K (tTup (tCons ta (tCons tb tNil))) σ H (a, b) := fun H1 e _ q =>
  h1 H1 e _ fun v H2 e2 r1 => h2 H2 (e.trans e2) _ fun u H3 e3 r2 => ⟨sz_of (by show 2 ≤ 100000; decide), fun p hp => q _ _ ((e2.trans e3).trans (Ex.new hp)) ⟨p, rfl, v, u, st_of upd_same, Rep.mono (e3.trans (Ex.new hp)) r1, Rep.mono (Ex.new hp) r2⟩⟩
/-- a tuple of things of one kind -/
def TupsR (K : PySem.W.Frag) (H : Hp) (p : Addr) (as : List α) : Prop := ∃ xs, SqT K H p xs ∧ All2 (Rep.rep K H) xs as
theorem er_tupIx {ta : TA} {as : List α} {i : Int} {a : α} (h : EaL K ta σ H as) (hl : as.length ≤ 100000) (hb : Er K tb σ H i) (e : atI as i = some a) : Er K (tOp (rIxT K) (tTup ta) tb) σ H a := fun H1 e1 Q q =>
  h H1 e1 _ fun vs H2 e2 hv => ⟨sz_of (by rw [hv.len]; exact hl), fun p hp => er_i hb _ ((e1.trans e2).trans (Ex.new hp)) _ fun H3 e3 => by
    obtain ⟨v, hv1, r⟩ := atI_all hv e
    exact ⟨p, vs, i, v, rfl, rfl, ex_t e3 (st_of upd_same), hv1, q v H3 ((e2.trans (Ex.new hp)).trans e3) (Rep.mono ((Ex.new hp).trans e3) r)⟩⟩

/-! ### slices -/
def Eo (_ : PySem.W.Frag) (to : TO) (σ : L2.St) (H : Hp) (o : Option Int) : Prop := EvO to σ H o
theorem eo_no : Eo K tNoPart σ H none := eo_none
theorem eo_at {i : Int} (h : Er K te σ H i) : Eo K (tPart te) σ H (some i) := eo_some (er_i h)
/-- an int that is known by an equation -/
theorem er_varI {n : Nat} {v : V} {a : Int} (h : σ[n]? = some (some v)) (e : v = .int a) : Er K (tVar n) σ H a := er_var h e
theorem int_eq {a b : Int} (h : a = b) : V.int a = V.int b := by rw [h]
def cutL (as : List α) (lo hi : Option Int) : List α := (as.drop (HT.sIx as.length 0 lo)).take (HT.sIx as.length as.length hi - HT.sIx as.length 0 lo)
theorem erf_sl {as : List α} {tl th : TO} {lo hi : Option Int} (h : Er K te σ H as) (h1 : Eo K tl σ H lo) (h2 : Eo K th σ H hi) : ErF K (tSl (rSlL K) te tl th) σ H (cutL as lo hi) := fun H1 e Q q =>
  h H1 e _ fun v H2 e2 ⟨p, e3, xs, hs, hall⟩ => h1 H2 (e.trans e2) _ fun H3 e4 => h2 H3 ((e.trans e2).trans e4) _ fun H4 e5 => by
    subst e3
    refine ⟨p, xs, rfl, ex_l (e4.trans e5) hs, fun l hl => q l _ (fresh_back ((e2.trans e4).trans e5) hl) (((e2.trans e4).trans e5).trans (Ex.new hl)) ⟨_, upd_same, ?_⟩⟩
    unfold cutV cutL
    rw [hall.len]
    exact ((hall.mp fun v a r => Rep.mono (ex_del ((e4.trans e5).trans (Ex.new hl)) (fresh_back (e4.trans e5) hl)) r).drop _).take _
theorem erf_rev {as : List α} (h : Er K te σ H as) : ErF K (tRevL K te) σ H as.reverse := fun H1 e Q q =>
  h H1 e _ fun v H2 e2 ⟨p, e3, xs, hs, hall⟩ => ⟨p, xs, e3, hs, fun l hl => q l _ (fresh_back e2 hl) (e2.trans (Ex.new hl)) ⟨_, upd_same, (hall.mp fun v a r => Rep.mono (ex_del (Ex.new hl) hl) r).reverse⟩⟩

/-! ### list(xs), xs + ys, sum -/
def rLstL (K : PySem.W.Frag) : List V → Hp → VK → Prop := fun xs H Q => ∃ p ys, xs = [.ref p] ∧ (SqL K H p ys ∨ SqT K H p ys) ∧ ∀ l, H l = none → Q (.ref l) (upd H l (.lst ys))
theorem cLstL : CallR X (.type "list") (rLstL X.K) := call_list_of
theorem erf_list {as : List α} (ha : Er K ta σ H as) : ErF K (tCB (rLstL K) (tCons ta tNil)) σ H as := fun H1 e Q q =>
  ha H1 e _ fun v H2 e2 ⟨p, e3, xs, hs, hall⟩ => ⟨p, xs, by rw [e3], .inl hs, fun l hl => q l _ (fresh_back e2 hl) (e2.trans (Ex.new hl)) ⟨_, upd_same, hall.mp fun v a r => Rep.mono (ex_del (Ex.new hl) hl) r⟩⟩
theorem cSum (hc : X.calm = true) : CallR X (.builtin "sum") (rSum X.K) := cr_sum hc
theorem all2_int {H : Hp} : ∀ {xs : List V} {ns : List Int}, All2 (Rep.rep K H) xs ns → xs = ns.map V.int
  | _, _, .nil => rfl
  | _, _, .cons h t => by
    have h' : _ = V.int _ := h
    rw [h', all2_int t]; rfl
theorem all2_bl {H : Hp} : ∀ {xs : List V} {ns : List Bool}, All2 (Rep.rep K H) xs ns → xs = ns.map V.bl
  | _, _, .nil => rfl
  | _, _, .cons h t => by
    have h' : _ = V.bl _ := h
    rw [h', all2_bl t]; rfl
theorem all2_str {H : Hp} : ∀ {xs : List V} {ns : List Str}, All2 (Rep.rep K H) xs ns → xs = ns.map V.str
  | _, _, .nil => rfl
  | _, _, .cons h t => by
    have h' : _ = V.str _ := h
    rw [h', all2_str t]; rfl
theorem int_all2 {H : Hp} : ∀ {ns : List Int}, All2 (Rep.rep K H) (ns.map V.int) ns
  | [] => .nil
  | _ :: _ => .cons rfl int_all2
theorem lst_int {H : Hp} {p : Addr} {ns : List Int} (h : LstR K H p ns) : SqL K H p (ns.map V.int) := by
  obtain ⟨xs, h1, h2⟩ := h
  rw [← all2_int h2]; exact h1
theorem int_lst {H : Hp} {p : Addr} {ns : List Int} (h : SqL K H p (ns.map V.int)) : LstR K H p ns := ⟨_, h, int_all2⟩
theorem er_sum {ns : List Int} (ha : Er K ta σ H ns) : Er K (tCB (rSum K) (tCons ta tNil)) σ H ns.sum := fun H1 e Q q =>
  ha H1 e _ fun v H2 e2 ⟨p, e3, hl⟩ => ⟨p, ns, by rw [e3], lst_int hl, q _ H2 e2 rfl⟩
theorem er_all {bs : List Bool} (ha : Er K ta σ H bs) : Er K (tCB (rAll K) (tCons ta tNil)) σ H (bs.all id) := fun H1 e Q q =>
  ha H1 e _ fun v H2 e2 ⟨p, e3, xs, hs, hall⟩ => ⟨p, bs, by rw [e3], by rw [← all2_bl hall]; exact hs, q _ H2 e2 rfl⟩
/-- xs + ys, two lists that stand tracked and plain -/
theorem erf_cat {as bs : List α} (ha : ErF K ta σ H as) (hb : ErF K tb σ H bs) (hl : as.length + bs.length ≤ 100000) : ErF K (tOp rCat ta tb) σ H (as ++ bs) := fun H1 e Q q =>
  ha H1 e _ fun p H2 hp e2 ⟨xs, h1, h2⟩ => hb H2 (e.trans e2) _ fun p' H3 hp' e3 ⟨ys, h3, h4⟩ => by
    refine ⟨p, p', xs, ys, rfl, rfl, e3 _ _ h1, h3, by rw [h2.len, h4.len]; exact sz_of hl, fun l hl => q l _ (fresh_back (e2.trans e3) hl) ((e2.trans e3).trans (Ex.new hl)) ⟨_, upd_same, ?_⟩⟩
    have x3 : Ex H3 (del (upd H3 l (.lst (xs ++ ys))) l) := ex_del (Ex.new hl) hl
    exact (h2.mp fun v a r => Rep.mono (((del_ex H2 p).trans e3).trans x3) r).append (h4.mp fun v a r => Rep.mono ((del_ex H3 p').trans x3) r)
/-- .. the left one a name's, tracked -/
theorem erf_catL {as bs : List α} {p : Addr} (ha : Ev ta σ H (.ref p)) (ho : Own K H p as) (hb : ErF K tb σ H bs) (hl : as.length + bs.length ≤ 100000) : ErF K (tOp rCat ta tb) σ H (as ++ bs) := fun H1 e Q q =>
  ha H1 e _ fun H2 e2 => hb H2 (e.trans e2) _ fun p' H3 hp' e3 ⟨ys, h3, h4⟩ => by
    obtain ⟨xs, h1, h2⟩ := (ho.up (e.trans e2))
    refine ⟨p, p', xs, ys, rfl, rfl, e3 _ _ h1, h3, by rw [h2.len, h4.len]; exact sz_of hl, fun l hl => q l _ (fresh_back (e2.trans e3) hl) ((e2.trans e3).trans (Ex.new hl)) ⟨_, upd_same, ?_⟩⟩
    have x3 : Ex H3 (del (upd H3 l (.lst (xs ++ ys))) l) := ex_del (Ex.new hl) hl
    exact (h2.mp fun v a r => Rep.mono (((del_ex H2 p).trans e3).trans x3) r).append (h4.mp fun v a r => Rep.mono ((del_ex H3 p').trans x3) r)
/-- the left new, the right a name's -/
theorem erf_catR {as bs : List α} {p : Addr} (ha : ErF K ta σ H as) (hb : Ev tb σ H (.ref p)) (ho : Own K H p bs) (hl : as.length + bs.length ≤ 100000) : ErF K (tOp rCat ta tb) σ H (as ++ bs) := fun H1 e Q q =>
  ha H1 e _ fun p' H2 hp' e2 ⟨xs, h1, h2⟩ => hb H2 (e.trans e2) _ fun H3 e3 => by
    obtain ⟨ys, h3, h4⟩ := (ho.up ((e.trans e2).trans e3))
    refine ⟨p', p, xs, ys, rfl, rfl, e3 _ _ h1, h3, by rw [h2.len, h4.len]; exact sz_of hl, fun l hl => q l _ (fresh_back (e2.trans e3) hl) ((e2.trans e3).trans (Ex.new hl)) ⟨_, upd_same, ?_⟩⟩
    have x3 : Ex H3 (del (upd H3 l (.lst (xs ++ ys))) l) := ex_del (Ex.new hl) hl
    exact (h2.mp fun v a r => Rep.mono (((del_ex H2 p').trans e3).trans x3) r).append (h4.mp fun v a r => Rep.mono ((del_ex H3 p).trans x3) r)

/-! ### texts -/
def rAddT : R2 := fun x y H Q => ∃ i j, x = .str i ∧ y = .str j ∧ i.length + j.length ≤ sizeLine ∧ Q (.str (i ++ j)) H
theorem oAddT : OpR X (binaryOp .Add) rAddT := op_add_str
theorem er_addT {a b : Str} (ha : Er K ta σ H a) (hb : Er K tb σ H b) (hl : a.length + b.length ≤ 100000) : Er K (tOp rAddT ta tb) σ H (a ++ b) :=
  er_ev (ev_op (er_s ha) (er_s hb) (rv_val fun H1 _ Q q => ⟨a, b, rfl, rfl, sz_of hl, q⟩)) fun _ _ => rfl
def reps (k : Nat) (x : Str) : Str := ⟨(List.replicate k x.cps.toList).flatten.toArray⟩
def rMulT : R2 := fun x y H Q => ∃ (a : Str) (n : Int), x = .str a ∧ y = .int n ∧ 0 ≤ n ∧ n ≤ 1000 ∧ a.length ≤ 1000 ∧ Q (.str (reps n.toNat a)) H
theorem foldl_reps (c : Array Nat) : ∀ (k : Nat) (acc : Array Nat), (List.replicate k c).foldl (· ++ ·) acc = acc ++ (List.replicate k c.toList).flatten.toArray
  | 0, acc => by simp
  | k + 1, acc => by
    rw [List.replicate_succ, List.foldl_cons, foldl_reps c k, List.replicate_succ, List.flatten_cons, Array.append_assoc]
    congr 1
    apply Array.ext'
    simp
theorem oMulT : OpR X (binaryOp .Mult) rMulT := by
  intro pins s σ H x y v u Q I rx ry h
  obtain ⟨a, n, rfl, rfl, h0, h1, ha, q⟩ := h
  obtain ⟨t, rfl⟩ := rx
  obtain ⟨t', rfl⟩ := ry
  have hb : a.length * n.toNat ≤ 1000000 := Nat.le_trans (Nat.mul_le_mul ha (show n.toNat ≤ 1000 by omega)) (by decide)
  refine PySem.P.mul_str ?_ ?_ ?_ ?_
  · have h2 : ¬ n < -(2 ^ 63 : Int) := by omega
    have h3 : ¬ n ≥ 2 ^ 63 := by omega
    rw [decide_eq_false h2, decide_eq_false h3]; rfl
  · intro hn _ hgt
    have h4 : 1001 ≤ (2 ^ 63 - 1) / n := by
      rw [Int.le_ediv_iff_mul_le (by omega)]
      omega
    omega
  · intro _ _
    unfold Builtin.Str.tooLong
    rw [decide_eq_false_iff_not, sizeLine_eq]
    omega
  · by_cases c1 : n < 1
    · rw [if_pos c1]
      have e0 : n.toNat = 0 := by omega
      have e : reps n.toNat a = Str.empty := by rw [e0]; rfl
      rw [e] at q
      exact ⟨by show (0 : Nat) ≤ sizeLine; exact Nat.zero_le _, .str _, H, I.tok _, ⟨_, rfl⟩, q⟩
    · rw [if_neg c1]
      by_cases c2 : (n == 1 || a.length == 0) = true
      · rw [if_pos c2]
        have e : reps n.toNat a = a := by
          unfold reps
          simp only [Bool.or_eq_true, beq_iff_eq] at c2
          rcases c2 with c2 | c2
          · subst c2
            show (⟨(List.replicate 1 a.cps.toList).flatten.toArray⟩ : Str) = a
            simp
          · have : a.cps = #[] := Array.eq_empty_of_size_eq_zero c2
            cases a
            simp only at this
            subst this
            simp
        rw [e] at q
        exact ⟨.str a, H, I, ⟨t, rfl⟩, q⟩
      · rw [if_neg c2]
        have e : (⟨(List.replicate n.toNat a.cps).foldl (· ++ ·) #[]⟩ : Str) = reps n.toNat a := by
          unfold reps
          rw [foldl_reps]
          simp
        rw [e]
        refine ⟨?_, .str _, H, I.tok _, ⟨_, rfl⟩, q⟩
        show (List.replicate n.toNat a.cps.toList).flatten.toArray.size ≤ sizeLine
        rw [List.size_toArray, List.length_flatten, List.map_replicate, List.sum_replicate_nat]
        have : a.cps.toList.length = a.length := by simp [Str.length]
        rw [this, Nat.mul_comm]
        exact Nat.le_trans hb (by decide)
theorem er_mulT {a : Str} {n : Int} (ha : Er K ta σ H a) (hb : Er K tb σ H n) (h0 : 0 ≤ n) (h1 : n ≤ 1000) (h2 : a.length ≤ 1000) : Er K (tOp rMulT ta tb) σ H (reps n.toNat a) :=
  er_ev (ev_op (er_s ha) (er_i hb) (rv_val fun H1 _ Q q => ⟨a, n, rfl, rfl, h0, h1, h2, q⟩)) fun _ _ => rfl
end
end Rf
set_option Elab.async false
set_option linter.all false
set_option maxRecDepth 100000
set_option maxHeartbeats 4000000
namespace Rf
open PySem L2 Evl
/-! ### what stands for itself, whatever the heap -/
class Flat (α : Type) [Rep α] : Prop where
  flat : ∀ {K : PySem.W.Frag} {H H' : Hp} {v : V} {a : α}, Rep.rep K H v a → Rep.rep K H' v a
instance : Flat Int := ⟨fun h => h⟩
instance : Flat Bool := ⟨fun h => h⟩
instance : Flat Str := ⟨fun h => h⟩
instance : Flat Unit := ⟨fun h => h⟩
instance {α : Type} [Rep α] [Flat α] : Flat (Option α) := ⟨fun {K H H' v a} h => by
  cases a with
  | none => exact h
  | some a => exact Flat.flat (α := α) h⟩
theorem All2.flat {α : Type} [Rep α] [Flat α] {K : PySem.W.Frag} {H H' : Hp} {vs : List V} {as : List α} (h : All2 (Rep.rep K H) vs as) : All2 (Rep.rep K H') vs as := h.mp fun _ _ r => Flat.flat r
/-- the base's objects, and those that are new since H1 -/
def mix (H H1 H2 : Hp) : Hp := fun p => if (H p).isSome = true ∨ H1 p = none then H2 p else none
theorem mix_ex (H H1 H2 : Hp) : Ex (mix H H1 H2) H2 := fun a o h => by
  unfold mix at h
  split at h
  · exact h
  · cases h
theorem ex_mix {H H1 H2 : Hp} (e : Ex H H1) (e2 : Ex H1 H2) : Ex H (mix H H1 H2) := fun a o h => by
  unfold mix
  rw [if_pos (.inl (by rw [h]; rfl))]
  exact e2 _ _ (e _ _ h)
theorem mix_new {H H1 H2 : Hp} {p : Addr} (h : H1 p = none) : mix H H1 H2 p = H2 p := if_pos (.inr h)
theorem mix_del {H H1 H2 : Hp} {D : Addr} (h : H D = none) (h1 : H1 D ≠ none) : Ex (mix H H1 H2) (del H2 D) := fun a o q => by
  have q0 := q
  unfold mix at q
  split at q
  · rename_i c
    have hne : a ≠ D := by
      rintro rfl
      rcases c with c | c
      · rw [h] at c; cases c
      · exact h1 c
    unfold del
    rw [if_neg hne]
    exact q
  · cases q
theorem take_succ_some {α : Type} {as : List α} {i : Nat} {a : α} (h : as[i]? = some a) : as.take (i + 1) = as.take i ++ [a] := by rw [List.take_add_one, h]; rfl
theorem filter_yes {α : Type} (as : List α) : as.filter (fun _ => true) = as := by simp
section
variable {α β γ : Type} [Rep α] [Rep β] [Rep γ] {K : PySem.W.Frag} {σ : L2.St} {H H' : Hp} {ta tb tc te tl : TE} {t u tt : TT} {X : Cx}
/-- as Er; what the value leans on is the base's or new -/
def Es (K : PySem.W.Frag) (te : TE) (σ : L2.St) (H : Hp) (a : α) : Prop := ∀ H1, Ex H H1 → ∀ Q : VK, (∀ v H2, Ex H1 H2 → Rep.rep K (mix H H1 H2) v a → Q v H2) → te σ H1 Q
theorem es_flat [Flat α] {a : α} (h : Er K te σ H a) : Es K te σ H a := fun H1 e Q q => h H1 e Q fun v H2 e2 r => q v H2 e2 (Flat.flat r)
theorem es_lst [Flat α] {as : List α} (h : ErF K te σ H as) : Es K te σ H as := fun H1 e Q q => h H1 e Q fun p H2 hp e2 ⟨xs, h1, h2⟩ => q _ H2 e2 ⟨p, rfl, xs, sq_of (by rw [mix_new hp]; exact h1), h2.flat⟩
theorem es_tup2 [Flat α] [Flat β] {a : α} {b : β} (h1 : Er K ta σ H a) (h2 : Er K tb σ H b) : Es K (tTup (tCons ta (tCons tb tNil))) σ H (a, b) := fun H1 e _ q =>
  h1 H1 e _ fun v H2 e2 r1 => h2 H2 (e.trans e2) _ fun u H3 e3 r2 => ⟨sz_of (by show 2 ≤ 100000; decide), fun p hp => q _ _ ((e2.trans e3).trans (Ex.new hp))
    ⟨p, rfl, v, u, st_of (by rw [mix_new (fresh_back (e2.trans e3) hp)]; exact upd_same), Flat.flat r1, Flat.flat r2⟩⟩
theorem es_var {i : Nat} {v : V} {a : α} (h : σ[i]? = some (some v)) (r : Rep.rep K H v a) : Es K (tVar i) σ H a := fun H1 e Q q => ⟨v, h, q v H1 (Ex.refl H1) (Rep.mono (ex_mix e (Ex.refl H1)) r)⟩
theorem Es.to {a b : α} (h : Es K te σ H a) (e : a = b) : Es K te σ H b := e ▸ h

/-! ### comprehensions -/
/-- the list so far -/
def Cl (K : PySem.W.Frag) (H : Hp) (D : Addr) (H' : Hp) (bs : List β) : Prop := H D = none ∧ Ex H H' ∧ Own K H' D bs
theorem cl_turn {H1 H' : Hp} {D : Addr} {bs : List β} {σ2 : L2.St} {b : Bool} {c : β} {N : Hp → Prop} (p : Cl K H1 D H' bs) (hz : bs.length < 50000) (ht : Et K tt σ2 H1 b) (he : b = true → Es K te σ2 H1 c)
    (hN : ∀ H'', Cl K H1 D H'' (if b then bs ++ [c] else bs) → N H'') :
    tt σ2 H' fun b H3 => if b = true then te σ2 H3 fun y H4 => ∃ acc, H4 D = some (.lst acc) ∧ acc.length < sizeLine ∧ N (upd H4 D (.lst (acc ++ [y]))) else N H3 := by
  obtain ⟨p1, p2, p3⟩ := p
  refine ht H' p2 _ fun H3 e3 => ?_
  cases b with
  | false =>
    rw [if_neg Bool.false_ne_true]
    exact hN H3 ⟨p1, p2.trans e3, p3.up e3⟩
  | true =>
    rw [if_pos rfl]
    refine he rfl H3 (p2.trans e3) _ fun y H4 e4 r => ?_
    obtain ⟨xs, q1, q2⟩ := p3.up (e3.trans e4)
    have hD3 : H3 D ≠ none := by
      obtain ⟨o, ho⟩ := (p3.up e3).some
      rw [ho]; simp
    refine ⟨xs, q1, sz_lt (by rw [q2.len]; omega), hN _ ⟨p1, Ex.mut ((p2.trans e3).trans e4) p1, _, upd_same, ?_⟩⟩
    rw [del_upd, if_pos rfl]
    exact q2.append (.one (Rep.mono (mix_del p1 hD3) r))
theorem cl_start {H1 : Hp} {D : Addr} (h : H1 D = none) : Cl K H1 D (upd H1 D (.lst [])) ([] : List β) := ⟨h, Ex.new h, [], upd_same, .nil⟩
/-- over a list, any target; g0 tells what the target does with the item -/
theorem erf_lcG {as : List α} {g : TG} {vs : List Nat} {p : α → Bool} {f : α → β} (h : Er K tl σ H as) (hz : as.length ≤ 40000)
    (ho : ∀ (i : Nat) (a : α) (v : V) (H1 : Hp), Ex H H1 → as[i]? = some a → Rep.rep K H1 v a →
      ∀ H2, Ex H1 H2 → ∀ R : L2.St → Hp → Prop, (∀ σ2, wipe σ2 vs = wipe σ vs → Et K tt σ2 H1 (p a) → (p a = true → Es K te σ2 H1 (f a)) → R σ2 H2) → g v (wipe σ vs) H2 R) :
    ErF K (tLc (iList K tl) g tt te vs) σ H ((as.filter p).map f) := fun H0 e Q q =>
  h H0 e _ fun v0 H1 e1 ⟨a0, e2, xs, hs, hall⟩ => ⟨a0, e2, ⟨xs, hs⟩, fun D hD =>
    lc_list (xs := xs) (fun i H' => Cl K H1 D H' (((as.take i).filter p).map f)) (cl_start hD) (fun i H' _ c => ex_l c.2.1 hs) (fun i x H' hx c => by
      obtain ⟨a, ha, r⟩ := hall.getV hx
      have hi : i < as.length := (List.getElem?_eq_some_iff.mp ha).1
      refine ho i a x H1 (e.trans e1) ha r H' c.2.1 _ fun σ2 hw ht he => ⟨hw, cl_turn c ?_ ht he fun H'' c' => ?_⟩
      · rw [List.length_map]
        have := List.length_filter_le p (as.take i)
        rw [List.length_take] at this
        omega
      · rw [take_succ_some ha, List.filter_append, List.map_append]
        cases hp : p a with
        | true => rw [hp] at c'; simpa [hp] using c'
        | false => rw [hp] at c'; simpa [hp] using c') (fun H' c => by
      rw [hall.len, List.take_length] at c
      exact q D H' (fresh_back e1 hD) (e1.trans c.2.1) c.2.2)⟩
theorem erf_lcF {as : List α} {j : Nat} {vs : List Nat} {p : α → Bool} {f : α → β} (h : Er K tl σ H as) (hz : as.length ≤ 40000) (hw : ∀ x, wipe ((wipe σ vs).set j (some x)) vs = wipe σ vs)
    (ht : ∀ (i : Nat) (a : α) (v : V) (H1 : Hp), Ex H H1 → as[i]? = some a → Rep.rep K H1 v a → Et K tt ((wipe σ vs).set j (some v)) H1 (p a))
    (he : ∀ (i : Nat) (a : α) (v : V) (H1 : Hp), Ex H H1 → as[i]? = some a → Rep.rep K H1 v a → p a = true → Es K te ((wipe σ vs).set j (some v)) H1 (f a)) :
    ErF K (tLc (iList K tl) (gName j) tt te vs) σ H ((as.filter p).map f) :=
  erf_lcG h hz fun i a v H1 e ha r H2 _ R hR => hR _ (hw _) (ht i a v H1 e ha r) (he i a v H1 e ha r)
theorem et_yes : Et K tYes σ H true := fun H1 _ Q q => q H1 (Ex.refl H1)
theorem erf_lc {as : List α} {j : Nat} {vs : List Nat} {f : α → β} (h : Er K tl σ H as) (hz : as.length ≤ 40000) (hw : ∀ x, wipe ((wipe σ vs).set j (some x)) vs = wipe σ vs)
    (he : ∀ (i : Nat) (a : α) (v : V) (H1 : Hp), Ex H H1 → as[i]? = some a → Rep.rep K H1 v a → Es K te ((wipe σ vs).set j (some v)) H1 (f a)) :
    ErF K (tLc (iList K tl) (gName j) tYes te vs) σ H (as.map f) := by
  have q := erf_lcF (p := fun _ => true) (tt := tYes) h hz hw (fun _ _ _ _ _ _ _ => et_yes) fun i a v H1 e ha r _ => he i a v H1 e ha r
  rw [filter_yes] at q
  exact q
/-- a range is walked -/
def Rg (_ : PySem.W.Frag) (wi : TI) (σ : L2.St) (H : Hp) (lo : Int) (n : Nat) : Prop := ∀ H1, Ex H H1 → ∀ R : It → Hp → Prop, (∀ H2, Ex H1 H2 → R (Itr lo n) H2) → wi σ H1 R
theorem Rg.to {wi : TI} {lo : Int} {n m : Nat} (h : Rg K wi σ H lo n) (e : n = m) : Rg K wi σ H lo m := e ▸ h
/-- over a range -/
theorem erf_lcRG {lo : Int} {n : Nat} {j : Nat} {vs : List Nat} {wi : TI} {p : Nat → Bool} {f : Nat → β} (h : Rg K wi σ H lo n) (hz : n ≤ 40000) (hw : ∀ x, wipe ((wipe σ vs).set j (some x)) vs = wipe σ vs)
    (ht : ∀ (i : Nat) (H1 : Hp), Ex H H1 → i < n → Et K tt ((wipe σ vs).set j (some (.int (lo + i)))) H1 (p i))
    (he : ∀ (i : Nat) (H1 : Hp), Ex H H1 → i < n → p i = true → Es K te ((wipe σ vs).set j (some (.int (lo + i)))) H1 (f i)) :
    ErF K (tLc wi (gName j) tt te vs) σ H (((List.range n).filter p).map f) := fun H0 e Q q =>
  h H0 e _ fun H1 e1 => fun D hD =>
    lc_range (lo := lo) (n := n) (fun i H' => Cl K H1 D H' (((List.range i).filter p).map f)) (cl_start hD) (fun i H' hi c => ⟨hw _, cl_turn c (by
      rw [List.length_map]
      have := List.length_filter_le p (List.range i)
      rw [List.length_range] at this
      omega) (ht i H1 (e.trans e1) hi) (he i H1 (e.trans e1) hi) fun H'' c' => by
      rw [List.range_succ, List.filter_append, List.map_append]
      cases hp : p i with
      | true => rw [hp] at c'; simpa [hp] using c'
      | false => rw [hp] at c'; simpa [hp] using c'⟩) fun H' c => q D H' (fresh_back e1 hD) (e1.trans c.2.1) c.2.2
theorem rng1 {n : Int} (h : Er K ta σ H n) (hn : n ≤ 100000) (hn0 : -100000 ≤ n) : Rg K (iRng1 (tCons ta tNil)) σ H 0 n.toNat := fun H1 e R q =>
  er_i h H1 e _ fun H2 e2 => ⟨n, rfl, by omega, by omega, q H2 e2⟩
theorem rng2 {lo n : Int} (h1 : Er K ta σ H lo) (h : Er K tb σ H n) (hn : n ≤ 100000) (hn0 : -100000 ≤ n) (hl : lo ≤ 100000) (hl0 : -100000 ≤ lo) : Rg K (iRng2 (tCons ta (tCons tb tNil))) σ H lo (n - lo).toNat := fun H1 e R q =>
  er_i h1 H1 e _ fun H2 e2 => er_i h H2 (e.trans e2) _ fun H3 e3 => ⟨lo, n, rfl, ⟨by omega, by omega, by omega, by omega⟩, q H3 (e2.trans e3)⟩
theorem erf_lcR {lo : Int} {n : Nat} {j : Nat} {vs : List Nat} {wi : TI} {f : Nat → β} (h : Rg K wi σ H lo n) (hz : n ≤ 40000) (hw : ∀ x, wipe ((wipe σ vs).set j (some x)) vs = wipe σ vs)
    (he : ∀ (i : Nat) (H1 : Hp), Ex H H1 → i < n → Es K te ((wipe σ vs).set j (some (.int (lo + i)))) H1 (f i)) :
    ErF K (tLc wi (gName j) tYes te vs) σ H ((List.range n).map f) := by
  have q := erf_lcRG (p := fun _ => true) (tt := tYes) h hz hw (fun _ _ _ _ => et_yes) fun i H1 e hi _ => he i H1 e hi
  rw [filter_yes] at q
  exact q
/-- over a text's signs -/
theorem lc_str {x : Str} {g : TG} {vs : List Nat} {H1 : Hp} {D : Addr} {Qd : Hp → Prop} (Pv : Nat → Hp → Prop) (h0 : Pv 0 (upd H1 D (.lst [])))
    (hs : ∀ i c H, x.cps[i]? = some c → Pv i H → g (.str ⟨#[c]⟩) (wipe σ vs) H fun σ2 H2 => wipe σ2 vs = wipe σ vs ∧ tt σ2 H2 fun b H3 =>
      if b = true then te σ2 H3 fun y H4 => ∃ acc, H4 D = some (.lst acc) ∧ acc.length < sizeLine ∧ Pv (i + 1) (upd H4 D (.lst (acc ++ [y]))) else Pv (i + 1) H3) (hd : ∀ H, Pv x.cps.size H → Qd H) :
    ∃ W : Nat → Nat → Hp → Prop, (∃ m, W 0 m (upd H1 D (.lst []))) ∧ ∀ i m H, W i m H →
      ((Its x).stop i H ∧ Qd H) ∨ ((Its x).go i H ∧ ∃ Nx : Hp → Prop, (∀ H', Nx H' → ∃ m', m' < m ∧ W (i + 1) m' H') ∧ ∀ v H', (Its x).yld i H v H' → g v (wipe σ vs) H' fun σ2 H2 => wipe σ2 vs = wipe σ vs ∧ tt σ2 H2 fun b H3 =>
        if b = true then te σ2 H3 fun y H4 => ∃ acc, H4 D = some (.lst acc) ∧ acc.length < sizeLine ∧ Nx (upd H4 D (.lst (acc ++ [y]))) else Nx H3) := by
  refine ⟨fun i m H => m = x.cps.size - i ∧ i ≤ x.cps.size ∧ Pv i H, ⟨x.cps.size, by simp, Nat.zero_le _, h0⟩, ?_⟩
  rintro i m H ⟨rfl, hi, p⟩
  by_cases hlt : i < x.cps.size
  · refine .inr ⟨hlt, Pv (i + 1), fun H' p' => ⟨x.cps.size - (i + 1), by omega, rfl, hlt, p'⟩, fun v H' y => ?_⟩
    obtain ⟨e, c, hc, e2⟩ := y
    subst e e2
    exact hs i c _ hc p
  · have e : i = x.cps.size := by omega
    subst e
    exact .inl ⟨Nat.le_refl _, hd H p⟩
def sgn (c : Nat) : Str := ⟨#[c]⟩
theorem erf_lcS {x : Str} {j : Nat} {vs : List Nat} {f : Nat → β} (h : Er K tl σ H x) (hz : x.length ≤ 40000) (hw : ∀ x, wipe ((wipe σ vs).set j (some x)) vs = wipe σ vs)
    (he : ∀ (i : Nat) (c : Nat) (H1 : Hp), Ex H H1 → x.cps[i]? = some c → Es K te ((wipe σ vs).set j (some (.str (sgn c)))) H1 (f c)) :
    ErF K (tLc (iStr tl) (gName j) tYes te vs) σ H (x.cps.toList.map f) := fun H0 e Q q =>
  er_s h H0 e _ fun H1 e1 => ⟨x, rfl, fun D hD =>
    lc_str (x := x) (fun i H' => Cl K H1 D H' ((x.cps.toList.take i).map f)) (cl_start hD) (fun i c H' hx cl => by
      have hi : i < x.cps.size := (Array.getElem?_eq_some_iff.mp hx).1
      have hx' : x.cps.toList[i]? = some c := by rw [Array.getElem?_toList]; exact hx
      refine ⟨hw _, cl_turn cl ?_ et_yes (fun _ => he i c H1 (e.trans e1) hx) fun H'' c' => ?_⟩
      · rw [List.length_map, List.length_take]
        have : x.cps.size ≤ 40000 := hz
        omega
      · rw [take_succ_some hx', List.map_append]
        simpa using c') fun H' c => by
      rw [List.take_of_length_le (by rw [Array.length_toList]; exact Nat.le_refl _)] at c
      exact q D H' (fresh_back e1 hD) (e1.trans c.2.1) c.2.2⟩
/-- two names of a tuple -/
abbrev gTwo (K : PySem.W.Frag) (i j : Nat) : TG := gTup K 2 (gCons (gName i) (gCons (gName j) gNil))
theorem gTwo_run {i j : Nat} {p : Addr} {x y : V} {σ : L2.St} {H : Hp} {R : L2.St → Hp → Prop} (h : SqT K H p [x, y]) (hR : R ((σ.set i (some x)).set j (some y)) H) : gTwo K i j (.ref p) σ H R :=
  ⟨p, [x, y], rfl, h, rfl, x, [y], rfl, y, [], rfl, rfl, hR⟩
/-- over enumerate(list) -/
theorem lc_enum {a : Addr} {xs : List V} {g : TG} {vs : List Nat} {H1 : Hp} {D : Addr} {Qd : Hp → Prop} (Pv : Nat → Hp → Prop) (h0 : Pv 0 (upd H1 D (.lst []))) (hl : ∀ i H, i ≤ xs.length → Pv i H → SqL K H a xs)
    (hs : ∀ i x T H, xs[i]? = some x → Pv i H → H T = none → g (.ref T) (wipe σ vs) (upd H T (.tup [.int (i : Nat), x])) fun σ2 H2 => wipe σ2 vs = wipe σ vs ∧ tt σ2 H2 fun b H3 =>
      if b = true then te σ2 H3 fun y H4 => ∃ acc, H4 D = some (.lst acc) ∧ acc.length < sizeLine ∧ Pv (i + 1) (upd H4 D (.lst (acc ++ [y]))) else Pv (i + 1) H3) (hd : ∀ H, Pv xs.length H → Qd H) :
    ∃ W : Nat → Nat → Hp → Prop, (∃ m, W 0 m (upd H1 D (.lst []))) ∧ ∀ i m H, W i m H →
      ((Ite K a).stop i H ∧ Qd H) ∨ ((Ite K a).go i H ∧ ∃ Nx : Hp → Prop, (∀ H', Nx H' → ∃ m', m' < m ∧ W (i + 1) m' H') ∧ ∀ v H', (Ite K a).yld i H v H' → g v (wipe σ vs) H' fun σ2 H2 => wipe σ2 vs = wipe σ vs ∧ tt σ2 H2 fun b H3 =>
        if b = true then te σ2 H3 fun y H4 => ∃ acc, H4 D = some (.lst acc) ∧ acc.length < sizeLine ∧ Nx (upd H4 D (.lst (acc ++ [y]))) else Nx H3) := by
  refine ⟨fun i m H => m = xs.length - i ∧ i ≤ xs.length ∧ Pv i H, ⟨xs.length, by simp, Nat.zero_le _, h0⟩, ?_⟩
  rintro i m H ⟨rfl, hi, p⟩
  have q := hl i H hi p
  by_cases hlt : i < xs.length
  · refine .inr ⟨⟨xs, xs[i], q, by simp [hlt]⟩, Pv (i + 1), fun H' p' => ⟨xs.length - (i + 1), by omega, rfl, hlt, p'⟩, fun v H' y => ?_⟩
    obtain ⟨T, x, rfl, hT, rfl, hx⟩ := y
    exact hs i x T H (hx xs q) p hT
  · have e : i = xs.length := by omega
    subst e
    exact .inl ⟨⟨xs, q, Nat.le_refl _⟩, hd H p⟩
theorem erf_lcE {as : List α} {i0 j : Nat} {vs : List Nat} {p : Nat → α → Bool} {f : Nat → α → β} (h : Er K tl σ H as) (hz : as.length ≤ 40000) (hw : ∀ x y, wipe (((wipe σ vs).set i0 (some x)).set j (some y)) vs = wipe σ vs)
    (ht : ∀ (i : Nat) (a : α) (v : V) (H1 : Hp), Ex H H1 → as[i]? = some a → Rep.rep K H1 v a → Et K tt (((wipe σ vs).set i0 (some (.int (i : Nat)))).set j (some v)) H1 (p i a))
    (he : ∀ (i : Nat) (a : α) (v : V) (H1 : Hp), Ex H H1 → as[i]? = some a → Rep.rep K H1 v a → p i a = true → Es K te (((wipe σ vs).set i0 (some (.int (i : Nat)))).set j (some v)) H1 (f i a)) :
    ErF K (tLc (iEnum K (tCons tl tNil)) (gTwo K i0 j) tt te vs) σ H ((as.zipIdx.filter fun c => p c.2 c.1).map fun c => f c.2 c.1) := fun H0 e Q q =>
  h H0 e _ fun v0 H1 e1 ⟨a0, e2, xs, hs, hall⟩ => ⟨a0, xs, by rw [e2], hs, fun D hD =>
    lc_enum (xs := xs) (fun i H' => Cl K H1 D H' ((((as.zipIdx).take i).filter fun c => p c.2 c.1).map fun c => f c.2 c.1)) (cl_start hD) (fun i H' _ c => ex_l c.2.1 hs) (fun i x T H' hx c hT => by
      obtain ⟨a, ha, r⟩ := hall.getV hx
      have hi : i < as.length := (List.getElem?_eq_some_iff.mp ha).1
      have hz' : as.zipIdx[i]? = some (a, i) := by rw [List.getElem?_zipIdx, ha]; simp
      have cT : Cl K H1 D (upd H' T (.tup [.int (i : Nat), x])) ((((as.zipIdx).take i).filter fun c => p c.2 c.1).map fun c => f c.2 c.1) := ⟨c.1, c.2.1.trans (Ex.new hT), c.2.2.up (Ex.new hT)⟩
      refine gTwo_run (st_of upd_same) ⟨hw _ _, cl_turn cT ?_ (ht i a x H1 (e.trans e1) ha r) (he i a x H1 (e.trans e1) ha r) fun H'' c' => ?_⟩
      · rw [List.length_map]
        have := List.length_filter_le (fun c => p c.2 c.1) (as.zipIdx.take i)
        rw [List.length_take, List.length_zipIdx] at this
        omega
      · rw [take_succ_some hz', List.filter_append, List.map_append]
        cases hp : p i a with
        | true => rw [hp] at c'; simpa [hp] using c'
        | false => rw [hp] at c'; simpa [hp] using c') (fun H' c => by
      rw [hall.len, List.take_of_length_le (by simp)] at c
      exact q D H' (fresh_back e1 hD) (e1.trans c.2.1) c.2.2)⟩

/-! ### texts, further -/
theorem er_ixS {z : Str} {i : Int} {c : Nat} (ha : Er K ta σ H z) (hb : Er K tb σ H i) (hz : z.length ≤ 100000) (e : atI z.cps.toList i = some c) : Er K (tOp rIxS ta tb) σ H (sgn c) :=
  er_ev (ev_op (er_s ha) (er_i hb) (rv_ixS hz e)) fun _ _ => rfl
theorem er_slS {z : Str} {tl th : TO} {lo hi : Option Int} (h : Er K te σ H z) (h1 : Eo K tl σ H lo) (h2 : Eo K th σ H hi) (hz : z.length ≤ 100000) : Er K (tSl rSlS te tl th) σ H (cutS z lo hi) := fun H1 e Q q =>
  er_s h H1 e _ fun H2 e2 => h1 H2 (e.trans e2) _ fun H3 e4 => h2 H3 ((e.trans e2).trans e4) _ fun H4 e5 => ⟨z, rfl, sz_of hz, q _ H4 ((e2.trans e4).trans e5) rfl⟩
def rInS (neg : Bool) : R2 := fun x y H Q => ∃ (c : Nat) (z : Str), x = .str (sgn c) ∧ y = .str z ∧ Q (.bl (if neg then !decide (c ∈ z.cps.toList) else decide (c ∈ z.cps.toList))) H
theorem oInS : OpR X (compareOp .In) (rInS false) := fun pins s σ H x y v u Q I rx ry ⟨c, z, h1, h2, q⟩ => op_in_sign pins s σ H x y v u Q I rx ry ⟨c, z, h1, h2, q⟩
theorem er_inS {c : Nat} {z : Str} (ha : Er K ta σ H (sgn c)) (hb : Er K tb σ H z) : Er K (tOp (rInS false) ta tb) σ H (decide (c ∈ z.cps.toList)) :=
  er_ev (ev_op (er_s ha) (er_s hb) (rv_val fun H1 _ Q q => ⟨c, z, rfl, rfl, q⟩)) fun _ _ => rfl
/-- z[::-1] -/
def tRevS (te : TE) : TE := fun σ H Q => te σ H fun x H1 => ∃ z, x = .str z ∧ z.length ≤ sizeLine ∧ Q (.str ⟨z.cps.toList.reverse.toArray⟩) H1
theorem er_revS {z : Str} (h : Er K te σ H z) (hz : z.length ≤ 100000) : Er K (tRevS te) σ H (⟨z.cps.toList.reverse.toArray⟩ : Str) := fun H1 e Q q =>
  er_s h H1 e _ fun H2 e2 => ⟨z, rfl, sz_of hz, q _ H2 e2 rfl⟩
theorem picked_rev (z : Str) : (Builtin.Str.strSliceIndices none none (-1) z.length).filterMap (z.cps[·]?) = z.cps.toList.reverse := by
  have h : Builtin.Str.strSliceIndices none none (-1) z.length = (List.range z.length).map fun k => z.length - 1 - k := by
    rw [← PySem.W.krv_sliceRange]
    rfl
  rw [h, PySem.W.krv_range, List.filterMap_reverse]
  have e : z.length = z.cps.size := rfl
  rw [e, PySem.W.krv_all]
theorem pe_revS {e : Expr} {te : TE} {k : Nat} {p1 p2 p3 pos : Pos} (he : PE X e te) : PE X (.Subscript e (.Slice none none (some (.UnaryOp .USub (.Constant (.int 1) k p1) p2)) p3) pos) (tRevS te) := by
  refine ⟨fun pins s σ H Q I h => ?_⟩
  refine PyProof.Rows.Subscript_ (thn (he.run pins s σ H _ I h) fun v s1 ⟨x, H1, I1, r1, z, ex, hz, q⟩ => ?_)
  subst ex
  obtain ⟨t, rfl⟩ := r1
  have hst : PO X (some (.UnaryOp .USub (.Constant (.int 1) k p1) p2)) (tPart (tUn (rU fun i => .int (-i)) (tC (.int 1)))) := po_some (pe_un un_neg pe_int)
  refine wpAny_Slice (thn (po_none.run pins s1 σ H1 (fun o H2 => o = none ∧ H2 = H1) I1 ⟨rfl, rfl⟩) fun vl s2 ⟨l, H2, I2, pl, el, e2⟩ => ?_)
  subst el e2
  refine thn (po_none.run pins s2 σ H2 (fun o H3 => o = none ∧ H3 = H2) I2 ⟨rfl, rfl⟩) fun vu s3 ⟨u, H3, I3, pu, eu, e3⟩ => ?_
  subst eu e3
  refine thn (hst.run pins s3 σ H3 (fun o H4 => o = some (-1) ∧ H4 = H3) I3 ⟨1, rfl, -1, rfl, rfl, rfl⟩) fun vs s4 ⟨o, H4, I4, ps, eo, e4⟩ => ?_
  subst eo e4
  obtain ⟨l', rfl, hl'⟩ := IsPart.raw pl
  obtain ⟨u', rfl, hu'⟩ := IsPart.raw pu
  obtain ⟨st', rfl, hst'⟩ := IsPart.raw ps
  have I5 : Inv X pins σ H4 { s4 with heap := s4.heap.push { cls := .type "slice", data := .fields #[partValue l', partValue u', partValue st'] } } := I4.kept (t' := s4.toks) fun b ob q => Heap.get?_push_of_some _ q
  show wpAny (model X.prog X.w) X.A (PyProof.Rows.subscriptTail e (.Slice none none (some (.UnaryOp .USub (.Constant (.int 1) k p1) p2)) p3) (.str z t) (.ref s4.heap.objs.size)) (EP X pins σ Q) X.xe _
  have hl0 : l'.map (·.1) = none := hl'
  have hu0 : u'.map (·.1) = none := hu'
  have hs0 : st'.map (·.1) = some (-1) := hst'
  refine PyProof.Rows.tail_any (T := "str") (ops := [.ref s4.heap.objs.size, .str z t]) (typeIs_str _ _ _) F.slot_str_getitem.lookup ?_ (by with_unfolding_all rfl)
  refine wpAny_getItem_str_slice (l := l') (u := u') (st := st') ⟨_, Heap.get?_push_size _ rfl, rfl, rfl⟩ (by rw [hs0]; rfl) ?_
  unfold sliceMade slicePicked
  rw [hl0, hu0, hs0]
  show Made.post (if ((-1 : Int) == 1 && _) = true then _ else Made.str ⟨((Builtin.Str.strSliceIndices none none (-1) z.length).filterMap (z.cps[·]?)).toArray⟩) _ _
  rw [if_neg (by rw [show ((-1 : Int) == 1) = false by decide, Bool.false_and]; decide), picked_rev]
  refine ⟨?_, .str _, H4, I5.tok _, ⟨_, rfl⟩, q⟩
  show z.cps.toList.reverse.toArray.size ≤ sizeLine
  rw [List.size_toArray, List.length_reverse, Array.length_toList]
  exact hz
end
end Rf
set_option Elab.async false
set_option linter.all false
set_option maxRecDepth 100000
set_option maxHeartbeats 4000000
namespace Rf
open PySem L2 Evl
/-! ### data that is compared -/
class Dat (α : Type) [Rep α] where
  data : α → PyData
  dep : Nat
  dp : ∀ {K : PySem.W.Frag} {H : Hp} {v : V} {a : α}, Rep.rep K H v a → Dp K H v (data a)
  deq : ∀ a b : α, PyData.eqv (data a) (data b) = true ↔ a = b
  lay : α → Prop
  can : ∀ {a : α}, lay a → PyData.canLay0 (data a) = true
  deep : ∀ a : α, PyData.depth (data a) ≤ dep
instance : Dat Int where
  data := .int
  dep := 0
  dp := fun {K H v a} h => by
    have h' : v = .int a := h
    rw [h']; exact .int a
  deq := fun a b => by simp [PyData.eqv]
  lay := fun _ => True
  can := fun _ => rfl
  deep := fun _ => Nat.le_refl _
instance : Dat Bool where
  data := .bool
  dep := 0
  dp := fun {K H v a} h => by
    have h' : v = .bl a := h
    rw [h']; exact .bl a
  deq := fun a b => by simp [PyData.eqv]
  lay := fun _ => True
  can := fun _ => rfl
  deep := fun _ => Nat.le_refl _
theorem dpAll_of {α : Type} [Rep α] [Dat α] {K : PySem.W.Frag} {H : Hp} : ∀ {vs : List V} {as : List α}, All2 (Rep.rep K H) vs as → DpAll K H vs (as.map Dat.data)
  | _, _, .nil => .nil
  | _, _, .cons h t => .cons (Dat.dp h) (dpAll_of t)
theorem eqvAll_of {α : Type} [Rep α] [Dat α] : ∀ as bs : List α, PyData.eqvAll (as.map Dat.data) (bs.map Dat.data) = true ↔ as = bs
  | [], [] => by simp [PyData.eqvAll]
  | [], _ :: _ => by simp [PyData.eqvAll]
  | _ :: _, [] => by simp [PyData.eqvAll]
  | a :: as, b :: bs => by simp [PyData.eqvAll, Dat.deq, eqvAll_of as bs]
theorem canAll_of {α : Type} [Rep α] [Dat α] : ∀ as : List α, (∀ a ∈ as, Dat.lay a) → PyData.canLayAll0 (as.map Dat.data) = true
  | [], _ => rfl
  | a :: as, h => by
    simp only [List.map_cons, PyData.canLayAll0, Bool.and_eq_true]
    exact ⟨Dat.can (h a (by simp)), canAll_of as fun b hb => h b (by simp [hb])⟩
theorem deepAll_of {α : Type} [Rep α] [Dat α] : ∀ as : List α, PyData.depthAll (as.map Dat.data) ≤ Dat.dep α
  | [] => Nat.zero_le _
  | a :: as => by
    simp only [List.map_cons, PyData.depthAll]
    exact Nat.max_le.mpr ⟨Dat.deep a, deepAll_of as⟩
instance {α : Type} [Rep α] [Dat α] : Dat (List α) where
  data := fun as => .list (as.map Dat.data)
  dep := Dat.dep α + 1
  dp := fun {K H v a} h => by
    obtain ⟨p, e, xs, h1, h2⟩ := h
    rw [e]
    exact .lst h1 (dpAll_of h2)
  deq := fun a b => by simp only [PyData.eqv]; exact eqvAll_of a b
  lay := fun as => ∀ a ∈ as, Dat.lay a
  can := fun {a} h => by simp only [PyData.canLay0]; exact canAll_of a h
  deep := fun a => by simp only [PyData.depth]; have := deepAll_of a; omega
section
variable {α β γ δ : Type} [Rep α] [Rep β] [Rep γ] [Rep δ] {K : PySem.W.Frag} {σ : L2.St} {H H' : Hp} {ta tb tc te tl : TE} {t u tt : TT} {X : Cx}
theorem shaped_of [Dat α] {a : α} (h : Dat.lay a) (hd : Dat.dep α ≤ 64) : SeqAt.shaped (Dat.data a) = true := by
  unfold SeqAt.shaped
  rw [Dat.can h, decide_eq_true (Nat.le_trans (Dat.deep a) hd)]; rfl
theorem eqv_dec [Dat α] [DecidableEq α] (a b : α) : PyData.eqv (Dat.data a) (Dat.data b) = decide (a = b) := by
  rw [Bool.eq_iff_iff, Dat.deq, decide_eq_true_iff]
theorem er_eqD [Dat α] [DecidableEq α] {a b : α} (ha : Er K ta σ H a) (hb : Er K tb σ H b) (la : Dat.lay a) (lb : Dat.lay b) (hd : Dat.dep α ≤ 64) : Er K (tOp (rEqD K) ta tb) σ H (decide (a = b)) :=
  er_two ha hb fun x y H1 _ rx ry Q q => ⟨Dat.data a, Dat.data b, Dat.dp rx, Dat.dp ry, shaped_of la hd, shaped_of lb hd, q _ H1 (Ex.refl H1) (by rw [eqv_dec]; rfl)⟩
theorem er_neD [Dat α] [DecidableEq α] {a b : α} (ha : Er K ta σ H a) (hb : Er K tb σ H b) (la : Dat.lay a) (lb : Dat.lay b) (hd : Dat.dep α ≤ 64) : Er K (tOp (rNeD K) ta tb) σ H (!decide (a = b)) :=
  er_two ha hb fun x y H1 _ rx ry Q q => ⟨Dat.data a, Dat.data b, Dat.dp rx, Dat.dp ry, shaped_of la hd, shaped_of lb hd, q _ H1 (Ex.refl H1) (by rw [eqv_dec]; rfl)⟩

/-! ### join, max, min, abs, isinstance -/
def catS (ys : List Str) : Str := ⟨(ys.map (·.cps.toList)).flatten.toArray⟩
def rJoin (K : PySem.W.Frag) : V → List V → Hp → VK → Prop := fun x xs H Q => ∃ a p, ∃ ys : List Str, x = .str a ∧ xs = [.ref p] ∧ (SqL K H p (ys.map V.str) ∨ SqT K H p (ys.map V.str)) ∧ (ys.map (·.length)).sum + ys.length * a.length ≤ 16777216 ∧ Q (.str (Txt.join a ys)) H
theorem pe_join' {o e : Expr} {to te : TE} {apos pos : Pos} (ho : PE X o to) (he : PE X e te) (hs : starEach [e] X.env = [(false, eval e X.env)] := by rfl) (hbase : attributeBase o "join" X.env (eval o X.env) = eval o X.env := by rfl) (hline : (apos.endLine == pos.line) = true := by rfl) :
    PE X (.Call (.Attribute o "join" apos) [e] [] pos) (tM1 (rJoin X.K) to te) := pe_join ho he hs hbase hline
theorem join_empty : ∀ ys : List Str, Str.join (⟨#[]⟩ : Str) ys = catS ys
  | [] => rfl
  | [x] => by
    show x = catS [x]
    unfold catS
    simp
  | x :: y :: r => by
    show x ++ (⟨#[]⟩ : Str) ++ Str.join ⟨#[]⟩ (y :: r) = _
    rw [join_empty (y :: r)]
    unfold catS
    show (⟨(x.cps ++ #[]) ++ _⟩ : Str) = _
    congr 1
    apply Array.ext'
    simp
theorem txt_join (ys : List Str) : Txt.join (⟨#[]⟩ : Str) ys = catS ys := by
  rw [← join_empty]
  exact PySem.StrLaws.glued_eq_join _ ys
theorem er_join {z : Str} {ys : List Str} (hz : z = ⟨#[]⟩) (h : Er K te σ H ys) (hl : (ys.map (·.length)).sum ≤ 100000) : Er K (tM1 (rJoin K) (tC (.str z)) te) σ H (catS ys) := fun H1 e Q q =>
  ⟨⟨z, rfl⟩, h H1 e _ fun v H2 e2 ⟨p, e3, xs, hs, hall⟩ => ⟨z, p, ys, rfl, by rw [e3], .inl (by rw [← all2_str hall]; exact hs), by
    have : z.length = 0 := by rw [hz]; rfl
    rw [this]; omega, by rw [hz, txt_join]; exact q _ H2 e2 rfl⟩⟩
def rMaxL (K : PySem.W.Frag) : List V → Hp → VK → Prop := rMax K
def rMinL (K : PySem.W.Frag) : List V → Hp → VK → Prop := rMin K
theorem cMaxL (hc : X.calm = true) : CallR X (.builtin "max") (rMaxL X.K) := cr_max hc
theorem cMinL (hc : X.calm = true) : CallR X (.builtin "min") (rMinL X.K) := cr_min hc
def maxI : List Int → Int
  | [] => 0
  | [a] => a
  | a :: b :: r => if maxI (b :: r) > a then maxI (b :: r) else a
theorem maxI_mem : ∀ {l : List Int}, l ≠ [] → maxI l ∈ l ∧ ∀ y ∈ l, y ≤ maxI l
  | [a], _ => by simp [maxI]
  | a :: b :: r, _ => by
    obtain ⟨h1, h2⟩ := maxI_mem (l := b :: r) (by simp)
    show (if maxI (b :: r) > a then maxI (b :: r) else a) ∈ a :: b :: r ∧ ∀ y ∈ a :: b :: r, y ≤ (if maxI (b :: r) > a then maxI (b :: r) else a)
    split
    · rename_i h
      refine ⟨List.mem_cons_of_mem _ h1, fun y hy => ?_⟩
      rcases List.mem_cons.mp hy with e | e
      · omega
      · exact h2 y e
    · rename_i h
      refine ⟨by simp, fun y hy => ?_⟩
      rcases List.mem_cons.mp hy with e | e
      · omega
      · have := h2 y e; omega
def minI : List Int → Int
  | [] => 0
  | [a] => a
  | a :: b :: r => if minI (b :: r) < a then minI (b :: r) else a
theorem minI_mem : ∀ {l : List Int}, l ≠ [] → minI l ∈ l ∧ ∀ y ∈ l, minI l ≤ y
  | [a], _ => by simp [minI]
  | a :: b :: r, _ => by
    obtain ⟨h1, h2⟩ := minI_mem (l := b :: r) (by simp)
    show (if minI (b :: r) < a then minI (b :: r) else a) ∈ a :: b :: r ∧ ∀ y ∈ a :: b :: r, (if minI (b :: r) < a then minI (b :: r) else a) ≤ y
    split
    · rename_i h
      refine ⟨List.mem_cons_of_mem _ h1, fun y hy => ?_⟩
      rcases List.mem_cons.mp hy with e | e
      · omega
      · exact h2 y e
    · rename_i h
      refine ⟨by simp, fun y hy => ?_⟩
      rcases List.mem_cons.mp hy with e | e
      · omega
      · have := h2 y e; omega
theorem er_maxL {ns : List Int} (h : Er K ta σ H ns) (h0 : ns ≠ []) : Er K (tCB (rMaxL K) (tCons ta tNil)) σ H (maxI ns) := fun H1 e Q q =>
  h H1 e _ fun v H2 e2 ⟨p, e3, hl⟩ => ⟨p, ns, by rw [e3], lst_int hl, by cases ns <;> simp_all, fun m hm hle => by
    have e : m = maxI ns := Int.le_antisymm ((maxI_mem h0).2 m hm) (hle _ (maxI_mem h0).1)
    subst e
    exact q _ H2 e2 rfl⟩
theorem er_minL {ns : List Int} (h : Er K ta σ H ns) (h0 : ns ≠ []) : Er K (tCB (rMinL K) (tCons ta tNil)) σ H (minI ns) := fun H1 e Q q =>
  h H1 e _ fun v H2 e2 ⟨p, e3, hl⟩ => ⟨p, ns, by rw [e3], lst_int hl, by cases ns <;> simp_all, fun m hm hle => by
    have e : m = minI ns := Int.le_antisymm (hle _ (minI_mem h0).1) ((minI_mem h0).2 m hm)
    subst e
    exact q _ H2 e2 rfl⟩
def rAbs : List V → Hp → VK → Prop := fun xs H Q => ∃ i, xs = [.int i] ∧ Q (.int (if i < 0 then -i else i)) H
theorem cAbs : CallR X (.builtin "abs") rAbs := call_abs
theorem er_abs {i : Int} (h : Er K ta σ H i) : Er K (tCB rAbs (tCons ta tNil)) σ H (if i < 0 then -i else i) := fun H1 e Q q =>
  er_i h H1 e _ fun H2 e2 => ⟨i, rfl, q _ H2 e2 rfl⟩
theorem cIsi : CallR X (.builtin "isinstance") (rIsi X.K) := call_isi
theorem er_isi {a : α} {T U : String} {b : Bool} (h : Er K ta σ H a) (ty : ∀ H1 v, Rep.rep K H1 v a → TyX K H1 v (.type T)) (kb : kitB T U = some b) : Er K (tCB (rIsi K) (tCons ta (tCons (tC (.ty U)) tNil))) σ H b := fun H1 e Q q =>
  h H1 e _ fun v H2 e2 r => ⟨v, .ty U, _, _, b, rfl, .ty U, ty H2 v r, kit_ty kb, q _ H2 e2 rfl⟩
theorem ty_int {H1 : Hp} {v : V} {a : Int} (r : Rep.rep K H1 v a) : TyX K H1 v (.type "int") := by
  have r' : v = .int a := r
  rw [r']; exact .base (.int a)
theorem ty_bl {H1 : Hp} {v : V} {a : Bool} (r : Rep.rep K H1 v a) : TyX K H1 v (.type "bool") := by
  have r' : v = .bl a := r
  rw [r']; exact .base (.bl a)
theorem ty_str {H1 : Hp} {v : V} {a : Str} (r : Rep.rep K H1 v a) : TyX K H1 v (.type "str") := by
  have r' : v = .str a := r
  rw [r']; exact .base (.str a)
theorem ty_lst {H1 : Hp} {v : V} {as : List α} (r : Rep.rep K H1 v as) : TyX K H1 v (.type "list") := by
  obtain ⟨p, rfl, xs, hs, _⟩ := r
  rcases hs with (h | ⟨o, h⟩) | ⟨o, its, n, h, hc, _⟩
  · exact .base (.lst h)
  · exact .base (.frz h)
  · exact .kList h hc

/-! ### what a def promises -/
def Pr1 (K : PySem.W.Frag) (pre : α → Prop) (f : α → β) : Sp := fun vs H Q _ => ∃ v a, vs = [v] ∧ Rep.rep K H v a ∧ pre a ∧ ∀ u H', Ex H H' → Rep.rep K H' u (f a) → Q u H'
def Pr2 (K : PySem.W.Frag) (pre : α → β → Prop) (f : α → β → γ) : Sp := fun vs H Q _ => ∃ v w a b, vs = [v, w] ∧ Rep.rep K H v a ∧ Rep.rep K H w b ∧ pre a b ∧ ∀ u H', Ex H H' → Rep.rep K H' u (f a b) → Q u H'
def Pr3 (K : PySem.W.Frag) (pre : α → β → γ → Prop) (f : α → β → γ → δ) : Sp := fun vs H Q _ => ∃ v w z a b c, vs = [v, w, z] ∧ Rep.rep K H v a ∧ Rep.rep K H w b ∧ Rep.rep K H z c ∧ pre a b c ∧ ∀ u H', Ex H H' → Rep.rep K H' u (f a b c) → Q u H'
/-- .. a new list -/
def PrF1 (K : PySem.W.Frag) (pre : α → Prop) (f : α → List β) : Sp := fun vs H Q _ => ∃ v a, vs = [v] ∧ Rep.rep K H v a ∧ pre a ∧ ∀ p H', H p = none → Ex H H' → Own K H' p (f a) → Q (.ref p) H'
def PrF2 (K : PySem.W.Frag) (pre : α → β → Prop) (f : α → β → List γ) : Sp := fun vs H Q _ => ∃ v w a b, vs = [v, w] ∧ Rep.rep K H v a ∧ Rep.rep K H w b ∧ pre a b ∧ ∀ p H', H p = none → Ex H H' → Own K H' p (f a b) → Q (.ref p) H'
theorem er_call1 {pre : α → Prop} {f : α → β} {E : XK} {a : α} (h : Er K ta σ H a) (hp : pre a) : Er K (tCall (Pr1 K pre f) [] E (tCons ta tNil)) σ H (f a) := fun H1 e Q q =>
  h H1 e _ fun v H2 e2 r => ⟨v, a, rfl, r, hp, fun u H3 e3 r3 => q u H3 (e2.trans e3) r3⟩
theorem er_call2 {pre : α → β → Prop} {f : α → β → γ} {E : XK} {a : α} {b : β} (h : Er K ta σ H a) (hb : Er K tb σ H b) (hp : pre a b) : Er K (tCall (Pr2 K pre f) [] E (tCons ta (tCons tb tNil))) σ H (f a b) := fun H1 e Q q =>
  h H1 e _ fun v H2 e2 r => hb H2 (e.trans e2) _ fun w H3 e3 r3 => ⟨v, w, a, b, rfl, Rep.mono e3 r, r3, hp, fun u H4 e4 r4 => q u H4 ((e2.trans e3).trans e4) r4⟩
theorem er_call3 {pre : α → β → γ → Prop} {f : α → β → γ → δ} {E : XK} {a : α} {b : β} {c : γ} (h : Er K ta σ H a) (hb : Er K tb σ H b) (hc : Er K tc σ H c) (hp : pre a b c) : Er K (tCall (Pr3 K pre f) [] E (tCons ta (tCons tb (tCons tc tNil)))) σ H (f a b c) := fun H1 e Q q =>
  h H1 e _ fun v H2 e2 r => hb H2 (e.trans e2) _ fun w H3 e3 r3 => hc H3 ((e.trans e2).trans e3) _ fun z H4 e4 r4 => ⟨v, w, z, a, b, c, rfl, Rep.mono (e3.trans e4) r, Rep.mono e4 r3, r4, hp, fun u H5 e5 r5 => q u H5 (((e2.trans e3).trans e4).trans e5) r5⟩
theorem erf_call1 {pre : α → Prop} {f : α → List β} {E : XK} {a : α} (h : Er K ta σ H a) (hp : pre a) : ErF K (tCall (PrF1 K pre f) [] E (tCons ta tNil)) σ H (f a) := fun H1 e Q q =>
  h H1 e _ fun v H2 e2 r => ⟨v, a, rfl, r, hp, fun p H3 h0 e3 r3 => q p H3 (fresh_back e2 h0) (e2.trans e3) r3⟩
theorem erf_call2 {pre : α → β → Prop} {f : α → β → List γ} {E : XK} {a : α} {b : β} (h : Er K ta σ H a) (hb : Er K tb σ H b) (hp : pre a b) : ErF K (tCall (PrF2 K pre f) [] E (tCons ta (tCons tb tNil))) σ H (f a b) := fun H1 e Q q =>
  h H1 e _ fun v H2 e2 r => hb H2 (e.trans e2) _ fun w H3 e3 r3 => ⟨v, w, a, b, rfl, Rep.mono e3 r, r3, hp, fun p H4 h0 e4 r4 => q p H4 (fresh_back (e2.trans e3) h0) ((e2.trans e3).trans e4) r4⟩
end
end Rf
set_option Elab.async false
set_option linter.all false
set_option maxRecDepth 100000
set_option maxHeartbeats 4000000
namespace Rf
open PySem L2 Evl
/-- from every heap that extends H -/
def Gx (_ : PySem.W.Frag) (P : L2.St → Hp → Prop) (σ : L2.St) (H : Hp) : Prop := ∀ H1, Ex H H1 → P σ H1
theorem Gx.here {K : PySem.W.Frag} {P : L2.St → Hp → Prop} {σ : L2.St} {H : Hp} (h : Gx K P σ H) : P σ H := h H (Ex.refl H)
theorem Gx.up {K : PySem.W.Frag} {P : L2.St → Hp → Prop} {σ : L2.St} {H H' : Hp} (h : Gx K P σ H) (e : Ex H H') : Gx K P σ H' := fun H1 e1 => h H1 (e.trans e1)
/-- all but what stands at p -/
def ExBut (p : Addr) (H H1 : Hp) : Prop := ∀ q o, q ≠ p → H q = some o → H1 q = some o
theorem ExBut.ex {p : Addr} {B H H1 : Hp} (h : ExBut p H H1) (e : Ex B H) (hp : B p = none) : Ex B H1 := fun q o hq => h q o (fun z => by rw [z, hp] at hq; cases hq) (e q o hq)
theorem ExBut.own {α : Type} [Rep α] [Flat α] {K : PySem.W.Frag} {p q : Addr} {H H1 : Hp} {as : List α} (h : ExBut p H H1) (o : Own K H q as) (hq : q ≠ p) : Own K H1 q as := by
  obtain ⟨xs, h1, h2⟩ := o
  exact ⟨xs, h q _ hq h1, h2.flat⟩
section
variable {α β γ δ : Type} [Rep α] [Rep β] [Rep γ] [Rep δ] {K : PySem.W.Frag} {σ : L2.St} {H H' : Hp} {ta tb tc te tl : TE} {t u tt : TT} {X : Cx} {D : Ends} {tu tw tz : TS}
theorem g_seq (h : Gx K (tu { D with nx := tw D }) σ H) : Gx K (tSeq tu tw D) σ H := h
theorem g_next (h : Gx K D.nx σ H) : Gx K (tNext D) σ H := h
theorem g_asg {i : Nat} {a : α} (h : Er K te σ H a) (k : ∀ v H1, Ex H H1 → Rep.rep K H1 v a → Gx K D.nx (σ.set i (some v)) H1) : Gx K (tAsg te (gName i) D) σ H := fun H1 e =>
  h H1 e _ fun v H2 e2 r => (k v H2 (e.trans e2) r).here
theorem g_asgI {i : Nat} {a : Int} (h : Er K te σ H a) (k : Gx K D.nx (σ.set i (some (.int a))) H) : Gx K (tAsg te (gName i) D) σ H := fun H1 e => er_i h H1 e _ fun H2 e2 => k H2 (e.trans e2)
theorem g_asgB {i : Nat} {a : Bool} (h : Er K te σ H a) (k : Gx K D.nx (σ.set i (some (.bl a))) H) : Gx K (tAsg te (gName i) D) σ H := fun H1 e => er_b h H1 e _ fun H2 e2 => k H2 (e.trans e2)
theorem g_asgT {i : Nat} {a : Str} (h : Er K te σ H a) (k : Gx K D.nx (σ.set i (some (.str a))) H) : Gx K (tAsg te (gName i) D) σ H := fun H1 e => er_s h H1 e _ fun H2 e2 => k H2 (e.trans e2)
theorem g_asgF {i : Nat} {as : List α} (h : ErF K te σ H as) (k : ∀ p H1, H p = none → Ex H H1 → Own K H1 p as → Gx K D.nx (σ.set i (some (.ref p))) H1) : Gx K (tAsg te (gName i) D) σ H := fun H1 e =>
  h H1 e _ fun p H2 hp e2 o => (k p H2 (fresh_back e hp) (e.trans e2) o).here
theorem q_asg {i : Nat} {a : α} (h : Er K te σ H a) (k : ∀ v H1, Ex H H1 → Rep.rep K H1 v a → Gx K (tz D) (σ.set i (some v)) H1) : Gx K (tSeq (tAsg te (gName i)) tz D) σ H := g_asg (D := { D with nx := tz D }) h k
theorem q_asgI {i : Nat} {a : Int} (h : Er K te σ H a) (k : Gx K (tz D) (σ.set i (some (.int a))) H) : Gx K (tSeq (tAsg te (gName i)) tz D) σ H := g_asgI (D := { D with nx := tz D }) h k
theorem q_asgB {i : Nat} {a : Bool} (h : Er K te σ H a) (k : Gx K (tz D) (σ.set i (some (.bl a))) H) : Gx K (tSeq (tAsg te (gName i)) tz D) σ H := g_asgB (D := { D with nx := tz D }) h k
theorem q_asgT {i : Nat} {a : Str} (h : Er K te σ H a) (k : Gx K (tz D) (σ.set i (some (.str a))) H) : Gx K (tSeq (tAsg te (gName i)) tz D) σ H := g_asgT (D := { D with nx := tz D }) h k
theorem q_asgF {i : Nat} {as : List α} (h : ErF K te σ H as) (k : ∀ p H1, H p = none → Ex H H1 → Own K H1 p as → Gx K (tz D) (σ.set i (some (.ref p))) H1) : Gx K (tSeq (tAsg te (gName i)) tz D) σ H := g_asgF (D := { D with nx := tz D }) h k
theorem g_if {b : Bool} (h : Et K t σ H b) (h1 : b = true → Gx K (tu D) σ H) (h2 : b = false → Gx K (tw D) σ H) : Gx K (tIfS t tu tw D) σ H := fun H1 e => h H1 e _ fun H2 e2 => by
  cases b with
  | true => exact h1 rfl H2 (e.trans e2)
  | false => exact h2 rfl H2 (e.trans e2)
theorem q_if {b : Bool} (h : Et K t σ H b) (h1 : b = true → Gx K (tu { D with nx := tz D }) σ H) (h2 : b = false → Gx K (tw { D with nx := tz D }) σ H) : Gx K (tSeq (tIfS t tu tw) tz D) σ H := g_if (D := { D with nx := tz D }) h h1 h2
/-- an if without else -/
theorem q_when {b : Bool} (h : Et K t σ H b) (h1 : b = true → Gx K (tu { D with nx := tz D }) σ H) (h2 : b = false → Gx K (tz D) σ H) : Gx K (tSeq (tIfS t tu tNext) tz D) σ H := g_if (D := { D with nx := tz D }) h h1 h2
theorem g_ret {a : α} (h : Er K te σ H a) (k : ∀ v H1, Ex H H1 → Rep.rep K H1 v a → D.rt v H1) : Gx K (tRet te D) σ H := fun H1 e => h H1 e _ fun v H2 e2 r => k v H2 (e.trans e2) r
theorem g_retF {as : List α} (h : ErF K te σ H as) (k : ∀ p H1, H p = none → Ex H H1 → Own K H1 p as → D.rt (.ref p) H1) : Gx K (tRet te D) σ H := fun H1 e => h H1 e _ fun p H2 hp e2 r => k p H2 (fresh_back e hp) (e.trans e2) r
theorem g_drop {a : α} (h : Er K te σ H a) (k : Gx K D.nx σ H) : Gx K (tDrop te D) σ H := fun H1 e => h H1 e _ fun v H2 e2 _ => k H2 (e.trans e2)
theorem q_drop {a : α} (h : Er K te σ H a) (k : Gx K (tz D) σ H) : Gx K (tSeq (tDrop te) tz D) σ H := g_drop (D := { D with nx := tz D }) h k
/-- i += e -/
theorem g_augI {i : Nat} {f : Int → Int → Int} {a b : Int} (hx : σ[i]? = some (some (.int a))) (h : Er K te σ H b) (k : Gx K D.nx (σ.set i (some (.int (f a b)))) H) : Gx K (tAug i te (ipI f) D) σ H := fun H1 e =>
  s_aug hx ((er_i h).mono e) fun H2 e2 => k H2 (e.trans e2)
theorem q_augI {i : Nat} {f : Int → Int → Int} {a b : Int} (hx : σ[i]? = some (some (.int a))) (h : Er K te σ H b) (k : Gx K (tz D) (σ.set i (some (.int (f a b)))) H) : Gx K (tSeq (tAug i te (ipI f)) tz D) σ H := g_augI (D := { D with nx := tz D }) hx h k
/-- text += e -/
def ipT : TIp := fun x y H Q => ∃ i j, x = .str i ∧ y = .str j ∧ i.length + j.length ≤ sizeLine ∧ Q (.str (i ++ j)) H
theorem ip_addT : PIp X .Add ipT := fun pins s σ H x y v u Q I r1 r2 h => iop_add_str pins s σ H x y v u Q I r1 r2 h
theorem g_augT {i : Nat} {a b : Str} (hx : σ[i]? = some (some (.str a))) (h : Er K te σ H b) (hl : a.length + b.length ≤ 100000) (k : Gx K D.nx (σ.set i (some (.str (a ++ b)))) H) : Gx K (tAug i te ipT D) σ H := fun H1 e =>
  ⟨.str a, hx, er_s h H1 e _ fun H2 e2 => ⟨a, b, rfl, rfl, sz_of hl, k H2 (e.trans e2)⟩⟩
/-- xs.append(e), the item something that stands for itself -/
theorem g_app {i : Nat} {p : Addr} {as : List α} [Flat α] {a : α} (ho : Own K H p as) (hv : σ[i]? = some (some (.ref p))) (h : Er K te σ H a) (hz : as.length ≤ 90000) (k : ∀ H1, ExBut p H H1 → Own K H1 p (as ++ [a]) → Gx K D.nx σ H1) :
    Gx K (tDrop (tBM K "list" rAppend (tVar i) (tCons te tNil)) D) σ H := fun H1 e => ⟨.ref p, hv, by
  obtain ⟨xs, h1, h2⟩ := ho.up e
  refine ⟨Or.inl ⟨rfl, xs, sq_of h1⟩, h H1 e _ fun v H2 e2 r => ?_⟩
  refine ⟨p, xs, v, rfl, rfl, e2 _ _ h1, sz_lt (by rw [h2.len]; omega), (k _ (fun q o hq q0 => ?_) ?_).here⟩
  · rw [upd_ne hq]; exact e2 _ _ (e _ _ q0)
  · exact ⟨_, upd_same, h2.flat.append (.one (Flat.flat r))⟩⟩
theorem q_app {i : Nat} {p : Addr} {as : List α} [Flat α] {a : α} (ho : Own K H p as) (hv : σ[i]? = some (some (.ref p))) (h : Er K te σ H a) (hz : as.length ≤ 90000) (k : ∀ H1, ExBut p H H1 → Own K H1 p (as ++ [a]) → Gx K (tz D) σ H1) :
    Gx K (tSeq (tDrop (tBM K "list" rAppend (tVar i) (tCons te tNil))) tz D) σ H := g_app (D := { D with nx := tz D }) ho hv h hz k
/-- .. an item that leans on B, which doesn't know the list -/
theorem g_appB {i : Nat} {p : Addr} {as : List α} {a : α} {B : Hp} (ho : Own K H p as) (hv : σ[i]? = some (some (.ref p))) (eB : Ex B H) (hB : B p = none) (h : Es K te σ B a) (hz : as.length ≤ 90000) (k : ∀ H1, ExBut p H H1 → Own K H1 p (as ++ [a]) → Gx K D.nx σ H1) :
    Gx K (tDrop (tBM K "list" rAppend (tVar i) (tCons te tNil)) D) σ H := fun H1 e => ⟨.ref p, hv, by
  obtain ⟨xs, h1, h2⟩ := ho.up e
  refine ⟨Or.inl ⟨rfl, xs, sq_of h1⟩, h H1 (eB.trans e) _ fun v H2 e2 r => ?_⟩
  refine ⟨p, xs, v, rfl, rfl, e2 _ _ h1, sz_lt (by rw [h2.len]; omega), (k _ (fun q o hq q0 => ?_) ?_).here⟩
  · rw [upd_ne hq]; exact e2 _ _ (e _ _ q0)
  · refine ⟨_, upd_same, ?_⟩
    rw [del_upd]
    exact (h2.mp fun v a r => Rep.mono (del_del e2) r).append (.one (Rep.mono (mix_del hB (by rw [h1]; simp)) r))⟩
theorem q_appB {i : Nat} {p : Addr} {as : List α} {a : α} {B : Hp} (ho : Own K H p as) (hv : σ[i]? = some (some (.ref p))) (eB : Ex B H) (hB : B p = none) (h : Es K te σ B a) (hz : as.length ≤ 90000) (k : ∀ H1, ExBut p H H1 → Own K H1 p (as ++ [a]) → Gx K (tz D) σ H1) :
    Gx K (tSeq (tDrop (tBM K "list" rAppend (tVar i) (tCons te tNil))) tz D) σ H := g_appB (D := { D with nx := tz D }) ho hv eB hB h hz k
/-- xs[i] = e -/
theorem g_setI {i : Nat} {p : Addr} {as : List α} [Flat α] {a : α} {n : Int} {j : Nat} (ho : Own K H p as) (hv : σ[i]? = some (some (.ref p))) (h : Er K te σ H a) (hi : Er K tb σ H n) (hj : ixN as.length n = some j) (k : ∀ H1, ExBut p H H1 → Own K H1 p (as.set j a) → Gx K D.nx σ H1) :
    Gx K (tAsg te (gSub (tVar i) tb rSetL) D) σ H := fun H1 e => h H1 e _ fun v H2 e2 r => ⟨.ref p, hv, er_i hi H2 (e.trans e2) _ fun H3 e3 => by
  obtain ⟨xs, h1, h2⟩ := ho.up ((e.trans e2).trans e3)
  refine ⟨p, xs, n, j, rfl, rfl, h1, by rw [h2.len]; exact hj, (k _ (fun q o hq q0 => ?_) ⟨_, upd_same, h2.flat.set (Flat.flat r) j⟩).here⟩
  rw [upd_ne hq]; exact ((e.trans e2).trans e3) _ _ q0⟩

/-! ### loops -/
/-- over a list that stands in B -/
theorem g_forL {j : Nat} {i0 : Nat} {v0 : V} {as : List α} {B : Hp} (Inv : Nat → L2.St → Hp → Prop) (hv : σ[i0]? = some (some v0)) (r0 : Rep.rep K B v0 as) (eB : Ex B H) (h0 : ∀ H1, Ex H H1 → Inv 0 σ H1) (hI : ∀ i σ' H', Inv i σ' H' → Ex B H')
    (hs : ∀ i a v σ' H', as[i]? = some a → Rep.rep K B v a → Inv i σ' H' → Gx K (tu { D with nx := Inv (i + 1), ct := Inv (i + 1), bk := D.nx }) (σ'.set j (some v)) H') (hd : ∀ σ' H', Inv as.length σ' H' → D.nx σ' H') :
    Gx K (tFor (iList K (tVar i0)) (gName j) tu D) σ H := fun H1 e => by
  obtain ⟨p, rfl, xs, hx, hall⟩ := r0
  exact ⟨.ref p, hv, p, rfl, ⟨xs, ex_l (eB.trans e) hx⟩, for_list (xs := xs) Inv (h0 H1 e) (fun i σ' H' _ iv => ex_l (hI i σ' H' iv) hx) (fun i x σ' H' hxi iv => by
    obtain ⟨a, ha, r⟩ := hall.getV hxi
    exact (hs i a x σ' H' ha r iv).here) fun σ' H' iv => hd σ' H' (by rw [← hall.len]; exact iv)⟩
/-- over a list that is reckoned here -/
theorem g_forN {g : TG} {as : List α} (h : Er K tl σ H as) (Inv : Hp → Nat → L2.St → Hp → Prop) (h0 : ∀ B H1, Ex H B → Ex B H1 → Inv B 0 σ H1) (hI : ∀ B i σ' H', Inv B i σ' H' → Ex B H')
    (hs : ∀ B i a v σ' H', Ex H B → as[i]? = some a → Rep.rep K B v a → Inv B i σ' H' → g v σ' H' fun σ2 H2 => tu { D with nx := Inv B (i + 1), ct := Inv B (i + 1), bk := D.nx } σ2 H2) (hd : ∀ B σ' H', Ex H B → Inv B as.length σ' H' → D.nx σ' H') :
    Gx K (tFor (iList K tl) g tu D) σ H := fun H1 e => h H1 e _ fun v B e2 ⟨p, ep, xs, hx, hall⟩ =>
  ⟨p, ep, ⟨xs, hx⟩, for_list (xs := xs) (Inv B) (h0 B B (e.trans e2) (Ex.refl B)) (fun i σ' H' _ iv => ex_l (hI B i σ' H' iv) hx) (fun i x σ' H' hxi iv => by
    obtain ⟨a, ha, r⟩ := hall.getV hxi
    exact hs B i a x σ' H' (e.trans e2) ha r iv) fun σ' H' iv => hd B σ' H' (e.trans e2) (by rw [← hall.len]; exact iv)⟩
theorem g_forR {j : Nat} {lo : Int} {n : Nat} {wi : TI} (h : Rg K wi σ H lo n) (Inv : Nat → L2.St → Hp → Prop) (h0 : ∀ H1, Ex H H1 → Inv 0 σ H1)
    (hs : ∀ (i : Nat) σ' H', i < n → Inv i σ' H' → Gx K (tu { D with nx := Inv (i + 1), ct := Inv (i + 1), bk := D.nx }) (σ'.set j (some (.int (lo + i)))) H') (hd : ∀ σ' H', Inv n σ' H' → D.nx σ' H') :
    Gx K (tFor wi (gName j) tu D) σ H := fun H1 e => h H1 e _ fun H2 e2 => for_range (lo := lo) (n := n) Inv (h0 H2 (e.trans e2)) (fun i σ' H' hi iv => (hs i σ' H' hi iv).here) hd
/-- over a text -/
theorem for_str {x : Str} {g : TG} {tb : TS} (Pv : Nat → L2.St → Hp → Prop) (h0 : Pv 0 σ H)
    (hs : ∀ i c σ H, x.cps[i]? = some c → Pv i σ H → g (.str (sgn c)) σ H fun σ2 H2 => tb { D with nx := Pv (i + 1), ct := Pv (i + 1), bk := D.nx } σ2 H2) (hd : ∀ σ H, Pv x.cps.size σ H → D.nx σ H) :
    ∃ W : Nat → Nat → L2.St → Hp → Prop, (∃ m, W 0 m σ H) ∧ ∀ i m σ H, W i m σ H →
      ((Its x).stop i H ∧ D.nx σ H) ∨ ((Its x).go i H ∧ ∃ N : L2.St → Hp → Prop, (∀ σ' H', N σ' H' → ∃ m', m' < m ∧ W (i + 1) m' σ' H') ∧ ∀ v H', (Its x).yld i H v H' → g v σ H' fun σ2 H2 => tb { D with nx := N, ct := N, bk := D.nx } σ2 H2) := by
  refine ⟨fun i m σ H => m = x.cps.size - i ∧ i ≤ x.cps.size ∧ Pv i σ H, ⟨x.cps.size, by simp, Nat.zero_le _, h0⟩, ?_⟩
  rintro i m σ H ⟨rfl, hi, p⟩
  by_cases hlt : i < x.cps.size
  · refine .inr ⟨hlt, Pv (i + 1), fun σ' H' p' => ⟨x.cps.size - (i + 1), by omega, rfl, hlt, p'⟩, fun v H' y => ?_⟩
    obtain ⟨e, c, hc, e2⟩ := y
    subst e e2
    exact hs i c σ _ hc p
  · have e : i = x.cps.size := by omega
    subst e
    exact .inl ⟨Nat.le_refl _, hd σ H p⟩
theorem g_forS {j : Nat} {x : Str} (h : Er K tl σ H x) (Inv : Nat → L2.St → Hp → Prop) (h0 : ∀ H1, Ex H H1 → Inv 0 σ H1)
    (hs : ∀ (i c : Nat) σ' H', x.cps[i]? = some c → Inv i σ' H' → Gx K (tu { D with nx := Inv (i + 1), ct := Inv (i + 1), bk := D.nx }) (σ'.set j (some (.str (sgn c)))) H') (hd : ∀ σ' H', Inv x.cps.size σ' H' → D.nx σ' H') :
    Gx K (tFor (iStr tl) (gName j) tu D) σ H := fun H1 e => er_s h H1 e _ fun H2 e2 => ⟨x, rfl, for_str Inv (h0 H2 (e.trans e2)) (fun i c σ' H' hc iv => (hs i c σ' H' hc iv).here) hd⟩
/-- over enumerate(list), the list stands in B -/
theorem for_enum {a : Addr} {xs : List V} {g : TG} {tb : TS} (Pv : Nat → L2.St → Hp → Prop) (h0 : Pv 0 σ H) (hl : ∀ i σ H, i ≤ xs.length → Pv i σ H → SqL K H a xs)
    (hs : ∀ i x T σ H, xs[i]? = some x → Pv i σ H → H T = none → g (.ref T) σ (upd H T (.tup [.int (i : Nat), x])) fun σ2 H2 => tb { D with nx := Pv (i + 1), ct := Pv (i + 1), bk := D.nx } σ2 H2) (hd : ∀ σ H, Pv xs.length σ H → D.nx σ H) :
    ∃ W : Nat → Nat → L2.St → Hp → Prop, (∃ m, W 0 m σ H) ∧ ∀ i m σ H, W i m σ H →
      ((Ite K a).stop i H ∧ D.nx σ H) ∨ ((Ite K a).go i H ∧ ∃ N : L2.St → Hp → Prop, (∀ σ' H', N σ' H' → ∃ m', m' < m ∧ W (i + 1) m' σ' H') ∧ ∀ v H', (Ite K a).yld i H v H' → g v σ H' fun σ2 H2 => tb { D with nx := N, ct := N, bk := D.nx } σ2 H2) := by
  refine ⟨fun i m σ H => m = xs.length - i ∧ i ≤ xs.length ∧ Pv i σ H, ⟨xs.length, by simp, Nat.zero_le _, h0⟩, ?_⟩
  rintro i m σ H ⟨rfl, hi, p⟩
  have q := hl i σ H hi p
  by_cases hlt : i < xs.length
  · refine .inr ⟨⟨xs, xs[i], q, by simp [hlt]⟩, Pv (i + 1), fun σ' H' p' => ⟨xs.length - (i + 1), by omega, rfl, hlt, p'⟩, fun v H' y => ?_⟩
    obtain ⟨T, x, rfl, hT, rfl, hx⟩ := y
    exact hs i x T σ H (hx xs q) p hT
  · have e : i = xs.length := by omega
    subst e
    exact .inl ⟨⟨xs, q, Nat.le_refl _⟩, hd σ H p⟩
theorem g_forE {i0 j1 j2 : Nat} {v0 : V} {as : List α} {B : Hp} (Inv : Nat → L2.St → Hp → Prop) (hv : σ[i0]? = some (some v0)) (r0 : Rep.rep K B v0 as) (eB : Ex B H) (h0 : ∀ H1, Ex H H1 → Inv 0 σ H1) (hI : ∀ i σ' H', Inv i σ' H' → Ex B H') (hU : ∀ i σ' H' H'', Inv i σ' H' → Ex H' H'' → Inv i σ' H'')
    (hs : ∀ i a v σ' H', as[i]? = some a → Rep.rep K B v a → Inv i σ' H' → Gx K (tu { D with nx := Inv (i + 1), ct := Inv (i + 1), bk := D.nx }) ((σ'.set j1 (some (.int (i : Nat)))).set j2 (some v)) H') (hd : ∀ σ' H', Inv as.length σ' H' → D.nx σ' H') :
    Gx K (tFor (iEnum K (tCons (tVar i0) tNil)) (gTwo K j1 j2) tu D) σ H := fun H1 e => by
  obtain ⟨p, rfl, xs, hx, hall⟩ := r0
  exact ⟨.ref p, hv, p, xs, rfl, ex_l (eB.trans e) hx, for_enum (xs := xs) Inv (h0 H1 e) (fun i σ' H' _ iv => ex_l (hI i σ' H' iv) hx) (fun i x T σ' H' hxi iv hT => by
    obtain ⟨a, ha, r⟩ := hall.getV hxi
    exact gTwo_run (st_of upd_same) ((hs i a x σ' _ ha r (hU i σ' H' _ iv (Ex.new hT))).here)) fun σ' H' iv => hd σ' H' (by rw [← hall.len]; exact iv)⟩
/-- while -/
theorem g_while (Inv : L2.St → Hp → Prop) (μ : L2.St → Hp → Nat) (h0 : ∀ H1, Ex H H1 → Inv σ H1)
    (hs : ∀ σ' H', Inv σ' H' → ∃ b, Et K t σ' H' b ∧ (b = true → Gx K (tu { D with nx := fun s h => Inv s h ∧ μ s h < μ σ' H', ct := fun s h => Inv s h ∧ μ s h < μ σ' H', bk := D.nx }) σ' H') ∧ (b = false → Gx K D.nx σ' H')) : Gx K (tWhile t tu D) σ H := fun H1 e =>
  s_while (fun m s h => m = μ s h ∧ Inv s h) (μ σ H1) ⟨rfl, h0 H1 e⟩ fun m σ' H' ⟨em, iv⟩ => by
    subst em
    obtain ⟨b, hb, h1, h2⟩ := hs σ' H' iv
    exact ⟨b, hb, fun hb' H2 e2 => ⟨fun s h => Inv s h ∧ μ s h < μ σ' H', fun s h ⟨iv2, lt⟩ => ⟨μ s h, lt, rfl, iv2⟩, h1 hb' H2 e2⟩, fun hb' H2 e2 => h2 hb' H2 e2⟩
/-- a, b = x, y -/
theorem g_par {i j : Nat} {a : α} {b : β} (h1 : Er K ta σ H a) (h2 : Er K tb σ H b) (k : ∀ v w H1, Ex H H1 → Rep.rep K H1 v a → Rep.rep K H1 w b → Gx K D.nx ((σ.set i (some v)).set j (some w)) H1) : Gx K (tPar i j (tCons ta (tCons tb tNil)) D) σ H := fun H1 e =>
  h1 H1 e _ fun v H2 e2 r1 => h2 H2 (e.trans e2) _ fun w H3 e3 r2 => ⟨v, w, rfl, (k v w H3 ((e.trans e2).trans e3) (Rep.mono e3 r1) r2).here⟩
theorem q_par {i j : Nat} {a : α} {b : β} (h1 : Er K ta σ H a) (h2 : Er K tb σ H b) (k : ∀ v w H1, Ex H H1 → Rep.rep K H1 v a → Rep.rep K H1 w b → Gx K (tz D) ((σ.set i (some v)).set j (some w)) H1) : Gx K (tSeq (tPar i j (tCons ta (tCons tb tNil))) tz D) σ H := g_par (D := { D with nx := tz D }) h1 h2 k
theorem g_par3 {i j l : Nat} {a : α} {b : β} {c : γ} (h1 : Er K ta σ H a) (h2 : Er K tb σ H b) (h3 : Er K tc σ H c) (k : ∀ v w z H1, Ex H H1 → Rep.rep K H1 v a → Rep.rep K H1 w b → Rep.rep K H1 z c → Gx K D.nx (((σ.set i (some v)).set j (some w)).set l (some z)) H1) :
    Gx K (tPar3 i j l (tCons ta (tCons tb (tCons tc tNil))) D) σ H := fun H1 e =>
  h1 H1 e _ fun v H2 e2 r1 => h2 H2 (e.trans e2) _ fun w H3 e3 r2 => h3 H3 ((e.trans e2).trans e3) _ fun z H4 e4 r3 => ⟨v, w, z, rfl, (k v w z H4 (((e.trans e2).trans e3).trans e4) (Rep.mono (e3.trans e4) r1) (Rep.mono e4 r2) r3).here⟩
theorem q_par3 {i j l : Nat} {a : α} {b : β} {c : γ} (h1 : Er K ta σ H a) (h2 : Er K tb σ H b) (h3 : Er K tc σ H c) (k : ∀ v w z H1, Ex H H1 → Rep.rep K H1 v a → Rep.rep K H1 w b → Rep.rep K H1 z c → Gx K (tz D) (((σ.set i (some v)).set j (some w)).set l (some z)) H1) :
    Gx K (tSeq (tPar3 i j l (tCons ta (tCons tb (tCons tc tNil)))) tz D) σ H := g_par3 (D := { D with nx := tz D }) h1 h2 h3 k
end
end Rf
set_option Elab.async false
set_option linter.all false
set_option maxRecDepth 100000
set_option maxHeartbeats 4000000
namespace Rf
open PySem L2 Evl
/-- a tuple of things of one kind -/
structure Tpl (α : Type) where
  l : List α
instance {α : Type} [Rep α] : Rep (Tpl α) := ⟨fun K H v c => ∃ p, v = .ref p ∧ TupsR K H p c.l, fun e ⟨p, h1, xs, h2, h3⟩ => ⟨p, h1, xs, ex_t e h2, h3.mp fun _ _ r => Rep.mono e r⟩⟩
section
variable {α β γ δ : Type} [Rep α] [Rep β] [Rep γ] [Rep δ] {K : PySem.W.Frag} {σ : L2.St} {H H' : Hp} {ta tb tc te tl : TE} {t u tt : TT} {X : Cx} {D : Ends} {tu tw tz : TS}
theorem er_tpl {ta : TA} {as : List α} (h : EaL K ta σ H as) (hl : as.length ≤ 100000) : Er K (tTup ta) σ H (Tpl.mk as) := fun H1 e _ q =>
  h H1 e _ fun vs H2 e2 hv => ⟨sz_of (by rw [hv.len]; exact hl), fun p hp => q _ _ (e2.trans (Ex.new hp)) ⟨p, rfl, vs, st_of upd_same, hv.mp fun v a r => Rep.mono (Ex.new hp) r⟩⟩
theorem er_ixT {as : List α} {i : Int} {a : α} (ha : Er K ta σ H (Tpl.mk as)) (hb : Er K tb σ H i) (e : atI as i = some a) : Er K (tOp (rIxT K) ta tb) σ H a :=
  er_two ha hb fun x y H1 _ rx ry Q q => by
    obtain ⟨p, rfl, xs, hs, hall⟩ := rx
    obtain rfl : y = .int i := ry
    obtain ⟨v, hv, r⟩ := atI_all hall e
    exact ⟨p, xs, i, v, rfl, rfl, hs, hv, q v H1 (Ex.refl H1) r⟩
/-! ### comparisons by kind -/
def rEqI : R2 := rEq
def rNeI : R2 := rNe
def rEqT : R2 := rEq
def rNeT : R2 := rNe
def rEqB : R2 := rEq
def rNeB : R2 := rNe
theorem oEqI : OpR X (compareOp .Eq) rEqI := op_eq
theorem oNeI : OpR X (compareOp .NotEq) rNeI := op_ne
theorem oEqT : OpR X (compareOp .Eq) rEqT := op_eq
theorem oNeT : OpR X (compareOp .NotEq) rNeT := op_ne
theorem oEqB : OpR X (compareOp .Eq) rEqB := op_eq
theorem oNeB : OpR X (compareOp .NotEq) rNeB := op_ne
theorem er_eqi {i j : Int} (ha : Er K ta σ H i) (hb : Er K tb σ H j) : Er K (tOp rEqI ta tb) σ H (i == j) := er_eqI ha hb
theorem er_nei {i j : Int} (ha : Er K ta σ H i) (hb : Er K tb σ H j) : Er K (tOp rNeI ta tb) σ H (!(i == j)) := er_neI ha hb
theorem er_eqt {i j : Str} (ha : Er K ta σ H i) (hb : Er K tb σ H j) : Er K (tOp rEqT ta tb) σ H (i == j) := er_eqT ha hb
theorem er_net {i j : Str} (ha : Er K ta σ H i) (hb : Er K tb σ H j) : Er K (tOp rNeT ta tb) σ H (!(i == j)) := er_neT ha hb
theorem er_eqb {i j : Bool} (ha : Er K ta σ H i) (hb : Er K tb σ H j) : Er K (tOp rEqB ta tb) σ H (i == j) := er_eqB ha hb
theorem er_neb {i j : Bool} (ha : Er K ta σ H i) (hb : Er K tb σ H j) : Er K (tOp rNeB ta tb) σ H (!(i == j)) := er_neB ha hb
/-- x is None, of an option -/
def rIsN' : R2 := fun x y H Q => y = .non ∧ Q (.bl (decide (x = .non))) H
def rNotN' : R2 := fun x y H Q => y = .non ∧ Q (.bl (!decide (x = .non))) H
theorem oIsN : OpR X (compareOp .Is) rIsN' := op_isN
theorem oNotN : OpR X (compareOp .IsNot) rNotN' := op_notN
theorem er_isN {o : Option Str} (ha : Er K ta σ H o) : Er K (tOp rIsN' ta (tC .non)) σ H o.isNone := fun H1 e Q q => ha H1 e _ fun v H2 e2 r => ⟨rfl, q _ H2 e2 (by
  cases o with
  | none => have r' : v = .non := r; rw [r']; rfl
  | some z => have r' : v = .str z := r; rw [r']; rfl)⟩
theorem er_notN {o : Option Str} (ha : Er K ta σ H o) : Er K (tOp rNotN' ta (tC .non)) σ H o.isSome := fun H1 e Q q => ha H1 e _ fun v H2 e2 r => ⟨rfl, q _ H2 e2 (by
  cases o with
  | none => have r' : v = .non := r; rw [r']; rfl
  | some z => have r' : v = .str z := r; rw [r']; rfl)⟩
/-- max(a, b), min(a, b) -/
def rMax2' : List V → Hp → VK → Prop := fun xs H Q => ∃ i j, xs = [.int i, .int j] ∧ Q (.int (if j > i then j else i)) H
def rMin2' : List V → Hp → VK → Prop := fun xs H Q => ∃ i j, xs = [.int i, .int j] ∧ Q (.int (if j < i then j else i)) H
theorem cMax2 (hc : X.calm = true) : CallR X (.builtin "max") rMax2' := call_max2 hc
theorem cMin2 (hc : X.calm = true) : CallR X (.builtin "min") rMin2' := call_min2 hc
theorem er_max2 {i j : Int} (ha : Er K ta σ H i) (hb : Er K tb σ H j) : Er K (tCB rMax2' (tCons ta (tCons tb tNil))) σ H (if j > i then j else i) := fun H1 e Q q => er_i ha H1 e _ fun H2 e2 => er_i hb H2 (e.trans e2) _ fun H3 e3 => ⟨i, j, rfl, q _ H3 (e2.trans e3) rfl⟩
theorem er_min2 {i j : Int} (ha : Er K ta σ H i) (hb : Er K tb σ H j) : Er K (tCB rMin2' (tCons ta (tCons tb tNil))) σ H (if j < i then j else i) := fun H1 e Q q => er_i ha H1 e _ fun H2 e2 => er_i hb H2 (e.trans e2) _ fun H3 e3 => ⟨i, j, rfl, q _ H3 (e2.trans e3) rfl⟩
theorem et_and' {a b : Bool} (h1 : Et K t σ H a) (h2 : a = true → Et K u σ H b) : Et K (tAnd t u) σ H (a && b) := et_and h1 h2
theorem et_or' {a b : Bool} (h1 : Et K t σ H a) (h2 : a = false → Et K u σ H b) : Et K (tOr t u) σ H (a || b) := et_or h1 h2
theorem et_not' {a : Bool} (h1 : Et K t σ H a) : Et K (tNot t) σ H (!a) := et_not h1
theorem er_chLtLt {i j k : Int} (ha : Er K ta σ H i) (hb : Er K tb σ H j) (hc : Er K tc σ H k) : Er K (tChain rLtI rLtI ta tb tc) σ H (decide (i < j) && decide (j < k)) := er_chain ha hb hc rvLt rvLt
theorem er_chLeLt {i j k : Int} (ha : Er K ta σ H i) (hb : Er K tb σ H j) (hc : Er K tc σ H k) : Er K (tChain rLeI rLtI ta tb tc) σ H (decide (i ≤ j) && decide (j < k)) := er_chain ha hb hc rvLe rvLt
/-! ### promises' lengths, what a caller knows -/
theorem len_pr1 {pre : α → Prop} {f : α → β} {vs : List V} {Q : VK} {E : XK} (h : Pr1 K pre f vs H Q E) : vs.length = 1 := by obtain ⟨_, _, rfl, _⟩ := h; rfl
theorem len_pr2 {pre : α → β → Prop} {f : α → β → γ} {vs : List V} {Q : VK} {E : XK} (h : Pr2 K pre f vs H Q E) : vs.length = 2 := by obtain ⟨_, _, _, _, rfl, _⟩ := h; rfl
theorem len_pr3 {pre : α → β → γ → Prop} {f : α → β → γ → δ} {vs : List V} {Q : VK} {E : XK} (h : Pr3 K pre f vs H Q E) : vs.length = 3 := by obtain ⟨_, _, _, _, _, _, rfl, _⟩ := h; rfl
theorem len_prF1 {pre : α → Prop} {f : α → List β} {vs : List V} {Q : VK} {E : XK} (h : PrF1 K pre f vs H Q E) : vs.length = 1 := by obtain ⟨_, _, rfl, _⟩ := h; rfl
theorem len_prF2 {pre : α → β → Prop} {f : α → β → List γ} {vs : List V} {Q : VK} {E : XK} (h : PrF2 K pre f vs H Q E) : vs.length = 2 := by obtain ⟨_, _, _, _, rfl, _⟩ := h; rfl
end
structure Cal (P : Program) (w : World) (K : PySem.W.Frag) (mg : Str → Option Value) (base : Heap) (k : Nat) (x : Str) (ps : List Str) (sp : Sp) (f : Addr) (fd : FuncData) : Prop where
  ok : FnOk P w K mg base CX0 k f fd ps sp
  g : mg x = some (.ref f)
  kp : PySem.W.keepIn K (.ref f) = true
  b : Binds K fd ps []
structure Mtd (P : Program) (w : World) (K : PySem.W.Frag) (mg : Str → Option Value) (base : Heap) (k : Nat) (C : Addr) (x : Str) (ps : List Str) (sp : Sp) (f : Addr) (fd : FuncData) : Prop where
  ok : FnOk P w K mg base CX0 k f fd ps sp
  cl : Cls K C
  m : Meth K C x f
  b : Binds K fd ps []
structure Mkr (K : PySem.W.Frag) (mg : Str → Option Value) (x : Str) (C f : Addr) (fd : FuncData) (ps : List Str) : Prop where
  made : Mk K C f
  g : mg x = some (.ref C)
  b : Binds K fd ps []
end Rf
set_option Elab.async false
set_option linter.all false
set_option maxRecDepth 100000
set_option maxHeartbeats 4000000
namespace Rf
open PySem L2 Evl
/-! ### words as texts: u is true -/
def sg (b : Bool) : Nat := if b then 117 else 100
def tx (w : List Bool) : Str := ⟨(w.map sg).toArray⟩
def unz (z : Str) : List Bool := z.cps.toList.map (· == 117)
theorem sg_u (b : Bool) : (sg b == 117) = b := by cases b <;> rfl
theorem unz_tx (w : List Bool) : unz (tx w) = w := by
  unfold unz tx
  simp only [List.map_map]
  conv => rhs; rw [← List.map_id w]
  refine List.map_congr_left fun b _ => ?_
  exact sg_u b
theorem tx_inj {w v : List Bool} (h : tx w = tx v) : w = v := by rw [← unz_tx w, h, unz_tx]
theorem tx_len (w : List Bool) : (tx w).length = w.length := by
  show ((w.map sg).toArray).size = w.length
  simp
theorem tx_list (w : List Bool) : (tx w).cps.toList = w.map sg := by unfold tx; simp
theorem tx_app (w v : List Bool) : tx w ++ tx v = tx (w ++ v) := by
  show (⟨(w.map sg).toArray ++ (v.map sg).toArray⟩ : Str) = _
  unfold tx
  congr 1
  apply Array.ext'
  simp
theorem tx_beq (w v : List Bool) : (tx w == tx v) = decide (w = v) := by
  rw [Bool.eq_iff_iff, beq_iff_eq, decide_eq_true_iff]
  exact ⟨tx_inj, fun h => by rw [h]⟩
theorem tx_rev (w : List Bool) : (⟨(tx w).cps.toList.reverse.toArray⟩ : Str) = tx w.reverse := by
  rw [tx_list, ← List.map_reverse]
  rfl
theorem tx_cut (w : List Bool) (lo hi : Option Int) : cutS (tx w) lo hi = tx (cutL w lo hi) := by
  unfold cutS cutL
  rw [tx_list, tx_len, ← List.map_drop, ← List.map_take]
  rfl
theorem sgn_tx (b : Bool) : sgn (sg b) = tx [b] := rfl
theorem tx_nil : ("" : Str) = tx [] := by decide +kernel
theorem tx_u : ("u" : Str) = tx [true] := by decide +kernel
theorem tx_d : ("d" : Str) = tx [false] := by decide +kernel
theorem tx_ud : ("ud" : Str) = tx [true, false] := by decide +kernel
theorem tx_du : ("du" : Str) = tx [false, true] := by decide +kernel
theorem tx_cat (ws : List (List Bool)) : catS (ws.map tx) = tx ws.flatten := by
  unfold catS tx
  congr 1
  rw [List.map_map]
  induction ws with
  | nil => rfl
  | cons w r ih =>
    simp only [List.map_cons, List.flatten_cons, List.map_append, Function.comp]
    congr 1
    have e : ∀ l : List (List Nat) , l.flatten.toArray = l.flatten.toArray := fun _ => rfl
    have h : (List.map ((fun x => x.cps.toList) ∘ fun w => (⟨(List.map sg w).toArray⟩ : Str)) r).flatten = List.map sg r.flatten := by
      have := congrArg Array.toList ih
      simpa using this
    simpa using h
theorem tx_reps (k : Nat) (b : Bool) : reps k (tx [b]) = tx (List.replicate k b) := by
  unfold reps
  rw [tx_list]
  unfold tx
  congr 1
  rw [List.map_replicate]
  simp
theorem tx_at {w : List Bool} {i : Int} {b : Bool} (h : atI w i = some b) : atI (tx w).cps.toList i = some (sg b) := by
  rw [tx_list]
  unfold atI at h ⊢
  rw [List.length_map]
  cases q : ixN w.length i with
  | none => rw [q] at h; simp at h
  | some j =>
    rw [q] at h
    show (w.map sg)[j]? = some (sg b)
    rw [List.getElem?_map, show w[j]? = some b from h]
    rfl
/-- a text that is a word -/
def IsW (z : Str) : Prop := ∀ c ∈ z.cps.toList, c = 117 ∨ c = 100
theorem tx_unz {z : Str} (h : IsW z) : tx (unz z) = z := by
  cases z with
  | mk c =>
    unfold tx unz
    congr 1
    apply Array.ext'
    rw [List.map_map]
    conv => rhs; rw [← List.map_id c.toList]
    refine List.map_congr_left fun x hx => ?_
    rcases h x hx with e | e <;> (subst e; rfl)
theorem isW_tx (w : List Bool) : IsW (tx w) := by
  intro c hc
  rw [tx_list] at hc
  obtain ⟨b, _, rfl⟩ := List.mem_map.mp hc
  cases b
  · right; rfl
  · left; rfl
theorem unz_len (z : Str) : (unz z).length = z.length := by
  unfold unz
  rw [List.length_map, Array.length_toList]
  rfl
section
variable {α β γ δ : Type} [Rep α] [Rep β] [Rep γ] [Rep δ] {K : PySem.W.Frag} {σ : L2.St} {H H' : Hp} {ta tb tc te tl : TE} {t u tt : TT} {X : Cx} {D : Ends} {tu tw tz : TS}
theorem g_cut (Mid : L2.St → Hp → Prop) (h : Gx K (tu { D with nx := Mid }) σ H) (k : ∀ σ' H', Mid σ' H' → Gx K (tw D) σ' H') : Gx K (tCut tu tw D) σ H := fun H1 e => ⟨Mid, h H1 e, fun σ' H' m => (k σ' H' m).here⟩
theorem er_call1F {pre : α → Prop} {f : α → List β} {E : XK} {a : α} (h : Er K ta σ H a) (hp : pre a) : Er K (tCall (PrF1 K pre f) [] E (tCons ta tNil)) σ H (f a) := (erf_call1 h hp).er
theorem er_call2F {pre : α → β → Prop} {f : α → β → List γ} {E : XK} {a : α} {b : β} (h : Er K ta σ H a) (hb : Er K tb σ H b) (hp : pre a b) : Er K (tCall (PrF2 K pre f) [] E (tCons ta (tCons tb tNil))) σ H (f a b) := (erf_call2 h hb hp).er
theorem q_forL {j : Nat} {i0 : Nat} {v0 : V} {as : List α} {B : Hp} (Inv : Nat → L2.St → Hp → Prop) (hv : σ[i0]? = some (some v0)) (r0 : Rep.rep K B v0 as) (eB : Ex B H) (h0 : ∀ H1, Ex H H1 → Inv 0 σ H1) (hI : ∀ i σ' H', Inv i σ' H' → Ex B H')
    (hs : ∀ i a v σ' H', as[i]? = some a → Rep.rep K B v a → Inv i σ' H' → Gx K (tu { D with nx := Inv (i + 1), ct := Inv (i + 1), bk := tz D }) (σ'.set j (some v)) H') (hd : ∀ σ' H', Inv as.length σ' H' → Gx K (tz D) σ' H') :
    Gx K (tSeq (tFor (iList K (tVar i0)) (gName j) tu) tz D) σ H :=
  g_forL (D := { D with nx := tz D }) Inv hv r0 eB h0 hI hs (fun σ' H' iv => (hd σ' H' iv).here)
theorem q_forN {g : TG} {as : List α} (h : Er K tl σ H as) (Inv : Hp → Nat → L2.St → Hp → Prop) (h0 : ∀ B H1, Ex H B → Ex B H1 → Inv B 0 σ H1) (hI : ∀ B i σ' H', Inv B i σ' H' → Ex B H')
    (hs : ∀ B i a v σ' H', Ex H B → as[i]? = some a → Rep.rep K B v a → Inv B i σ' H' → g v σ' H' fun σ2 H2 => tu { D with nx := Inv B (i + 1), ct := Inv B (i + 1), bk := tz D } σ2 H2) (hd : ∀ B σ' H', Ex H B → Inv B as.length σ' H' → Gx K (tz D) σ' H') :
    Gx K (tSeq (tFor (iList K tl) g tu) tz D) σ H :=
  g_forN (D := { D with nx := tz D }) h Inv h0 hI hs (fun B σ' H' e iv => (hd B σ' H' e iv).here)
theorem q_forR {j : Nat} {lo : Int} {n : Nat} {wi : TI} (h : Rg K wi σ H lo n) (Inv : Nat → L2.St → Hp → Prop) (h0 : ∀ H1, Ex H H1 → Inv 0 σ H1)
    (hs : ∀ (i : Nat) σ' H', i < n → Inv i σ' H' → Gx K (tu { D with nx := Inv (i + 1), ct := Inv (i + 1), bk := tz D }) (σ'.set j (some (.int (lo + i)))) H') (hd : ∀ σ' H', Inv n σ' H' → Gx K (tz D) σ' H') :
    Gx K (tSeq (tFor wi (gName j) tu) tz D) σ H :=
  g_forR (D := { D with nx := tz D }) h Inv h0 hs (fun σ' H' iv => (hd σ' H' iv).here)
theorem q_forS {j : Nat} {x : Str} (h : Er K tl σ H x) (Inv : Nat → L2.St → Hp → Prop) (h0 : ∀ H1, Ex H H1 → Inv 0 σ H1)
    (hs : ∀ (i c : Nat) σ' H', x.cps[i]? = some c → Inv i σ' H' → Gx K (tu { D with nx := Inv (i + 1), ct := Inv (i + 1), bk := tz D }) (σ'.set j (some (.str (sgn c)))) H') (hd : ∀ σ' H', Inv x.cps.size σ' H' → Gx K (tz D) σ' H') :
    Gx K (tSeq (tFor (iStr tl) (gName j) tu) tz D) σ H :=
  g_forS (D := { D with nx := tz D }) h Inv h0 hs (fun σ' H' iv => (hd σ' H' iv).here)
theorem q_forE {i0 j1 j2 : Nat} {v0 : V} {as : List α} {B : Hp} (Inv : Nat → L2.St → Hp → Prop) (hv : σ[i0]? = some (some v0)) (r0 : Rep.rep K B v0 as) (eB : Ex B H) (h0 : ∀ H1, Ex H H1 → Inv 0 σ H1) (hI : ∀ i σ' H', Inv i σ' H' → Ex B H') (hU : ∀ i σ' H' H'', Inv i σ' H' → Ex H' H'' → Inv i σ' H'')
    (hs : ∀ i a v σ' H', as[i]? = some a → Rep.rep K B v a → Inv i σ' H' → Gx K (tu { D with nx := Inv (i + 1), ct := Inv (i + 1), bk := tz D }) ((σ'.set j1 (some (.int (i : Nat)))).set j2 (some v)) H') (hd : ∀ σ' H', Inv as.length σ' H' → Gx K (tz D) σ' H') :
    Gx K (tSeq (tFor (iEnum K (tCons (tVar i0) tNil)) (gTwo K j1 j2) tu) tz D) σ H :=
  g_forE (D := { D with nx := tz D }) Inv hv r0 eB h0 hI hU hs (fun σ' H' iv => (hd σ' H' iv).here)
theorem q_while (Inv : L2.St → Hp → Prop) (μ : L2.St → Hp → Nat) (h0 : ∀ H1, Ex H H1 → Inv σ H1)
    (hs : ∀ σ' H', Inv σ' H' → ∃ b, Et K t σ' H' b ∧ (b = true → Gx K (tu { D with nx := fun s h => Inv s h ∧ μ s h < μ σ' H', ct := fun s h => Inv s h ∧ μ s h < μ σ' H', bk := tz D }) σ' H') ∧ (b = false → Gx K (tz D) σ' H')) : Gx K (tSeq (tWhile t tu) tz D) σ H :=
  g_while (D := { D with nx := tz D }) Inv μ h0 hs
/-- y = x -/
theorem g_mov {i j : Nat} {v : V} (h : σ[i]? = some (some v)) (k : Gx K D.nx (σ.set j (some v)) H) : Gx K (tAsg (tVar i) (gName j) D) σ H := fun H1 e => ⟨v, h, k H1 e⟩
theorem q_mov {i j : Nat} {v : V} (h : σ[i]? = some (some v)) (k : Gx K (tz D) (σ.set j (some v)) H) : Gx K (tSeq (tAsg (tVar i) (gName j)) tz D) σ H := fun H1 e => ⟨v, h, k H1 e⟩
theorem er_lit {z : Str} {w : List Bool} (h : z = tx w) : Er K (tC (.str z)) σ H (tx w) := er_str.to h
theorem er_ixW {w : List Bool} {i : Int} {b : Bool} (ha : Er K ta σ H (tx w)) (hb : Er K tb σ H i) (hl : w.length ≤ 100000) (e : atI w i = some b) : Er K (tOp rIxS ta tb) σ H (tx [b]) :=
  (er_ixS ha hb (by rw [tx_len]; exact hl) (tx_at e)).to (sgn_tx b)
end
end Rf
set_option Elab.async false
set_option linter.all false
set_option maxRecDepth 100000
set_option maxHeartbeats 4000000
/-! Sx: the set of a list of ints, and sorted of it, of any size that fits. -/
namespace Rf
open PySem PySem.Spec PyProof.Rows L2 Evl

/-- what lay there lies there -/
abbrev Kpt (h h' : Heap) : Prop := ∀ b o, h.get? b = some o → h'.get? b = some o
/-- the object that a new set is -/
abbrev mtS (w : World) : Obj := { cls := .type "set", dict := none, data := .set #[] 0 (.fresh 0 0 (!w.params.followText "set-order")) }
section
variable {P : Program} {w : World} {A : Around} {E : Value → Shared → Prop} {s : Shared}

theorem setL_new {l : Addr} {items : Array Value} {ns : List Int} {Q : Value → Shared → Prop} (hh : A.handled = none) (hl : s.heap.IsList l items) (hit : PyProof.Rows.IntsAre items.toList ns) (hb : ns.length + 1 < scanBound)
    (fin : ∀ (h' : Heap) (tk c : Nat), SetR w h' s.heap.objs.size (fun j => decide (j ∈ ns)) c → c ≤ ns.length → Kpt s.heap h' → Q (.ref s.heap.objs.size) { s with heap := h', toks := tk }) :
    wpAny (model P w) A (call (.type "set") [.ref l]) Q E s := by
  have isz : items.size = ns.length := by have q := PyProof.Rows.IntsAre.length hit; rw [Array.length_toList] at q; exact q
  obtain ⟨cm, tm, mro⟩ := F.called_set.mro
  have made := F.called_set.made
  have below := F.called_set.sub
  refine wpAny_call (codeAny_of_tree ?_)
  show wpAny _ _ (callAny (.type "set") _) _ _ _
  refine wpAny_pure ⟨Code.quiet_builtin _ (by decide +kernel), codeAny_builtin F.entry_type_call ?_⟩
  rw [Around.under_plain (weight_type_call_type "set" [.ref l] []) rfl]
  have not1 := F.called_set.notType
  have can1 := F.called_set.canCreate
  have type1 := F.typeCall_set_1 (.ref l)
  repeat (any_goals (first | assumption | wp_step))
  refine codeAny_mono (code_set_led1 (.ref l) (E := E) (Q₁ := fun x s1 => x = .ref s.heap.objs.size ∧ s1 = { s with heap := s.heap.push (mtS w) }) ⟨rfl, rfl⟩) fun r s1 end1 => ?_
  match r with
  | .error e => exact end1
  | .ok (.ret x) =>
    obtain ⟨rfl, rfl⟩ := end1
    have at0 : (s.heap.push (mtS w)).get? s.heap.objs.size = some (mtS w) := Heap.get?_push_size _ rfl
    have ty0 : Shared.TypeIs { s with heap := s.heap.push (mtS w) } (.ref s.heap.objs.size) "set" := ⟨_, at0, rfl⟩
    have look0 := F.called_set.init.lookup
    have bind0 := F.called_set.init.bind (.ref s.heap.objs.size)
    repeat (any_goals (first | assumption | wp_step))
    refine codeAny_mono (codeAny_call_builtin (R := wants (fun r s2 => r = .none ∧ ∃ h' tk c, s2 = { s with heap := h', toks := tk } ∧ SetR w h' s.heap.objs.size (fun j => decide (j ∈ ns)) c ∧ c ≤ ns.length ∧ Kpt s.heap h') E)
      F.called_set.init.plain F.entry_set_init (check_set_init_1 ty0 ?_)) fun r2 s2 end2 => ?_
    · obtain ⟨⟨ocls, odict, odata, oslots⟩, hol, hcl, nl, hdl⟩ := hl
      simp only at hcl hdl
      subst hcl; subst hdl
      have hol1 : (s.heap.push (mtS w)).get? l = some { cls := .type "list", dict := odict, data := .seq items nl, slots := oslots } := Heap.get?_push_of_some _ hol
      have b1 := F.sub_list_set
      have b2 := F.sub_list_frozenset
      have b3 : (Value.type "list" == Value.type "dict") = false := by decide
      have lst1 : (s.heap.push (mtS w)).IsList l items := ⟨_, hol1, rfl, nl, rfl⟩
      unfold Builtin.«set.__init__» noKeywords Builtin.Frozenset.updateFrom
      generalize way : pyIter = PI
      wp_walk
      subst way
      refine wpAny_pyIter_list lst1 ?_
      refine wpAny_bind (wpAny_runValue ?_)
      have ltS : l < s.heap.objs.size := Heap.lt_size hol
      have hh3 : A.in1.in1.in1.handled = none := by simp [hh]
      have big1 : (s.heap.push (mtS w)).objs.size = s.heap.objs.size + 1 := Heap.size_push ..
      have neI : l ≠ (s.heap.push (mtS w)).objs.size := fun e => by rw [big1] at e; exact absurd ltS (by rw [e]; exact Nat.not_lt_of_le (Nat.le_succ _))
      have offS : s.heap.objs.size ∉ [(s.heap.push (mtS w)).objs.size, l] := by
        rw [big1]; simp only [List.mem_cons, List.not_mem_nil, or_false, not_or]
        exact ⟨Nat.ne_of_lt (Nat.lt_succ_self _), Nat.ne_of_gt ltS⟩
      have vals : ∀ (i : Nat) (v : Value), items[i]? = some v → ∃ k t, ns[i]? = some k ∧ v = .int k t := fun i v hv => by
        have hi : i < ns.length := by rw [← isz]; exact (Array.getElem?_eq_some_iff.mp hv).1
        obtain ⟨t, e⟩ := PyProof.Rows.IntsAre.int_at hit i v (by rw [Array.getElem?_toList]; exact hv)
        refine ⟨ns[i], t, List.getElem?_eq_getElem hi, ?_⟩
        rw [e, List.getD_eq_getElem?_getD, List.getElem?_eq_getElem hi] <;> rfl
      refine set_update_ints ((Walks.list hh3 _ l neI items).toS) s.heap.objs.size offS ns isz hb vals (items.size - 0) 0 _ (by omega) (Nat.zero_le _)
        ⟨⟨_, Heap.get?_push_size _ rfl, rfl, rfl⟩, (lst1.push _)⟩ ⟨0, Nat.le_refl 0, setR_new_at (Heap.get?_push_of_some _ at0)⟩ ?_
      intro s' c' mv hc' set'
      obtain ⟨h', g2, d', tk', os'⟩ := s'
      have eg : g2 = s.gens := mv.gens
      have ed : d' = s.drawn := mv.drawn
      have eo : os' = s.os := mv.os
      subst eg; subst ed; subst eo
      show wpAny _ _ _ _ _ _
      refine wpAny_pure ?_
      show wpAny _ _ (ret Value.none) _ _ _
      rw [isz] at hc'
      refine wpAny_pure ⟨rfl, h', tk', c', rfl, set', hc', fun b o e => ?_⟩
      have lt0 : b < s.heap.objs.size := Heap.lt_size e
      refine mv.heap b o ?_ (Heap.get?_push_of_some _ (Heap.get?_push_of_some _ e))
      rw [big1]; simp only [List.mem_cons, List.not_mem_nil, or_false, not_or]
      exact ⟨Nat.ne_of_lt lt0, Nat.ne_of_lt (Nat.lt_succ_of_lt lt0)⟩
    · cases r2 with
      | error e => exact end2
      | ok fl =>
        cases fl
        case ret x =>
          obtain ⟨rfl, h', tk, c, rfl, set', hc', keep'⟩ := end2
          repeat (any_goals (first | assumption | wp_step))
          exact fin _ _ _ set' hc' keep'
        all_goals exact end2.elim
  | .ok .next => exact end1.elim
  | .ok .brk => exact end1.elim
  | .ok .cont => exact end1.elim
end
end Rf
set_option Elab.async false
set_option linter.all false
set_option maxRecDepth 100000
set_option maxHeartbeats 4000000
namespace Rf
open PySem PySem.Spec PyProof.Rows L2 Evl

/-! ### sorted of it -/
section
variable {P : Program} {w : World} {A : Around} {E : Value → Shared → Prop} {s : Shared} {a : Addr}
theorem srtS_any {S : Int → Bool} {n : Nat} {Q : Value → Shared → Prop} (R : SetR w s.heap a S n) (hh : A.handled = none) (hz : n ≤ sizeLine)
    (fin : ∀ s' p (out : Array Value) (c : Nat) (ns : List Int), Kpt s.heap s'.heap → s'.gens = s.gens → s'.os = s.os → s.heap.objs.size ≤ p →
      s'.heap.get? p = some (seqObj "list" out c) → PyProof.Rows.IntsAre out.toList ns → ns.Pairwise (· < ·) → (∀ k, k ∈ ns ↔ S k = true) → Q (.ref p) s') :
    wpAny (model P w) A (call (.builtin "sorted") [.ref a]) Q E s := by
  obtain ⟨o, es, ep, t, ho, ex, hd, g, nd, mem, hb, hf, hn, hr, hl⟩ := R
  refine Calls.call_function_entry kind_sorted plain_sorted entry_sorted (args_sorted1 _) ?_
  unfold Builtin.«sorted»
  refine wpAny_bind (m := checkCount "sorted" 1 1 _) (wpAny_pure ?_)
  refine wpAny_bind (collect_set (A := A.in1) hh ⟨o, ho, ex.1, hd⟩ hf hb hr hl fun s1 vs k1 zs g1 o1 pm => ?_)
  have len1 : vs.length = n := by rw [pm.length_eq, List.length_map, Array.length_toList]; exact hn
  have ints1 : PyProof.Rows.IntsAre vs (vs.map Builtin.Re.reRawOf) := ints_of vs fun v hv => by
    obtain ⟨e, he, q⟩ := List.mem_map.mp (pm.mem_iff.mp hv)
    obtain ⟨k, tk, h1, _⟩ := g e he
    exact ⟨k, tk, by rw [← q]; exact h1⟩
  have perm1 : (vs.map Builtin.Re.reRawOf).Perm (es.toList.map keyOf) := by
    have q := pm.map Builtin.Re.reRawOf
    rw [List.map_map] at q
    exact q
  refine wpAny_bind (wpAny_newList ?_ (by rw [len1]; exact hz))
  have new1 : (s1.heap.push (seqObj "list" vs.toArray 0)).get? s1.heap.objs.size = some (seqObj "list" vs.toArray 0) := Heap.get?_push_size _ rfl
  refine wpAny_bind (wpAny_holding (wpAny_call_entry slot_list_sort ⟨_, new1, rfl⟩ entry_list_sort (list_sort_treeAny new1 ints1 (by rw [len1]; exact hz) fun out ns' a1 a2 a3 => ⟨_, rfl, ?_⟩) (args_list_sort _)))
  obtain ⟨c, hc⟩ := sortedHeap_at (vs := vs) (out := out) new1
  have pn : ns'.Perm (es.toList.map keyOf) := a2.trans perm1
  refine wpAny_pure ⟨_, rfl, fin _ s1.heap.objs.size out c ns' (fun b u e => ?_) g1 o1 zs hc a1 (lt_of_le_nodup ns' a3 (pn.nodup_iff.mpr nd)) fun k => by rw [pn.mem_iff, ← mem k]⟩
  have q := k1 b u e
  have lt1 := Heap.lt_size q
  show (sortedHeap (s1.heap.push (seqObj "list" vs.toArray 0)) s1.heap.objs.size vs out).get? b = some u
  rw [sortedHeap_old (Nat.ne_of_lt lt1) (by rw [size_push']; exact Nat.lt_succ_of_lt lt1)]
  exact Heap.get?_push_of_some _ q
end

/-- k put in its place; nothing where it stands already -/
def put1 (k : Int) : List Int → List Int
  | [] => [k]
  | a :: l => if k < a then k :: a :: l else if k = a then a :: l else a :: put1 k l
/-- the members of a list, rising -/
def srt (ns : List Int) : List Int := ns.foldr put1 []
theorem put1_mem (k j : Int) : ∀ l : List Int, j ∈ put1 k l ↔ j = k ∨ j ∈ l
  | [] => by simp [put1]
  | a :: l => by
    unfold put1
    split
    · simp
    · split
      · rename_i h; subst h; simp
      · simp only [List.mem_cons, put1_mem k j l]
        constructor
        · rintro (h | h | h) <;> simp [h]
        · rintro (h | h | h) <;> simp [h]
theorem put1_ris (k : Int) : ∀ l : List Int, l.Pairwise (· < ·) → (put1 k l).Pairwise (· < ·)
  | [], _ => by simp [put1]
  | a :: l, h => by
    obtain ⟨h1, h2⟩ := List.pairwise_cons.mp h
    unfold put1
    split
    · rename_i c
      refine List.pairwise_cons.mpr ⟨fun y hy => ?_, h⟩
      rcases List.mem_cons.mp hy with e | e
      · omega
      · have := h1 y e; omega
    · split
      · exact h
      · refine List.pairwise_cons.mpr ⟨fun y hy => ?_, put1_ris k l h2⟩
        rcases (put1_mem k y l).mp hy with e | e
        · omega
        · exact h1 y e
theorem srt_mem (j : Int) : ∀ ns : List Int, j ∈ srt ns ↔ j ∈ ns
  | [] => by simp [srt]
  | k :: ns => by
    show j ∈ put1 k (srt ns) ↔ _
    rw [put1_mem, srt_mem j ns, List.mem_cons]
theorem srt_ris : ∀ ns : List Int, (srt ns).Pairwise (· < ·)
  | [] => by simp [srt]
  | k :: ns => put1_ris k _ (srt_ris ns)
theorem ris_one : ∀ {l m : List Int}, l.Pairwise (· < ·) → m.Pairwise (· < ·) → (∀ j, j ∈ l ↔ j ∈ m) → l = m
  | [], [], _, _, _ => rfl
  | [], b :: m, _, _, h => by have := (h b).mpr (by simp); simp at this
  | a :: l, [], _, _, h => by have := (h a).mp (by simp); simp at this
  | a :: l, b :: m, hl, hm, h => by
    obtain ⟨l1, l2⟩ := List.pairwise_cons.mp hl
    obtain ⟨m1, m2⟩ := List.pairwise_cons.mp hm
    have e : a = b := by
      rcases List.mem_cons.mp ((h a).mp (by simp)) with e | e
      · exact e
      · rcases List.mem_cons.mp ((h b).mpr (by simp)) with e' | e'
        · exact e'.symm
        · have := m1 a e; have := l1 b e'; omega
    subst e
    rw [ris_one l2 m2 fun j => ?_]
    constructor
    · intro hj
      rcases List.mem_cons.mp ((h j).mp (by simp [hj])) with e | e
      · have := l1 j hj; omega
      · exact e
    · intro hj
      rcases List.mem_cons.mp ((h j).mpr (by simp [hj])) with e | e
      · have := m1 j hj; omega
      · exact e
theorem srt_self {ns : List Int} : srt ns = ns ↔ ns.Pairwise (· < ·) := by
  constructor
  · intro h; rw [← h]; exact srt_ris ns
  · intro h; exact ris_one (srt_ris ns) h fun j => srt_mem j ns
theorem put1_le (k : Int) : ∀ l : List Int, (put1 k l).length ≤ l.length + 1
  | [] => by simp [put1]
  | a :: l => by
    unfold put1
    split
    · simp
    · split
      · simp
      · have := put1_le k l; simp; omega
theorem srt_le : ∀ ns : List Int, (srt ns).length ≤ ns.length
  | [] => Nat.le_refl _
  | k :: ns => by
    have h1 := put1_le k (srt ns)
    have h2 := srt_le ns
    show (put1 k (srt ns)).length ≤ ns.length + 1
    omega

/-- sorted(set(e)), e a list of ints -/
def tSrtSet (K : PySem.W.Frag) (ta : TE) : TE := fun σ H Q => ta σ H fun x H1 => ∃ (l : Addr) (ns : List Int), x = .ref l ∧ SqL K H1 l (ns.map V.int) ∧ ns.length ≤ 1000 ∧ ∀ p, H1 p = none → Q (.ref p) (upd H1 p (.lst ((srt ns).map V.int)))
section
variable {X : Cx}
theorem pe_srtSet {a : Expr} {ta : TE} {p p2 q pos : Pos} (hc : X.calm = true) (hg : Gl X "sorted") (hm : X.mg "sorted" = none) (hg2 : Gl X "set") (hm2 : X.mg "set" = none) (ha : PE X a ta)
    (na : starEach [a] X.env = (false, eval a X.env) :: starEach [] X.env := by rfl) : PE X (.Call (.Name "sorted" p) [.Call (.Name "set" p2) [a] [] q] [] pos) (tSrtSet X.K ta) := by
  refine ⟨fun pins s σ H Q I h => ?_⟩
  refine Call_ (ld_blt I hg hm (by decide +kernel : bootBuiltins "sorted" = some (.builtin "sorted")) ?_)
  refine PyProof.Rows.callWith_builtin1 (PyProof.Rows.args_cons ?_ rfl) rfl rfl
  refine Call_ (ld_blt I hg2 hm2 boot_set ?_)
  refine PyProof.Rows.callWith_type1 (PyProof.Rows.args_cons (thn (ha.run pins s σ H _ I h) fun v s1 ⟨x, H1, I1, r1, q1⟩ => PyProof.Rows.args_nil ?_) na) na rfl
  obtain ⟨l, ns, rfl, hq, h1, q1⟩ := q1
  cases r1
  obtain ⟨its, r, pl, hz⟩ := I1.list hq
  refine setL_new (I1.ok.hd hc) pl.isList (ns := ns) (by simpa using r.ints) (by unfold scanBound; omega) fun h' tk c hS hcn hk => ?_
  refine PyProof.Rows.args_nil ?_
  have I2 : Inv X pins σ H1 { s1 with heap := h', toks := tk } := I1.kept fun b o e => hk b o e
  have big : (1000 : Nat) ≤ sizeLine := by rw [sizeLine_eq]; decide
  refine srtS_any hS (I2.ok.hd hc) (Nat.le_trans hcn (Nat.le_trans h1 big)) fun s' p out c ns' k g o hp hg' hi hs hm => ?_
  have en : ns' = srt ns := ris_one hs (srt_ris ns) fun j => by rw [hm, srt_mem, decide_eq_true_iff]
  subst en
  have hn : H1 p = none := I2.hok.fresh hp
  have hlen : ((srt ns).map V.int).length ≤ sizeLine := by
    rw [List.length_map]
    exact Nat.le_trans (srt_le ns) (Nat.le_trans h1 big)
  have J : Inv X pins σ (upd H1 p (.lst ((srt ns).map V.int))) { s1 with heap := s'.heap, gens := s'.gens, drawn := s'.drawn, toks := s'.toks } :=
    Inv.call (s := { s1 with heap := h', toks := tk }) (ch := []) I2 (Un.laid k hp hn) (I2.hok.laid k hp ⟨hlen, out.toList, c, vals_of_ints hi, hg'⟩) (by rw [g]; exact I2.bare) (fun _ z => nomatch z)
  have e : s' = { s1 with heap := s'.heap, gens := s'.gens, drawn := s'.drawn, toks := s'.toks } := by
    cases s'
    cases s1
    cases o
    rfl
  rw [e]
  exact ⟨.ref p, _, J, rfl, q1 p hn⟩
end
section
variable {K : PySem.W.Frag} {σ : L2.St} {H : Hp} {ta tb te : TE}
theorem erf_srtSet {ns : List Int} (h : Er K ta σ H ns) (hl : ns.length ≤ 1000) : ErF K (tSrtSet K ta) σ H (srt ns) := fun H1 e Q q =>
  h H1 e _ fun v H2 e2 ⟨p, e3, hs⟩ => ⟨p, ns, e3, lst_int hs, hl, fun l hn => q l _ (fresh_back e2 hn) (e2.trans (Ex.new hn)) ⟨_, upd_same, int_all2⟩⟩
/-! ### sorted of a list of ints -/
def rSortL (K : PySem.W.Frag) : List V → Hp → VK → Prop := rSortedI K
theorem cSortL {X : Cx} : CallR X (.builtin "sorted") (rSortL X.K) := cr_sortedI
theorem sort_uniq {l m : List Int} (h : l.Perm m) (hl : l.Pairwise (· ≤ ·)) (hm : m.Pairwise (· ≤ ·)) : l = m := h.eq_of_pairwise (fun _ _ _ _ h1 h2 => Int.le_antisymm h1 h2) hl hm
/-- a list told in order -/
def ord (ns : List Int) : List Int := ns.mergeSort (fun a b => decide (a ≤ b))
theorem ord_perm (ns : List Int) : (ord ns).Perm ns := List.mergeSort_perm ns _
theorem ord_ris (ns : List Int) : (ord ns).Pairwise (· ≤ ·) := by
  have h := List.pairwise_mergeSort (le := fun a b : Int => decide (a ≤ b)) (fun a b c h1 h2 => by simp only [decide_eq_true_iff] at *; omega) (fun a b => by simp only [Bool.or_eq_true, decide_eq_true_iff]; omega) ns
  exact h.imp fun {a b} h => of_decide_eq_true h
theorem erf_sortL {ns : List Int} (h : Er K ta σ H ns) : ErF K (tCB (rSortL K) (tCons ta tNil)) σ H (ord ns) := fun H1 e Q q =>
  h H1 e _ fun v H2 e2 ⟨p, e3, hs⟩ => ⟨p, ns, by rw [e3], lst_int hs, fun ns' l hp hr hn => by
    have e4 : ns' = ord ns := sort_uniq (hp.trans (ord_perm ns).symm) hr (ord_ris ns)
    subst e4
    exact q l _ (fresh_back e2 hn) (e2.trans (Ex.new hn)) ⟨_, upd_same, int_all2⟩⟩
end
end Rf
set_option Elab.async false
set_option linter.all false
set_option maxRecDepth 100000
set_option maxHeartbeats 4000000
namespace Rf
open PySem L2 Evl
/-! ### a word of two letters in a word -/
def hasP (a b : Bool) : List Bool → Bool
  | x :: y :: r => (x == a && y == b) || hasP a b (y :: r)
  | _ => false
theorem hasP_iff (a b : Bool) : ∀ w : List Bool, hasP a b w = true ↔ ∃ i, (w.drop i).take 2 = [a, b]
  | [] => by simp [hasP]
  | [x] => by
    simp only [hasP, Bool.false_eq_true, false_iff, not_exists]
    intro i
    cases i with
    | zero => simp
    | succ i => simp
  | x :: y :: r => by
    have ih := hasP_iff a b (y :: r)
    simp only [hasP, Bool.or_eq_true, Bool.and_eq_true, beq_iff_eq]
    rw [ih]
    constructor
    · rintro (⟨h1, h2⟩ | ⟨i, h⟩)
      · exact ⟨0, by simp [h1, h2]⟩
      · exact ⟨i + 1, by simpa using h⟩
    · rintro ⟨i, h⟩
      cases i with
      | zero => simp at h; exact .inl h
      | succ i => exact .inr ⟨i, by simpa using h⟩
theorem map_sg_inj {w v : List Bool} (h : w.map sg = v.map sg) : w = v := tx_inj (by unfold tx; rw [h])
theorem in_word (a b : Bool) (w : List Bool) : (!(Builtin.Str.occurrences (tx w) (tx [a, b]) 0 (tx w).length 1).isEmpty) = hasP a b w := by
  rw [Bool.eq_iff_iff, PySem.StrLaws.found_iff, hasP_iff]
  have key : ∀ i, (Builtin.Str.subAt (tx w) (tx [a, b]) i = true) ↔ (w.drop i).take 2 = [a, b] := fun i => by
    unfold Builtin.Str.subAt
    rw [tx_len, beq_iff_eq]
    constructor
    · intro h
      have h2 := congrArg Array.toList h
      rw [Array.toList_extract, tx_list, tx_list] at h2
      have h3 : ((w.drop i).take 2).map sg = [a, b].map sg := by
        rw [← h2]
        show _ = List.take (i + 2 - i) (List.drop i (w.map sg))
        rw [Nat.add_sub_cancel_left, List.map_take, List.map_drop]
      exact map_sg_inj h3
    · intro h
      apply Array.ext'
      rw [Array.toList_extract, tx_list, tx_list]
      show List.take (i + 2 - i) (List.drop i (w.map sg)) = _
      rw [Nat.add_sub_cancel_left, ← List.map_drop, ← List.map_take, h]
  constructor
  · rintro ⟨i, _, h⟩
    exact ⟨i, (key i).mp h⟩
  · rintro ⟨i, h⟩
    refine ⟨i, ?_, (key i).mpr h⟩
    have h2 := congrArg List.length h
    rw [List.length_take, List.length_drop] at h2
    simp only [List.length_cons, List.length_nil] at h2
    rw [tx_len, tx_len]
    simp only [List.length_cons, List.length_nil]
    omega
def rNotInT : R2 := fun x y H Q => ∃ i j, x = .str i ∧ y = .str j ∧ Q (.bl (!(!(Builtin.Str.occurrences j i 0 j.length 1).isEmpty))) H
section
variable {α β γ δ : Type} [Rep α] [Rep β] [Rep γ] [Rep δ] {K : PySem.W.Frag} {σ : L2.St} {H H' : Hp} {ta tb tc te tl : TE} {t u tt : TT} {X : Cx} {D : Ends} {tu tw tz : TS}
theorem oNotInT : OpR X (compareOp .NotIn) rNotInT := op_notIn_str
theorem er_notInW {a b : Bool} {w : List Bool} (ha : Er K ta σ H (tx [a, b])) (hb : Er K tb σ H (tx w)) : Er K (tOp rNotInT ta tb) σ H (!hasP a b w) :=
  er_ev (ev_op (er_s ha) (er_s hb) (rv_val fun H1 _ Q q => ⟨_, _, rfl, rfl, by rw [in_word]; exact q⟩)) fun _ _ => rfl
/-! ### a number not in a list -/
theorem inV_int (x : Int) : ∀ ns : List Int, inV (.int x) (ns.map V.int) = ns.contains x
  | [] => rfl
  | a :: ns => by
    have h := inV_int x ns
    unfold inV at h ⊢
    rw [List.map_cons, List.any_cons, h, List.contains_cons]
    congr 1
    show (a == x) = (x == a)
    rw [Bool.eq_iff_iff, beq_iff_eq, beq_iff_eq]
    exact ⟨fun e => e.symm, fun e => e.symm⟩
theorem flat_ints : ∀ ns : List Int, (ns.map V.int).all flatV = true
  | [] => rfl
  | a :: ns => by rw [List.map_cons, List.all_cons, flat_ints ns]; rfl
theorem er_notInL {x : Int} {ns : List Int} (ha : Er K ta σ H x) (hb : Er K tb σ H ns) : Er K (tOp (rIn K true) ta tb) σ H (!ns.contains x) :=
  er_two ha hb fun v w H1 _ rv rw_ Q q => by
    obtain rfl : v = .int x := rv
    obtain ⟨p, rfl, h⟩ := rw_
    exact ⟨p, ns.map V.int, rfl, .inl (lst_int h), rfl, flat_ints ns, q _ H1 (Ex.refl H1) (by rw [inV_int]; rfl)⟩
/-! ### numbers' bits -/
def rMulX : R2 := rI CMulX fun i j => .int (i * j)
theorem oMulX : OpR X (binaryOp .Mult) rMulX := op_mulX
theorem er_mulX {i j : Int} (ha : Er K ta σ H i) (hb : Er K tb σ H j) (hc : CMulX i j) : Er K (tOp rMulX ta tb) σ H (i * j) := er_ev (ev_op (er_i ha) (er_i hb) (rv_I hc)) fun _ _ => rfl
/-- at most n bits -/
def Bits (n : Nat) (z : Int) : Prop := z.natAbs < 2 ^ n
theorem bits_of {n : Nat} {z : Int} (h : Builtin.Int.intBits z ≤ n) : Bits n z := by
  unfold Bits
  by_cases h0 : z.natAbs = 0
  · rw [h0]; exact Nat.pow_pos (by decide)
  · have h2 : z.natAbs.log2 + 1 ≤ n := by
      unfold Builtin.Int.intBits at h
      rw [if_neg (by rw [beq_iff_eq]; omega)] at h
      exact h
    exact Nat.lt_of_lt_of_le Nat.lt_log2_self (Nat.pow_le_pow_right (by decide) h2)
theorem of_bits {n : Nat} {z : Int} (h : Bits n z) : Builtin.Int.intBits z ≤ n := by
  unfold Builtin.Int.intBits
  split
  · omega
  · rename_i h0
    have h1 : z.natAbs ≠ 0 := by rw [beq_iff_eq] at h0; omega
    have := (Nat.log2_lt h1).mpr h
    omega
theorem bits_sub {n : Nat} {a b : Int} (ha : Bits n a) (hb : Bits n b) : Bits (n + 1) (a - b) := by
  unfold Bits at *
  rw [Nat.pow_succ]
  omega
theorem bits_up {n m : Nat} {a : Int} (ha : Bits n a) (h : n ≤ m) : Bits m a := Nat.lt_of_lt_of_le ha (Nat.pow_le_pow_right (by decide) h)
theorem bits_mul {n : Nat} {a b : Int} (ha : Bits n a) (hb : Bits n b) (hn : n ≤ 2000000) : CMulX a b := by
  have h1 := of_bits ha
  have h2 := of_bits hb
  unfold CMulX
  omega
/-! ### comprehensions over zip(xs, ys) -/
theorem lc_zip {a b : Addr} {xs ys : List V} {g : TG} {vs : List Nat} {H1 : Hp} {A : Addr} {Qd : Hp → Prop} (Pv : Nat → Hp → Prop) (h0 : Pv 0 (upd H1 A (.lst []))) (hl : ∀ i H, Pv i H → SqL K H a xs ∧ SqL K H b ys)
    (hs : ∀ i x y T H, xs[i]? = some x → ys[i]? = some y → Pv i H → H T = none → g (.ref T) (wipe σ vs) (upd H T (.tup [x, y])) fun σ2 H2 => wipe σ2 vs = wipe σ vs ∧ tt σ2 H2 fun b H3 =>
      if b = true then te σ2 H3 fun y H4 => ∃ acc, H4 A = some (.lst acc) ∧ acc.length < sizeLine ∧ Pv (i + 1) (upd H4 A (.lst (acc ++ [y]))) else Pv (i + 1) H3) (hd : ∀ H, Pv (min xs.length ys.length) H → Qd H) :
    ∃ W : Nat → Nat → Hp → Prop, (∃ m, W 0 m (upd H1 A (.lst []))) ∧ ∀ i m H, W i m H →
      ((Itz K a b).stop i H ∧ Qd H) ∨ ((Itz K a b).go i H ∧ ∃ Nx : Hp → Prop, (∀ H', Nx H' → ∃ m', m' < m ∧ W (i + 1) m' H') ∧ ∀ v H', (Itz K a b).yld i H v H' → g v (wipe σ vs) H' fun σ2 H2 => wipe σ2 vs = wipe σ vs ∧ tt σ2 H2 fun b H3 =>
        if b = true then te σ2 H3 fun y H4 => ∃ acc, H4 A = some (.lst acc) ∧ acc.length < sizeLine ∧ Nx (upd H4 A (.lst (acc ++ [y]))) else Nx H3) := by
  refine ⟨fun i m H => m = min xs.length ys.length - i ∧ i ≤ min xs.length ys.length ∧ Pv i H, ⟨min xs.length ys.length, by simp, Nat.zero_le _, h0⟩, ?_⟩
  rintro i m H ⟨rfl, hi, p⟩
  obtain ⟨qx, qy⟩ := hl i H p
  by_cases hlt : i < min xs.length ys.length
  · have hx : i < xs.length := by omega
    have hy : i < ys.length := by omega
    refine .inr ⟨⟨xs, ys, xs[i], ys[i], qx, qy, by simp [hx], by simp [hy]⟩, Pv (i + 1), fun H' p' => ⟨min xs.length ys.length - (i + 1), by omega, rfl, hlt, p'⟩, fun v H' y => ?_⟩
    obtain ⟨T, x', y', rfl, hT, rfl, f1, f2⟩ := y
    exact hs i x' y' T H (f1 xs qx) (f2 ys qy) p hT
  · have e : i = min xs.length ys.length := by omega
    subst e
    exact .inl ⟨⟨xs, ys, qx, qy, by omega⟩, hd H p⟩
theorem erf_lcZ {as : List α} {bs : List β} {i0 j : Nat} {vs : List Nat} {f : α → β → γ} (h1 : Er K ta σ H as) (h2 : Er K tb σ H bs) (hz : as.length ≤ 40000) (hw : ∀ x y, wipe (((wipe σ vs).set i0 (some x)).set j (some y)) vs = wipe σ vs)
    (he : ∀ (i : Nat) (a : α) (b : β) (v w : V) (H1 : Hp), Ex H H1 → as[i]? = some a → bs[i]? = some b → Rep.rep K H1 v a → Rep.rep K H1 w b → Es K te (((wipe σ vs).set i0 (some v)).set j (some w)) H1 (f a b)) :
    ErF K (tLc (iZip K (tCons ta (tCons tb tNil))) (gTwo K i0 j) tYes te vs) σ H ((as.zip bs).map fun c => f c.1 c.2) := fun H0 e Q q =>
  h1 H0 e _ fun v0 H1 e1 r1 => h2 H1 (e.trans e1) _ fun v1 H2 e2 r2 => by
    obtain ⟨a0, rfl, xs, hs, hall⟩ := Rep.mono (K := K) e2 r1
    obtain ⟨b0, rfl, ys, hs2, hall2⟩ := r2
    refine ⟨a0, b0, xs, ys, rfl, hs, hs2, fun A hA => lc_zip (xs := xs) (ys := ys) (fun i H' => Cl K H2 A H' ((((as.zip bs)).take i).map fun c => f c.1 c.2)) (cl_start hA) (fun i H' c => ⟨ex_l c.2.1 hs, ex_l c.2.1 hs2⟩) (fun i x y T H' hx hy c hT => ?_) (fun H' c => ?_)⟩
    · obtain ⟨a, ha, r⟩ := hall.getV hx
      obtain ⟨b, hb, r'⟩ := hall2.getV hy
      have hi : i < as.length := (List.getElem?_eq_some_iff.mp ha).1
      have hz' : (as.zip bs)[i]? = some (a, b) := by rw [List.getElem?_zip_eq_some]; exact ⟨ha, hb⟩
      have cT : Cl K H2 A (upd H' T (.tup [x, y])) ((((as.zip bs)).take i).map fun c => f c.1 c.2) := ⟨c.1, c.2.1.trans (Ex.new hT), c.2.2.up (Ex.new hT)⟩
      refine gTwo_run (st_of upd_same) ⟨hw _ _, cl_turn cT ?_ et_yes (fun _ => he i a b x y H2 ((e.trans e1).trans e2) ha hb r r') fun H'' c' => ?_⟩
      · rw [List.length_map, List.length_take]
        omega
      · rw [take_succ_some hz', List.map_append]
        simpa using c'
    · rw [hall.len, hall2.len, ← List.length_zip, List.take_length] at c
      exact q A H' (fresh_back (e1.trans e2) hA) ((e1.trans e2).trans c.2.1) c.2.2
end
end Rf
set_option Elab.async false
set_option linter.all false
set_option maxRecDepth 100000
set_option maxHeartbeats 4000000
namespace Rf
open PySem L2 Evl
/-! ### an instance of two lists of ints -/
theorem ne_pc : ¬ (("places" : Str) = "cuts") := by decide +kernel
def zf (p q : Addr) : List (Str × V) := putF "cuts" (.ref q) (putF "places" (.ref p) [])
theorem zf_p (p q : Addr) : (zf p q).lookup ("places" : Str) = some (.ref p) := by
  unfold zf
  rw [lookup_putF, if_neg ne_pc, lookup_putF, if_pos rfl]
theorem zf_c (p q : Addr) : (zf p q).lookup ("cuts" : Str) = some (.ref q) := by
  unfold zf
  rw [lookup_putF, if_pos rfl]
theorem zf_no (p q : Addr) {m : Str} (h1 : ¬ m = "cuts") (h2 : ¬ m = "places") : (zf p q).lookup m = none := by
  unfold zf
  rw [lookup_putF, if_neg h1, lookup_putF, if_neg h2]
  all_goals rfl
structure ZC (K : PySem.W.Frag) (C : Addr) : Prop where
  cl : Cls K C
  nP : NoAttr K C "places"
  nC : NoAttr K C "cuts"
  g : PySem.W.nsIn K mainGlobals "Zigzag" = some (some (.ref C))
theorem ZC.one {K : PySem.W.Frag} {C C' : Addr} (h : ZC K C) (h' : ZC K C') : C = C' := by
  have e := h.g.symm.trans h'.g
  cases e
  rfl
structure Zz where
  ps : List Int
  cs : List Int
/-- .. where it stands, its lists to be changed -/
def ZAt (K : PySem.W.Frag) (H : Hp) (x p q : Addr) (z : Zz) : Prop := ∃ C dx, ZC K C ∧ H x = some (.ins C dx (zf p q)) ∧ H p = some (.lst (z.ps.map V.int)) ∧ H q = some (.lst (z.cs.map V.int))
instance : Rep Zz := ⟨fun K H v z => ∃ x p q, v = .ref x ∧ ZAt K H x p q z, fun e ⟨x, p, q, h1, C, dx, h2, h3, h4, h5⟩ => ⟨x, p, q, h1, C, dx, h2, e _ _ h3, e _ _ h4, e _ _ h5⟩⟩
section
variable {K : PySem.W.Frag} {H H' : Hp} {x p q : Addr} {z : Zz}
theorem ZAt.up (h : ZAt K H x p q z) (e : Ex H H') : ZAt K H' x p q z := by
  obtain ⟨C, dx, h1, h2, h3, h4⟩ := h
  exact ⟨C, dx, h1, e _ _ h2, e _ _ h3, e _ _ h4⟩
theorem ZAt.rep (h : ZAt K H x p q z) : Rep.rep K H (.ref x) z := by
  exact ⟨x, p, q, rfl, h⟩
theorem ZAt.but {y : Addr} (h : ZAt K H x p q z) (e : ExBut y H H') (h1 : x ≠ y) (h2 : p ≠ y) (h3 : q ≠ y) : ZAt K H' x p q z := by
  obtain ⟨C, dx, k1, k2, k3, k4⟩ := h
  exact ⟨C, dx, k1, e _ _ h1 k2, e _ _ h2 k3, e _ _ h3 k4⟩
theorem own_int {ns : List Int} (h : Own K H p ns) : H p = some (.lst (ns.map V.int)) := by
  obtain ⟨xs, h1, h2⟩ := h
  rw [← all2_int h2]; exact h1
theorem int_own {ns : List Int} (h : H p = some (.lst (ns.map V.int))) : Own K H p ns := ⟨_, h, int_all2⟩
end
/-- a list of ints that stands tracked -/
structure Lo where
  l : List Int
instance : Rep Lo := ⟨fun _ H v a => ∃ p, v = .ref p ∧ H p = some (.lst (a.l.map V.int)), fun e ⟨p, h1, h2⟩ => ⟨p, h1, e _ _ h2⟩⟩
theorem lo_lst {K : PySem.W.Frag} {H : Hp} {v : V} {as : List Int} (h : Rep.rep K H v (Lo.mk as)) : Rep.rep K H v as := by
  obtain ⟨p, h1, h2⟩ := h
  exact ⟨p, h1, int_lst (sq_of h2)⟩
/-- an instance, new, and its lists -/
def New3 (H : Hp) (x p q : Addr) : Prop := H x = none ∧ H p = none ∧ H q = none ∧ x ≠ p ∧ x ≠ q ∧ p ≠ q
def ErZ (K : PySem.W.Frag) (te : TE) (σ : L2.St) (H : Hp) (z : Zz) : Prop := ∀ H1, Ex H H1 → ∀ Q : VK, (∀ x p q H2, New3 H1 x p q → Ex H1 H2 → ZAt K H2 x p q z → Q (.ref x) H2) → te σ H1 Q
def PrZ1 {α : Type} [Rep α] (K : PySem.W.Frag) (pre : α → Prop) (f : α → Zz) : Sp := fun vs H Q _ => ∃ v a, vs = [v] ∧ Rep.rep K H v a ∧ pre a ∧ ∀ x p q H', New3 H x p q → Ex H H' → ZAt K H' x p q (f a) → Q (.ref x) H'
/-- what __init__ promises -/
def PrInit (K : PySem.W.Frag) : Sp := fun vs H Q _ => ∃ H0 x dx a b C z, vs = [.ref x, a, b] ∧ ZC K C ∧ H x = some (.ins C dx []) ∧ H0 x = none ∧ Ex H0 H ∧ Rep.rep K H0 a (z : Zz).ps ∧ Rep.rep K H0 b z.cs ∧
  ∀ p q H', H p = none → H q = none → p ≠ q → Ex H0 H' → ZAt K H' x p q z → Q .non H'
theorem New3.back {H H1 : Hp} {x p q : Addr} (h : New3 H1 x p q) (e : Ex H H1) : New3 H x p q := ⟨fresh_back e h.1, fresh_back e h.2.1, fresh_back e h.2.2.1, h.2.2.2⟩
section
variable {α β γ δ : Type} [Rep α] [Rep β] [Rep γ] [Rep δ] {K : PySem.W.Frag} {σ : L2.St} {H H' : Hp} {ta tb tc te tl : TE} {t u tt : TT} {X : Cx} {D : Ends} {tu tw tz : TS} {z : Zz} {C : Addr}
theorem ErZ.er (h : ErZ K te σ H z) : Er K te σ H z := fun H1 e Q q => h H1 e Q fun x p q' H2 _ e2 o => q _ H2 e2 o.rep
theorem er_fldP (h : Er K te σ H z) : Er K (tFld K te "places") σ H z.ps := fun H1 e Q k => h H1 e _ fun v H2 e2 ⟨x, p, q, ev, C, dx, zc, hx, hp, hq⟩ => ⟨x, C, dx, zf p q, .ref p, ev, hx, zc.cl, zc.nP, zf_p p q, k _ H2 e2 ⟨p, rfl, int_lst (sq_of hp)⟩⟩
theorem er_fldC (h : Er K te σ H z) : Er K (tFld K te "cuts") σ H z.cs := fun H1 e Q k => h H1 e _ fun v H2 e2 ⟨x, p, q, ev, C, dx, zc, hx, hp, hq⟩ => ⟨x, C, dx, zf p q, .ref q, ev, hx, zc.cl, zc.nC, zf_c p q, k _ H2 e2 ⟨q, rfl, int_lst (sq_of hq)⟩⟩
theorem er_lo {as : List Int} (h : Er K te σ H (Lo.mk as)) : Er K te σ H as := fun H1 e Q q => h H1 e Q fun v H2 e2 r => q v H2 e2 (lo_lst r)
theorem ErF.lo {as : List Int} (h : ErF K te σ H as) : Er K te σ H (Lo.mk as) := fun H1 e Q q => h H1 e Q fun p H2 _ e2 o => q _ H2 e2 ⟨p, rfl, own_int o⟩
theorem er_loP (h : Er K te σ H z) : Er K (tFld K te "places") σ H (Lo.mk z.ps) := fun H1 e Q k => h H1 e _ fun v H2 e2 ⟨x, p, q, ev, C, dx, zc, hx, hp, hq⟩ => ⟨x, C, dx, zf p q, .ref p, ev, hx, zc.cl, zc.nP, zf_p p q, k _ H2 e2 ⟨p, rfl, hp⟩⟩
theorem er_loC (h : Er K te σ H z) : Er K (tFld K te "cuts") σ H (Lo.mk z.cs) := fun H1 e Q k => h H1 e _ fun v H2 e2 ⟨x, p, q, ev, C, dx, zc, hx, hp, hq⟩ => ⟨x, C, dx, zf p q, .ref q, ev, hx, zc.cl, zc.nC, zf_c p q, k _ H2 e2 ⟨q, rfl, hq⟩⟩
/-- xs + ys, tracked lists of ints -/
theorem erf_catI {as bs : List Int} (ha : Er K ta σ H (Lo.mk as)) (hb : Er K tb σ H (Lo.mk bs)) (hl : as.length + bs.length ≤ 100000) : ErF K (tOp rCat ta tb) σ H (as ++ bs) :=
  erf_two ha hb fun x y H1 _ rx ry Q q => by
    obtain ⟨p, rfl, h1⟩ := rx
    obtain ⟨p', rfl, h2⟩ := ry
    refine ⟨p, p', _, _, rfl, rfl, h1, h2, by rw [List.length_map, List.length_map]; exact sz_of hl, fun l hn => q l _ hn (Ex.new hn) (int_own ?_)⟩
    rw [List.map_append]
    exact upd_same
/-- some new list of ints -/
def ErL (_ : PySem.W.Frag) (te : TE) (σ : L2.St) (H : Hp) (P : List Int → Prop) : Prop := ∀ H1, Ex H H1 → ∀ Q : VK, (∀ p out H2, P out → H1 p = none → Ex H1 H2 → H2 p = some (.lst (out.map V.int)) → Q (.ref p) H2) → te σ H1 Q
theorem ErF.some {as : List Int} {P : List Int → Prop} (h : ErF K te σ H as) (hp : P as) : ErL K te σ H P := fun H1 e Q q => h H1 e Q fun p H2 n e2 o => q p as H2 hp n e2 (own_int o)
theorem g_retL {P : List Int → Prop} (h : ErL K te σ H P) (k : ∀ p out H1, P out → H p = none → Ex H H1 → H1 p = some (.lst (out.map V.int)) → D.rt (.ref p) H1) : Gx K (tRet te D) σ H := fun H1 e =>
  h H1 e _ fun p out H2 hp n e2 o => k p out H2 hp (fresh_back e n) (e.trans e2) o
/-- a list times a number -/
theorem erf_rep {as : List Int} {k : Int} (ha : ErF K ta σ H as) (hb : Er K tb σ H k) (h1 : -1000 ≤ k) (h2 : k ≤ 1000) (h3 : as.length ≤ 10) : ErF K (tOp rRep ta tb) σ H (List.replicate k.toNat as).flatten := fun H1 e Q q =>
  ha H1 e _ fun p H2 n e2 o => er_i hb H2 (e.trans e2) _ fun H3 e3 => by
    refine ⟨p, k, _, rfl, rfl, e3 _ _ (own_int o), by omega, by omega, ?_, fun l hn => q l _ (fresh_back (e2.trans e3) hn) ((e2.trans e3).trans (Ex.new hn)) (int_own ?_)⟩
    · rw [List.length_map, sizeLine_eq]
      have : as.length * k.toNat ≤ 10 * 1000 := Nat.mul_le_mul h3 (by omega)
      omega
    · have e4 : ((List.replicate k.toNat as).flatten).map V.int = (List.replicate k.toNat (as.map V.int)).flatten := by rw [List.map_flatten, List.map_replicate]
      rw [e4]
      exact upd_same
/-- a list of pairs of ints is walked -/
theorem erf_lcP {as : List (Int × Int)} {i0 j : Nat} {vs : List Nat} {f : Int → Int → β} (h : Er K tl σ H as) (hz : as.length ≤ 40000) (hw : ∀ x y, wipe (((wipe σ vs).set i0 (some x)).set j (some y)) vs = wipe σ vs)
    (he : ∀ (a b : Int) (H1 : Hp), Ex H H1 → Es K te (((wipe σ vs).set i0 (some (.int a))).set j (some (.int b))) H1 (f a b)) :
    ErF K (tLc (iList K tl) (gTwo K i0 j) tYes te vs) σ H (as.map fun c => f c.1 c.2) := by
  have q := erf_lcG (p := fun _ => true) (tt := tYes) (te := te) (vs := vs) (g := gTwo K i0 j) (f := fun c : Int × Int => f c.1 c.2) h hz fun i a v H1 e ha r H2 e2 R hR => by
    obtain ⟨p, rfl, x, y, hs, hx, hy⟩ := r
    obtain rfl : x = .int a.1 := hx
    obtain rfl : y = .int a.2 := hy
    exact gTwo_run (ex_t e2 hs) (hR _ (hw _ _) et_yes fun _ => he a.1 a.2 H1 e)
  rw [filter_yes] at q
  exact q
/-- over a tuple that is displayed -/
theorem g_forT {j : Nat} {ta : TA} {as : List α} (h : EaL K ta σ H as) (hl : as.length ≤ 100000) (Inv : Hp → Nat → L2.St → Hp → Prop) (h0 : ∀ B H1, Ex H B → Ex B H1 → Inv B 0 σ H1) (hI : ∀ B i σ' H', Inv B i σ' H' → Ex B H')
    (hs : ∀ B i a v σ' H', Ex H B → as[i]? = some a → Rep.rep K B v a → Inv B i σ' H' → Gx K (tu { D with nx := Inv B (i + 1), ct := Inv B (i + 1), bk := D.nx }) (σ'.set j (some v)) H') (hd : ∀ B σ' H', Ex H B → Inv B as.length σ' H' → D.nx σ' H') :
    Gx K (tFor (iTup K (tTup ta)) (gName j) tu D) σ H := fun H1 e => h H1 e _ fun vs B e2 hv => ⟨sz_of (by rw [hv.len]; exact hl), fun p hp => by
  have eB : Ex H (upd B p (.tup vs)) := (e.trans e2).trans (Ex.new hp)
  have hx : SqT K (upd B p (.tup vs)) p vs := st_of upd_same
  have hall : All2 (Rep.rep K (upd B p (.tup vs))) vs as := hv.mp fun v a r => Rep.mono (Ex.new hp) r
  exact ⟨p, rfl, ⟨vs, hx⟩, for_tup (xs := vs) (Inv (upd B p (.tup vs))) (h0 _ _ eB (Ex.refl _)) (fun i σ' H' _ iv => ex_t (hI _ i σ' H' iv) hx) (fun i x σ' H' hxi iv => by
    obtain ⟨a, ha, r⟩ := hall.getV hxi
    exact (hs _ i a x σ' H' eB ha r iv).here) fun σ' H' iv => hd _ σ' H' eB (by rw [← hall.len]; exact iv)⟩⟩
theorem q_forT {j : Nat} {ta : TA} {as : List α} (h : EaL K ta σ H as) (hl : as.length ≤ 100000) (Inv : Hp → Nat → L2.St → Hp → Prop) (h0 : ∀ B H1, Ex H B → Ex B H1 → Inv B 0 σ H1) (hI : ∀ B i σ' H', Inv B i σ' H' → Ex B H')
    (hs : ∀ B i a v σ' H', Ex H B → as[i]? = some a → Rep.rep K B v a → Inv B i σ' H' → Gx K (tu { D with nx := Inv B (i + 1), ct := Inv B (i + 1), bk := tz D }) (σ'.set j (some v)) H') (hd : ∀ B σ' H', Ex H B → Inv B as.length σ' H' → Gx K (tz D) σ' H') :
    Gx K (tSeq (tFor (iTup K (tTup ta)) (gName j) tu) tz D) σ H := g_forT (D := { D with nx := tz D }) h hl Inv h0 hI hs (fun B σ' H' e iv => (hd B σ' H' e iv).here)
theorem erz_make {ps cs : List Int} {E : XK} (zc : ZC K C) (h1 : Er K ta σ H ps) (h2 : Er K tb σ H cs) : ErZ K (tMake C (PrInit K) [] E (tCons ta (tCons tb tNil))) σ H ⟨ps, cs⟩ := fun H1 e Q k =>
  h1 H1 e _ fun v H2 e2 r1 => h2 H2 (e.trans e2) _ fun w H3 e3 r2 => fun x dx hx hdx hne => by
    have e4 : Ex H3 (upd (upd H3 dx (.own x)) x (.ins C dx [])) := (Ex.new hdx).trans (Ex.new (by rw [upd_ne (Ne.symm hne)]; exact hx))
    refine ⟨H3, x, dx, v, w, C, ⟨ps, cs⟩, rfl, zc, upd_same, hx, e4, Rep.mono e3 r1, r2, fun p q H' hp hq hpq e5 za => ⟨rfl, ?_⟩⟩
    have xp : x ≠ p := fun z => by rw [← z, upd_same] at hp; cases hp
    have xq : x ≠ q := fun z => by rw [← z, upd_same] at hq; cases hq
    exact k x p q H' (New3.back ⟨hx, fresh_back e4 hp, fresh_back e4 hq, xp, xq, hpq⟩ (e2.trans e3)) ((e2.trans e3).trans e5) za
theorem erz_call1 {pre : α → Prop} {f : α → Zz} {E : XK} {a : α} (h : Er K ta σ H a) (hp : pre a) : ErZ K (tCall (PrZ1 K pre f) [] E (tCons ta tNil)) σ H (f a) := fun H1 e Q k =>
  h H1 e _ fun v H2 e2 r => ⟨v, a, rfl, r, hp, fun x p q H3 n e3 r3 => k x p q H3 (n.back e2) (e2.trans e3) r3⟩
theorem q_asgZ {i : Nat} (h : ErZ K te σ H z) (k : ∀ x p q H1, New3 H x p q → Ex H H1 → ZAt K H1 x p q z → Gx K (tz D) (σ.set i (some (.ref x))) H1) : Gx K (tSeq (tAsg te (gName i)) tz D) σ H := fun H1 e =>
  h H1 e _ fun x p q H2 n e2 o => (k x p q H2 (n.back e) (e.trans e2) o).here
theorem g_retZ (h : ErZ K te σ H z) (k : ∀ x p q H1, New3 H x p q → Ex H H1 → ZAt K H1 x p q z → D.rt (.ref x) H1) : Gx K (tRet te D) σ H := fun H1 e =>
  h H1 e _ fun x p q H2 n e2 o => k x p q H2 (n.back e) (e.trans e2) o
theorem er_meth1 {pre : Zz → β → Prop} {f : Zz → β → γ} {E : XK} {b : β} {m : Str} (zc : ZC K C) (h1 : Er K ta σ H z) (h2 : Er K tb σ H b) (hp : pre z b) (m1 : ¬ m = "cuts") (m2 : ¬ m = "places") :
    Er K (tMeth C m (Pr2 K pre f) [] E ta (tCons tb tNil)) σ H (f z b) := fun H1 e Q k =>
  h1 H1 e _ fun v H2 e2 r => by
    obtain ⟨x, p, q, ev, C', dx, zc', hx, hpp, hq⟩ := id r
    have eC := zc.one zc'
    subst eC
    exact ⟨x, dx, zf p q, ev, hx, zf_no p q m1 m2, h2 H2 (e.trans e2) _ fun w H3 e3 r3 => ⟨v, w, z, b, rfl, Rep.mono e3 r, r3, hp, fun u H4 e4 r4 => k u H4 ((e2.trans e3).trans e4) r4⟩⟩
end
theorem len_prZ1 {α : Type} [Rep α] {K : PySem.W.Frag} {pre : α → Prop} {f : α → Zz} {vs : List V} {H : Hp} {Q : VK} {E : XK} (h : PrZ1 K pre f vs H Q E) : vs.length = 1 := by obtain ⟨_, _, rfl, _⟩ := h; rfl
theorem len_prInit {K : PySem.W.Frag} {vs : List V} {H : Hp} {Q : VK} {E : XK} (h : PrInit K vs H Q E) : vs.length = 3 := by obtain ⟨_, _, _, _, _, _, _, rfl, _⟩ := h; rfl
end Rf
set_option Elab.async false
set_option linter.all false
set_option maxRecDepth 100000
set_option maxHeartbeats 4000000
namespace Rf
/-! Zm: whether a zigzag shows what it tells, as the program says it and as the law says it. Plain lists. -/
/-! ### places -/
def arePl (n : Int) : Int → List Int → Bool
  | _, [] => true
  | last, p :: r => (decide (last < p) && decide (p < n)) && arePl n p r
theorem arePl_iff (n : Int) : ∀ (last : Int) (ps : List Int), arePl n last ps = true ↔ ((∀ p ∈ ps, last < p ∧ p < n) ∧ ps.Pairwise (· < ·))
  | last, [] => by simp [arePl]
  | last, p :: r => by
    simp only [arePl, Bool.and_eq_true, decide_eq_true_eq, arePl_iff n p r, List.pairwise_cons, List.mem_cons, forall_eq_or_imp]
    constructor
    · rintro ⟨⟨h1, h2⟩, h3, h4⟩
      exact ⟨⟨⟨h1, h2⟩, fun q hq => ⟨by have := h3 q hq; omega, (h3 q hq).2⟩⟩, fun q hq => (h3 q hq).1, h4⟩
    · rintro ⟨⟨⟨h1, h2⟩, h3⟩, h4, h5⟩
      exact ⟨⟨h1, h2⟩, fun q hq => ⟨h4 q hq, (h3 q hq).2⟩, h5⟩
def lPl (n : Int) (ps : List Int) : Bool := decide (ps = srt ps) && ps.all fun p => decide (0 ≤ p) && decide (p < n)
theorem lPl_eq (n : Int) (ps : List Int) : lPl n ps = arePl n (-1) ps := by
  rw [Bool.eq_iff_iff, arePl_iff]
  unfold lPl
  simp only [Bool.and_eq_true, decide_eq_true_eq, List.all_eq_true]
  constructor
  · rintro ⟨h1, h2⟩
    exact ⟨fun p hp => by have := h2 p hp; omega, srt_self.mp h1.symm⟩
  · rintro ⟨h1, h2⟩
    exact ⟨(srt_self.mpr h2).symm, fun p hp => by have := h1 p hp; omega⟩
/-! ### by turns -/
def turnsR : List Int → Bool
  | a :: b :: c :: r => (a != b) && (decide (a < b) != decide (b < c)) && turnsR (b :: c :: r)
  | [a, b] => a != b
  | _ => true
def stepsR (ns : List Int) : List Int := (ns.zip (ns.drop 1)).map fun c => c.2 - c.1
def lTurns (ns : List Int) : Bool := !(stepsR ns).contains 0 && (((stepsR ns).zip ((stepsR ns).drop 1)).map fun c => decide (c.1 * c.2 < 0)).all id
theorem stepsR_cons (a b : Int) (r : List Int) : stepsR (a :: b :: r) = (b - a) :: stepsR (b :: r) := rfl
theorem neg_iff (a b c : Int) (h : a ≠ b) (h2 : b ≠ c) : ((b - a) * (c - b) < 0) ↔ ((a < b) ≠ (b < c)) := by
  rcases Int.lt_or_gt_of_ne h with h | h <;> rcases Int.lt_or_gt_of_ne h2 with h2 | h2
  · have : 0 < (b - a) * (c - b) := Int.mul_pos (by omega) (by omega)
    simp only [h, h2, ne_eq, not_true, iff_false]
    omega
  · have : (b - a) * (c - b) < 0 := Int.mul_neg_of_pos_of_neg (by omega) (by omega)
    have h3 : ¬ b < c := by omega
    simp [h, h3, this]
  · have : (b - a) * (c - b) < 0 := Int.mul_neg_of_neg_of_pos (by omega) (by omega)
    have h3 : ¬ a < b := by omega
    simp [h2, h3, this]
  · have : 0 < (b - a) * (c - b) := Int.mul_pos_of_neg_of_neg (by omega) (by omega)
    have h3 : ¬ b < c := by omega
    have h4 : ¬ a < b := by omega
    simp only [h3, h4, ne_eq, not_true, iff_false]
    omega
theorem lTurns_eq : ∀ ns : List Int, lTurns ns = turnsR ns
  | [] => rfl
  | [a] => rfl
  | [a, b] => by
    unfold lTurns turnsR
    rw [stepsR_cons]
    rw [Bool.eq_iff_iff]
    simp [stepsR]
    omega
  | a :: b :: c :: r => by
    have ih := lTurns_eq (b :: c :: r)
    unfold lTurns at ih ⊢
    unfold turnsR
    rw [← ih, stepsR_cons, stepsR_cons b c r]
    rw [Bool.eq_iff_iff]
    simp only [List.drop_succ_cons, List.drop_zero, List.zip_cons_cons, List.map_cons, List.all_cons, id, Bool.and_eq_true, Bool.not_eq_true', List.contains_cons, Bool.or_eq_false_iff, bne_iff_ne, ne_eq, decide_eq_true_eq, beq_eq_false_iff_ne]
    constructor
    · rintro ⟨⟨h1, h2, h3⟩, h4, h5⟩
      refine ⟨⟨by omega, fun e => ?_⟩, ⟨h2, h3⟩, h5⟩
      have q := (neg_iff a b c (by omega) (by omega)).mp h4
      exact q (propext (decide_eq_decide.mp e))
    · rintro ⟨⟨h1, h2⟩, ⟨h3, h4⟩, h5⟩
      exact ⟨⟨by omega, h3, h4⟩, (neg_iff a b c (by omega) (by omega)).mpr fun e => h2 (decide_eq_decide.mpr (by rw [e])), h5⟩
/-! ### stretches -/
def upR : List Int → Bool
  | a :: b :: r => decide (a ≤ b) && upR (b :: r)
  | _ => true
def dnR : List Int → Bool
  | a :: b :: r => decide (a ≥ b) && dnR (b :: r)
  | _ => true
theorem upR_iff : ∀ l : List Int, upR l = true ↔ l.Pairwise (· ≤ ·)
  | [] => by simp [upR]
  | [a] => by simp [upR]
  | a :: b :: r => by
    simp only [upR, Bool.and_eq_true, decide_eq_true_eq]
    rw [upR_iff (b :: r), List.pairwise_cons (a := a)]
    constructor
    · rintro ⟨h1, h2⟩
      refine ⟨fun y hy => ?_, h2⟩
      rcases List.mem_cons.mp hy with e | e
      · omega
      · have := (List.pairwise_cons.mp h2).1 y e; omega
    · rintro ⟨h1, h2⟩
      exact ⟨h1 b (by simp), h2⟩
theorem dnR_iff : ∀ l : List Int, dnR l = true ↔ l.Pairwise (· ≥ ·)
  | [] => by simp [dnR]
  | [a] => by simp [dnR]
  | a :: b :: r => by
    simp only [dnR, Bool.and_eq_true, decide_eq_true_eq]
    rw [dnR_iff (b :: r), List.pairwise_cons (a := a)]
    constructor
    · rintro ⟨h1, h2⟩
      refine ⟨fun y hy => ?_, h2⟩
      rcases List.mem_cons.mp hy with e | e
      · omega
      · have := (List.pairwise_cons.mp h2).1 y e; omega
    · rintro ⟨h1, h2⟩
      exact ⟨h1 b (by simp), h2⟩
theorem ord_up (l : List Int) : l = ord l ↔ upR l = true := by
  rw [upR_iff]
  constructor
  · intro h; rw [h]; exact ord_ris l
  · intro h; exact sort_uniq (ord_perm l).symm h (ord_ris l)
theorem ord_dn (l : List Int) : l = (ord l).reverse ↔ dnR l = true := by
  rw [dnR_iff]
  constructor
  · intro h
    rw [h, List.pairwise_reverse]
    exact ord_ris l
  · intro h
    have h2 : l.reverse = ord l := sort_uniq ((List.reverse_perm l).trans (ord_perm l).symm) (List.pairwise_reverse.mpr h) (ord_ris l)
    rw [← h2, List.reverse_reverse]
theorem up_take : ∀ (n : Nat) (l : List Int), n < l.length → ((List.range n).all fun i => decide (l.getD i 0 ≤ l.getD (i + 1) 0)) = upR (l.take (n + 1))
  | 0, l, h => by
    cases l with
    | nil => rfl
    | cons a r => rfl
  | n + 1, l, h => by
    match l, h with
    | a :: b :: r, h =>
      have ih := up_take n (b :: r) (by simpa using h)
      rw [List.range_succ_eq_map, List.all_cons, List.all_map]
      show (decide (a ≤ b) && (List.range n).all fun i => decide ((b :: r).getD i 0 ≤ (b :: r).getD (i + 1) 0)) = upR (a :: b :: r.take n)
      rw [ih]
      rfl
    | [a], h => simp at h
    | [], h => simp at h
theorem dn_take : ∀ (n : Nat) (l : List Int), n < l.length → ((List.range n).all fun i => decide (l.getD i 0 ≥ l.getD (i + 1) 0)) = dnR (l.take (n + 1))
  | 0, l, h => by
    cases l with
    | nil => rfl
    | cons a r => rfl
  | n + 1, l, h => by
    match l, h with
    | a :: b :: r, h =>
      have ih := dn_take n (b :: r) (by simpa using h)
      rw [List.range_succ_eq_map, List.all_cons, List.all_map]
      show (decide (a ≥ b) && (List.range n).all fun i => decide ((b :: r).getD i 0 ≥ (b :: r).getD (i + 1) 0)) = dnR (a :: b :: r.take n)
      rw [ih]
      rfl
    | [a], h => simp at h
    | [], h => simp at h
/-- a stretch's steps all up, or all down -/
def evenB (row : List Int) (a b : Nat) : Bool := ((List.range (b - a)).all fun i => decide (row.getD (a + i) 0 ≤ row.getD (a + i + 1) 0)) || (List.range (b - a)).all fun i => decide (row.getD (a + i) 0 ≥ row.getD (a + i + 1) 0)
def partB (l : List Int) : Bool := decide (l = ord l) || decide (l = (ord l).reverse)
theorem getD_drop (row : List Int) (a i : Nat) : (row.drop a).getD i 0 = row.getD (a + i) 0 := by
  rw [List.getD_eq_getElem?_getD, List.getElem?_drop, ← List.getD_eq_getElem?_getD]
theorem evenB_eq (row : List Int) (a b : Nat) (hab : a ≤ b) (hb : b < row.length) : evenB row a b = partB ((row.drop a).take (b + 1 - a)) := by
  have hl : b - a < (row.drop a).length := by rw [List.length_drop]; omega
  have h1 := up_take (b - a) (row.drop a) hl
  have h2 := dn_take (b - a) (row.drop a) hl
  have e : b - a + 1 = b + 1 - a := by omega
  simp only [getD_drop] at h1 h2
  rw [e] at h1 h2
  unfold evenB partB
  show (((List.range (b - a)).all fun i => decide (row.getD (a + i) 0 ≤ row.getD (a + (i + 1)) 0)) || (List.range (b - a)).all fun i => decide (row.getD (a + i) 0 ≥ row.getD (a + (i + 1)) 0)) = _
  rw [h1, h2, Bool.eq_iff_iff]
  simp only [Bool.or_eq_true, decide_eq_true_eq, ord_up, ord_dn]
/-! ### the whole -/
def endsR (n : Nat) (cs : List Int) : List Int := [0] ++ cs ++ [(n : Int) - 1]
def eAt (es : List Int) (k : Nat) : Nat := (es.getD k 0).toNat
def evensB (row cs : List Int) : Bool := (List.range (cs.length + 1)).all fun k => evenB row (eAt (endsR row.length cs) k) (eAt (endsR row.length cs) (k + 1))
def partsB (row cs : List Int) : Bool := (List.range (cs.length + 1)).all fun k => partB ((row.drop (eAt (endsR row.length cs) k)).take (eAt (endsR row.length cs) (k + 1) + 1 - eAt (endsR row.length cs) k))
theorem ends_ok {row cs : List Int} (h : arePl row.length (-1) cs = true) (h0 : row ≠ []) {k : Nat} (hk : k < cs.length + 1) :
    0 ≤ (endsR row.length cs).getD k 0 ∧ (endsR row.length cs).getD k 0 ≤ (endsR row.length cs).getD (k + 1) 0 ∧ (endsR row.length cs).getD (k + 1) 0 < row.length := by
  obtain ⟨h1, h2⟩ := (arePl_iff _ _ _).mp h
  have hl : 0 < row.length := List.length_pos_iff.mpr h0
  have at' : ∀ j, j < cs.length → (endsR row.length cs).getD (j + 1) 0 = cs.getD j 0 := fun j hj => by
    unfold endsR
    rw [List.append_assoc, List.singleton_append, List.getD_cons_succ, List.getD_eq_getElem?_getD, List.getElem?_append_left hj, ← List.getD_eq_getElem?_getD]
  have last : (endsR row.length cs).getD (cs.length + 1) 0 = (row.length : Int) - 1 := by
    unfold endsR
    rw [List.append_assoc, List.singleton_append, List.getD_cons_succ, List.getD_eq_getElem?_getD, List.getElem?_append_right (Nat.le_refl _)]
    simp
  have mem : ∀ j, j < cs.length → cs.getD j 0 ∈ cs := fun j hj => by
    rw [List.getD_eq_getElem?_getD, List.getElem?_eq_getElem hj]
    exact List.getElem_mem hj
  have zero : (endsR row.length cs).getD 0 0 = 0 := rfl
  have ris : ∀ j, j + 1 < cs.length → cs.getD j 0 < cs.getD (j + 1) 0 := fun j hj => by
    have q := List.pairwise_iff_getElem.mp h2 j (j + 1) (by omega) hj (by omega)
    rw [List.getD_eq_getElem?_getD, List.getD_eq_getElem?_getD, List.getElem?_eq_getElem hj, List.getElem?_eq_getElem (by omega : j < cs.length)]
    exact q
  cases k with
  | zero =>
    rw [zero]
    by_cases hc : 0 < cs.length
    · rw [at' 0 hc]
      have := h1 _ (mem 0 hc)
      omega
    · have e : cs.length = 0 := by omega
      have l2 := last
      rw [e] at l2
      rw [l2]
      omega
  | succ k =>
    have hk' : k < cs.length := by omega
    rw [at' k hk']
    have m1 := h1 _ (mem k hk')
    by_cases hc : k + 1 < cs.length
    · rw [at' (k + 1) hc]
      have m2 := h1 _ (mem (k + 1) hc)
      have := ris k hc
      omega
    · have e : k + 1 = cs.length := by omega
      rw [e, last]
      omega
theorem parts_eq {row cs : List Int} (h : arePl row.length (-1) cs = true) (h0 : row ≠ []) : evensB row cs = partsB row cs := by
  have key : ∀ k, k < cs.length + 1 → evenB row (eAt (endsR row.length cs) k) (eAt (endsR row.length cs) (k + 1)) = partB ((row.drop (eAt (endsR row.length cs) k)).take (eAt (endsR row.length cs) (k + 1) + 1 - eAt (endsR row.length cs) k)) := fun k hk => by
    obtain ⟨q1, q2, q3⟩ := ends_ok h h0 hk
    refine evenB_eq row _ _ ?_ ?_
    · unfold eAt; omega
    · unfold eAt; omega
  unfold evensB partsB
  rw [Bool.eq_iff_iff, List.all_eq_true, List.all_eq_true]
  exact ⟨fun q k hk => by rw [← key k (List.mem_range.mp hk)]; exact q k hk, fun q k hk => by rw [key k (List.mem_range.mp hk)]; exact q k hk⟩
def numsAt (row ps : List Int) : List Int := ps.map fun p => row.getD p.toNat 0
def flatRow (row : List Int) : Bool := decide (row = []) || (minI row == maxI row)
def showsB (row : List Int) (z : Zz) : Bool :=
  arePl row.length (-1) z.ps && (arePl row.length (-1) z.cs && (turnsR (numsAt row z.ps) &&
    (if flatRow row then decide (z.ps.length = min 1 row.length) && decide (z.cs = []) else evensB row z.cs && decide (z.ps.length = z.cs.length + 2))))
def dueB (row : List Int) (z : Zz) : Bool :=
  lPl row.length z.ps && (lPl row.length z.cs && (lTurns (numsAt row z.ps) &&
    (if flatRow row then decide (z.ps.length = (row.take 1).length) && decide (z.cs = []) else partsB row z.cs && decide (z.ps.length = z.cs.length + 2))))
theorem due_eq (row : List Int) (z : Zz) : dueB row z = showsB row z := by
  unfold dueB showsB
  rw [lPl_eq, lPl_eq, lTurns_eq, List.length_take]
  cases h1 : arePl row.length (-1) z.cs with
  | false => simp
  | true =>
    by_cases hf : flatRow row = true
    · rw [if_pos hf, if_pos hf]
    · rw [if_neg hf, if_neg hf, parts_eq h1]
      intro h0
      apply hf
      unfold flatRow
      rw [decide_eq_true h0]; rfl
/-! ### cuts -/
open PySem L2 Evl
theorem cut_take {α : Type} (as : List α) (k : Nat) : cutL as none (some (k : Int)) = as.take k := by
  unfold cutL
  rw [HT.sIx_none, HT.sIx_nat, List.drop_zero, Nat.sub_zero]
  rcases Nat.le_total k as.length with h | h
  · rw [Nat.min_eq_left h]
  · rw [Nat.min_eq_right h, List.take_of_length_le h, List.take_of_length_le (Nat.le_refl _)]
theorem cut_drop {α : Type} (as : List α) (k : Nat) : cutL as (some (k : Int)) none = as.drop k := by
  unfold cutL
  rw [HT.sIx_none, HT.sIx_nat]
  rcases Nat.le_total k as.length with h | h
  · rw [Nat.min_eq_left h, List.take_of_length_le (by rw [List.length_drop]; exact Nat.le_refl _)]
  · rw [Nat.min_eq_right h, List.drop_of_length_le h, List.drop_of_length_le (Nat.le_refl _), List.take_nil]
theorem cut_ab {α : Type} (as : List α) (a b : Nat) (hb : b ≤ as.length) (hab : a ≤ b) : cutL as (some (a : Int)) (some (b : Int)) = (as.drop a).take (b - a) := by
  unfold cutL
  rw [HT.sIx_nat, HT.sIx_nat, Nat.min_eq_left hb, Nat.min_eq_left (Nat.le_trans hab hb)]
theorem cut_le {α : Type} (as : List α) (lo hi : Option Int) : (cutL as lo hi).length ≤ as.length := by
  unfold cutL
  rw [List.length_take, List.length_drop]
  omega
section
variable {K : PySem.W.Frag} {σ : L2.St} {H : Hp} {ta tb te : TE} {t u : TT} {D : Ends} {tu tz : TS}
theorem q_no (h : Et K t σ H false) (k : Gx K (tz D) σ H) : Gx K (tSeq (tIfS t tu tNext) tz D) σ H := q_when h (fun e => by cases e) fun _ => k
theorem g_no (h : Et K t σ H false) (k : Gx K D.nx σ H) : Gx K (tIfS t tu tNext D) σ H := g_if h (fun e => by cases e) fun _ => k
theorem et_orN (h1 : Et K t σ H false) (h2 : Et K u σ H false) : Et K (tOr t u) σ H false := et_or' h1 fun _ => h2
theorem et_nY (h1 : Er K te σ H true) : Et K (tNot (tB te)) σ H false := et_not' (et_v h1)
/-- two new lists in a list -/
theorem q_asg2L {i : Nat} {as bs : List Int} (h1 : ErF K ta σ H as) (h2 : ErF K tb σ H bs)
    (k : ∀ l a b H1, H a = none → H b = none → H l = none → l ≠ a → l ≠ b → a ≠ b → Ex H H1 → H1 a = some (.lst (as.map V.int)) → H1 b = some (.lst (bs.map V.int)) → H1 l = some (.lst [.ref a, .ref b]) → Gx K (tz D) (σ.set i (some (.ref l))) H1) :
    Gx K (tSeq (tAsg (tLst (tCons ta (tCons tb tNil))) (gName i)) tz D) σ H := fun H1 e =>
  h1 H1 e _ fun a H2 na e2 oa => h2 H2 (e.trans e2) _ fun b H3 nb e3 ob => ⟨sz_of (by show 2 ≤ 100000; decide), fun l nl => by
    have ha := own_int oa
    have hb := own_int ob
    have la : l ≠ a := fun z => by rw [z, e3 _ _ ha] at nl; cases nl
    have lb : l ≠ b := fun z => by rw [z, hb] at nl; cases nl
    have ab : a ≠ b := fun z => by rw [z] at ha; rw [ha] at nb; cases nb
    have el : Ex H3 (upd H3 l (.lst [.ref a, .ref b])) := Ex.new nl
    exact (k l a b _ (fresh_back e na) (fresh_back (e.trans e2) nb) (fresh_back ((e.trans e2).trans e3) nl) la lb ab (((e.trans e2).trans e3).trans el) (el _ _ (e3 _ _ ha)) (el _ _ hb) upd_same).here⟩
/-- append to a list that an expression tells -/
theorem q_appE {p : Addr} {as : List Int} {a : Int} (ho : H p = some (.lst (as.map V.int))) (hv : Ev te σ H (.ref p)) (h : Er K tb σ H a) (hz : as.length ≤ 90000) (k : ∀ H1, ExBut p H H1 → H1 p = some (.lst ((as ++ [a]).map V.int)) → Gx K (tz D) σ H1) :
    Gx K (tSeq (tDrop (tBM K "list" rAppend te (tCons tb tNil))) tz D) σ H := fun H1 e => hv H1 e _ fun H2 e2 => ⟨Or.inl ⟨rfl, _, sq_of ((e.trans e2) _ _ ho)⟩, er_i h H2 (e.trans e2) _ fun H3 e3 => by
  have e4 := (e.trans e2).trans e3
  refine ⟨p, _, _, rfl, rfl, e4 _ _ ho, sz_lt (by rw [List.length_map]; omega), (k _ (fun q o hq q0 => ?_) ?_).here⟩
  · rw [upd_ne hq]; exact e4 _ _ q0
  · rw [List.map_append]
    exact upd_same⟩
theorem ev_ix2 {i : Nat} {l a b : Addr} (hv : σ[i]? = some (some (.ref l))) (hl : H l = some (.lst [.ref a, .ref b])) : Ev (tOp (rIxL K) (tVar i) (tC (.int 0))) σ H (.ref a) ∧ Ev (tOp (rIxL K) (tVar i) (tC (.int 1))) σ H (.ref b) :=
  ⟨fun H1 e Q q => ⟨.ref l, hv, l, [.ref a, .ref b], 0, .ref a, rfl, rfl, sq_of (e _ _ hl), rfl, q H1 (Ex.refl _)⟩, fun H1 e Q q => ⟨.ref l, hv, l, [.ref a, .ref b], 1, .ref b, rfl, rfl, sq_of (e _ _ hl), rfl, q H1 (Ex.refl _)⟩⟩
theorem q_parL {i j : Nat} {P P' : List Int → Prop} (h1 : ErL K ta σ H P) (h2 : ErL K tb σ H P') (k : ∀ v as w bs H1, P as → P' bs → Ex H H1 → Rep.rep K H1 v (Lo.mk as) → Rep.rep K H1 w (Lo.mk bs) → Gx K (tz D) ((σ.set i (some v)).set j (some w)) H1) :
    Gx K (tSeq (tPar i j (tCons ta (tCons tb tNil))) tz D) σ H := fun H1 e =>
  h1 H1 e _ fun p as H2 pa n e2 ha => h2 H2 (e.trans e2) _ fun q bs H3 pb n3 e3 hb => ⟨.ref p, .ref q, rfl, (k _ as _ bs H3 pa pb ((e.trans e2).trans e3) ⟨p, rfl, e3 _ _ ha⟩ ⟨q, rfl, hb⟩).here⟩
end
end Rf
set_option Elab.async false
set_option linter.all false
set_option maxRecDepth 100000
set_option maxHeartbeats 4000000
/-! Zo: orders and numbers. Plain lists. -/
namespace Rf
def rsW : List Bool → List Int
  | [] => [1]
  | b :: w => MC.step (!b) (rsW w)
theorem rest_len : ∀ w, (rsW w).length = w.length + 1
  | [] => rfl
  | b :: w => by rw [rsW, MC.step_len, rest_len w]; rfl
theorem rest_nn : ∀ w, MC.NN (rsW w)
  | [] => fun x hx => by simp [rsW] at hx; omega
  | b :: w => MC.nn_step (rest_nn w) _
/-- the ways on, at a place: what is behind in sums -/
theorem rest_u (w : List Bool) (a : Nat) (h : a ≤ w.length + 1) : (rsW (true :: w)).getD a 0 = ((rsW w).drop a).sum := by
  show (MC.sufs (rsW w)).getD a 0 = _
  unfold MC.sufs
  rw [List.getD_eq_getElem?_getD, List.getElem?_map, List.getElem?_range (by rw [rest_len]; omega)]
  rfl
theorem rest_d (w : List Bool) (a : Nat) (h : a ≤ w.length + 1) : (rsW (false :: w)).getD a 0 = ((rsW w).take a).sum := by
  show (MC.pres (rsW w)).getD a 0 = _
  unfold MC.pres
  rw [List.getD_eq_getElem?_getD, List.getElem?_map, List.getElem?_range (by rw [rest_len]; omega)]
  rfl
/-! ### a number's place in a row of ways -/
def pk : List Int → Int → Nat × Int
  | [], x => (0, x)
  | a :: l, x => if a ≤ x then ((pk l (x - a)).1 + 1, (pk l (x - a)).2) else (0, x)
theorem pk_ok : ∀ (l : List Int) (x : Int) (u : Nat), MC.NN l → 0 ≤ x → x < (l.take u).sum → (pk l x).1 < u ∧ (pk l x).1 < l.length ∧ 0 ≤ (pk l x).2 ∧ (pk l x).2 < l.getD (pk l x).1 0 ∧ x = (l.take (pk l x).1).sum + (pk l x).2
  | [], x, u, _, h0, h => by simp at h; omega
  | a :: l, x, 0, _, h0, h => by simp at h; omega
  | a :: l, x, u + 1, hn, h0, h => by
    rw [List.take_succ_cons, List.sum_cons] at h
    unfold pk
    by_cases c : a ≤ x
    · rw [if_pos c]
      obtain ⟨h1, h2, h3, h4, h5⟩ := pk_ok l (x - a) u (fun y hy => hn y (by simp [hy])) (by omega) (by omega)
      refine ⟨by omega, by simp; omega, h3, ?_, ?_⟩
      · simpa using h4
      · rw [List.take_succ_cons, List.sum_cons]
        show x = a + (l.take (pk l (x - a)).1).sum + (pk l (x - a)).2
        omega
    · rw [if_neg c]
      refine ⟨by omega, by simp, h0, ?_, by simp⟩
      show x < a
      omega
theorem pk_of : ∀ (l : List Int) (k : Nat) (y : Int), MC.NN l → k < l.length → 0 ≤ y → y < l.getD k 0 → pk l ((l.take k).sum + y) = (k, y)
  | [], k, y, _, hk, _, _ => by simp at hk
  | a :: l, 0, y, hn, hk, h0, h1 => by
    have h1' : y < a := h1
    unfold pk
    simp only [List.take_zero, List.sum_nil, Int.zero_add]
    rw [if_neg (by omega)]
  | a :: l, k + 1, y, hn, hk, h0, h1 => by
    have hn' : MC.NN l := fun z hz => hn z (by simp [hz])
    have hs : 0 ≤ (l.take k).sum := MC.sum_nn fun z hz => hn' z (List.mem_of_mem_take hz)
    have ih := pk_of l k y hn' (by simpa using hk) h0 (by simpa using h1)
    unfold pk
    rw [List.take_succ_cons, List.sum_cons, if_pos (by omega), show a + (l.take k).sum + y - a = (l.take k).sum + y by omega, ih]
/-! ### codes -/
def dec : List Bool → Nat → Int → List Nat
  | [], s, x => [s + (pk ((rsW []).drop s) x).1]
  | b :: w, s, x => (s + (pk ((rsW (b :: w)).drop s) x).1) :: dec w (if b then s + (pk ((rsW (b :: w)).drop s) x).1 else 0) (pk ((rsW (b :: w)).drop s) x).2
def enc : List Bool → Nat → List Nat → Int
  | w, s, [] => 0
  | [], s, a :: _ => (((rsW []).drop s).take (a - s)).sum
  | b :: w, s, a :: c => (((rsW (b :: w)).drop s).take (a - s)).sum + enc w (if b then a else 0) c
def val : List Bool → Nat → Nat → List Nat → Prop
  | _, _, _, [] => False
  | [], s, u, a :: c => s ≤ a ∧ a < u ∧ c = []
  | b :: w, s, u, a :: c => s ≤ a ∧ a < u ∧ val w (if b then a else 0) (if b then w.length + 1 else a) c
theorem nn_drop {l : List Int} (h : MC.NN l) (s : Nat) : MC.NN (l.drop s) := fun x hx => h x (List.mem_of_mem_drop hx)
theorem getD_dropI (l : List Int) (a i : Nat) : (l.drop a).getD i 0 = l.getD (a + i) 0 := by
  rw [List.getD_eq_getElem?_getD, List.getElem?_drop, ← List.getD_eq_getElem?_getD]
theorem dec_ok : ∀ (w : List Bool) (s u : Nat) (x : Int), u ≤ w.length + 1 → 0 ≤ x → x < (((rsW w).drop s).take (u - s)).sum → val w s u (dec w s x) ∧ enc w s (dec w s x) = x
  | [], s, u, x, hu, h0, h => by
    obtain ⟨h1, h2, h3, h4, h5⟩ := pk_ok ((rsW []).drop s) x (u - s) (nn_drop (rest_nn []) s) h0 h
    rw [List.length_drop, rest_len] at h2
    rw [getD_dropI] at h4
    have e0 : s + (pk ((rsW []).drop s) x).1 = 0 := by simp at h2; omega
    unfold dec
    refine ⟨⟨by omega, by omega, rfl⟩, ?_⟩
    show (((rsW []).drop s).take (s + (pk ((rsW []).drop s) x).1 - s)).sum = x
    rw [Nat.add_sub_cancel_left]
    rw [e0] at h4
    have h4' : (pk ((rsW []).drop s) x).2 < 1 := h4
    omega
  | b :: w, s, u, x, hu, h0, h => by
    obtain ⟨h1, h2, h3, h4, h5⟩ := pk_ok ((rsW (b :: w)).drop s) x (u - s) (nn_drop (rest_nn _) s) h0 h
    rw [List.length_drop, rest_len] at h2
    rw [getD_dropI] at h4
    unfold dec
    generalize hk : (pk ((rsW (b :: w)).drop s) x).1 = k at h1 h2 h4 h5
    generalize hy : (pk ((rsW (b :: w)).drop s) x).2 = y at h3 h4 h5
    have hl : (b :: w).length = w.length + 1 := rfl
    have nxt : val w (if b then s + k else 0) (if b then w.length + 1 else s + k) (dec w (if b then s + k else 0) y) ∧ enc w (if b then s + k else 0) (dec w (if b then s + k else 0) y) = y := by
      cases b with
      | true =>
        rw [rest_u w _ (by omega)] at h4
        refine dec_ok w (s + k) (w.length + 1) y (Nat.le_refl _) h3 ?_
        rw [List.take_of_length_le (by rw [List.length_drop, rest_len]; exact Nat.le_refl _)]
        exact h4
      | false =>
        rw [rest_d w _ (by omega)] at h4
        refine dec_ok w 0 (s + k) y (by omega) h3 ?_
        rw [List.drop_zero, Nat.sub_zero]
        exact h4
    refine ⟨⟨by omega, by omega, nxt.1⟩, ?_⟩
    show (((rsW (b :: w)).drop s).take (s + k - s)).sum + enc w (if b then s + k else 0) (dec w (if b then s + k else 0) y) = x
    rw [nxt.2, Nat.add_sub_cancel_left]
    omega
theorem sum_take_lt {l : List Int} (h : MC.NN l) {k u : Nat} (hk : k < u) {y : Int} (hy : y < l.getD k 0) (hl : k < l.length) : (l.take k).sum + y < (l.take u).sum := by
  have h1 := MC.sum_take_mono h (show k + 1 ≤ u by omega)
  have h2 : (l.take (k + 1)).sum = (l.take k).sum + l.getD k 0 := by
    rw [List.take_add_one, List.getElem?_eq_getElem hl, List.sum_append, List.getD_eq_getElem?_getD, List.getElem?_eq_getElem hl]
    simp
  omega
theorem enc_ok : ∀ (w : List Bool) (s u : Nat) (c : List Nat), u ≤ w.length + 1 → val w s u c → 0 ≤ enc w s c ∧ enc w s c < (((rsW w).drop s).take (u - s)).sum ∧ dec w s (enc w s c) = c
  | _, _, _, [], _, h => by unfold val at h; exact h.elim
  | [], s, u, a :: c, hu, h => by
    obtain ⟨h1, h2, rfl⟩ := h
    have hu' : u ≤ 1 := hu
    have ea : a = 0 := by omega
    have es : s = 0 := by omega
    have eu : u = 1 := by omega
    subst ea es eu
    decide
  | b :: w, s, u, a :: c, hu, h => by
    obtain ⟨h1, h2, h3⟩ := h
    have hl : (b :: w).length = w.length + 1 := rfl
    have hR : a - s < ((rsW (b :: w)).drop s).length := by rw [List.length_drop, rest_len]; omega
    have nxt : 0 ≤ enc w (if b then a else 0) c ∧ enc w (if b then a else 0) c < (rsW (b :: w)).getD a 0 ∧ dec w (if b then a else 0) (enc w (if b then a else 0) c) = c := by
      cases b with
      | true =>
        obtain ⟨q1, q2, q3⟩ := enc_ok w a (w.length + 1) c (Nat.le_refl _) h3
        refine ⟨q1, ?_, q3⟩
        rw [rest_u w a (by omega)]
        rw [List.take_of_length_le (by rw [List.length_drop, rest_len]; exact Nat.le_refl _)] at q2
        exact q2
      | false =>
        obtain ⟨q1, q2, q3⟩ := enc_ok w 0 a c (by omega) h3
        refine ⟨q1, ?_, q3⟩
        rw [rest_d w a (by omega)]
        rw [List.drop_zero, Nat.sub_zero] at q2
        exact q2
    obtain ⟨q1, q2, q3⟩ := nxt
    have hg : ((rsW (b :: w)).drop s).getD (a - s) 0 = (rsW (b :: w)).getD a 0 := by rw [getD_dropI, show s + (a - s) = a by omega]
    have hnn := nn_drop (rest_nn (b :: w)) s
    have hpk := pk_of ((rsW (b :: w)).drop s) (a - s) (enc w (if b then a else 0) c) hnn hR q1 (by rw [hg]; exact q2)
    have hs : 0 ≤ (((rsW (b :: w)).drop s).take (a - s)).sum := MC.sum_nn fun z hz => hnn z (List.mem_of_mem_take hz)
    show 0 ≤ (((rsW (b :: w)).drop s).take (a - s)).sum + enc w (if b then a else 0) c ∧ (((rsW (b :: w)).drop s).take (a - s)).sum + enc w (if b then a else 0) c < _ ∧ dec (b :: w) s ((((rsW (b :: w)).drop s).take (a - s)).sum + enc w (if b then a else 0) c) = a :: c
    refine ⟨by omega, sum_take_lt hnn (by omega) (by rw [hg]; exact q2) hR, ?_⟩
    unfold dec
    rw [hpk]
    show (s + (a - s)) :: dec w (if b then s + (a - s) else 0) _ = a :: c
    rw [show s + (a - s) = a by omega, q3]
/-! ### orders by codes -/
def ordC : List Int → List Nat → List Int
  | _, [] => []
  | left, a :: c => left.getD a 0 :: ordC (left.eraseIdx a) c
def codC : List Int → List Int → List Nat
  | _, [] => []
  | left, o :: os => left.idxOf o :: codC (left.eraseIdx (left.idxOf o)) os
/-- rises and falls, letter by letter -/
def hasW : List Bool → List Int → Prop
  | [], [_] => True
  | b :: w, x :: y :: r => (b = decide (x < y)) ∧ x ≠ y ∧ hasW w (y :: r)
  | _, _ => False
theorem ris_get {l : List Int} (h : l.Pairwise (· < ·)) {i j : Nat} (hi : i < l.length) (hj : j < l.length) : l.getD i 0 < l.getD j 0 ↔ i < j := by
  rw [List.getD_eq_getElem?_getD, List.getD_eq_getElem?_getD, List.getElem?_eq_getElem hi, List.getElem?_eq_getElem hj]
  show l[i] < l[j] ↔ i < j
  have key := List.pairwise_iff_getElem.mp h
  constructor
  · intro q
    rcases Nat.lt_trichotomy i j with c | c | c
    · exact c
    · subst c; omega
    · have := key j i hj hi c; omega
  · intro c
    exact key i j hi hj c
theorem erase_get (l : List Int) (a i : Nat) : (l.eraseIdx a).getD i 0 = if i < a then l.getD i 0 else l.getD (i + 1) 0 := by
  rw [List.getD_eq_getElem?_getD, List.getElem?_eraseIdx]
  split
  · rw [List.getD_eq_getElem?_getD]
  · rw [List.getD_eq_getElem?_getD]
theorem erase_ris {l : List Int} (h : l.Pairwise (· < ·)) (a : Nat) : (l.eraseIdx a).Pairwise (· < ·) := h.sublist (List.eraseIdx_sublist l a)
theorem erase_len {l : List Int} {a : Nat} (h : a < l.length) : (l.eraseIdx a).length = l.length - 1 := by
  rw [List.length_eraseIdx, if_pos h]
theorem ord_len : ∀ (left : List Int) (c : List Nat), (ordC left c).length = c.length
  | _, [] => rfl
  | left, a :: c => by show (ordC (left.eraseIdx a) c).length + 1 = _; rw [ord_len]; rfl
theorem erase_perm : ∀ {l : List Int} {a : Nat}, a < l.length → (l.getD a 0 :: l.eraseIdx a).Perm l
  | [], a, h => by simp at h
  | x :: r, 0, _ => List.Perm.refl _
  | x :: r, a + 1, h => by
    have ih := erase_perm (l := r) (a := a) (by simpa using h)
    have e : (x :: r).getD (a + 1) 0 = r.getD a 0 := rfl
    rw [e]
    exact (List.Perm.swap x (r.getD a 0) (r.eraseIdx a)).trans (ih.cons x)
theorem idx_get : ∀ {l : List Int} {a : Nat}, l.Pairwise (· < ·) → a < l.length → l.idxOf (l.getD a 0) = a
  | [], a, _, h => by simp at h
  | x :: r, 0, _, _ => by
    show (x :: r).idxOf x = 0
    exact List.idxOf_cons_self
  | x :: r, a + 1, hr, h => by
    obtain ⟨h1, h2⟩ := List.pairwise_cons.mp hr
    have ha : a < r.length := by simpa using h
    have ih := idx_get h2 ha
    have hm : r.getD a 0 ∈ r := by
      rw [List.getD_eq_getElem?_getD, List.getElem?_eq_getElem ha]
      exact List.getElem_mem ha
    show (x :: r).idxOf (r.getD a 0) = a + 1
    rw [List.idxOf_cons, show (x == r.getD a 0) = false by rw [beq_eq_false_iff_ne]; have := h1 _ hm; omega, ih]
    rfl
theorem get_idx {l : List Int} {o : Int} (h : o ∈ l) : l.idxOf o < l.length ∧ l.getD (l.idxOf o) 0 = o := by
  have h1 := List.idxOf_lt_length_of_mem h
  refine ⟨h1, ?_⟩
  rw [List.getD_eq_getElem?_getD, List.getElem?_eq_getElem h1]
  exact List.getElem_idxOf h1
theorem ord_ok : ∀ (w : List Bool) (s u : Nat) (left : List Int) (c : List Nat), left.Pairwise (· < ·) → left.length = w.length + 1 → u ≤ left.length → val w s u c → (ordC left c).Perm left ∧ hasW w (ordC left c) ∧ codC left (ordC left c) = c ∧ (∀ a, c.head? = some a → (ordC left c).head? = some (left.getD a 0))
  | _, _, _, _, [], _, _, _, h => by unfold val at h; exact h.elim
  | [], s, u, left, a :: c, hr, hl, hu, h => by
    obtain ⟨h1, h2, rfl⟩ := h
    have hl' : left.length = 1 := hl
    match left, hl' with
    | [x], _ =>
      have ea : a = 0 := by simp at hu; omega
      subst ea
      refine ⟨List.Perm.refl _, trivial, ?_, fun a h => by simp at h; subst h; rfl⟩
      simp [ordC, codC, List.idxOf]
  | b :: w, s, u, left, a :: c, hr, hl, hu, h => by
    obtain ⟨h1, h2, h3⟩ := h
    have hl' : left.length = w.length + 2 := hl
    have ha : a < left.length := by omega
    have el := erase_len ha
    have hu' : (if b then w.length + 1 else a) ≤ (left.eraseIdx a).length := by
      rw [el]
      split <;> omega
    obtain ⟨q1, q2, q3, q4⟩ := ord_ok w _ _ (left.eraseIdx a) c (erase_ris hr a) (by omega) hu' h3
    have hidx : left.idxOf (left.getD a 0) = a := idx_get hr ha
    have hcod : codC left (left.getD a 0 :: ordC (left.eraseIdx a) c) = a :: c := by
      show left.idxOf (left.getD a 0) :: codC (left.eraseIdx (left.idxOf (left.getD a 0))) (ordC (left.eraseIdx a) c) = _
      rw [hidx, q3]
    refine ⟨(q1.cons _).trans (erase_perm ha), ?_, hcod, fun a' h' => by simp at h'; subst h'; rfl⟩
    show hasW (b :: w) (left.getD a 0 :: ordC (left.eraseIdx a) c)
    match c, h3, q2, q4 with
    | [], h3, _, _ => unfold val at h3; exact h3.elim
    | a' :: c', h3, q2, q4 =>
      have q5 := q4 a' rfl
      have hb : (if b then a else 0) ≤ a' ∧ a' < (if b then w.length + 1 else a) := by
        cases w with
        | nil => exact ⟨h3.1, h3.2.1⟩
        | cons b' w' => exact ⟨h3.1, h3.2.1⟩
      have ho : ordC (left.eraseIdx a) (a' :: c') = (left.eraseIdx a).getD a' 0 :: ordC ((left.eraseIdx a).eraseIdx a') c' := rfl
      rw [ho] at q2 ⊢
      refine ⟨?_, ?_, q2⟩
      · rw [erase_get]
        cases b with
        | true =>
          simp only [if_true] at hb
          rw [if_neg (by omega)]
          symm
          exact decide_eq_true ((ris_get hr ha (by omega)).mpr (by omega))
        | false =>
          simp only [Bool.false_eq_true, if_false] at hb
          rw [if_pos hb.2]
          symm
          rw [decide_eq_false_iff_not, ris_get hr ha (by omega)]
          omega
      · rw [erase_get]
        intro z
        by_cases c : a' < a
        · rw [if_pos c] at z
          have := (ris_get hr (show a' < left.length by omega) ha).mpr c
          omega
        · rw [if_neg c] at z
          have hlt : a' + 1 < left.length := by
            cases b with
            | true => simp only [if_true] at hb; omega
            | false => simp only [Bool.false_eq_true, if_false] at hb; omega
          have := (ris_get hr ha hlt).mpr (by omega)
          omega
theorem cod_ok : ∀ (w : List Bool) (left order : List Int), left.Pairwise (· < ·) → left.length = w.length + 1 → order.Perm left → hasW w order →
    ordC left (codC left order) = order ∧ ∀ s u, (∀ o, order.head? = some o → s ≤ left.idxOf o ∧ left.idxOf o < u) → val w s u (codC left order)
  | [], left, order, hr, hl, hp, hw => by
    match order, hw with
    | [x], _ =>
      have hx : x ∈ left := hp.subset (by simp)
      obtain ⟨h1, h2⟩ := get_idx hx
      refine ⟨?_, fun s u h => ?_⟩
      · show [left.getD (left.idxOf x) 0] = [x]
        rw [h2]
      · obtain ⟨q1, q2⟩ := h x rfl
        exact ⟨q1, q2, rfl⟩
  | b :: w, left, order, hr, hl, hp, hw => by
    match order, hw with
    | x :: y :: r, hw =>
      obtain ⟨hb, hne, hw'⟩ := hw
      have hl' : left.length = w.length + 2 := hl
      have hx : x ∈ left := hp.subset (by simp)
      obtain ⟨h1, h2⟩ := get_idx hx
      obtain ⟨a, ea⟩ : ∃ a, left.idxOf x = a := ⟨_, rfl⟩
      rw [ea] at h1 h2
      have el := erase_len h1
      have hp' : (y :: r).Perm (left.eraseIdx a) := by
        have q := hp.trans (erase_perm h1).symm
        rw [h2] at q
        exact q.cons_inv
      obtain ⟨q1, q2⟩ := cod_ok w (left.eraseIdx a) (y :: r) (erase_ris hr a) (by omega) hp' hw'
      have ec : codC left (x :: y :: r) = a :: codC (left.eraseIdx a) (y :: r) := by
        show left.idxOf x :: codC (left.eraseIdx (left.idxOf x)) (y :: r) = _
        rw [ea]
      rw [ec]
      refine ⟨?_, fun s u h => ?_⟩
      · show left.getD a 0 :: ordC (left.eraseIdx a) (codC (left.eraseIdx a) (y :: r)) = _
        rw [q1, h2]
      · obtain ⟨g1, g2⟩ := h x rfl
        rw [ea] at g1 g2
        refine ⟨g1, g2, q2 _ _ fun o ho => ?_⟩
        have eo : y = o := by simpa using ho
        subst eo
        have hy : y ∈ left.eraseIdx a := hp'.subset (by simp)
        obtain ⟨k1, k2⟩ := get_idx hy
        generalize (left.eraseIdx a).idxOf y = a' at k1 k2
        rw [erase_get] at k2
        rw [el] at k1
        by_cases c : a' < a
        · rw [if_pos c] at k2
          have hlt := (ris_get hr (show a' < left.length by omega) h1).mpr c
          rw [k2, h2] at hlt
          have eb : b = false := by rw [hb]; exact decide_eq_false (by omega)
          subst eb
          exact ⟨Nat.zero_le _, c⟩
        · rw [if_neg c] at k2
          have hlt := (ris_get hr h1 (show a' + 1 < left.length by omega)).mpr (by omega)
          rw [k2, h2] at hlt
          have eb : b = true := by rw [hb]; exact decide_eq_true hlt
          subst eb
          exact ⟨by show a ≤ a'; omega, by show a' < w.length + 1; omega⟩
/-! ### the first so many numbers -/
def upto (n : Nat) : List Int := (List.range n).map fun k : Nat => (k : Int)
theorem upto_len (n : Nat) : (upto n).length = n := by unfold upto; simp
theorem upto_ris (n : Nat) : (upto n).Pairwise (· < ·) := by
  unfold upto
  rw [List.pairwise_map]
  exact List.pairwise_lt_range.imp fun {a b} h => by omega
/-- the order of a number, the number of an order -/
def ordN (w : List Bool) (x : Int) : List Int := ordC (upto (w.length + 1)) (dec w 0 x)
def numO (w : List Bool) (o : List Int) : Int := enc w 0 (codC (upto (w.length + 1)) o)
/-- an order with a word -/
def IsO (w : List Bool) (o : List Int) : Prop := o.Perm (upto (w.length + 1)) ∧ hasW w o
theorem top_sum (w : List Bool) : (((rsW w).drop 0).take (w.length + 1 - 0)).sum = (rsW w).sum := by
  rw [List.drop_zero, Nat.sub_zero, List.take_of_length_le (by rw [rest_len]; exact Nat.le_refl _)]
theorem ordN_ok {w : List Bool} {x : Int} (h0 : 0 ≤ x) (h1 : x < (rsW w).sum) : IsO w (ordN w x) ∧ numO w (ordN w x) = x := by
  obtain ⟨q1, q2⟩ := dec_ok w 0 (w.length + 1) x (Nat.le_refl _) h0 (by rw [top_sum]; exact h1)
  obtain ⟨g1, g2, g3, _⟩ := ord_ok w 0 (w.length + 1) (upto (w.length + 1)) (dec w 0 x) (upto_ris _) (upto_len _) (by rw [upto_len]; exact Nat.le_refl _) q1
  refine ⟨⟨g1, g2⟩, ?_⟩
  unfold numO ordN
  rw [g3, q2]
theorem cod_val {w : List Bool} {o : List Int} (h : IsO w o) : val w 0 (w.length + 1) (codC (upto (w.length + 1)) o) ∧ ordC (upto (w.length + 1)) (codC (upto (w.length + 1)) o) = o := by
  obtain ⟨q1, q2⟩ := cod_ok w (upto (w.length + 1)) o (upto_ris _) (upto_len _) h.1 h.2
  refine ⟨q2 0 (w.length + 1) fun x hx => ⟨Nat.zero_le _, ?_⟩, q1⟩
  have hm : x ∈ upto (w.length + 1) := h.1.subset (List.mem_of_mem_head? hx)
  have := (get_idx hm).1
  rwa [upto_len] at this
theorem numO_ok {w : List Bool} {o : List Int} (h : IsO w o) : 0 ≤ numO w o ∧ numO w o < (rsW w).sum ∧ ordN w (numO w o) = o := by
  obtain ⟨q1, q2⟩ := cod_val h
  obtain ⟨g1, g2, g3⟩ := enc_ok w 0 (w.length + 1) _ (Nat.le_refl _) q1
  rw [top_sum] at g2
  refine ⟨g1, g2, ?_⟩
  unfold ordN numO
  rw [g3, q2]
/-! ### one place on -/
theorem pk_lt : ∀ (l : List Int) (x : Int) (j : Nat), j < (pk l x).1 → l.getD j 0 ≤ x - (l.take j).sum
  | [], x, j, h => by simp [pk] at h
  | a :: l, x, j, h => by
    unfold pk at h
    by_cases c : a ≤ x
    · rw [if_pos c] at h
      cases j with
      | zero => simp; exact c
      | succ j =>
        have ih := pk_lt l (x - a) j (by simpa using h)
        show l.getD j 0 ≤ x - ((a :: l).take (j + 1)).sum
        rw [List.take_succ_cons, List.sum_cons]
        omega
    · rw [if_neg c] at h
      simp at h
/-- the state before a place: the letters behind, the numbers left, the start, the number left -/
def OS (v : List Bool) (L : List Int) (s : Nat) (x : Int) : Prop := L.length = v.length + 1 ∧ L.Pairwise (· < ·) ∧ ∃ u, u ≤ v.length + 1 ∧ 0 ≤ x ∧ x < (((rsW v).drop s).take (u - s)).sum
theorem OS.pick {v : List Bool} {L : List Int} {s : Nat} {x : Int} (h : OS v L s x) : s + (pk ((rsW v).drop s) x).1 < v.length + 1 ∧ 0 ≤ (pk ((rsW v).drop s) x).2 ∧ (pk ((rsW v).drop s) x).2 < (rsW v).getD (s + (pk ((rsW v).drop s) x).1) 0 ∧
    x = (((rsW v).drop s).take (pk ((rsW v).drop s) x).1).sum + (pk ((rsW v).drop s) x).2 := by
  obtain ⟨_, _, u, hu, h0, h1⟩ := h
  obtain ⟨q1, q2, q3, q4, q5⟩ := pk_ok ((rsW v).drop s) x (u - s) (nn_drop (rest_nn v) s) h0 h1
  rw [List.length_drop, rest_len] at q2
  rw [getD_dropI] at q4
  exact ⟨by omega, q3, q4, q5⟩
theorem OS.next {b : Bool} {v : List Bool} {L : List Int} {s : Nat} {x : Int} (h : OS (b :: v) L s x) :
    OS v (L.eraseIdx (s + (pk ((rsW (b :: v)).drop s) x).1)) (if b then s + (pk ((rsW (b :: v)).drop s) x).1 else 0) (pk ((rsW (b :: v)).drop s) x).2 ∧
    ordC L (dec (b :: v) s x) = L.getD (s + (pk ((rsW (b :: v)).drop s) x).1) 0 :: ordC (L.eraseIdx (s + (pk ((rsW (b :: v)).drop s) x).1)) (dec v (if b then s + (pk ((rsW (b :: v)).drop s) x).1 else 0) (pk ((rsW (b :: v)).drop s) x).2) := by
  obtain ⟨q1, q2, q3, q4⟩ := h.pick
  obtain ⟨hl, hr, _⟩ := h
  have hl' : L.length = v.length + 2 := hl
  have q1' : s + (pk ((rsW (b :: v)).drop s) x).1 < v.length + 2 := q1
  refine ⟨⟨?_, erase_ris hr _, ?_⟩, rfl⟩
  · rw [erase_len (by omega)]; omega
  · cases b with
    | true =>
      refine ⟨v.length + 1, Nat.le_refl _, q2, ?_⟩
      rw [rest_u v _ (by omega)] at q3
      rw [List.take_of_length_le (by rw [List.length_drop, rest_len]; exact Nat.le_refl _)]
      exact q3
    | false =>
      refine ⟨s + (pk ((rsW (false :: v)).drop s) x).1, by omega, q2, ?_⟩
      rw [rest_d v _ (by omega)] at q3
      show _ < (((rsW v).drop 0).take (s + (pk ((rsW (false :: v)).drop s) x).1 - 0)).sum
      rw [List.drop_zero, Nat.sub_zero]
      exact q3
theorem OS.start {w : List Bool} {x : Int} (h0 : 0 ≤ x) (h1 : x < (rsW w).sum) : OS w (upto (w.length + 1)) 0 x := ⟨upto_len _, upto_ris _, w.length + 1, Nat.le_refl _, h0, by rw [top_sum]; exact h1⟩
theorem hasW_len : ∀ {w : List Bool} {o : List Int}, hasW w o → o.length = w.length + 1
  | [], [x], _ => rfl
  | b :: w, x :: y :: r, h => by
    have := hasW_len h.2.2
    simp only [List.length_cons] at this ⊢
    omega
end Rf
set_option Elab.async false
set_option linter.all false
set_option maxRecDepth 100000
set_option maxHeartbeats 4000000
/-! Ox: rules for orders: a list of a range, pop, index. -/
namespace Rf
open PySem L2 Evl
section
variable {α β γ δ : Type} [Rep α] [Rep β] [Rep γ] [Rep δ] {K : PySem.W.Frag} {σ : L2.St} {H H' : Hp} {ta tb tc te tl : TE} {t u tt : TT} {X : Cx} {D : Ends} {tu tw tz : TS}
theorem erf_listRg {n : Nat} (h : Er K ta σ H (n : Int)) (hn : n ≤ 100000) : ErF K (tLstRg (tRg1 ta)) σ H (upto n) := fun H1 e Q q => er_i h H1 e _ fun H2 e2 => ⟨n, rfl, RgOk.of_le (by omega) (by omega) (by omega) (by omega), fun p np => q p _ (fresh_back e2 np) (e2.trans (Ex.new np)) (int_own (by
  rw [upd_same]
  unfold rgV upto
  rw [List.map_map, show ((n : Int) - 0).toNat = n by omega]
  congr 3
  funext i
  show V.int (0 + (i : Int)) = V.int (i : Int)
  rw [Int.zero_add]))⟩
theorem er_unsome {a : α} (h : Er K te σ H (some a)) : Er K te σ H a := h
theorem seqI {i n : Nat} (h : i < n) : seqIndex? (i : Int) n = some i := by
  refine (ixN_seq ?_).1
  unfold ixN
  rw [if_pos (by omega), if_pos (by omega)]
  simp
/-- found.append(left.pop(at)) -/
theorem g_appPop {i j : Nat} {p q : Addr} {as bs : List Int} {a : Nat} (hp : H p = some (.lst (as.map V.int))) (hq : H q = some (.lst (bs.map V.int))) (hpq : p ≠ q) (hi : σ[i]? = some (some (.ref p))) (hj : σ[j]? = some (some (.ref q))) (h : Er K tb σ H (a : Int)) (ha : a < bs.length) (hb : bs.length ≤ 90000) (hz : as.length ≤ 90000)
    (k : ∀ H1, (∀ r o, r ≠ p → r ≠ q → H r = some o → H1 r = some o) → H1 p = some (.lst ((as ++ [bs.getD a 0]).map V.int)) → H1 q = some (.lst ((bs.eraseIdx a).map V.int)) → Gx K D.nx σ H1) :
    Gx K (tDrop (tBM K "list" rAppend (tVar i) (tCons (tBM K "list" rPopAt (tVar j) (tCons tb tNil)) tNil)) D) σ H := fun H1 e => ⟨.ref p, hi, Or.inl ⟨rfl, _, sq_of (e _ _ hp)⟩, .ref q, hj, Or.inl ⟨rfl, _, sq_of (e _ _ hq)⟩, er_i h H1 e _ fun H2 e2 => by
  have e3 := e.trans e2
  refine ⟨q, bs.map V.int, (a : Int), a, .int (bs.getD a 0), rfl, rfl, e3 _ _ hq, by omega, by omega, seqI (by rw [List.length_map]; exact ha), ?_, ?_⟩
  · rw [List.getElem?_map, List.getD_eq_getElem?_getD, List.getElem?_eq_getElem ha]; rfl
  · refine ⟨p, as.map V.int, .int (bs.getD a 0), rfl, rfl, by rw [upd_ne hpq]; exact e3 _ _ hp, sz_lt (by rw [List.length_map]; omega), (k _ (fun r o hr1 hr2 hr => ?_) ?_ ?_).here⟩
    · rw [upd_ne hr1, upd_ne hr2]; exact e3 _ _ hr
    · rw [List.map_append]; exact upd_same
    · rw [upd_ne (Ne.symm hpq), upd_same]
      congr 2
      exact (erase_mapI bs a)⟩
/-- left.pop(at), what is taken out thrown away -/
theorem g_pop {j : Nat} {q : Addr} {bs : List Int} {a : Nat} (hq : H q = some (.lst (bs.map V.int))) (hj : σ[j]? = some (some (.ref q))) (h : Er K tb σ H (a : Int)) (ha : a < bs.length) (hb : bs.length ≤ 90000)
    (k : ∀ H1, ExBut q H H1 → H1 q = some (.lst ((bs.eraseIdx a).map V.int)) → Gx K D.nx σ H1) :
    Gx K (tDrop (tBM K "list" rPopAt (tVar j) (tCons tb tNil)) D) σ H := fun H1 e => ⟨.ref q, hj, Or.inl ⟨rfl, _, sq_of (e _ _ hq)⟩, er_i h H1 e _ fun H2 e2 => by
  have e3 := e.trans e2
  refine ⟨q, bs.map V.int, (a : Int), a, .int (bs.getD a 0), rfl, rfl, e3 _ _ hq, by omega, by omega, seqI (by rw [List.length_map]; exact ha), ?_, (k _ (fun r o hr hr2 => ?_) ?_).here⟩
  · rw [List.getElem?_map, List.getD_eq_getElem?_getD, List.getElem?_eq_getElem ha]; rfl
  · rw [upd_ne hr]; exact e3 _ _ hr2
  · rw [upd_same]
    congr 2
    exact (erase_mapI bs a)⟩
theorem idx_first : ∀ {l : List Int} {o : Int} {m : Nat} {z : Int}, m < l.idxOf o → l[m]? = some z → z ≠ o
  | [], o, m, z, h, hz => by simp at hz
  | x :: r, o, m, z, h, hz => by
    rw [List.idxOf_cons] at h
    by_cases c : x == o
    · rw [c] at h; simp at h
    · have c' : (x == o) = false := by simpa using c
      rw [c'] at h
      cases m with
      | zero =>
        have : x = z := by simpa using hz
        subst this
        rw [beq_eq_false_iff_ne] at c'
        exact c'
      | succ m => exact idx_first (l := r) (m := m) (by simpa using h) (by simpa using hz)
/-- left.index(one) -/
theorem er_index {bs : List Int} {o : Int} (h1 : Er K ta σ H bs) (h2 : Er K tb σ H o) (hm : o ∈ bs) : Er K (tBM K "list" (rIndex K) ta (tCons tb tNil)) σ H ((bs.idxOf o : Nat) : Int) := fun H1 e Q q =>
  h1 H1 e _ fun v H2 e2 ⟨p, ep, hl⟩ => by
    have hs := lst_int hl
    refine ⟨?_, er_i h2 H2 (e.trans e2) _ fun H3 e3 => ?_⟩
    · rw [ep]
      exact Or.inl ⟨rfl, _, hs⟩
    · obtain ⟨g1, g2⟩ := get_idx hm
      refine ⟨p, bs.map V.int, .int o, bs.idxOf o, .int o, ep, rfl, ex_l e3 hs, rfl, flat_ints bs, ?_, ?_, fun m z' hm' hz' => ?_, q _ H3 (e2.trans e3) rfl⟩
      · rw [List.getElem?_map, List.getElem?_eq_getElem g1]
        rw [List.getD_eq_getElem?_getD, List.getElem?_eq_getElem g1] at g2
        show some (V.int _) = _
        congr 2
      · show (o == o) = true
        rw [beq_iff_eq]
      · rw [List.getElem?_map] at hz'
        cases hq : bs[m]? with
        | none => rw [hq] at hz'; cases hz'
        | some z =>
          rw [hq] at hz'
          have : V.int z = z' := by simpa using hz'
          subst this
          show (z == o) = false
          rw [beq_eq_false_iff_ne]
          exact idx_first hm' hq
theorem cut_any {α : Type} (as : List α) (a b : Nat) (hb : b ≤ as.length) (ha : a ≤ as.length) : cutL as (some (a : Int)) (some (b : Int)) = (as.drop a).take (b - a) := by
  unfold cutL
  rw [HT.sIx_nat, HT.sIx_nat, Nat.min_eq_left hb, Nat.min_eq_left ha]
end
end Rf
set_option Elab.async false
set_option linter.all false
set_option maxRecDepth 100000
set_option maxHeartbeats 4000000
/-! Ex1: a caught exception that is handed to a def; a def that a local name holds and that may raise. -/
namespace Rf
open PySem PySem.Spec PyProof.Rows L2 Evl
/-! ### isinstance of an exception that the context pins -/
theorem call_isP {X : Cx} {a D : Addr} {oe : Obj} (C : ExcC X.K D) (hp : (a, oe) ∈ X.pn) (hz : Zc (.ref D) none oe) (hf : ∃ vs, oe.data = .fields vs) : CallR X (.builtin "isinstance") (rIsE X.K D a) := by
  intro pins s σ H xs us Q I r h
  obtain ⟨c, cv, b, rfl, hcv, e, q⟩ := h
  obtain ⟨u1, u2, rfl, r1, r2⟩ := vals2 r
  cases r1
  have ec := hcv _ r2
  subst ec
  obtain ⟨at1, _⟩ := I.pin (a, oe) (List.mem_append_left _ hp)
  obtain ⟨vs, hv⟩ := hf
  have inst : PySem.W.InstAt s.heap a oe D none := by
    obtain ⟨oc, od, oda, osl⟩ := oe
    obtain ⟨h1, h2⟩ := hz
    dsimp only at h1 h2 hv
    subst h1 h2 hv
    exact ⟨at1, rfl, rfl, trivial⟩
  exact PySem.W.kia_one (PySem.W.handS_kitx_exc C.hg C.hk C.hs C.hd C.ha C.hn C.ht C.hm) I.kIn inst e (fun z => nomatch z) fun tk => ⟨.bl b, H, I.kept (t' := tk) fun _ _ z => z, rfl, q⟩
/-! ### what a def promises that is handed the handled exception -/
structure FnP (P : Program) (w : World) (K : PySem.W.Frag) (mg : Str → Option Value) (base : Heap) (k : Nat) (f : Addr) (fd : FuncData) (ps : List Str) (sp : Addr → Value → Option Addr → Sp) : Prop where
  len : ∀ a cls d vs H Q E, sp a cls d vs H Q E → vs.length = ps.length
  run : ∀ (A : Around) (outer : List Env) (s : Shared) (H : Hp) (args : Args) (us : List Value) (vs : List V) (Q : VK) (E : XK) (p : Addr × Obj) (cls : Value) (d : Option Addr), Zc cls d p.2 → (∃ fs, p.2.data = .fields fs) → L2H.RoomH k A → L2H.PinOk outer H s p → Env0 P w K mg base A outer s H → BindsTo s fd args (ps.zip us) → Vals vs us →
    sp p.1 cls d vs H Q E → codeAny (model P w) A (.call (.ref f) args) (CR CX0 outer P w H s Q E) s
theorem fn_ofP {P : Program} {w : World} {K : PySem.W.Frag} {mg : Str → Option Value} {base : Heap} {k : Nat} {f : Addr} {name qual : Str} {params : Arguments} {body : List Stmt} {scope : Scope} {dV kV doc pm cdv ct oc : Value} {an od : Option Addr}
    {osl : Array (Option Value)} {N ps : List Str} {sp : Addr → Value → Option Addr → Sp} (lk : K.lookup f = some ⟨oc, od, .func (PySem.W.fnOf name qual params body scope dV kV doc pm an cdv ct), osl⟩) (hcd : PySem.W.codeIn K cdv qual = true) (S : FnScope N ps scope)
    (len : ∀ a cls d vs H Q E, sp a cls d vs H Q E → vs.length = ps.length)
    (hbody : ∀ (A : Around) (outer : List Env) (s : Shared) (H : Hp) (vs : List V) (Q : VK) (E : XK) (p : Addr × Obj) (cls : Value) (d : Option Addr), Zc cls d p.2 → (∃ fs, p.2.data = .fields fs) → sp p.1 cls d vs H Q E →
      ∃ t, PSs (L2H.cxH CX0 P w K mg base N qual scope f cdv A outer s H E p) body t ∧ t { nx := fun _ H' => Q .non H', rt := Q } (L2.start N vs) H) :
    FnP P w K mg base (k + 1) f (PySem.W.fnOf name qual params body scope dV kV doc pm an cdv ct) ps sp := by
  refine ⟨len, fun A outer s H args us vs Q E p cls d hz hf hr hpin e0 hb r hsp => ?_⟩
  have hl := len _ _ _ _ _ _ _ hsp
  have kin1 : K.In s.heap := e0.mod.kin.keeps fun b o e => (e0.bs b o e).1
  have lim1 : s.heap.NoLimit := e0.mod.nolimit.keeps fun b o e => (e0.bs b o e).1
  have kind1 : ∀ y ∈ ps.zip us, scope.names.lookup y.1 = some .local ∨ (scope.names.lookup y.1 = some .cell ∧ ((cellsFrom (s.heap.objs.size + 1) scope.names []).lookup y.1).isSome = true) := fun ⟨n, v⟩ hy => by
    rcases S.par n (List.of_mem_zip hy).1 with q | q
    · exact .inl q
    · exact .inr ⟨q, PySem.W.cellsFrom_some _ _ _ (.inl q)⟩
  refine codeAny_call_function hr.depth (kin1 _ _ lk) rfl S.co S.gen rfl (PySem.W.codeRec_of kin1 hcd) (hb _ _ _ _ ?_)
  refine wpAny_newFunctionEnv_cells S.kind kind1 fun env he s1 x => ?_
  subst he
  refine ⟨lim1.keeps x.toInCall.keep, codeAny_func ?_⟩
  obtain ⟨t, ht, hq⟩ := hbody A outer s H vs Q E p cls d hz hf hsp
  have I : Inv (L2H.cxH CX0 P w K mg base N qual scope f cdv A outer s H E p) [] (L2.start N vs) H s1 := L2H.inv_startH S hpin e0 hl r x
  refine wpAny_mono (ht.run [] s1 (L2.start N vs) H _ I hq) (fun fl s' hs => ?_) fun e s' hs => hs
  match fl, hs with
  | .ret u, hs =>
    obtain ⟨v, σ', H', J, rv, q⟩ := hs
    exact ⟨v, H', J.os, J.bare, J.base, J.hok, rv, q⟩
  | .next, hs =>
    obtain ⟨σ', H', J, q⟩ := hs
    exact ⟨V.non, H', J.os, J.bare, J.base, J.hok, rfl, q⟩
  | .brk, hs =>
    obtain ⟨_, _, _, q⟩ := hs
    exact False.elim q
  | .cont, hs =>
    obtain ⟨_, _, _, q⟩ := hs
    exact False.elim q
section
variable {X : Cx} {k : Nat} {f : Addr} {fd : FuncData} {ps : List Str} {x : Str} {q pos : Pos} {e : Expr} {es : List Expr} {t : TA}
/-- f(..) within the suite, of the handled exception at a -/
def tCallP (sp : Addr → Value → Option Addr → Sp) (a : Addr) (cls : Value) (d : Option Addr) (t : TA) : TE := fun σ H Q => t σ H fun vs H1 => sp a cls d vs H1 Q fun _ _ _ => False
theorem pe_callP {sp : Addr → Value → Option Addr → Sp} {p : Addr × Obj} {cls : Value} {d : Option Addr} (F : FnP X.prog X.w X.K X.mg X.base k f fd ps sp) (hz : Zc cls d p.2) (hf : ∃ fs, p.2.data = .fields fs) (hr : L2H.RoomH k X.A) (hp : p ∈ X.pn) (hg : Gl X x) (hm : X.mg x = some (.ref f)) (hk : PySem.W.keepIn X.K (.ref f) = true) (hb : Binds X.K fd ps [])
    (ha : PA X (e :: es) t) (hdb : (x == ("__debug__" : Str)) = false := by decide) (he : starEach (e :: es) X.env = (false, eval e X.env) :: starEach es X.env := by rfl) (hpl : (backTo pos (starEach es X.env)).any (·.1) = false := by rfl) :
    PE X (.Call (.Name x q) (e :: es) [] pos) (tCallP sp p.1 cls d t) := by
  refine ⟨fun pins s σ H Q I h => ?_⟩
  refine wpAny_Call_Name_kw (ld_glob I hg hm ?_ hdb)
  refine PySem.W.callWith_K (h₀ := X.base) I.ok.mod.kin hk (thn (ha.run pos pins s σ H _ I h) fun us s1 ⟨vs, H1, I1, r, q1⟩ => ⟨I1.kIn, ?_⟩) he hpl
  have hl : us.length = ps.length := by rw [← r.length]; exact F.len _ _ _ _ _ _ _ q1
  have b := hb s1 us I1.kIn (by rw [List.append_nil]; exact hl)
  rw [List.append_nil] at b
  have P1 := I1.pin p (List.mem_append_left _ hp)
  have hpin : L2H.PinOk X.stack H1 s1 p := ⟨P1.1, P1.2.1, fun hm => (List.mem_cons.mp (I1.stkSub p.1 hm)).elim P1.2.2.1 P1.2.2.2.1, P1.2.2.2.2⟩
  refine wpAny_call (codeAny_mono (F.run X.A X.stack s1 H1 ⟨us, []⟩ us vs Q _ p cls d hz hf hr hpin I1.env0 b r q1) fun r s' hq => ?_)
  match r, hq with
  | .error e, hq => exact False.elim hq
  | .ok (.ret u), hq => exact I1.after hq
  | .ok .next, hq => exact False.elim hq
  | .ok .brk, hq => exact False.elim hq
  | .ok .cont, hq => exact False.elim hq
/-! ### a call of what a local name holds, one of several defs, which may raise -/
structure HeldX (P : Program) (w : World) (K : PySem.W.Frag) (mg : Str → Option Value) (base : Heap) (k : Nat) (f : Addr) (sp : Sp) : Prop where
  ex : ∃ (fd : FuncData) (ps : List Str), FnOk P w K mg base (L2.CX P w) k f fd ps sp ∧ PySem.W.keepIn K (.ref f) = true ∧ Binds K fd ps []
def tCallV (i : Nat) (S : Addr → Sp → Prop) (E : L2.St → XK) (t : TA) : TE := fun σ H Q => ∃ f sp, σ[i]? = some (some (.ref f)) ∧ S f sp ∧ t σ H fun vs H1 => sp vs H1 Q (E σ)
theorem pe_callV {i : Nat} {S : Addr → Sp → Prop} {E : L2.St → XK} (A : ∀ f sp, S f sp → HeldX X.prog X.w X.K X.mg X.base k f sp) (hr : Room k X.A) (hN : X.N[i]? = some x) (hv : Vis X.env.scope x) (hx : ∀ σ, PassesAt (L2.CX X.prog X.w) X σ (E σ)) (ha : PA X (e :: es) t)
    (hdb : (x == ("__debug__" : Str)) = false := by decide) (hcd : (x == ("__classdict__" : Str)) = false := by decide)
    (he : starEach (e :: es) X.env = (false, eval e X.env) :: starEach es X.env := by rfl) (hpl : (backTo pos (starEach es X.env)).any (·.1) = false := by rfl) : PE X (.Call (.Name x q) (e :: es) [] pos) (tCallV i S E t) := by
  refine ⟨fun pins s σ H Q I h => ?_⟩
  obtain ⟨f, sp, hs, hS, ht⟩ := h
  obtain ⟨fd, ps, F, hk, hb⟩ := (A f sp hS).ex
  refine wpAny_Call_Name_kw (thn ((pe_var (pos := q) hN hv hdb hcd).run pins s σ H (fun v H1 => v = .ref f ∧ H1 = H) I ⟨.ref f, hs, rfl, rfl⟩) fun u s1 ⟨v, H1, I1, r1, q1⟩ => ?_)
  obtain ⟨rfl, rfl⟩ := q1
  cases r1
  refine PySem.W.callWith_K (h₀ := X.base) I.ok.mod.kin hk (thn (ha.run pos pins s1 σ _ _ I1 ht) fun us s2 ⟨vs, H2, I2, r, q⟩ => ⟨I2.kIn, ?_⟩) he hpl
  exact run_fnS F hr hb (hx σ) I2 r q
end
/-! ### defs that may raise -/
structure CalX (P : Program) (w : World) (K : PySem.W.Frag) (mg : Str → Option Value) (base : Heap) (k : Nat) (x : Str) (ps : List Str) (sp : Sp) (f : Addr) (fd : FuncData) : Prop where
  ok : FnOk P w K mg base (L2.CX P w) k f fd ps sp
  g : mg x = some (.ref f)
  kp : PySem.W.keepIn K (.ref f) = true
  b : Binds K fd ps []
structure CalP (P : Program) (w : World) (K : PySem.W.Frag) (mg : Str → Option Value) (base : Heap) (k : Nat) (x : Str) (ps : List Str) (sp : Addr → Value → Option Addr → Sp) (f : Addr) (fd : FuncData) : Prop where
  ok : FnP P w K mg base k f fd ps sp
  g : mg x = some (.ref f)
  kp : PySem.W.keepIn K (.ref f) = true
  b : Binds K fd ps []
theorem FnOk.lift {P : Program} {w : World} {K : PySem.W.Frag} {mg : Str → Option Value} {base : Heap} {CX : CXT} {j k : Nat} {f : Addr} {fd : FuncData} {ps : List Str} {sp : Sp} (o : FnOk P w K mg base CX j f fd ps sp) (h : j ≤ k) : FnOk P w K mg base CX k f fd ps sp :=
  ⟨o.len, fun A outer s H args us vs Q E hr => o.run A outer s H args us vs Q E (hr.mono h)⟩
theorem CalX.held {P : Program} {w : World} {K : PySem.W.Frag} {mg : Str → Option Value} {base : Heap} {j k : Nat} {x : Str} {ps : List Str} {sp : Sp} {f : Addr} {fd : FuncData} (c : CalX P w K mg base j x ps sp f fd) (h : j ≤ k) : HeldX P w K mg base k f sp :=
  ⟨fd, ps, FnOk.lift c.ok h, c.kp, c.b⟩
/-- a call that can't raise here of a def that may -/
theorem passF {X : Cx} {P : Program} {w : World} : Passes (L2.CX P w) X E0 := fun _ _ _ _ _ _ _ ⟨_, _, _, _, _, _, _, _, _, _, _, _, h⟩ => h.elim
/-- what the raise does -/
def tRz (C : Addr) (E : XK) : TS := fun _ _ H => E (.ref C) none H
end Rf
set_option Elab.async false
set_option linter.all false
set_option maxRecDepth 100000
set_option maxHeartbeats 4000000
/-! Ex2: things of any kind: what is handed in and refused. -/
namespace Rf
open PySem L2 Evl
inductive Th where
  | non
  | bl (b : Bool)
  | int (i : Int)
  | str (z : Str)
  | lst (l : List Th)
  | tup (l : List Th)
  | dct
mutual
def repT (K : PySem.W.Frag) (H : Hp) : Th → V → Prop
  | .non, v => v = .non
  | .bl b, v => v = .bl b
  | .int i, v => v = .int i
  | .str z, v => v = .str z
  | .lst l, v => ∃ p xs, v = .ref p ∧ SqL K H p xs ∧ repTs K H l xs
  | .tup l, v => ∃ p xs, v = .ref p ∧ H p = some (.tup xs) ∧ repTs K H l xs
  | .dct, v => ∃ p kvs, v = .ref p ∧ H p = some (.dK kvs)
def repTs (K : PySem.W.Frag) (H : Hp) : List Th → List V → Prop
  | [], xs => xs = []
  | t :: l, xs => ∃ x r, xs = x :: r ∧ repT K H t x ∧ repTs K H l r
end
mutual
theorem repT_up {K : PySem.W.Frag} {H H' : Hp} (e : Ex H H') : ∀ (t : Th) (v : V), repT K H t v → repT K H' t v
  | .non, _, h => by simp only [repT] at h ⊢; exact h
  | .bl _, _, h => by simp only [repT] at h ⊢; exact h
  | .int _, _, h => by simp only [repT] at h ⊢; exact h
  | .str _, _, h => by simp only [repT] at h ⊢; exact h
  | .lst l, _, h => by
    simp only [repT] at h ⊢
    obtain ⟨p, xs, h1, h2, h3⟩ := h
    exact ⟨p, xs, h1, ex_l e h2, repTs_up e l xs h3⟩
  | .tup l, _, h => by
    simp only [repT] at h ⊢
    obtain ⟨p, xs, h1, h2, h3⟩ := h
    exact ⟨p, xs, h1, e _ _ h2, repTs_up e l xs h3⟩
  | .dct, _, h => by
    simp only [repT] at h ⊢
    obtain ⟨p, kvs, h1, h2⟩ := h
    exact ⟨p, kvs, h1, e _ _ h2⟩
theorem repTs_up {K : PySem.W.Frag} {H H' : Hp} (e : Ex H H') : ∀ (l : List Th) (xs : List V), repTs K H l xs → repTs K H' l xs
  | [], _, h => by simp only [repTs] at h ⊢; exact h
  | t :: l, _, h => by
    simp only [repTs] at h ⊢
    obtain ⟨x, r, h1, h2, h3⟩ := h
    exact ⟨x, r, h1, repT_up e t x h2, repTs_up e l r h3⟩
end
instance : Rep Th := ⟨fun K H v t => repT K H t v, fun {K H H' v t} e h => repT_up e t v h⟩
theorem reps_all {K : PySem.W.Frag} {H : Hp} : ∀ {l : List Th} {xs : List V}, repTs K H l xs ↔ All2 (Rep.rep K H) xs l
  | [], xs => by
    simp only [repTs]
    constructor
    · rintro rfl; exact .nil
    · intro h; cases h; rfl
  | t :: l, xs => by
    simp only [repTs]
    constructor
    · rintro ⟨x, r, rfl, h1, h2⟩; exact .cons h1 (reps_all.mp h2)
    · intro h
      cases h with
      | cons h1 h2 => exact ⟨_, _, rfl, h1, reps_all.mpr h2⟩
/-- a thing's kind, for isinstance -/
def tyN : Th → String
  | .non => "NoneType"
  | .bl _ => "bool"
  | .int _ => "int"
  | .str _ => "str"
  | .lst _ => "list"
  | .tup _ => "tuple"
  | .dct => "dict"
theorem ty_th {K : PySem.W.Frag} {H : Hp} {v : V} : ∀ {t : Th}, Rep.rep K H v t → TyX K H v (.type (tyN t))
  | .non, h => by have h' : v = .non := by simpa [Rep.rep, repT] using h
                  rw [h']; exact .base .non
  | .bl b, h => by have h' : v = .bl b := by simpa [Rep.rep, repT] using h
                   rw [h']; exact .base (.bl b)
  | .int b, h => by have h' : v = .int b := by simpa [Rep.rep, repT] using h
                    rw [h']; exact .base (.int b)
  | .str b, h => by have h' : v = .str b := by simpa [Rep.rep, repT] using h
                    rw [h']; exact .base (.str b)
  | .lst l, h => by
    have h' : ∃ p xs, v = .ref p ∧ SqL K H p xs ∧ repTs K H l xs := by simpa [Rep.rep, repT] using h
    obtain ⟨p, xs, rfl, hs, _⟩ := h'
    rcases hs with (h | ⟨o, h⟩) | ⟨o, its, n, h, hc, _⟩
    · exact .base (.lst h)
    · exact .base (.frz h)
    · exact .kList h hc
  | .tup l, h => by
    have h' : ∃ p xs, v = .ref p ∧ H p = some (.tup xs) ∧ repTs K H l xs := by simpa [Rep.rep, repT] using h
    obtain ⟨p, xs, rfl, hs, _⟩ := h'
    exact .base (.tup hs)
  | .dct, h => by
    have h' : ∃ p kvs, v = .ref p ∧ H p = some (.dK kvs) := by simpa [Rep.rep, repT] using h
    obtain ⟨p, kvs, rfl, hs⟩ := h'
    exact .base (.dK hs)
def isK (t : Th) (U : String) : Bool := match t, U with
  | .bl _, "bool" => true
  | .bl _, "int" => true
  | .int _, "int" => true
  | .str _, "str" => true
  | .lst _, "list" => true
  | _, _ => false
theorem isK_ok (t : Th) : kitB (tyN t) "str" = some (isK t "str") ∧ kitB (tyN t) "int" = some (isK t "int") ∧ kitB (tyN t) "bool" = some (isK t "bool") ∧ kitB (tyN t) "list" = some (isK t "list") := by
  cases t with
  | non => exact ⟨(by decide +kernel : kitB "NoneType" "str" = some false), (by decide +kernel : kitB "NoneType" "int" = some false), (by decide +kernel : kitB "NoneType" "bool" = some false), (by decide +kernel : kitB "NoneType" "list" = some false)⟩
  | bl b => exact ⟨(by decide +kernel : kitB "bool" "str" = some false), (by decide +kernel : kitB "bool" "int" = some true), (by decide +kernel : kitB "bool" "bool" = some true), (by decide +kernel : kitB "bool" "list" = some false)⟩
  | int i => exact ⟨(by decide +kernel : kitB "int" "str" = some false), (by decide +kernel : kitB "int" "int" = some true), (by decide +kernel : kitB "int" "bool" = some false), (by decide +kernel : kitB "int" "list" = some false)⟩
  | str z => exact ⟨(by decide +kernel : kitB "str" "str" = some true), (by decide +kernel : kitB "str" "int" = some false), (by decide +kernel : kitB "str" "bool" = some false), (by decide +kernel : kitB "str" "list" = some false)⟩
  | lst l => exact ⟨(by decide +kernel : kitB "list" "str" = some false), (by decide +kernel : kitB "list" "int" = some false), (by decide +kernel : kitB "list" "bool" = some false), (by decide +kernel : kitB "list" "list" = some true)⟩
  | tup l => exact ⟨(by decide +kernel : kitB "tuple" "str" = some false), (by decide +kernel : kitB "tuple" "int" = some false), (by decide +kernel : kitB "tuple" "bool" = some false), (by decide +kernel : kitB "tuple" "list" = some false)⟩
  | dct => exact ⟨(by decide +kernel : kitB "dict" "str" = some false), (by decide +kernel : kitB "dict" "int" = some false), (by decide +kernel : kitB "dict" "bool" = some false), (by decide +kernel : kitB "dict" "list" = some false)⟩
/-! ### from and to things -/
def thI (ns : List Int) : Th := .lst (ns.map Th.int)
section
variable {α : Type} [Rep α] {K : PySem.W.Frag} {σ : L2.St} {H : Hp} {ta tb te : TE} {v : V}
theorem th_int {i : Int} : Rep.rep K H v (Th.int i) ↔ Rep.rep K H v i := by
  show repT K H (.int i) v ↔ v = .int i
  simp only [repT]
theorem th_str {z : Str} : Rep.rep K H v (Th.str z) ↔ Rep.rep K H v z := by
  show repT K H (.str z) v ↔ v = .str z
  simp only [repT]
theorem th_bl {b : Bool} : Rep.rep K H v (Th.bl b) ↔ Rep.rep K H v b := by
  show repT K H (.bl b) v ↔ v = .bl b
  simp only [repT]
theorem th_non : Rep.rep K H v Th.non ↔ v = .non := by
  show repT K H .non v ↔ v = .non
  simp only [repT]
theorem th_lst {l : List Th} : Rep.rep K H v (Th.lst l) ↔ Rep.rep K H v l := by
  show repT K H (.lst l) v ↔ ∃ p, v = .ref p ∧ LstR K H p l
  simp only [repT]
  constructor
  · rintro ⟨p, xs, h1, h2, h3⟩; exact ⟨p, h1, xs, h2, reps_all.mp h3⟩
  · rintro ⟨p, h1, xs, h2, h3⟩; exact ⟨p, xs, h1, h2, reps_all.mpr h3⟩
theorem all2_thI : ∀ {xs : List V} {ns : List Int}, All2 (Rep.rep K H) xs (ns.map Th.int) ↔ All2 (Rep.rep K H) xs ns
  | xs, [] => by
    constructor <;> (intro h; cases h; exact .nil)
  | xs, n :: ns => by
    constructor
    · intro h
      cases h with
      | cons h1 h2 => exact .cons (th_int.mp h1) (all2_thI.mp h2)
    · intro h
      cases h with
      | cons h1 h2 => exact .cons (th_int.mpr h1) (all2_thI.mpr h2)
theorem th_ints {ns : List Int} : Rep.rep K H v (thI ns) ↔ Rep.rep K H v ns := by
  unfold thI
  rw [th_lst]
  constructor
  · rintro ⟨p, h1, xs, h2, h3⟩; exact ⟨p, h1, xs, h2, all2_thI.mp h3⟩
  · rintro ⟨p, h1, xs, h2, h3⟩; exact ⟨p, h1, xs, h2, all2_thI.mpr h3⟩
theorem Er.th {t : Th} {a : α} (h : Er K te σ H a) (f : ∀ H1 u, Rep.rep K H1 u a → Rep.rep K H1 u t) : Er K te σ H t := fun H1 e Q q => h H1 e Q fun u H2 e2 r => q u H2 e2 (f H2 u r)
theorem et_int {i : Int} (h : Er K te σ H i) : Er K te σ H (Th.int i) := h.th fun _ _ r => th_int.mpr r
theorem et_str {z : Str} (h : Er K te σ H z) : Er K te σ H (Th.str z) := h.th fun _ _ r => th_str.mpr r
theorem et_bl {b : Bool} (h : Er K te σ H b) : Er K te σ H (Th.bl b) := h.th fun _ _ r => th_bl.mpr r
theorem et_non (h : Er K te σ H ()) : Er K te σ H Th.non := h.th fun _ _ r => th_non.mpr r
theorem et_lst {l : List Th} (h : Er K te σ H l) : Er K te σ H (Th.lst l) := h.th fun _ _ r => th_lst.mpr r
theorem et_ints {ns : List Int} (h : Er K te σ H ns) : Er K te σ H (thI ns) := h.th fun _ _ r => th_ints.mpr r
theorem et_tup {ta : TA} {l : List Th} (h : EaL K ta σ H l) (hl : l.length ≤ 100000) : Er K (tTup ta) σ H (Th.tup l) := fun H1 e Q q =>
  h H1 e _ fun vs H2 e2 hv => ⟨sz_of (by rw [hv.len]; exact hl), fun p hp => q _ _ (e2.trans (Ex.new hp)) (by
    show repT K _ (.tup l) _
    simp only [repT]
    exact ⟨p, vs, rfl, upd_same, reps_all.mpr (hv.mp fun v a r => Rep.mono (Ex.new hp) r)⟩)⟩
theorem et_dct : Er K tDNewK σ H Th.dct := fun H1 e Q q p hp => q _ _ (Ex.new hp) (by
  show repT K _ .dct _
  simp only [repT]
  exact ⟨p, [], rfl, upd_same⟩)
theorem er_isT {t : Th} {U : String} (h : Er K te σ H t) (hu : kitB (tyN t) U = some (isK t U)) : Er K (tCB (rIsi K) (tCons te (tCons (tC (.ty U)) tNil))) σ H (isK t U) := er_isi h (fun _ _ r => ty_th r) hu
end
end Rf
set_option Elab.async false
set_option linter.all false
set_option maxRecDepth 100000
set_option maxHeartbeats 4000000
/-! Ex3: promises with refusals, the classes of refusals. -/
namespace Rf
open PySem L2 Evl
/-- the classes: BadWord, BadNumber, BadOrder, BadRow, RiseError -/
structure EC where
  W : Addr
  N : Addr
  O : Addr
  R : Addr
  S : Addr
def EC.c (cs : EC) : Nat → Addr
  | 0 => cs.W
  | 1 => cs.N
  | 2 => cs.O
  | _ => cs.R
abbrev veMro : List Value := [.type "ValueError", .type "Exception", .type "BaseException", .type "object"]
/-- what the written part says of a class of refusals, and of what lies over it -/
structure ExOne (K : PySem.W.Frag) (mg : Str → Option Value) (x : Str) (C S : Addr) : Prop where
  xC : PySem.W.excIn K C veMro "ValueError.__new__" = true
  gC : mg x = some (.ref C)
  kC : PySem.W.keepIn K (.ref C) = true
  tC : PySem.W.typeIn K (.ref C) = some (.type "type")
  eC : PySem.W.exmOne K (.ref C) (.ref S) = some true
  iC : ExcC K C
  vC : PySem.W.kitOne K (.ref C) (.type "ValueError") = some true
structure ExF (K : PySem.W.Frag) (mg : Str → Option Value) (cs : EC) : Prop where
  W : ExOne K mg "BadWord" cs.W cs.S
  N : ExOne K mg "BadNumber" cs.N cs.S
  O : ExOne K mg "BadOrder" cs.O cs.S
  R : ExOne K mg "BadRow" cs.R cs.S
  gS : mg "RiseError" = some (.ref cs.S)
  kit : ∀ i j, i < 4 → j < 4 → PySem.W.kitOne K (.ref (cs.c i)) (.ref (cs.c j)) = some (decide (i = j))
theorem ExF.at {K : PySem.W.Frag} {mg : Str → Option Value} {cs : EC} (h : ExF K mg cs) : ∀ i, i < 4 → ∃ x, ExOne K mg x (cs.c i) cs.S
  | 0, _ => ⟨_, h.W⟩
  | 1, _ => ⟨_, h.N⟩
  | 2, _ => ⟨_, h.O⟩
  | 3, _ => ⟨_, h.R⟩
  | n + 4, h => by omega
def kindsL (i : Nat) : List Bool := [decide (i = 0), decide (i = 1), decide (i = 2), decide (i = 3), true]
/-- try .. except the class at c as slot i -/
def tTryAs (K : PySem.W.Frag) (c : Addr) (i : Nat) (tb : WX → TS) (ts : Addr → Value → Option Addr → TS) : TS := fun D σ H => tb (wAs K (.ref c) i ts (fun _ _ _ _ => False) D) D σ H
/-! ### what is good -/
def okW (z : Str) : Bool := z.cps.toList.all fun c => decide (c ∈ (tx [true, false]).cps.toList)
def goodW : Th → Bool
  | .str z => okW z
  | _ => false
theorem ud_mem (c : Nat) : decide (c ∈ (tx [true, false]).cps.toList) = true ↔ (c = 117 ∨ c = 100) := by
  rw [decide_eq_true_iff, tx_list]
  simp [sg]
theorem okW_iff (z : Str) : okW z = true ↔ IsW z := by
  unfold okW IsW
  rw [List.all_eq_true]
  exact ⟨fun h c hc => (ud_mem c).mp (h c hc), fun h c hc => (ud_mem c).mpr (h c hc)⟩
def isWh (t : Th) : Bool := isK t "int" && !isK t "bool"
theorem isWh_int {t : Th} (h : isWh t = true) : ∃ i, t = .int i := by
  cases t with
  | int i => exact ⟨i, rfl⟩
  | _ => simp [isWh, isK] at h
/-- the ints of a list of whole numbers -/
def intsT (l : List Th) : List Int := l.map fun t => match t with | .int i => i | _ => 0
theorem intsT_eq : ∀ {l : List Th}, l.all isWh = true → l = (intsT l).map Th.int
  | [], _ => rfl
  | t :: l, h => by
    rw [List.all_cons, Bool.and_eq_true] at h
    obtain ⟨i, rfl⟩ := isWh_int h.1
    have ih := intsT_eq h.2
    show Th.int i :: l = Th.int i :: (intsT l).map Th.int
    rw [← ih]
/-- a row of whole numbers, told as ints -/
def rowT : Th → Option (List Int)
  | .lst l => if l.all isWh then some (intsT l) else none
  | _ => none
/-- sizes -/
def szT (n : Nat) : Th → Prop
  | .str z => z.length ≤ n
  | .lst l => l.length ≤ n
  | _ => True
theorem rowT_some {t : Th} {ns : List Int} (h : rowT t = some ns) : t = thI ns := by
  cases t with
  | lst l =>
    have h' : (if l.all isWh then some (intsT l) else none) = some ns := h
    by_cases c : l.all isWh = true
    · rw [if_pos c] at h'
      have e := Option.some.inj h'
      unfold thI
      rw [← e, ← intsT_eq c]
    · rw [if_neg c] at h'; cases h'
  | _ => cases h
def errW (cs : EC) (t : Th) : Option Addr := if goodW t then none else some cs.W
theorem errW_t {cs : EC} {t : Th} (h : goodW t = true) : errW cs t = none := if_pos h
theorem errW_f {cs : EC} {t : Th} (h : goodW t = false) : errW cs t = some cs.W := if_neg (by rw [h]; decide)
def errR (cs : EC) (t : Th) : Option Addr := if (rowT t).isSome then none else some cs.R
theorem errR_t {cs : EC} {t : Th} (h : (rowT t).isSome = true) : errR cs t = none := if_pos h
theorem errR_f {cs : EC} {t : Th} (h : (rowT t).isSome = false) : errR cs t = some cs.R := if_neg (by rw [h]; decide)
/-! ### promises with refusals -/
section
variable {α β γ : Type} [Rep α] [Rep β] [Rep γ]
def PrX1 (K : PySem.W.Frag) (pre : α → Prop) (err : α → Option Addr) (f : α → γ) : Sp := fun vs H Q E => ∃ v a, vs = [v] ∧ Rep.rep K H v a ∧ pre a ∧ (err a = none → ∀ u H', Ex H H' → Rep.rep K H' u (f a) → Q u H') ∧ ∀ C, err a = some C → ∀ H', Ex H H' → E (.ref C) none H'
def PrX2 (K : PySem.W.Frag) (pre : α → β → Prop) (err : α → β → Option Addr) (f : α → β → γ) : Sp := fun vs H Q E => ∃ v w a b, vs = [v, w] ∧ Rep.rep K H v a ∧ Rep.rep K H w b ∧ pre a b ∧ (err a b = none → ∀ u H', Ex H H' → Rep.rep K H' u (f a b) → Q u H') ∧ ∀ C, err a b = some C → ∀ H', Ex H H' → E (.ref C) none H'
def PrXF2 (K : PySem.W.Frag) (pre : α → β → Prop) (err : α → β → Option Addr) (f : α → β → List γ) : Sp := fun vs H Q E => ∃ v w a b, vs = [v, w] ∧ Rep.rep K H v a ∧ Rep.rep K H w b ∧ pre a b ∧ (err a b = none → ∀ p H', H p = none → Ex H H' → Own K H' p (f a b) → Q (.ref p) H') ∧ ∀ C, err a b = some C → ∀ H', Ex H H' → E (.ref C) none H'
theorem len_prX1 {K : PySem.W.Frag} {pre : α → Prop} {err : α → Option Addr} {f : α → γ} {vs : List V} {H : Hp} {Q : VK} {E : XK} (h : PrX1 K pre err f vs H Q E) : vs.length = 1 := by obtain ⟨_, _, rfl, _⟩ := h; rfl
theorem len_prX2 {K : PySem.W.Frag} {pre : α → β → Prop} {err : α → β → Option Addr} {f : α → β → γ} {vs : List V} {H : Hp} {Q : VK} {E : XK} (h : PrX2 K pre err f vs H Q E) : vs.length = 2 := by obtain ⟨_, _, _, _, rfl, _⟩ := h; rfl
theorem len_prXF2 {K : PySem.W.Frag} {pre : α → β → Prop} {err : α → β → Option Addr} {f : α → β → List γ} {vs : List V} {H : Hp} {Q : VK} {E : XK} (h : PrXF2 K pre err f vs H Q E) : vs.length = 2 := by obtain ⟨_, _, _, _, rfl, _⟩ := h; rfl
/-- raises, whatever is wanted -/
def Rz (_ : PySem.W.Frag) (te : TE) (σ : L2.St) (H : Hp) : Prop := ∀ H1, Ex H H1 → ∀ Q : VK, te σ H1 Q
variable {K : PySem.W.Frag} {σ : L2.St} {H : Hp} {ta tb tc te : TE} {t u : TT} {D : Ends} {tu tw tz : TS} {E : XK}
theorem er_callX1 {pre : α → Prop} {err : α → Option Addr} {f : α → γ} {a : α} (h : Er K ta σ H a) (hp : pre a) (he : err a = none) : Er K (tCall (PrX1 K pre err f) [] E (tCons ta tNil)) σ H (f a) := fun H1 e Q q =>
  h H1 e _ fun v H2 e2 r => ⟨v, a, rfl, r, hp, fun _ u H3 e3 r3 => q u H3 (e2.trans e3) r3, fun C z => by rw [he] at z; cases z⟩
theorem er_callXS1 {pre : α → Prop} {err : α → Option Addr} {f : α → γ} {a : α} (h : Er K ta σ H a) (hp : pre a) (he : err a = none) : Er K (tCallS (PrX1 K pre err f) (fun _ => E) (tCons ta tNil)) σ H (f a) := fun H1 e Q q =>
  h H1 e _ fun v H2 e2 r => ⟨v, a, rfl, r, hp, fun _ u H3 e3 r3 => q u H3 (e2.trans e3) r3, fun C z => by rw [he] at z; cases z⟩
theorem rz_callX1 {pre : α → Prop} {err : α → Option Addr} {f : α → γ} {a : α} {C : Addr} (h : Er K ta σ H a) (hp : pre a) (he : err a = some C) (hE : ∀ H', Ex H H' → E (.ref C) none H') : Rz K (tCallS (PrX1 K pre err f) (fun _ => E) (tCons ta tNil)) σ H := fun H1 e Q =>
  h H1 e _ fun v H2 e2 r => ⟨v, a, rfl, r, hp, (fun z => by rw [he] at z; cases z), fun C' z H3 e3 => by rw [he] at z; cases z; exact hE H3 ((e.trans e2).trans e3)⟩
theorem rz_callX2 {pre : α → β → Prop} {err : α → β → Option Addr} {f : α → β → γ} {a : α} {b : β} {C : Addr} (h : Er K ta σ H a) (h2 : Er K tb σ H b) (hp : pre a b) (he : err a b = some C) (hE : ∀ H', Ex H H' → E (.ref C) none H') : Rz K (tCallS (PrX2 K pre err f) (fun _ => E) (tCons ta (tCons tb tNil))) σ H := fun H1 e Q =>
  h H1 e _ fun v H2 e2 r => h2 H2 (e.trans e2) _ fun w H3 e3 r3 => ⟨v, w, a, b, rfl, Rep.mono e3 r, r3, hp, (fun z => by rw [he] at z; cases z), fun C' z H4 e4 => by rw [he] at z; cases z; exact hE H4 (((e.trans e2).trans e3).trans e4)⟩
theorem rz_callXF2 {pre : α → β → Prop} {err : α → β → Option Addr} {f : α → β → List γ} {a : α} {b : β} {C : Addr} (h : Er K ta σ H a) (h2 : Er K tb σ H b) (hp : pre a b) (he : err a b = some C) (hE : ∀ H', Ex H H' → E (.ref C) none H') : Rz K (tCallS (PrXF2 K pre err f) (fun _ => E) (tCons ta (tCons tb tNil))) σ H := fun H1 e Q =>
  h H1 e _ fun v H2 e2 r => h2 H2 (e.trans e2) _ fun w H3 e3 r3 => ⟨v, w, a, b, rfl, Rep.mono e3 r, r3, hp, (fun z => by rw [he] at z; cases z), fun C' z H4 e4 => by rw [he] at z; cases z; exact hE H4 (((e.trans e2).trans e3).trans e4)⟩
theorem erf_callX2 {pre : α → β → Prop} {err : α → β → Option Addr} {f : α → β → List γ} {a : α} {b : β} (h : Er K ta σ H a) (h2 : Er K tb σ H b) (hp : pre a b) (he : err a b = none) : ErF K (tCall (PrXF2 K pre err f) [] E (tCons ta (tCons tb tNil))) σ H (f a b) := fun H1 e Q q =>
  h H1 e _ fun v H2 e2 r => h2 H2 (e.trans e2) _ fun w H3 e3 r3 => ⟨v, w, a, b, rfl, Rep.mono e3 r, r3, hp, fun _ p H4 np e4 r4 => q p H4 (fresh_back (e2.trans e3) np) ((e2.trans e3).trans e4) r4, fun C z => by rw [he] at z; cases z⟩
theorem rz_if {b : Bool} (h : Et K t σ H b) (h1 : b = true → Rz K ta σ H) (h2 : b = false → Rz K tb σ H) : Rz K (tIf t ta tb) σ H := fun H1 e Q => h H1 e _ fun H2 e2 => by
  cases b with
  | true => exact h1 rfl H2 (e.trans e2) Q
  | false => exact h2 rfl H2 (e.trans e2) Q
theorem g_dropR (h : Rz K te σ H) : Gx K (tDrop te D) σ H := fun H1 e => h H1 e _
theorem q_dropR (h : Rz K te σ H) : Gx K (tSeq (tDrop te) tz D) σ H := fun H1 e => h H1 e _
theorem g_retR (h : Rz K te σ H) : Gx K (tRet te D) σ H := fun H1 e => h H1 e _
theorem g_rz {C : Addr} (h : ∀ H', Ex H H' → E (.ref C) none H') : Gx K (tRz C E D) σ H := h
theorem q_rz {b : Bool} {C : Addr} (ht : Et K t σ H b) (hb : b = true) (h : ∀ H', Ex H H' → E (.ref C) none H') : Gx K (tSeq (tIfS t (tRz C E) tNext) tz D) σ H := q_when ht (fun _ => h) (fun z => by rw [hb] at z; cases z)
end
end Rf
set_option Elab.async false
set_option linter.all false
set_option maxRecDepth 100000
set_option maxHeartbeats 4000000
/-! Ex4: lists of things; tuple(xs); **; a range with a step. -/
namespace Rf
open PySem L2 Evl
/-! ### tuple(xs) -/
def rTupOf (K : PySem.W.Frag) : List V → Hp → VK → Prop := fun xs H Q => ∃ p ys, xs = [.ref p] ∧ ((SqL K H p ys ∧ ∀ l, H l = none → Q (.ref l) (upd H l (.tup ys))) ∨ (SqT K H p ys ∧ Q (.ref p) H))
theorem cTupOf {X : Cx} : CallR X (.type "tuple") (rTupOf X.K) := call_tuple_of
def rPowI : R2 := rI CPow fun i j => .int (i ^ j.toNat)
theorem oPowI {X : Cx} : OpR X (binaryOp .Pow) rPowI := op_pow
section
variable {α β γ : Type} [Rep α] [Rep β] [Rep γ] {K : PySem.W.Frag} {σ : L2.St} {H H' : Hp} {ta tb tc te tl : TE} {t u tt : TT} {X : Cx} {D : Ends} {tu tw tz : TS}
theorem er_pow {i j : Int} (ha : Er K ta σ H i) (hb : Er K tb σ H j) (hc : CPow i j) : Er K (tOp rPowI ta tb) σ H (i ^ j.toNat) := er_ev (ev_op (er_i ha) (er_i hb) (rv_I hc)) fun _ _ => rfl
theorem et_tupOf {ns : List Int} (h : Er K te σ H ns) : Er K (tCB (rTupOf K) (tCons te tNil)) σ H (Th.tup (ns.map Th.int)) := fun H1 e Q q =>
  h H1 e _ fun v H2 e2 ⟨p, ep, xs, hs, hall⟩ => ⟨p, xs, by rw [ep], Or.inl ⟨hs, fun l hl => q _ _ (e2.trans (Ex.new hl)) (by
    show repT K _ (.tup _) _
    simp only [repT]
    exact ⟨l, xs, rfl, upd_same, reps_all.mpr (all2_thI.mpr (hall.mp fun v a r => Rep.mono (Ex.new hl) r))⟩)⟩⟩
/-! ### a list of ints as a list of things -/
theorem ErF.thI {ns : List Int} (h : ErF K te σ H ns) : ErF K te σ H (ns.map Th.int) := fun H1 e Q q => h H1 e Q fun p H2 n e2 ⟨xs, h1, h2⟩ => q p H2 n e2 ⟨xs, h1, all2_thI.mpr h2⟩
/-- [t] * k -/
theorem all2_replicate {R : V → α → Prop} {x : V} {a : α} (h : R x a) : ∀ n, All2 R (List.replicate n x) (List.replicate n a)
  | 0 => .nil
  | n + 1 => .cons h (all2_replicate h n)
theorem flat_rep {α : Type} (x : α) : ∀ n, (List.replicate n [x]).flatten = List.replicate n x
  | 0 => rfl
  | n + 1 => by rw [List.replicate_succ, List.flatten_cons, flat_rep x n]; rfl
theorem erf_rep1 {a : α} {k : Int} (ha : ErF K ta σ H [a]) (hb : Er K tb σ H k) (h1 : -1000 ≤ k) (h2 : k ≤ 1000) : ErF K (tOp rRep ta tb) σ H (List.replicate k.toNat a) := fun H1 e Q q =>
  ha H1 e _ fun p H2 n e2 ⟨xs, o1, o2⟩ => er_i hb H2 (e.trans e2) _ fun H3 e3 => by
    obtain ⟨x, rfl⟩ : ∃ x, xs = [x] := by
      cases o2 with
      | cons r rr => cases rr; exact ⟨_, rfl⟩
    have ox : Rep.rep K (del H2 p) x a := by
      cases o2 with
      | cons r rr => exact r
    refine ⟨p, k, [x], rfl, rfl, e3 _ _ o1, by omega, by omega, ?_, fun l hn => q l _ (fresh_back (e2.trans e3) hn) ((e2.trans e3).trans (Ex.new hn)) ⟨_, upd_same, ?_⟩⟩
    · rw [sizeLine_eq]
      show 1 * k.toNat ≤ _
      omega
    · rw [flat_rep]
      exact all2_replicate (Rep.mono (((del_ex H2 p).trans e3).trans (ex_del (Ex.new hn) hn)) ox) _
/-! ### things that stand for themselves -/
def scal : Th → Bool
  | .lst _ => false
  | .tup _ => false
  | .dct => false
  | _ => true
theorem scal_any {H1 H2 : Hp} {v : V} : ∀ {t : Th}, scal t = true → Rep.rep K H1 v t → Rep.rep K H2 v t
  | .non, _, h => th_non.mpr (th_non.mp h)
  | .bl _, _, h => th_bl.mpr (th_bl.mp h)
  | .int _, _, h => th_int.mpr (th_int.mp h)
  | .str _, _, h => th_str.mpr (th_str.mp h)
theorem all_scal {H1 H2 : Hp} : ∀ {xs : List V} {l : List Th}, l.all scal = true → All2 (Rep.rep K H1) xs l → All2 (Rep.rep K H2) xs l
  | _, [], _, h => by cases h; exact .nil
  | _, t :: l, hs, h => by
    rw [List.all_cons, Bool.and_eq_true] at hs
    cases h with
    | cons h1 h2 => exact .cons (scal_any hs.1 h1) (all_scal hs.2 h2)
theorem es_sc {t : Th} (hs : scal t = true) (h : Er K te σ H t) : Es K te σ H t := fun H1 e Q q => h H1 e Q fun v H2 e2 r => q v H2 e2 (scal_any hs r)
theorem es_scl {l : List Th} (hs : l.all scal = true) (h : ErF K te σ H l) : Es K te σ H (Th.lst l) := fun H1 e Q q => h H1 e Q fun p H2 hp e2 ⟨xs, h1, h2⟩ => q _ H2 e2 (th_lst.mpr ⟨p, rfl, xs, sq_of (by rw [mix_new hp]; exact h1), all_scal hs h2⟩)
/-! ### a range with a step -/
def RgS (_ : PySem.W.Frag) (wi : TI) (σ : L2.St) (H : Hp) (lo c : Int) (n : Nat) : Prop := ∀ H1, Ex H H1 → ∀ R : It → Hp → Prop, (∀ H2, Ex H1 H2 → R (Itc lo c n) H2) → wi σ H1 R
theorem rng3 {lo hi c : Int} {n : Nat} (ha : Er K ta σ H lo) (hb : Er K tb σ H hi) (hc : Er K tc σ H c) (h : RgC lo hi c n) : RgS K (iRng3 (tCons ta (tCons tb (tCons tc tNil)))) σ H lo c n := fun H1 e R r =>
  er_i ha H1 e _ fun H2 e2 => er_i hb H2 (e.trans e2) _ fun H3 e3 => er_i hc H3 ((e.trans e2).trans e3) _ fun H4 e4 => ⟨lo, hi, c, n, rfl, h, r H4 ((e2.trans e3).trans e4)⟩
theorem g_forC {j : Nat} {lo c : Int} {n : Nat} {wi : TI} (h : RgS K wi σ H lo c n) (Inv : Nat → L2.St → Hp → Prop) (h0 : ∀ H1, Ex H H1 → Inv 0 σ H1)
    (hs : ∀ (i : Nat) σ' H', i < n → Inv i σ' H' → Gx K (tu { D with nx := Inv (i + 1), ct := Inv (i + 1), bk := D.nx }) (σ'.set j (some (.int (lo + (i : Nat) * c)))) H') (hd : ∀ σ' H', Inv n σ' H' → D.nx σ' H') :
    Gx K (tFor wi (gName j) tu D) σ H := fun H1 e => h H1 e _ fun H2 e2 => for_rangeC (lo := lo) (c := c) (n := n) Inv (h0 H2 (e.trans e2)) (fun i σ' H' hi iv => (hs i σ' H' hi iv).here) hd
theorem q_forC {j : Nat} {lo c : Int} {n : Nat} {wi : TI} (h : RgS K wi σ H lo c n) (Inv : Nat → L2.St → Hp → Prop) (h0 : ∀ H1, Ex H H1 → Inv 0 σ H1)
    (hs : ∀ (i : Nat) σ' H', i < n → Inv i σ' H' → Gx K (tu { D with nx := Inv (i + 1), ct := Inv (i + 1), bk := tz D }) (σ'.set j (some (.int (lo + (i : Nat) * c)))) H') (hd : ∀ σ' H', Inv n σ' H' → Gx K (tz D) σ' H') :
    Gx K (tSeq (tFor wi (gName j) tu) tz D) σ H := g_forC (D := { D with nx := tz D }) h Inv h0 hs (fun σ' H' iv => (hd σ' H' iv).here)
/-- a, b = x, ys, the second a new list -/
theorem q_parF {i j : Nat} {a : α} {bs : List β} (h1 : Er K ta σ H a) (h2 : ErF K tb σ H bs) (k : ∀ v q H1, Ex H H1 → H q = none → Rep.rep K H1 v a → Own K H1 q bs → Gx K (tz D) ((σ.set i (some v)).set j (some (.ref q))) H1) :
    Gx K (tSeq (tPar i j (tCons ta (tCons tb tNil))) tz D) σ H := fun H1 e =>
  h1 H1 e _ fun v H2 e2 r1 => h2 H2 (e.trans e2) _ fun q H3 n3 e3 o => ⟨v, .ref q, rfl, (k v q H3 ((e.trans e2).trans e3) (fresh_back (e.trans e2) n3) (Rep.mono e3 r1) o).here⟩
end
end Rf
set_option Elab.async false
set_option linter.all false
set_option maxRecDepth 100000
set_option maxHeartbeats 4000000
/-! Ex5: lists of things that all are such and such. -/
namespace Rf
open PySem L2 Evl
def EaP (K : PySem.W.Frag) (ta : TA) (σ : L2.St) (H : Hp) (P : Th → Prop) (n : Nat) : Prop := ∃ as : List Th, EaL K ta σ H as ∧ (∀ t ∈ as, P t) ∧ as.length = n
def OwnP (K : PySem.W.Frag) (H : Hp) (p : Addr) (P : Th → Prop) (n : Nat) : Prop := ∃ as : List Th, Own K H p as ∧ (∀ t ∈ as, P t) ∧ as.length ≤ n
section
variable {K : PySem.W.Frag} {σ : L2.St} {H H' : Hp} {ta tb tc te tl : TE} {t u tt : TT} {X : Cx} {D : Ends} {tu tw tz : TS} {P : Th → Prop}
theorem eap_nil : EaP K tNil σ H P 0 := ⟨[], eal_nil, by simp, rfl⟩
theorem eap_cons {n : Nat} {tr : TA} {x : Th} (h : Er K te σ H x) (hp : P x) (hr : EaP K tr σ H P n) : EaP K (tCons te tr) σ H P (n + 1) := by
  obtain ⟨as, h1, h2, h3⟩ := hr
  exact ⟨x :: as, eal_cons h h1, List.forall_mem_cons.mpr ⟨hp, h2⟩, by rw [List.length_cons, h3]⟩
theorem OwnP.up {p : Addr} {n : Nat} (h : OwnP K H p P n) (e : Ex H H') : OwnP K H' p P n := by
  obtain ⟨as, h1, h2, h3⟩ := h
  exact ⟨as, h1.up e, h2, h3⟩
theorem OwnP.le {p : Addr} {n m : Nat} (h : OwnP K H p P n) (e : n ≤ m) : OwnP K H p P m := by
  obtain ⟨as, h1, h2, h3⟩ := h
  exact ⟨as, h1, h2, by omega⟩
theorem q_asgP {i n : Nat} {tr : TA} (h : EaP K tr σ H P n) (hn : n ≤ 1000) (k : ∀ p H1, H p = none → Ex H H1 → OwnP K H1 p P n → Gx K (tz D) (σ.set i (some (.ref p))) H1) : Gx K (tSeq (tAsg (tLst tr) (gName i)) tz D) σ H := by
  obtain ⟨as, h1, h2, h3⟩ := h
  exact q_asgF (as := as) (erf_lst h1 (by omega)) fun p H1 np e o => k p H1 np e ⟨as, o, h2, by omega⟩
theorem g_catP {i j n m : Nat} {tr : TA} {p : Addr} (hv : σ[j]? = some (some (.ref p))) (ho : OwnP K H p P n) (h : EaP K tr σ H P m) (hn : n + m ≤ 1000) (k : ∀ p H1, H p = none → Ex H H1 → OwnP K H1 p P (n + m) → Gx K D.nx (σ.set i (some (.ref p))) H1) : Gx K (tAsg (tOp rCat (tVar j) (tLst tr)) (gName i) D) σ H := by
  obtain ⟨as, h1, h2, h3⟩ := h
  obtain ⟨bs, o1, o2, o3⟩ := ho
  exact g_asgF (as := bs ++ as) (erf_catL (ev_var hv) o1 (erf_lst h1 (by omega)) (by omega)) fun p H1 np e o => k p H1 np e ⟨bs ++ as, o, fun t ht => (List.mem_append.mp ht).elim (o2 t) (h2 t), by rw [List.length_append]; omega⟩
theorem q_catP {i j n m : Nat} {tr : TA} {p : Addr} (hv : σ[j]? = some (some (.ref p))) (ho : OwnP K H p P n) (h : EaP K tr σ H P m) (hn : n + m ≤ 1000) (k : ∀ p H1, H p = none → Ex H H1 → OwnP K H1 p P (n + m) → Gx K (tz D) (σ.set i (some (.ref p))) H1) : Gx K (tSeq (tAsg (tOp rCat (tVar j) (tLst tr)) (gName i)) tz D) σ H := g_catP (D := { D with nx := tz D }) hv ho h hn k
theorem g_appP {i n : Nat} {p : Addr} {B : Hp} {x : Th} (ho : OwnP K H p P n) (hv : σ[i]? = some (some (.ref p))) (eB : Ex B H) (hB : B p = none) (h : Es K te σ B x) (hx : P x) (hn : n ≤ 1000) (k : ∀ H1, ExBut p H H1 → OwnP K H1 p P (n + 1) → Gx K D.nx σ H1) :
    Gx K (tDrop (tBM K "list" rAppend (tVar i) (tCons te tNil)) D) σ H := by
  obtain ⟨bs, o1, o2, o3⟩ := ho
  exact g_appB (a := x) o1 hv eB hB h (by omega) fun H1 eb o => k H1 eb ⟨bs ++ [x], o, fun t ht => (List.mem_append.mp ht).elim (o2 t) (fun z => by rw [List.mem_singleton] at z; rw [z]; exact hx), by rw [List.length_append]; show bs.length + 1 ≤ _; omega⟩
/-- the range that the law's texts walk -/
theorem stepR : ∀ m : Fin 65, Builtin.Range.small 0 (m.val : Int) (1 + (m.val : Int) / 6) = true ∧ Builtin.Range.rangeSize 0 (m.val : Int) (1 + (m.val : Int) / 6) = ((Builtin.Range.rangeSize 0 (m.val : Int) (1 + (m.val : Int) / 6)).toNat : Int) ∧ (Builtin.Range.rangeSize 0 (m.val : Int) (1 + (m.val : Int) / 6)).toNat ≤ 20 ∧ ∀ i : Fin 20, i.val < (Builtin.Range.rangeSize 0 (m.val : Int) (1 + (m.val : Int) / 6)).toNat → (0 : Int) + (i.val : Int) * (1 + (m.val : Int) / 6) < m.val := by decide +kernel
theorem stepN {m : Nat} (h : m ≤ 64) : ∃ n, n ≤ 20 ∧ RgC 0 (m : Int) (1 + (m : Int) / 6) n ∧ ∀ i, i < n → ∃ at_ : Nat, (0 : Int) + (i : Int) * (1 + (m : Int) / 6) = (at_ : Int) ∧ at_ < m := by
  obtain ⟨h1, h0, h2, h3⟩ := stepR ⟨m, by omega⟩
  have hd : 0 ≤ (m : Int) / 6 := Int.ediv_nonneg (by omega) (by decide)
  have hd2 : (m : Int) / 6 ≤ 64 := by omega
  refine ⟨_, h2, ⟨by omega, by omega, h1, h0⟩, fun i hi => ?_⟩
  have h4 := h3 ⟨i, by omega⟩ hi
  have h5 : 0 ≤ (i : Int) * (1 + (m : Int) / 6) := Int.mul_nonneg (by omega) (by omega)
  refine ⟨((0 : Int) + (i : Int) * (1 + (m : Int) / 6)).toNat, by omega, ?_⟩
  have h6 : (0 : Int) + (i : Int) * (1 + (m : Int) / 6) < m := h4
  omega
end
end Rf
set_option Elab.async false
set_option linter.all false
set_option maxRecDepth 100000
set_option maxHeartbeats 4000000
/-! Ex6: lists of things that lean on the base's and on new objects alone. -/
namespace Rf
open PySem L2 Evl
theorem mix_grow {H H1 H2 H3 : Hp} (e : Ex H2 H3) : Ex (mix H H1 H2) (mix H H1 H3) := fun a o q => by
  unfold mix at q ⊢
  split at q
  · rename_i c
    rw [if_pos c]
    exact e _ _ q
  · cases q
theorem mix_late {H H1 H2 H3 : Hp} (e : Ex H1 H2) : Ex (mix H H2 H3) (mix H H1 H3) := fun a o q => by
  unfold mix at q ⊢
  split at q
  · rename_i c
    rw [if_pos (c.imp id fun z => fresh_back e z)]
    exact q
  · cases q
def EaS {α : Type} [Rep α] (K : PySem.W.Frag) (ta : TA) (σ : L2.St) (H : Hp) (as : List α) : Prop := ∀ H1, Ex H H1 → ∀ Q : List V → Hp → Prop, (∀ vs H2, Ex H1 H2 → All2 (Rep.rep K (mix H H1 H2)) vs as → Q vs H2) → ta σ H1 Q
def EsF {α : Type} [Rep α] (K : PySem.W.Frag) (te : TE) (σ : L2.St) (H : Hp) (as : List α) : Prop := ∀ H1, Ex H H1 → ∀ Q : VK, (∀ p H2 xs, H1 p = none → Ex H1 H2 → H2 p = some (.lst xs) → All2 (Rep.rep K (mix H H1 H2)) xs as → Q (.ref p) H2) → te σ H1 Q
section
variable {α : Type} [Rep α] {K : PySem.W.Frag} {σ : L2.St} {H H' : Hp} {ta tb tc te tl : TE} {tr : TA}
theorem eas_nil : EaS K tNil σ H ([] : List α) := fun H1 _ _ q => q [] H1 (Ex.refl H1) .nil
theorem eas_cons {a : α} {as : List α} (h : Es K te σ H a) (hr : EaS K tr σ H as) : EaS K (tCons te tr) σ H (a :: as) := fun H1 e _ q =>
  h H1 e _ fun v H2 e2 r => hr H2 (e.trans e2) _ fun vs H3 e3 rs => q _ H3 (e2.trans e3) (.cons (Rep.mono (mix_grow e3) r) (rs.mp fun _ _ r => Rep.mono (mix_late e2) r))
theorem esf_lst {as : List α} (h : EaS K tr σ H as) (hl : as.length ≤ 100000) : EsF K (tLst tr) σ H as := fun H1 e _ q =>
  h H1 e _ fun vs H2 e2 hv => ⟨sz_of (by rw [hv.len]; exact hl), fun p hp => q p _ vs (fresh_back e2 hp) (e2.trans (Ex.new hp)) upd_same (hv.mp fun _ _ r => Rep.mono (mix_grow (Ex.new hp)) r)⟩
theorem esf_flat [Flat α] {as : List α} (h : ErF K te σ H as) : EsF K te σ H as := fun H1 e Q q => h H1 e Q fun p H2 hp e2 ⟨xs, h1, h2⟩ => q p H2 xs hp e2 h1 h2.flat
theorem esf_sc {l : List Th} (hs : l.all scal = true) (h : ErF K te σ H l) : EsF K te σ H l := fun H1 e Q q => h H1 e Q fun p H2 hp e2 ⟨xs, h1, h2⟩ => q p H2 xs hp e2 h1 (all_scal hs h2)
theorem scal_ints (ns : List Int) : (ns.map Th.int).all scal = true := by
  rw [List.all_eq_true]
  intro t ht
  obtain ⟨i, _, rfl⟩ := List.mem_map.mp ht
  rfl
theorem esf_ints {ns : List Int} (h : ErF K te σ H ns) : EsF K te σ H (ns.map Th.int) := esf_sc (scal_ints ns) h.thI
theorem esf_cat {as bs : List α} (ha : EsF K ta σ H as) (hb : EsF K tb σ H bs) (hl : as.length + bs.length ≤ 100000) : EsF K (tOp rCat ta tb) σ H (as ++ bs) := fun H1 e Q q =>
  ha H1 e _ fun p H2 xs hp e2 h1 h2 => hb H2 (e.trans e2) _ fun p' H3 ys hp' e3 h3 h4 =>
    ⟨p, p', xs, ys, rfl, rfl, e3 _ _ h1, h3, by rw [h2.len, h4.len]; exact sz_of hl, fun l hn => q l _ (xs ++ ys) (fresh_back (e2.trans e3) hn) ((e2.trans e3).trans (Ex.new hn)) upd_same
      ((h2.mp fun _ _ r => Rep.mono (mix_grow (e3.trans (Ex.new hn))) r).append (h4.mp fun _ _ r => Rep.mono ((mix_late e2).trans (mix_grow (Ex.new hn))) r))⟩
theorem es_th {l : List Th} (h : EsF K te σ H l) : Es K te σ H (Th.lst l) := fun H1 e Q q => h H1 e Q fun p H2 xs hp e2 h1 h2 => q _ H2 e2 (th_lst.mpr ⟨p, rfl, xs, sq_of (by rw [mix_new hp]; exact h1), h2⟩)
theorem es_tupIx {as : List α} {i : Int} {a : α} (h : EaS K tr σ H as) (hl : as.length ≤ 100000) (hb : Er K tb σ H i) (e : atI as i = some a) : Es K (tOp (rIxT K) (tTup tr) tb) σ H a := fun H1 e1 Q q =>
  h H1 e1 _ fun vs H2 e2 hv => ⟨sz_of (by rw [hv.len]; exact hl), fun p hp => er_i hb _ ((e1.trans e2).trans (Ex.new hp)) _ fun H3 e3 => by
    obtain ⟨v, hv1, r⟩ := atI_all hv e
    exact ⟨p, vs, i, v, rfl, rfl, ex_t e3 (st_of upd_same), hv1, q v H3 ((e2.trans (Ex.new hp)).trans e3) (Rep.mono (mix_grow ((Ex.new hp).trans e3)) r)⟩⟩
end
/-! ### of classes -/
theorem cls_if {K : PySem.W.Frag} {S : Addr} (h2 : PySem.W.isClsIn K S = true) (h3 : PySem.W.typeIn K (.ref S) = some (.type "type")) (t : Value) : PySem.W.kitCls K t (.ref S) = PySem.W.subIn K t (.ref S) := by
  have e2 : ((PySem.W.clsIn K S).isSome && PySem.W.typeIn K (.ref S) == some (.type "type")) = true := by
    have h2' : (PySem.W.clsIn K S).isSome = true := h2
    rw [h2', h3] <;> rfl
  show (if ((PySem.W.clsIn K S).isSome && PySem.W.typeIn K (.ref S) == some (.type "type")) = true then PySem.W.subIn K t (.ref S) else none) = _
  rw [if_pos e2]
theorem exm_of {K : PySem.W.Frag} {C S : Addr} (h1 : PySem.W.subIn K (.ref S) (.type "BaseException") = some true) (h2 : PySem.W.isClsIn K S = true) (h3 : PySem.W.typeIn K (.ref S) = some (.type "type")) (h4 : PySem.W.subIn K (.ref C) (.ref S) = some true) : PySem.W.exmOne K (.ref C) (.ref S) = some true := by
  have e1 : (PySem.W.subIn K (.ref S) (.type "BaseException") == some true) = true := by rw [h1] <;> rfl
  unfold PySem.W.exmOne
  rw [if_pos e1, cls_if h2 h3]
  exact h4
theorem kit_of {K : PySem.W.Frag} {C S : Addr} {b : Bool} (h2 : PySem.W.isClsIn K S = true) (h3 : PySem.W.typeIn K (.ref S) = some (.type "type")) (h4 : PySem.W.subIn K (.ref C) (.ref S) = some b) (h5 : PySem.W.subIn K (.ref C) (.ref C) = some true) : PySem.W.kitOne K (.ref C) (.ref S) = some b := by
  unfold PySem.W.kitOne
  by_cases e : C = S
  · subst e
    rw [if_pos (beq_self_eq_true _), ← h4, h5]
  · rw [if_neg (by rw [beq_iff_eq]; intro z; cases z; exact e rfl), cls_if h2 h3]
    exact h4
theorem kit_ve {K : PySem.W.Frag} {C : Addr} (h : PySem.W.subIn K (.ref C) (.type "ValueError") = some true) : PySem.W.kitOne K (.ref C) (.type "ValueError") = some true := by
  unfold PySem.W.kitOne
  rw [if_neg (by rw [beq_iff_eq]; intro z; cases z)]
  show (if PySem.W.kitMeta "ValueError" = true then PySem.W.subIn K (.ref C) (.type "ValueError") else none) = some true
  rw [if_pos (by decide +kernel)]
  exact h
/-! ### things that all are such and such: two names at once; a displayed tuple that is walked -/
section
variable {α : Type} [Rep α] {K : PySem.W.Frag} {σ : L2.St} {H H' : Hp} {ta tb te : TE} {D : Ends} {tu tz : TS} {P : Th → Prop} {tr : TA}
theorem q_parP {i j n : Nat} {a : α} (h1 : Er K ta σ H a) (h : EaP K tr σ H P n) (hn : n ≤ 1000) (k : ∀ v q H1, Ex H H1 → H q = none → Rep.rep K H1 v a → OwnP K H1 q P n → Gx K (tz D) ((σ.set i (some v)).set j (some (.ref q))) H1) :
    Gx K (tSeq (tPar i j (tCons ta (tCons (tLst tr) tNil))) tz D) σ H := by
  obtain ⟨as, g1, g2, g3⟩ := h
  exact q_parF (a := a) (bs := as) h1 (erf_lst g1 (by omega)) fun v q H1 e np r o => k v q H1 e np r ⟨as, o, g2, by omega⟩
theorem q_forTP {j n : Nat} (h : EaP K tr σ H P n) (hn : n ≤ 1000) (Inv : Hp → L2.St → Hp → Prop) (h0 : ∀ B H1, Ex H B → Ex B H1 → Inv B σ H1) (hI : ∀ B σ' H', Inv B σ' H' → Ex B H')
    (hs : ∀ B (t : Th) v σ' H', Ex H B → P t → Rep.rep K B v t → Inv B σ' H' → Gx K (tu { D with nx := Inv B, ct := Inv B, bk := tz D }) (σ'.set j (some v)) H') (hd : ∀ B σ' H', Ex H B → Inv B σ' H' → Gx K (tz D) σ' H') :
    Gx K (tSeq (tFor (iTup K (tTup tr)) (gName j) tu) tz D) σ H := by
  obtain ⟨as, g1, g2, g3⟩ := h
  exact q_forT (as := as) g1 (by omega) (fun B _ => Inv B) h0 (fun B _ => hI B) (fun B i t v σ' H' e ht r iv => hs B t v σ' H' e (g2 t (List.mem_of_getElem? ht)) r iv) fun B σ' H' e iv => hd B σ' H' e iv
end
end Rf
set_option Elab.async false
set_option linter.all false
set_option maxRecDepth 100000
set_option maxHeartbeats 4000000
namespace W
open PySem PySem.Spec PyProof.Rows L2 Evl Rf
def topS (i : Nat) : Stmt := PySem.Challenge.pw_risefall_k05_refused.main.body.getD i (.Pass ⟨0, 0, 0, 0⟩)
/-- the built-in names that the text reads -/
structure Bi (mg : Str → Option Value) : Prop where
  ValueError_ : mg "ValueError" = none
  all_ : mg "all" = none
  bool_ : mg "bool" = none
  enumerate_ : mg "enumerate" = none
  int_ : mg "int" = none
  isinstance_ : mg "isinstance" = none
  len_ : mg "len" = none
  list_ : mg "list" = none
  range_ : mg "range" = none
  sorted_ : mg "sorted" = none
  str_ : mg "str" = none
  sum_ : mg "sum" = none
  tuple_ : mg "tuple" = none

section
variable {P : Program} {w : World} {K : PySem.W.Frag} {mg : Str → Option Value} {base : Heap}
local macro_rules | `(tactic| walk_at "ex") => `(tactic| first | assumption | exact Ex.refl _ | exact Ex.trans (by assumption) (by assumption))
local macro_rules | `(tactic| walk_at "rep") => `(tactic| first | exact rfl | assumption | exact up (by assumption) (by assumption) | exact Own.rep (by assumption) | exact Own.rep (Own.up (by assumption) (by assumption)) | skip)
local macro_rules | `(tactic| walk_at "side") => `(tactic| first | assumption | omega | decide | trivial | skip)
local macro_rules | `(tactic| walk_at "er") => `(tactic| first
  | with_reducible exact er_int | with_reducible exact er_str | with_reducible exact er_bl | with_reducible exact er_non
  | ((with_reducible apply er_var) <;> walk_at "rep")
  | ((with_reducible apply er_add) <;> walk_at "er")
  | ((with_reducible apply er_sub) <;> walk_at "er")
  | ((with_reducible apply er_neg) <;> walk_at "er")
  | ((with_reducible apply er_mul) <;> walk_at "er")
  | ((with_reducible apply er_mod) <;> walk_at "er")
  | ((with_reducible apply er_div) <;> walk_at "er")
  | ((with_reducible apply er_lt) <;> walk_at "er")
  | ((with_reducible apply er_le) <;> walk_at "er")
  | ((with_reducible apply er_gt) <;> walk_at "er")
  | ((with_reducible apply er_ge) <;> walk_at "er")
  | ((with_reducible apply er_eqi) <;> walk_at "er")
  | ((with_reducible apply er_nei) <;> walk_at "er")
  | ((with_reducible apply er_eqt) <;> walk_at "er")
  | ((with_reducible apply er_net) <;> walk_at "er")
  | ((with_reducible apply er_eqb) <;> walk_at "er")
  | ((with_reducible apply er_neb) <;> walk_at "er")
  | ((with_reducible apply er_lenL) <;> walk_at "er")
  | ((with_reducible apply er_not) <;> walk_at "er")
  | ((with_reducible apply er_sum) <;> walk_at "er")
  | ((with_reducible apply er_abs) <;> walk_at "er")
  | ((with_reducible apply er_max2) <;> walk_at "er")
  | ((with_reducible apply er_min2) <;> walk_at "er")
  | ((with_reducible apply er_chLtLt) <;> walk_at "er")
  | ((with_reducible apply er_chLeLt) <;> walk_at "er")
  | ((with_reducible apply er_ixL) <;> walk_at "er")
  | ((with_reducible apply er_ixT) <;> walk_at "er")
  | ((with_reducible apply er_call1) <;> walk_at "er")
  | ((with_reducible apply er_call2) <;> walk_at "er")
  | ((with_reducible apply er_call3) <;> walk_at "er")
  | assumption | omega | exact Or.inr ⟨by decide, by decide⟩ | exact Or.inl ⟨by decide, by decide⟩ | exact Or.inl ⟨by omega, by omega⟩ | exact Or.inr ⟨by omega, by omega⟩ | exact ⟨by decide, by decide⟩ | exact ⟨by omega, by omega⟩ | trivial
  | skip)
local macro_rules | `(tactic| walk_at "et") => `(tactic| first
  | ((with_reducible apply et_e) <;> walk_at "er")
  | ((with_reducible apply et_v) <;> walk_at "er")
  | ((with_reducible apply et_not') <;> walk_at "et")
  | ((with_reducible refine et_and' ?_ fun hand => ?_) <;> walk_at "et")
  | ((with_reducible refine et_or' ?_ fun hor => ?_) <;> walk_at "et")
  | skip)

/-! ### the program's defs, with refusals -/
def sp_is_whole (K : PySem.W.Frag) : Sp := Pr1 K (fun (_ : Th) => True) isWh
abbrev s_is_whole : Stmt := topS 7
abbrev N_is_whole : List Str := ["thing"]
theorem sc_is_whole : FnScope N_is_whole ["thing"] (defScope s_is_whole) := ⟨rfl, rfl, rfl, by decide +kernel, rfl, by decide +kernel, by decide +kernel⟩
def t_is_whole (K : PySem.W.Frag) : TS :=
  (tRet (tAndV (tCB (rIsi K) (tCons (tVar 0) (tCons (tC (.ty "int")) tNil))) (tNotV (tCB (rIsi K) (tCons (tVar 0) (tCons (tC (.ty "bool")) tNil))))))

theorem pure_is_whole (K : PySem.W.Frag) (vs : List V) (H : Hp) (Q : VK) (E : XK) (h : sp_is_whole K vs H Q E) : t_is_whole K { nx := fun _ H' => Q .non H', rt := Q } (start N_is_whole vs) H := by
  obtain ⟨v, t, rfl, r, _, q⟩ := h
  refine Gx.here (K := K) (g_ret (a := isWh t) (er_and (er_isT (er_var rfl r) (isK_ok t).2.1) fun _ => er_not (er_isT (er_var rfl r) (isK_ok t).2.2.1)) q)
theorem ok_is_whole {f : Addr} {fd : FuncData} (F : Fun K "is_whole" "is_whole" s_is_whole f fd) (T : Bi mg) : FnOk P w K mg base CX0 1 f fd ["thing"] (sp_is_whole K) :=
  F.ok sc_is_whole (fun vs H Q E h => by first | exact len_pr1 h | exact len_pr2 h | exact len_pr3 h | exact len_prF1 h | exact len_prF2 h | exact len_is_whole h) (fun cdv A outer s H vs Q E hr h => ⟨t_is_whole K, by exact
    ((pss_one (ps_ret (pe_and (pe_callB cIsi (by rfl) T.isinstance_ (by decide +kernel) (pa_cons (pv 0) (pa_cons (pe_bltn (v := .ty "int") (by rfl) T.int_ (by decide +kernel) rfl) pa_nil))) (pe_one (pe_not (pe_callB cIsi (by rfl) T.isinstance_ (by decide +kernel) (pa_cons (pv 0) (pa_cons (pe_bltn (v := .ty "bool") (by rfl) T.bool_ (by decide +kernel) rfl) pa_nil))))))))), pure_is_whole K vs H Q E h⟩)

def sp_check_word (K : PySem.W.Frag) (cs : EC) : Sp := PrX1 K (szT 1000) (errW cs) fun _ => ()
theorem len_check_word {K : PySem.W.Frag} {cs : EC} {vs : List V} {H : Hp} {Q : VK} {E : XK} (h : sp_check_word K cs vs H Q E) : vs.length = 1 := len_prX1 h
abbrev s_check_word : Stmt := topS 8
abbrev N_check_word : List Str := ["word", "letter"]
theorem sc_check_word : FnScope N_check_word ["word"] (defScope s_check_word) := ⟨rfl, rfl, rfl, by decide +kernel, rfl, by decide +kernel, by decide +kernel⟩
def t_check_word (K : PySem.W.Frag) (cs : EC) (E : XK) : TS :=
  (tIfS (tOr (tNot (tB (tCB (rIsi K) (tCons (tVar 0) (tCons (tC (.ty "str")) tNil))))) (tNot (tB (tCB (rAll K) (tCons (tLc (iStr (tVar 0)) (gName 1) tYes (tOp (rInS false) (tVar 1) (tC (.str ("ud" : Str)))) [1]) tNil))))) (tRz cs.W E) tNext)

theorem pure_check_word (K : PySem.W.Frag) (cs : EC) (vs : List V) (H : Hp) (Q : VK) (E : XK) (h : sp_check_word K cs vs H Q E) : t_check_word K cs E { nx := fun _ H' => Q .non H', rt := Q } (start N_check_word vs) H := by
  obtain ⟨v, t, rfl, r, hz, q, e⟩ := h
  have hb : Et K (tOr (tNot (tB (tCB (rIsi K) (tCons (tVar 0) (tCons (tC (.ty "str")) tNil))))) (tNot (tB (tCB (rAll K) (tCons (tLc (iStr (tVar 0)) (gName 1) tYes (tOp (rInS false) (tVar 1) (tC (.str ("ud" : Str)))) [1]) tNil))))) [some v, none] H (!isK t "str" || !goodW t) := by
    refine et_or' (et_not' (et_v (er_isT (er_var rfl r) (isK_ok t).1))) fun hs => et_not' (et_v ?_)
    cases t with
    | str z =>
      have hz' : z.length ≤ 1000 := hz
      refine (er_all (ErF.er (erf_lcS (x := z) (er_var rfl (th_str.mp r)) (by omega) (fun _ => rfl) fun i c H1 _ _ => es_flat (er_inS (er_var rfl rfl) (er_lit tx_ud))))).to ?_
      rw [List.all_map]; rfl
    | _ => cases hs
  refine Gx.here (K := K) (g_if hb (fun hq => ?_) fun hq => ?_)
  · refine g_rz fun H1 e1 => e cs.W (errW_f ?_) H1 e1
    cases t with
    | str z => simpa [isK] using hq
    | _ => rfl
  · refine g_next fun H1 e1 => q (errW_t ?_) .non H1 e1 rfl
    cases t with
    | str z => simpa [isK] using hq
    | _ => simp [isK] at hq
theorem ok_check_word {f : Addr} {fd : FuncData} (F : Fun K "check_word" "check_word" s_check_word f fd) (T : Bi mg) {cs : EC} (XF : ExF K mg cs) : FnOk P w K mg base (L2.CX P w) 1 f fd ["word"] (sp_check_word K cs) :=
  F.okX sc_check_word (fun vs H Q E h => len_check_word h) (fun cdv A outer s H vs Q E hr h => ⟨t_check_word K cs E, by exact
    ((pss_one (ps_if (PW.pt (pw_or (pt_not (pt_val (pe_callB cIsi (by rfl) T.isinstance_ (by decide +kernel) (pa_cons (pv 0) (pa_cons (pe_bltn (v := .ty "str") (by rfl) T.str_ (by decide +kernel) rfl) pa_nil))))) (pw_or1 (pt_not (pt_val (pe_callB (cr_all rfl) (by rfl) T.all_ (by decide +kernel) (pa_cons (pe_lc (own := [("letter", 1)]) (g := (gName 1)) (tt := tYes) rfl sc_check_word.nd (pi_str (pv 0)) (blkOk_by (own := [("letter", 1)]) (N := N_check_word) (sc := defScope s_check_word) (by decide +kernel)) (fun _ _ _ _ _ => (pg_name (i := 1) sc_check_word.nd rfl (.inl rfl))) (fun _ _ _ _ _ => pts_nil) (fun _ _ _ _ _ => (pe_cmpR oInS (pv 1) pe_str (by rfl)))) pa_nil))))))) (pss_one (ps_raise rfl (takes_of rfl rfl rfl rfl) (pmk_own PySem.F.excBase_ValueError XF.W.xC XF.W.gC XF.W.kC (raises_own XF.W.iC.hs XF.W.tC) (by exact rfl))))
      pss_nil))), pure_check_word K cs vs H Q E h⟩)

def sp_check_row (K : PySem.W.Frag) (cs : EC) : Sp := PrX1 K (szT 1000) (errR cs) fun _ => ()
theorem len_check_row {K : PySem.W.Frag} {cs : EC} {vs : List V} {H : Hp} {Q : VK} {E : XK} (h : sp_check_row K cs vs H Q E) : vs.length = 1 := len_prX1 h
abbrev s_check_row : Stmt := topS 9
abbrev N_check_row : List Str := ["row", "number"]
theorem sc_check_row : FnScope N_check_row ["row"] (defScope s_check_row) := ⟨rfl, rfl, rfl, by decide +kernel, rfl, by decide +kernel, by decide +kernel⟩
def t_check_row (K : PySem.W.Frag) (cs : EC) (E : XK) : TS :=
  (tIfS (tOr (tNot (tB (tCB (rIsi K) (tCons (tVar 0) (tCons (tC (.ty "list")) tNil))))) (tNot (tB (tCB (rAll K) (tCons (tLc (iList K (tVar 0)) (gName 1) tYes (tCall (sp_is_whole K) [] E0 (tCons (tVar 1) tNil)) [1]) tNil))))) (tRz cs.R E) tNext)

/-- not a list, or not all whole -/
theorem et_rowT {K : PySem.W.Frag} {σ : L2.St} {H : Hp} {i j : Nat} {v : V} {t : Th} (hv : σ[i]? = some (some v)) (r : Rep.rep K H v t) (hz : szT 1000 t) (hw : ∀ x, wipe ((wipe σ [j]).set j (some x)) [j] = wipe σ [j]) (hj : ∀ x : V, ((wipe σ [j]).set j (some x))[j]? = some (some x)) :
    Et K (tOr (tNot (tB (tCB (rIsi K) (tCons (tVar i) (tCons (tC (.ty "list")) tNil))))) (tNot (tB (tCB (rAll K) (tCons (tLc (iList K (tVar i)) (gName j) tYes (tCall (sp_is_whole K) [] E0 (tCons (tVar j) tNil)) [j]) tNil))))) σ H (!(rowT t).isSome) := by
  have hb : (!(rowT t).isSome) = (!isK t "list" || !(match t with | .lst l => l.all isWh | _ => false)) := by
    cases t with
    | lst l =>
      show (!(if l.all isWh then some (intsT l) else none).isSome) = (!true || !l.all isWh)
      cases l.all isWh <;> rfl
    | _ => rfl
  rw [hb]
  refine et_or' (et_not' (et_v (er_isT (er_var hv r) (isK_ok t).2.2.2))) fun hs => et_not' (et_v ?_)
  cases t with
  | lst l =>
    have hz' : l.length ≤ 1000 := hz
    refine (er_all (ErF.er (erf_lc (as := l) (f := isWh) (er_var hv (th_lst.mp r)) (by omega) hw fun k a va H1 e ha ra => es_flat (er_call1 (a := a) (er_var (hj va) ra) trivial)))).to ?_
    rw [List.all_map]; rfl
  | _ => cases hs
theorem pure_check_row (K : PySem.W.Frag) (cs : EC) (vs : List V) (H : Hp) (Q : VK) (E : XK) (h : sp_check_row K cs vs H Q E) : t_check_row K cs E { nx := fun _ H' => Q .non H', rt := Q } (start N_check_row vs) H := by
  obtain ⟨v, t, rfl, r, hz, q, e⟩ := h
  refine Gx.here (K := K) (g_if (et_rowT rfl r hz (fun _ => rfl) fun _ => rfl) (fun hq => ?_) fun hq => ?_)
  · refine g_rz fun H1 e1 => e cs.R (errR_f ?_) H1 e1
    simpa using hq
  · refine g_next fun H1 e1 => q (errR_t ?_) .non H1 e1 rfl
    simpa using hq
theorem ok_check_row {f f_is_whole : Addr} {fd fd_is_whole : FuncData} (F : Fun K "check_row" "check_row" s_check_row f fd) (T : Bi mg) {cs : EC} (XF : ExF K mg cs) (c_is_whole : Cal P w K mg base 1 "is_whole" ["thing"] (sp_is_whole K) f_is_whole fd_is_whole) : FnOk P w K mg base (L2.CX P w) 2 f fd ["row"] (sp_check_row K cs) :=
  F.okX sc_check_row (fun vs H Q E h => len_check_row h) (fun cdv A outer s H vs Q E hr h => ⟨t_check_row K cs E, by exact
    ((pss_one (ps_if (PW.pt (pw_or (pt_not (pt_val (pe_callB cIsi (by rfl) T.isinstance_ (by decide +kernel) (pa_cons (pv 0) (pa_cons (pe_bltn (v := .ty "list") (by rfl) T.list_ (by decide +kernel) rfl) pa_nil))))) (pw_or1 (pt_not (pt_val (pe_callB (cr_all rfl) (by rfl) T.all_ (by decide +kernel) (pa_cons (pe_lc (own := [("number", 1)]) (g := (gName 1)) (tt := tYes) rfl sc_check_row.nd (pi_list (pv 0)) (blkOk_by (own := [("number", 1)]) (N := N_check_row) (sc := defScope s_check_row) (by decide +kernel)) (fun _ _ _ _ _ => (pg_name (i := 1) sc_check_row.nd rfl (.inl rfl))) (fun _ _ _ _ _ => pts_nil) (fun _ _ _ _ _ => (pe_call c_is_whole.ok (hr.mono (by decide)) (by rfl) c_is_whole.g c_is_whole.kp c_is_whole.b .nil pass0 (pa_cons (pv 1) pa_nil)))) pa_nil))))))) (pss_one (ps_raise rfl (takes_of rfl rfl rfl rfl) (pmk_own PySem.F.excBase_ValueError XF.R.xC XF.R.gC XF.R.kC (raises_own XF.R.iC.hs XF.R.tC) (by exact rfl))))
      pss_nil))), pure_check_row K cs vs H Q E h⟩)

def restsL : List Bool → List (List Int)
  | [] => [[1]]
  | b :: w => rsW (b :: w) :: restsL w
def sp_rests_of (K : PySem.W.Frag) : Sp := PrF1 K (fun z : Str => IsW z ∧ z.length ≤ 1000) fun z => restsL (unz z)
abbrev s_rests_of : Stmt := topS 10
abbrev N_rests_of : List Str := ["word", "last", "found", "letter", "sums", "many", "less"]
theorem sc_rests_of : FnScope N_rests_of ["word"] (defScope s_rests_of) := ⟨rfl, rfl, rfl, by decide +kernel, rfl, by decide +kernel, by decide +kernel⟩
def t_rests_of (K : PySem.W.Frag) : TS :=
  (tSeq (tAsg (tLst (tCons (tC (.int 1)) tNil)) (gName 1))
    (tSeq (tAsg (tLst (tCons (tVar 1) tNil)) (gName 2))
    (tSeq (tFor (iStr (tRevS (tVar 0))) (gName 3) (tSeq (tAsg (tLst (tCons (tC (.int 0)) tNil)) (gName 4))
    (tSeq (tFor (iList K (tVar 1)) (gName 5) (tDrop (tBM K "list" rAppend (tVar 4) (tCons (tOp rAddI (tOp (rIxL K) (tVar 4) (tUn rNegI (tC (.int 1)))) (tVar 5)) tNil))))
    (tCut (tIfS (tTest (tOp rEqT (tVar 3) (tC (.str ("u" : Str))))) (tAsg (tLc (iList K (tVar 4)) (gName 6) tYes (tOp rSubI (tOp (rIxL K) (tVar 4) (tUn rNegI (tC (.int 1)))) (tVar 6)) [6]) (gName 1)) (tAsg (tVar 4) (gName 1)))
    (tDrop (tBM K "list" rAppend (tVar 2) (tCons (tVar 1) tNil)))))))
    (tRet (tRevL K (tVar 2))))))

theorem restsL_len : ∀ w, (restsL w).length = w.length + 1
  | [] => rfl
  | b :: w => by rw [restsL, List.length_cons, restsL_len w]; rfl
/-- the sums so far -/
def presTo (l : List Int) (j : Nat) : List Int := (List.range (j + 1)).map fun i => (l.take i).sum
theorem presTo_all (l : List Int) : presTo l l.length = MC.pres l := rfl
theorem presTo_succ {l : List Int} {j : Nat} {x : Int} (h : l[j]? = some x) : presTo l (j + 1) = presTo l j ++ [(l.take j).sum + x] := by
  unfold presTo
  rw [List.range_succ (n := j + 1), List.map_append]
  congr 1
  show [(l.take (j + 1)).sum] = _
  rw [sum_take h]
theorem presTo_last (l : List Int) (j : Nat) : (presTo l j).getLast? = some (l.take j).sum := by
  unfold presTo
  rw [List.range_succ, List.map_append]
  simp
theorem pres_last (l : List Int) : (MC.pres l).getLast? = some l.sum := by
  rw [← presTo_all, presTo_last, List.take_length]
theorem rev_take {r : List Bool} {i : Nat} {b : Bool} (h : r[i]? = some b) : (r.take (i + 1)).reverse = b :: (r.take i).reverse := by
  rw [take_succ_some h, List.reverse_append]; rfl
/-- between the turns over the letters: the row, the rows -/
def InvR (K : PySem.W.Frag) (B : Hp) (z : Str) (i : Nat) (σ : L2.St) (H : Hp) : Prop := ∃ (pl pf : Addr) (x3 x4 x5 x6 : Option V) (u : List Bool), σ = [some (.str z), some (.ref pl), some (.ref pf), x3, x4, x5, x6] ∧
  u = ((unz z).reverse.take i).reverse ∧ Ex B H ∧ B pf = none ∧ pl ≠ pf ∧ LstR K (Rf.del H pf) pl (rsW u) ∧ Own K H pf (restsL u).reverse
theorem pure_rests_of (K : PySem.W.Frag) (vs : List V) (H : Hp) (Q : VK) (E : XK) (h : sp_rests_of K vs H Q E) : t_rests_of K { nx := fun _ H' => Q .non H', rt := Q } (start N_rests_of vs) H := by
  obtain ⟨_, z, rfl, rfl, ⟨hw, hl⟩, q⟩ := h
  refine Gx.here (K := K) (q_asgF (as := [1]) (erf_lst (eal_cons er_int eal_nil) (by decide)) fun pl H1 hpl e1 o1 => q_asgF (as := [[1]]) (erf_lst (eal_cons (er_var rfl o1.rep) eal_nil) (by decide)) fun pf H2 hpf e2 o2 => ?_)
  have e3 := e1.trans e2
  have hpf0 : H pf = none := fresh_back e1 hpf
  have hne : pl ≠ pf := by
    rintro rfl
    obtain ⟨o, ho⟩ := o1.some
    rw [ho] at hpf; cases hpf
  have hz : ({ cps := z.cps.toList.reverse.toArray } : Str) = tx (unz z).reverse := by
    conv => lhs; rw [← tx_unz hw]
    rw [tx_rev]
  refine q_forS (x := tx (unz z).reverse) ((er_revS (er_var rfl rfl) (by omega)).to hz) (InvR K H z) (fun H3 e4 => ⟨pl, pf, none, none, none, none, [], rfl, by simp, e3.trans e4, hpf0, hne, ?_, o2.up e4⟩) ?_ ?_
  · exact o1.lst.up (ex_del (e2.trans e4) hpf)
  · rintro i c σ' H' hc ⟨pl, pf, x3, x4, x5, x6, u, rfl, eu, eB, hB, hne, hL, hO⟩
    -- the letter
    have hc' : (unz z).reverse[i]? = some (c == 117) ∧ c = sg (c == 117) := by
      have h1 : (tx (unz z).reverse).cps.toList[i]? = some c := by rw [Array.getElem?_toList]; exact hc
      rw [tx_list, List.getElem?_map] at h1
      cases hq : (unz z).reverse[i]? with
      | none => rw [hq] at h1; simp at h1
      | some b =>
        rw [hq] at h1
        have : sg b = c := by simpa using h1
        subst this
        cases b <;> exact ⟨rfl, rfl⟩
    obtain ⟨hb, hcs⟩ := hc'
    obtain ⟨b, hbd⟩ : ∃ b, (c == 117) = b := ⟨_, rfl⟩
    rw [hbd] at hb hcs
    subst hcs
    have hi : i < (unz z).reverse.length := (List.getElem?_eq_some_iff.mp hb).1
    have hul : u.length ≤ 1000 := by
      rw [eu, List.length_reverse, List.length_take]
      rw [List.length_reverse, unz_len] at hi
      omega
    have erow := rest_len u
    -- sums = [0]
    refine q_asgF (as := [0]) (erf_lst (eal_cons er_int eal_nil) (by decide)) fun ps H1 hps e1 o1 => ?_
    refine q_forL (i0 := 1) (B := H') (as := rsW u) (v0 := .ref pl) (fun j σ2 H2 => ∃ x5, σ2 = [some (.str z), some (.ref pl), some (.ref pf), some (.str (sgn (sg b))), some (.ref ps), x5, x6] ∧ Ex H' H2 ∧ Own K H2 ps (presTo (rsW u) j)) rfl ⟨pl, rfl, hL.up (del_ex _ _)⟩ e1
      (fun H2 e2 => ⟨x5, rfl, e1.trans e2, o1.up e2⟩) (fun j σ2 H2 ⟨_, _, h, _⟩ => h) ?_ ?_
    · rintro j a v σ2 H2 ha rfl ⟨x5, rfl, e2, o2⟩
      refine g_app (a := ((rsW u).take j).sum + a) o2 rfl ?_ ?_ fun H3 eb o3 => fun H4 e4 => ⟨_, rfl, (eb.ex e2 hps).trans e4, ?_⟩
      · exact er_add (er_ixL (er_var rfl o2.rep) (er_neg er_int) (atI_neg1 (presTo_last _ _))) (er_var rfl rfl)
      · have : j < (rsW u).length := (List.getElem?_eq_some_iff.mp ha).1
        unfold presTo
        rw [List.length_map, List.length_range]
        omega
      · rw [presTo_succ ha]
        exact o3.up e4
    · rintro σ2 H2 ⟨x5, rfl, e2, o2⟩
      rw [presTo_all] at o2
      have hpsf : ps ≠ pf := by
        rintro rfl
        obtain ⟨o, ho⟩ := hO.some
        rw [ho] at hps; cases hps
      refine (g_cut (fun σ3 H3 => ∃ pn x6, σ3 = [some (.str z), some (.ref pn), some (.ref pf), some (.str (sgn (sg b))), some (.ref ps), x5, x6] ∧ Ex H' H3 ∧ pn ≠ pf ∧ LstR K (Rf.del H3 pf) pn (rsW (b :: u))) (g_if (b := b) ?_ (fun hb1 => ?_) fun hb1 => ?_) ?_)
      · have q := er_eqt (K := K) (σ := [some (.str z), some (.ref pl), some (.ref pf), some (.str (sgn (sg b))), some (.ref ps), x5, x6]) (H := H2) (i := tx [b]) (j := tx [true]) (ta := tVar 3) (tb := tC (.str "u")) (er_var rfl rfl) (er_lit tx_u)
        refine et_e (q.to ?_)
        rw [tx_beq]
        cases b <;> rfl
      · subst hb1
        refine g_asgF (as := (MC.pres (rsW u)).map fun x => (rsW u).sum - x) (erf_lc (er_var rfl o2.rep) (by rw [MC.pres_len]; omega) (fun _ => rfl) fun i a v H3 e3 _ r => es_flat (er_sub (er_ixL (er_var rfl (o2.up e3).rep) (er_neg er_int) (atI_neg1 (pres_last _))) (er_var rfl r))) fun pn H3 hpn e3 o3 => fun H4 e4 => ?_
        have hnf : pn ≠ pf := by
          rintro rfl
          obtain ⟨o, ho⟩ := (hO.up e2).some
          rw [ho] at hpn; cases hpn
        refine ⟨pn, x6, rfl, (e2.trans e3).trans e4, hnf, ?_⟩
        rw [rsW, ← MC.sufs_eq] at *
        obtain ⟨xs, q1, q2⟩ := o3.up e4
        exact ⟨xs, sq_of (by unfold Rf.del; rw [if_neg hnf]; exact q1), q2.flat⟩
      · subst hb1
        refine g_mov rfl fun H4 e4 => ?_
        refine ⟨ps, x6, rfl, e2.trans e4, hpsf, ?_⟩
        rw [rsW]
        obtain ⟨xs, q1, q2⟩ := o2.up e4
        exact ⟨xs, sq_of (by unfold Rf.del; rw [if_neg hpsf]; exact q1), q2.flat⟩
      · rintro σ3 H3 ⟨pn, x6, rfl, e3, hnf, hr⟩
        refine g_appB (B := Rf.del H3 pf) (a := rsW (b :: u)) (hO.up e3) rfl (del_ex _ _) (if_pos rfl) (es_var rfl ⟨pn, rfl, hr⟩) ?_ fun H4 eb o4 => fun H5 e5 => ⟨pn, pf, _, _, _, _, b :: u, rfl, ?_, (eb.ex (eB.trans e3) hB).trans e5, hB, hnf, ?_, ?_⟩
        · rw [List.length_reverse, restsL_len]; omega
        · rw [eu, ← rev_take hb]
        · refine hr.up (fun a o q => ?_)
          have ha : a ≠ pf := fun z => by rw [z] at q; unfold Rf.del at q; rw [if_pos rfl] at q; cases q
          unfold Rf.del at q ⊢
          rw [if_neg ha] at q ⊢
          exact e5 _ _ (eb a o ha q)
        · rw [restsL, List.reverse_cons]
          exact o4.up e5
  · rintro σ' H' ⟨pl, pf, x3, x4, x5, x6, u, rfl, eu, eB, hB, hne, hL, hO⟩
    have hu : u = unz z := by
      rw [eu, List.take_of_length_le, List.reverse_reverse]
      show _ ≤ (tx (unz z).reverse).length
      rw [tx_len]; exact Nat.le_refl _
    subst hu
    refine (g_retF (as := restsL (unz z)) ((erf_rev (er_var rfl hO.rep)).to (List.reverse_reverse _)) fun p H1 hp e o => q p H1 (fresh_back eB hp) (eB.trans e) o)
theorem ok_rests_of {f : Addr} {fd : FuncData} (F : Fun K "rests_of" "rests_of" s_rests_of f fd) (T : Bi mg) : FnOk P w K mg base CX0 1 f fd ["word"] (sp_rests_of K) :=
  F.ok sc_rests_of (fun vs H Q E h => by first | exact len_pr1 h | exact len_pr2 h | exact len_pr3 h | exact len_prF1 h | exact len_prF2 h | exact len_rests_of h) (fun cdv A outer s H vs Q E hr h => ⟨t_rests_of K, by exact
    ((pss_cons (ps_set (i := 1) sc_rests_of.nd rfl (.inl rfl) (pe_lst (pa_cons pe_int pa_nil)))
      (pss_cons (ps_set (i := 2) sc_rests_of.nd rfl (.inl rfl) (pe_lst (pa_cons (pv 1) pa_nil)))
      (pss_cons (ps_for PassesOwn.never rfl (pi_str (pe_revS (pv 0))) (pg_name (i := 3) sc_rests_of.nd rfl (.inl rfl))
      (pss_cons (ps_set (i := 4) sc_rests_of.nd rfl (.inr rfl) (pe_lst (pa_cons pe_int pa_nil)))
      (pss_cons (ps_for PassesOwn.never rfl (pi_list (pv 1)) (pg_name (i := 5) sc_rests_of.nd rfl (.inl rfl))
      (pss_one (ps_expr (pe_bm PySem.F.plainAttrs_list PySem.F.slot_list_append PySem.F.type_list_append mt_append (pv 4) (pa_cons (pe_op oAddI (pe_ix ix_list (pv 4) (pe_un oNegI pe_int) (fun _ _ => rfl)) (pv 5)) pa_nil)))))
      (pss_cut (ps_if (pt_cmpR oEqT (pv 3) pe_str (nomark _)) (pss_one (ps_setLc (i := 1) (own := [("less", 6)]) (g := (gName 6)) (tt := tYes) rfl sc_rests_of.nd rfl rfl (sw_true rfl rfl rfl (by decide +kernel)) (pi_list (pv 4)) (blkOk_by (own := [("less", 6)]) (N := N_rests_of) (sc := defScope s_rests_of) (by decide +kernel)) (fun _ _ _ _ _ => (pg_name (i := 6) sc_rests_of.nd rfl (.inl rfl))) (fun _ _ _ _ _ => pts_nil) (fun _ _ _ _ _ => (pe_op oSubI (pe_ix ix_list (pv 4) (pe_un oNegI pe_int) (fun _ _ => rfl)) (pv 6)))))
      (pss_one (ps_set (i := 1) sc_rests_of.nd rfl (.inl rfl) (pv 4))))
      (pss_one (ps_expr (pe_bm PySem.F.plainAttrs_list PySem.F.slot_list_append PySem.F.type_list_append mt_append (pv 2) (pa_cons (pv 1) pa_nil))))))))
      (pss_one (ps_ret (pe_revL (pv 2)))))))), pure_rests_of K vs H Q E h⟩)


/-! ### the word of a row -/
def adj (row : List Int) (i : Nat) : Bool := row.getD (i + 1) 0 == row.getD i 0
def rf (row : List Int) (n : Nat) : List Bool := (List.range n).map fun i => decide (row.getD i 0 < row.getD (i + 1) 0)
def wordBy (row : List Int) : Option (List Bool) := if (List.range (row.length - 1)).any (adj row) then none else some (rf row (row.length - 1))
def sp_word_by (K : PySem.W.Frag) : Sp := Pr1 K (fun row : List Int => row.length ≤ 1000) fun row => (wordBy row).map tx
abbrev s_word_by : Stmt := topS 12
abbrev N_word_by : List Str := ["row", "found", "place"]
theorem sc_word_by : FnScope N_word_by ["row"] (defScope s_word_by) := ⟨rfl, rfl, rfl, by decide +kernel, rfl, by decide +kernel, by decide +kernel⟩
def t_word_by (K : PySem.W.Frag) : TS :=
  (tSeq (tAsg (tC (.str ("" : Str))) (gName 1))
    (tSeq (tFor (iRng2 (tCons (tC (.int 1)) (tCons (tCB (rLenL K) (tCons (tVar 0) tNil)) tNil))) (gName 2) (tSeq (tIfS (tTest (tOp rEqI (tOp (rIxL K) (tVar 0) (tVar 2)) (tOp (rIxL K) (tVar 0) (tOp rSubI (tVar 2) (tC (.int 1)))))) (tRet (tC .non)) tNext)
    (tAug 1 (tIf (tTest (tOp rGtI (tOp (rIxL K) (tVar 0) (tVar 2)) (tOp (rIxL K) (tVar 0) (tOp rSubI (tVar 2) (tC (.int 1)))))) (tC (.str ("u" : Str))) (tC (.str ("d" : Str)))) ipT)))
    (tRet (tVar 1))))

theorem rf_succ (row : List Int) (n : Nat) : rf row (n + 1) = rf row n ++ [decide (row.getD n 0 < row.getD (n + 1) 0)] := by
  unfold rf
  rw [List.range_succ, List.map_append]; rfl
theorem rf_len (row : List Int) (n : Nat) : (rf row n).length = n := by simp [rf]
theorem at_getD {row : List Int} {i : Int} {j : Nat} (e : i = (j : Int)) (h : j < row.length) : atI row i = some (row.getD j 0) := by
  rw [e, List.getD_eq_getElem?_getD, List.getElem?_eq_getElem h]
  exact atI_nat' (List.getElem?_eq_getElem h)
theorem pure_word_by (K : PySem.W.Frag) (vs : List V) (H : Hp) (Q : VK) (E : XK) (h : sp_word_by K vs H Q E) : t_word_by K { nx := fun _ H' => Q .non H', rt := Q } (start N_word_by vs) H := by
  obtain ⟨v, row, rfl, r, hl, q⟩ := h
  refine Gx.here (K := K) (q_asgT (a := tx []) (er_lit tx_nil) ?_)
  refine q_forR (lo := 1) (n := row.length - 1) (j := 2) ?_ (fun i σ H' => ∃ x2, σ = [some v, some (.str (tx (rf row i))), x2] ∧ Ex H H' ∧ (List.range i).any (adj row) = false) (fun H1 e => ⟨none, rfl, e, rfl⟩) ?_ ?_
  · exact (rng2 er_int (er_lenL (er_var rfl r)) (by omega) (by omega) (by omega) (by omega)).to (by omega)
  · rintro i σ H' hi ⟨x2, rfl, e, ha⟩
    have r' := up r e
    refine q_when (b := adj row i) (et_e ?_) (fun hb => ?_) fun hb => ?_
    · exact er_eqi (er_ixL (er_var rfl r') (er_var rfl rfl) (at_getD (by omega) (by omega))) (er_ixL (er_var rfl r') (er_sub (er_var rfl rfl) er_int) (at_getD (by omega) (by omega)))
    · refine g_ret (a := (none : Option Str)) er_nonO fun u H1 e1 r1 => q u H1 (e.trans e1) ?_
      have h2 : wordBy row = none := by
        unfold wordBy
        rw [if_pos]
        rw [List.any_eq_true]
        exact ⟨i, List.mem_range.mpr hi, hb⟩
      show Rep.rep K H1 u ((wordBy row).map tx)
      rw [h2]; exact r1
    · refine g_augT (a := tx (rf row i)) (b := tx [decide (row.getD i 0 < row.getD (i + 1) 0)]) rfl ?_ ?_ fun H1 e1 => ⟨some (.int (1 + (i : Int))), ?_, e.trans e1, ?_⟩
      · refine (er_if (b := decide (row.getD i 0 < row.getD (i + 1) 0)) (x := tx [true]) (y := tx [false]) (et_e ?_) (fun _ => er_lit tx_u) fun _ => er_lit tx_d).to ?_
        · exact er_gt (er_ixL (er_var rfl r') (er_var rfl rfl) (at_getD (by omega) (by omega))) (er_ixL (er_var rfl r') (er_sub (er_var rfl rfl) er_int) (at_getD (by omega) (by omega)))
        · cases decide (row.getD i 0 < row.getD (i + 1) 0) <;> rfl
      · rw [tx_len, tx_len, rf_len]
        show i + 1 ≤ 100000
        omega
      · rw [tx_app, ← rf_succ]; rfl
      · rw [List.range_succ, List.any_append, ha, Bool.false_or]
        simp [hb]
  · rintro σ H' ⟨x2, rfl, e, ha⟩
    have h2 : wordBy row = some (rf row (row.length - 1)) := by
      unfold wordBy
      rw [if_neg (by rw [ha]; decide)]
    refine (g_ret (a := tx (rf row (row.length - 1))) (er_var rfl rfl) fun u H1 e1 r1 => q u H1 (e.trans e1) ?_)
    show Rep.rep K H1 u ((wordBy row).map tx)
    rw [h2]; exact r1
theorem ok_word_by {f : Addr} {fd : FuncData} (F : Fun K "word_by" "word_by" s_word_by f fd) (T : Bi mg) : FnOk P w K mg base CX0 1 f fd ["row"] (sp_word_by K) :=
  F.ok sc_word_by (fun vs H Q E h => by first | exact len_pr1 h | exact len_pr2 h | exact len_pr3 h | exact len_prF1 h | exact len_prF2 h | exact len_word_by h) (fun cdv A outer s H vs Q E hr h => ⟨t_word_by K, by exact
    ((pss_cons (ps_set (i := 1) sc_word_by.nd rfl (.inl rfl) pe_str)
      (pss_cons (ps_for PassesOwn.never rfl (pi_range2 (by rfl) T.range_ (pa_cons pe_int (pa_cons (pe_callB cLenL (by rfl) T.len_ (by decide +kernel) (pa_cons (pv 0) pa_nil)) pa_nil))) (pg_name (i := 2) sc_word_by.nd rfl (.inl rfl))
      (pss_cons (ps_if (pt_cmpR oEqI (pe_ix ix_list (pv 0) (pv 2) (fun _ _ => rfl)) (pe_ix ix_list (pv 0) (pe_op oSubI (pv 2) pe_int) (fun _ _ => rfl)) (nomark _)) (pss_one (ps_ret pe_non))
      pss_nil)
      (pss_one (ps_aug (i := 1) sc_word_by.nd rfl (.inl rfl) (pe_ifExp (pt_cmpR oGtI (pe_ix ix_list (pv 0) (pv 2) (fun _ _ => rfl)) (pe_ix ix_list (pv 0) (pe_op oSubI (pv 2) pe_int) (fun _ _ => rfl)) (nomark _)) pe_str pe_str) ip_addT))))
      (pss_one (ps_ret (pv 1)))))), pure_word_by K vs H Q E h⟩)


theorem flat_one {α β : Type} (l : List α) (f : α → β) : (l.map fun i => [f i]).flatten = l.map f := by
  induction l with
  | nil => rfl
  | cons x r ih => simp [ih]
theorem tx_map {α : Type} (l : List α) (f : α → Bool) : catS (l.map fun i => tx [f i]) = tx (l.map f) := by
  have h := tx_cat (l.map fun i => [f i])
  rw [List.map_map] at h
  rw [flat_one] at h
  exact h
theorem cutL_take {α : Type} (as : List α) (k : Nat) : cutL as none (some (k : Int)) = as.take k := by
  unfold cutL
  rw [HT.sIx_none, HT.sIx_nat, List.drop_zero, Nat.sub_zero]
  rcases Nat.le_total k as.length with h | h
  · rw [Nat.min_eq_left h]
  · rw [Nat.min_eq_right h, List.take_of_length_le h, List.take_of_length_le (Nat.le_refl _)]
theorem cutL_drop {α : Type} (as : List α) (k : Nat) : cutL as (some (k : Int)) none = as.drop k := by
  unfold cutL
  rw [HT.sIx_none, HT.sIx_nat]
  rcases Nat.le_total k as.length with h | h
  · rw [Nat.min_eq_left h, List.take_of_length_le (by rw [List.length_drop]; exact Nat.le_refl _)]
  · rw [Nat.min_eq_right h, List.drop_of_length_le h, List.drop_of_length_le (Nat.le_refl _), List.take_nil]

/-! ### a row's rises, from the first on -/
def adjR : List Int → Bool
  | a :: b :: r => b == a || adjR (b :: r)
  | _ => false
def rfR : List Int → List Bool
  | a :: b :: r => decide (a < b) :: rfR (b :: r)
  | _ => []
theorem adj_R : ∀ ns : List Int, (List.range (ns.length - 1)).any (adj ns) = adjR ns
  | [] => rfl
  | [a] => rfl
  | a :: b :: r => by
    have ih := adj_R (b :: r)
    show (List.range (r.length + 1)).any (adj (a :: b :: r)) = (b == a || adjR (b :: r))
    rw [← ih, List.range_succ_eq_map, List.any_cons, List.any_map]
    rfl
theorem rf_R : ∀ ns : List Int, rf ns (ns.length - 1) = rfR ns
  | [] => rfl
  | [a] => rfl
  | a :: b :: r => by
    have ih := rf_R (b :: r)
    show rf (a :: b :: r) (r.length + 1) = decide (a < b) :: rfR (b :: r)
    rw [← ih]
    unfold rf
    rw [List.range_succ_eq_map, List.map_cons, List.map_map]
    rfl

/-- the word that a thing is -/
def wdT : Th → List Bool
  | .str z => unz z
  | _ => []
theorem goodW_str {t : Th} (h : goodW t = true) : ∃ z, t = .str z ∧ IsW z := by
  cases t with
  | str z => exact ⟨z, rfl, (okW_iff z).mp h⟩
  | _ => cases h
def sp_count (K : PySem.W.Frag) (cs : EC) : Sp := PrX1 K (szT 1000) (errW cs) fun t => (rsW (wdT t)).sum
theorem len_count {K : PySem.W.Frag} {cs : EC} {vs : List V} {H : Hp} {Q : VK} {E : XK} (h : sp_count K cs vs H Q E) : vs.length = 1 := len_prX1 h
abbrev s_count : Stmt := topS 11
abbrev N_count : List Str := ["word"]
theorem sc_count : FnScope N_count ["word"] (defScope s_count) := ⟨rfl, rfl, rfl, by decide +kernel, rfl, by decide +kernel, by decide +kernel⟩
def t_count (K : PySem.W.Frag) (cs : EC) (E : XK) : TS :=
  (tSeq (tDrop (tCallS (sp_check_word K cs) (fun _ => E) (tCons (tVar 0) tNil)))
    (tRet (tCB (rSum K) (tCons (tOp (rIxL K) (tCall (sp_rests_of K) [] E0 (tCons (tVar 0) tNil)) (tC (.int 0))) tNil))))

theorem restsL_get : ∀ (w : List Bool) (p : Nat), p ≤ w.length → (restsL w)[p]? = some (rsW (w.drop p))
  | [], p, h => by
    have : p = 0 := by simpa using h
    subst this; rfl
  | b :: w, 0, _ => rfl
  | b :: w, p + 1, h => by
    show (restsL w)[p]? = _
    exact restsL_get w p (by simpa using h)
theorem pure_count (K : PySem.W.Frag) (cs : EC) (vs : List V) (H : Hp) (Q : VK) (E : XK) (h : sp_count K cs vs H Q E) : t_count K cs E { nx := fun _ H' => Q .non H', rt := Q } (start N_count vs) H := by
  obtain ⟨v, t, rfl, r, hz, q, e⟩ := h
  cases hg : goodW t with
  | false => exact Gx.here (K := K) (q_dropR (rz_callX1 (a := t) (f := fun _ => ()) (er_var rfl r) hz (errW_f hg) fun H1 e1 => e cs.W (errW_f hg) H1 e1))
  | true =>
    obtain ⟨z, rfl, hw⟩ := goodW_str hg
    refine Gx.here (K := K) (q_drop (a := ()) (er_callXS1 (a := Th.str z) (f := fun _ => ()) (er_var rfl r) hz (errW_t hg)) (g_ret (a := (rsW (unz z)).sum) (er_sum (er_ixL (i := 0) (er_call1F (f := fun z => restsL (unz z)) (a := z) (er_var rfl (th_str.mp r)) ⟨hw, hz⟩) er_int (atI_nat' (j := 0) (restsL_get (unz z) 0 (Nat.zero_le _))))) (q (errW_t hg))))
theorem ok_count {f f_check_word f_rests_of : Addr} {fd fd_check_word fd_rests_of : FuncData} (F : Fun K "count" "count" s_count f fd) (T : Bi mg) {cs : EC} (XF : ExF K mg cs) (c_check_word : CalX P w K mg base 1 "check_word" ["word"] (sp_check_word K cs) f_check_word fd_check_word) (c_rests_of : Cal P w K mg base 1 "rests_of" ["word"] (sp_rests_of K) f_rests_of fd_rests_of) : FnOk P w K mg base (L2.CX P w) 2 f fd ["word"] (sp_count K cs) :=
  F.okX sc_count (fun vs H Q E h => len_count h) (fun cdv A outer s H vs Q E hr h => ⟨t_count K cs E, by exact
    ((pss_cons (ps_expr (pe_callS c_check_word.ok (hr.mono (by decide)) (by rfl) c_check_word.g c_check_word.kp c_check_word.b (fun σ => passAt (takes_of rfl rfl rfl rfl) σ) (pa_cons (pv 0) pa_nil)))
      (pss_one (ps_ret (pe_callB (cSum rfl) (by rfl) T.sum_ (by decide +kernel) (pa_cons (pe_ix ix_list (pe_call c_rests_of.ok (hr.mono (by decide)) (by rfl) c_rests_of.g c_rests_of.kp c_rests_of.b .nil pass0 (pa_cons (pv 0) pa_nil)) pe_int (fun _ _ => rfl)) pa_nil)))))), pure_count K cs vs H Q E h⟩)

def errWO (cs : EC) (t : Th) : Option Addr := match rowT t with
  | none => some cs.R
  | some ns => if ns = [] then some cs.R else if (wordBy ns).isNone then some cs.R else none
def sp_word_of (K : PySem.W.Frag) (cs : EC) : Sp := PrX1 K (szT 1000) (errWO cs) fun t => tx ((wordBy ((rowT t).getD [])).getD [])
theorem len_word_of {K : PySem.W.Frag} {cs : EC} {vs : List V} {H : Hp} {Q : VK} {E : XK} (h : sp_word_of K cs vs H Q E) : vs.length = 1 := len_prX1 h
abbrev s_word_of : Stmt := topS 13
abbrev N_word_of : List Str := ["row", "found"]
theorem sc_word_of : FnScope N_word_of ["row"] (defScope s_word_of) := ⟨rfl, rfl, rfl, by decide +kernel, rfl, by decide +kernel, by decide +kernel⟩
def t_word_of (K : PySem.W.Frag) (cs : EC) (E : XK) : TS :=
  (tSeq (tDrop (tCallS (sp_check_row K cs) (fun _ => E) (tCons (tVar 0) tNil)))
    (tSeq (tIfS (tTest (tOp rEqI (tCB (rLenL K) (tCons (tVar 0) tNil)) (tC (.int 0)))) (tRz cs.R E) tNext)
    (tSeq (tAsg (tCall (sp_word_by K) [] E0 (tCons (tVar 0) tNil)) (gName 1))
    (tSeq (tIfS (tTest (tOp rIsN' (tVar 1) (tC .non))) (tRz cs.R E) tNext)
    (tRet (tVar 1))))))

theorem rowT_len {t : Th} {ns : List Int} (hz : szT 1000 t) (h : rowT t = some ns) : ns.length ≤ 1000 := by
  have e := rowT_some h
  subst e
  have hz' : (ns.map Th.int).length ≤ 1000 := hz
  rw [List.length_map] at hz'
  exact hz'
theorem pure_word_of (K : PySem.W.Frag) (cs : EC) (vs : List V) (H : Hp) (Q : VK) (E : XK) (h : sp_word_of K cs vs H Q E) : t_word_of K cs E { nx := fun _ H' => Q .non H', rt := Q } (start N_word_of vs) H := by
  obtain ⟨v, t, rfl, r, hz, q, e⟩ := h
  cases hg : rowT t with
  | none =>
    have h1 : errR cs t = some cs.R := errR_f (by rw [hg]; rfl)
    have h2 : errWO cs t = some cs.R := by unfold errWO; rw [hg]
    exact Gx.here (K := K) (q_dropR (rz_callX1 (a := t) (f := fun _ => ()) (er_var rfl r) hz h1 fun H1 e1 => e cs.R h2 H1 e1))
  | some ns =>
    have h1 : errR cs t = none := errR_t (by rw [hg]; rfl)
    have hl := rowT_len hz hg
    have rn : Rep.rep K H v ns := by
      have e := rowT_some hg
      rw [e] at r
      exact th_ints.mp r
    refine Gx.here (K := K) (q_drop (a := ()) (er_callXS1 (a := t) (f := fun _ => ()) (er_var rfl r) hz h1) ?_)
    by_cases h0 : ns = []
    · have h2 : errWO cs t = some cs.R := by unfold errWO; rw [hg]; exact if_pos h0
      refine q_rz (b := ((ns.length : Int) == 0)) (et_e (er_eqi (er_lenL (er_var rfl rn)) er_int)) (by rw [h0]; rfl) fun H1 e1 => e cs.R h2 H1 e1
    · refine q_no (et_e ((er_eqi (er_lenL (er_var rfl rn)) er_int).to (by rw [beq_eq_false_iff_ne]; intro z; exact h0 (List.length_eq_zero_iff.mp (by omega))))) ?_
      refine q_asg (a := (wordBy ns).map tx) (er_call1 (f := fun row => (wordBy row).map tx) (a := ns) (er_var rfl rn) hl) fun u H1 e1 ru => ?_
      cases hw : wordBy ns with
      | none =>
        rw [hw] at ru
        have h2 : errWO cs t = some cs.R := by
          unfold errWO; rw [hg]
          show (if ns = [] then some cs.R else if (wordBy ns).isNone then some cs.R else none) = _
          rw [if_neg h0, hw]; rfl
        exact q_rz (b := true) (et_e (er_isN (o := (none : Option Str)) (er_var rfl ru))) rfl fun H2 e2 => e cs.R h2 H2 (e1.trans e2)
      | some x =>
        rw [hw] at ru
        have h2 : errWO cs t = none := by
          unfold errWO; rw [hg]
          show (if ns = [] then some cs.R else if (wordBy ns).isNone then some cs.R else none) = _
          rw [if_neg h0, hw]; rfl
        refine q_no (et_e (er_isN (o := some (tx x)) (er_var rfl ru))) ?_
        refine g_ret (a := tx x) (er_unsome (er_var rfl ru)) fun u2 H2 e2 r2 => q h2 u2 H2 (e1.trans e2) ?_
        show Rep.rep K H2 u2 (tx ((wordBy ((rowT t).getD [])).getD []))
        rw [hg]
        show Rep.rep K H2 u2 (tx ((wordBy ns).getD []))
        rw [hw]
        exact r2
theorem ok_word_of {f f_check_row f_word_by : Addr} {fd fd_check_row fd_word_by : FuncData} (F : Fun K "word_of" "word_of" s_word_of f fd) (T : Bi mg) {cs : EC} (XF : ExF K mg cs) (c_check_row : CalX P w K mg base 2 "check_row" ["row"] (sp_check_row K cs) f_check_row fd_check_row) (c_word_by : Cal P w K mg base 1 "word_by" ["row"] (sp_word_by K) f_word_by fd_word_by) : FnOk P w K mg base (L2.CX P w) 3 f fd ["row"] (sp_word_of K cs) :=
  F.okX sc_word_of (fun vs H Q E h => len_word_of h) (fun cdv A outer s H vs Q E hr h => ⟨t_word_of K cs E, by exact
    ((pss_cons (ps_expr (pe_callS c_check_row.ok (hr.mono (by decide)) (by rfl) c_check_row.g c_check_row.kp c_check_row.b (fun σ => passAt (takes_of rfl rfl rfl rfl) σ) (pa_cons (pv 0) pa_nil)))
      (pss_cons (ps_if (pt_cmpR oEqI (pe_callB cLenL (by rfl) T.len_ (by decide +kernel) (pa_cons (pv 0) pa_nil)) pe_int (nomark _)) (pss_one (ps_raise rfl (takes_of rfl rfl rfl rfl) (pmk_own PySem.F.excBase_ValueError XF.R.xC XF.R.gC XF.R.kC (raises_own XF.R.iC.hs XF.R.tC) (by exact rfl))))
      pss_nil)
      (pss_cons (ps_set (i := 1) sc_word_of.nd rfl (.inl rfl) (pe_call c_word_by.ok (hr.mono (by decide)) (by rfl) c_word_by.g c_word_by.kp c_word_by.b .nil pass0 (pa_cons (pv 0) pa_nil)))
      (pss_cons (ps_if (pt_cmpR oIsN (pv 1) pe_non (nomark _)) (pss_one (ps_raise rfl (takes_of rfl rfl rfl rfl) (pmk_own PySem.F.excBase_ValueError XF.R.xC XF.R.gC XF.R.kC (raises_own XF.R.iC.hs XF.R.tC) (by exact rfl))))
      pss_nil)
      (pss_one (ps_ret (pv 1)))))))), pure_word_of K cs vs H Q E h⟩)


/-! ### orders by numbers, with refusals -/
/-- where the search begins -/
def stA (w : List Bool) (p a : Nat) : Nat := if decide (0 < p) && (w.getD (p - 1) true == false) then 0 else a
theorem stA_succ (w : List Bool) (p a : Nat) : stA w (p + 1) a = if w.getD p true then a else 0 := by
  unfold stA
  show (if decide (0 < p + 1) && (w.getD p true == false) then 0 else a) = _
  rw [decide_eq_true (by omega), Bool.true_and]
  cases w.getD p true <;> rfl
theorem drop_getD {w : List Bool} {p : Nat} (h : p < w.length) : w.drop p = w.getD p true :: w.drop (p + 1) := by
  rw [List.drop_eq_getElem_cons h, List.getD_eq_getElem?_getD, List.getElem?_eq_getElem h]
  rfl
theorem at_bool {w : List Bool} {i : Int} {j : Nat} (e : i = (j : Int)) (h : j < w.length) : atI w i = some (w.getD j true) := by
  rw [e, List.getD_eq_getElem?_getD, List.getElem?_eq_getElem h]
  exact atI_nat' (List.getElem?_eq_getElem h)
def muA (m : Nat) (σ : L2.St) (_ : Hp) : Nat := match σ[m]? with
  | some (some (.int i)) => (5000 - i).toNat
  | _ => 0
theorem sum_take_succ {l : List Int} {j : Nat} (h : j < l.length) : (l.take (j + 1)).sum = (l.take j).sum + l.getD j 0 := by
  rw [List.take_add_one, List.getElem?_eq_getElem h, List.sum_append, List.getD_eq_getElem?_getD, List.getElem?_eq_getElem h]
  simp
/-- the number that a thing is -/
def intT : Th → Int
  | .int x => x
  | _ => 0
def errN (cs : EC) (t tn : Th) : Option Addr := if goodW t then (match tn with | .int x => if decide (0 ≤ x) && decide (x < (rsW (wdT t)).sum) then none else some cs.N | _ => some cs.N) else some cs.W
def sp_order_of (K : PySem.W.Frag) (cs : EC) : Sp := PrXF2 K (fun t _ => szT 1000 t) (errN cs) fun t tn => ordN (wdT t) (intT tn)
theorem len_order_of {K : PySem.W.Frag} {cs : EC} {vs : List V} {H : Hp} {Q : VK} {E : XK} (h : sp_order_of K cs vs H Q E) : vs.length = 2 := len_prXF2 h
abbrev s_order_of : Stmt := topS 15
abbrev N_order_of : List Str := ["word", "number", "rests", "left", "found", "at", "place"]
theorem sc_order_of : FnScope N_order_of ["word", "number"] (defScope s_order_of) := ⟨rfl, rfl, rfl, by decide +kernel, rfl, by decide +kernel, by decide +kernel⟩
def t_order_of (K : PySem.W.Frag) (cs : EC) (E : XK) : TS :=
  (tSeq (tDrop (tCallS (sp_check_word K cs) (fun _ => E) (tCons (tVar 0) tNil)))
    (tSeq (tAsg (tCall (sp_rests_of K) [] E0 (tCons (tVar 0) tNil)) (gName 2))
    (tSeq (tIfS (tOr (tNot (tB (tCall (sp_is_whole K) [] E0 (tCons (tVar 1) tNil)))) (tNot (tTest (tChain rLeI rLtI (tC (.int 0)) (tVar 1) (tCB (rSum K) (tCons (tOp (rIxL K) (tVar 2) (tC (.int 0))) tNil)))))) (tRz cs.N E) tNext)
    (tSeq (tAsg (tLstRg (tRg1 (tOp rAddI (tCB rLenT (tCons (tVar 0) tNil)) (tC (.int 1))))) (gName 3))
    (tSeq (tAsg (tLst tNil) (gName 4))
    (tSeq (tAsg (tC (.int 0)) (gName 5))
    (tSeq (tFor (iRng1 (tCons (tOp rAddI (tCB rLenT (tCons (tVar 0) tNil)) (tC (.int 1))) tNil)) (gName 6) (tCut (tIfS (tAnd (tTest (tOp rGtI (tVar 6) (tC (.int 0)))) (tTest (tOp rEqT (tOp rIxS (tVar 0) (tOp rSubI (tVar 6) (tC (.int 1)))) (tC (.str ("d" : Str)))))) (tAsg (tC (.int 0)) (gName 5)) tNext)
    (tSeq (tWhile (tTest (tOp rGeI (tVar 1) (tOp (rIxL K) (tOp (rIxL K) (tVar 2) (tVar 6)) (tVar 5)))) (tSeq (tAug 1 (tOp (rIxL K) (tOp (rIxL K) (tVar 2) (tVar 6)) (tVar 5)) (ipI fun i j => i - j))
    (tAug 5 (tC (.int 1)) (ipI fun i j => i + j))))
    (tDrop (tBM K "list" rAppend (tVar 4) (tCons (tBM K "list" rPopAt (tVar 3) (tCons (tVar 5) tNil)) tNil))))))
    (tRet (tVar 4)))))))))

theorem pure_order_of (K : PySem.W.Frag) (cs : EC) (vs : List V) (H : Hp) (Q : VK) (E : XK) (h : sp_order_of K cs vs H Q E) : t_order_of K cs E { nx := fun _ H' => Q .non H', rt := Q } (start N_order_of vs) H := by
  obtain ⟨v, vn, t, tn, rfl, r, rn, hz, q, e⟩ := h
  cases hg : goodW t with
  | false =>
    have h2 : errN cs t tn = some cs.W := by unfold errN; rw [hg]; rfl
    exact Gx.here (K := K) (q_dropR (rz_callX1 (a := t) (f := fun _ => ()) (er_var rfl r) hz (errW_f hg) fun H1 e1 => e cs.W h2 H1 e1))
  | true =>
    obtain ⟨z, rfl, hw⟩ := goodW_str hg
    obtain ⟨w, rfl⟩ : ∃ w, tx w = z := ⟨unz z, tx_unz hw⟩
    have hl : (tx w).length ≤ 1000 := hz
    have hwl : w.length ≤ 1000 := by rw [tx_len] at hl; exact hl
    obtain rfl : v = .str (tx w) := th_str.mp r
    refine Gx.here (K := K) (q_drop (a := ()) (er_callXS1 (a := Th.str (tx w)) (f := fun _ => ()) (er_var rfl r) hz (errW_t hg)) ?_)
    refine q_asgF (as := restsL w) ((erf_call1 (f := fun z => restsL (unz z)) (a := tx w) (er_var rfl rfl) ⟨hw, hl⟩).to (by rw [unz_tx])) fun pr H1 npr e1 orr => ?_
    have whE : Er K (tCall (sp_is_whole K) [] E0 (tCons (tVar 1) tNil)) [some (.str (tx w)), some vn, some (.ref pr), none, none, none, none] H1 (isWh tn) := er_call1 (a := tn) (er_var rfl (up rn e1)) trivial
    by_cases hi : isWh tn = true
    · obtain ⟨x0, rfl⟩ := isWh_int hi
      obtain rfl : vn = .int x0 := th_int.mp rn
      have chE : Et K (tTest (tChain rLeI rLtI (tC (.int 0)) (tVar 1) (tCB (rSum K) (tCons (tOp (rIxL K) (tVar 2) (tC (.int 0))) tNil)))) [some (.str (tx w)), some (.int x0), some (.ref pr), none, none, none, none] H1 (decide (0 ≤ x0) && decide (x0 < (rsW w).sum)) :=
        et_e ((er_chLeLt er_int (er_var rfl rfl) (er_sum (er_ixL (i := 0) (er_var rfl orr.rep) er_int (atI_nat' (j := 0) (restsL_get w 0 (Nat.zero_le _)))))).to (by rw [List.drop_zero]))
      have he : errN cs (.str (tx w)) (.int x0) = if decide (0 ≤ x0) && decide (x0 < (rsW w).sum) then none else some cs.N := by
        unfold errN
        rw [if_pos hg]
        show (if decide (0 ≤ x0) && decide (x0 < (rsW (unz (tx w))).sum) then none else some cs.N) = _
        rw [unz_tx]
      by_cases hr : (decide (0 ≤ x0) && decide (x0 < (rsW w).sum)) = true
      · have hno : errN cs (.str (tx w)) (.int x0) = none := by rw [he, if_pos hr]
        rw [hr] at chE
        rw [Bool.and_eq_true, decide_eq_true_iff, decide_eq_true_iff] at hr
        obtain ⟨h0, h1⟩ := hr
        refine q_no (et_orN (et_nY (whE.to hi)) (et_not' (a := true) chE)) ?_
        have lenE : ∀ {σ : L2.St} {H' : Hp}, σ[0]? = some (some (.str (tx w))) → Er K (tOp rAddI (tCB rLenT (tCons (tVar 0) tNil)) (tC (.int 1))) σ H' ((w.length + 1 : Nat) : Int) := fun h => (er_add (er_lenT (er_var h rfl) (by rw [tx_len]; omega)) er_int).to (by rw [tx_len]; omega)
        refine q_asgF (as := upto (w.length + 1)) (erf_listRg (lenE rfl) (by omega)) fun pl H2 npl e2 ol => ?_
        refine q_asgF (as := ([] : List Int)) (erf_lst eal_nil (by decide)) fun pf H3 npf e3 of => ?_
        have npf1 : H1 pf = none := fresh_back e2 npf
        have hpl2 := own_int ol
        have plf : pf ≠ pl := fun z => by rw [z, hpl2] at npf; cases npf
        refine q_asgI (a := 0) er_int ?_
        refine q_forR (lo := 0) (n := w.length + 1) ((rng1 (lenE rfl) (by omega) (by omega)).to (by omega)) (fun p σ H' => ∃ (L F : List Int) (a : Nat) (x : Int) (x6 : Option V), σ = [some (.str (tx w)), some (.int x), some (.ref pr), some (.ref pl), some (.ref pf), some (.int (a : Int)), x6] ∧ Ex H1 H' ∧ H' pl = some (.lst (L.map V.int)) ∧ H' pf = some (.lst (F.map V.int)) ∧ F.length = p ∧
          (p ≤ w.length → OS (w.drop p) L (stA w p a) x ∧ F ++ ordC L (dec (w.drop p) (stA w p a) x) = ordN w x0) ∧ (p = w.length + 1 → F = ordN w x0)) (fun H4 e4 => ⟨upto (w.length + 1), [], 0, x0, none, rfl, e2.trans (e3.trans e4), (e3.trans e4) _ _ hpl2, e4 _ _ (own_int of), rfl, fun _ => ⟨OS.start h0 h1, rfl⟩, fun z => (by omega)⟩) ?_ ?_
        · rintro p σ H4 hp ⟨L, F, a, x, x6, rfl, e4, hL, hF, hFl, hos, _⟩
          obtain ⟨os, hout⟩ := hos (by omega)
          obtain ⟨s, es⟩ : ∃ s, stA w p a = s := ⟨_, rfl⟩
          rw [es] at os hout
          have rr := orr.rep
          refine g_cut (fun σ1 H' => σ1 = [some (.str (tx w)), some (.int x), some (.ref pr), some (.ref pl), some (.ref pf), some (.int (s : Int)), some (.int (0 + (p : Int)))] ∧ Ex H4 H') (g_if (b := (decide ((0 : Int) < 0 + (p : Int)) && (w.getD (p - 1) true == false))) (et_and' (et_e (er_gt (er_var rfl rfl) er_int)) fun hpos => et_e ((er_eqt (i := tx [w.getD (p - 1) true]) (j := tx [false]) (er_ixW (er_var rfl rfl) (er_sub (er_var rfl rfl) er_int) (by omega) ?_) (er_lit tx_d)).to ?_)) (fun hb => ?_) fun hb => ?_) ?_
          · have := of_decide_eq_true hpos
            exact at_bool (by omega) (by omega)
          · rw [tx_beq]
            cases w.getD (p - 1) true <;> rfl
          · have e0 : s = 0 := by
              rw [← es]
              unfold stA
              rw [if_pos]
              simpa using hb
            rw [e0]
            exact g_asgI (a := 0) er_int fun H5 e5 => ⟨rfl, e5⟩
          · have e0 : s = a := by
              rw [← es]
              unfold stA
              rw [if_neg]
              intro z
              have : (decide ((0 : Int) < 0 + (p : Int)) && (w.getD (p - 1) true == false)) = true := by
                simp at z ⊢
                exact z
              rw [hb] at this
              cases this
            rw [e0]
            exact g_next fun H5 e5 => ⟨rfl, e5⟩
          · rintro σ1 H5 ⟨rfl, e5⟩
            obtain ⟨k1, k2, k3, k4⟩ := os.pick
            have hlt := pk_lt ((rsW (w.drop p)).drop s) x
            obtain ⟨k, ek⟩ : ∃ k, (pk ((rsW (w.drop p)).drop s) x).1 = k := ⟨_, rfl⟩
            obtain ⟨y, ey⟩ : ∃ y, (pk ((rsW (w.drop p)).drop s) x).2 = y := ⟨_, rfl⟩
            have hnext : ∀ b v, w.drop p = b :: v → OS v (L.eraseIdx (s + k)) (if b then s + k else 0) y ∧ ordC L (dec (b :: v) s x) = L.getD (s + k) 0 :: ordC (L.eraseIdx (s + k)) (dec v (if b then s + k else 0) y) := fun b v hv => by
              rw [← ek, ← ey, hv]
              rw [hv] at os
              exact os.next
            rw [ek] at k1 k3 k4 hlt
            rw [ey] at k2 k3 k4
            have hdl : (w.drop p).length + p = w.length := by rw [List.length_drop]; omega
            have hLl : L.length = (w.drop p).length + 1 := os.1
            obtain ⟨R, eR⟩ : ∃ R, rsW (w.drop p) = R := ⟨_, rfl⟩
            rw [eR] at k3 k4 hlt
            have hRl : R.length = (w.drop p).length + 1 := by rw [← eR, rest_len]
            have getR : ∀ j, (R.drop s).getD j 0 = R.getD (s + j) 0 := fun j => getD_drop R s j
            refine q_while (fun σ2 H' => ∃ j : Nat, σ2 = [some (.str (tx w)), some (.int (x - ((R.drop s).take j).sum)), some (.ref pr), some (.ref pl), some (.ref pf), some (.int ((s + j : Nat) : Int)), some (.int (0 + (p : Int)))] ∧ Ex H5 H' ∧ j ≤ k) (muA 5) (fun H6 e6 => ⟨0, by simp, e6, Nat.zero_le _⟩) ?_
            rintro σ2 H6 ⟨j, rfl, e6, hj⟩
            have row : ∀ {σ : L2.St} {H' : Hp}, Ex H6 H' → σ[2]? = some (some (.ref pr)) → σ[6]? = some (some (.int (0 + (p : Int)))) → Er K (tOp (rIxL K) (tVar 2) (tVar 6)) σ H' R := fun e7 hr hp6 => er_ixL (as := restsL w) (er_var hr (up orr.rep (((e4.trans e5).trans e6).trans e7))) (er_var hp6 rfl) (by
              rw [show (0 : Int) + (p : Int) = (p : Int) by omega]
              rw [← eR]
              exact atI_nat' (restsL_get w p (by omega)))
            have rowAt : Er K (tOp (rIxL K) (tOp (rIxL K) (tVar 2) (tVar 6)) (tVar 5)) [some (.str (tx w)), some (.int (x - ((R.drop s).take j).sum)), some (.ref pr), some (.ref pl), some (.ref pf), some (.int ((s + j : Nat) : Int)), some (.int (0 + (p : Int)))] H6 (R.getD (s + j) 0) := er_ixL (row (Ex.refl _) rfl rfl) (er_var rfl rfl) (at_getD rfl (by omega))
            refine ⟨decide (R.getD (s + j) 0 ≤ x - ((R.drop s).take j).sum), et_e (er_ge (er_var rfl rfl) rowAt), fun hb => ?_, fun hb => ?_⟩
            · have hb' := of_decide_eq_true hb
              have hjk : j < k := by
                rcases Nat.lt_or_ge j k with c | c
                · exact c
                · have : j = k := by omega
                  subst this
                  omega
              have hsum := sum_take_succ (l := R.drop s) (j := j) (by rw [List.length_drop]; omega)
              rw [getR] at hsum
              refine q_augI (a := x - ((R.drop s).take j).sum) (b := R.getD (s + j) 0) rfl rowAt ?_
              refine g_augI (a := ((s + j : Nat) : Int)) (b := 1) rfl er_int fun H7 e7 => ⟨⟨j + 1, ?_, e6.trans e7, by omega⟩, ?_⟩
              · rw [show x - ((R.drop s).take (j + 1)).sum = x - ((R.drop s).take j).sum - R.getD (s + j) 0 by omega, show ((s + (j + 1) : Nat) : Int) = ((s + j : Nat) : Int) + 1 by omega]
                rfl
              · show (5000 - (((s + j : Nat) : Int) + 1)).toNat < (5000 - ((s + j : Nat) : Int)).toNat
                omega
            · have hb' := of_decide_eq_false hb
              have hjk : j = k := by
                rcases Nat.lt_or_ge j k with c | c
                · have := hlt j c
                  rw [getR] at this
                  omega
                · omega
              subst hjk
              have e46 := (e5.trans e6)
              have hx' : x - ((R.drop s).take j).sum = y := by omega
              refine g_appPop (as := F) (bs := L) (a := s + j) (e46 _ _ hF) (e46 _ _ hL) plf rfl rfl (er_var rfl rfl) (by omega) (by omega) (by omega) fun H7 keep hF' hL' => fun H8 e8 => ⟨L.eraseIdx (s + j), F ++ [L.getD (s + j) 0], s + j, y, _, by rw [hx'], ?_, e8 _ _ hL', e8 _ _ hF', by rw [List.length_append, hFl]; rfl, fun hle => ?_, fun hend => ?_⟩
              · intro r o hr
                have h6 := (e4.trans e46) _ _ hr
                refine e8 _ _ (keep r o (fun z => ?_) (fun z => ?_) h6)
                · rw [z, npf1] at hr; cases hr
                · rw [z, npl] at hr; cases hr
              · have hd := drop_getD (show p < w.length by omega)
                obtain ⟨g1, g2⟩ := hnext _ _ hd
                rw [hd, g2] at hout
                rw [stA_succ]
                refine ⟨g1, ?_⟩
                rw [← hout]
                simp
              · have hpe : p = w.length := by omega
                have hd : w.drop p = [] := by rw [hpe, List.drop_length]
                rw [hd] at hout ek
                rw [← hout]
                show _ = F ++ [L.getD (s + (pk ((rsW []).drop s) x).1) 0]
                rw [ek]
        · rintro σ H4 ⟨L, F, a, x, x6, rfl, e4, hL, hF, hFl, _, hend⟩
          refine fun H5 e5 => ⟨.ref pf, rfl, ?_⟩
          refine q hno pf H5 (fresh_back e1 npf1) (e1.trans (e4.trans e5)) (int_own ?_)
          show H5 pf = some (.lst ((ordN (unz (tx w)) x0).map V.int))
          rw [unz_tx, ← hend rfl]
          exact e5 _ _ hF
      · have h2 : errN cs (.str (tx w)) (.int x0) = some cs.N := by rw [he, if_neg hr]
        have hr' : (decide (0 ≤ x0) && decide (x0 < (rsW w).sum)) = false := by simpa using hr
        rw [hr'] at chE
        exact q_rz (et_or' (a := !true) (b := !false) (et_not' (et_v (whE.to hi))) fun _ => et_not' chE) rfl fun H2 e2 => e cs.N h2 H2 (e1.trans e2)
    · have hi' : isWh tn = false := by simpa using hi
      have h2 : errN cs (.str (tx w)) tn = some cs.N := by
        unfold errN
        rw [if_pos hg]
        cases tn with
        | int x => exact absurd rfl hi
        | _ => rfl
      exact q_rz (et_or' (a := !false) (b := false) (et_not' (et_v (whE.to hi'))) fun z => by cases z) rfl fun H2 e2 => e cs.N h2 H2 (e1.trans e2)
theorem ok_order_of {f f_check_word f_rests_of f_is_whole : Addr} {fd fd_check_word fd_rests_of fd_is_whole : FuncData} (F : Fun K "order_of" "order_of" s_order_of f fd) (T : Bi mg) {cs : EC} (XF : ExF K mg cs) (c_check_word : CalX P w K mg base 1 "check_word" ["word"] (sp_check_word K cs) f_check_word fd_check_word) (c_rests_of : Cal P w K mg base 1 "rests_of" ["word"] (sp_rests_of K) f_rests_of fd_rests_of) (c_is_whole : Cal P w K mg base 1 "is_whole" ["thing"] (sp_is_whole K) f_is_whole fd_is_whole) : FnOk P w K mg base (L2.CX P w) 2 f fd ["word", "number"] (sp_order_of K cs) :=
  F.okX sc_order_of (fun vs H Q E h => len_order_of h) (fun cdv A outer s H vs Q E hr h => ⟨t_order_of K cs E, by exact
    ((pss_cons (ps_expr (pe_callS c_check_word.ok (hr.mono (by decide)) (by rfl) c_check_word.g c_check_word.kp c_check_word.b (fun σ => passAt (takes_of rfl rfl rfl rfl) σ) (pa_cons (pv 0) pa_nil)))
      (pss_cons (ps_set (i := 2) sc_order_of.nd rfl (.inl rfl) (pe_call c_rests_of.ok (hr.mono (by decide)) (by rfl) c_rests_of.g c_rests_of.kp c_rests_of.b .nil pass0 (pa_cons (pv 0) pa_nil)))
      (pss_cons (ps_if (PW.pt (pw_or (pt_not (pt_val (pe_call c_is_whole.ok (hr.mono (by decide)) (by rfl) c_is_whole.g c_is_whole.kp c_is_whole.b .nil pass0 (pa_cons (pv 1) pa_nil)))) (pw_or1 (pt_not (pt_chain oLeI oLtI pe_int (pv 1) (pe_callB (cSum rfl) (by rfl) T.sum_ (by decide +kernel) (pa_cons (pe_ix ix_list (pv 2) pe_int (fun _ _ => rfl)) pa_nil))))))) (pss_one (ps_raise rfl (takes_of rfl rfl rfl rfl) (pmk_own PySem.F.excBase_ValueError XF.N.xC XF.N.gC XF.N.kC (raises_own XF.N.iC.hs XF.N.tC) (by exact rfl))))
      pss_nil)
      (pss_cons (ps_set (i := 3) sc_order_of.nd rfl (.inl rfl) (pe_listRg rfl (by rfl) T.list_ (prg_1 (by rfl) T.range_ (pe_op oAddI (pe_callB cLenT (by rfl) T.len_ (by decide +kernel) (pa_cons (pv 0) pa_nil)) pe_int))))
      (pss_cons (ps_set (i := 4) sc_order_of.nd rfl (.inl rfl) (pe_lst pa_nil))
      (pss_cons (ps_set (i := 5) sc_order_of.nd rfl (.inl rfl) pe_int)
      (pss_cons (ps_for (passes_of rfl) rfl (pi_range1 (by rfl) T.range_ (pa_cons (pe_op oAddI (pe_callB cLenT (by rfl) T.len_ (by decide +kernel) (pa_cons (pv 0) pa_nil)) pe_int) pa_nil)) (pg_name (i := 6) sc_order_of.nd rfl (.inl rfl))
      (pss_cut (ps_if (PW.pt (pw_and (pt_cmpR oGtI (pv 6) pe_int (nomark _)) (pw_and1 (pt_cmpR oEqT (pe_ix ix_str (pv 0) (pe_op oSubI (pv 6) pe_int) (fun _ _ => rfl)) pe_str (nomark _))))) (pss_one (ps_set (i := 5) sc_order_of.nd rfl (.inl rfl) pe_int))
      pss_nil)
      (pss_cons (ps_while (passes_of rfl) (pt_cmpR oGeI (pv 1) (pe_ix ix_list (pe_ix ix_list (pv 2) (pv 6) (fun _ _ => rfl)) (pv 5) (fun _ _ => rfl)) (nomark _)) (pss_cons (ps_aug (i := 1) sc_order_of.nd rfl (.inl rfl) (pe_ix ix_list (pe_ix ix_list (pv 2) (pv 6) (fun _ _ => rfl)) (pv 5) (fun _ _ => rfl)) ip_sub)
      (pss_one (ps_aug (i := 5) sc_order_of.nd rfl (.inl rfl) pe_int ip_add))))
      (pss_one (ps_expr (pe_bm PySem.F.plainAttrs_list PySem.F.slot_list_append PySem.F.type_list_append mt_append (pv 4) (pa_cons (pe_bm PySem.F.plainAttrs_list PySem.F.slot_list_pop PySem.F.type_list_pop mt_popAt (pv 3) (pa_cons (pv 5) pa_nil)) pa_nil)))))))
      (pss_one (ps_ret (pv 4))))))))))), pure_order_of K cs vs H Q E h⟩)


/-! ### numbers by orders: refusals alone -/
theorem adj_nodup : ∀ {ns : List Int}, ns.Nodup → adjR ns = false
  | [], _ => rfl
  | [a], _ => rfl
  | a :: b :: r, h => by
    obtain ⟨h1, h2⟩ := List.nodup_cons.mp h
    show (b == a || adjR (b :: r)) = false
    rw [adj_nodup h2, Bool.or_false, beq_eq_false_iff_ne]
    rintro rfl
    exact h1 List.mem_cons_self
theorem ris_nodup {l : List Int} (h : l.Pairwise (· < ·)) : l.Nodup := h.imp fun {a b} h z => by omega
theorem ord_nodup {ns : List Int} {n : Nat} (h : ord ns = upto n) : ns.Nodup := (ord_perm ns).nodup_iff.mp (by rw [h]; exact ris_nodup (upto_ris n))
theorem wordBy_R (ns : List Int) : wordBy ns = if adjR ns then none else some (rfR ns) := by
  unfold wordBy
  rw [adj_R, rf_R]
def errO (cs : EC) (t o : Th) : Option Addr := if goodW t then (match rowT o with | none => some cs.O | some ns => if ord ns = upto ((wdT t).length + 1) ∧ rfR ns = wdT t then none else some cs.O) else some cs.W
def sp_number_of (K : PySem.W.Frag) (cs : EC) : Sp := PrX2 K (fun t o => szT 1000 t ∧ szT 1000 o ∧ errO cs t o ≠ none) (errO cs) fun _ _ => ()
theorem len_number_of {K : PySem.W.Frag} {cs : EC} {vs : List V} {H : Hp} {Q : VK} {E : XK} (h : sp_number_of K cs vs H Q E) : vs.length = 2 := len_prX2 h
abbrev s_number_of : Stmt := topS 16
abbrev N_number_of : List Str := ["word", "order", "one", "rests", "left", "found", "at", "place", "begin"]
theorem sc_number_of : FnScope N_number_of ["word", "order"] (defScope s_number_of) := ⟨rfl, rfl, rfl, by decide +kernel, rfl, by decide +kernel, by decide +kernel⟩
def t_number_of (K : PySem.W.Frag) (cs : EC) (E : XK) : TS :=
  (tSeq (tDrop (tCallS (sp_check_word K cs) (fun _ => E) (tCons (tVar 0) tNil)))
    (tSeq (tIfS (tOr (tNot (tB (tCB (rIsi K) (tCons (tVar 1) (tCons (tC (.ty "list")) tNil))))) (tNot (tB (tCB (rAll K) (tCons (tLc (iList K (tVar 1)) (gName 2) tYes (tCall (sp_is_whole K) [] E0 (tCons (tVar 2) tNil)) [2]) tNil))))) (tRz cs.O E) tNext)
    (tSeq (tIfS (tOr (tTest (tOp (rNeD K) (tCB (rSortL K) (tCons (tVar 1) tNil)) (tLstRg (tRg1 (tOp rAddI (tCB rLenT (tCons (tVar 0) tNil)) (tC (.int 1))))))) (tTest (tOp rNeT (tCall (sp_word_by K) [] E0 (tCons (tVar 1) tNil)) (tVar 0)))) (tRz cs.O E) tNext)
    (tSeq tNever
    (tSeq tNever
    (tSeq tNever
    (tSeq tNever
    (tSeq tNever
    tNever))))))))

theorem pure_number_of (K : PySem.W.Frag) (cs : EC) (vs : List V) (H : Hp) (Q : VK) (E : XK) (h : sp_number_of K cs vs H Q E) : t_number_of K cs E { nx := fun _ H' => Q .non H', rt := Q } (start N_number_of vs) H := by
  obtain ⟨v, vo, t, o, rfl, r, ro, ⟨hz, hzo, hne⟩, _, e⟩ := h
  cases hg : goodW t with
  | false =>
    have h2 : errO cs t o = some cs.W := by unfold errO; rw [hg]; rfl
    exact Gx.here (K := K) (q_dropR (rz_callX1 (a := t) (f := fun _ => ()) (er_var rfl r) hz (errW_f hg) fun H1 e1 => e cs.W h2 H1 e1))
  | true =>
    obtain ⟨z, rfl, hw⟩ := goodW_str hg
    obtain ⟨w, rfl⟩ : ∃ w, tx w = z := ⟨unz z, tx_unz hw⟩
    have hl : (tx w).length ≤ 1000 := hz
    have hwl : w.length ≤ 1000 := by rw [tx_len] at hl; exact hl
    obtain rfl : v = .str (tx w) := th_str.mp r
    have he : errO cs (.str (tx w)) o = match rowT o with | none => some cs.O | some ns => if ord ns = upto (w.length + 1) ∧ rfR ns = w then none else some cs.O := by
      unfold errO
      rw [if_pos hg]
      show (match rowT o with | none => some cs.O | some ns => if ord ns = upto ((unz (tx w)).length + 1) ∧ rfR ns = unz (tx w) then none else some cs.O) = _
      rw [unz_tx]
    have hO : errO cs (.str (tx w)) o = some cs.O := by
      rw [he] at hne ⊢
      cases hr : rowT o with
      | none => rfl
      | some ns =>
        rw [hr] at hne
        show (if ord ns = upto (w.length + 1) ∧ rfR ns = w then none else some cs.O) = some cs.O
        by_cases hq : ord ns = upto (w.length + 1) ∧ rfR ns = w
        · exact absurd (if_pos hq) hne
        · exact if_neg hq
    have rz : ∀ H', Ex H H' → E (.ref cs.O) none H' := e cs.O hO
    refine Gx.here (K := K) (q_drop (a := ()) (er_callXS1 (a := Th.str (tx w)) (f := fun _ => ()) (er_var rfl r) hz (errW_t hg)) ?_)
    cases hr : rowT o with
    | none => exact q_rz (et_rowT rfl ro hzo (fun _ => rfl) fun _ => rfl) (by rw [hr]; rfl) rz
    | some ns =>
      have hnl := rowT_len hzo hr
      have rn : Rep.rep K H vo ns := by
        have e := rowT_some hr
        rw [e] at ro
        exact th_ints.mp ro
      refine q_no (by
        have hrow := et_rowT (K := K) (σ := [some (.str (tx w)), some vo, none, none, none, none, none, none, none]) (i := 1) (j := 2) rfl ro hzo (fun _ => rfl) fun _ => rfl
        rw [hr] at hrow
        exact hrow) ?_
      have lenE : ∀ {σ : L2.St} {H' : Hp}, σ[0]? = some (some (.str (tx w))) → Er K (tOp rAddI (tCB rLenT (tCons (tVar 0) tNil)) (tC (.int 1))) σ H' ((w.length + 1 : Nat) : Int) := fun h => (er_add (er_lenT (er_var h rfl) (by rw [tx_len]; omega)) er_int).to (by rw [tx_len]; omega)
      have hq : ¬ (ord ns = upto (w.length + 1) ∧ rfR ns = w) := by
        intro hq
        rw [he, hr] at hO
        have : (if ord ns = upto (w.length + 1) ∧ rfR ns = w then none else some cs.O) = some cs.O := hO
        rw [if_pos hq] at this
        cases this
      refine q_rz (b := (!decide (ord ns = upto (w.length + 1))) || !(tx (rfR ns) == tx w)) (et_or' (et_e ((er_neD (a := ord ns) (b := upto (w.length + 1)) (ErF.er (erf_sortL (er_var rfl rn))) (ErF.er (erf_listRg (lenE rfl) (by omega))) (fun _ _ => trivial) (fun _ _ => trivial) (by decide)))) fun hs => (et_e (er_net (i := tx (rfR ns)) (j := tx w) (er_unsome ((er_call1 (f := fun row => (wordBy row).map tx) (a := ns) (er_var rfl rn) hnl).to ?_)) (er_var rfl rfl)))) ?_ rz
      · have hs' : ord ns = upto (w.length + 1) := by simpa using hs
        rw [wordBy_R, adj_nodup (ord_nodup hs')]
        rfl
      · rw [tx_beq]
        by_cases h1 : ord ns = upto (w.length + 1)
        · have h2 : rfR ns ≠ w := fun h2 => hq ⟨h1, h2⟩
          simp [h1, h2]
        · simp [h1]
theorem ok_number_of {f f_check_word f_is_whole f_word_by : Addr} {fd fd_check_word fd_is_whole fd_word_by : FuncData} (F : Fun K "number_of" "number_of" s_number_of f fd) (T : Bi mg) {cs : EC} (XF : ExF K mg cs) (c_check_word : CalX P w K mg base 1 "check_word" ["word"] (sp_check_word K cs) f_check_word fd_check_word) (c_is_whole : Cal P w K mg base 1 "is_whole" ["thing"] (sp_is_whole K) f_is_whole fd_is_whole) (c_word_by : Cal P w K mg base 1 "word_by" ["row"] (sp_word_by K) f_word_by fd_word_by) : FnOk P w K mg base (L2.CX P w) 2 f fd ["word", "order"] (sp_number_of K cs) :=
  F.okX sc_number_of (fun vs H Q E h => len_number_of h) (fun cdv A outer s H vs Q E hr h => ⟨t_number_of K cs E, by exact
    ((pss_cons (ps_expr (pe_callS c_check_word.ok (hr.mono (by decide)) (by rfl) c_check_word.g c_check_word.kp c_check_word.b (fun σ => passAt (takes_of rfl rfl rfl rfl) σ) (pa_cons (pv 0) pa_nil)))
      (pss_cons (ps_if (PW.pt (pw_or (pt_not (pt_val (pe_callB cIsi (by rfl) T.isinstance_ (by decide +kernel) (pa_cons (pv 1) (pa_cons (pe_bltn (v := .ty "list") (by rfl) T.list_ (by decide +kernel) rfl) pa_nil))))) (pw_or1 (pt_not (pt_val (pe_callB (cr_all rfl) (by rfl) T.all_ (by decide +kernel) (pa_cons (pe_lc (own := [("one", 2)]) (g := (gName 2)) (tt := tYes) rfl sc_number_of.nd (pi_list (pv 1)) (blkOk_by (own := [("one", 2)]) (N := N_number_of) (sc := defScope s_number_of) (by decide +kernel)) (fun _ _ _ _ _ => (pg_name (i := 2) sc_number_of.nd rfl (.inl rfl))) (fun _ _ _ _ _ => pts_nil) (fun _ _ _ _ _ => (pe_call c_is_whole.ok (hr.mono (by decide)) (by rfl) c_is_whole.g c_is_whole.kp c_is_whole.b .nil pass0 (pa_cons (pv 2) pa_nil)))) pa_nil))))))) (pss_one (ps_raise rfl (takes_of rfl rfl rfl rfl) (pmk_own PySem.F.excBase_ValueError XF.O.xC XF.O.gC XF.O.kC (raises_own XF.O.iC.hs XF.O.tC) (by exact rfl))))
      pss_nil)
      (pss_cons (ps_if (PW.pt (pw_or (pt_cmpR (op_neD hr.units) (pe_callB cSortL (by rfl) T.sorted_ (by decide +kernel) (pa_cons (pv 1) pa_nil)) (pe_listRg rfl (by rfl) T.list_ (prg_1 (by rfl) T.range_ (pe_op oAddI (pe_callB cLenT (by rfl) T.len_ (by decide +kernel) (pa_cons (pv 0) pa_nil)) pe_int))) (nomark _)) (pw_or1 (pt_cmpR oNeT (pe_call c_word_by.ok (hr.mono (by decide)) (by rfl) c_word_by.g c_word_by.kp c_word_by.b .nil pass0 (pa_cons (pv 1) pa_nil)) (pv 0) (nomark _))))) (pss_one (ps_raise rfl (takes_of rfl rfl rfl rfl) (pmk_own PySem.F.excBase_ValueError XF.O.xC XF.O.gC XF.O.kC (raises_own XF.O.iC.hs XF.O.tC) (by exact rfl))))
      pss_nil)
      (pss_cons ps_never
      (pss_cons ps_never
      (pss_cons ps_never
      (pss_cons ps_never
      (pss_cons ps_never
      (pss_one ps_never)))))))))), pure_number_of K cs vs H Q E h⟩)


/-! ### the doors -/
def sp_longest (K : PySem.W.Frag) (cs : EC) : Sp := PrX1 K (fun t => szT 1000 t ∧ errR cs t = some cs.R) (errR cs) fun _ => ()
theorem len_longest {K : PySem.W.Frag} {cs : EC} {vs : List V} {H : Hp} {Q : VK} {E : XK} (h : sp_longest K cs vs H Q E) : vs.length = 1 := len_prX1 h
abbrev s_longest : Stmt := topS 23
abbrev N_longest : List Str := ["row", "places", "place", "number", "rises"]
theorem sc_longest : FnScope N_longest ["row"] (defScope s_longest) := ⟨rfl, rfl, rfl, by decide +kernel, rfl, by decide +kernel, by decide +kernel⟩
def t_longest (K : PySem.W.Frag) (cs : EC) (E : XK) : TS :=
  (tSeq (tDrop (tCallS (sp_check_row K cs) (fun _ => E) (tCons (tVar 0) tNil)))
    (tSeq tNever
    (tSeq tNever
    tNever)))

theorem pure_longest (K : PySem.W.Frag) (cs : EC) (vs : List V) (H : Hp) (Q : VK) (E : XK) (h : sp_longest K cs vs H Q E) : t_longest K cs E { nx := fun _ H' => Q .non H', rt := Q } (start N_longest vs) H := by
  obtain ⟨v, t, rfl, r, ⟨hz, he⟩, _, e⟩ := h
  exact Gx.here (K := K) (q_dropR (rz_callX1 (a := t) (f := fun _ => ()) (er_var rfl r) hz he fun H1 e1 => e cs.R he H1 e1))
theorem ok_longest {f f_check_row : Addr} {fd fd_check_row : FuncData} (F : Fun K "longest" "longest" s_longest f fd) (T : Bi mg) {cs : EC} (XF : ExF K mg cs) (c_check_row : CalX P w K mg base 2 "check_row" ["row"] (sp_check_row K cs) f_check_row fd_check_row) : FnOk P w K mg base (L2.CX P w) 3 f fd ["row"] (sp_longest K cs) :=
  F.okX sc_longest (fun vs H Q E h => len_longest h) (fun cdv A outer s H vs Q E hr h => ⟨t_longest K cs E, by exact
    ((pss_cons (ps_expr (pe_callS c_check_row.ok (hr.mono (by decide)) (by rfl) c_check_row.g c_check_row.kp c_check_row.b (fun σ => passAt (takes_of rfl rfl rfl rfl) σ) (pa_cons (pv 0) pa_nil)))
      (pss_cons ps_never
      (pss_cons ps_never
      (pss_one ps_never))))), pure_longest K cs vs H Q E h⟩)

def sp_l_with_word (K : PySem.W.Frag) (cs : EC) : Sp := PrX2 K (fun (d : Int) t => szT 1000 t ∧ goodW t = false) (fun _ _ => some cs.W) fun _ _ => ()
theorem len_l_with_word {K : PySem.W.Frag} {cs : EC} {vs : List V} {H : Hp} {Q : VK} {E : XK} (h : sp_l_with_word K cs vs H Q E) : vs.length = 2 := len_prX2 h
abbrev s_l_with_word : Stmt := topS 32
abbrev N_l_with_word : List Str := ["_law_door", "_law_word_here"]
theorem sc_l_with_word : FnScope N_l_with_word ["_law_door", "_law_word_here"] (defScope s_l_with_word) := ⟨rfl, rfl, rfl, by decide +kernel, rfl, by decide +kernel, by decide +kernel⟩
def t_l_with_word (K : PySem.W.Frag) (cs : EC) (E : XK) : TS :=
  (tRet (tIf (tTest (tOp rEqI (tVar 0) (tC (.int 0)))) (tCallS (sp_count K cs) (fun _ => E) (tCons (tVar 1) tNil)) (tIf (tTest (tOp rEqI (tVar 0) (tC (.int 1)))) (tCallS (sp_order_of K cs) (fun _ => E) (tCons (tVar 1) (tCons (tUn rNegI (tC (.int 1))) tNil))) (tCallS (sp_number_of K cs) (fun _ => E) (tCons (tVar 1) (tCons (tC .non) tNil))))))

theorem pure_l_with_word (K : PySem.W.Frag) (cs : EC) (vs : List V) (H : Hp) (Q : VK) (E : XK) (h : sp_l_with_word K cs vs H Q E) : t_l_with_word K cs E { nx := fun _ H' => Q .non H', rt := Q } (start N_l_with_word vs) H := by
  obtain ⟨vd, v, d, t, rfl, rd, r, ⟨hz, hg⟩, _, e⟩ := h
  have rz : ∀ H', Ex H H' → E (.ref cs.W) none H' := e cs.W rfl
  obtain rfl : vd = .int d := rd
  have hN : errN cs t (.int (-1)) = some cs.W := by unfold errN; rw [hg]; rfl
  have hO : errO cs t .non = some cs.W := by unfold errO; rw [hg]; rfl
  exact Gx.here (K := K) (g_retR (rz_if (et_e (er_eqi (er_var rfl rfl) er_int))
    (fun _ => rz_callX1 (a := t) (f := fun t => (rsW (wdT t)).sum) (er_var rfl r) hz (errW_f hg) rz)
    fun _ => rz_if (et_e (er_eqi (er_var rfl rfl) er_int))
      (fun _ => rz_callXF2 (a := t) (b := Th.int (-1)) (f := fun t tn => ordN (wdT t) (intT tn)) (er_var rfl r) (et_int (er_neg er_int)) hz hN rz)
      fun _ => rz_callX2 (a := t) (b := Th.non) (f := fun _ _ => ()) (er_var rfl r) (et_non er_non) ⟨hz, trivial, by rw [hO]; simp⟩ hO rz))
theorem ok_l_with_word {f f_count f_order_of f_number_of : Addr} {fd fd_count fd_order_of fd_number_of : FuncData} (F : Fun K "_law_with_word" "_law_with_word" s_l_with_word f fd) (T : Bi mg) {cs : EC} (XF : ExF K mg cs) (c_count : CalX P w K mg base 2 "count" ["word"] (sp_count K cs) f_count fd_count) (c_order_of : CalX P w K mg base 2 "order_of" ["word", "number"] (sp_order_of K cs) f_order_of fd_order_of) (c_number_of : CalX P w K mg base 2 "number_of" ["word", "order"] (sp_number_of K cs) f_number_of fd_number_of) : FnOk P w K mg base (L2.CX P w) 3 f fd ["_law_door", "_law_word_here"] (sp_l_with_word K cs) :=
  F.okX sc_l_with_word (fun vs H Q E h => len_l_with_word h) (fun cdv A outer s H vs Q E hr h => ⟨t_l_with_word K cs E, by exact
    ((pss_one (ps_ret (pe_ifExp (pt_cmpR oEqI (pv 0) pe_int (nomark _)) (pe_callS c_count.ok (hr.mono (by decide)) (by rfl) c_count.g c_count.kp c_count.b (fun σ => passAt (takes_of rfl rfl rfl rfl) σ) (pa_cons (pv 1) pa_nil)) (pe_ifExp (pt_cmpR oEqI (pv 0) pe_int (nomark _)) (pe_callS c_order_of.ok (hr.mono (by decide)) (by rfl) c_order_of.g c_order_of.kp c_order_of.b (fun σ => passAt (takes_of rfl rfl rfl rfl) σ) (pa_cons (pv 1) (pa_cons (pe_un oNegI pe_int) pa_nil))) (pe_callS c_number_of.ok (hr.mono (by decide)) (by rfl) c_number_of.g c_number_of.kp c_number_of.b (fun σ => passAt (takes_of rfl rfl rfl rfl) σ) (pa_cons (pv 1) (pa_cons pe_non pa_nil)))))))), pure_l_with_word K cs vs H Q E h⟩)

def sp_l_with_row (K : PySem.W.Frag) (cs : EC) : Sp := PrX2 K (fun (d : Int) t => szT 1000 t ∧ (if d = 0 then errR cs t else errWO cs t) = some cs.R) (fun _ _ => some cs.R) fun _ _ => ()
theorem len_l_with_row {K : PySem.W.Frag} {cs : EC} {vs : List V} {H : Hp} {Q : VK} {E : XK} (h : sp_l_with_row K cs vs H Q E) : vs.length = 2 := len_prX2 h
abbrev s_l_with_row : Stmt := topS 33
abbrev N_l_with_row : List Str := ["_law_door", "_law_row"]
theorem sc_l_with_row : FnScope N_l_with_row ["_law_door", "_law_row"] (defScope s_l_with_row) := ⟨rfl, rfl, rfl, by decide +kernel, rfl, by decide +kernel, by decide +kernel⟩
def t_l_with_row (K : PySem.W.Frag) (cs : EC) (E : XK) : TS :=
  (tRet (tIf (tTest (tOp rEqI (tVar 0) (tC (.int 0)))) (tCallS (sp_longest K cs) (fun _ => E) (tCons (tVar 1) tNil)) (tCallS (sp_word_of K cs) (fun _ => E) (tCons (tVar 1) tNil))))

theorem pure_l_with_row (K : PySem.W.Frag) (cs : EC) (vs : List V) (H : Hp) (Q : VK) (E : XK) (h : sp_l_with_row K cs vs H Q E) : t_l_with_row K cs E { nx := fun _ H' => Q .non H', rt := Q } (start N_l_with_row vs) H := by
  obtain ⟨vd, v, d, t, rfl, rd, r, ⟨hz, hg⟩, _, e⟩ := h
  have rz : ∀ H', Ex H H' → E (.ref cs.R) none H' := e cs.R rfl
  obtain rfl : vd = .int d := rd
  refine Gx.here (K := K) (g_retR (rz_if (et_e (er_eqi (er_var rfl rfl) er_int)) (fun hd => ?_) fun hd => ?_))
  · have hd' : d = 0 := by simpa using hd
    rw [if_pos hd'] at hg
    exact rz_callX1 (a := t) (f := fun _ => ()) (er_var rfl r) ⟨hz, hg⟩ hg rz
  · have hd' : ¬ d = 0 := by simpa using hd
    rw [if_neg hd'] at hg
    exact rz_callX1 (a := t) (f := fun t => tx ((wordBy ((rowT t).getD [])).getD [])) (er_var rfl r) hz hg rz
theorem ok_l_with_row {f f_longest f_word_of : Addr} {fd fd_longest fd_word_of : FuncData} (F : Fun K "_law_with_row" "_law_with_row" s_l_with_row f fd) (T : Bi mg) {cs : EC} (XF : ExF K mg cs) (c_longest : CalX P w K mg base 3 "longest" ["row"] (sp_longest K cs) f_longest fd_longest) (c_word_of : CalX P w K mg base 3 "word_of" ["row"] (sp_word_of K cs) f_word_of fd_word_of) : FnOk P w K mg base (L2.CX P w) 4 f fd ["_law_door", "_law_row"] (sp_l_with_row K cs) :=
  F.okX sc_l_with_row (fun vs H Q E h => len_l_with_row h) (fun cdv A outer s H vs Q E hr h => ⟨t_l_with_row K cs E, by exact
    ((pss_one (ps_ret (pe_ifExp (pt_cmpR oEqI (pv 0) pe_int (nomark _)) (pe_callS c_longest.ok (hr.mono (by decide)) (by rfl) c_longest.g c_longest.kp c_longest.b (fun σ => passAt (takes_of rfl rfl rfl rfl) σ) (pa_cons (pv 1) pa_nil)) (pe_callS c_word_of.ok (hr.mono (by decide)) (by rfl) c_word_of.g c_word_of.kp c_word_of.b (fun σ => passAt (takes_of rfl rfl rfl rfl) σ) (pa_cons (pv 1) pa_nil)))))), pure_l_with_row K cs vs H Q E h⟩)


/-! ### what is told of a refusal -/
theorem er_isE {K : PySem.W.Frag} {σ : L2.St} {H : Hp} {D a : Addr} {i : Nat} {c : V} {cv : Value} {b : Bool} (hv : σ[i]? = some (some (.ref a))) (hu : ∀ u, RelV c u → u = cv) (hk : PySem.W.kitOne K (.ref D) cv = some b) : Er K (tCB (rIsE K D a) (tCons (tVar i) (tCons (tC c) tNil))) σ H b := fun H1 e Q q =>
  ⟨.ref a, hv, c, cv, b, rfl, hu, hk, q _ H1 (Ex.refl H1) rfl⟩
def sp_l_kinds (K : PySem.W.Frag) (cs : EC) (a : Addr) (cls : Value) (d : Option Addr) : Sp := fun vs H Q E => ∃ i, i < 4 ∧ vs = [.ref a] ∧ cls = .ref (cs.c i) ∧ d = none ∧ (∀ p H', H p = none → Ex H H' → Own K H' p (kindsL i) → Q (.ref p) H')
theorem len_l_kinds {K : PySem.W.Frag} {cs : EC} {a : Addr} {cls : Value} {d : Option Addr} {vs : List V} {H : Hp} {Q : VK} {E : XK} (h : sp_l_kinds K cs a cls d vs H Q E) : vs.length = 1 := by obtain ⟨_, _, rfl, _⟩ := h; rfl
abbrev s_l_kinds : Stmt := topS 31
abbrev N_l_kinds : List Str := ["_law_error", "_law_found"]
theorem sc_l_kinds : FnScope N_l_kinds ["_law_error"] (defScope s_l_kinds) := ⟨rfl, rfl, rfl, by decide +kernel, rfl, by decide +kernel, by decide +kernel⟩
def t_l_kinds (K : PySem.W.Frag) (cs : EC) (D a : Addr) : TS :=
  (tSeq (tAsg (tLst (tCons (tCB (rIsE K D a) (tCons (tVar 0) (tCons (tC (.ref cs.W)) tNil))) (tCons (tCB (rIsE K D a) (tCons (tVar 0) (tCons (tC (.ref cs.N)) tNil))) (tCons (tCB (rIsE K D a) (tCons (tVar 0) (tCons (tC (.ref cs.O)) tNil))) tNil)))) (gName 1))
    (tRet (tOp rCat (tVar 1) (tLst (tCons (tCB (rIsE K D a) (tCons (tVar 0) (tCons (tC (.ref cs.R)) tNil))) (tCons (tCB (rIsE K D a) (tCons (tVar 0) (tCons (tC (.ty "ValueError")) tNil))) tNil))))))

theorem pure_l_kinds (K : PySem.W.Frag) (cs : EC) {mg : Str → Option Value} (XF : ExF K mg cs) (i : Nat) (hi : i < 4) (a : Addr) (H : Hp) (Q : VK) (q : ∀ p H', H p = none → Ex H H' → Own K H' p (kindsL i) → Q (.ref p) H') : t_l_kinds K cs (cs.c i) a { nx := fun _ H' => Q .non H', rt := Q } (start N_l_kinds [.ref a]) H := by
  obtain ⟨x, XO⟩ := XF.at i hi
  have k0 := XF.kit i 0 hi (by decide)
  have k1 := XF.kit i 1 hi (by decide)
  have k2 := XF.kit i 2 hi (by decide)
  have k3 := XF.kit i 3 hi (by decide)
  refine Gx.here (K := K) (q_asgF (as := [decide (i = 0), decide (i = 1), decide (i = 2)]) (erf_lst (eal_cons (er_isE rfl (fun _ h => h) k0) (eal_cons (er_isE rfl (fun _ h => h) k1) (eal_cons (er_isE rfl (fun _ h => h) k2) eal_nil))) (show (3 : Nat) ≤ 100000 by decide)) fun pf H1 npf e1 of => ?_)
  exact g_retF (as := kindsL i) (erf_catL (as := [decide (i = 0), decide (i = 1), decide (i = 2)]) (bs := [decide (i = 3), true]) (ev_var rfl) of (erf_lst (eal_cons (er_isE rfl (fun _ h => h) k3) (eal_cons (er_isE rfl (fun _ h => h) XO.vC) eal_nil)) (show (2 : Nat) ≤ 100000 by decide)) (by decide : (3 : Nat) + 2 ≤ 100000)) fun p H2 np e2 o2 => q p H2 (fresh_back e1 np) (e1.trans e2) o2
theorem ok_l_kinds {f : Addr} {fd : FuncData} (F : Fun K "_law_kinds" "_law_kinds" s_l_kinds f fd) (T : Bi mg) {cs : EC} (XF : ExF K mg cs) : FnP P w K mg base 1 f fd ["_law_error"] (sp_l_kinds K cs) := by
  obtain ⟨oc, od, kV, doc, pm, an, cdv, ct, osl, rfl, lk, hcd⟩ := F.ex
  refine fn_ofP lk hcd sc_l_kinds (fun a cls d vs H Q E h => len_l_kinds h) fun A outer s H vs Q E p cls d hz hf h => ?_
  obtain ⟨i, hi, rfl, rfl, rfl, k⟩ := h
  obtain ⟨xi, ei⟩ := XF.at i hi
  refine ⟨t_l_kinds K cs (cs.c i) p.1, ?_, pure_l_kinds K cs XF i hi p.1 H Q k⟩
  exact ((pss_cons (ps_set (i := 1) sc_l_kinds.nd rfl (.inl rfl) (pe_lst (pa_cons (pe_callB (call_isP ei.iC List.mem_cons_self hz hf) (by rfl) T.isinstance_ (by decide +kernel) (pa_cons (pv 0) (pa_cons (pe_glob (v := .ref cs.W) (by rfl) XF.W.gC rfl) pa_nil))) (pa_cons (pe_callB (call_isP ei.iC List.mem_cons_self hz hf) (by rfl) T.isinstance_ (by decide +kernel) (pa_cons (pv 0) (pa_cons (pe_glob (v := .ref cs.N) (by rfl) XF.N.gC rfl) pa_nil))) (pa_cons (pe_callB (call_isP ei.iC List.mem_cons_self hz hf) (by rfl) T.isinstance_ (by decide +kernel) (pa_cons (pv 0) (pa_cons (pe_glob (v := .ref cs.O) (by rfl) XF.O.gC rfl) pa_nil))) pa_nil)))))
      (pss_one (ps_ret (pe_op op_cat (pv 1) (pe_lst (pa_cons (pe_callB (call_isP ei.iC List.mem_cons_self hz hf) (by rfl) T.isinstance_ (by decide +kernel) (pa_cons (pv 0) (pa_cons (pe_glob (v := .ref cs.R) (by rfl) XF.R.gC rfl) pa_nil))) (pa_cons (pe_callB (call_isP ei.iC List.mem_cons_self hz hf) (by rfl) T.isinstance_ (by decide +kernel) (pa_cons (pv 0) (pa_cons (pe_bltn (v := .ty "ValueError") (by rfl) T.ValueError_ (by decide +kernel) rfl) pa_nil))) pa_nil))))))))

/-- what may be asked -/
def ASk (K : PySem.W.Frag) (cs : EC) (fw fr fo fn : Addr) (f : Addr) (sp : Sp) : Prop := (f = fw ∧ sp = sp_l_with_word K cs) ∨ (f = fr ∧ sp = sp_l_with_row K cs) ∨ (f = fo ∧ sp = sp_order_of K cs) ∨ (f = fn ∧ sp = sp_number_of K cs)
theorem asks_held {P : Program} {w : World} {K : PySem.W.Frag} {mg : Str → Option Value} {base : Heap} {cs : EC} {j1 j2 j3 j4 k : Nat} {x1 x2 x3 x4 : Str} {ps1 ps2 ps3 ps4 : List Str} {fw fr fo fn : Addr} {fd1 fd2 fd3 fd4 : FuncData} (c1 : CalX P w K mg base j1 x1 ps1 (sp_l_with_word K cs) fw fd1) (c2 : CalX P w K mg base j2 x2 ps2 (sp_l_with_row K cs) fr fd2) (c3 : CalX P w K mg base j3 x3 ps3 (sp_order_of K cs) fo fd3) (c4 : CalX P w K mg base j4 x4 ps4 (sp_number_of K cs) fn fd4)
    (h1 : j1 ≤ k := by decide) (h2 : j2 ≤ k := by decide) (h3 : j3 ≤ k := by decide) (h4 : j4 ≤ k := by decide) : ∀ f sp, ASk K cs fw fr fo fn f sp → HeldX P w K mg base k f sp := by
  rintro f sp (⟨rfl, rfl⟩ | ⟨rfl, rfl⟩ | ⟨rfl, rfl⟩ | ⟨rfl, rfl⟩)
  · exact c1.held h1
  · exact c2.held h2
  · exact c3.held h3
  · exact c4.held h4
/-- f asked with x, y refuses with the class of number k -/
def Told (K : PySem.W.Frag) (cs : EC) (fw fr fo fn : Addr) (H : Hp) (f : Addr) (x y : V) (k : Nat) : Prop := ∃ sp, ASk K cs fw fr fo fn f sp ∧ ∀ H1, Ex H H1 → ∀ Q E, (∀ H', Ex H1 H' → E (.ref (cs.c k)) none H') → sp [x, y] H1 Q E
def sp_l_told (K : PySem.W.Frag) (cs : EC) (fw fr fo fn : Addr) : Sp := fun vs H Q E => ∃ f x y k, vs = [.ref f, x, y] ∧ k < 4 ∧ Told K cs fw fr fo fn H f x y k ∧ ∀ p H', H p = none → Ex H H' → Own K H' p (kindsL k) → Q (.ref p) H'
theorem len_l_told {K : PySem.W.Frag} {cs : EC} {fw fr fo fn : Addr} {vs : List V} {H : Hp} {Q : VK} {E : XK} (h : sp_l_told K cs fw fr fo fn vs H Q E) : vs.length = 3 := by obtain ⟨_, _, _, _, rfl, _⟩ := h; rfl
abbrev s_l_told : Stmt := topS 34
abbrev N_l_told : List Str := ["_law_ask", "_law_one", "_law_other", "_law_error"]
theorem sc_l_told : FnScope N_l_told ["_law_ask", "_law_one", "_law_other"] (defScope s_l_told) := ⟨rfl, rfl, rfl, by decide +kernel, rfl, by decide +kernel, by decide +kernel⟩
def t_l_told (K : PySem.W.Frag) (cs : EC) (f_l_with_word f_l_with_row f_order_of f_number_of : Addr) : TS :=
  (tSeq (tTryAs K cs.S 3 (fun W => (tDrop (tCallV 0 (ASk K cs f_l_with_word f_l_with_row f_order_of f_number_of) (WE W) (tCons (tVar 1) (tCons (tVar 2) tNil))))) (fun a cls d => (tRet (tCallP (sp_l_kinds K cs) a cls d (tCons (tVar 3) tNil)))))
    (tRet (tLst tNil)))

theorem pure_l_told (K : PySem.W.Frag) (cs : EC) {mg : Str → Option Value} (XF : ExF K mg cs) (fw fr fo fn : Addr) (vs : List V) (H : Hp) (Q : VK) (E : XK) (h : sp_l_told K cs fw fr fo fn vs H Q E) : t_l_told K cs fw fr fo fn { nx := fun _ H' => Q .non H', rt := Q } (start N_l_told vs) H := by
  obtain ⟨f, x, y, k, rfl, hk, ⟨sp, hS, ht⟩, q⟩ := h
  obtain ⟨xx, XO⟩ := XF.at k hk
  refine ⟨f, sp, rfl, hS, x, rfl, y, rfl, ht H (Ex.refl H) _ _ fun H1 e1 => ?_⟩
  refine ⟨true, XO.eC, fun _ a na => ?_, fun z => by cases z⟩
  exact ⟨.ref a, rfl, k, hk, rfl, rfl, rfl, fun p H2 np e2 o2 => q p H2 (fresh_back e1 np) (e1.trans e2) o2⟩
theorem ok_l_told {f f_l_with_word f_l_with_row f_order_of f_number_of f_l_kinds : Addr} {fd fd_l_with_word fd_l_with_row fd_order_of fd_number_of fd_l_kinds : FuncData} (F : Fun K "_law_told" "_law_told" s_l_told f fd) (T : Bi mg) {cs : EC} (XF : ExF K mg cs) (c_l_with_word : CalX P w K mg base 3 "_law_with_word" ["_law_door", "_law_word_here"] (sp_l_with_word K cs) f_l_with_word fd_l_with_word) (c_l_with_row : CalX P w K mg base 4 "_law_with_row" ["_law_door", "_law_row"] (sp_l_with_row K cs) f_l_with_row fd_l_with_row) (c_order_of : CalX P w K mg base 2 "order_of" ["word", "number"] (sp_order_of K cs) f_order_of fd_order_of) (c_number_of : CalX P w K mg base 2 "number_of" ["word", "order"] (sp_number_of K cs) f_number_of fd_number_of) (c_l_kinds : CalP P w K mg base 1 "_law_kinds" ["_law_error"] (sp_l_kinds K cs) f_l_kinds fd_l_kinds) : FnOk P w K mg base CX0 5 f fd ["_law_ask", "_law_one", "_law_other"] (sp_l_told K cs f_l_with_word f_l_with_row f_order_of f_number_of) :=
  F.ok sc_l_told (fun vs H Q E h => by first | exact len_pr1 h | exact len_pr2 h | exact len_pr3 h | exact len_prF1 h | exact len_prF2 h | exact len_l_told h) (fun cdv A outer s H vs Q E hr h => ⟨t_l_told K cs f_l_with_word f_l_with_row f_order_of f_number_of, by exact
    ((pss_cons (ps_try_as (i := 3) (tb := fun W => (tDrop (tCallV 0 (ASk K cs f_l_with_word f_l_with_row f_order_of f_number_of) (WE W) (tCons (tVar 1) (tCons (tVar 2) tNil))))) (ts := fun a cls d => (tRet (tCallP (sp_l_kinds K cs) a cls d (tCons (tVar 3) tNil)))) (Wout := fun _ _ _ _ => False) rfl rfl sc_l_told.nd rfl rfl ⟨rfl, by decide, Or.inl XF.gS⟩ takes0 (fun W pn xe tk _ => (pss_one (ps_expr (pe_callV (i := 0) (asks_held (k := 4) c_l_with_word c_l_with_row c_order_of c_number_of) (hr.mono (by decide)) rfl (.inl rfl) (fun σ => passAt tk σ) (pa_cons (pv 1) (pa_cons (pv 2) pa_nil)))))) (fun a oe cls d pn hz hf => (pss_one (ps_ret (pe_callP (p := (a, oe)) c_l_kinds.ok hz hf (L2H.roomH_mark (hr.mono (by decide)) _) List.mem_cons_self (by rfl) c_l_kinds.g c_l_kinds.kp c_l_kinds.b (pa_cons (pv 3) pa_nil))))))
      (pss_one (ps_ret (pe_lst pa_nil))))), pure_l_told K cs XF f_l_with_word f_l_with_row f_order_of f_number_of vs H Q E h⟩)


/-! ### all are refused -/
theorem er_told {K : PySem.W.Frag} {cs : EC} {fw fr fo fn f : Addr} {σ : L2.St} {H : Hp} {tf tb tc : TE} {α β : Type} [Rep α] [Rep β] {a : α} {b : β} {k : Nat} (hv : Ev tf σ H (.ref f)) (ha : Er K tb σ H a) (hb : Er K tc σ H b) (hk : k < 4) (ht : ∀ H1 x y, Ex H H1 → Rep.rep K H1 x a → Rep.rep K H1 y b → Told K cs fw fr fo fn H1 f x y k) :
    Er K (tCall (sp_l_told K cs fw fr fo fn) [] E0 (tCons tf (tCons tb (tCons tc tNil)))) σ H (kindsL k) := fun H1 e Q q =>
  hv H1 e _ fun H0 e0 => ha H0 (e.trans e0) _ fun x H2 e2 rx => hb H2 ((e.trans e0).trans e2) _ fun y H3 e3 ry => ⟨f, x, y, k, rfl, hk, ht H3 x y (((e.trans e0).trans e2).trans e3) (Rep.mono e3 rx) ry, fun p H4 np e4 o => q _ H4 (((e0.trans e2).trans e3).trans e4) o.rep⟩
def sp_l_all (K : PySem.W.Frag) (cs : EC) (fw fr fo fn : Addr) : Sp := fun vs H Q E => ∃ f vd vt vu k, ∃ (doors : List Int) (things : List Th), vs = [.ref f, vd, vt, vu] ∧ Rep.rep K H vd doors ∧ Rep.rep K H vt things ∧ Rep.rep K H vu (kindsL k) ∧ k < 4 ∧ things.length ≤ 10000 ∧
  (∀ d ∈ doors, ∀ t ∈ things, ∀ H1 x y, Ex H H1 → Rep.rep K H1 x d → Rep.rep K H1 y t → Told K cs fw fr fo fn H1 f x y k) ∧ ∀ H', Ex H H' → Q (.bl true) H'
theorem len_l_all {K : PySem.W.Frag} {cs : EC} {fw fr fo fn : Addr} {vs : List V} {H : Hp} {Q : VK} {E : XK} (h : sp_l_all K cs fw fr fo fn vs H Q E) : vs.length = 4 := by obtain ⟨_, _, _, _, _, _, _, rfl, _⟩ := h; rfl
abbrev s_l_all : Stmt := topS 35
abbrev N_l_all : List Str := ["_law_ask", "_law_doors", "_law_things", "_law_due", "_law_door", "_law_thing"]
theorem sc_l_all : FnScope N_l_all ["_law_ask", "_law_doors", "_law_things", "_law_due"] (defScope s_l_all) := ⟨rfl, rfl, rfl, by decide +kernel, rfl, by decide +kernel, by decide +kernel⟩
def t_l_all (K : PySem.W.Frag) (cs : EC) (f_l_with_word f_l_with_row f_order_of f_number_of : Addr) : TS :=
  (tSeq (tFor (iList K (tVar 1)) (gName 4) (tIfS (tNot (tB (tCB (rAll K) (tCons (tLc (iList K (tVar 2)) (gName 5) tYes (tOp (rEqD K) (tCall (sp_l_told K cs f_l_with_word f_l_with_row f_order_of f_number_of) [] E0 (tCons (tVar 0) (tCons (tVar 4) (tCons (tVar 5) tNil)))) (tVar 3)) [5]) tNil)))) (tRet (tC (.bl false))) tNext))
    (tRet (tC (.bl true))))

theorem pure_l_all (K : PySem.W.Frag) (cs : EC) (fw fr fo fn : Addr) (vs : List V) (H : Hp) (Q : VK) (E : XK) (h : sp_l_all K cs fw fr fo fn vs H Q E) : t_l_all K cs fw fr fo fn { nx := fun _ H' => Q .non H', rt := Q } (start N_l_all vs) H := by
  obtain ⟨f, vd, vt, vu, k, doors, things, rfl, rd, rt, ru, hk, hl, ht, q⟩ := h
  refine Gx.here (K := K) (q_forL (i0 := 1) (B := H) (as := doors) (v0 := vd) (fun _ σ2 H2 => ∃ x4, σ2 = [some (.ref f), some vd, some vt, some vu, x4, none] ∧ Ex H H2) rfl rd (Ex.refl H) (fun H1 e => ⟨none, rfl, e⟩) (fun i σ H' ⟨_, _, e⟩ => e) ?_ ?_)
  · rintro i d v σ H' hd rv ⟨x4, rfl, e⟩
    have hmem : d ∈ doors := List.mem_of_getElem? hd
    obtain rfl : v = .int d := rv
    refine g_no ?_ fun H1 e1 => ⟨_, rfl, e.trans e1⟩
    have h1 := er_all (ErF.er (erf_lc (K := K) (j := 5) (as := things) (f := fun _ => true) (tl := tVar 2) (te := tOp (rEqD K) (tCall (sp_l_told K cs fw fr fo fn) [] E0 (tCons (tVar 0) (tCons (tVar 4) (tCons (tVar 5) tNil)))) (tVar 3)) (σ := [some (.ref f), some vd, some vt, some vu, some (.int d), none]) (H := H') (vs := [5]) (er_var rfl (up rt e)) (by omega) (fun _ => rfl) fun i a va H1 e1 ha ra => es_flat ((er_eqD (a := kindsL k) (b := kindsL k) (er_told (a := d) (b := a) (ev_var rfl) (er_var rfl rfl) (er_var rfl ra) hk fun H2 x y e2 rx ry => ht d hmem a (List.mem_of_getElem? ha) H2 x y ((e.trans e1).trans e2) rx ry) (er_var rfl (up ru (e.trans e1))) (fun _ _ => trivial) (fun _ _ => trivial) (by decide)).to (by simp))))
    have h2 : (things.map fun _ => true).all id = true := by simp
    rw [h2] at h1
    exact et_not' (a := true) (et_v h1)
  · rintro σ H' ⟨x4, rfl, e⟩
    exact g_ret (a := true) er_bl fun v H1 e1 r => by
      obtain rfl : v = .bl true := r
      exact q H1 (e.trans e1)
theorem ok_l_all {f f_l_told f_l_with_word f_l_with_row f_order_of f_number_of : Addr} {fd fd_l_told : FuncData} (F : Fun K "_law_all" "_law_all" s_l_all f fd) (T : Bi mg) {cs : EC} (XF : ExF K mg cs) (c_l_told : Cal P w K mg base 5 "_law_told" ["_law_ask", "_law_one", "_law_other"] (sp_l_told K cs f_l_with_word f_l_with_row f_order_of f_number_of) f_l_told fd_l_told) : FnOk P w K mg base CX0 6 f fd ["_law_ask", "_law_doors", "_law_things", "_law_due"] (sp_l_all K cs f_l_with_word f_l_with_row f_order_of f_number_of) :=
  F.ok sc_l_all (fun vs H Q E h => by first | exact len_pr1 h | exact len_pr2 h | exact len_pr3 h | exact len_prF1 h | exact len_prF2 h | exact len_l_all h) (fun cdv A outer s H vs Q E hr h => ⟨t_l_all K cs f_l_with_word f_l_with_row f_order_of f_number_of, by exact
    ((pss_cons (ps_for PassesOwn.never rfl (pi_list (pv 1)) (pg_name (i := 4) sc_l_all.nd rfl (.inr rfl))
      (pss_one (ps_if (pt_not (pt_val (pe_callB (cr_all rfl) (by rfl) T.all_ (by decide +kernel) (pa_cons (pe_lc (own := [("_law_thing", 5)]) (g := (gName 5)) (tt := tYes) rfl sc_l_all.nd (pi_list (pv 2)) (blkOk_by (own := [("_law_thing", 5)]) (N := N_l_all) (sc := defScope s_l_all) (by decide +kernel)) (fun _ _ _ _ _ => (pg_name (i := 5) sc_l_all.nd rfl (.inl rfl))) (fun _ _ _ _ _ => pts_nil) (fun _ _ _ _ _ => (pe_cmpR (op_eqD hr.units) (pe_call c_l_told.ok (hr.mono (by decide)) (by rfl) c_l_told.g c_l_told.kp c_l_told.b .nil pass0 (pa_cons (pv 0) (pa_cons (pv 4) (pa_cons (pv 5) pa_nil)))) (pv 3) (nomark _)))) pa_nil)))) (pss_one (ps_ret pe_bl))
      pss_nil)))
      (pss_one (ps_ret pe_bl)))), pure_l_all K cs f_l_with_word f_l_with_row f_order_of f_number_of vs H Q E h⟩)


/-! ### why an order is none of the word -/
theorem rowT_ints (ns : List Int) : rowT (thI ns) = some ns := by
  have h : (ns.map Th.int).all isWh = true := by
    rw [List.all_eq_true]
    intro t ht
    obtain ⟨i, _, rfl⟩ := List.mem_map.mp ht
    rfl
  have e : intsT (ns.map Th.int) = ns := by
    unfold intsT
    rw [List.map_map]
    exact List.map_id ns
  show (if (ns.map Th.int).all isWh then some (intsT (ns.map Th.int)) else none) = some ns
  rw [if_pos h, e]
theorem errO_bad {cs : EC} {w : List Bool} {t : Th} (h : ∀ ns, rowT t = some ns → ¬ (ord ns = upto (w.length + 1) ∧ rfR ns = w)) : errO cs (.str (tx w)) t = some cs.O := by
  have hg : goodW (.str (tx w)) = true := (okW_iff _).mpr (isW_tx w)
  unfold errO
  rw [if_pos hg]
  show (match rowT t with | none => some cs.O | some ns => if ord ns = upto ((unz (tx w)).length + 1) ∧ rfR ns = unz (tx w) then none else some cs.O) = _
  rw [unz_tx]
  cases hr : rowT t with
  | none => rfl
  | some ns => exact if_neg (h ns hr)
theorem mem_upto {n : Nat} {i : Int} : i ∈ upto n ↔ 0 ≤ i ∧ i < n := by
  unfold upto
  rw [List.mem_map]
  constructor
  · rintro ⟨k, hk, rfl⟩
    have := List.mem_range.mp hk
    omega
  · rintro ⟨h0, h1⟩
    exact ⟨i.toNat, List.mem_range.mpr (by omega), by omega⟩
theorem ord_mem {ns : List Int} {n : Nat} (h : ord ns = upto n) {i : Int} (hi : i ∈ ns) : 0 ≤ i ∧ i < n := mem_upto.mp (by rw [← h]; exact (ord_perm ns).mem_iff.mpr hi)
theorem ord_lenU {ns : List Int} {n : Nat} (h : ord ns = upto n) : ns.length = n := by rw [← (ord_perm ns).length_eq, h, upto_len]
theorem bad_mem {cs : EC} {w : List Bool} {l : List Th} {x : Th} (h : x ∈ l) (hx : ∀ i, x = .int i → i < 0 ∨ (w.length : Int) < i) : errO cs (.str (tx w)) (.lst l) = some cs.O := errO_bad fun ns hr ⟨h1, _⟩ => by
  have e : Th.lst l = .lst (ns.map Th.int) := rowT_some hr
  injection e with e
  rw [e] at h
  obtain ⟨i, hi, rfl⟩ := List.mem_map.mp h
  have h2 := ord_mem h1 hi
  rcases hx i rfl with h3 | h3 <;> omega
theorem bad_len {cs : EC} {w : List Bool} {l : List Int} (h : l.length ≠ w.length + 1) : errO cs (.str (tx w)) (thI l) = some cs.O := errO_bad fun ns hr ⟨h1, _⟩ => by
  rw [rowT_ints] at hr
  injection hr with hr
  subst hr
  exact h (ord_lenU h1)
theorem bad_dup {cs : EC} {w : List Bool} {l : List Int} (h : ¬ l.Nodup) : errO cs (.str (tx w)) (thI l) = some cs.O := errO_bad fun ns hr ⟨h1, _⟩ => by
  rw [rowT_ints] at hr
  injection hr with hr
  subst hr
  exact h (ord_nodup h1)
theorem bad_swap {cs : EC} {w : List Bool} {a b : Int} {r : List Int} (h : rfR (a :: b :: r) = w) (hn : a ≠ b) : errO cs (.str (tx w)) (thI (b :: a :: r)) = some cs.O := errO_bad fun ns hr ⟨_, h2⟩ => by
  rw [rowT_ints] at hr
  injection hr with hr
  subst hr
  have e : rfR (a :: b :: r) = rfR (b :: a :: r) := h.trans h2.symm
  have e' : decide (a < b) :: rfR (b :: r) = decide (b < a) :: rfR (a :: r) := e
  injection e' with e1 _
  have := decide_eq_decide.mp e1
  omega

/-! ### wrong orders -/
theorem has_R : ∀ {w : List Bool} {o : List Int}, hasW w o → rfR o = w
  | [], [x], _ => rfl
  | b :: w, x :: y :: r, h => by
    obtain ⟨h1, h2, h3⟩ := h
    have q2 := has_R h3
    show decide (x < y) :: rfR (y :: r) = b :: w
    rw [q2, h1]
theorem cut_init {α : Type} (as : List α) : cutL as none (some (-1)) = as.dropLast := by
  unfold cutL
  rw [HT.sIx_none, List.drop_zero, Nat.sub_zero, List.dropLast_eq_take]
  congr 1
  show (if (-1 : Int) < 0 then ((-1 : Int) + (as.length : Int)).toNat else min (-1 : Int).toNat as.length) = as.length - 1
  rw [if_pos (by decide)]
  omega
/-- refused as an order of w -/
def BadO (cs : EC) (w : List Bool) (t : Th) : Prop := szT 1000 t ∧ errO cs (.str (tx w)) t = some cs.O
theorem told_number {K : PySem.W.Frag} {cs : EC} {fw fr fo fn : Addr} {w : List Bool} {t : Th} {x y : V} {H : Hp} (rx : Rep.rep K H x (tx w)) (ry : Rep.rep K H y t) (hw : w.length ≤ 100) (hb : BadO cs w t) : Told K cs fw fr fo fn H fn x y 2 :=
  ⟨sp_number_of K cs, Or.inr (Or.inr (Or.inr ⟨rfl, rfl⟩)), fun H1 e Q E hE => ⟨x, y, Th.str (tx w), t, rfl, th_str.mpr (Rep.mono e rx), Rep.mono e ry, ⟨(show (tx w).length ≤ 1000 by rw [tx_len]; omega), hb.1, by rw [hb.2]; simp⟩, (fun z => by rw [hb.2] at z; cases z), fun C hC H' e' => by rw [hb.2] at hC; cases hC; exact hE H' e'⟩⟩
section
variable {cs : EC} {w : List Bool}
theorem badO_mem {l : List Th} {x : Th} (hl : l.length ≤ 1000) (h : x ∈ l) (hx : ∀ i, x = .int i → i < 0 ∨ (w.length : Int) < i) : BadO cs w (.lst l) := ⟨hl, bad_mem h hx⟩
theorem badO_memI {l : List Int} {x : Int} (hl : l.length ≤ 1000) (h : x ∈ l) (hx : x < 0 ∨ (w.length : Int) < x) : BadO cs w (thI l) := ⟨by show (l.map Th.int).length ≤ 1000; rw [List.length_map]; exact hl, bad_mem (x := .int x) (List.mem_map_of_mem h) (fun i e => by injection e with e; subst e; exact hx)⟩
theorem badO_len {l : List Int} (hl : l.length ≤ 1000) (h : l.length ≠ w.length + 1) : BadO cs w (thI l) := ⟨by show (l.map Th.int).length ≤ 1000; rw [List.length_map]; exact hl, bad_len h⟩
theorem badO_dup {l : List Int} (hl : l.length ≤ 1000) (h : ¬ l.Nodup) : BadO cs w (thI l) := ⟨by show (l.map Th.int).length ≤ 1000; rw [List.length_map]; exact hl, bad_dup h⟩
theorem badO_no {t : Th} (hz : szT 1000 t) (h : rowT t = none) : BadO cs w t := ⟨hz, errO_bad fun ns hr => by rw [h] at hr; cases hr⟩
end
def sp_l_orders_right (K : PySem.W.Frag) (cs : EC) (fw fr fo fn : Addr) : Sp := fun vs H Q E => ∃ w vo vu far o, vs = [.str (tx w), vo, vu, .int far] ∧ w.length ≤ 64 ∧ Rep.rep K H vo (Lo.mk o) ∧ IsO w o ∧ Rep.rep K H vu (kindsL 2) ∧ 0 ≤ far ∧ ∀ H', Ex H H' → Q (.bl true) H'
theorem len_l_orders_right {K : PySem.W.Frag} {cs : EC} {fw fr fo fn : Addr} {vs : List V} {H : Hp} {Q : VK} {E : XK} (h : sp_l_orders_right K cs fw fr fo fn vs H Q E) : vs.length = 4 := by obtain ⟨_, _, _, _, _, rfl, _⟩ := h; rfl
abbrev s_l_orders_right : Stmt := topS 36
abbrev N_l_orders_right : List Str := ["_law_word_here", "_law_order", "_law_due", "_law_far_here", "_law_many", "_law_kept", "_law_wrong", "_law_at", "_law_one", "_law_thing"]
theorem sc_l_orders_right : FnScope N_l_orders_right ["_law_word_here", "_law_order", "_law_due", "_law_far_here"] (defScope s_l_orders_right) := ⟨rfl, rfl, rfl, by decide +kernel, rfl, by decide +kernel, by decide +kernel⟩
def t_l_orders_right (K : PySem.W.Frag) (cs : EC) (f_l_with_word f_l_with_row f_order_of f_number_of : Addr) : TS :=
  (tSeq (tPar 4 5 (tCons (tCB rLenT (tCons (tVar 0) tNil)) (tCons (tCB (rLstL K) (tCons (tVar 1) tNil)) tNil)))
    (tSeq (tAsg (tLst (tCons (tC .non) (tCons (tCB (rTupOf K) (tCons (tVar 1) tNil)) (tCons (tC (.str ("0" : Str))) (tCons tDNewK (tCons (tC (.int 0)) (tCons (tOp rCat (tVar 1) (tLst (tCons (tOp rAddI (tVar 4) (tC (.int 1))) tNil))) (tCons (tSl (rSlL K) (tVar 1) (tPart (tC (.int 1))) tNoPart) (tCons (tOp rRep (tLst (tCons (tC .non) tNil)) (tOp rAddI (tVar 4) (tC (.int 1)))) tNil))))))))) (gName 6))
    (tSeq (tAsg (tOp rCat (tVar 6) (tLst (tCons (tOp rCat (tSl (rSlL K) (tVar 1) tNoPart (tPart (tUn rNegI (tC (.int 1))))) (tLst (tCons (tUn rNegI (tC (.int 1))) tNil))) (tCons (tOp rCat (tSl (rSlL K) (tVar 1) tNoPart (tPart (tUn rNegI (tC (.int 1))))) (tLst (tCons (tC (.str ("0" : Str))) tNil))) (tCons (tOp rCat (tSl (rSlL K) (tVar 1) tNoPart (tPart (tUn rNegI (tC (.int 1))))) (tLst (tCons (tOp rAddI (tOp rAddI (tVar 4) (tC (.int 1))) (tVar 3)) tNil))) (tCons (tOp rCat (tLst (tCons (tOp (rIxL K) (tVar 1) (tC (.int 0))) tNil)) (tVar 1)) tNil)))))) (gName 6))
    (tCut (tIfS (tTest (tOp rGtI (tVar 4) (tC (.int 0)))) (tSeq (tAsg (tOp rCat (tVar 6) (tLst (tCons (tOp rCat (tSl (rSlL K) (tVar 1) tNoPart (tPart (tUn rNegI (tC (.int 1))))) (tSl (rSlL K) (tVar 1) tNoPart (tPart (tC (.int 1))))) (tCons (tOp rCat (tOp rCat (tSl (rSlL K) (tVar 1) (tPart (tC (.int 1))) (tPart (tC (.int 2)))) (tSl (rSlL K) (tVar 1) tNoPart (tPart (tC (.int 1))))) (tSl (rSlL K) (tVar 1) (tPart (tC (.int 2))) tNoPart)) (tCons (tOp rCat (tSl (rSlL K) (tVar 1) (tPart (tC (.int 1))) tNoPart) (tSl (rSlL K) (tVar 1) (tPart (tC (.int 1))) (tPart (tC (.int 2))))) tNil))))) (gName 6))
    (tDrop (tBM K "list" rAppend (tVar 6) (tCons (tLc (iList K (tVar 1)) (gName 8) tYes (tIf (tTest (tOp rEqI (tVar 8) (tC (.int 1)))) (tC (.bl true)) (tVar 8)) [8]) tNil)))) (tAsg (tOp rCat (tVar 6) (tLst (tCons (tLst (tCons (tC (.bl false)) tNil)) (tCons (tLst (tCons (tC (.int 1)) tNil)) tNil)))) (gName 6)))
    (tSeq (tFor (iRng3 (tCons (tC (.int 0)) (tCons (tVar 4) (tCons (tOp rAddI (tC (.int 1)) (tOp rDivI (tVar 4) (tC (.int 6)))) tNil)))) (gName 7) (tDrop (tBM K "list" rAppend (tVar 6) (tCons (tOp rCat (tOp rCat (tSl (rSlL K) (tVar 1) tNoPart (tPart (tVar 7))) (tLst (tCons (tOp (rIxT K) (tTup (tCons (tC .non) (tCons (tC (.str ("1" : Str))) (tCons (tOp rAddI (tVar 4) (tC (.int 1))) (tCons (tOp rSubI (tUn rNegI (tC (.int 1))) (tVar 3)) tNil))))) (tOp rModI (tVar 7) (tC (.int 4)))) tNil))) (tSl (rSlL K) (tVar 1) (tPart (tOp rAddI (tVar 7) (tC (.int 1)))) tNoPart)) tNil))))
    (tSeq (tIfS (tNot (tB (tCB (rAll K) (tCons (tLc (iList K (tVar 6)) (gName 9) tYes (tOp (rEqD K) (tCall (sp_l_told K cs f_l_with_word f_l_with_row f_order_of f_number_of) [] E0 (tCons (tC (.ref f_number_of)) (tCons (tVar 0) (tCons (tVar 9) tNil)))) (tVar 2)) [9]) tNil)))) (tRet (tC (.bl false))) tNext)
    (tRet (tAndV (tOp (rEqD K) (tCall (sp_l_told K cs f_l_with_word f_l_with_row f_order_of f_number_of) [] E0 (tCons (tC (.ref f_number_of)) (tCons (tOp rAddT (tVar 0) (tC (.str ("u" : Str)))) (tCons (tVar 1) tNil)))) (tVar 2)) (tOp (rEqD K) (tVar 1) (tVar 5))))))))))

theorem pure_l_orders_right (K : PySem.W.Frag) (cs : EC) (fw fr fo fn : Addr) (vs : List V) (H : Hp) (Q : VK) (E : XK) (h : sp_l_orders_right K cs fw fr fo fn vs H Q E) : t_l_orders_right K cs fw fr fo fn { nx := fun _ H' => Q .non H', rt := Q } (start N_l_orders_right vs) H := by
  obtain ⟨w, vo, vu, far, o, rfl, hw, ro, hO, ru, hfar, q⟩ := h
  have hol : o.length = w.length + 1 := hasW_len hO.2
  have hnd : o.Nodup := hO.1.nodup_iff.mpr (ris_nodup (upto_ris _))
  have hrf := has_R hO.2
  obtain ⟨a0, r0, eo⟩ : ∃ a r, o = a :: r := by
    cases o with
    | nil => simp at hol
    | cons a r => exact ⟨a, r, rfl⟩
  have oI : ∀ {σ : L2.St} {H' : Hp}, Ex H H' → σ[1]? = some (some vo) → Er K (tVar 1) σ H' (Lo.mk o) := fun e h => er_var h (Rep.mono e ro)
  have oL : ∀ {σ : L2.St} {H' : Hp}, Ex H H' → σ[1]? = some (some vo) → Er K (tVar 1) σ H' o := fun e h => er_lo (oI e h)
  have oInit : ∀ {σ : L2.St} {H' : Hp}, Ex H H' → σ[1]? = some (some vo) → ErF K (tSl (rSlL K) (tVar 1) tNoPart (tPart (tUn rNegI (tC (.int 1))))) σ H' o.dropLast := fun e h => (erf_sl (oL e h) eo_no (eo_at (er_neg er_int))).to (cut_init o)
  have oTail : ∀ {σ : L2.St} {H' : Hp}, Ex H H' → σ[1]? = some (some vo) → ErF K (tSl (rSlL K) (tVar 1) (tPart (tC (.int 1))) tNoPart) σ H' (o.drop 1) := fun e h => (erf_sl (oL e h) (eo_at er_int) eo_no).to (cut_drop o 1)
  have hdl : o.dropLast.length = w.length := by rw [List.length_dropLast, hol]; omega
  refine Gx.here (K := K) (q_parF (a := (w.length : Int)) (bs := o) ((er_lenT (er_var rfl rfl) (by rw [tx_len]; omega)).to (by rw [tx_len])) (erf_list (oL (Ex.refl H) rfl)) fun vm pk H1 e1 npk rm ok => ?_)
  obtain rfl : vm = .int (w.length : Int) := rm
  refine q_asgP (P := BadO cs w) (n := 8) (eap_cons (et_non er_non) (badO_no trivial rfl) (eap_cons (et_tupOf (oL e1 rfl)) (badO_no trivial rfl) (eap_cons (et_str er_str) (badO_no (show Str.length _ ≤ 1000 by decide) rfl) (eap_cons et_dct (badO_no trivial rfl) (eap_cons (et_int er_int) (badO_no trivial rfl)
    (eap_cons (et_ints (ErF.er (erf_catI (oI e1 rfl) (ErF.lo (erf_lst (eal_cons (er_add (er_var rfl rfl) er_int) eal_nil) (by simp))) (by rw [hol]; show _ + 1 ≤ _; omega)))) (badO_len (by simp; omega) (by simp; omega))
    (eap_cons (et_ints (ErF.er (oTail e1 rfl))) (badO_len (by simp; omega) (by simp; omega))
    (eap_cons (et_lst (ErF.er (erf_rep1 (a := Th.non) (erf_lst (eal_cons (et_non er_non) eal_nil) (by decide)) (er_add (er_var rfl rfl) er_int) (by omega) (by omega)))) (badO_mem (x := .non) (by rw [List.length_replicate]; omega) (List.mem_replicate.mpr ⟨by omega, rfl⟩) (fun i z => by cases z)) eap_nil)))))))) (by decide) fun p1 H2 np1 e2 o1 => ?_
  have e12 := e1.trans e2
  refine q_catP (m := 4) rfl o1 (eap_cons (et_ints (ErF.er (erf_catI (ErF.lo (oInit e12 rfl)) (ErF.lo (erf_lst (eal_cons (er_neg er_int) eal_nil) (by decide))) (by rw [hdl]; show _ + 1 ≤ _; omega)))) (badO_memI (x := -1) (by simp; omega) (by simp) (by omega))
    (eap_cons (et_lst (ErF.er (erf_cat (ErF.thI (oInit e12 rfl)) (erf_lst (eal_cons (et_str er_str) eal_nil) (by decide)) (by rw [List.length_map, hdl]; show _ + 1 ≤ _; omega)))) (badO_mem (x := .str _) (by simp; omega) (List.mem_append_right _ List.mem_cons_self) (fun i z => by cases z))
    (eap_cons (et_ints (ErF.er (erf_catI (ErF.lo (oInit e12 rfl)) (ErF.lo (erf_lst (eal_cons (er_add (er_add (er_var rfl rfl) er_int) (er_var rfl rfl)) eal_nil) (by simp))) (by rw [hdl]; show _ + 1 ≤ _; omega)))) (badO_memI (x := (w.length : Int) + 1 + far) (by simp; omega) (by simp) (by omega))
    (eap_cons (et_ints (ErF.er (erf_catI (ErF.lo (erf_lst (eal_cons (er_ixL (i := 0) (a := a0) (oL e12 rfl) er_int (by rw [eo]; exact atI_nat' (j := 0) rfl)) eal_nil) (by simp))) (oI e12 rfl) (by rw [hol]; show 1 + _ ≤ _; omega)))) (badO_len (by simp; omega) (by simp; omega)) eap_nil)))) (by decide) fun p2 H3 np2 e3 o2 => ?_
  have e13 := e12.trans e3
  refine g_cut (fun σ' H' => ∃ p6, σ' = [some (.str (tx w)), some vo, some vu, some (.int far), some (.int (w.length : Int)), some (.ref pk), some (.ref p6), none, none, none] ∧ Ex H3 H' ∧ H3 p6 = none ∧ OwnP K H' p6 (BadO cs w) 16) (g_if (b := decide ((0 : Int) < (w.length : Int))) (et_e (er_gt (er_var rfl rfl) er_int)) (fun hb => ?_) fun hb => ?_) ?_
  · have hb' : 0 < w.length := by simpa using hb
    obtain ⟨b0, r1, rfl⟩ : ∃ b r, r0 = b :: r := by
      cases r0 with
      | nil =>
        have h1 : 1 = w.length + 1 := by rw [eo] at hol; exact hol
        omega
      | cons b r => exact ⟨b, r, rfl⟩
    have hne : a0 ≠ b0 := by
      rw [eo] at hnd
      exact fun z => (List.nodup_cons.mp hnd).1 (by rw [z]; exact List.mem_cons_self)
    have sA : ∀ {σ : L2.St} {H' : Hp}, Ex H H' → σ[1]? = some (some vo) → ErF K (tSl (rSlL K) (tVar 1) tNoPart (tPart (tC (.int 1)))) σ H' (o.take 1) := fun e h => (erf_sl (oL e h) eo_no (eo_at er_int)).to (cut_take o 1)
    have sB : ∀ {σ : L2.St} {H' : Hp}, Ex H H' → σ[1]? = some (some vo) → ErF K (tSl (rSlL K) (tVar 1) (tPart (tC (.int 1))) (tPart (tC (.int 2)))) σ H' ((o.drop 1).take 1) := fun e h => (erf_sl (oL e h) (eo_at er_int) (eo_at er_int)).to (cut_any o 1 2 (by omega) (by omega))
    have sC : ∀ {σ : L2.St} {H' : Hp}, Ex H H' → σ[1]? = some (some vo) → ErF K (tSl (rSlL K) (tVar 1) (tPart (tC (.int 2))) tNoPart) σ H' (o.drop 2) := fun e h => (erf_sl (oL e h) (eo_at er_int) eo_no).to (cut_drop o 2)
    have h1o : (1 : Int) ∈ o := (hO.1.mem_iff).mpr (mem_upto.mpr ⟨by decide, by omega⟩)
    refine q_catP (m := 3) rfl o2
      (eap_cons (et_ints (ErF.er (erf_catI (ErF.lo (oInit e13 rfl)) (ErF.lo (sA e13 rfl)) (by simp; omega)))) (badO_dup (by simp; omega) (by
        rw [eo]
        show ¬ ((a0 :: (b0 :: r1).dropLast) ++ [a0]).Nodup
        intro hn
        exact (List.nodup_cons.mp hn).1 (List.mem_append_right _ List.mem_cons_self)))
      (eap_cons (et_ints (ErF.er (erf_catI (ErF.lo (erf_catI (ErF.lo (sB e13 rfl)) (ErF.lo (sA e13 rfl)) (by simp; omega))) (ErF.lo (sC e13 rfl)) (by simp; omega)))) ⟨by show ((((o.drop 1).take 1 ++ o.take 1) ++ o.drop 2).map Th.int).length ≤ 1000; simp; omega, by
        rw [eo]
        show errO cs (.str (tx w)) (thI (b0 :: a0 :: r1)) = some cs.O
        exact bad_swap (by rw [← eo]; exact hrf) hne⟩
      (eap_cons (et_ints (ErF.er (erf_catI (ErF.lo (oTail e13 rfl)) (ErF.lo (sB e13 rfl)) (by simp; omega)))) (badO_dup (by simp; omega) (by
        rw [eo]
        show ¬ ((b0 :: r1) ++ [b0]).Nodup
        intro hn
        exact (List.nodup_cons.mp hn).1 (List.mem_append_right _ List.mem_cons_self))) eap_nil))) (by decide) fun p6 H4 np6 e4 o6 => ?_
    refine g_appP (B := H3) (x := .lst (o.map fun i => if (i == (1 : Int)) = true then Th.bl true else Th.int i)) o6 rfl e4 np6 (es_scl ?_ (erf_lc (as := o) (f := fun i => if (i == (1 : Int)) = true then Th.bl true else Th.int i) (oL e13 rfl) (by omega) (fun _ => rfl) fun k a va H1 e1 ha ra => es_sc ?_ (er_if (b := a == (1 : Int)) (et_e (er_eqi (er_var rfl ra) er_int)) (fun _ => et_bl er_bl) fun _ => et_int (er_var rfl ra)))) (badO_mem (x := .bl true) (by simp; omega) (List.mem_map.mpr ⟨1, h1o, rfl⟩) (fun i z => by cases z)) (by decide) fun H5 eb o7 => fun H6 e6 => ⟨p6, rfl, (eb.ex e4 np6).trans e6, np6, o7.up e6⟩
    · rw [List.all_eq_true]
      intro t ht
      obtain ⟨i, _, rfl⟩ := List.mem_map.mp ht
      cases (i == (1 : Int)) <;> rfl
    · cases (a == (1 : Int)) <;> rfl
  · have hb' : w.length = 0 := by
      have : ¬ (0 : Int) < (w.length : Int) := by simpa using hb
      omega
    refine g_catP (m := 2) rfl o2 (eap_cons (et_lst (ErF.er (erf_lst (eal_cons (et_bl er_bl) eal_nil) (by decide)))) (badO_mem (x := .bl false) (by decide) List.mem_cons_self (fun i z => by cases z))
      (eap_cons (et_ints (ErF.er (erf_lst (eal_cons er_int eal_nil) (by decide)))) (badO_memI (x := 1) (by decide) List.mem_cons_self (by omega)) eap_nil)) (by decide) fun p6 H4 np6 e4 o6 => fun H6 e6 => ⟨p6, rfl, e4.trans e6, np6, (o6.up e6).le (by decide)⟩
  rintro σ' H4 ⟨p6, rfl, e4, np6, o6⟩
  obtain ⟨n, hn, hrg, hst⟩ := stepN (m := w.length) hw
  refine q_forC (lo := 0) (c := 1 + (w.length : Int) / 6) (n := n) (rng3 er_int (er_var rfl rfl) (er_add er_int (er_div (er_var rfl rfl) er_int ⟨by decide, by decide⟩)) hrg) (fun i σ2 H' => ∃ x7, σ2 = [some (.str (tx w)), some vo, some vu, some (.int far), some (.int (w.length : Int)), some (.ref pk), some (.ref p6), x7, none, none] ∧ Ex H3 H' ∧ OwnP K H' p6 (BadO cs w) (16 + i)) (fun H5 e5 => ⟨none, rfl, e4.trans e5, o6.up e5⟩) ?_ ?_
  · rintro i σ2 H' hi ⟨x7, rfl, e7, o7⟩
    obtain ⟨at_, ha, hat⟩ := hst i hi
    rw [ha]
    obtain ⟨t, ht, hts, htb⟩ : ∃ t, atI [Th.non, Th.str "1", Th.int ((w.length : Int) + 1), Th.int (-1 - far)] ((at_ : Int) % 4) = some t ∧ scal t = true ∧ ∀ i, t = .int i → i < 0 ∨ (w.length : Int) < i := by
      have h4 : (at_ : Int) % 4 = 0 ∨ (at_ : Int) % 4 = 1 ∨ (at_ : Int) % 4 = 2 ∨ (at_ : Int) % 4 = 3 := by omega
      rcases h4 with h | h | h | h <;> rw [h]
      · exact ⟨_, rfl, rfl, fun i z => by cases z⟩
      · exact ⟨_, rfl, rfl, fun i z => by cases z⟩
      · exact ⟨_, rfl, rfl, fun i z => by injection z with z; omega⟩
      · exact ⟨_, rfl, rfl, fun i z => by injection z with z; omega⟩
    have hsI : ∀ l : List Int, (l.map Th.int).all scal = true := fun l => by
      rw [List.all_eq_true]
      intro t ht
      obtain ⟨i, _, rfl⟩ := List.mem_map.mp ht
      rfl
    refine g_appP (B := H3) (x := .lst (((o.take at_).map Th.int ++ [t]) ++ (o.drop (at_ + 1)).map Th.int)) o7 rfl e7 np6 (es_scl ?_ (erf_cat (erf_cat (ErF.thI ((erf_sl (oL e13 rfl) eo_no (eo_at (er_var rfl rfl))).to (cut_take o at_))) (erf_lst (eal_cons (er_tupIx (as := [Th.non, Th.str "1", Th.int ((w.length : Int) + 1), Th.int (-1 - far)]) (eal_cons (et_non er_non) (eal_cons (et_str er_str) (eal_cons (et_int (er_add (er_var rfl rfl) er_int)) (eal_cons (et_int (er_sub (er_neg er_int) (er_var rfl rfl))) eal_nil)))) (by simp) (er_mod (er_var rfl rfl) er_int (by decide)) ht) eal_nil) (by simp)) (by simp; omega)) (ErF.thI ((erf_sl (oL e13 rfl) (eo_at ((er_add (er_var rfl rfl) er_int).to (b := ((at_ + 1 : Nat) : Int)) (by omega))) eo_no).to (cut_drop o (at_ + 1)))) (by simp; omega))) (badO_mem (x := t) (by simp; omega) (List.mem_append_left _ (List.mem_append_right _ List.mem_cons_self)) htb) (by omega) fun H8 eb o8 => fun H9 e9 => ⟨_, rfl, (eb.ex e7 np6).trans e9, o8.up e9⟩
    rw [List.all_append, List.all_append, hsI, hsI]
    simp [hts]
  · rintro σ2 H' ⟨x7, rfl, e7, o7⟩
    have e17 := e13.trans e7
    obtain ⟨bs, ob, hbs, hlb⟩ := o7
    have h1 := er_all (ErF.er (erf_lc (K := K) (j := 9) (as := bs) (f := fun _ => true) (tl := tVar 6) (te := tOp (rEqD K) (tCall (sp_l_told K cs fw fr fo fn) [] E0 (tCons (tC (.ref fn)) (tCons (tVar 0) (tCons (tVar 9) tNil)))) (tVar 2)) (σ := [some (.str (tx w)), some vo, some vu, some (.int far), some (.int (w.length : Int)), some (.ref pk), some (.ref p6), x7, none, none]) (H := H') (vs := [9]) (er_var rfl ob.rep) (by omega) (fun _ => rfl) fun i a va H8 e8 ha ra => es_flat ((er_eqD (a := kindsL 2) (b := kindsL 2) (er_told (a := tx w) (b := a) (k := 2) Evl.ev_c (er_var rfl rfl) (er_var rfl ra) (by decide) fun H9 x y e9 rx ry => told_number rx ry (by omega) (hbs a (List.mem_of_getElem? ha))) (er_var rfl (Rep.mono (e17.trans e8) ru)) (fun _ _ => trivial) (fun _ _ => trivial) (by decide)).to (by simp))))
    have h2 : (bs.map fun _ => true).all id = true := by simp
    rw [h2] at h1
    refine q_no (et_not' (a := true) (et_v h1)) ?_
    have hk : Ex H1 H' := (e2.trans e3).trans e7
    refine g_ret (a := true && true) (er_and (a := true) (b := true)
      ((er_eqD (a := kindsL 2) (b := kindsL 2) (er_told (a := tx (w ++ [true])) (b := thI o) (k := 2) Evl.ev_c ((er_addT (er_var rfl rfl) (er_lit tx_u) (by rw [tx_len, tx_len]; show w.length + 1 ≤ _; omega)).to (tx_app _ _)) (et_ints (oL e17 rfl)) (by decide) fun H9 x y e9 rx ry => told_number rx ry (by simp; omega) (badO_len (by omega) (by simp; omega))) (er_var rfl (Rep.mono e17 ru)) (fun _ _ => trivial) (fun _ _ => trivial) (by decide)).to (by simp))
      fun _ => (er_eqD (a := o) (b := o) (oL e17 rfl) (er_var rfl (Rep.mono hk ok.rep)) (fun _ _ => trivial) (fun _ _ => trivial) (by decide)).to (by simp)) fun v H8 e8 r => ?_
    obtain rfl : v = .bl true := r
    exact q H8 (e17.trans e8)
theorem ok_l_orders_right {f f_number_of f_l_told f_l_with_word f_l_with_row f_order_of : Addr} {fd fd_number_of fd_l_told : FuncData} (F : Fun K "_law_orders_right" "_law_orders_right" s_l_orders_right f fd) (T : Bi mg) {cs : EC} (XF : ExF K mg cs) (c_number_of : CalX P w K mg base 2 "number_of" ["word", "order"] (sp_number_of K cs) f_number_of fd_number_of) (c_l_told : Cal P w K mg base 5 "_law_told" ["_law_ask", "_law_one", "_law_other"] (sp_l_told K cs f_l_with_word f_l_with_row f_order_of f_number_of) f_l_told fd_l_told) : FnOk P w K mg base CX0 6 f fd ["_law_word_here", "_law_order", "_law_due", "_law_far_here"] (sp_l_orders_right K cs f_l_with_word f_l_with_row f_order_of f_number_of) :=
  F.ok sc_l_orders_right (fun vs H Q E h => by first | exact len_pr1 h | exact len_pr2 h | exact len_pr3 h | exact len_prF1 h | exact len_prF2 h | exact len_l_orders_right h) (fun cdv A outer s H vs Q E hr h => ⟨t_l_orders_right K cs f_l_with_word f_l_with_row f_order_of f_number_of, by exact
    ((pss_cons (ps_par (by rfl) sc_l_orders_right.nd rfl rfl (by decide) rfl rfl (pa_cons (pe_callB cLenT (by rfl) T.len_ (by decide +kernel) (pa_cons (pv 0) pa_nil)) (pa_cons (pe_callTy cLstL (by rfl) T.list_ (by decide +kernel) (pa_cons (pv 1) pa_nil)) pa_nil)) (by rfl))
      (pss_cons (ps_set (i := 6) sc_l_orders_right.nd rfl (.inl rfl) (pe_lst (pa_cons pe_non (pa_cons (pe_callTy cTupOf (by rfl) T.tuple_ (by decide +kernel) (pa_cons (pv 1) pa_nil)) (pa_cons pe_str (pa_cons pe_dnewK (pa_cons pe_int (pa_cons (pe_op op_cat (pv 1) (pe_lst (pa_cons (pe_op oAddI (pv 4) pe_int) pa_nil))) (pa_cons (pe_slice sl_list (pv 1) (po_some pe_int) po_none) (pa_cons (pe_op op_rep (pe_lst (pa_cons pe_non pa_nil)) (pe_op oAddI (pv 4) pe_int)) pa_nil))))))))))
      (pss_cons (ps_set (i := 6) sc_l_orders_right.nd rfl (.inl rfl) (pe_op op_cat (pv 6) (pe_lst (pa_cons (pe_op op_cat (pe_slice sl_list (pv 1) po_none (po_some (pe_un oNegI pe_int))) (pe_lst (pa_cons (pe_un oNegI pe_int) pa_nil))) (pa_cons (pe_op op_cat (pe_slice sl_list (pv 1) po_none (po_some (pe_un oNegI pe_int))) (pe_lst (pa_cons pe_str pa_nil))) (pa_cons (pe_op op_cat (pe_slice sl_list (pv 1) po_none (po_some (pe_un oNegI pe_int))) (pe_lst (pa_cons (pe_op oAddI (pe_op oAddI (pv 4) pe_int) (pv 3)) pa_nil))) (pa_cons (pe_op op_cat (pe_lst (pa_cons (pe_ix ix_list (pv 1) pe_int (fun _ _ => rfl)) pa_nil)) (pv 1)) pa_nil)))))))
      (pss_cut (ps_if (pt_cmpR oGtI (pv 4) pe_int (nomark _)) (pss_cons (ps_set (i := 6) sc_l_orders_right.nd rfl (.inl rfl) (pe_op op_cat (pv 6) (pe_lst (pa_cons (pe_op op_cat (pe_slice sl_list (pv 1) po_none (po_some (pe_un oNegI pe_int))) (pe_slice sl_list (pv 1) po_none (po_some pe_int))) (pa_cons (pe_op op_cat (pe_op op_cat (pe_slice sl_list (pv 1) (po_some pe_int) (po_some pe_int)) (pe_slice sl_list (pv 1) po_none (po_some pe_int))) (pe_slice sl_list (pv 1) (po_some pe_int) po_none)) (pa_cons (pe_op op_cat (pe_slice sl_list (pv 1) (po_some pe_int) po_none) (pe_slice sl_list (pv 1) (po_some pe_int) (po_some pe_int))) pa_nil))))))
      (pss_one (ps_expr (pe_bm PySem.F.plainAttrs_list PySem.F.slot_list_append PySem.F.type_list_append mt_append (pv 6) (pa_cons (pe_lc (own := [("_law_one", 8)]) (g := (gName 8)) (tt := tYes) rfl sc_l_orders_right.nd (pi_list (pv 1)) (blkOk_by (own := [("_law_one", 8)]) (N := N_l_orders_right) (sc := defScope s_l_orders_right) (by decide +kernel)) (fun _ _ _ _ _ => (pg_name (i := 8) sc_l_orders_right.nd rfl (.inl rfl))) (fun _ _ _ _ _ => pts_nil) (fun _ _ _ _ _ => (pe_ifExp (pt_cmpR oEqI (pv 8) pe_int (nomark _)) pe_bl (pv 8)))) pa_nil)))))
      (pss_one (ps_set (i := 6) sc_l_orders_right.nd rfl (.inl rfl) (pe_op op_cat (pv 6) (pe_lst (pa_cons (pe_lst (pa_cons pe_bl pa_nil)) (pa_cons (pe_lst (pa_cons pe_int pa_nil)) pa_nil)))))))
      (pss_cons (ps_for PassesOwn.never rfl (pi_range3 (by rfl) T.range_ (pa_cons pe_int (pa_cons (pv 4) (pa_cons (pe_op oAddI pe_int (pe_op oDivI (pv 4) pe_int)) pa_nil)))) (pg_name (i := 7) sc_l_orders_right.nd rfl (.inl rfl))
      (pss_one (ps_expr (pe_bm PySem.F.plainAttrs_list PySem.F.slot_list_append PySem.F.type_list_append mt_append (pv 6) (pa_cons (pe_op op_cat (pe_op op_cat (pe_slice sl_list (pv 1) po_none (po_some (pv 7))) (pe_lst (pa_cons (pe_ix ix_tup (pe_tup (pa_cons pe_non (pa_cons pe_str (pa_cons (pe_op oAddI (pv 4) pe_int) (pa_cons (pe_op oSubI (pe_un oNegI pe_int) (pv 3)) pa_nil))))) (pe_op oModI (pv 7) pe_int) (fun _ _ => rfl)) pa_nil))) (pe_slice sl_list (pv 1) (po_some (pe_op oAddI (pv 7) pe_int)) po_none)) pa_nil)))))
      (pss_cons (ps_if (pt_not (pt_val (pe_callB (cr_all rfl) (by rfl) T.all_ (by decide +kernel) (pa_cons (pe_lc (own := [("_law_thing", 9)]) (g := (gName 9)) (tt := tYes) rfl sc_l_orders_right.nd (pi_list (pv 6)) (blkOk_by (own := [("_law_thing", 9)]) (N := N_l_orders_right) (sc := defScope s_l_orders_right) (by decide +kernel)) (fun _ _ _ _ _ => (pg_name (i := 9) sc_l_orders_right.nd rfl (.inl rfl))) (fun _ _ _ _ _ => pts_nil) (fun _ _ _ _ _ => (pe_cmpR (op_eqD hr.units) (pe_call c_l_told.ok (hr.mono (by decide)) (by rfl) c_l_told.g c_l_told.kp c_l_told.b .nil pass0 (pa_cons (pe_glob (v := .ref f_number_of) (by rfl) c_number_of.g rfl) (pa_cons (pv 0) (pa_cons (pv 9) pa_nil)))) (pv 2) (nomark _)))) pa_nil)))) (pss_one (ps_ret pe_bl))
      pss_nil)
      (pss_one (ps_ret (pe_and (pe_cmpR (op_eqD hr.units) (pe_call c_l_told.ok (hr.mono (by decide)) (by rfl) c_l_told.g c_l_told.kp c_l_told.b .nil pass0 (pa_cons (pe_glob (v := .ref f_number_of) (by rfl) c_number_of.g rfl) (pa_cons (pe_op oAddT (pv 0) pe_str) (pa_cons (pv 1) pa_nil)))) (pv 2) (nomark _)) (pe_one (pe_cmpR (op_eqD hr.units) (pv 1) (pv 5) (nomark _))))))))))))), pure_l_orders_right K cs f_l_with_word f_l_with_row f_order_of f_number_of vs H Q E h⟩)


/-! ### what are no rows -/
def BadR (t : Th) : Prop := szT 1000 t ∧ rowT t = none
theorem told_row {K : PySem.W.Frag} {cs : EC} {fw fr fo fn : Addr} {d : Int} {t : Th} {x y : V} {H : Hp} (rx : Rep.rep K H x d) (ry : Rep.rep K H y t) (hz : szT 1000 t) (hb : (if d = 0 then errR cs t else errWO cs t) = some cs.R) : Told K cs fw fr fo fn H fr x y 3 :=
  ⟨sp_l_with_row K cs, Or.inr (Or.inl ⟨rfl, rfl⟩), fun H1 e Q E hE => ⟨x, y, d, t, rfl, Rep.mono e rx, Rep.mono e ry, ⟨hz, hb⟩, (fun z => by cases z), fun C hC H' e' => by cases hC; exact hE H' e'⟩⟩
theorem badR_any {cs : EC} {t : Th} (h : BadR t) (d : Int) : (if d = 0 then errR cs t else errWO cs t) = some cs.R := by
  have h1 : errR cs t = some cs.R := errR_f (by rw [h.2]; rfl)
  have h2 : errWO cs t = some cs.R := by unfold errWO; rw [h.2]
  rw [h1, h2]
  split <;> rfl
/-- no row: a list with a member that is no whole number -/
theorem badR_mem {l : List Th} {x : Th} (hl : l.length ≤ 1000) (h : x ∈ l) (hx : isWh x = false) : BadR (.lst l) := ⟨hl, by
  show (if l.all isWh then some (intsT l) else none) = none
  refine if_neg fun z => ?_
  rw [List.all_eq_true] at z
  rw [z x h] at hx
  cases hx⟩
/-- no word -/
def BadWO (cs : EC) (t : Th) : Prop := szT 1000 t ∧ errWO cs t = some cs.R
theorem badWO_of {cs : EC} {ns : List Int} (hl : ns.length ≤ 1000) (h : ns = [] ∨ wordBy ns = none) : BadWO cs (thI ns) := ⟨by show (ns.map Th.int).length ≤ 1000; rw [List.length_map]; exact hl, by
  unfold errWO
  rw [rowT_ints]
  show (if ns = [] then some cs.R else if (wordBy ns).isNone then some cs.R else none) = some cs.R
  rcases h with h | h
  · exact if_pos h
  · rw [h]
    split <;> rfl⟩
theorem adj_app : ∀ (ns : List Int) (a : Int), adjR (ns ++ [a, a]) = true
  | [], a => by show (a == a || _) = true; simp
  | [b], a => by show (a == b || (a == a || _)) = true; simp
  | b :: c :: r, a => by
    show (c == b || adjR ((c :: r) ++ [a, a])) = true
    rw [adj_app (c :: r) a]; simp
theorem wordBy_none {ns : List Int} (h : adjR ns = true) : wordBy ns = none := by rw [wordBy_R, h]; rfl
def sp_l_rows_right (K : PySem.W.Frag) (cs : EC) (fw fr fo fn : Addr) : Sp := fun vs H Q E => ∃ v vu far ns, vs = [v, vu, .int far] ∧ Rep.rep K H v (ns : List Int) ∧ ns.length ≤ 63 ∧ Rep.rep K H vu (kindsL 3) ∧ 0 ≤ far ∧ ∀ H', Ex H H' → Q (.bl true) H'
theorem len_l_rows_right {K : PySem.W.Frag} {cs : EC} {fw fr fo fn : Addr} {vs : List V} {H : Hp} {Q : VK} {E : XK} (h : sp_l_rows_right K cs fw fr fo fn vs H Q E) : vs.length = 3 := by obtain ⟨_, _, _, _, rfl, _⟩ := h; rfl
theorem er_allR {K : PySem.W.Frag} {cs : EC} {fw fr fo fn f : Addr} {σ : L2.St} {H : Hp} {tf td tt tu : TE} {doors : List Int} {things : List Th} {k : Nat} (hf : Ev tf σ H (.ref f)) (hd : Er K td σ H doors) (ht : Er K tt σ H things) (hu : Er K tu σ H (kindsL k)) (hk : k < 4) (hl : things.length ≤ 10000)
    (h : ∀ d ∈ doors, ∀ t ∈ things, ∀ H1 x y, Ex H H1 → Rep.rep K H1 x d → Rep.rep K H1 y t → Told K cs fw fr fo fn H1 f x y k) : Er K (tCall (sp_l_all K cs fw fr fo fn) [] E0 (tCons tf (tCons td (tCons tt (tCons tu tNil))))) σ H true := fun H1 e Q q =>
  hf H1 e _ fun H2 e2 => hd H2 (e.trans e2) _ fun vd H3 e3 rd => ht H3 ((e.trans e2).trans e3) _ fun vt H4 e4 rt => hu H4 (((e.trans e2).trans e3).trans e4) _ fun vu H5 e5 ru =>
    ⟨f, vd, vt, vu, k, doors, things, rfl, Rep.mono (e4.trans e5) rd, Rep.mono e5 rt, ru, hk, hl, fun d md t mt H6 x y e6 rx ry => h d md t mt H6 x y (((((e.trans e2).trans e3).trans e4).trans e5).trans e6) rx ry, fun H6 e6 => q _ H6 ((((e2.trans e3).trans e4).trans e5).trans e6) rfl⟩
abbrev s_l_rows_right : Stmt := topS 37
abbrev N_l_rows_right : List Str := ["_law_script", "_law_due", "_law_far_here", "_law_rows", "_law_at"]
theorem sc_l_rows_right : FnScope N_l_rows_right ["_law_script", "_law_due", "_law_far_here"] (defScope s_l_rows_right) := ⟨rfl, rfl, rfl, by decide +kernel, rfl, by decide +kernel, by decide +kernel⟩
def t_l_rows_right (K : PySem.W.Frag) (cs : EC) (f_l_with_word f_l_with_row f_order_of f_number_of : Addr) : TS :=
  (tSeq (tAsg (tLst (tCons (tC .non) (tCons (tTup tNil) (tCons (tTup (tCons (tC (.int 1)) (tCons (tC (.int 2)) tNil))) (tCons (tC (.str ("12" : Str))) (tCons tDNewK (tCons (tC (.int 5)) (tCons (tLst (tCons (tC .non) tNil)) (tCons (tLst (tCons (tC (.str ("1" : Str))) tNil)) (tCons (tLst (tCons (tC (.bl true)) tNil)) (tCons (tLst (tCons (tLst (tCons (tC (.int 1)) tNil)) tNil)) (tCons (tLst (tCons (tC (.int 1)) (tCons (tC .non) tNil))) (tCons (tLst (tCons (tC (.int 1)) (tCons (tC (.bl true)) (tCons (tC (.int 2)) tNil)))) (tCons (tOp rCat (tCB (rLstL K) (tCons (tVar 0) tNil)) (tLst (tCons (tC (.str ("1" : Str))) tNil))) tNil)))))))))))))) (gName 3))
    (tSeq (tAsg (tOp rCat (tVar 3) (tLst (tCons (tOp rCat (tOp rRep (tLst (tCons (tC (.int 0)) tNil)) (tOp rModI (tVar 2) (tC (.int 9)))) (tLst (tCons (tC .non) tNil))) (tCons (tLst (tCons (tC (.int 1)) (tCons (tC (.int 2)) (tCons (tTup (tCons (tC (.int 3)) tNil)) tNil)))) tNil)))) (gName 3))
    (tSeq (tFor (iRng3 (tCons (tC (.int 0)) (tCons (tCB (rLenL K) (tCons (tVar 0) tNil)) (tCons (tOp rAddI (tC (.int 1)) (tOp rDivI (tCB (rLenL K) (tCons (tVar 0) tNil)) (tC (.int 6)))) tNil)))) (gName 4) (tDrop (tBM K "list" rAppend (tVar 3) (tCons (tOp rCat (tOp rCat (tCB (rLstL K) (tCons (tSl (rSlL K) (tVar 0) tNoPart (tPart (tVar 4))) tNil)) (tLst (tCons (tOp (rIxT K) (tTup (tCons (tC .non) (tCons (tC (.str ("1" : Str))) (tCons (tC (.bl true)) (tCons (tLst (tCons (tC (.int 1)) tNil)) tNil))))) (tOp rModI (tVar 4) (tC (.int 4)))) tNil))) (tCB (rLstL K) (tCons (tSl (rSlL K) (tVar 0) (tPart (tVar 4)) tNoPart) tNil))) tNil))))
    (tSeq (tIfS (tNot (tB (tCall (sp_l_all K cs f_l_with_word f_l_with_row f_order_of f_number_of) [] E0 (tCons (tC (.ref f_l_with_row)) (tCons (tLst (tCons (tC (.int 0)) (tCons (tC (.int 1)) tNil))) (tCons (tVar 3) (tCons (tVar 1) tNil))))))) (tRet (tC (.bl false))) tNext)
    (tRet (tCall (sp_l_all K cs f_l_with_word f_l_with_row f_order_of f_number_of) [] E0 (tCons (tC (.ref f_l_with_row)) (tCons (tLst (tCons (tC (.int 1)) tNil)) (tCons (tLst (tCons (tLst tNil) (tCons (tLst (tCons (tC (.int 1)) (tCons (tC (.int 1)) tNil))) (tCons (tLst (tCons (tVar 2) (tCons (tVar 2) tNil))) (tCons (tLst (tCons (tC (.int 1)) (tCons (tC (.int 2)) (tCons (tC (.int 2)) (tCons (tC (.int 3)) tNil))))) (tCons (tOp rCat (tCB (rLstL K) (tCons (tVar 0) tNil)) (tLst (tCons (tC (.int 7)) (tCons (tC (.int 7)) tNil)))) tNil)))))) (tCons (tVar 1) tNil))))))))))

theorem pure_l_rows_right (K : PySem.W.Frag) (cs : EC) (fw fr fo fn : Addr) (vs : List V) (H : Hp) (Q : VK) (E : XK) (h : sp_l_rows_right K cs fw fr fo fn vs H Q E) : t_l_rows_right K cs fw fr fo fn { nx := fun _ H' => Q .non H', rt := Q } (start N_l_rows_right vs) H := by
  obtain ⟨v, vu, far, ns, rfl, rn, hl, ru, hfar, q⟩ := h
  have oneI : ∀ {σ : L2.St} {H' : Hp} {i : Int}, ErF K (tLst (tCons (tC (.int i)) tNil)) σ H' [Th.int i] := fun {σ H' i} => erf_lst (eal_cons (et_int er_int) eal_nil) (by simp)
  have nsL : ∀ {σ : L2.St} {H' : Hp}, Ex H H' → σ[0]? = some (some v) → Er K (tVar 0) σ H' ns := fun e h => er_var h (Rep.mono e rn)
  have fm : 0 ≤ far % 9 ∧ far % 9 < 9 := ⟨Int.emod_nonneg _ (by decide), Int.emod_lt_of_pos _ (by decide)⟩
  refine Gx.here (K := K) (q_asgP (P := BadR) (n := 13) (eap_cons (et_non er_non) ⟨trivial, rfl⟩ (eap_cons (et_tup eal_nil (by decide)) ⟨trivial, rfl⟩ (eap_cons (et_tup (eal_cons (et_int er_int) (eal_cons (et_int er_int) eal_nil)) (by decide)) ⟨trivial, rfl⟩ (eap_cons (et_str er_str) ⟨show Str.length _ ≤ 1000 by decide, rfl⟩ (eap_cons et_dct ⟨trivial, rfl⟩ (eap_cons (et_int er_int) ⟨trivial, rfl⟩
    (eap_cons (et_lst (ErF.er (erf_lst (eal_cons (et_non er_non) eal_nil) (by decide)))) (badR_mem (by decide) List.mem_cons_self rfl)
    (eap_cons (et_lst (ErF.er (erf_lst (eal_cons (et_str er_str) eal_nil) (by decide)))) (badR_mem (by decide) List.mem_cons_self rfl)
    (eap_cons (et_lst (ErF.er (erf_lst (eal_cons (et_bl er_bl) eal_nil) (by decide)))) (badR_mem (by decide) List.mem_cons_self rfl)
    (eap_cons (et_lst (ErF.er (erf_lst (eal_cons (et_lst (ErF.er oneI)) eal_nil) (by decide)))) (badR_mem (by decide) List.mem_cons_self rfl)
    (eap_cons (et_lst (ErF.er (erf_lst (eal_cons (et_int er_int) (eal_cons (et_non er_non) eal_nil)) (by decide)))) (badR_mem (x := .non) (by decide) (List.mem_cons_of_mem _ List.mem_cons_self) rfl)
    (eap_cons (et_lst (ErF.er (erf_lst (eal_cons (et_int er_int) (eal_cons (et_bl er_bl) (eal_cons (et_int er_int) eal_nil))) (by decide)))) (badR_mem (x := .bl true) (by decide) (List.mem_cons_of_mem _ List.mem_cons_self) rfl)
    (eap_cons (et_lst (ErF.er (erf_cat (ErF.thI (erf_list (nsL (Ex.refl H) rfl))) (erf_lst (eal_cons (et_str er_str) eal_nil) (by decide)) (by simp; omega)))) (badR_mem (x := .str _) (by simp; omega) (List.mem_append_right _ List.mem_cons_self) rfl) eap_nil))))))))))))) (by decide) fun p1 H1 np1 e1 o1 => ?_)
  refine q_catP (m := 2) rfl o1 (eap_cons (et_lst (ErF.er (erf_cat (ErF.thI (erf_rep (as := [0]) (k := far % 9) (erf_lst (eal_cons er_int eal_nil) (by decide)) (er_mod (er_var rfl rfl) er_int (by decide)) (by omega) (by omega) (by decide))) (erf_lst (eal_cons (et_non er_non) eal_nil) (by decide)) (by simp; omega)))) (badR_mem (x := .non) (by simp; omega) (List.mem_append_right _ List.mem_cons_self) rfl)
    (eap_cons (et_lst (ErF.er (erf_lst (eal_cons (et_int er_int) (eal_cons (et_int er_int) (eal_cons (et_tup (eal_cons (et_int er_int) eal_nil) (by decide)) eal_nil))) (by decide)))) (badR_mem (x := .tup _) (by decide) (List.mem_cons_of_mem _ (List.mem_cons_of_mem _ List.mem_cons_self)) rfl) eap_nil)) (by decide) fun p2 H2 np2 e2 o2 => ?_
  have e12 := e1.trans e2
  obtain ⟨n, hn, hrg, hst⟩ := stepN (m := ns.length) (by omega)
  refine q_forC (lo := 0) (c := 1 + (ns.length : Int) / 6) (n := n) (rng3 er_int (er_lenL (nsL e12 rfl)) (er_add er_int (er_div (er_lenL (nsL e12 rfl)) er_int ⟨by decide, by decide⟩)) hrg) (fun i σ2 H' => ∃ x4, σ2 = [some v, some vu, some (.int far), some (.ref p2), x4] ∧ Ex H1 H' ∧ OwnP K H' p2 BadR (15 + i)) (fun H5 e5 => ⟨none, rfl, e2.trans e5, o2.up e5⟩) ?_ ?_
  · rintro i σ2 H' hi ⟨x4, rfl, e7, o7⟩
    obtain ⟨at_, ha, hat⟩ := hst i hi
    rw [ha]
    obtain ⟨t, ht, htb⟩ : ∃ t, atI [Th.non, Th.str "1", Th.bl true, Th.lst [Th.int 1]] ((at_ : Int) % 4) = some t ∧ isWh t = false := by
      have h4 : (at_ : Int) % 4 = 0 ∨ (at_ : Int) % 4 = 1 ∨ (at_ : Int) % 4 = 2 ∨ (at_ : Int) % 4 = 3 := by omega
      rcases h4 with h | h | h | h <;> rw [h]
      · exact ⟨_, rfl, rfl⟩
      · exact ⟨_, rfl, rfl⟩
      · exact ⟨_, rfl, rfl⟩
      · exact ⟨_, rfl, rfl⟩
    exact g_appP (B := H1) (x := .lst (((ns.take at_).map Th.int ++ [t]) ++ (ns.drop at_).map Th.int)) o7 rfl e7 np2
      (es_th (esf_cat (esf_cat (esf_ints (erf_list (ErF.er ((erf_sl (nsL e1 rfl) eo_no (eo_at (er_var rfl rfl))).to (cut_take ns at_))))) (esf_lst (eas_cons (es_tupIx (as := [Th.non, Th.str "1", Th.bl true, Th.lst [Th.int 1]]) (eas_cons (es_sc rfl (et_non er_non)) (eas_cons (es_sc rfl (et_str er_str)) (eas_cons (es_sc rfl (et_bl er_bl)) (eas_cons (es_scl rfl oneI) eas_nil)))) (by decide) (er_mod (er_var rfl rfl) er_int (by decide)) ht) eas_nil) (by simp)) (by simp; omega))
        (esf_ints (erf_list (ErF.er ((erf_sl (nsL e1 rfl) (eo_at (er_var rfl rfl)) eo_no).to (cut_drop ns at_))))) (by simp; omega)))
      (badR_mem (x := t) (by simp; omega) (List.mem_append_left _ (List.mem_append_right _ List.mem_cons_self)) htb) (by omega) fun H8 eb o8 => fun H9 e9 => ⟨_, rfl, (eb.ex e7 np2).trans e9, o8.up e9⟩
  · rintro σ2 H' ⟨x4, rfl, e7, o7⟩
    have e17 := e1.trans e7
    obtain ⟨bs, ob, hbs, hlb⟩ := o7
    have twoI : ∀ {σ : L2.St} {H' : Hp}, Er K (tLst (tCons (tC (.int 0)) (tCons (tC (.int 1)) tNil))) σ H' ([0, 1] : List Int) := fun {σ H'} => ErF.er (erf_lst (eal_cons er_int (eal_cons er_int eal_nil)) (by decide))
    refine q_no (et_not' (a := true) (et_v (er_allR (doors := ([0, 1] : List Int)) (things := bs) (k := 3) Evl.ev_c twoI (er_var rfl ob.rep) (er_var rfl (Rep.mono e17 ru)) (by decide) (by omega) fun d md t mt H8 x y e8 rx ry => told_row rx ry (hbs t mt).1 (badR_any (hbs t mt) d)))) ?_
    refine g_ret (a := true) (er_allR (doors := ([1] : List Int)) (things := [thI [], thI [1, 1], thI [far, far], thI [1, 2, 2, 3], thI (ns ++ [7, 7])]) (k := 3) Evl.ev_c (ErF.er (erf_lst (eal_cons er_int eal_nil) (by decide)))
      (ErF.er (erf_lst (eal_cons (et_ints (ErF.er (erf_lst eal_nil (by decide)))) (eal_cons (et_ints (ErF.er (erf_lst (eal_cons er_int (eal_cons er_int eal_nil)) (by decide)))) (eal_cons (et_ints (ErF.er (erf_lst (eal_cons (er_var rfl rfl) (eal_cons (er_var rfl rfl) eal_nil)) (by simp)))) (eal_cons (et_ints (ErF.er (erf_lst (eal_cons er_int (eal_cons er_int (eal_cons er_int (eal_cons er_int eal_nil)))) (by decide)))) (eal_cons (et_ints (ErF.er (erf_cat (erf_list (nsL e17 rfl)) (erf_lst (eal_cons er_int (eal_cons er_int eal_nil)) (by decide)) (by simp; omega)))) eal_nil))))) (by simp)))
      (er_var rfl (Rep.mono e17 ru)) (by decide) (by simp) fun d md t mt H8 x y e8 rx ry => ?_) fun u H8 e8 r => ?_
    · obtain rfl : d = 1 := by simpa using md
      have hb : BadWO cs t := by
        simp only [List.mem_cons, List.not_mem_nil, or_false] at mt
        rcases mt with rfl | rfl | rfl | rfl | rfl
        · exact badWO_of (by decide) (Or.inl rfl)
        · exact badWO_of (by decide) (Or.inr (wordBy_none (by decide)))
        · exact badWO_of (by simp) (Or.inr (wordBy_none (adj_app [] far)))
        · exact badWO_of (by decide) (Or.inr (wordBy_none (by decide)))
        · exact badWO_of (by simp; omega) (Or.inr (wordBy_none (adj_app ns 7)))
      exact told_row rx ry hb.1 hb.2
    · obtain rfl : u = .bl true := r
      exact q H8 (e17.trans e8)
theorem ok_l_rows_right {f f_l_with_row f_l_all f_l_with_word f_order_of f_number_of : Addr} {fd fd_l_with_row fd_l_all : FuncData} (F : Fun K "_law_rows_right" "_law_rows_right" s_l_rows_right f fd) (T : Bi mg) {cs : EC} (XF : ExF K mg cs) (c_l_with_row : CalX P w K mg base 4 "_law_with_row" ["_law_door", "_law_row"] (sp_l_with_row K cs) f_l_with_row fd_l_with_row) (c_l_all : Cal P w K mg base 6 "_law_all" ["_law_ask", "_law_doors", "_law_things", "_law_due"] (sp_l_all K cs f_l_with_word f_l_with_row f_order_of f_number_of) f_l_all fd_l_all) : FnOk P w K mg base CX0 7 f fd ["_law_script", "_law_due", "_law_far_here"] (sp_l_rows_right K cs f_l_with_word f_l_with_row f_order_of f_number_of) :=
  F.ok sc_l_rows_right (fun vs H Q E h => by first | exact len_pr1 h | exact len_pr2 h | exact len_pr3 h | exact len_prF1 h | exact len_prF2 h | exact len_l_rows_right h) (fun cdv A outer s H vs Q E hr h => ⟨t_l_rows_right K cs f_l_with_word f_l_with_row f_order_of f_number_of, by exact
    ((pss_cons (ps_set (i := 3) sc_l_rows_right.nd rfl (.inl rfl) (pe_lst (pa_cons pe_non (pa_cons (pe_tup pa_nil) (pa_cons (pe_tup (pa_cons pe_int (pa_cons pe_int pa_nil))) (pa_cons pe_str (pa_cons pe_dnewK (pa_cons pe_int (pa_cons (pe_lst (pa_cons pe_non pa_nil)) (pa_cons (pe_lst (pa_cons pe_str pa_nil)) (pa_cons (pe_lst (pa_cons pe_bl pa_nil)) (pa_cons (pe_lst (pa_cons (pe_lst (pa_cons pe_int pa_nil)) pa_nil)) (pa_cons (pe_lst (pa_cons pe_int (pa_cons pe_non pa_nil))) (pa_cons (pe_lst (pa_cons pe_int (pa_cons pe_bl (pa_cons pe_int pa_nil)))) (pa_cons (pe_op op_cat (pe_callTy cLstL (by rfl) T.list_ (by decide +kernel) (pa_cons (pv 0) pa_nil)) (pe_lst (pa_cons pe_str pa_nil))) pa_nil)))))))))))))))
      (pss_cons (ps_set (i := 3) sc_l_rows_right.nd rfl (.inl rfl) (pe_op op_cat (pv 3) (pe_lst (pa_cons (pe_op op_cat (pe_op op_rep (pe_lst (pa_cons pe_int pa_nil)) (pe_op oModI (pv 2) pe_int)) (pe_lst (pa_cons pe_non pa_nil))) (pa_cons (pe_lst (pa_cons pe_int (pa_cons pe_int (pa_cons (pe_tup (pa_cons pe_int pa_nil)) pa_nil)))) pa_nil)))))
      (pss_cons (ps_for PassesOwn.never rfl (pi_range3 (by rfl) T.range_ (pa_cons pe_int (pa_cons (pe_callB cLenL (by rfl) T.len_ (by decide +kernel) (pa_cons (pv 0) pa_nil)) (pa_cons (pe_op oAddI pe_int (pe_op oDivI (pe_callB cLenL (by rfl) T.len_ (by decide +kernel) (pa_cons (pv 0) pa_nil)) pe_int)) pa_nil)))) (pg_name (i := 4) sc_l_rows_right.nd rfl (.inl rfl))
      (pss_one (ps_expr (pe_bm PySem.F.plainAttrs_list PySem.F.slot_list_append PySem.F.type_list_append mt_append (pv 3) (pa_cons (pe_op op_cat (pe_op op_cat (pe_callTy cLstL (by rfl) T.list_ (by decide +kernel) (pa_cons (pe_slice sl_list (pv 0) po_none (po_some (pv 4))) pa_nil)) (pe_lst (pa_cons (pe_ix ix_tup (pe_tup (pa_cons pe_non (pa_cons pe_str (pa_cons pe_bl (pa_cons (pe_lst (pa_cons pe_int pa_nil)) pa_nil))))) (pe_op oModI (pv 4) pe_int) (fun _ _ => rfl)) pa_nil))) (pe_callTy cLstL (by rfl) T.list_ (by decide +kernel) (pa_cons (pe_slice sl_list (pv 0) (po_some (pv 4)) po_none) pa_nil))) pa_nil)))))
      (pss_cons (ps_if (pt_not (pt_val (pe_call c_l_all.ok (hr.mono (by decide)) (by rfl) c_l_all.g c_l_all.kp c_l_all.b .nil pass0 (pa_cons (pe_glob (v := .ref f_l_with_row) (by rfl) c_l_with_row.g rfl) (pa_cons (pe_lst (pa_cons pe_int (pa_cons pe_int pa_nil))) (pa_cons (pv 3) (pa_cons (pv 1) pa_nil))))))) (pss_one (ps_ret pe_bl))
      pss_nil)
      (pss_one (ps_ret (pe_call c_l_all.ok (hr.mono (by decide)) (by rfl) c_l_all.g c_l_all.kp c_l_all.b .nil pass0 (pa_cons (pe_glob (v := .ref f_l_with_row) (by rfl) c_l_with_row.g rfl) (pa_cons (pe_lst (pa_cons pe_int pa_nil)) (pa_cons (pe_lst (pa_cons (pe_lst pa_nil) (pa_cons (pe_lst (pa_cons pe_int (pa_cons pe_int pa_nil))) (pa_cons (pe_lst (pa_cons (pv 2) (pa_cons (pv 2) pa_nil))) (pa_cons (pe_lst (pa_cons pe_int (pa_cons pe_int (pa_cons pe_int (pa_cons pe_int pa_nil))))) (pa_cons (pe_op op_cat (pe_callTy cLstL (by rfl) T.list_ (by decide +kernel) (pa_cons (pv 0) pa_nil)) (pe_lst (pa_cons pe_int (pa_cons pe_int pa_nil)))) pa_nil)))))) (pa_cons (pv 1) pa_nil)))))))))))), pure_l_rows_right K cs f_l_with_word f_l_with_row f_order_of f_number_of vs H Q E h⟩)


/-! ### the law's cells and draws -/
def cellAt (s : List Int) (k : Int) : Int := if k < (s.length : Int) then s.getD k.toNat 0 else 0
def sp_l_cell_at (K : PySem.W.Frag) : Sp := Pr2 K (fun (_ : List Int) (k : Int) => 0 ≤ k) cellAt
abbrev s_l_cell_at : Stmt := topS 25
abbrev N_l_cell_at : List Str := ["_law_script", "_law_k"]
theorem sc_l_cell_at : FnScope N_l_cell_at ["_law_script", "_law_k"] (defScope s_l_cell_at) := ⟨rfl, rfl, rfl, by decide +kernel, rfl, by decide +kernel, by decide +kernel⟩
def t_l_cell_at (K : PySem.W.Frag) : TS :=
  (tSeq (tIfS (tTest (tOp rLtI (tVar 1) (tCB (rLenL K) (tCons (tVar 0) tNil)))) (tRet (tOp (rIxL K) (tVar 0) (tVar 1))) tNext)
    (tRet (tC (.int 0))))

theorem pure_l_cell_at (K : PySem.W.Frag) (vs : List V) (H : Hp) (Q : VK) (E : XK) (h : sp_l_cell_at K vs H Q E) : t_l_cell_at K { nx := fun _ H' => Q .non H', rt := Q } (start N_l_cell_at vs) H := by
  obtain ⟨v, w, s, k, rfl, r1, r2, hk, q⟩ := h
  obtain rfl : w = .int k := r2
  refine Gx.here (K := K) (q_when (b := decide (k < (s.length : Int))) ?_ (fun hb => g_ret (a := cellAt s k) ?_ q) (fun hb => g_ret (a := cellAt s k) ?_ q))
  · walk_at "et"
  · have hb' : k < (s.length : Int) := of_decide_eq_true hb
    have hl : k.toNat < s.length := by omega
    have e : cellAt s k = s[k.toNat] := by
      unfold cellAt
      rw [if_pos hb', List.getD_eq_getElem?_getD, List.getElem?_eq_getElem hl]; rfl
    rw [e]
    walk_at "er"
    exact atI_ok hk hl
  · have hb' : ¬ k < (s.length : Int) := of_decide_eq_false hb
    have e : cellAt s k = 0 := if_neg hb'
    rw [e]
    walk_at "er"
theorem ok_l_cell_at {f : Addr} {fd : FuncData} (F : Fun K "_law_cell_at" "_law_cell_at" s_l_cell_at f fd) (T : Bi mg) : FnOk P w K mg base CX0 1 f fd ["_law_script", "_law_k"] (sp_l_cell_at K) :=
  F.ok sc_l_cell_at (fun vs H Q E h => by first | exact len_pr1 h | exact len_pr2 h | exact len_pr3 h | exact len_prF1 h | exact len_prF2 h | exact len_l_cell_at h) (fun cdv A outer s H vs Q E hr h => ⟨t_l_cell_at K, by exact
    ((pss_cons (ps_if (pt_cmpR oLtI (pv 1) (pe_callB cLenL (by rfl) T.len_ (by decide +kernel) (pa_cons (pv 0) pa_nil)) (nomark _)) (pss_one (ps_ret (pe_ix ix_list (pv 0) (pv 1) (fun _ _ => rfl))))
      pss_nil)
      (pss_one (ps_ret pe_int)))), pure_l_cell_at K vs H Q E h⟩)

def primes : List Int := [1000003, 1000033, 1000037, 1000039, 1000081, 1000099, 1000117, 1000121, 1000133, 1000151, 1000159, 1000171, 1000183, 1000187, 1000193, 1000199]
def drawI (c k m : Int) : Int := (c * 48271 + k * 69621) % primes.getD (k % 16).toNat 0 % m
theorem draw_lt (c k : Int) {m : Int} (h : 0 < m) : 0 ≤ drawI c k m ∧ drawI c k m < m := ⟨Int.emod_nonneg _ (by omega), Int.emod_lt_of_pos _ h⟩
def sp_l_draw (K : PySem.W.Frag) : Sp := Pr3 K (fun (_ _ m : Int) => 0 < m) drawI
abbrev s_l_draw : Stmt := topS 26
abbrev N_l_draw : List Str := ["_law_cell", "_law_k", "_law_many", "_law_primes"]
theorem sc_l_draw : FnScope N_l_draw ["_law_cell", "_law_k", "_law_many"] (defScope s_l_draw) := ⟨rfl, rfl, rfl, by decide +kernel, rfl, by decide +kernel, by decide +kernel⟩
def t_l_draw (K : PySem.W.Frag) : TS :=
  (tSeq (tAsg (tTup (tCons (tC (.int 1000003)) (tCons (tC (.int 1000033)) (tCons (tC (.int 1000037)) (tCons (tC (.int 1000039)) (tCons (tC (.int 1000081)) (tCons (tC (.int 1000099)) (tCons (tC (.int 1000117)) (tCons (tC (.int 1000121)) (tCons (tC (.int 1000133)) (tCons (tC (.int 1000151)) (tCons (tC (.int 1000159)) (tCons (tC (.int 1000171)) (tCons (tC (.int 1000183)) (tCons (tC (.int 1000187)) (tCons (tC (.int 1000193)) (tCons (tC (.int 1000199)) tNil))))))))))))))))) (gName 3))
    (tRet (tOp rModI (tOp rModI (tOp rAddI (tOp rMulI (tVar 0) (tC (.int 48271))) (tOp rMulI (tVar 1) (tC (.int 69621)))) (tOp (rIxT K) (tVar 3) (tOp rModI (tVar 1) (tC (.int 16))))) (tVar 2))))

theorem prime_at (k : Int) : atI primes (k % 16) = some (primes.getD (k % 16).toNat 0) ∧ 0 < primes.getD (k % 16).toNat 0 := by
  have h0 : 0 ≤ k % 16 := Int.emod_nonneg _ (by decide)
  have h1 : k % 16 < 16 := Int.emod_lt_of_pos _ (by decide)
  have hl : (k % 16).toNat < primes.length := by show (k % 16).toNat < 16; omega
  have all : ∀ j : Fin 16, 0 < primes.getD j.val 0 := by decide
  refine ⟨?_, all ⟨(k % 16).toNat, hl⟩⟩
  rw [List.getD_eq_getElem?_getD, List.getElem?_eq_getElem hl]
  exact atI_ok h0 hl
theorem pure_l_draw (K : PySem.W.Frag) (vs : List V) (H : Hp) (Q : VK) (E : XK) (h : sp_l_draw K vs H Q E) : t_l_draw K { nx := fun _ H' => Q .non H', rt := Q } (start N_l_draw vs) H := by
  obtain ⟨_, _, _, c, k, m, rfl, rfl, rfl, rfl, hm, q⟩ := h
  refine Gx.here (K := K) (q_asg (a := Tpl.mk primes) (er_tpl ?_ (by decide)) fun v H1 e r => g_ret (a := drawI c k m) ?_ fun v H2 e2 => q v H2 (e.trans e2))
  · unfold primes
    repeat (first | exact eal_nil | refine eal_cons er_int ?_)
  · unfold drawI
    walk_at "er"
    · exact (prime_at k).1
    · exact (prime_at k).2
theorem ok_l_draw {f : Addr} {fd : FuncData} (F : Fun K "_law_draw" "_law_draw" s_l_draw f fd) (T : Bi mg) : FnOk P w K mg base CX0 1 f fd ["_law_cell", "_law_k", "_law_many"] (sp_l_draw K) :=
  F.ok sc_l_draw (fun vs H Q E h => by first | exact len_pr1 h | exact len_pr2 h | exact len_pr3 h | exact len_prF1 h | exact len_prF2 h | exact len_l_draw h) (fun cdv A outer s H vs Q E hr h => ⟨t_l_draw K, by exact
    ((pss_cons (ps_set (i := 3) sc_l_draw.nd rfl (.inl rfl) (pe_tup (pa_cons pe_int (pa_cons pe_int (pa_cons pe_int (pa_cons pe_int (pa_cons pe_int (pa_cons pe_int (pa_cons pe_int (pa_cons pe_int (pa_cons pe_int (pa_cons pe_int (pa_cons pe_int (pa_cons pe_int (pa_cons pe_int (pa_cons pe_int (pa_cons pe_int (pa_cons pe_int pa_nil))))))))))))))))))
      (pss_one (ps_ret (pe_op oModI (pe_op oModI (pe_op oAddI (pe_op oMulI (pv 0) pe_int) (pe_op oMulI (pv 1) pe_int)) (pe_ix ix_tup (pv 3) (pe_op oModI (pv 1) pe_int) (fun _ _ => rfl))) (pv 2)))))), pure_l_draw K vs H Q E h⟩)


def cntF (w : List Bool) : Int := MC.F w
def sp_l_count (K : PySem.W.Frag) : Sp := Pr1 K (fun z : Str => IsW z ∧ z.length ≤ 1000) fun z => MC.F (unz z)
abbrev s_l_count : Stmt := topS 28
abbrev N_l_count : List Str := ["_law_word_here", "_law_last", "_law_letter", "_law_sums", "_law_many"]
theorem sc_l_count : FnScope N_l_count ["_law_word_here"] (defScope s_l_count) := ⟨rfl, rfl, rfl, by decide +kernel, rfl, by decide +kernel, by decide +kernel⟩
def t_l_count (K : PySem.W.Frag) : TS :=
  (tSeq (tAsg (tLst (tCons (tC (.int 1)) tNil)) (gName 1))
    (tSeq (tFor (iStr (tVar 0)) (gName 2) (tSeq (tAsg (tLst (tCons (tC (.int 0)) tNil)) (gName 3))
    (tSeq (tFor (iList K (tVar 1)) (gName 4) (tDrop (tBM K "list" rAppend (tVar 3) (tCons (tOp rAddI (tOp (rIxL K) (tVar 3) (tUn rNegI (tC (.int 1)))) (tVar 4)) tNil))))
    (tAsg (tIf (tTest (tOp rEqT (tVar 2) (tC (.str ("u" : Str))))) (tVar 3) (tLc (iList K (tVar 3)) (gName 4) tYes (tOp rSubI (tOp (rIxL K) (tVar 3) (tUn rNegI (tC (.int 1)))) (tVar 4)) [4])) (gName 1)))))
    (tRet (tCB (rSum K) (tCons (tVar 1) tNil)))))

theorem pure_l_count (K : PySem.W.Frag) (vs : List V) (H : Hp) (Q : VK) (E : XK) (h : sp_l_count K vs H Q E) : t_l_count K { nx := fun _ H' => Q .non H', rt := Q } (start N_l_count vs) H := by
  obtain ⟨_, z, rfl, rfl, ⟨hw, hl⟩, q⟩ := h
  refine Gx.here (K := K) (q_asgF (as := [1]) (erf_lst (eal_cons er_int eal_nil) (by decide)) fun pl H1 hpl e1 o1 => ?_)
  refine q_forS (x := tx (unz z)) ((er_var rfl rfl).to (tx_unz hw).symm) (fun i σ H' => ∃ (pl : Addr) (x2 x3 x4 : Option V), σ = [some (.str z), some (.ref pl), x2, x3, x4] ∧ Ex H H' ∧ LstR K H' pl (MC.run ((unz z).take i) [1])) (fun H2 e2 => ⟨pl, none, none, none, rfl, e1.trans e2, (o1.up e2).lst⟩) ?_ ?_
  · rintro i c σ' H' hc ⟨pl, x2, x3, x4, rfl, eB, hL⟩
    have hc' : (unz z)[i]? = some (c == 117) ∧ c = sg (c == 117) := by
      have h1 : (tx (unz z)).cps.toList[i]? = some c := by rw [Array.getElem?_toList]; exact hc
      rw [tx_list, List.getElem?_map] at h1
      cases hq : (unz z)[i]? with
      | none => rw [hq] at h1; simp at h1
      | some b =>
        rw [hq] at h1
        have : sg b = c := by simpa using h1
        subst this
        cases b <;> exact ⟨rfl, rfl⟩
    obtain ⟨hb, hcs⟩ := hc'
    obtain ⟨b, hbd⟩ : ∃ b, (c == 117) = b := ⟨_, rfl⟩
    rw [hbd] at hb hcs
    subst hcs
    have hi : i < (unz z).length := (List.getElem?_eq_some_iff.mp hb).1
    obtain ⟨l, el⟩ : ∃ l, MC.run ((unz z).take i) [1] = l := ⟨_, rfl⟩
    have hll : l.length ≤ 1001 := by
      rw [← el, MC.run_len, List.length_take]
      rw [unz_len] at hi
      show 1 + _ ≤ 1001
      omega
    have enext : MC.run ((unz z).take (i + 1)) [1] = MC.step b l := by
      rw [take_succ_some hb, MC.run_append, el]; rfl
    rw [el] at hL
    refine q_asgF (as := [0]) (erf_lst (eal_cons er_int eal_nil) (by decide)) fun ps H1 hps e1 o1 => ?_
    refine q_forL (i0 := 1) (B := H') (as := l) (v0 := .ref pl) (fun j σ2 H2 => ∃ x4, σ2 = [some (.str z), some (.ref pl), some (.str (sgn (sg b))), some (.ref ps), x4] ∧ Ex H' H2 ∧ Own K H2 ps (presTo l j)) rfl ⟨pl, rfl, hL⟩ e1
      (fun H2 e2 => ⟨x4, rfl, e1.trans e2, o1.up e2⟩) (fun j σ2 H2 ⟨_, _, h, _⟩ => h) ?_ ?_
    · rintro j a v σ2 H2 ha rfl ⟨x4, rfl, e2, o2⟩
      refine g_app (a := (l.take j).sum + a) o2 rfl ?_ ?_ fun H3 eb o3 => fun H4 e4 => ⟨_, rfl, (eb.ex e2 hps).trans e4, ?_⟩
      · exact er_add (er_ixL (er_var rfl o2.rep) (er_neg er_int) (atI_neg1 (presTo_last _ _))) (er_var rfl rfl)
      · have : j < l.length := (List.getElem?_eq_some_iff.mp ha).1
        unfold presTo
        rw [List.length_map, List.length_range]
        omega
      · rw [presTo_succ ha]
        exact o3.up e4
    · rintro σ2 H2 ⟨x4, rfl, e2, o2⟩
      rw [presTo_all] at o2
      refine (g_asg (a := MC.step b l) ((er_if (b := b) (x := MC.pres l) (y := MC.sufs l) (et_e ?_) (fun _ => er_var rfl o2.rep) fun _ => ?_).to ?_) fun v H3 e3 r => fun H4 e4 => ?_)
      · have q := er_eqt (K := K) (σ := [some (.str z), some (.ref pl), some (.str (sgn (sg b))), some (.ref ps), x4]) (H := H2) (i := tx [b]) (j := tx [true]) (ta := tVar 2) (tb := tC (.str "u")) (er_var rfl rfl) (er_lit tx_u)
        refine q.to ?_
        rw [tx_beq]
        cases b <;> rfl
      · refine (ErF.er (erf_lc (er_var rfl o2.rep) (by rw [MC.pres_len]; omega) (fun _ => rfl) fun i a v H3 e3 _ r => es_flat (er_sub (er_ixL (er_var rfl (o2.up e3).rep) (er_neg er_int) (atI_neg1 (pres_last _))) (er_var rfl r)))).to ?_
        rw [MC.sufs_eq]
      · cases b <;> rfl
      · obtain ⟨pn, rfl, hr⟩ := r
        refine ⟨pn, _, _, _, rfl, ((eB.trans e2).trans e3).trans e4, ?_⟩
        rw [enext]
        exact hr.up e4
  · rintro σ' H' ⟨pl, x2, x3, x4, rfl, eB, hL⟩
    have hu : (unz z).take (tx (unz z)).cps.size = unz z := by
      rw [List.take_of_length_le]
      show _ ≤ (tx (unz z)).length
      rw [tx_len]; exact Nat.le_refl _
    rw [hu] at hL
    exact g_ret (a := MC.F (unz z)) (er_sum (er_var rfl ⟨pl, rfl, hL⟩)) fun u H1 e r => q u H1 (eB.trans e) r
theorem ok_l_count {f : Addr} {fd : FuncData} (F : Fun K "_law_count" "_law_count" s_l_count f fd) (T : Bi mg) : FnOk P w K mg base CX0 1 f fd ["_law_word_here"] (sp_l_count K) :=
  F.ok sc_l_count (fun vs H Q E h => by first | exact len_pr1 h | exact len_pr2 h | exact len_pr3 h | exact len_prF1 h | exact len_prF2 h | exact len_l_count h) (fun cdv A outer s H vs Q E hr h => ⟨t_l_count K, by exact
    ((pss_cons (ps_set (i := 1) sc_l_count.nd rfl (.inl rfl) (pe_lst (pa_cons pe_int pa_nil)))
      (pss_cons (ps_for PassesOwn.never rfl (pi_str (pv 0)) (pg_name (i := 2) sc_l_count.nd rfl (.inl rfl))
      (pss_cons (ps_set (i := 3) sc_l_count.nd rfl (.inr rfl) (pe_lst (pa_cons pe_int pa_nil)))
      (pss_cons (ps_for PassesOwn.never rfl (pi_list (pv 1)) (pg_name (i := 4) sc_l_count.nd rfl (.inl rfl))
      (pss_one (ps_expr (pe_bm PySem.F.plainAttrs_list PySem.F.slot_list_append PySem.F.type_list_append mt_append (pv 3) (pa_cons (pe_op oAddI (pe_ix ix_list (pv 3) (pe_un oNegI pe_int) (fun _ _ => rfl)) (pv 4)) pa_nil)))))
      (pss_one (ps_set (i := 1) sc_l_count.nd rfl (.inl rfl) (pe_ifExp (pt_cmpR oEqT (pv 2) pe_str (nomark _)) (pv 3) (pe_lc (own := [("_law_many", 4)]) (g := (gName 4)) (tt := tYes) rfl sc_l_count.nd (pi_list (pv 3)) (blkOk_by (own := [("_law_many", 4)]) (N := N_l_count) (sc := defScope s_l_count) (by decide +kernel)) (fun _ _ _ _ _ => (pg_name (i := 4) sc_l_count.nd rfl (.inl rfl))) (fun _ _ _ _ _ => pts_nil) (fun _ _ _ _ _ => (pe_op oSubI (pe_ix ix_list (pv 3) (pe_un oNegI pe_int) (fun _ _ => rfl)) (pv 4))))))))))
      (pss_one (ps_ret (pe_callB (cSum rfl) (by rfl) T.sum_ (by decide +kernel) (pa_cons (pv 1) pa_nil))))))), pure_l_count K vs H Q E h⟩)


/-! ### the law's word: some word of at most 64 letters -/
def sp_l_word (K : PySem.W.Frag) : Sp := fun vs H Q _ => ∃ v s, vs = [v] ∧ Rep.rep K H v (s : List Int) ∧ s.length ≤ 63 ∧ ∀ (w : List Bool) H', w.length ≤ 64 → Ex H H' → Q (.str (tx w)) H'
theorem len_l_word {vs : List V} {H : Hp} {Q : VK} {E : XK} (h : sp_l_word K vs H Q E) : vs.length = 1 := by obtain ⟨_, _, rfl, _⟩ := h; rfl
abbrev s_l_word : Stmt := topS 27
abbrev N_l_word : List Str := ["_law_script", "_law_kind", "_law_word_here", "_law_k", "_law_left", "_law_cell"]
theorem sc_l_word : FnScope N_l_word ["_law_script"] (defScope s_l_word) := ⟨rfl, rfl, rfl, by decide +kernel, rfl, by decide +kernel, by decide +kernel⟩
def t_l_word (K : PySem.W.Frag) : TS :=
  (tSeq (tAsg (tSl (rSlL K) (tVar 0) tNoPart (tPart (tC (.int 63)))) (gName 0))
    (tSeq (tAsg (tCall (sp_l_draw K) [] E0 (tCons (tCall (sp_l_cell_at K) [] E0 (tCons (tVar 0) (tCons (tC (.int 0)) tNil))) (tCons (tC (.int 6)) (tCons (tC (.int 5)) tNil)))) (gName 1))
    (tSeq (tAsg (tM1 (rJoin K) (tC (.str ("" : Str))) (tLc (iList K (tVar 0)) (gName 5) tYes (tOp rIxS (tC (.str ("ud" : Str))) (tOp rModI (tVar 5) (tC (.int 2)))) [5])) (gName 2))
    (tCut (tIfS (tTest (tOp rEqI (tVar 1) (tC (.int 1)))) (tAsg (tM1 (rJoin K) (tC (.str ("" : Str))) (tLc (iEnum K (tCons (tVar 0) tNil)) (gTup K 2 (gCons (gName 3) (gCons (gName 5) gNil))) tYes (tIf (tTest (tOp rGtI (tOp rModI (tVar 5) (tC (.int 7))) (tC (.int 0)))) (tOp rIxS (tC (.str ("ud" : Str))) (tOp rModI (tVar 3) (tC (.int 2)))) (tOp rIxS (tC (.str ("du" : Str))) (tOp rModI (tVar 3) (tC (.int 2))))) [3, 5])) (gName 2)) tNext)
    (tCut (tIfS (tTest (tOp rEqI (tVar 1) (tC (.int 2)))) (tAsg (tSl rSlS (tM1 (rJoin K) (tC (.str ("" : Str))) (tLc (iList K (tVar 0)) (gName 5) tYes (tOp rMulT (tOp rIxS (tC (.str ("ud" : Str))) (tOp rModI (tOp rDivI (tVar 5) (tC (.int 2))) (tC (.int 2)))) (tOp rAddI (tC (.int 1)) (tOp rModI (tOp rDivI (tVar 5) (tC (.int 4))) (tC (.int 3))))) [5])) tNoPart (tPart (tC (.int 64)))) (gName 2)) tNext)
    (tCut (tIfS (tAnd (tTest (tOp rEqI (tVar 1) (tC (.int 3)))) (tTest (tOp (rNeD K) (tVar 0) (tLst tNil)))) (tSeq (tAsg (tOp rDivI (tOp (rIxL K) (tVar 0) (tUn rNegI (tC (.int 1)))) (tC (.int 3))) (gName 4))
    (tSeq (tFor (iRng1 (tCons (tCall (sp_l_draw K) [] E0 (tCons (tOp (rIxL K) (tVar 0) (tUn rNegI (tC (.int 1)))) (tCons (tC (.int 8)) (tCons (tC (.int 60)) tNil)))) tNil)) (gName 3) (tSeq (tAsg (tOp rAddT (tVar 2) (tOp rIxS (tC (.str ("ud" : Str))) (tOp rModI (tVar 4) (tC (.int 2))))) (gName 2))
    (tAsg (tOp rDivI (tVar 4) (tC (.int 2))) (gName 4))))
    (tAsg (tSl rSlS (tVar 2) tNoPart (tPart (tC (.int 64)))) (gName 2)))) tNext)
    (tRet (tVar 2))))))))

theorem ud_at (c : Int) : atI [true, false] (c % 2) = some (decide (c % 2 = 0)) := by
  have h0 : 0 ≤ c % 2 := Int.emod_nonneg _ (by decide)
  have h1 : c % 2 < 2 := Int.emod_lt_of_pos _ (by decide)
  rcases (by omega : c % 2 = 0 ∨ c % 2 = 1) with e | e <;> (rw [e]; rfl)
theorem du_at (c : Int) : atI [false, true] (c % 2) = some (!decide (c % 2 = 0)) := by
  have h0 : 0 ≤ c % 2 := Int.emod_nonneg _ (by decide)
  have h1 : c % 2 < 2 := Int.emod_lt_of_pos _ (by decide)
  rcases (by omega : c % 2 = 0 ∨ c % 2 = 1) with e | e <;> (rw [e]; rfl)
theorem er_ud {K : PySem.W.Frag} {σ : L2.St} {H : Hp} {tb : TE} {c : Int} (h : Er K tb σ H c) : Er K (tOp rIxS (tC (.str "ud")) (tOp rModI tb (tC (.int 2)))) σ H (tx [decide (c % 2 = 0)]) :=
  er_ixW (er_lit tx_ud) (er_mod h er_int (by decide)) (by decide) (ud_at c)
theorem er_du {K : PySem.W.Frag} {σ : L2.St} {H : Hp} {tb : TE} {c : Int} (h : Er K tb σ H c) : Er K (tOp rIxS (tC (.str "du")) (tOp rModI tb (tC (.int 2)))) σ H (tx [!decide (c % 2 = 0)]) :=
  er_ixW (er_lit tx_du) (er_mod h er_int (by decide)) (by decide) (du_at c)
theorem sum_le {α : Type} (f : α → Nat) (c : Nat) : ∀ l : List α, (∀ a ∈ l, f a ≤ c) → (l.map f).sum ≤ l.length * c
  | [], _ => by simp
  | a :: l, h => by
    have h1 := sum_le f c l fun b hb => h b (by simp [hb])
    have h2 := h a (by simp)
    rw [List.map_cons, List.sum_cons, List.length_cons, Nat.add_mul]
    omega
/-- a word stands in slot 2 -/
def MidW (K : PySem.W.Frag) (B : Hp) (s : List Int) (k : Int) (n : Nat) (σ : L2.St) (H : Hp) : Prop := ∃ (v : V) (w : List Bool) (x3 x4 x5 : Option V), σ = [some v, some (.int k), some (.str (tx w)), x3, x4, x5] ∧ Ex B H ∧ Rep.rep K H v s ∧ w.length ≤ n
theorem catW_len {α : Type} {l : List α} {f : α → Str} {n : Nat} (h : (l.map fun a => (f a).length).sum ≤ n) : ((l.map f).map (·.length)).sum ≤ n := by
  rw [List.map_map]; exact h
theorem cat_words {α : Type} (l : List α) (f : α → List Bool) : catS (l.map fun a => tx (f a)) = tx (l.flatMap f) := by
  have h := tx_cat (l.map f)
  rw [List.map_map] at h
  rw [List.flatMap_def]
  exact h
theorem flat_le {α β : Type} (f : α → List β) (c : Nat) (hf : ∀ a, (f a).length ≤ c) : ∀ l : List α, (l.flatMap f).length ≤ l.length * c
  | [] => by simp
  | a :: l => by
    have h1 := flat_le f c hf l
    have h2 := hf a
    rw [List.flatMap_cons, List.length_append, List.length_cons, Nat.add_mul]
    omega
theorem pure_l_word (K : PySem.W.Frag) (vs : List V) (H : Hp) (Q : VK) (E : XK) (h : sp_l_word K vs H Q E) : t_l_word K { nx := fun _ H' => Q .non H', rt := Q } (start N_l_word vs) H := by
  obtain ⟨v0, s0, rfl, r0, hl0, q⟩ := h
  -- the first sixty-three
  refine Gx.here (K := K) (q_asg (a := s0.take 63) ((ErF.er (erf_sl (er_var rfl r0) eo_no (eo_at er_int))).to (cutL_take s0 63)) fun v H1 e1 r => ?_)
  obtain ⟨s, es⟩ : ∃ s, s0.take 63 = s := ⟨_, rfl⟩
  have hl : s.length ≤ 63 := by rw [← es, List.length_take]; omega
  rw [es] at r
  refine q_asgI (a := drawI (cellAt s 0) 6 5) (er_call3 (er_call2 (a := s) (b := (0 : Int)) (er_var rfl r) er_int (by decide)) er_int er_int (by decide)) ?_
  generalize drawI (cellAt s 0) 6 5 = k
  -- any letters
  refine q_asgT (a := tx (s.map fun c => decide (c % 2 = 0))) ((er_join (ys := s.map fun c => tx [decide (c % 2 = 0)]) (by decide +kernel) (ErF.er (erf_lc (er_var rfl r) (by omega) (fun _ => rfl) fun i a v H2 _ _ ra => es_flat (er_ud (er_var rfl ra)))) (catW_len ?_)).to (tx_map _ _)) ?_
  · refine Nat.le_trans (sum_le _ 1 s fun a _ => ?_) (by omega)
    rw [tx_len]; exact Nat.le_refl _
  -- by turns but for some
  refine g_cut (MidW K H1 s k 63) (g_if (b := (k == 1)) (et_e (er_eqi (er_var rfl rfl) er_int)) (fun _ => ?_) fun _ => g_next fun H2 e2 => ⟨v, _, none, none, none, rfl, e2, up r e2, by rw [List.length_map]; exact hl⟩) ?_
  · refine g_asgT (a := catS ((s.zipIdx.filter fun _ => true).map fun c => tx [if decide (c.1 % 7 > 0) then decide ((c.2 : Int) % 2 = 0) else !decide ((c.2 : Int) % 2 = 0)])) (er_join (ys := (s.zipIdx.filter fun _ => true).map fun c => tx [if decide (c.1 % 7 > 0) then decide ((c.2 : Int) % 2 = 0) else !decide ((c.2 : Int) % 2 = 0)]) (by decide +kernel)
      (ErF.er (erf_lcE (p := fun _ _ => true) (f := fun i c => tx [if decide (c % 7 > 0) then decide ((i : Int) % 2 = 0) else !decide ((i : Int) % 2 = 0)]) (er_var rfl r) (by omega) (fun _ _ => rfl) (fun _ _ _ _ _ _ _ => et_yes) fun i a v H2 _ _ ra _ => es_flat ?_)) (catW_len ?_)) fun H2 e2 => ⟨v, (s.zipIdx.filter fun _ => true).map fun c => if decide (c.1 % 7 > 0) then decide ((c.2 : Int) % 2 = 0) else !decide ((c.2 : Int) % 2 = 0), none, none, none, ?_, e2, up r e2, ?_⟩
    · refine (er_if (b := decide (a % 7 > 0)) (x := tx [decide ((i : Int) % 2 = 0)]) (y := tx [!decide ((i : Int) % 2 = 0)]) (et_e (er_gt (er_mod (er_var rfl ra) er_int (by decide)) er_int)) (fun _ => er_ud (er_var rfl rfl)) fun _ => er_du (er_var rfl rfl)).to ?_
      cases decide (a % 7 > 0) <;> rfl
    · refine Nat.le_trans (sum_le _ 1 _ fun a _ => ?_) ?_
      · rw [tx_len]; exact Nat.le_refl _
      · rw [filter_yes, List.length_zipIdx]; omega
    · rw [tx_map]; rfl
    · rw [filter_yes, List.length_map, List.length_zipIdx]; exact hl
  · rintro σ H2 ⟨v, w, x3, x4, x5, rfl, e2, r, hw⟩
    -- long runs
    refine g_cut (MidW K H1 s k 64) (g_if (b := (k == 2)) (et_e (er_eqi (er_var rfl rfl) er_int)) (fun _ => ?_) fun _ => g_next fun H3 e3 => ⟨v, w, x3, x4, x5, rfl, e2.trans e3, up r e3, by omega⟩) ?_
    · have hrun : ∀ c : Int, 0 ≤ 1 + c / 4 % 3 ∧ 1 + c / 4 % 3 ≤ 3 := fun c => by
        have := Int.emod_nonneg (c / 4) (show (3 : Int) ≠ 0 by decide)
        have := Int.emod_lt_of_pos (c / 4) (show (0 : Int) < 3 by decide)
        omega
      have hlen : ((s.map fun c => tx (List.replicate (1 + c / 4 % 3).toNat (decide (c / 2 % 2 = 0)))).map (·.length)).sum ≤ 1000 := catW_len (Nat.le_trans (sum_le _ 3 _ fun a _ => by rw [tx_len, List.length_replicate]; have := hrun a; omega) (by omega))
      have hcat := cat_words s fun c => List.replicate (1 + c / 4 % 3).toNat (decide (c / 2 % 2 = 0))
      have hfl := flat_le (fun c : Int => List.replicate (1 + c / 4 % 3).toNat (decide (c / 2 % 2 = 0))) 3 (fun c => by rw [List.length_replicate]; have := hrun c; omega) s
      refine g_asgT (a := tx ((s.flatMap fun c => List.replicate (1 + c / 4 % 3).toNat (decide (c / 2 % 2 = 0))).take 64)) ((er_slS (z := tx (s.flatMap fun c => List.replicate (1 + c / 4 % 3).toNat (decide (c / 2 % 2 = 0)))) ((er_join (ys := s.map fun c => tx (List.replicate (1 + c / 4 % 3).toNat (decide (c / 2 % 2 = 0)))) (by decide +kernel)
        (ErF.er (erf_lc (er_var rfl r) (by omega) (fun _ => rfl) fun i c v H3 _ _ rc => es_flat ((er_mulT (er_ud (er_div (er_var rfl rc) er_int ⟨by decide, by decide⟩)) (er_add er_int (er_mod (er_div (er_var rfl rc) er_int ⟨by decide, by decide⟩) er_int (by decide))) (hrun c).1 (by have := (hrun c).2; omega) (by rw [tx_len]; exact Nat.le_of_ble_eq_true rfl)).to (tx_reps _ _)))) (by omega)).to hcat) eo_no (eo_at er_int) ?_).to ?_) fun H3 e3 => ⟨v, _, _, _, _, rfl, e2.trans e3, up r e3, ?_⟩
      · rw [tx_len]; omega
      · rw [tx_cut]
        exact congrArg tx (cutL_take _ 64)
      · rw [List.length_take]; omega
    · rintro σ H3 ⟨v, w, x3, x4, x5, rfl, e3, r, hw⟩
      refine g_cut (MidW K H1 s k 64) (g_if (b := ((k == 3) && !decide (s = []))) (et_and' (et_e (er_eqi (er_var rfl rfl) er_int)) fun _ => et_e (er_neD (a := s) (b := []) (er_var rfl r) (ErF.er (erf_lst eal_nil (by decide))) (fun _ _ => trivial) (fun _ _ => trivial) (by decide))) (fun hb => ?_) fun _ => g_next fun H4 e4 => ⟨v, w, x3, x4, x5, rfl, e3.trans e4, up r e4, by omega⟩) ?_
      · -- sixty letters more
        have hs : s ≠ [] := by
          simp only [Bool.and_eq_true, Bool.not_eq_true', decide_eq_false_iff_not] at hb
          exact hb.2
        obtain ⟨z, hz⟩ : ∃ z, s.getLast? = some z := by
          cases hq : s.getLast? with
          | none => rw [List.getLast?_eq_none_iff] at hq; exact absurd hq hs
          | some z => exact ⟨z, rfl⟩
        refine q_asgI (a := z / 3) (er_div (er_ixL (er_var rfl r) (er_neg er_int) (atI_neg1 hz)) er_int ⟨by decide, by decide⟩) ?_
        have hd := draw_lt z 8 (m := 60) (by decide)
        refine q_forR (lo := 0) (n := (drawI z 8 60).toNat) (rng1 (er_call3 (er_ixL (er_var rfl r) (er_neg er_int) (atI_neg1 hz)) er_int er_int (by decide)) (by omega) (by omega)) (fun i σ H' => ∃ (w : List Bool) (l : Int) (x3 x5 : Option V), σ = [some v, some (.int k), some (.str (tx w)), x3, some (.int l), x5] ∧ Ex H3 H' ∧ w.length ≤ 64 + i) (fun H4 e4 => ⟨w, _, _, _, rfl, e4, by omega⟩) ?_ ?_
        · rintro i σ H' hi ⟨w, l, x3, x5, rfl, e4, hw⟩
          refine q_asgT (a := tx (w ++ [decide (l % 2 = 0)])) ((er_addT (er_var rfl rfl) (er_ud (er_var rfl rfl)) ?_).to (tx_app _ _)) (g_asgI (a := l / 2) (er_div (er_var rfl rfl) er_int ⟨by decide, by decide⟩) fun H5 e5 => ⟨_, _, _, _, rfl, e4.trans e5, ?_⟩)
          · rw [tx_len, tx_len, List.length_singleton]; omega
          · rw [List.length_append, List.length_singleton]; omega
        · rintro σ H' ⟨w, l, x3, x5, rfl, e4, hw⟩
          refine g_asgT (a := tx (w.take 64)) ((er_slS (er_var rfl rfl) eo_no (eo_at er_int) ?_).to ?_) fun H5 e5 => ⟨v, _, _, _, _, rfl, (e3.trans e4).trans e5, up r (e4.trans e5), ?_⟩
          · rw [tx_len]; omega
          · rw [tx_cut]
            exact congrArg tx (cutL_take _ 64)
          · rw [List.length_take]; omega
      · rintro σ H4 ⟨v, w, x3, x4, x5, rfl, e4, r, hw⟩
        refine g_ret (a := tx w) (er_var rfl rfl) fun u H5 e5 ru => ?_
        obtain rfl : u = .str (tx w) := ru
        exact q w H5 hw ((e1.trans e4).trans e5)
theorem ok_l_word {f f_l_cell_at f_l_draw : Addr} {fd fd_l_cell_at fd_l_draw : FuncData} (F : Fun K "_law_word" "_law_word" s_l_word f fd) (T : Bi mg) (c_l_cell_at : Cal P w K mg base 1 "_law_cell_at" ["_law_script", "_law_k"] (sp_l_cell_at K) f_l_cell_at fd_l_cell_at) (c_l_draw : Cal P w K mg base 1 "_law_draw" ["_law_cell", "_law_k", "_law_many"] (sp_l_draw K) f_l_draw fd_l_draw) : FnOk P w K mg base CX0 2 f fd ["_law_script"] (sp_l_word K) :=
  F.ok sc_l_word (fun vs H Q E h => by first | exact len_pr1 h | exact len_pr2 h | exact len_pr3 h | exact len_prF1 h | exact len_prF2 h | exact len_l_word h) (fun cdv A outer s H vs Q E hr h => ⟨t_l_word K, by exact
    ((pss_cons (ps_set (i := 0) sc_l_word.nd rfl (.inl rfl) (pe_slice sl_list (pv 0) po_none (po_some pe_int)))
      (pss_cons (ps_set (i := 1) sc_l_word.nd rfl (.inl rfl) (pe_call c_l_draw.ok (hr.mono (by decide)) (by rfl) c_l_draw.g c_l_draw.kp c_l_draw.b .nil pass0 (pa_cons (pe_call c_l_cell_at.ok (hr.mono (by decide)) (by rfl) c_l_cell_at.g c_l_cell_at.kp c_l_cell_at.b .nil pass0 (pa_cons (pv 0) (pa_cons pe_int pa_nil))) (pa_cons pe_int (pa_cons pe_int pa_nil)))))
      (pss_cons (ps_set (i := 2) sc_l_word.nd rfl (.inl rfl) (pe_join' pe_str (pe_lc (own := [("_law_cell", 5)]) (g := (gName 5)) (tt := tYes) rfl sc_l_word.nd (pi_list (pv 0)) (blkOk_by (own := [("_law_cell", 5)]) (N := N_l_word) (sc := defScope s_l_word) (by decide +kernel)) (fun _ _ _ _ _ => (pg_name (i := 5) sc_l_word.nd rfl (.inl rfl))) (fun _ _ _ _ _ => pts_nil) (fun _ _ _ _ _ => (pe_ix ix_str pe_str (pe_op oModI (pv 5) pe_int) (fun _ _ => rfl))))))
      (pss_cut (ps_if (pt_cmpR oEqI (pv 1) pe_int (nomark _)) (pss_one (ps_set (i := 2) sc_l_word.nd rfl (.inl rfl) (pe_join' pe_str (pe_lc (own := [("_law_k", 3), ("_law_cell", 5)]) (g := (gTup K 2 (gCons (gName 3) (gCons (gName 5) gNil)))) (tt := tYes) rfl sc_l_word.nd (pi_enum (by rfl) T.enumerate_ (pa_cons (pv 0) pa_nil)) (blkOk_by (own := [("_law_k", 3), ("_law_cell", 5)]) (N := N_l_word) (sc := defScope s_l_word) (by decide +kernel)) (fun _ _ _ _ _ => (pg_tup rfl (pgs_cons (pg_name (i := 3) sc_l_word.nd rfl (.inl rfl)) (pgs_cons (pg_name (i := 5) sc_l_word.nd rfl (.inl rfl)) pgs_nil)))) (fun _ _ _ _ _ => pts_nil) (fun _ _ _ _ _ => (pe_ifExp (pt_cmpR oGtI (pe_op oModI (pv 5) pe_int) pe_int (nomark _)) (pe_ix ix_str pe_str (pe_op oModI (pv 3) pe_int) (fun _ _ => rfl)) (pe_ix ix_str pe_str (pe_op oModI (pv 3) pe_int) (fun _ _ => rfl))))))))
      pss_nil)
      (pss_cut (ps_if (pt_cmpR oEqI (pv 1) pe_int (nomark _)) (pss_one (ps_set (i := 2) sc_l_word.nd rfl (.inl rfl) (pe_slice sl_str (pe_join' pe_str (pe_lc (own := [("_law_cell", 5)]) (g := (gName 5)) (tt := tYes) rfl sc_l_word.nd (pi_list (pv 0)) (blkOk_by (own := [("_law_cell", 5)]) (N := N_l_word) (sc := defScope s_l_word) (by decide +kernel)) (fun _ _ _ _ _ => (pg_name (i := 5) sc_l_word.nd rfl (.inl rfl))) (fun _ _ _ _ _ => pts_nil) (fun _ _ _ _ _ => (pe_op oMulT (pe_ix ix_str pe_str (pe_op oModI (pe_op oDivI (pv 5) pe_int) pe_int) (fun _ _ => rfl)) (pe_op oAddI pe_int (pe_op oModI (pe_op oDivI (pv 5) pe_int) pe_int)))))) po_none (po_some pe_int))))
      pss_nil)
      (pss_cut (ps_if (PW.pt (pw_and (pt_cmpR oEqI (pv 1) pe_int (nomark _)) (pw_and1 (pt_cmpR (op_neD hr.units) (pv 0) (pe_lst pa_nil) (nomark _))))) (pss_cons (ps_set (i := 4) sc_l_word.nd rfl (.inl rfl) (pe_op oDivI (pe_ix ix_list (pv 0) (pe_un oNegI pe_int) (fun _ _ => rfl)) pe_int))
      (pss_cons (ps_for PassesOwn.never rfl (pi_range1 (by rfl) T.range_ (pa_cons (pe_call c_l_draw.ok (hr.mono (by decide)) (by rfl) c_l_draw.g c_l_draw.kp c_l_draw.b .nil pass0 (pa_cons (pe_ix ix_list (pv 0) (pe_un oNegI pe_int) (fun _ _ => rfl)) (pa_cons pe_int (pa_cons pe_int pa_nil)))) pa_nil)) (pg_name (i := 3) sc_l_word.nd rfl (.inl rfl))
      (pss_cons (ps_set (i := 2) sc_l_word.nd rfl (.inl rfl) (pe_op oAddT (pv 2) (pe_ix ix_str pe_str (pe_op oModI (pv 4) pe_int) (fun _ _ => rfl))))
      (pss_one (ps_set (i := 4) sc_l_word.nd rfl (.inl rfl) (pe_op oDivI (pv 4) pe_int)))))
      (pss_one (ps_set (i := 2) sc_l_word.nd rfl (.inl rfl) (pe_slice sl_str (pv 2) po_none (po_some pe_int))))))
      pss_nil)
      (pss_one (ps_ret (pv 2)))))))))), pure_l_word K vs H Q E h⟩)


/-! ### a drawn number -/
def farF (s : List Int) (b : Int) : Nat → Int
  | 0 => 0
  | k + 1 => farF s b k * 1000003 + s.getD k 0 / 11 + drawI (s.getD k 0) ((k : Int) % 3 + b) 1000003
def farI (s : List Int) (b m : Int) : Int := farF s b s.length % m
def sp_l_far (K : PySem.W.Frag) : Sp := Pr3 K (fun (s : List Int) (_ m : Int) => s.length ≤ 1000 ∧ 0 < m) farI
abbrev s_l_far : Stmt := topS 29
abbrev N_l_far : List Str := ["_law_script", "_law_by", "_law_most", "_law_found", "_law_k"]
theorem sc_l_far : FnScope N_l_far ["_law_script", "_law_by", "_law_most"] (defScope s_l_far) := ⟨rfl, rfl, rfl, by decide +kernel, rfl, by decide +kernel, by decide +kernel⟩
def t_l_far (K : PySem.W.Frag) : TS :=
  (tSeq (tAsg (tC (.int 0)) (gName 3))
    (tSeq (tFor (iRng1 (tCons (tCB (rLenL K) (tCons (tVar 0) tNil)) tNil)) (gName 4) (tAsg (tOp rAddI (tOp rAddI (tOp rMulI (tVar 3) (tC (.int 1000003))) (tOp rDivI (tOp (rIxL K) (tVar 0) (tVar 4)) (tC (.int 11)))) (tCall (sp_l_draw K) [] E0 (tCons (tOp (rIxL K) (tVar 0) (tVar 4)) (tCons (tOp rAddI (tOp rModI (tVar 4) (tC (.int 3))) (tVar 1)) (tCons (tC (.int 1000003)) tNil))))) (gName 3)))
    (tRet (tOp rModI (tVar 3) (tVar 2)))))

theorem pure_l_far (K : PySem.W.Frag) (vs : List V) (H : Hp) (Q : VK) (E : XK) (h : sp_l_far K vs H Q E) : t_l_far K { nx := fun _ H' => Q .non H', rt := Q } (start N_l_far vs) H := by
  obtain ⟨v, _, _, s, b, m, rfl, r, rfl, rfl, ⟨hl, hm⟩, q⟩ := h
  refine Gx.here (K := K) (q_asgI (a := 0) er_int ?_)
  refine q_forR (lo := 0) (n := s.length) ((rng1 (er_lenL (er_var rfl r)) (by omega) (by omega)).to (by omega)) (fun k σ H' => ∃ x4 : Option V, σ = [some v, some (.int b), some (.int m), some (.int (farF s b k)), x4] ∧ Ex H H') (fun H1 e => ⟨none, rfl, e⟩) ?_ ?_
  · rintro k σ H' hk ⟨x4, rfl, e⟩
    have at' : Er K (tOp (rIxL K) (tVar 0) (tVar 4)) [some v, some (.int b), some (.int m), some (.int (farF s b k)), some (.int (0 + (k : Int)))] H' (s.getD k 0) := er_ixL (er_var rfl (up r e)) (er_var rfl rfl) (at_getD (by omega) hk)
    have kE : Er K (tVar 4) [some v, some (.int b), some (.int m), some (.int (farF s b k)), some (.int (0 + (k : Int)))] H' (k : Int) := (er_var rfl rfl : Er K (tVar 4) _ H' ((0 : Int) + (k : Int))).to (by omega)
    exact g_asgI (a := farF s b (k + 1)) (er_add (er_add (er_mul (er_var rfl rfl) er_int (Or.inr ⟨by decide, by decide⟩)) (er_div at' er_int ⟨by decide, by decide⟩)) (er_call3 at' (er_add (er_mod kE er_int (by decide)) (er_var rfl rfl)) er_int (by decide))) fun H1 e1 => ⟨_, rfl, e.trans e1⟩
  · rintro σ H' ⟨x4, rfl, e⟩
    exact g_ret (a := farI s b m) (er_mod (er_var rfl rfl) (er_var rfl rfl) hm) fun u H1 e1 => q u H1 (e.trans e1)
theorem ok_l_far {f f_l_draw : Addr} {fd fd_l_draw : FuncData} (F : Fun K "_law_far" "_law_far" s_l_far f fd) (T : Bi mg) (c_l_draw : Cal P w K mg base 1 "_law_draw" ["_law_cell", "_law_k", "_law_many"] (sp_l_draw K) f_l_draw fd_l_draw) : FnOk P w K mg base CX0 2 f fd ["_law_script", "_law_by", "_law_most"] (sp_l_far K) :=
  F.ok sc_l_far (fun vs H Q E h => by first | exact len_pr1 h | exact len_pr2 h | exact len_pr3 h | exact len_prF1 h | exact len_prF2 h | exact len_l_far h) (fun cdv A outer s H vs Q E hr h => ⟨t_l_far K, by exact
    ((pss_cons (ps_set (i := 3) sc_l_far.nd rfl (.inl rfl) pe_int)
      (pss_cons (ps_for PassesOwn.never rfl (pi_range1 (by rfl) T.range_ (pa_cons (pe_callB cLenL (by rfl) T.len_ (by decide +kernel) (pa_cons (pv 0) pa_nil)) pa_nil)) (pg_name (i := 4) sc_l_far.nd rfl (.inl rfl))
      (pss_one (ps_set (i := 3) sc_l_far.nd rfl (.inl rfl) (pe_op oAddI (pe_op oAddI (pe_op oMulI (pv 3) pe_int) (pe_op oDivI (pe_ix ix_list (pv 0) (pv 4) (fun _ _ => rfl)) pe_int)) (pe_call c_l_draw.ok (hr.mono (by decide)) (by rfl) c_l_draw.g c_l_draw.kp c_l_draw.b .nil pass0 (pa_cons (pe_ix ix_list (pv 0) (pv 4) (fun _ _ => rfl)) (pa_cons (pe_op oAddI (pe_op oModI (pv 4) pe_int) (pv 1)) (pa_cons pe_int pa_nil))))))))
      (pss_one (ps_ret (pe_op oModI (pv 3) (pv 2))))))), pure_l_far K vs H Q E h⟩)


/-! ### law 5 -/
theorem ways_run : ∀ w, rsW w = MC.run (w.reverse.map (!·)) [1]
  | [] => rfl
  | b :: w => by
    rw [rsW, ways_run w, List.reverse_cons, List.map_append, MC.run_append]
    rfl
theorem ways_F (w : List Bool) : (rsW w).sum = MC.F w := by
  rw [ways_run]
  show MC.F (w.reverse.map (!·)) = MC.F w
  rw [MC.F_not, MC.F_rev]
def sp_law (K : PySem.W.Frag) : Sp := fun vs H Q _ => ∃ v s, vs = [v] ∧ Rep.rep K H v (s : List Int) ∧ s.length ≤ 63 ∧ ∀ H', Q (.bl true) H'
theorem len_law {vs : List V} {H : Hp} {Q : VK} {E : XK} (h : sp_law K vs H Q E) : vs.length = 1 := by obtain ⟨_, _, rfl, _⟩ := h; rfl
theorem law_asks {K : PySem.W.Frag} {H : Hp} {a : Addr} {ns : List Int} (hl : ns.length ≤ 63) (hS : SqL K H a (ns.map V.int)) : sp_law K [.ref a] H (fun v _ => v = .bl true) fun _ _ _ => False :=
  ⟨_, ns, rfl, ⟨a, rfl, int_lst hS⟩, hl, fun _ => rfl⟩
abbrev s_law : Stmt := topS 38
abbrev N_law : List Str := ["_law_script", "_law_far_here", "_law_due", "_law_k", "_law_word_here", "_law_many", "_law_bad", "_law_at", "_law_whole_here", "_law_number"]
theorem sc_law : FnScope N_law ["_law_script"] (defScope s_law) := ⟨rfl, rfl, rfl, by decide +kernel, rfl, by decide +kernel, by decide +kernel⟩
def t_law (K : PySem.W.Frag) (cs : EC) (f_l_with_word f_l_with_row f_order_of f_number_of : Addr) : TS :=
  (tSeq (tAsg (tOp rModI (tCall (sp_l_cell_at K) [] E0 (tCons (tVar 0) (tCons (tC (.int 0)) tNil))) (tOp rPowI (tC (.int 10)) (tC (.int 6)))) (gName 1))
    (tSeq (tAsg (tLst tNil) (gName 2))
    (tSeq (tFor (iRng1 (tCons (tC (.int 4)) tNil)) (gName 3) (tDrop (tBM K "list" rAppend (tVar 2) (tCons (tLst (tCons (tOp rEqI (tVar 3) (tC (.int 0))) (tCons (tOp rEqI (tVar 3) (tC (.int 1))) (tCons (tOp rEqI (tVar 3) (tC (.int 2))) (tCons (tOp rEqI (tVar 3) (tC (.int 3))) (tCons (tC (.bl true)) tNil)))))) tNil))))
    (tSeq (tAsg (tCall (sp_l_word K) [] E0 (tCons (tVar 0) tNil)) (gName 4))
    (tSeq (tPar 5 6 (tCons (tCB rLenT (tCons (tVar 4) tNil)) (tCons (tLst (tCons (tC .non) (tCons (tC (.int 5)) (tCons (tLst (tCons (tC (.str ("u" : Str))) tNil)) (tCons (tTup (tCons (tC (.str ("u" : Str))) tNil)) (tCons (tC (.str ("U" : Str))) (tCons (tC (.str ("x" : Str))) (tCons (tC (.str ("u d" : Str))) (tCons (tC (.str (" " : Str))) (tCons (tC (.str ("ud\n" : Str))) (tCons (tC (.str ("1" : Str))) (tCons (tC (.bl true)) (tCons (tC (.str ("uv" : Str))) (tCons tDNewK tNil)))))))))))))) tNil)))
    (tSeq (tFor (iRng3 (tCons (tC (.int 0)) (tCons (tVar 5) (tCons (tOp rAddI (tC (.int 1)) (tOp rDivI (tVar 5) (tC (.int 6)))) tNil)))) (gName 7) (tDrop (tBM K "list" rAppend (tVar 6) (tCons (tOp rAddT (tOp rAddT (tSl rSlS (tVar 4) tNoPart (tPart (tVar 7))) (tOp rIxS (tC (.str ("xU -\t" : Str))) (tOp rModI (tVar 7) (tC (.int 5))))) (tSl rSlS (tVar 4) (tPart (tOp rAddI (tVar 7) (tC (.int 1)))) tNoPart)) tNil))))
    (tSeq (tIfS (tNot (tB (tCall (sp_l_all K cs f_l_with_word f_l_with_row f_order_of f_number_of) [] E0 (tCons (tC (.ref f_l_with_word)) (tCons (tLst (tCons (tC (.int 0)) (tCons (tC (.int 1)) (tCons (tC (.int 2)) tNil)))) (tCons (tVar 6) (tCons (tOp (rIxL K) (tVar 2) (tC (.int 0))) tNil))))))) (tRet (tC (.bl false))) tNext)
    (tSeq (tAsg (tCall (sp_l_count K) [] E0 (tCons (tVar 4) tNil)) (gName 8))
    (tSeq (tFor (iTup K (tTup (tCons (tC .non) (tCons (tC (.str ("0" : Str))) (tCons (tC (.bl true)) (tCons (tLst (tCons (tC (.int 0)) tNil)) (tCons (tUn rNegI (tC (.int 1))) (tCons (tOp rSubI (tUn rNegI (tC (.int 1))) (tVar 1)) (tCons (tVar 8) (tCons (tOp rAddI (tVar 8) (tVar 1)) (tCons (tTup (tCons (tC (.int 0)) tNil)) tNil))))))))))) (gName 9) (tIfS (tTest (tOp (rNeD K) (tCall (sp_l_told K cs f_l_with_word f_l_with_row f_order_of f_number_of) [] E0 (tCons (tC (.ref f_order_of)) (tCons (tVar 4) (tCons (tVar 9) tNil)))) (tOp (rIxL K) (tVar 2) (tC (.int 1))))) (tRet (tC (.bl false))) tNext))
    (tSeq (tIfS (tNot (tB (tCall (sp_l_orders_right K cs f_l_with_word f_l_with_row f_order_of f_number_of) [] E0 (tCons (tVar 4) (tCons (tCall (sp_order_of K cs) [] E0 (tCons (tVar 4) (tCons (tCall (sp_l_far K) [] E0 (tCons (tVar 0) (tCons (tC (.int 3)) (tCons (tVar 8) tNil)))) tNil))) (tCons (tOp (rIxL K) (tVar 2) (tC (.int 2))) (tCons (tVar 1) tNil))))))) (tRet (tC (.bl false))) tNext)
    (tRet (tAndV (tCall (sp_l_rows_right K cs f_l_with_word f_l_with_row f_order_of f_number_of) [] E0 (tCons (tVar 0) (tCons (tOp (rIxL K) (tVar 2) (tC (.int 3))) (tCons (tVar 1) tNil)))) (tAndV (tOp rEqT (tCall (sp_word_of K cs) [] E0 (tCons (tLst (tCons (tVar 1) tNil)) tNil)) (tC (.str ("" : Str)))) (tOp rEqI (tCall (sp_count K cs) [] E0 (tCons (tC (.str ("u" : Str))) tNil)) (tC (.int 1))))))))))))))))

/-- no word -/
def BadW (t : Th) : Prop := szT 1000 t ∧ goodW t = false
theorem told_word {K : PySem.W.Frag} {cs : EC} {fw fr fo fn : Addr} {d : Int} {t : Th} {x y : V} {H : Hp} (rx : Rep.rep K H x d) (ry : Rep.rep K H y t) (hb : BadW t) : Told K cs fw fr fo fn H fw x y 0 :=
  ⟨sp_l_with_word K cs, Or.inl ⟨rfl, rfl⟩, fun H1 e Q E hE => ⟨x, y, d, t, rfl, Rep.mono e rx, Rep.mono e ry, hb, (fun z => by cases z), fun C hC H' e' => by cases hC; exact hE H' e'⟩⟩
theorem okW_bad {z : Str} {c : Nat} (h : c ∈ z.cps.toList) (h1 : c ≠ 117) (h2 : c ≠ 100) : goodW (.str z) = false := by
  show okW z = false
  cases hz : okW z with
  | false => rfl
  | true =>
    have := (okW_iff z).mp hz c h
    omega
theorem str_app (a b : Str) : (a ++ b).cps.toList = a.cps.toList ++ b.cps.toList := by
  show (a.cps ++ b.cps).toList = _
  simp
/-- no number of an order of w -/
def BadN (cs : EC) (w : List Bool) (t : Th) : Prop := errN cs (.str (tx w)) t = some cs.N
theorem badN_no {cs : EC} {w : List Bool} {t : Th} (h : isWh t = false) : BadN cs w t := by
  have hg : goodW (.str (tx w)) = true := (okW_iff _).mpr (isW_tx w)
  unfold BadN errN
  rw [if_pos hg]
  cases t with
  | int i => cases h
  | _ => rfl
theorem errN_int {cs : EC} {w : List Bool} {x : Int} : errN cs (.str (tx w)) (.int x) = if decide (0 ≤ x) && decide (x < MC.F w) then none else some cs.N := by
  have hg : goodW (.str (tx w)) = true := (okW_iff _).mpr (isW_tx w)
  unfold errN
  rw [if_pos hg]
  show (if decide (0 ≤ x) && decide (x < (rsW (unz (tx w))).sum) then none else some cs.N) = _
  rw [unz_tx, ways_F]
theorem badN_int {cs : EC} {w : List Bool} {x : Int} (h : x < 0 ∨ MC.F w ≤ x) : BadN cs w (.int x) := by
  unfold BadN
  rw [errN_int]
  refine if_neg fun z => ?_
  rw [Bool.and_eq_true, decide_eq_true_iff, decide_eq_true_iff] at z
  omega
theorem told_order {K : PySem.W.Frag} {cs : EC} {fw fr fo fn : Addr} {w : List Bool} {t : Th} {x y : V} {H : Hp} (rx : Rep.rep K H x (tx w)) (ry : Rep.rep K H y t) (hw : w.length ≤ 100) (hb : BadN cs w t) : Told K cs fw fr fo fn H fo x y 1 :=
  ⟨sp_order_of K cs, Or.inr (Or.inr (Or.inl ⟨rfl, rfl⟩)), fun H1 e Q E hE => ⟨x, y, Th.str (tx w), t, rfl, th_str.mpr (Rep.mono e rx), Rep.mono e ry, (show (tx w).length ≤ 1000 by rw [tx_len]; omega), (fun z => by rw [hb] at z; cases z), fun C hC H' e' => by rw [hb] at hC; cases hC; exact hE H' e'⟩⟩
section
variable {α : Type} [Rep α] {K : PySem.W.Frag} {σ : L2.St} {H : Hp} {ta tb tc td te : TE} {t u : TT} {D : Ends} {tu tz : TS} {cs : EC} {fw fr fo fn : Addr}
theorem er_whole {w : List Bool} (h : Er K te σ H (tx w)) (hl : w.length ≤ 1000) : Er K (tCall (sp_l_count K) [] E0 (tCons te tNil)) σ H (MC.F w) :=
  (er_call1 (f := fun z => MC.F (unz z)) (a := tx w) h ⟨isW_tx w, by rw [tx_len]; exact hl⟩).to (by show MC.F (unz (tx w)) = _; rw [unz_tx])
theorem q_word {i : Nat} {s : List Int} (h : Er K te σ H s) (hl : s.length ≤ 63) (k : ∀ w : List Bool, w.length ≤ 64 → Gx K (tz D) (σ.set i (some (.str (tx w)))) H) : Gx K (tSeq (tAsg (tCall (sp_l_word K) [] E0 (tCons te tNil)) (gName i)) tz D) σ H := fun H1 e =>
  h H1 e _ fun v H2 e2 r => ⟨v, s, rfl, r, hl, fun w H3 hw e3 => k w hw H3 ((e.trans e2).trans e3)⟩
theorem er_oright {w : List Bool} {o : List Int} {far : Int} (h1 : Er K ta σ H (tx w)) (h2 : Er K tb σ H (Lo.mk o)) (h3 : Er K tc σ H (kindsL 2)) (h4 : Er K td σ H far) (hw : w.length ≤ 64) (hO : IsO w o) (hf : 0 ≤ far) :
    Er K (tCall (sp_l_orders_right K cs fw fr fo fn) [] E0 (tCons ta (tCons tb (tCons tc (tCons td tNil))))) σ H true := fun H1 e Q q =>
  er_s h1 H1 e _ fun H2 e2 => h2 H2 (e.trans e2) _ fun vo H3 e3 ro => h3 H3 ((e.trans e2).trans e3) _ fun vu H4 e4 ru => er_i h4 H4 (((e.trans e2).trans e3).trans e4) _ fun H5 e5 =>
    ⟨w, vo, vu, far, o, rfl, hw, Rep.mono (e4.trans e5) ro, hO, Rep.mono e5 ru, hf, fun H6 e6 => q _ H6 ((((e2.trans e3).trans e4).trans e5).trans e6) rfl⟩
theorem er_rright {ns : List Int} {far : Int} (h1 : Er K ta σ H ns) (h3 : Er K tc σ H (kindsL 3)) (h4 : Er K td σ H far) (hl : ns.length ≤ 63) (hf : 0 ≤ far) :
    Er K (tCall (sp_l_rows_right K cs fw fr fo fn) [] E0 (tCons ta (tCons tc (tCons td tNil)))) σ H true := fun H1 e Q q =>
  h1 H1 e _ fun v H3 e3 rn => h3 H3 (e.trans e3) _ fun vu H4 e4 ru => er_i h4 H4 ((e.trans e3).trans e4) _ fun H5 e5 =>
    ⟨v, vu, far, ns, rfl, Rep.mono (e4.trans e5) rn, hl, Rep.mono e5 ru, hf, fun H6 e6 => q _ H6 (((e3.trans e4).trans e5).trans e6) rfl⟩
end
theorem far_lt {s : List Int} {b m : Int} (h : 0 < m) : 0 ≤ farI s b m ∧ farI s b m < m := ⟨Int.emod_nonneg _ (by omega), Int.emod_lt_of_pos _ h⟩
theorem atI_natN {as : List Nat} {j : Nat} {a : Nat} (h : as[j]? = some a) : atI as (j : Int) = some a := by
  unfold atI ixN
  have hj : j < as.length := (List.getElem?_eq_some_iff.mp h).1
  rw [if_pos (by omega), if_pos (by omega)]
  simpa using h
theorem bad_sign : ∀ j : Fin 5, ∃ c : Nat, ("xU -\t" : Str).cps.toList[j.val]? = some c ∧ c ≠ 117 ∧ c ≠ 100 := by decide +kernel
theorem pure_law (K : PySem.W.Frag) (cs : EC) (fw fr fo fn : Addr) (vs : List V) (H : Hp) (Q : VK) (E : XK) (h : sp_law K vs H Q E) : t_law K cs fw fr fo fn { nx := fun _ H' => Q .non H', rt := Q } (start N_law vs) H := by
  obtain ⟨v, s, rfl, r, hs, q⟩ := h
  obtain ⟨far, efar⟩ : ∃ far, cellAt s 0 % 1000000 = far := ⟨_, rfl⟩
  have hfar : 0 ≤ far := by rw [← efar]; exact Int.emod_nonneg _ (by decide)
  refine Gx.here (K := K) (q_asgI (a := far) ((er_mod (er_call2 (f := cellAt) (a := s) (b := (0 : Int)) (er_var rfl r) er_int (by decide)) ((er_pow er_int er_int ⟨by decide, by decide, by decide⟩).to (b := (1000000 : Int)) (by decide)) (by decide)).to efar) ?_)
  refine q_asgF (as := ([] : List (List Bool))) (erf_lst eal_nil (by decide)) fun pd H1 npd e1 od => ?_
  refine q_forR (lo := 0) (n := 4) (rng1 er_int (by decide) (by decide)) (fun k σ H' => ∃ x3 : Option V, σ = [some v, some (.int far), some (.ref pd), x3, none, none, none, none, none, none] ∧ Ex H H' ∧ Own K H' pd ((List.range k).map kindsL)) (fun H2 e2 => ⟨none, rfl, e1.trans e2, od.up e2⟩) ?_ ?_
  · rintro k σ H' hk ⟨x3, rfl, e, ok⟩
    have kE : ∀ {H' : Hp}, Er K (tVar 3) [some v, some (.int far), some (.ref pd), some (.int (0 + (k : Int))), none, none, none, none, none, none] H' (k : Int) := (er_var rfl rfl : Er K (tVar 3) _ _ ((0 : Int) + (k : Int))).to (by omega)
    have dE : ∀ j : Nat, ((k : Int) == (j : Int)) = decide (k = j) := fun j => by
      rw [Bool.eq_iff_iff, beq_iff_eq, decide_eq_true_iff]; omega
    refine g_appB (B := H) (a := kindsL k) ok rfl e npd (es_lst ((erf_lst (as := [(k : Int) == ((0 : Nat) : Int), (k : Int) == ((1 : Nat) : Int), (k : Int) == ((2 : Nat) : Int), (k : Int) == ((3 : Nat) : Int), true]) (eal_cons (er_eqi kE er_int) (eal_cons (er_eqi kE er_int) (eal_cons (er_eqi kE er_int) (eal_cons (er_eqi kE er_int) (eal_cons er_bl eal_nil))))) (by simp)).to (by rw [dE, dE, dE, dE]; rfl))) (by rw [List.length_map, List.length_range]; omega) fun H2 eb o2 => fun H3 e3 => ⟨_, rfl, (eb.ex e npd).trans e3, ?_⟩
    rw [List.range_succ, List.map_append]
    exact o2.up e3
  rintro σ H2 ⟨x3, rfl, e2, od2⟩
  have dueE : ∀ {σ : L2.St} {H' : Hp} {j : Nat}, j < 4 → Ex H2 H' → σ[2]? = some (some (.ref pd)) → Er K (tOp (rIxL K) (tVar 2) (tC (.int (j : Int)))) σ H' (kindsL j) := fun {σ H' j} hj e h => er_ixL (i := (j : Int)) (a := kindsL j) (er_var h (od2.up e).rep) er_int (atI_nat' (by rw [List.getElem?_map, List.getElem?_range hj]; rfl))
  refine q_word (s := s) (er_var rfl (Rep.mono e2 r)) hs fun w hw => ?_
  refine q_parP (P := BadW) (a := (w.length : Int)) (n := 13) ((er_lenT (er_var rfl rfl) (by rw [tx_len]; omega)).to (by rw [tx_len]))
    (eap_cons (et_non er_non) ⟨trivial, rfl⟩ (eap_cons (et_int er_int) ⟨trivial, rfl⟩ (eap_cons (et_lst (ErF.er (erf_lst (eal_cons (et_str er_str) eal_nil) (by simp)))) ⟨(by decide : 1 ≤ 1000), rfl⟩ (eap_cons (et_tup (eal_cons (et_str er_str) eal_nil) (by simp)) ⟨trivial, rfl⟩
    (eap_cons (et_str (z := ("U" : Str)) er_str) ⟨show Str.length _ ≤ 1000 by decide +kernel, by decide +kernel⟩ (eap_cons (et_str (z := ("x" : Str)) er_str) ⟨show Str.length _ ≤ 1000 by decide +kernel, by decide +kernel⟩ (eap_cons (et_str (z := ("u d" : Str)) er_str) ⟨show Str.length _ ≤ 1000 by decide +kernel, by decide +kernel⟩ (eap_cons (et_str (z := (" " : Str)) er_str) ⟨show Str.length _ ≤ 1000 by decide +kernel, by decide +kernel⟩
    (eap_cons (et_str (z := ("ud\n" : Str)) er_str) ⟨show Str.length _ ≤ 1000 by decide +kernel, by decide +kernel⟩ (eap_cons (et_str (z := ("1" : Str)) er_str) ⟨show Str.length _ ≤ 1000 by decide +kernel, by decide +kernel⟩ (eap_cons (et_bl er_bl) ⟨trivial, rfl⟩ (eap_cons (et_str (z := ("uv" : Str)) er_str) ⟨show Str.length _ ≤ 1000 by decide +kernel, by decide +kernel⟩ (eap_cons et_dct ⟨trivial, rfl⟩ eap_nil))))))))))))) (by decide) fun vm pb H3 e3 npb rm ob => ?_
  obtain rfl : vm = .int (w.length : Int) := rm
  obtain ⟨n, hn, hrg, hst⟩ := stepN (m := w.length) hw
  refine q_forC (lo := 0) (c := 1 + (w.length : Int) / 6) (n := n) (rng3 er_int (er_var rfl rfl) (er_add er_int (er_div (er_var rfl rfl) er_int ⟨by decide, by decide⟩)) hrg) (fun i σ2 H' => ∃ x7, σ2 = [some v, some (.int far), some (.ref pd), x3, some (.str (tx w)), some (.int (w.length : Int)), some (.ref pb), x7, none, none] ∧ Ex H2 H' ∧ OwnP K H' pb BadW (13 + i)) (fun H5 e5 => ⟨none, rfl, e3.trans e5, ob.up e5⟩) ?_ ?_
  · rintro i σ2 H' hi ⟨x7, rfl, e7, o7⟩
    obtain ⟨at_, ha, hat⟩ := hst i hi
    rw [ha]
    obtain ⟨c, hc, hc1, hc2⟩ := bad_sign ⟨at_ % 5, Nat.mod_lt _ (by decide)⟩
    have hc' : atI ("xU -\t" : Str).cps.toList ((at_ : Int) % 5) = some c := by
      have : (at_ : Int) % 5 = ((at_ % 5 : Nat) : Int) := by omega
      rw [this]
      exact atI_natN hc
    have l1 : (tx (w.take at_)).length ≤ 64 := by rw [tx_len, List.length_take]; omega
    have l2 : (tx (w.drop (at_ + 1))).length ≤ 64 := by rw [tx_len, List.length_drop]; omega
    have l3 : (tx (w.take at_) ++ sgn c).length = (tx (w.take at_)).length + 1 := by
      show ((tx (w.take at_)).cps ++ #[c]).size = _
      rw [Array.size_append]; rfl
    have l4 : ((tx (w.take at_) ++ sgn c) ++ tx (w.drop (at_ + 1))).length = (tx (w.take at_) ++ sgn c).length + (tx (w.drop (at_ + 1))).length := by
      show ((tx (w.take at_) ++ sgn c).cps ++ (tx (w.drop (at_ + 1))).cps).size = _
      rw [Array.size_append]; rfl
    have lc : (sgn c).length = 1 := rfl
    refine g_appP (B := H2) (x := .str ((tx (w.take at_) ++ sgn c) ++ tx (w.drop (at_ + 1)))) o7 rfl e7 (fresh_back (Ex.refl H2) npb) (es_sc rfl (et_str (er_addT (er_addT ((er_slS (er_var rfl rfl) eo_no (eo_at (er_var rfl rfl)) (by rw [tx_len]; omega)).to (by rw [tx_cut, cut_take])) (er_ixS er_str (er_mod (er_var rfl rfl) er_int (by decide)) (by decide +kernel) hc') (by omega)) ((er_slS (er_var rfl rfl) (eo_at ((er_add (er_var rfl rfl) er_int).to (b := ((at_ + 1 : Nat) : Int)) (by omega))) eo_no (by rw [tx_len]; omega)).to (by rw [tx_cut, cut_drop])) (by omega))))
      ⟨(by show Str.length _ ≤ 1000; omega), okW_bad (c := c) (by rw [str_app, str_app]; exact List.mem_append_left _ (List.mem_append_right _ List.mem_cons_self)) hc1 hc2⟩ (by omega) fun H8 eb o8 => fun H9 e9 => ⟨_, rfl, (eb.ex e7 npb).trans e9, o8.up e9⟩
  rintro σ2 H4 ⟨x7, rfl, e4, o4⟩
  obtain ⟨bs, obs, hbs, hlb⟩ := o4
  have threeI : ∀ {σ : L2.St} {H' : Hp}, Er K (tLst (tCons (tC (.int 0)) (tCons (tC (.int 1)) (tCons (tC (.int 2)) tNil)))) σ H' ([0, 1, 2] : List Int) := fun {σ H'} => ErF.er (erf_lst (eal_cons er_int (eal_cons er_int (eal_cons er_int eal_nil))) (by decide))
  refine q_no (et_not' (a := true) (et_v (er_allR (doors := ([0, 1, 2] : List Int)) (things := bs) (k := 0) Evl.ev_c threeI (er_var rfl obs.rep) (dueE (j := 0) (by decide) e4 rfl) (by decide) (by omega) fun d md t mt H8 x y e8 rx ry => told_word rx ry (hbs t mt)))) ?_
  have hF := MC.F_pos w
  refine q_asgI (a := MC.F w) (er_whole (er_var rfl rfl) (by omega)) ?_
  obtain ⟨W, eW⟩ : ∃ W, MC.F w = W := ⟨_, rfl⟩
  have okN : ∀ x, 0 ≤ x → x < W → IsO w (ordN w x) ∧ numO w (ordN w x) = x := fun x h0 h1 => ordN_ok h0 (by rw [ways_F, eW]; exact h1)
  refine q_forTP (P := BadN cs w) (n := 9)
    (eap_cons (et_non er_non) (badN_no rfl) (eap_cons (et_str er_str) (badN_no rfl) (eap_cons (et_bl er_bl) (badN_no rfl) (eap_cons (et_lst (ErF.er (erf_lst (eal_cons (et_int er_int) eal_nil) (by simp)))) (badN_no rfl)
    (eap_cons (et_int (er_neg er_int)) (badN_int (by omega)) (eap_cons (et_int (er_sub (er_neg er_int) (er_var rfl rfl))) (badN_int (by omega)) (eap_cons (et_int (er_var rfl rfl)) (badN_int (by omega)) (eap_cons (et_int (er_add (er_var rfl rfl) (er_var rfl rfl))) (badN_int (by omega)) (eap_cons (et_tup (eal_cons (et_int er_int) eal_nil) (by simp)) (badN_no rfl) eap_nil))))))))) (by decide) (fun B σ H' => ∃ x9 : Option V, σ = [some v, some (.int far), some (.ref pd), x3, some (.str (tx w)), some (.int (w.length : Int)), some (.ref pb), x7, some (.int (MC.F w)), x9] ∧ Ex B H') (fun B H1 _ e1 => ⟨_, rfl, e1⟩) (fun B σ' H' ⟨_, _, e⟩ => e) ?_ ?_
  · rintro B t vt σ H5 eB ht rt ⟨x9, rfl, e5⟩
    exact g_no (et_e ((er_neD (a := kindsL 1) (b := kindsL 1) (er_told (a := tx w) (b := t) (k := 1) Evl.ev_c (er_var rfl rfl) (er_var rfl (Rep.mono e5 rt)) (by decide) fun H9 x y e9 rx ry => told_order rx ry (by omega) ht) (dueE (j := 1) (by decide) ((e4.trans eB).trans e5) rfl) (fun _ _ => trivial) (fun _ _ => trivial) (by decide)).to (by simp))) fun H6 e6 => ⟨_, rfl, e5.trans e6⟩
  rintro B σ H5 eB ⟨x9, rfl, e5⟩
  have e25 := (e4.trans eB).trans e5
  have rs := Rep.mono (e2.trans e25) r
  have fl := far_lt (s := s) (b := 3) (m := MC.F w) hF
  have hO := (okN _ fl.1 (by rw [← eW]; exact fl.2)).1
  refine q_no (et_not' (a := true) (et_v (er_oright (w := w) (o := ordN w (farI s 3 (MC.F w))) (er_var rfl rfl) (ErF.lo ((erf_callX2 (a := Th.str (tx w)) (b := Th.int (farI s 3 (MC.F w))) (f := fun t tn => ordN (wdT t) (intT tn)) (et_str (er_var rfl rfl)) (et_int (er_call3 (f := farI) (a := s) (b := (3 : Int)) (c := MC.F w) (er_var rfl rs) er_int (er_var rfl rfl) ⟨by omega, hF⟩)) (show (tx w).length ≤ 1000 by rw [tx_len]; omega) (by rw [errN_int]; exact if_pos (by rw [decide_eq_true fl.1, decide_eq_true fl.2]; rfl))).to (by show ordN (unz (tx w)) _ = _; rw [unz_tx]; rfl))) (dueE (j := 2) (by decide) e25 rfl) (er_var rfl rfl) hw hO hfar))) ?_
  refine g_ret (a := true && (true && true)) (er_and (er_rright (ns := s) (er_var rfl rs) (dueE (j := 3) (by decide) e25 rfl) (er_var rfl rfl) hs hfar) fun _ => er_and
    ((er_eqt (i := tx []) (j := tx []) ((er_callX1 (a := thI [far]) (f := fun t => tx ((wordBy ((rowT t).getD [])).getD [])) (et_ints (ErF.er (erf_lst (eal_cons (er_var rfl rfl) eal_nil) (by simp)))) (show 1 ≤ 1000 by decide) (by unfold errWO; rw [rowT_ints]; rfl)).to (by show tx ((wordBy ((rowT (thI [far])).getD [])).getD []) = _; rw [rowT_ints]; rfl)) (er_lit tx_nil)).to (by simp)) fun _ =>
    (er_eqi (i := 1) (j := 1) ((er_callX1 (a := Th.str (tx [true])) (f := fun t => (rsW (wdT t)).sum) (et_str (er_lit tx_u)) (show (tx [true]).length ≤ 1000 by decide) (errW_t ((okW_iff _).mpr (isW_tx [true])))).to (by show (rsW (unz (tx [true]))).sum = 1; rw [unz_tx]; rfl)) er_int).to (by decide)) fun u H9 e9 ru => ?_
  obtain rfl : u = .bl true := ru
  exact q H9
theorem ok_law {f f_l_cell_at f_l_word f_l_with_word f_l_all f_l_count f_order_of f_l_told f_l_far f_l_orders_right f_l_rows_right f_word_of f_count f_l_with_row f_number_of : Addr} {fd fd_l_cell_at fd_l_word fd_l_with_word fd_l_all fd_l_count fd_order_of fd_l_told fd_l_far fd_l_orders_right fd_l_rows_right fd_word_of fd_count : FuncData} (F : Fun K "law" "law" s_law f fd) (T : Bi mg) {cs : EC} (XF : ExF K mg cs) (c_l_cell_at : Cal P w K mg base 1 "_law_cell_at" ["_law_script", "_law_k"] (sp_l_cell_at K) f_l_cell_at fd_l_cell_at) (c_l_word : Cal P w K mg base 2 "_law_word" ["_law_script"] (sp_l_word K) f_l_word fd_l_word) (c_l_with_word : CalX P w K mg base 3 "_law_with_word" ["_law_door", "_law_word_here"] (sp_l_with_word K cs) f_l_with_word fd_l_with_word) (c_l_all : Cal P w K mg base 6 "_law_all" ["_law_ask", "_law_doors", "_law_things", "_law_due"] (sp_l_all K cs f_l_with_word f_l_with_row f_order_of f_number_of) f_l_all fd_l_all) (c_l_count : Cal P w K mg base 1 "_law_count" ["_law_word_here"] (sp_l_count K) f_l_count fd_l_count) (c_order_of : CalX P w K mg base 2 "order_of" ["word", "number"] (sp_order_of K cs) f_order_of fd_order_of) (c_l_told : Cal P w K mg base 5 "_law_told" ["_law_ask", "_law_one", "_law_other"] (sp_l_told K cs f_l_with_word f_l_with_row f_order_of f_number_of) f_l_told fd_l_told) (c_l_far : Cal P w K mg base 2 "_law_far" ["_law_script", "_law_by", "_law_most"] (sp_l_far K) f_l_far fd_l_far) (c_l_orders_right : Cal P w K mg base 6 "_law_orders_right" ["_law_word_here", "_law_order", "_law_due", "_law_far_here"] (sp_l_orders_right K cs f_l_with_word f_l_with_row f_order_of f_number_of) f_l_orders_right fd_l_orders_right) (c_l_rows_right : Cal P w K mg base 7 "_law_rows_right" ["_law_script", "_law_due", "_law_far_here"] (sp_l_rows_right K cs f_l_with_word f_l_with_row f_order_of f_number_of) f_l_rows_right fd_l_rows_right) (c_word_of : CalX P w K mg base 3 "word_of" ["row"] (sp_word_of K cs) f_word_of fd_word_of) (c_count : CalX P w K mg base 2 "count" ["word"] (sp_count K cs) f_count fd_count) : FnOk P w K mg base CX0 8 f fd ["_law_script"] (sp_law K) :=
  F.ok sc_law (fun vs H Q E h => by first | exact len_pr1 h | exact len_pr2 h | exact len_pr3 h | exact len_prF1 h | exact len_prF2 h | exact len_law h) (fun cdv A outer s H vs Q E hr h => ⟨t_law K cs f_l_with_word f_l_with_row f_order_of f_number_of, by exact
    ((pss_cons (ps_set (i := 1) sc_law.nd rfl (.inl rfl) (pe_op oModI (pe_call c_l_cell_at.ok (hr.mono (by decide)) (by rfl) c_l_cell_at.g c_l_cell_at.kp c_l_cell_at.b .nil pass0 (pa_cons (pv 0) (pa_cons pe_int pa_nil))) (pe_op oPowI pe_int pe_int)))
      (pss_cons (ps_set (i := 2) sc_law.nd rfl (.inl rfl) (pe_lst pa_nil))
      (pss_cons (ps_for PassesOwn.never rfl (pi_range1 (by rfl) T.range_ (pa_cons pe_int pa_nil)) (pg_name (i := 3) sc_law.nd rfl (.inl rfl))
      (pss_one (ps_expr (pe_bm PySem.F.plainAttrs_list PySem.F.slot_list_append PySem.F.type_list_append mt_append (pv 2) (pa_cons (pe_lst (pa_cons (pe_cmpR oEqI (pv 3) pe_int (nomark _)) (pa_cons (pe_cmpR oEqI (pv 3) pe_int (nomark _)) (pa_cons (pe_cmpR oEqI (pv 3) pe_int (nomark _)) (pa_cons (pe_cmpR oEqI (pv 3) pe_int (nomark _)) (pa_cons pe_bl pa_nil)))))) pa_nil)))))
      (pss_cons (ps_set (i := 4) sc_law.nd rfl (.inl rfl) (pe_call c_l_word.ok (hr.mono (by decide)) (by rfl) c_l_word.g c_l_word.kp c_l_word.b .nil pass0 (pa_cons (pv 0) pa_nil)))
      (pss_cons (ps_par (by rfl) sc_law.nd rfl rfl (by decide) rfl rfl (pa_cons (pe_callB cLenT (by rfl) T.len_ (by decide +kernel) (pa_cons (pv 4) pa_nil)) (pa_cons (pe_lst (pa_cons pe_non (pa_cons pe_int (pa_cons (pe_lst (pa_cons pe_str pa_nil)) (pa_cons (pe_tup (pa_cons pe_str pa_nil)) (pa_cons pe_str (pa_cons pe_str (pa_cons pe_str (pa_cons pe_str (pa_cons pe_str (pa_cons pe_str (pa_cons pe_bl (pa_cons pe_str (pa_cons pe_dnewK pa_nil)))))))))))))) pa_nil)) (by rfl))
      (pss_cons (ps_for PassesOwn.never rfl (pi_range3 (by rfl) T.range_ (pa_cons pe_int (pa_cons (pv 5) (pa_cons (pe_op oAddI pe_int (pe_op oDivI (pv 5) pe_int)) pa_nil)))) (pg_name (i := 7) sc_law.nd rfl (.inl rfl))
      (pss_one (ps_expr (pe_bm PySem.F.plainAttrs_list PySem.F.slot_list_append PySem.F.type_list_append mt_append (pv 6) (pa_cons (pe_op oAddT (pe_op oAddT (pe_slice sl_str (pv 4) po_none (po_some (pv 7))) (pe_ix ix_str pe_str (pe_op oModI (pv 7) pe_int) (fun _ _ => rfl))) (pe_slice sl_str (pv 4) (po_some (pe_op oAddI (pv 7) pe_int)) po_none)) pa_nil)))))
      (pss_cons (ps_if (pt_not (pt_val (pe_call c_l_all.ok (hr.mono (by decide)) (by rfl) c_l_all.g c_l_all.kp c_l_all.b .nil pass0 (pa_cons (pe_glob (v := .ref f_l_with_word) (by rfl) c_l_with_word.g rfl) (pa_cons (pe_lst (pa_cons pe_int (pa_cons pe_int (pa_cons pe_int pa_nil)))) (pa_cons (pv 6) (pa_cons (pe_ix ix_list (pv 2) pe_int (fun _ _ => rfl)) pa_nil))))))) (pss_one (ps_ret pe_bl))
      pss_nil)
      (pss_cons (ps_set (i := 8) sc_law.nd rfl (.inl rfl) (pe_call c_l_count.ok (hr.mono (by decide)) (by rfl) c_l_count.g c_l_count.kp c_l_count.b .nil pass0 (pa_cons (pv 4) pa_nil)))
      (pss_cons (ps_for PassesOwn.never rfl (pi_tup (pe_tup (pa_cons pe_non (pa_cons pe_str (pa_cons pe_bl (pa_cons (pe_lst (pa_cons pe_int pa_nil)) (pa_cons (pe_un oNegI pe_int) (pa_cons (pe_op oSubI (pe_un oNegI pe_int) (pv 1)) (pa_cons (pv 8) (pa_cons (pe_op oAddI (pv 8) (pv 1)) (pa_cons (pe_tup (pa_cons pe_int pa_nil)) pa_nil))))))))))) (pg_name (i := 9) sc_law.nd rfl (.inl rfl))
      (pss_one (ps_if (pt_cmpR (op_neD hr.units) (pe_call c_l_told.ok (hr.mono (by decide)) (by rfl) c_l_told.g c_l_told.kp c_l_told.b .nil pass0 (pa_cons (pe_glob (v := .ref f_order_of) (by rfl) c_order_of.g rfl) (pa_cons (pv 4) (pa_cons (pv 9) pa_nil)))) (pe_ix ix_list (pv 2) pe_int (fun _ _ => rfl)) (nomark _)) (pss_one (ps_ret pe_bl))
      pss_nil)))
      (pss_cons (ps_if (pt_not (pt_val (pe_call c_l_orders_right.ok (hr.mono (by decide)) (by rfl) c_l_orders_right.g c_l_orders_right.kp c_l_orders_right.b .nil pass0 (pa_cons (pv 4) (pa_cons (pe_call c_order_of.ok (hr.mono (by decide)) (by rfl) c_order_of.g c_order_of.kp c_order_of.b .nil passF (pa_cons (pv 4) (pa_cons (pe_call c_l_far.ok (hr.mono (by decide)) (by rfl) c_l_far.g c_l_far.kp c_l_far.b .nil pass0 (pa_cons (pv 0) (pa_cons pe_int (pa_cons (pv 8) pa_nil)))) pa_nil))) (pa_cons (pe_ix ix_list (pv 2) pe_int (fun _ _ => rfl)) (pa_cons (pv 1) pa_nil))))))) (pss_one (ps_ret pe_bl))
      pss_nil)
      (pss_one (ps_ret (pe_and (pe_call c_l_rows_right.ok (hr.mono (by decide)) (by rfl) c_l_rows_right.g c_l_rows_right.kp c_l_rows_right.b .nil pass0 (pa_cons (pv 0) (pa_cons (pe_ix ix_list (pv 2) pe_int (fun _ _ => rfl)) (pa_cons (pv 1) pa_nil)))) (pe_and (pe_cmpR oEqT (pe_call c_word_of.ok (hr.mono (by decide)) (by rfl) c_word_of.g c_word_of.kp c_word_of.b .nil passF (pa_cons (pe_lst (pa_cons (pv 1) pa_nil)) pa_nil)) pe_str (nomark _)) (pe_one (pe_cmpR oEqI (pe_call c_count.ok (hr.mono (by decide)) (by rfl) c_count.g c_count.kp c_count.b .nil passF (pa_cons pe_str pa_nil)) pe_int (nomark _)))))))))))))))))), pure_law K cs f_l_with_word f_l_with_row f_order_of f_number_of vs H Q E h⟩)


theorem all_mk {l : PySem.W.OpenLaw} {w : World} {K : PySem.W.Frag} {h : Heap} {mg : Str → Option Value} {fa C_BadNumber C_BadOrder C_BadRow C_BadWord C_RiseError f0 f1 f2 f3 f4 f5 f6 f7 f8 f9 f10 f11 f12 f13 f14 f15 f16 f17 f18 f19 f20 f21 f22 : Addr} {od0 an0 od1 an1 od2 an2 od3 an3 od4 an4 od5 an5 od6 an6 od7 an7 od8 an8 od9 an9 od10 an10 od11 an11 od12 an12 od13 an13 od14 an14 od15 an15 od16 an16 od17 an17 od18 an18 od19 an19 od20 an20 od21 an21 od22 an22 : Option Addr} {sl0 sl1 sl2 sl3 sl4 sl5 sl6 sl7 sl8 sl9 sl10 sl11 sl12 sl13 sl14 sl15 sl16 sl17 sl18 sl19 sl20 sl21 sl22 : Array (Option Value)} {oc0 kV0 dc0 pm0 cd0 ct0 oc1 kV1 dc1 pm1 cd1 ct1 oc2 kV2 dc2 pm2 cd2 ct2 oc3 kV3 dc3 pm3 cd3 ct3 oc4 kV4 dc4 pm4 cd4 ct4 oc5 kV5 dc5 pm5 cd5 ct5 oc6 kV6 dc6 pm6 cd6 ct6 oc7 kV7 dc7 pm7 cd7 ct7 oc8 kV8 dc8 pm8 cd8 ct8 oc9 kV9 dc9 pm9 cd9 ct9 oc10 kV10 dc10 pm10 cd10 ct10 oc11 kV11 dc11 pm11 cd11 ct11 oc12 kV12 dc12 pm12 cd12 ct12 oc13 kV13 dc13 pm13 cd13 ct13 oc14 kV14 dc14 pm14 cd14 ct14 oc15 kV15 dc15 pm15 cd15 ct15 oc16 kV16 dc16 pm16 cd16 ct16 oc17 kV17 dc17 pm17 cd17 ct17 oc18 kV18 dc18 pm18 cd18 ct18 oc19 kV19 dc19 pm19 cd19 ct19 oc20 kV20 dc20 pm20 cd20 ct20 oc21 kV21 dc21 pm21 cd21 ct21 oc22 kV22 dc22 pm22 cd22 ct22 : Value} (X : K.In h) (G : h.Ns mainGlobals mg) (hfa : mg "law" = some (.ref fa))
    (a_BadNumber : PySem.W.nsIn K mainGlobals "BadNumber" = some (some (.ref C_BadNumber)))
    (a_BadOrder : PySem.W.nsIn K mainGlobals "BadOrder" = some (some (.ref C_BadOrder)))
    (a_BadRow : PySem.W.nsIn K mainGlobals "BadRow" = some (some (.ref C_BadRow)))
    (a_BadWord : PySem.W.nsIn K mainGlobals "BadWord" = some (some (.ref C_BadWord)))
    (a_RiseError : PySem.W.nsIn K mainGlobals "RiseError" = some (some (.ref C_RiseError)))
    (a0 : PySem.W.nsIn K mainGlobals "is_whole" = some (some (.ref f0)))
    (l0 : K.lookup f0 = some ⟨oc0, od0, .func (PySem.W.fnOf "is_whole" "is_whole" (defArgs s_is_whole) (defBody s_is_whole) (defScope s_is_whole) .none kV0 dc0 pm0 an0 cd0 ct0), sl0⟩) (c0 : PySem.W.codeIn K cd0 "is_whole" = true) (k0 : PySem.W.keepIn K (.ref f0) = true)
    (a1 : PySem.W.nsIn K mainGlobals "check_word" = some (some (.ref f1)))
    (l1 : K.lookup f1 = some ⟨oc1, od1, .func (PySem.W.fnOf "check_word" "check_word" (defArgs s_check_word) (defBody s_check_word) (defScope s_check_word) .none kV1 dc1 pm1 an1 cd1 ct1), sl1⟩) (c1 : PySem.W.codeIn K cd1 "check_word" = true) (k1 : PySem.W.keepIn K (.ref f1) = true)
    (a2 : PySem.W.nsIn K mainGlobals "check_row" = some (some (.ref f2)))
    (l2 : K.lookup f2 = some ⟨oc2, od2, .func (PySem.W.fnOf "check_row" "check_row" (defArgs s_check_row) (defBody s_check_row) (defScope s_check_row) .none kV2 dc2 pm2 an2 cd2 ct2), sl2⟩) (c2 : PySem.W.codeIn K cd2 "check_row" = true) (k2 : PySem.W.keepIn K (.ref f2) = true)
    (a3 : PySem.W.nsIn K mainGlobals "rests_of" = some (some (.ref f3)))
    (l3 : K.lookup f3 = some ⟨oc3, od3, .func (PySem.W.fnOf "rests_of" "rests_of" (defArgs s_rests_of) (defBody s_rests_of) (defScope s_rests_of) .none kV3 dc3 pm3 an3 cd3 ct3), sl3⟩) (c3 : PySem.W.codeIn K cd3 "rests_of" = true) (k3 : PySem.W.keepIn K (.ref f3) = true)
    (a4 : PySem.W.nsIn K mainGlobals "word_by" = some (some (.ref f4)))
    (l4 : K.lookup f4 = some ⟨oc4, od4, .func (PySem.W.fnOf "word_by" "word_by" (defArgs s_word_by) (defBody s_word_by) (defScope s_word_by) .none kV4 dc4 pm4 an4 cd4 ct4), sl4⟩) (c4 : PySem.W.codeIn K cd4 "word_by" = true) (k4 : PySem.W.keepIn K (.ref f4) = true)
    (a5 : PySem.W.nsIn K mainGlobals "count" = some (some (.ref f5)))
    (l5 : K.lookup f5 = some ⟨oc5, od5, .func (PySem.W.fnOf "count" "count" (defArgs s_count) (defBody s_count) (defScope s_count) .none kV5 dc5 pm5 an5 cd5 ct5), sl5⟩) (c5 : PySem.W.codeIn K cd5 "count" = true) (k5 : PySem.W.keepIn K (.ref f5) = true)
    (a6 : PySem.W.nsIn K mainGlobals "word_of" = some (some (.ref f6)))
    (l6 : K.lookup f6 = some ⟨oc6, od6, .func (PySem.W.fnOf "word_of" "word_of" (defArgs s_word_of) (defBody s_word_of) (defScope s_word_of) .none kV6 dc6 pm6 an6 cd6 ct6), sl6⟩) (c6 : PySem.W.codeIn K cd6 "word_of" = true) (k6 : PySem.W.keepIn K (.ref f6) = true)
    (a7 : PySem.W.nsIn K mainGlobals "order_of" = some (some (.ref f7)))
    (l7 : K.lookup f7 = some ⟨oc7, od7, .func (PySem.W.fnOf "order_of" "order_of" (defArgs s_order_of) (defBody s_order_of) (defScope s_order_of) .none kV7 dc7 pm7 an7 cd7 ct7), sl7⟩) (c7 : PySem.W.codeIn K cd7 "order_of" = true) (k7 : PySem.W.keepIn K (.ref f7) = true)
    (a8 : PySem.W.nsIn K mainGlobals "number_of" = some (some (.ref f8)))
    (l8 : K.lookup f8 = some ⟨oc8, od8, .func (PySem.W.fnOf "number_of" "number_of" (defArgs s_number_of) (defBody s_number_of) (defScope s_number_of) .none kV8 dc8 pm8 an8 cd8 ct8), sl8⟩) (c8 : PySem.W.codeIn K cd8 "number_of" = true) (k8 : PySem.W.keepIn K (.ref f8) = true)
    (a9 : PySem.W.nsIn K mainGlobals "longest" = some (some (.ref f9)))
    (l9 : K.lookup f9 = some ⟨oc9, od9, .func (PySem.W.fnOf "longest" "longest" (defArgs s_longest) (defBody s_longest) (defScope s_longest) .none kV9 dc9 pm9 an9 cd9 ct9), sl9⟩) (c9 : PySem.W.codeIn K cd9 "longest" = true) (k9 : PySem.W.keepIn K (.ref f9) = true)
    (a10 : PySem.W.nsIn K mainGlobals "_law_with_word" = some (some (.ref f10)))
    (l10 : K.lookup f10 = some ⟨oc10, od10, .func (PySem.W.fnOf "_law_with_word" "_law_with_word" (defArgs s_l_with_word) (defBody s_l_with_word) (defScope s_l_with_word) .none kV10 dc10 pm10 an10 cd10 ct10), sl10⟩) (c10 : PySem.W.codeIn K cd10 "_law_with_word" = true) (k10 : PySem.W.keepIn K (.ref f10) = true)
    (a11 : PySem.W.nsIn K mainGlobals "_law_with_row" = some (some (.ref f11)))
    (l11 : K.lookup f11 = some ⟨oc11, od11, .func (PySem.W.fnOf "_law_with_row" "_law_with_row" (defArgs s_l_with_row) (defBody s_l_with_row) (defScope s_l_with_row) .none kV11 dc11 pm11 an11 cd11 ct11), sl11⟩) (c11 : PySem.W.codeIn K cd11 "_law_with_row" = true) (k11 : PySem.W.keepIn K (.ref f11) = true)
    (a12 : PySem.W.nsIn K mainGlobals "_law_kinds" = some (some (.ref f12)))
    (l12 : K.lookup f12 = some ⟨oc12, od12, .func (PySem.W.fnOf "_law_kinds" "_law_kinds" (defArgs s_l_kinds) (defBody s_l_kinds) (defScope s_l_kinds) .none kV12 dc12 pm12 an12 cd12 ct12), sl12⟩) (c12 : PySem.W.codeIn K cd12 "_law_kinds" = true) (k12 : PySem.W.keepIn K (.ref f12) = true)
    (a13 : PySem.W.nsIn K mainGlobals "_law_told" = some (some (.ref f13)))
    (l13 : K.lookup f13 = some ⟨oc13, od13, .func (PySem.W.fnOf "_law_told" "_law_told" (defArgs s_l_told) (defBody s_l_told) (defScope s_l_told) .none kV13 dc13 pm13 an13 cd13 ct13), sl13⟩) (c13 : PySem.W.codeIn K cd13 "_law_told" = true) (k13 : PySem.W.keepIn K (.ref f13) = true)
    (a14 : PySem.W.nsIn K mainGlobals "_law_all" = some (some (.ref f14)))
    (l14 : K.lookup f14 = some ⟨oc14, od14, .func (PySem.W.fnOf "_law_all" "_law_all" (defArgs s_l_all) (defBody s_l_all) (defScope s_l_all) .none kV14 dc14 pm14 an14 cd14 ct14), sl14⟩) (c14 : PySem.W.codeIn K cd14 "_law_all" = true) (k14 : PySem.W.keepIn K (.ref f14) = true)
    (a15 : PySem.W.nsIn K mainGlobals "_law_orders_right" = some (some (.ref f15)))
    (l15 : K.lookup f15 = some ⟨oc15, od15, .func (PySem.W.fnOf "_law_orders_right" "_law_orders_right" (defArgs s_l_orders_right) (defBody s_l_orders_right) (defScope s_l_orders_right) .none kV15 dc15 pm15 an15 cd15 ct15), sl15⟩) (c15 : PySem.W.codeIn K cd15 "_law_orders_right" = true) (k15 : PySem.W.keepIn K (.ref f15) = true)
    (a16 : PySem.W.nsIn K mainGlobals "_law_rows_right" = some (some (.ref f16)))
    (l16 : K.lookup f16 = some ⟨oc16, od16, .func (PySem.W.fnOf "_law_rows_right" "_law_rows_right" (defArgs s_l_rows_right) (defBody s_l_rows_right) (defScope s_l_rows_right) .none kV16 dc16 pm16 an16 cd16 ct16), sl16⟩) (c16 : PySem.W.codeIn K cd16 "_law_rows_right" = true) (k16 : PySem.W.keepIn K (.ref f16) = true)
    (a17 : PySem.W.nsIn K mainGlobals "_law_cell_at" = some (some (.ref f17)))
    (l17 : K.lookup f17 = some ⟨oc17, od17, .func (PySem.W.fnOf "_law_cell_at" "_law_cell_at" (defArgs s_l_cell_at) (defBody s_l_cell_at) (defScope s_l_cell_at) .none kV17 dc17 pm17 an17 cd17 ct17), sl17⟩) (c17 : PySem.W.codeIn K cd17 "_law_cell_at" = true) (k17 : PySem.W.keepIn K (.ref f17) = true)
    (a18 : PySem.W.nsIn K mainGlobals "_law_draw" = some (some (.ref f18)))
    (l18 : K.lookup f18 = some ⟨oc18, od18, .func (PySem.W.fnOf "_law_draw" "_law_draw" (defArgs s_l_draw) (defBody s_l_draw) (defScope s_l_draw) .none kV18 dc18 pm18 an18 cd18 ct18), sl18⟩) (c18 : PySem.W.codeIn K cd18 "_law_draw" = true) (k18 : PySem.W.keepIn K (.ref f18) = true)
    (a19 : PySem.W.nsIn K mainGlobals "_law_count" = some (some (.ref f19)))
    (l19 : K.lookup f19 = some ⟨oc19, od19, .func (PySem.W.fnOf "_law_count" "_law_count" (defArgs s_l_count) (defBody s_l_count) (defScope s_l_count) .none kV19 dc19 pm19 an19 cd19 ct19), sl19⟩) (c19 : PySem.W.codeIn K cd19 "_law_count" = true) (k19 : PySem.W.keepIn K (.ref f19) = true)
    (a20 : PySem.W.nsIn K mainGlobals "_law_word" = some (some (.ref f20)))
    (l20 : K.lookup f20 = some ⟨oc20, od20, .func (PySem.W.fnOf "_law_word" "_law_word" (defArgs s_l_word) (defBody s_l_word) (defScope s_l_word) .none kV20 dc20 pm20 an20 cd20 ct20), sl20⟩) (c20 : PySem.W.codeIn K cd20 "_law_word" = true) (k20 : PySem.W.keepIn K (.ref f20) = true)
    (a21 : PySem.W.nsIn K mainGlobals "_law_far" = some (some (.ref f21)))
    (l21 : K.lookup f21 = some ⟨oc21, od21, .func (PySem.W.fnOf "_law_far" "_law_far" (defArgs s_l_far) (defBody s_l_far) (defScope s_l_far) .none kV21 dc21 pm21 an21 cd21 ct21), sl21⟩) (c21 : PySem.W.codeIn K cd21 "_law_far" = true) (k21 : PySem.W.keepIn K (.ref f21) = true)
    (a22 : PySem.W.nsIn K mainGlobals "law" = some (some (.ref f22)))
    (l22 : K.lookup f22 = some ⟨oc22, od22, .func (PySem.W.fnOf "law" "law" (defArgs s_law) (defBody s_law) (defScope s_law) .none kV22 dc22 pm22 an22 cd22 ct22), sl22⟩) (c22 : PySem.W.codeIn K cd22 "law" = true) (k22 : PySem.W.keepIn K (.ref f22) = true)
    (z_ValueError : PySem.W.nsIn K mainGlobals "ValueError" = some none)
    (z_all : PySem.W.nsIn K mainGlobals "all" = some none)
    (z_bool : PySem.W.nsIn K mainGlobals "bool" = some none)
    (z_enumerate : PySem.W.nsIn K mainGlobals "enumerate" = some none)
    (z_int : PySem.W.nsIn K mainGlobals "int" = some none)
    (z_isinstance : PySem.W.nsIn K mainGlobals "isinstance" = some none)
    (z_len : PySem.W.nsIn K mainGlobals "len" = some none)
    (z_list : PySem.W.nsIn K mainGlobals "list" = some none)
    (z_range : PySem.W.nsIn K mainGlobals "range" = some none)
    (z_sorted : PySem.W.nsIn K mainGlobals "sorted" = some none)
    (z_str : PySem.W.nsIn K mainGlobals "str" = some none)
    (z_sum : PySem.W.nsIn K mainGlobals "sum" = some none)
    (z_tuple : PySem.W.nsIn K mainGlobals "tuple" = some none)
    (hn : PySem.W.specialIn K (.builtin "object.__class__") "__get__" = some (some (.builtin "getset_descriptor.__get__"))) (ht : PySem.W.takesIn K (.builtin "object.__class__") = some true)
    (tc_BadWord : PySem.W.typeIn K (.ref C_BadWord) = some (.type "type")) (ic_BadWord : PySem.W.isClsIn K C_BadWord = true) (sb_BadWord : PySem.W.subIn K (.ref C_BadWord) (.type "BaseException") = some true) (x_BadWord : PySem.W.excIn K C_BadWord [.type "ValueError", .type "Exception", .type "BaseException", .type "object"] "ValueError.__new__" = true) (kc_BadWord : PySem.W.keepIn K (.ref C_BadWord) = true) (ga_BadWord : PySem.W.findIn K (.ref C_BadWord) "__getattribute__" = some (some (.builtin "BaseException.__getattribute__"))) (gk_BadWord : PySem.W.findIn K (.ref C_BadWord) "__getattr__" = some none) (hd_BadWord : PySem.W.hasDictIn K C_BadWord = true) (ca_BadWord : PySem.W.findIn K (.ref C_BadWord) "__class__" = some (some (.builtin "object.__class__"))) (mo_BadWord : PySem.W.mroIn K C_BadWord (.type "object") = some true) (ss_BadWord : PySem.W.subIn K (.ref C_BadWord) (.ref C_RiseError) = some true) (sv_BadWord : PySem.W.subIn K (.ref C_BadWord) (.type "ValueError") = some true) (s_BadWord_BadWord : PySem.W.subIn K (.ref C_BadWord) (.ref C_BadWord) = some true) (s_BadNumber_BadWord : PySem.W.subIn K (.ref C_BadWord) (.ref C_BadNumber) = some false) (s_BadOrder_BadWord : PySem.W.subIn K (.ref C_BadWord) (.ref C_BadOrder) = some false) (s_BadRow_BadWord : PySem.W.subIn K (.ref C_BadWord) (.ref C_BadRow) = some false)
    (tc_BadNumber : PySem.W.typeIn K (.ref C_BadNumber) = some (.type "type")) (ic_BadNumber : PySem.W.isClsIn K C_BadNumber = true) (sb_BadNumber : PySem.W.subIn K (.ref C_BadNumber) (.type "BaseException") = some true) (x_BadNumber : PySem.W.excIn K C_BadNumber [.type "ValueError", .type "Exception", .type "BaseException", .type "object"] "ValueError.__new__" = true) (kc_BadNumber : PySem.W.keepIn K (.ref C_BadNumber) = true) (ga_BadNumber : PySem.W.findIn K (.ref C_BadNumber) "__getattribute__" = some (some (.builtin "BaseException.__getattribute__"))) (gk_BadNumber : PySem.W.findIn K (.ref C_BadNumber) "__getattr__" = some none) (hd_BadNumber : PySem.W.hasDictIn K C_BadNumber = true) (ca_BadNumber : PySem.W.findIn K (.ref C_BadNumber) "__class__" = some (some (.builtin "object.__class__"))) (mo_BadNumber : PySem.W.mroIn K C_BadNumber (.type "object") = some true) (ss_BadNumber : PySem.W.subIn K (.ref C_BadNumber) (.ref C_RiseError) = some true) (sv_BadNumber : PySem.W.subIn K (.ref C_BadNumber) (.type "ValueError") = some true) (s_BadWord_BadNumber : PySem.W.subIn K (.ref C_BadNumber) (.ref C_BadWord) = some false) (s_BadNumber_BadNumber : PySem.W.subIn K (.ref C_BadNumber) (.ref C_BadNumber) = some true) (s_BadOrder_BadNumber : PySem.W.subIn K (.ref C_BadNumber) (.ref C_BadOrder) = some false) (s_BadRow_BadNumber : PySem.W.subIn K (.ref C_BadNumber) (.ref C_BadRow) = some false)
    (tc_BadOrder : PySem.W.typeIn K (.ref C_BadOrder) = some (.type "type")) (ic_BadOrder : PySem.W.isClsIn K C_BadOrder = true) (sb_BadOrder : PySem.W.subIn K (.ref C_BadOrder) (.type "BaseException") = some true) (x_BadOrder : PySem.W.excIn K C_BadOrder [.type "ValueError", .type "Exception", .type "BaseException", .type "object"] "ValueError.__new__" = true) (kc_BadOrder : PySem.W.keepIn K (.ref C_BadOrder) = true) (ga_BadOrder : PySem.W.findIn K (.ref C_BadOrder) "__getattribute__" = some (some (.builtin "BaseException.__getattribute__"))) (gk_BadOrder : PySem.W.findIn K (.ref C_BadOrder) "__getattr__" = some none) (hd_BadOrder : PySem.W.hasDictIn K C_BadOrder = true) (ca_BadOrder : PySem.W.findIn K (.ref C_BadOrder) "__class__" = some (some (.builtin "object.__class__"))) (mo_BadOrder : PySem.W.mroIn K C_BadOrder (.type "object") = some true) (ss_BadOrder : PySem.W.subIn K (.ref C_BadOrder) (.ref C_RiseError) = some true) (sv_BadOrder : PySem.W.subIn K (.ref C_BadOrder) (.type "ValueError") = some true) (s_BadWord_BadOrder : PySem.W.subIn K (.ref C_BadOrder) (.ref C_BadWord) = some false) (s_BadNumber_BadOrder : PySem.W.subIn K (.ref C_BadOrder) (.ref C_BadNumber) = some false) (s_BadOrder_BadOrder : PySem.W.subIn K (.ref C_BadOrder) (.ref C_BadOrder) = some true) (s_BadRow_BadOrder : PySem.W.subIn K (.ref C_BadOrder) (.ref C_BadRow) = some false)
    (tc_BadRow : PySem.W.typeIn K (.ref C_BadRow) = some (.type "type")) (ic_BadRow : PySem.W.isClsIn K C_BadRow = true) (sb_BadRow : PySem.W.subIn K (.ref C_BadRow) (.type "BaseException") = some true) (x_BadRow : PySem.W.excIn K C_BadRow [.type "ValueError", .type "Exception", .type "BaseException", .type "object"] "ValueError.__new__" = true) (kc_BadRow : PySem.W.keepIn K (.ref C_BadRow) = true) (ga_BadRow : PySem.W.findIn K (.ref C_BadRow) "__getattribute__" = some (some (.builtin "BaseException.__getattribute__"))) (gk_BadRow : PySem.W.findIn K (.ref C_BadRow) "__getattr__" = some none) (hd_BadRow : PySem.W.hasDictIn K C_BadRow = true) (ca_BadRow : PySem.W.findIn K (.ref C_BadRow) "__class__" = some (some (.builtin "object.__class__"))) (mo_BadRow : PySem.W.mroIn K C_BadRow (.type "object") = some true) (ss_BadRow : PySem.W.subIn K (.ref C_BadRow) (.ref C_RiseError) = some true) (sv_BadRow : PySem.W.subIn K (.ref C_BadRow) (.type "ValueError") = some true) (s_BadWord_BadRow : PySem.W.subIn K (.ref C_BadRow) (.ref C_BadWord) = some false) (s_BadNumber_BadRow : PySem.W.subIn K (.ref C_BadRow) (.ref C_BadNumber) = some false) (s_BadOrder_BadRow : PySem.W.subIn K (.ref C_BadRow) (.ref C_BadOrder) = some false) (s_BadRow_BadRow : PySem.W.subIn K (.ref C_BadRow) (.ref C_BadRow) = some true)
    (tc_RiseError : PySem.W.typeIn K (.ref C_RiseError) = some (.type "type")) (ic_RiseError : PySem.W.isClsIn K C_RiseError = true) (sb_RiseError : PySem.W.subIn K (.ref C_RiseError) (.type "BaseException") = some true) :
    ∃ fd : FuncData, (∀ (s : Shared) (v : Value), BindsTo s fd ⟨[v], []⟩ [("_law_script", v)]) ∧ ∀ base : Heap, K.In base → base.Ns mainGlobals mg → FnOk l.prog w K mg base CX0 8 fa fd ["_law_script"] (sp_law K) := by
  have e := hfa.symm.trans (PySem.W.mg_of X G a22)
  cases e
  have T : Bi mg := ⟨PySem.W.mg_none_of X G z_ValueError, PySem.W.mg_none_of X G z_all, PySem.W.mg_none_of X G z_bool, PySem.W.mg_none_of X G z_enumerate, PySem.W.mg_none_of X G z_int, PySem.W.mg_none_of X G z_isinstance, PySem.W.mg_none_of X G z_len, PySem.W.mg_none_of X G z_list, PySem.W.mg_none_of X G z_range, PySem.W.mg_none_of X G z_sorted, PySem.W.mg_none_of X G z_str, PySem.W.mg_none_of X G z_sum, PySem.W.mg_none_of X G z_tuple⟩
  have F0 := fun_mk (st := s_is_whole) l0 c0 k0
  have b0 := F0.binds (ps := ["thing"]) fun _ _ _ _ _ _ us hl => match us, hl with | [_], _ => rfl
  have F1 := fun_mk (st := s_check_word) l1 c1 k1
  have b1 := F1.binds (ps := ["word"]) fun _ _ _ _ _ _ us hl => match us, hl with | [_], _ => rfl
  have F2 := fun_mk (st := s_check_row) l2 c2 k2
  have b2 := F2.binds (ps := ["row"]) fun _ _ _ _ _ _ us hl => match us, hl with | [_], _ => rfl
  have F3 := fun_mk (st := s_rests_of) l3 c3 k3
  have b3 := F3.binds (ps := ["word"]) fun _ _ _ _ _ _ us hl => match us, hl with | [_], _ => rfl
  have F4 := fun_mk (st := s_word_by) l4 c4 k4
  have b4 := F4.binds (ps := ["row"]) fun _ _ _ _ _ _ us hl => match us, hl with | [_], _ => rfl
  have F5 := fun_mk (st := s_count) l5 c5 k5
  have b5 := F5.binds (ps := ["word"]) fun _ _ _ _ _ _ us hl => match us, hl with | [_], _ => rfl
  have F6 := fun_mk (st := s_word_of) l6 c6 k6
  have b6 := F6.binds (ps := ["row"]) fun _ _ _ _ _ _ us hl => match us, hl with | [_], _ => rfl
  have F7 := fun_mk (st := s_order_of) l7 c7 k7
  have b7 := F7.binds (ps := ["word", "number"]) fun _ _ _ _ _ _ us hl => match us, hl with | [_, _], _ => rfl
  have F8 := fun_mk (st := s_number_of) l8 c8 k8
  have b8 := F8.binds (ps := ["word", "order"]) fun _ _ _ _ _ _ us hl => match us, hl with | [_, _], _ => rfl
  have F9 := fun_mk (st := s_longest) l9 c9 k9
  have b9 := F9.binds (ps := ["row"]) fun _ _ _ _ _ _ us hl => match us, hl with | [_], _ => rfl
  have F10 := fun_mk (st := s_l_with_word) l10 c10 k10
  have b10 := F10.binds (ps := ["_law_door", "_law_word_here"]) fun _ _ _ _ _ _ us hl => match us, hl with | [_, _], _ => rfl
  have F11 := fun_mk (st := s_l_with_row) l11 c11 k11
  have b11 := F11.binds (ps := ["_law_door", "_law_row"]) fun _ _ _ _ _ _ us hl => match us, hl with | [_, _], _ => rfl
  have F12 := fun_mk (st := s_l_kinds) l12 c12 k12
  have b12 := F12.binds (ps := ["_law_error"]) fun _ _ _ _ _ _ us hl => match us, hl with | [_], _ => rfl
  have F13 := fun_mk (st := s_l_told) l13 c13 k13
  have b13 := F13.binds (ps := ["_law_ask", "_law_one", "_law_other"]) fun _ _ _ _ _ _ us hl => match us, hl with | [_, _, _], _ => rfl
  have F14 := fun_mk (st := s_l_all) l14 c14 k14
  have b14 := F14.binds (ps := ["_law_ask", "_law_doors", "_law_things", "_law_due"]) fun _ _ _ _ _ _ us hl => match us, hl with | [_, _, _, _], _ => rfl
  have F15 := fun_mk (st := s_l_orders_right) l15 c15 k15
  have b15 := F15.binds (ps := ["_law_word_here", "_law_order", "_law_due", "_law_far_here"]) fun _ _ _ _ _ _ us hl => match us, hl with | [_, _, _, _], _ => rfl
  have F16 := fun_mk (st := s_l_rows_right) l16 c16 k16
  have b16 := F16.binds (ps := ["_law_script", "_law_due", "_law_far_here"]) fun _ _ _ _ _ _ us hl => match us, hl with | [_, _, _], _ => rfl
  have F17 := fun_mk (st := s_l_cell_at) l17 c17 k17
  have b17 := F17.binds (ps := ["_law_script", "_law_k"]) fun _ _ _ _ _ _ us hl => match us, hl with | [_, _], _ => rfl
  have F18 := fun_mk (st := s_l_draw) l18 c18 k18
  have b18 := F18.binds (ps := ["_law_cell", "_law_k", "_law_many"]) fun _ _ _ _ _ _ us hl => match us, hl with | [_, _, _], _ => rfl
  have F19 := fun_mk (st := s_l_count) l19 c19 k19
  have b19 := F19.binds (ps := ["_law_word_here"]) fun _ _ _ _ _ _ us hl => match us, hl with | [_], _ => rfl
  have F20 := fun_mk (st := s_l_word) l20 c20 k20
  have b20 := F20.binds (ps := ["_law_script"]) fun _ _ _ _ _ _ us hl => match us, hl with | [_], _ => rfl
  have F21 := fun_mk (st := s_l_far) l21 c21 k21
  have b21 := F21.binds (ps := ["_law_script", "_law_by", "_law_most"]) fun _ _ _ _ _ _ us hl => match us, hl with | [_, _, _], _ => rfl
  have F22 := fun_mk (st := s_law) l22 c22 k22
  have kits : ∀ i j, i < 4 → j < 4 → PySem.W.kitOne K (.ref ((EC.mk C_BadWord C_BadNumber C_BadOrder C_BadRow C_RiseError).c i)) (.ref ((EC.mk C_BadWord C_BadNumber C_BadOrder C_BadRow C_RiseError).c j)) = some (decide (i = j)) := by
    intro i j hi hj
    obtain rfl | rfl | rfl | rfl : i = 0 ∨ i = 1 ∨ i = 2 ∨ i = 3 := by omega
    all_goals obtain rfl | rfl | rfl | rfl : j = 0 ∨ j = 1 ∨ j = 2 ∨ j = 3 := by omega
    · exact kit_of ic_BadWord tc_BadWord s_BadWord_BadWord s_BadWord_BadWord
    · exact kit_of ic_BadNumber tc_BadNumber s_BadNumber_BadWord s_BadWord_BadWord
    · exact kit_of ic_BadOrder tc_BadOrder s_BadOrder_BadWord s_BadWord_BadWord
    · exact kit_of ic_BadRow tc_BadRow s_BadRow_BadWord s_BadWord_BadWord
    · exact kit_of ic_BadWord tc_BadWord s_BadWord_BadNumber s_BadNumber_BadNumber
    · exact kit_of ic_BadNumber tc_BadNumber s_BadNumber_BadNumber s_BadNumber_BadNumber
    · exact kit_of ic_BadOrder tc_BadOrder s_BadOrder_BadNumber s_BadNumber_BadNumber
    · exact kit_of ic_BadRow tc_BadRow s_BadRow_BadNumber s_BadNumber_BadNumber
    · exact kit_of ic_BadWord tc_BadWord s_BadWord_BadOrder s_BadOrder_BadOrder
    · exact kit_of ic_BadNumber tc_BadNumber s_BadNumber_BadOrder s_BadOrder_BadOrder
    · exact kit_of ic_BadOrder tc_BadOrder s_BadOrder_BadOrder s_BadOrder_BadOrder
    · exact kit_of ic_BadRow tc_BadRow s_BadRow_BadOrder s_BadOrder_BadOrder
    · exact kit_of ic_BadWord tc_BadWord s_BadWord_BadRow s_BadRow_BadRow
    · exact kit_of ic_BadNumber tc_BadNumber s_BadNumber_BadRow s_BadRow_BadRow
    · exact kit_of ic_BadOrder tc_BadOrder s_BadOrder_BadRow s_BadRow_BadRow
    · exact kit_of ic_BadRow tc_BadRow s_BadRow_BadRow s_BadRow_BadRow
  obtain ⟨cs, XF⟩ : ∃ cs, ExF K mg cs := ⟨EC.mk C_BadWord C_BadNumber C_BadOrder C_BadRow C_RiseError, ⟨x_BadWord, PySem.W.mg_of X G a_BadWord, kc_BadWord, tc_BadWord, exm_of sb_RiseError ic_RiseError tc_RiseError ss_BadWord, ⟨ga_BadWord, gk_BadWord, sb_BadWord, hd_BadWord, ca_BadWord, hn, ht, mo_BadWord⟩, kit_ve sv_BadWord⟩, ⟨x_BadNumber, PySem.W.mg_of X G a_BadNumber, kc_BadNumber, tc_BadNumber, exm_of sb_RiseError ic_RiseError tc_RiseError ss_BadNumber, ⟨ga_BadNumber, gk_BadNumber, sb_BadNumber, hd_BadNumber, ca_BadNumber, hn, ht, mo_BadNumber⟩, kit_ve sv_BadNumber⟩, ⟨x_BadOrder, PySem.W.mg_of X G a_BadOrder, kc_BadOrder, tc_BadOrder, exm_of sb_RiseError ic_RiseError tc_RiseError ss_BadOrder, ⟨ga_BadOrder, gk_BadOrder, sb_BadOrder, hd_BadOrder, ca_BadOrder, hn, ht, mo_BadOrder⟩, kit_ve sv_BadOrder⟩, ⟨x_BadRow, PySem.W.mg_of X G a_BadRow, kc_BadRow, tc_BadRow, exm_of sb_RiseError ic_RiseError tc_RiseError ss_BadRow, ⟨ga_BadRow, gk_BadRow, sb_BadRow, hd_BadRow, ca_BadRow, hn, ht, mo_BadRow⟩, kit_ve sv_BadRow⟩, PySem.W.mg_of X G a_RiseError, kits⟩
  refine ⟨PySem.W.fnOf "law" "law" (defArgs s_law) (defBody s_law) (defScope s_law) .none kV22 dc22 pm22 an22 cd22 ct22, fun s v => .of_eq rfl, fun base _ _ => ?_⟩
  have q_is_whole : Cal l.prog w K mg base 1 "is_whole" ["thing"] (sp_is_whole K) f0 _ := ⟨ok_is_whole F0 T, PySem.W.mg_of X G a0, k0, b0⟩
  have q_check_word : CalX l.prog w K mg base 1 "check_word" ["word"] (sp_check_word K cs) f1 _ := ⟨ok_check_word F1 T XF, PySem.W.mg_of X G a1, k1, b1⟩
  have q_check_row : CalX l.prog w K mg base 2 "check_row" ["row"] (sp_check_row K cs) f2 _ := ⟨ok_check_row F2 T XF q_is_whole, PySem.W.mg_of X G a2, k2, b2⟩
  have q_rests_of : Cal l.prog w K mg base 1 "rests_of" ["word"] (sp_rests_of K) f3 _ := ⟨ok_rests_of F3 T, PySem.W.mg_of X G a3, k3, b3⟩
  have q_word_by : Cal l.prog w K mg base 1 "word_by" ["row"] (sp_word_by K) f4 _ := ⟨ok_word_by F4 T, PySem.W.mg_of X G a4, k4, b4⟩
  have q_count : CalX l.prog w K mg base 2 "count" ["word"] (sp_count K cs) f5 _ := ⟨ok_count F5 T XF q_check_word q_rests_of, PySem.W.mg_of X G a5, k5, b5⟩
  have q_word_of : CalX l.prog w K mg base 3 "word_of" ["row"] (sp_word_of K cs) f6 _ := ⟨ok_word_of F6 T XF q_check_row q_word_by, PySem.W.mg_of X G a6, k6, b6⟩
  have q_order_of : CalX l.prog w K mg base 2 "order_of" ["word", "number"] (sp_order_of K cs) f7 _ := ⟨ok_order_of F7 T XF q_check_word q_rests_of q_is_whole, PySem.W.mg_of X G a7, k7, b7⟩
  have q_number_of : CalX l.prog w K mg base 2 "number_of" ["word", "order"] (sp_number_of K cs) f8 _ := ⟨ok_number_of F8 T XF q_check_word q_is_whole q_word_by, PySem.W.mg_of X G a8, k8, b8⟩
  have q_longest : CalX l.prog w K mg base 3 "longest" ["row"] (sp_longest K cs) f9 _ := ⟨ok_longest F9 T XF q_check_row, PySem.W.mg_of X G a9, k9, b9⟩
  have q_l_with_word : CalX l.prog w K mg base 3 "_law_with_word" ["_law_door", "_law_word_here"] (sp_l_with_word K cs) f10 _ := ⟨ok_l_with_word F10 T XF q_count q_order_of q_number_of, PySem.W.mg_of X G a10, k10, b10⟩
  have q_l_with_row : CalX l.prog w K mg base 4 "_law_with_row" ["_law_door", "_law_row"] (sp_l_with_row K cs) f11 _ := ⟨ok_l_with_row F11 T XF q_longest q_word_of, PySem.W.mg_of X G a11, k11, b11⟩
  have q_l_kinds : CalP l.prog w K mg base 1 "_law_kinds" ["_law_error"] (sp_l_kinds K cs) f12 _ := ⟨ok_l_kinds F12 T XF, PySem.W.mg_of X G a12, k12, b12⟩
  have q_l_told : Cal l.prog w K mg base 5 "_law_told" ["_law_ask", "_law_one", "_law_other"] (sp_l_told K cs f10 f11 f7 f8) f13 _ := ⟨ok_l_told F13 T XF q_l_with_word q_l_with_row q_order_of q_number_of q_l_kinds, PySem.W.mg_of X G a13, k13, b13⟩
  have q_l_all : Cal l.prog w K mg base 6 "_law_all" ["_law_ask", "_law_doors", "_law_things", "_law_due"] (sp_l_all K cs f10 f11 f7 f8) f14 _ := ⟨ok_l_all F14 T XF q_l_told, PySem.W.mg_of X G a14, k14, b14⟩
  have q_l_orders_right : Cal l.prog w K mg base 6 "_law_orders_right" ["_law_word_here", "_law_order", "_law_due", "_law_far_here"] (sp_l_orders_right K cs f10 f11 f7 f8) f15 _ := ⟨ok_l_orders_right F15 T XF q_number_of q_l_told, PySem.W.mg_of X G a15, k15, b15⟩
  have q_l_rows_right : Cal l.prog w K mg base 7 "_law_rows_right" ["_law_script", "_law_due", "_law_far_here"] (sp_l_rows_right K cs f10 f11 f7 f8) f16 _ := ⟨ok_l_rows_right F16 T XF q_l_with_row q_l_all, PySem.W.mg_of X G a16, k16, b16⟩
  have q_l_cell_at : Cal l.prog w K mg base 1 "_law_cell_at" ["_law_script", "_law_k"] (sp_l_cell_at K) f17 _ := ⟨ok_l_cell_at F17 T, PySem.W.mg_of X G a17, k17, b17⟩
  have q_l_draw : Cal l.prog w K mg base 1 "_law_draw" ["_law_cell", "_law_k", "_law_many"] (sp_l_draw K) f18 _ := ⟨ok_l_draw F18 T, PySem.W.mg_of X G a18, k18, b18⟩
  have q_l_count : Cal l.prog w K mg base 1 "_law_count" ["_law_word_here"] (sp_l_count K) f19 _ := ⟨ok_l_count F19 T, PySem.W.mg_of X G a19, k19, b19⟩
  have q_l_word : Cal l.prog w K mg base 2 "_law_word" ["_law_script"] (sp_l_word K) f20 _ := ⟨ok_l_word F20 T q_l_cell_at q_l_draw, PySem.W.mg_of X G a20, k20, b20⟩
  have q_l_far : Cal l.prog w K mg base 2 "_law_far" ["_law_script", "_law_by", "_law_most"] (sp_l_far K) f21 _ := ⟨ok_l_far F21 T q_l_draw, PySem.W.mg_of X G a21, k21, b21⟩
  exact ok_law F22 T XF q_l_cell_at q_l_word q_l_with_word q_l_all q_l_count q_order_of q_l_told q_l_far q_l_orders_right q_l_rows_right q_word_of q_count

end
end W
open PySem PySem.W PyProof.Rows
set_option maxHeartbeats 0 in
theorem PySem.Challenge.cw_risefall_k05_refused_holds : PySem.Challenge.rw_risefall_k05_refused.Holds := by
  w_on; o_law; k_head; (case hw => w_witness2)
  k_fill
  refine L2.walk_of (l := PySem.Challenge.rw_risefall_k05_refused) (n := 63) (k := 8) (x := "_law_script") (CX := fun _ => L2.CX0) (sp := fun w => W.sp_law _) rfl (by decide) rfl ⟨rfl, by decide, by decide⟩ (fun w h Y => PySem.W.kIn_of Y) ?F (fun _ _ a ns hl _ hS => W.law_asks hl hS) (fun _ _ _ _ _ h => h)
  case F =>
    intro w mg fa h KX G hmg
    refine' W.all_mk KX G hmg ?a_BadNumber ?a_BadOrder ?a_BadRow ?a_BadWord ?a_RiseError ?a0 ?l0 ?c0 ?k0 ?a1 ?l1 ?c1 ?k1 ?a2 ?l2 ?c2 ?k2 ?a3 ?l3 ?c3 ?k3 ?a4 ?l4 ?c4 ?k4 ?a5 ?l5 ?c5 ?k5 ?a6 ?l6 ?c6 ?k6 ?a7 ?l7 ?c7 ?k7 ?a8 ?l8 ?c8 ?k8 ?a9 ?l9 ?c9 ?k9 ?a10 ?l10 ?c10 ?k10 ?a11 ?l11 ?c11 ?k11 ?a12 ?l12 ?c12 ?k12 ?a13 ?l13 ?c13 ?k13 ?a14 ?l14 ?c14 ?k14 ?a15 ?l15 ?c15 ?k15 ?a16 ?l16 ?c16 ?k16 ?a17 ?l17 ?c17 ?k17 ?a18 ?l18 ?c18 ?k18 ?a19 ?l19 ?c19 ?k19 ?a20 ?l20 ?c20 ?k20 ?a21 ?l21 ?c21 ?k21 ?a22 ?l22 ?c22 ?k22 ?z_ValueError ?z_all ?z_bool ?z_enumerate ?z_int ?z_isinstance ?z_len ?z_list ?z_range ?z_sorted ?z_str ?z_sum ?z_tuple ?hn ?ht ?tc_BadWord ?ic_BadWord ?sb_BadWord ?x_BadWord ?kc_BadWord ?ga_BadWord ?gk_BadWord ?hd_BadWord ?ca_BadWord ?mo_BadWord ?ss_BadWord ?sv_BadWord ?s_BadWord_BadWord ?s_BadNumber_BadWord ?s_BadOrder_BadWord ?s_BadRow_BadWord ?tc_BadNumber ?ic_BadNumber ?sb_BadNumber ?x_BadNumber ?kc_BadNumber ?ga_BadNumber ?gk_BadNumber ?hd_BadNumber ?ca_BadNumber ?mo_BadNumber ?ss_BadNumber ?sv_BadNumber ?s_BadWord_BadNumber ?s_BadNumber_BadNumber ?s_BadOrder_BadNumber ?s_BadRow_BadNumber ?tc_BadOrder ?ic_BadOrder ?sb_BadOrder ?x_BadOrder ?kc_BadOrder ?ga_BadOrder ?gk_BadOrder ?hd_BadOrder ?ca_BadOrder ?mo_BadOrder ?ss_BadOrder ?sv_BadOrder ?s_BadWord_BadOrder ?s_BadNumber_BadOrder ?s_BadOrder_BadOrder ?s_BadRow_BadOrder ?tc_BadRow ?ic_BadRow ?sb_BadRow ?x_BadRow ?kc_BadRow ?ga_BadRow ?gk_BadRow ?hd_BadRow ?ca_BadRow ?mo_BadRow ?ss_BadRow ?sv_BadRow ?s_BadWord_BadRow ?s_BadNumber_BadRow ?s_BadOrder_BadRow ?s_BadRow_BadRow ?tc_RiseError ?ic_RiseError ?sb_RiseError
    (case a_BadNumber => k_is)
    (case a_BadOrder => k_is)
    (case a_BadRow => k_is)
    (case a_BadWord => k_is)
    (case a_RiseError => k_is)
    (case a0 => k_is)
    (case l0 => k_is)
    (case c0 => k_is)
    (case k0 => k_is)
    (case a1 => k_is)
    (case l1 => k_is)
    (case c1 => k_is)
    (case k1 => k_is)
    (case a2 => k_is)
    (case l2 => k_is)
    (case c2 => k_is)
    (case k2 => k_is)
    (case a3 => k_is)
    (case l3 => k_is)
    (case c3 => k_is)
    (case k3 => k_is)
    (case a4 => k_is)
    (case l4 => k_is)
    (case c4 => k_is)
    (case k4 => k_is)
    (case a5 => k_is)
    (case l5 => k_is)
    (case c5 => k_is)
    (case k5 => k_is)
    (case a6 => k_is)
    (case l6 => k_is)
    (case c6 => k_is)
    (case k6 => k_is)
    (case a7 => k_is)
    (case l7 => k_is)
    (case c7 => k_is)
    (case k7 => k_is)
    (case a8 => k_is)
    (case l8 => k_is)
    (case c8 => k_is)
    (case k8 => k_is)
    (case a9 => k_is)
    (case l9 => k_is)
    (case c9 => k_is)
    (case k9 => k_is)
    (case a10 => k_is)
    (case l10 => k_is)
    (case c10 => k_is)
    (case k10 => k_is)
    (case a11 => k_is)
    (case l11 => k_is)
    (case c11 => k_is)
    (case k11 => k_is)
    (case a12 => k_is)
    (case l12 => k_is)
    (case c12 => k_is)
    (case k12 => k_is)
    (case a13 => k_is)
    (case l13 => k_is)
    (case c13 => k_is)
    (case k13 => k_is)
    (case a14 => k_is)
    (case l14 => k_is)
    (case c14 => k_is)
    (case k14 => k_is)
    (case a15 => k_is)
    (case l15 => k_is)
    (case c15 => k_is)
    (case k15 => k_is)
    (case a16 => k_is)
    (case l16 => k_is)
    (case c16 => k_is)
    (case k16 => k_is)
    (case a17 => k_is)
    (case l17 => k_is)
    (case c17 => k_is)
    (case k17 => k_is)
    (case a18 => k_is)
    (case l18 => k_is)
    (case c18 => k_is)
    (case k18 => k_is)
    (case a19 => k_is)
    (case l19 => k_is)
    (case c19 => k_is)
    (case k19 => k_is)
    (case a20 => k_is)
    (case l20 => k_is)
    (case c20 => k_is)
    (case k20 => k_is)
    (case a21 => k_is)
    (case l21 => k_is)
    (case c21 => k_is)
    (case k21 => k_is)
    (case a22 => k_is)
    (case l22 => k_is)
    (case c22 => k_is)
    (case k22 => k_is)
    (case z_ValueError => k_is)
    (case z_all => k_is)
    (case z_bool => k_is)
    (case z_enumerate => k_is)
    (case z_int => k_is)
    (case z_isinstance => k_is)
    (case z_len => k_is)
    (case z_list => k_is)
    (case z_range => k_is)
    (case z_sorted => k_is)
    (case z_str => k_is)
    (case z_sum => k_is)
    (case z_tuple => k_is)
    (case hn => k_is)
    (case ht => k_is)
    (case tc_BadWord => k_is)
    (case ic_BadWord => k_is)
    (case sb_BadWord => k_is)
    (case x_BadWord => k_exc)
    (case kc_BadWord => k_is)
    (case ga_BadWord => k_is)
    (case gk_BadWord => k_is)
    (case hd_BadWord => k_is)
    (case ca_BadWord => k_is)
    (case mo_BadWord => k_is)
    (case ss_BadWord => k_is)
    (case sv_BadWord => k_is)
    (case s_BadWord_BadWord => k_is)
    (case s_BadNumber_BadWord => k_is)
    (case s_BadOrder_BadWord => k_is)
    (case s_BadRow_BadWord => k_is)
    (case tc_BadNumber => k_is)
    (case ic_BadNumber => k_is)
    (case sb_BadNumber => k_is)
    (case x_BadNumber => k_exc)
    (case kc_BadNumber => k_is)
    (case ga_BadNumber => k_is)
    (case gk_BadNumber => k_is)
    (case hd_BadNumber => k_is)
    (case ca_BadNumber => k_is)
    (case mo_BadNumber => k_is)
    (case ss_BadNumber => k_is)
    (case sv_BadNumber => k_is)
    (case s_BadWord_BadNumber => k_is)
    (case s_BadNumber_BadNumber => k_is)
    (case s_BadOrder_BadNumber => k_is)
    (case s_BadRow_BadNumber => k_is)
    (case tc_BadOrder => k_is)
    (case ic_BadOrder => k_is)
    (case sb_BadOrder => k_is)
    (case x_BadOrder => k_exc)
    (case kc_BadOrder => k_is)
    (case ga_BadOrder => k_is)
    (case gk_BadOrder => k_is)
    (case hd_BadOrder => k_is)
    (case ca_BadOrder => k_is)
    (case mo_BadOrder => k_is)
    (case ss_BadOrder => k_is)
    (case sv_BadOrder => k_is)
    (case s_BadWord_BadOrder => k_is)
    (case s_BadNumber_BadOrder => k_is)
    (case s_BadOrder_BadOrder => k_is)
    (case s_BadRow_BadOrder => k_is)
    (case tc_BadRow => k_is)
    (case ic_BadRow => k_is)
    (case sb_BadRow => k_is)
    (case x_BadRow => k_exc)
    (case kc_BadRow => k_is)
    (case ga_BadRow => k_is)
    (case gk_BadRow => k_is)
    (case hd_BadRow => k_is)
    (case ca_BadRow => k_is)
    (case mo_BadRow => k_is)
    (case ss_BadRow => k_is)
    (case sv_BadRow => k_is)
    (case s_BadWord_BadRow => k_is)
    (case s_BadNumber_BadRow => k_is)
    (case s_BadOrder_BadRow => k_is)
    (case s_BadRow_BadRow => k_is)
    (case tc_RiseError => k_is)
    (case ic_RiseError => k_is)
    (case sb_RiseError => k_is)
