import PyProof.Rows.All
import Wide.All
import OpenK.AllK
import Wide.FinOn
import HandS.ForMost
import HandS.Zip
import HandS.Walk
import HandS.Evl
import KE.GoesEnum
import KE.KDictZip
import KE.KUnpackStar
import PyProof.StrWalks
import HandS.SetFor
import PySem.Challenge.RW_mostrows_k33_whole_none_comes_to_less
set_option Elab.async false
set_option linter.all false
set_option maxRecDepth 100000
set_option maxHeartbeats 4000000
namespace LP
/-! ### sums -/
def sumN : Nat → (Nat → Int) → Int
  | 0, _ => 0
  | n + 1, f => sumN n f + f n
theorem sumN_congr : ∀ {n : Nat} {f g : Nat → Int}, (∀ i, i < n → f i = g i) → sumN n f = sumN n g
  | 0, _, _, _ => rfl
  | n + 1, f, g, h => by
    show sumN n f + f n = sumN n g + g n
    rw [sumN_congr fun i hi => h i (Nat.lt_succ_of_lt hi), h n (Nat.lt_succ_self n)]
theorem sumN_add : ∀ (n : Nat) (f g : Nat → Int), sumN n (fun i => f i + g i) = sumN n f + sumN n g
  | 0, _, _ => rfl
  | n + 1, f, g => by
    show sumN n (fun i => f i + g i) + (f n + g n) = (sumN n f + f n) + (sumN n g + g n)
    rw [sumN_add n f g]; omega
theorem sumN_sub : ∀ (n : Nat) (f g : Nat → Int), sumN n (fun i => f i - g i) = sumN n f - sumN n g
  | 0, _, _ => rfl
  | n + 1, f, g => by
    show sumN n (fun i => f i - g i) + (f n - g n) = (sumN n f + f n) - (sumN n g + g n)
    rw [sumN_sub n f g]; omega
theorem sumN_mul : ∀ (n : Nat) (c : Int) (f : Nat → Int), sumN n (fun i => c * f i) = c * sumN n f
  | 0, c, _ => (Int.mul_zero c).symm
  | n + 1, c, f => by
    show sumN n (fun i => c * f i) + c * f n = c * (sumN n f + f n)
    rw [sumN_mul n c f, Int.mul_add]
theorem sumN_mulr (n : Nat) (c : Int) (f : Nat → Int) : sumN n (fun i => f i * c) = sumN n f * c := by
  rw [Int.mul_comm, ← sumN_mul]
  exact sumN_congr fun i _ => Int.mul_comm _ _
theorem sumN_zero : ∀ {n : Nat} {f : Nat → Int}, (∀ i, i < n → f i = 0) → sumN n f = 0
  | 0, _, _ => rfl
  | n + 1, f, h => by
    show sumN n f + f n = 0
    rw [sumN_zero fun i hi => h i (Nat.lt_succ_of_lt hi), h n (Nat.lt_succ_self n)]; rfl
theorem sumN_nonneg : ∀ {n : Nat} {f : Nat → Int}, (∀ i, i < n → 0 ≤ f i) → 0 ≤ sumN n f
  | 0, _, _ => Int.le_refl 0
  | n + 1, f, h => by
    show 0 ≤ sumN n f + f n
    have a := sumN_nonneg (n := n) fun i hi => h i (Nat.lt_succ_of_lt hi)
    have b := h n (Nat.lt_succ_self n)
    omega
theorem sumN_le : ∀ {n : Nat} {f g : Nat → Int}, (∀ i, i < n → f i ≤ g i) → sumN n f ≤ sumN n g
  | 0, _, _, _ => Int.le_refl 0
  | n + 1, f, g, h => by
    show sumN n f + f n ≤ sumN n g + g n
    have a := sumN_le (n := n) fun i hi => h i (Nat.lt_succ_of_lt hi)
    have b := h n (Nat.lt_succ_self n)
    omega
theorem sumN_one : ∀ {n : Nat} {f : Nat → Int} {k : Nat}, k < n → (∀ i, i < n → i ≠ k → f i = 0) → sumN n f = f k
  | n + 1, f, k, hk, h => by
    show sumN n f + f n = f k
    by_cases e : k = n
    · rw [sumN_zero fun i hi => h i (Nat.lt_succ_of_lt hi) (by omega), e]; omega
    · rw [sumN_one (n := n) (by omega) fun i hi hne => h i (Nat.lt_succ_of_lt hi) hne, h n (Nat.lt_succ_self n) (by omega)]; omega
theorem sumN_two : ∀ {n : Nat} {f : Nat → Int} {k l : Nat}, k < n → l < n → k ≠ l → (∀ i, i < n → i ≠ k → i ≠ l → f i = 0) → sumN n f = f k + f l
  | n + 1, f, k, l, hk, hl, hkl, h => by
    show sumN n f + f n = f k + f l
    by_cases e : k = n
    · rw [sumN_one (n := n) (k := l) (by omega) fun i hi hne => h i (Nat.lt_succ_of_lt hi) (by omega) hne, e]; omega
    · by_cases e2 : l = n
      · rw [sumN_one (n := n) (k := k) (by omega) fun i hi hne => h i (Nat.lt_succ_of_lt hi) hne (by omega), e2]
      · rw [sumN_two (n := n) (k := k) (l := l) (by omega) (by omega) hkl fun i hi hne => h i (Nat.lt_succ_of_lt hi) hne, h n (Nat.lt_succ_self n) (by omega) (by omega)]; omega
theorem sumN_swap : ∀ (n m : Nat) (f : Nat → Nat → Int), sumN n (fun i => sumN m (fun j => f i j)) = sumN m (fun j => sumN n (fun i => f i j))
  | 0, m, f => (sumN_zero fun _ _ => rfl).symm
  | n + 1, m, f => by
    show sumN n (fun i => sumN m (fun j => f i j)) + sumN m (fun j => f n j) = sumN m (fun j => sumN n (fun i => f i j) + f n j)
    rw [sumN_swap n m f, ← sumN_add]
theorem sumN_split : ∀ (n m : Nat) (f : Nat → Int), sumN (n + m) f = sumN n f + sumN m (fun i => f (n + i))
  | n, 0, f => by show sumN n f = sumN n f + 0; omega
  | n, m + 1, f => by
    show sumN (n + m) f + f (n + m) = sumN n f + (sumN m (fun i => f (n + i)) + f (n + m))
    rw [sumN_split n m f]; omega
/-- a negative sum has a negative term -/
theorem sumN_neg : ∀ {n : Nat} {f : Nat → Int}, sumN n f < 0 → ∃ i, i < n ∧ f i < 0
  | 0, _, h => absurd h (Int.lt_irrefl 0)
  | n + 1, f, h => by
    have h : sumN n f + f n < 0 := h
    by_cases e : f n < 0
    · exact ⟨n, Nat.lt_succ_self n, e⟩
    · obtain ⟨i, hi, hn⟩ := sumN_neg (n := n) (f := f) (by omega)
      exact ⟨i, Nat.lt_succ_of_lt hi, hn⟩
/-- bounds -/
theorem sumN_bound : ∀ {n : Nat} {f : Nat → Int} {M : Int}, (∀ i, i < n → -M ≤ f i ∧ f i ≤ M) → -((n : Int) * M) ≤ sumN n f ∧ sumN n f ≤ (n : Int) * M
  | 0, _, M, _ => by simp [sumN]
  | n + 1, f, M, h => by
    have a := sumN_bound (n := n) fun i hi => h i (Nat.lt_succ_of_lt hi)
    have b := h n (Nat.lt_succ_self n)
    show -(((n + 1 : Nat) : Int) * M) ≤ sumN n f + f n ∧ sumN n f + f n ≤ ((n + 1 : Nat) : Int) * M
    have e : ((n + 1 : Nat) : Int) * M = (n : Int) * M + M := by rw [Int.natCast_add, Int.add_mul]; simp
    rw [e]; omega

/-! ### an alternating multilinear function of n vectors -/
abbrev Vec := Nat → Int
def expand (f : List Vec → Int) (n : Nat) : Int → List Vec → List Vec → Int
  | _, _, [] => 0
  | s, pre, x :: r => s * x n * f (pre ++ r) + expand f n (-s) (pre ++ [x]) r
def sg : Nat → Int
  | 0 => 1
  | n + 1 => - sg n
def D : Nat → List Vec → Int
  | 0, _ => 1
  | n + 1, cs => expand (D n) n (sg n) [] cs

theorem expand_zero {f : List Vec → Int} {n : Nat} : ∀ (r : List Vec) (s : Int) (pre : List Vec), (∀ x ∈ r, x n = 0) → expand f n s pre r = 0
  | [], _, _, _ => rfl
  | x :: r, s, pre, h => by
    show s * x n * f (pre ++ r) + expand f n (-s) (pre ++ [x]) r = 0
    rw [h x List.mem_cons_self, expand_zero r _ _ fun y hy => h y (List.mem_cons_of_mem _ hy)]; simp
/-- an expansion of two parts -/
theorem expand_append {f : List Vec → Int} {n : Nat} : ∀ (a b : List Vec) (s : Int) (pre : List Vec),
    expand f n s pre (a ++ b) = expand (fun l => f (l ++ b)) n s pre a + expand f n (s * sg a.length) (pre ++ a) b
  | [], b, s, pre => by simp [expand, sg]
  | x :: a, b, s, pre => by
    show s * x n * f (pre ++ (a ++ b)) + expand f n (-s) (pre ++ [x]) (a ++ b) = (s * x n * f ((pre ++ a) ++ b) + expand (fun l => f (l ++ b)) n (-s) (pre ++ [x]) a) + expand f n (s * - sg a.length) (pre ++ x :: a) b
    rw [expand_append a b (-s) (pre ++ [x])]
    have e1 : pre ++ [x] ++ a = pre ++ x :: a := by simp
    have e2 : -s * sg a.length = s * - sg a.length := by rw [Int.neg_mul, Int.mul_neg]
    rw [e1, e2, List.append_assoc]; omega
theorem expand_congr {f g : List Vec → Int} {n : Nat} : ∀ (r : List Vec) (s : Int) (pre : List Vec),
    (∀ l : List Vec, l.length + 1 = pre.length + r.length → f l = g l) → expand f n s pre r = expand g n s pre r
  | [], _, _, _ => rfl
  | x :: r, s, pre, h => by
    show s * x n * f (pre ++ r) + expand f n (-s) (pre ++ [x]) r = s * x n * g (pre ++ r) + expand g n (-s) (pre ++ [x]) r
    rw [h (pre ++ r) (by simp; omega), expand_congr r (-s) (pre ++ [x]) fun l hl => h l (by simp at hl ⊢; omega)]
theorem expand_lin {f g h : List Vec → Int} {n : Nat} (b c d : Int) : ∀ (r : List Vec) (s : Int) (pre : List Vec),
    (∀ l : List Vec, l.length + 1 = pre.length + r.length → b * f l = c * g l + d * h l) →
    b * expand f n s pre r = c * expand g n s pre r + d * expand h n s pre r
  | [], _, _, _ => by simp [expand]
  | x :: r, s, pre, e => by
    show b * (s * x n * f (pre ++ r) + expand f n (-s) (pre ++ [x]) r) = c * (s * x n * g (pre ++ r) + expand g n (-s) (pre ++ [x]) r) + d * (s * x n * h (pre ++ r) + expand h n (-s) (pre ++ [x]) r)
    rw [Int.mul_add, Int.mul_add, Int.mul_add, expand_lin b c d r (-s) (pre ++ [x]) fun l hl => e l (by simp at hl ⊢; omega)]
    have e1 : b * (s * x n * f (pre ++ r)) = s * x n * (b * f (pre ++ r)) := by rw [Int.mul_left_comm]
    have e2 : c * (s * x n * g (pre ++ r)) = s * x n * (c * g (pre ++ r)) := by rw [Int.mul_left_comm]
    have e3 : d * (s * x n * h (pre ++ r)) = s * x n * (d * h (pre ++ r)) := by rw [Int.mul_left_comm]
    rw [e1, e2, e3, e (pre ++ r) (by simp; omega), Int.mul_add]; omega
theorem expand_pre {f : List Vec → Int} {n : Nat} (p : List Vec) : ∀ (r : List Vec) (s : Int) (q : List Vec), expand f n s (p ++ q) r = expand (fun l => f (p ++ l)) n s q r
  | [], _, _ => rfl
  | x :: r, s, q => by
    show s * x n * f (p ++ q ++ r) + expand f n (-s) (p ++ q ++ [x]) r = s * x n * f (p ++ (q ++ r)) + expand (fun l => f (p ++ l)) n (-s) (q ++ [x]) r
    rw [List.append_assoc, List.append_assoc, expand_pre p r (-s) (q ++ [x])]
/-- the three parts of an expansion at a place -/
theorem D_at (n : Nat) (P post : List Vec) (x : Vec) : D (n + 1) (P ++ x :: post) =
    expand (fun l => D n (l ++ x :: post)) n (sg n) [] P + (sg n * sg P.length * x n * D n (P ++ post) + expand (fun l => D n (P ++ x :: l)) n (-(sg n * sg P.length)) [] post) := by
  show expand (D n) n (sg n) [] (P ++ x :: post) = _
  rw [expand_append P (x :: post)]
  show _ + (sg n * sg P.length * x n * D n ([] ++ P ++ post) + expand (D n) n (-(sg n * sg P.length)) ([] ++ P ++ [x]) post) = _
  have e : expand (D n) n (-(sg n * sg P.length)) ([] ++ P ++ [x]) post = expand (fun l => D n (P ++ x :: l)) n (-(sg n * sg P.length)) [] post := by
    have := expand_pre (f := D n) (n := n) (P ++ [x]) post (-(sg n * sg P.length)) []
    rw [List.append_nil] at this
    rw [List.nil_append, this]
    exact expand_congr post _ _ fun l _ => by simp
  rw [e, List.nil_append]
theorem D_lin : ∀ (n : Nat) (pre post : List Vec) (x y z : Vec) (b c d : Int), (pre ++ x :: post).length = n → (∀ i, i < n → b * x i = c * y i + d * z i) →
    b * D n (pre ++ x :: post) = c * D n (pre ++ y :: post) + d * D n (pre ++ z :: post)
  | 0, pre, post, x, y, z, b, c, d, hl, _ => by simp at hl
  | n + 1, P, post, x, y, z, b, c, d, hl, h => by
    have hl : P.length + (post.length + 1) = n + 1 := by simpa using hl
    have e1 : b * expand (fun l => D n (l ++ x :: post)) n (sg n) [] P = c * expand (fun l => D n (l ++ y :: post)) n (sg n) [] P + d * expand (fun l => D n (l ++ z :: post)) n (sg n) [] P :=
      expand_lin b c d P _ _ fun l hl2 => D_lin n l post x y z b c d (by simp at hl2 ⊢; omega) fun i hi => h i (by omega)
    have e3 : b * expand (fun l => D n (P ++ x :: l)) n (-(sg n * sg P.length)) [] post = c * expand (fun l => D n (P ++ y :: l)) n (-(sg n * sg P.length)) [] post + d * expand (fun l => D n (P ++ z :: l)) n (-(sg n * sg P.length)) [] post :=
      expand_lin b c d post _ _ fun l hl2 => D_lin n P l x y z b c d (by simp at hl2 ⊢; omega) fun i hi => h i (by omega)
    have e2 : b * (sg n * sg P.length * x n * D n (P ++ post)) = c * (sg n * sg P.length * y n * D n (P ++ post)) + d * (sg n * sg P.length * z n * D n (P ++ post)) := by
      have q := h n (Nat.lt_succ_self n)
      generalize D n (P ++ post) = m
      generalize sg n * sg P.length = s
      have a1 : b * (s * x n * m) = s * (b * x n) * m := by grind
      rw [a1, q]; grind
    rw [D_at, D_at, D_at, Int.mul_add, Int.mul_add, Int.mul_add, Int.mul_add, Int.mul_add, Int.mul_add, e1, e2, e3]
    omega
theorem sg_succ (n : Nat) : sg (n + 1) = - sg n := rfl
theorem D_swap : ∀ (n : Nat) (pre post : List Vec) (x y : Vec), (pre ++ x :: y :: post).length = n → D n (pre ++ x :: y :: post) = - D n (pre ++ y :: x :: post)
  | 0, pre, post, x, y, hl => by simp at hl
  | n + 1, P, post, x, y, hl => by
    have hl : P.length + (post.length + 1 + 1) = n + 1 := by simpa using hl
    have full : ∀ x y : Vec, D (n + 1) (P ++ x :: y :: post) = expand (fun l => D n (l ++ x :: y :: post)) n (sg n) [] P +
        (sg n * sg P.length * x n * D n (P ++ y :: post) + (-(sg n * sg P.length) * y n * D n (P ++ x :: post) + expand (fun l => D n (P ++ x :: y :: l)) n (sg n * sg P.length) [] post)) := fun x y => by
      rw [D_at]
      congr 1
      congr 1
      show -(sg n * sg P.length) * y n * D n (P ++ x :: ([] ++ post)) + expand (fun l => D n (P ++ x :: l)) n (-(-(sg n * sg P.length))) ([] ++ [y]) post = _
      rw [List.nil_append, List.nil_append, Int.neg_neg]
      have := expand_pre (f := fun l => D n (P ++ x :: l)) (n := n) [y] post (sg n * sg P.length) []
      rw [List.append_nil] at this
      rw [this]
      rfl
    have e1 := expand_lin (n := n) (f := fun l => D n (l ++ x :: y :: post)) (g := fun l => D n (l ++ y :: x :: post)) (h := fun l => D n (l ++ y :: x :: post)) 1 (-1) 0 P (sg n) [] fun l hl2 => by
      rw [D_swap n l post x y (by simp at hl2 ⊢; omega)]; omega
    have e3 := expand_lin (n := n) (f := fun l => D n (P ++ x :: y :: l)) (g := fun l => D n (P ++ y :: x :: l)) (h := fun l => D n (P ++ y :: x :: l)) 1 (-1) 0 post (sg n * sg P.length) [] fun l hl2 => by
      rw [D_swap n P l x y (by simp at hl2 ⊢; omega)]; omega
    rw [full x y, full y x]
    generalize sg n * sg P.length = s at e3 ⊢
    have a1 : s * x n * D n (P ++ y :: post) = -(-s * x n * D n (P ++ y :: post)) := by grind
    have a2 : -s * y n * D n (P ++ x :: post) = -(s * y n * D n (P ++ x :: post)) := by grind
    rw [a1, a2]
    omega
/-- two alike: nothing -/
theorem D_eq (n : Nat) (x : Vec) : ∀ (mid pre post : List Vec), (pre ++ x :: (mid ++ x :: post)).length = n → D n (pre ++ x :: (mid ++ x :: post)) = 0
  | [], pre, post, h => by
    have := D_swap n pre post x x (by simpa using h)
    show D n (pre ++ x :: x :: post) = 0
    omega
  | m :: mid, pre, post, h => by
    show D n (pre ++ x :: m :: (mid ++ x :: post)) = 0
    rw [D_swap n pre (mid ++ x :: post) x m (by simpa using h)]
    have := D_eq n x mid (pre ++ [m]) post (by simpa [Nat.add_assoc, Nat.add_comm, Nat.add_left_comm] using h)
    rw [List.append_assoc] at this
    show - D n (pre ++ ([m] ++ x :: (mid ++ x :: post))) = 0
    rw [this]; rfl
theorem D_ex (n : Nat) (x y : Vec) (mid pre post : List Vec) (h : (pre ++ x :: (mid ++ y :: post)).length = n) : D n (pre ++ x :: (mid ++ y :: post)) = - D n (pre ++ y :: (mid ++ x :: post)) := by
  have hl : ∀ u v : Vec, (pre ++ u :: (mid ++ v :: post)).length = n := fun u v => by simpa using h
  have l1 : ∀ v, D n (pre ++ (fun i => x i + y i) :: (mid ++ v :: post)) = D n (pre ++ x :: (mid ++ v :: post)) + D n (pre ++ y :: (mid ++ v :: post)) := fun v => by
    have := D_lin n pre (mid ++ v :: post) (fun i => x i + y i) x y 1 1 1 (hl _ _) fun i _ => by simp
    simpa using this
  have l2 : ∀ u, D n (pre ++ u :: (mid ++ (fun i => x i + y i) :: post)) = D n (pre ++ u :: (mid ++ x :: post)) + D n (pre ++ u :: (mid ++ y :: post)) := fun u => by
    have := D_lin n (pre ++ u :: mid) post (fun i => x i + y i) x y 1 1 1 (by simpa using h) fun i _ => by simp
    simpa using this
  have z := D_eq n (fun i => x i + y i) mid pre post (hl _ _)
  have zx := D_eq n x mid pre post (hl _ _)
  have zy := D_eq n y mid pre post (hl _ _)
  rw [l1, l2, l2] at z
  omega
end LP
namespace LP
/-! ### by places -/
def up {α : Type} (f : Nat → α) (i : Nat) (v : α) : Nat → α := fun l => if l = i then v else f l
theorem up_same {α : Type} {f : Nat → α} {i : Nat} {v : α} : up f i v i = v := if_pos rfl
theorem up_ne {α : Type} {f : Nat → α} {i l : Nat} {v : α} (h : l ≠ i) : up f i v l = f l := if_neg h
def DF (n : Nat) (f : Nat → Vec) : Int := D n ((List.range n).map f)
theorem D_congr : ∀ (n : Nat) (xs ys : List Vec), xs.length = n → ys.length = n → (∀ k, k < n → ∀ r, r < n → (xs.getD k (fun _ => 0)) r = (ys.getD k (fun _ => 0)) r) → D n xs = D n ys := by
  intro n
  have key : ∀ (xs ys pre : List Vec), (pre ++ xs).length = n → xs.length = ys.length → (∀ k, k < xs.length → ∀ r, r < n → (xs.getD k (fun _ => 0)) r = (ys.getD k (fun _ => 0)) r) → D n (pre ++ xs) = D n (pre ++ ys) := by
    intro xs
    induction xs with
    | nil =>
      intro ys pre _ h _
      cases ys with
      | nil => rfl
      | cons y ys => simp at h
    | cons x xs ih =>
      intro ys pre hl h e
      cases ys with
      | nil => simp at h
      | cons y ys =>
        have e1 := D_lin n pre xs x y y 1 1 0 hl fun i hi => by
          have := e 0 (by simp) i hi
          simp at this
          omega
        have e1 : D n (pre ++ x :: xs) = D n (pre ++ y :: xs) := by omega
        rw [e1]
        have := ih ys (pre ++ [y]) (by simpa [Nat.add_assoc, Nat.add_comm] using hl) (by simpa using h) fun k hk r hr => by
          have := e (k + 1) (by simpa using hk) r hr
          simpa using this
        simpa [List.append_assoc] using this
  intro xs ys h1 h2 e
  exact key xs ys [] (by simpa using h1) (by omega) (fun k hk r hr => e k (by omega) r hr)
theorem DF_congr {n : Nat} {f g : Nat → Vec} (h : ∀ i, i < n → ∀ r, r < n → f i r = g i r) : DF n f = DF n g :=
  D_congr n _ _ (by simp) (by simp) fun k hk r hr => by
    rw [List.getD_eq_getElem?_getD, List.getD_eq_getElem?_getD, List.getElem?_map, List.getElem?_map, List.getElem?_range hk]
    exact h k hk r hr
theorem range_at {n i : Nat} (f : Nat → Vec) (h : i < n) : (List.range n).map f = (List.range i).map f ++ f i :: (List.range' (i + 1) (n - 1 - i)).map f := by
  have e : n = i + (1 + (n - 1 - i)) := by omega
  have : List.range n = List.range i ++ (i :: List.range' (i + 1) (n - 1 - i)) := by
    rw [List.range_eq_range', List.range_eq_range']
    conv => lhs; rw [e]
    rw [← List.range'_append_1, Nat.zero_add, Nat.add_comm 1 (n - 1 - i), List.range'_succ]
  rw [this, List.map_append, List.map_cons]
theorem map_up_lt {l : List Nat} {f : Nat → Vec} {i : Nat} {v : Vec} (h : i ∉ l) : l.map (up f i v) = l.map f :=
  List.map_congr_left fun x hx => up_ne fun e => h (e ▸ hx)
theorem DF_at {n i : Nat} (f : Nat → Vec) (v : Vec) (h : i < n) : DF n (up f i v) = D n ((List.range i).map f ++ v :: (List.range' (i + 1) (n - 1 - i)).map f) := by
  unfold DF
  rw [range_at _ h, up_same, map_up_lt (by simp), map_up_lt (by simp <;> omega)]
theorem DF_lin {n i : Nat} (f : Nat → Vec) (x y z : Vec) (b c d : Int) (h : i < n) (e : ∀ r, r < n → b * x r = c * y r + d * z r) :
    b * DF n (up f i x) = c * DF n (up f i y) + d * DF n (up f i z) := by
  rw [DF_at f x h, DF_at f y h, DF_at f z h]
  exact D_lin n _ _ x y z b c d (by simp; omega) e
theorem DF_sum {n i : Nat} (f : Nat → Vec) (h : i < n) (w : Nat → Vec) (t : Nat → Int) : ∀ (m : Nat) (v : Vec) (b : Int), (∀ r, r < n → b * v r = sumN m fun l => t l * w l r) →
    b * DF n (up f i v) = sumN m fun l => t l * DF n (up f i (w l))
  | 0, v, b, e => by
    have := DF_lin f v v v b 0 0 h fun r hr => by rw [e r hr]; simp [sumN]
    simpa [sumN] using this
  | m + 1, v, b, e => by
    have ih := DF_sum f h w t m (fun r => sumN m fun l => t l * w l r) 1 fun r _ => by simp
    have := DF_lin f v (fun r => sumN m fun l => t l * w l r) (w m) b 1 (t m) h fun r hr => by rw [e r hr]; simp [sumN]
    rw [this, ih]
    rfl
theorem map_two {n i j : Nat} (g : Nat → Vec) (h : i < j) (hj : j < n) : (List.range n).map g = (List.range i).map g ++ g i :: ((List.range' (i + 1) (j - 1 - i)).map g ++ g j :: (List.range' (j + 1) (n - 1 - j)).map g) := by
  rw [range_at _ hj, range_at _ h, List.append_assoc]
  rfl
theorem DF_two {n i j : Nat} (f : Nat → Vec) (x y : Vec) (h : i < j) (hj : j < n) : DF n (up (up f i x) j y) = D n ((List.range i).map f ++ x :: ((List.range' (i + 1) (j - 1 - i)).map f ++ y :: (List.range' (j + 1) (n - 1 - j)).map f)) := by
  unfold DF
  rw [map_two _ h hj, up_same, up_ne (show i ≠ j by omega), up_same]
  have a : ∀ l : List Nat, i ∉ l → j ∉ l → l.map (up (up f i x) j y) = l.map f := fun l h1 h2 => by rw [map_up_lt h2, map_up_lt h1]
  rw [a _ (by simp) (by simp <;> omega), a _ (by simp <;> omega) (by simp <;> omega), a _ (by simp <;> omega) (by simp <;> omega)]
theorem up_comm {α : Type} {f : Nat → α} {i j : Nat} {x y : α} (h : i ≠ j) : up (up f i x) j y = up (up f j y) i x := by
  funext l; unfold up; split <;> split <;> first | rfl | omega
theorem up_up {α : Type} {f : Nat → α} {i : Nat} {x y : α} : up (up f i x) i y = up f i y := by
  funext l; unfold up; split <;> rfl
theorem up_self {α : Type} {f : Nat → α} {i : Nat} : up f i (f i) = f := by
  funext l; unfold up; split
  · rename_i h; rw [h]
  · rfl
theorem DF_ex {n i j : Nat} (f : Nat → Vec) (x y : Vec) (h : i ≠ j) (hi : i < n) (hj : j < n) : DF n (up (up f i x) j y) = - DF n (up (up f i y) j x) := by
  rcases Nat.lt_or_gt_of_ne h with k | k
  · rw [DF_two f x y k hj, DF_two f y x k hj]
    exact D_ex n x y _ _ _ (by simp; omega)
  · rw [up_comm h, up_comm h, DF_two f y x k hi, DF_two f x y k hi]
    exact D_ex n y x _ _ _ (by simp; omega)
theorem DF_same {n i j : Nat} (f : Nat → Vec) (h : i ≠ j) (hi : i < n) (hj : j < n) (e : f i = f j) : DF n f = 0 := by
  have := DF_ex f (f i) (f j) h hi hj
  have e1 : up (up f i (f i)) j (f j) = f := by rw [up_self, up_self]
  have e2 : up (up f i (f j)) j (f i) = f := by
    rw [← e, up_self, e, up_self]
  rw [e1, e2] at this
  omega
/-- Cramer -/
theorem cramer {n i : Nat} {B : Nat → Vec} {b : Int} {a : Vec} {t : Nat → Int} (hb : b = DF n B) (hp : b ≠ 0) (hi : i < n) (e : ∀ r, r < n → b * a r = sumN n fun l => t l * B l r) : DF n (up B i a) = t i := by
  have s := DF_sum B hi B t n a b e
  rw [sumN_one hi fun l hl hne => by rw [DF_same (up B i (B l)) hne hl hi (by rw [up_same, up_ne hne])]; simp, up_self, ← hb, Int.mul_comm (t i)] at s
  exact Int.eq_of_mul_eq_mul_left hp s
theorem exchange {n i k : Nat} {B : Nat → Vec} {b : Int} {a c : Vec} {t u : Nat → Int} (hb : b = DF n B) (hp : b ≠ 0) (hi : i < n) (hk : k < n) (hik : i ≠ k)
    (ea : ∀ r, r < n → b * a r = sumN n fun l => t l * B l r) (ec : ∀ r, r < n → b * c r = sumN n fun l => u l * B l r) : b * DF n (up (up B k c) i a) = t i * u k - u i * t k := by
  have s := DF_sum (up B k c) hi B t n a b ea
  rw [sumN_two hi hk hik fun l hl h1 h2 => by rw [DF_same (up (up B k c) i (B l)) h1 hl hi (by rw [up_same, up_ne h1, up_ne h2])]; simp] at s
  have e1 : up (up B k c) i (B i) = up B k c := by
    rw [up_comm hik.symm, up_self]
  have e2 : DF n (up (up B k c) i (B k)) = - DF n (up B i c) := by
    rw [up_comm hik.symm, DF_ex B (B k) c hik hi hk]
    rw [up_comm hik, up_self]
  rw [e1, e2, cramer hb hp hk ec, cramer hb hp hi ec] at s
  rw [s, Int.mul_neg, Int.mul_comm (u i)]
  rfl
/-- the unit vectors -/
def unitV (i : Nat) : Vec := fun r => if r = i then 1 else 0
theorem sg_sq : ∀ n, sg n * sg n = 1
  | 0 => rfl
  | n + 1 => by show -sg n * -sg n = 1; rw [Int.neg_mul_neg]; exact sg_sq n
theorem D_unit : ∀ n, DF n unitV = 1
  | 0 => rfl
  | n + 1 => by
    unfold DF
    rw [List.range_succ, List.map_append]
    show D (n + 1) ((List.range n).map unitV ++ [unitV n]) = 1
    rw [D_at, expand_zero _ _ _ (fun x hx => by
      obtain ⟨i, hi, rfl⟩ := List.mem_map.mp hx
      have := List.mem_range.mp hi
      unfold unitV; rw [if_neg (by omega)])]
    have ih : D n ((List.range n).map unitV) = 1 := D_unit n
    simp only [List.append_nil, expand, List.length_map, List.length_range, ih, sg_sq]
    simp [unitV]
/-! ### bounds -/
theorem expand_bound {f : List Vec → Int} {n M F : Nat} : ∀ (r : List Vec) (s : Int) (pre : List Vec), s.natAbs = 1 → (∀ x ∈ r, (x n).natAbs ≤ M) → (∀ l : List Vec, (∀ x ∈ l, x ∈ pre ∨ x ∈ r) → l.length + 1 = pre.length + r.length → (f l).natAbs ≤ F) →
    (expand f n s pre r).natAbs ≤ r.length * (M * F)
  | [], _, _, _, _, _ => by simp [expand]
  | x :: r, s, pre, hs, hx, hf => by
    show (s * x n * f (pre ++ r) + expand f n (-s) (pre ++ [x]) r).natAbs ≤ (r.length + 1) * (M * F)
    have a := expand_bound (f := f) (n := n) (M := M) (F := F) r (-s) (pre ++ [x]) (by simpa using hs) (fun y hy => hx y (List.mem_cons_of_mem _ hy)) fun l h1 h2 => hf l (fun y hy => by
      rcases h1 y hy with z | z
      · rcases List.mem_append.mp z with z | z
        · exact .inl z
        · exact .inr (by simp at z; rw [z]; exact List.mem_cons_self)
      · exact .inr (List.mem_cons_of_mem _ z)) (by simp at h2 ⊢; omega)
    have c1 := hx x List.mem_cons_self
    have c2 := hf (pre ++ r) (fun y hy => by
      rcases List.mem_append.mp hy with z | z
      · exact .inl z
      · exact .inr (List.mem_cons_of_mem _ z)) (by simp; omega)
    have e : (s * x n * f (pre ++ r)).natAbs ≤ M * F := by
      rw [Int.natAbs_mul, Int.natAbs_mul, hs, Nat.one_mul]
      exact Nat.mul_le_mul c1 c2
    have t := Int.natAbs_add_le (s * x n * f (pre ++ r)) (expand f n (-s) (pre ++ [x]) r)
    rw [Nat.add_mul, Nat.one_mul]
    omega
def bnd (M : Nat) : Nat → Nat
  | 0 => 1
  | n + 1 => (n + 1) * (M * bnd M n)
theorem sg_abs : ∀ n, (sg n).natAbs = 1
  | 0 => rfl
  | n + 1 => by show (-sg n).natAbs = 1; rw [Int.natAbs_neg]; exact sg_abs n
theorem D_bound {M : Nat} : ∀ (n : Nat) (cs : List Vec), cs.length = n → (∀ x ∈ cs, ∀ r, r < n → (x r).natAbs ≤ M) → (D n cs).natAbs ≤ bnd M n
  | 0, _, _, _ => Nat.le_refl 1
  | n + 1, cs, hl, h => by
    show (expand (D n) n (sg n) [] cs).natAbs ≤ (n + 1) * (M * bnd M n)
    have := expand_bound (f := D n) (n := n) (M := M) (F := bnd M n) cs (sg n) [] (sg_abs n) (fun x hx => h x hx n (Nat.lt_succ_self n)) fun l h1 h2 => D_bound n l (by simp at h2; omega) fun x hx r hr => h x (by simpa using h1 x hx) r (by omega)
    rw [hl] at this
    exact this
theorem DF_bound {M n : Nat} {f : Nat → Vec} (h : ∀ i, i < n → ∀ r, r < n → (f i r).natAbs ≤ M) : (DF n f).natAbs ≤ bnd M n :=
  D_bound n _ (by simp) fun x hx r hr => by
    obtain ⟨i, hi, rfl⟩ := List.mem_map.mp hx
    exact h i (List.mem_range.mp hi) r hr
theorem bnd_mono {M : Nat} (hM : 1 ≤ M) : ∀ {n m : Nat}, n ≤ m → bnd M n ≤ bnd M m := by
  intro n m h
  induction h with
  | refl => exact Nat.le_refl _
  | step h ih =>
    rename_i m
    refine Nat.le_trans ih ?_
    show bnd M m ≤ (m + 1) * (M * bnd M m)
    have := Nat.mul_le_mul (show 1 ≤ m + 1 by omega) (Nat.mul_le_mul hM (Nat.le_refl (bnd M m)))
    simpa using this
end LP
namespace LP
/-! ### the tableau -/
def cost (w : Nat) (j : Nat) : Int := if j < w then 1 else 0
/-- columns 0 .. w - 1: the limits' rows; w .. w + n - 1: unit vectors; w + n: the right side -/
structure Prob (n w : Nat) (A : Nat → Nat → Int) : Prop where
  slack : ∀ r, r < n → ∀ s, s < n → A (w + r) s = if s = r then 1 else 0
  nonneg : ∀ j, j ≤ w + n → ∀ r, r < n → 0 ≤ A j r
  small : ∀ j, j ≤ w + n → ∀ r, r < n → (A j r).natAbs ≤ 9
  cov : ∀ j, j < w → ∃ r, r < n ∧ 0 < A j r
structure Tab (n w : Nat) (A : Nat → Nat → Int) (b : Int) (β : Nat → Nat) (T : Nat → Nat → Int) : Prop where
  pos : 0 < b
  bas : ∀ i, i < n → β i < w + n
  det : b = DF n (fun i => A (β i))
  unit : ∀ i, i ≤ n → ∀ l, l < n → T i (β l) = if i = l then b else 0
  col : ∀ j, j ≤ w + n → ∀ r, r < n → b * A j r = sumN n fun i => T i j * A (β i) r
  row : ∀ i, i < n → ∀ j, j ≤ w + n → T i j = sumN n fun r => T i (w + r) * A j r
  obj : ∀ j, j ≤ w + n → T n j = sumN n (fun r => T n (w + r) * A j r) - b * cost w j
  ob2 : ∀ j, j ≤ w + n → T n j = sumN n (fun i => cost w (β i) * T i j) - b * cost w j
  feas : ∀ i, i < n → 0 ≤ T i (w + n)
section
variable {n w : Nat} {A : Nat → Nat → Int} {b : Int} {β : Nat → Nat} {T : Nat → Nat → Int}
theorem Tab.inj (t : Tab n w A b β T) {i l : Nat} (hi : i < n) (hl : l < n) (e : β i = β l) : i = l := by
  have h1 := t.unit i (Nat.le_of_lt hi) l hl
  have h2 := t.unit i (Nat.le_of_lt hi) i hi
  rw [if_pos rfl, e, h1] at h2
  have := t.pos
  by_cases q : i = l
  · exact q
  · rw [if_neg q] at h2; omega
theorem Tab.entry (t : Tab n w A b β T) {i j : Nat} (hi : i < n) (hj : j ≤ w + n) : DF n (up (fun i => A (β i)) i (A j)) = T i j :=
  cramer t.det (by have := t.pos; omega) hi (t.col j hj)
theorem Tab.small (t : Tab n w A b β T) (p : Prob n w A) {i j : Nat} (hi : i < n) (hj : j ≤ w + n) : (T i j).natAbs ≤ bnd 9 n := by
  rw [← t.entry hi hj]
  refine DF_bound fun l hl r hr => ?_
  unfold up
  split
  · exact p.small j hj r hr
  · exact p.small _ (Nat.le_of_lt (t.bas l hl)) r hr
theorem Tab.smallB (t : Tab n w A b β T) (p : Prob n w A) : b.natAbs ≤ bnd 9 n := by
  rw [t.det]
  exact DF_bound fun l hl r hr => p.small _ (Nat.le_of_lt (t.bas l hl)) r hr
theorem cost_le (w j : Nat) : 0 ≤ cost w j ∧ cost w j ≤ 1 := by unfold cost; split <;> omega
theorem Tab.smallO (t : Tab n w A b β T) (p : Prob n w A) {j : Nat} (hj : j ≤ w + n) : (T n j).natAbs ≤ (n + 1) * bnd 9 n := by
  rw [t.ob2 j hj]
  have h1 := sumN_bound (n := n) (f := fun i => cost w (β i) * T i j) (M := (bnd 9 n : Int)) fun i hi => by
    have a := t.small p hi hj
    have c := cost_le w (β i)
    have c' : cost w (β i) = 0 ∨ cost w (β i) = 1 := by omega
    show -(bnd 9 n : Int) ≤ cost w (β i) * T i j ∧ cost w (β i) * T i j ≤ (bnd 9 n : Int)
    rcases c' with q | q <;> rw [q] <;> omega
  have h2 := t.smallB p
  have h3 : cost w j = 0 ∨ cost w j = 1 := by have := cost_le w j; omega
  have e : (n + 1) * bnd 9 n = n * bnd 9 n + bnd 9 n := by rw [Nat.add_mul, Nat.one_mul]
  have e2 : ((n * bnd 9 n : Nat) : Int) = (n : Int) * (bnd 9 n : Int) := by simp
  rcases h3 with q | q <;> rw [q] <;> omega
/-- the first tableau -/
def T0 (n w : Nat) (A : Nat → Nat → Int) (i j : Nat) : Int := if i < n then A j i else - cost w j
theorem Tab.first (p : Prob n w A) : Tab n w A 1 (fun i => w + i) (T0 n w A) where
  pos := by decide
  bas := fun i hi => by omega
  det := by
    rw [DF_congr (g := unitV) fun i hi r hr => by rw [p.slack i hi r hr]; rfl, D_unit]
  unit := fun i hi l hl => by
    unfold T0
    split
    · rename_i h
      rw [p.slack l hl i h]
    · rename_i h
      have : i = n := by omega
      subst this
      rw [if_neg (by omega)]
      unfold cost
      rw [if_neg (by omega)]; rfl
  col := fun j hj r hr => by
    rw [sumN_one hr fun i hi hne => by rw [p.slack i hi r hr, if_neg (by omega)]; simp]
    unfold T0
    rw [if_pos hr, p.slack r hr r hr, if_pos rfl]; omega
  row := fun i hi j hj => by
    unfold T0
    rw [if_pos hi, sumN_one hi fun r hr hne => by rw [if_pos hi, p.slack r hr i hi, if_neg (by omega)]; simp, if_pos hi, p.slack i hi i hi, if_pos rfl]; omega
  obj := fun j hj => by
    rw [sumN_zero fun r hr => by
      unfold T0
      rw [if_neg (by omega)]
      unfold cost
      rw [if_neg (by omega)]; simp]
    unfold T0
    rw [if_neg (by omega)]; omega
  ob2 := fun j hj => by
    rw [sumN_zero fun i hi => by
      unfold cost
      rw [if_neg (by omega)]; simp]
    unfold T0
    rw [if_neg (by omega)]; omega
  feas := fun i hi => by
    unfold T0
    rw [if_pos hi]
    exact p.nonneg _ (Nat.le_refl _) i hi

/-! ### a turn -/
section
variable {k e : Nat}
theorem Tab.exact (t : Tab n w A b β T) (hk : k < n) (he : e < w + n) {i j : Nat} (hi : i < n) (hik : i ≠ k) (hj : j ≤ w + n) :
    b * DF n (up (fun i => A (up β k e i)) i (A j)) = T i j * T k e - T i e * T k j := by
  have h := exchange (B := fun i => A (β i)) (a := A j) (c := A e) (t := fun l => T l j) (u := fun l => T l e) t.det (by have := t.pos; omega) hi hk hik (t.col j hj) (t.col e (by omega))
  have q : (fun i => A (up β k e i)) = up (fun i => A (β i)) k (A e) := by
    funext l
    unfold up
    split <;> rfl
  rw [q]
  exact h
theorem Tab.div (t : Tab n w A b β T) (hk : k < n) (he : e < w + n) {i j : Nat} (hi : i ≤ n) (hik : i ≠ k) (hj : j ≤ w + n) : b ∣ T i j * T k e - T i e * T k j := by
  by_cases h : i < n
  · exact ⟨_, (t.exact hk he h hik hj).symm⟩
  · have : i = n := by omega
    subst this
    have q : sumN i (fun l => cost w (β l) * T l j) * T k e - sumN i (fun l => cost w (β l) * T l e) * T k j = b * sumN i (fun l => if l = k then 0 else cost w (β l) * DF i (up (fun i => A (up β k e i)) l (A j))) := by
      rw [← sumN_mulr, ← sumN_mulr, ← sumN_sub, ← sumN_mul]
      refine sumN_congr fun l hl => ?_
      by_cases hlk : l = k
      · subst hlk
        rw [if_pos rfl, Int.mul_zero, Int.mul_assoc, Int.mul_assoc, Int.mul_comm (T l e)]; omega
      · rw [if_neg hlk]
        have x := t.exact hk he hl hlk hj
        generalize DF i (up (fun i => A (up β k e i)) l (A j)) = q at x ⊢
        generalize cost w (β l) = c
        grind
    rw [t.ob2 j hj, t.ob2 e (by omega)]
    refine ⟨sumN i (fun l => if l = k then 0 else cost w (β l) * DF i (up (fun i => A (up β k e i)) l (A j))) - cost w j * T k e + cost w e * T k j, ?_⟩
    generalize sumN i (fun l => if l = k then 0 else cost w (β l) * DF i (up (fun i => A (up β k e i)) l (A j))) = s at q ⊢
    grind
/-- what a turn makes -/
structure Turned (n w : Nat) (b : Int) (T : Nat → Nat → Int) (k e : Nat) (T' : Nat → Nat → Int) : Prop where
  same : ∀ j, j ≤ w + n → T' k j = T k j
  other : ∀ i, i ≤ n → i ≠ k → ∀ j, j ≤ w + n → T' i j = (T i j * T k e - T i e * T k j) / b
theorem Tab.mul (t : Tab n w A b β T) (hk : k < n) (he : e < w + n) {T' : Nat → Nat → Int} (u : Turned n w b T k e T') {i j : Nat} (hi : i ≤ n) (hik : i ≠ k) (hj : j ≤ w + n) : b * T' i j = T i j * T k e - T i e * T k j := by
  rw [u.other i hi hik j hj]
  exact Int.mul_ediv_cancel' (t.div hk he hi hik hj)
theorem sumN_upd {n k : Nat} (f g : Nat → Int) (hk : k < n) (h : ∀ i, i < n → i ≠ k → f i = g i) : sumN n f = sumN n g + (f k - g k) := by
  have : sumN n (fun i => f i - g i) = f k - g k := sumN_one hk fun i hi hne => by rw [h i hi hne]; omega
  rw [sumN_sub] at this
  omega
theorem Tab.turn (t : Tab n w A b β T) (hk : k < n) (he : e < w + n) (hm : 0 < T k e) (ratio : ∀ i, i < n → 0 < T i e → T k (w + n) * T i e ≤ T i (w + n) * T k e) {T' : Nat → Nat → Int} (u : Turned n w b T k e T') :
    Tab n w A (T k e) (up β k e) T' := by
  have hb := t.pos
  have hb0 : b ≠ 0 := by omega
  have M := fun {i j : Nat} (hi : i ≤ n) (hik : i ≠ k) (hj : j ≤ w + n) => t.mul hk he u hi hik hj
  have canc : ∀ {x y : Int}, b * x = b * y → x = y := fun h => Int.eq_of_mul_eq_mul_left hb0 h
  refine ⟨hm, fun i hi => ?_, ?_, fun i hi l hl => ?_, fun j hj r hr => ?_, fun i hi j hj => ?_, fun j hj => ?_, fun j hj => ?_, fun i hi => ?_⟩
  · unfold up; split
    · exact he
    · exact t.bas i hi
  · have q : (fun i => A (up β k e i)) = up (fun i => A (β i)) k (A e) := by
      funext l; unfold up; split <;> rfl
    rw [q, t.entry hk (by omega)]
  · -- unit
    by_cases hlk : l = k
    · subst hlk
      rw [up_same]
      by_cases hil : i = l
      · rw [if_pos hil, hil, u.same e (by omega)]
      · rw [if_neg hil]
        refine canc ?_
        rw [M hi hil (by omega)]
        rw [Int.mul_zero]; omega
    · rw [up_ne hlk]
      have hbl := t.bas l hl
      have kl : T k (β l) = 0 := by rw [t.unit k (by omega) l hl, if_neg (by omega)]
      by_cases hik : i = k
      · rw [if_neg (by omega), hik, u.same _ (by omega), kl]
      · refine canc ?_
        rw [M hi hik (by omega), kl, t.unit i hi l hl]
        split <;> simp
  · -- col
    refine canc ?_
    rw [← sumN_mul]
    have e1 : sumN n (fun i => b * (T' i j * A (up β k e i) r)) = sumN n (fun i => (T i j * T k e - T i e * T k j) * A (β i) r) + (b * (T k j * A e r) - 0) := by
      rw [sumN_upd (n := n) (k := k) _ (fun i => (T i j * T k e - T i e * T k j) * A (β i) r) hk fun i hi hik => by
        show b * (T' i j * A (up β k e i) r) = _
        rw [up_ne hik, ← Int.mul_assoc, M (by omega) hik hj]]
      show _ + (b * (T' k j * A (up β k e k) r) - (T k j * T k e - T k e * T k j) * A (β k) r) = _
      rw [up_same, u.same j hj, Int.mul_comm (T k e)]; simp
    have e2 : sumN n (fun i => (T i j * T k e - T i e * T k j) * A (β i) r) = T k e * sumN n (fun i => T i j * A (β i) r) - T k j * sumN n (fun i => T i e * A (β i) r) := by
      rw [← sumN_mul, ← sumN_mul, ← sumN_sub]
      exact sumN_congr fun i _ => by grind
    rw [e1, e2, ← t.col j hj r hr, ← t.col e (by omega) r hr]
    grind
  · -- row
    by_cases hik : i = k
    · rw [hik, u.same j hj, t.row k hk j hj]
      exact sumN_congr fun r hr => by rw [u.same _ (by omega)]
    · refine canc ?_
      rw [M (by omega) hik hj, ← sumN_mul, sumN_congr (g := fun r => T k e * (T i (w + r) * A j r) - T i e * (T k (w + r) * A j r)) fun r hr => by rw [← Int.mul_assoc, M (by omega) hik (by omega)]; grind]
      rw [sumN_sub, sumN_mul, sumN_mul, ← t.row i hi j hj, ← t.row k hk j hj]
      grind
  · -- obj
    refine canc ?_
    have hnk : n ≠ k := by omega
    rw [M (Nat.le_refl n) hnk hj, Int.mul_sub, ← sumN_mul]
    rw [sumN_congr (g := fun r => T k e * (T n (w + r) * A j r) - T n e * (T k (w + r) * A j r)) fun r hr => by rw [← Int.mul_assoc, M (Nat.le_refl n) hnk (by omega)]; grind]
    rw [sumN_sub, sumN_mul, sumN_mul, ← t.row k hk j hj]
    have o := t.obj j hj
    generalize sumN n (fun r => T n (w + r) * A j r) = s at o ⊢
    rw [o]
    grind
  · -- ob2
    refine canc ?_
    have hnk : n ≠ k := by omega
    rw [M (Nat.le_refl n) hnk hj, Int.mul_sub, ← sumN_mul]
    have e1 : sumN n (fun i => b * (cost w (up β k e i) * T' i j)) = sumN n (fun i => cost w (β i) * (T i j * T k e - T i e * T k j)) + b * (cost w e * T k j) := by
      rw [sumN_upd (n := n) (k := k) _ (fun i => cost w (β i) * (T i j * T k e - T i e * T k j)) hk fun i hi hik => by
        show b * (cost w (up β k e i) * T' i j) = _
        rw [up_ne hik, Int.mul_left_comm, M (by omega) hik hj]]
      show _ + (b * (cost w (up β k e k) * T' k j) - cost w (β k) * (T k j * T k e - T k e * T k j)) = _
      rw [up_same, u.same j hj, Int.mul_comm (T k e), Int.sub_self, Int.mul_zero, Int.sub_zero]
    have e2 : sumN n (fun i => cost w (β i) * (T i j * T k e - T i e * T k j)) = T k e * sumN n (fun i => cost w (β i) * T i j) - T k j * sumN n (fun i => cost w (β i) * T i e) := by
      rw [← sumN_mul, ← sumN_mul, ← sumN_sub]
      exact sumN_congr fun i _ => by grind
    have o1 := t.ob2 j hj
    have o2 := t.ob2 e (by omega)
    rw [e1, e2]
    generalize sumN n (fun i => cost w (β i) * T i j) = s1 at o1 ⊢
    generalize sumN n (fun i => cost w (β i) * T i e) = s2 at o2 ⊢
    rw [o1, o2]
    grind
  · -- feas
    by_cases hik : i = k
    · rw [hik, u.same _ (Nat.le_refl _)]; exact t.feas k hk
    · have h := M (j := w + n) (by omega) hik (Nat.le_refl _)
      have f1 := t.feas i hi
      have f2 := t.feas k hk
      have : 0 ≤ b * T' i (w + n) := by
        rw [h]
        by_cases q : 0 < T i e
        · have := ratio i hi q
          rw [Int.mul_comm (T i e)]; omega
        · have a1 := Int.mul_nonneg f1 (Int.le_of_lt hm)
          have a2 := Int.mul_nonneg (show 0 ≤ - T i e by omega) f2
          rw [Int.neg_mul] at a2
          omega
      exact Int.nonneg_of_mul_nonneg_right this hb
end
end
end LP
namespace LP
section
variable {n w : Nat} {A : Nat → Nat → Int} {b : Int} {β : Nat → Nat} {T : Nat → Nat → Int}
/-- a sum by things is a sum by rows -/
theorem reidx {N : Nat} {β : Nat → Nat} (u g : Nat → Int) (hβ : ∀ i, i < n → β i < N) : sumN N (fun j => g j * sumN n (fun i => if β i = j then u i else 0)) = sumN n fun i => u i * g (β i) := by
  have e : ∀ j, g j * sumN n (fun i => if β i = j then u i else 0) = sumN n (fun i => if β i = j then u i * g j else 0) := fun j => by
    rw [← sumN_mul]
    exact sumN_congr fun i _ => by split <;> simp [Int.mul_comm]
  rw [sumN_congr fun j _ => e j, sumN_swap]
  refine sumN_congr fun i hi => ?_
  show sumN N (fun j => if β i = j then u i * g j else 0) = u i * g (β i)
  rw [sumN_one (hβ i hi) fun j _ hne => if_neg (fun q => hne q.symm), if_pos rfl]
/-- the way that opens when the thing e grows: over b -/
def ray (n : Nat) (b : Int) (β : Nat → Nat) (T : Nat → Nat → Int) (e j : Nat) : Int := (if j = e then b else 0) - sumN n (fun i => if β i = j then T i e else 0)
theorem ray_sum (t : Tab n w A b β T) {e : Nat} (he : e < w + n) (g : Nat → Int) : sumN (w + n) (fun j => g j * ray n b β T e j) = b * g e - sumN n fun i => T i e * g (β i) := by
  have e1 : ∀ j, g j * ray n b β T e j = (if j = e then g j * b else 0) - g j * sumN n (fun i => if β i = j then T i e else 0) := fun j => by
    unfold ray
    rw [Int.mul_sub]
    split <;> simp
  rw [sumN_congr fun j _ => e1 j, sumN_sub, reidx (fun i => T i e) g t.bas, sumN_one he fun j _ hne => if_neg hne, if_pos rfl, Int.mul_comm]
theorem ray_A (t : Tab n w A b β T) {e : Nat} (he : e < w + n) {r : Nat} (hr : r < n) : sumN (w + n) (fun j => A j r * ray n b β T e j) = 0 := by
  rw [ray_sum t he, t.col e (by omega) r hr]
  omega
theorem ray_cost (t : Tab n w A b β T) {e : Nat} (he : e < w + n) : sumN (w + n) (fun j => cost w j * ray n b β T e j) = - T n e := by
  rw [ray_sum t he, t.ob2 e (by omega), sumN_congr (g := fun i => cost w (β i) * T i e) fun i _ => Int.mul_comm _ _]
  omega
/-- the rows' sums of another tableau along the way -/
theorem ray_obj {b' : Int} {β' : Nat → Nat} {T' : Nat → Nat → Int} (t : Tab n w A b β T) (t' : Tab n w A b' β' T') {e : Nat} (he : e < w + n) : sumN (w + n) (fun j => T' n j * ray n b β T e j) = b' * T n e := by
  have e1 : sumN (w + n) (fun j => T' n j * ray n b β T e j) = sumN (w + n) (fun j => sumN n (fun r => T' n (w + r) * (A j r * ray n b β T e j)) - b' * (cost w j * ray n b β T e j)) :=
    sumN_congr fun j hj => by
      rw [t'.obj j (by omega), Int.sub_mul, ← sumN_mulr, Int.mul_assoc b']
      congr 1
      exact sumN_congr fun r _ => Int.mul_assoc _ _ _
  rw [e1, sumN_sub, sumN_mul, ray_cost t he, sumN_swap, sumN_zero fun r hr => by rw [sumN_mul, ray_A t he hr, Int.mul_zero]]
  rw [Int.mul_neg]; omega
theorem ray_at (t : Tab n w A b β T) {e i : Nat} (hi : i < n) (hne : β i ≠ e) : ray n b β T e (β i) = - T i e := by
  unfold ray
  rw [if_neg hne, sumN_one hi fun l hl hli => if_neg fun q => hli (t.inj hl hi q), if_pos rfl]
  omega
theorem ray_self (t : Tab n w A b β T) {e : Nat} (h : ∀ i, i < n → β i ≠ e) : ray n b β T e e = b := by
  unfold ray
  rw [if_pos rfl, sumN_zero fun i hi => if_neg (h i hi)]
  omega
theorem ray_none {e j : Nat} (h : ∀ i, i < n → β i ≠ j) (hj : j ≠ e) : ray n b β T e j = 0 := by
  unfold ray
  rw [if_neg hj, sumN_zero fun i hi => if_neg (h i hi)]
  rfl
/-- a thing that may enter is in no row -/
theorem Tab.free (t : Tab n w A b β T) {e : Nat} (hn : T n e ≠ 0) : ∀ i, i < n → β i ≠ e := fun i hi q => by
  have := t.unit n (Nat.le_refl n) i hi
  rw [q, if_neg (by omega)] at this
  exact hn this
theorem sumN_pos {n : Nat} {f : Nat → Int} {k : Nat} (hk : k < n) (h0 : ∀ i, i < n → 0 ≤ f i) (h : 0 < f k) : 0 < sumN n f := by
  have e := sumN_upd (n := n) (k := k) f (fun i => if i = k then 0 else f i) hk fun i _ hne => (if_neg hne).symm
  have : 0 ≤ sumN n (fun i => if i = k then 0 else f i) := sumN_nonneg fun i hi => by
    split
    · exact Int.le_refl 0
    · exact h0 i hi
  rw [if_pos rfl] at e
  omega
/-- some row lets the entering thing grow no further -/
theorem Tab.bounded (t : Tab n w A b β T) (p : Prob n w A) {e : Nat} (he : e < w + n) (hn : T n e < 0) : ∃ i, i < n ∧ 0 < T i e := by
  by_cases q : ∃ i, i < n ∧ 0 < T i e
  · exact q
  exfalso
  have q : ∀ i, i < n → T i e ≤ 0 := fun i hi => by
    by_cases z : 0 < T i e
    · exact absurd ⟨i, hi, z⟩ q
    · omega
  have hf := t.free (e := e) (by omega)
  have d0 : ∀ j, 0 ≤ ray n b β T e j := fun j => by
    have hb := t.pos
    have : 0 ≤ sumN n (fun i => if β i = j then - T i e else 0) := sumN_nonneg fun i hi => by
      have := q i hi
      split <;> omega
    have e1 : sumN n (fun i => if β i = j then - T i e else 0) = - sumN n (fun i => if β i = j then T i e else 0) := by
      have := sumN_mul n (-1) (fun i => if β i = j then T i e else 0)
      rw [Int.neg_one_mul] at this
      rw [← this]
      exact sumN_congr fun i _ => by split <;> omega
    unfold ray
    split <;> omega
  obtain ⟨r, hr, ha⟩ : ∃ r, r < n ∧ 0 < A e r := by
    by_cases h : e < w
    · exact p.cov e h
    · refine ⟨e - w, by omega, ?_⟩
      have := p.slack (e - w) (by omega) (e - w) (by omega)
      rw [show w + (e - w) = e by omega, if_pos rfl] at this
      omega
  have z := ray_A t he hr
  have := sumN_pos (f := fun j => A j r * ray n b β T e j) he (fun j hj => Int.mul_nonneg (p.nonneg j (by omega) r hr) (d0 j)) (by
    show 0 < A e r * ray n b β T e e
    rw [ray_self t hf]
    exact Int.mul_pos ha t.pos)
  omega
end
/-! ### Bland's choice -/
structure S where
  b : Int
  β : Nat → Nat
  T : Nat → Nat → Int
def Ent (n w : Nat) (T : Nat → Nat → Int) (e : Nat) : Prop := e < w + n ∧ T n e < 0 ∧ ∀ j, j < e → 0 ≤ T n j
def Lea (n w : Nat) (β : Nat → Nat) (T : Nat → Nat → Int) (e k : Nat) : Prop := k < n ∧ 0 < T k e ∧ ∀ i, i < n → 0 < T i e →
  T k (w + n) * T i e ≤ T i (w + n) * T k e ∧ (T k (w + n) * T i e = T i (w + n) * T k e → β k ≤ β i)
structure Step (n w : Nat) (s : S) (e k : Nat) (s' : S) : Prop where
  ent : Ent n w s.T e
  lea : Lea n w s.β s.T e k
  b : s'.b = s.T k e
  β : ∀ i, i < n → s'.β i = up s.β k e i
  T : Turned n w s.b s.T k e s'.T
abbrev Ok (n w : Nat) (A : Nat → Nat → Int) (s : S) : Prop := Tab n w A s.b s.β s.T
section
variable {n w : Nat} {A : Nat → Nat → Int}
theorem Tab.congr {b : Int} {β β' : Nat → Nat} {T : Nat → Nat → Int} (t : Tab n w A b β T) (h : ∀ i, i < n → β' i = β i) : Tab n w A b β' T where
  pos := t.pos
  bas := fun i hi => by rw [h i hi]; exact t.bas i hi
  det := by rw [t.det]; exact DF_congr fun i hi r _ => by rw [h i hi]
  unit := fun i hi l hl => by rw [h l hl]; exact t.unit i hi l hl
  col := fun j hj r hr => by rw [t.col j hj r hr]; exact sumN_congr fun i hi => by rw [h i hi]
  row := t.row
  obj := t.obj
  ob2 := fun j hj => by rw [t.ob2 j hj]; congr 1; exact sumN_congr fun i hi => by rw [h i hi]
  feas := t.feas
theorem Step.ok {s s' : S} {e k : Nat} (st : Step n w s e k s') (t : Ok n w A s) : Ok n w A s' := by
  have := t.turn st.lea.1 st.ent.1 st.lea.2.1 (fun i hi h => (st.lea.2.2 i hi h).1) st.T
  unfold Ok
  rw [st.b]
  exact this.congr st.β
/-- the sum never falls; it stays only where the row that leaves stands at nought -/
theorem Step.grow {s s' : S} {e k : Nat} (st : Step n w s e k s') (t : Ok n w A s) : s.T n (w + n) * s'.b ≤ s'.T n (w + n) * s.b ∧ (s.T k (w + n) ≠ 0 → s.T n (w + n) * s'.b < s'.T n (w + n) * s.b) := by
  have hk := st.lea.1
  have m := t.mul hk st.ent.1 st.T (i := n) (j := w + n) (Nat.le_refl n) (by omega) (Nat.le_refl _)
  have f := t.feas k hk
  have g := st.ent.2.1
  have p : 0 ≤ (- s.T n e) * s.T k (w + n) := Int.mul_nonneg (by omega) f
  rw [Int.neg_mul] at p
  rw [st.b, Int.mul_comm (s'.T n (w + n)), m]
  refine ⟨by omega, fun h => ?_⟩
  have p2 : 0 < (- s.T n e) * s.T k (w + n) := Int.mul_pos (by omega) (by omega)
  rw [Int.neg_mul] at p2
  omega
theorem cross {a p b q c r : Int} (hq : 0 < q) (hp : 0 < p) (hr : 0 < r) (h1 : a * q ≤ b * p) (h2 : b * r ≤ c * q) : a * r ≤ c * p := by
  have e1 := Int.mul_le_mul_of_nonneg_right h1 (Int.le_of_lt hr)
  have e2 := Int.mul_le_mul_of_nonneg_right h2 (Int.le_of_lt hp)
  have : (a * r) * q ≤ (c * p) * q := by
    have x1 : (a * r) * q = a * q * r := by grind
    have x2 : (c * p) * q = c * q * p := by grind
    have x3 : b * p * r = b * r * p := by grind
    omega
  exact Int.le_of_mul_le_mul_right this hq
/-- a run of Bland's turns -/
structure Run (n w : Nat) (A : Nat → Nat → Int) (L : Nat) (s : Nat → S) (e k : Nat → Nat) : Prop where
  ok : ∀ p, p ≤ L → Ok n w A (s p)
  step : ∀ p, p < L → Step n w (s p) (e p) (k p) (s (p + 1))
variable {L : Nat} {s : Nat → S} {e k : Nat → Nat}
theorem Run.mono (R : Run n w A L s e k) {p : Nat} : ∀ {q : Nat}, p ≤ q → q ≤ L → (s p).T n (w + n) * (s q).b ≤ (s q).T n (w + n) * (s p).b := by
  intro q h
  induction h with
  | refl => intro _; exact Int.le_refl _
  | step h ih =>
    rename_i q
    intro hq
    exact cross (R.ok q (by omega)).pos (R.ok p (by have : p ≤ q := h; omega)).pos (R.ok (q + 1) hq).pos (ih (by omega)) ((R.step q (by omega)).grow (R.ok q (by omega))).1
/-- no basis comes again -/
theorem Run.none (p : Prob n w A) (R : Run n w A L s e k) (hL : 0 < L) (same : ∀ i, i < n → (s L).β i = (s 0).β i) : False := by
  -- both ends have one bottom and one sum
  have t0 := R.ok 0 (Nat.zero_le _)
  have tL := R.ok L (Nat.le_refl _)
  have eb : (s L).b = (s 0).b := by rw [t0.det, tL.det]; exact DF_congr fun i hi r _ => by rw [same i hi]
  have eT : ∀ i, i < n → (s L).T i (w + n) = (s 0).T i (w + n) := fun i hi => by
    rw [← t0.entry hi (Nat.le_refl _), ← tL.entry hi (Nat.le_refl _)]
    refine DF_congr fun l hl r _ => ?_
    unfold up
    split
    · rfl
    · show A ((s L).β l) r = A ((s 0).β l) r
      rw [same l hl]
  have ez : (s L).T n (w + n) = (s 0).T n (w + n) := by
    rw [t0.ob2 _ (Nat.le_refl _), tL.ob2 _ (Nat.le_refl _), eb]
    congr 1
    exact sumN_congr fun i hi => by rw [same i hi, eT i hi]
  -- every row that leaves stands at nought
  have deg : ∀ p, p < L → (s p).T (k p) (w + n) = 0 := fun p hp => by
    by_cases h : (s p).T (k p) (w + n) = 0
    · exact h
    exfalso
    have h1 := R.mono (p := 0) (q := p) (Nat.zero_le _) (by omega)
    have h2 := ((R.step p hp).grow (R.ok p (by omega))).2 h
    have h3 := R.mono (p := p + 1) (q := L) hp (Nat.le_refl _)
    rw [eb, ez] at h3
    have b0 := t0.pos
    have bp := (R.ok p (by omega)).pos
    have bq := (R.ok (p + 1) hp).pos
    have := cross b0 bq bp h3 h1
    omega
  -- the greatest thing that enters
  obtain ⟨a, ha, hmax⟩ : ∃ a, a < L ∧ ∀ q, q < L → e q ≤ e a := by
    have : ∀ m, 0 < m → ∃ a, a < m ∧ ∀ q, q < m → e q ≤ e a := by
      intro m
      induction m with
      | zero => intro h; omega
      | succ m ih =>
        intro _
        by_cases hm : 0 < m
        · obtain ⟨a, ha, h⟩ := ih hm
          by_cases q : e a ≤ e m
          · exact ⟨m, by omega, fun x hx => by
              by_cases z : x = m
              · rw [z]; exact Nat.le_refl _
              · exact Nat.le_trans (h x (by omega)) q⟩
          · exact ⟨a, by omega, fun x hx => by
              by_cases z : x = m
              · rw [z]; omega
              · exact h x (by omega)⟩
        · refine ⟨0, by omega, fun x hx => ?_⟩
          have h0 : x = 0 := by omega
          rw [h0]
          exact Nat.le_refl _
    exact this L hL
  -- in a row at p
  let In : Nat → Nat → Prop := fun p j => ∃ i, i < n ∧ (s p).β i = j
  have inEnds : ∀ j, In L j ↔ In 0 j := fun j => ⟨fun ⟨i, hi, q⟩ => ⟨i, hi, by rw [← same i hi]; exact q⟩, fun ⟨i, hi, q⟩ => ⟨i, hi, by rw [same i hi]; exact q⟩⟩
  have stepIn : ∀ p, p < L → ∀ j, In (p + 1) j → j ≠ e p → In p j := fun p hp j ⟨i, hi, q⟩ hne => by
    rw [(R.step p hp).β i hi] at q
    by_cases hik : i = k p
    · rw [hik, up_same] at q; exact absurd q.symm hne
    · rw [up_ne hik] at q; exact ⟨i, hi, q⟩
  have stepOut : ∀ p, p < L → ∀ j, In p j → j ≠ (s p).β (k p) → In (p + 1) j := fun p hp j ⟨i, hi, q⟩ hne => by
    refine ⟨i, hi, ?_⟩
    rw [(R.step p hp).β i hi]
    by_cases hik : i = k p
    · rw [hik] at q; exact absurd q.symm hne
    · rw [up_ne hik]; exact q
  -- what is in a row at q but not at p has entered
  have entered : ∀ p q j, p < L → q < L → ¬ In p j → In q j → ∃ x, x < L ∧ e x = j := fun p q j hp hq h1 h2 => by
    by_cases z : ∃ x, x < L ∧ e x = j
    · exact z
    exfalso
    have no : ∀ x, x < L → j ≠ e x := fun x hx q => z ⟨x, hx, q.symm⟩
    have fwd : ∀ x y, x ≤ y → y ≤ L → ¬ In x j → ¬ In y j := by
      intro x y h
      induction h with
      | refl => intro _ h; exact h
      | step h ih => intro hy hx hin; exact ih (by omega) hx (stepIn _ (by omega) j hin (no _ (by omega)))
    have hL' := fwd p L (by omega) (Nat.le_refl _) h1
    rw [inEnds] at hL'
    exact fwd 0 q (Nat.zero_le _) (by omega) hL' h2
  -- the greatest leaves, too
  have stA := R.step a ha
  have tA := R.ok a (by omega)
  have notA : ¬ In a (e a) := fun ⟨i, hi, q⟩ => tA.free (e := e a) (by have := stA.ent.2.1; omega) i hi q
  obtain ⟨c, hc, hct⟩ : ∃ c, c < L ∧ (s c).β (k c) = e a := by
    by_cases z : ∃ c, c < L ∧ (s c).β (k c) = e a
    · exact z
    exfalso
    have no : ∀ x, x < L → e a ≠ (s x).β (k x) := fun x hx q => z ⟨x, hx, q.symm⟩
    have fwd : ∀ x y, x ≤ y → y ≤ L → In x (e a) → In y (e a) := by
      intro x y h
      induction h with
      | refl => intro _ h; exact h
      | step h ih => intro hy hx; exact stepOut _ (by omega) _ (ih (by omega) hx) (no _ (by omega))
    have h1 : In (a + 1) (e a) := ⟨k a, stA.lea.1, by rw [stA.β _ stA.lea.1, up_same]⟩
    have h2 := fwd (a + 1) L ha (Nat.le_refl _) h1
    rw [inEnds] at h2
    exact notA (fwd 0 a (Nat.zero_le _) (by omega) h2)
  -- a thing's number is nought throughout or nowhere
  let Z : Nat → Nat → Prop := fun p j => ∀ i, i < n → (s p).β i = j → (s p).T i (w + n) = 0
  have stepZ : ∀ p, p < L → ∀ j, Z p j ↔ Z (p + 1) j := fun p hp j => by
    have st := R.step p hp
    have t := R.ok p (by omega)
    have hk := st.lea.1
    have dg := deg p hp
    have ml : ∀ i, i < n → i ≠ k p → (s p).b * (s (p + 1)).T i (w + n) = (s p).T i (w + n) * (s p).T (k p) (e p) := fun i hi hik => by
      rw [t.mul hk st.ent.1 st.T (by omega) hik (Nat.le_refl _), dg]; omega
    constructor
    · intro z i hi q
      rw [st.β i hi] at q
      by_cases hik : i = k p
      · rw [hik, st.T.same _ (Nat.le_refl _), dg]
      · rw [up_ne hik] at q
        have m := ml i hi hik
        rw [z i hi q, Int.zero_mul] at m
        rcases Int.mul_eq_zero.mp m with x | x
        · have := t.pos; omega
        · exact x
    · intro z i hi q
      by_cases hik : i = k p
      · rw [hik, dg]
      · have m := ml i hi hik
        rw [z i hi (by rw [st.β i hi, up_ne hik]; exact q), Int.mul_zero] at m
        rcases Int.mul_eq_zero.mp m.symm with x | x
        · exact x
        · have := st.lea.2.1; omega
  have allZ : ∀ p q j, p ≤ q → q ≤ L → (Z p j ↔ Z q j) := by
    intro p q j h
    induction h with
    | refl => intro _; exact Iff.rfl
    | step h ih => intro hq; exact (ih (by omega)).trans (stepZ _ (by omega) j)
  have anyZ : ∀ p q j, p ≤ L → q ≤ L → Z p j → Z q j := fun p q j hp hq z => (allZ 0 q j (Nat.zero_le _) hq).mp ((allZ 0 p j (Nat.zero_le _) hp).mpr z)
  -- the way that opens at c, seen by the sums' row at a
  have stC := R.step c hc
  have tC := R.ok c (by omega)
  have ro := ray_obj tC tA stC.ent.1
  have neg : sumN (w + n) (fun j => (s a).T n j * ray n (s c).b (s c).β (s c).T (e c) j) < 0 := by
    rw [ro]
    exact Int.mul_neg_of_pos_of_neg tA.pos stC.ent.2.1
  obtain ⟨j, hj, hn⟩ := sumN_neg neg
  have hn : (s a).T n j * ray n (s c).b (s c).β (s c).T (e c) j < 0 := hn
  have freeC := tC.free (e := e c) (by have := stC.ent.2.1; omega)
  by_cases hjs : j = e c
  · rw [hjs, ray_self tC freeC] at hn
    have bC := tC.pos
    have hneg : (s a).T n (e c) < 0 := by
      by_cases q : (s a).T n (e c) < 0
      · exact q
      · have := Int.mul_nonneg (show 0 ≤ (s a).T n (e c) by omega) (Int.le_of_lt bC)
        omega
    have h1 := hmax c hc
    have h2 : ¬ e c < e a := fun q => by have := stA.ent.2.2 _ q; omega
    have : e c = e a := by omega
    exact freeC (k c) stC.lea.1 (by rw [hct, this])
  · by_cases hin : In c j
    · obtain ⟨i, hi, rfl⟩ := hin
      rw [ray_at tC hi hjs] at hn
      have nz : (s a).T n ((s c).β i) ≠ 0 := fun q => by rw [q, Int.zero_mul] at hn; omega
      have outA : ¬ In a ((s c).β i) := fun ⟨l, hl, q⟩ => tA.free nz l hl q
      obtain ⟨x, hx, ex⟩ := entered a c _ ha hc outA ⟨i, hi, rfl⟩
      have hle := hmax x hx
      rw [ex] at hle
      by_cases hjt : (s c).β i = e a
      · have : i = k c := tC.inj hi stC.lea.1 (by rw [hjt, hct])
        rw [this] at hn
        have p1 := stC.lea.2.1
        have p2 := stA.ent.2.1
        rw [hct] at hn
        have := Int.mul_pos (show 0 < -(s a).T n (e a) by omega) p1
        rw [Int.neg_mul] at this
        rw [Int.mul_neg] at hn
        omega
      · have h0 := stA.ent.2.2 ((s c).β i) (by omega)
        have hpos : 0 < (s c).T i (e c) := by
          by_cases q : 0 < (s c).T i (e c)
          · exact q
          · have := Int.mul_nonneg h0 (show 0 ≤ -(s c).T i (e c) by omega)
            omega
        have zi : (s c).T i (w + n) = 0 := anyZ a c ((s c).β i) (by omega) (by omega) (fun l hl q => absurd ⟨l, hl, q⟩ outA) i hi rfl
        have tie := (stC.lea.2.2 i hi hpos).2 (by rw [zi, deg c hc]; simp)
        rw [hct] at tie
        omega
    · rw [ray_none (fun i hi q => hin ⟨i, hi, q⟩) hjs] at hn
      omega
end
end LP
namespace LP
/-! ### the loop ends -/
theorem pigeon : ∀ (N : Nat) (f : Nat → Nat), (∀ i, i ≤ N → f i < N) → ∃ i j, i < j ∧ j ≤ N ∧ f i = f j
  | 0, f, h => absurd (h 0 (Nat.le_refl 0)) (Nat.not_lt_zero _)
  | N + 1, f, h => by
    by_cases q : ∃ i, i ≤ N ∧ f i = f (N + 1)
    · obtain ⟨i, hi, e⟩ := q
      exact ⟨i, N + 1, by omega, Nat.le_refl _, e⟩
    · have q : ∀ i, i ≤ N → f i ≠ f (N + 1) := fun i hi e => q ⟨i, hi, e⟩
      have hv := h (N + 1) (Nat.le_refl _)
      obtain ⟨i, j, hij, hj, e⟩ := pigeon N (fun i => if f i = N then f (N + 1) else f i) fun i hi => by
        show (if f i = N then f (N + 1) else f i) < N
        have a := h i (by omega)
        have b := q i hi
        split <;> omega
      refine ⟨i, j, hij, by omega, ?_⟩
      have e : (if f i = N then f (N + 1) else f i) = (if f j = N then f (N + 1) else f j) := e
      have a := q i (by omega)
      have b := q j hj
      split at e <;> split at e <;> omega
def code (M : Nat) : Nat → (Nat → Nat) → Nat
  | 0, _ => 0
  | n + 1, f => code M n f * M + f n
theorem code_lt {M : Nat} : ∀ {n : Nat} {f : Nat → Nat}, (∀ i, i < n → f i < M) → code M n f < M ^ n
  | 0, _, _ => Nat.one_pos
  | n + 1, f, h => by
    have a := code_lt (n := n) fun i hi => h i (Nat.lt_succ_of_lt hi)
    have b := h n (Nat.lt_succ_self n)
    show code M n f * M + f n < M ^ n * M
    have c : (code M n f + 1) * M ≤ M ^ n * M := Nat.mul_le_mul_right M a
    rw [Nat.add_mul, Nat.one_mul] at c
    omega
theorem code_inj {M : Nat} : ∀ {n : Nat} {f g : Nat → Nat}, (∀ i, i < n → f i < M) → (∀ i, i < n → g i < M) → code M n f = code M n g → ∀ i, i < n → f i = g i
  | 0, _, _, _, _, _ => fun i hi => absurd hi (Nat.not_lt_zero _)
  | n + 1, f, g, hf, hg, e => by
    have e : code M n f * M + f n = code M n g * M + g n := e
    have a := hf n (Nat.lt_succ_self n)
    have b := hg n (Nat.lt_succ_self n)
    have m : f n = g n := by
      have := congrArg (· % M) e
      simpa [Nat.mul_add_mod_self_right, Nat.mod_eq_of_lt a, Nat.mod_eq_of_lt b] using this
    have d : code M n f = code M n g := by
      have e2 : code M n f * M = code M n g * M := by omega
      exact Nat.eq_of_mul_eq_mul_right (by omega) e2
    intro i hi
    by_cases q : i = n
    · rw [q]; exact m
    · exact code_inj (fun i hi => hf i (Nat.lt_succ_of_lt hi)) (fun i hi => hg i (Nat.lt_succ_of_lt hi)) d i (by omega)
section
variable {n w : Nat} {A : Nat → Nat → Int} {L : Nat} {s : Nat → S} {e k : Nat → Nat}
theorem Run.short (p : Prob n w A) (R : Run n w A L s e k) : L < (w + n) ^ n := by
  by_cases h : L < (w + n) ^ n
  · exact h
  exfalso
  obtain ⟨i, j, hij, hj, eq⟩ := pigeon ((w + n) ^ n) (fun q => code (w + n) n (s q).β) fun q hq => code_lt (R.ok q (by omega)).bas
  refine Run.none p (L := j - i) (s := fun q => s (i + q)) (e := fun q => e (i + q)) (k := fun q => k (i + q)) ⟨fun q hq => R.ok _ (by omega), fun q hq => R.step (i + q) (by omega)⟩ (by omega) fun l hl => ?_
  show (s (i + (j - i))).β l = (s i).β l
  rw [show i + (j - i) = j by omega]
  exact (code_inj (R.ok i (by omega)).bas (R.ok j (by omega)).bas eq l hl).symm
/-- s is reached behind t turns -/
def Reach (n w : Nat) (A : Nat → Nat → Int) (t : Nat) (z : S) : Prop := ∃ s e k, Run n w A t s e k ∧ s t = z
theorem Reach.zero {z : S} (h : Ok n w A z) : Reach n w A 0 z := ⟨fun _ => z, fun _ => 0, fun _ => 0, ⟨fun _ _ => h, fun p hp => absurd hp (Nat.not_lt_zero _)⟩, rfl⟩
theorem Reach.ok {t : Nat} {z : S} (h : Reach n w A t z) : Ok n w A z := by
  obtain ⟨s, e, k, R, rfl⟩ := h
  exact R.ok t (Nat.le_refl _)
theorem Reach.lt {t : Nat} {z : S} (p : Prob n w A) (h : Reach n w A t z) : t < (w + n) ^ n := by
  obtain ⟨s, e, k, R, _⟩ := h
  exact R.short p
theorem Reach.next {t : Nat} {z z' : S} {e k : Nat} (h : Reach n w A t z) (st : Step n w z e k z') : Reach n w A (t + 1) z' := by
  obtain ⟨s, es, ks, R, rfl⟩ := h
  refine ⟨up s (t + 1) z', up es t e, up ks t k, ⟨fun p hp => ?_, fun p hp => ?_⟩, up_same⟩
  · by_cases q : p = t + 1
    · rw [q, up_same]; exact st.ok (R.ok t (Nat.le_refl _))
    · rw [up_ne q]; exact R.ok p (by omega)
  · by_cases q : p = t
    · rw [q, up_same, up_same, up_same, up_ne (by omega)]; exact st
    · rw [up_ne q, up_ne q, up_ne (show p ≠ t + 1 by omega), up_ne (show p + 1 ≠ t + 1 by omega)]; exact R.step p (by omega)
end
/-! ### the end -/
section
variable {n w : Nat} {A : Nat → Nat → Int} {b : Int} {β : Nat → Nat} {T : Nat → Nat → Int}
/-- the number of a thing -/
def val (n N : Nat) (β : Nat → Nat) (T : Nat → Nat → Int) (j : Nat) : Int := sumN n fun i => if β i = j then T i N else 0
theorem val_at (t : Tab n w A b β T) {i : Nat} (hi : i < n) : val n (w + n) β T (β i) = T i (w + n) := by
  unfold val
  rw [sumN_one hi fun l hl hne => if_neg fun q => hne (t.inj hl hi q), if_pos rfl]
theorem val_none {j N : Nat} (h : ∀ i, i < n → β i ≠ j) : val n N β T j = 0 := sumN_zero fun i hi => if_neg (h i hi)
theorem val_nonneg (t : Tab n w A b β T) (j : Nat) : 0 ≤ val n (w + n) β T j := sumN_nonneg fun i hi => by
  split
  · exact t.feas i hi
  · exact Int.le_refl 0
structure Opt (n w : Nat) (A : Nat → Nat → Int) (b top : Int) (x y : Nat → Int) : Prop where
  pos : 0 < b
  xnn : ∀ j, j < w → 0 ≤ x j
  xfit : ∀ r, r < n → sumN w (fun j => A j r * x j) ≤ b * A (w + n) r
  xsum : sumN w x = top
  ynn : ∀ r, r < n → 0 ≤ y r
  ycov : ∀ j, j < w → b ≤ sumN n fun r => y r * A j r
  ysum : sumN n (fun r => y r * A (w + n) r) = top
theorem Tab.opt (t : Tab n w A b β T) (p : Prob n w A) (h : ∀ j, j < w + n → 0 ≤ T n j) : Opt n w A b (T n (w + n)) (val n (w + n) β T) (fun r => T n (w + r)) where
  pos := t.pos
  xnn := fun j _ => val_nonneg t j
  xfit := fun r hr => by
    rw [t.col (w + n) (Nat.le_refl _) r hr, ← reidx (N := w + n) (fun i => T i (w + n)) (fun j => A j r) t.bas, sumN_split]
    have : 0 ≤ sumN n (fun i => A (w + i) r * sumN n (fun l => if β l = w + i then T l (w + n) else 0)) := sumN_nonneg fun i hi => Int.mul_nonneg (p.nonneg _ (by omega) r hr) (val_nonneg t _)
    have e : sumN w (fun j => A j r * val n (w + n) β T j) = sumN w (fun j => A j r * sumN n (fun l => if β l = j then T l (w + n) else 0)) := rfl
    omega
  xsum := by
    have o := t.ob2 (w + n) (Nat.le_refl _)
    have c0 : cost w (w + n) = 0 := if_neg (by omega)
    rw [c0, Int.mul_zero, Int.sub_zero, sumN_congr (g := fun i => T i (w + n) * cost w (β i)) (fun i _ => Int.mul_comm _ _), ← reidx (N := w + n) (fun i => T i (w + n)) (cost w) t.bas, sumN_split] at o
    rw [o, sumN_zero (n := n) fun i hi => by unfold cost; rw [if_neg (by omega)]; simp, Int.add_zero]
    exact sumN_congr fun j hj => by
      unfold cost
      rw [if_pos hj, Int.one_mul]
      rfl
  ynn := fun r hr => h _ (by omega)
  ycov := fun j hj => by
    have o := t.obj j (by omega)
    have c1 : cost w j = 1 := if_pos hj
    have := h j (by omega)
    rw [c1] at o
    omega
  ysum := by
    have o := t.obj (w + n) (Nat.le_refl _)
    have c0 : cost w (w + n) = 0 := if_neg (by omega)
    rw [c0] at o
    omega
end
end LP
namespace LP
/-! ### prices -/
theorem perm_sum {l l' : List Int} (h : l.Perm l') : l.sum = l'.sum := by
  induction h with
  | nil => rfl
  | cons x _ ih => simp only [List.sum_cons, ih]
  | swap x y l => simp only [List.sum_cons]; omega
  | trans _ _ a b => exact a.trans b
section
variable {α : Type} [DecidableEq α]
/-- weights that a row of tables with exponents lets by -/
def Fits (Q : List (List α)) (ex : List Int) (wt : α → Int) (parts : Int) : Prop := ∀ (r : Nat) (own : List α) (x : Int), Q[r]? = some own → ex[r]? = some x → (own.map wt).sum ≤ parts * x
structure Price (cols : List α) (Q : List (List α)) (ex : List Int) (pt pb : Int) : Prop where
  pos : 0 < pb
  small : pb < 2 ^ 30
  u1 : ∀ (wt : α → Int) (parts : Int), (∀ c, 0 ≤ wt c) → Fits Q ex wt parts → (cols.map wt).sum * pb ≤ pt * parts
  u2 : ∃ (wt : α → Int) (parts : Int), 0 < parts ∧ (∀ c, 0 ≤ wt c) ∧ Fits Q ex wt parts ∧ (cols.map wt).sum * pb = pt * parts
theorem sum_map_mul (c : Int) : ∀ (l : List α) (f : α → Int), (l.map fun x => c * f x).sum = c * (l.map f).sum
  | [], _ => by simp
  | x :: l, f => by simp [sum_map_mul c l f, Int.mul_add]
theorem sum_map_add : ∀ (l : List α) (f g : α → Int), (l.map fun x => f x + g x).sum = (l.map f).sum + (l.map g).sum
  | [], _, _ => by simp
  | x :: l, f, g => by simp [sum_map_add l f g]; omega
theorem mulc {a b c : Int} (h : 0 < a) (e : a * b ≤ a * c) : b ≤ c := Int.le_of_mul_le_mul_left e h
/-- so many times the exponents: so many times the price -/
theorem price_times {cols : List α} {Q : List (List α)} {ex ex' : List Int} {k pt pb ft fb : Int} (hk : 0 < k) (hx : ∀ (r : Nat) (x : Int), ex[r]? = some x → ex'[r]? = some (k * x)) (hx' : ∀ (r : Nat) (x : Int), ex'[r]? = some x → ∃ y, ex[r]? = some y)
    (P : Price cols Q ex pt pb) (F : Price cols Q ex' ft fb) : ft * pb = k * pt * fb := by
  obtain ⟨w1, p1, q1, n1, f1, s1⟩ := P.u2
  obtain ⟨w2, p2, q2, n2, f2, s2⟩ := F.u2
  have a := F.u1 (fun c => k * w1 c) p1 (fun c => Int.mul_nonneg (Int.le_of_lt hk) (n1 c)) fun r own x h1 h2 => by
    obtain ⟨y, hy⟩ := hx' r x h2
    have e := hx r y hy
    rw [h2] at e
    have e := Option.some.inj e
    have := f1 r own y h1 hy
    rw [sum_map_mul, e]
    have m := Int.mul_le_mul_of_nonneg_left this (Int.le_of_lt hk)
    rw [Int.mul_left_comm]; exact m
  have b := P.u1 w2 (p2 * k) n2 fun r own y h1 h2 => by
    have := f2 r own (k * y) h1 (hx r y h2)
    rw [Int.mul_assoc]; exact this
  rw [sum_map_mul] at a
  generalize (cols.map w1).sum = m1 at a s1
  generalize (cols.map w2).sum = m2 at b s2
  refine Int.le_antisymm (mulc q2 ?_) (mulc q1 ?_)
  · -- ft pb p2 = m2 fb pb <= pt p2 k fb
    have := Int.mul_le_mul_of_nonneg_right b (Int.le_of_lt F.pos)
    have e1 : p2 * (ft * pb) = m2 * pb * fb := by grind
    have e2 : p2 * (k * pt * fb) = pt * (p2 * k) * fb := by grind
    omega
  · have := Int.mul_le_mul_of_nonneg_right a (Int.le_of_lt P.pos)
    have e1 : p1 * (k * pt * fb) = k * m1 * fb * pb := by grind
    have e2 : p1 * (ft * pb) = ft * p1 * pb := by grind
    omega
/-- exponents added up -/
theorem price_add {cols : List α} {Q : List (List α)} {e1 e2 e3 : List Int} {pt pb ot ob tt tb : Int} (hx : ∀ (r : Nat) (z : Int), e3[r]? = some z → ∃ x y, e1[r]? = some x ∧ e2[r]? = some y ∧ z = x + y)
    (P : Price cols Q e1 pt pb) (O : Price cols Q e2 ot ob) (T : Price cols Q e3 tt tb) : (pt * ob + ot * pb) * tb ≤ tt * (pb * ob) := by
  obtain ⟨w1, p1, q1, n1, f1, s1⟩ := P.u2
  obtain ⟨w2, p2, q2, n2, f2, s2⟩ := O.u2
  have a := T.u1 (fun c => p2 * w1 c + p1 * w2 c) (p1 * p2) (fun c => by
      have := Int.mul_nonneg (Int.le_of_lt q2) (n1 c)
      have := Int.mul_nonneg (Int.le_of_lt q1) (n2 c)
      omega) fun r own z h1 h2 => by
    obtain ⟨x, y, hx1, hy1, rfl⟩ := hx r z h2
    have a1 := Int.mul_le_mul_of_nonneg_left (f1 r own x h1 hx1) (Int.le_of_lt q2)
    have a2 := Int.mul_le_mul_of_nonneg_left (f2 r own y h1 hy1) (Int.le_of_lt q1)
    rw [sum_map_add, sum_map_mul, sum_map_mul]
    have e : p1 * p2 * (x + y) = p2 * (p1 * x) + p1 * (p2 * y) := by grind
    omega
  rw [sum_map_add, sum_map_mul, sum_map_mul] at a
  generalize (cols.map w1).sum = m1 at a s1
  generalize (cols.map w2).sum = m2 at a s2
  refine mulc (Int.mul_pos q1 q2) ?_
  have := Int.mul_le_mul_of_nonneg_right a (Int.le_of_lt (Int.mul_pos P.pos O.pos))
  have x1 : p1 * p2 * ((pt * ob + ot * pb) * tb) = (p2 * m1 + p1 * m2) * tb * (pb * ob) := by grind
  have x2 : p1 * p2 * (tt * (pb * ob)) = tt * (p1 * p2) * (pb * ob) := by grind
  omega
/-- fewer fetters, no less -/
theorem price_mono {cols cols' : List α} {Q Q' : List (List α)} {ex ex' : List Int} {pt pb ft fb : Int} (hc : cols.Perm cols')
    (h : ∀ (r : Nat) (own : List α) (x : Int), Q'[r]? = some own → ex'[r]? = some x → ∃ r' : Nat, Q[r']? = some own ∧ ex[r']? = some x)
    (P : Price cols Q ex pt pb) (F : Price cols' Q' ex' ft fb) : pt * fb ≤ ft * pb := by
  obtain ⟨w1, p1, q1, n1, f1, s1⟩ := P.u2
  have a := F.u1 w1 p1 n1 fun r own x h1 h2 => by
    obtain ⟨r', h3, h4⟩ := h r own x h1 h2
    exact f1 r' own x h3 h4
  have e : (cols'.map w1).sum = (cols.map w1).sum := perm_sum (hc.map w1).symm
  rw [e] at a
  refine mulc q1 ?_
  have := Int.mul_le_mul_of_nonneg_right a (Int.le_of_lt P.pos)
  have x1 : p1 * (pt * fb) = (cols.map w1).sum * fb * pb := by
    generalize (cols.map w1).sum = m at s1 ⊢
    grind
  have x2 : p1 * (ft * pb) = ft * p1 * pb := by grind
  omega
theorem list_sumN (n : Nat) (g : α → Nat → Int) : ∀ l : List α, (l.map fun c => sumN n (g c)).sum = sumN n fun r => (l.map fun c => g c r).sum
  | [] => (sumN_zero fun _ _ => rfl).symm
  | c :: l => by
    simp only [List.map_cons, List.sum_cons]
    rw [list_sumN n g l, ← sumN_add]
theorem sum_map_le {l : List α} {f g : α → Int} (h : ∀ c ∈ l, f c ≤ g c) : (l.map f).sum ≤ (l.map g).sum := by
  induction l with
  | nil => exact Int.le_refl _
  | cons c l ih =>
    have a := ih fun x hx => h x (List.mem_cons_of_mem _ hx)
    have b := h c List.mem_cons_self
    simp only [List.map_cons, List.sum_cons]
    omega
theorem sum_filter (p : α → Bool) (f : α → Int) : ∀ l : List α, (l.map fun c => if p c = true then f c else 0).sum = ((l.filter p).map f).sum
  | [] => rfl
  | c :: l => by
    rw [List.filter_cons]
    by_cases h : p c = true
    · simp [h, sum_filter p f l]
    · simp [h, sum_filter p f l]
theorem sum_own {cols own : List α} (hn : cols.Nodup) (ho : own.Nodup) (hs : ∀ c ∈ own, c ∈ cols) (f : α → Int) : (cols.map fun c => if c ∈ own then f c else 0).sum = (own.map f).sum := by
  have e := sum_filter (fun c => decide (c ∈ own)) f cols
  have q : (cols.map fun c => if c ∈ own then f c else 0) = cols.map fun c => if decide (c ∈ own) = true then f c else 0 :=
    List.map_congr_left fun c _ => by simp
  rw [q, e]
  have p : (cols.filter fun c => decide (c ∈ own)).Perm own := (List.perm_ext_iff_of_nodup (hn.filter _) ho).mpr fun c => by
    rw [List.mem_filter]
    exact ⟨fun h => by simpa using h.2, fun h => ⟨hs c h, by simpa using h⟩⟩
  exact perm_sum (p.map f)
/-- no cover comes to less -/
theorem price_cover {cols : List α} {Q : List (List α)} {ex : List Int} {pt pb : Int} (P : Price cols Q ex pt pb) {z : List Int} {parts : Int} (hl2 : ex.length = Q.length) (hz : ∀ v ∈ z, 0 ≤ v)
    (hown : ∀ own ∈ Q, own.Nodup ∧ ∀ c ∈ own, c ∈ cols) (hn : cols.Nodup)
    (hc : ∀ c ∈ cols, parts ≤ sumN Q.length fun r => if c ∈ Q.getD r [] then z.getD r 0 else 0) : pt * parts ≤ (sumN Q.length fun r => z.getD r 0 * ex.getD r 0) * pb := by
  obtain ⟨w1, p1, q1, n1, f1, s1⟩ := P.u2
  have zn : ∀ r : Nat, 0 ≤ z.getD r 0 := fun r => by
    rw [List.getD_eq_getElem?_getD]
    cases e : z[r]? with
    | none => exact Int.le_refl 0
    | some v => exact hz v (List.mem_of_getElem? e)
  have h1 : (cols.map fun c => parts * w1 c).sum ≤ (cols.map fun c => sumN Q.length fun r => z.getD r 0 * (if c ∈ Q.getD r [] then w1 c else 0)).sum := sum_map_le fun c hcm => by
    have := Int.mul_le_mul_of_nonneg_right (hc c hcm) (n1 c)
    rw [← sumN_mulr] at this
    refine Int.le_trans this (Int.le_of_eq (sumN_congr fun r _ => ?_))
    split <;> simp
  rw [list_sumN, sum_map_mul] at h1
  have h2 : sumN Q.length (fun r => (cols.map fun c => z.getD r 0 * (if c ∈ Q.getD r [] then w1 c else 0)).sum) ≤ sumN Q.length fun r => p1 * (z.getD r 0 * ex.getD r 0) := sumN_le fun r hr => by
    have hq : Q[r]? = some (Q.getD r []) := by rw [List.getD_eq_getElem?_getD, List.getElem?_eq_getElem hr]; rfl
    have he : ex[r]? = some (ex.getD r 0) := by rw [List.getD_eq_getElem?_getD, List.getElem?_eq_getElem (by omega)]; rfl
    obtain ⟨a1, a2⟩ := hown _ (List.mem_of_getElem? hq)
    have := f1 r _ _ hq he
    rw [sum_map_mul, sum_own hn a1 a2]
    have m := Int.mul_le_mul_of_nonneg_left this (zn r)
    rw [Int.mul_left_comm p1]; exact m
  rw [sumN_mul] at h2
  have h3 := Int.le_trans h1 h2
  generalize (cols.map w1).sum = m at h3 s1
  generalize (sumN Q.length fun r => z.getD r 0 * ex.getD r 0) = s at h3 ⊢
  refine mulc q1 ?_
  have := Int.mul_le_mul_of_nonneg_right h3 (Int.le_of_lt P.pos)
  have x1 : p1 * (pt * parts) = parts * m * pb := by grind
  have x2 : p1 * (s * pb) = p1 * s * pb := by grind
  omega
/-! ### from the tableau's end -/
theorem sum_range_map : ∀ (w : Nat) (f : Nat → Int), ((List.range w).map f).sum = sumN w f
  | 0, _ => rfl
  | w + 1, f => by
    rw [List.range_succ, List.map_append, List.sum_append, sum_range_map w f]
    simp [sumN]
theorem sum_cols (cols : List α) (d : α) (f : α → Int) : (cols.map f).sum = sumN cols.length fun j => f (cols.getD j d) := by
  rw [← sum_range_map]
  congr 1
  apply List.ext_getElem?
  intro i
  rw [List.getElem?_map, List.getElem?_map]
  by_cases h : i < cols.length
  · rw [List.getElem?_range h, List.getElem?_eq_getElem h]
    simp [List.getD_eq_getElem?_getD, List.getElem?_eq_getElem h]
  · rw [List.getElem?_eq_none (by omega), List.getElem?_eq_none (by simp; omega)]
    rfl
/-- the optimum is a price -/
theorem opt_price {cols : List α} {Q : List (List α)} {ex : List Int} {A : Nat → Nat → Int} {b top : Int} {x y : Nat → Int} {pt pb : Int} (d : α) (o : Opt Q.length cols.length A b top x y) (hl2 : ex.length = Q.length)
    (hown : ∀ own ∈ Q, own.Nodup ∧ ∀ c ∈ own, c ∈ cols) (hn : cols.Nodup)
    (hA : ∀ r, r < Q.length → ∀ j, j < cols.length → A j r = if cols.getD j d ∈ Q.getD r [] then 1 else 0) (hE : ∀ r, r < Q.length → A (cols.length + Q.length) r = ex.getD r 0)
    (hp : 0 < pb) (hs : pb < 2 ^ 30) (e : pt * b = top * pb) : Price cols Q ex pt pb := by
  refine ⟨hp, hs, fun wt parts hw hf => ?_, ?_⟩
  · -- b * sum <= parts * top
    have h1 : b * (cols.map wt).sum ≤ parts * top := by
      rw [sum_cols cols d, ← sumN_mul, ← o.ysum, ← sumN_mul]
      have a1 : sumN cols.length (fun j => b * wt (cols.getD j d)) ≤ sumN cols.length fun j => sumN Q.length fun r => y r * (A j r * wt (cols.getD j d)) := sumN_le fun j hj => by
        have := Int.mul_le_mul_of_nonneg_right (o.ycov j hj) (hw (cols.getD j d))
        rw [← sumN_mulr] at this
        exact Int.le_trans this (Int.le_of_eq (sumN_congr fun r _ => Int.mul_assoc _ _ _))
      rw [sumN_swap] at a1
      refine Int.le_trans a1 (sumN_le fun r hr => ?_)
      have hq : Q[r]? = some (Q.getD r []) := by rw [List.getD_eq_getElem?_getD, List.getElem?_eq_getElem hr]; rfl
      have he : ex[r]? = some (ex.getD r 0) := by rw [List.getD_eq_getElem?_getD, List.getElem?_eq_getElem (by omega)]; rfl
      obtain ⟨b1, b2⟩ := hown _ (List.mem_of_getElem? hq)
      have f := hf r _ _ hq he
      rw [sumN_mul]
      have s1 : sumN cols.length (fun j => A j r * wt (cols.getD j d)) = ((Q.getD r []).map wt).sum := by
        rw [← sum_own hn b1 b2 wt, sum_cols cols d]
        exact sumN_congr fun j hj => by rw [hA r hr j hj]; split <;> simp
      rw [s1, hE r hr]
      have m := Int.mul_le_mul_of_nonneg_left f (o.ynn r hr)
      rw [Int.mul_left_comm parts]; exact m
    refine mulc o.pos ?_
    have := Int.mul_le_mul_of_nonneg_right h1 (Int.le_of_lt hp)
    generalize (cols.map wt).sum = m at this ⊢
    have x1 : b * (m * pb) = b * m * pb := by grind
    have x2 : b * (pt * parts) = parts * top * pb := by grind
    omega
  · -- the weights
    let wt : α → Int := fun c => if c ∈ cols then x (cols.idxOf c) else 0
    have at_ : ∀ j, j < cols.length → wt (cols.getD j d) = x j := fun j hj => by
      have g : cols.getD j d = cols[j] := by rw [List.getD_eq_getElem?_getD, List.getElem?_eq_getElem hj]; rfl
      have i : cols.idxOf cols[j] = j := hn.idxOf_getElem j hj
      show (if cols.getD j d ∈ cols then x (cols.idxOf (cols.getD j d)) else 0) = x j
      rw [g, if_pos (List.getElem_mem hj), i]
    refine ⟨wt, b, o.pos, fun c => ?_, fun r own z h1 h2 => ?_, ?_⟩
    · show 0 ≤ (if c ∈ cols then x (cols.idxOf c) else 0)
      split
      · rename_i h
        exact o.xnn _ (List.idxOf_lt_length_of_mem h)
      · exact Int.le_refl 0
    · have hr : r < Q.length := (List.getElem?_eq_some_iff.mp h1).1
      have hq : Q.getD r [] = own := by rw [List.getD_eq_getElem?_getD, h1]; rfl
      have he : ex.getD r 0 = z := by rw [List.getD_eq_getElem?_getD, h2]; rfl
      obtain ⟨b1, b2⟩ := hown _ (List.mem_of_getElem? h1)
      have f := o.xfit r hr
      rw [hE r hr, he] at f
      rw [← sum_own hn b1 b2 wt, sum_cols cols d]
      refine Int.le_trans (Int.le_of_eq (sumN_congr fun j hj => ?_)) f
      rw [hA r hr j hj, hq, at_ j hj]
      split <;> simp
    · rw [sum_cols cols d, sumN_congr fun j hj => at_ j hj, o.xsum, e]
end
end LP
/-! zip over two iterators of any kind, while each pair that it gave out is held; list, tuple, dict of it -/
namespace MW
open PySem
section
variable {prog : Program} {w : World} {A : Around} {E : Value → Shared → Prop} {s : Shared} {z TI TO T i1 i2 : Addr} {fp1 fp2 : List Addr} {n1 n2 i : Nat} {P1 P2 : Nat → Value → Prop} {St1 St2 : Nat → Heap → Prop}
theorem held_item {f : Bool} {oT : Obj} {Q : Value → Shared → Prop} (S : ZipSep2 z TI TO i1 i2 fp1 fp2) (D1 : Draws prog w A i1 fp1 n1 P1 St1) (D2 : Draws prog w A i2 fp2 n2 P2 St2)
    (hz : IsZipHeld s.heap z TI TO T f) (hT : s.heap.get? T = some oT) (hTI : IsTupOf2 s.heap TI (.ref i1) (.ref i2)) (st1 : St1 i s.heap) (st2 : St2 i s.heap) (h1 : i < n1) (h2 : i < n2)
    (hQ : ∀ x y h' tk, P1 i x → P2 i y → IsZipHeld h' z TI TO T true → St1 (i + 1) h' → St2 (i + 1) h' → IsTupOf2 h' s.heap.objs.size x y → h'.objs.size = s.heap.objs.size + 1 →
      (∀ c o, c ≠ z → c ≠ i1 → c ≠ i2 → s.heap.get? c = some o → h'.get? c = some o) → Q (.ref s.heap.objs.size) { s with heap := h', toks := tk }) :
    wpAny (model prog w) A (Builtin.«zip.__next__» ⟨[.ref z], []⟩) (fun fin s' => ∃ v, fin = .done (.ret v) ∧ Q v s') E s := by
  obtain ⟨h0, g, d, tk0, os⟩ := s
  show wpAny _ _ (field (.ref z) 2 >>= _) _ _ _
  refine wpAny_bind (wpAny_field hz rfl (x := .bool false) rfl ?_)
  show wpAny _ _ (field (.ref z) 3 >>= _) _ _ _
  refine wpAny_bind (wpAny_field hz rfl (x := .ref TI) rfl (wpAny_bind (wpAny_seqItems hTI rfl ?_)))
  show wpAny _ _ (Builtin.SmallTypes.ownedTupleIsFree (.ref z) >>= _) _ _ _
  refine wpAny_bind (wpAny_tupleHeld_zip hz hT fun a za sa => ?_)
  replace sa : Heap.SameBut z h0 a := sa
  simp only [Bool.false_eq_true, if_false]
  refine wpAny_bind ?_
  rw [← Array.forIn_toList]
  simp only [List.forIn_cons, List.forIn_nil]
  refine wpAny_bind (wpAny_bind (wpAny_holding ?_))
  show wpAny _ _ (Builtin.SmallTypes.nextOf (.ref i1) >>= _) _ _ ⟨a, g, d, tk0, os⟩
  refine wpAny_bind (D1.item i _ _ _ h1 (D1.over st1 sa S.zf1) fun x b tb px sb1 sb => wpAny_pure (wpAny_pure ?_))
  replace sb : Heap.SameBut i1 a b := sb
  refine wpAny_bind (wpAny_bind (wpAny_holding ?_))
  show wpAny _ _ (Builtin.SmallTypes.nextOf (.ref i2) >>= _) _ _ ⟨b, g, d, tb, os⟩
  refine wpAny_bind (D2.item i _ _ _ h2 (D2.over (D2.over st2 sa S.zf2) sb S.sep1_2) fun y c tc py sc2 sc => wpAny_pure (wpAny_pure (wpAny_pure ?_)))
  replace sc : Heap.SameBut i2 b c := sc
  show wpAny _ _ (newTuple [x, y] >>= _) _ _ ⟨c, g, d, tc, os⟩
  refine wpAny_bind (wpAny_newTuple ?_)
  have ec : c.objs.size = h0.objs.size := by rw [sc.1, sb.1, sa.1]
  have zc : IsZipHeld c z TI TO T true := sc.extBut _ _ S.zi2 (sb.extBut _ _ S.zi1 za)
  have kc : ∀ q o, q ≠ z → q ≠ i1 → q ≠ i2 → h0.get? q = some o → c.get? q = some o := fun q o a1 a2 a3 e => sc.extBut _ _ a3 (sb.extBut _ _ a2 (sa.extBut _ _ a1 e))
  have k1 : St1 (i + 1) c := D1.over sb1 sc S.sep2_1
  refine wpAny_pure ⟨_, rfl, ?_⟩
  show Q (.ref c.objs.size) ⟨c.push { cls := .type "tuple", data := .seq #[x, y] }, g, d, tc, os⟩
  have up : ∀ q o, c.get? q = some o → (c.push { cls := .type "tuple", data := .seq #[x, y] }).get? q = some o := fun q o e => Heap.get?_push_of_some _ e
  have hp : IsTupOf2 (c.push { cls := .type "tuple", data := .seq #[x, y] }) c.objs.size x y := Heap.get?_push_size _ rfl
  have hs : (c.push { cls := .type "tuple", data := .seq #[x, y] }).objs.size = c.objs.size + 1 := Heap.size_push ..
  rw [ec] at hp hs ⊢
  exact hQ x y _ tc px py (up _ _ zc) (D1.frame _ _ _ k1 fun q _ o e => up q o e) (D2.frame _ _ _ sc2 fun q _ o e => up q o e) hp hs fun q o a1 a2 a3 e => up q o (kc q o a1 a2 a3 e)
theorem held_end {f : Bool} {oT : Obj} {Q : Fin → Shared → Prop} (S : ZipSep2 z TI TO i1 i2 fp1 fp2) (D1 : Draws prog w A i1 fp1 n1 P1 St1) (D2 : Draws prog w A i2 fp2 n2 P2 St2)
    (hz : IsZipHeld s.heap z TI TO T f) (hT : s.heap.get? T = some oT) (hTI : IsTupOf2 s.heap TI (.ref i1) (.ref i2)) (st1 : St1 i s.heap) (st2 : St2 i s.heap) (h1 : i ≤ n1) (h2 : i ≤ n2) (he : i = n1 ∨ i = n2)
    (hE : ∀ h' tk e, (∀ c o, c ≠ z → c ≠ i1 → c ≠ i2 → s.heap.get? c = some o → h'.get? c = some o) → (∃ o, h'.get? e = some o ∧ o.cls = .type "StopIteration") → E (.ref e) { s with heap := h', toks := tk }) :
    wpAny (model prog w) A (Builtin.«zip.__next__» ⟨[.ref z], []⟩) Q E s := by
  obtain ⟨h0, g, d, tk0, os⟩ := s
  show wpAny _ _ (field (.ref z) 2 >>= _) _ _ _
  refine wpAny_bind (wpAny_field hz rfl (x := .bool false) rfl ?_)
  show wpAny _ _ (field (.ref z) 3 >>= _) _ _ _
  refine wpAny_bind (wpAny_field hz rfl (x := .ref TI) rfl (wpAny_bind (wpAny_seqItems hTI rfl ?_)))
  show wpAny _ _ (Builtin.SmallTypes.ownedTupleIsFree (.ref z) >>= _) _ _ _
  refine wpAny_bind (wpAny_tupleHeld_zip hz hT fun a za sa => ?_)
  replace sa : Heap.SameBut z h0 a := sa
  simp only [Bool.false_eq_true, if_false]
  refine wpAny_bind ?_
  rw [← Array.forIn_toList]
  simp only [List.forIn_cons, List.forIn_nil]
  refine wpAny_bind (wpAny_bind (wpAny_holding ?_))
  show wpAny _ _ (Builtin.SmallTypes.nextOf (.ref i1) >>= _) _ _ ⟨a, g, d, tk0, os⟩
  have sta := D1.over st1 sa S.zf1
  by_cases q : i = n1
  · subst q
    exact wpAny_bind (D1.done _ _ _ sta fun b e sb hb => hE b _ e (fun c o c1 c2 _ x => sb c o c2 (sa.extBut _ _ c1 x)) hb)
  · have q2 : i = n2 := by omega
    subst q2
    refine wpAny_bind (D1.item i _ _ _ (by omega) sta fun x b tb px sb1 sb => wpAny_pure (wpAny_pure ?_))
    replace sb : Heap.SameBut i1 a b := sb
    refine wpAny_bind (wpAny_bind (wpAny_holding ?_))
    show wpAny _ _ (Builtin.SmallTypes.nextOf (.ref i2) >>= _) _ _ ⟨b, g, d, tb, os⟩
    exact wpAny_bind (D2.done _ _ _ (D2.over (D2.over st2 sa S.zf2) sb S.sep1_2) fun c e sc hc => hE c _ e (fun q o c1 c2 c3 x => sc q o c3 (sb.extBut _ _ c2 (sa.extBut _ _ c1 x))) hc)
/-- a source of pairs, while at d something is being filled: the pairs stay -/
structure Src (prog : Program) (w : World) (A : Around) (I d : Addr) (wr : List Addr) (n : Nat) (P : Nat → Value → Value → Prop) (St : Nat → Heap → Prop) : Prop where
  off : d ∉ wr
  frame : ∀ i h h', St i h → (∀ b o, b ≠ d → h.get? b = some o → h'.get? b = some o) → St i h'
  item : ∀ i (s : Shared) (Q : Option Value → Shared → Prop) (E : Value → Shared → Prop), i < n → St i s.heap → d < s.heap.objs.size →
    (∀ x y h' tk, P i x y → IsTupOf2 h' s.heap.objs.size x y → s.heap.objs.size ∉ wr → h'.objs.size = s.heap.objs.size + 1 → St (i + 1) h' → (∀ b o, b ∉ wr → s.heap.get? b = some o → h'.get? b = some o) → Q (some (.ref s.heap.objs.size)) { s with heap := h', toks := tk }) → wpAny (model prog w) A (pyNext (.ref I)) Q E s
  done : ∀ (s : Shared) (Q : Option Value → Shared → Prop) (E : Value → Shared → Prop), St n s.heap →
    (∀ h' tk, (∀ b o, b ∉ wr → s.heap.get? b = some o → h'.get? b = some o) → Q none { s with heap := h', toks := tk }) → wpAny (model prog w) A (pyNext (.ref I)) Q E s
/-- the zip's state at a turn: nothing is out yet, or a pair is -/
def ZipSt (z TI TO i1 i2 d : Addr) (St1 St2 : Nat → Heap → Prop) (i : Nat) (h : Heap) : Prop := IsTupOf2 h TI (.ref i1) (.ref i2) ∧ St1 i h ∧ St2 i h ∧ (∃ a b, IsTupOf2 h TO a b) ∧
  (IsZip h z TI TO .none ∨ ∃ T f oT, IsZipHeld h z TI TO T f ∧ h.get? T = some oT ∧ T ≠ z ∧ T ≠ i1 ∧ T ≠ i2 ∧ T ≠ d)
theorem src_zip {d : Addr} (S : ZipSep2 z TI TO i1 i2 fp1 fp2) (D1 : Draws prog w A.in1 i1 fp1 n1 P1 St1) (D2 : Draws prog w A.in1 i2 fp2 n2 P2 St2) (dz : d ≠ z) (dTI : d ≠ TI) (dTO : d ≠ TO) (d1 : d ∉ fp1) (d2 : d ∉ fp2) :
    Src prog w A z d [z, TO, i1, i2] (min n1 n2) (fun i x y => P1 i x ∧ P2 i y) (ZipSt z TI TO i1 i2 d St1 St2) where
  off := fun hm => by
    simp only [List.mem_cons, List.not_mem_nil, or_false] at hm
    rcases hm with e | e | e | e
    · exact dz e
    · exact dTO e
    · exact d1 (e ▸ S.mem1)
    · exact d2 (e ▸ S.mem2)
  frame := fun i h h' st k => by
    obtain ⟨hTI, s1, s2, ⟨a, b, hTO⟩, hz⟩ := st
    refine ⟨k _ _ dTI.symm hTI, D1.frame _ _ _ s1 fun b hb o e => k b o (fun q => d1 (q ▸ hb)) e, D2.frame _ _ _ s2 fun b hb o e => k b o (fun q => d2 (q ▸ hb)) e, ⟨a, b, k _ _ dTO.symm hTO⟩, ?_⟩
    rcases hz with hz | ⟨T, f, oT, hz, hT, r1, r2, r3, r4⟩
    · exact .inl (k _ _ dz.symm hz)
    · exact .inr ⟨T, f, oT, k _ _ dz.symm hz, k _ _ r4 hT, r1, r2, r3, r4⟩
  item := fun i s Q E hi st hd hQ => by
    obtain ⟨hTI, s1, s2, ⟨a, b, hTO⟩, hz⟩ := st
    have lt : ∀ {c o}, s.heap.get? c = some o → s.heap.objs.size ≠ c := fun e => Nat.ne_of_gt (Heap.lt_size e)
    have q1 : s.heap.objs.size ≠ i1 := let ⟨_, e⟩ := D1.live _ _ s1; lt e
    have q2 : s.heap.objs.size ≠ i2 := let ⟨_, e⟩ := D2.live _ _ s2; lt e
    rcases hz with hz | ⟨T, f, oT, hz, hT, r1, r2, r3, r4⟩
    · refine wpAny_pyNext_zipD2_item S D1 D2 hz hTI hTO s1 s2 (by omega) (by omega) fun x y h' tk px py a1 a2 a3 a4 a5 a6 k => ?_
      refine hQ x y h' tk ⟨px, py⟩ a5 (fun hm => ?_) a6 ⟨k _ _ S.TIz S.TITO S.TIi1 S.TIi2 hTI, a3, a4, ⟨_, _, a2⟩, .inr ⟨_, false, _, a1, a5, lt hz, q1, q2, Nat.ne_of_gt hd⟩⟩ fun c o hc e => k c o (fun x => hc (by simp [x])) (fun x => hc (by simp [x])) (fun x => hc (by simp [x])) (fun x => hc (by simp [x])) e
      simp only [List.mem_cons, List.not_mem_nil, or_false] at hm
      rcases hm with e | e | e | e
      · exact lt hz e
      · exact lt hTO e
      · exact q1 e
      · exact q2 e
    · have hTy : s.TypeIs (.ref z) "zip" := ⟨_, hz, rfl⟩
      unfold pyNext
      refine wpAny_bind (wpAny_attempt (wpAny_callSpecial?_slot (name := Str.ofString "__next__") hTy F.slot_zip_next
        (wpAny_call_entry F.slot_zip_next hTy F.entry_zip_next (held_item S D1 D2 hz hT hTI s1 s2 (by omega) (by omega) fun x y h' tk px py a1 a3 a4 a5 a6 k => wpAny_pure ?_) (F.args_zip_next_1 _))))
      refine hQ x y h' tk ⟨px, py⟩ a5 (fun hm => ?_) a6 ⟨k _ _ S.TIz S.TIi1 S.TIi2 hTI, a3, a4, ⟨a, b, k _ _ S.TOz S.Ti1 S.Ti2 hTO⟩, .inr ⟨T, true, oT, a1, k _ _ r1 r2 r3 hT, r1, r2, r3, r4⟩⟩ fun c o hc e => k c o (fun x => hc (by simp [x])) (fun x => hc (by simp [x])) (fun x => hc (by simp [x])) e
      simp only [List.mem_cons, List.not_mem_nil, or_false] at hm
      rcases hm with e | e | e | e
      · exact lt hz e
      · exact lt hTO e
      · exact q1 e
      · exact q2 e
  done := fun s Q E st hQ => by
    obtain ⟨hTI, s1, s2, ⟨a, b, hTO⟩, hz⟩ := st
    rcases hz with hz | ⟨T, f, oT, hz, hT, r1, r2, r3, r4⟩
    · exact wpAny_pyNext_zipD2_end S D1 D2 hz hTI hTO s1 s2 (by omega) (by omega) (by omega) fun h' tk k => hQ h' tk fun c o hc e => k c o (fun x => hc (by simp [x])) (fun x => hc (by simp [x])) (fun x => hc (by simp [x])) (fun x => hc (by simp [x])) e
    · have hTy : s.TypeIs (.ref z) "zip" := ⟨_, hz, rfl⟩
      unfold pyNext
      refine wpAny_bind (wpAny_attempt (wpAny_callSpecial?_slot (name := Str.ofString "__next__") hTy F.slot_zip_next
        (wpAny_call_entry F.slot_zip_next hTy F.entry_zip_next (held_end S D1 D2 hz hT hTI s1 s2 (by omega) (by omega) (by omega) fun h' tk e k he => ?_) (F.args_zip_next_1 _))))
      obtain ⟨o, ho, hc⟩ := he
      refine wpAny_bind (wpAny_isInstance (T := "StopIteration") (b := true) ⟨o, ho, hc⟩ isSubtype_stop ?_)
      exact wpAny_pure (hQ _ _ fun c o hc e => k c o (fun x => hc (by simp [x])) (fun x => hc (by simp [x])) (fun x => hc (by simp [x])) e)

/-- what has been gathered: new pairs at Ts -/
def Got (N : Nat) (h : Heap) (S : Addr) (wr : List Addr) (P : Nat → Value → Value → Prop) (Ts : List Addr) : Prop := Ts.Nodup ∧ ∀ (j : Nat) (T : Addr), Ts[j]? = some T → N ≤ T ∧ T ≠ S ∧ T ∉ wr ∧ ∃ x y, P j x y ∧ IsTupOf2 h T x y
theorem Got.keep {N : Nat} {h h' : Heap} {S : Addr} {wr : List Addr} {P : Nat → Value → Value → Prop} {Ts : List Addr} (g : Got N h S wr P Ts) (k : ∀ b o, b ≠ S → b ∉ wr → h.get? b = some o → h'.get? b = some o) : Got N h' S wr P Ts :=
  ⟨g.1, fun j T e => let ⟨a, b, c, x, y, p, q⟩ := g.2 j T e; ⟨a, b, c, x, y, p, k T _ b c q⟩⟩
theorem ext_loop {I S : Addr} {wr : List Addr} {n : Nat} {P : Nat → Value → Value → Prop} {St : Nat → Heap → Prop} {R : Result → Shared → Prop} (W : Src prog w A.in1 I S wr n P St) (hn : n ≤ sizeLine) (res : Value) (h0 : Heap) (N : Nat) :
    ∀ (k i : Nat) (s : Shared) (Ts : List Addr) (c : Nat), n - i = k → i ≤ n → St i s.heap → s.heap.get? S = some { cls := .type "list", dict := none, data := .seq (Ts.map Value.ref).toArray c, slots := #[] } → Ts.length = i →
    Got N s.heap S wr P Ts → N ≤ s.heap.objs.size → (∀ b o, b ≠ S → b ∉ wr → h0.get? b = some o → s.heap.get? b = some o) →
    (∀ h' tk Ts' c', (∀ b o, b ≠ S → b ∉ wr → h0.get? b = some o → h'.get? b = some o) → h'.get? S = some { cls := .type "list", dict := none, data := .seq (Ts'.map Value.ref).toArray c', slots := #[] } → Ts'.length = n → Got N h' S wr P Ts' → R (.ok (.ret res)) { s with heap := h', toks := tk }) →
    codeAny (model prog w) A (.builtin "list.extend.loop" ⟨[.ref S, .ref I, res], []⟩) R s := by
  intro k
  induction k with
  | zero =>
    intro i s Ts c hk hi st hS hl g hN kp hR
    have hin : i = n := by omega
    subst hin
    refine codeAny_builtin F.entry_extend_loop ?_
    rw [Around.under_plainId F.plain_extend_loop _]
    show wpAny _ A.in1 (pyNext (.ref I) >>= _) _ _ s
    refine wpAny_bind (W.done s _ _ st fun h' tk k' => wpAny_pure ?_)
    exact hR h' tk Ts c (fun b o h1 h2 e => k' b o h2 (kp b o h1 h2 e)) (k' S _ W.off hS) hl (g.keep fun b o _ h2 e => k' b o h2 e)
  | succ k ih =>
    intro i s Ts c hk hi st hS hl g hN kp hR
    obtain ⟨hp, gs, d, tk0, os⟩ := s
    have hlt : i < n := by omega
    refine codeAny_builtin F.entry_extend_loop ?_
    rw [Around.under_plainId F.plain_extend_loop _]
    show wpAny _ A.in1 (pyNext (.ref I) >>= _) _ _ _
    refine wpAny_bind (W.item i _ _ _ hlt st (Heap.lt_size hS) fun x y h' tk p e1 e2 e3 st' k' => ?_)
    have hS' : h'.get? S = some { cls := .type "list", dict := none, data := .seq (Ts.map Value.ref).toArray c, slots := #[] } := k' S _ W.off hS
    have nS : hp.objs.size ≠ S := Nat.ne_of_gt (Heap.lt_size hS)
    show wpAny _ A.in1 (updateSeq S (·.push (.ref hp.objs.size)) >>= _) _ _ (⟨h', gs, d, tk, os⟩ : Shared)
    have hsz : (Ts.map Value.ref).toArray.size = i := by simp [hl]
    refine wpAny_bind (wpAny_updateSeq (s := ⟨h', gs, d, tk, os⟩) hS' rfl (wpAny_pure ⟨plainId_quiet F.plain_extend_loop _, ?_⟩) (by rw [hsz]; omega) (by rw [Array.size_push, hsz]; omega))
    have oth : ∀ b o, b ≠ S → h'.get? b = some o → (h'.update S (Obj.mapSeq (·.push (.ref hp.objs.size)))).get? b = some o := fun b o hb e => (Heap.get?_update_other _ _ (Ne.symm hb)).trans e
    have eS : (h'.update S (Obj.mapSeq (·.push (.ref hp.objs.size)))).get? S = some { cls := .type "list", dict := none, data := .seq ((Ts ++ [hp.objs.size]).map Value.ref).toArray (c + 1), slots := #[] } := by
      rw [Heap.get?_update_self _ hS' rfl]
      simp [Obj.mapSeq]
    refine ih (i + 1) ⟨_, gs, d, tk, os⟩ (Ts ++ [hp.objs.size]) (c + 1) (by omega) hlt (W.frame _ _ _ st' oth) eS (by simp [hl]) ?_ (by show N ≤ (h'.update S _).objs.size; rw [(Heap.SameBut.update ..).1, e3]; exact Nat.le_succ_of_le hN) (fun b o h1 h2 e => oth b o h1 (k' b o h2 (kp b o h1 h2 e))) hR
    have g' := g.keep (h' := h'.update S (Obj.mapSeq (·.push (.ref hp.objs.size)))) fun b o h1 h2 e => oth b o h1 (k' b o h2 e)
    refine ⟨?_, fun j T ej => ?_⟩
    · rw [List.nodup_append]
      refine ⟨g.1, by simp, fun a ha b hb => ?_⟩
      have hb : b = hp.objs.size := by simpa using hb
      obtain ⟨j, hj⟩ := List.mem_iff_getElem?.mp ha
      obtain ⟨_, _, _, x', y', _, q⟩ := g.2 j a hj
      have := Heap.lt_size q
      intro e
      rw [e, hb] at this
      exact Nat.lt_irrefl _ this
    · rw [List.getElem?_append] at ej
      split at ej
      · exact g'.2 j T ej
      · have hj : j = Ts.length := by
          have := (List.getElem?_eq_some_iff.mp ej).1
          simp at this
          omega
        rw [hj, Nat.sub_self] at ej
        have eT : hp.objs.size = T := by simpa using ej
        subst eT
        rw [hj, hl]
        exact ⟨hN, nS, e2, x, y, p, oth _ _ nS e1⟩
theorem zip_no_len : typeLookup (.type "zip") "__len__" = pure none := by rw [typeLookup_type, builtinLookup_eq_fast]; kernel_rfl
theorem zip_no_hint : typeLookup (.type "zip") "__length_hint__" = pure none := by rw [typeLookup_type, builtinLookup_eq_fast]; kernel_rfl
theorem ext_zip {S : Addr} {wr : List Addr} {n c0 : Nat} {P : Nat → Value → Value → Prop} {St : Nat → Heap → Prop} {R : Result → Shared → Prop} (W : Src prog w A.in1 z S wr n P St) (hn : n ≤ sizeLine) (res : Value) (hz : IsZip s.heap z TI TO .none) (st : St 0 s.heap) (hSz : S ≠ z)
    (hS : s.heap.get? S = some { cls := .type "list", data := .seq #[] c0 })
    (hR : ∀ h' tk (Ts : List Addr) c', (∀ b o, b ≠ S → b ∉ wr → s.heap.get? b = some o → h'.get? b = some o) → h'.get? S = some { cls := .type "list", dict := none, data := .seq (Ts.map Value.ref).toArray c', slots := #[] } → Ts.length = n → Got s.heap.objs.size h' S wr P Ts → R (.ok (.ret res)) { s with heap := h', toks := tk }) :
    wpAny (model prog w) A.in1 (Builtin.List.listExtendWith (.ref S) (.ref z) res)
      (fun fin s' => match fin with | .done f => R (.ok f) s' | .again c' => c'.quiet = true ∧ codeAny (model prog w) A c' R s') (fun e s' => R (.error e) s') s := by
  have hT : s.TypeIs (.ref z) "zip" := ⟨_, hz, rfl⟩
  unfold Builtin.List.listExtendWith
  refine wpAny_bind (wpAny_typeOf hT ?_)
  have q1 : Builtin.List.listSameRef (.ref S) (.ref z) = false := by simp [Builtin.List.listSameRef, hSz]
  have q2 : (Value.type "zip" == Value.type "list") = false := by decide
  have q3 : (Value.type "zip" == Value.type "tuple") = false := by decide
  simp only [q1, q2, q3, Bool.or_false, Bool.false_eq_true, if_false]
  refine wpAny_bind (wpAny_pyIter_zip hz (wpAny_bind (wpAny_holding ?_)))
  unfold Builtin.List.listLengthHint
  refine wpAny_bind (wpAny_specialOf hT zip_no_len ?_)
  show wpAny _ A.in1 (specialOf (Value.ref z) (Str.ofString "__length_hint__") >>= _) _ _ _
  refine wpAny_bind (wpAny_specialOf hT zip_no_hint (wpAny_pure ?_))
  show wpAny _ A.in1 (rule "list.extend.makes-room" >>= fun _ => Builtin.List.listTouch (.ref S) >>= fun _ => again (.builtin "list.extend.loop" ⟨[.ref S, .ref z, res], []⟩)) _ _ _
  refine wpAny_bind (wpAny_rule (wpAny_bind ?_))
  show wpAny _ A.in1 (updateSeq S (·.push .none) >>= fun _ => updateSeq S (·.pop)) _ _ _
  refine wpAny_bind (wpAny_updateSeq hS rfl ?_)
  have u1 := Heap.get?_update_self (Obj.mapSeq (·.push Value.none)) hS rfl
  refine wpAny_updateSeq (hz := by seq_fits) u1 rfl ?_
  have u2 := Heap.get?_update_self (Obj.mapSeq (·.pop)) u1 rfl
  have oth : ∀ b o, b ≠ S → s.heap.get? b = some o → ((s.heap.update S (Obj.mapSeq (·.push Value.none))).update S (Obj.mapSeq (·.pop))).get? b = some o :=
    fun b o hb e => (Heap.get?_update_other _ _ (Ne.symm hb)).trans ((Heap.get?_update_other _ _ (Ne.symm hb)).trans e)
  refine wpAny_pure ⟨plainId_quiet F.plain_extend_loop _, ext_loop W hn res s.heap s.heap.objs.size n 0 _ [] _ rfl (Nat.zero_le _) (W.frame 0 _ _ st oth) u2 rfl ⟨List.nodup_nil, fun j T e => by simp at e⟩ (by show _ ≤ ((s.heap.update S _).update S _).objs.size; rw [(Heap.SameBut.update ..).1, (Heap.SameBut.update ..).1]; exact Nat.le_refl _) (fun b o h1 _ e => oth b o h1 e) hR⟩
/-- list(zip) -/
theorem list_zip {wr : List Addr} {n : Nat} {P : Nat → Value → Value → Prop} {St : Nat → Heap → Prop} {Q : Value → Shared → Prop} (W : Src prog w A.in1.in1 z s.heap.objs.size wr n P St) (hn : n ≤ sizeLine) (hz : IsZip s.heap z TI TO .none) (st : St 0 s.heap)
    (hQ : ∀ h' tk (Ts : List Addr) c', (∀ b o, b ∉ wr → s.heap.get? b = some o → h'.get? b = some o) → h'.get? s.heap.objs.size = some { cls := .type "list", dict := none, data := .seq (Ts.map Value.ref).toArray c', slots := #[] } → Ts.length = n →
      Ts.Nodup → (∀ (j : Nat) (T : Addr), Ts[j]? = some T → s.heap.objs.size < T ∧ ∃ x y, P j x y ∧ IsTupOf2 h' T x y) → Q (.ref s.heap.objs.size) { s with heap := h', toks := tk }) :
    wpAny (model prog w) A (call (.type "list") [.ref z]) Q E s := by
  refine callType_codes (Q₁ := fun obj s₁ => obj = .ref s.heap.objs.size ∧ s₁ = { s with heap := s.heap.push { cls := .type "list", data := .seq #[] } }) F.called_list (F.typeCall_list_1 _) F.entry_list_init
    (code_list_new _ ⟨rfl, rfl⟩) fun obj s₁ h₁ => ?_
  obtain ⟨rfl, rfl⟩ := h₁
  have hS : (s.heap.push { cls := .type "list", data := .seq #[] }).get? s.heap.objs.size = some { cls := .type "list", data := .seq #[] } := Heap.get?_push_size _ rfl
  have pk : ∀ b o, s.heap.get? b = some o → (s.heap.push { cls := .type "list", data := .seq #[] }).get? b = some o := fun b o e => Heap.get?_push_of_some _ e
  refine ⟨⟨_, hS, rfl⟩, F.args_list_init_2 _ _, ?_⟩
  show wpAny _ A.in1.in1 (do let old ← Builtin.List.listItems (.ref s.heap.objs.size); Builtin.List.listUpdate (.ref s.heap.objs.size) (fun _ => #[]); letGo old.toList.reverse; Builtin.List.listExtendWith (.ref s.heap.objs.size) (.ref z) .none) _ _ _
  refine wpAny_bind ?_
  unfold Builtin.List.listItems
  refine wpAny_bind (wpAny_seqItems hS rfl (wpAny_pure ?_))
  show wpAny _ A.in1.in1 (updateSeq s.heap.objs.size (fun _ => #[]) >>= fun _ => letGo (#[] : Array Value).toList.reverse >>= fun _ => Builtin.List.listExtendWith (.ref s.heap.objs.size) (.ref z) .none) _ _ _
  refine wpAny_bind (wpAny_updateSeq hS rfl ?_)
  have u1 := Heap.get?_update_self (Obj.mapSeq (fun _ => (#[] : Array Value))) hS rfl
  have oth : ∀ b o, s.heap.get? b = some o → ((s.heap.push { cls := .type "list", data := .seq #[] }).update s.heap.objs.size (Obj.mapSeq (fun _ => (#[] : Array Value)))).get? b = some o :=
    fun b o e => (Heap.get?_update_other _ _ (Nat.ne_of_gt (Heap.lt_size e))).trans (pk b o e)
  refine wpAny_bind (wpAny_letGo ?_)
  refine ext_zip (A := A.in1) W hn .none (oth _ _ hz) (W.frame 0 _ _ st fun b o _ e => oth b o e) (Nat.ne_of_gt (Heap.lt_size hz)) u1 fun h' tk Ts c' k eS el g => ?_
  refine ⟨rfl, hQ h' tk Ts c' (fun b o hb e => k b o (Nat.ne_of_lt (Heap.lt_size e)) hb (oth b o e)) eS el g.1 fun j T ej => ?_⟩
  obtain ⟨a, b, c, x, y, p, q⟩ := g.2 j T ej
  have a : (s.heap.push { cls := .type "list", data := .seq #[] }).objs.size ≤ T := by
    have z := (Heap.SameBut.update (h := s.heap.push { cls := .type "list", data := .seq #[] }) (a := s.heap.objs.size) (f := Obj.mapSeq (fun _ => (#[] : Array Value)))).1
    rw [← z]; exact a
  rw [Heap.size_push] at a
  exact ⟨a, x, y, p, q⟩
/-- the gathering that tuple(..) does -/
theorem collect_zip {wr : List Addr} {n : Nat} {P : Nat → Value → Value → Prop} {St : Nat → Heap → Prop} {Q : List Value → Shared → Prop} (W : Src prog w A.in1 z s.heap.objs.size wr n P St) (hn : n ≤ sizeLine) (hz : IsZip s.heap z TI TO .none) (st : St 0 s.heap)
    (hQ : ∀ h' tk (Ts : List Addr), (∀ b o, b ∉ wr → s.heap.get? b = some o → h'.get? b = some o) → s.heap.objs.size < h'.objs.size → Ts.length = n → Ts.Nodup → (∀ (j : Nat) (T : Addr), Ts[j]? = some T → s.heap.objs.size < T ∧ ∃ x y, P j x y ∧ IsTupOf2 h' T x y) → Q (Ts.map Value.ref) { s with heap := h', toks := tk }) :
    wpAny (model prog w) A (collect (.ref z)) Q E s := by
  unfold collect
  refine wpAny_bind (wpAny_runValue (codeAny_builtin F.entry_proto_collect ?_))
  rw [Around.under_plainId F.plain_proto_collect _]
  show wpAny _ A.in1 (newList [] >>= fun l => again (.builtin "list.__iadd__" ⟨[l, .ref z], []⟩)) _ _ s
  refine wpAny_bind (wpAny_newObj_type ?_)
  refine wpAny_pure ⟨plainId_quiet F.plain_list_iadd _, codeAny_builtin F.entry_list_iadd ?_⟩
  rw [Around.under_plainId F.plain_list_iadd _]
  have hS : (s.heap.push { cls := .type "list", data := .seq ([] : List Value).toArray }).get? s.heap.objs.size = some { cls := .type "list", data := .seq #[] } := Heap.get?_push_size _ rfl
  have pk : ∀ b o, s.heap.get? b = some o → (s.heap.push { cls := .type "list", data := .seq ([] : List Value).toArray }).get? b = some o := fun b o e => Heap.get?_push_of_some _ e
  show wpAny _ A.in1 (Builtin.List.listExtendWith (.ref s.heap.objs.size) (.ref z) (.ref s.heap.objs.size)) _ _ (⟨s.heap.push { cls := .type "list", data := .seq ([] : List Value).toArray }, s.gens, s.drawn, s.toks, s.os⟩ : Shared)
  refine ext_zip (R := fun r s' => match r with
    | .ok (.ret v) => wpAny (model prog w) A (match v with
      | .ref a => do
        let o ← load a
        match o.data with
          | .seq xs _ => pure xs.toList
          | _ => unsupported "internal:collect"
      | _ => unsupported "internal:collect") Q E s'
    | .ok _ => False
    | .error e => E e s') (s := ⟨s.heap.push { cls := .type "list", data := .seq ([] : List Value).toArray }, s.gens, s.drawn, s.toks, s.os⟩) W hn (.ref s.heap.objs.size) (pk _ _ hz) (W.frame 0 _ _ st fun b o _ e => pk b o e) (Nat.ne_of_gt (Heap.lt_size hz)) hS fun h' tk Ts c' k eS el g => ?_
  show wpAny _ A (load s.heap.objs.size >>= _) _ _ (⟨h', s.gens, s.drawn, tk, s.os⟩ : Shared)
  refine wpAny_bind (wpAny_load eS (wpAny_pure ?_))
  refine hQ h' tk Ts (fun b o hb e => k b o (Nat.ne_of_lt (Heap.lt_size e)) hb (pk b o e)) (Heap.lt_size eS) el g.1 fun j T ej => ?_
  obtain ⟨a, b, c, x, y, p, q⟩ := g.2 j T ej
  have a : (s.heap.push { cls := .type "list", data := .seq ([] : List Value).toArray }).objs.size ≤ T := a
  rw [Heap.size_push] at a
  exact ⟨a, x, y, p, q⟩
theorem tuple_zip {wr : List Addr} {n : Nat} {P : Nat → Value → Value → Prop} {St : Nat → Heap → Prop} {Q : Value → Shared → Prop} (W : Src prog w A.in1.in1.in1 z s.heap.objs.size wr n P St) (hn : n ≤ sizeLine) (hz : IsZip s.heap z TI TO .none) (st : St 0 s.heap)
    (hQ : ∀ h' tk (Ts : List Addr) p, (∀ b o, b ∉ wr → s.heap.get? b = some o → h'.get? b = some o) → s.heap.objs.size < p → h'.get? p = some { cls := .type "tuple", data := .seq (Ts.map Value.ref).toArray } → Ts.length = n →
      Ts.Nodup → (∀ (j : Nat) (T : Addr), Ts[j]? = some T → s.heap.objs.size < T ∧ T ≠ p ∧ ∃ x y, P j x y ∧ IsTupOf2 h' T x y) → Q (.ref p) { s with heap := h', toks := tk }) :
    wpAny (model prog w) A (call (.type "tuple") [.ref z]) Q E s := by
  refine callType_codes (Q₁ := fun obj s₁ => s₁.TypeIs obj "tuple" ∧ Q obj s₁) F.called_tuple (F.typeCall_tuple_1 _) F.entry_object_init ?_ fun obj s₁ h₁ => ?_
  · refine codeAny_of_tree ?_
    show wpAny _ A.in1.in1 (do checkBuiltinCall "tuple.__new__" ⟨[.type "tuple", .ref z], []⟩; again (.builtin "tuple.__new__" ⟨[.type "tuple", .ref z], []⟩)) _ _ s
    refine wpAny_bind (wpAny_of_eq (F.newCall_tuple_1 _) (wpAny_pure ⟨plainId_quiet F.plain_tuple_new _, codeAny_builtin F.entry_tuple_new ?_⟩))
    rw [Around.under_plainId F.plain_tuple_new _]
    have hsub := sub_tuple_self
    have hinit := init_tuple_lookup
    have hmh := madeHere_tuple
    have hTI : s.TypeIs (.ref z) "zip" := ⟨_, hz, rfl⟩
    wp_walk using wpAny_typeOf hTI, collect_zip (hn := hn) W hz st
    intro h' tk Ts k lt el nd g
    show wpAny _ _ (Builtin.Tuple.tupleExact (Ts.map Value.ref).toArray >>= fun v => ret v) _ _ _
    unfold Builtin.Tuple.tupleExact
    refine wpAny_bind (wpAny_newObj_type (wpAny_pure ?_) (by show (Ts.map Value.ref).toArray.size ≤ sizeLine; rw [List.size_toArray, List.length_map, el]; exact hn))
    have pk : ∀ b o, h'.get? b = some o → (h'.push { cls := .type "tuple", data := .seq (Ts.map Value.ref).toArray }).get? b = some o := fun b o e => Heap.get?_push_of_some _ e
    have pT : (h'.push { cls := .type "tuple", data := .seq (Ts.map Value.ref).toArray }).get? h'.objs.size = some { cls := .type "tuple", data := .seq (Ts.map Value.ref).toArray } := Heap.get?_push_size _ rfl
    refine ⟨⟨_, pT, rfl⟩, hQ _ tk Ts _ (fun b o hb e => pk b o (k b o hb e)) lt pT el nd fun j T ej => ?_⟩
    · obtain ⟨a, x, y, p, q⟩ := g j T ej
      exact ⟨a, Nat.ne_of_lt (Heap.lt_size q), x, y, p, pk _ _ q⟩
  · exact ⟨h₁.1, F.args_object_init_2 obj _, object_init_meets F.called_tuple.init.lookup F.called_tuple.made (by decide) prog w A.in1 _ s₁ ⟨h₁.1, rfl, h₁.2⟩⟩
end
section
variable {prog : Program} {w : World} {z TI TO i1 i2 : Addr} {fp1 fp2 : List Addr} {n1 n2 : Nat} {P1 P2 : Nat → Value → Prop} {St1 St2 : Nat → Heap → Prop}
/-- dict(zip) -/
theorem pairArg_zip (S : ZipSep2 z TI TO i1 i2 fp1 fp2) (D1 : ∀ A : Around, A.handled = none → Draws prog w A.in1 i1 fp1 n1 P1 St1) (D2 : ∀ A : Around, A.handled = none → Draws prog w A.in1 i2 fp2 n2 P2 St2)
    (t1 : ∀ h, St1 0 h → ∀ b ∈ fp1, ∃ o, h.get? b = some o) (t2 : ∀ h, St2 0 h → ∀ b ∈ fp2, ∃ o, h.get? b = some o) (k1 : ∀ h h', St1 0 h → (∀ b o, h.get? b = some o → h'.get? b = some o) → St1 0 h') (k2 : ∀ h h', St2 0 h → (∀ b o, h.get? b = some o → h'.get? b = some o) → St2 0 h') :
    PairArg prog w "zip" z (z :: TI :: TO :: (fp1 ++ fp2)) [z, TO, i1, i2] (min n1 n2) (fun i k v => P1 i k ∧ P2 i v)
      (fun h => IsZip h z TI TO .none ∧ IsTupOf2 h TI (.ref i1) (.ref i2) ∧ (∃ a b, IsTupOf2 h TO a b) ∧ St1 0 h ∧ St2 0 h) where
  type := fun s ok => ⟨_, ok.1, rfl⟩
  notDict := by decide
  keep := fun h h' ok hk => by
    obtain ⟨hz, hTI, ⟨a, b, hTO⟩, s1, s2⟩ := ok
    exact ⟨hk _ _ hz, hk _ _ hTI, ⟨a, b, hk _ _ hTO⟩, k1 _ _ s1 hk, k2 _ _ s2 hk⟩
  there := fun h ok b hb => by
    obtain ⟨hz, hTI, ⟨a, c, hTO⟩, s1, s2⟩ := ok
    rcases List.mem_cons.mp hb with e | hb
    · rw [e]; exact ⟨_, hz⟩
    rcases List.mem_cons.mp hb with e | hb
    · rw [e]; exact ⟨_, hTI⟩
    rcases List.mem_cons.mp hb with e | hb
    · rw [e]; exact ⟨_, hTO⟩
    rcases List.mem_append.mp hb with hb | hb
    · exact t1 h s1 b hb
    · exact t2 h s2 b hb
  sub := fun b hb => by
    have hb : b = z ∨ b = TO ∨ b = i1 ∨ b = i2 := by simpa using hb
    have m1 := S.mem1
    have m2 := S.mem2
    simp only [List.mem_cons, List.mem_append]
    rcases hb with e | e | e | e
    · exact .inl e
    · exact .inr (.inr (.inl e))
    · exact .inr (.inr (.inr (.inl (e ▸ m1))))
    · exact .inr (.inr (.inr (.inr (e ▸ m2))))
  noKeys := fun A s Q E hA ok h => getAttrOr_miss_zip ok.1 rfl rfl rfl zip_no_keys (by decide +kernel) hA h
  iter := fun A s d Q E hA ok hd hdf h => by
    obtain ⟨hz, hTI, ⟨a, b, hTO⟩, s1, s2⟩ := ok
    simp only [List.mem_cons, List.mem_append, not_or] at hdf
    obtain ⟨dz, dTI, dTO, d1, d2⟩ := hdf
    have W := src_zip (P1 := P1) (P2 := P2) S (D1 A hA) (D2 A hA) dz dTI dTO d1 d2
    refine wpAny_pyIter_zip hz (h z [z, TO, i1, i2] (ZipSt z TI TO i1 i2 d St1 St2) s.heap s.toks ⟨W.off, W.frame, fun i s Q E hi st hd hQ => W.item i s Q E hi st hd fun x y h' tk p e _ _ st' k => hQ _ x y h' tk p (.inl ⟨_, e, rfl, _, rfl⟩) st' k, W.done⟩
      ⟨hTI, s1, s2, ⟨a, b, hTO⟩, .inl hz⟩ (fun _ _ e => e) fun b hb => .inl hb)
end
end MW
/-! further rules over the layer -/
namespace MW
open PySem PySem.Spec PyProof.Rows L2
section
variable {X : Cx} {pins : List (Addr × Obj)} {σ : L2.St} {H H' : Hp} {s : Shared} {h' : Heap}
/-- many new objects at once -/
theorem inv_many {t' : Nat} (I : Inv X pins σ H s) (k : ∀ b o, s.heap.get? b = some o → h'.get? b = some o) (same : Same H H') (old : ∀ b, b < s.heap.objs.size → H b = none → H' b = none)
    (ok : ∀ b o, H' b = some o → H b = some o ∨ ObjOk X.prog X.w H' h' b o) : Inv X pins σ H' { s with heap := h', toks := t' } := by
  refine I.un ⟨fun b o e _ _ _ => k b o e, fun b o e _ _ _ => ⟨o.slots, k b o e⟩, fun b o e n _ => old b (Heap.lt_size e) n, fun b o e _ => ⟨o, k b o e⟩, fun b xs e => same b _ e, fun b o u e => same b _ e, fun b ps e => ⟨#[], by rw [same b _ e]; simp⟩⟩ fun b o e => ?_
  rcases ok b o e with q | q
  · exact (I.hok b o q).stay (fun c u _ z => k c u z) (fun c z => same c _ z) fun c xs z => same c _ z
  · exact q
/-- a tuple of things, as it is made -/
def tupObj (Ts : List Addr) : Obj := { cls := .type "tuple", data := .seq (Ts.map Value.ref).toArray }
def mkL (Ts : List Addr) : HO := .lst (Ts.map V.ref)
def mkT (Ts : List Addr) : HO := .frz (tupObj Ts) (.tup (Ts.map V.ref))
/-- the pairs of xs and ys at new places Ts, in a new thing at p -/
def kZip (mk : List Addr → HO) (xs ys : List V) (H : Hp) (Q : VK) : Prop := ∀ (p : Addr) (Ts : List Addr) (H' : Hp), Same H H' → H p = none → H' p = some (mk Ts) → Ts.length = min xs.length ys.length →
  (∀ (i : Nat) (T : Addr), Ts[i]? = some T → H T = none ∧ ∃ x y, xs[i]? = some x ∧ ys[i]? = some y ∧ H' T = some (.tup [x, y])) → Q (.ref p) H'
/-- the heap with the pairs -/
def zipH (H : Hp) (p : Addr) (o : HO) (Ts : List Addr) (xs ys : List V) : Hp := fun b => if b = p then some o else if b ∈ Ts then some (.tup [xs.getD (Ts.idxOf b) .non, ys.getD (Ts.idxOf b) .non]) else H b
theorem refs_vals : ∀ Ts : List Addr, Vals (Ts.map V.ref) (Ts.map Value.ref)
  | [] => .nil
  | _ :: Ts => .cons rfl (refs_vals Ts)
theorem zip_ok {t' : Nat} {xs ys : List V} {us ws : List Value} {p : Addr} {Ts : List Addr} {mk : List Addr → HO} (I : Inv X pins σ H s) (rx : Vals xs us) (ry : Vals ys ws) (k : ∀ b o, s.heap.get? b = some o → h'.get? b = some o)
    (hp : s.heap.objs.size ≤ p) (el : Ts.length = min xs.length ys.length) (nd : Ts.Nodup)
    (g : ∀ (j : Nat) (T : Addr), Ts[j]? = some T → s.heap.objs.size ≤ T ∧ T ≠ p ∧ ∃ u w, us[j]? = some u ∧ ws[j]? = some w ∧ IsTupOf2 h' T u w)
    (hmk : ∀ H', ObjOk X.prog X.w H' h' p (mk Ts)) (Q : VK) (q : kZip mk xs ys H Q) :
    ∃ v H', Inv X pins σ H' { s with heap := h', toks := t' } ∧ RelV v (.ref p) ∧ Q v H' := by
  have hlx : ∀ (j : Nat) (T : Addr), Ts[j]? = some T → ∃ x y, xs[j]? = some x ∧ ys[j]? = some y := fun j T e => by
    have h1 := (List.getElem?_eq_some_iff.mp e).1
    exact ⟨xs[j]'(by omega), ys[j]'(by omega), List.getElem?_eq_getElem _, List.getElem?_eq_getElem _⟩
  have nH : ∀ b, s.heap.objs.size ≤ b → H b = none := fun b hb => I.hok.fresh hb
  have mT : ∀ b ∈ Ts, s.heap.objs.size ≤ b ∧ b ≠ p := fun b hb => by
    obtain ⟨j, hj⟩ := List.mem_iff_getElem?.mp hb
    exact ⟨(g j b hj).1, (g j b hj).2.1⟩
  have hAt : ∀ (j : Nat) (T : Addr), Ts[j]? = some T → zipH H p (mk Ts) Ts xs ys T = some (.tup [xs.getD j .non, ys.getD j .non]) := fun j T e => by
    obtain ⟨h1, h2⟩ := List.getElem?_eq_some_iff.mp e
    have hm : T ∈ Ts := List.mem_of_getElem? e
    have hi : Ts.idxOf T = j := by rw [← h2]; exact nd.idxOf_getElem j h1
    show (if T = p then _ else if T ∈ Ts then _ else _) = _
    rw [if_neg (mT T hm).2, if_pos hm, hi]
  have same : Same H (zipH H p (mk Ts) Ts xs ys) := fun b o e => by
    have hb : b < s.heap.objs.size := I.hok.lt e
    show (if b = p then _ else if b ∈ Ts then _ else _) = _
    rw [if_neg (Nat.ne_of_lt (Nat.lt_of_lt_of_le hb hp)), if_neg fun hm => absurd hb (Nat.not_lt.mpr (mT b hm).1)]
    exact e
  refine ⟨.ref p, zipH H p (mk Ts) Ts xs ys, inv_many I k same (fun b hb n => ?_) (fun b o e => ?_), rfl, q p Ts _ same (nH p hp) (if_pos rfl) el fun i T e => ?_⟩
  · show (if b = p then _ else if b ∈ Ts then _ else _) = _
    rw [if_neg (Nat.ne_of_lt (Nat.lt_of_lt_of_le hb hp)), if_neg fun hm => absurd hb (Nat.not_lt.mpr (mT b hm).1)]
    exact n
  · have e0 : (if b = p then some (mk Ts) else if b ∈ Ts then some (HO.tup [xs.getD (Ts.idxOf b) .non, ys.getD (Ts.idxOf b) .non]) else H b) = some o := e
    by_cases hb : b = p
    · rw [if_pos hb] at e0
      cases e0
      rw [hb]
      exact .inr (hmk _)
    · rw [if_neg hb] at e0
      by_cases hm : b ∈ Ts
      · obtain ⟨j, hj⟩ := List.mem_iff_getElem?.mp hm
        have e2 := hAt j b hj
        rw [e] at e2
        cases e2
        obtain ⟨_, _, u, w, hu, hw, ht⟩ := g j b hj
        obtain ⟨x, y, ex, ey⟩ := hlx j b hj
        obtain ⟨u', hu', ru⟩ := rx.get ex
        obtain ⟨w', hw', rw'⟩ := ry.get ey
        rw [hu] at hu'; cases hu'
        rw [hw] at hw'; cases hw'
        have e1 : xs.getD j .non = x := by rw [List.getD_eq_getElem?_getD, ex]; rfl
        have e3 : ys.getD j .non = y := by rw [List.getD_eq_getElem?_getD, ey]; rfl
        rw [e1, e3]
        exact .inr ⟨by show 2 ≤ sizeLine; decide, [u, w], .cons ru (.cons rw' .nil), ⟨_, ht, rfl, _, rfl⟩⟩
      · rw [if_neg hm] at e0
        exact .inl e0
  · obtain ⟨x, y, ex, ey⟩ := hlx i T e
    have e1 : xs.getD i .non = x := by rw [List.getD_eq_getElem?_getD, ex]; rfl
    have e3 : ys.getD i .non = y := by rw [List.getD_eq_getElem?_getD, ey]; rfl
    refine ⟨nH T (g i T e).1, x, y, ex, ey, ?_⟩
    rw [hAt i T e, e1, e3]
end
section
variable {X : Cx}
/-- list(zip(a, b)), of lists -/
def tListZip (K : PySem.W.Frag) (ta : TA) : TE := fun σ H Q => ta σ H fun vs H1 => ∃ a b xs ys, vs = [.ref a, .ref b] ∧ SqL K H1 a xs ∧ SqL K H1 b ys ∧ kZip mkL xs ys H1 Q
def tTupZip (K : PySem.W.Frag) (ta : TA) : TE := fun σ H Q => ta σ H fun vs H1 => ∃ a b xs ys, vs = [.ref a, .ref b] ∧ SqL K H1 a xs ∧ SqL K H1 b ys ∧ kZip mkT xs ys H1 Q
/-- the source that zip(a, b) of two lists is -/
theorem zipLL {A : Around} {E : Value → Shared → Prop} {s : Shared} {a b : Addr} {us ws : List Value} {prog : Program} {w : World} {Q : Value → Shared → Prop} (hl1 : s.heap.IsList a us.toArray) (hl2 : s.heap.IsList b ws.toArray)
    (h : ∀ h' z TI TO wr St, IsZip h' z TI TO .none → (∀ b ∈ wr, s.heap.objs.size ≤ b) → (∀ c o, s.heap.get? c = some o → h'.get? c = some o) → s.heap.objs.size ≤ h'.objs.size → St 0 h' →
      (∀ A : Around, A.handled = none → Src prog w A z h'.objs.size wr (min us.length ws.length) (fun i x y => us[i]? = some x ∧ ws[i]? = some y) St) → Q (.ref z) { s with heap := h' }) :
    wpAny (model prog w) A (call (.type "zip") [.ref a, .ref b]) Q E s := by
  refine zip_begins2 (begins_list a us.toArray) (begins_list b ws.toArray) hl1 hl2 fun h' hz hTI hTO o1 o2 hsz k => ?_
  have la : a < s.heap.objs.size := by obtain ⟨_, e, _⟩ := hl1; exact Heap.lt_size e
  have lb : b < s.heap.objs.size := by obtain ⟨_, e, _⟩ := hl2; exact Heap.lt_size e
  have m1 : ∀ c ∈ [a], c < s.heap.objs.size := fun c hc => by rw [List.mem_singleton.mp hc]; exact la
  have m2 : ∀ c ∈ [b], c < s.heap.objs.size := fun c hc => by rw [List.mem_singleton.mp hc]; exact lb
  have S : ZipSep2 (s.heap.objs.size + 4) (s.heap.objs.size + 2) (s.heap.objs.size + 3) s.heap.objs.size (s.heap.objs.size + 1) [s.heap.objs.size, a] [s.heap.objs.size + 1, b] := zip_sep2 m1 m2
  refine h h' _ _ _ [s.heap.objs.size + 4, s.heap.objs.size + 3, s.heap.objs.size, s.heap.objs.size + 1] (ZipSt (s.heap.objs.size + 4) (s.heap.objs.size + 2) (s.heap.objs.size + 3) s.heap.objs.size (s.heap.objs.size + 1) h'.objs.size
      (fun i h => h.IsListIter s.heap.objs.size a i ∧ h.IsList a us.toArray) (fun i h => h.IsListIter (s.heap.objs.size + 1) b i ∧ h.IsList b ws.toArray)) hz (fun c hc => ?_) k (by omega) ?_ fun A hA => ?_
  · have : c = s.heap.objs.size + 4 ∨ c = s.heap.objs.size + 3 ∨ c = s.heap.objs.size ∨ c = s.heap.objs.size + 1 := by simpa using hc
    omega
  · exact ⟨hTI, ⟨⟨_, o1, rfl, rfl⟩, hl1.at fun o e => k _ o e⟩, ⟨⟨_, o2, rfl, rfl⟩, hl2.at fun o e => k _ o e⟩, ⟨_, _, hTO⟩, .inl hz⟩
  · have ne : ∀ {c d : Nat}, c < d → c ≠ d := Nat.ne_of_lt
    have ge : ∀ {c d : Nat}, d < c → c ≠ d := fun h => Nat.ne_of_gt h
    have big : ∀ i : Nat, i < 5 → s.heap.objs.size + i < h'.objs.size := fun i hi => by rw [hsz]; exact Nat.add_lt_add_left hi _
    have W := src_zip (w := w) (prog := prog) (A := A) (d := h'.objs.size) S (Draws.list (A := A.in1) hA s.heap.objs.size a (ne la) us.toArray) (Draws.list (A := A.in1) hA (s.heap.objs.size + 1) b (ne (Nat.lt_succ_of_lt lb)) ws.toArray) (ge (big 4 (by decide))) (ge (big 2 (by decide))) (ge (big 3 (by decide)))
      (fun hm => by
        rcases List.mem_cons.mp hm with e | hm
        · exact ge (big 0 (by decide)) e
        · exact ge (Nat.lt_trans la (big 0 (by decide))) (List.mem_singleton.mp hm))
      (fun hm => by
        rcases List.mem_cons.mp hm with e | hm
        · exact ge (big 1 (by decide)) e
        · exact ge (Nat.lt_trans lb (big 0 (by decide))) (List.mem_singleton.mp hm))
    simpa using W
theorem pe_listZip {a b : Expr} {ta : TA} {p p2 q pos : Pos} (hg : Gl X "list") (hm : X.mg "list" = none) (hg2 : Gl X "zip") (hm2 : X.mg "zip" = none) (ha : PA X [a, b] ta) (hc : X.calm = true := by rfl)
    (hs : starEach [a, b] X.env = (false, eval a X.env) :: starEach [b] X.env := by rfl) (hpl : (backTo q (starEach [b] X.env)).any (·.1) = false := by rfl)
    (na : starEach [.Call (.Name "zip" p2) [a, b] [] q] X.env = (false, eval (.Call (.Name "zip" p2) [a, b] [] q) X.env) :: starEach [] X.env := by rfl) :
    PE X (.Call (.Name "list" p) [.Call (.Name "zip" p2) [a, b] [] q] [] pos) (tListZip X.K ta) := by
  refine ⟨fun pins s σ H Q I h => ?_⟩
  refine Call_ (ld_blt I hg hm boot_list ?_)
  refine PyProof.Rows.callWith_type1 (PyProof.Rows.args_cons ?_ na) na rfl
  refine Call_ (ld_blt I hg2 hm2 boot_zip (PyProof.Rows.callWith_type1 (thn (ha.run q pins s σ H _ I h) fun us s1 ⟨vs, H1, I1, r1, q1⟩ => ?_) hs hpl))
  obtain ⟨a', b', xs, ys, rfl, hx, hy, q1⟩ := q1
  cases r1 with
  | cons r rr =>
    cases rr with
    | cons r' rr =>
      cases rr
      cases r
      cases r'
      obtain ⟨us, ru, p1, z1⟩ := I1.list hx
      obtain ⟨ws, rw', p2', z2⟩ := I1.list hy
      have l1 := ru.length
      have l2 := rw'.length
      refine zipLL p1.isList p2'.isList fun h1 z TI TO wr St hz hwr k1 hsz st W => ?_
      refine PyProof.Rows.args_nil ?_
      have hh := I1.ok.hd hc
      refine list_zip (s := { s1 with heap := h1 }) (W _ hh) (by omega) hz st fun h' tk Ts c' k eS el nd g => ?_
      have kk : ∀ b o, s1.heap.get? b = some o → h'.get? b = some o := fun b o e => k b o (fun hm => absurd (Heap.lt_size e) (Nat.not_lt.mpr (hwr b hm))) (k1 b o e)
      have := zip_ok (t' := tk) (mk := mkL) (p := h1.objs.size) (Ts := Ts) (s := s1) I1 ru rw' kk hsz (by rw [el]; omega) nd (fun j T e => by
        obtain ⟨a1, x, y, ⟨e1, e2⟩, e3⟩ := g j T e
        have a1 : h1.objs.size < T := a1
        exact ⟨Nat.le_trans hsz (Nat.le_of_lt a1), Nat.ne_of_gt a1, x, y, e1, e2, e3⟩) (fun H' => ⟨by rw [List.length_map, el]; omega, Ts.map Value.ref, c', refs_vals Ts, eS⟩) Q q1
      exact this
theorem pe_tupZip {a b : Expr} {ta : TA} {p p2 q pos : Pos} (hg : Gl X "tuple") (hm : X.mg "tuple" = none) (hg2 : Gl X "zip") (hm2 : X.mg "zip" = none) (ha : PA X [a, b] ta) (hc : X.calm = true := by rfl)
    (hs : starEach [a, b] X.env = (false, eval a X.env) :: starEach [b] X.env := by rfl) (hpl : (backTo q (starEach [b] X.env)).any (·.1) = false := by rfl)
    (na : starEach [.Call (.Name "zip" p2) [a, b] [] q] X.env = (false, eval (.Call (.Name "zip" p2) [a, b] [] q) X.env) :: starEach [] X.env := by rfl) :
    PE X (.Call (.Name "tuple" p) [.Call (.Name "zip" p2) [a, b] [] q] [] pos) (tTupZip X.K ta) := by
  refine ⟨fun pins s σ H Q I h => ?_⟩
  refine Call_ (ld_blt I hg hm boot_tuple ?_)
  refine PyProof.Rows.callWith_type1 (PyProof.Rows.args_cons ?_ na) na rfl
  refine Call_ (ld_blt I hg2 hm2 boot_zip (PyProof.Rows.callWith_type1 (thn (ha.run q pins s σ H _ I h) fun us s1 ⟨vs, H1, I1, r1, q1⟩ => ?_) hs hpl))
  obtain ⟨a', b', xs, ys, rfl, hx, hy, q1⟩ := q1
  cases r1 with
  | cons r rr =>
    cases rr with
    | cons r' rr =>
      cases rr
      cases r
      cases r'
      obtain ⟨us, ru, p1, z1⟩ := I1.list hx
      obtain ⟨ws, rw', p2', z2⟩ := I1.list hy
      have l1 := ru.length
      have l2 := rw'.length
      refine zipLL p1.isList p2'.isList fun h1 z TI TO wr St hz hwr k1 hsz st W => ?_
      refine PyProof.Rows.args_nil ?_
      have hh := I1.ok.hd hc
      refine tuple_zip (s := { s1 with heap := h1 }) (W _ hh) (by omega) hz st fun h' tk Ts p' k ep eS el nd g => ?_
      have ep : h1.objs.size < p' := ep
      have kk : ∀ b o, s1.heap.get? b = some o → h'.get? b = some o := fun b o e => k b o (fun hm => absurd (Heap.lt_size e) (Nat.not_lt.mpr (hwr b hm))) (k1 b o e)
      have := zip_ok (t' := tk) (mk := mkT) (p := p') (Ts := Ts) (s := s1) I1 ru rw' kk (by omega) (by rw [el]; omega) nd (fun j T e => by
        obtain ⟨a1, a2, x, y, ⟨e1, e2⟩, e3⟩ := g j T e
        have a1 : h1.objs.size < T := a1
        exact ⟨Nat.le_trans hsz (Nat.le_of_lt a1), a2, x, y, e1, e2, e3⟩) (fun H' => ⟨eS, by rw [List.length_map, el]; omega, Ts.map Value.ref, refs_vals Ts, ⟨_, eS, rfl, _, rfl⟩⟩) Q q1
      exact this
end
end MW
/-! further rules over the layer: dict(zip), dict of a tuple, enumerate of a tuple, a text unpacked, remove of a text, a text times 0 or 1 -/
namespace MW
open PySem PySem.Spec PyProof.Rows L2
/-! ### remove -/
theorem strs_idx : ∀ {us : List Value} {zs : List Str}, StrsAre us zs → ∀ (j : Nat) (z : Str), zs[j]? = some z → ∃ t, us[j]? = some (.str z t)
  | _, _, .nil, j, z, e => by simp at e
  | _, _, .cons y t h, 0, z, e => by
    have e : some y = some z := e
    cases e
    exact ⟨t, rfl⟩
  | _, _, .cons y t h, j + 1, z, e => strs_idx h j z e
theorem first_str : ∀ {zs : List Str} {z : Str}, z ∈ zs → ∃ j, j < zs.length ∧ zs[j]? = some z ∧ (∀ i : Nat, i < j → zs[i]? ≠ some z) ∧ zs.eraseIdx j = zs.erase z
  | [], z, h => absurd h (by simp)
  | a :: r, z, h => by
    by_cases e : a = z
    · subst e
      exact ⟨0, Nat.succ_pos _, rfl, fun i hi => absurd hi (Nat.not_lt_zero _), by simp⟩
    · have hr : z ∈ r := (List.mem_cons.mp h).resolve_left fun q => e q.symm
      obtain ⟨j, h1, h2, h3, h4⟩ := first_str hr
      refine ⟨j + 1, Nat.succ_lt_succ h1, h2, fun i hi => ?_, ?_⟩
      · cases i with
        | zero => exact fun q => e (Option.some.inj q)
        | succ i => exact h3 i (Nat.lt_of_succ_lt_succ hi)
      · rw [List.erase_cons_tail (by simpa using e), ← h4]
        rfl
theorem map_erase {α β : Type} (f : α → β) : ∀ (l : List α) (j : Nat), (l.map f).eraseIdx j = (l.eraseIdx j).map f
  | [], _ => rfl
  | _ :: _, 0 => rfl
  | a :: r, j + 1 => by
    show f a :: (r.map f).eraseIdx j = f a :: (r.eraseIdx j).map f
    rw [map_erase f r j]
/-- whether a value is the text z -/
def isTxt (z : Str) (v : Value) : Bool := match v with
  | .str y _ => y.cps.toList == z.cps.toList
  | _ => false
theorem str_of_list {a b : Str} (h : a.cps.toList = b.cps.toList) : a = b := by
  obtain ⟨a⟩ := a
  obtain ⟨b⟩ := b
  simp at h
  rw [h]
section
variable {X : Cx}
def rRemS : V → List V → Hp → VK → Prop := fun x xs H Q => ∃ (l : Addr) (zs : List Str) (z : Str), x = .ref l ∧ xs = [.str z] ∧ H l = some (.lst (zs.map V.str)) ∧ z ∈ zs ∧ Q .non (upd H l (.lst ((zs.erase z).map V.str)))
theorem mt_removeS : MtM X "list.remove" rRemS := by
  intro pins s σ H x xs v us Q I rx rxs h
  obtain ⟨l, zs, z, rfl, rfl, hH, hz, q⟩ := h
  cases rx
  obtain ⟨u, rfl, ru⟩ := rxs.one
  obtain ⟨t, rfl⟩ := ru
  obtain ⟨sz, its, n, r, hl, e⟩ := I.lstM hH
  have hi := r.strs
  rw [List.length_map] at hl sz
  obtain ⟨j, j1, j2, j3, j4⟩ := first_str hz
  have hjl : j < its.toArray.size := by rw [List.size_toArray]; omega
  have gv : ∀ {us : List Value} {zs : List Str}, StrsAre us zs → ∀ y ∈ us, MeetsSeq.EqGives y (.str z t) (isTxt z y) := fun {us zs} hs => by
    induction hs with
    | nil => intro y hy; cases hy
    | cons a k _ ih =>
      intro y hy
      rcases List.mem_cons.mp hy with e | e
      · rw [e]; exact SeqRoads2.EqGives.str a z k t
      · exact ih y e
  refine call_meets PySem.F.slot_list_remove ⟨_, e, rfl⟩ PySem.F.entry_list_remove (PySem.F.args_list_remove_2 _ _)
    (MeetsSeq.list_remove l its.toArray n (.str z t) (isTxt z) (fun y hy => gv hi y (by simpa using hy)) j hjl ?_ ?_ (by rw [List.size_toArray]; omega)) ⟨e, ?_⟩
  · obtain ⟨tj, hjt⟩ := strs_idx hi j z j2
    obtain ⟨h1, h2⟩ := List.getElem?_eq_some_iff.mp hjt
    have e1 : its.toArray[j] = .str z tj := by simpa using h2
    rw [e1]
    exact beq_self_eq_true _
  · intro m hm hmj
    have hmn : m < zs.length := by omega
    obtain ⟨tm, hmt⟩ := strs_idx hi m _ (List.getElem?_eq_getElem hmn)
    obtain ⟨h1, h2⟩ := List.getElem?_eq_some_iff.mp hmt
    have e1 : its.toArray[m] = .str zs[m] tm := by simpa using h2
    rw [e1]
    refine beq_eq_false_iff_ne.mpr fun e2 => j3 m hmj ?_
    rw [List.getElem?_eq_getElem hmn, str_of_list e2]
  · have r2 : Vals ((zs.erase z).map V.str) (its.eraseIdx j) := by
      have w := r.eraseIdx j
      rw [map_erase, j4] at w
      exact w
    refine ⟨.non, _, I.lset (its' := its.eraseIdx j) hH e ?_ r2 ?_, rfl, q⟩
    · show its.toArray.eraseIdxIfInBounds j = (its.eraseIdx j).toArray
      rw [List.eraseIdxIfInBounds_toArray]
    · rw [List.length_map]
      have := List.length_erase_le (a := z) (l := zs)
      omega
/-! ### a text times 0 or 1 -/
def rMulS : R2 := fun x y H Q => ∃ (z : Str) (k : Bool), x = .str z ∧ y = .int (if k = true then 1 else 0) ∧ Q (.str (if k = true then z else Str.empty)) H
theorem op_mulS : OpR X (binaryOp .Mult) rMulS := by
  intro pins s σ H x y v u Q I rx ry h
  obtain ⟨z, k, rfl, rfl, q⟩ := h
  obtain ⟨t, rfl⟩ := rx
  obtain ⟨t', rfl⟩ := ry
  cases k with
  | true =>
    refine P.mul_str (by decide) (fun _ h2 => absurd h2 (by simp)) (fun _ h2 => absurd h2 (by simp)) ?_
    rw [if_neg (by decide), if_pos (by simp)]
    exact ⟨.str z, H, I.tok _, ⟨_, rfl⟩, q⟩
  | false => exact P.mul_str_none (by decide) (by decide) ⟨.str Str.empty, H, I.tok _, ⟨_, rfl⟩, q⟩
/-! ### a text unpacked -/
theorem draw_walks {prog : Program} {w : World} {A : Around} {E : Value → Shared → Prop} {I : Addr} {fp wr : List Addr} {n : Nat} {P : Nat → Value → Prop} {St : Nat → Heap → Prop} (W : Walks prog w A I fp wr n P St) :
    ∀ (k i : Nat) (s : Shared) (Q : List Value → Shared → Prop), i + k ≤ n → St i s.heap →
      (∀ vs h' tk, vs.length = k → (∀ (j : Nat) v, vs[j]? = some v → P (i + j) v) → St (i + k) h' → (∀ b o, b ∉ wr → s.heap.get? b = some o → h'.get? b = some o) → Q vs { s with heap := h', toks := tk }) →
      wpAny (model prog w) A (draw (.ref I) k) Q E s
  | 0, i, s, Q, _, st, hQ => by
    show wpAny _ _ (pure []) Q E s
    exact wpAny_pure (hQ [] s.heap s.toks rfl (fun j v e => by simp at e) st fun _ _ _ e => e)
  | k + 1, i, s, Q, hle, st, hQ => by
    show wpAny _ _ (pyNext (.ref I) >>= _) Q E s
    refine wpAny_bind (W.item i s _ _ (by omega) st fun v h1 t1 pv st1 k1 => ?_)
    refine wpAny_bind (wpAny_holding (draw_walks W k (i + 1) _ _ (by omega) st1 fun vs h2 t2 el pj st2 k2 => wpAny_pure ?_))
    refine hQ (v :: vs) h2 t2 (by rw [List.length_cons, el]) (fun j u e => ?_) (by rw [show i + (k + 1) = i + 1 + k by omega]; exact st2) fun b o hb e => k2 b o hb (k1 b o hb e)
    cases j with
    | zero =>
      have e : some v = some u := e
      cases e
      exact pv
    | succ j =>
      have := pj j u e
      rw [show i + 1 + j = i + (j + 1) by omega] at this
      exact this
/-- (a, b, ..) = a text of that length -/
def gTxt (n : Nat) (t : TGs) : TG := fun v σ H Q => ∃ z : Str, v = .str z ∧ z.cps.size = n ∧ t (z.cps.toList.map fun c => V.str ⟨#[c]⟩) σ H Q
theorem signs_vals {z : Str} {vs : List Value} (hl : vs.length = z.cps.size) (h : ∀ (j : Nat) v, vs[j]? = some v → SignAt z (0 + j) v) : Vals (z.cps.toList.map fun c => V.str ⟨#[c]⟩) vs := by
  have key : ∀ (l : List Nat) (vs : List Value), vs.length = l.length → (∀ (j : Nat) v, vs[j]? = some v → ∃ c u, l[j]? = some c ∧ v = .str ⟨#[c]⟩ u) → Vals (l.map fun c => V.str ⟨#[c]⟩) vs := by
    intro l
    induction l with
    | nil =>
      intro vs hl _
      cases vs with
      | nil => exact .nil
      | cons _ _ => simp at hl
    | cons c l ih =>
      intro vs hl h
      cases vs with
      | nil => simp at hl
      | cons v vs =>
        obtain ⟨c', u, e1, e2⟩ := h 0 v rfl
        have e1 : some c = some c' := e1
        cases e1
        exact .cons ⟨u, e2⟩ (ih vs (by simpa using hl) fun j v e => h (j + 1) v (by simpa using e))
  refine key z.cps.toList vs (by simpa using hl) fun j v e => ?_
  obtain ⟨c, u, e1, e2⟩ := h j v e
  exact ⟨c, u, by simpa using e1, e2⟩
theorem pg_txt {es : List Expr} {k : Nat} {t : TGs} {n : Nat} {pos : Pos} (hc : X.calm = true) (h : PGs X es t) (hn : (assignEach es X.env).length = n := by rfl) (hst : (assignEach es X.env).findIdx? (·.1) = none := by rfl) : PG X (.Tuple es k pos) (gTxt n t) := by
  refine ⟨fun pins s σ H v u Q I r hw => ?_⟩
  obtain ⟨z, rfl, hl, hw⟩ := hw
  obtain ⟨tk, rfl⟩ := r
  rw [assign_Tuple]
  refine wpAny_bind (wpAny_standAt ?_)
  unfold unpack
  rw [hn, hst]
  refine wpAny_bind (wpAny_holding ?_)
  have hh := I.ok.hd hc
  unfold unpackItems
  refine wpAny_bind ?_
  unfold notIterableAtAll
  refine wpAny_bind (wpAny_specialOf (typeIs_str s z tk) PySem.F.slot_str_iter.lookup (wpAny_pure ?_))
  simp only [Bool.false_eq_true, if_false]
  refine wpAny_bind (wpAny_holding (wpAny_pyIter_str fun o St hW st => ?_))
  have W := hW X.A hh
  refine wpAny_bind (wpAny_holding (draw_walks (hW X.A hh) n 0 _ _ (by omega) st fun vs h1 t1 el pj st1 k1 => ?_))
  rw [if_neg (by omega)]
  refine wpAny_bind (wpAny_holding (W.done _ _ _ (by rw [hl]; simpa using st1) fun h2 t2 k2 => ?_))
  simp only [Option.isSome_none, Bool.false_eq_true, if_false]
  refine wpAny_pure ?_
  have I1 : Inv X pins σ H { s with heap := h2, toks := t2 } := I.kept (t' := t2) fun b ob e => by
    have hb : b ∉ [s.heap.objs.size] := fun hm => absurd (Heap.lt_size e) (by rw [List.mem_singleton.mp hm]; exact Nat.lt_irrefl _)
    exact k2 b ob hb (k1 b ob hb (Heap.get?_push_of_some _ e))
  exact h.run pins _ σ H _ vs Q I1 (signs_vals (by omega) pj) hw
/-! ### enumerate of a tuple -/
def IteT (K : PySem.W.Frag) (a : Addr) : It :=
  ⟨fun i H => ∃ (xs : List V) (x : V), SqT K H a xs ∧ xs[i]? = some x, fun i H v H' => ∃ T x, v = .ref T ∧ H T = none ∧ H' = upd H T (.tup [.int (i : Nat), x]) ∧ ∀ xs, SqT K H a xs → xs[i]? = some x, fun i H => ∃ xs : List V, SqT K H a xs ∧ xs.length ≤ i⟩
theorem turn_enumT {P : Program} {w : World} {K : PySem.W.Frag} {elts : List Expr} {kk : Nat} {tpos : Pos} (a e it : Addr) (hei : e ≠ it) (hae : a ≠ e) (hai : a ≠ it) :
    Turn P w K (.Tuple elts kk tpos) (IteT K a) [e, it] e (fun i h => (∃ old, IsEnum h e it ((i : Nat) : Int) old) ∧ h.IsTupleIter it a i) where
  mem := by simp
  obj := fun i h st b hb => by
    obtain ⟨⟨old, he⟩, ⟨o, ho, hc, hd⟩⟩ := st
    have e' : b = e ∨ b = it := by simpa using hb
    rcases e' with z | z
    · rw [z]; exact ⟨_, he, fun v q => nomatch q⟩
    · rw [z]; exact ⟨o, ho, fun v q => by rw [hd] at q; cases q⟩
  keep := fun i h h' st k => let ⟨⟨old, he⟩, hi⟩ := st; ⟨⟨old, k e (by simp) _ he⟩, hi.at fun o q => k it (by simp) o q⟩
  item := by
    intro X hP hw hK hc i pins s σ H E I hf st hg
    subst hP hw hK
    obtain ⟨⟨old, he⟩, hit⟩ := st
    obtain ⟨xs, x, hq, hx⟩ := hg
    obtain ⟨its, rv, p, hz⟩ := I.tuple hq
    obtain ⟨u, hu, ru⟩ := rv.get hx
    have hel : e < s.heap.objs.size := Heap.lt_size he
    have hil : it < s.heap.objs.size := by obtain ⟨_, q, _⟩ := hit; exact Heap.lt_size q
    have hlt : i < its.toArray.size := by
      rw [List.size_toArray]
      exact (List.getElem?_eq_some_iff.mp hu).1
    have hh := I.ok.hd hc
    refine wpAny_pyNext_enum_itemD (Draws.tuple (A := X.A.in1) hh it a hai its.toArray) he ⟨hit, show s.heap.IsTuple a its.toArray from p⟩ hlt hei (by simp [hei, Ne.symm hae]) fun u' h' tk hu' ho st' hT hsz hk => ?_
    have eu : u' = u := by
      have : its.toArray[i]? = some u := by simpa using hu
      rw [this] at hu'
      exact (Option.some.inj hu').symm
    subst eu
    refine ⟨_, rfl, wpAny_letOwnedTupleGo_enum (s := { s with heap := h', toks := tk + 1 }) ho fun h'' he' sb => ?_⟩
    have hT2 : h''.get? s.heap.objs.size = some { cls := .type "tuple", data := .seq #[.int i tk, u'] } := (sb.2 _ (Nat.ne_of_gt hel)).trans hT
    have new : ObjOk X.prog X.w (upd H s.heap.objs.size (.tup [.int (i : Nat), x])) h'' s.heap.objs.size (.tup [.int (i : Nat), x]) :=
      ⟨by show 2 ≤ sizeLine; decide, [.int i tk, u'], .cons ⟨_, rfl⟩ (.cons ru .nil), ⟨_, hT2, rfl, _, rfl⟩⟩
    have I1 : Inv X pins σ (upd H s.heap.objs.size (.tup [.int (i : Nat), x])) { s with heap := h'', toks := tk + 1 } :=
      I.turnedNew (ch := [e, it]) (fun b ob hb q => (sb.2 b (fun z => hb (by simp [z]))).trans (hk b ob (fun z => hb (by simp [z])) (fun z => hb (by simp [z])) q)) hf (Nat.le_refl _) new
    refine ⟨.ref s.heap.objs.size, _, I1, rfl, ⟨_, x, rfl, I.hok.fresh (Nat.le_refl _), rfl, fun ys hy => by rw [I.tuple_inj hy hq]; exact hx⟩, ⟨⟨u', ?_⟩, st'.1.at fun o q => (sb.2 it (Ne.symm hei)).trans q⟩, fun b hb => ?_⟩
    · have e1 : ((i + 1 : Nat) : Int) = (i : Int) + 1 := by omega
      rw [e1]; exact he'
    · have hb' : b < s.heap.objs.size := by
        have e' : b = e ∨ b = it := by simpa using hb
        rcases e' with z | z
        · rw [z]; exact hel
        · rw [z]; exact hil
      rw [upd_ne (Nat.ne_of_lt hb')]
      exact (hf b hb).1
  done := by
    intro X hP hw hK hc i pins s σ H E I hf st hg
    subst hP hw hK
    obtain ⟨⟨old, he⟩, hit⟩ := st
    obtain ⟨xs, hq, hx⟩ := hg
    obtain ⟨its, rv, p, hz⟩ := I.tuple hq
    obtain ⟨f0, f1, f2, f3, f4, f5⟩ := hf it (by simp)
    have hl := rv.length
    have hh := I.ok.hd hc
    have hT : s.TypeIs (.ref e) "enumerate" := ⟨_, he, rfl⟩
    unfold pyNext
    refine wpAny_bind (wpAny_attempt (wpAny_callSpecial?_slot (name := Str.ofString "__next__") hT PySem.F.slot_enumerate_next
      (wpAny_call_entry PySem.F.slot_enumerate_next hT PySem.F.entry_enumerate_next ?_ (PySem.F.args_enumerate_next_1 _))))
    show wpAny _ _ (field (.ref e) 2 >>= _) _ _ _
    refine wpAny_bind (wpAny_field he rfl (x := .ref it) rfl ?_)
    refine wpAny_bind (wpAny_nextOf_tuple_end (A := X.A.in1) hh hit (show s.heap.IsTuple a its.toArray from p) (by simp; omega) fun h' x eb hx' => ?_)
    obtain ⟨o, ho, hcl⟩ := hx'
    refine wpAny_bind (wpAny_isInstance (T := "StopIteration") (b := true) ⟨o, ho, hcl⟩ isSubtype_stop ?_)
    exact wpAny_pure ⟨rfl, I.turned (t' := s.toks) (fun b o hb q => eb b o hb q) f0 f1 f3 f4 f5⟩
  self := fun A i s Q E st h => let ⟨⟨_, he⟩, _⟩ := st; wpAny_pyIter_enum he h

theorem meets_enum_newT {v : Value} {o : Obj} {H : Heap → Prop} (B : Begins v o H) :
    Meets (Builtin.«enumerate.__new__» ⟨[.type "enumerate", v], []⟩) (fun _ R s => H s.heap ∧
      R (.ok (.ret (.ref (s.heap.push o).objs.size))) { s with heap := (s.heap.push o).push { cls := .type "enumerate", data := .fields #[.none, .bool false, .ref s.heap.objs.size, rawInt 0, .none, .none] } }) :=
  .of_wp fun prog w A R s h => by
    obtain ⟨hp, g, d, tk, os⟩ := s
    obtain ⟨h1, h⟩ := h
    have hsub := sub_enumerate
    have go : ∀ {A' : Around} {E : Value → Shared → Prop} {Q : Value → Shared → Prop}, Q (.ref hp.objs.size) ⟨hp.push o, g, d, tk, os⟩ → wpAny (model prog w) A' (pyIter v) Q E ⟨hp, g, d, tk, os⟩ :=
      fun q => B.iter prog w _ _ ⟨hp, g, d, tk, os⟩ _ h1 q
    wp_walk using go
    refine wpAny_stack_any fun st => wpAny_pure ?_
    split
    · rename_i c _ _ _ _ _
      cases (c == Value.type "enumerate") <;> (wp_walk using go; exact ⟨_, rfl, h⟩)
    · wp_walk using go
      exact ⟨_, rfl, h⟩
theorem call_enumT {prog : Program} {w : World} {A : Around} {E : Value → Shared → Prop} {s : Shared} {t : Addr} {items : Array Value} {Q : Value → Shared → Prop} (ht : s.heap.IsTuple t items)
    (h : ∀ h', IsEnum h' (s.heap.objs.size + 1) s.heap.objs.size 0 .none → h'.IsTupleIter s.heap.objs.size t 0 → (∀ b o, s.heap.get? b = some o → h'.get? b = some o) → Q (.ref (s.heap.objs.size + 1)) { s with heap := h' }) :
    wpAny (model prog w) A (call (.type "enumerate") [.ref t]) Q E s := by
  have B := begins_tuple t items
  refine callType_new PySem.F.called_enumerate (by decide) (PySem.F.typeCall_enumerate_1 _) (PySem.F.newCall_enumerate_1 _) (fun obj => PySem.F.args_object_init_2 obj _) PySem.F.entry_enumerate_new (meets_enum_newT B) ⟨ht, ?_⟩
  have hz : (s.heap.push { cls := .type "tuple_iterator", data := .fields #[.ref t, .int 0 0] }).objs.size = s.heap.objs.size + 1 := Heap.size_push ..
  show _ ∧ _
  rw [hz]
  have he : IsEnum ((s.heap.push { cls := .type "tuple_iterator", data := .fields #[.ref t, .int 0 0] }).push { cls := .type "enumerate", data := .fields #[.none, .bool false, .ref s.heap.objs.size, rawInt 0, .none, .none] }) (s.heap.objs.size + 1) s.heap.objs.size 0 .none := by
    have q := Heap.get?_push_size (s.heap.push { cls := .type "tuple_iterator", data := .fields #[.ref t, .int 0 0] }) (o := { cls := .type "enumerate", data := .fields #[.none, .bool false, .ref s.heap.objs.size, rawInt 0, .none, .none] }) rfl
    rw [hz] at q
    exact q
  exact ⟨⟨_, he, rfl⟩, h _ he ⟨_, Heap.get?_push_of_some _ (Heap.get?_push_size _ rfl), rfl, rfl⟩ fun b o x => Heap.get?_push_of_some _ (Heap.get?_push_of_some _ x)⟩
def iEnumT (K : PySem.W.Frag) (ta : TA) : TI := fun σ H R => ta σ H fun vs H1 => ∃ a xs, vs = [.ref a] ∧ SqT K H1 a xs ∧ R (IteT K a) H1
theorem pi_enumT {e : Expr} {ta : TA} {p pos tpos : Pos} {elts : List Expr} {kk : Nat} (hg : Gl X "enumerate") (hm : X.mg "enumerate" = none) (ha : PA X [e] ta) (hs : starEach [e] X.env = [(false, eval e X.env)] := by rfl) :
    PI X (.Tuple elts kk tpos) (.Call (.Name "enumerate" p) [e] [] pos) (iEnumT X.K ta) := by
  refine ⟨fun pins s σ H R I h => ?_⟩
  refine Call_ (ld_blt I hg hm boot_enumerate (PyProof.Rows.callWith_type1 (thn (ha.run pos pins s σ H _ I h) fun us s1 ⟨vs, H1, I1, r1, q1⟩ => ?_) hs rfl))
  obtain ⟨a, xs, rfl, hq, q⟩ := q1
  obtain ⟨u, rfl, r⟩ := r1.one
  cases r
  obtain ⟨its, rv, p', hz⟩ := I1.tuple hq
  have la : a < s1.heap.objs.size := by obtain ⟨_, e, _⟩ := p'; exact Heap.lt_size e
  refine call_enumT (show s1.heap.IsTuple a its.toArray from p') fun h' he hit hk => wpAny_pyIter_enum he ?_
  have I2 : Inv X pins σ H1 { s1 with heap := h' } := I1.kept (t' := s1.toks) hk
  refine ⟨s1.heap.objs.size + 1, [s1.heap.objs.size + 1, s1.heap.objs.size], _, _, H1, rfl, I2, turn_enumT a (s1.heap.objs.size + 1) s1.heap.objs.size (Nat.succ_ne_self _) (Nat.ne_of_lt (Nat.lt_succ_of_lt la)) (Nat.ne_of_lt la), ⟨⟨.none, he⟩, hit⟩, fun b hb => ?_, q⟩
  have hle : s1.heap.objs.size ≤ b := by
    have e' : b = s1.heap.objs.size + 1 ∨ b = s1.heap.objs.size := by simpa using hb
    rcases e' with z | z
    · rw [z]; exact Nat.le_add_right _ _
    · rw [z]; exact Nat.le_refl _
  exact I1.fpOk hle (I1.hok.fresh hle)
theorem walk_enumT {K : PySem.W.Frag} {a : Addr} {xs : List V} : Walk (IteT K a) xs.length (fun H => SqT K H a xs) (YPair (fun i => some (.int (i : Nat))) (fun i => xs[i]?)) := by
  refine ⟨fun i _ hi q => ⟨xs, xs[i], q, by simp [hi]⟩, fun _ q => ⟨xs, q, Nat.le_refl _⟩, fun i H v H' _ q y => ?_⟩
  obtain ⟨T, x, h1, h2, h3, h4⟩ := y
  exact ⟨T, .int (i : Nat), x, h1, h2, h3, rfl, h4 xs q⟩
theorem walk_zipT {K : PySem.W.Frag} {a b : Addr} {xs ys : List V} {n : Nat} (hn : n = min xs.length ys.length) : Walk (RZ.ItzT K a b) n (fun H => SqT K H a xs ∧ SqT K H b ys) (YPair (fun i => xs[i]?) (fun i => ys[i]?)) := by
  subst hn
  refine ⟨fun i _ hi q => ?_, fun _ q => ⟨xs, ys, q.1, q.2, by omega⟩, fun i H v H' _ q y => ?_⟩
  · exact ⟨xs, ys, xs[i]'(by omega), ys[i]'(by omega), q.1, q.2, List.getElem?_eq_getElem _, List.getElem?_eq_getElem _⟩
  · obtain ⟨T, x, z, h1, h2, h3, h4, h5⟩ := y
    exact ⟨T, x, z, h1, h2, h3, h4 xs q.1, h5 ys q.2⟩
/-! ### dict of a tuple of pairs; of zip(list, tuple) -/
/-- pairs, as PairItems tells them -/
theorem pairs_there {pins : List (Addr × Obj)} {σ : L2.St} {H : Hp} {s : Shared} (I : Inv X pins σ H s) {ps : List Addr} {kvs : List (Key × V)} (hp : Paired (fun p kv => SqT X.K H p [kV kv.1, kv.2]) ps kvs) :
    ∃ (prs : List (Key × Value)) (qs : List (Value × Value)), KV kvs prs ∧ prs.length = ps.length ∧ qs.length = ps.length ∧ PairItems s.heap (ps.map Value.ref).toArray (fun j => ps.getD j 0) qs ∧ PairsHave (mixKind X.prog X.w) qs.length (PairRel qs) prs := by
  obtain ⟨prs, rel, hl, hpr⟩ := pairs_of I hp
  have at_ : ∀ (j : Nat) (q : Key × Value), prs[j]? = some q → ∃ u, IsTup s.heap (ps.getD j 0) #[u, q.2] ∧ keyIs q.1 u = true ∧ ps[j]? = some (ps.getD j 0) := fun j q e => by
    obtain ⟨b, u, e1, e2, e3⟩ := hpr j q e
    have : ps.getD j 0 = b := by rw [List.getD_eq_getElem?_getD, e1]; rfl
    rw [this]
    exact ⟨u, e2, e3, e1⟩
  have key : ∀ m : Nat, m ≤ prs.length → ∃ qs : List (Value × Value), qs.length = m ∧ ∀ (j : Nat) k v, qs[j]? = some (k, v) → IsTup s.heap (ps.getD j 0) #[k, v] ∧ ps[j]? = some (ps.getD j 0) ∧ ∃ q, prs[j]? = some q ∧ v = q.2 ∧ keyIs q.1 k = true := by
    intro m
    induction m with
    | zero => exact fun _ => ⟨[], rfl, fun j k v e => by simp at e⟩
    | succ m ih =>
      intro hm
      obtain ⟨qs, l, f⟩ := ih (by omega)
      obtain ⟨u, a1, a2, a3⟩ := at_ m _ (List.getElem?_eq_getElem (show m < prs.length by omega))
      refine ⟨qs ++ [(u, prs[m].2)], by simp [l], fun j k v e => ?_⟩
      rw [List.getElem?_append] at e
      split at e
      · exact f j k v e
      · have hj : j = m := by
          have := (List.getElem?_eq_some_iff.mp e).1
          simp at this
          omega
        rw [hj, l, Nat.sub_self] at e
        have e : some (u, prs[m].2) = some (k, v) := e
        cases e
        rw [hj]
        exact ⟨a1, a3, _, List.getElem?_eq_getElem (by omega), rfl, a2⟩
  obtain ⟨qs, l, f⟩ := key prs.length (Nat.le_refl _)
  refine ⟨prs, qs, rel, hl, by omega, ⟨by simp; omega, fun j k v e => ?_⟩, by omega, fun i k v e => ?_⟩
  · obtain ⟨a1, a2, _⟩ := f j k v e
    exact ⟨by rw [List.getElem?_toArray, List.getElem?_map, a2]; rfl, .inl a1⟩
  · obtain ⟨_, _, q, e1, e2, e3⟩ := f i k v e
    obtain ⟨qk, qv⟩ := q
    have e2 : v = qv := e2
    subst e2
    exact ⟨qk, e1, e3⟩
/-- a new dict of pairs (key, value) that stand in a tuple -/
theorem call_dictT (hcalm : X.calm = true) : CallR X (.type "dict") (fun xs H Q => ∃ (a : Addr) (ps : List Addr) (kvs : List (Key × V)), xs = [.ref a] ∧ H a = some (mkT ps) ∧ Paired (fun p kv => SqT X.K H p [kV kv.1, kv.2]) ps kvs ∧
    ∀ p, H p = none → Q (.ref p) (upd H p (.dK (mergeK [] kvs)))) := by
  intro pins s σ H xs us Q I r q
  obtain ⟨a, ps, kvs, rfl, hq, hp, q⟩ := q
  obtain ⟨u, rfl, rx⟩ := r.one
  cases rx
  obtain ⟨ho, hz, _⟩ := I.hok a _ hq
  rw [List.length_map] at hz
  obtain ⟨prs, qs, rel, hl, hl2, hi, hc⟩ := pairs_there I hp
  refine call_dict_pairs (PairArg.tuple a (ps.map Value.ref).toArray (fun j => ps.getD j 0) qs) (I.ok.hd hcalm) ⟨⟨_, _, ho, rfl, rfl, rfl⟩, hi⟩ hc (by omega) fun h' tk hd' k => ?_
  have hm : (s.heap.objs.size == sysModules) = false := beq_eq_false_iff_ne.mpr (Nat.ne_of_gt I.big)
  have hlen : (mergeK [] kvs).length ≤ sizeLine := by
    have l1 := length_mergeK kvs []
    have l2 := rel.length
    rw [List.length_nil] at l1
    omega
  exact ⟨.ref s.heap.objs.size, upd H s.heap.objs.size (.dK (mergeK [] kvs)), I.laid (t' := tk) (fun b o e => k b o (by simp) e) (Nat.le_refl _) (show ObjOk X.prog X.w _ _ _ (.dK (mergeK [] kvs)) from ⟨hlen, hm, merged [] prs, KV.merge rel .nil, hd'⟩), rfl, q _ (I.hok.fresh (Nat.le_refl _))⟩
/-- dict(zip(names, values)), a list and a tuple -/
def tDictZip (K : PySem.W.Frag) (ta : TA) : TE := fun σ H Q => ta σ H fun vs H1 => ∃ (a b : Addr) (ks : List Str) (ys : List V), vs = [.ref a, .ref b] ∧ SqL K H1 a (ks.map V.str) ∧ SqT K H1 b ys ∧ ks.length = ys.length ∧ ∀ p, H1 p = none → Q (.ref p) (upd H1 p (.dK (mergeK [] ((ks.map Sum.inr).zip ys))))
theorem pe_dictZip {a b : Expr} {ta : TA} {p p2 q pos : Pos} (hg : Gl X "dict") (hm : X.mg "dict" = none) (hg2 : Gl X "zip") (hm2 : X.mg "zip" = none) (ha : PA X [a, b] ta) (hc : X.calm = true := by rfl)
    (hs : starEach [a, b] X.env = (false, eval a X.env) :: starEach [b] X.env := by rfl) (hpl : (backTo q (starEach [b] X.env)).any (·.1) = false := by rfl)
    (na : starEach [.Call (.Name "zip" p2) [a, b] [] q] X.env = (false, eval (.Call (.Name "zip" p2) [a, b] [] q) X.env) :: starEach [] X.env := by rfl) :
    PE X (.Call (.Name "dict" p) [.Call (.Name "zip" p2) [a, b] [] q] [] pos) (tDictZip X.K ta) := by
  refine ⟨fun pins s σ H Q I h => ?_⟩
  refine Call_ (ld_blt I hg hm boot_dict ?_)
  refine PyProof.Rows.callWith_type1 (PyProof.Rows.args_cons ?_ na) na rfl
  refine Call_ (ld_blt I hg2 hm2 boot_zip (PyProof.Rows.callWith_type1 (thn (ha.run q pins s σ H _ I h) fun us s1 ⟨vs, H1, I1, r1, q1⟩ => ?_) hs hpl))
  obtain ⟨a', b', ks, ys, rfl, hx, hy, hl, q1⟩ := q1
  cases r1 with
  | cons r rr =>
    cases rr with
    | cons r' rr =>
      cases rr
      cases r
      cases r'
      obtain ⟨us, ru, p1, z1⟩ := I1.list hx
      obtain ⟨ws, rw', p2', z2⟩ := I1.tuple hy
      have l1 := ru.length
      have l2 := rw'.length
      rw [List.length_map] at l1 z1
      have la : a' < s1.heap.objs.size := p1.lt
      have lb : b' < s1.heap.objs.size := by obtain ⟨_, e, _⟩ := p2'; exact Heap.lt_size e
      refine zip_begins2 (begins_list a' us.toArray) (begins_tuple b' ws.toArray) p1.isList (show s1.heap.IsTuple b' ws.toArray from p2') fun h1 hz hTI hTO o1 o2 hsz k => ?_
      refine PyProof.Rows.args_nil ?_
      have m1 : ∀ c ∈ [a'], c < s1.heap.objs.size := fun c hc => by rw [List.mem_singleton.mp hc]; exact la
      have m2 : ∀ c ∈ [b'], c < s1.heap.objs.size := fun c hc => by rw [List.mem_singleton.mp hc]; exact lb
      have S := zip_sep2 m1 m2
      have hh := I1.ok.hd hc
      have P := pairArg_zip (prog := X.prog) (w := X.w) S (fun A hA => Draws.list (A := A.in1) hA s1.heap.objs.size a' (Nat.ne_of_lt la) us.toArray) (fun A hA => Draws.tuple (A := A.in1) hA (s1.heap.objs.size + 1) b' (Nat.ne_of_lt (Nat.lt_succ_of_lt lb)) ws.toArray)
        (fun h st b hb => by
          obtain ⟨⟨o, e, _⟩, ⟨o', e', _⟩⟩ := st
          rcases List.mem_cons.mp hb with z | hb
          · rw [z]; exact ⟨o, e⟩
          · rw [List.mem_singleton.mp hb]; exact ⟨o', e'⟩)
        (fun h st b hb => by
          obtain ⟨⟨o, e, _⟩, ⟨o', e', _⟩⟩ := st
          rcases List.mem_cons.mp hb with z | hb
          · rw [z]; exact ⟨o, e⟩
          · rw [List.mem_singleton.mp hb]; exact ⟨o', e'⟩)
        (fun h h' st k => ⟨st.1.at fun o e => k _ o e, st.2.at fun o e => k _ o e⟩) (fun h h' st k => ⟨st.1.at fun o e => k _ o e, st.2.at fun o e => k _ o e⟩)
      have hStr := ru.strs
      let prs : List (Key × Value) := (ks.map Sum.inr).zip ws
      have hpl' : prs.length = ks.length := by simp [prs]; omega
      refine call_dict_pairs (s := { s1 with heap := h1 }) (knd := mixKind X.prog X.w) (kvs := prs) P hh ⟨hz, hTI, ⟨_, _, hTO⟩, ⟨⟨_, o1, rfl, rfl⟩, p1.isList.at fun o e => k _ o e⟩, ⟨⟨_, o2, rfl, rfl⟩, Heap.IsTuple.at (show s1.heap.IsTuple b' ws.toArray from p2') fun o e => k _ o e⟩⟩
        ⟨by simp; omega, fun i key v ⟨e1, e2⟩ => ?_⟩ (by simp; omega) fun h' tk hd' k' => ?_
      · have e1 : us[i]? = some key := by simpa using e1
        have e2 : ws[i]? = some v := by simpa using e2
        have hi : i < ks.length := by have := (List.getElem?_eq_some_iff.mp e1).1; omega
        obtain ⟨t, et⟩ := strs_idx hStr i _ (List.getElem?_eq_getElem hi)
        rw [e1] at et
        cases et
        refine ⟨.inr ks[i], ?_, keyIs_str ks[i] t⟩
        show ((ks.map Sum.inr).zip ws)[i]? = _
        rw [List.getElem?_zip_eq_some]
        exact ⟨by rw [List.getElem?_map, List.getElem?_eq_getElem hi]; rfl, e2⟩
      · have kk : ∀ b o, s1.heap.get? b = some o → h'.get? b = some o := fun b o e => k' b o (fun hm => by
          have lt := Heap.lt_size e
          have hm : b = s1.heap.objs.size + 4 ∨ b = s1.heap.objs.size + 3 ∨ b = s1.heap.objs.size ∨ b = s1.heap.objs.size + 1 := by simpa using hm
          rcases hm with z | z | z | z <;> rw [z] at lt <;> exact absurd lt (Nat.not_lt.mpr (by omega))) (k b o e)
        have hp1 : s1.heap.objs.size ≤ h1.objs.size := by rw [hsz]; exact Nat.le_add_right _ _
        have big : (h1.objs.size == sysModules) = false := beq_eq_false_iff_ne.mpr (Nat.ne_of_gt (Nat.lt_of_lt_of_le I1.big hp1))
        have rel : ∀ (ks : List Str) (ys : List V) (ws : List Value), Vals ys ws → KV ((ks.map Sum.inr).zip ys) ((ks.map (Sum.inr (α := Int))).zip ws) := by
          intro ks
          induction ks with
          | nil => intro ys ws _; exact .nil
          | cons x ks ih =>
            intro ys ws r
            cases r with
            | nil => exact .nil
            | cons a b => exact .cons ⟨rfl, a⟩ (ih _ _ b)
        have hlen : (mergeK [] ((ks.map (Sum.inr (α := Int))).zip ys)).length ≤ sizeLine := by
          have l3 := length_mergeK ((ks.map (Sum.inr (α := Int))).zip ys) []
          have l4 : ((ks.map (Sum.inr (α := Int))).zip ys).length = ks.length := by simp; omega
          rw [List.length_nil] at l3
          omega
        exact ⟨.ref h1.objs.size, upd H1 h1.objs.size (.dK (mergeK [] ((ks.map Sum.inr).zip ys))), I1.laid (t' := tk) kk hp1 (show ObjOk X.prog X.w _ _ _ (.dK _) from ⟨hlen, big, merged [] prs, KV.merge (rel ks ys ws rw') .nil, hd'⟩), rfl, q1 _ (I1.hok.fresh hp1)⟩
end
end MW
namespace MW
open PySem PySem.Spec PyProof.Rows L2
/-! ### the text by places -/
def topS (i : Nat) : Stmt := PySem.Challenge.pw_mostrows_k33_whole_none_comes_to_less.main.body.getD i (.Pass ⟨0, 0, 0, 0⟩)
abbrev s_divisor_of : Stmt := topS 1
abbrev s_lowest : Stmt := topS 2
abbrev s_greatest : Stmt := topS 5
abbrev s_columns_of : Stmt := topS 7
abbrev s_part : Stmt := topS 8
abbrev s_over_least_parts : Stmt := topS 10
abbrev s_cover : Stmt := topS 11
abbrev s_lbox : Stmt := topS 13
abbrev s_ltake : Stmt := topS 14
abbrev s_lorder : Stmt := topS 15
abbrev s_lnames : Stmt := topS 16
abbrev s_lsome_columns : Stmt := topS 17
abbrev s_lany_tables : Stmt := topS 18
abbrev s_lear_tables : Stmt := topS 19
abbrev s_lring_tables : Stmt := topS 20
abbrev s_lquestion : Stmt := topS 21
abbrev s_lcolumns : Stmt := topS 22
abbrev s_lexponents : Stmt := topS 23
abbrev s_lcover : Stmt := topS 24
abbrev s_lfitting : Stmt := topS 25
abbrev s_lno_less : Stmt := topS 26
abbrev s_lone_right : Stmt := topS 27
abbrev s_lno_more : Stmt := topS 28
abbrev s_lsums_right : Stmt := topS 29
abbrev s_law : Stmt := topS 30
abbrev s_init : Stmt := inClass (topS 4) 0
abbrev s_entering : Stmt := inClass (topS 4) 1
abbrev s_leaving : Stmt := inClass (topS 4) 2
abbrev s_is_ahead : Stmt := inClass (topS 4) 3
abbrev s_turn : Stmt := inClass (topS 4) 4
abbrev s_value : Stmt := inClass (topS 4) 5
abbrev N_divisor_of : List Str := ["one", "other"]
theorem sc_divisor_of : FnScope N_divisor_of ["one", "other"] (defScope s_divisor_of) := ⟨rfl, rfl, rfl, by decide +kernel, rfl, by decide +kernel, by decide +kernel⟩
abbrev N_lowest : List Str := ["top", "bottom", "by"]
theorem sc_lowest : FnScope N_lowest ["top", "bottom"] (defScope s_lowest) := ⟨rfl, rfl, rfl, by decide +kernel, rfl, by decide +kernel, by decide +kernel⟩
abbrev N___init__ : List Str := ["self", "rows", "limits", "many", "k", "own", "j"]
theorem sc___init__ : FnScope N___init__ ["self", "rows", "limits"] (defScope s_init) := ⟨rfl, rfl, rfl, by decide +kernel, rfl, by decide +kernel, by decide +kernel⟩
abbrev N_entering : List Str := ["self", "j"]
theorem sc_entering : FnScope N_entering ["self"] (defScope s_entering) := ⟨rfl, rfl, rfl, by decide +kernel, rfl, by decide +kernel, by decide +kernel⟩
abbrev N_leaving : List Str := ["self", "column", "best", "k"]
theorem sc_leaving : FnScope N_leaving ["self", "column"] (defScope s_leaving) := ⟨rfl, rfl, rfl, by decide +kernel, rfl, by decide +kernel, by decide +kernel⟩
abbrev N_is_ahead : List Str := ["self", "k", "best", "column", "one", "other"]
theorem sc_is_ahead : FnScope N_is_ahead ["self", "k", "best", "column"] (defScope s_is_ahead) := ⟨rfl, rfl, rfl, by decide +kernel, rfl, by decide +kernel, by decide +kernel⟩
abbrev N_turn : List Str := ["self", "k", "column", "mark", "i", "by", "pairs", "here", "there"]
theorem sc_turn : FnScope N_turn ["self", "k", "column"] (defScope s_turn) := ⟨rfl, rfl, rfl, by decide +kernel, rfl, by decide +kernel, by decide +kernel⟩
abbrev N_value : List Str := ["self", "thing"]
theorem sc_value : FnScope N_value ["self", "thing"] (defScope s_value) := ⟨rfl, rfl, rfl, by decide +kernel, rfl, by decide +kernel, by decide +kernel⟩
abbrev N_greatest : List Str := ["rows", "limits", "tableau", "column", "numbers", "shares", "j"]
theorem sc_greatest : FnScope N_greatest ["rows", "limits"] (defScope s_greatest) := ⟨rfl, rfl, rfl, by decide +kernel, rfl, by decide +kernel, by decide +kernel⟩
abbrev N_columns_of : List Str := ["question", "found", "name", "columns", "column"]
theorem sc_columns_of : FnScope N_columns_of ["question"] (defScope s_columns_of) := ⟨rfl, rfl, rfl, by decide +kernel, rfl, by decide +kernel, by decide +kernel⟩
abbrev N_part : List Str := ["question", "tables", "one"]
theorem sc_part : FnScope N_part ["question", "tables"] (defScope s_part) := ⟨rfl, rfl, rfl, by decide +kernel, rfl, by decide +kernel, by decide +kernel⟩
abbrev N_over_least_parts : List Str := ["bottom", "numbers", "by", "number"]
theorem sc_over_least_parts : FnScope N_over_least_parts ["bottom", "numbers"] (defScope s_over_least_parts) := ⟨rfl, rfl, rfl, by decide +kernel, rfl, by decide +kernel, by decide +kernel⟩
abbrev N_cover : List Str := ["question", "exponents", "columns", "rows", "bottom", "top", "numbers", "shares", "T", "own", "column"]
theorem sc_cover : FnScope N_cover ["question", "exponents"] (defScope s_cover) := ⟨rfl, rfl, rfl, by decide +kernel, rfl, by decide +kernel, by decide +kernel⟩
abbrev N_lbox : List Str := ["_law_script", "_law_k", "_law_cell", "_law_seed"]
theorem sc_lbox : FnScope N_lbox ["_law_script", "_law_k"] (defScope s_lbox) := ⟨rfl, rfl, rfl, by decide +kernel, rfl, by decide +kernel, by decide +kernel⟩
abbrev N_ltake : List Str := ["_law_box_here", "_law_many", "_law_digit", "_law_one"]
theorem sc_ltake : FnScope N_ltake ["_law_box_here", "_law_many"] (defScope s_ltake) := ⟨rfl, rfl, rfl, by decide +kernel, rfl, by decide +kernel, by decide +kernel⟩
abbrev N_lorder : List Str := ["_law_box_here", "_law_things", "_law_left", "_law_found"]
theorem sc_lorder : FnScope N_lorder ["_law_box_here", "_law_things"] (defScope s_lorder) := ⟨rfl, rfl, rfl, by decide +kernel, rfl, by decide +kernel, by decide +kernel⟩
abbrev N_lnames : List Str := ["_law_box_here", "_law_many", "_law_letters", "_law_k", "_law_stem", "_law_at", "_law_first", "_law_form", "_law_x", "_law_y", "_law_z", "_law_some", "_law_found", "_law_word", "_law_own"]
theorem sc_lnames : FnScope N_lnames ["_law_box_here", "_law_many"] (defScope s_lnames) := ⟨rfl, rfl, rfl, by decide +kernel, rfl, by decide +kernel, by decide +kernel⟩
abbrev N_lsome_columns : List Str := ["_law_box_here", "_law_names_here", "_law_many"]
theorem sc_lsome_columns : FnScope N_lsome_columns ["_law_box_here", "_law_names_here", "_law_many"] (defScope s_lsome_columns) := ⟨rfl, rfl, rfl, by decide +kernel, rfl, by decide +kernel, by decide +kernel⟩
abbrev N_lany_tables : List Str := ["_law_box_here", "_law_names_here", "_law_pool", "_law_found", "_law_k"]
theorem sc_lany_tables : FnScope N_lany_tables ["_law_box_here", "_law_names_here"] (defScope s_lany_tables) := ⟨rfl, rfl, rfl, by decide +kernel, rfl, by decide +kernel, by decide +kernel⟩
abbrev N_lear_tables : List Str := ["_law_box_here", "_law_names_here", "_law_left", "_law_found", "_law_k", "_law_own", "_law_one", "_law_j"]
theorem sc_lear_tables : FnScope N_lear_tables ["_law_box_here", "_law_names_here"] (defScope s_lear_tables) := ⟨rfl, rfl, rfl, by decide +kernel, rfl, by decide +kernel, by decide +kernel⟩
abbrev N_lring_tables : List Str := ["_law_box_here", "_law_names_here", "_law_many", "_law_ring", "_law_sets", "_law_one", "_law_own", "_law_k", "_law_column"]
theorem sc_lring_tables : FnScope N_lring_tables ["_law_box_here", "_law_names_here"] (defScope s_lring_tables) := ⟨rfl, rfl, rfl, by decide +kernel, rfl, by decide +kernel, by decide +kernel⟩
abbrev N_lquestion : List Str := ["_law_box_here", "_law_kind", "_law_columns_here", "_law_tables", "_law_way", "_law_sets"]
theorem sc_lquestion : FnScope N_lquestion ["_law_box_here", "_law_kind"] (defScope s_lquestion) := ⟨rfl, rfl, rfl, by decide +kernel, rfl, by decide +kernel, by decide +kernel⟩
abbrev N_lcolumns : List Str := ["_law_question_here", "_law_found", "_law_kt", "_law_own", "_law_column"]
theorem sc_lcolumns : FnScope N_lcolumns ["_law_question_here"] (defScope s_lcolumns) := ⟨rfl, rfl, rfl, by decide +kernel, rfl, by decide +kernel, by decide +kernel⟩
abbrev N_lexponents : List Str := ["_law_box_here", "_law_question_here", "_law_wide", "_law_table"]
theorem sc_lexponents : FnScope N_lexponents ["_law_box_here", "_law_question_here"] (defScope s_lexponents) := ⟨rfl, rfl, rfl, by decide +kernel, rfl, by decide +kernel, by decide +kernel⟩
abbrev N_lcover : List Str := ["_law_box_here", "_law_question_here", "_law_parts", "_law_numbers", "_law_column", "_law_some", "_law_lack", "_law_at", "_law_table", "_law_k", "_law_kt", "_law_own"]
theorem sc_lcover : FnScope N_lcover ["_law_box_here", "_law_question_here"] (defScope s_lcover) := ⟨rfl, rfl, rfl, by decide +kernel, rfl, by decide +kernel, by decide +kernel⟩
abbrev N_lfitting : List Str := ["_law_box_here", "_law_question_here", "_law_exponents_here", "_law_columns_here", "_law_parts", "_law_column", "_law_known", "_law_kt", "_law_own", "_law_exponent", "_law_more", "_law_less"]
theorem sc_lfitting : FnScope N_lfitting ["_law_box_here", "_law_question_here", "_law_exponents_here"] (defScope s_lfitting) := ⟨rfl, rfl, rfl, by decide +kernel, rfl, by decide +kernel, by decide +kernel⟩
abbrev N_lno_less : List Str := ["_law_price", "_law_parts", "_law_much"]
theorem sc_lno_less : FnScope N_lno_less ["_law_price", "_law_parts", "_law_much"] (defScope s_lno_less) := ⟨rfl, rfl, rfl, by decide +kernel, rfl, by decide +kernel, by decide +kernel⟩
abbrev N_lone_right : List Str := ["_law_box_here", "_law_question_here", "_law_exponents_here", "_law_price", "_law_parts", "_law_numbers", "_law_much", "_law_number", "_law_exponent"]
theorem sc_lone_right : FnScope N_lone_right ["_law_box_here", "_law_question_here", "_law_exponents_here", "_law_price"] (defScope s_lone_right) := ⟨rfl, rfl, rfl, by decide +kernel, rfl, by decide +kernel, by decide +kernel⟩
abbrev N_lno_more : List Str := ["_law_one", "_law_other"]
theorem sc_lno_more : FnScope N_lno_more ["_law_one", "_law_other"] (defScope s_lno_more) := ⟨rfl, rfl, rfl, by decide +kernel, rfl, by decide +kernel, by decide +kernel⟩
abbrev N_lsums_right : List Str := ["_law_box_here", "_law_question_here", "_law_small", "_law_price", "_law_times", "_law_found", "_law_others", "_law_other", "_law_total", "_law_least", "_law_table", "_law_exponent", "_law_one", "_law_two"]
theorem sc_lsums_right : FnScope N_lsums_right ["_law_box_here", "_law_question_here"] (defScope s_lsums_right) := ⟨rfl, rfl, rfl, by decide +kernel, rfl, by decide +kernel, by decide +kernel⟩
abbrev N_law : List Str := ["_law_script", "_law_box_here", "_law_question_here", "_law_exponents_here", "_law_price", "_law_k", "_law_columns_here", "_law_own", "_law_name", "_law_some", "_law_less", "_law_known", "_law_lesser", "_law_word", "_law_kt"]
theorem sc_law : FnScope N_law ["_law_script"] (defScope s_law) := ⟨rfl, rfl, rfl, by decide +kernel, rfl, by decide +kernel, by decide +kernel⟩
/-! ### what the module's names hold -/
/-- the built-ins keep their names -/
structure Bl (mg : Str → Option Value) : Prop where
  len : mg "len" = none
  range : mg "range" = none
  sum : mg "sum" = none
  tuple : mg "tuple" = none
  list : mg "list" = none
  int : mg "int" = none
  min : mg "min" = none
  max : mg "max" = none
  zip : mg "zip" = none
  dict : mg "dict" = none
  enumerate : mg "enumerate" = none
  abs : mg "abs" = none
/-- a def that may be called by its name -/
structure Cal (P : Program) (w : World) (K : PySem.W.Frag) (mg : Str → Option Value) (base : Heap) (k : Nat) (x : Str) (ps : List Str) (sp : Sp) : Prop where
  ex : ∃ (f : Addr) (fd : FuncData), FnOk P w K mg base CX0 k f fd ps sp ∧ mg x = some (.ref f) ∧ PySem.W.keepIn K (.ref f) = true ∧ Binds K fd ps []
theorem pe_cl {X : Cx} {x : Str} {k j : Nat} {ps : List Str} {sp : Sp} {e : Expr} {es : List Expr} {t : TA} {p pos : Pos} (C : Cal X.prog X.w X.K X.mg X.base k x ps sp) (hr : Room j X.A) (hk : k ≤ j) (ha : PA X (e :: es) t) (hg : Gl X x := by rfl)
    (hdb : (x == ("__debug__" : Str)) = false := by decide) (he : starEach (e :: es) X.env = (false, eval e X.env) :: starEach es X.env := by rfl) (hpl : (backTo pos (starEach es X.env)).any (·.1) = false := by rfl) :
    PE X (.Call (.Name x p) (e :: es) [] pos) (tCall sp [] E0 t) := by
  obtain ⟨f, fd, G, g, kp, b⟩ := C.ex
  exact pe_call G (hr.mono hk) hg g kp b .nil pass0 ha hdb he hpl
/-- the class -/
structure TabC (K : PySem.W.Frag) (C : Addr) : Prop where
  cl : Cls K C
  rows : NoAttr K C "rows"
  basis : NoAttr K C "basis"
  wide : NoAttr K C "wide"
  bottom : NoAttr K C "bottom"
/-- a method of the class -/
structure CalM (P : Program) (w : World) (K : PySem.W.Frag) (mg : Str → Option Value) (base : Heap) (C : Addr) (k : Nat) (m : Str) (f : Addr) (fd : FuncData) (ps : List Str) (sp : Sp) : Prop where
  m : Meth K C m f
  G : FnOk P w K mg base CX0 k f fd ps sp
  b : Binds K fd ps []
structure CalI (P : Program) (w : World) (K : PySem.W.Frag) (mg : Str → Option Value) (base : Heap) (C : Addr) (k : Nat) (f : Addr) (fd : FuncData) (ps : List Str) (sp : Sp) : Prop where
  M : Mk K C f
  G : FnOk P w K mg base CX0 k f fd ps sp
  mgC : mg "Tableau" = some (.ref C)
  b : Binds K fd ps []
/-! ### heaps -/
theorem same_upd {H : Hp} {p : Addr} {o : HO} (h : H p = none) : Same H (upd H p o) := fun b x e => by
  rw [upd_ne (ne_of_none e h)]
  exact e
theorem Same.seqT {K : PySem.W.Frag} {H H' : Hp} {a : Addr} {xs : List V} (e : Same H H') (h : SqT K H a xs) : SqT K H' a xs := by
  rcases h with (h | ⟨o, h⟩) | h
  · exact .inl (.inl (e _ _ h))
  · exact .inl (.inr ⟨o, e _ _ h⟩)
  · exact .inr h
/-- all but what stands at a is as it was -/
def SameB (a : Addr) (H H' : Hp) : Prop := ∀ b o, b ≠ a → H b = some o → H' b = some o
theorem SameB.refl {a : Addr} {H : Hp} : SameB a H H := fun _ _ _ h => h
theorem SameB.trans {a : Addr} {H H1 H2 : Hp} (x : SameB a H H1) (y : SameB a H1 H2) : SameB a H H2 := fun c o n h => y c o n (x c o n h)
theorem SameB.of {a : Addr} {H H' : Hp} (x : Same H H') : SameB a H H' := fun b o _ h => x b o h
theorem SameB.updS {a : Addr} {H : Hp} {o : HO} : SameB a H (upd H a o) := fun b u n h => by rw [upd_ne n]; exact h
theorem SameB.new {a p : Addr} {H : Hp} {o : HO} (h : H p = none) : SameB a H (L2.upd H p o) := .of (same_upd h)
/-! ### rules within a comprehension: the written part by its own name -/
section
variable {X : Cx} {K : PySem.W.Frag}
theorem pe_fldK {e : Expr} {ta : TE} {f : Str} {pos : Pos} (hK : X.K = K) (he : PE X e ta) (hb : attributeBase e f X.env (eval e X.env) = eval e X.env) : PE X (.Attribute e f pos) (tFld K ta f) := hK ▸ pe_fld he hb
theorem pi_tupK {tg l : Expr} {tl : TE} (hK : X.K = K) (he : PE X l tl) : PI X tg l (iTup K tl) := hK ▸ pi_tup he
theorem pi_listK {tg l : Expr} {tl : TE} (hK : X.K = K) (he : PE X l tl) : PI X tg l (iList K tl) := hK ▸ pi_list he
theorem op_in_seqK (hK : X.K = K) : OpR X (compareOp .In) (rIn K false) := hK ▸ op_in_seq
theorem op_notIn_seqK (hK : X.K = K) : OpR X (compareOp .NotIn) (rIn K true) := hK ▸ op_notIn_seq
theorem ix_listK (hK : X.K = K) : IxR X (rIxL K) := hK ▸ ix_list
theorem ix_tupK (hK : X.K = K) : IxR X (rIxT K) := hK ▸ ix_tup
theorem pg_tupK {es : List Expr} {k : Nat} {t : TGs} {n : Nat} {pos : Pos} (hK : X.K = K) (hc : X.calm = true) (h : PGs X es t) (hn : (assignEach es X.env).length = n := by rfl) (hst : (assignEach es X.env).findIdx? (·.1) = none := by rfl) :
    PG X (.Tuple es k pos) (gTup K n t) := hK ▸ pg_tup hc h hn hst
def rTupOf (K : PySem.W.Frag) : List V → Hp → VK → Prop := fun xs H Q => ∃ p ys, xs = [.ref p] ∧ ((SqL K H p ys ∧ ∀ l, H l = none → Q (.ref l) (L2.upd H l (.tup ys))) ∨ (SqT K H p ys ∧ Q (.ref p) H))
def rLstOf (K : PySem.W.Frag) : List V → Hp → VK → Prop := fun xs H Q => ∃ p ys, xs = [.ref p] ∧ (SqL K H p ys ∨ SqT K H p ys) ∧ ∀ l, H l = none → Q (.ref l) (L2.upd H l (.lst ys))
theorem call_tuple_ofK (hK : X.K = K) : CallR X (.type "tuple") (rTupOf K) := hK ▸ call_tuple_of
theorem call_list_ofK (hK : X.K = K) : CallR X (.type "list") (rLstOf K) := hK ▸ call_list_of
def rDictT (K : PySem.W.Frag) : List V → Hp → VK → Prop := fun xs H Q => ∃ (a : Addr) (ps : List Addr) (kvs : List (Key × V)), xs = [.ref a] ∧ H a = some (mkT ps) ∧ Paired (fun p kv => SqT K H p [kV kv.1, kv.2]) ps kvs ∧
    ∀ p, H p = none → Q (.ref p) (L2.upd H p (.dK (mergeK [] kvs)))
theorem call_dictTK (hK : X.K = K) (hc : X.calm = true) : CallR X (.type "dict") (rDictT K) := hK ▸ call_dictT hc
end

end MW
namespace MW
open PySem PySem.Spec PyProof.Rows L2
/-! ### the box of draws; small defs -/
def BoxAt (H : Hp) (a : Addr) (c s : Int) : Prop := H a = some (.lst [.int c, .int s])
def spTake : Sp := fun vs H Q _ => ∃ (a : Addr) (m c s : Int), vs = [.ref a, .int m] ∧ BoxAt H a c s ∧ 0 < m ∧ m < 1000 ∧ ∀ (d : Nat) (c' s' : Int), (d : Int) < m → Q (.int d) (upd H a (.lst [.int c', .int s']))
section
variable {P : Program} {w : World} {K : PySem.W.Frag} {mg : Str → Option Value} {base : Heap}
theorem ok_ltake {f : Addr} {fd : FuncData} (F : Fun K "_law_take" "_law_take" s_ltake f fd) (T : Bl mg) : FnOk P w K mg base CX0 1 f fd ["_law_box_here", "_law_many"] spTake := by
  refine F.ok sc_ltake (fun vs H Q E h => ?_) (fun cdv A outer s H vs Q E hr h => ?_)
  · obtain ⟨a, m, c, z, rfl, _⟩ := h
    rfl
  · obtain ⟨a, m, c, z, rfl, hb, m0, m1, q⟩ := h
    have q' : ∀ e c' z' : Int, Q (.int (e % m)) (upd H a (.lst [.int c', .int z'])) := fun e c' z' => by
      have h := q (e % m).toNat c' z'
      rw [Int.toNat_of_nonneg (Int.emod_nonneg _ (by omega))] at h
      exact h (Int.emod_lt_of_pos _ m0)
    refine ⟨_, (pss_cons (ps_if (pt_cmpR op_gt (pe_ix ix_list (pv 0) pe_int (fun _ _ => rfl)) pe_int (nomark _)) (pss_cons (ps_set (i := 2) sc_ltake.nd rfl (Or.inl rfl) (pe_op op_mod (pe_ix ix_list (pv 0) pe_int (fun _ _ => rfl)) (pv 1)))
      (pss_cons (ps_asg (pe_op op_fdiv (pe_ix ix_list (pv 0) pe_int (fun _ _ => rfl)) (pv 1)) (pg_sub (pv 0) pe_int set_list))
      (pss_one (ps_ret (pv 2))))) pss_nil)
      (pss_cons (ps_set (i := 3) sc_ltake.nd rfl (Or.inl rfl) (pe_op op_mod (pe_op op_mul (pe_ix ix_list (pv 0) pe_int (fun _ _ => rfl)) pe_int) pe_int))
      (pss_cons (ps_asg (pe_op op_add (pe_op op_mod (pe_op op_add (pe_op op_mul (pv 3) pe_int) pe_int) pe_int) pe_int) (pg_sub (pv 0) pe_int set_list))
      (pss_one (ps_ret (pe_op op_mod (pe_op op_fdiv (pe_op op_add (pe_op op_mul (pv 3) pe_int) (pe_ix ix_list (pv 0) pe_int (fun _ _ => rfl))) pe_int) (pv 1))))))), ?_⟩
    have hb' : H a = some (.lst [.int c, .int z]) := hb
    refine ⟨_, rfl, a, _, 0, _, rfl, rfl, SqL.of hb', atI_nat (j := 0) rfl, _, _, rfl, rfl, _, rfl, ite2 (fun e => ?_) (fun e => ?_)⟩
    · refine ⟨_, rfl, a, _, 0, _, rfl, rfl, SqL.of hb', atI_nat (j := 0) rfl, _, rfl, _, _, rfl, rfl, m0, ?_⟩
      refine ⟨_, rfl, a, _, 0, _, rfl, rfl, SqL.of hb', atI_nat (j := 0) rfl, _, rfl, _, _, rfl, rfl, ⟨m0, by omega⟩, _, rfl, a, _, 0, 0, rfl, rfl, hb', rfl, _, rfl, ?_⟩
      exact q' c (c / m) z
    · refine ⟨_, rfl, a, _, 1, _, rfl, rfl, SqL.of hb', atI_nat (j := 1) rfl, _, _, rfl, rfl, .inr ⟨by decide, by decide⟩, _, _, rfl, rfl, (show (0 : Int) < 2147483647 by decide), ?_⟩
      refine ⟨_, rfl, _, _, rfl, rfl, .inr ⟨by decide, by decide⟩, _, _, rfl, rfl, _, _, rfl, rfl, (show (0 : Int) < 2147483629 by decide), _, _, rfl, rfl, _, rfl, a, _, 1, 1, rfl, rfl, hb', rfl, ?_⟩
      refine ⟨_, rfl, _, _, rfl, rfl, .inr ⟨by decide, by decide⟩, _, rfl, a, _, 1, _, rfl, rfl, SqL.of upd_same, atI_nat (j := 1) rfl, _, _, rfl, rfl, _, _, rfl, rfl, ⟨by decide, by decide⟩, _, rfl, _, _, rfl, rfl, m0, ?_⟩
      exact q' _ _ _
def spBox (K : PySem.W.Frag) : Sp := fun vs H Q _ => ∃ (a : Addr) (ns : List Int) (k : Nat), vs = [.ref a, .int (k : Int)] ∧ SqL K H a (ns.map V.int) ∧ ∀ (p : Addr) (c s : Int), H p = none → Q (.ref p) (upd H p (.lst [.int c, .int s]))
theorem int_at {ns : List Int} {i : Nat} (h : i < ns.length) : (ns.map V.int)[i]? = some (.int ns[i]) := by
  rw [List.getElem?_map, List.getElem?_eq_getElem h]
  rfl
theorem ok_lbox {f : Addr} {fd : FuncData} (F : Fun K "_law_box" "_law_box" s_lbox f fd) (T : Bl mg) : FnOk P w K mg base CX0 1 f fd ["_law_script", "_law_k"] (spBox K) := by
  refine F.ok sc_lbox (fun vs H Q E h => ?_) (fun cdv A outer s H vs Q E hr h => ?_)
  · obtain ⟨a, ns, k, rfl, _⟩ := h
    rfl
  · obtain ⟨a, ns, k, rfl, hS, q⟩ := h
    refine ⟨_, (pss_cons (ps_set (i := 2) sc_lbox.nd rfl (Or.inl rfl) (pe_op op_add (pe_op op_mul pe_int (pv 1)) pe_int))
      (Evl.pss_cut (ps_if (pt_cmpR op_lt (pv 1) (pe_callB call_len_seq (by rfl) T.len boot_len (pa_cons (pv 0) pa_nil)) (nomark _)) (pss_one (ps_set (i := 2) sc_lbox.nd rfl (Or.inl rfl) (pe_ix ix_list (pv 0) (pv 1) (fun _ _ => rfl)))) (pss_one (ps_if (pt_cmpR op_gt (pe_callB call_len_seq (by rfl) T.len boot_len (pa_cons (pv 0) pa_nil)) pe_int (nomark _)) (pss_one (ps_set (i := 2) sc_lbox.nd rfl (Or.inl rfl) (pe_op op_add (pv 2) (pe_op op_mul (pe_op op_mod (pe_ix ix_list (pv 0) (pe_op op_mod (pv 1) (pe_callB call_len_seq (by rfl) T.len boot_len (pa_cons (pv 0) pa_nil))) (fun _ _ => rfl)) pe_int) pe_int)))) pss_nil)))
      (pss_cons (ps_set (i := 3) sc_lbox.nd rfl (Or.inl rfl) (pe_op op_add (pe_op op_mod (pe_op op_add (pe_op op_mul (pe_op op_mod (pv 2) pe_int) pe_int) (pe_op op_mul pe_int (pv 1))) pe_int) pe_int))
      (pss_one (ps_ret (pe_lst (pa_cons (pe_op op_mul (pv 2) (pe_callTy call_int1 (by rfl) T.int boot_int (pa_cons (pe_cmpR op_ge (pv 2) (pe_op op_pow pe_int pe_int) (nomark _)) pa_nil))) (pa_cons (pv 3) pa_nil)))))))), ?_⟩
    refine ⟨_, rfl, _, _, rfl, rfl, .inl ⟨by decide, by decide⟩, _, _, rfl, rfl, ?_⟩
    refine ⟨fun σ' H' => ∃ c : Int, σ' = [some (.ref a), some (.int (k : Int)), some (.int c), none] ∧ H' = H, ?_, fun σ' H' hm => ?_⟩
    · refine ⟨_, rfl, _, rfl, a, _, rfl, .inl hS, _, _, rfl, rfl, _, rfl, ite2 (fun e => ?_) (fun e => ?_)⟩
      · have hk : k < ns.length := by
          have := of_decide_eq_true e
          rw [List.length_map] at this
          omega
        exact ⟨_, rfl, _, rfl, a, _, _, _, rfl, rfl, hS, atI_nat (int_at hk), _, rfl, rfl⟩
      · refine ⟨_, rfl, a, _, rfl, .inl hS, _, _, rfl, rfl, _, rfl, ite2 (fun e2 => ?_) (fun e2 => ?_)⟩
        · have hn : 0 < ns.length := by
            have := of_decide_eq_true e2
            rw [List.length_map] at this
            omega
          have hl : (0 : Int) < ((ns.map V.int).length : Int) := by rw [List.length_map]; omega
          have hm : k % ns.length < ns.length := Nat.mod_lt _ hn
          have ei : (k : Int) % ((ns.map V.int).length : Int) = ((k % ns.length : Nat) : Int) := by rw [List.length_map, Int.natCast_emod]
          refine ⟨_, rfl, _, rfl, _, rfl, _, rfl, a, _, rfl, .inl hS, _, _, rfl, rfl, hl, a, _, _, .int (ns[k % ns.length]), rfl, rfl, hS, (by rw [ei]; exact atI_nat (int_at hm)), ?_⟩
          exact ⟨_, _, rfl, rfl, (show (0 : Int) < 2147483629 by decide), _, _, rfl, rfl, .inr ⟨by decide, by decide⟩, _, _, rfl, rfl, _, rfl, rfl⟩
        · exact ⟨_, rfl, rfl⟩
    · obtain ⟨c, rfl, rfl⟩ := hm
      refine ⟨_, rfl, _, _, rfl, rfl, (show (0 : Int) < 2147483629 by decide), _, _, rfl, rfl, .inr ⟨by decide, by decide⟩, _, rfl, _, _, rfl, rfl, .inl ⟨by decide, by decide⟩, _, _, rfl, rfl, _, _, rfl, rfl, (show (0 : Int) < 2147483629 by decide), _, _, rfl, rfl, ?_⟩
      refine ⟨_, rfl, _, rfl, _, _, rfl, rfl, ⟨by decide, by decide, by decide⟩, _, _, rfl, rfl, .inr ⟨_, rfl, ?_⟩⟩
      exact ⟨_, _, rfl, rfl, .inr (by split <;> constructor <;> decide), _, rfl, by show 2 ≤ sizeLine; decide, fun p hp => q p _ _ hp⟩
end
/-! ### helpers: lists, heaps -/
theorem SameB.put {a l : Addr} {H H1 : Hp} {o : HO} (x : SameB a H H1) (hl : H l = none) : SameB a H (upd H1 l o) := fun b u n e => by
  rw [upd_ne (ne_of_none e hl)]
  exact x b u n e
theorem SameB.putA {a : Addr} {H H1 : Hp} {o : HO} (x : SameB a H H1) : SameB a H (upd H1 a o) := fun b u n e => by
  rw [upd_ne n]
  exact x b u n e
theorem SameB.seqL {K : PySem.W.Frag} {a t : Addr} {H H' : Hp} {xs : List V} (e : SameB a H H') (n : t ≠ a) (h : SqL K H t xs) : SqL K H' t xs := by
  rcases h with (h | ⟨o, h⟩) | h
  · exact .inl (.inl (e _ _ n h))
  · exact .inl (.inr ⟨o, e _ _ n h⟩)
  · exact .inr h
theorem SameB.seqT {K : PySem.W.Frag} {a t : Addr} {H H' : Hp} {xs : List V} (e : SameB a H H') (n : t ≠ a) (h : SqT K H t xs) : SqT K H' t xs := by
  rcases h with (h | ⟨o, h⟩) | h
  · exact .inl (.inl (e _ _ n h))
  · exact .inl (.inr ⟨o, e _ _ n h⟩)
  · exact .inr h
theorem walk_r0 {n : Nat} : Walk (Itr 0 n) n (fun _ => True) (YFn fun i => .int ((i : Nat) : Int)) :=
  walk_range.mono (fun _ h => h) fun i H x H' _ _ ⟨h1, h2⟩ => ⟨h1, h2.trans (congrArg V.int (Int.zero_add _))⟩
theorem newE {H : Hp} {p l : Addr} {o : HO} (h : upd H p o l = none) : l ≠ p ∧ H l = none := by
  have n : l ≠ p := fun e => by
    rw [e, upd_same] at h
    cases h
  rw [upd_ne n] at h
  exact ⟨n, h⟩
theorem SameB.nw {a l : Addr} {H H1 : Hp} {o : HO} (x : SameB a H H1) (hl : H1 l = none) : SameB a H (upd H1 l o) := fun b u n e => by
  have h := x b u n e
  rw [upd_ne (ne_of_none h hl)]
  exact h
theorem BoxAt.nw {a l : Addr} {H : Hp} {c s : Int} {o : HO} (h : BoxAt H a c s) (hl : H l = none) : BoxAt (upd H l o) a c s := by
  show _ = _
  rw [upd_ne (ne_of_none h hl)]
  exact h
theorem BoxAt.set {a : Addr} {H : Hp} {c s : Int} : BoxAt (upd H a (.lst [.int c, .int s])) a c s := upd_same
theorem BoxAt.ne {a l : Addr} {H : Hp} {c s : Int} (h : BoxAt H a c s) (hl : H l = none) : l ≠ a := (ne_of_none h hl).symm
theorem BoxAt.put {a l : Addr} {H : Hp} {c s : Int} {o : HO} (h : BoxAt H a c s) (n : l ≠ a) : BoxAt (upd H l o) a c s := by
  show _ = _
  rw [upd_ne n.symm]
  exact h
theorem nwS {p l : Addr} {H : Hp} {o u : HO} (h : H p = some u) (hl : H l = none) : upd H l o p = some u := by
  rw [upd_ne (ne_of_none h hl)]
  exact h
theorem setS {p a : Addr} {H : Hp} {o u : HO} (h : H p = some u) (n : p ≠ a) : upd H a o p = some u := by
  rw [upd_ne n]
  exact h
theorem SameB.back {a : Addr} {H H' : Hp} (x : SameB a H H') {l : Addr} (n : l ≠ a) (h : H' l = none) : H l = none := by
  cases q : H l with
  | none => rfl
  | some o => rw [x l o n q] at h; cases h
theorem SameB.old {a l : Addr} {H H' : Hp} {c s : Int} (x : SameB a H H') (hb : BoxAt H' a c s) (h : H' l = none) : H l = none := x.back (hb.ne h) h
theorem perm_map_back {α β : Type} (f : α → β) {l1 l2 : List β} (p : l1.Perm l2) : ∀ xs : List α, l2 = xs.map f → ∃ zs : List α, zs.Perm xs ∧ l1 = zs.map f := by
  induction p with
  | nil => exact fun xs e => ⟨xs, .refl _, e⟩
  | cons x _ ih =>
    intro xs e
    cases xs with
    | nil => cases e
    | cons y xs =>
      rw [List.map_cons] at e
      injection e with e1 e2
      obtain ⟨zs, q, e3⟩ := ih xs e2
      exact ⟨y :: zs, q.cons y, by rw [List.map_cons, e1, e3]⟩
  | swap x y l =>
    intro xs e
    cases xs with
    | nil => cases e
    | cons a xs =>
      cases xs with
      | nil => simp at e
      | cons b xs =>
        rw [List.map_cons, List.map_cons] at e
        injection e with e1 e2
        injection e2 with e2 e3
        exact ⟨b :: a :: xs, List.Perm.swap .., by rw [List.map_cons, List.map_cons, e1, e2, e3]⟩
  | trans _ _ i1 i2 =>
    intro xs e
    obtain ⟨zs, q, e1⟩ := i2 xs e
    obtain ⟨ws, q2, e2⟩ := i1 zs e1
    exact ⟨ws, q2.trans q, e2⟩
theorem erase_perm {α : Type} {ls : List α} {k : Nat} {y : α} (h : ls[k]? = some y) : (y :: ls.eraseIdx k).Perm ls := by
  obtain ⟨hk, e⟩ := List.getElem?_eq_some_iff.mp h
  have e1 : ls.eraseIdx k = ls.take k ++ ls.drop (k + 1) := List.eraseIdx_eq_take_drop_succ ls k
  have e2 : ls = ls.take k ++ y :: ls.drop (k + 1) := by
    rw [← e, ← List.drop_eq_getElem_cons hk, List.take_append_drop]
  rw [e1]
  conv => rhs; rw [e2]
  exact List.perm_middle.symm
theorem seq_at {d : Int} {n : Nat} (h0 : 0 ≤ d) (h1 : d < n) : seqIndex? d n = some d.toNat := by
  have : ixN n d = some d.toNat := by
    unfold ixN
    rw [if_pos h0, if_pos h1]
  exact (ixN_seq this).1
theorem ixn {n d : Nat} (h : d < n) : ixN n ((d : Nat) : Int) = some d := by
  unfold ixN
  rw [if_pos (by omega), if_pos (by omega)]
  simp
theorem cut_take (xs : List V) (m : Nat) : cutV xs none (some (m : Int)) = xs.take m := by
  unfold cutV
  rw [HT.sIx_none, HT.sIx_nat, List.drop_zero, Nat.sub_zero]
  by_cases h : m ≤ xs.length
  · rw [Nat.min_eq_left h]
  · rw [Nat.min_eq_right (by omega), List.take_of_length_le (Nat.le_refl _), List.take_of_length_le (by omega)]
def spOrder (K : PySem.W.Frag) : Sp := fun vs H Q _ => ∃ (a t : Addr) (c s : Int) (xs : List V), vs = [.ref a, .ref t] ∧ BoxAt H a c s ∧ (SqL K H t xs ∨ SqT K H t xs) ∧ xs.length < 1000 ∧
  ∀ (p : Addr) (ys : List V) (c' s' : Int) (H' : Hp), ys.Perm xs → H p = none → H' p = some (.lst ys) → SameB a H H' → BoxAt H' a c' s' → Q (.ref p) H'
section
variable {P : Program} {w : World} {K : PySem.W.Frag} {mg : Str → Option Value} {base : Heap}
theorem ok_lorder {f : Addr} {fd : FuncData} (F : Fun K "_law_order" "_law_order" s_lorder f fd) (T : Bl mg) (c_ltake : Cal P w K mg base 1 "_law_take" ["_law_box_here", "_law_many"] spTake) : FnOk P w K mg base CX0 2 f fd ["_law_box_here", "_law_things"] (spOrder K) := by
  refine F.ok sc_lorder (fun vs H Q E h => ?_) (fun cdv A outer s H vs Q E hr h => ?_)
  · obtain ⟨a, t, c, z, xs, rfl, _⟩ := h
    rfl
  · obtain ⟨a, t, c, z, xs, rfl, hb, hx, hlen, q⟩ := h
    refine ⟨_, (pss_cons (ps_set (i := 2) sc_lorder.nd rfl (Or.inl rfl) (pe_callTy call_list_of (by rfl) T.list boot_list (pa_cons (pv 1) pa_nil)))
      (pss_cons (ps_set (i := 3) sc_lorder.nd rfl (Or.inl rfl) (pe_lst pa_nil))
      (pss_cons (ps_while PassesOwn.never (pt_cmpR op_gt (pe_callB call_len_seq (by rfl) T.len boot_len (pa_cons (pv 2) pa_nil)) pe_int (nomark _)) (pss_one (ps_expr (pe_bm PySem.F.plainAttrs_list PySem.F.slot_list_append PySem.F.type_list_append mt_append (pv 3) (pa_cons (pe_bm PySem.F.plainAttrs_list PySem.F.slot_list_pop PySem.F.type_list_pop mt_popAt (pv 2) (pa_cons (pe_cl c_ltake hr (by decide) (pa_cons (pv 0) (pa_cons (pe_callB call_len_seq (by rfl) T.len boot_len (pa_cons (pv 2) pa_nil)) pa_nil))) pa_nil)) pa_nil)))))
      (pss_one (ps_ret (pv 3)))))), ?_⟩
    -- left = list(things); found = []
    refine ⟨_, rfl, t, xs, rfl, hx, fun l nl => ?_⟩
    refine ⟨Nat.zero_le _, fun p np => ?_⟩
    have nlp : l ≠ p := fun e => by
      rw [← e, upd_same] at np
      cases np
    have npH : H p = none := by
      rw [upd_ne nlp.symm] at np
      exact np
    have nla : a ≠ l := ne_of_none hb nl
    have npa : a ≠ p := ne_of_none hb npH
    -- while len(left) > 0
    refine ⟨fun m σ H1 => ∃ (ls fs : List V) (c z : Int), σ = [some (.ref a), some (.ref t), some (.ref l), some (.ref p)] ∧ H1 l = some (.lst ls) ∧ H1 p = some (.lst fs) ∧ (fs ++ ls).Perm xs ∧ BoxAt H1 a c z ∧ SameB a H H1 ∧ m = ls.length,
      ⟨xs.length, xs, [], c, z, rfl, ?_, upd_same, .refl _, ?_, ?_, rfl⟩, ?_⟩
    · rw [upd_ne nlp, upd_same]
    · show _ = _
      rw [upd_ne npa, upd_ne nla]
      exact hb
    · exact (SameB.refl.put nl).put npH
    · rintro m σ H1 ⟨ls, fs, c, z, rfl, el, ep, pm, hb1, sm, rfl⟩
      have hlen1 : fs.length + ls.length = xs.length := by
        have := pm.length_eq
        rwa [List.length_append] at this
      refine ⟨_, rfl, l, _, rfl, .inl (SqL.of el), _, _, rfl, rfl, _, rfl, ite2 (fun e => ?_) (fun e => ?_)⟩
      · have hpos : (0 : Int) < (ls.length : Int) := of_decide_eq_true e
        refine ⟨fun σ' H' => ∃ (ls' fs' : List V) (c z : Int), σ' = [some (.ref a), some (.ref t), some (.ref l), some (.ref p)] ∧ H' l = some (.lst ls') ∧ H' p = some (.lst fs') ∧ (fs' ++ ls').Perm xs ∧ BoxAt H' a c z ∧ SameB a H H' ∧ ls'.length + 1 = ls.length,
          fun σ' H' ⟨ls', fs', c', z', e1, e2, e3, e4, e5, e6, e7⟩ => ⟨ls'.length, by omega, ls', fs', c', z', e1, e2, e3, e4, e5, e6, rfl⟩, ?_⟩
        refine ⟨_, rfl, .inl ⟨rfl, _, SqL.of ep⟩, _, rfl, .inl ⟨rfl, _, SqL.of el⟩, _, rfl, _, rfl, l, _, rfl, .inl (SqL.of el), a, _, c, z, rfl, hb1, hpos, by omega, fun d c' z' d1 => ?_⟩
        have hd : d < ls.length := by omega
        have el2 : (upd H1 a (.lst [.int c', .int z'])) l = some (.lst ls) := by
          rw [upd_ne nla.symm]
          exact el
        refine ⟨l, ls, (d : Int), d, ls[d], rfl, rfl, el2, by omega, by omega, seq_at (Int.natCast_nonneg d) d1, List.getElem?_eq_getElem hd, ?_⟩
        refine ⟨p, fs, ls[d], rfl, rfl, ?_, Nat.lt_of_lt_of_le (show fs.length < 1000 by omega) (by decide), ?_⟩
        · rw [upd_ne nlp.symm, upd_ne npa.symm]
          exact ep
        refine ⟨ls.eraseIdx d, fs ++ [ls[d]], c', z', rfl, ?_, upd_same, ?_, ?_, ((sm.putA).put nl).put npH, ?_⟩
        · rw [upd_ne nlp, upd_same]
        · refine List.Perm.trans ?_ pm
          rw [List.append_assoc]
          exact (erase_perm (List.getElem?_eq_getElem hd)).append_left fs
        · show _ = _
          rw [upd_ne npa, upd_ne nla, upd_same]
        · rw [List.length_eraseIdx_of_lt hd]
          omega
      · have h0 : ls = [] := by
          have : ¬ (0 : Int) < (ls.length : Int) := fun h => e (decide_eq_true h)
          exact List.length_eq_zero_iff.mp (by omega)
        subst h0
        rw [List.append_nil] at pm
        exact ⟨_, rfl, q p fs c z H1 pm npH ep sm hb1⟩
/-- texts of a list, some in a drawn order -/
def spSome (K : PySem.W.Frag) : Sp := fun vs H Q _ => ∃ (a t : Addr) (c s : Int) (xs : List Str) (m : Nat), vs = [.ref a, .ref t, .int (m : Int)] ∧ BoxAt H a c s ∧ (SqL K H t (xs.map V.str) ∨ SqT K H t (xs.map V.str)) ∧ xs.length < 1000 ∧ xs.Nodup ∧
  ∀ (p : Addr) (ys : List Str) (c' s' : Int) (H' : Hp), ys.Nodup → (∀ y ∈ ys, y ∈ xs) → ys.length = min m xs.length → H p = none → H' p = some (.tup (ys.map V.str)) → SameB a H H' → BoxAt H' a c' s' → Q (.ref p) H'
theorem ok_lsome_columns {f : Addr} {fd : FuncData} (F : Fun K "_law_some_columns" "_law_some_columns" s_lsome_columns f fd) (T : Bl mg) (c_lorder : Cal P w K mg base 2 "_law_order" ["_law_box_here", "_law_things"] (spOrder K)) : FnOk P w K mg base CX0 3 f fd ["_law_box_here", "_law_names_here", "_law_many"] (spSome K) := by
  refine F.ok sc_lsome_columns (fun vs H Q E h => ?_) (fun cdv A outer s H vs Q E hr h => ?_)
  · obtain ⟨a, t, c, z, xs, m, rfl, _⟩ := h
    rfl
  · obtain ⟨a, t, c, z, xs, m, rfl, hb, hx, hlen, nd, q⟩ := h
    refine ⟨_, (pss_one (ps_ret (pe_callTy call_tuple_of (by rfl) T.tuple boot_tuple (pa_cons (pe_slice sl_list (pe_cl c_lorder hr (by decide) (pa_cons (pv 0) (pa_cons (pv 1) pa_nil))) po_none (po_some (pv 2))) pa_nil)))), ?_⟩
    refine ⟨_, rfl, _, rfl, a, t, c, z, xs.map V.str, rfl, hb, hx, by rw [List.length_map]; exact hlen, fun p ys c' z' H1 pm np ep sm hb1 => ?_⟩
    obtain ⟨zs, pz, rfl⟩ := perm_map_back V.str pm xs rfl
    refine ⟨_, rfl, _, rfl, p, _, rfl, SqL.of ep, fun u nu => ?_⟩
    rw [cut_take, ← List.map_take] at *
    refine ⟨u, _, rfl, .inl ⟨SqL.of upd_same, fun v nv => ?_⟩⟩
    have nu' : H1 u = none := nu
    have nv1 : v ≠ u := fun e => by
      rw [e, upd_same] at nv
      cases nv
    have nv2 : H1 v = none := by
      rw [upd_ne nv1] at nv
      exact nv
    have nua : a ≠ u := ne_of_none hb1 nu'
    have nva : a ≠ v := ne_of_none hb1 nv2
    have ndz : zs.Nodup := pz.symm.nodup nd
    refine q v (zs.take m) c' z' _ (ndz.sublist (List.take_sublist _ _)) (fun y hy => pz.mem_iff.mp (List.mem_of_mem_take hy)) ?_ (sm.back nva.symm nv2) upd_same ((sm.put (sm.back nua.symm nu')).put (sm.back nva.symm nv2)) ?_
    · rw [List.length_take, pz.length_eq]
    · show _ = _
      rw [upd_ne nva, upd_ne nua]
      exact hb1
end
end MW
namespace MW
open PySem PySem.Spec PyProof.Rows L2
/-! ### names -/
abbrev tl (z : Str) : List Nat := z.cps.toList
theorem tl_app (x y : Str) : tl (x ++ y) = tl x ++ tl y := TL.tl_append x y
theorem tl_one (c : Nat) : tl (⟨#[c]⟩ : Str) = [c] := rfl
theorem len_tl (z : Str) : z.length = (tl z).length := by simp [tl, Str.length]
theorem len_app (x y : Str) : (x ++ y).length = x.length + y.length := by rw [len_tl, tl_app, List.length_append, ← len_tl, ← len_tl]
theorem join_length : ∀ ws : List Str, (Txt.join Str.empty ws).length = (ws.map (·.length)).sum := by
  intro ws
  rw [TL.join_eq]
  induction ws with
  | nil => rfl
  | cons x r ih =>
    cases r with
    | nil => show x.length = x.length + 0; rfl
    | cons y r =>
      show (x ++ Str.empty ++ Str.join Str.empty (y :: r)).length = x.length + ((y :: r).map (·.length)).sum
      rw [len_app, len_app, ih]
      show x.length + 0 + _ = _
      rw [Nat.add_zero]
def LTS : Str := "abcdefghijklmnopqrstuvwxyz"
theorem lt_at {d : Nat} (h : d < 26) : (tl LTS)[d]? = some (97 + d) := by
  have e : tl LTS = (List.range 26).map (97 + ·) := by decide +kernel
  rw [e, List.getElem?_map, List.getElem?_range h]
  rfl
/-- a name by its number -/
def wd (A B : Str) (f : Nat) (z : Bool) (k : Nat) : Str := A ++ ⟨#[97 + (f + 5 * k) % 26]⟩ ++ B ++ (if (z && (k % 2 == 1)) = true then ("z" : Str) else Str.empty)
theorem wd_inj {A B : Str} {f : Nat} {z : Bool} {i j : Nat} (hi : i < 6) (hj : j < 6) (h : wd A B f z i = wd A B f z j) : i = j := by
  have e : ∀ k, (tl (wd A B f z k))[(tl A).length]? = some (97 + (f + 5 * k) % 26) := by
    intro k
    unfold wd
    rw [tl_app, tl_app, tl_app, tl_one, List.append_assoc, List.append_assoc, List.getElem?_append_right (Nat.le_refl _), Nat.sub_self]
    rfl
  have h1 := e i
  rw [h, e j] at h1
  have h2 := Option.some.inj h1
  omega
theorem wds_nodup {A B : Str} {f : Nat} {z : Bool} : ∀ {n : Nat}, n ≤ 6 → ((List.range n).map (wd A B f z)).Nodup := by
  intro n hn
  rw [List.nodup_iff_pairwise_ne, List.pairwise_map]
  refine List.Pairwise.imp_of_mem ?_ (List.nodup_iff_pairwise_ne.mp (List.nodup_range (n := n)))
  intro i j hi hj ne e
  exact ne (wd_inj (by have := List.mem_range.mp hi; omega) (by have := List.mem_range.mp hj; omega) e)
theorem nodup_set {α : Type} [DecidableEq α] : ∀ {xs : List α} {i : Nat} {x : α}, xs.Nodup → x ∉ xs → (xs.set i x).Nodup
  | [], _, _, _, _ => List.nodup_nil
  | y :: ys, 0, x, nd, nx => by
    rw [List.set_cons_zero]
    exact List.nodup_cons.mpr ⟨fun h => nx (List.mem_cons_of_mem _ h), (List.nodup_cons.mp nd).2⟩
  | y :: ys, i + 1, x, nd, nx => by
    rw [List.set_cons_succ]
    refine List.nodup_cons.mpr ⟨fun h => ?_, nodup_set (List.nodup_cons.mp nd).2 fun h => nx (List.mem_cons_of_mem _ h)⟩
    rcases List.mem_or_eq_of_mem_set h with h | h
    · exact (List.nodup_cons.mp nd).1 h
    · exact nx (h ▸ List.mem_cons_self)
theorem nodup_of_map {α β : Type} {f : α → β} : ∀ {xs : List α}, (xs.map f).Nodup → xs.Nodup
  | [], _ => List.nodup_nil
  | x :: xs, h => by
    rw [List.map_cons, List.nodup_cons] at h
    exact List.nodup_cons.mpr ⟨fun m => h.1 (List.mem_map_of_mem m), nodup_of_map h.2⟩
/-- the eight of the stem -/
def six (x y z : Nat) : List Str := [⟨#[x]⟩, ⟨#[x]⟩ ++ ⟨#[y]⟩, ⟨#[y]⟩, ⟨#[y]⟩ ++ ⟨#[z]⟩, ⟨#[z]⟩, ⟨#[x]⟩ ++ ⟨#[z]⟩]
theorem six_nodup {x y z : Nat} (xy : x ≠ y) (yz : y ≠ z) (xz : x ≠ z) : (six x y z).Nodup := by
  have h : ((six x y z).map tl).Nodup := by
    show ([[x], [x, y], [y], [y, z], [z], [x, z]] : List (List Nat)).Nodup
    simp [xy, yz, xz, xy.symm, yz.symm, xz.symm]
  exact nodup_of_map h
theorem inV_str {z : Str} : ∀ {zs : List Str}, inV (.str z) (zs.map V.str) = decide (z ∈ zs) := by
  intro zs
  induction zs with
  | nil => rfl
  | cons y ys ih =>
    have e1 : inV (.str z) ((y :: ys).map V.str) = (eqV (.str y) (.str z) || inV (.str z) (ys.map V.str)) := rfl
    rw [e1, ih]
    by_cases h : y = z
    · subst h
      simp [eqV]
    · have : eqV (.str y) (.str z) = false := by
        simp [eqV]
        exact h
      rw [this, Bool.false_or]
      simp [Ne.symm h]
theorem flat_strs : ∀ zs : List Str, (zs.map V.str).all flatV = true := by
  intro zs
  induction zs with
  | nil => rfl
  | cons y ys ih => rw [List.map_cons, List.all_cons, ih]; rfl
theorem cut3 : ∀ d, d < 24 → cutS (cutS LTS (some ((d : Nat) : Int)) none) none (some 3) = ⟨#[97 + d, 98 + d, 99 + d]⟩ := by decide +kernel
def OWN : List Str := [("table" : Str), ("tree" : Str), ("none" : Str), ("answer" : Str), ("levels" : Str), ("looks" : Str), ("at" : Str), ("count" : Str), ("ears" : Str), ("cover" : Str), ("place" : Str)]
def NoMo (ns : List Str) : Prop := ¬ (("more" : Str) ∈ ns ∧ ("mores" : Str) ∈ ns)
theorem six_nomo {x y z : Nat} : NoMo (six x y z) := fun h => by
  have l : ∀ w ∈ six x y z, (tl w).length ≤ 2 := by
    intro w hw
    simp only [six, List.mem_cons, List.not_mem_nil, or_false] at hw
    rcases hw with rfl | rfl | rfl | rfl | rfl | rfl <;> first | (show 1 ≤ 2; decide) | (show 2 ≤ 2; decide)
  exact absurd (l _ h.1) (by decide +kernel)
theorem wd_tl {A B : Str} {f : Nat} {z : Bool} {k : Nat} (h : (tl (wd A B f z k)).getLast? ≠ some 122) : (tl (wd A B f z k)).length = (tl A).length + 1 + (tl B).length := by
  unfold wd at *
  by_cases c : (z && (k % 2 == 1)) = true
  · rw [if_pos c] at h
    refine absurd ?_ h
    rw [tl_app]
    rw [show tl ("z" : Str) = [122] by decide +kernel]
    exact List.getLast?_concat
  · rw [if_neg c, tl_app, tl_app, tl_app, tl_one]
    simp [tl, Str.empty]
    omega
theorem wds_nomo {A B : Str} {f : Nat} {z : Bool} {n : Nat} : NoMo ((List.range n).map (wd A B f z)) := fun h => by
  obtain ⟨i, _, hi⟩ := List.mem_map.mp h.1
  obtain ⟨j, _, hj⟩ := List.mem_map.mp h.2
  have h1 := wd_tl (A := A) (B := B) (f := f) (z := z) (k := i) (by rw [hi]; decide +kernel)
  have h2 := wd_tl (A := A) (B := B) (f := f) (z := z) (k := j) (by rw [hj]; decide +kernel)
  rw [hi] at h1
  rw [hj] at h2
  have e1 : (tl ("more" : Str)).length = 4 := by decide +kernel
  have e2 : (tl ("mores" : Str)).length = 5 := by decide +kernel
  omega
theorem own_nomo : ∀ w ∈ OWN, w ≠ ("more" : Str) ∧ w ≠ ("mores" : Str) := by decide +kernel
theorem set_nomo {ns : List Str} {i : Nat} {w : Str} (h : NoMo ns) (hw : w ≠ ("more" : Str) ∧ w ≠ ("mores" : Str)) : NoMo (ns.set i w) := fun g => by
  refine h ⟨?_, ?_⟩
  · rcases List.mem_or_eq_of_mem_set g.1 with h | h
    · exact h
    · exact absurd h.symm hw.1
  · rcases List.mem_or_eq_of_mem_set g.2 with h | h
    · exact h
    · exact absurd h.symm hw.2
def spNames : Sp := fun vs H Q _ => ∃ (a : Addr) (c s : Int), vs = [.ref a, .int 6] ∧ BoxAt H a c s ∧
  ∀ (p : Addr) (ns : List Str) (c' s' : Int) (H' : Hp), ns.length = 6 → ns.Nodup → NoMo ns → H p = none → H' p = some (.lst (ns.map V.str)) → SameB a H H' → BoxAt H' a c' s' → Q (.ref p) H'
section
variable {P : Program} {w : World} {K : PySem.W.Frag} {mg : Str → Option Value} {base : Heap}
theorem ok_lnames {f : Addr} {fd : FuncData} (F : Fun K "_law_names" "_law_names" s_lnames f fd) (T : Bl mg) (c_ltake : Cal P w K mg base 1 "_law_take" ["_law_box_here", "_law_many"] spTake) : FnOk P w K mg base CX0 2 f fd ["_law_box_here", "_law_many"] spNames := by
  refine F.ok sc_lnames (fun vs H Q E h => ?_) (fun cdv A outer s H vs Q E hr h => ?_)
  · obtain ⟨a, c, z, rfl, _⟩ := h
    rfl
  · obtain ⟨a, c, z, rfl, hb, q⟩ := h
    refine ⟨_, (pss_cons (ps_set (i := 2) sc_lnames.nd rfl (Or.inr rfl) pe_str)
      (pss_cons (ps_set (i := 4) sc_lnames.nd rfl (Or.inl rfl) (pe_join pe_str (pe_lc (own := [("_law_k", 3)]) (g := gName 3) (tt := tYes) rfl sc_lnames.nd (pi_range1 (by rfl) T.range (pa_cons (pe_cl c_ltake hr (by decide) (pa_cons (pv 0) (pa_cons pe_int pa_nil))) pa_nil)) (blkOk_by (own := [("_law_k", 3)]) (N := N_lnames) (sc := defScope s_lnames) (by decide +kernel)) (fun _ _ _ _ _ => (pg_name (i := 3) sc_lnames.nd rfl (Or.inl rfl))) (fun _ _ _ _ _ => pts_nil) (fun _ _ _ _ _ => (pe_ix ix_str (pv 2) (pe_cl c_ltake hr (by decide) (pa_cons (pv 0) (pa_cons pe_int pa_nil))) (fun _ _ => rfl))))))
      (pss_cons (ps_set (i := 5) sc_lnames.nd rfl (Or.inl rfl) (pe_cl c_ltake hr (by decide) (pa_cons (pv 0) (pa_cons (pe_op op_add (pe_callB call_len_str (by rfl) T.len boot_len (pa_cons (pv 4) pa_nil)) pe_int) pa_nil))))
      (pss_cons (ps_set (i := 6) sc_lnames.nd rfl (Or.inl rfl) (pe_cl c_ltake hr (by decide) (pa_cons (pv 0) (pa_cons pe_int pa_nil))))
      (pss_cons (ps_set (i := 7) sc_lnames.nd rfl (Or.inl rfl) (pe_cl c_ltake hr (by decide) (pa_cons (pv 0) (pa_cons pe_int pa_nil))))
      (pss_cons (ps_if (pt_cmpR op_eq (pv 7) pe_int (nomark _)) (pss_cons (ps_asg (pe_slice sl_str (pe_slice sl_str (pv 2) (po_some (pe_cl c_ltake hr (by decide) (pa_cons (pv 0) (pa_cons pe_int pa_nil)))) po_none) po_none (po_some pe_int)) (pg_txt rfl (pgs_cons (pg_name (i := 8) sc_lnames.nd rfl (Or.inl rfl)) (pgs_cons (pg_name (i := 9) sc_lnames.nd rfl (Or.inl rfl)) (pgs_cons (pg_name (i := 10) sc_lnames.nd rfl (Or.inl rfl)) pgs_nil)))))
      (pss_cons (ps_set (i := 11) sc_lnames.nd rfl (Or.inl rfl) (pe_lst (pa_cons (pv 8) (pa_cons (pe_op op_add_str (pv 8) (pv 9)) (pa_cons (pv 9) (pa_cons (pe_op op_add_str (pv 9) (pv 10)) pa_nil))))))
      (pss_one (ps_ret (pe_slice sl_list (pe_op op_cat (pv 11) (pe_lst (pa_cons (pv 10) (pa_cons (pe_op op_add_str (pv 8) (pv 10)) (pa_cons (pe_op op_add_str (pe_op op_add_str (pv 8) (pv 9)) (pv 10)) (pa_cons (pe_op op_add_str (pv 10) (pv 9)) pa_nil)))))) po_none (po_some (pv 1))))))) pss_nil)
      (pss_cons (ps_set (i := 12) sc_lnames.nd rfl (Or.inl rfl) (pe_lst pa_nil))
      (pss_cons (ps_for PassesOwn.never rfl (pi_range1 (by rfl) T.range (pa_cons (pv 1) pa_nil)) (pg_name (i := 3) sc_lnames.nd rfl (Or.inl rfl)) (pss_cons (ps_set (i := 13) sc_lnames.nd rfl (Or.inl rfl) (pe_op op_add_str (pe_op op_add_str (pe_slice sl_str (pv 4) po_none (po_some (pv 5))) (pe_ix ix_str (pv 2) (pe_op op_mod (pe_op op_add (pv 6) (pe_op op_mul pe_int (pv 3))) pe_int) (fun _ _ => rfl))) (pe_slice sl_str (pv 4) (po_some (pv 5)) po_none)))
      (pss_one (ps_expr (pe_bm PySem.F.plainAttrs_list PySem.F.slot_list_append PySem.F.type_list_append mt_append (pv 12) (pa_cons (pe_op op_add_str (pv 13) (pe_op op_mulS pe_str (pe_callTy call_int1 (by rfl) T.int boot_int (pa_cons (pe_and (pe_cmpR op_eq (pv 7) pe_int (nomark _)) (pe_one (pe_cmpR op_eq (pe_op op_mod (pv 3) pe_int) pe_int (nomark _)))) pa_nil)))) pa_nil))))))
      (pss_cons (ps_set (i := 14) sc_lnames.nd rfl (Or.inl rfl) (pe_lst (pa_cons pe_str (pa_cons pe_str (pa_cons pe_str (pa_cons pe_str (pa_cons pe_str (pa_cons pe_str pa_nil))))))))
      (pss_cons (ps_set (i := 14) sc_lnames.nd rfl (Or.inl rfl) (pe_op op_cat (pv 14) (pe_lst (pa_cons pe_str (pa_cons pe_str (pa_cons pe_str (pa_cons pe_str (pa_cons pe_str pa_nil))))))))
      (pss_cons (ps_set (i := 13) sc_lnames.nd rfl (Or.inl rfl) (pe_ix ix_list (pv 14) (pe_cl c_ltake hr (by decide) (pa_cons (pv 0) (pa_cons pe_int pa_nil))) (fun _ _ => rfl)))
      (Evl.pss_cut (ps_if (PW.pt (pw_and (pt_cmpR op_eq (pe_cl c_ltake hr (by decide) (pa_cons (pv 0) (pa_cons pe_int pa_nil))) pe_int (nomark _)) (pw_and1 (pt_cmpR op_notIn_seq (pv 13) (pv 12) (by rfl))))) (pss_one (ps_asg (pv 13) (pg_sub (pv 12) (pe_cl c_ltake hr (by decide) (pa_cons (pv 0) (pa_cons (pv 1) pa_nil))) set_list))) pss_nil)
      (pss_one (ps_ret (pv 12))))))))))))))), ?_⟩
    -- the stem
    refine ⟨⟨_, rfl⟩, _, rfl, a, 5, c, z, rfl, hb, by decide, by decide, fun d c1 z1 hd => ?_⟩
    refine ⟨_, rfl, by omega, by omega, fun D nD => ?_⟩
    have naD : a ≠ D := ne_of_none (show _ = some _ from upd_same) nD
    have nDH : H D = none := by
      rw [upd_ne naD.symm] at nD
      exact nD
    refine lc_it (walk_range (n := (d : Int).toNat)) (fun i H' => ∃ (ws : List Str) (c z : Int), H' D = some (.lst (ws.map V.str)) ∧ ws.length = i ∧ (ws.map (·.length)).sum = i ∧ SameB a H H' ∧ BoxAt H' a c z)
      ⟨[], c1, z1, upd_same, rfl, rfl, ?_, ?_⟩ (fun _ _ _ _ => trivial) ?_ ?_
    · exact (SameB.refl.putA).put nDH
    · show _ = _
      rw [upd_ne naD, upd_same]
    · rintro i x H1 H2 hi ⟨ws, c2, z2, eD, el, es, sm, hb2⟩ ⟨rfl, rfl⟩
      refine ⟨rfl, ?_⟩
      refine ⟨_, rfl, _, rfl, a, 26, c2, z2, rfl, hb2, by decide, by decide, fun d2 c3 z3 hd2 => ?_⟩
      refine ⟨LTS, (d2 : Int), _, rfl, rfl, by decide +kernel, atI_nat (lt_at (by omega)), ?_⟩
      refine ⟨ws.map V.str, ?_, Nat.lt_of_lt_of_le (show (ws.map V.str).length < 1000 by rw [List.length_map]; omega) (by decide), ws ++ [⟨#[97 + d2]⟩], c3, z3, ?_, ?_, ?_, ?_, ?_⟩
      · rw [upd_ne naD.symm]
        exact eD
      · rw [upd_same, List.map_append]
        rfl
      · rw [List.length_append, el]
        rfl
      · rw [List.map_append, List.sum_append, es]
        rfl
      · exact sm.putA.put nDH
      · show _ = _
        rw [upd_ne naD, upd_same]
    · rintro H1 ⟨ws, c2, z2, eD, el, es, sm, hb2⟩
      have hl : (ws.map (·.length)).sum ≤ 4 := by omega
      refine ⟨Str.empty, D, ws, rfl, rfl, .inl (SqL.of eD), ?_, ?_⟩
      · show _ + ws.length * 0 ≤ 16777216
        omega
      have hjl := join_length ws
      generalize hj : Txt.join Str.empty ws = stem at *
      have hsl : stem.length ≤ 4 := by omega
      -- where, first, form
      refine ⟨_, rfl, _, rfl, stem, rfl, Nat.le_trans hsl (by decide), _, _, rfl, rfl, a, _, c2, z2, rfl, hb2, by omega, by omega, fun at1 c3 z3 hat => ?_⟩
      refine ⟨_, rfl, a, 26, c3, z3, rfl, upd_same, by decide, by decide, fun first c4 z4 hfi => ?_⟩
      refine ⟨_, rfl, a, 4, c4, z4, rfl, upd_same, by decide, by decide, fun form c5 z5 hfo => ?_⟩
      have sm5 := ((sm.putA (o := .lst [.int c3, .int z3])).putA (o := .lst [.int c4, .int z4])).putA (o := .lst [.int c5, .int z5])
      generalize hH5 : upd (upd (upd H1 a (.lst [.int c3, .int z3])) a (.lst [.int c4, .int z4])) a (.lst [.int c5, .int z5]) = H5 at sm5 ⊢
      have hb5 : BoxAt H5 a c5 z5 := by rw [← hH5]; exact upd_same
      refine ⟨_, rfl, rfl, _, rfl, ite2 (fun e => ?_) (fun e => ?_)⟩
      · refine ⟨_, rfl, _, rfl, a, 24, c5, z5, rfl, hb5, by decide, by decide, fun d c6 z6 hd => ?_⟩
        refine ⟨_, rfl, LTS, rfl, by decide +kernel, _, rfl, _, rfl, Nat.le_trans (cutS_length _ _ _) (by decide +kernel), ?_⟩
        rw [cut3 d (by omega)]
        have sz1 : ∀ u v : Nat, (⟨#[u]⟩ : Str).length + (⟨#[v]⟩ : Str).length ≤ sizeLine := fun u v => (by decide : 2 ≤ sizeLine)
        refine ⟨_, rfl, rfl, _, _, rfl, _, _, rfl, _, _, rfl, rfl, ?_⟩
        refine ⟨_, rfl, _, rfl, _, rfl, _, _, rfl, rfl, sz1 _ _, _, rfl, _, rfl, _, rfl, _, _, rfl, rfl, sz1 _ _, (by show 4 ≤ sizeLine; decide), fun p np => ?_⟩
        refine ⟨_, rfl, _, rfl, _, rfl, _, rfl, _, _, rfl, rfl, sz1 _ _, _, rfl, _, rfl, _, _, rfl, rfl, sz1 _ _, _, rfl, _, _, rfl, rfl, (by show 3 ≤ sizeLine; decide), _, rfl, _, rfl, _, _, rfl, rfl, sz1 _ _, (by show 4 ≤ sizeLine; decide), fun u nu => ?_⟩
        have nup : p ≠ u := ne_of_none (show _ = some _ from upd_same) nu
        refine ⟨p, u, _, _, rfl, rfl, by rw [upd_ne nup]; exact upd_same, upd_same, (by show 8 ≤ sizeLine; decide), fun v nv => ?_⟩
        refine ⟨_, rfl, _, rfl, v, _, rfl, SqL.of upd_same, fun r nr => ?_⟩
        exact q r (six (97 + d) (98 + d) (99 + d)) c6 z6 _ rfl (six_nodup (by omega) (by omega) (by omega)) six_nomo ((((sm5.putA.nw np).nw nu).nw nv).old (((BoxAt.set.nw np).nw nu).nw nv) nr) (upd_same.trans (congrArg (fun x => some (HO.lst x)) (cut_take _ 6))) ((((sm5.putA.nw np).nw nu).nw nv).nw nr) ((((BoxAt.set.nw np).nw nu).nw nv).nw nr)
      · -- words
        have hcut : ∀ x y : Option Int, (cutS stem x y).length ≤ 4 := fun x y => Nat.le_trans (cutS_length _ _ _) hsl
        obtain ⟨W, hW⟩ : ∃ W : Nat → Str, W = wd (cutS stem none (some at1)) (cutS stem (some at1) none) first (form == 1) := ⟨_, rfl⟩
        refine ⟨Nat.zero_le _, fun p np => ?_⟩
        refine ⟨_, rfl, _, rfl, by decide, by decide, ?_⟩
        refine for_it (walk_range (n := (6 : Int).toNat)) (fun i σ H' => ∃ x y, σ = [some (.ref a), some (.int 6), some (.str LTS), x, some (.str stem), some (.int at1), some (.int first), some (.int form), none, none, none, none, some (.ref p), y, none] ∧
            H' p = some (.lst (((List.range i).map W).map V.str)) ∧ SameB a H H' ∧ BoxAt H' a c5 z5)
          ⟨_, _, rfl, upd_same, sm5.nw np, hb5.nw np⟩ (fun _ _ _ _ _ => trivial) ?_ ?_
        · rintro i x σ H1 H2 hi ⟨x1, y1, rfl, ep, s1, b1⟩ ⟨rfl, rfl⟩
          have ei : ((first : Int) + 5 * (0 + ((i : Nat) : Int))) % 26 = (((first + 5 * i) % 26 : Nat) : Int) := by omega
          refine ⟨_, rfl, _, rfl, _, rfl, _, rfl, Nat.le_trans hsl (by decide), _, rfl, _, rfl, _, rfl, _, _, rfl, rfl, .inl ⟨by decide, by decide⟩, _, _, rfl, rfl, _, _, rfl, rfl, (show (0 : Int) < 26 by decide), LTS, _, _, rfl, rfl, by decide +kernel, (by rw [ei]; exact atI_nat (lt_at (Nat.mod_lt _ (by decide)))), ?_⟩
          have h1 := hcut none (some (at1 : Int))
          have h2 := hcut (some (at1 : Int)) none
          refine ⟨_, _, rfl, rfl, Nat.le_trans (Nat.add_le_add_right h1 _) (by show 5 ≤ sizeLine; decide), _, rfl, _, rfl, _, rfl, _, rfl, Nat.le_trans hsl (by decide), _, _, rfl, rfl, ?_, ?_⟩
          · rw [len_app]
            exact Nat.le_trans (Nat.add_le_add (Nat.add_le_add_right h1 _) h2) (by show 9 ≤ sizeLine; decide)
          have wl : (cutS stem none (some (at1 : Int)) ++ ⟨#[97 + (first + 5 * i) % 26]⟩ ++ cutS stem (some (at1 : Int)) none).length ≤ 9 := by
            rw [len_app, len_app]
            exact Nat.le_trans (Nat.add_le_add (Nat.add_le_add_right h1 _) h2) (by show 9 ≤ 9; decide)
          have le : (((List.range i).map W).map V.str).length < sizeLine := by
            rw [List.length_map, List.length_map, List.length_range]
            exact Nat.lt_trans (show i < 6 from hi) (by decide)
          have nx : ∀ y, y = W i → upd H2 p (.lst (((List.range i).map W).map V.str ++ [.str y])) p = some (.lst (((List.range (i + 1)).map W).map V.str)) ∧ SameB a H (upd H2 p (.lst (((List.range i).map W).map V.str ++ [.str y]))) ∧ BoxAt (upd H2 p (.lst (((List.range i).map W).map V.str ++ [.str y]))) a c5 z5 := by
            intro y ey
            refine ⟨?_, s1.put (sm5.old hb5 np), ?_⟩
            · rw [upd_same, List.range_succ, List.map_append, List.map_append, ey]
              rfl
            · show _ = _
              rw [upd_ne (ne_of_none hb5 np)]
              exact b1
          refine ⟨_, rfl, .inl ⟨rfl, _, SqL.of ep⟩, _, rfl, _, rfl, rfl, _, rfl, ite2 (fun e1 => ?_) (fun e1 => ?_)⟩
          · refine ⟨_, rfl, _, _, rfl, rfl, (show (0 : Int) < 2 by decide), rfl, .inr ⟨_, rfl, "z", _, rfl, rfl, _, _, rfl, rfl, ?_, ?_⟩⟩
            · refine Nat.le_trans (Nat.add_le_add wl (show _ ≤ 1 from ?_)) (by decide)
              split <;> decide
            · refine ⟨p, _, _, rfl, rfl, ep, le, _, _, rfl, nx _ ?_⟩
              rw [hW]
              unfold wd
              refine congrArg (fun b : Bool => cutS stem none (some (at1 : Int)) ++ ⟨#[97 + (first + 5 * i) % 26]⟩ ++ cutS stem (some (at1 : Int)) none ++ (if b = true then ("z" : Str) else Str.empty)) ?_
              have e3 : (decide (V.int form = V.int 1) : Bool) = true := e1
              rw [dec_int] at e3
              have e4 : ((form == 1) : Bool) = true := by
                have := eq_of_beq e3
                exact beq_iff_eq.mpr (by omega)
              rw [e4, dec_int, Bool.true_and, Bool.eq_iff_iff, beq_iff_eq, beq_iff_eq]
              omega
          · refine .inr ⟨_, rfl, "z", _, rfl, rfl, _, _, rfl, rfl, ?_, ?_⟩
            · refine Nat.le_trans (Nat.add_le_add wl (show _ ≤ 1 from ?_)) (by decide)
              split <;> decide
            · refine ⟨p, _, _, rfl, rfl, ep, le, _, _, rfl, nx _ ?_⟩
              rw [hW]
              unfold wd
              refine congrArg (fun b : Bool => cutS stem none (some (at1 : Int)) ++ ⟨#[97 + (first + 5 * i) % 26]⟩ ++ cutS stem (some (at1 : Int)) none ++ (if b = true then ("z" : Str) else Str.empty)) ?_
              have e3 : ¬ (decide (V.int form = V.int 1) : Bool) = true := e1
              rw [dec_int] at e3
              have e4 : ((form == 1) : Bool) = false := by
                rw [Bool.eq_false_iff]
                intro h
                refine e3 (beq_iff_eq.mpr ?_)
                have := eq_of_beq h
                omega
              rw [e4]
              rfl
        · rintro σ H1 ⟨x1, y1, rfl, ep, s1, b1⟩
          have nd : ((List.range 6).map W).Nodup := by rw [hW]; exact wds_nodup (Nat.le_refl _)
          have nm : NoMo ((List.range 6).map W) := by rw [hW]; exact wds_nomo
          have ln : ((List.range 6).map W).length = 6 := by rw [List.length_map, List.length_range]
          obtain ⟨ns, hns⟩ : ∃ ns, ns = (List.range 6).map W := ⟨_, rfl⟩
          have ep0 : H1 p = some (.lst (ns.map V.str)) := by rw [hns]; exact ep
          rw [← hns] at nd ln nm
          refine ⟨by decide, fun u nu => ?_⟩
          refine ⟨_, rfl, by decide, fun v nv => ?_⟩
          refine ⟨u, v, _, _, rfl, rfl, nwS upd_same nv, upd_same, by decide, fun r nr => ?_⟩
          have b2 := fun o => ((b1.nw nu).nw nv).nw (o := o) nr
          have s2 := fun o => ((s1.nw nu).nw nv).nw (o := o) nr
          have e2 := fun o => nwS (o := o) (nwS (nwS ep0 nu) nv) nr
          refine ⟨_, rfl, _, rfl, a, 11, c5, z5, rfl, b2 _, by decide, by decide, fun d c6 z6 hd => ?_⟩
          have hdo : d < OWN.length := by
            show d < 11
            omega
          refine ⟨r, OWN.map V.str, _, .str OWN[d], rfl, rfl, SqL.of (setS upd_same (((b1.nw nu).nw nv).ne nr)), atI_nat (by rw [List.getElem?_map, List.getElem?_eq_getElem hdo]; rfl), ?_⟩
          have e3 := fun o o' => setS (o := o') (e2 o) (hb5.ne np)
          have s3 := fun o o' => (s2 o).putA (o := o')
          have wo := own_nomo _ (List.getElem_mem hdo)
          generalize OWN[d] = w1 at wo ⊢
          refine ⟨fun σ' H' => ∃ (ns : List Str) (c z : Int), σ'[12]? = some (some (.ref p)) ∧ H' p = some (.lst (ns.map V.str)) ∧ ns.length = 6 ∧ ns.Nodup ∧ NoMo ns ∧ SameB a H H' ∧ BoxAt H' a c z, ?_, fun σ' H' hm => ?_⟩
          · refine ⟨_, rfl, a, 4, c6, z6, rfl, upd_same, by decide, by decide, fun d2 c7 z7 hd2 => ?_⟩
            refine ⟨rfl, _, rfl, ite2 (fun e => ?_) (fun e => ?_)⟩
            · refine ⟨_, rfl, _, rfl, p, _, rfl, .inl (SqL.of (setS (e3 _ _) (hb5.ne np))), rfl, flat_strs _, _, rfl, ite2 (fun e => ?_) (fun e => ?_)⟩
              · refine ⟨_, rfl, _, rfl, _, rfl, _, rfl, a, 6, c7, z7, rfl, upd_same, by decide, by decide, fun d3 c8 z8 hd3 => ?_⟩
                refine ⟨p, _, _, d3, rfl, rfl, setS (setS (e3 _ _) (hb5.ne np)) (hb5.ne np), ?_, ?_⟩
                · refine ixn ?_
                  rw [List.length_map]
                  omega
                have nw : w1 ∉ ns := by
                  have e' : (!inV (.str w1) (ns.map V.str)) = true := e
                  rw [inV_str] at e'
                  intro m
                  rw [decide_eq_true m] at e'
                  cases e'
                refine ⟨ns.set d3 w1, c8, z8, rfl, ?_, by rw [List.length_set]; exact ln, nodup_set nd nw, set_nomo nm wo, ((s3 _ _).putA.putA).put (sm5.old hb5 np), ?_⟩
                · rw [upd_same, List.map_set]
                · show _ = _
                  rw [upd_ne (hb5.ne np).symm]
                  exact upd_same
              · exact ⟨_, c7, z7, rfl, setS (e3 _ _) (hb5.ne np), ln, nd, nm, (s3 _ _).putA, upd_same⟩
            · exact ⟨_, c7, z7, rfl, setS (e3 _ _) (hb5.ne np), ln, nd, nm, (s3 _ _).putA, upd_same⟩
          · obtain ⟨ns, c, z, e1, e2, e3, e4, e7, e5, e6⟩ := hm
            exact ⟨_, e1, q p ns c z H' e3 e4 e7 (sm5.old hb5 np) e2 e5 e6⟩
end
end MW
namespace MW
open PySem PySem.Spec PyProof.Rows L2
/-! ### tables of columns -/
/-- a tuple of its own columns -/
def Own (H : Hp) (o : Addr × List Str) : Prop := H o.1 = some (.tup (o.2.map V.str)) ∧ o.2.Nodup ∧ 1 ≤ o.2.length ∧ o.2.length ≤ 6
theorem Own.sameB {a : Addr} {H H' : Hp} {o : Addr × List Str} {c s : Int} (h : Own H o) (b : BoxAt H a c s) (e : SameB a H H') : Own H' o := by
  refine ⟨e _ _ (fun x => ?_) h.1, h.2⟩
  have h1 := h.1
  rw [x] at h1
  have b1 : H a = _ := b
  rw [b1] at h1
  cases h1
theorem Own.nw {H : Hp} {l : Addr} {u : HO} {o : Addr × List Str} (h : Own H o) (n : H l = none) : Own (upd H l u) o := ⟨nwS h.1 n, h.2⟩
theorem Own.put {H : Hp} {l : Addr} {u : HO} {xs : List V} {o : Addr × List Str} (h : Own H o) (n : H l = some (.lst xs)) : Own (upd H l u) o := by
  refine ⟨setS h.1 fun x => ?_, h.2⟩
  have h1 := h.1
  rw [x, n] at h1
  cases h1
def refsOf (ows : List (Addr × List Str)) : List V := ows.map fun o => V.ref o.1
def spTabs : Sp := fun vs H Q _ => ∃ (a t : Addr) (c s : Int) (ns : List Str), vs = [.ref a, .ref t] ∧ BoxAt H a c s ∧ t ≠ a ∧ H t = some (.lst (ns.map V.str)) ∧ ns.length = 6 ∧ ns.Nodup ∧
  ∀ (p : Addr) (ows : List (Addr × List Str)) (c' s' : Int) (H' : Hp), 1 ≤ ows.length → ows.length ≤ 6 → (∀ o ∈ ows, Own H' o) → H p = none → H' p = some (.lst (refsOf ows)) → SameB a H H' → BoxAt H' a c' s' → Q (.ref p) H'
theorem small_len {n m : Nat} (h : n ≤ m) (hm : m < 1000 := by decide) : n < sizeLine := Nat.lt_of_lt_of_le (Nat.lt_of_le_of_lt h hm) (by decide)
theorem refs_snoc (ows : List (Addr × List Str)) (o : Addr × List Str) : refsOf ows ++ [.ref o.1] = refsOf (ows ++ [o]) := by
  unfold refsOf
  rw [List.map_append]
  rfl
theorem refs_len (ows : List (Addr × List Str)) : (refsOf ows).length = ows.length := List.length_map ..
section
variable {P : Program} {w : World} {K : PySem.W.Frag} {mg : Str → Option Value} {base : Heap}
theorem ok_lany {f : Addr} {fd : FuncData} (F : Fun K "_law_any_tables" "_law_any_tables" s_lany_tables f fd) (T : Bl mg) (c_ltake : Cal P w K mg base 1 "_law_take" ["_law_box_here", "_law_many"] spTake) (c_lsome_columns : Cal P w K mg base 3 "_law_some_columns" ["_law_box_here", "_law_names_here", "_law_many"] (spSome K)) : FnOk P w K mg base CX0 4 f fd ["_law_box_here", "_law_names_here"] spTabs := by
  refine F.ok sc_lany_tables (fun vs H Q E h => ?_) (fun cdv A outer s H vs Q E hr h => ?_)
  · obtain ⟨a, t, c, z, ns, rfl, _⟩ := h
    rfl
  · obtain ⟨a, t, c, z, ns, rfl, hb, nta, et, nl, nd, q⟩ := h
    refine ⟨_, (pss_cons (ps_set (i := 2) sc_lany_tables.nd rfl (Or.inl rfl) (pe_slice sl_list (pv 1) po_none (po_some (pe_op op_add pe_int (pe_cl c_ltake hr (by decide) (pa_cons (pv 0) (pa_cons pe_int pa_nil)))))))
      (pss_cons (ps_set (i := 3) sc_lany_tables.nd rfl (Or.inl rfl) (pe_lst pa_nil))
      (pss_cons (ps_for PassesOwn.never rfl (pi_range1 (by rfl) T.range (pa_cons (pe_op op_add pe_int (pe_cl c_ltake hr (by decide) (pa_cons (pv 0) (pa_cons pe_int pa_nil)))) pa_nil)) (pg_name (i := 4) sc_lany_tables.nd rfl (Or.inl rfl)) (pss_one (ps_expr (pe_bm PySem.F.plainAttrs_list PySem.F.slot_list_append PySem.F.type_list_append mt_append (pv 3) (pa_cons (pe_cl c_lsome_columns hr (by decide) (pa_cons (pv 0) (pa_cons (pv 2) (pa_cons (pe_op op_add pe_int (pe_cl c_ltake hr (by decide) (pa_cons (pv 0) (pa_cons (pe_callB (call_min2 rfl) (by rfl) T.min boot_min (pa_cons pe_int (pa_cons (pe_callB call_len_seq (by rfl) T.len boot_len (pa_cons (pv 2) pa_nil)) pa_nil))) pa_nil)))) pa_nil)))) pa_nil)))))
      (pss_one (ps_ret (pv 3)))))), ?_⟩
    refine ⟨_, rfl, _, rfl, a, 6, c, z, rfl, hb, by decide, by decide, fun d c1 z1 hd => ?_⟩
    refine ⟨_, _, rfl, rfl, _, rfl, t, _, rfl, SqL.of (setS et nta), fun l nl1 => ?_⟩
    have b1 := fun o => (BoxAt.set (H := H) (a := a) (c := c1) (s := z1)).nw (o := o) nl1
    have s1 := fun o => ((SameB.refl (a := a) (H := H)).putA (o := .lst [.int c1, .int z1])).nw (o := o) nl1
    have ec : cutV (ns.map V.str) none (some (1 + (d : Int))) = (ns.take (1 + d)).map V.str := (cut_take _ (1 + d)).trans (List.map_take ..).symm
    rw [ec]
    have pl : (ns.take (1 + d)).length = min (1 + d) 6 := by rw [List.length_take, nl]
    have pd : (ns.take (1 + d)).Nodup := nd.sublist (List.take_sublist _ _)
    generalize ns.take (1 + d) = pool at pl pd ⊢
    refine ⟨Nat.zero_le _, fun p np => ?_⟩
    have npl : l ≠ p := ne_of_none (show _ = some _ from upd_same) np
    have npH : H p = none := ((s1 _)).old (b1 _) np
    refine ⟨_, rfl, a, 6, c1, z1, rfl, (b1 _).nw np, by decide, by decide, fun d2 c2 z2 hd2 => ?_⟩
    refine ⟨_, _, rfl, rfl, _, rfl, by omega, by omega, ?_⟩
    have nla : l ≠ a := (BoxAt.set (H := H) (a := a) (c := c1) (s := z1)).ne nl1
    refine for_it (walk_range (n := (1 + (d2 : Int)).toNat)) (fun i σ H' => ∃ (x : Option V) (ows : List (Addr × List Str)) (c z : Int), σ = [some (.ref a), some (.ref t), some (.ref l), some (.ref p), x] ∧ ows.length = i ∧ (∀ o ∈ ows, Own H' o) ∧ H' p = some (.lst (refsOf ows)) ∧ H' l = some (.lst (pool.map V.str)) ∧ SameB a H H' ∧ BoxAt H' a c z)
      ⟨_, [], c2, z2, rfl, rfl, fun _ h => absurd h (List.not_mem_nil), setS upd_same ((b1 _).ne np), setS (nwS upd_same np) nla, ((s1 _).nw np).putA, upd_same⟩ (fun _ _ _ _ _ => trivial) ?_ ?_
    · rintro i x σ H1 H2 hi ⟨x1, ows, c3, z3, rfl, ol, ho, ep, el, sm, hb3⟩ ⟨rfl, rfl⟩
      refine ⟨_, rfl, .inl ⟨rfl, _, SqL.of ep⟩, _, rfl, _, rfl, _, rfl, _, rfl, l, _, rfl, .inl (SqL.of el), _, _, rfl, a, _, c3, z3, rfl, hb3, ?_, ?_, fun d3 c4 z4 hd3 => ?_⟩
      · rw [List.length_map]
        split <;> omega
      · rw [List.length_map]
        split <;> omega
      rw [List.length_map] at hd3
      refine ⟨_, _, rfl, rfl, a, l, c4, z4, pool, 1 + d3, rfl, upd_same, .inl (SqL.of (setS el nla)), by omega, pd, fun u ys c5 z5 H3 ynd ymem yl nu eu s3 b3 => ?_⟩
      have s4 := (SameB.updS (H := H2) (a := a) (o := .lst [.int c4, .int z4])).trans s3
      have npa : p ≠ a := hb.ne npH
      refine ⟨p, _, _, rfl, rfl, s4 _ _ npa ep, small_len (m := 6) (by rw [refs_len]; omega), _, ows ++ [(u, ys)], c5, z5, rfl, ?_, ?_, ?_, ?_, ?_, ?_⟩
      · rw [List.length_append, ol]
        rfl
      · intro o ho'
        have e3 : H3 p = _ := s4 _ _ npa ep
        rcases List.mem_append.mp ho' with h | h
        · exact ((ho o h).sameB hb3 s4).put e3
        · cases List.mem_singleton.mp h
          refine Own.put ⟨eu, ynd, ?_, ?_⟩ e3
          · show 1 ≤ ys.length
            omega
          · show ys.length ≤ 6
            omega
      · rw [upd_same]
        exact congrArg (fun x => some (HO.lst x)) (refs_snoc ows (u, ys))
      · exact setS (s4 _ _ nla el) npl
      · exact (sm.trans s4).put npH
      · exact b3.put npa
    · rintro σ H1 ⟨x1, ows, c3, z3, rfl, ol, ho, ep, el, sm, hb3⟩
      exact ⟨_, rfl, q p ows c3 z3 H1 (by omega) (by omega) ho npH ep sm hb3⟩
end
end MW
namespace MW
open PySem PySem.Spec PyProof.Rows L2
/-! ### tables by ears -/
structure Ear (a t l p : Addr) (ns : List Str) (H0 H : Hp) (ls : List Str) (ows : List (Addr × List Str)) (c z : Int) : Prop where
  sm : SameB a H0 H
  bx : BoxAt H a c z
  et : H t = some (.lst (ns.map V.str))
  el : H l = some (.lst (ls.map V.str))
  ep : H p = some (.lst (refsOf ows))
  own : ∀ o ∈ ows, Own H o
  lnd : ls.Nodup
  dis : ∀ o ∈ ows, ∀ y ∈ o.2, y ∉ ls
structure Fx (a t l p : Addr) (H0 : Hp) : Prop where
  ta : t ≠ a
  la : l ≠ a
  pa : p ≠ a
  tl : t ≠ l
  tp : t ≠ p
  lp : l ≠ p
  l0 : H0 l = none
  p0 : H0 p = none
section
variable {a t l p q : Addr} {ns ls : List Str} {H0 H H' : Hp} {ows : List (Addr × List Str)} {c z c' z' : Int}
theorem Ear.step (E : Ear a t l p ns H0 H ls ows c z) (f : Fx a t l p H0) (s : SameB a H H') (b : BoxAt H' a c' z') : Ear a t l p ns H0 H' ls ows c' z' :=
  ⟨E.sm.trans s, b, s _ _ f.ta E.et, s _ _ f.la E.el, s _ _ f.pa E.ep, fun o h => (E.own o h).sameB E.bx s, E.lnd, E.dis⟩
theorem Ear.box (E : Ear a t l p ns H0 H ls ows c z) (f : Fx a t l p H0) : Ear a t l p ns H0 (upd H a (.lst [.int c', .int z'])) ls ows c' z' := E.step f .updS .set
theorem Ear.nw {o : HO} (E : Ear a t l p ns H0 H ls ows c z) (f : Fx a t l p H0) (h : H q = none) : Ear a t l p ns H0 (upd H q o) ls ows c z := E.step f (.new h) (E.bx.nw h)
/-- an own list that is being made -/
structure Fq (a t l p q : Addr) (H0 H : Hp) (ow : List Str) : Prop where
  q0 : H0 q = none
  qa : q ≠ a
  qt : q ≠ t
  ql : q ≠ l
  qp : q ≠ p
  eq : H q = some (.lst (ow.map V.str))
theorem Fq.step {ow : List Str} (g : Fq a t l p q H0 H ow) (s : SameB a H H') : Fq a t l p q H0 H' ow := ⟨g.q0, g.qa, g.qt, g.ql, g.qp, s _ _ g.qa g.eq⟩
theorem Ear.newq {ow : List Str} (E : Ear a t l p ns H0 H ls ows c z) (h : H q = none) : Fq a t l p q H0 (upd H q (.lst (ow.map V.str))) ow :=
  ⟨E.sm.old E.bx h, E.bx.ne h, (ne_of_none E.et h).symm, (ne_of_none E.el h).symm, (ne_of_none E.ep h).symm, upd_same⟩
theorem Ear.setq {ow : List Str} {o : HO} (E : Ear a t l p ns H0 H ls ows c z) (g : Fq a t l p q H0 H ow) : Ear a t l p ns H0 (upd H q o) ls ows c z :=
  ⟨E.sm.put g.q0, E.bx.put g.qa, setS E.et g.qt.symm, setS E.el g.ql.symm, setS E.ep g.qp.symm, fun o h => (E.own o h).put g.eq, E.lnd, E.dis⟩
theorem Fq.setq {ow ow' : List Str} (g : Fq a t l p q H0 H ow) : Fq a t l p q H0 (upd H q (.lst (ow'.map V.str))) ow' := ⟨g.q0, g.qa, g.qt, g.ql, g.qp, upd_same⟩
theorem Ear.setl {ls' : List Str} (E : Ear a t l p ns H0 H ls ows c z) (f : Fx a t l p H0) (nd : ls'.Nodup) (sub : ∀ y ∈ ls', y ∈ ls) : Ear a t l p ns H0 (upd H l (.lst (ls'.map V.str))) ls' ows c z :=
  ⟨E.sm.put f.l0, E.bx.put f.la, setS E.et f.tl, upd_same, setS E.ep f.lp.symm, fun o h => (E.own o h).put E.el, nd, fun o h y hy m => E.dis o h y hy (sub y m)⟩
theorem Fq.setl {ow : List Str} {o : HO} (g : Fq a t l p q H0 H ow) : Fq a t l p q H0 (upd H l o) ow := ⟨g.q0, g.qa, g.qt, g.ql, g.qp, setS g.eq g.ql⟩
theorem Ear.setp {o : Addr × List Str} (E : Ear a t l p ns H0 H ls ows c z) (f : Fx a t l p H0) (ho : Own H o) (d : ∀ y ∈ o.2, y ∉ ls) : Ear a t l p ns H0 (upd H p (.lst (refsOf ows ++ [.ref o.1]))) ls (ows ++ [o]) c z := by
  refine ⟨E.sm.put f.p0, E.bx.put f.pa, setS E.et f.tp, setS E.el f.lp, by rw [upd_same, refs_snoc], fun x h => ?_, E.lnd, fun x h => ?_⟩
  · rcases List.mem_append.mp h with h | h
    · exact (E.own x h).put E.ep
    · cases List.mem_singleton.mp h
      exact ho.put E.ep
  · rcases List.mem_append.mp h with h | h
    · exact E.dis x h
    · cases List.mem_singleton.mp h
      exact d
end
section
variable {P : Program} {w : World} {K : PySem.W.Frag} {mg : Str → Option Value} {base : Heap}
theorem ok_lear {f : Addr} {fd : FuncData} (F : Fun K "_law_ear_tables" "_law_ear_tables" s_lear_tables f fd) (T : Bl mg) (c_ltake : Cal P w K mg base 1 "_law_take" ["_law_box_here", "_law_many"] spTake) (c_lsome_columns : Cal P w K mg base 3 "_law_some_columns" ["_law_box_here", "_law_names_here", "_law_many"] (spSome K)) (c_lorder : Cal P w K mg base 2 "_law_order" ["_law_box_here", "_law_things"] (spOrder K)) : FnOk P w K mg base CX0 4 f fd ["_law_box_here", "_law_names_here"] spTabs := by
  refine F.ok sc_lear_tables (fun vs H Q E h => ?_) (fun cdv A outer s H vs Q E hr h => ?_)
  · obtain ⟨a, t, c, z, ns, rfl, _⟩ := h
    rfl
  · obtain ⟨a, t, c, z, ns, rfl, hb, nta, et, nl, nd, q⟩ := h
    refine ⟨_, (pss_cons (ps_set (i := 2) sc_lear_tables.nd rfl (Or.inl rfl) (pe_callTy call_list_of (by rfl) T.list boot_list (pa_cons (pe_slice sl_list (pv 1) po_none (po_some pe_int)) pa_nil)))
      (pss_cons (ps_set (i := 3) sc_lear_tables.nd rfl (Or.inl rfl) (pe_lst pa_nil))
      (pss_cons (ps_for PassesOwn.never rfl (pi_range1 (by rfl) T.range (pa_cons (pe_op op_add pe_int (pe_cl c_ltake hr (by decide) (pa_cons (pv 0) (pa_cons pe_int pa_nil)))) pa_nil)) (pg_name (i := 4) sc_lear_tables.nd rfl (Or.inl rfl)) (pss_cons (ps_set (i := 5) sc_lear_tables.nd rfl (Or.inl rfl) (pe_lst pa_nil))
      (Evl.pss_cut (ps_if (pt_cmpR op_gt (pv 4) pe_int (nomark _)) (pss_cons (ps_set (i := 6) sc_lear_tables.nd rfl (Or.inl rfl) (pe_ix ix_list (pv 3) (pe_cl c_ltake hr (by decide) (pa_cons (pv 0) (pa_cons (pv 4) pa_nil))) (fun _ _ => rfl)))
      (pss_one (ps_set (i := 5) sc_lear_tables.nd rfl (Or.inl rfl) (pe_callTy call_list_of (by rfl) T.list boot_list (pa_cons (pe_cl c_lsome_columns hr (by decide) (pa_cons (pv 0) (pa_cons (pv 6) (pa_cons (pe_cl c_ltake hr (by decide) (pa_cons (pv 0) (pa_cons (pe_op op_add (pe_callB (call_min2 rfl) (by rfl) T.min boot_min (pa_cons pe_int (pa_cons (pe_callB call_len_seq (by rfl) T.len boot_len (pa_cons (pv 6) pa_nil)) pa_nil))) pe_int) pa_nil))) pa_nil)))) pa_nil))))) pss_nil)
      (pss_cons (ps_for PassesOwn.never rfl (pi_range1 (by rfl) T.range (pa_cons (pe_cl c_ltake hr (by decide) (pa_cons (pv 0) (pa_cons (pe_op op_sub pe_int (pe_callB call_len_seq (by rfl) T.len boot_len (pa_cons (pv 5) pa_nil))) pa_nil))) pa_nil)) (pg_name (i := 7) sc_lear_tables.nd rfl (Or.inl rfl)) (pss_one (ps_if (pt_cmpR op_gt (pe_callB call_len_seq (by rfl) T.len boot_len (pa_cons (pv 2) pa_nil)) pe_int (nomark _)) (pss_one (ps_expr (pe_bm PySem.F.plainAttrs_list PySem.F.slot_list_append PySem.F.type_list_append mt_append (pv 5) (pa_cons (pe_bm0 PySem.F.plainAttrs_list PySem.F.slot_list_pop PySem.F.type_list_pop mt_pop (pv 2)) pa_nil)))) pss_nil)))
      (Evl.pss_cut (ps_if (pt_cmpR op_eq (pe_callB call_len_seq (by rfl) T.len boot_len (pa_cons (pv 5) pa_nil)) pe_int (nomark _)) (pss_one (ps_set (i := 5) sc_lear_tables.nd rfl (Or.inl rfl) (pe_ifExp (pt_cmpR op_eq (pv 4) pe_int (nomark _)) (pe_lst (pa_cons (pe_ix ix_list (pv 1) pe_int (fun _ _ => rfl)) pa_nil)) (pe_lst (pa_cons (pe_ix ix_tup (pe_ix ix_list (pv 3) pe_int (fun _ _ => rfl)) pe_int (fun _ _ => rfl)) pa_nil))))) pss_nil)
      (Evl.pss_cut (ps_if (PW.pt (pw_and (pt_cmpR op_in_seq (pe_ix ix_list (pv 1) pe_int (fun _ _ => rfl)) (pv 5) (by rfl)) (pw_and1 (pt_cmpR op_in_seq (pe_ix ix_list (pv 1) pe_int (fun _ _ => rfl)) (pv 2) (by rfl))))) (pss_one (ps_expr (pe_bm PySem.F.plainAttrs_list PySem.F.slot_list_remove PySem.F.type_list_remove mt_removeS (pv 2) (pa_cons (pe_ix ix_list (pv 1) pe_int (fun _ _ => rfl)) pa_nil)))) pss_nil)
      (pss_one (ps_expr (pe_bm PySem.F.plainAttrs_list PySem.F.slot_list_append PySem.F.type_list_append mt_append (pv 3) (pa_cons (pe_callTy call_tuple_of (by rfl) T.tuple boot_tuple (pa_cons (pe_cl c_lorder hr (by decide) (pa_cons (pv 0) (pa_cons (pv 5) pa_nil))) pa_nil)) pa_nil))))))))))
      (pss_one (ps_ret (pv 3)))))), ?_⟩
    obtain ⟨n0, nr, rfl⟩ : ∃ n0 nr, ns = n0 :: nr := by
      cases ns with
      | nil => cases nl
      | cons x r => exact ⟨x, r, rfl⟩
    refine ⟨_, rfl, _, rfl, t, _, rfl, SqL.of et, fun l0 nl0 => ?_⟩
    have ec : cutV ((n0 :: nr).map V.str) none (some 6) = ((n0 :: nr).take 6).map V.str := (cut_take _ 6).trans (List.map_take ..).symm
    rw [ec]
    refine ⟨l0, _, rfl, .inl (SqL.of upd_same), fun l nl1 => ⟨Nat.zero_le _, fun p np => ?_⟩⟩
    have E0 : Ear a t l p (n0 :: nr) H (upd (upd (upd H l0 (.lst (((n0 :: nr).take 6).map V.str))) l (.lst (((n0 :: nr).take 6).map V.str))) p (.lst [])) ((n0 :: nr).take 6) [] c z := by
      have s := ((SameB.new (a := a) nl0).nw (o := .lst (((n0 :: nr).take 6).map V.str)) nl1).nw (o := .lst []) np
      have b := ((hb.nw nl0).nw (o := .lst (((n0 :: nr).take 6).map V.str)) nl1).nw (o := .lst []) np
      exact ⟨s, b, s _ _ nta et, nwS upd_same np, upd_same, fun _ h => absurd h List.not_mem_nil, nd.sublist (List.take_sublist _ _), fun _ h => absurd h List.not_mem_nil⟩
    have n1 := (newE nl1).2
    obtain ⟨npl, np1⟩ := newE np
    have np2 := (newE np1).2
    have fx : Fx a t l p H := ⟨nta, hb.ne n1, hb.ne np2, ne_of_none et n1, ne_of_none et np2, npl.symm, n1, np2⟩
    refine ⟨_, rfl, a, 6, c, z, rfl, E0.bx, by decide, by decide, fun d2 c2 z2 hd2 => ?_⟩
    refine ⟨_, _, rfl, rfl, _, rfl, by omega, by omega, ?_⟩
    refine for_it (walk_range (n := (1 + (d2 : Int)).toNat)) (fun i σ H' => ∃ (x4 x5 x6 x7 : Option V) (ls : List Str) (ows : List (Addr × List Str)) (c z : Int), σ = [some (.ref a), some (.ref t), some (.ref l), some (.ref p), x4, x5, x6, x7] ∧ ows.length = i ∧ Ear a t l p (n0 :: nr) H H' ls ows c z)
      ⟨_, _, _, _, _, [], c2, z2, rfl, rfl, E0.box fx⟩ (fun _ _ _ _ _ => trivial) ?_ ?_
    · rintro i x σ H1 H2 hi ⟨x4, x5, x6, x7, ls, ows, c3, z3, rfl, ol, E1⟩ ⟨rfl, rfl⟩
      -- own = []
      refine ⟨Nat.zero_le _, fun q1 nq1 => ?_⟩
      refine ⟨fun σ' H' => ∃ (x6 : Option V) (q : Addr) (ow : List Str) (c z : Int), σ' = [some (.ref a), some (.ref t), some (.ref l), some (.ref p), some (.int (0 + (i : Int))), some (.ref q), x6, x7] ∧ Fq a t l p q H H' ow ∧ ow.Nodup ∧ ow.length ≤ 3 ∧ (∀ y ∈ ow, y ∉ ls) ∧ Ear a t l p (n0 :: nr) H H' ls ows c z, ?_, fun σ' H' hm => ?_⟩
      · refine ⟨_, rfl, _, _, rfl, rfl, _, rfl, ite2 (fun e => ?_) (fun e => ?_)⟩
        · have i0 : (0 : Int) < 0 + (i : Int) := of_decide_eq_true e
          have E2 := E1.nw (o := .lst []) fx nq1
          refine ⟨_, rfl, _, rfl, _, rfl, a, _, c3, z3, rfl, E2.bx, i0, by omega, fun d3 c4 z4 hd3 => ?_⟩
          have hd : d3 < ows.length := by omega
          have ed : (refsOf ows)[d3]? = some (.ref ows[d3].1) := by
            unfold refsOf
            rw [List.getElem?_map, List.getElem?_eq_getElem hd]
            rfl
          have E3 := E2.box (c' := c4) (z' := z4) fx
          have o3 : Own _ ows[d3] := E3.own _ (List.getElem_mem hd)
          refine ⟨p, _, _, _, rfl, rfl, SqL.of E3.ep, atI_nat ed, ?_⟩
          have ol3 := o3.2.2.2
          refine ⟨_, rfl, _, rfl, _, rfl, _, rfl, _, _, rfl, .inr (SqT.of o3.1), _, _, rfl, _, _, rfl, rfl, a, _, c4, z4, rfl, E3.bx, ?_, ?_, fun d4 c5 z5 hd4 => ?_⟩
          · split <;> omega
          · split <;> omega
          have E4 := E3.box (c' := c5) (z' := z5) fx
          refine ⟨a, _, c5, z5, ows[d3].2, d4, rfl, E4.bx, .inr (SqT.of (E4.own _ (List.getElem_mem hd)).1), by omega, o3.2.1, fun u ys c6 z6 H3 ynd ymem yl nu eu s3 b3 => ?_⟩
          have E5 := E4.step fx s3 b3
          refine ⟨u, _, rfl, .inr (SqT.of eu), fun v nv => ?_⟩
          refine ⟨_, v, ys, c6, z6, rfl, E5.newq nv, ynd, ?_, fun y hy => E5.dis _ (List.getElem_mem hd) y (ymem y hy), E5.nw fx nv⟩
          rw [List.length_map] at hd4
          split at hd4 <;> omega
        · exact ⟨_, q1, [], c3, z3, rfl, E1.newq (ow := []) nq1, List.nodup_nil, Nat.zero_le _, fun _ h => absurd h List.not_mem_nil, E1.nw fx nq1⟩
      · obtain ⟨x6, q1, ow, c3, z3, rfl, g1, ond, ol1, od, E1⟩ := hm
        -- more columns
        refine ⟨_, rfl, _, rfl, _, _, rfl, .inl (SqL.of g1.eq), _, _, rfl, rfl, a, _, c3, z3, rfl, E1.bx, ?_, ?_, fun d4 c4 z4 hd4 => ?_⟩
        · rw [List.length_map]
          omega
        · rw [List.length_map]
          omega
        rw [List.length_map] at hd4
        refine ⟨_, rfl, by omega, by omega, ?_⟩
        refine for_it (walk_range (n := (d4 : Int).toNat)) (fun j σ H' => ∃ (x7 : Option V) (ow ls : List Str) (c z : Int), σ = [some (.ref a), some (.ref t), some (.ref l), some (.ref p), some (.int (0 + (i : Int))), some (.ref q1), x6, x7] ∧ Fq a t l p q1 H H' ow ∧ ow.Nodup ∧ ow.length + d4 ≤ 4 + j ∧ (∀ y ∈ ow, y ∉ ls) ∧ Ear a t l p (n0 :: nr) H H' ls ows c z)
          ⟨_, ow, ls, c4, z4, rfl, g1.step .updS, ond, by omega, od, E1.box fx⟩ (fun _ _ _ _ _ => trivial) ?_ ?_
        · rintro j x σ H1 H2 hj ⟨x7, ow, ls, c5, z5, rfl, g2, ond, ol2, od, E2⟩ ⟨rfl, rfl⟩
          refine ⟨_, rfl, _, _, rfl, .inl (SqL.of E2.el), _, _, rfl, rfl, _, rfl, ite2 (fun e => ?_) (fun e => ?_)⟩
          · have l1 : ls ≠ [] := fun h => by
              rw [h] at e
              cases e
            obtain ⟨ls', y, rfl⟩ : ∃ ls' y, ls = ls' ++ [y] := ⟨ls.dropLast, ls.getLast l1, (List.dropLast_concat_getLast l1).symm⟩
            have hdl : ((ls' ++ [y]).map V.str).dropLast = ls'.map V.str := by rw [List.map_append]; exact List.dropLast_concat
            have hla : ((ls' ++ [y]).map V.str)[((ls' ++ [y]).map V.str).length - 1]? = some (.str y) := by
              rw [List.length_map, List.length_append, List.map_append]
              show (List.map V.str ls' ++ [V.str y])[ls'.length + 1 - 1]? = _
              rw [Nat.add_sub_cancel, List.getElem?_append_right (by rw [List.length_map]; exact Nat.le_refl _), List.length_map, Nat.sub_self]
              rfl
            refine ⟨_, rfl, .inl ⟨rfl, _, SqL.of g2.eq⟩, _, rfl, .inl ⟨rfl, _, SqL.of E2.el⟩, l, _, _, rfl, rfl, E2.el, hla, ?_⟩
            rw [hdl]
            have lnd := E2.lnd
            rw [List.nodup_append] at lnd
            have yl : y ∉ ls' := fun m => lnd.2.2 y m y (List.mem_singleton.mpr rfl) rfl
            have E3 := E2.setl fx (ls' := ls') lnd.1 (fun y h => List.mem_append_left _ h)
            have g3 : Fq a t l p q1 H (upd H2 l (.lst (ls'.map V.str))) ow := g2.setl
            refine ⟨q1, _, _, rfl, rfl, g3.eq, small_len (m := 4) (by rw [List.length_map]; omega), ?_⟩
            have eo : ow.map V.str ++ [.str y] = (ow ++ [y]).map V.str := by rw [List.map_append]; rfl
            rw [eo]
            refine ⟨_, ow ++ [y], ls', c5, z5, rfl, g3.setq, ?_, ?_, ?_, E3.setq g3⟩
            · rw [List.nodup_append]
              refine ⟨ond, List.nodup_cons.mpr ⟨List.not_mem_nil, List.nodup_nil⟩, fun u hu v hv => ?_⟩
              rw [List.mem_singleton] at hv
              subst hv
              intro h
              subst h
              exact od u hu (List.mem_append_right _ (List.mem_singleton.mpr rfl))
            · rw [List.length_append]
              show ow.length + 1 + d4 ≤ _
              omega
            · intro u hu m
              rcases List.mem_append.mp hu with h | h
              · exact od u h (List.mem_append_left _ m)
              · rw [List.mem_singleton] at h
                subst h
                exact yl m
          · exact ⟨_, ow, ls, c5, z5, rfl, g2, ond, by omega, od, E2⟩
        · rintro σ H1 ⟨x7, ow, ls, c5, z5, rfl, g2, ond, ol2, od, E2⟩
          -- none yet
          refine ⟨fun σ' H' => ∃ (q : Addr) (ow : List Str), σ' = [some (.ref a), some (.ref t), some (.ref l), some (.ref p), some (.int (0 + (i : Int))), some (.ref q), x6, x7] ∧ Fq a t l p q H H' ow ∧ ow.Nodup ∧ 1 ≤ ow.length ∧ ow.length ≤ 4 ∧ (∀ y ∈ ow, y ∉ ls ∨ y = n0) ∧ Ear a t l p (n0 :: nr) H H' ls ows c5 z5, ?_, fun σ' H' hm => ?_⟩
          · refine ⟨_, rfl, _, _, rfl, .inl (SqL.of g2.eq), rfl, _, rfl, ite2 (fun e => ?_) (fun e => ?_)⟩
            · refine ⟨_, rfl, rfl, _, rfl, ite2 (fun e => ?_) (fun e => ?_)⟩
              · refine ⟨_, rfl, t, _, 0, _, rfl, rfl, SqL.of E2.et, atI_nat (j := 0) rfl, by show 1 ≤ sizeLine; decide, fun q2 nq2 => ?_⟩
                refine ⟨q2, [n0], rfl, E2.newq (ow := [n0]) nq2, ?_, (by show 1 ≤ 1; decide), (by show 1 ≤ 4; decide), fun y hy => .inr (List.mem_singleton.mp hy), E2.nw fx nq2⟩
                exact List.nodup_cons.mpr ⟨List.not_mem_nil, List.nodup_nil⟩
              · have i0 : ows.length ≠ 0 := fun h => e (by
                  have : i = 0 := by omega
                  rw [this]
                  rfl)
                obtain ⟨o1, orr, rfl⟩ : ∃ o1 orr, ows = o1 :: orr := by
                  cases ows with
                  | nil => exact absurd rfl i0
                  | cons x r => exact ⟨x, r, rfl⟩
                have h1 := E2.own o1 List.mem_cons_self
                obtain ⟨ad, w1⟩ := o1
                obtain ⟨y0, yr, rfl⟩ : ∃ y0 yr, w1 = y0 :: yr := by
                  cases w1 with
                  | nil => exact absurd h1.2.2.1 (by show ¬ 1 ≤ 0; decide)
                  | cons x r => exact ⟨x, r, rfl⟩
                refine ⟨_, rfl, p, _, 0, _, rfl, rfl, SqL.of E2.ep, atI_nat (j := 0) rfl, _, _, 0, _, rfl, rfl, SqT.of h1.1, atI_nat (j := 0) rfl, by show 1 ≤ sizeLine; decide, fun q2 nq2 => ?_⟩
                refine ⟨q2, [y0], rfl, E2.newq (ow := [y0]) nq2, ?_, (by show 1 ≤ 1; decide), (by show 1 ≤ 4; decide), fun y hy => .inl ?_, E2.nw fx nq2⟩
                · exact List.nodup_cons.mpr ⟨List.not_mem_nil, List.nodup_nil⟩
                · rw [List.mem_singleton] at hy
                  subst hy
                  exact E2.dis _ List.mem_cons_self y List.mem_cons_self
            · refine ⟨q1, ow, rfl, g2, ond, ?_, by omega, fun y hy => .inl (od y hy), E2⟩
              cases ow with
              | nil => exact absurd rfl e
              | cons x r => exact Nat.succ_pos _
          · obtain ⟨q2, ow, rfl, g3, ond, ol3, ol4, od, E3⟩ := hm
            -- the first of the names
            refine ⟨fun σ' H' => ∃ (ls : List Str), σ' = [some (.ref a), some (.ref t), some (.ref l), some (.ref p), some (.int (0 + (i : Int))), some (.ref q2), x6, x7] ∧ Fq a t l p q2 H H' ow ∧ (∀ y ∈ ow, y ∉ ls) ∧ Ear a t l p (n0 :: nr) H H' ls ows c5 z5, ?_, fun σ' H' hm => ?_⟩
            · refine ⟨_, rfl, t, _, 0, _, rfl, rfl, SqL.of E3.et, atI_nat (j := 0) rfl, _, rfl, q2, _, rfl, .inl (SqL.of g3.eq), rfl, flat_strs _, _, rfl, ite2 (fun e1 => ?_) (fun e1 => ?_)⟩
              · refine ⟨_, rfl, t, _, 0, _, rfl, rfl, SqL.of E3.et, atI_nat (j := 0) rfl, _, rfl, l, _, rfl, .inl (SqL.of E3.el), rfl, flat_strs _, _, rfl, ite2 (fun e2 => ?_) (fun e2 => ?_)⟩
                · have m2 : n0 ∈ ls := by
                    have e' : inV (.str n0) (ls.map V.str) = true := e2
                    rw [inV_str] at e'
                    exact of_decide_eq_true e'
                  refine ⟨_, rfl, .inl ⟨rfl, _, SqL.of E3.el⟩, _, rfl, t, _, 0, _, rfl, rfl, SqL.of E3.et, atI_nat (j := 0) rfl, l, ls, n0, rfl, rfl, E3.el, m2, ?_⟩
                  refine ⟨ls.erase n0, rfl, g3.setl, fun y hy m => ?_, E3.setl fx (E3.lnd.erase _) (fun y h => List.mem_of_mem_erase h)⟩
                  rcases od y hy with h | h
                  · exact h (List.mem_of_mem_erase m)
                  · subst h
                    exact E3.lnd.not_mem_erase m
                · refine ⟨ls, rfl, g3, fun y hy m => ?_, E3⟩
                  rcases od y hy with h | h
                  · exact h m
                  · subst h
                    refine e2 ?_
                    show inV (.str y) (ls.map V.str) = true
                    rw [inV_str]
                    exact decide_eq_true m
              · refine ⟨ls, rfl, g3, fun y hy m => ?_, E3⟩
                rcases od y hy with h | h
                · exact h m
                · subst h
                  refine e1 ?_
                  show inV (.str y) (ow.map V.str) = true
                  rw [inV_str]
                  exact decide_eq_true hy
            · obtain ⟨ls, rfl, g3, od, E3⟩ := hm
              refine ⟨_, rfl, .inl ⟨rfl, _, SqL.of E3.ep⟩, _, rfl, _, rfl, a, q2, c5, z5, ow.map V.str, rfl, E3.bx, .inl (SqL.of g3.eq), by rw [List.length_map]; omega, fun u ys c6 z6 H3 pm nu eu s3 b3 => ?_⟩
              obtain ⟨zs, pz, rfl⟩ := perm_map_back V.str pm ow rfl
              refine ⟨u, _, rfl, .inl ⟨SqL.of eu, fun v nv => ?_⟩⟩
              have E4 := (E3.step fx s3 b3).nw (o := .tup (zs.map V.str)) fx nv
              refine ⟨p, _, _, rfl, rfl, E4.ep, small_len (m := 6) (by rw [refs_len]; omega), _, _, _, _, ls, ows ++ [(v, zs)], c6, z6, rfl, ?_, E4.setp (o := (v, zs)) fx ⟨upd_same, pz.symm.nodup ond, ?_, ?_⟩ fun y hy => od y (pz.mem_iff.mp hy)⟩
              · rw [List.length_append, ol]
                rfl
              · show 1 ≤ zs.length
                rw [pz.length_eq]
                exact ol3
              · show zs.length ≤ 6
                rw [pz.length_eq]
                omega
    · rintro σ H1 ⟨x4, x5, x6, x7, ls, ows, c3, z3, rfl, ol, E1⟩
      exact ⟨_, rfl, q p ows c3 z3 H1 (by omega) (by omega) E1.own fx.p0 E1.ep E1.sm E1.bx⟩
end
end MW
namespace MW
open PySem PySem.Spec PyProof.Rows L2
/-! ### tables in a ring -/
theorem nodup_at {α : Type} {xs : List α} (nd : xs.Nodup) {i j : Nat} {x : α} (hi : xs[i]? = some x) (hj : xs[j]? = some x) : i = j := by
  obtain ⟨h1, h2⟩ := List.getElem?_eq_some_iff.mp hi
  obtain ⟨h3, h4⟩ := List.getElem?_eq_some_iff.mp hj
  have p := List.pairwise_iff_getElem.mp (List.nodup_iff_pairwise_ne.mp nd)
  rcases Nat.lt_trichotomy i j with h | h | h
  · exact absurd (h2.trans h4.symm) (p i j h1 h3 h)
  · exact h
  · exact absurd (h4.trans h2.symm) (p j i h3 h1 h)
structure Rg (a t r S : Addr) (ns R : List Str) (H0 H : Hp) (qa : List Addr) (ow : Nat → List Str) (c z : Int) : Prop where
  sm : SameB a H0 H
  bx : BoxAt H a c z
  et : H t = some (.lst (ns.map V.str))
  er : H r = some (.lst (R.map V.str))
  eS : H S = some (.lst (qa.map V.ref))
  lst : ∀ i q, qa[i]? = some q → H q = some (.lst ((ow i).map V.str))
  fr : ∀ q ∈ qa, H0 q = none ∧ q ≠ a ∧ q ≠ t ∧ q ≠ r ∧ q ≠ S
  nd : qa.Nodup
  ond : ∀ i, i < qa.length → (ow i).Nodup ∧ 1 ≤ (ow i).length
/-- what stands all the time -/
structure Rx (a t r S : Addr) (H0 : Hp) : Prop where
  ta : t ≠ a
  ra : r ≠ a
  Sa : S ≠ a
  St : S ≠ t
  Sr : S ≠ r
  r0 : H0 r = none
  S0 : H0 S = none
section
variable {a t r S q : Addr} {ns R : List Str} {H0 H H' : Hp} {qa : List Addr} {ow : Nat → List Str} {c z c' z' : Int}
theorem Rg.step (E : Rg a t r S ns R H0 H qa ow c z) (f : Rx a t r S H0) (s : SameB a H H') (b : BoxAt H' a c' z') : Rg a t r S ns R H0 H' qa ow c' z' :=
  ⟨E.sm.trans s, b, s _ _ f.ta E.et, s _ _ f.ra E.er, s _ _ f.Sa E.eS, fun i q h => s _ _ (E.fr q (List.mem_of_getElem? h)).2.1 (E.lst i q h), E.fr, E.nd, E.ond⟩
theorem Rg.box (E : Rg a t r S ns R H0 H qa ow c z) (f : Rx a t r S H0) : Rg a t r S ns R H0 (upd H a (.lst [.int c', .int z'])) qa ow c' z' := E.step f .updS .set
theorem Rg.nw {o : HO} (E : Rg a t r S ns R H0 H qa ow c z) (f : Rx a t r S H0) (h : H q = none) : Rg a t r S ns R H0 (upd H q o) qa ow c z := E.step f (.new h) (E.bx.nw h)
theorem Rg.start (ta : t ≠ a) (ra : r ≠ a) (r0 : H0 r = none) (sm : SameB a H0 H) (bx : BoxAt H a c z) (et : H t = some (.lst (ns.map V.str))) (et0 : H0 t = some (.lst (ns.map V.str))) (er : H r = some (.lst (R.map V.str))) (n : H S = none) :
    Rx a t r S H0 ∧ Rg a t r S ns R H0 (upd H S (.lst [])) [] (fun _ => []) c z :=
  have S0 := sm.old bx n
  ⟨⟨ta, ra, bx.ne n, (ne_of_none et0 S0).symm, (ne_of_none er n).symm, r0, S0⟩, ⟨sm.nw n, bx.nw n, nwS et n, nwS er n, upd_same, fun i q h => by simp at h, fun _ h => absurd h List.not_mem_nil, List.nodup_nil, fun i h => absurd h (Nat.not_lt_zero _)⟩⟩
theorem Rg.away {D : Addr} {o : HO} (E : Rg a t r S ns R H0 H qa ow c z) (d0 : H0 D = none) (da : D ≠ a) (dt : D ≠ t) (dr : D ≠ r) (dS : D ≠ S) (dq : ∀ q ∈ qa, D ≠ q) : Rg a t r S ns R H0 (upd H D o) qa ow c z :=
  ⟨E.sm.put d0, E.bx.put da, setS E.et dt.symm, setS E.er dr.symm, setS E.eS dS.symm, fun i q h => setS (E.lst i q h) (dq q (List.mem_of_getElem? h)).symm, E.fr, E.nd, E.ond⟩
/-- one more list -/
theorem Rg.add {ys : List Str} (E : Rg a t r S ns R H0 H qa ow c z) (f : Rx a t r S H0) (h : H q = none) (yn : ys.Nodup) (yl : 1 ≤ ys.length) :
    Rg a t r S ns R H0 (upd (upd H q (.lst (ys.map V.str))) S (.lst (qa.map V.ref ++ [.ref q]))) (qa ++ [q]) (fun i => if i < qa.length then ow i else ys) c z := by
  have hq : ∀ x ∈ qa, x ≠ q := fun x m => by
    obtain ⟨i, hi⟩ := List.getElem?_of_mem m
    exact ne_of_none (E.lst i x hi) h
  refine ⟨(E.sm.nw h).put f.S0, (E.bx.nw h).put f.Sa, setS (nwS E.et h) f.St.symm, setS (nwS E.er h) f.Sr.symm, by rw [upd_same, List.map_append]; rfl, fun i x hx => ?_, fun x m => ?_, ?_, fun i hi => ?_⟩
  · by_cases hi : i < qa.length
    · rw [List.getElem?_append_left hi] at hx
      show _ = some (HO.lst (List.map V.str (if i < qa.length then ow i else ys)))
      rw [if_pos hi]
      exact setS (nwS (E.lst i x hx) h) (E.fr x (List.mem_of_getElem? hx)).2.2.2.2
    · show _ = some (HO.lst (List.map V.str (if i < qa.length then ow i else ys)))
      rw [if_neg hi]
      rw [List.getElem?_append_right (by omega)] at hx
      have := List.mem_of_getElem? hx
      rw [List.mem_singleton] at this
      subst this
      exact setS upd_same (ne_of_none E.eS h).symm
  · rcases List.mem_append.mp m with m | m
    · exact E.fr x m
    · rw [List.mem_singleton] at m
      subst m
      exact ⟨E.sm.old E.bx h, E.bx.ne h, (ne_of_none E.et h).symm, (ne_of_none E.er h).symm, (ne_of_none E.eS h).symm⟩
  · rw [List.nodup_append]
    refine ⟨E.nd, List.nodup_cons.mpr ⟨List.not_mem_nil, List.nodup_nil⟩, fun u hu v hv => ?_⟩
    rw [List.mem_singleton] at hv
    subst hv
    exact hq u hu
  · show List.Nodup (if i < qa.length then ow i else ys) ∧ 1 ≤ (if i < qa.length then ow i else ys).length
    split
    · exact E.ond i (by assumption)
    · exact ⟨yn, yl⟩
/-- one list longer -/
theorem Rg.ext {j : Nat} {y : Str} (E : Rg a t r S ns R H0 H qa ow c z) (hj : qa[j]? = some q) (hy : y ∉ ow j) :
    Rg a t r S ns R H0 (upd H q (.lst ((ow j).map V.str ++ [.str y]))) qa (fun i => if i = j then ow i ++ [y] else ow i) c z := by
  have g := E.fr q (List.mem_of_getElem? hj)
  refine ⟨E.sm.put g.1, E.bx.put g.2.1, setS E.et g.2.2.1.symm, setS E.er g.2.2.2.1.symm, setS E.eS g.2.2.2.2.symm, fun i x hx => ?_, E.fr, E.nd, fun i hi => ?_⟩
  · show _ = some (HO.lst (List.map V.str (if i = j then ow i ++ [y] else ow i)))
    by_cases e : i = j
    · subst e
      rw [if_pos rfl]
      rw [hj] at hx
      cases hx
      rw [upd_same, List.map_append]
      rfl
    · rw [if_neg e]
      refine setS (E.lst i x hx) fun h => e ?_
      subst h
      exact nodup_at E.nd hx hj
  · show List.Nodup (if i = j then ow i ++ [y] else ow i) ∧ 1 ≤ (if i = j then ow i ++ [y] else ow i).length
    by_cases e : i = j
    · subst e
      rw [if_pos rfl]
      have o := E.ond i hi
      refine ⟨?_, by rw [List.length_append]; omega⟩
      rw [List.nodup_append]
      refine ⟨o.1, List.nodup_cons.mpr ⟨List.not_mem_nil, List.nodup_nil⟩, fun u hu v hv => ?_⟩
      rw [List.mem_singleton] at hv
      subst hv
      exact fun h => hy (h ▸ hu)
    · rw [if_neg e]
      exact E.ond i hi
end
theorem filter_len {x : Str} : ∀ {xs : List Str}, xs.Nodup → x ∈ xs → (xs.filter fun y => !decide (V.str y = V.str x)).length + 1 = xs.length := by
  intro xs nd m
  have e : (xs.filter fun y => !decide (V.str y = V.str x)) = xs.erase x := by
    rw [nd.erase_eq_filter]
    refine List.filter_congr fun y _ => ?_
    rw [dec_str]
    rfl
  rw [e, List.length_erase_of_mem m]
  have := List.length_pos_of_mem m
  omega

section
variable {P : Program} {w : World} {K : PySem.W.Frag} {mg : Str → Option Value} {base : Heap}
theorem ok_lring {f : Addr} {fd : FuncData} (F : Fun K "_law_ring_tables" "_law_ring_tables" s_lring_tables f fd) (T : Bl mg) (c_ltake : Cal P w K mg base 1 "_law_take" ["_law_box_here", "_law_many"] spTake) (c_lsome_columns : Cal P w K mg base 3 "_law_some_columns" ["_law_box_here", "_law_names_here", "_law_many"] (spSome K)) (c_lorder : Cal P w K mg base 2 "_law_order" ["_law_box_here", "_law_things"] (spOrder K)) : FnOk P w K mg base CX0 4 f fd ["_law_box_here", "_law_names_here"] spTabs := by
  refine F.ok sc_lring_tables (fun vs H Q E h => ?_) (fun cdv A outer s H vs Q E hr h => ?_)
  · obtain ⟨a, t, c, z, ns, rfl, _⟩ := h
    rfl
  · obtain ⟨a, t, c, z, ns, rfl, hb, nta, et, nl, nd, q⟩ := h
    refine ⟨_, (pss_cons (ps_set (i := 2) sc_lring_tables.nd rfl (Or.inr rfl) (pe_op op_add pe_int (pe_cl c_ltake hr (by decide) (pa_cons (pv 0) (pa_cons pe_int pa_nil)))))
      (pss_cons (ps_set (i := 3) sc_lring_tables.nd rfl (Or.inr rfl) (pe_slice sl_list (pv 1) po_none (po_some (pv 2))))
      (pss_cons (ps_setLc (i := 4) (own := [("_law_k", 7)]) (g := gName 7) (tt := tYes) rfl sc_lring_tables.nd rfl rfl (sw_true rfl rfl rfl (by decide +kernel)) (pi_range1 (by rfl) T.range (pa_cons (pv 2) pa_nil)) (blkOk_by (own := [("_law_k", 7)]) (N := N_lring_tables) (sc := defScope s_lring_tables) (by decide +kernel)) (fun _ _ _ _ _ => (pg_name (i := 7) sc_lring_tables.nd rfl (Or.inl rfl))) (fun _ _ _ _ _ => pts_nil) (fun _ _ _ _ _ => (pe_lst (pa_cons (pe_ix (ix_listK (K := K) rfl) (pv 3) (pv 7) (fun _ _ => rfl)) (pa_cons (pe_ix (ix_listK (K := K) rfl) (pv 3) (pe_op op_mod (pe_op op_add (pv 7) pe_int) (pv 2)) (fun _ _ => rfl)) pa_nil)))))
      (Evl.pss_cut (ps_if (PW.pt (pw_and (pt_cmpR op_lt (pv 2) pe_int (nomark _)) (pw_and1 (pt_cmpR op_eq (pe_cl c_ltake hr (by decide) (pa_cons (pv 0) (pa_cons pe_int pa_nil))) pe_int (nomark _))))) (pss_one (ps_setLc (i := 4) (own := [("_law_one", 5)]) (g := gName 5) (tt := tYes) rfl sc_lring_tables.nd rfl rfl (sw_true rfl rfl rfl (by decide +kernel)) (pi_list (pv 3)) (blkOk_by (own := [("_law_one", 5)]) (N := N_lring_tables) (sc := defScope s_lring_tables) (by decide +kernel)) (fun _ _ _ _ _ => (pg_name (i := 5) sc_lring_tables.nd rfl (Or.inr rfl))) (fun _ _ _ _ _ => pts_nil) (fun _ _ _ _ _ => (pe_lc (own := [("_law_column", 8)]) (g := gName 8) rfl sc_lring_tables.nd (pi_listK (K := K) rfl (pv 3)) (blkOk_by (own := [("_law_column", 8)]) (N := N_lring_tables) (sc := relS _ (defScope s_lring_tables)) (by decide +kernel)) (fun _ _ _ _ _ => (pg_name (i := 8) sc_lring_tables.nd rfl (Or.inl rfl))) (fun _ _ _ _ _ => (pts_one (pt_cmpR op_ne (pv 8) (pv 5) (nomark _)))) (fun _ _ _ _ _ => (pv 8)))))) pss_nil)
      (Evl.pss_cut (ps_if (PW.pt (pw_and (pt_cmpR op_lt (pv 2) pe_int (nomark _)) (pw_and1 (pt_cmpR op_eq (pe_cl c_ltake hr (by decide) (pa_cons (pv 0) (pa_cons pe_int pa_nil))) pe_int (nomark _))))) (pss_cons (ps_set (i := 5) sc_lring_tables.nd rfl (Or.inl rfl) (pe_ix ix_list (pv 4) (pe_cl c_ltake hr (by decide) (pa_cons (pv 0) (pa_cons (pv 2) pa_nil))) (fun _ _ => rfl)))
      (pss_one (ps_expr (pe_bm PySem.F.plainAttrs_list PySem.F.slot_list_append PySem.F.type_list_append mt_append (pv 4) (pa_cons (pe_callTy call_list_of (by rfl) T.list boot_list (pa_cons (pe_cl c_lsome_columns hr (by decide) (pa_cons (pv 0) (pa_cons (pv 5) (pa_cons (pe_op op_add pe_int (pe_cl c_ltake hr (by decide) (pa_cons (pv 0) (pa_cons pe_int pa_nil)))) pa_nil)))) pa_nil)) pa_nil))))) pss_nil)
      (Evl.pss_cut (ps_if (PW.pt (pw_and (pt_cmpR op_lt (pv 2) pe_int (nomark _)) (pw_and (pt_cmpR op_lt (pe_callB call_len_seq (by rfl) T.len boot_len (pa_cons (pe_ix ix_list (pv 4) pe_int (fun _ _ => rfl)) pa_nil)) pe_int (nomark _)) (pw_and1 (pt_cmpR op_eq (pe_cl c_ltake hr (by decide) (pa_cons (pv 0) (pa_cons pe_int pa_nil))) pe_int (nomark _)))))) (pss_one (ps_for PassesOwn.never rfl (pi_list (pe_slice sl_list (pv 4) po_none (po_some (pe_op op_add pe_int (pe_cl c_ltake hr (by decide) (pa_cons (pv 0) (pa_cons pe_int pa_nil))))))) (pg_name (i := 6) sc_lring_tables.nd rfl (Or.inl rfl)) (pss_one (ps_expr (pe_bm PySem.F.plainAttrs_list PySem.F.slot_list_append PySem.F.type_list_append mt_append (pv 6) (pa_cons (pe_ix ix_list (pv 1) (pv 2) (fun _ _ => rfl)) pa_nil)))))) pss_nil)
      (pss_one (ps_ret (pe_lc (own := [("_law_own", 6)]) (g := gName 6) (tt := tYes) rfl sc_lring_tables.nd (pi_list (pe_cl c_lorder hr (by decide) (pa_cons (pv 0) (pa_cons (pv 4) pa_nil)))) (blkOk_by (own := [("_law_own", 6)]) (N := N_lring_tables) (sc := defScope s_lring_tables) (by decide +kernel)) (fun _ _ _ _ _ => (pg_name (i := 6) sc_lring_tables.nd rfl (Or.inl rfl))) (fun _ _ _ _ _ => pts_nil) (fun _ _ _ _ _ => (pe_callTy (call_tuple_ofK (K := K) rfl) (by rfl) T.tuple boot_tuple (pa_cons (pe_cl c_lorder hr (by decide) (pa_cons (pv 0) (pa_cons (pv 6) pa_nil))) pa_nil)))))))))))), ?_⟩
    refine ⟨_, rfl, a, 4, c, z, rfl, hb, by decide, by decide, fun d c1 z1 hd => ?_⟩
    refine ⟨_, _, rfl, rfl, ?_⟩
    obtain ⟨m, hm⟩ : ∃ m : Nat, m = 3 + d := ⟨_, rfl⟩
    have em : (3 : Int) + (d : Int) = (m : Int) := by omega
    show gName 2 (.int ((3 : Int) + (d : Int))) _ _ _
    rw [em]
    have hm3 : 3 ≤ m ∧ m ≤ 6 := by omega
    clear hm em hd
    have s1 := SameB.updS (a := a) (H := H) (o := .lst [.int c1, .int z1])
    refine ⟨_, rfl, _, rfl, _, rfl, t, _, rfl, SqL.of (setS et nta), fun r nr => ?_⟩
    have ec : cutV (ns.map V.str) none (some (m : Int)) = (ns.take m).map V.str := (cut_take _ m).trans (List.map_take ..).symm
    rw [ec]
    have Rl : (ns.take m).length = m := by rw [List.length_take, nl]; omega
    have Rd : (ns.take m).Nodup := nd.sublist (List.take_sublist _ _)
    obtain ⟨R, hR⟩ : ∃ R, R = ns.take m := ⟨_, rfl⟩
    rw [← hR] at Rl Rd ⊢
    refine ⟨_, rfl, _, rfl, by omega, by omega, fun S nS => ?_⟩
    have b1 := (BoxAt.set (H := H) (a := a) (c := c1) (s := z1)).nw (o := .lst (R.map V.str)) nr
    have nra := (BoxAt.set (H := H) (a := a) (c := c1) (s := z1)).ne nr
    have r0 := s1.old .set nr
    obtain ⟨fx, E0⟩ := Rg.start (ns := ns) (R := R) nta nra r0 (s1.nw nr) b1 (nwS (setS et nta) nr) et upd_same nS
    refine lc_it (walk_range (n := (m : Int).toNat)) (fun i H' => ∃ (qa : List Addr) (ow : Nat → List Str), qa.length = i ∧ (∀ i, i < qa.length → (ow i).length ≤ 5 ∧ ∀ y ∈ ow i, y ∈ R) ∧ Rg a t r S ns R H H' qa ow c1 z1)
      ⟨[], fun _ => [], rfl, fun i h => absurd h (Nat.not_lt_zero _), E0⟩ (fun _ _ _ _ => trivial) ?_ ?_
    · rintro i x H1 H2 hi ⟨qa, ow, ql, sub, E1⟩ ⟨rfl, rfl⟩
      have hi' : i < m := by omega
      refine ⟨rfl, ?_⟩
      have e0 : (0 : Int) + (i : Int) = ((i : Nat) : Int) := by omega
      have hj : (i + 1) % m < m := Nat.mod_lt _ (by omega)
      have e1 : ((0 : Int) + (i : Int) + 1) % (m : Int) = (((i + 1) % m : Nat) : Int) := by rw [show (0 : Int) + (i : Int) + 1 = ((i + 1 : Nat) : Int) by omega]; exact (Int.natCast_emod _ _).symm
      have r1 : (R.map V.str)[i]? = some (.str (R[i]'(by omega))) := by rw [List.getElem?_map, List.getElem?_eq_getElem (by omega)]; rfl
      have r2 : (R.map V.str)[(i + 1) % m]? = some (.str (R[(i + 1) % m]'(by omega))) := by rw [List.getElem?_map, List.getElem?_eq_getElem (by omega)]; rfl
      refine ⟨_, rfl, _, rfl, r, _, _, _, rfl, rfl, SqL.of E1.er, by rw [e0]; exact atI_nat r1, _, rfl, _, rfl, _, _, rfl, rfl, _, rfl, _, _, rfl, rfl, (by show (0 : Int) < (m : Int); omega), r, _, _, _, rfl, rfl, SqL.of E1.er, by rw [e1]; exact atI_nat r2, by show 2 ≤ sizeLine; decide, fun q1 nq1 => ?_⟩
      have ne1 : R[i]'(by omega) ≠ R[(i + 1) % m]'(by omega) := fun h => by
        have := nodup_at Rd (List.getElem?_eq_getElem (show i < R.length by omega)) (by rw [h]; exact List.getElem?_eq_getElem (show (i + 1) % m < R.length by omega))
        by_cases hm : i + 1 < m
        · rw [Nat.mod_eq_of_lt hm] at this
          omega
        · have : i + 1 = m := by omega
          subst this
          rw [Nat.mod_self] at *
          omega
      have E2 := E1.add (ys := [R[i]'(by omega), R[(i + 1) % m]'(by omega)]) fx nq1 (by
        refine List.nodup_cons.mpr ⟨fun h => ne1 (List.mem_singleton.mp h), List.nodup_cons.mpr ⟨List.not_mem_nil, List.nodup_nil⟩⟩) (by show 1 ≤ 2; decide)
      refine ⟨_, nwS E1.eS nq1, small_len (m := 6) (by rw [List.length_map]; omega), qa ++ [q1], _, by rw [List.length_append, ql]; rfl, fun j hj => ?_, E2⟩
      show (if j < qa.length then ow j else [R[i]'(by omega), R[(i + 1) % m]'(by omega)]).length ≤ 5 ∧ ∀ y ∈ (if j < qa.length then ow j else [R[i]'(by omega), R[(i + 1) % m]'(by omega)]), y ∈ R
      split
      · exact sub j (by assumption)
      · refine ⟨by show 2 ≤ 5; decide, fun y hy => ?_⟩
        rcases List.mem_cons.mp hy with h | h
        · rw [h]
          exact List.getElem_mem _
        · rw [List.mem_singleton.mp h]
          exact List.getElem_mem _
    · rintro H1 ⟨qa, ow, ql, sub, E1⟩
      have ql : qa.length = m := by omega
      -- each without one
      refine ⟨fun σ' H' => ∃ (S : Addr) (qa : List Addr) (ow : Nat → List Str) (c z : Int), σ' = [some (.ref a), some (.ref t), some (.int (m : Int)), some (.ref r), some (.ref S), none, none, none, none] ∧ Rx a t r S H ∧ qa.length = m ∧ (∀ i, i < qa.length → (ow i).length ≤ 5 ∧ ∀ y ∈ ow i, y ∈ R) ∧ Rg a t r S ns R H H' qa ow c z, ?_, fun σ' H' hm => ?_⟩
      · refine ⟨_, rfl, _, _, rfl, rfl, _, rfl, ite2 (fun e => ?_) (fun e => ?_)⟩
        · refine ⟨_, rfl, a, 2, c1, z1, rfl, E1.bx, by decide, by decide, fun d2 c2 z2 hd2 => ?_⟩
          refine ⟨rfl, _, rfl, ite2 (fun e2 => ?_) (fun e2 => ?_)⟩
          · have E2 := E1.box (c' := c2) (z' := z2) fx
            clear fx sub ql
            refine ⟨_, rfl, r, rfl, ⟨_, SqL.of E2.er⟩, fun S2 nS2 => ?_⟩
            obtain ⟨fx, E3⟩ := Rg.start (ns := ns) (R := R) nta nra r0 E2.sm E2.bx E2.et et E2.er nS2
            have lw := walk_list (K := K) (a := r) (xs := R.map V.str)
            rw [List.length_map] at lw
            refine lc_it lw (fun i H' => ∃ (qa : List Addr) (ow : Nat → List Str), qa.length = i ∧ (∀ i, i < qa.length → (ow i).length ≤ 5 ∧ ∀ y ∈ ow i, y ∈ R) ∧ Rg a t r S2 ns R H H' qa ow c2 z2)
              ⟨[], fun _ => [], rfl, fun i h => absurd h (Nat.not_lt_zero _), E3⟩ (fun _ _ _ ⟨_, _, _, _, E⟩ => SqL.of E.er) ?_ ?_
            · rintro i x H2 H3 hi ⟨qa, ow, ql, sub, E4⟩ ⟨rfl, hx⟩
              rw [List.getElem?_map, List.getElem?_eq_getElem hi] at hx
              have hx := (Option.some.inj hx).symm
              subst hx
              have hi' : i < m := by omega
              refine ⟨rfl, ?_⟩
              refine ⟨_, rfl, r, rfl, ⟨_, SqL.of E4.er⟩, fun D nD => ?_⟩
              refine lc_it lw (fun j H' => H' = upd H3 D (.lst (((R.take j).filter fun y => !decide (V.str y = V.str R[i])).map V.str)))
                rfl ?_ ?_ ?_
              · rintro j H' _ rfl
                exact SqL.of (nwS E4.er nD)
              · rintro j x H' H5 hj rfl ⟨rfl, hx⟩
                rw [List.getElem?_map, List.getElem?_eq_getElem hj] at hx
                have hx := (Option.some.inj hx).symm
                subst hx
                refine ⟨rfl, ?_⟩
                have tk : R.take (j + 1) = R.take j ++ [R[j]] := List.take_succ_eq_append_getElem hj
                refine ⟨_, rfl, _, rfl, rfl, _, rfl, ite2 (fun e => ?_) (fun e => ?_)⟩
                · refine ⟨_, rfl, _, upd_same, small_len (m := 6) ?_, ?_⟩
                  · rw [List.length_map]
                    exact Nat.le_trans (List.length_filter_le _ _) (by rw [List.length_take]; omega)
                  · show upd (upd H3 D _) D _ = _
                    rw [upd_upd, tk, List.filter_append, List.map_append]
                    refine congrArg (fun x => upd H3 D (.lst (_ ++ x))) ?_
                    rw [List.filter_cons_of_pos (p := fun y => !decide (V.str y = V.str R[i])) e]
                    rfl
                · show upd H3 D _ = _
                  rw [tk, List.filter_append, List.filter_cons_of_neg (p := fun y => !decide (V.str y = V.str R[i])) e]
                  show _ = upd H3 D (HO.lst (List.map V.str (_ ++ [])))
                  rw [List.append_nil]
              · rintro H' rfl
                rw [List.take_length]
                have fl := filter_len Rd (List.getElem_mem hi)
                have E5 := E4.add (ys := R.filter fun y => !decide (V.str y = V.str R[i])) fx nD (Rd.sublist List.filter_sublist) (by omega)
                refine ⟨_, nwS E4.eS nD, small_len (m := 6) (by rw [List.length_map]; omega), qa ++ [D], _, by rw [List.length_append, ql]; rfl, fun j hj => ?_, E5⟩
                show (if j < qa.length then ow j else R.filter fun y => !decide (V.str y = V.str R[i])).length ≤ 5 ∧ ∀ y ∈ (if j < qa.length then ow j else R.filter fun y => !decide (V.str y = V.str R[i])), y ∈ R
                split
                · exact sub j (by assumption)
                · exact ⟨by omega, fun y hy => (List.mem_filter.mp hy).1⟩
            · rintro H2 ⟨qa, ow, ql, sub, E4⟩
              exact ⟨S2, qa, ow, c2, z2, rfl, fx, by omega, sub, E4⟩
          · exact ⟨S, qa, ow, c2, z2, rfl, fx, ql, sub, E1.box fx⟩
        · exact ⟨S, qa, ow, c1, z1, rfl, fx, ql, sub, E1⟩
      · clear fx E0 E1 sub ql
        obtain ⟨S, qa, ow, c1, z1, rfl, fx, ql, sub, E1⟩ := hm
        -- one list more
        refine ⟨fun σ' H' => ∃ (x5 : Option V) (qa : List Addr) (ow : Nat → List Str) (c z : Int), σ' = [some (.ref a), some (.ref t), some (.int (m : Int)), some (.ref r), some (.ref S), x5, none, none, none] ∧ 3 ≤ qa.length ∧ qa.length ≤ 6 ∧ (∀ i, i < qa.length → (ow i).length ≤ 5 ∧ ∀ y ∈ ow i, y ∈ R) ∧ Rg a t r S ns R H H' qa ow c z, ?_, fun σ' H' hm => ?_⟩
        · refine ⟨_, rfl, _, _, rfl, rfl, _, rfl, ite2 (fun e => ?_) (fun e => ?_)⟩
          · have hm6 : (m : Int) < 6 := of_decide_eq_true e
            refine ⟨_, rfl, a, 2, c1, z1, rfl, E1.bx, by decide, by decide, fun d2 c2 z2 hd2 => ?_⟩
            have E2 := E1.box (c' := c2) (z' := z2) fx
            refine ⟨rfl, _, rfl, ite2 (fun e2 => ?_) (fun e2 => ?_)⟩
            · refine ⟨_, rfl, _, rfl, _, rfl, a, _, c2, z2, rfl, E2.bx, (by omega), (by omega), fun d3 c3 z3 hd3 => ?_⟩
              have E3 := E2.box (c' := c3) (z' := z3) fx
              have hd : d3 < qa.length := by omega
              have eq1 : (qa.map V.ref)[d3]? = some (.ref qa[d3]) := by rw [List.getElem?_map, List.getElem?_eq_getElem hd]; rfl
              refine ⟨S, _, _, _, rfl, rfl, SqL.of E3.eS, atI_nat eq1, ?_⟩
              have eo := E3.lst d3 _ (List.getElem?_eq_getElem hd)
              refine ⟨_, rfl, .inl ⟨rfl, _, SqL.of E3.eS⟩, _, rfl, _, rfl, _, rfl, a, 2, c3, z3, rfl, E3.bx, by decide, by decide, fun d4 c4 z4 hd4 => ?_⟩
              have E4 := E3.box (c' := c4) (z' := z4) fx
              have eo := E4.lst d3 _ (List.getElem?_eq_getElem hd)
              have sd := sub d3 hd
              have on := E4.ond d3 hd
              refine ⟨_, _, rfl, rfl, a, _, c4, z4, ow d3, 1 + d4, rfl, E4.bx, .inl (SqL.of eo), by omega, on.1, fun u ys c5 z5 H3 ynd ymem yl nu eu s3 b3 => ?_⟩
              have E5 := E4.step fx s3 b3
              refine ⟨u, _, rfl, .inr (SqT.of eu), fun v nv => ?_⟩
              refine ⟨S, _, _, rfl, rfl, nwS E5.eS nv, small_len (m := 6) (by rw [List.length_map]; omega), _, qa ++ [v], _, c5, z5, rfl, ?_, ?_, fun i hi => ?_, E5.add (ys := ys) fx nv ynd (by omega)⟩
              · rw [List.length_append]
                omega
              · rw [List.length_append]
                show qa.length + 1 ≤ 6
                omega
              · show (if i < qa.length then ow i else ys).length ≤ 5 ∧ ∀ y ∈ (if i < qa.length then ow i else ys), y ∈ R
                split
                · exact sub i (by assumption)
                · exact ⟨by omega, fun y hy => sd.2 y (ymem y hy)⟩
            · exact ⟨_, qa, ow, c2, z2, rfl, by omega, by omega, sub, E2⟩
          · exact ⟨_, qa, ow, c1, z1, rfl, by omega, by omega, sub, E1⟩
        · clear E1 sub ql
          obtain ⟨x5, qa, ow, c1, z1, rfl, ql3, ql6, sub, E1⟩ := hm
          -- lists longer
          refine ⟨fun σ' H' => ∃ (x5 x6 : Option V) (ow : Nat → List Str) (c z : Int), σ' = [some (.ref a), some (.ref t), some (.int (m : Int)), some (.ref r), some (.ref S), x5, x6, none, none] ∧ (∀ i, i < qa.length → (ow i).length ≤ 6) ∧ Rg a t r S ns R H H' qa ow c z, ?_, fun σ' H' hm => ?_⟩
          · refine ⟨_, rfl, _, _, rfl, rfl, _, rfl, ite2 (fun e => ?_) (fun e => ?_)⟩
            · have hm6 : (m : Int) < 6 := of_decide_eq_true e
              have eq1 : (qa.map V.ref)[0]? = some (.ref (qa[0]'(by omega))) := by rw [List.getElem?_map, List.getElem?_eq_getElem (by omega)]; rfl
              refine ⟨_, rfl, S, _, 0, _, rfl, rfl, SqL.of E1.eS, atI_nat (j := 0) eq1, _, _, rfl, .inl (SqL.of (E1.lst 0 _ (List.getElem?_eq_getElem (by omega)))), _, _, rfl, rfl, _, rfl, ite2 (fun e1 => ?_) (fun e1 => ?_)⟩
              · refine ⟨_, rfl, a, 2, c1, z1, rfl, E1.bx, by decide, by decide, fun d2 c2 z2 hd2 => ?_⟩
                have E2 := E1.box (c' := c2) (z' := z2) fx
                refine ⟨rfl, _, rfl, ite2 (fun e2 => ?_) (fun e2 => ?_)⟩
                · refine ⟨_, rfl, _, rfl, a, 2, c2, z2, rfl, E2.bx, by decide, by decide, fun d3 c3 z3 hd3 => ?_⟩
                  have E3 := E2.box (c' := c3) (z' := z3) fx
                  refine ⟨_, _, rfl, rfl, _, rfl, S, _, rfl, SqL.of E3.eS, fun L nL => ?_⟩
                  have ec : cutV (qa.map V.ref) none (some (1 + (d3 : Int))) = (qa.take (1 + d3)).map V.ref := (cut_take _ (1 + d3)).trans (List.map_take ..).symm
                  rw [ec]
                  have nLq : ∀ q ∈ qa, L ≠ q := fun q hq => by
                    obtain ⟨i, hi⟩ := List.getElem?_of_mem hq
                    exact (ne_of_none (E3.lst i q hi) nL).symm
                  have E4 := E3.nw (o := .lst ((qa.take (1 + d3)).map V.ref)) fx nL
                  refine ⟨L, rfl, ⟨_, SqL.of upd_same⟩, ?_⟩
                  have lw := walk_list (K := K) (a := L) (xs := (qa.take (1 + d3)).map V.ref)
                  rw [List.length_map, List.length_take, Nat.min_eq_left (by omega)] at lw
                  refine for_it lw (fun j σ H' => ∃ (x6 : Option V) (ow : Nat → List Str), σ = [some (.ref a), some (.ref t), some (.int (m : Int)), some (.ref r), some (.ref S), x5, x6, none, none] ∧ H' L = some (.lst ((qa.take (1 + d3)).map V.ref)) ∧ (∀ i, i < qa.length → (ow i).length ≤ 6 ∧ (j ≤ i → (ow i).length ≤ 5 ∧ ∀ y ∈ ow i, y ∈ R)) ∧ Rg a t r S ns R H H' qa ow c3 z3)
                    ⟨_, ow, rfl, upd_same, fun i hi => ⟨Nat.le_trans (sub i hi).1 (by decide), fun _ => sub i hi⟩, E4⟩ (fun j σ H' _ h => by obtain ⟨_, _, _, eL, _⟩ := h; exact SqL.of eL) ?_ ?_
                  · rintro j x σ H3 H5 hj ⟨x6, ow, rfl, eL, sub, E5⟩ ⟨rfl, hx⟩
                    have hjq : j < qa.length := by omega
                    have hq : qa[j]? = some qa[j] := List.getElem?_eq_getElem hjq
                    rw [List.getElem?_map, List.getElem?_take_of_lt hj, hq] at hx
                    have hx := (Option.some.inj hx).symm
                    subst hx
                    have hmn : m < ns.length := by omega
                    have hmy : (ns.map V.str)[m]? = some (.str ns[m]) := by rw [List.getElem?_map, List.getElem?_eq_getElem hmn]; rfl
                    have eo := E5.lst j _ hq
                    have sj := sub j hjq
                    refine ⟨_, rfl, .inl ⟨rfl, _, SqL.of eo⟩, _, rfl, _, rfl, t, _, _, _, rfl, rfl, SqL.of E5.et, atI_nat hmy, qa[j], _, _, rfl, rfl, eo, small_len (m := 6) (by rw [List.length_map]; exact sj.1), ?_⟩
                    have ny : ns[m] ∉ ow j := fun h => by
                      have h1 := (sj.2 (Nat.le_refl _)).2 _ h
                      rw [hR] at h1
                      obtain ⟨k, hk⟩ := List.getElem?_of_mem h1
                      have hk2 : k < m := by
                        have := (List.getElem?_eq_some_iff.mp hk).1
                        rw [List.length_take] at this
                        omega
                      rw [List.getElem?_take_of_lt hk2] at hk
                      have := nodup_at nd hk (List.getElem?_eq_getElem hmn)
                      omega
                    refine ⟨_, _, rfl, setS eL (nLq _ (List.getElem_mem hjq)), fun i hi => ?_, E5.ext hq ny⟩
                    show (if i = j then ow i ++ [ns[m]] else ow i).length ≤ 6 ∧ (j + 1 ≤ i → (if i = j then ow i ++ [ns[m]] else ow i).length ≤ 5 ∧ ∀ y ∈ (if i = j then ow i ++ [ns[m]] else ow i), y ∈ R)
                    by_cases e : i = j
                    · subst e
                      rw [if_pos rfl]
                      refine ⟨?_, fun h => absurd h (Nat.not_succ_le_self _)⟩
                      rw [List.length_append]
                      have := (sj.2 (Nat.le_refl _)).1
                      show _ + 1 ≤ 6
                      omega
                    · rw [if_neg e]
                      exact ⟨(sub i hi).1, fun h => (sub i hi).2 (by omega)⟩
                  · rintro σ H3 ⟨x6, ow, rfl, eL, sub, E5⟩
                    exact ⟨_, _, ow, c3, z3, rfl, fun i hi => (sub i hi).1, E5⟩
                · exact ⟨_, _, ow, c2, z2, rfl, fun i hi => Nat.le_trans (sub i hi).1 (by decide), E2⟩
              · exact ⟨_, _, ow, c1, z1, rfl, fun i hi => Nat.le_trans (sub i hi).1 (by decide), E1⟩
            · exact ⟨_, _, ow, c1, z1, rfl, fun i hi => Nat.le_trans (sub i hi).1 (by decide), E1⟩
          · clear E1 sub
            obtain ⟨x5, x6, ow, c1, z1, rfl, sub, E1⟩ := hm
            -- each in a drawn order
            refine ⟨_, rfl, _, rfl, a, S, c1, z1, qa.map V.ref, rfl, E1.bx, .inl (SqL.of E1.eS), by rw [List.length_map]; omega, fun O os c2 z2 H3 pm nO eO s3 b3 => ?_⟩
            obtain ⟨zs, pz, rfl⟩ := perm_map_back V.ref pm qa rfl
            have E2 := E1.step fx s3 b3
            refine ⟨O, rfl, ⟨_, SqL.of eO⟩, fun D nD => ?_⟩
            have lw := walk_list (K := K) (a := O) (xs := zs.map V.ref)
            rw [List.length_map] at lw
            have zl := pz.length_eq
            have nOa : O ≠ a := E1.bx.ne nO
            have nDa : D ≠ a := b3.ne nD
            have D0 : H D = none := E2.sm.old b3 nD
            have nOD : O ≠ D := ne_of_none eO nD
            refine lc_it lw (fun i H' => ∃ (ows : List (Addr × List Str)) (c z : Int), ows.length = i ∧ H' D = some (.lst (refsOf ows)) ∧ H' O = some (.lst (zs.map V.ref)) ∧ (∀ o ∈ ows, Own H' o) ∧ Rg a t r S ns R H H' qa ow c z)
              ⟨[], c2, z2, rfl, upd_same, nwS eO nD, fun _ h => absurd h List.not_mem_nil, E2.nw fx nD⟩ (fun i H' _ h => by obtain ⟨_, _, _, _, _, e, _⟩ := h; exact SqL.of e) ?_ ?_
            · rintro i x H4 H5 hi ⟨ows, c3, z3, ol, eD, eO, ho, E3⟩ ⟨rfl, hx⟩
              rw [List.getElem?_map, List.getElem?_eq_getElem hi] at hx
              have hx := (Option.some.inj hx).symm
              subst hx
              refine ⟨rfl, ?_⟩
              have hm : zs[i] ∈ qa := pz.mem_iff.mp (List.getElem_mem hi)
              obtain ⟨k, hk⟩ := List.getElem?_of_mem hm
              have hkl : k < qa.length := (List.getElem?_eq_some_iff.mp hk).1
              have eo := E3.lst k _ hk
              have on := E3.ond k hkl
              have os := sub k hkl
              refine ⟨_, rfl, _, rfl, a, zs[i], c3, z3, (ow k).map V.str, rfl, E3.bx, .inl (SqL.of eo), by rw [List.length_map]; omega, fun u ys c4 z4 H6 pm2 nu eu s4 b4 => ?_⟩
              obtain ⟨ws, pw, rfl⟩ := perm_map_back V.str pm2 (ow k) rfl
              refine ⟨u, _, rfl, .inl ⟨SqL.of eu, fun v nv => ?_⟩⟩
              have E4 := (E3.step fx s4 b4).nw (o := .tup (ws.map V.str)) fx nv
              have s5 := s4.trans (SameB.new (o := .tup (ws.map V.str)) nv)
              have eD5 := s5 _ _ nDa eD
              have wl := pw.length_eq
              refine ⟨_, eD5, small_len (m := 6) (by rw [refs_len]; omega), ows ++ [(v, ws)], c4, z4, by rw [List.length_append, ol]; rfl, ?_, setS (s5 _ _ nOa eO) nOD, fun o ho' => ?_, ?_⟩
              · rw [upd_same]
                exact congrArg (fun x => some (HO.lst x)) (refs_snoc ows (v, ws))
              · rcases List.mem_append.mp ho' with h | h
                · exact ((ho o h).sameB E3.bx s5).put eD5
                · cases List.mem_singleton.mp h
                  refine Own.put ⟨upd_same, pw.symm.nodup on.1, ?_, ?_⟩ eD5
                  · show 1 ≤ ws.length
                    omega
                  · show ws.length ≤ 6
                    omega
              · refine E4.away D0 nDa (ne_of_none E2.et nD).symm (ne_of_none E2.er nD).symm (ne_of_none E2.eS nD).symm fun q hq => ?_
                obtain ⟨k2, hk2⟩ := List.getElem?_of_mem hq
                exact (ne_of_none (E2.lst k2 q hk2) nD).symm
            · rintro H4 ⟨ows, c3, z3, ol, eD, eO, ho, E3⟩
              exact q D ows c3 z3 H4 (by omega) (by omega) ho D0 eD E3.sm E3.bx
end
end MW
namespace MW
open PySem PySem.Spec PyProof.Rows L2
/-! ### questions -/
structure Row where
  T : Addr
  nm : Str
  o : Addr
  own : List Str
def RowOk (H : Hp) (r : Row) : Prop := H r.T = some (.tup [.str r.nm, .ref r.o]) ∧ Own H (r.o, r.own)
def qRefs (rs : List Row) : List V := rs.map fun r => V.ref r.T
/-- the question's tuple at p -/
structure Qs (K : PySem.W.Frag) (H : Hp) (p : Addr) (rs : List Row) : Prop where
  tup : SqT K H p (qRefs rs)
  rows : ∀ r ∈ rs, RowOk H r
  nms : (rs.map Row.nm).Nodup
  pos : 1 ≤ rs.length
  six : rs.length ≤ 6
theorem zip_fst_sub {α β : Type} : ∀ (xs : List α) (ys : List β), ((xs.zip ys).map Prod.fst).Sublist xs
  | [], _ => by simp
  | x :: xs, [] => by simp
  | x :: xs, y :: ys => by
    rw [List.zip_cons_cons, List.map_cons]
    exact (zip_fst_sub xs ys).cons₂ x
theorem zip_snd_take {α β : Type} : ∀ (xs : List α) (ys : List β), xs.length ≤ ys.length → (xs.zip ys).map Prod.fst = xs
  | [], _, _ => by simp
  | x :: xs, [], h => absurd h (Nat.not_succ_le_zero _)
  | x :: xs, y :: ys, h => by
    rw [List.zip_cons_cons, List.map_cons, zip_snd_take xs ys (Nat.le_of_succ_le_succ h)]
theorem zip_snd_eq {α β : Type} : ∀ (xs : List α) (ys : List β), xs.length = ys.length → (xs.zip ys).map Prod.snd = ys
  | [], [], _ => rfl
  | [], y :: ys, h => by cases h
  | x :: xs, [], h => by cases h
  | x :: xs, y :: ys, h => by
    rw [List.zip_cons_cons, List.map_cons, zip_snd_eq xs ys (Nat.succ.inj h)]
def mkRow (x : Addr × (Str × (Addr × List Str))) : Row := ⟨x.1, x.2.1, x.2.2.1, x.2.2.2⟩
def spQuest : Sp := fun vs H Q _ => ∃ (a : Addr) (c s : Int), vs = [.ref a, .int 3] ∧ BoxAt H a c s ∧
  ∀ (p : Addr) (rs : List Row) (c' s' : Int) (H' : Hp), H p = none → H' p = some (mkT (rs.map Row.T)) → (∀ r ∈ rs, RowOk H' r) → (rs.map Row.nm).Nodup → NoMo (rs.map Row.nm) → 1 ≤ rs.length → rs.length ≤ 6 → SameB a H H' → BoxAt H' a c' s' → Q (.ref p) H'
section
variable {P : Program} {w : World} {K : PySem.W.Frag} {mg : Str → Option Value} {base : Heap}
theorem ok_lquestion {f : Addr} {fd : FuncData} (F : Fun K "_law_question" "_law_question" s_lquestion f fd) (T : Bl mg) (c_ltake : Cal P w K mg base 1 "_law_take" ["_law_box_here", "_law_many"] spTake) (c_lnames : Cal P w K mg base 2 "_law_names" ["_law_box_here", "_law_many"] spNames) (c_lorder : Cal P w K mg base 2 "_law_order" ["_law_box_here", "_law_things"] (spOrder K))
    (c_lany_tables : Cal P w K mg base 4 "_law_any_tables" ["_law_box_here", "_law_names_here"] spTabs) (c_lear_tables : Cal P w K mg base 4 "_law_ear_tables" ["_law_box_here", "_law_names_here"] spTabs) (c_lring_tables : Cal P w K mg base 4 "_law_ring_tables" ["_law_box_here", "_law_names_here"] spTabs) :
    FnOk P w K mg base CX0 5 f fd ["_law_box_here", "_law_kind"] spQuest := by
  refine F.ok sc_lquestion (fun vs H Q E h => ?_) (fun cdv A outer s H vs Q E hr h => ?_)
  · obtain ⟨a, c, z, rfl, _⟩ := h
    rfl
  · obtain ⟨a, c, z, rfl, hb, q⟩ := h
    refine ⟨_, (pss_cons (ps_par (by rfl) sc_lquestion.nd (i := 2) (j := 3) rfl rfl (by decide) rfl rfl (pa_cons (pe_cl c_lnames hr (by decide) (pa_cons (pv 0) (pa_cons pe_int pa_nil))) (pa_cons (pe_cl c_lnames hr (by decide) (pa_cons (pv 0) (pa_cons pe_int pa_nil))) pa_nil)) (by rfl))
      (Evl.pss_cut (ps_if (pt_cmpR op_eq (pe_cl c_ltake hr (by decide) (pa_cons (pv 0) (pa_cons pe_int pa_nil))) pe_int (nomark _)) (pss_one (ps_set (i := 3) sc_lquestion.nd rfl (Or.inl rfl) (pe_cl c_lorder hr (by decide) (pa_cons (pv 0) (pa_cons (pv 2) pa_nil))))) pss_nil)
      (pss_cons (ps_set (i := 4) sc_lquestion.nd rfl (Or.inl rfl) (pv 1))
      (Evl.pss_cut (ps_if (pt_cmpR op_eq (pv 1) pe_int (nomark _)) (pss_one (ps_set (i := 4) sc_lquestion.nd rfl (Or.inl rfl) (pe_cl c_ltake hr (by decide) (pa_cons (pv 0) (pa_cons pe_int pa_nil))))) pss_nil)
      (Evl.pss_cut (ps_if (pt_cmpR op_eq (pv 4) pe_int (nomark _)) (pss_one (ps_set (i := 5) sc_lquestion.nd rfl (Or.inl rfl) (pe_cl c_lany_tables hr (by decide) (pa_cons (pv 0) (pa_cons (pv 2) pa_nil))))) (pss_one (ps_if (pt_cmpR op_eq (pv 4) pe_int (nomark _)) (pss_one (ps_set (i := 5) sc_lquestion.nd rfl (Or.inl rfl) (pe_cl c_lear_tables hr (by decide) (pa_cons (pv 0) (pa_cons (pv 2) pa_nil))))) (pss_one (ps_set (i := 5) sc_lquestion.nd rfl (Or.inl rfl) (pe_cl c_lring_tables hr (by decide) (pa_cons (pv 0) (pa_cons (pv 2) pa_nil))))))))
      (pss_one (ps_ret (pe_tupZip (by rfl) T.tuple (by rfl) T.zip (pa_cons (pv 3) (pa_cons (pv 5) pa_nil)))))))))), ?_⟩
    refine ⟨_, rfl, a, c, z, rfl, hb, fun u ns c1 z1 H1 nl nd nm nu eu s1 b1 => ?_⟩
    refine ⟨_, rfl, a, c1, z1, rfl, b1, fun v ts c2 z2 H2 tl td tm nv ev s2 b2 => ?_⟩
    have nua : u ≠ a := hb.ne nu
    have nva : v ≠ a := b1.ne nv
    have eu2 := s2 _ _ nua eu
    refine ⟨_, _, rfl, ?_⟩
    refine ⟨fun σ' H' => ∃ (v : Addr) (ts : List Str) (c z : Int), σ' = [some (.ref a), some (.int 3), some (.ref u), some (.ref v), none, none] ∧ ts.length = 6 ∧ ts.Nodup ∧ NoMo ts ∧ v ≠ a ∧ H' u = some (.lst (ns.map V.str)) ∧ H' v = some (.lst (ts.map V.str)) ∧ SameB a H H' ∧ BoxAt H' a c z, ?_, fun σ' H' hm => ?_⟩
    · refine ⟨_, rfl, a, 4, c2, z2, rfl, b2, by decide, by decide, fun d c3 z3 hd => ?_⟩
      refine ⟨rfl, _, rfl, ite2 (fun e => ?_) (fun e => ?_)⟩
      · refine ⟨_, rfl, _, rfl, a, u, c3, z3, ns.map V.str, rfl, upd_same, .inl (SqL.of (setS eu2 nua)), by rw [List.length_map]; omega, fun p ys c4 z4 H3 pm np ep s3 b3 => ?_⟩
        obtain ⟨zs, pz, rfl⟩ := perm_map_back V.str pm ns rfl
        exact ⟨p, zs, c4, z4, rfl, by rw [pz.length_eq]; exact nl, pz.symm.nodup nd, fun h => nm ⟨pz.mem_iff.mp h.1, pz.mem_iff.mp h.2⟩, BoxAt.set.ne np, s3 _ _ nua (setS eu2 nua), ep, ((s1.trans s2).putA).trans s3, b3⟩
      · exact ⟨v, ts, c3, z3, rfl, tl, td, tm, nva, setS eu2 nua, setS ev nva, (s1.trans s2).putA, upd_same⟩
    · clear ev tl td tm nva eu2
      obtain ⟨v, ts, c3, z3, rfl, tl, td, tm, nva, eu3, ev3, s3, b3⟩ := hm
      refine ⟨_, rfl, ?_⟩
      refine ⟨fun σ' H' => ∃ (k : Int) (c z : Int), σ' = [some (.ref a), some (.int 3), some (.ref u), some (.ref v), some (.int k), none] ∧ H' u = some (.lst (ns.map V.str)) ∧ H' v = some (.lst (ts.map V.str)) ∧ SameB a H H' ∧ BoxAt H' a c z, ?_, fun σ' H' hm => ?_⟩
      · refine ⟨_, rfl, rfl, _, rfl, ite2 (fun e => ?_) (fun e => ?_)⟩
        · refine ⟨_, rfl, a, 3, c3, z3, rfl, b3, by decide, by decide, fun d c4 z4 hd => ?_⟩
          exact ⟨(d : Int), c4, z4, rfl, setS eu3 nua, setS ev3 nva, s3.putA, upd_same⟩
        · exact ⟨3, c3, z3, rfl, eu3, ev3, s3, b3⟩
      · clear eu3 ev3 s3 b3
        obtain ⟨k, c3, z3, rfl, eu3, ev3, s3, b3⟩ := hm
        refine ⟨fun σ' H' => ∃ (p : Addr) (ows : List (Addr × List Str)) (c z : Int), σ' = [some (.ref a), some (.int 3), some (.ref u), some (.ref v), some (.int k), some (.ref p)] ∧ 1 ≤ ows.length ∧ ows.length ≤ 6 ∧ (∀ o ∈ ows, Own H' o) ∧ H' p = some (.lst (refsOf ows)) ∧ H' v = some (.lst (ts.map V.str)) ∧ SameB a H H' ∧ BoxAt H' a c z, ?_, fun σ' H' hm => ?_⟩
        · refine ⟨_, rfl, rfl, _, rfl, ite2 (fun e => ?_) (fun e => ?_)⟩
          · refine ⟨_, rfl, _, rfl, a, u, c3, z3, ns, rfl, b3, nua, eu3, nl, nd, fun p ows c4 z4 H4 o1 o6 ho np ep s4 b4 => ?_⟩
            exact ⟨p, ows, c4, z4, rfl, o1, o6, ho, ep, s4 _ _ nva ev3, s3.trans s4, b4⟩
          · refine ⟨_, rfl, rfl, _, rfl, ite2 (fun e => ?_) (fun e => ?_)⟩
            · refine ⟨_, rfl, _, rfl, a, u, c3, z3, ns, rfl, b3, nua, eu3, nl, nd, fun p ows c4 z4 H4 o1 o6 ho np ep s4 b4 => ?_⟩
              exact ⟨p, ows, c4, z4, rfl, o1, o6, ho, ep, s4 _ _ nva ev3, s3.trans s4, b4⟩
            · refine ⟨_, rfl, _, rfl, a, u, c3, z3, ns, rfl, b3, nua, eu3, nl, nd, fun p ows c4 z4 H4 o1 o6 ho np ep s4 b4 => ?_⟩
              exact ⟨p, ows, c4, z4, rfl, o1, o6, ho, ep, s4 _ _ nva ev3, s3.trans s4, b4⟩
        · clear eu3 ev3 s3 b3
          obtain ⟨p, ows, c4, z4, rfl, o1, o6, ho, ep, ev4, s4, b4⟩ := hm
          refine ⟨_, rfl, _, rfl, v, p, _, _, rfl, SqL.of ev4, SqL.of ep, fun r Ts H5 sm nr er tsl hts => ?_⟩
          have tsl' : Ts.length = (ts.zip ows).length := by rw [tsl, List.length_map, refs_len, List.length_zip]
          have zl : (ts.zip ows).length = ows.length := by rw [List.length_zip]; omega
          obtain ⟨rs, hrs⟩ : ∃ rs, rs = (Ts.zip (ts.zip ows)).map mkRow := ⟨_, rfl⟩
          have eT : rs.map Row.T = Ts := by
            rw [hrs, List.map_map]
            exact zip_snd_take Ts (ts.zip ows) (Nat.le_of_eq tsl')
          have eN : rs.map Row.nm = (ts.zip ows).map Prod.fst := by
            conv => rhs; rw [← zip_snd_eq Ts (ts.zip ows) tsl']
            rw [hrs, List.map_map, List.map_map]
            rfl
          have rl : rs.length = ows.length := by rw [hrs, List.length_map, List.length_zip]; omega
          refine q r rs c4 z4 H5 (s4.old b4 nr) (by rw [eT]; exact er) (fun x hx => ?_) (by rw [eN]; exact td.sublist (zip_fst_sub ts ows)) (by rw [eN]; exact fun h => tm ⟨(zip_fst_sub ts ows).subset h.1, (zip_fst_sub ts ows).subset h.2⟩) (by omega) (by omega) (s4.trans (.of sm)) (sm _ _ b4)
          rw [hrs] at hx
          obtain ⟨y, hy, rfl⟩ := List.mem_map.mp hx
          obtain ⟨i, hi⟩ := List.getElem?_of_mem hy
          rw [List.getElem?_zip_eq_some] at hi
          obtain ⟨h1, h2⟩ := hi
          rw [List.getElem?_zip_eq_some] at h2
          obtain ⟨h2, h3⟩ := h2
          obtain ⟨_, x1, y1, g1, g2, g3⟩ := hts i y.1 h1
          rw [List.getElem?_map, h2] at g1
          have g1 := (Option.some.inj g1).symm
          unfold refsOf at g2
          rw [List.getElem?_map, h3] at g2
          have g2 := (Option.some.inj g2).symm
          subst g1 g2
          have oo := ho _ (List.mem_of_getElem? h3)
          exact ⟨g3, sm _ _ oo.1, oo.2⟩
end
end MW
namespace MW
open PySem PySem.Spec PyProof.Rows L2
/-! ### the tableau -/
def iv (f : Nat → Int) (N : Nat) : List V := (List.range N).map fun j => V.int (f j)
def rv (f : Nat → Addr) (N : Nat) : List V := (List.range N).map fun j => V.ref (f j)
theorem iv_len {f : Nat → Int} {N : Nat} : (iv f N).length = N := by unfold iv; rw [List.length_map, List.length_range]
theorem rv_len {f : Nat → Addr} {N : Nat} : (rv f N).length = N := by unfold rv; rw [List.length_map, List.length_range]
theorem iv_at {f : Nat → Int} {N j : Nat} (h : j < N) : (iv f N)[j]? = some (.int (f j)) := by
  unfold iv
  rw [List.getElem?_map, List.getElem?_range h]
  rfl
theorem rv_at {f : Nat → Addr} {N j : Nat} (h : j < N) : (rv f N)[j]? = some (.ref (f j)) := by
  unfold rv
  rw [List.getElem?_map, List.getElem?_range h]
  rfl
theorem iv_succ {f : Nat → Int} {N : Nat} : iv f (N + 1) = iv f N ++ [.int (f N)] := by unfold iv; rw [List.range_succ, List.map_append]; rfl
theorem rv_succ {f : Nat → Addr} {N : Nat} : rv f (N + 1) = rv f N ++ [.ref (f N)] := by unfold rv; rw [List.range_succ, List.map_append]; rfl
theorem iv_last {f : Nat → Int} {N : Nat} : atI (iv f (N + 1)) (-1) = some (.int (f N)) := by rw [iv_succ]; exact atI_last _ _
theorem rv_last {f : Nat → Addr} {N : Nat} : atI (rv f (N + 1)) (-1) = some (.ref (f N)) := by rw [rv_succ]; exact atI_last _ _
theorem flat_iv (f : Nat → Int) : ∀ N, (iv f N).all flatV = true := fun N => by
  unfold iv
  rw [List.all_map]
  exact List.all_eq_true.mpr fun _ _ => rfl
def flds (w : Nat) (b : Int) (R bs : Addr) : List (Str × V) := [("wide", .int w), ("bottom", .int b), ("rows", .ref R), ("basis", .ref bs)]
structure Tb (C x : Addr) (H : Hp) (n w : Nat) (z : LP.S) (R bs : Addr) (ra : Nat → Addr) : Prop where
  ins : ∃ dx, H x = some (.ins C dx (flds w z.b R bs))
  rows : H R = some (.lst (rv ra (n + 1)))
  row : ∀ i, i ≤ n → H (ra i) = some (.lst (iv (z.T i) (w + n + 1)))
  bas : H bs = some (.lst (iv (fun i => (z.β i : Int)) n))
/-- sizes -/
structure Sz (n w : Nat) (z : LP.S) : Prop where
  n6 : n ≤ 6
  w36 : w ≤ 42
  pos : 0 < z.b
  b30 : z.b < 2 ^ 30
  ent : ∀ i, i ≤ n → ∀ j, j ≤ w + n → -(2 ^ 32) ≤ z.T i j ∧ z.T i j ≤ 2 ^ 32
def ahead (n w : Nat) (z : LP.S) (k b e : Nat) : Bool := decide (z.T k (w + n) * z.T b e < z.T b (w + n) * z.T k e) || (decide (z.T k (w + n) * z.T b e = z.T b (w + n) * z.T k e) && decide (z.β k < z.β b))
def spAhead (C : Addr) : Sp := fun vs H Q _ => ∃ (x : Addr) (n w : Nat) (z : LP.S) (R bs : Addr) (ra : Nat → Addr) (k b e : Nat), vs = [.ref x, .int k, .int b, .int e] ∧ Tb C x H n w z R bs ra ∧ Sz n w z ∧ k < n ∧ b < n ∧ e < w + n ∧ Q (.bl (ahead n w z k b e)) H
def Col (n w : Nat) (z : LP.S) (cv : V) : Prop := (∃ e : Nat, cv = .int e ∧ LP.Ent n w z.T e) ∨ (cv = .non ∧ ∀ j, j < w + n → 0 ≤ z.T n j)
def spEnter (C : Addr) : Sp := fun vs H Q _ => ∃ (x : Addr) (n w : Nat) (z : LP.S) (R bs : Addr) (ra : Nat → Addr), vs = [.ref x] ∧ Tb C x H n w z R bs ra ∧ Sz n w z ∧ ∀ cv, Col n w z cv → Q cv H
theorem mul_ok {a b : Int} (h : -(2 ^ 32) ≤ a ∧ a ≤ 2 ^ 32) : CMul a b := .inl ⟨by omega, by omega⟩
/-- the best of those below i, so far -/
def Best (n w : Nat) (z : LP.S) (e i k : Nat) : Prop := k < n ∧ 0 < z.T k e ∧ ∀ j, j < i → 0 < z.T j e → z.T k (w + n) * z.T j e ≤ z.T j (w + n) * z.T k e ∧ (z.T k (w + n) * z.T j e = z.T j (w + n) * z.T k e → z.β k ≤ z.β j)
theorem Best.keep {n w : Nat} {z : LP.S} {e i k : Nat} (b : Best n w z e i k) (h : 0 < z.T i e → ahead n w z i k e = false) : Best n w z e (i + 1) k := by
  refine ⟨b.1, b.2.1, fun j hj hp => ?_⟩
  by_cases ej : j = i
  · subst ej
    have a := h hp
    unfold ahead at a
    rw [Bool.or_eq_false_iff, decide_eq_false_iff_not] at a
    refine ⟨by omega, fun q => ?_⟩
    have a2 := a.2
    rw [decide_eq_true q.symm, Bool.true_and, decide_eq_false_iff_not] at a2
    omega
  · exact b.2.2 j (by omega) hp
theorem Best.next {n w : Nat} {z : LP.S} {e i k : Nat} (b : Best n w z e i k) (hi : i < n) (hp : 0 < z.T i e) (h : ahead n w z i k e = true) : Best n w z e (i + 1) i := by
  have k0 := b.2.1
  unfold ahead at h
  rw [Bool.or_eq_true, Bool.and_eq_true, decide_eq_true_iff, decide_eq_true_iff, decide_eq_true_iff] at h
  have hle : z.T i (w + n) * z.T k e ≤ z.T k (w + n) * z.T i e := by
    rcases h with h | h
    · omega
    · omega
  refine ⟨hi, hp, fun j hj hpj => ?_⟩
  by_cases ej : j = i
  · subst ej
    exact ⟨Int.le_refl _, fun _ => Nat.le_refl _⟩
  · have c := b.2.2 j (by omega) hpj
    refine ⟨LP.cross k0 hp hpj hle c.1, fun q => ?_⟩
    -- j ties with i, so k ties with both
    have h1 : z.T j (w + n) * z.T k e ≤ z.T k (w + n) * z.T j e := LP.cross hp hpj k0 (by omega) hle
    have h2 : z.T k (w + n) * z.T i e ≤ z.T i (w + n) * z.T k e := LP.cross hpj k0 hp c.1 (by omega)
    have h3 := c.2 (by omega)
    rcases h with h | h
    · omega
    · omega
def spLeave (C : Addr) : Sp := fun vs H Q _ => ∃ (x : Addr) (n w : Nat) (z : LP.S) (R bs : Addr) (ra : Nat → Addr) (e : Nat), vs = [.ref x, .int e] ∧ Tb C x H n w z R bs ra ∧ Sz n w z ∧ e < w + n ∧ (∃ i, i < n ∧ 0 < z.T i e) ∧ ∀ k : Nat, LP.Lea n w z.β z.T e k → Q (.int k) H
section
variable {P : Program} {w : World} {K : PySem.W.Frag} {mg : Str → Option Value} {base : Heap} {C : Addr}
theorem ok_ahead {f : Addr} {fd : FuncData} (F : Fun K "is_ahead" "Tableau.is_ahead" s_is_ahead f fd) (T : Bl mg) (TC : TabC K C) : FnOk P w K mg base CX0 1 f fd ["self", "k", "best", "column"] (spAhead C) := by
  refine F.ok sc_is_ahead (fun vs H Q E h => ?_) (fun cdv A outer s H vs Q E hr h => ?_)
  · obtain ⟨x, n, w, z, R, bs, ra, k, b, e, rfl, _⟩ := h
    rfl
  · obtain ⟨x, n, w, z, R, bs, ra, k, b, e, rfl, tb, sz, hk, hb, he, q⟩ := h
    refine ⟨_, (pss_cons (ps_set (i := 4) sc_is_ahead.nd rfl (Or.inl rfl) (pe_op op_mul (pe_ix ix_list (pe_ix ix_list (pe_fld (pv 0) rfl) (pv 1) (fun _ _ => rfl)) (pe_un un_neg pe_int) (fun _ _ => rfl)) (pe_ix ix_list (pe_ix ix_list (pe_fld (pv 0) rfl) (pv 2) (fun _ _ => rfl)) (pv 3) (fun _ _ => rfl))))
      (pss_cons (ps_set (i := 5) sc_is_ahead.nd rfl (Or.inl rfl) (pe_op op_mul (pe_ix ix_list (pe_ix ix_list (pe_fld (pv 0) rfl) (pv 2) (fun _ _ => rfl)) (pe_un un_neg pe_int) (fun _ _ => rfl)) (pe_ix ix_list (pe_ix ix_list (pe_fld (pv 0) rfl) (pv 1) (fun _ _ => rfl)) (pv 3) (fun _ _ => rfl))))
      (pss_one (ps_ret (pe_or (pe_cmpR op_lt (pv 4) (pv 5) (nomark _)) (pe_one (pe_and (pe_cmpR op_eq (pv 4) (pv 5) (nomark _)) (pe_one (pe_cmpR op_lt (pe_ix ix_list (pe_fld (pv 0) rfl) (pv 1) (fun _ _ => rfl)) (pe_ix ix_list (pe_fld (pv 0) rfl) (pv 2) (fun _ _ => rfl)) (nomark _)))))))))), ?_⟩
    obtain ⟨dx, ins⟩ := tb.ins
    have rk := tb.row k (Nat.le_of_lt hk)
    have rb := tb.row b (Nat.le_of_lt hb)
    have ek := rv_at (f := ra) (N := n + 1) (Nat.lt_succ_of_lt hk)
    have eb := rv_at (f := ra) (N := n + 1) (Nat.lt_succ_of_lt hb)
    refine ⟨_, rfl, x, C, dx, _, _, rfl, ins, TC.cl, TC.rows, rfl, _, rfl, R, _, _, _, rfl, rfl, SqL.of tb.rows, atI_nat ek, _, rfl, _, _, _, _, rfl, rfl, SqL.of rk, iv_last, ?_⟩
    refine ⟨_, rfl, x, C, dx, _, _, rfl, ins, TC.cl, TC.rows, rfl, _, rfl, R, _, _, _, rfl, rfl, SqL.of tb.rows, atI_nat eb, _, rfl, _, _, _, _, rfl, rfl, SqL.of rb, atI_nat (iv_at (by omega)), _, _, rfl, rfl, mul_ok (sz.ent k (by omega) _ (by omega)), ?_⟩
    refine ⟨_, rfl, x, C, dx, _, _, rfl, ins, TC.cl, TC.rows, rfl, _, rfl, R, _, _, _, rfl, rfl, SqL.of tb.rows, atI_nat eb, _, rfl, _, _, _, _, rfl, rfl, SqL.of rb, iv_last, ?_⟩
    refine ⟨_, rfl, x, C, dx, _, _, rfl, ins, TC.cl, TC.rows, rfl, _, rfl, R, _, _, _, rfl, rfl, SqL.of tb.rows, atI_nat ek, _, rfl, _, _, _, _, rfl, rfl, SqL.of rk, atI_nat (iv_at (by omega)), _, _, rfl, rfl, mul_ok (sz.ent b (by omega) _ (by omega)), ?_⟩
    refine ⟨_, rfl, _, rfl, _, _, rfl, rfl, _, rfl, ite2 (fun h1 => ?_) (fun h1 => ?_)⟩
    · have ea : ahead n w z k b e = true := by
        unfold ahead
        rw [show decide (z.T k (w + n) * z.T b e < z.T b (w + n) * z.T k e) = true from h1, Bool.true_or]
      rw [ea] at q
      exact q
    · have e1 : decide (z.T k (w + n) * z.T b e < z.T b (w + n) * z.T k e) = false := Bool.eq_false_iff.mpr h1
      refine ⟨_, rfl, _, rfl, rfl, _, rfl, ite2 (fun h2 => ?_) (fun h2 => ?_)⟩
      · rw [dec_int] at h2
        refine ⟨_, rfl, x, C, dx, _, _, rfl, ins, TC.cl, TC.basis, rfl, _, rfl, bs, _, _, _, rfl, rfl, SqL.of tb.bas, atI_nat (iv_at hk), ?_⟩
        refine ⟨_, rfl, x, C, dx, _, _, rfl, ins, TC.cl, TC.basis, rfl, _, rfl, bs, _, _, _, rfl, rfl, SqL.of tb.bas, atI_nat (iv_at hb), _, _, rfl, rfl, ?_⟩
        have ea : ahead n w z k b e = decide ((z.β k : Int) < (z.β b : Int)) := by
          unfold ahead
          rw [e1, Bool.false_or, decide_eq_true (eq_of_beq h2), Bool.true_and]
          exact decide_eq_decide.mpr (by omega)
        rw [ea] at q
        exact q
      · rw [dec_int] at h2
        have ea : ahead n w z k b e = false := by
          unfold ahead
          rw [e1, Bool.false_or, decide_eq_false (fun h => h2 (beq_iff_eq.mpr h)), Bool.false_and]
        rw [ea] at q
        exact q
theorem ok_entering {f : Addr} {fd : FuncData} (F : Fun K "entering" "Tableau.entering" s_entering f fd) (T : Bl mg) (TC : TabC K C) : FnOk P w K mg base CX0 1 f fd ["self"] (spEnter C) := by
  refine F.ok sc_entering (fun vs H Q E h => ?_) (fun cdv A outer s H vs Q E hr h => ?_)
  · obtain ⟨x, n, w, z, R, bs, ra, rfl, _⟩ := h
    rfl
  · obtain ⟨x, n, w, z, R, bs, ra, rfl, tb, sz, q⟩ := h
    refine ⟨_, (pss_cons (ps_for PassesOwn.never rfl (pi_range1 (by rfl) T.range (pa_cons (pe_op op_sub (pe_callB call_len_seq (by rfl) T.len boot_len (pa_cons (pe_ix ix_list (pe_fld (pv 0) rfl) (pe_un un_neg pe_int) (fun _ _ => rfl)) pa_nil)) pe_int) pa_nil)) (pg_name (i := 1) sc_entering.nd rfl (Or.inl rfl)) (pss_one (ps_if (pt_cmpR op_lt (pe_ix ix_list (pe_ix ix_list (pe_fld (pv 0) rfl) (pe_un un_neg pe_int) (fun _ _ => rfl)) (pv 1) (fun _ _ => rfl)) pe_int (nomark _)) (pss_one (ps_ret (pv 1))) pss_nil)))
      (pss_one (ps_ret pe_non))), ?_⟩
    obtain ⟨dx, ins⟩ := tb.ins
    have n6 := sz.n6
    have w36 := sz.w36
    have rn := tb.row n (Nat.le_refl _)
    refine ⟨_, rfl, x, C, dx, _, _, rfl, ins, TC.cl, TC.rows, rfl, _, rfl, R, _, _, _, rfl, rfl, SqL.of tb.rows, rv_last, _, _, rfl, .inl (SqL.of rn), _, _, rfl, rfl, _, rfl, ?_, ?_, ?_⟩
    · rw [iv_len]
      omega
    · rw [iv_len]
      omega
    rw [iv_len]
    have e1 : (((w + n + 1 : Nat) : Int) - 1).toNat = w + n := by omega
    rw [e1]
    refine for_it (walk_r0 (n := w + n)) (fun i σ H' => ∃ x1 : Option V, σ = [some (.ref x), x1] ∧ H' = H ∧ ∀ j, j < i → 0 ≤ z.T n j)
      ⟨_, rfl, rfl, fun j h => absurd h (Nat.not_lt_zero _)⟩ (fun _ _ _ _ _ => trivial) ?_ ?_
    · rintro i y σ H1 H2 hi ⟨x1, rfl, rfl, hz⟩ ⟨rfl, rfl⟩
      refine ⟨_, rfl, x, C, dx, _, _, rfl, ins, TC.cl, TC.rows, rfl, _, rfl, R, _, _, _, rfl, rfl, SqL.of tb.rows, rv_last, _, rfl, _, _, _, _, rfl, rfl, SqL.of rn, atI_nat (iv_at (by omega)), _, _, rfl, rfl, _, rfl, ite2 (fun h => ?_) (fun h => ?_)⟩
      · have h' : z.T n i < 0 := of_decide_eq_true h
        exact ⟨_, rfl, q _ (.inl ⟨i, rfl, hi, h', hz⟩)⟩
      · have h' : ¬ z.T n i < 0 := fun g => h (decide_eq_true g)
        refine ⟨_, rfl, rfl, fun j hj => ?_⟩
        by_cases e : j = i
        · subst e
          omega
        · exact hz j (by omega)
    · rintro σ H1 ⟨x1, rfl, rfl, hz⟩
      exact q _ (.inr ⟨rfl, hz⟩)
theorem ok_leaving {f fa : Addr} {fd fda : FuncData} (F : Fun K "leaving" "Tableau.leaving" s_leaving f fd) (T : Bl mg) (TC : TabC K C) (c_is_ahead : CalM P w K mg base C 1 "is_ahead" fa fda ["self", "k", "best", "column"] (spAhead C)) : FnOk P w K mg base CX0 2 f fd ["self", "column"] (spLeave C) := by
  refine F.ok sc_leaving (fun vs H Q E h => ?_) (fun cdv A outer s H vs Q E hr h => ?_)
  · obtain ⟨x, n, w, z, R, bs, ra, e, rfl, _⟩ := h
    rfl
  · obtain ⟨x, n, w, z, R, bs, ra, e, rfl, tb, sz, he, hex, q⟩ := h
    refine ⟨_, (pss_cons (ps_set (i := 2) sc_leaving.nd rfl (Or.inl rfl) pe_non)
      (pss_cons (ps_for PassesOwn.never rfl (pi_range1 (by rfl) T.range (pa_cons (pe_callB call_len_seq (by rfl) T.len boot_len (pa_cons (pe_fld (pv 0) rfl) pa_nil)) pa_nil)) (pg_name (i := 3) sc_leaving.nd rfl (Or.inl rfl)) (pss_one (ps_if (PW.pt (pw_and (pt_cmpR op_gt (pe_ix ix_list (pe_ix ix_list (pe_fld (pv 0) rfl) (pv 3) (fun _ _ => rfl)) (pv 1) (fun _ _ => rfl)) pe_int (nomark _)) (pw_and1 (PW.pt (pw_or (pt_cmpR op_isN (pv 2) pe_non (nomark _)) (pw_or1 (pt_val (pe_meth (pv 0) TC.cl c_is_ahead.m c_is_ahead.G (hr.mono (by decide)) c_is_ahead.b .nil pass0 (pa_cons (pv 3) (pa_cons (pv 2) (pa_cons (pv 1) pa_nil))))))))))) (pss_one (ps_set (i := 2) sc_leaving.nd rfl (Or.inl rfl) (pv 3))) pss_nil)))
      (pss_one (ps_ret (pv 2))))), ?_⟩
    obtain ⟨dx, ins⟩ := tb.ins
    have n6 := sz.n6
    have w36 := sz.w36
    refine ⟨_, rfl, x, C, dx, _, _, rfl, ins, TC.cl, TC.basis, rfl, _, _, rfl, .inl (SqL.of tb.bas), _, rfl, ?_, ?_, ?_⟩
    · rw [iv_len]
      omega
    · rw [iv_len]
      omega
    rw [iv_len]
    refine for_it (walk_r0 (n := n)) (fun i σ H' => ∃ (bv : V) (x3 : Option V), σ = [some (.ref x), some (.int e), some bv, x3] ∧ H' = H ∧ ((bv = .non ∧ ∀ j, j < i → ¬ 0 < z.T j e) ∨ ∃ k : Nat, bv = .int k ∧ Best n w z e i k))
      ⟨.non, none, rfl, rfl, .inl ⟨rfl, fun j h => absurd h (Nat.not_lt_zero _)⟩⟩ (fun _ _ _ _ _ => trivial) ?_ ?_
    · rintro i y σ H1 H2 hi ⟨bv, x3, rfl, rfl, hz⟩ ⟨rfl, rfl⟩
      have ei := rv_at (f := ra) (N := n + 1) (Nat.lt_succ_of_lt hi)
      have ri := tb.row i (Nat.le_of_lt hi)
      refine ⟨_, rfl, x, C, dx, _, _, rfl, ins, TC.cl, TC.rows, rfl, _, rfl, R, _, _, _, rfl, rfl, SqL.of tb.rows, atI_nat ei, _, rfl, _, _, _, _, rfl, rfl, SqL.of ri, atI_nat (iv_at (by omega)), _, _, rfl, rfl, _, rfl, ite2 (fun h => ?_) (fun h => ?_)⟩
      · have hp : 0 < z.T i e := of_decide_eq_true h
        rcases hz with ⟨rfl, hz⟩ | ⟨k, rfl, hb⟩
        · refine ⟨_, rfl, rfl, _, rfl, ?_⟩
          refine ⟨_, rfl, _, _, rfl, rfl, .inr ⟨i, rfl, hi, hp, fun j hj hpj => ?_⟩⟩
          by_cases ej : j = i
          · subst ej
            exact ⟨Int.le_refl _, fun _ => Nat.le_refl _⟩
          · exact absurd hpj (hz j (by omega))
        · refine ⟨_, rfl, rfl, _, rfl, ?_⟩
          refine ⟨_, rfl, x, dx, _, rfl, ins, rfl, _, rfl, _, rfl, _, rfl, x, n, w, z, R, bs, ra, i, k, e, rfl, tb, sz, hi, hb.1, he, ?_⟩
          refine ⟨_, rfl, ite2 (fun h2 => ?_) (fun h2 => ?_)⟩
          · exact ⟨_, rfl, _, _, rfl, rfl, .inr ⟨i, rfl, hb.next hi hp h2⟩⟩
          · exact ⟨_, _, rfl, rfl, .inr ⟨k, rfl, hb.keep fun _ => Bool.eq_false_iff.mpr h2⟩⟩
      · have hp : ¬ 0 < z.T i e := fun g => h (decide_eq_true g)
        rcases hz with ⟨rfl, hz⟩ | ⟨k, rfl, hb⟩
        · refine ⟨_, _, rfl, rfl, .inl ⟨rfl, fun j hj => ?_⟩⟩
          by_cases ej : j = i
          · subst ej
            exact hp
          · exact hz j (by omega)
        · exact ⟨_, _, rfl, rfl, .inr ⟨k, rfl, hb.keep fun g => absurd g hp⟩⟩
    · rintro σ H1 ⟨bv, x3, rfl, rfl, hz⟩
      rcases hz with ⟨rfl, hz⟩ | ⟨k, rfl, hb⟩
      · obtain ⟨i, hi, hp⟩ := hex
        exact absurd hp (hz i hi)
      · exact ⟨_, rfl, q k hb⟩
end
end MW
namespace MW
open PySem PySem.Spec PyProof.Rows L2
/-! ### value; turn -/
def spValue (C : Addr) : Sp := fun vs H Q _ => ∃ (x : Addr) (n w : Nat) (A : Nat → Nat → Int) (z : LP.S) (R bs : Addr) (ra : Nat → Addr) (j : Nat), vs = [.ref x, .int j] ∧ Tb C x H n w z R bs ra ∧ LP.Ok n w A z ∧ Q (.int (LP.val n (w + n) z.β z.T j)) H
theorem inV_iv {f : Nat → Int} {n : Nat} {j : Int} : inV (.int j) (iv f n) = true ↔ ∃ i, i < n ∧ f i = j := by
  unfold inV iv
  rw [List.any_map, List.any_eq_true]
  constructor
  · rintro ⟨i, hi, h⟩
    exact ⟨i, List.mem_range.mp hi, eq_of_beq h⟩
  · rintro ⟨i, hi, h⟩
    exact ⟨i, List.mem_range.mpr hi, beq_iff_eq.mpr h⟩
/-- a turn's promise: all else stands -/
def spTurn (C : Addr) : Sp := fun vs H Q _ => ∃ (x : Addr) (n w : Nat) (z : LP.S) (R bs : Addr) (ra : Nat → Addr) (k e : Nat), vs = [.ref x, .int k, .int e] ∧ Tb C x H n w z R bs ra ∧ Sz n w z ∧ k < n ∧ e < w + n ∧ 0 < z.T k e ∧
  ∀ (H' : Hp) (ra' : Nat → Addr) (z' : LP.S), z'.b = z.T k e → (∀ i, z'.β i = LP.up z.β k e i) → LP.Turned n w z.b z.T k e z'.T → Tb C x H' n w z' R bs ra' → (∀ b o, b ≠ x → b ≠ R → b ≠ bs → H b = some o → H' b = some o) → Q .non H'
theorem Tb.xR {C x : Addr} {H : Hp} {n w : Nat} {z : LP.S} {R bs : Addr} {ra : Nat → Addr} (t : Tb C x H n w z R bs ra) : x ≠ R := fun h => by
  obtain ⟨dx, ins⟩ := t.ins
  rw [h, t.rows] at ins
  cases ins
theorem Tb.xb {C x : Addr} {H : Hp} {n w : Nat} {z : LP.S} {R bs : Addr} {ra : Nat → Addr} (t : Tb C x H n w z R bs ra) : x ≠ bs := fun h => by
  obtain ⟨dx, ins⟩ := t.ins
  rw [h, t.bas] at ins
  cases ins
theorem Tb.bR {C x : Addr} {H : Hp} {n w : Nat} {z : LP.S} {R bs : Addr} {ra : Nat → Addr} (t : Tb C x H n w z R bs ra) : bs ≠ R := fun h => by
  have e := t.bas
  rw [h, t.rows] at e
  injection e with e
  injection e with e
  have := congrArg List.length e
  rw [iv_len, rv_len] at this
  omega
theorem row_ne {H : Hp} {R q : Addr} {n N : Nat} {ra : Nat → Addr} {f : Nat → Int} (h1 : H R = some (.lst (rv ra (n + 1)))) (h2 : H q = some (.lst (iv f (N + 1)))) : q ≠ R := fun h => by
  rw [h, h1] at h2
  injection h2 with e
  injection e with e
  have e2 := congrArg (fun l : List V => l[0]?) e
  rw [show (iv f (N + 1))[0]? = _ from iv_at (Nat.succ_pos _), show (rv ra (n + 1))[0]? = _ from rv_at (Nat.succ_pos _)] at e2
  cases e2
theorem row_nb {H : Hp} {bs q : Addr} {n N : Nat} {g f : Nat → Int} (h1 : H bs = some (.lst (iv g n))) (h2 : H q = some (.lst (iv f N))) (hN : n ≠ N) : q ≠ bs := fun h => by
  rw [h, h1] at h2
  injection h2 with e
  injection e with e
  have := congrArg List.length e
  rw [iv_len, iv_len] at this
  exact hN this
theorem rv_set {f : Nat → Addr} {N i : Nat} {q : Addr} : (rv f N).set i (.ref q) = rv (LP.up f i q) N := by
  refine List.ext_getElem? fun j => ?_
  rw [List.getElem?_set]
  by_cases h : i = j
  · subst h
    rw [if_pos rfl, rv_len]
    by_cases hN : i < N
    · rw [if_pos hN, rv_at hN, LP.up_same]
    · rw [if_neg hN, List.getElem?_eq_none (by rw [rv_len]; omega)]
  · rw [if_neg h]
    by_cases hN : j < N
    · rw [rv_at hN, rv_at hN, LP.up_ne (Ne.symm h)]
    · rw [List.getElem?_eq_none (by rw [rv_len]; omega), List.getElem?_eq_none (by rw [rv_len]; omega)]
theorem iv_set {f : Nat → Nat} {N i e : Nat} : (iv (fun i => (f i : Int)) N).set i (.int (e : Int)) = iv (fun j => ((LP.up f i e j : Nat) : Int)) N := by
  refine List.ext_getElem? fun j => ?_
  rw [List.getElem?_set]
  by_cases h : i = j
  · subst h
    rw [if_pos rfl, iv_len]
    by_cases hN : i < N
    · rw [if_pos hN, iv_at hN, LP.up_same]
    · rw [if_neg hN, List.getElem?_eq_none (by rw [iv_len]; omega)]
  · rw [if_neg h]
    by_cases hN : j < N
    · rw [iv_at hN, iv_at hN, LP.up_ne (Ne.symm h)]
    · rw [List.getElem?_eq_none (by rw [iv_len]; omega), List.getElem?_eq_none (by rw [iv_len]; omega)]
theorem put_bottom {w : Nat} {b m : Int} {R bs : Addr} : putF "bottom" (.int m) (flds w b R bs) = flds w m R bs := by
  unfold flds
  rfl
theorem small_len' {n : Nat} (h : n < 1000) : n < sizeLine := Nat.lt_of_lt_of_le h (by decide)
/-- the rows as they stand at turn i -/
def Tt (z : LP.S) (k e i : Nat) : Nat → Nat → Int := fun l j => if l < i ∧ l ≠ k then (z.T l j * z.T k e - z.T l e * z.T k j) / z.b else z.T l j
section
variable {P : Program} {w : World} {K : PySem.W.Frag} {mg : Str → Option Value} {base : Heap} {C : Addr}
theorem ok_value {f : Addr} {fd : FuncData} (F : Fun K "value" "Tableau.value" s_value f fd) (T : Bl mg) (TC : TabC K C) : FnOk P w K mg base CX0 1 f fd ["self", "thing"] (spValue C) := by
  refine F.ok sc_value (fun vs H Q E h => ?_) (fun cdv A outer s H vs Q E hr h => ?_)
  · obtain ⟨x, n, w, A, z, R, bs, ra, j, rfl, _⟩ := h
    rfl
  · obtain ⟨x, n, w, B, z, R, bs, ra, j, rfl, tb, ok, q⟩ := h
    refine ⟨_, (pss_cons (ps_if (pt_cmpR op_in_seq (pv 1) (pe_fld (pv 0) rfl) (by rfl)) (pss_one (ps_ret (pe_ix ix_list (pe_ix ix_list (pe_fld (pv 0) rfl) (pe_bm PySem.F.plainAttrs_list PySem.F.slot_list_index PySem.F.type_list_index mt_index (pe_fld (pv 0) rfl) (pa_cons (pv 1) pa_nil)) (fun _ _ => rfl)) (pe_un un_neg pe_int) (fun _ _ => rfl)))) pss_nil)
      (pss_one (ps_ret pe_int))), ?_⟩
    obtain ⟨dx, ins⟩ := tb.ins
    refine ⟨_, rfl, _, rfl, x, C, dx, _, _, rfl, ins, TC.cl, TC.basis, rfl, bs, _, rfl, .inl (SqL.of tb.bas), rfl, flat_iv _ _, _, rfl, ite2 (fun h => ?_) (fun h => ?_)⟩
    · obtain ⟨i, hi, ei⟩ := inV_iv.mp h
      have ei : z.β i = j := by omega
      have rw1 : LP.val n (w + n) z.β z.T j = z.T i (w + n) := by rw [← ei]; exact LP.val_at ok hi
      rw [rw1] at q
      refine ⟨_, rfl, x, C, dx, _, _, rfl, ins, TC.cl, TC.rows, rfl, _, rfl, x, C, dx, _, _, rfl, ins, TC.cl, TC.basis, rfl, .inl ⟨rfl, _, SqL.of tb.bas⟩, _, rfl, bs, _, _, i, _, rfl, rfl, SqL.of tb.bas, rfl, flat_iv _ _, iv_at hi, beq_iff_eq.mpr (by omega), ?_, ?_⟩
      · intro m z' hm hz
        rw [iv_at (by omega)] at hz
        cases hz
        refine Bool.eq_false_iff.mpr fun g => ?_
        have g' : ((z.β m : Nat) : Int) = (j : Int) := eq_of_beq g
        have := ok.inj (show m < n by omega) hi (by omega)
        omega
      · exact ⟨R, _, _, _, rfl, rfl, SqL.of tb.rows, atI_nat (rv_at (by omega)), _, rfl, _, _, _, _, rfl, rfl, SqL.of (tb.row i (by omega)), iv_last, q⟩
    · have rw1 : LP.val n (w + n) z.β z.T j = 0 := LP.val_none fun i hi g => h (inV_iv.mpr ⟨i, hi, by omega⟩)
      rw [rw1] at q
      exact q
theorem ok_turn {f : Addr} {fd : FuncData} (F : Fun K "turn" "Tableau.turn" s_turn f fd) (T : Bl mg) (TC : TabC K C) : FnOk P w K mg base CX0 1 f fd ["self", "k", "column"] (spTurn C) := by
  refine F.ok sc_turn (fun vs H Q E h => ?_) (fun cdv A outer s H vs Q E hr h => ?_)
  · obtain ⟨x, n, w, z, R, bs, ra, k, e, rfl, _⟩ := h
    rfl
  · obtain ⟨x, n, w, z, R, bs, ra, k, e, rfl, tb, sz, hk, he, hm, q⟩ := h
    refine ⟨_, (pss_cons (ps_set (i := 3) sc_turn.nd rfl (Or.inr rfl) (pe_ix ix_list (pe_ix ix_list (pe_fld (pv 0) rfl) (pv 1) (fun _ _ => rfl)) (pv 2) (fun _ _ => rfl)))
      (pss_cons (ps_for PassesOwn.never rfl (pi_range1 (by rfl) T.range (pa_cons (pe_callB call_len_seq (by rfl) T.len boot_len (pa_cons (pe_fld (pv 0) rfl) pa_nil)) pa_nil)) (pg_name (i := 4) sc_turn.nd rfl (Or.inl rfl)) (pss_one (ps_if (pt_cmpR op_ne (pv 4) (pv 1) (nomark _)) (pss_cons (ps_set (i := 5) sc_turn.nd rfl (Or.inr rfl) (pe_ix ix_list (pe_ix ix_list (pe_fld (pv 0) rfl) (pv 4) (fun _ _ => rfl)) (pv 2) (fun _ _ => rfl)))
      (pss_cons (ps_set (i := 6) sc_turn.nd rfl (Or.inl rfl) (pe_listZip (by rfl) T.list (by rfl) T.zip (pa_cons (pe_ix ix_list (pe_fld (pv 0) rfl) (pv 4) (fun _ _ => rfl)) (pa_cons (pe_ix ix_list (pe_fld (pv 0) rfl) (pv 1) (fun _ _ => rfl)) pa_nil))))
      (pss_one (ps_asg (pe_lc (own := [("here", 7), ("there", 8)]) (g := gTup K 2 (gCons (gName 7) (gCons (gName 8) gNil))) (tt := tYes) rfl sc_turn.nd (pi_list (pv 6)) (blkOk_by (own := [("here", 7), ("there", 8)]) (N := N_turn) (sc := defScope s_turn) (by decide +kernel)) (fun _ _ _ _ _ => (pg_tupK (K := K) rfl rfl (pgs_cons (pg_name (i := 7) sc_turn.nd rfl (Or.inl rfl)) (pgs_cons (pg_name (i := 8) sc_turn.nd rfl (Or.inl rfl)) pgs_nil)))) (fun _ _ _ _ _ => pts_nil) (fun _ _ _ _ _ => (pe_op op_fdiv (pe_op op_sub (pe_op op_mul (pv 7) (pv 3)) (pe_op op_mul (pv 5) (pv 8))) (pe_fldK (K := K) rfl (pv 0) rfl)))) (pg_sub (pe_fld (pv 0) rfl) (pv 4) set_list))))) pss_nil)))
      (pss_cons (ps_fld (pv 0) (pv 3) rfl)
      (pss_one (ps_asg (pv 2) (pg_sub (pe_fld (pv 0) rfl) (pv 1) set_list)))))), ?_⟩
    obtain ⟨dx, ins⟩ := tb.ins
    have n6 := sz.n6
    have w36 := sz.w36
    have rk := tb.row k (Nat.le_of_lt hk)
    refine ⟨_, rfl, x, C, dx, _, _, rfl, ins, TC.cl, TC.rows, rfl, _, rfl, R, _, _, _, rfl, rfl, SqL.of tb.rows, atI_nat (rv_at (by omega)), _, rfl, _, _, _, _, rfl, rfl, SqL.of rk, atI_nat (iv_at (by omega)), ?_⟩
    refine ⟨_, rfl, x, C, dx, _, _, rfl, ins, TC.cl, TC.rows, rfl, _, _, rfl, .inl (SqL.of tb.rows), _, rfl, ?_, ?_, ?_⟩
    · rw [rv_len]
      omega
    · rw [rv_len]
      omega
    rw [rv_len]
    refine for_it (walk_r0 (n := n + 1)) (fun i σ H' => ∃ (x4 x5 x6 : Option V) (ra' : Nat → Addr), σ = [some (.ref x), some (.int k), some (.int e), some (.int (z.T k e)), x4, x5, x6, none, none] ∧ H' R = some (.lst (rv ra' (n + 1))) ∧
        (∀ l, l ≤ n → H' (ra' l) = some (.lst (iv (Tt z k e i l) (w + n + 1)))) ∧ (∀ b o, b ≠ R → H b = some o → H' b = some o))
      ⟨none, none, none, ra, rfl, tb.rows, fun l hl => ?_, fun _ _ _ h => h⟩ (fun _ _ _ _ _ => trivial) ?_ ?_
    · have : Tt z k e 0 l = z.T l := by
        funext j
        unfold Tt
        rw [if_neg (fun h => absurd h.1 (Nat.not_lt_zero _))]
      rw [this]
      exact tb.row l hl
    · rintro i y σ H1 H2 hi ⟨x4, x5, x6, ra', rfl, eR, er, fr⟩ ⟨rfl, rfl⟩
      have ins1 := fr _ _ tb.xR ins
      have hi' : i ≤ n := by omega
      have ek : Tt z k e i k = z.T k := by
        funext j
        unfold Tt
        rw [if_neg (fun h => h.2 rfl)]
      have ei : Tt z k e i i = z.T i := by
        funext j
        unfold Tt
        rw [if_neg (fun h => absurd h.1 (Nat.lt_irrefl _))]
      refine ⟨_, rfl, _, rfl, rfl, _, rfl, ite2 (fun h => ?_) (fun h => ?_)⟩
      · have hik : i ≠ k := fun g => by
          subst g
          revert h
          rw [dec_int]
          simp
        have ri := er i hi'
        have rk1 := er k (by omega)
        rw [ei] at ri
        rw [ek] at rk1
        refine ⟨_, rfl, x, C, dx, _, _, rfl, ins1, TC.cl, TC.rows, rfl, _, rfl, R, _, _, _, rfl, rfl, SqL.of eR, atI_nat (rv_at hi), _, rfl, _, _, _, _, rfl, rfl, SqL.of ri, atI_nat (iv_at (by omega)), ?_⟩
        refine ⟨_, rfl, x, C, dx, _, _, rfl, ins1, TC.cl, TC.rows, rfl, _, rfl, R, _, _, _, rfl, rfl, SqL.of eR, atI_nat (rv_at hi), ?_⟩
        refine ⟨_, rfl, x, C, dx, _, _, rfl, ins1, TC.cl, TC.rows, rfl, _, rfl, R, _, _, _, rfl, rfl, SqL.of eR, atI_nat (rv_at (by omega)), ?_⟩
        refine ⟨_, _, _, _, rfl, SqL.of ri, SqL.of rk1, fun p Ts H3 sm np ep tl hts => ?_⟩
        rw [iv_len, iv_len, Nat.min_self] at tl
        refine ⟨_, rfl, p, rfl, ⟨_, SqL.of ep⟩, fun D nD => ?_⟩
        have lw := walk_list (K := K) (a := p) (xs := Ts.map V.ref)
        rw [List.length_map, tl] at lw
        refine lc_it lw (fun j H' => H' = upd H3 D (.lst (iv (fun j => (z.T i j * z.T k e - z.T i e * z.T k j) / z.b) j))) rfl ?_ ?_ ?_
        · rintro j H' _ rfl
          exact SqL.of (nwS ep nD)
        · rintro j y H' H5 hj rfl ⟨rfl, hy⟩
          have hjT : j < Ts.length := by omega
          rw [List.getElem?_map, List.getElem?_eq_getElem hjT] at hy
          have hy := (Option.some.inj hy).symm
          subst hy
          obtain ⟨_, u, v, h1, h2, h3⟩ := hts j _ (List.getElem?_eq_getElem hjT)
          rw [iv_at hj] at h1 h2
          have h1 := (Option.some.inj h1).symm
          have h2 := (Option.some.inj h2).symm
          subst h1 h2
          refine ⟨_, _, rfl, SqT.of (nwS h3 nD), rfl, _, _, rfl, _, _, rfl, rfl, rfl, ?_⟩
          refine ⟨_, rfl, _, rfl, _, _, rfl, rfl, mul_ok (sz.ent i hi' j (by omega)), _, rfl, _, rfl, _, _, rfl, rfl, mul_ok (sz.ent i hi' e (by omega)), _, _, rfl, rfl, ?_⟩
          refine ⟨_, rfl, x, C, dx, _, _, rfl, nwS (sm _ _ ins1) nD, TC.cl, TC.bottom, rfl, _, _, rfl, rfl, ⟨sz.pos, sz.b30⟩, _, upd_same, small_len' (by rw [iv_len]; omega), ?_⟩
          show upd (upd H3 D _) D _ = _
          rw [upd_upd, iv_succ]
        · rintro H' rfl
          have eR3 := nwS (o := .lst (iv (fun j => (z.T i j * z.T k e - z.T i e * z.T k j) / z.b) (w + n + 1))) (sm _ _ eR) nD
          refine ⟨_, rfl, x, C, dx, _, _, rfl, nwS (sm _ _ ins1) nD, TC.cl, TC.rows, rfl, _, rfl, R, _, _, i, rfl, rfl, eR3, ?_, ?_⟩
          · rw [rv_len]
            exact ixn hi
          · refine ⟨_, _, _, LP.up ra' i D, rfl, by rw [upd_same, rv_set], fun l hl => ?_, fun b o nb hb => ?_⟩
            · have nDR : D ≠ R := (ne_of_none (sm _ _ eR) nD).symm
              by_cases hl' : l = i
              · subst hl'
                rw [LP.up_same]
                refine (setS upd_same nDR).trans ?_
                have : Tt z k e (l + 1) l = fun j => (z.T l j * z.T k e - z.T l e * z.T k j) / z.b := by
                  funext j
                  unfold Tt
                  rw [if_pos ⟨Nat.lt_succ_self _, hik⟩]
                rw [this]
              · rw [LP.up_ne hl']
                have e1 : Tt z k e (i + 1) l = Tt z k e i l := by
                  funext j
                  unfold Tt
                  have : (l < i + 1 ∧ l ≠ k) ↔ (l < i ∧ l ≠ k) := by omega
                  simp only [this]
                rw [e1]
                exact setS (nwS (sm _ _ (er l hl)) nD) (row_ne eR (er l hl))
            · exact setS (nwS (sm _ _ (fr b o nb hb)) nD) nb
      · have hik : i = k := Classical.byContradiction fun g => h (by
          rw [dec_int]
          simp
          omega)
        refine ⟨_, _, _, ra', rfl, eR, fun l hl => ?_, fr⟩
        have e1 : Tt z k e (i + 1) l = Tt z k e i l := by
          funext j
          unfold Tt
          have : (l < i + 1 ∧ l ≠ k) ↔ (l < i ∧ l ≠ k) := by omega
          simp only [this]
        rw [e1]
        exact er l hl
    · rintro σ H1 ⟨x4, x5, x6, ra', rfl, eR, er, fr⟩
      have ins1 := fr _ _ tb.xR ins
      have eb1 := fr _ _ tb.bR tb.bas
      refine ⟨_, rfl, _, rfl, x, C, dx, _, rfl, ins1, TC.cl, TC.bottom, by show 4 < 1000; decide, ?_⟩
      rw [put_bottom]
      refine ⟨_, rfl, _, rfl, x, C, dx, _, _, rfl, upd_same, TC.cl, TC.basis, rfl, _, rfl, bs, _, _, k, rfl, rfl, setS eb1 tb.xb.symm, by rw [iv_len]; exact ixn hk, ?_⟩
      refine q _ ra' ⟨z.T k e, LP.up z.β k e, Tt z k e (n + 1)⟩ rfl (fun _ => rfl) ⟨fun j _ => ?_, fun i hi hik j _ => ?_⟩ ⟨⟨dx, setS upd_same tb.xb⟩, ?_, fun l hl => ?_, ?_⟩ fun b o n1 n2 n3 hb => ?_
      · show Tt z k e (n + 1) k j = _
        unfold Tt
        rw [if_neg (fun h => h.2 rfl)]
      · show Tt z k e (n + 1) i j = _
        unfold Tt
        rw [if_pos ⟨by omega, hik⟩]
      · exact setS (setS eR tb.xR.symm) tb.bR.symm
      · refine setS (setS (er l hl) fun h => ?_) (row_nb eb1 (er l hl) (by omega))
        have e1 := er l hl
        rw [h, ins1] at e1
        cases e1
      · rw [upd_same, iv_set]
      · exact setS (setS (fr b o n2 hb) n1) n3
end
end MW
namespace MW
open PySem PySem.Spec PyProof.Rows L2
/-! ### __init__ -/
theorem iv_app {f : Nat → Int} {a b : Nat} : iv f (a + b) = iv f a ++ iv (fun j => f (a + j)) b := by
  induction b with
  | zero => show iv f a = iv f a ++ []; rw [List.append_nil]
  | succ b ih => rw [← Nat.add_assoc, iv_succ, ih, iv_succ, List.append_assoc]
theorem iv_congr {f g : Nat → Int} {N : Nat} (h : ∀ j, j < N → f j = g j) : iv f N = iv g N := by
  unfold iv
  exact List.map_congr_left fun j hj => by rw [h j (List.mem_range.mp hj)]
theorem rep_iv (c : Int) : ∀ N : Nat, (List.replicate N [V.int c]).flatten = iv (fun _ => c) N := by
  intro N
  induction N with
  | zero => rfl
  | succ N ih =>
    rw [List.replicate_succ', List.flatten_append, ih, iv_succ]
    rfl
/-- what a tableau is made of -/
structure In (n w : Nat) (A : Nat → Nat → Int) (H : Hp) (rw lm : Addr) (rr : Nat → Addr) : Prop where
  n1 : 1 ≤ n
  n6 : n ≤ 6
  w36 : w ≤ 42
  erw : H rw = some (.lst (rv rr n))
  err : ∀ r, r < n → H (rr r) = some (.lst (iv (fun j => A j r) w))
  elm : H lm = some (.lst (iv (fun r => A (w + n) r) n))
  slack : ∀ r, r < n → ∀ s, s < n → A (w + r) s = if s = r then 1 else 0
def z0 (n w : Nat) (A : Nat → Nat → Int) : LP.S := ⟨1, fun i => w + i, LP.T0 n w A⟩
def spInit (C : Addr) : Sp := fun vs H Q _ => ∃ (x rw lm dx : Addr) (n w : Nat) (A : Nat → Nat → Int) (rr : Nat → Addr), vs = [.ref x, .ref rw, .ref lm] ∧ H x = some (.ins C dx []) ∧ In n w A H rw lm rr ∧
  ∀ (H' : Hp) (R bs : Addr) (ra : Nat → Addr), Tb C x H' n w (z0 n w A) R bs ra → H R = none → H bs = none → (∀ b o, b ≠ x → H b = some o → H' b = some o) → Q .non H'
def fl1 (w : Nat) : List (Str × V) := [("wide", .int w)]
def fl2 (w : Nat) : List (Str × V) := [("wide", .int w), ("bottom", .int 1)]
def fl3 (w : Nat) (R : Addr) : List (Str × V) := [("wide", .int w), ("bottom", .int 1), ("rows", .ref R)]
theorem put_1 {w : Nat} : putF "wide" (.int (w : Int)) [] = fl1 w := rfl
theorem put_2 {w : Nat} : putF "bottom" (.int 1) (fl1 w) = fl2 w := rfl
theorem put_3 {w : Nat} {R : Addr} : putF "rows" (.ref R) (fl2 w) = fl3 w R := rfl
theorem put_4 {w : Nat} {R bs : Addr} : putF "basis" (.ref bs) (fl3 w R) = flds w 1 R bs := rfl
theorem small_len'' {n : Nat} (h : n < 1000) : n ≤ sizeLine := Nat.le_of_lt (small_len' h)
theorem nw5 {H : Hp} {b p1 p2 p3 p4 p5 : Addr} {o o1 o2 o3 o4 o5 : HO} (n1 : H p1 = none) (n2 : upd H p1 o1 p2 = none) (n3 : upd (upd H p1 o1) p2 o2 p3 = none) (n4 : upd (upd (upd H p1 o1) p2 o2) p3 o3 p4 = none) (n5 : upd (upd (upd (upd H p1 o1) p2 o2) p3 o3) p4 o4 p5 = none) (h : H b = some o) :
    upd (upd (upd (upd (upd H p1 o1) p2 o2) p3 o3) p4 o4) p5 o5 b = some o := nwS (nwS (nwS (nwS (nwS h n1) n2) n3) n4) n5
theorem rv_up {f : Nat → Addr} {i : Nat} {q : Addr} : rv (LP.up f i q) (i + 1) = rv f i ++ [.ref q] := by
  rw [rv_succ, LP.up_same]
  refine congrArg (· ++ [V.ref q]) ?_
  unfold rv
  exact List.map_congr_left fun j hj => by rw [LP.up_ne (Nat.ne_of_lt (List.mem_range.mp hj))]
section
variable {P : Program} {w : World} {K : PySem.W.Frag} {mg : Str → Option Value} {base : Heap} {C : Addr}
theorem ok_init {f : Addr} {fd : FuncData} (F : Fun K "__init__" "Tableau.__init__" s_init f fd) (T : Bl mg) (TC : TabC K C) : FnOk P w K mg base CX0 1 f fd ["self", "rows", "limits"] (spInit C) := by
  refine F.ok sc___init__ (fun vs H Q E h => ?_) (fun cdv A outer s H vs Q E hr h => ?_)
  · obtain ⟨x, rw, lm, dx, n, w, A, rr, rfl, _⟩ := h
    rfl
  · obtain ⟨x, rw, lm, dx, n, w, A, rr, rfl, ins, ip, q⟩ := h
    refine ⟨_, (pss_cons (ps_set (i := 3) sc___init__.nd rfl (Or.inl rfl) (pe_callB call_len_seq (by rfl) T.len boot_len (pa_cons (pv 1) pa_nil)))
      (pss_cons (ps_fld (pv 0) (pe_callB call_len_seq (by rfl) T.len boot_len (pa_cons (pe_ix ix_list (pv 1) pe_int (fun _ _ => rfl)) pa_nil)) rfl)
      (pss_cons (ps_fld (pv 0) pe_int rfl)
      (pss_cons (ps_fld (pv 0) (pe_lst pa_nil) rfl)
      (pss_cons (ps_for PassesOwn.never rfl (pi_range1 (by rfl) T.range (pa_cons (pv 3) pa_nil)) (pg_name (i := 4) sc___init__.nd rfl (Or.inr rfl)) (pss_cons (ps_setLc (i := 5) (own := [("j", 6)]) (g := gName 6) (tt := tYes) rfl sc___init__.nd rfl rfl (sw_true rfl rfl rfl (by decide +kernel)) (pi_range1 (by rfl) T.range (pa_cons (pv 3) pa_nil)) (blkOk_by (own := [("j", 6)]) (N := N___init__) (sc := defScope s_init) (by decide +kernel)) (fun _ _ _ _ _ => (pg_name (i := 6) sc___init__.nd rfl (Or.inl rfl))) (fun _ _ _ _ _ => pts_nil) (fun _ _ _ _ _ => (pe_callTy call_int1 (by rfl) T.int boot_int (pa_cons (pe_cmpR op_eq (pv 6) (pv 4) (nomark _)) pa_nil))))
      (pss_one (ps_expr (pe_bm PySem.F.plainAttrs_list PySem.F.slot_list_append PySem.F.type_list_append mt_append (pe_fld (pv 0) rfl) (pa_cons (pe_op op_cat (pe_op op_cat (pe_callTy call_list_of (by rfl) T.list boot_list (pa_cons (pe_ix ix_list (pv 1) (pv 4) (fun _ _ => rfl)) pa_nil)) (pv 5)) (pe_lst (pa_cons (pe_ix ix_list (pv 2) (pv 4) (fun _ _ => rfl)) pa_nil))) pa_nil))))))
      (pss_cons (ps_expr (pe_bm PySem.F.plainAttrs_list PySem.F.slot_list_append PySem.F.type_list_append mt_append (pe_fld (pv 0) rfl) (pa_cons (pe_op op_cat (pe_op op_rep (pe_lst (pa_cons (pe_un un_neg pe_int) pa_nil)) (pe_fld (pv 0) rfl)) (pe_op op_rep (pe_lst (pa_cons pe_int pa_nil)) (pe_op op_add (pv 3) pe_int))) pa_nil)))
      (pss_one (ps_fld (pv 0) (pe_lc (own := [("k", 4)]) (g := gName 4) (tt := tYes) rfl sc___init__.nd (pi_range1 (by rfl) T.range (pa_cons (pv 3) pa_nil)) (blkOk_by (own := [("k", 4)]) (N := N___init__) (sc := defScope s_init) (by decide +kernel)) (fun _ _ _ _ _ => (pg_name (i := 4) sc___init__.nd rfl (Or.inl rfl))) (fun _ _ _ _ _ => pts_nil) (fun _ _ _ _ _ => (pe_op op_add (pe_fldK (K := K) rfl (pv 0) rfl) (pv 4)))) rfl)))))))), ?_⟩
    have n1 := ip.n1
    have n6 := ip.n6
    have w36 := ip.w36
    refine ⟨_, rfl, _, _, rfl, .inl (SqL.of ip.erw), ?_⟩
    rw [rv_len]
    refine ⟨_, rfl, rw, _, 0, _, rfl, rfl, SqL.of ip.erw, atI_nat (j := 0) (rv_at (by omega)), _, _, rfl, .inl (SqL.of (ip.err 0 (by omega))), ?_⟩
    rw [iv_len]
    have nrx : rw ≠ x := fun h => by
      have := ip.erw
      rw [h, ins] at this
      cases this
    have nlx : lm ≠ x := fun h => by
      have := ip.elm
      rw [h, ins] at this
      cases this
    have nrrx : ∀ r, r < n → rr r ≠ x := fun r hr h => by
      have := ip.err r hr
      rw [h, ins] at this
      cases this
    refine ⟨_, rfl, x, C, dx, _, rfl, ins, TC.cl, TC.wide, by show 0 < 1000; decide, ?_⟩
    rw [put_1]
    refine ⟨_, rfl, x, C, dx, _, rfl, upd_same, TC.cl, TC.bottom, by show 1 < 1000; decide, ?_⟩
    rw [put_2, upd_upd]
    refine ⟨Nat.zero_le _, fun R nR => ?_⟩
    have nRx : R ≠ x := (newE nR).1
    have R0 : H R = none := (newE nR).2
    refine ⟨_, rfl, x, C, dx, _, rfl, nwS upd_same nR, TC.cl, TC.rows, by show 2 < 1000; decide, ?_⟩
    rw [put_3]
    refine ⟨_, rfl, _, rfl, by omega, by omega, ?_⟩
    refine for_it (walk_r0 (n := (n : Int).toNat)) (fun i σ H' => ∃ (x4 x5 : Option V) (ra : Nat → Addr), σ = [some (.ref x), some (.ref rw), some (.ref lm), some (.int n), x4, x5, none] ∧ H' x = some (.ins C dx (fl3 w R)) ∧ H' R = some (.lst (rv ra i)) ∧
        (∀ l, l < i → H' (ra l) = some (.lst (iv (LP.T0 n w A l) (w + n + 1)))) ∧ (∀ b o, b ≠ x → H b = some o → H' b = some o))
      ⟨none, none, fun _ => 0, rfl, upd_same, setS upd_same nRx, fun l h => absurd h (Nat.not_lt_zero _), fun b o nb hb => setS (nwS (setS hb nb) nR) nb⟩ (fun _ _ _ _ _ => trivial) ?_ ?_
    · rintro i y σ H1 H2 hi ⟨x4, x5, ra, rfl, ix, eR, er, fr⟩ ⟨rfl, rfl⟩
      have hin : i < n := by omega
      refine ⟨_, rfl, _, rfl, by omega, by omega, fun D nD => ?_⟩
      refine lc_it (walk_r0 (n := (n : Int).toNat)) (fun j H' => H' = upd H2 D (.lst (iv (fun j => if j = i then 1 else 0) j))) rfl (fun _ _ _ _ => trivial) ?_ ?_
      · rintro j y H' H5 hj rfl ⟨rfl, rfl⟩
        refine ⟨rfl, _, rfl, _, rfl, rfl, .inr ⟨_, rfl, _, upd_same, small_len' (by rw [iv_len]; omega), ?_⟩⟩
        show upd (upd H2 D _) D _ = _
        rw [upd_upd, iv_succ]
        have : (if decide (V.int (j : Int) = V.int (i : Int)) = true then (1 : Int) else 0) = if j = i then 1 else 0 := by
          by_cases h : j = i
          · subst h
            simp
          · rw [if_neg h, if_neg]
            rw [dec_int]
            intro g
            have := eq_of_beq g
            omega
        rw [this]
      · rintro H' rfl
        rw [show (n : Int).toNat = n by omega]
        refine ⟨_, rfl, x, C, dx, _, _, rfl, nwS ix nD, TC.cl, TC.rows, rfl, .inl ⟨rfl, _, SqL.of (nwS eR nD)⟩, ?_⟩
        refine ⟨_, rfl, _, rfl, rw, _, _, _, rfl, rfl, SqL.of (nwS (fr _ _ nrx ip.erw) nD), atI_nat (rv_at hin), rr i, _, rfl, .inl (SqL.of (nwS (fr _ _ (nrrx i hin) (ip.err i hin)) nD)), fun l nl => ?_⟩
        refine ⟨_, rfl, l, D, _, _, rfl, rfl, upd_same, nwS upd_same nl, small_len'' (by rw [iv_len, iv_len]; omega), fun u nu => ?_⟩
        refine ⟨_, rfl, _, rfl, lm, _, _, _, rfl, rfl, SqL.of (nwS (nwS (nwS (fr _ _ nlx ip.elm) nD) nl) nu), atI_nat (iv_at hin), by show 1 ≤ sizeLine; decide, fun v nv => ?_⟩
        refine ⟨u, v, _, _, rfl, rfl, nwS upd_same nv, upd_same, small_len'' (by rw [List.length_append, iv_len, iv_len]; show w + n + 1 < 1000; omega), fun q nq => ?_⟩
        have eR2 := nw5 nD nl nu nv nq (o5 := .lst (iv (LP.T0 n w A i) (w + n + 1))) eR
        have eq : iv (fun j => A j i) w ++ iv (fun j => if j = i then 1 else 0) n ++ [V.int (A (w + n) i)] = iv (LP.T0 n w A i) (w + n + 1) := by
          rw [iv_succ, iv_app]
          have t0 : ∀ j, LP.T0 n w A i j = A j i := fun j => if_pos hin
          refine congr (congrArg _ (congr (congrArg _ (iv_congr fun j _ => (t0 j).symm)) (iv_congr fun j hj => ?_))) (by rw [t0])
          rw [t0, ip.slack j hj i hin]
          by_cases h : j = i
          · rw [if_pos h, if_pos h.symm]
          · rw [if_neg h, if_neg (Ne.symm h)]
        rw [eq]
        refine ⟨R, _, _, rfl, rfl, eR2, small_len' (by rw [rv_len]; omega), _, _, LP.up ra i q, rfl, setS (nw5 nD nl nu nv nq ix) nRx.symm, ?_, fun l hl => ?_, fun b o nb hb => ?_⟩
        · rw [upd_same, ← rv_up]
        · by_cases hl' : l = i
          · subst hl'
            rw [LP.up_same]
            exact setS upd_same (ne_of_none (nwS (nwS (nwS (nwS eR nD) nl) nu) nv) nq).symm
          · rw [LP.up_ne hl']
            refine setS (nw5 nD nl nu nv nq (er l (by omega))) ?_
            have eR' := eR
            rw [show i = (i - 1) + 1 by omega] at eR'
            exact row_ne eR' (er l (by omega))
        · exact setS (nw5 nD nl nu nv nq (fr b o nb hb)) (ne_of_none hb R0)
    · rintro σ H1 ⟨x4, x5, ra, rfl, ix, eR, er, fr⟩
      rw [show (n : Int).toNat = n by omega] at eR er
      -- the last row
      refine ⟨_, rfl, x, C, dx, _, _, rfl, ix, TC.cl, TC.rows, rfl, .inl ⟨rfl, _, SqL.of eR⟩, ?_⟩
      refine ⟨_, rfl, by show 1 ≤ sizeLine; decide, fun p1 np1 => ?_⟩
      refine ⟨_, rfl, x, C, dx, _, _, rfl, nwS ix np1, TC.cl, TC.wide, rfl, p1, _, _, rfl, rfl, upd_same, by omega, by omega, ?_, fun p2 np2 => ?_⟩
      · show 1 * _ ≤ _
        exact small_len'' (by omega)
      refine ⟨by show 1 ≤ sizeLine; decide, fun p3 np3 => ?_⟩
      refine ⟨_, rfl, _, _, rfl, rfl, p3, _, _, rfl, rfl, upd_same, by omega, by omega, ?_, fun p4 np4 => ?_⟩
      · show 1 * _ ≤ _
        exact small_len'' (by omega)
      have eq : (List.replicate (w : Int).toNat [V.int (-1)]).flatten ++ (List.replicate ((n : Int) + 1).toNat [V.int 0]).flatten = iv (LP.T0 n w A n) (w + n + 1) := by
        rw [rep_iv, rep_iv, show (w : Int).toNat = w by omega, show ((n : Int) + 1).toNat = n + 1 by omega, Nat.add_assoc, iv_app (f := LP.T0 n w A n) (a := w) (b := n + 1)]
        have t0 : ∀ j, LP.T0 n w A n j = - LP.cost w j := fun j => if_neg (Nat.lt_irrefl _)
        refine congr (congrArg _ (iv_congr fun j hj => ?_)) (iv_congr fun j hj => ?_)
        · rw [t0]
          unfold LP.cost
          rw [if_pos hj]
        · rw [t0]
          unfold LP.cost
          rw [if_neg (by omega)]
          rfl
      have l1 : (List.replicate (w : Int).toNat [V.int (-1)]).flatten.length ≤ 42 := by
        rw [rep_iv, iv_len]
        omega
      have l2 : (List.replicate ((n : Int) + 1).toNat [V.int 0]).flatten.length ≤ 7 := by
        rw [rep_iv, iv_len]
        omega
      refine ⟨p2, p4, _, _, rfl, rfl, nwS (nwS upd_same np3) np4, upd_same, small_len'' (Nat.lt_of_le_of_lt (Nat.add_le_add l1 l2) (by decide)), fun p5 np5 => ?_⟩
      refine ⟨R, _, _, rfl, rfl, nw5 np1 np2 np3 np4 np5 eR, small_len' (by rw [rv_len]; omega), ?_⟩
      have fr5 : ∀ (o1 o2 o3 o4 o5 : HO) (n1 : H1 p1 = none) (n2 : upd H1 p1 o1 p2 = none) (n3 : upd (upd H1 p1 o1) p2 o2 p3 = none) (n4 : upd (upd (upd H1 p1 o1) p2 o2) p3 o3 p4 = none) (n5 : upd (upd (upd (upd H1 p1 o1) p2 o2) p3 o3) p4 o4 p5 = none) (oR : HO), o5 = .lst (iv (LP.T0 n w A n) (w + n + 1)) → oR = .lst (rv ra n ++ [.ref p5]) →
          ∃ ra' : Nat → Addr, upd (upd (upd (upd (upd (upd H1 p1 o1) p2 o2) p3 o3) p4 o4) p5 o5) R oR x = some (.ins C dx (fl3 w R)) ∧ upd (upd (upd (upd (upd (upd H1 p1 o1) p2 o2) p3 o3) p4 o4) p5 o5) R oR R = some (.lst (rv ra' (n + 1))) ∧
            (∀ l, l ≤ n → upd (upd (upd (upd (upd (upd H1 p1 o1) p2 o2) p3 o3) p4 o4) p5 o5) R oR (ra' l) = some (.lst (iv (LP.T0 n w A l) (w + n + 1)))) ∧ (∀ b o, b ≠ x → H b = some o → upd (upd (upd (upd (upd (upd H1 p1 o1) p2 o2) p3 o3) p4 o4) p5 o5) R oR b = some o) := by
        rintro o1 o2 o3 o4 o5 n1' n2 n3 n4 n5 oR rfl rfl
        refine ⟨LP.up ra n p5, setS (nw5 n1' n2 n3 n4 n5 ix) nRx.symm, by rw [upd_same, ← rv_up], fun l hl => ?_, fun b o nb hb => setS (nw5 n1' n2 n3 n4 n5 (fr b o nb hb)) (ne_of_none hb R0)⟩
        by_cases hl' : l = n
        · subst hl'
          rw [LP.up_same]
          exact setS upd_same (ne_of_none (nwS (nwS (nwS (nwS eR n1') n2) n3) n4) n5).symm
        · rw [LP.up_ne hl']
          refine setS (nw5 n1' n2 n3 n4 n5 (er l (by omega))) ?_
          have eR' := eR
          rw [show n = (n - 1) + 1 by omega] at eR'
          exact row_ne eR' (er l (by omega))
      obtain ⟨ra', ix2, eR2, er2, fr2⟩ := fr5 _ _ _ _ _ np1 np2 np3 np4 np5 _ (congrArg HO.lst eq) rfl
      revert ix2 eR2 er2 fr2
      generalize upd (upd (upd (upd (upd (upd H1 p1 _) p2 _) p3 _) p4 _) p5 _) R _ = H2
      intro ix2 eR2 er2 fr2
      refine ⟨_, rfl, _, rfl, by omega, by omega, fun D nD => ?_⟩
      refine lc_it (walk_r0 (n := (n : Int).toNat)) (fun j H' => H' = upd H2 D (.lst (iv (fun i => ((w + i : Nat) : Int)) j))) rfl (fun _ _ _ _ => trivial) ?_ ?_
      · rintro j y H' H5 hj rfl ⟨rfl, rfl⟩
        refine ⟨rfl, _, rfl, x, C, dx, _, _, rfl, nwS ix2 nD, TC.cl, TC.wide, rfl, _, rfl, _, _, rfl, rfl, _, upd_same, small_len' (by rw [iv_len]; omega), ?_⟩
        show upd (upd H2 D _) D _ = _
        rw [upd_upd, iv_succ]
        rfl
      · rintro H' rfl
        refine ⟨_, rfl, x, C, dx, _, rfl, nwS ix2 nD, TC.cl, TC.basis, by show 3 < 1000; decide, ?_⟩
        rw [put_4, show (n : Int).toNat = n by omega]
        have nDx : D ≠ x := (ne_of_none ix2 nD).symm
        refine q _ R D ra' ⟨⟨dx, upd_same⟩, setS (nwS eR2 nD) nRx, fun l hl => setS (nwS (er2 l hl) nD) fun g => ?_, setS upd_same nDx⟩ R0 ?_ fun b o nb hb => setS (nwS (fr2 b o nb hb) nD) nb
        · have := er2 l hl
          rw [g, ix2] at this
          cases this
        · cases hD : H D with
          | none => rfl
          | some o =>
            rw [fr2 D o nDx hD] at nD
            cases nD
end
end MW
namespace MW
open PySem PySem.Spec PyProof.Rows L2
/-! ### greatest -/
theorem Tb.nw {C x : Addr} {H : Hp} {n w : Nat} {z : LP.S} {R bs q : Addr} {ra : Nat → Addr} {o : HO} (t : Tb C x H n w z R bs ra) (h : H q = none) : Tb C x (upd H q o) n w z R bs ra := by
  obtain ⟨dx, ins⟩ := t.ins
  exact ⟨⟨dx, nwS ins h⟩, nwS t.rows h, fun i hi => nwS (t.row i hi) h, nwS t.bas h⟩
theorem bnd6 {n : Nat} (h : n ≤ 6) : LP.bnd 9 n ≤ 382637520 := Nat.le_trans (LP.bnd_mono (by decide) h) (by decide)
theorem sz_of {n w : Nat} {A : Nat → Nat → Int} {z : LP.S} (p : LP.Prob n w A) (t : LP.Ok n w A z) (hn : n ≤ 6) (hw : w ≤ 42) : Sz n w z := by
  have b6 := bnd6 hn
  refine ⟨hn, hw, t.pos, ?_, fun i hi j hj => ?_⟩
  · have h1 := t.smallB p
    omega
  · by_cases h : i < n
    · have h1 := t.small p h hj
      omega
    · have e : i = n := by omega
      subst e
      have h1 := t.smallO p hj
      have h2 : (i + 1) * LP.bnd 9 i ≤ 7 * 382637520 := Nat.mul_le_mul (by omega) b6
      omega
def spGreat : Sp := fun vs H Q _ => ∃ (rw lm : Addr) (n w : Nat) (A : Nat → Nat → Int) (rr : Nat → Addr), vs = [.ref rw, .ref lm] ∧ In n w A H rw lm rr ∧ LP.Prob n w A ∧
  ∀ (p nu sh : Addr) (b top : Int) (xv yv : Nat → Int) (H' : Hp), Same H H' → H' p = some (.tup [.int b, .int top, .ref nu, .ref sh]) → H' nu = some (.lst (iv xv w)) → H' sh = some (.lst (iv yv n)) → LP.Opt n w A b top xv yv → b < 2 ^ 30 → Q (.ref p) H'
theorem cut_shares {f : Nat → Int} {w n : Nat} : cutV (iv f (w + n + 1)) (some (w : Int)) (some (-1)) = iv (fun r => f (w + r)) n := by
  unfold cutV
  have e : HT.sIx (w + n + 1) (w + n + 1) (some (-1)) = w + n := by
    show (if (-1 : Int) < 0 then ((-1 : Int) + ((w + n + 1 : Nat) : Int)).toNat else min (-1 : Int).toNat (w + n + 1)) = w + n
    rw [if_pos (by decide)]
    omega
  rw [iv_len, HT.sIx_nat, e, Nat.min_eq_left (by omega), Nat.add_assoc, iv_app, List.drop_left' iv_len, Nat.add_sub_cancel_left, iv_succ]
  exact List.take_left' iv_len
section
variable {P : Program} {w : World} {K : PySem.W.Frag} {mg : Str → Option Value} {base : Heap} {C : Addr}
theorem ok_greatest {f fi fe fl ft fv : Addr} {fd fdi fde fdl fdt fdv : FuncData} (F : Fun K "greatest" "greatest" s_greatest f fd) (T : Bl mg) (TC : TabC K C) (c_init : CalI P w K mg base C 1 fi fdi ["self", "rows", "limits"] (spInit C)) (c_entering : CalM P w K mg base C 1 "entering" fe fde ["self"] (spEnter C))
    (c_leaving : CalM P w K mg base C 2 "leaving" fl fdl ["self", "column"] (spLeave C)) (c_turn : CalM P w K mg base C 1 "turn" ft fdt ["self", "k", "column"] (spTurn C)) (c_value : CalM P w K mg base C 1 "value" fv fdv ["self", "thing"] (spValue C)) :
    FnOk P w K mg base CX0 3 f fd ["rows", "limits"] spGreat := by
  refine F.ok sc_greatest (fun vs H Q E h => ?_) (fun cdv A outer s H vs Q E hr h => ?_)
  · obtain ⟨rw, lm, n, w, A, rr, rfl, _⟩ := h
    rfl
  · obtain ⟨rw, lm, n, w, B, rr, rfl, ip, pr, q⟩ := h
    refine ⟨_, (pss_cons (ps_set (i := 2) sc_greatest.nd rfl (Or.inr rfl) (pe_make c_init.M c_init.G (hr.mono (by decide)) (by rfl) c_init.mgC c_init.b .nil pass0 (pa_cons (pv 0) (pa_cons (pv 1) pa_nil))))
      (pss_cons (ps_set (i := 3) sc_greatest.nd rfl (Or.inl rfl) (pe_meth0 (pv 2) TC.cl c_entering.m c_entering.G (hr.mono (by decide)) c_entering.b .nil pass0))
      (pss_cons (ps_while PassesOwn.never (pt_cmpR op_notN (pv 3) pe_non (nomark _)) (pss_cons (ps_expr (pe_meth (pv 2) TC.cl c_turn.m c_turn.G (hr.mono (by decide)) c_turn.b .nil pass0 (pa_cons (pe_meth (pv 2) TC.cl c_leaving.m c_leaving.G (hr.mono (by decide)) c_leaving.b .nil pass0 (pa_cons (pv 3) pa_nil)) (pa_cons (pv 3) pa_nil))))
      (pss_one (ps_set (i := 3) sc_greatest.nd rfl (Or.inl rfl) (pe_meth0 (pv 2) TC.cl c_entering.m c_entering.G (hr.mono (by decide)) c_entering.b .nil pass0)))))
      (pss_cons (ps_setLc (i := 4) (own := [("j", 6)]) (g := gName 6) (tt := tYes) rfl sc_greatest.nd rfl rfl (sw_true rfl rfl rfl (by decide +kernel)) (pi_range1 (by rfl) T.range (pa_cons (pe_fld (pv 2) rfl) pa_nil)) (blkOk_by (own := [("j", 6)]) (N := N_greatest) (sc := defScope s_greatest) (by decide +kernel)) (fun _ _ _ _ _ => (pg_name (i := 6) sc_greatest.nd rfl (Or.inl rfl))) (fun _ _ _ _ _ => pts_nil) (fun _ _ _ _ _ => (pe_meth (pv 2) TC.cl c_value.m c_value.G (hr.mono (by decide)) c_value.b .nil pass0 (pa_cons (pv 6) pa_nil))))
      (pss_cons (ps_set (i := 5) sc_greatest.nd rfl (Or.inl rfl) (pe_slice sl_list (pe_ix ix_list (pe_fld (pv 2) rfl) (pe_un un_neg pe_int) (fun _ _ => rfl)) (po_some (pe_fld (pv 2) rfl)) (po_some (pe_un un_neg pe_int))))
      (pss_one (ps_ret (pe_tup (pa_cons (pe_fld (pv 2) rfl) (pa_cons (pe_ix ix_list (pe_ix ix_list (pe_fld (pv 2) rfl) (pe_un un_neg pe_int) (fun _ _ => rfl)) (pe_un un_neg pe_int) (fun _ _ => rfl)) (pa_cons (pv 4) (pa_cons (pv 5) pa_nil)))))))))))), ?_⟩
    have n1 := ip.n1
    have n6 := ip.n6
    have w36 := ip.w36
    refine ⟨_, rfl, _, rfl, fun x dx nx nd nxd => ?_⟩
    have ip2 : In n w B (upd (upd H dx (.own x)) x (.ins C dx [])) rw lm rr := by
      have k : ∀ b o, H b = some o → upd (upd H dx (.own x)) x (.ins C dx []) b = some o := fun b o h => setS (nwS h nd) (ne_of_none h nx)
      exact ⟨ip.n1, ip.n6, ip.w36, k _ _ ip.erw, fun r hr => k _ _ (ip.err r hr), k _ _ ip.elm, ip.slack⟩
    refine ⟨x, rw, lm, dx, n, w, B, rr, rfl, upd_same, ip2, fun H1 R bs ra tb R0 bs0 fr => ⟨rfl, ?_⟩⟩
    have R0' : H R = none := by
      have := (newE R0).2
      exact (newE this).2
    have bs0' : H bs = none := by
      have := (newE bs0).2
      exact (newE this).2
    have fr1 : Same H H1 := fun b o h => fr b o (ne_of_none h nx) (setS (nwS h nd) (ne_of_none h nx))
    have ok0 : LP.Ok n w B (z0 n w B) := LP.Tab.first pr
    obtain ⟨dx1, ins1⟩ := tb.ins
    refine ⟨_, rfl, x, dx1, _, rfl, ins1, rfl, x, n, w, _, R, bs, ra, rfl, tb, sz_of pr ok0 n6 w36, fun cv hc => ?_⟩
    refine ⟨fun m σ H' => ∃ (t : Nat) (z : LP.S) (ra : Nat → Addr) (cv : V), σ = [some (.ref rw), some (.ref lm), some (.ref x), some cv, none, none, none] ∧ Tb C x H' n w z R bs ra ∧ LP.Reach n w B t z ∧ Col n w z cv ∧ Same H H' ∧ m = (w + n) ^ n - t,
      ⟨_, 0, z0 n w B, ra, cv, rfl, tb, LP.Reach.zero ok0, hc, fr1, rfl⟩, ?_⟩
    rintro m σ H2 ⟨t, z, ra, cv, rfl, tb, re, hc, fr, rfl⟩
    obtain ⟨dx2, ins2⟩ := tb.ins
    have sz := sz_of pr re.ok n6 w36
    refine ⟨_, rfl, rfl, _, rfl, ?_⟩
    rcases hc with ⟨e, rfl, he⟩ | ⟨rfl, hz⟩
    · refine ite2 (fun _ => ?_) (fun h => absurd rfl h)
      refine ⟨fun σ' H' => ∃ (z : LP.S) (ra : Nat → Addr) (cv : V), σ' = [some (.ref rw), some (.ref lm), some (.ref x), some cv, none, none, none] ∧ Tb C x H' n w z R bs ra ∧ LP.Reach n w B (t + 1) z ∧ Col n w z cv ∧ Same H H', fun σ' H' ⟨z, ra, cv, e1, e2, e3, e4, e5⟩ => ⟨(w + n) ^ n - (t + 1), ?_, t + 1, z, ra, cv, e1, e2, e3, e4, e5, rfl⟩, ?_⟩
      · have := re.lt pr
        omega
      refine ⟨_, rfl, x, dx2, _, rfl, ins2, rfl, ?_⟩
      refine ⟨_, rfl, x, dx2, _, rfl, ins2, rfl, _, rfl, x, n, w, z, R, bs, ra, e, rfl, tb, sz, he.1, re.ok.bounded pr he.1 he.2.1, fun k hk => ?_⟩
      refine ⟨_, rfl, x, n, w, z, R, bs, ra, k, e, rfl, tb, sz, hk.1, he.1, hk.2.1, fun H3 ra' z' hb hβ hT tb' fr' => ?_⟩
      have re' := re.next ⟨he, hk, hb, fun i _ => hβ i, hT⟩
      have fr2 : Same H H3 := fun b o h => fr' b o (ne_of_none h nx) (ne_of_none h R0') (ne_of_none h bs0') (fr b o h)
      obtain ⟨dx3, ins3⟩ := tb'.ins
      exact ⟨_, rfl, x, dx3, _, rfl, ins3, rfl, x, n, w, z', R, bs, ra', rfl, tb', sz_of pr re'.ok n6 w36, fun cv hc => ⟨z', ra', cv, rfl, tb', re', hc, fr2⟩⟩
    · refine ite2 (fun h => by cases h) (fun _ => ?_)
      -- numbers
      refine ⟨_, rfl, x, C, dx2, _, _, rfl, ins2, TC.cl, TC.wide, rfl, _, rfl, by omega, by omega, fun D nD => ?_⟩
      refine lc_it (walk_r0 (n := (w : Int).toNat)) (fun j H' => H' = upd H2 D (.lst (iv (LP.val n (w + n) z.β z.T) j))) rfl (fun _ _ _ _ => trivial) ?_ ?_
      · rintro j y H' H5 hj rfl ⟨rfl, rfl⟩
        refine ⟨rfl, _, rfl, x, dx2, _, rfl, nwS ins2 nD, rfl, _, rfl, x, n, w, B, z, R, bs, ra, j, rfl, tb.nw nD, re.ok, _, upd_same, small_len' (by rw [iv_len]; omega), ?_⟩
        show upd (upd H2 D _) D _ = _
        rw [upd_upd, iv_succ]
      · rintro H' rfl
        rw [show (w : Int).toNat = w by omega]
        have tb3 := tb.nw (o := .lst (iv (LP.val n (w + n) z.β z.T) w)) nD
        obtain ⟨dx3, ins3⟩ := tb3.ins
        refine ⟨_, rfl, x, C, dx3, _, _, rfl, ins3, TC.cl, TC.rows, rfl, _, rfl, R, _, _, _, rfl, rfl, SqL.of tb3.rows, rv_last, ?_⟩
        refine ⟨_, rfl, x, C, dx3, _, _, rfl, ins3, TC.cl, TC.wide, rfl, _, rfl, _, rfl, _, rfl, ra n, _, rfl, SqL.of (tb3.row n (Nat.le_refl _)), fun S nS => ?_⟩
        rw [cut_shares]
        have tb4 := tb3.nw (o := .lst (iv (fun r => z.T n (w + r)) n)) nS
        obtain ⟨dx4, ins4⟩ := tb4.ins
        refine ⟨_, rfl, x, C, dx4, _, _, rfl, ins4, TC.cl, TC.bottom, rfl, ?_⟩
        refine ⟨_, rfl, x, C, dx4, _, _, rfl, ins4, TC.cl, TC.rows, rfl, _, rfl, R, _, _, _, rfl, rfl, SqL.of tb4.rows, rv_last, _, rfl, _, _, _, _, rfl, rfl, SqL.of (tb4.row n (Nat.le_refl _)), iv_last, ?_⟩
        refine ⟨_, rfl, _, rfl, by show 4 ≤ sizeLine; decide, fun p np => ?_⟩
        exact q p D S z.b (z.T n (w + n)) _ _ _ (((fr.trans (same_upd nD)).trans (same_upd nS)).trans (same_upd np)) upd_same (nwS (nwS upd_same nS) np) (nwS upd_same np) (re.ok.opt pr hz) sz.b30
end
end MW
namespace MW
open PySem PySem.Spec PyProof.Rows L2
/-! ### columns of a question -/
def addC (found own : List Str) : List Str := found ++ own.filter fun c => !decide (c ∈ found)
def colsOf (Q : List (List Str)) : List Str := Q.foldl addC []
theorem addC_mem {f o : List Str} {c : Str} : c ∈ addC f o ↔ c ∈ f ∨ c ∈ o := by
  unfold addC
  rw [List.mem_append, List.mem_filter]
  by_cases h : c ∈ f
  · simp [h]
  · simp [h]
theorem addC_nodup {f o : List Str} (hf : f.Nodup) (ho : o.Nodup) : (addC f o).Nodup := by
  unfold addC
  rw [List.nodup_append]
  refine ⟨hf, ho.sublist List.filter_sublist, fun a ha b hb => ?_⟩
  intro e
  subst e
  have := (List.mem_filter.mp hb).2
  rw [decide_eq_true ha] at this
  cases this
theorem addC_len {f o : List Str} : (addC f o).length ≤ f.length + o.length := by
  unfold addC
  rw [List.length_append]
  exact Nat.add_le_add_left (List.length_filter_le _ _) _
theorem fold_mem {c : Str} : ∀ {Q : List (List Str)} {f : List Str}, c ∈ Q.foldl addC f ↔ c ∈ f ∨ ∃ o ∈ Q, c ∈ o
  | [], f => by simp
  | o :: Q, f => by
    rw [List.foldl_cons, fold_mem, addC_mem]
    simp [or_assoc]
theorem fold_nodup : ∀ {Q : List (List Str)} {f : List Str}, f.Nodup → (∀ o ∈ Q, o.Nodup) → (Q.foldl addC f).Nodup
  | [], f, h, _ => h
  | o :: Q, f, h, hq => by
    rw [List.foldl_cons]
    exact fold_nodup (addC_nodup h (hq o List.mem_cons_self)) fun x hx => hq x (List.mem_cons_of_mem _ hx)
theorem fold_len : ∀ {Q : List (List Str)} {f : List Str} {m : Nat}, (∀ o ∈ Q, o.length ≤ m) → (Q.foldl addC f).length ≤ f.length + Q.length * m
  | [], f, m, _ => by simp
  | o :: Q, f, m, h => by
    rw [List.foldl_cons]
    have h1 := fold_len (f := addC f o) fun x hx => h x (List.mem_cons_of_mem _ hx)
    have h2 := addC_len (f := f) (o := o)
    have h3 := h o List.mem_cons_self
    rw [List.length_cons, Nat.add_mul, Nat.one_mul]
    omega
theorem cols_mem {Q : List (List Str)} {c : Str} : c ∈ colsOf Q ↔ ∃ o ∈ Q, c ∈ o := by
  unfold colsOf
  rw [fold_mem]
  simp
theorem cols_nodup {Q : List (List Str)} (h : ∀ o ∈ Q, o.Nodup) : (colsOf Q).Nodup := fold_nodup List.nodup_nil h
theorem cols_len {Q : List (List Str)} (h : ∀ o ∈ Q, o.length ≤ 6) (hq : Q.length ≤ 6) : (colsOf Q).length ≤ 36 := by
  have := fold_len (f := []) h
  have h2 : Q.length * 6 ≤ 6 * 6 := Nat.mul_le_mul_right _ hq
  unfold colsOf
  simp at this
  omega
theorem fold_snoc {Q : List (List Str)} {o : List Str} {f : List Str} : (Q ++ [o]).foldl addC f = addC (Q.foldl addC f) o := by
  rw [List.foldl_append]
  rfl
/-- the owns of the rows -/
abbrev owns (rs : List Row) : List (List Str) := rs.map Row.own
theorem Qs.at {K : PySem.W.Frag} {H : Hp} {p : Addr} {rs : List Row} (q : Qs K H p rs) {i : Nat} (hi : i < rs.length) : RowOk H rs[i] := q.rows _ (List.getElem_mem hi)
theorem qRefs_at {rs : List Row} {i : Nat} (hi : i < rs.length) : (qRefs rs)[i]? = some (.ref rs[i].T) := by
  unfold qRefs
  rw [List.getElem?_map, List.getElem?_eq_getElem hi]
  rfl
theorem RowOk.same {H H' : Hp} {r : Row} (h : RowOk H r) (s : Same H H') : RowOk H' r := ⟨s _ _ h.1, s _ _ h.2.1, h.2.2⟩
theorem Qs.same {K : PySem.W.Frag} {H H' : Hp} {p : Addr} {rs : List Row} (q : Qs K H p rs) (s : Same H H') : Qs K H' p rs := ⟨Same.seqT s q.tup, fun r h => (q.rows r h).same s, q.nms, q.pos, q.six⟩
def spCols (mk : List V → HO) (K : PySem.W.Frag) : Sp := fun vs H Q _ => ∃ (p : Addr) (rs : List Row), vs = [.ref p] ∧ Qs K H p rs ∧ ∀ (u : Addr) (H' : Hp), Same H H' → H u = none → H' u = some (mk ((colsOf (owns rs)).map V.str)) → Q (.ref u) H'
section
variable {P : Program} {w : World} {K : PySem.W.Frag} {mg : Str → Option Value} {base : Heap}
theorem ok_columns_of {f : Addr} {fd : FuncData} (F : Fun K "columns_of" "columns_of" s_columns_of f fd) (T : Bl mg) : FnOk P w K mg base CX0 1 f fd ["question"] (spCols .tup K) := by
  refine F.ok sc_columns_of (fun vs H Q E h => ?_) (fun cdv A outer s H vs Q E hr h => ?_)
  · obtain ⟨p, rs, rfl, _⟩ := h
    rfl
  · obtain ⟨p, rs, rfl, qs, q⟩ := h
    refine ⟨_, (pss_cons (ps_set (i := 1) sc_columns_of.nd rfl (Or.inr rfl) (pe_lst pa_nil))
      (pss_cons (ps_for PassesOwn.never rfl (pi_tup (pv 0)) (pg_tup rfl (pgs_cons (pg_name (i := 2) sc_columns_of.nd rfl (Or.inl rfl)) (pgs_cons (pg_name (i := 3) sc_columns_of.nd rfl (Or.inl rfl)) pgs_nil))) (pss_one (ps_expr (pe_bm PySem.F.plainAttrs_list PySem.F.slot_list_extend PySem.F.type_list_extend mt_extend (pv 1) (pa_cons (pe_lc (own := [("column", 4)]) (g := gName 4) rfl sc_columns_of.nd (pi_tup (pv 3)) (blkOk_by (own := [("column", 4)]) (N := N_columns_of) (sc := defScope s_columns_of) (by decide +kernel)) (fun _ _ _ _ _ => (pg_name (i := 4) sc_columns_of.nd rfl (Or.inl rfl))) (fun _ _ _ _ _ => (pts_one (pt_cmpR (op_notIn_seqK (K := K) rfl) (pv 4) (pv 1) (by rfl)))) (fun _ _ _ _ _ => (pv 4))) pa_nil)))))
      (pss_one (ps_ret (pe_callTy call_tuple_of (by rfl) T.tuple boot_tuple (pa_cons (pv 1) pa_nil)))))), ?_⟩
    have r6 := qs.six
    refine ⟨Nat.zero_le _, fun l nl => ?_⟩
    have lw := walk_tup (K := K) (a := p) (xs := qRefs rs)
    rw [show (qRefs rs).length = rs.length from List.length_map ..] at lw
    refine ⟨_, rfl, p, rfl, ⟨_, Same.seqT (same_upd nl) qs.tup⟩, ?_⟩
    refine for_it lw (fun i σ H' => ∃ (x2 x3 : Option V), σ = [some (.ref p), some (.ref l), x2, x3, none] ∧ H' l = some (.lst ((colsOf ((owns rs).take i)).map V.str)) ∧ Same H H')
      ⟨none, none, rfl, upd_same, same_upd nl⟩ (fun i σ H' _ h => by obtain ⟨_, _, _, _, s⟩ := h; exact Same.seqT s qs.tup) ?_ ?_
    · rintro i x σ H1 H2 hi ⟨x2, x3, rfl, el, sm⟩ ⟨rfl, hx⟩
      rw [qRefs_at hi] at hx
      have hx := (Option.some.inj hx).symm
      subst hx
      have ro := (qs.at hi).same sm
      refine ⟨_, _, rfl, SqT.of ro.1, rfl, _, _, rfl, _, _, rfl, rfl, ?_⟩
      refine ⟨_, rfl, .inl ⟨rfl, _, SqL.of el⟩, _, rfl, _, rfl, ⟨_, SqT.of ro.2.1⟩, fun D nD => ?_⟩
      have on := ro.2.2
      obtain ⟨ow, how⟩ : ∃ ow, ow = rs[i].own := ⟨_, rfl⟩
      rw [← how] at on
      have o6 : ow.length ≤ 6 := on.2.2
      have lw2 := walk_tup (K := K) (a := rs[i].o) (xs := ow.map V.str)
      rw [List.length_map] at lw2
      have eo : H2 rs[i].o = some (.tup (ow.map V.str)) := by rw [how]; exact ro.2.1
      generalize hF : colsOf ((owns rs).take i) = fnd at el
      have fl : fnd.length ≤ 36 := by
        rw [← hF]
        refine cols_len (fun o ho => ?_) (by rw [List.length_take]; omega)
        obtain ⟨r, hr, rfl⟩ := List.mem_map.mp (List.mem_of_mem_take ho)
        exact (qs.rows r hr).2.2.2.2
      refine lc_it lw2 (fun j H' => H' = upd H2 D (.lst (((ow.take j).filter fun c => !decide (c ∈ fnd)).map V.str))) rfl ?_ ?_ ?_
      · rintro j H' _ rfl
        exact SqT.of (nwS eo nD)
      · rintro j x H' H5 hj rfl ⟨rfl, hx⟩
        rw [List.getElem?_map, List.getElem?_eq_getElem hj] at hx
        have hx := (Option.some.inj hx).symm
        subst hx
        have tk : ow.take (j + 1) = ow.take j ++ [ow[j]] := List.take_succ_eq_append_getElem hj
        have ev : (if true = true then !inV (V.str ow[j]) (fnd.map V.str) else inV (V.str ow[j]) (fnd.map V.str)) = !decide (ow[j] ∈ fnd) := by
          rw [if_pos rfl, inV_str]
        refine ⟨rfl, _, rfl, _, rfl, l, _, rfl, .inl (SqL.of (nwS el nD)), rfl, flat_strs _, _, rfl, ite2 (fun e => ?_) (fun e => ?_)⟩
        · rw [ev] at e
          refine ⟨_, rfl, _, upd_same, small_len (m := 6) ?_, ?_⟩
          · rw [List.length_map]
            refine Nat.le_trans (List.length_filter_le _ _) ?_
            rw [List.length_take]
            omega
          · show upd (upd H2 D _) D _ = _
            rw [upd_upd, tk, List.filter_append, List.map_append, List.filter_cons_of_pos (p := fun c => !decide (c ∈ fnd)) e]
            rfl
        · rw [ev] at e
          show upd H2 D _ = _
          rw [tk, List.filter_append, List.filter_cons_of_neg (p := fun c => !decide (c ∈ fnd)) e, List.filter_nil, List.append_nil]
      · rintro H' rfl
        rw [List.take_length]
        have nDl : l ≠ D := ne_of_none el nD
        refine ⟨l, D, _, _, rfl, rfl, nwS el nD, upd_same, small_len (m := 42) ?_ |> Nat.le_of_lt, _, _, rfl, ?_, fun b o hb => ?_⟩
        · rw [List.length_map, List.length_map]
          have := List.length_filter_le (fun c => !decide (c ∈ fnd)) ow
          omega
        · have tk : (owns rs).take (i + 1) = (owns rs).take i ++ [ow] := by
            have hio : i < (owns rs).length := by rw [List.length_map]; exact hi
            rw [List.take_succ_eq_append_getElem hio, List.getElem_map, how]
          have e1 : colsOf ((owns rs).take (i + 1)) = addC fnd ow := by
            rw [tk, ← hF]
            exact fold_snoc
          rw [upd_same, e1]
          unfold addC
          rw [List.map_append]
        · have nbl : b ≠ l := ne_of_none hb nl
          exact setS (nwS (sm _ _ hb) nD) nbl
    · rintro σ H1 ⟨x2, x3, rfl, el, sm⟩
      rw [show (owns rs).take rs.length = owns rs by rw [show rs.length = (owns rs).length from (List.length_map ..).symm, List.take_length]] at el
      refine ⟨_, rfl, l, _, rfl, .inl ⟨SqL.of el, fun u nu => ?_⟩⟩
      refine q u _ (sm.trans (same_upd nu)) ?_ upd_same
      cases hu : H u with
      | none => rfl
      | some o =>
        have nu' : H1 u = none := nu
        rw [sm u o hu] at nu'
        cases nu'
end
section
variable {P : Program} {w : World} {K : PySem.W.Frag} {mg : Str → Option Value} {base : Heap}
theorem ok_lcolumns {f : Addr} {fd : FuncData} (F : Fun K "_law_columns" "_law_columns" s_lcolumns f fd) (T : Bl mg) : FnOk P w K mg base CX0 1 f fd ["_law_question_here"] (spCols .lst K) := by
  refine F.ok sc_lcolumns (fun vs H Q E h => ?_) (fun cdv A outer s H vs Q E hr h => ?_)
  · obtain ⟨p, rs, rfl, _⟩ := h
    rfl
  · obtain ⟨p, rs, rfl, qs, q⟩ := h
    refine ⟨_, (pss_cons (ps_set (i := 1) sc_lcolumns.nd rfl (Or.inr rfl) (pe_lst pa_nil))
      (pss_cons (ps_for PassesOwn.never rfl (pi_tup (pv 0)) (pg_tup rfl (pgs_cons (pg_name (i := 2) sc_lcolumns.nd rfl (Or.inl rfl)) (pgs_cons (pg_name (i := 3) sc_lcolumns.nd rfl (Or.inl rfl)) pgs_nil))) (pss_one (ps_expr (pe_bm PySem.F.plainAttrs_list PySem.F.slot_list_extend PySem.F.type_list_extend mt_extend (pv 1) (pa_cons (pe_lc (own := [("_law_column", 4)]) (g := gName 4) rfl sc_lcolumns.nd (pi_tup (pv 3)) (blkOk_by (own := [("_law_column", 4)]) (N := N_lcolumns) (sc := defScope s_lcolumns) (by decide +kernel)) (fun _ _ _ _ _ => (pg_name (i := 4) sc_lcolumns.nd rfl (Or.inl rfl))) (fun _ _ _ _ _ => (pts_one (pt_cmpR (op_notIn_seqK (K := K) rfl) (pv 4) (pv 1) (by rfl)))) (fun _ _ _ _ _ => (pv 4))) pa_nil)))))
      (pss_one (ps_ret (pv 1))))), ?_⟩
    have r6 := qs.six
    refine ⟨Nat.zero_le _, fun l nl => ?_⟩
    have lw := walk_tup (K := K) (a := p) (xs := qRefs rs)
    rw [show (qRefs rs).length = rs.length from List.length_map ..] at lw
    refine ⟨_, rfl, p, rfl, ⟨_, Same.seqT (same_upd nl) qs.tup⟩, ?_⟩
    refine for_it lw (fun i σ H' => ∃ (x2 x3 : Option V), σ = [some (.ref p), some (.ref l), x2, x3, none] ∧ H' l = some (.lst ((colsOf ((owns rs).take i)).map V.str)) ∧ Same H H')
      ⟨none, none, rfl, upd_same, same_upd nl⟩ (fun i σ H' _ h => by obtain ⟨_, _, _, _, s⟩ := h; exact Same.seqT s qs.tup) ?_ ?_
    · rintro i x σ H1 H2 hi ⟨x2, x3, rfl, el, sm⟩ ⟨rfl, hx⟩
      rw [qRefs_at hi] at hx
      have hx := (Option.some.inj hx).symm
      subst hx
      have ro := (qs.at hi).same sm
      refine ⟨_, _, rfl, SqT.of ro.1, rfl, _, _, rfl, _, _, rfl, rfl, ?_⟩
      refine ⟨_, rfl, .inl ⟨rfl, _, SqL.of el⟩, _, rfl, _, rfl, ⟨_, SqT.of ro.2.1⟩, fun D nD => ?_⟩
      have on := ro.2.2
      obtain ⟨ow, how⟩ : ∃ ow, ow = rs[i].own := ⟨_, rfl⟩
      rw [← how] at on
      have o6 : ow.length ≤ 6 := on.2.2
      have lw2 := walk_tup (K := K) (a := rs[i].o) (xs := ow.map V.str)
      rw [List.length_map] at lw2
      have eo : H2 rs[i].o = some (.tup (ow.map V.str)) := by rw [how]; exact ro.2.1
      generalize hF : colsOf ((owns rs).take i) = fnd at el
      have fl : fnd.length ≤ 36 := by
        rw [← hF]
        refine cols_len (fun o ho => ?_) (by rw [List.length_take]; omega)
        obtain ⟨r, hr, rfl⟩ := List.mem_map.mp (List.mem_of_mem_take ho)
        exact (qs.rows r hr).2.2.2.2
      refine lc_it lw2 (fun j H' => H' = upd H2 D (.lst (((ow.take j).filter fun c => !decide (c ∈ fnd)).map V.str))) rfl ?_ ?_ ?_
      · rintro j H' _ rfl
        exact SqT.of (nwS eo nD)
      · rintro j x H' H5 hj rfl ⟨rfl, hx⟩
        rw [List.getElem?_map, List.getElem?_eq_getElem hj] at hx
        have hx := (Option.some.inj hx).symm
        subst hx
        have tk : ow.take (j + 1) = ow.take j ++ [ow[j]] := List.take_succ_eq_append_getElem hj
        have ev : (if true = true then !inV (V.str ow[j]) (fnd.map V.str) else inV (V.str ow[j]) (fnd.map V.str)) = !decide (ow[j] ∈ fnd) := by
          rw [if_pos rfl, inV_str]
        refine ⟨rfl, _, rfl, _, rfl, l, _, rfl, .inl (SqL.of (nwS el nD)), rfl, flat_strs _, _, rfl, ite2 (fun e => ?_) (fun e => ?_)⟩
        · rw [ev] at e
          refine ⟨_, rfl, _, upd_same, small_len (m := 6) ?_, ?_⟩
          · rw [List.length_map]
            refine Nat.le_trans (List.length_filter_le _ _) ?_
            rw [List.length_take]
            omega
          · show upd (upd H2 D _) D _ = _
            rw [upd_upd, tk, List.filter_append, List.map_append, List.filter_cons_of_pos (p := fun c => !decide (c ∈ fnd)) e]
            rfl
        · rw [ev] at e
          show upd H2 D _ = _
          rw [tk, List.filter_append, List.filter_cons_of_neg (p := fun c => !decide (c ∈ fnd)) e, List.filter_nil, List.append_nil]
      · rintro H' rfl
        rw [List.take_length]
        have nDl : l ≠ D := ne_of_none el nD
        refine ⟨l, D, _, _, rfl, rfl, nwS el nD, upd_same, small_len (m := 42) ?_ |> Nat.le_of_lt, _, _, rfl, ?_, fun b o hb => ?_⟩
        · rw [List.length_map, List.length_map]
          have := List.length_filter_le (fun c => !decide (c ∈ fnd)) ow
          omega
        · have tk : (owns rs).take (i + 1) = (owns rs).take i ++ [ow] := by
            have hio : i < (owns rs).length := by rw [List.length_map]; exact hi
            rw [List.take_succ_eq_append_getElem hio, List.getElem_map, how]
          have e1 : colsOf ((owns rs).take (i + 1)) = addC fnd ow := by
            rw [tk, ← hF]
            exact fold_snoc
          rw [upd_same, e1]
          unfold addC
          rw [List.map_append]
        · have nbl : b ≠ l := ne_of_none hb nl
          exact setS (nwS (sm _ _ hb) nD) nbl
    · rintro σ H1 ⟨x2, x3, rfl, el, sm⟩
      rw [show (owns rs).take rs.length = owns rs by rw [show rs.length = (owns rs).length from (List.length_map ..).symm, List.take_length]] at el
      exact ⟨_, rfl, q l H1 sm nl el⟩
end
end MW
namespace MW
open PySem PySem.Spec PyProof.Rows L2
/-! ### divisors; parts -/
def spDiv : Sp := fun vs H Q _ => ∃ a b : Int, vs = [.int a, .int b] ∧ Q (.int ((Int.gcd a b : Nat) : Int)) H
def spLow : Sp := fun vs H Q _ => ∃ a b : Int, vs = [.int a, .int b] ∧ 0 < b ∧ b < 2 ^ 30 ∧ ∀ p, H p = none → Q (.ref p) (upd H p (.tup [.int (a / ((Int.gcd a b : Nat) : Int)), .int (b / ((Int.gcd a b : Nat) : Int))]))
def spLeast (K : PySem.W.Frag) : Sp := fun vs H Q _ => ∃ (b : Int) (l : Addr) (f : Nat → Int) (N : Nat), vs = [.int b, .ref l] ∧ 0 < b ∧ b < 2 ^ 30 ∧ H l = some (.lst (iv f N)) ∧ N ≤ 42 ∧ ∀ (p : Addr) (H' : Hp), Same H H' → H p = none → H' p ≠ none → Q (.ref p) H'
def spPart (K : PySem.W.Frag) : Sp := fun vs H Q _ => ∃ (p t : Addr) (rs : List Row) (ns : List Str), vs = [.ref p, .ref t] ∧ Qs K H p rs ∧ SqT K H t (ns.map V.str) ∧ ∀ (u : Addr) (H' : Hp), Same H H' → H u = none → H' u = some (.tup (qRefs (rs.filter fun r => decide (r.nm ∈ ns)))) → Q (.ref u) H'
theorem gcd_pos_le {a b : Int} (h : 0 < b) : 0 < ((Int.gcd a b : Nat) : Int) ∧ ((Int.gcd a b : Nat) : Int) ≤ b := by
  have h1 : Int.gcd a b ∣ b.natAbs := Nat.gcd_dvd_right _ _
  have h2 := Nat.le_of_dvd (by omega) h1
  have h3 : 0 < Int.gcd a b := Nat.pos_of_dvd_of_pos h1 (by omega)
  omega
theorem gcd_pos_le' {a b : Int} (h : 0 < b) : 0 < ((Int.gcd b a : Nat) : Int) ∧ ((Int.gcd b a : Nat) : Int) ≤ b := by
  rw [Int.gcd_comm]
  exact gcd_pos_le h
theorem abs_if (i : Int) : (if i < 0 then -i else i) = ((i.natAbs : Nat) : Int) := by split <;> omega
theorem old_of {H H' : Hp} {u : Addr} (s : Same H H') (h : H' u = none) : H u = none := by
  cases hu : H u with
  | none => rfl
  | some o =>
    rw [s u o hu] at h
    cases h
section
variable {P : Program} {w : World} {K : PySem.W.Frag} {mg : Str → Option Value} {base : Heap}
theorem ok_div {f : Addr} {fd : FuncData} (F : Fun K "divisor_of" "divisor_of" s_divisor_of f fd) (T : Bl mg) : FnOk P w K mg base CX0 1 f fd ["one", "other"] spDiv := by
  refine F.ok sc_divisor_of (fun vs H Q E h => ?_) (fun cdv A outer s H vs Q E hr h => ?_)
  · obtain ⟨a, b, rfl, _⟩ := h
    rfl
  · obtain ⟨a, b, rfl, q⟩ := h
    refine ⟨_, (pss_cons (ps_set (i := 0) sc_divisor_of.nd rfl (Or.inl rfl) (pe_callB call_abs (by rfl) T.abs boot_abs (pa_cons (pv 0) pa_nil)))
      (pss_cons (ps_set (i := 1) sc_divisor_of.nd rfl (Or.inl rfl) (pe_callB call_abs (by rfl) T.abs boot_abs (pa_cons (pv 1) pa_nil)))
      (pss_cons (ps_while PassesOwn.never (pt_cmpR op_gt (pv 1) pe_int (nomark _)) (pss_one (ps_par (by rfl) sc_divisor_of.nd (i := 0) (j := 1) rfl rfl (by decide) rfl rfl (pa_cons (pv 1) (pa_cons (pe_op op_mod (pv 0) (pv 1)) pa_nil)) (by rfl))))
      (pss_one (ps_ret (pv 0)))))), ?_⟩
    refine ⟨_, rfl, _, rfl, _, rfl, _, rfl, ?_⟩
    rw [abs_if, abs_if]
    refine ⟨fun m σ H' => ∃ x y : Nat, σ = [some (.int x), some (.int y)] ∧ H' = H ∧ Nat.gcd x y = Int.gcd a b ∧ m = y, ⟨_, a.natAbs, b.natAbs, rfl, rfl, rfl, rfl⟩, ?_⟩
    rintro m σ H1 ⟨x, y, rfl, rfl, hg, rfl⟩
    refine ⟨_, rfl, _, _, rfl, rfl, _, rfl, ite2 (fun h => ?_) (fun h => ?_)⟩
    · have hy : (0 : Int) < (m : Int) := of_decide_eq_true h
      refine ⟨fun σ' H' => ∃ x y : Nat, σ' = [some (.int x), some (.int y)] ∧ H' = H1 ∧ Nat.gcd x y = Int.gcd a b ∧ y < m, fun σ' H' ⟨x, y, e1, e2, e3, e4⟩ => ⟨y, e4, x, y, e1, e2, e3, rfl⟩, ?_⟩
      refine ⟨_, rfl, _, rfl, _, rfl, _, _, rfl, rfl, hy, _, _, rfl, m, x % m, ?_, rfl, ?_, Nat.mod_lt _ (by omega)⟩
      · rw [Int.natCast_emod]
        rfl
      · rw [Nat.gcd_comm, ← Nat.gcd_rec, Nat.gcd_comm]
        exact hg
    · have hy : ¬ (0 : Int) < (m : Int) := fun g => h (decide_eq_true g)
      have : m = 0 := by omega
      subst this
      rw [Nat.gcd_zero_right] at hg
      rw [hg]
      exact ⟨_, rfl, q⟩
theorem ok_low {f : Addr} {fd : FuncData} (F : Fun K "lowest" "lowest" s_lowest f fd) (T : Bl mg) (c_divisor_of : Cal P w K mg base 1 "divisor_of" ["one", "other"] spDiv) : FnOk P w K mg base CX0 2 f fd ["top", "bottom"] spLow := by
  refine F.ok sc_lowest (fun vs H Q E h => ?_) (fun cdv A outer s H vs Q E hr h => ?_)
  · obtain ⟨a, b, rfl, _⟩ := h
    rfl
  · obtain ⟨a, b, rfl, b0, b30, q⟩ := h
    refine ⟨_, (pss_cons (ps_set (i := 2) sc_lowest.nd rfl (Or.inl rfl) (pe_cl c_divisor_of hr (by decide) (pa_cons (pv 0) (pa_cons (pv 1) pa_nil))))
      (pss_one (ps_ret (pe_tup (pa_cons (pe_op op_fdiv (pv 0) (pv 2)) (pa_cons (pe_op op_fdiv (pv 1) (pv 2)) pa_nil)))))), ?_⟩
    have g := gcd_pos_le (a := a) b0
    refine ⟨_, rfl, _, rfl, a, b, rfl, ?_⟩
    refine ⟨_, rfl, _, rfl, _, _, rfl, rfl, ⟨g.1, Int.lt_of_le_of_lt g.2 b30⟩, _, rfl, _, rfl, _, _, rfl, rfl, ⟨g.1, Int.lt_of_le_of_lt g.2 b30⟩, by show 2 ≤ sizeLine; decide, fun p np => q p np⟩
theorem ok_least {f : Addr} {fd : FuncData} (F : Fun K "over_least_parts" "over_least_parts" s_over_least_parts f fd) (T : Bl mg) (c_divisor_of : Cal P w K mg base 1 "divisor_of" ["one", "other"] spDiv) : FnOk P w K mg base CX0 2 f fd ["bottom", "numbers"] (spLeast K) := by
  refine F.ok sc_over_least_parts (fun vs H Q E h => ?_) (fun cdv A outer s H vs Q E hr h => ?_)
  · obtain ⟨b, l, g, N, rfl, _⟩ := h
    rfl
  · obtain ⟨b, l, g, N, rfl, b0, b30, el, hN, q⟩ := h
    refine ⟨_, (pss_cons (ps_set (i := 2) sc_over_least_parts.nd rfl (Or.inr rfl) (pv 0))
      (pss_cons (ps_for PassesOwn.never rfl (pi_list (pv 1)) (pg_name (i := 3) sc_over_least_parts.nd rfl (Or.inl rfl)) (pss_one (ps_set (i := 2) sc_over_least_parts.nd rfl (Or.inr rfl) (pe_cl c_divisor_of hr (by decide) (pa_cons (pv 2) (pa_cons (pv 3) pa_nil))))))
      (pss_one (ps_ret (pe_tup (pa_cons (pe_op op_fdiv (pv 0) (pv 2)) (pa_cons (pe_callTy call_tuple_of (by rfl) T.tuple boot_tuple (pa_cons (pe_lc (own := [("number", 3)]) (g := gName 3) (tt := tYes) rfl sc_over_least_parts.nd (pi_list (pv 1)) (blkOk_by (own := [("number", 3)]) (N := N_over_least_parts) (sc := defScope s_over_least_parts) (by decide +kernel)) (fun _ _ _ _ _ => (pg_name (i := 3) sc_over_least_parts.nd rfl (Or.inl rfl))) (fun _ _ _ _ _ => pts_nil) (fun _ _ _ _ _ => (pe_op op_fdiv (pv 3) (pv 2)))) pa_nil)) pa_nil))))))), ?_⟩
    have lw := walk_list (K := K) (a := l) (xs := iv g N)
    rw [iv_len] at lw
    refine ⟨_, rfl, _, rfl, l, rfl, ⟨_, SqL.of el⟩, ?_⟩
    refine for_it lw (fun i σ H' => ∃ (x3 : Option V) (d : Int), σ = [some (.int b), some (.ref l), some (.int d), x3] ∧ H' = H ∧ 0 < d ∧ d ≤ b)
      ⟨none, b, rfl, rfl, b0, Int.le_refl _⟩ (fun i σ H' _ h => by obtain ⟨_, _, _, rfl, _⟩ := h; exact SqL.of el) ?_ ?_
    · rintro i x σ H1 H2 hi ⟨x3, d, rfl, rfl, d0, db⟩ ⟨rfl, hx⟩
      rw [iv_at hi] at hx
      have hx := (Option.some.inj hx).symm
      subst hx
      have g := gcd_pos_le' (a := g i) d0
      exact ⟨_, rfl, _, rfl, d, _, rfl, _, _, rfl, rfl, g.1, Int.le_trans g.2 db⟩
    · rintro σ H1 ⟨x3, d, rfl, rfl, d0, db⟩
      refine ⟨_, rfl, _, rfl, _, _, rfl, rfl, ⟨d0, Int.lt_of_le_of_lt db b30⟩, ?_⟩
      refine ⟨_, rfl, l, rfl, ⟨_, SqL.of el⟩, fun D nD => ?_⟩
      refine lc_it lw (fun j H' => ∃ ys : List V, ys.length = j ∧ H' = upd H1 D (.lst ys)) ⟨[], rfl, rfl⟩ ?_ ?_ ?_
      · rintro j H' _ ⟨ys, yl, rfl⟩
        exact SqL.of (nwS el nD)
      · rintro j x H' H5 hj ⟨ys, yl, rfl⟩ ⟨rfl, hx⟩
        rw [iv_at hj] at hx
        have hx := (Option.some.inj hx).symm
        subst hx
        refine ⟨rfl, _, rfl, _, rfl, _, _, rfl, rfl, ⟨d0, Int.lt_of_le_of_lt db b30⟩, _, upd_same, small_len' (by omega), _, ?_, upd_upd⟩
        rw [List.length_append, yl]
        rfl
      · rintro H' ⟨ys, yl, rfl⟩
        refine ⟨D, _, rfl, .inl ⟨SqL.of upd_same, fun u nu => ⟨by show 2 ≤ sizeLine; decide, fun p np => ?_⟩⟩⟩
        have s := ((same_upd (o := .lst ys) nD).trans (same_upd (o := .tup ys) nu))
        refine q p _ (s.trans (same_upd np)) (old_of s np) ?_
        rw [upd_same]
        exact fun h => by cases h
theorem ok_part {f : Addr} {fd : FuncData} (F : Fun K "part" "part" s_part f fd) (T : Bl mg) : FnOk P w K mg base CX0 1 f fd ["question", "tables"] (spPart K) := by
  refine F.ok sc_part (fun vs H Q E h => ?_) (fun cdv A outer s H vs Q E hr h => ?_)
  · obtain ⟨p, t, rs, ns, rfl, _⟩ := h
    rfl
  · obtain ⟨p, t, rs, ns, rfl, qs, et, q⟩ := h
    refine ⟨_, (pss_one (ps_ret (pe_callTy call_tuple_of (by rfl) T.tuple boot_tuple (pa_cons (pe_lc (own := [("one", 2)]) (g := gName 2) rfl sc_part.nd (pi_tup (pv 0)) (blkOk_by (own := [("one", 2)]) (N := N_part) (sc := defScope s_part) (by decide +kernel)) (fun _ _ _ _ _ => (pg_name (i := 2) sc_part.nd rfl (Or.inl rfl))) (fun _ _ _ _ _ => (pts_one (pt_cmpR (op_in_seqK (K := K) rfl) (pe_ix (ix_tupK (K := K) rfl) (pv 2) pe_int (fun _ _ => rfl)) (pv 1) (by rfl)))) (fun _ _ _ _ _ => (pv 2))) pa_nil)))), ?_⟩
    have r6 := qs.six
    have lw := walk_tup (K := K) (a := p) (xs := qRefs rs)
    rw [show (qRefs rs).length = rs.length from List.length_map ..] at lw
    refine ⟨_, rfl, p, rfl, ⟨_, qs.tup⟩, fun D nD => ?_⟩
    refine lc_it lw (fun j H' => H' = upd H D (.lst (qRefs ((rs.take j).filter fun r => decide (r.nm ∈ ns))))) rfl ?_ ?_ ?_
    · rintro j H' _ rfl
      exact Same.seqT (same_upd nD) qs.tup
    · rintro j x H' H5 hj rfl ⟨rfl, hx⟩
      rw [qRefs_at hj] at hx
      have hx := (Option.some.inj hx).symm
      subst hx
      have ro := (qs.at hj).same (same_upd (o := .lst (qRefs ((rs.take j).filter fun r => decide (r.nm ∈ ns)))) nD)
      have tk : rs.take (j + 1) = rs.take j ++ [rs[j]] := List.take_succ_eq_append_getElem hj
      have ev : (if false = true then !inV (V.str rs[j].nm) (ns.map V.str) else inV (V.str rs[j].nm) (ns.map V.str)) = decide (rs[j].nm ∈ ns) := by
        rw [if_neg Bool.false_ne_true, inV_str]
      refine ⟨rfl, _, rfl, _, _, 0, _, rfl, rfl, SqT.of ro.1, atI_nat (j := 0) rfl, _, rfl, t, _, rfl, .inr (Same.seqT (same_upd nD) et), rfl, flat_strs _, _, rfl, ite2 (fun e => ?_) (fun e => ?_)⟩
      · rw [ev] at e
        refine ⟨_, rfl, _, upd_same, small_len (m := 6) ?_, ?_⟩
        · unfold qRefs
          rw [List.length_map]
          refine Nat.le_trans (List.length_filter_le _ _) ?_
          rw [List.length_take]
          omega
        · show upd (upd H D _) D _ = _
          rw [upd_upd, tk, List.filter_append, List.filter_cons_of_pos (p := fun r : Row => decide (r.nm ∈ ns)) e]
          unfold qRefs
          rw [List.map_append]
          rfl
      · rw [ev] at e
        show upd H D _ = _
        rw [tk, List.filter_append, List.filter_cons_of_neg (p := fun r : Row => decide (r.nm ∈ ns)) e, List.filter_nil, List.append_nil]
    · rintro H' rfl
      rw [List.take_length]
      refine ⟨D, _, rfl, .inl ⟨SqL.of upd_same, fun u nu => ?_⟩⟩
      have s := same_upd (o := .lst (qRefs (rs.filter fun r => decide (r.nm ∈ ns)))) nD
      exact q u _ (s.trans (same_upd nu)) (old_of s nu) upd_same
end
end MW
namespace MW
open PySem PySem.Spec PyProof.Rows L2
/-! ### cover -/
/-- the matrix of a question -/
def mat (cols : List Str) (Q : List (List Str)) (ex : List Int) (j r : Nat) : Int :=
  if j < cols.length then (if cols.getD j Str.empty ∈ Q.getD r [] then 1 else 0) else if j < cols.length + Q.length then (if r = j - cols.length then 1 else 0) else ex.getD r 0
theorem mat_prob {Q : List (List Str)} {ex : List Int} (hx : ∀ x ∈ ex, 0 ≤ x ∧ x ≤ 9) (hl : ex.length = Q.length) : LP.Prob Q.length (colsOf Q).length (mat (colsOf Q) Q ex) := by
  have hE : ∀ r, r < Q.length → 0 ≤ ex.getD r 0 ∧ ex.getD r 0 ≤ 9 := fun r hr => by
    rw [List.getD_eq_getElem?_getD, List.getElem?_eq_getElem (by omega)]
    exact hx _ (List.getElem_mem _)
  refine ⟨fun r hr s hs => ?_, fun j hj r hr => ?_, fun j hj r hr => ?_, fun j hj => ?_⟩
  · unfold mat
    rw [if_neg (by omega), if_pos (by omega), Nat.add_sub_cancel_left]
  · unfold mat
    have := hE r hr
    split
    · split <;> decide
    · split
      · split <;> decide
      · exact this.1
  · unfold mat
    have := hE r hr
    split
    · split <;> decide
    · split
      · split <;> decide
      · omega
  · have hm : (colsOf Q).getD j Str.empty ∈ colsOf Q := by
      rw [List.getD_eq_getElem?_getD, List.getElem?_eq_getElem hj]
      exact List.getElem_mem hj
    obtain ⟨o, ho, hc⟩ := cols_mem.mp hm
    obtain ⟨r, hr⟩ := List.getElem?_of_mem ho
    obtain ⟨hr1, hr2⟩ := List.getElem?_eq_some_iff.mp hr
    refine ⟨r, hr1, ?_⟩
    unfold mat
    rw [if_pos hj, List.getD_eq_getElem?_getD (l := Q), hr]
    show 0 < if (colsOf Q).getD j Str.empty ∈ o then (1 : Int) else 0
    rw [if_pos hc]
    decide
theorem iv_list (xs : List Int) : iv (fun r => xs.getD r 0) xs.length = xs.map V.int := by
  refine List.ext_getElem? fun j => ?_
  by_cases h : j < xs.length
  · rw [iv_at h, List.getElem?_map, List.getD_eq_getElem?_getD, List.getElem?_eq_getElem h]
    rfl
  · rw [List.getElem?_eq_none (by rw [iv_len]; omega), List.getElem?_eq_none (by rw [List.length_map]; omega)]
theorem low_ok {top b : Int} (hb : 0 < b) (hb30 : b < 2 ^ 30) : 0 < b / ((Int.gcd top b : Nat) : Int) ∧ b / ((Int.gcd top b : Nat) : Int) < 2 ^ 30 ∧ top / ((Int.gcd top b : Nat) : Int) * b = top * (b / ((Int.gcd top b : Nat) : Int)) ∧ Int.gcd (top / ((Int.gcd top b : Nat) : Int)) (b / ((Int.gcd top b : Nat) : Int)) = 1 := by
  have g := gcd_pos_le (a := top) hb
  have d1 : ((Int.gcd top b : Nat) : Int) ∣ top := Int.gcd_dvd_left ..
  have d2 : ((Int.gcd top b : Nat) : Int) ∣ b := Int.gcd_dvd_right ..
  have g0 : 0 < Int.gcd top b := by omega
  obtain ⟨k1, e1⟩ := d1
  obtain ⟨k2, e2⟩ := d2
  have e3 : Int.gcd k1 k2 = 1 := by
    have h := Int.gcd_mul_left ((Int.gcd top b : Nat) : Int) k1 k2
    rw [← e1, ← e2, Int.natAbs_natCast] at h
    exact Nat.eq_of_mul_eq_mul_left g0 (by rw [← h, Nat.mul_one])
  generalize hg : ((Int.gcd top b : Nat) : Int) = gg at *
  have q1 : top / gg = k1 := by
    rw [e1]
    exact Int.mul_ediv_cancel_left _ (by omega)
  have q2 : b / gg = k2 := by
    rw [e2]
    exact Int.mul_ediv_cancel_left _ (by omega)
  rw [q1, q2]
  have k0 : 0 < k2 := by
    refine Int.lt_of_not_ge fun h => ?_
    have : gg * k2 ≤ gg * 0 := Int.mul_le_mul_of_nonneg_left h (by omega)
    omega
  refine ⟨k0, ?_, ?_, e3⟩
  · have : 1 * k2 ≤ gg * k2 := Int.mul_le_mul_of_nonneg_right (by omega) (by omega)
    omega
  · rw [e1, e2, Int.mul_comm k1, Int.mul_assoc, Int.mul_assoc, Int.mul_comm k1]
def spCover (K : PySem.W.Frag) : Sp := fun vs H Q _ => ∃ (p e : Addr) (rs : List Row) (ex : List Int), vs = [.ref p, .ref e] ∧ Qs K H p rs ∧ SqT K H e (ex.map V.int) ∧ ex.length = rs.length ∧ (∀ x ∈ ex, 0 ≤ x ∧ x ≤ 9) ∧
  ∀ (u lo r2 r3 : Addr) (pt pb : Int) (H' : Hp), Same H H' → H' u = some (.tup [.ref lo, .ref r2, .ref r3]) → H' lo = some (.tup [.int pt, .int pb]) → LP.Price (colsOf (owns rs)) (owns rs) ex pt pb → Int.gcd pt pb = 1 → Q (.ref u) H'
section
variable {P : Program} {w : World} {K : PySem.W.Frag} {mg : Str → Option Value} {base : Heap}
theorem ok_cover {f : Addr} {fd : FuncData} (F : Fun K "cover" "cover" s_cover f fd) (T : Bl mg) (c_columns_of : Cal P w K mg base 1 "columns_of" ["question"] (spCols .tup K)) (c_greatest : Cal P w K mg base 3 "greatest" ["rows", "limits"] spGreat) (c_lowest : Cal P w K mg base 2 "lowest" ["top", "bottom"] spLow)
    (c_over_least_parts : Cal P w K mg base 2 "over_least_parts" ["bottom", "numbers"] (spLeast K)) : FnOk P w K mg base CX0 4 f fd ["question", "exponents"] (spCover K) := by
  refine F.ok sc_cover (fun vs H Q E h => ?_) (fun cdv A outer s H vs Q E hr h => ?_)
  · obtain ⟨p, e, rs, ex, rfl, _⟩ := h
    rfl
  · obtain ⟨p, e, rs, ex, rfl, qs, et, exl, exb, q⟩ := h
    refine ⟨_, (pss_cons (ps_set (i := 2) sc_cover.nd rfl (Or.inr rfl) (pe_cl c_columns_of hr (by decide) (pa_cons (pv 0) pa_nil)))
      (pss_cons (ps_setLc (i := 3) (own := [("T", 8), ("own", 9)]) (g := gTup K 2 (gCons (gName 8) (gCons (gName 9) gNil))) (tt := tYes) rfl sc_cover.nd rfl rfl (sw_true rfl rfl rfl (by decide +kernel)) (pi_tup (pv 0)) (blkOk_by (own := [("T", 8), ("own", 9)]) (N := N_cover) (sc := defScope s_cover) (by decide +kernel)) (fun _ _ _ _ _ => (pg_tupK (K := K) rfl rfl (pgs_cons (pg_name (i := 8) sc_cover.nd rfl (Or.inl rfl)) (pgs_cons (pg_name (i := 9) sc_cover.nd rfl (Or.inr rfl)) pgs_nil)))) (fun _ _ _ _ _ => pts_nil) (fun _ _ _ _ _ => (pe_lc (own := [("column", 10)]) (g := gName 10) (tt := tYes) rfl sc_cover.nd (pi_tupK (K := K) rfl (pv 2)) (blkOk_by (own := [("column", 10)]) (N := N_cover) (sc := relS _ (defScope s_cover)) (by decide +kernel)) (fun _ _ _ _ _ => (pg_name (i := 10) sc_cover.nd rfl (Or.inl rfl))) (fun _ _ _ _ _ => pts_nil) (fun _ _ _ _ _ => (pe_callTy call_int1 (by rfl) T.int boot_int (pa_cons (pe_cmpR (op_in_seqK (K := K) rfl) (pv 10) (pv 9) (by rfl)) pa_nil))))))
      (pss_cons (ps_asg (pe_cl c_greatest hr (by decide) (pa_cons (pv 3) (pa_cons (pe_callTy call_list_of (by rfl) T.list boot_list (pa_cons (pv 1) pa_nil)) pa_nil))) (pg_tup rfl (pgs_cons (pg_name (i := 4) sc_cover.nd rfl (Or.inl rfl)) (pgs_cons (pg_name (i := 5) sc_cover.nd rfl (Or.inl rfl)) (pgs_cons (pg_name (i := 6) sc_cover.nd rfl (Or.inl rfl)) (pgs_cons (pg_name (i := 7) sc_cover.nd rfl (Or.inl rfl)) pgs_nil))))))
      (pss_one (ps_ret (pe_tup (pa_cons (pe_cl c_lowest hr (by decide) (pa_cons (pv 5) (pa_cons (pv 4) pa_nil))) (pa_cons (pe_cl c_over_least_parts hr (by decide) (pa_cons (pv 4) (pa_cons (pv 7) pa_nil))) (pa_cons (pe_cl c_over_least_parts hr (by decide) (pa_cons (pv 4) (pa_cons (pv 6) pa_nil))) pa_nil))))))))), ?_⟩
    have r1 := qs.pos
    have r6 := qs.six
    have hQ : (owns rs).length = rs.length := List.length_map ..
    have pr := mat_prob (Q := owns rs) exb (exl.trans hQ.symm)
    have on : ∀ o ∈ owns rs, o.Nodup ∧ o.length ≤ 6 := fun o ho => by
      obtain ⟨r, hr, rfl⟩ := List.mem_map.mp ho
      exact ⟨(qs.rows r hr).2.2.1, (qs.rows r hr).2.2.2.2⟩
    have cl : (colsOf (owns rs)).length ≤ 36 := cols_len (fun o ho => (on o ho).2) (by omega)
    have cn : (colsOf (owns rs)).Nodup := cols_nodup fun o ho => (on o ho).1
    obtain ⟨cols, hcols⟩ : ∃ cols, cols = colsOf (owns rs) := ⟨_, rfl⟩
    rw [← hcols] at pr cl cn
    refine ⟨_, rfl, p, rs, rfl, qs, fun u H1 s1 nu eu => ?_⟩
    rw [← hcols] at eu
    have lw := walk_tup (K := K) (a := p) (xs := qRefs rs)
    rw [show (qRefs rs).length = rs.length from List.length_map ..] at lw
    refine ⟨_, rfl, p, rfl, ⟨_, Same.seqT s1 qs.tup⟩, fun D nD => ?_⟩
    refine lc_it lw (fun i H' => ∃ rr : Nat → Addr, H' D = some (.lst (rv rr i)) ∧ (∀ r, r < i → H' (rr r) = some (.lst (iv (fun j => mat cols (owns rs) ex j r) cols.length))) ∧ Same H1 H')
      ⟨fun _ => 0, upd_same, fun r h => absurd h (Nat.not_lt_zero _), same_upd nD⟩ (fun i H' _ ⟨_, _, _, s⟩ => Same.seqT (s1.trans s) qs.tup) ?_ ?_
    · rintro i x H2 H3 hi ⟨rr, eD, er, s2⟩ ⟨rfl, hx⟩
      rw [qRefs_at hi] at hx
      have hx := (Option.some.inj hx).symm
      subst hx
      have ro := (qs.at hi).same (s1.trans s2)
      have eu3 := s2 _ _ eu
      refine ⟨_, _, rfl, SqT.of ro.1, rfl, _, _, rfl, _, _, rfl, rfl, rfl, ?_⟩
      refine ⟨_, rfl, u, rfl, ⟨_, SqT.of eu3⟩, fun D2 nD2 => ?_⟩
      have lw2 := walk_tup (K := K) (a := u) (xs := cols.map V.str)
      rw [List.length_map] at lw2
      refine lc_it lw2 (fun j H' => H' = upd H3 D2 (.lst (iv (fun j => mat cols (owns rs) ex j i) j))) rfl ?_ ?_ ?_
      · rintro j H' _ rfl
        exact SqT.of (nwS eu3 nD2)
      · rintro j x H' H5 hj rfl ⟨rfl, hx⟩
        rw [List.getElem?_map, List.getElem?_eq_getElem hj] at hx
        have hx := (Option.some.inj hx).symm
        subst hx
        refine ⟨rfl, _, rfl, _, rfl, rs[i].o, _, rfl, .inr (SqT.of (nwS ro.2.1 nD2)), rfl, flat_strs _, .inr ⟨_, rfl, _, upd_same, small_len' (by rw [iv_len]; omega), ?_⟩⟩
        show upd (upd H3 D2 _) D2 _ = _
        rw [upd_upd, iv_succ]
        have ev : (if (if false = true then !inV (V.str cols[j]) (List.map V.str rs[i].own) else inV (V.str cols[j]) (List.map V.str rs[i].own)) = true then (1 : Int) else 0) = mat cols (owns rs) ex j i := by
          rw [if_neg (c := false = true) Bool.false_ne_true, inV_str]
          unfold mat
          have e1 : cols.getD j Str.empty = cols[j] := by
            rw [List.getD_eq_getElem?_getD, List.getElem?_eq_getElem hj]
            rfl
          have e2 : (owns rs).getD i [] = rs[i].own := by
            rw [List.getD_eq_getElem?_getD, List.getElem?_map, List.getElem?_eq_getElem hi]
            rfl
          rw [if_pos hj, e1, e2]
          simp only [decide_eq_true_eq]
        exact congrArg (fun v => upd H3 D2 (.lst (_ ++ [V.int v]))) ev
      · rintro H' rfl
        have nDD : D ≠ D2 := ne_of_none eD nD2
        refine ⟨_, nwS eD nD2, small_len' (by rw [rv_len]; omega), LP.up rr i D2, ?_, fun r hr => ?_, fun b o hb => ?_⟩
        · rw [upd_same, rv_up]
        · by_cases e : r = i
          · subst e
            rw [LP.up_same]
            exact setS upd_same nDD.symm
          · rw [LP.up_ne e]
            have h := er r (by omega)
            refine setS (nwS h nD2) fun g => ?_
            rw [g, eD] at h
            injection h with h
            injection h with h
            have e0 := congrArg (fun l : List V => l[0]?) h
            have c0 : 0 < cols.length := by
              cases hc : cols with
              | nil =>
                exfalso
                have := qs.at hi
                have o1 := this.2.2.2.1
                cases ho : rs[i].own with
                | nil =>
                  rw [ho] at o1
                  exact absurd o1 (by show ¬ 1 ≤ 0; decide)
                | cons y ys =>
                  have hm : y ∈ cols := by
                    rw [hcols]
                    exact cols_mem.mpr ⟨rs[i].own, List.mem_map_of_mem (List.getElem_mem hi), by rw [ho]; exact List.mem_cons_self⟩
                  rw [hc] at hm
                  cases hm
              | cons y ys => exact Nat.succ_pos _
            rw [show (iv (fun j => mat cols (owns rs) ex j r) cols.length)[0]? = _ from iv_at c0, show (rv rr i)[0]? = _ from rv_at (by omega)] at e0
            cases e0
        · exact setS (nwS (s2 b o hb) nD2) (ne_of_none hb nD)
    · rintro H2 ⟨rr, eD, er, s2⟩
      refine ⟨_, rfl, _, rfl, e, _, rfl, .inr (Same.seqT (s1.trans s2) et), fun l nl => ?_⟩
      have lim : iv (fun r => mat cols (owns rs) ex (cols.length + rs.length) r) rs.length = ex.map V.int := by
        rw [← iv_list ex, exl]
        refine iv_congr fun r hr => ?_
        unfold mat
        rw [hQ, if_neg (by omega), if_neg (Nat.lt_irrefl _)]
      rw [hQ] at pr
      have ip : In rs.length cols.length (mat cols (owns rs) ex) (upd H2 l (.lst (ex.map V.int))) D l rr :=
        ⟨r1, r6, by omega, nwS eD nl, fun r hr => nwS (er r hr) nl, by rw [upd_same, lim], pr.slack⟩
      refine ⟨D, l, rs.length, cols.length, _, rr, rfl, ip, pr, fun p1 nu sh b top xv yv H3 s3 ep enu esh opt b30 => ?_⟩
      refine ⟨p1, _, rfl, SqT.of ep, rfl, _, _, rfl, _, _, rfl, _, _, rfl, _, _, rfl, rfl, ?_⟩
      have lo := low_ok (top := top) opt.pos b30
      refine ⟨_, rfl, _, rfl, top, b, rfl, opt.pos, b30, fun a1 n1 => ?_⟩
      refine ⟨_, rfl, _, rfl, b, sh, yv, rs.length, rfl, opt.pos, b30, nwS esh n1, by omega, fun a2 H4 s4 n2 e2 => ?_⟩
      refine ⟨_, rfl, _, rfl, b, nu, xv, cols.length, rfl, opt.pos, b30, s4 _ _ (nwS enu n1), by omega, fun a3 H5 s5 n3 e3 => ?_⟩
      refine ⟨by show 3 ≤ sizeLine; decide, fun v nv => ?_⟩
      have sA := ((((s1.trans s2).trans (same_upd nl)).trans s3).trans (same_upd (o := .tup [.int (top / ((Int.gcd top b : Nat) : Int)), .int (b / ((Int.gcd top b : Nat) : Int))]) n1)).trans (s4.trans s5)
      refine q v a1 a2 a3 _ _ _ (sA.trans (same_upd nv)) upd_same (nwS (s5 _ _ (s4 _ _ upd_same)) nv) ?_ lo.2.2.2
      rw [← hcols]
      have opt' : LP.Opt (owns rs).length cols.length (mat cols (owns rs) ex) b top xv yv := by rw [hQ]; exact opt
      refine LP.opt_price Str.empty opt' (exl.trans hQ.symm) (fun o ho => ⟨(on o ho).1, fun c hc => by rw [hcols]; exact cols_mem.mpr ⟨o, ho, hc⟩⟩) cn ?_ ?_ lo.1 lo.2.1 lo.2.2.1
      · intro r hr j hj
        unfold mat
        rw [if_pos hj]
      · intro r hr
        unfold mat
        rw [if_neg (by omega), if_neg (Nat.lt_irrefl _)]
end
end MW
namespace MW
open PySem PySem.Spec PyProof.Rows L2
/-! ### the law's own small defs -/
theorem Qs.sameB {K : PySem.W.Frag} {a : Addr} {H H' : Hp} {p : Addr} {rs : List Row} {c s : Int} (q : Qs K H p rs) (hb : BoxAt H a c s) (n : p ≠ a) (e : SameB a H H') : Qs K H' p rs := by
  refine ⟨e.seqT n q.tup, fun r hr => ?_, q.nms, q.pos, q.six⟩
  have h := q.rows r hr
  refine ⟨e _ _ (fun x => ?_) h.1, h.2.sameB hb e⟩
  have h1 := h.1
  rw [x, show H a = _ from hb] at h1
  cases h1
theorem tup_ne {a e : Addr} {H : Hp} {c s : Int} {xs : List V} (hb : BoxAt H a c s) (h : H e = some (.tup xs)) : e ≠ a := fun x => by
  rw [x, show H a = _ from hb] at h
  cases h
def spExps (K : PySem.W.Frag) : Sp := fun vs H Q _ => ∃ (a p : Addr) (c s : Int) (rs : List Row), vs = [.ref a, .ref p] ∧ BoxAt H a c s ∧ p ≠ a ∧ Qs K H p rs ∧
  ∀ (e : Addr) (ex : List Int) (c' s' : Int) (H' : Hp), ex.length = rs.length → (∀ x ∈ ex, 0 ≤ x ∧ x ≤ 9) → H e = none → H' e = some (.tup (ex.map V.int)) → SameB a H H' → BoxAt H' a c' s' → Q (.ref e) H'
def spNoLess (K : PySem.W.Frag) : Sp := fun vs H Q _ => ∃ (p : Addr) (pt pb parts much : Int), vs = [.ref p, .int parts, .int much] ∧ SqT K H p [.int pt, .int pb] ∧ 0 < pb ∧ pb < 2 ^ 30 ∧ 0 ≤ parts ∧ parts ≤ 1000 ∧ Q (.bl (decide (pt * parts ≤ much * pb))) H
def spNoMore (K : PySem.W.Frag) : Sp := fun vs H Q _ => ∃ (p q : Addr) (pt pb qt qb : Int), vs = [.ref p, .ref q] ∧ SqT K H p [.int pt, .int pb] ∧ SqT K H q [.int qt, .int qb] ∧ 0 < pb ∧ pb < 2 ^ 62 ∧ 0 < qb ∧ qb < 2 ^ 62 ∧ Q (.bl (decide (pt * qb ≤ qt * pb))) H
theorem mulR {a b : Int} (h0 : 0 ≤ b) (h : b < 2 ^ 62) : CMul a b := .inr ⟨by omega, by omega⟩
theorem ints_snoc (xs : List Int) (d : Int) : xs.map V.int ++ [.int d] = (xs ++ [d]).map V.int := by rw [List.map_append]; rfl
section
variable {P : Program} {w : World} {K : PySem.W.Frag} {mg : Str → Option Value} {base : Heap}
theorem ok_lnoless {f : Addr} {fd : FuncData} (F : Fun K "_law_no_less" "_law_no_less" s_lno_less f fd) (T : Bl mg) : FnOk P w K mg base CX0 1 f fd ["_law_price", "_law_parts", "_law_much"] (spNoLess K) := by
  refine F.ok sc_lno_less (fun vs H Q E h => ?_) (fun cdv A outer s H vs Q E hr h => ?_)
  · obtain ⟨p, pt, pb, parts, much, rfl, _⟩ := h
    rfl
  · obtain ⟨p, pt, pb, parts, much, rfl, ep, pb0, pb30, p0, p1, q⟩ := h
    refine ⟨_, (pss_one (ps_ret (pe_cmpR op_ge (pe_op op_mul (pv 2) (pe_ix ix_tup (pv 0) pe_int (fun _ _ => rfl))) (pe_op op_mul (pe_ix ix_tup (pv 0) pe_int (fun _ _ => rfl)) (pv 1)) (nomark _)))), ?_⟩
    refine ⟨_, rfl, _, rfl, p, _, 1, _, rfl, rfl, ep, atI_nat (j := 1) rfl, _, _, rfl, rfl, mulR (by omega) (by omega), ?_⟩
    exact ⟨_, rfl, p, _, 0, _, rfl, rfl, ep, atI_nat (j := 0) rfl, _, rfl, _, _, rfl, rfl, mulR (by omega) (by omega), _, _, rfl, rfl, q⟩
theorem ok_lnomore {f : Addr} {fd : FuncData} (F : Fun K "_law_no_more" "_law_no_more" s_lno_more f fd) (T : Bl mg) : FnOk P w K mg base CX0 1 f fd ["_law_one", "_law_other"] (spNoMore K) := by
  refine F.ok sc_lno_more (fun vs H Q E h => ?_) (fun cdv A outer s H vs Q E hr h => ?_)
  · obtain ⟨p, q, pt, pb, qt, qb, rfl, _⟩ := h
    rfl
  · obtain ⟨p, q, pt, pb, qt, qb, rfl, ep, eq, pb0, pb62, qb0, qb62, k⟩ := h
    refine ⟨_, (pss_one (ps_ret (pe_cmpR op_le (pe_op op_mul (pe_ix ix_tup (pv 0) pe_int (fun _ _ => rfl)) (pe_ix ix_tup (pv 1) pe_int (fun _ _ => rfl))) (pe_op op_mul (pe_ix ix_tup (pv 1) pe_int (fun _ _ => rfl)) (pe_ix ix_tup (pv 0) pe_int (fun _ _ => rfl))) (nomark _)))), ?_⟩
    refine ⟨_, rfl, p, _, 0, _, rfl, rfl, ep, atI_nat (j := 0) rfl, _, rfl, q, _, 1, _, rfl, rfl, eq, atI_nat (j := 1) rfl, _, _, rfl, rfl, mulR (by omega) (by omega), ?_⟩
    exact ⟨_, rfl, q, _, 0, _, rfl, rfl, eq, atI_nat (j := 0) rfl, _, rfl, p, _, 1, _, rfl, rfl, ep, atI_nat (j := 1) rfl, _, _, rfl, rfl, mulR (by omega) (by omega), _, _, rfl, rfl, k⟩
theorem ok_lexps {f : Addr} {fd : FuncData} (F : Fun K "_law_exponents" "_law_exponents" s_lexponents f fd) (T : Bl mg) (c_ltake : Cal P w K mg base 1 "_law_take" ["_law_box_here", "_law_many"] spTake) : FnOk P w K mg base CX0 2 f fd ["_law_box_here", "_law_question_here"] (spExps K) := by
  refine F.ok sc_lexponents (fun vs H Q E h => ?_) (fun cdv A outer s H vs Q E hr h => ?_)
  · obtain ⟨a, p, c, z, rs, rfl, _⟩ := h
    rfl
  · obtain ⟨a, p, c, z, rs, rfl, hb, npa, qs, q⟩ := h
    refine ⟨_, (pss_cons (ps_set (i := 2) sc_lexponents.nd rfl (Or.inr rfl) (pe_ix ix_list (pe_lst (pa_cons pe_int (pa_cons pe_int (pa_cons pe_int pa_nil)))) (pe_cl c_ltake hr (by decide) (pa_cons (pv 0) (pa_cons pe_int pa_nil))) (fun _ _ => rfl)))
      (pss_one (ps_ret (pe_callTy call_tuple_of (by rfl) T.tuple boot_tuple (pa_cons (pe_lc (own := [("_law_table", 3)]) (g := gName 3) (tt := tYes) rfl sc_lexponents.nd (pi_tup (pv 1)) (blkOk_by (own := [("_law_table", 3)]) (N := N_lexponents) (sc := defScope s_lexponents) (by decide +kernel)) (fun _ _ _ _ _ => (pg_name (i := 3) sc_lexponents.nd rfl (Or.inl rfl))) (fun _ _ _ _ _ => pts_nil) (fun _ _ _ _ _ => (pe_cl c_ltake hr (by decide) (pa_cons (pv 0) (pa_cons (pv 2) pa_nil))))) pa_nil))))), ?_⟩
    have r6 := qs.six
    refine ⟨by show 3 ≤ sizeLine; decide, fun l nl => ?_⟩
    have nla := hb.ne nl
    refine ⟨_, rfl, a, 3, c, z, rfl, hb.nw nl, by decide, by decide, fun d c1 z1 hd => ?_⟩
    obtain ⟨m, hm, m0, m1⟩ : ∃ m : Int, ([V.int 2, V.int 3, V.int 10] : List V)[d]? = some (.int m) ∧ 0 < m ∧ m ≤ 10 := by
      have : d = 0 ∨ d = 1 ∨ d = 2 := by omega
      rcases this with rfl | rfl | rfl
      · exact ⟨2, rfl, by decide, by decide⟩
      · exact ⟨3, rfl, by decide, by decide⟩
      · exact ⟨10, rfl, by decide, by decide⟩
    refine ⟨l, _, _, _, rfl, rfl, SqL.of (setS upd_same nla), atI_nat hm, ?_⟩
    have sA := fun o1 o2 => (SameB.new (a := a) (o := o1) nl).putA (o := o2)
    have lw := walk_tup (K := K) (a := p) (xs := qRefs rs)
    rw [show (qRefs rs).length = rs.length from List.length_map ..] at lw
    refine ⟨_, rfl, p, rfl, ⟨_, (sA _ _).seqT npa qs.tup⟩, fun D nD => ?_⟩
    have D0 : H D = none := (sA _ _).old .set nD
    have nDa : D ≠ a := BoxAt.set.ne nD
    refine lc_it lw (fun j H' => ∃ (xs : List Int) (c z : Int), xs.length = j ∧ (∀ x ∈ xs, 0 ≤ x ∧ x ≤ 9) ∧ H' D = some (.lst (xs.map V.int)) ∧ SameB a H H' ∧ BoxAt H' a c z)
      ⟨[], c1, z1, rfl, fun _ h => absurd h List.not_mem_nil, upd_same, (sA _ _).nw nD, BoxAt.set.nw nD⟩ (fun j H' _ ⟨_, _, _, _, _, _, s, _⟩ => s.seqT npa qs.tup) ?_ ?_
    · rintro j x H1 H2 hj ⟨xs, c2, z2, xl, xb, eD, sm, b2⟩ ⟨rfl, hx⟩
      refine ⟨rfl, _, rfl, _, rfl, a, m, c2, z2, rfl, b2, m0, by omega, fun d2 c3 z3 hd2 => ?_⟩
      refine ⟨_, setS eD nDa, small_len' (by rw [List.length_map]; omega), xs ++ [(d2 : Int)], c3, z3, ?_, fun x hx => ?_, ?_, sm.putA.put D0, BoxAt.set.put nDa⟩
      · rw [List.length_append, xl]
        rfl
      · rcases List.mem_append.mp hx with h | h
        · exact xb x h
        · rw [List.mem_singleton] at h
          omega
      · rw [upd_same, ints_snoc]
    · rintro H1 ⟨xs, c2, z2, xl, xb, eD, sm, b2⟩
      refine ⟨D, _, rfl, .inl ⟨SqL.of eD, fun u nu => ?_⟩⟩
      exact q u xs c2 z2 _ xl xb (sm.old b2 nu) upd_same (sm.nw nu) (b2.nw nu)
end
end MW
namespace MW
open PySem PySem.Spec PyProof.Rows L2
/-! ### a drawn cover -/
def cov (rs : List Row) (zs : List Int) (c : Str) : Int := LP.sumN rs.length fun r => if c ∈ (owns rs).getD r [] then zs.getD r 0 else 0
theorem getD_set {zs : List Int} {k r : Nat} {v : Int} (hk : k < zs.length) : (zs.set k v).getD r 0 = if r = k then v else zs.getD r 0 := by
  rw [List.getD_eq_getElem?_getD, List.getElem?_set]
  by_cases h : k = r
  · subst h
    rw [if_pos rfl, if_pos hk, if_pos rfl]
    rfl
  · rw [if_neg h, if_neg (Ne.symm h), List.getD_eq_getElem?_getD]
theorem cov_at {rs : List Row} {zs : List Int} {k : Nat} {d : Int} {c : Str} (hk : k < rs.length) (hl : zs.length = rs.length) :
    cov rs (zs.set k (zs.getD k 0 + d)) c = cov rs zs c + (if c ∈ (owns rs).getD k [] then d else 0) := by
  unfold cov
  rw [LP.sumN_upd (k := k) _ (fun r => if c ∈ (owns rs).getD r [] then zs.getD r 0 else 0) hk]
  · refine congrArg _ ?_
    rw [getD_set (by omega), if_pos rfl]
    split <;> omega
  · intro i hi hne
    rw [getD_set (by omega), if_neg hne]
theorem sum_pick {rs : List Row} {zs : List Int} {c : Str} : (((List.range rs.length).filter fun k => decide (c ∈ (owns rs).getD k [])).map fun k => zs.getD k 0).sum = cov rs zs c := by
  rw [← LP.sum_filter, LP.sum_range_map]
  unfold cov
  refine LP.sumN_congr fun r _ => ?_
  by_cases h : c ∈ (owns rs).getD r []
  · rw [if_pos h, if_pos (decide_eq_true h)]
  · rw [if_neg h, if_neg (by rw [decide_eq_false h]; exact Bool.false_ne_true)]
def spLCover (K : PySem.W.Frag) : Sp := fun vs H Q _ => ∃ (a p : Addr) (c s : Int) (rs : List Row), vs = [.ref a, .ref p] ∧ BoxAt H a c s ∧ p ≠ a ∧ Qs K H p rs ∧
  ∀ (u nu : Addr) (parts : Int) (zs : List Int) (c' s' : Int) (H' : Hp), 1 ≤ parts → parts ≤ 6 → zs.length = rs.length → (∀ v ∈ zs, 0 ≤ v) → (∀ x ∈ colsOf (owns rs), parts ≤ cov rs zs x) → H' u = some (.tup [.int parts, .ref nu]) → H' nu = some (.tup (zs.map V.int)) → SameB a H H' → BoxAt H' a c' s' → Q (.ref u) H'
theorem own_at {rs : List Row} {k : Nat} (hk : k < rs.length) : (owns rs).getD k [] = rs[k].own := by
  rw [List.getD_eq_getElem?_getD, List.getElem?_map, List.getElem?_eq_getElem hk]
  rfl
theorem zs_at {zs : List Int} {k : Nat} (hk : k < zs.length) : (zs.map V.int)[k]? = some (.int (zs.getD k 0)) := by
  rw [List.getElem?_map, List.getD_eq_getElem?_getD, List.getElem?_eq_getElem hk]
  rfl
section
variable {P : Program} {w : World} {K : PySem.W.Frag} {mg : Str → Option Value} {base : Heap}
theorem ok_lcover {f : Addr} {fd : FuncData} (F : Fun K "_law_cover" "_law_cover" s_lcover f fd) (T : Bl mg) (c_ltake : Cal P w K mg base 1 "_law_take" ["_law_box_here", "_law_many"] spTake) (c_lcolumns : Cal P w K mg base 1 "_law_columns" ["_law_question_here"] (spCols .lst K)) : FnOk P w K mg base CX0 2 f fd ["_law_box_here", "_law_question_here"] (spLCover K) := by
  refine F.ok sc_lcover (fun vs H Q E h => ?_) (fun cdv A outer s H vs Q E hr h => ?_)
  · obtain ⟨a, p, c, z, rs, rfl, _⟩ := h
    rfl
  · obtain ⟨a, p, c, z, rs, rfl, hb, npa, qs, q⟩ := h
    refine ⟨_, (pss_cons (ps_set (i := 2) sc_lcover.nd rfl (Or.inr rfl) (pe_op op_add pe_int (pe_cl c_ltake hr (by decide) (pa_cons (pv 0) (pa_cons pe_int pa_nil)))))
      (pss_cons (ps_set (i := 3) sc_lcover.nd rfl (Or.inr rfl) (pe_lc (own := [("_law_table", 8)]) (g := gName 8) (tt := tYes) rfl sc_lcover.nd (pi_tup (pv 1)) (blkOk_by (own := [("_law_table", 8)]) (N := N_lcover) (sc := defScope s_lcover) (by decide +kernel)) (fun _ _ _ _ _ => (pg_name (i := 8) sc_lcover.nd rfl (Or.inl rfl))) (fun _ _ _ _ _ => pts_nil) (fun _ _ _ _ _ => (pe_cl c_ltake hr (by decide) (pa_cons (pv 0) (pa_cons (pe_op op_add (pv 2) pe_int) pa_nil))))))
      (pss_cons (ps_for PassesOwn.never rfl (pi_list (pe_cl c_lcolumns hr (by decide) (pa_cons (pv 1) pa_nil))) (pg_name (i := 4) sc_lcover.nd rfl (Or.inr rfl)) (pss_cons (ps_setLc (i := 5) (own := [("_law_k", 9), ("_law_kt", 10), ("_law_own", 11)]) (g := gTup K 2 (gCons (gName 9) (gCons (gTup K 2 (gCons (gName 10) (gCons (gName 11) gNil))) gNil))) rfl sc_lcover.nd rfl rfl (sw_true rfl rfl rfl (by decide +kernel)) (pi_enumT (by rfl) T.enumerate (pa_cons (pv 1) pa_nil)) (blkOk_by (own := [("_law_k", 9), ("_law_kt", 10), ("_law_own", 11)]) (N := N_lcover) (sc := defScope s_lcover) (by decide +kernel)) (fun _ _ _ _ _ => (pg_tupK (K := K) rfl rfl (pgs_cons (pg_name (i := 9) sc_lcover.nd rfl (Or.inl rfl)) (pgs_cons (pg_tupK (K := K) rfl rfl (pgs_cons (pg_name (i := 10) sc_lcover.nd rfl (Or.inl rfl)) (pgs_cons (pg_name (i := 11) sc_lcover.nd rfl (Or.inl rfl)) pgs_nil))) pgs_nil)))) (fun _ _ _ _ _ => (pts_one (pt_cmpR (op_in_seqK (K := K) rfl) (pv 4) (pv 11) (by rfl)))) (fun _ _ _ _ _ => (pv 9)))
      (pss_cons (ps_set (i := 6) sc_lcover.nd rfl (Or.inl rfl) (pe_op op_sub (pv 2) (pe_callB (cr_sum rfl) (by rfl) T.sum boot_sum (pa_cons (pe_lc (own := [("_law_k", 9)]) (g := gName 9) (tt := tYes) rfl sc_lcover.nd (pi_list (pv 5)) (blkOk_by (own := [("_law_k", 9)]) (N := N_lcover) (sc := defScope s_lcover) (by decide +kernel)) (fun _ _ _ _ _ => (pg_name (i := 9) sc_lcover.nd rfl (Or.inl rfl))) (fun _ _ _ _ _ => pts_nil) (fun _ _ _ _ _ => (pe_ix (ix_listK (K := K) rfl) (pv 3) (pv 9) (fun _ _ => rfl)))) pa_nil))))
      (pss_one (ps_if (pt_cmpR op_gt (pv 6) pe_int (nomark _)) (pss_cons (ps_set (i := 7) sc_lcover.nd rfl (Or.inl rfl) (pe_ix ix_list (pv 5) (pe_cl c_ltake hr (by decide) (pa_cons (pv 0) (pa_cons (pe_callB call_len_seq (by rfl) T.len boot_len (pa_cons (pv 5) pa_nil)) pa_nil))) (fun _ _ => rfl)))
      (pss_one (ps_asg (pe_op op_add (pe_ix ix_list (pv 3) (pv 7) (fun _ _ => rfl)) (pv 6)) (pg_sub (pv 3) (pv 7) set_list)))) pss_nil)))))
      (pss_one (ps_ret (pe_tup (pa_cons (pv 2) (pa_cons (pe_callTy call_tuple_of (by rfl) T.tuple boot_tuple (pa_cons (pv 3) pa_nil)) pa_nil)))))))), ?_⟩
    have r6 := qs.six
    refine ⟨_, rfl, a, 6, c, z, rfl, hb, by decide, by decide, fun d c1 z1 hd => ?_⟩
    refine ⟨_, _, rfl, rfl, ?_⟩
    obtain ⟨m, hm⟩ : ∃ m : Int, m = 1 + (d : Int) := ⟨_, rfl⟩
    show gName 2 (.int ((1 : Int) + (d : Int))) _ _ _
    rw [← hm]
    have m1 : 1 ≤ m ∧ m ≤ 6 := by omega
    clear hm hd
    have sA := fun o => (SameB.refl (a := a) (H := H)).putA (o := o)
    have lw := walk_tup (K := K) (a := p) (xs := qRefs rs)
    rw [show (qRefs rs).length = rs.length from List.length_map ..] at lw
    refine ⟨_, rfl, p, rfl, ⟨_, (sA _).seqT npa qs.tup⟩, fun N nN => ?_⟩
    have N0 : H N = none := (sA _).old .set nN
    have nNa : N ≠ a := BoxAt.set.ne nN
    refine lc_it lw (fun j H' => ∃ (xs : List Int) (c z : Int), xs.length = j ∧ (∀ x ∈ xs, 0 ≤ x) ∧ H' N = some (.lst (xs.map V.int)) ∧ SameB a H H' ∧ BoxAt H' a c z)
      ⟨[], c1, z1, rfl, fun _ h => absurd h List.not_mem_nil, upd_same, (sA _).nw nN, BoxAt.set.nw nN⟩ (fun j H' _ ⟨_, _, _, _, _, _, s, _⟩ => s.seqT npa qs.tup) ?_ ?_
    · rintro j x H1 H2 hj ⟨xs, c2, z2, xl, xb, eD, sm, b2⟩ ⟨rfl, hx⟩
      refine ⟨rfl, _, rfl, _, rfl, _, _, rfl, rfl, a, _, c2, z2, rfl, b2, by omega, by omega, fun d2 c3 z3 hd2 => ?_⟩
      refine ⟨_, setS eD nNa, small_len' (by rw [List.length_map]; omega), xs ++ [(d2 : Int)], c3, z3, ?_, fun x hx => ?_, ?_, sm.putA.put N0, BoxAt.set.put nNa⟩
      · rw [List.length_append, xl]
        rfl
      · rcases List.mem_append.mp hx with h | h
        · exact xb x h
        · rw [List.mem_singleton] at h
          omega
      · rw [upd_same, ints_snoc]
    · rintro H1 ⟨zs, c2, z2, zl, zb, eN, sm, b2⟩
      have qs1 := qs.sameB hb npa sm
      refine ⟨_, rfl, p, rs, rfl, qs1, fun l H2 s2 nl el => ?_⟩
      have eN2 := s2 _ _ eN
      have b3 : BoxAt H2 a c2 z2 := s2 _ _ b2
      have sm2 := sm.trans (SameB.of s2)
      have nla := b2.ne nl
      have nlN : l ≠ N := (ne_of_none eN nl).symm
      have on : ∀ o ∈ owns rs, o.Nodup ∧ o.length ≤ 6 := fun o ho => by
        obtain ⟨r, hr, rfl⟩ := List.mem_map.mp ho
        exact ⟨(qs.rows r hr).2.2.1, (qs.rows r hr).2.2.2.2⟩
      have cl : (colsOf (owns rs)).length ≤ 36 := cols_len (fun o ho => (on o ho).2) (by rw [List.length_map]; omega)
      obtain ⟨cols, hcols⟩ : ∃ cols, cols = colsOf (owns rs) := ⟨_, rfl⟩
      rw [← hcols] at el cl
      refine ⟨l, rfl, ⟨_, SqL.of el⟩, ?_⟩
      have lw2 := walk_list (K := K) (a := l) (xs := cols.map V.str)
      rw [List.length_map] at lw2
      refine for_it lw2 (fun i σ H' => ∃ (x4 x5 x6 x7 : Option V) (zs : List Int) (c z : Int), σ = [some (.ref a), some (.ref p), some (.int m), some (.ref N), x4, x5, x6, x7, none, none, none, none] ∧ zs.length = rs.length ∧ (∀ v ∈ zs, 0 ≤ v) ∧ (∀ j, j < i → ∀ c, cols[j]? = some c → m ≤ cov rs zs c) ∧
          H' N = some (.lst (zs.map V.int)) ∧ H' l = some (.lst (cols.map V.str)) ∧ SameB a H H' ∧ BoxAt H' a c z)
        ⟨none, none, none, none, zs, c2, z2, rfl, zl, zb, fun j h => absurd h (Nat.not_lt_zero _), eN2, el, sm2, b3⟩ (fun i σ H' _ h => by obtain ⟨_, _, _, _, _, _, _, _, _, _, _, _, e, _⟩ := h; exact SqL.of e) ?_ ?_
      · rintro i x σ H3 H4 hi ⟨x4, x5, x6, x7, zs, c3, z3, rfl, zl, zb, hc, eN, el, sm, b3⟩ ⟨rfl, hx⟩
        rw [List.getElem?_map, List.getElem?_eq_getElem hi] at hx
        have hx := (Option.some.inj hx).symm
        subst hx
        obtain ⟨col, hcol⟩ : ∃ col, col = cols[i] := ⟨_, rfl⟩
        rw [← hcol]
        have qs3 := qs.sameB hb npa sm
        -- the tables that have it
        refine ⟨_, rfl, p, _, rfl, qs3.tup, fun D nD => ?_⟩
        have lw3 := walk_enumT (K := K) (a := p) (xs := qRefs rs)
        rw [show (qRefs rs).length = rs.length from List.length_map ..] at lw3
        refine lc_it lw3 (fun j H' => H' D = some (.lst (((List.range j).filter fun k => decide (col ∈ (owns rs).getD k [])).map fun k => V.int (k : Nat))) ∧ Same H4 H') ⟨upd_same, same_upd nD⟩ (fun j H' _ h => Same.seqT h.2 qs3.tup) ?_ ?_
        · rintro j x H5 H6 hj ⟨eD, s5⟩ ⟨T, u, v, rfl, nT, rfl, h1, h2⟩
          have h1 := (Option.some.inj h1).symm
          subst h1
          have h2 : (qRefs rs)[j]? = some v := h2
          rw [qRefs_at hj] at h2
          have h2 := (Option.some.inj h2).symm
          subst h2
          have s6 := s5.trans (same_upd (o := .tup [.int (j : Nat), .ref rs[j].T]) nT)
          have ro := (qs3.at hj).same s6
          have nTD : D ≠ T := ne_of_none eD nT
          have ev : (if false = true then !inV (V.str col) (rs[j].own.map V.str) else inV (V.str col) (rs[j].own.map V.str)) = decide (col ∈ (owns rs).getD j []) := by
            rw [if_neg Bool.false_ne_true, inV_str, own_at hj]
          refine ⟨T, _, rfl, SqT.of upd_same, rfl, _, _, rfl, _, _, rfl, _, _, rfl, SqT.of ro.1, rfl, _, _, rfl, _, _, rfl, rfl, rfl, rfl, ?_⟩
          refine ⟨_, rfl, _, rfl, rs[j].o, _, rfl, .inr (SqT.of ro.2.1), rfl, flat_strs _, _, rfl, ite2 (fun e => ?_) (fun e => ?_)⟩
          · rw [ev] at e
            refine ⟨_, rfl, _, nwS eD nT, small_len (m := 6) ?_, ?_, fun b o hb => setS (s6 b o hb) (ne_of_none hb nD)⟩
            · rw [List.length_map]
              refine Nat.le_trans (List.length_filter_le _ _) ?_
              rw [List.length_range]
              omega
            · rw [upd_same, List.range_succ, List.filter_append, List.map_append, List.filter_cons_of_pos (p := fun k => decide (col ∈ (owns rs).getD k [])) e]
              rfl
          · rw [ev] at e
            refine ⟨?_, s6⟩
            rw [List.range_succ, List.filter_append, List.filter_cons_of_neg (p := fun k => decide (col ∈ (owns rs).getD k [])) e, List.filter_nil, List.append_nil]
            exact nwS eD nT
        · rintro H5 ⟨eD, s5⟩
          obtain ⟨ks, hks⟩ : ∃ ks, ks = (List.range rs.length).filter fun k => decide (col ∈ (owns rs).getD k []) := ⟨_, rfl⟩
          rw [← hks] at eD
          have kb : ∀ k ∈ ks, k < rs.length ∧ col ∈ (owns rs).getD k [] := fun k hk => by
            rw [hks, List.mem_filter, List.mem_range] at hk
            exact ⟨hk.1, of_decide_eq_true hk.2⟩
          have kp : 0 < ks.length := by
            have hm : col ∈ colsOf (owns rs) := by
              rw [← hcols, hcol]
              exact List.getElem_mem _
            obtain ⟨o, ho, hco⟩ := cols_mem.mp hm
            obtain ⟨k, hk⟩ := List.getElem?_of_mem ho
            have hk1 := (List.getElem?_eq_some_iff.mp hk).1
            rw [List.length_map] at hk1
            refine List.length_pos_of_mem (a := k) ?_
            rw [hks, List.mem_filter, List.mem_range]
            refine ⟨hk1, decide_eq_true ?_⟩
            rw [List.getD_eq_getElem?_getD, hk]
            exact hco
          have kl : ks.length ≤ 6 := by
            rw [hks]
            refine Nat.le_trans (List.length_filter_le _ _) ?_
            rw [List.length_range]
            omega
          have eN5 := s5 _ _ eN
          -- what lacks
          refine ⟨_, rfl, _, rfl, D, rfl, ⟨_, SqL.of eD⟩, fun D2 nD2 => ?_⟩
          have lw4 := walk_list (K := K) (a := D) (xs := ks.map fun k => V.int (k : Nat))
          rw [List.length_map] at lw4
          refine lc_it lw4 (fun j H' => H' = upd H5 D2 (.lst (((ks.take j).map fun k => zs.getD k 0).map V.int))) rfl ?_ ?_ ?_
          · rintro j H' _ rfl
            exact SqL.of (nwS eD nD2)
          · rintro j x H' H6 hj rfl ⟨rfl, hx⟩
            rw [List.getElem?_map, List.getElem?_eq_getElem hj] at hx
            have hx := (Option.some.inj hx).symm
            subst hx
            have kj := kb _ (List.getElem_mem hj)
            have tk : ks.take (j + 1) = ks.take j ++ [ks[j]] := List.take_succ_eq_append_getElem hj
            refine ⟨rfl, _, rfl, _, rfl, N, _, _, _, rfl, rfl, SqL.of (nwS eN5 nD2), atI_nat (zs_at (by omega)), _, upd_same, small_len (m := 6) ?_, ?_⟩
            · rw [List.length_map, List.length_map, List.length_take]
              omega
            · show upd (upd H5 D2 _) D2 _ = _
              rw [upd_upd, tk, List.map_append, List.map_append]
              rfl
          · rintro H' rfl
            rw [List.take_length]
            refine ⟨D2, _, rfl, SqL.of upd_same, _, _, rfl, rfl, ?_⟩
            have es : (ks.map fun k => zs.getD k 0).sum = cov rs zs col := by rw [hks]; exact sum_pick
            rw [es]
            have s6 := s5.trans (same_upd (o := .lst ((ks.map fun k => zs.getD k 0).map V.int)) nD2)
            have eN6 := nwS (o := .lst ((ks.map fun k => zs.getD k 0).map V.int)) eN5 nD2
            have eD6 := nwS (o := .lst ((ks.map fun k => zs.getD k 0).map V.int)) eD nD2
            have sm6 := sm.trans (SameB.of s6)
            have b6 : BoxAt (upd H5 D2 (.lst ((ks.map fun k => zs.getD k 0).map V.int))) a c3 z3 := s6 _ _ b3
            have el6 := s6 _ _ el
            refine ⟨_, rfl, _, _, rfl, rfl, _, rfl, ite2 (fun h => ?_) (fun h => ?_)⟩
            · have lk : 0 < m - cov rs zs col := of_decide_eq_true h
              refine ⟨_, rfl, _, rfl, _, rfl, D, _, rfl, .inl (SqL.of eD6), a, _, c3, z3, rfl, b6, ?_, ?_, fun d2 c4 z4 hd2 => ?_⟩
              · rw [List.length_map]
                omega
              · rw [List.length_map]
                omega
              rw [List.length_map] at hd2
              have hdk : d2 < ks.length := by omega
              have nDa : D ≠ a := b3.ne nD
              have kd := kb _ (List.getElem_mem hdk)
              refine ⟨D, _, _, _, rfl, rfl, SqL.of (setS eD6 nDa), atI_nat (by rw [List.getElem?_map, List.getElem?_eq_getElem hdk]; rfl), ?_⟩
              refine ⟨_, rfl, _, rfl, N, _, _, _, rfl, rfl, SqL.of (setS eN6 nNa), atI_nat (zs_at (by omega)), _, rfl, _, _, rfl, rfl, ?_⟩
              refine ⟨_, rfl, _, rfl, N, _, _, ks[d2], rfl, rfl, setS eN6 nNa, by rw [List.length_map]; exact ixn (by omega), ?_⟩
              refine ⟨_, _, _, _, zs.set ks[d2] (zs.getD ks[d2] 0 + (m - cov rs zs col)), c4, z4, rfl, ?_, fun v hv => ?_, fun j hj c hc' => ?_, ?_, setS (setS el6 nla) nlN, sm6.putA.put N0, BoxAt.set.put nNa⟩
              · rw [List.length_set]
                exact zl
              · rcases List.mem_or_eq_of_mem_set hv with h | h
                · exact zb v h
                · have g0 : 0 ≤ zs.getD ks[d2] 0 := by
                    rw [List.getD_eq_getElem?_getD, List.getElem?_eq_getElem (by omega)]
                    exact zb _ (List.getElem_mem _)
                  omega
              · rw [cov_at kd.1 zl]
                by_cases e : j = i
                · subst e
                  rw [List.getElem?_eq_getElem hi, ← hcol] at hc'
                  have hc' := Option.some.inj hc'
                  subst hc'
                  rw [if_pos kd.2]
                  omega
                · have h1 := hc j (by omega) c hc'
                  split <;> omega
              · rw [upd_same, List.map_set]
            · have lk : ¬ 0 < m - cov rs zs col := fun g => h (decide_eq_true g)
              refine ⟨_, _, _, _, zs, c3, z3, rfl, zl, zb, fun j hj c hc' => ?_, eN6, el6, sm6, b6⟩
              by_cases e : j = i
              · subst e
                rw [List.getElem?_eq_getElem hi, ← hcol] at hc'
                have hc' := Option.some.inj hc'
                subst hc'
                omega
              · exact hc j (by omega) c hc'
      · rintro σ H3 ⟨x4, x5, x6, x7, zs, c3, z3, rfl, zl, zb, hc, eN, el, sm, b3⟩
        refine ⟨_, rfl, _, rfl, N, _, rfl, .inl ⟨SqL.of eN, fun t nt => ⟨by show 2 ≤ sizeLine; decide, fun u nu => ?_⟩⟩⟩
        refine q u t m zs c3 z3 _ m1.1 m1.2 zl zb (fun x hx => ?_) upd_same (nwS upd_same nu) ((sm.nw nt).nw nu) ((b3.nw nt).nw nu)
        rw [← hcols] at hx
        obtain ⟨j, hj⟩ := List.getElem?_of_mem hx
        exact hc j (List.getElem?_eq_some_iff.mp hj).1 x hj
end
end MW
namespace MW
open PySem PySem.Spec PyProof.Rows L2
/-! ### drawn weights -/
def setW (wt : Str → Int) (c : Str) (v : Int) : Str → Int := fun x => if x = c then v else wt x
theorem setW_same {wt : Str → Int} {c : Str} {v : Int} : setW wt c v c = v := if_pos rfl
theorem setW_ne {wt : Str → Int} {c x : Str} {v : Int} (h : x ≠ c) : setW wt c v x = wt x := if_neg h
theorem paired_imp {α β : Type} {F G : α → β → Prop} (h : ∀ a b, F a b → G a b) {xs : List α} {ys : List β} (p : Paired F xs ys) : Paired G xs ys := by
  induction p with
  | nil => exact .nil
  | cons x _ ih => exact .cons (h _ _ x) ih
theorem sum_nil : ∀ xs : List Str, (xs.map fun _ => (0 : Int)).sum = 0
  | [] => rfl
  | x :: xs => by rw [List.map_cons, List.sum_cons, sum_nil xs]; rfl
/-- the dict of weights -/
def Kn (H : Hp) (d : Addr) (cs : List Str) (wt : Str → Int) : Prop := ∃ kvs : List (Key × V), H d = some (.dK kvs) ∧ kvs.length ≤ 36 ∧ ∀ c ∈ cs, valV kvs (.inr c) = some (.int (wt c))
theorem Kn.get {H : Hp} {d : Addr} {cs : List Str} {wt : Str → Int} {c : Str} (h : Kn H d cs wt) (hc : c ∈ cs) : DGet H d (.str c) (some (.int (wt c))) := by
  obtain ⟨kvs, e, _, h⟩ := h
  exact .inl ⟨kvs, .inr c, .inl e, rfl, (h c hc).symm⟩
theorem Kn.nw {H : Hp} {d p : Addr} {o : HO} {cs : List Str} {wt : Str → Int} (h : Kn H d cs wt) (n : H p = none) : Kn (upd H p o) d cs wt := by
  obtain ⟨kvs, e, h⟩ := h
  exact ⟨kvs, nwS e n, h⟩
theorem putK_len {kvs : List (Key × V)} {k : Key} {v w : V} (h : valV kvs k = some w) : (putK kvs k v).length = kvs.length := by
  unfold putK
  rw [if_pos (by rw [valV_any, h]; rfl), List.length_map]
theorem putK_le {kvs : List (Key × V)} {k : Key} {v : V} : (putK kvs k v).length ≤ kvs.length + 1 := by
  unfold putK
  split
  · rw [List.length_map]
    omega
  · rw [List.length_append]
    exact Nat.le_refl _
theorem Kn.put {H : Hp} {d : Addr} {cs : List Str} {wt : Str → Int} {c : Str} (h : Kn H d cs wt) (hc : c ∈ cs) (v : Int) :
    ∃ kvs, H d = some (.dK kvs) ∧ DPut H d (.str c) (.int v) (upd H d (.dK (putK kvs (.inr c) (.int v)))) ∧ Kn (upd H d (.dK (putK kvs (.inr c) (.int v)))) d cs (setW wt c v) := by
  obtain ⟨kvs, e, l, h⟩ := h
  refine ⟨kvs, e, .inl ⟨kvs, .inr c, e, rfl, small_len (m := 36) l, rfl⟩, _, upd_same, by rw [putK_len (h c hc)]; exact l, fun x hx => ?_⟩
  rw [valV_put]
  by_cases g : x = c
  · subst g
    rw [if_pos rfl, setW_same]
  · rw [if_neg (fun q => g (Sum.inr.inj q)), setW_ne g]
    exact h x hx
theorem sum_put {wt : Str → Int} {c : Str} {v : Int} : ∀ {own : List Str}, own.Nodup → c ∈ own → (own.map (setW wt c v)).sum = (own.map wt).sum - wt c + v := by
  intro own
  induction own with
  | nil => intro _ h; cases h
  | cons y ys ih =>
    intro nd hc
    rw [List.nodup_cons] at nd
    rw [List.map_cons, List.map_cons, List.sum_cons, List.sum_cons]
    by_cases g : y = c
    · subst g
      rw [setW_same]
      have : ys.map (setW wt y v) = ys.map wt := List.map_congr_left fun x hx => setW_ne fun q => by
        subst q
        exact nd.1 hx
      rw [this]
      omega
    · rw [setW_ne g, ih nd.2 ((List.mem_cons.mp hc).resolve_left (Ne.symm g))]
      omega
def spFit (K : PySem.W.Frag) : Sp := fun vs H Q _ => ∃ (a p e : Addr) (c s : Int) (rs : List Row) (ex : List Int), vs = [.ref a, .ref p, .ref e] ∧ BoxAt H a c s ∧ p ≠ a ∧ Qs K H p rs ∧ H e = some (.tup (ex.map V.int)) ∧ ex.length = rs.length ∧ (∀ x ∈ ex, 0 ≤ x ∧ x ≤ 9) ∧
  ∀ (u nu : Addr) (parts : Int) (wt : Str → Int) (c' s' : Int) (H' : Hp), 1 ≤ parts → parts ≤ 4 → (∀ x, 0 ≤ wt x) → LP.Fits (owns rs) ex wt parts → H' u = some (.tup [.int parts, .ref nu]) → H' nu = some (.lst (((colsOf (owns rs)).map wt).map V.int)) → SameB a H H' → BoxAt H' a c' s' → Q (.ref u) H'
theorem merge_snoc {kvs more : List (Key × V)} {k : Key} {v : V} : mergeK kvs (more ++ [(k, v)]) = putK (mergeK kvs more) k v := by
  unfold mergeK
  rw [List.foldl_append]
  rfl
theorem ex_at {ex : List Int} {k : Nat} (hk : k < ex.length) : (ex.map V.int)[k]? = some (.int ex[k]) := by
  rw [List.getElem?_map, List.getElem?_eq_getElem hk]
  rfl
section
variable {P : Program} {w : World} {K : PySem.W.Frag} {mg : Str → Option Value} {base : Heap}
theorem ok_lfitting {f : Addr} {fd : FuncData} (F : Fun K "_law_fitting" "_law_fitting" s_lfitting f fd) (T : Bl mg) (c_ltake : Cal P w K mg base 1 "_law_take" ["_law_box_here", "_law_many"] spTake) (c_lcolumns : Cal P w K mg base 1 "_law_columns" ["_law_question_here"] (spCols .lst K)) : FnOk P w K mg base CX0 2 f fd ["_law_box_here", "_law_question_here", "_law_exponents_here"] (spFit K) := by
  refine F.ok sc_lfitting (fun vs H Q E h => ?_) (fun cdv A outer s H vs Q E hr h => ?_)
  · obtain ⟨a, p, e, c, z, rs, ex, rfl, _⟩ := h
    rfl
  · obtain ⟨a, p, e, c, z, rs, ex, rfl, hb, npa, qs, ee, exl, exb, q⟩ := h
    have hu := hu_of hr
    refine ⟨_, (pss_cons (ps_set (i := 3) sc_lfitting.nd rfl (Or.inl rfl) (pe_cl c_lcolumns hr (by decide) (pa_cons (pv 1) pa_nil)))
      (pss_cons (ps_set (i := 4) sc_lfitting.nd rfl (Or.inl rfl) (pe_op op_add pe_int (pe_cl c_ltake hr (by decide) (pa_cons (pv 0) (pa_cons pe_int pa_nil)))))
      (pss_cons (ps_set (i := 6) sc_lfitting.nd rfl (Or.inr rfl) (pe_callTy (call_dictP rfl) (by rfl) T.dict boot_dict (pa_cons (pe_lc (own := [("_law_column", 5)]) (g := gName 5) (tt := tYes) rfl sc_lfitting.nd (pi_list (pv 3)) (blkOk_by (own := [("_law_column", 5)]) (N := N_lfitting) (sc := defScope s_lfitting) (by decide +kernel)) (fun _ _ _ _ _ => (pg_name (i := 5) sc_lfitting.nd rfl (Or.inl rfl))) (fun _ _ _ _ _ => pts_nil) (fun _ _ _ _ _ => (pe_tup (pa_cons (pv 5) (pa_cons (pe_cl c_ltake hr (by decide) (pa_cons (pv 0) (pa_cons pe_int pa_nil))) pa_nil))))) pa_nil)))
      (pss_cons (ps_for PassesOwn.never rfl (RZ.pi_zipA (by rfl) T.zip (pa_cons (pv 1) (pa_cons (pv 2) pa_nil))) (pg_tup rfl (pgs_cons (pg_tup rfl (pgs_cons (pg_name (i := 7) sc_lfitting.nd rfl (Or.inl rfl)) (pgs_cons (pg_name (i := 8) sc_lfitting.nd rfl (Or.inl rfl)) pgs_nil))) (pgs_cons (pg_name (i := 9) sc_lfitting.nd rfl (Or.inl rfl)) pgs_nil))) (pss_cons (ps_set (i := 10) sc_lfitting.nd rfl (Or.inl rfl) (pe_op op_sub (pe_callB (cr_sum rfl) (by rfl) T.sum boot_sum (pa_cons (pe_lc (own := [("_law_column", 5)]) (g := gName 5) (tt := tYes) rfl sc_lfitting.nd (pi_tup (pv 8)) (blkOk_by (own := [("_law_column", 5)]) (N := N_lfitting) (sc := defScope s_lfitting) (by decide +kernel)) (fun _ _ _ _ _ => (pg_name (i := 5) sc_lfitting.nd rfl (Or.inl rfl))) (fun _ _ _ _ _ => pts_nil) (fun _ _ _ _ _ => (pe_dget hu (pv 6) (pv 5) (fun _ _ => rfl)))) pa_nil)) (pe_op op_mul (pv 4) (pv 9))))
      (pss_one (ps_for PassesOwn.never rfl (pi_tup (pv 8)) (pg_name (i := 5) sc_lfitting.nd rfl (Or.inl rfl)) (pss_cons (ps_set (i := 11) sc_lfitting.nd rfl (Or.inl rfl) (pe_callB (call_min2 rfl) (by rfl) T.min boot_min (pa_cons (pe_dget hu (pv 6) (pv 5) (fun _ _ => rfl)) (pa_cons (pe_callB (call_max2 rfl) (by rfl) T.max boot_max (pa_cons pe_int (pa_cons (pv 10) pa_nil))) pa_nil))))
      (pss_cons (ps_dput hu (pv 6) (pv 5) (pe_op op_sub (pe_dget hu (pv 6) (pv 5) (fun _ _ => rfl)) (pv 11)) rfl)
      (pss_one (ps_set (i := 10) sc_lfitting.nd rfl (Or.inl rfl) (pe_op op_sub (pv 10) (pv 11))))))))))
      (pss_one (ps_ret (pe_tup (pa_cons (pv 4) (pa_cons (pe_lc (own := [("_law_column", 5)]) (g := gName 5) (tt := tYes) rfl sc_lfitting.nd (pi_list (pv 3)) (blkOk_by (own := [("_law_column", 5)]) (N := N_lfitting) (sc := defScope s_lfitting) (by decide +kernel)) (fun _ _ _ _ _ => (pg_name (i := 5) sc_lfitting.nd rfl (Or.inl rfl))) (fun _ _ _ _ _ => pts_nil) (fun _ _ _ _ _ => (pe_dget hu (pv 6) (pv 5) (fun _ _ => rfl)))) pa_nil))))))))), ?_⟩
    have r6 := qs.six
    have nea := tup_ne hb ee
    have on : ∀ o ∈ owns rs, o.Nodup ∧ o.length ≤ 6 := fun o ho => by
      obtain ⟨r, hr, rfl⟩ := List.mem_map.mp ho
      exact ⟨(qs.rows r hr).2.2.1, (qs.rows r hr).2.2.2.2⟩
    have cl : (colsOf (owns rs)).length ≤ 36 := cols_len (fun o ho => (on o ho).2) (by rw [List.length_map]; omega)
    have cm : ∀ r, r ∈ rs → ∀ x ∈ r.own, x ∈ colsOf (owns rs) := fun r hr x hx => cols_mem.mpr ⟨r.own, List.mem_map_of_mem hr, hx⟩
    obtain ⟨cols, hcols⟩ : ∃ cols, cols = colsOf (owns rs) := ⟨_, rfl⟩
    rw [← hcols] at cl cm q
    refine ⟨_, rfl, p, rs, rfl, qs, fun l H1 s1 nl el => ?_⟩
    rw [← hcols] at el
    have b1 : BoxAt H1 a c z := s1 _ _ hb
    have nla := hb.ne nl
    refine ⟨_, rfl, a, 4, c, z, rfl, b1, by decide, by decide, fun d c1 z1 hd => ?_⟩
    refine ⟨_, _, rfl, rfl, ?_⟩
    obtain ⟨m, hm⟩ : ∃ m : Int, m = 1 + (d : Int) := ⟨_, rfl⟩
    show gName 4 (.int ((1 : Int) + (d : Int))) _ _ _
    rw [← hm]
    have m1 : 1 ≤ m ∧ m ≤ 4 := by omega
    clear hm hd
    have sA := fun o => (SameB.of (a := a) s1).putA (o := o)
    have el1 := fun o => setS (o := o) el nla
    -- the weights
    refine ⟨_, rfl, l, rfl, ⟨_, SqL.of (el1 _)⟩, fun D nD => ?_⟩
    have D0 : H D = none := (sA _).old .set nD
    have nDa : D ≠ a := BoxAt.set.ne nD
    have nlD : l ≠ D := ne_of_none (el1 _) nD
    have lw := walk_list (K := K) (a := l) (xs := cols.map V.str)
    rw [List.length_map] at lw
    refine lc_it lw (fun j H' => ∃ (ps : List Addr) (kvs : List (Key × V)) (wt : Str → Int) (c z : Int), ps.length = j ∧ H' D = some (.lst (ps.map V.ref)) ∧ Paired (fun p kv => H' p = some (.tup [kV kv.1, kv.2])) ps kvs ∧ (mergeK [] kvs).length ≤ j ∧ (∀ x, 0 ≤ wt x) ∧
        (∀ x ∈ cols.take j, valV (mergeK [] kvs) (.inr x) = some (.int (wt x))) ∧ H' l = some (.lst (cols.map V.str)) ∧ SameB a H H' ∧ BoxAt H' a c z)
      ⟨[], [], fun _ => 0, c1, z1, rfl, upd_same, .nil, Nat.le_refl _, fun _ => Int.le_refl _, fun x hx => absurd hx List.not_mem_nil, nwS (el1 _) nD, (sA _).nw nD, BoxAt.set.nw nD⟩ (fun j H' _ ⟨_, _, _, _, _, _, _, _, _, _, _, e, _⟩ => SqL.of e) ?_ ?_
    · rintro j x H2 H3 hj ⟨ps, kvs, wt, c2, z2, pl, eD, pp, kl, wn, wv, el, sm, b2⟩ ⟨rfl, hx⟩
      rw [List.getElem?_map, List.getElem?_eq_getElem hj] at hx
      have hx := (Option.some.inj hx).symm
      subst hx
      refine ⟨rfl, _, rfl, _, rfl, a, 13, c2, z2, rfl, b2, by decide, by decide, fun d2 c3 z3 hd2 => ⟨by show 2 ≤ sizeLine; decide, fun t nt => ?_⟩⟩
      have nDt : D ≠ t := ne_of_none (setS (o := .lst [.int c3, .int z3]) eD nDa) nt
      have tk : cols.take (j + 1) = cols.take j ++ [cols[j]] := List.take_succ_eq_append_getElem hj
      refine ⟨_, nwS (setS eD nDa) nt, small_len (m := 36) (by rw [List.length_map]; omega), ps ++ [t], kvs ++ [(.inr cols[j], .int d2)], setW wt cols[j] d2, c3, z3, ?_, ?_, ?_, ?_, fun x => ?_, fun x hx => ?_, setS (nwS (setS el nla) nt) nlD, (sm.putA.nw nt).put D0, (BoxAt.set.nw nt).put nDa⟩
      · rw [List.length_append, pl]
        rfl
      · rw [upd_same, List.map_append]
        rfl
      · refine Paired.snoc (paired_imp ?_ pp) (setS upd_same nDt.symm)
        intro u kv hu
        refine setS (nwS (setS hu ?_) nt) ?_
        · exact tup_ne b2 hu
        · intro g
          rw [g, eD] at hu
          cases hu
      · rw [merge_snoc]
        exact Nat.le_trans putK_le (Nat.succ_le_succ kl)
      · unfold setW
        split
        · omega
        · exact wn x
      · rw [merge_snoc, valV_put]
        by_cases g : x = cols[j]
        · subst g
          rw [if_pos rfl, setW_same]
        · rw [if_neg (fun q => g (Sum.inr.inj q)), setW_ne g]
          rw [tk] at hx
          rcases List.mem_append.mp hx with h | h
          · exact wv x h
          · exact absurd (List.mem_singleton.mp h) g
    · rintro H2 ⟨ps, kvs, wt, c2, z2, pl, eD, pp, kl, wn, wv, el, sm, b2⟩
      rw [List.take_length] at wv
      refine ⟨D, ps, kvs, rfl, SqL.of eD, paired_imp (fun u kv h => SqT.of h) pp, fun k nk => ?_⟩
      have kn : Kn (upd H2 k (.dK (mergeK [] kvs))) k cols wt := ⟨_, upd_same, by omega, wv⟩
      have sm3 := sm.nw (o := .dK (mergeK [] kvs)) nk
      have b3 := b2.nw (o := .dK (mergeK [] kvs)) nk
      have el3 := nwS (o := .dK (mergeK [] kvs)) el nk
      have nka := b2.ne nk
      have k0 := sm.old b2 nk
      have nlk : l ≠ k := ne_of_none el nk
      have ee3 := sm3 _ _ nea ee
      have qs3 := qs.sameB hb npa sm3
      generalize upd H2 k (.dK (mergeK [] kvs)) = H3 at kn sm3 b3 el3 ee3 qs3 ⊢
      clear pp kl wv eD el sm b2
      refine ⟨_, rfl, _, rfl, p, e, qRefs rs, ex.map V.int, rfl, .inr ⟨qs3.tup, SqT.of ee3, ?_⟩⟩
      have lwz := walk_zipT (K := K) (a := p) (b := e) (xs := qRefs rs) (ys := ex.map V.int) (n := rs.length) (by rw [List.length_map, exl, show (qRefs rs).length = rs.length from List.length_map .., Nat.min_self])
      refine for_it lwz (fun i σ H' => ∃ (x5 x7 x8 x9 x10 x11 : Option V) (wt : Str → Int), σ = [some (.ref a), some (.ref p), some (.ref e), some (.ref l), some (.int m), x5, some (.ref k), x7, x8, x9, x10, x11] ∧ (∀ x, 0 ≤ wt x) ∧ Kn H' k cols wt ∧
          (∀ (r : Nat) (own : List Str) (x : Int), r < i → (owns rs)[r]? = some own → ex[r]? = some x → (own.map wt).sum ≤ m * x) ∧ H' l = some (.lst (cols.map V.str)) ∧ SameB a H H' ∧ BoxAt H' a c2 z2)
        ⟨none, none, none, none, none, none, wt, rfl, wn, kn, fun r _ _ h => absurd h (Nat.not_lt_zero _), el3, sm3, b3⟩ (fun i σ H' _ h => by
          obtain ⟨_, _, _, _, _, _, _, _, _, _, _, _, s, _⟩ := h
          exact ⟨s.seqT npa qs.tup, SqT.of (s _ _ nea ee)⟩) ?_ ?_
      · rintro i x σ H4 H5 hi ⟨x5, x7, x8, x9, x10, x11, wt, rfl, wn, kn, fit, el, sm, b4⟩ ⟨T, u, v, rfl, nT, rfl, h1, h2⟩
        have h1 : (qRefs rs)[i]? = some u := h1
        have h2 : (ex.map V.int)[i]? = some v := h2
        rw [qRefs_at hi] at h1
        rw [ex_at (by omega)] at h2
        have h1 := (Option.some.inj h1).symm
        have h2 := (Option.some.inj h2).symm
        subst h1 h2
        have sm5 := sm.nw (o := .tup [.ref rs[i].T, .int (ex[i]'(by omega))]) nT
        have b5 := b4.nw (o := .tup [.ref rs[i].T, .int (ex[i]'(by omega))]) nT
        have el5 := nwS (o := .tup [.ref rs[i].T, .int (ex[i]'(by omega))]) el nT
        have kn5 := kn.nw (o := .tup [.ref rs[i].T, .int (ex[i]'(by omega))]) nT
        have eT : upd H4 T (.tup [.ref rs[i].T, .int (ex[i]'(by omega))]) T = _ := upd_same
        generalize upd H4 T (.tup [.ref rs[i].T, .int (ex[i]'(by omega))]) = H5 at sm5 b5 el5 kn5 eT ⊢
        have qs5 := qs.sameB hb npa sm5
        have ro := qs5.at hi
        refine ⟨T, _, rfl, SqT.of eT, rfl, _, _, rfl, _, _, rfl, SqT.of ro.1, rfl, _, _, rfl, _, _, rfl, rfl, _, _, rfl, rfl, ?_⟩
        have own1 := ro.2.2.1
        have own6 : rs[i].own.length ≤ 6 := ro.2.2.2.2
        have ownc : ∀ x ∈ rs[i].own, x ∈ cols := cm _ (List.getElem_mem hi)
        have eown : H5 rs[i].o = some (.tup (rs[i].own.map V.str)) := ro.2.1
        have ow_i : (owns rs)[i]? = some rs[i].own := by rw [List.getElem?_map, List.getElem?_eq_getElem hi]; rfl
        have ex_i : ex[i]? = some (ex[i]'(by omega)) := List.getElem?_eq_getElem (by omega)
        have exb_i := exb _ (List.getElem_mem (show i < ex.length by omega))
        generalize ex[i]'(by omega) = xx at *
        obtain ⟨oa, hoa⟩ : ∃ oa, oa = rs[i].o := ⟨_, rfl⟩
        obtain ⟨ow, how⟩ : ∃ ow, ow = rs[i].own := ⟨_, rfl⟩
        rw [← how] at own1 own6 ownc ow_i
        have own1 : ow.Nodup := own1
        rw [← how, ← hoa] at eown
        rw [← hoa]
        have lwo := walk_tup (K := K) (a := oa) (xs := ow.map V.str)
        rw [List.length_map] at lwo
        -- what is too much
        refine ⟨_, rfl, oa, rfl, ⟨_, SqT.of eown⟩, fun D2 nD2 => ?_⟩
        refine lc_it lwo (fun j H' => H' = upd H5 D2 (.lst (((ow.take j).map wt).map V.int))) rfl ?_ ?_ ?_
        · rintro j H' _ rfl
          exact SqT.of (nwS eown nD2)
        · rintro j x H' H6 hj rfl ⟨rfl, hx⟩
          rw [List.getElem?_map, List.getElem?_eq_getElem hj] at hx
          have hx := (Option.some.inj hx).symm
          subst hx
          have tk : ow.take (j + 1) = ow.take j ++ [ow[j]] := List.take_succ_eq_append_getElem hj
          refine ⟨rfl, _, rfl, _, rfl, k, _, rfl, (kn5.nw nD2).get (ownc _ (List.getElem_mem hj)), _, upd_same, small_len (m := 6) ?_, ?_⟩
          · rw [List.length_map, List.length_map, List.length_take]
            omega
          · show upd (upd H5 D2 _) D2 _ = _
            rw [upd_upd, tk, List.map_append, List.map_append]
            rfl
        · rintro H' rfl
          rw [List.take_length]
          have sm6 := sm5.nw (o := .lst ((ow.map wt).map V.int)) nD2
          have b6 := b5.nw (o := .lst ((ow.map wt).map V.int)) nD2
          have el6 := nwS (o := .lst ((ow.map wt).map V.int)) el5 nD2
          have kn6 := kn5.nw (o := .lst ((ow.map wt).map V.int)) nD2
          have eo6 := nwS (o := .lst ((ow.map wt).map V.int)) eown nD2
          have eD6 : upd H5 D2 (.lst ((ow.map wt).map V.int)) D2 = _ := upd_same
          generalize upd H5 D2 (.lst ((ow.map wt).map V.int)) = H6 at sm6 b6 el6 kn6 eo6 eD6 ⊢
          refine ⟨D2, _, rfl, SqL.of eD6, _, rfl, _, rfl, _, _, rfl, rfl, .inl ⟨by omega, by omega⟩, _, _, rfl, rfl, ?_⟩
          -- less of each
          refine ⟨_, rfl, oa, rfl, ⟨_, SqT.of eo6⟩, ?_⟩
          refine for_it lwo (fun j σ H' => ∃ (x5 x7 x8 x9 x11 : Option V) (wt' : Str → Int) (mo : Int), σ = [some (.ref a), some (.ref p), some (.ref e), some (.ref l), some (.int m), x5, some (.ref k), x7, x8, x9, some (.int mo), x11] ∧ (∀ x, 0 ≤ wt' x) ∧ (∀ x, wt' x ≤ wt x) ∧
              Kn H' k cols wt' ∧ (ow.map wt').sum - m * xx = mo ∧ (mo ≤ 0 ∨ ∀ x ∈ ow.take j, wt' x = 0) ∧ H' oa = some (.tup (ow.map V.str)) ∧ H' l = some (.lst (cols.map V.str)) ∧ SameB a H H' ∧ BoxAt H' a c2 z2)
            ⟨_, _, _, _, _, wt, _, rfl, wn, fun _ => Int.le_refl _, kn6, rfl, .inr fun x h => absurd h List.not_mem_nil, eo6, el6, sm6, b6⟩ (fun i σ H' _ h => by
              obtain ⟨_, _, _, _, _, _, _, _, _, _, _, _, _, s, _⟩ := h
              exact SqT.of s) ?_ ?_
          · rintro j x σ H7 H8 hj ⟨x5, x7, x8, x9, x11, wt', mo, rfl, wn', wle, kn7, hmo, hz, eo7, el7, sm7, b7⟩ ⟨rfl, hx⟩
            rw [List.getElem?_map, List.getElem?_eq_getElem hj] at hx
            have hx := (Option.some.inj hx).symm
            subst hx
            have cj := ownc _ (List.getElem_mem hj)
            obtain ⟨kvs, ek, dp, kn8⟩ := kn7.put cj (wt' ow[j] - (if (if mo > 0 then mo else 0) < wt' ow[j] then (if mo > 0 then mo else 0) else wt' ow[j]))
            refine ⟨_, rfl, _, rfl, k, _, rfl, kn7.get cj, _, rfl, _, _, rfl, _, _, rfl, ?_⟩
            refine ⟨_, rfl, _, rfl, k, _, rfl, kn7.get cj, _, rfl, _, _, rfl, rfl, _, rfl, _, rfl, k, _, rfl, dp, ?_⟩
            refine ⟨_, rfl, _, rfl, _, _, rfl, rfl, ?_⟩
            have wj := wn' ow[j]
            have nok : oa ≠ k := fun g => by
              rw [g, ek] at eo7
              cases eo7
            have tk : ow.take (j + 1) = ow.take j ++ [ow[j]] := List.take_succ_eq_append_getElem hj
            generalize hlt : (if (if mo > 0 then mo else 0) < wt' ow[j] then (if mo > 0 then mo else 0) else wt' ow[j]) = less at *
            have l0 : 0 ≤ less ∧ less ≤ wt' ow[j] ∧ (mo ≤ 0 → less = 0) ∧ (0 < mo → less = mo ∨ less = wt' ow[j]) ∧ (0 < mo → less ≤ mo) := by
              rw [← hlt]
              refine ⟨?_, ?_, fun h => ?_, fun h => ?_, fun h => ?_⟩ <;> repeat' split
              all_goals omega
            refine ⟨_, _, _, _, _, setW wt' ow[j] (wt' ow[j] - less), mo - less, rfl, fun x => ?_, fun x => ?_, kn8, ?_, ?_, setS eo7 nok, setS el7 nlk, sm7.put k0, b7.put nka⟩
            · unfold setW
              split
              · omega
              · exact wn' x
            · unfold setW
              have := wle x
              split
              · rename_i g
                subst g
                omega
              · exact this
            · rw [sum_put own1 (List.getElem_mem hj)]
              omega
            · by_cases g : mo ≤ 0
              · exact .inl (by have := l0.2.2.1 g; omega)
              · rcases l0.2.2.2.1 (by omega) with h | h
                · exact .inl (by omega)
                · refine .inr fun x hx => ?_
                  by_cases gx : x = ow[j]
                  · rw [gx, setW_same]
                    omega
                  · rw [setW_ne gx]
                    rw [tk] at hx
                    rcases List.mem_append.mp hx with h' | h'
                    · rcases hz with hz | hz
                      · exact absurd hz g
                      · exact hz x h'
                    · exact absurd (List.mem_singleton.mp h') gx
          · rintro σ H7 ⟨x5, x7, x8, x9, x11, wt', mo, rfl, wn', wle, kn7, hmo, hz, eo7, el7, sm7, b7⟩
            rw [List.take_length] at hz
            refine ⟨_, _, _, _, _, _, wt', rfl, wn', kn7, fun r own x hr k1 k2 => ?_, el7, sm7, b7⟩
            by_cases g : r = i
            · subst g
              rw [ow_i] at k1
              rw [ex_i] at k2
              have k1 := Option.some.inj k1
              have k2 := Option.some.inj k2
              subst k1 k2
              rcases hz with hz | hz
              · omega
              · have : (ow.map wt').sum = 0 := by
                  have e0 : ow.map wt' = ow.map fun _ => 0 := List.map_congr_left hz
                  rw [e0]
                  exact sum_nil _
                rw [this]
                exact Int.mul_nonneg (by omega) exb_i.1
            · exact Int.le_trans (LP.sum_map_le fun c _ => wle c) (fit r own x (by omega) k1 k2)
      · rintro σ H4 ⟨x5, x7, x8, x9, x10, x11, wt, rfl, wn, kn, fit, el, sm, b4⟩
        refine ⟨_, rfl, _, rfl, l, rfl, ⟨_, SqL.of el⟩, fun D3 nD3 => ?_⟩
        refine lc_it lw (fun j H' => H' = upd H4 D3 (.lst (((cols.take j).map wt).map V.int))) rfl ?_ ?_ ?_
        · rintro j H' _ rfl
          exact SqL.of (nwS el nD3)
        · rintro j x H' H6 hj rfl ⟨rfl, hx⟩
          rw [List.getElem?_map, List.getElem?_eq_getElem hj] at hx
          have hx := (Option.some.inj hx).symm
          subst hx
          have tk : cols.take (j + 1) = cols.take j ++ [cols[j]] := List.take_succ_eq_append_getElem hj
          refine ⟨rfl, _, rfl, _, rfl, k, _, rfl, (kn.nw nD3).get (List.getElem_mem hj), _, upd_same, small_len (m := 36) ?_, ?_⟩
          · rw [List.length_map, List.length_map, List.length_take]
            omega
          · show upd (upd H4 D3 _) D3 _ = _
            rw [upd_upd, tk, List.map_append, List.map_append]
            rfl
        · rintro H' rfl
          rw [List.take_length]
          refine ⟨by show 2 ≤ sizeLine; decide, fun u nu => ?_⟩
          refine q u D3 m wt c2 z2 _ m1.1 m1.2 wn (fun r own x h1 h2 => fit r own x ?_ h1 h2) upd_same (nwS upd_same nu) ((sm.nw nD3).nw nu) ((b4.nw nD3).nw nu)
          have := (List.getElem?_eq_some_iff.mp h1).1
          rw [List.length_map] at this
          exact this
end
end MW
namespace MW
open PySem PySem.Spec PyProof.Rows L2
/-! ### one cell right -/
theorem iv_map (f : Nat → Int) (n : Nat) : iv f n = ((List.range n).map f).map V.int := by
  unfold iv
  rw [List.map_map]
  rfl
def spOne (K : PySem.W.Frag) : Sp := fun vs H Q _ => ∃ (a p e pr : Addr) (c s : Int) (rs : List Row) (ex : List Int) (pt pb : Int), vs = [.ref a, .ref p, .ref e, .ref pr] ∧ BoxAt H a c s ∧ p ≠ a ∧ Qs K H p rs ∧ H e = some (.tup (ex.map V.int)) ∧ ex.length = rs.length ∧ (∀ x ∈ ex, 0 ≤ x ∧ x ≤ 9) ∧
  H pr = some (.tup [.int pt, .int pb]) ∧ LP.Price (colsOf (owns rs)) (owns rs) ex pt pb ∧ ∀ (c' s' : Int) (H' : Hp), SameB a H H' → BoxAt H' a c' s' → Q (.bl true) H'
theorem own_ok {K : PySem.W.Frag} {H : Hp} {p : Addr} {rs : List Row} (qs : Qs K H p rs) : ∀ o ∈ owns rs, o.Nodup ∧ ∀ c ∈ o, c ∈ colsOf (owns rs) := fun o ho => by
  obtain ⟨r, hr, rfl⟩ := List.mem_map.mp ho
  exact ⟨(qs.rows r hr).2.2.1, fun c hc => cols_mem.mpr ⟨r.own, ho, hc⟩⟩
theorem cols_nd {K : PySem.W.Frag} {H : Hp} {p : Addr} {rs : List Row} (qs : Qs K H p rs) : (colsOf (owns rs)).Nodup := cols_nodup fun o ho => (own_ok qs o ho).1
section
variable {P : Program} {w : World} {K : PySem.W.Frag} {mg : Str → Option Value} {base : Heap}
theorem ok_lone {f : Addr} {fd : FuncData} (F : Fun K "_law_one_right" "_law_one_right" s_lone_right f fd) (T : Bl mg) (c_lcover : Cal P w K mg base 2 "_law_cover" ["_law_box_here", "_law_question_here"] (spLCover K)) (c_lfitting : Cal P w K mg base 2 "_law_fitting" ["_law_box_here", "_law_question_here", "_law_exponents_here"] (spFit K))
    (c_lno_less : Cal P w K mg base 1 "_law_no_less" ["_law_price", "_law_parts", "_law_much"] (spNoLess K)) : FnOk P w K mg base CX0 3 f fd ["_law_box_here", "_law_question_here", "_law_exponents_here", "_law_price"] (spOne K) := by
  refine F.ok sc_lone_right (fun vs H Q E h => ?_) (fun cdv A outer s H vs Q E hr h => ?_)
  · obtain ⟨a, p, e, pr, c, z, rs, ex, pt, pb, rfl, _⟩ := h
    rfl
  · obtain ⟨a, p, e, pr, c, z, rs, ex, pt, pb, rfl, hb, npa, qs, ee, exl, exb, ep, price, q⟩ := h
    refine ⟨_, (pss_cons (ps_asg (pe_cl c_lcover hr (by decide) (pa_cons (pv 0) (pa_cons (pv 1) pa_nil))) (pg_tup rfl (pgs_cons (pg_name (i := 4) sc_lone_right.nd rfl (Or.inl rfl)) (pgs_cons (pg_name (i := 5) sc_lone_right.nd rfl (Or.inl rfl)) pgs_nil))))
      (pss_cons (ps_set (i := 6) sc_lone_right.nd rfl (Or.inl rfl) (pe_callB (cr_sum rfl) (by rfl) T.sum boot_sum (pa_cons (pe_lc (own := [("_law_number", 7), ("_law_exponent", 8)]) (g := gTup K 2 (gCons (gName 7) (gCons (gName 8) gNil))) (tt := tYes) rfl sc_lone_right.nd (RZ.pi_zipA (by rfl) T.zip (pa_cons (pv 5) (pa_cons (pv 2) pa_nil))) (blkOk_by (own := [("_law_number", 7), ("_law_exponent", 8)]) (N := N_lone_right) (sc := defScope s_lone_right) (by decide +kernel)) (fun _ _ _ _ _ => (pg_tupK (K := K) rfl rfl (pgs_cons (pg_name (i := 7) sc_lone_right.nd rfl (Or.inl rfl)) (pgs_cons (pg_name (i := 8) sc_lone_right.nd rfl (Or.inl rfl)) pgs_nil)))) (fun _ _ _ _ _ => pts_nil) (fun _ _ _ _ _ => (pe_op op_mul (pv 7) (pv 8)))) pa_nil)))
      (pss_cons (ps_if (pt_not (pt_val (pe_cl c_lno_less hr (by decide) (pa_cons (pv 3) (pa_cons (pv 4) (pa_cons (pv 6) pa_nil)))))) (pss_one (ps_ret pe_bl)) pss_nil)
      (pss_cons (ps_asg (pe_cl c_lfitting hr (by decide) (pa_cons (pv 0) (pa_cons (pv 1) (pa_cons (pv 2) pa_nil)))) (pg_tup rfl (pgs_cons (pg_name (i := 4) sc_lone_right.nd rfl (Or.inl rfl)) (pgs_cons (pg_name (i := 5) sc_lone_right.nd rfl (Or.inl rfl)) pgs_nil))))
      (pss_one (ps_ret (pe_cmpR op_le (pe_op op_mul (pe_callB (cr_sum rfl) (by rfl) T.sum boot_sum (pa_cons (pv 5) pa_nil)) (pe_ix ix_tup (pv 3) pe_int (fun _ _ => rfl))) (pe_op op_mul (pe_ix ix_tup (pv 3) pe_int (fun _ _ => rfl)) (pv 4)) (nomark _)))))))), ?_⟩
    have r6 := qs.six
    have nea := tup_ne hb ee
    have npr := tup_ne hb ep
    have pp := price.pos
    have ps := price.small
    have hQ : (owns rs).length = rs.length := List.length_map ..
    refine ⟨_, rfl, _, rfl, a, p, c, z, rs, rfl, hb, npa, qs, fun u nu m zs c1 z1 H1 m1 m6 zl zb hc eu enu s1 b1 => ?_⟩
    refine ⟨u, _, rfl, SqT.of eu, rfl, _, _, rfl, _, _, rfl, rfl, ?_⟩
    have ee1 := s1 _ _ nea ee
    have ep1 := s1 _ _ npr ep
    refine ⟨_, rfl, _, rfl, nu, e, zs.map V.int, ex.map V.int, rfl, .inr ⟨SqT.of enu, SqT.of ee1, fun D nD => ?_⟩⟩
    have lwz := walk_zipT (K := K) (a := nu) (b := e) (xs := zs.map V.int) (ys := ex.map V.int) (n := rs.length) (by rw [List.length_map, List.length_map, exl, zl, Nat.min_self])
    refine lc_it lwz (fun j H' => H' D = some (.lst (iv (fun r => zs.getD r 0 * ex.getD r 0) j)) ∧ Same H1 H') ⟨upd_same, same_upd nD⟩ (fun j H' _ h => ⟨SqT.of (h.2 _ _ enu), SqT.of (h.2 _ _ ee1)⟩) ?_ ?_
    · rintro j x H2 H3 hj ⟨eD, s2⟩ ⟨T, x1, y1, rfl, nT, rfl, h1, h2⟩
      have h1 : (zs.map V.int)[j]? = some x1 := h1
      have h2 : (ex.map V.int)[j]? = some y1 := h2
      rw [zs_at (by omega)] at h1 h2
      have h1 := (Option.some.inj h1).symm
      have h2 := (Option.some.inj h2).symm
      subst h1 h2
      have exj : 0 ≤ ex.getD j 0 ∧ ex.getD j 0 ≤ 9 := by
        rw [List.getD_eq_getElem?_getD, List.getElem?_eq_getElem (by omega)]
        exact exb _ (List.getElem_mem _)
      refine ⟨T, _, rfl, SqT.of upd_same, rfl, _, _, rfl, _, _, rfl, rfl, rfl, _, rfl, _, rfl, _, _, rfl, rfl, mulR exj.1 (by omega), _, nwS eD nT, small_len' (by rw [iv_len]; omega), ?_, fun b o hb => setS (nwS (s2 b o hb) nT) (ne_of_none hb nD)⟩
      rw [upd_same, iv_succ]
    · rintro H2 ⟨eD, s2⟩
      rw [iv_map] at eD
      refine ⟨D, _, rfl, SqL.of eD, ?_⟩
      rw [LP.sum_range_map]
      have hcov := LP.price_cover price (exl.trans hQ.symm) zb (own_ok qs) (cols_nd qs) (fun x hx => by rw [hQ]; exact hc x hx)
      rw [hQ] at hcov
      have ep2 := s2 _ _ ep1
      have ee2 := s2 _ _ ee1
      have b2 : BoxAt H2 a c1 z1 := s2 _ _ b1
      have sm2 := s1.trans (SameB.of s2)
      have qs2 := qs.sameB hb npa sm2
      refine ⟨_, rfl, _, rfl, _, rfl, pr, pt, pb, m, _, rfl, SqT.of ep2, pp, ps, by omega, by omega, ?_⟩
      rw [decide_eq_true hcov]
      refine ⟨_, rfl, ite2 (fun h => by cases h) (fun _ => ?_)⟩
      refine ⟨_, rfl, _, rfl, _, rfl, a, p, e, c1, z1, rs, ex, rfl, b2, npa, qs2, ee2, exl, exb, fun u2 nu2 m2 wt c3 z3 H3 m21 m24 wn fit eu2 enu2 s3 b3 => ?_⟩
      refine ⟨u2, _, rfl, SqT.of eu2, rfl, _, _, rfl, _, _, rfl, rfl, ?_⟩
      have ep3 := s3 _ _ npr ep2
      refine ⟨_, rfl, nu2, _, rfl, SqL.of enu2, _, rfl, pr, _, 1, _, rfl, rfl, SqT.of ep3, atI_nat (j := 1) rfl, _, _, rfl, rfl, mulR (by omega) (by omega), ?_⟩
      refine ⟨_, rfl, pr, _, 0, _, rfl, rfl, SqT.of ep3, atI_nat (j := 0) rfl, _, rfl, _, _, rfl, rfl, mulR (by omega) (by omega), _, _, rfl, rfl, ?_⟩
      have hu1 := price.u1 wt m2 wn fit
      show Q (.bl (decide (((colsOf (owns rs)).map wt).sum * pb ≤ pt * m2))) H3
      rw [decide_eq_true hu1]
      exact q c3 z3 H3 (sm2.trans s3) b3
end
end MW
namespace MW
open PySem PySem.Spec PyProof.Rows L2
/-! ### sums right -/
def spSums (K : PySem.W.Frag) : Sp := fun vs H Q _ => ∃ (a p : Addr) (c s : Int) (rs : List Row), vs = [.ref a, .ref p] ∧ BoxAt H a c s ∧ p ≠ a ∧ Qs K H p rs ∧ ∀ (c' s' : Int) (H' : Hp), SameB a H H' → BoxAt H' a c' s' → Q (.bl true) H'
theorem getD_some {xs : List Int} {r : Nat} (h : r < xs.length) : xs[r]? = some (xs.getD r 0) := by
  rw [List.getD_eq_getElem?_getD, List.getElem?_eq_getElem h]
  rfl
section
variable {P : Program} {w : World} {K : PySem.W.Frag} {mg : Str → Option Value} {base : Heap}
theorem ok_lsums {f : Addr} {fd : FuncData} (F : Fun K "_law_sums_right" "_law_sums_right" s_lsums_right f fd) (T : Bl mg) (c_ltake : Cal P w K mg base 1 "_law_take" ["_law_box_here", "_law_many"] spTake) (c_cover : Cal P w K mg base 4 "cover" ["question", "exponents"] (spCover K))
    (c_lno_more : Cal P w K mg base 1 "_law_no_more" ["_law_one", "_law_other"] (spNoMore K)) : FnOk P w K mg base CX0 5 f fd ["_law_box_here", "_law_question_here"] (spSums K) := by
  refine F.ok sc_lsums_right (fun vs H Q E h => ?_) (fun cdv A outer s H vs Q E hr h => ?_)
  · obtain ⟨a, p, c, z, rs, rfl, _⟩ := h
    rfl
  · obtain ⟨a, p, c, z, rs, rfl, hb, npa, qs, q⟩ := h
    refine ⟨_, (pss_cons (ps_set (i := 2) sc_lsums_right.nd rfl (Or.inl rfl) (pe_callTy call_tuple_of (by rfl) T.tuple boot_tuple (pa_cons (pe_lc (own := [("_law_table", 10)]) (g := gName 10) (tt := tYes) rfl sc_lsums_right.nd (pi_tup (pv 1)) (blkOk_by (own := [("_law_table", 10)]) (N := N_lsums_right) (sc := defScope s_lsums_right) (by decide +kernel)) (fun _ _ _ _ _ => (pg_name (i := 10) sc_lsums_right.nd rfl (Or.inl rfl))) (fun _ _ _ _ _ => pts_nil) (fun _ _ _ _ _ => (pe_cl c_ltake hr (by decide) (pa_cons (pv 0) (pa_cons pe_int pa_nil))))) pa_nil)))
      (pss_cons (ps_set (i := 3) sc_lsums_right.nd rfl (Or.inl rfl) (pe_ix ix_tup (pe_cl c_cover hr (by decide) (pa_cons (pv 1) (pa_cons (pv 2) pa_nil))) pe_int (fun _ _ => rfl)))
      (pss_cons (ps_set (i := 4) sc_lsums_right.nd rfl (Or.inr rfl) (pe_op op_add pe_int (pe_cl c_ltake hr (by decide) (pa_cons (pv 0) (pa_cons pe_int pa_nil)))))
      (pss_cons (ps_set (i := 5) sc_lsums_right.nd rfl (Or.inl rfl) (pe_ix ix_tup (pe_cl c_cover hr (by decide) (pa_cons (pv 1) (pa_cons (pe_callTy call_tuple_of (by rfl) T.tuple boot_tuple (pa_cons (pe_lc (own := [("_law_exponent", 11)]) (g := gName 11) (tt := tYes) rfl sc_lsums_right.nd (pi_tup (pv 2)) (blkOk_by (own := [("_law_exponent", 11)]) (N := N_lsums_right) (sc := defScope s_lsums_right) (by decide +kernel)) (fun _ _ _ _ _ => (pg_name (i := 11) sc_lsums_right.nd rfl (Or.inl rfl))) (fun _ _ _ _ _ => pts_nil) (fun _ _ _ _ _ => (pe_op op_mul (pv 4) (pv 11)))) pa_nil)) pa_nil))) pe_int (fun _ _ => rfl)))
      (pss_cons (ps_if (pt_cmpR op_ne (pe_op op_mul (pe_ix ix_tup (pv 5) pe_int (fun _ _ => rfl)) (pe_ix ix_tup (pv 3) pe_int (fun _ _ => rfl))) (pe_op op_mul (pe_op op_mul (pv 4) (pe_ix ix_tup (pv 3) pe_int (fun _ _ => rfl))) (pe_ix ix_tup (pv 5) pe_int (fun _ _ => rfl))) (nomark _)) (pss_one (ps_ret pe_bl)) pss_nil)
      (pss_cons (ps_set (i := 6) sc_lsums_right.nd rfl (Or.inl rfl) (pe_callTy call_tuple_of (by rfl) T.tuple boot_tuple (pa_cons (pe_lc (own := [("_law_table", 10)]) (g := gName 10) (tt := tYes) rfl sc_lsums_right.nd (pi_tup (pv 1)) (blkOk_by (own := [("_law_table", 10)]) (N := N_lsums_right) (sc := defScope s_lsums_right) (by decide +kernel)) (fun _ _ _ _ _ => (pg_name (i := 10) sc_lsums_right.nd rfl (Or.inl rfl))) (fun _ _ _ _ _ => pts_nil) (fun _ _ _ _ _ => (pe_cl c_ltake hr (by decide) (pa_cons (pv 0) (pa_cons pe_int pa_nil))))) pa_nil)))
      (pss_cons (ps_set (i := 7) sc_lsums_right.nd rfl (Or.inl rfl) (pe_ix ix_tup (pe_cl c_cover hr (by decide) (pa_cons (pv 1) (pa_cons (pv 6) pa_nil))) pe_int (fun _ _ => rfl)))
      (pss_cons (ps_set (i := 8) sc_lsums_right.nd rfl (Or.inl rfl) (pe_ix ix_tup (pe_cl c_cover hr (by decide) (pa_cons (pv 1) (pa_cons (pe_callTy call_tuple_of (by rfl) T.tuple boot_tuple (pa_cons (pe_lc (own := [("_law_one", 12), ("_law_two", 13)]) (g := gTup K 2 (gCons (gName 12) (gCons (gName 13) gNil))) (tt := tYes) rfl sc_lsums_right.nd (RZ.pi_zipA (by rfl) T.zip (pa_cons (pv 2) (pa_cons (pv 6) pa_nil))) (blkOk_by (own := [("_law_one", 12), ("_law_two", 13)]) (N := N_lsums_right) (sc := defScope s_lsums_right) (by decide +kernel)) (fun _ _ _ _ _ => (pg_tupK (K := K) rfl rfl (pgs_cons (pg_name (i := 12) sc_lsums_right.nd rfl (Or.inl rfl)) (pgs_cons (pg_name (i := 13) sc_lsums_right.nd rfl (Or.inl rfl)) pgs_nil)))) (fun _ _ _ _ _ => pts_nil) (fun _ _ _ _ _ => (pe_op op_add (pv 12) (pv 13)))) pa_nil)) pa_nil))) pe_int (fun _ _ => rfl)))
      (pss_cons (ps_set (i := 9) sc_lsums_right.nd rfl (Or.inl rfl) (pe_tup (pa_cons (pe_op op_add (pe_op op_mul (pe_ix ix_tup (pv 3) pe_int (fun _ _ => rfl)) (pe_ix ix_tup (pv 7) pe_int (fun _ _ => rfl))) (pe_op op_mul (pe_ix ix_tup (pv 7) pe_int (fun _ _ => rfl)) (pe_ix ix_tup (pv 3) pe_int (fun _ _ => rfl)))) (pa_cons (pe_op op_mul (pe_ix ix_tup (pv 3) pe_int (fun _ _ => rfl)) (pe_ix ix_tup (pv 7) pe_int (fun _ _ => rfl))) pa_nil))))
      (pss_one (ps_ret (pe_cl c_lno_more hr (by decide) (pa_cons (pv 9) (pa_cons (pv 8) pa_nil)))))))))))))), ?_⟩
    have r6 := qs.six
    refine ⟨_, rfl, p, rfl, ⟨_, qs.tup⟩, fun D1 nD1 => ?_⟩
    have D1a : D1 ≠ a := hb.ne nD1
    have lwD1 := walk_tup (K := K) (a := p) (xs := qRefs rs)
    rw [show (qRefs rs).length = rs.length from List.length_map ..] at lwD1
    refine lc_it lwD1 (fun j H' => ∃ (xs : List Int) (c z : Int), xs.length = j ∧ (∀ x ∈ xs, 0 ≤ x ∧ x ≤ 2) ∧ H' D1 = some (.lst (xs.map V.int)) ∧ SameB a H H' ∧ BoxAt H' a c z)
      ⟨[], c, z, rfl, fun _ h => absurd h List.not_mem_nil, upd_same, SameB.new nD1, hb.nw nD1⟩ (fun j H' _ ⟨_, _, _, _, _, _, s, _⟩ => s.seqT npa qs.tup) ?_ ?_
    · rintro j x H8 H9 hj ⟨xs, c8, z8, xl, xb, eD, sm, b8⟩ ⟨rfl, hx⟩
      refine ⟨rfl, _, rfl, a, 3, c8, z8, rfl, b8, by decide, by decide, fun d8 c9 z9 hd8 => ?_⟩
      refine ⟨_, setS eD D1a, small_len' (by rw [List.length_map]; omega), xs ++ [(d8 : Int)], c9, z9, ?_, fun x hx => ?_, ?_, sm.putA.put nD1, BoxAt.set.put D1a⟩
      · rw [List.length_append, xl]
        rfl
      · rcases List.mem_append.mp hx with h | h
        · exact xb x h
        · rw [List.mem_singleton] at h
          omega
      · rw [upd_same, ints_snoc]
    · rintro H1 ⟨xs1, c1, z1, x1l, x1b, eD1, sm1, b1⟩
      refine ⟨D1, _, rfl, .inl ⟨SqL.of eD1, fun e1 ne1 => ?_⟩⟩
      have sm2 := sm1.nw (o := .tup (xs1.map V.int)) ne1
      have b2 := b1.nw (o := .tup (xs1.map V.int)) ne1
      have es : upd H1 e1 (.tup (xs1.map V.int)) e1 = _ := upd_same
      generalize upd H1 e1 (.tup (xs1.map V.int)) = H2 at sm2 b2 es ⊢
      have qs2 := qs.sameB hb npa sm2
      have ne1a := tup_ne b2 es
      -- the price
      refine ⟨_, rfl, _, rfl, p, e1, rs, xs1, rfl, qs2, SqT.of es, x1l, fun x hx => ⟨(x1b x hx).1, by have := (x1b x hx).2; omega⟩, fun u1 lo1 r11 r12 pt pb H3 s3 eu1 elo1 price1 g1 => ?_⟩
      refine ⟨u1, _, 0, _, rfl, rfl, SqT.of eu1, atI_nat (j := 0) rfl, ?_⟩
      have b3 : BoxAt H3 a c1 z1 := s3 _ _ b2
      refine ⟨_, rfl, a, 3, c1, z1, rfl, b3, by decide, by decide, fun d3 c3 z3 hd3 => ?_⟩
      refine ⟨_, _, rfl, rfl, ?_⟩
      obtain ⟨k, hk⟩ : ∃ k : Int, k = 2 + (d3 : Int) := ⟨_, rfl⟩
      show gName 4 (.int ((2 : Int) + (d3 : Int))) _ _ _
      rw [← hk]
      have k1 : 2 ≤ k ∧ k ≤ 4 := by omega
      clear hk hd3
      have sm4 := (sm2.trans (SameB.of s3)).putA (o := .lst [.int c3, .int z3])
      have nlo1 := tup_ne b3 elo1
      have es4 := setS (o := .lst [.int c3, .int z3]) (s3 _ _ es) ne1a
      have ep4 := setS (o := .lst [.int c3, .int z3]) elo1 nlo1
      have b4 : BoxAt (upd H3 a (.lst [.int c3, .int z3])) a c3 z3 := upd_same
      generalize upd H3 a (.lst [.int c3, .int z3]) = H4 at sm4 b4 es4 ep4 ⊢
      have qs4 := qs.sameB hb npa sm4
      -- so many times
      refine ⟨_, rfl, _, rfl, e1, rfl, ⟨_, SqT.of es4⟩, fun D2 nD2 => ?_⟩
      have lw2 := walk_tup (K := K) (a := e1) (xs := xs1.map V.int)
      rw [List.length_map, x1l] at lw2
      refine lc_it lw2 (fun j H' => H' = upd H4 D2 (.lst (iv (fun r => k * xs1.getD r 0) j))) rfl ?_ ?_ ?_
      · rintro j H' _ rfl
        exact SqT.of (nwS es4 nD2)
      · rintro j x H' H6 hj rfl ⟨rfl, hx⟩
        rw [zs_at (by omega)] at hx
        have hx := (Option.some.inj hx).symm
        subst hx
        refine ⟨rfl, _, rfl, _, rfl, _, _, rfl, rfl, .inl ⟨by omega, by omega⟩, _, upd_same, small_len' (by rw [iv_len]; omega), ?_⟩
        show upd (upd H4 D2 _) D2 _ = _
        rw [upd_upd, iv_succ]
      · rintro H' rfl
        rw [iv_map]
        obtain ⟨xs2, hxs2⟩ : ∃ xs2, xs2 = (List.range rs.length).map fun r => k * xs1.getD r 0 := ⟨_, rfl⟩
        rw [← hxs2]
        refine ⟨D2, _, rfl, .inl ⟨SqL.of upd_same, fun e2 ne2 => ?_⟩⟩
        have x2l : xs2.length = rs.length := by rw [hxs2, List.length_map, List.length_range]
        have x2at : ∀ (r : Nat) (x : Int), xs1[r]? = some x → xs2[r]? = some (k * x) := fun r x hx => by
          have hr := (List.getElem?_eq_some_iff.mp hx).1
          rw [hxs2, List.getElem?_map, List.getElem?_range (by omega)]
          show some (k * xs1.getD r 0) = _
          rw [List.getD_eq_getElem?_getD, hx]
          rfl
        have x2back : ∀ (r : Nat) (x : Int), xs2[r]? = some x → ∃ y, xs1[r]? = some y := fun r x hx => by
          have hr := (List.getElem?_eq_some_iff.mp hx).1
          exact ⟨_, List.getElem?_eq_getElem (show r < xs1.length by omega)⟩
        have s5 := (same_upd (o := .lst (xs2.map V.int)) nD2).trans (same_upd (o := .tup (xs2.map V.int)) ne2)
        have qs5 := qs4.same s5
        refine ⟨p, e2, rs, xs2, rfl, qs5, SqT.of upd_same, x2l, fun x hx => ?_, fun u2 lo2 r21 r22 ft fb H6 s6 eu2 elo2 price2 g2 => ?_⟩
        · obtain ⟨r, hr⟩ := List.getElem?_of_mem hx
          obtain ⟨y, hy⟩ := x2back r x hr
          have := x2at r y hy
          rw [hr] at this
          have := Option.some.inj this
          subst this
          have yb := x1b y (List.mem_of_getElem? hy)
          have h1 : 0 ≤ k * y := Int.mul_nonneg (by omega) yb.1
          have h2 : k * y ≤ 4 * y := Int.mul_le_mul_of_nonneg_right (by omega) yb.1
          omega
        refine ⟨u2, _, 0, _, rfl, rfl, SqT.of eu2, atI_nat (j := 0) rfl, ?_⟩
        have sC := s5.trans s6
        have ep7 := sC _ _ ep4
        have es7 := sC _ _ es4
        have b7 : BoxAt H6 a c3 z3 := sC _ _ b4
        have sm7 := sm4.trans (SameB.of sC)
        have qs7 := qs4.same sC
        have fb0 := price2.pos
        have fb30 := price2.small
        have pb0 := price1.pos
        have pb30 := price1.small
        have tms := LP.price_times (show (0 : Int) < k by omega) x2at x2back price1 price2
        refine ⟨_, rfl, lo2, _, 0, _, rfl, rfl, SqT.of elo2, atI_nat (j := 0) rfl, _, rfl, lo1, _, 1, _, rfl, rfl, SqT.of ep7, atI_nat (j := 1) rfl, _, _, rfl, rfl, mulR (by omega) (by omega), ?_⟩
        refine ⟨_, rfl, _, rfl, lo1, _, 0, _, rfl, rfl, SqT.of ep7, atI_nat (j := 0) rfl, _, _, rfl, rfl, .inl ⟨by omega, by omega⟩, _, rfl, lo2, _, 1, _, rfl, rfl, SqT.of elo2, atI_nat (j := 1) rfl, _, _, rfl, rfl, mulR (by omega) (by omega), rfl, _, rfl, ?_⟩
        have ne : (!decide (V.int (ft * pb) = V.int (k * pt * fb))) = false := by
          rw [tms]
          simp
        refine ite2 (fun h => absurd (ne.symm.trans h) Bool.false_ne_true) (fun _ => ?_)
        -- the others
        refine ⟨_, rfl, p, rfl, ⟨_, qs7.tup⟩, fun D3 nD3 => ?_⟩
        have D3a : D3 ≠ a := b7.ne nD3
        have lwD3 := walk_tup (K := K) (a := p) (xs := qRefs rs)
        rw [show (qRefs rs).length = rs.length from List.length_map ..] at lwD3
        refine lc_it lwD3 (fun j H' => ∃ (xs : List Int) (c z : Int), xs.length = j ∧ (∀ x ∈ xs, 0 ≤ x ∧ x ≤ 7) ∧ H' D3 = some (.lst (xs.map V.int)) ∧ SameB a H6 H' ∧ BoxAt H' a c z)
          ⟨[], c3, z3, rfl, fun _ h => absurd h List.not_mem_nil, upd_same, SameB.new nD3, b7.nw nD3⟩ (fun j H' _ ⟨_, _, _, _, _, _, s, _⟩ => s.seqT npa qs7.tup) ?_ ?_
        · rintro j x H8 H9 hj ⟨xs, c8, z8, xl, xb, eD, sm, b8⟩ ⟨rfl, hx⟩
          refine ⟨rfl, _, rfl, a, 8, c8, z8, rfl, b8, by decide, by decide, fun d8 c9 z9 hd8 => ?_⟩
          refine ⟨_, setS eD D3a, small_len' (by rw [List.length_map]; omega), xs ++ [(d8 : Int)], c9, z9, ?_, fun x hx => ?_, ?_, sm.putA.put nD3, BoxAt.set.put D3a⟩
          · rw [List.length_append, xl]
            rfl
          · rcases List.mem_append.mp hx with h | h
            · exact xb x h
            · rw [List.mem_singleton] at h
              omega
          · rw [upd_same, ints_snoc]
        · rintro H9 ⟨xs3, c9, z9, x3l, x3b, eD3, smD3, b9⟩
          refine ⟨D3, _, rfl, .inl ⟨SqL.of eD3, fun e3 ne3 => ?_⟩⟩
          have sm10 := (sm7.trans smD3).nw (o := .tup (xs3.map V.int)) ne3
          have b10 := b9.nw (o := .tup (xs3.map V.int)) ne3
          have eo : upd H9 e3 (.tup (xs3.map V.int)) e3 = _ := upd_same
          have es10 := (smD3.nw (o := .tup (xs3.map V.int)) ne3) _ _ ne1a es7
          have ep10 := (smD3.nw (o := .tup (xs3.map V.int)) ne3) _ _ nlo1 ep7
          generalize upd H9 e3 (.tup (xs3.map V.int)) = H10 at sm10 b10 eo es10 ep10 ⊢
          have qs10 := qs.sameB hb npa sm10
          -- the price of the others
          refine ⟨_, rfl, _, rfl, p, e3, rs, xs3, rfl, qs10, SqT.of eo, x3l, fun x hx => ⟨(x3b x hx).1, by have := (x3b x hx).2; omega⟩, fun u3 lo3 r31 r32 ot ob H11 s11 eu3 elo3 price3 g3 => ?_⟩
          refine ⟨u3, _, 0, _, rfl, rfl, SqT.of eu3, atI_nat (j := 0) rfl, ?_⟩
          -- the sums
          have es11 := s11 _ _ es10
          have eo11 := s11 _ _ eo
          have qs11 := qs10.same s11
          refine ⟨_, rfl, _, rfl, _, rfl, e1, e3, xs1.map V.int, xs3.map V.int, rfl, .inr ⟨SqT.of es11, SqT.of eo11, fun D4 nD4 => ?_⟩⟩
          have lwz := walk_zipT (K := K) (a := e1) (b := e3) (xs := xs1.map V.int) (ys := xs3.map V.int) (n := rs.length) (by rw [List.length_map, List.length_map, x1l, x3l, Nat.min_self])
          refine lc_it lwz (fun j H' => H' D4 = some (.lst (iv (fun r => xs1.getD r 0 + xs3.getD r 0) j)) ∧ Same H11 H') ⟨upd_same, same_upd nD4⟩ (fun j H' _ h => ⟨SqT.of (h.2 _ _ es11), SqT.of (h.2 _ _ eo11)⟩) ?_ ?_
          · rintro j x H12 H13 hj ⟨eD, s2⟩ ⟨T, x1, y1, rfl, nT, rfl, h1, h2⟩
            have h1 : (xs1.map V.int)[j]? = some x1 := h1
            have h2 : (xs3.map V.int)[j]? = some y1 := h2
            rw [zs_at (by omega)] at h1 h2
            have h1 := (Option.some.inj h1).symm
            have h2 := (Option.some.inj h2).symm
            subst h1 h2
            refine ⟨T, _, rfl, SqT.of upd_same, rfl, _, _, rfl, _, _, rfl, rfl, rfl, _, rfl, _, rfl, _, _, rfl, rfl, _, nwS eD nT, small_len' (by rw [iv_len]; omega), ?_, fun b o hb => setS (nwS (s2 b o hb) nT) (ne_of_none hb nD4)⟩
            rw [upd_same, iv_succ]
          · rintro H12 ⟨eD4, s12⟩
            rw [iv_map] at eD4
            refine ⟨D4, _, rfl, .inl ⟨SqL.of eD4, fun e4 ne4 => ?_⟩⟩
            obtain ⟨xs4, hxs4⟩ : ∃ xs4, xs4 = (List.range rs.length).map fun r => xs1.getD r 0 + xs3.getD r 0 := ⟨_, rfl⟩
            rw [← hxs4]
            have x4at : ∀ (r : Nat) (z : Int), xs4[r]? = some z → ∃ x y, xs1[r]? = some x ∧ xs3[r]? = some y ∧ z = x + y := fun r z hz => by
              rw [hxs4, List.getElem?_map] at hz
              by_cases hr : r < rs.length
              · rw [List.getElem?_range hr] at hz
                refine ⟨xs1.getD r 0, xs3.getD r 0, getD_some (by omega), getD_some (by omega), ?_⟩
                exact (Option.some.inj hz).symm
              · rw [List.getElem?_eq_none (by rw [List.length_range]; omega)] at hz
                cases hz
            have x4l : xs4.length = rs.length := by rw [hxs4, List.length_map, List.length_range]
            have s13 := s12.trans (same_upd (o := .tup (xs4.map V.int)) ne4)
            have qs13 := qs11.same s13
            refine ⟨p, e4, rs, xs4, rfl, qs13, SqT.of upd_same, x4l, fun x hx => ?_, fun u4 lo4 r41 r42 tt tb H14 s14 eu4 elo4 price4 g4 => ?_⟩
            · obtain ⟨r, hr⟩ := List.getElem?_of_mem hx
              obtain ⟨x1, y1, g1, g2, rfl⟩ := x4at r x hr
              have a1 := x1b _ (List.mem_of_getElem? g1)
              have a2 := x3b _ (List.mem_of_getElem? g2)
              omega
            refine ⟨u4, _, 0, _, rfl, rfl, SqT.of eu4, atI_nat (j := 0) rfl, ?_⟩
            have sB := s13.trans s14
            have ep14 := sB _ _ (s11 _ _ ep10)
            have eq14 := sB _ _ elo3
            have pb0 := price1.pos
            have pb30 := price1.small
            have ob0 := price3.pos
            have ob30 := price3.small
            have tb0 := price4.pos
            have tb30 := price4.small
            -- the least
            refine ⟨_, rfl, lo1, _, 0, _, rfl, rfl, SqT.of ep14, atI_nat (j := 0) rfl, _, rfl, lo3, _, 1, _, rfl, rfl, SqT.of eq14, atI_nat (j := 1) rfl, _, _, rfl, rfl, mulR (by omega) (by omega), ?_⟩
            refine ⟨_, rfl, lo3, _, 0, _, rfl, rfl, SqT.of eq14, atI_nat (j := 0) rfl, _, rfl, lo1, _, 1, _, rfl, rfl, SqT.of ep14, atI_nat (j := 1) rfl, _, _, rfl, rfl, mulR (by omega) (by omega), _, _, rfl, rfl, ?_⟩
            refine ⟨_, rfl, lo1, _, 1, _, rfl, rfl, SqT.of ep14, atI_nat (j := 1) rfl, _, rfl, lo3, _, 1, _, rfl, rfl, SqT.of eq14, atI_nat (j := 1) rfl, _, _, rfl, rfl, mulR (by omega) (by omega), by show 2 ≤ sizeLine; decide, fun le nle => ?_⟩
            have m0 : 0 < pb * ob := Int.mul_pos pb0 ob0
            have m62 : pb * ob < 2 ^ 62 := by
              have h1 : pb * ob ≤ pb * 2 ^ 30 := Int.mul_le_mul_of_nonneg_left (by omega) (by omega)
              have h2 : pb * 2 ^ 30 ≤ 2 ^ 30 * 2 ^ 30 := Int.mul_le_mul_of_nonneg_right (by omega) (by omega)
              omega
            refine ⟨_, rfl, _, rfl, le, lo4, _, _, tt, tb, rfl, SqT.of upd_same, SqT.of (nwS elo4 nle), m0, m62, by omega, by omega, ?_⟩
            have fin := LP.price_add x4at price1 price3 price4
            rw [decide_eq_true fin]
            have b11 : BoxAt H11 a c9 z9 := s11 _ _ b10
            exact q c9 z9 _ ((sm10.trans (SameB.of (s11.trans sB))).nw nle) ((show BoxAt H14 a c9 z9 from sB _ _ b11).nw nle)
end
end MW
namespace MW
open PySem PySem.Spec PyProof.Rows L2
/-! ### plain laws for the last def -/
theorem frac_eq {pt pb ft fb : Int} (e : pt * fb = ft * pb) (g1 : Int.gcd pt pb = 1) (g2 : Int.gcd ft fb = 1) (p1 : 0 < pb) (p2 : 0 < fb) : pt = ft ∧ pb = fb := by
  have en : pt.natAbs * fb.natAbs = ft.natAbs * pb.natAbs := by rw [← Int.natAbs_mul, ← Int.natAbs_mul, e]
  have c1 : Nat.Coprime pb.natAbs pt.natAbs := by
    show Nat.gcd _ _ = 1
    rw [Nat.gcd_comm]
    exact g1
  have c2 : Nat.Coprime fb.natAbs ft.natAbs := by
    show Nat.gcd _ _ = 1
    rw [Nat.gcd_comm]
    exact g2
  have d1 : pb.natAbs ∣ fb.natAbs := c1.dvd_of_dvd_mul_left ⟨ft.natAbs, by rw [en, Nat.mul_comm]⟩
  have d2 : fb.natAbs ∣ pb.natAbs := c2.dvd_of_dvd_mul_left ⟨pt.natAbs, by rw [← en, Nat.mul_comm]⟩
  have hb : pb = fb := by
    have := Nat.dvd_antisymm d1 d2
    omega
  subst hb
  exact ⟨Int.eq_of_mul_eq_mul_right (by omega) e, rfl⟩
theorem perm_of_sub {α : Type} [DecidableEq α] : ∀ {xs ys : List α}, xs.Nodup → (∀ x ∈ xs, x ∈ ys) → ys.length ≤ xs.length → xs.Perm ys
  | [], ys, _, _, h => by
    have : ys = [] := List.length_eq_zero_iff.mp (by simpa using h)
    rw [this]
  | x :: xs, ys, nd, s, h => by
    rw [List.nodup_cons] at nd
    have hx := s x List.mem_cons_self
    have p := List.perm_cons_erase hx
    refine List.Perm.trans ((perm_of_sub nd.2 (fun z hz => ?_) ?_).cons x) p.symm
    · have hne : z ≠ x := fun e => nd.1 (e ▸ hz)
      exact (List.mem_erase_of_ne hne).mpr (s z (List.mem_cons_of_mem _ hz))
    · rw [List.length_erase_of_mem hx]
      rw [List.length_cons] at h
      omega
theorem cols_snoc {Q : List (List Str)} {o : List Str} (h : ∀ c ∈ o, c ∈ colsOf Q) : colsOf (Q ++ [o]) = colsOf Q := by
  have e : colsOf (Q ++ [o]) = addC (colsOf Q) o := fold_snoc
  rw [e]
  unfold addC
  rw [List.filter_eq_nil_iff.mpr fun c hc => by rw [decide_eq_true (h c hc)]; exact Bool.false_ne_true, List.append_nil]
theorem merge_none {k : Key} : ∀ {more kvs : List (Key × V)}, (∀ kv ∈ more, kv.1 ≠ k) → valV (mergeK kvs more) k = valV kvs k
  | [], kvs, _ => rfl
  | p :: more, kvs, h => by
    show valV (mergeK (putK kvs p.1 p.2) more) k = _
    rw [merge_none fun kv hkv => h kv (List.mem_cons_of_mem _ hkv), valV_put, if_neg (Ne.symm (h p List.mem_cons_self))]
theorem merge_at {k : Key} {v : V} : ∀ {more kvs : List (Key × V)}, (more.map Prod.fst).Nodup → (k, v) ∈ more → valV (mergeK kvs more) k = some v
  | p :: more, kvs, nd, h => by
    rw [List.map_cons, List.nodup_cons] at nd
    show valV (mergeK (putK kvs p.1 p.2) more) k = _
    rcases List.mem_cons.mp h with h | h
    · subst h
      rw [merge_none fun kv hkv e => nd.1 (List.mem_map.mpr ⟨kv, hkv, e⟩), valV_put, if_pos rfl]
    · exact merge_at nd.2 h
theorem merge_mem {k : Key} {more : List (Key × V)} (h : valV (mergeK [] more) k = none) : ∀ kv ∈ more, kv.1 ≠ k := by
  have key : ∀ (more kvs : List (Key × V)), (valV kvs k).isSome = true → (valV (mergeK kvs more) k).isSome = true := by
    intro more
    induction more with
    | nil => exact fun _ h => h
    | cons p more ih =>
      intro kvs h
      refine ih (putK kvs p.1 p.2) ?_
      rw [valV_put]
      split
      · rfl
      · exact h
  have key2 : ∀ (more kvs : List (Key × V)) (kv : Key × V), kv ∈ more → kv.1 = k → (valV (mergeK kvs more) k).isSome = true := by
    intro more
    induction more with
    | nil => exact fun _ _ h => absurd h List.not_mem_nil
    | cons p more ih =>
      intro kvs kv hkv e
      rcases List.mem_cons.mp hkv with rfl | hkv
      · refine key more (putK kvs kv.1 kv.2) ?_
        rw [valV_put, if_pos e.symm]
        rfl
      · exact ih (putK kvs p.1 p.2) kv hkv e
  intro kv hkv e
  have := key2 more [] kv hkv e
  rw [h] at this
  cases this
/-- what the dict of a question tells of a name -/
theorem dict_name {rs : List Row} {z : Str} : (valV (mergeK [] (rs.map fun r => ((Sum.inr r.nm : Key), V.ref r.o))) (.inr z)).isSome = decide (z ∈ rs.map Row.nm) := by
  cases h : valV (mergeK [] (rs.map fun r => ((Sum.inr r.nm : Key), V.ref r.o))) (.inr z) with
  | none =>
    have m := merge_mem h
    symm
    refine decide_eq_false fun g => ?_
    obtain ⟨r, hr, rfl⟩ := List.mem_map.mp g
    exact m _ (List.mem_map_of_mem hr) rfl
  | some v =>
    symm
    refine decide_eq_true ?_
    refine Classical.byContradiction fun g => ?_
    rw [merge_none (k := .inr z)] at h
    · cases h
    · intro kv hkv e
      obtain ⟨r, hr, rfl⟩ := List.mem_map.mp hkv
      exact g (List.mem_map.mpr ⟨r, hr, Sum.inr.inj e⟩)
theorem paired_map {α β γ : Type} {F : β → γ → Prop} (f : α → β) (g : α → γ) : ∀ {xs : List α}, (∀ x ∈ xs, F (f x) (g x)) → Paired F (xs.map f) (xs.map g)
  | [], _ => .nil
  | x :: xs, h => .cons (h x List.mem_cons_self) (paired_map f g fun y hy => h y (List.mem_cons_of_mem _ hy))
/-- the exponent of a name -/
def exOf (rs : List Row) (ex : List Int) (z : Str) : Int := ex.getD ((rs.map Row.nm).idxOf z) 0
theorem exOf_at {rs : List Row} {ex : List Int} (nd : (rs.map Row.nm).Nodup) {i : Nat} (hi : i < rs.length) : exOf rs ex rs[i].nm = ex.getD i 0 := by
  unfold exOf
  have hm : rs[i].nm ∈ rs.map Row.nm := List.mem_map_of_mem (List.getElem_mem hi)
  have h1 : (rs.map Row.nm)[(rs.map Row.nm).idxOf rs[i].nm]? = some rs[i].nm := by
    rw [List.getElem?_eq_getElem (List.idxOf_lt_length_of_mem hm), List.getElem_idxOf]
  have h2 : (rs.map Row.nm)[i]? = some rs[i].nm := by rw [List.getElem?_map, List.getElem?_eq_getElem hi]; rfl
  rw [nodup_at nd h1 h2]
theorem exOf_dict {rs : List Row} {ex : List Int} (nd : (rs.map Row.nm).Nodup) (hl : ex.length = rs.length) {r : Row} (hr : r ∈ rs) :
    valV (mergeK [] (((rs.map Row.nm).map Sum.inr).zip (ex.map V.int))) (.inr r.nm) = some (.int (exOf rs ex r.nm)) := by
  obtain ⟨i, hi⟩ := List.getElem?_of_mem hr
  obtain ⟨hi1, hi2⟩ := List.getElem?_eq_some_iff.mp hi
  subst hi2
  rw [exOf_at nd hi1]
  refine merge_at ?_ ?_
  · rw [zip_snd_take _ _ (by rw [List.length_map, List.length_map, List.length_map, hl]; exact Nat.le_refl _)]
    rw [List.nodup_iff_pairwise_ne, List.pairwise_map]
    exact (List.nodup_iff_pairwise_ne.mp nd).imp fun h e => h (Sum.inr.inj e)
  · refine List.mem_of_getElem? (i := i) ?_
    rw [List.getElem?_zip_eq_some]
    refine ⟨?_, zs_at (by omega)⟩
    rw [List.getElem?_map, List.getElem?_map, hi]
    rfl
theorem exOf_bound {rs : List Row} {ex : List Int} (nd : (rs.map Row.nm).Nodup) (hl : ex.length = rs.length) (hx : ∀ x ∈ ex, 0 ≤ x ∧ x ≤ 9) {r : Row} (hr : r ∈ rs) : 0 ≤ exOf rs ex r.nm ∧ exOf rs ex r.nm ≤ 9 := by
  obtain ⟨i, hi⟩ := List.getElem?_of_mem hr
  obtain ⟨hi1, hi2⟩ := List.getElem?_eq_some_iff.mp hi
  subst hi2
  rw [exOf_at nd hi1, List.getD_eq_getElem?_getD, List.getElem?_eq_getElem (by omega)]
  exact hx _ (List.getElem_mem _)
/-- tables of a part are tables of all -/
theorem part_at {rs rs2 : List Row} {ex : List Int} (nd : (rs.map Row.nm).Nodup) (hl : ex.length = rs.length) (sub : ∀ r ∈ rs2, r ∈ rs) (r : Nat) (own : List Str) (x : Int)
    (h1 : (owns rs2)[r]? = some own) (h2 : (rs2.map fun r => exOf rs ex r.nm)[r]? = some x) : ∃ r' : Nat, (owns rs)[r']? = some own ∧ ex[r']? = some x := by
  rw [List.getElem?_map] at h1 h2
  cases h : rs2[r]? with
  | none =>
    rw [h] at h1
    cases h1
  | some row =>
    rw [h] at h1 h2
    have h1 := Option.some.inj h1
    have h2 := Option.some.inj h2
    obtain ⟨i, hi⟩ := List.getElem?_of_mem (sub row (List.mem_of_getElem? h))
    obtain ⟨hi1, hi2⟩ := List.getElem?_eq_some_iff.mp hi
    refine ⟨i, by rw [List.getElem?_map, hi]; exact congrArg some h1, ?_⟩
    rw [← h2, ← hi2]
    show ex[i]? = some (exOf rs ex rs[i].nm)
    rw [exOf_at nd hi1]
    exact getD_some (by omega)
def W3 : List Str := [("more" : Str), ("mores" : Str), ("moress" : Str)]
/-- a name that is not there -/
theorem free_name {ns : List Str} (h : NoMo ns) : ∃ x r, (W3.filter fun z => !decide (z ∈ ns)) = x :: r ∧ x ∉ ns := by
  cases e : W3.filter fun z => !decide (z ∈ ns) with
  | nil =>
    rw [List.filter_eq_nil_iff] at e
    have g : ∀ z ∈ W3, z ∈ ns := fun z hz => Classical.byContradiction fun q => e z hz (by rw [decide_eq_false q]; rfl)
    exact absurd ⟨g _ List.mem_cons_self, g _ (List.mem_cons_of_mem _ List.mem_cons_self)⟩ h
  | cons x r =>
    refine ⟨x, r, rfl, fun q => ?_⟩
    have : x ∈ W3.filter fun z => !decide (z ∈ ns) := by rw [e]; exact List.mem_cons_self
    have := (List.mem_filter.mp this).2
    rw [decide_eq_true q] at this
    cases this
theorem sameBox {a : Addr} {H H' : Hp} {o : HO} (h : H a = none) (e : SameB a (upd H a o) H') : Same H H' := fun b o' hb => e b o' (ne_of_none hb h) (nwS hb h)
theorem Same.box {a : Addr} {H H1 H' : Hp} (s : Same H H1) (h : H a = none) (e : SameB a H1 H') : Same H H' := fun b o hb => e b o (ne_of_none hb h) (s b o hb)
theorem price_bnd {cols : List Str} {Q : List (List Str)} {ex : List Int} {pt pb : Int} (p : LP.Price cols Q ex pt pb) : 0 < pb ∧ pb < 2 ^ 62 := ⟨p.pos, Int.lt_trans p.small (by decide)⟩
end MW
namespace MW
open PySem PySem.Spec PyProof.Rows L2
/-! ### the law -/
def spLaw (K : PySem.W.Frag) : Sp := fun vs H Q _ => ∃ (a : Addr) (ns : List Int), vs = [.ref a] ∧ SqL K H a (ns.map V.int) ∧ ns.length ≤ 63 ∧ ∀ H', Q (.bl true) H'
section
variable {P : Program} {w : World} {K : PySem.W.Frag} {mg : Str → Option Value} {base : Heap}
theorem ok_law {f : Addr} {fd : FuncData} (F : Fun K "law" "law" s_law f fd) (T : Bl mg) (c_lbox : Cal P w K mg base 1 "_law_box" ["_law_script", "_law_k"] (spBox K)) (c_ltake : Cal P w K mg base 1 "_law_take" ["_law_box_here", "_law_many"] spTake)
    (c_lquestion : Cal P w K mg base 5 "_law_question" ["_law_box_here", "_law_kind"] spQuest) (c_lexponents : Cal P w K mg base 2 "_law_exponents" ["_law_box_here", "_law_question_here"] (spExps K)) (c_cover : Cal P w K mg base 4 "cover" ["question", "exponents"] (spCover K))
    (c_lone_right : Cal P w K mg base 3 "_law_one_right" ["_law_box_here", "_law_question_here", "_law_exponents_here", "_law_price"] (spOne K)) (c_lsums_right : Cal P w K mg base 5 "_law_sums_right" ["_law_box_here", "_law_question_here"] (spSums K))
    (c_lcolumns : Cal P w K mg base 1 "_law_columns" ["_law_question_here"] (spCols .lst K)) (c_lorder : Cal P w K mg base 2 "_law_order" ["_law_box_here", "_law_things"] (spOrder K)) (c_lno_more : Cal P w K mg base 1 "_law_no_more" ["_law_one", "_law_other"] (spNoMore K)) (c_part : Cal P w K mg base 1 "part" ["question", "tables"] (spPart K)) :
    FnOk P w K mg base CX0 6 f fd ["_law_script"] (spLaw K) := by
  refine F.ok sc_law (fun vs H Q E h => ?_) (fun cdv A outer s H vs Q E hr h => ?_)
  · obtain ⟨l, ns, rfl, _⟩ := h
    rfl
  · obtain ⟨l, ns, rfl, hS, hns, k⟩ := h
    have hu := hu_of hr
    refine ⟨_, (pss_cons (ps_set (i := 1) sc_law.nd rfl (Or.inr rfl) (pe_cl c_lbox hr (by decide) (pa_cons (pv 0) (pa_cons pe_int pa_nil))))
      (pss_cons (ps_set (i := 2) sc_law.nd rfl (Or.inr rfl) (pe_cl c_lquestion hr (by decide) (pa_cons (pv 1) (pa_cons pe_int pa_nil))))
      (pss_cons (ps_set (i := 3) sc_law.nd rfl (Or.inl rfl) (pe_cl c_lexponents hr (by decide) (pa_cons (pe_cl c_lbox hr (by decide) (pa_cons (pv 0) (pa_cons pe_int pa_nil))) (pa_cons (pv 2) pa_nil))))
      (pss_cons (ps_set (i := 4) sc_law.nd rfl (Or.inl rfl) (pe_ix ix_tup (pe_cl c_cover hr (by decide) (pa_cons (pv 2) (pa_cons (pv 3) pa_nil))) pe_int (fun _ _ => rfl)))
      (pss_cons (ps_for PassesOwn.never rfl (pi_range2 (by rfl) T.range (pa_cons pe_int (pa_cons (pe_callB (call_max2 rfl) (by rfl) T.max boot_max (pa_cons pe_int (pa_cons (pe_callB (call_min2 rfl) (by rfl) T.min boot_min (pa_cons (pe_callB call_len_seq (by rfl) T.len boot_len (pa_cons (pv 0) pa_nil)) (pa_cons pe_int pa_nil))) pa_nil))) pa_nil))) (pg_name (i := 5) sc_law.nd rfl (Or.inl rfl)) (pss_cons (ps_set (i := 1) sc_law.nd rfl (Or.inr rfl) (pe_cl c_lbox hr (by decide) (pa_cons (pv 0) (pa_cons (pv 5) pa_nil))))
      (pss_one (ps_if (pt_not (pt_val (pe_cl c_lone_right hr (by decide) (pa_cons (pv 1) (pa_cons (pv 2) (pa_cons (pv 3) (pa_cons (pv 4) pa_nil))))))) (pss_one (ps_ret pe_bl)) pss_nil))))
      (pss_cons (ps_set (i := 1) sc_law.nd rfl (Or.inr rfl) (pe_cl c_lbox hr (by decide) (pa_cons (pv 0) (pa_cons pe_int pa_nil))))
      (pss_cons (ps_if (pt_not (pt_val (pe_cl c_lsums_right hr (by decide) (pa_cons (pv 1) (pa_cons (pv 2) pa_nil))))) (pss_one (ps_ret pe_bl)) pss_nil)
      (pss_cons (ps_set (i := 6) sc_law.nd rfl (Or.inl rfl) (pe_cl c_lcolumns hr (by decide) (pa_cons (pv 2) pa_nil)))
      (Evl.pss_cut (ps_if (pt_cmpR op_lt (pe_callB call_len_seq (by rfl) T.len boot_len (pa_cons (pv 2) pa_nil)) pe_int (nomark _)) (pss_cons (ps_set (i := 7) sc_law.nd rfl (Or.inl rfl) (pe_callTy call_tuple_of (by rfl) T.tuple boot_tuple (pa_cons (pe_slice sl_list (pe_cl c_lorder hr (by decide) (pa_cons (pv 1) (pa_cons (pv 6) pa_nil))) po_none (po_some (pe_op op_add pe_int (pe_cl c_ltake hr (by decide) (pa_cons (pv 1) (pa_cons (pe_callB (call_min2 rfl) (by rfl) T.min boot_min (pa_cons pe_int (pa_cons (pe_callB call_len_seq (by rfl) T.len boot_len (pa_cons (pv 6) pa_nil)) pa_nil))) pa_nil)))))) pa_nil)))
      (pss_cons (ps_set (i := 8) sc_law.nd rfl (Or.inl rfl) (pe_ix ix_list (pe_lc (own := [("_law_word", 13)]) (g := gName 13) rfl sc_law.nd (pi_list (pe_lst (pa_cons pe_str (pa_cons pe_str (pa_cons pe_str pa_nil))))) (blkOk_by (own := [("_law_word", 13)]) (N := N_law) (sc := defScope s_law) (by decide +kernel)) (fun _ _ _ _ _ => (pg_name (i := 13) sc_law.nd rfl (Or.inl rfl))) (fun _ _ _ _ _ => (pts_one (pt_cmp (pc_dnotin hu (pv 13) (pe_callTy (call_dictTK (K := K) rfl rfl) (by rfl) T.dict boot_dict (pa_cons (pv 2) pa_nil)))))) (fun _ _ _ _ _ => (pv 13))) pe_int (fun _ _ => rfl)))
      (pss_one (ps_if (pt_not (pt_val (pe_cl c_lno_more hr (by decide) (pa_cons (pe_ix ix_tup (pe_cl c_cover hr (by decide) (pa_cons (pe_op (op_catT) (pv 2) (pe_tup (pa_cons (pe_tup (pa_cons (pv 8) (pa_cons (pv 7) pa_nil))) pa_nil))) (pa_cons (pe_op (op_catT) (pv 3) (pe_tup (pa_cons (pe_cl c_ltake hr (by decide) (pa_cons (pv 1) (pa_cons pe_int pa_nil))) pa_nil))) pa_nil))) pe_int (fun _ _ => rfl)) (pa_cons (pv 4) pa_nil))))) (pss_one (ps_ret pe_bl)) pss_nil)))) pss_nil)
      (pss_cons (ps_setLc (i := 9) (own := [("_law_kt", 14), ("_law_own", 7)]) (g := gTup K 2 (gCons (gName 14) (gCons (gName 7) gNil))) rfl sc_law.nd rfl rfl (sw_true rfl rfl rfl (by decide +kernel)) (pi_tup (pv 2)) (blkOk_by (own := [("_law_kt", 14), ("_law_own", 7)]) (N := N_law) (sc := defScope s_law) (by decide +kernel)) (fun _ _ _ _ _ => (pg_tupK (K := K) rfl rfl (pgs_cons (pg_name (i := 14) sc_law.nd rfl (Or.inl rfl)) (pgs_cons (pg_name (i := 7) sc_law.nd rfl (Or.inl rfl)) pgs_nil)))) (fun _ _ _ _ _ => (pts_one (pt_cmpR op_gt (pe_cl c_ltake hr (by decide) (pa_cons (pv 1) (pa_cons pe_int pa_nil))) pe_int (nomark _)))) (fun _ _ _ _ _ => (pv 14)))
      (Evl.pss_cut (ps_if (pt_cmpR op_eq (pe_callB call_len_seq (by rfl) T.len boot_len (pa_cons (pv 9) pa_nil)) pe_int (nomark _)) (pss_one (ps_set (i := 9) sc_law.nd rfl (Or.inl rfl) (pe_lst (pa_cons (pe_ix ix_tup (pe_ix ix_tup (pv 2) pe_int (fun _ _ => rfl)) pe_int (fun _ _ => rfl)) pa_nil)))) pss_nil)
      (pss_cons (ps_set (i := 10) sc_law.nd rfl (Or.inl rfl) (pe_cl c_part hr (by decide) (pa_cons (pv 2) (pa_cons (pe_callTy call_tuple_of (by rfl) T.tuple boot_tuple (pa_cons (pe_cl c_lorder hr (by decide) (pa_cons (pv 1) (pa_cons (pv 9) pa_nil))) pa_nil)) pa_nil))))
      (pss_cons (ps_set (i := 11) sc_law.nd rfl (Or.inr rfl) (pe_dictZip (by rfl) T.dict (by rfl) T.zip (pa_cons (pe_lc (own := [("_law_kt", 14), ("_law_own", 7)]) (g := gTup K 2 (gCons (gName 14) (gCons (gName 7) gNil))) (tt := tYes) rfl sc_law.nd (pi_tup (pv 2)) (blkOk_by (own := [("_law_kt", 14), ("_law_own", 7)]) (N := N_law) (sc := defScope s_law) (by decide +kernel)) (fun _ _ _ _ _ => (pg_tupK (K := K) rfl rfl (pgs_cons (pg_name (i := 14) sc_law.nd rfl (Or.inl rfl)) (pgs_cons (pg_name (i := 7) sc_law.nd rfl (Or.inl rfl)) pgs_nil)))) (fun _ _ _ _ _ => pts_nil) (fun _ _ _ _ _ => (pv 14))) (pa_cons (pv 3) pa_nil))))
      (pss_cons (ps_set (i := 12) sc_law.nd rfl (Or.inl rfl) (pe_ix ix_tup (pe_cl c_cover hr (by decide) (pa_cons (pv 10) (pa_cons (pe_callTy call_tuple_of (by rfl) T.tuple boot_tuple (pa_cons (pe_lc (own := [("_law_kt", 14), ("_law_own", 7)]) (g := gTup K 2 (gCons (gName 14) (gCons (gName 7) gNil))) (tt := tYes) rfl sc_law.nd (pi_tup (pv 10)) (blkOk_by (own := [("_law_kt", 14), ("_law_own", 7)]) (N := N_law) (sc := defScope s_law) (by decide +kernel)) (fun _ _ _ _ _ => (pg_tupK (K := K) rfl rfl (pgs_cons (pg_name (i := 14) sc_law.nd rfl (Or.inl rfl)) (pgs_cons (pg_name (i := 7) sc_law.nd rfl (Or.inl rfl)) pgs_nil)))) (fun _ _ _ _ _ => pts_nil) (fun _ _ _ _ _ => (pe_dget hu (pv 11) (pv 14) (fun _ _ => rfl)))) pa_nil)) pa_nil))) pe_int (fun _ _ => rfl)))
      (pss_cons (ps_if (pt_cmpR op_eq (pe_callB call_len_seq (by rfl) T.len boot_len (pa_cons (pe_cl c_lcolumns hr (by decide) (pa_cons (pv 10) pa_nil)) pa_nil)) (pe_callB call_len_seq (by rfl) T.len boot_len (pa_cons (pv 6) pa_nil)) (nomark _)) (pss_one (ps_ret (pe_cl c_lno_more hr (by decide) (pa_cons (pv 4) (pa_cons (pv 12) pa_nil))))) pss_nil)
      (pss_one (ps_ret (pe_cmpR (op_eqD hr.units) (pe_ix ix_tup (pe_cl c_cover hr (by decide) (pa_cons (pv 2) (pa_cons (pv 3) pa_nil))) pe_int (fun _ _ => rfl)) (pv 4) (nomark _))))))))))))))))))), ?_⟩
    -- question, exponents, price
    refine ⟨_, rfl, l, ns, 0, rfl, hS, fun a0 c0 z0 na0 => ?_⟩
    refine ⟨_, rfl, a0, c0, z0, rfl, BoxAt.set, fun q rs c1 z1 H1 nq eq rows nms nomo pos six s1 b1 => ?_⟩
    have S1 : Same H H1 := sameBox na0 s1
    have eqr : (rs.map Row.T).map V.ref = qRefs rs := by
      unfold qRefs
      rw [List.map_map]
      rfl
    have qs1 : Qs K H1 q rs := ⟨.inl (.inr ⟨_, by rw [← eqr]; exact eq⟩), rows, nms, pos, six⟩
    refine ⟨_, rfl, l, ns, 1, rfl, S1.seq hS, fun a1 c2 z2 na1 => ?_⟩
    refine ⟨_, rfl, a1, q, c2, z2, rs, rfl, BoxAt.set, ne_of_none eq na1, qs1.same (same_upd na1), fun e ex c3 z3 H2 exl exb ne ee s2 b2 => ?_⟩
    have S2 : Same H1 H2 := sameBox na1 s2
    have qs2 := qs1.same S2
    have eq2 := S2 _ _ eq
    refine ⟨_, rfl, _, rfl, q, e, rs, ex, rfl, qs2, SqT.of ee, exl, exb, fun u lo r2 r3 pt pb H3 s3 eu elo price g => ?_⟩
    refine ⟨u, _, 0, _, rfl, rfl, SqT.of eu, atI_nat (j := 0) rfl, ?_⟩
    have S3 : Same H H3 := (S1.trans S2).trans s3
    have hS3 := S3.seq hS
    have qs3 := qs2.same s3
    have eq3 := s3 _ _ eq2
    have ee3 := s3 _ _ ee
    have pbb := price_bnd price
    clear qs1 qs2 eq2 eq ee eu s3 S1 S2 s1 s2 b1 b2 ne nq
    -- the cells
    refine ⟨_, rfl, l, _, rfl, .inl hS3, _, _, rfl, _, _, rfl, _, _, rfl, ?_, ?_⟩
    · rw [List.length_map]
      refine ⟨by decide, by decide, ?_, ?_⟩
      · split <;> (try split) <;> omega
      · split <;> (try split) <;> omega
    generalize ((if (if (13 : Int) < _ then (13 : Int) else _) > (6 : Int) then _ else (6 : Int)) - 1).toNat = cells
    refine for_it (walk_range (lo := 1) (n := cells)) (fun i σ H' => ∃ x1 x5 : Option V, σ = [some (.ref l), x1, some (.ref q), some (.ref e), some (.ref lo), x5, none, none, none, none, none, none, none, none, none] ∧ Same H3 H')
      ⟨_, _, rfl, fun _ _ h => h⟩ (fun _ _ _ _ _ => trivial) ?_ ?_
    · rintro i x σ H4 H5 hi ⟨x1, x5, rfl, s4⟩ ⟨rfl, rfl⟩
      refine ⟨_, rfl, _, rfl, l, ns, 1 + i, rfl, s4.seq hS3, fun a c z na => ?_⟩
      have s5 := s4.trans (same_upd (o := .lst [.int c, .int z]) na)
      refine ⟨_, rfl, _, rfl, _, rfl, _, rfl, a, q, e, lo, c, z, rs, ex, pt, pb, rfl, BoxAt.set, ne_of_none (s4 _ _ eq3) na, qs3.same s5, s5 _ _ ee3, exl, exb, s5 _ _ elo, price, fun c' z' H6 s6 b6 => ?_⟩
      exact ⟨_, rfl, ite2 (fun h => by cases h) (fun _ => ⟨_, _, rfl, s4.trans (sameBox na s6)⟩)⟩
    · rintro σ H4 ⟨x1, x5, rfl, s4⟩
      have hS4 := s4.seq hS3
      have qs4 := qs3.same s4
      have eq4 := s4 _ _ eq3
      have ee4 := s4 _ _ ee3
      have ep4 := s4 _ _ elo
      clear hS3 qs3 eq3 ee3 elo S3 s4
      -- the sums
      refine ⟨_, rfl, l, ns, 1, rfl, hS4, fun a c z na => ?_⟩
      have nqa : q ≠ a := ne_of_none eq4 na
      refine ⟨_, rfl, _, rfl, a, q, c, z, rs, rfl, BoxAt.set, nqa, qs4.same (same_upd na), fun c5 z5 H5 s5 b5 => ?_⟩
      refine ⟨_, rfl, ite2 (fun h => by cases h) (fun _ => ?_)⟩
      have S5 : Same H4 H5 := sameBox na s5
      -- the columns
      refine ⟨_, rfl, q, rs, rfl, qs4.same S5, fun cl H6 s6 ncl ecl => ?_⟩
      have S6 := S5.trans s6
      have b6 : BoxAt H6 a c5 z5 := s6 _ _ b5
      have nca : cl ≠ a := b5.ne ncl
      have qs6 := qs4.same S6
      have eq6 := S6 _ _ eq4
      have ee6 := S6 _ _ ee4
      have ep6 := S6 _ _ ep4
      have hS6 := S6.seq hS4
      have nea : e ≠ a := ne_of_none ee4 na
      have npa : lo ≠ a := ne_of_none ep4 na
      have nla : ∀ {H' : Hp}, SameB a H6 H' → SqL K H' l (ns.map V.int) := fun {H'} s => (Same.box S6 na s).seq hS4
      clear S5 s5 s6 b5 ncl S6 hS6
      have cl36 : (colsOf (owns rs)).length ≤ 36 := cols_len (fun o ho => by
        obtain ⟨r, hr, rfl⟩ := List.mem_map.mp ho
        exact (qs6.rows r hr).2.2.2.2) (by rw [List.length_map]; exact six)
      have cl1 : 1 ≤ (colsOf (owns rs)).length := by
        obtain ⟨r, rr, hrs⟩ : ∃ r rr, rs = r :: rr := by
          cases rs with
          | nil => exact absurd pos (by decide)
          | cons r rr => exact ⟨r, rr, rfl⟩
        have hr : r ∈ rs := by rw [hrs]; exact List.mem_cons_self
        have o1 := (qs6.rows r hr).2.2.2.1
        obtain ⟨y, ys, hy⟩ : ∃ y ys, r.own = y :: ys := by
          cases h : r.own with
          | nil =>
            rw [h] at o1
            exact absurd o1 (by show ¬ 1 ≤ 0; decide)
          | cons y ys => exact ⟨y, ys, rfl⟩
        exact List.length_pos_of_mem (cols_mem.mpr ⟨r.own, List.mem_map_of_mem hr, by rw [hy]; exact List.mem_cons_self⟩)
      have cnd := cols_nd qs6
      obtain ⟨xk, hxk⟩ : ∃ xk, xk = x5 := ⟨_, rfl⟩
      subst hxk
      refine ⟨fun σ' H' => ∃ (x7 x8 : Option V) (c z : Int), σ' = [some (.ref l), some (.ref a), some (.ref q), some (.ref e), some (.ref lo), xk, some (.ref cl), x7, x8, none, none, none, none, none, none] ∧ SameB a H6 H' ∧ BoxAt H' a c z, ?_, fun σ' H' hm => ?_⟩
      · refine ⟨_, rfl, q, _, rfl, .inr qs6.tup, _, _, rfl, rfl, _, rfl, ite2 (fun h => ?_) (fun h => ?_)⟩
        · have r5 : rs.length < 6 := by
            have : ((qRefs rs).length : Int) < 6 := of_decide_eq_true h
            rw [show (qRefs rs).length = rs.length from List.length_map ..] at this
            omega
          -- the own columns
          refine ⟨_, rfl, _, rfl, a, cl, c5, z5, (colsOf (owns rs)).map V.str, rfl, b6, .inl (SqL.of ecl), by rw [List.length_map]; omega, fun o os c8 z8 H8 pm no eo s8 b8 => ?_⟩
          obtain ⟨zs, pz, rfl⟩ := perm_map_back V.str pm _ rfl
          have ecl8 := s8 _ _ nca ecl
          have noa := b6.ne no
          refine ⟨_, rfl, _, rfl, cl, _, rfl, .inl (SqL.of ecl8), _, _, rfl, a, _, c8, z8, rfl, b8, ?_, ?_, fun d9 c9 z9 hd9 => ?_⟩
          · rw [List.length_map]
            split <;> omega
          · rw [List.length_map]
            split <;> omega
          rw [List.length_map] at hd9
          have d4 : d9 < 4 := by
            split at hd9 <;> omega
          refine ⟨_, _, rfl, rfl, _, rfl, o, _, rfl, SqL.of (setS eo noa), fun sl nsl => ?_⟩
          have ec : cutV (zs.map V.str) none (some (1 + (d9 : Int))) = (zs.take (1 + d9)).map V.str := (cut_take _ (1 + d9)).trans (List.map_take ..).symm
          rw [ec]
          refine ⟨sl, _, rfl, .inl ⟨SqL.of upd_same, fun t nt => ?_⟩⟩
          have znd : (zs.take (1 + d9)).Nodup := (pz.symm.nodup cnd).sublist (List.take_sublist _ _)
          have zl1 : 1 ≤ (zs.take (1 + d9)).length ∧ (zs.take (1 + d9)).length ≤ 6 := by
            have := pz.length_eq
            rw [List.length_take]
            omega
          have zsub : ∀ y ∈ zs.take (1 + d9), y ∈ colsOf (owns rs) := fun y hy => pz.mem_iff.mp (List.mem_of_mem_take hy)
          generalize zs.take (1 + d9) = own at znd zl1 zsub nt ⊢
          have s9 := ((s8.putA (o := .lst [.int c9, .int z9])).nw nsl).nw (o := .tup (own.map V.str)) nt
          have b9 := ((BoxAt.set (H := H8) (a := a) (c := c9) (s := z9)).nw nsl).nw (o := .tup (own.map V.str)) nt
          have et : upd (upd (upd H8 a (.lst [.int c9, .int z9])) sl (.lst (own.map V.str))) t (.tup (own.map V.str)) t = _ := upd_same
          generalize upd (upd (upd H8 a (.lst [.int c9, .int z9])) sl (.lst (own.map V.str))) t (.tup (own.map V.str)) = H9 at s9 b9 et ⊢
          clear s8 b8 eo no ecl8 pm pz
          -- the name
          refine ⟨by show 3 ≤ sizeLine; decide, fun ml nml => ⟨_, rfl, ⟨_, SqL.of upd_same⟩, fun D nD => ?_⟩⟩
          have lw3 := walk_list (K := K) (a := ml) (xs := W3.map V.str)
          have eq9 := s9 _ _ nqa eq6
          have eml : upd H9 ml (.lst (W3.map V.str)) ml = _ := upd_same
          have s10 := s9.nw (o := .lst (W3.map V.str)) nml
          have sm0 : Same H9 (upd H9 ml (.lst (W3.map V.str))) := same_upd nml
          have nD' : upd H9 ml (.lst (W3.map V.str)) D = none := nD
          have qs10 := qs6.sameB b6 nqa s10
          have eq10 := sm0 _ _ eq9
          refine lc_it lw3 (fun j H' => H' D = some (.lst (((W3.take j).filter fun z => !decide (z ∈ rs.map Row.nm)).map V.str)) ∧ Same (upd H9 ml (.lst (W3.map V.str))) H') ⟨upd_same, same_upd nD'⟩ (fun j H' _ h => SqL.of (h.2 _ _ eml)) ?_ ?_
          · rintro j x H11 H12 hj ⟨eD, s11⟩ ⟨rfl, hx⟩
            have hj : j < W3.length := by rw [List.length_map] at hj; exact hj
            rw [List.getElem?_map, List.getElem?_eq_getElem hj] at hx
            have hx := (Option.some.inj hx).symm
            subst hx
            have qs11 := qs10.same s11
            refine ⟨rfl, _, rfl, _, rfl, q, rs.map Row.T, rs.map (fun r => ((Sum.inr r.nm : Key), V.ref r.o)), rfl, s11 _ _ eq10, paired_map (F := fun (p : Addr) (kv : Key × V) => SqT K H12 p [kV kv.1, kv.2]) Row.T (fun r => ((Sum.inr r.nm : Key), V.ref r.o)) fun r hr => SqT.of (qs11.rows r hr).1, fun dd ndd => ?_⟩
            have tk : W3.take (j + 1) = W3.take j ++ [W3[j]] := List.take_succ_eq_append_getElem hj
            refine ⟨dd, valV (mergeK [] (rs.map (fun r => ((Sum.inr r.nm : Key), V.ref r.o)))) (.inr W3[j]), rfl, .inl ⟨_, .inr W3[j], .inl upd_same, rfl, rfl⟩, _, rfl, ?_⟩
            rw [dict_name]
            refine ite2 (fun e => ?_) (fun e => ?_)
            · refine ⟨_, rfl, _, nwS eD ndd, small_len (m := 3) ?_, ?_, fun b o hb => setS (nwS (s11 b o hb) ndd) (ne_of_none hb nD')⟩
              · rw [List.length_map]
                exact Nat.le_trans (List.length_filter_le _ _) (by rw [List.length_take]; exact Nat.min_le_right _ _)
              · rw [upd_same, tk, List.filter_append, List.map_append, List.filter_cons_of_pos (p := fun z => !decide (z ∈ rs.map Row.nm)) e]
                rfl
            · refine ⟨?_, s11.trans (same_upd ndd)⟩
              rw [tk, List.filter_append, List.filter_cons_of_neg (p := fun z => !decide (z ∈ rs.map Row.nm)) e, List.filter_nil, List.append_nil]
              exact nwS eD ndd
          · rintro H11 ⟨eD, s11⟩
            rw [List.length_map, List.take_length] at eD
            obtain ⟨w0, wr, ew, wfree⟩ := free_name nomo
            rw [ew] at eD
            refine ⟨D, _, 0, _, rfl, rfl, SqL.of eD, atI_nat (j := 0) rfl, ?_⟩
            have s12 := s10.trans (SameB.of s11)
            have b12 : BoxAt H11 a c9 z9 := s11 _ _ (sm0 _ _ b9)
            have et12 := s11 _ _ (sm0 _ _ et)
            clear s11 eD qs10 eq10 s10 sm0 nD nD' eml nml eq9 s9 b9 et
            -- the greater question
            have eq12 := s12 _ _ nqa eq6
            have qs12 := qs6.sameB b6 nqa s12
            have ee12 := s12 _ _ nea ee6
            have ep12 := s12 _ _ npa ep6
            refine ⟨_, rfl, _, rfl, _, rfl, by show 2 ≤ sizeLine; decide, fun T nT => ⟨by show 1 ≤ sizeLine; decide, fun T1 nT1 => ?_⟩⟩
            refine ⟨q, T1, qRefs rs, [.ref T], rfl, rfl, Same.seqT ((same_upd nT).trans (same_upd nT1)) qs12.tup, SqT.of upd_same, ?_, ?_, fun h => absurd h (List.cons_ne_nil _ _), fun _ q2 nq2 => ?_⟩
            · intro h
              have := congrArg List.length h
              rw [show (qRefs rs).length = rs.length from List.length_map ..] at this
              have : rs.length = 0 := this
              omega
            · rw [show (qRefs rs).length = rs.length from List.length_map ..]
              show rs.length + 1 ≤ sizeLine
              exact small_len'' (by omega)
            -- its exponents
            have sT := ((same_upd (o := .tup [.str w0, .ref t]) nT).trans (same_upd (o := .tup [.ref T]) nT1)).trans (same_upd (o := .tup (qRefs rs ++ [.ref T])) nq2)
            have eT := nwS (o := .tup (qRefs rs ++ [.ref T])) (nwS (o := .tup [.ref T]) (show upd H11 T (.tup [.str w0, .ref t]) T = _ from upd_same) nT1) nq2
            have eq2' : upd (upd (upd H11 T (.tup [.str w0, .ref t])) T1 (.tup [.ref T])) q2 (.tup (qRefs rs ++ [.ref T])) q2 = _ := upd_same
            have s13 := s12.trans (SameB.of sT)
            have b13 : BoxAt (upd (upd (upd H11 T (.tup [.str w0, .ref t])) T1 (.tup [.ref T])) q2 (.tup (qRefs rs ++ [.ref T]))) a c9 z9 := sT _ _ b12
            have et13 := sT _ _ et12
            have qs13 := qs12.same sT
            have ee13 := sT _ _ ee12
            have ep13 := sT _ _ ep12
            have fact : (qRefs rs ++ [V.ref T]) ≠ [] → True := fun _ => trivial
            refine ⟨_, rfl, _, rfl, a, 10, c9, z9, rfl, b13, by decide, by decide, fun dx c14 z14 hdx => ⟨by show 1 ≤ sizeLine; decide, fun T2 nT2 => ?_⟩⟩
            have nTa := tup_ne b13 eT
            have nq2a := tup_ne b13 eq2'
            have nta := tup_ne b13 et13
            have sU := (SameB.updS (a := a) (H := upd (upd (upd H11 T (.tup [.str w0, .ref t])) T1 (.tup [.ref T])) q2 (.tup (qRefs rs ++ [.ref T]))) (o := .lst [.int c14, .int z14])).nw (o := .tup [.int dx]) nT2
            have bU := (BoxAt.set (H := upd (upd (upd H11 T (.tup [.str w0, .ref t])) T1 (.tup [.ref T])) q2 (.tup (qRefs rs ++ [.ref T]))) (a := a) (c := c14) (s := z14)).nw (o := .tup [.int dx]) nT2
            refine ⟨e, T2, ex.map V.int, [.int dx], rfl, rfl, SqT.of (sU _ _ nea ee13), SqT.of upd_same, ?_, ?_, fun h => absurd h (List.cons_ne_nil _ _), fun _ e2 ne2 => ?_⟩
            · intro h
              have := congrArg List.length h
              rw [List.length_map, exl] at this
              have : rs.length = 0 := this
              omega
            · rw [List.length_map, exl]
              show rs.length + 1 ≤ sizeLine
              exact small_len'' (by omega)
            have sV := (s13.trans sU).nw (o := .tup (ex.map V.int ++ [.int dx])) ne2
            have bV := bU.nw (o := .tup (ex.map V.int ++ [.int dx])) ne2
            have sW := sU.nw (o := .tup (ex.map V.int ++ [.int dx])) ne2
            have eT3 := sW _ _ nTa eT
            have eq3' := sW _ _ nq2a eq2'
            have et3 := sW _ _ nta et13
            have ep3 := sW _ _ npa ep13
            have qs3 := qs13.sameB b13 nqa sW
            have ee3 : upd (upd (upd (upd (upd (upd H11 T (.tup [.str w0, .ref t])) T1 (.tup [.ref T])) q2 (.tup (qRefs rs ++ [.ref T]))) a (.lst [.int c14, .int z14])) T2 (.tup [.int dx])) e2 (.tup (ex.map V.int ++ [.int dx])) e2 = _ := upd_same
            generalize upd (upd (upd (upd (upd (upd H11 T (.tup [.str w0, .ref t])) T1 (.tup [.ref T])) q2 (.tup (qRefs rs ++ [.ref T]))) a (.lst [.int c14, .int z14])) T2 (.tup [.int dx])) e2 (.tup (ex.map V.int ++ [.int dx])) = H13 at sV bV eT3 eq3' et3 ep3 qs3 ee3 ⊢
            have eqr : qRefs rs ++ [.ref T] = qRefs (rs ++ [⟨T, w0, t, own⟩]) := by
              unfold qRefs
              rw [List.map_append]
              rfl
            rw [eqr] at eq3'
            rw [ints_snoc] at ee3
            have qsN : Qs K H13 q2 (rs ++ [⟨T, w0, t, own⟩]) := by
              refine ⟨SqT.of eq3', fun r hr => ?_, ?_, ?_, ?_⟩
              · rcases List.mem_append.mp hr with h | h
                · exact qs3.rows r h
                · cases List.mem_singleton.mp h
                  exact ⟨eT3, et3, znd, zl1⟩
              · rw [List.map_append, List.nodup_append]
                refine ⟨nms, List.nodup_cons.mpr ⟨List.not_mem_nil, List.nodup_nil⟩, fun x hx y hy => ?_⟩
                rw [List.mem_singleton.mp hy]
                intro g
                subst g
                exact wfree hx
              · rw [List.length_append]
                omega
              · rw [List.length_append]
                show rs.length + 1 ≤ 6
                omega
            have oN : owns (rs ++ [⟨T, w0, t, own⟩]) = owns rs ++ [own] := by
              unfold owns
              rw [List.map_append]
              rfl
            have cN : colsOf (owns rs ++ [own]) = colsOf (owns rs) := cols_snoc zsub
            refine ⟨q2, e2, _, ex ++ [(dx : Int)], rfl, qsN, SqT.of ee3, ?_, fun x hx => ?_, fun u2 lo2 r21 r22 ft fb H14 s14 eu2 elo2 price2 g2 => ?_⟩
            · rw [List.length_append, List.length_append, exl]
              rfl
            · rcases List.mem_append.mp hx with h | h
              · exact exb x h
              · rw [List.mem_singleton] at h
                omega
            rw [oN, cN] at price2
            refine ⟨u2, _, 0, _, rfl, rfl, SqT.of eu2, atI_nat (j := 0) rfl, ?_⟩
            have pb2 := price_bnd price2
            refine ⟨_, rfl, lo2, lo, ft, fb, pt, pb, rfl, SqT.of elo2, SqT.of (s14 _ _ ep3), pb2.1, pb2.2, pbb.1, pbb.2, ?_⟩
            have fin := LP.price_mono (List.Perm.refl _) (fun r own' x h1 h2 => ⟨r, by rw [List.getElem?_append_left (List.getElem?_eq_some_iff.mp h1).1]; exact h1, by rw [List.getElem?_append_left (List.getElem?_eq_some_iff.mp h2).1]; exact h2⟩) price2 price
            rw [decide_eq_true fin]
            exact ⟨_, rfl, ite2 (fun h => by cases h) (fun _ => ⟨_, _, c14, z14, rfl, sV.trans (SameB.of s14), s14 _ _ bV⟩)⟩
        · exact ⟨_, _, c5, z5, rfl, SameB.refl, b6⟩
      · obtain ⟨x7, x8, c7, z7, rfl, s7, b7⟩ := hm
        -- some of the names
        have lw := walk_tup (K := K) (a := q) (xs := qRefs rs)
        rw [show (qRefs rs).length = rs.length from List.length_map ..] at lw
        have qs7 := qs6.sameB b6 nqa s7
        refine ⟨_, rfl, q, rfl, ⟨_, qs7.tup⟩, fun S nS => ?_⟩
        have nSa : S ≠ a := b7.ne nS
        have S0 : H6 S = none := s7.old b7 nS
        refine lc_it lw (fun j H' => ∃ (ss : List Str) (c z : Int), ss.Sublist ((rs.take j).map Row.nm) ∧ H' S = some (.lst (ss.map V.str)) ∧ SameB a H6 H' ∧ BoxAt H' a c z)
          ⟨[], c7, z7, List.nil_sublist _, upd_same, s7.nw nS, b7.nw nS⟩ (fun j H' _ ⟨_, _, _, _, _, s, _⟩ => s.seqT nqa qs6.tup) ?_ ?_
        · rintro j x H8 H9 hj ⟨ss, c8, z8, sb, eS, s8, b8⟩ ⟨rfl, hx⟩
          rw [qRefs_at hj] at hx
          have hx := (Option.some.inj hx).symm
          subst hx
          have qs8 := qs6.sameB b6 nqa s8
          have ro := qs8.at hj
          have tk : (rs.take (j + 1)).map Row.nm = (rs.take j).map Row.nm ++ [rs[j].nm] := by
            rw [List.take_succ_eq_append_getElem hj, List.map_append]
            rfl
          refine ⟨_, _, rfl, SqT.of ro.1, rfl, _, _, rfl, _, _, rfl, rfl, rfl, ?_⟩
          refine ⟨_, rfl, a, 3, c8, z8, rfl, b8, by decide, by decide, fun d c9 z9 hd => ?_⟩
          have sl : ss.length ≤ 6 := by
            have := sb.length_le
            rw [List.length_map, List.length_take] at this
            omega
          refine ⟨_, _, rfl, rfl, _, rfl, ite2 (fun e => ?_) (fun e => ?_)⟩
          · refine ⟨_, rfl, _, setS eS nSa, small_len (m := 6) (by rw [List.length_map]; exact sl), ss ++ [rs[j].nm], c9, z9, ?_, ?_, s8.putA.put S0, BoxAt.set.put nSa⟩
            · rw [tk]
              exact sb.append (List.Sublist.refl _)
            · rw [upd_same, List.map_append]
              rfl
          · refine ⟨ss, c9, z9, ?_, setS eS nSa, s8.putA, BoxAt.set⟩
            rw [tk]
            exact sb.trans (List.sublist_append_left _ _)
        · rintro H8 ⟨ss, c8, z8, sb, eS, s8, b8⟩
          rw [List.take_length] at sb
          refine ⟨fun σ' H' => ∃ (S : Addr) (ss : List Str), σ' = [some (.ref l), some (.ref a), some (.ref q), some (.ref e), some (.ref lo), xk, some (.ref cl), x7, x8, some (.ref S), none, none, none, none, none] ∧ 1 ≤ ss.length ∧ ss.Sublist (rs.map Row.nm) ∧ H' S = some (.lst (ss.map V.str)) ∧ SameB a H6 H' ∧ BoxAt H' a c8 z8, ?_, fun σ' H' hm => ?_⟩
          · refine ⟨_, rfl, S, _, rfl, .inl (SqL.of eS), rfl, _, rfl, ite2 (fun h => ?_) (fun h => ?_)⟩
            · obtain ⟨r, rr, hrs⟩ : ∃ r rr, rs = r :: rr := by
                cases rs with
                | nil => exact absurd pos (by decide)
                | cons r rr => exact ⟨r, rr, rfl⟩
              have qs8 := qs6.sameB b6 nqa s8
              have ro := qs8.rows r (by rw [hrs]; exact List.mem_cons_self)
              have e0 : (qRefs rs)[0]? = some (.ref r.T) := by rw [hrs]; rfl
              refine ⟨_, rfl, q, _, 0, _, rfl, rfl, qs8.tup, atI_nat (j := 0) e0, r.T, _, 0, _, rfl, rfl, SqT.of ro.1, atI_nat (j := 0) rfl, by show 1 ≤ sizeLine; decide, fun S2 nS2 => ?_⟩
              refine ⟨S2, [r.nm], rfl, Nat.le_refl _, ?_, upd_same, s8.nw nS2, b8.nw nS2⟩
              rw [hrs, List.map_cons]
              exact (List.nil_sublist _).cons₂ _
            · refine ⟨S, ss, rfl, ?_, sb, eS, s8, b8⟩
              cases ss with
              | nil => exact absurd rfl h
              | cons x r => exact Nat.succ_pos _
          · clear eS sb s8 b8
            obtain ⟨S, ss, rfl, sl1, sb, eS, s8, b8⟩ := hm
            have sl6 : ss.length ≤ 6 := by
              have := sb.length_le
              rw [List.length_map] at this
              omega
            -- the part
            refine ⟨_, rfl, _, rfl, _, rfl, a, S, c8, z8, ss.map V.str, rfl, b8, .inl (SqL.of eS), by rw [List.length_map]; omega, fun o os c10 z10 H10 pm no eo s10 b10 => ?_⟩
            obtain ⟨ws, pw, rfl⟩ := perm_map_back V.str pm ss rfl
            refine ⟨o, _, rfl, .inl ⟨SqL.of eo, fun t nt => ?_⟩⟩
            have s11 := (s8.trans s10).nw (o := .tup (ws.map V.str)) nt
            have b11 := b10.nw (o := .tup (ws.map V.str)) nt
            have et : upd H10 t (.tup (ws.map V.str)) t = _ := upd_same
            generalize upd H10 t (.tup (ws.map V.str)) = H11 at s11 b11 et ⊢
            have qs11 := qs6.sameB b6 nqa s11
            refine ⟨q, t, rs, ws, rfl, qs11, SqT.of et, fun v H12 s12 nv ev => ?_⟩
            obtain ⟨rs2, hrs2⟩ : ∃ rs2, rs2 = rs.filter fun r => decide (r.nm ∈ ws) := ⟨_, rfl⟩
            rw [← hrs2] at ev
            have sub2 : ∀ r ∈ rs2, r ∈ rs := fun r hr => by
              rw [hrs2] at hr
              exact (List.mem_filter.mp hr).1
            have pos2 : 1 ≤ rs2.length := by
              obtain ⟨x, sr, hss⟩ : ∃ x sr, ss = x :: sr := by
                cases ss with
                | nil => exact absurd sl1 (by decide)
                | cons x r => exact ⟨x, r, rfl⟩
              have hx : x ∈ rs.map Row.nm := sb.subset (by rw [hss]; exact List.mem_cons_self)
              obtain ⟨r, hr, hrx⟩ := List.mem_map.mp hx
              refine List.length_pos_of_mem (a := r) ?_
              rw [hrs2]
              refine List.mem_filter.mpr ⟨hr, decide_eq_true ?_⟩
              rw [hrx]
              exact pw.mem_iff.mpr (by rw [hss]; exact List.mem_cons_self)
            have six2 : rs2.length ≤ 6 := by
              have : rs2.length ≤ rs.length := by
                rw [hrs2]
                exact List.length_filter_le _ _
              omega
            have nd2 : (rs2.map Row.nm).Nodup := by
              rw [hrs2]
              exact nms.sublist (List.filter_sublist.map _)
            have qs12 := qs11.same s12
            have s12' := s11.trans (SameB.of s12)
            have b12 : BoxAt H12 a c10 z10 := s12 _ _ b11
            have qv12 : Qs K H12 v rs2 := ⟨SqT.of ev, fun r hr => qs12.rows r (sub2 r hr), nd2, pos2, six2⟩
            have ee12 := s12' _ _ nea ee6
            clear et s12 s10 b10 eo no s11 b11 nt nv eS pm
            -- exponents by name
            refine ⟨_, rfl, q, rfl, ⟨_, qs12.tup⟩, fun D nD => ?_⟩
            refine lc_it lw (fun j H' => H' = upd H12 D (.lst (((rs.take j).map Row.nm).map V.str))) rfl ?_ ?_ ?_
            · rintro j H' _ rfl
              exact Same.seqT (same_upd nD) qs12.tup
            · rintro j x H' H13 hj rfl ⟨rfl, hx⟩
              rw [qRefs_at hj] at hx
              have hx := (Option.some.inj hx).symm
              subst hx
              have ro := (qs12.at hj).same (same_upd (o := .lst (((rs.take j).map Row.nm).map V.str)) nD)
              refine ⟨_, _, rfl, SqT.of ro.1, rfl, _, _, rfl, _, _, rfl, rfl, rfl, _, rfl, _, upd_same, small_len (m := 6) ?_, ?_⟩
              · rw [List.length_map, List.length_map, List.length_take]
                omega
              · show upd (upd H12 D _) D _ = _
                rw [upd_upd, List.take_succ_eq_append_getElem hj, List.map_append, List.map_append]
                rfl
            · rintro H' rfl
              rw [List.take_length]
              refine ⟨_, rfl, D, e, rs.map Row.nm, ex.map V.int, rfl, SqL.of upd_same, SqT.of (nwS ee12 nD), by rw [List.length_map, List.length_map, exl], fun kd nkd => ?_⟩
              have sK := (same_upd (o := .lst ((rs.map Row.nm).map V.str)) nD).trans (same_upd (o := .dK (mergeK [] (((rs.map Row.nm).map Sum.inr).zip (ex.map V.int)))) nkd)
              have ek : upd (upd H12 D (.lst ((rs.map Row.nm).map V.str))) kd (.dK (mergeK [] (((rs.map Row.nm).map Sum.inr).zip (ex.map V.int)))) kd = _ := upd_same
              have s13 := s12'.trans (SameB.of sK)
              have qv13 := qv12.same sK
              generalize upd (upd H12 D (.lst ((rs.map Row.nm).map V.str))) kd (.dK (mergeK [] (((rs.map Row.nm).map Sum.inr).zip (ex.map V.int)))) = H13 at sK ek s13 qv13 ⊢
              -- the part's price
              have lw2 := walk_tup (K := K) (a := v) (xs := qRefs rs2)
              rw [show (qRefs rs2).length = rs2.length from List.length_map ..] at lw2
              refine ⟨_, rfl, _, rfl, v, rfl, ⟨_, qv13.tup⟩, fun D2 nD2 => ?_⟩
              refine lc_it lw2 (fun j H' => H' = upd H13 D2 (.lst (((rs2.take j).map fun r => exOf rs ex r.nm).map V.int))) rfl ?_ ?_ ?_
              · rintro j H' _ rfl
                exact Same.seqT (same_upd nD2) qv13.tup
              · rintro j x H' H14 hj rfl ⟨rfl, hx⟩
                rw [qRefs_at hj] at hx
                have hx := (Option.some.inj hx).symm
                subst hx
                have ro := (qv13.at hj).same (same_upd (o := .lst (((rs2.take j).map fun r => exOf rs ex r.nm).map V.int)) nD2)
                have dg := exOf_dict nms exl (sub2 _ (List.getElem_mem hj))
                refine ⟨_, _, rfl, SqT.of ro.1, rfl, _, _, rfl, _, _, rfl, rfl, rfl, _, rfl, _, rfl, kd, _, rfl, .inl ⟨_, .inr rs2[j].nm, .inl (nwS ek nD2), rfl, dg.symm⟩, _, upd_same, small_len (m := 6) ?_, ?_⟩
                · rw [List.length_map, List.length_map, List.length_take]
                  omega
                · show upd (upd H13 D2 _) D2 _ = _
                  rw [upd_upd, List.take_succ_eq_append_getElem hj, List.map_append, List.map_append]
                  rfl
              · rintro H' rfl
                rw [List.take_length]
                obtain ⟨ex2, hex2⟩ : ∃ ex2, ex2 = rs2.map fun r => exOf rs ex r.nm := ⟨_, rfl⟩
                rw [← hex2]
                refine ⟨D2, _, rfl, .inl ⟨SqL.of upd_same, fun e2 ne2 => ?_⟩⟩
                have sE := (same_upd (o := .lst (ex2.map V.int)) nD2).trans (same_upd (o := .tup (ex2.map V.int)) ne2)
                refine ⟨v, e2, rs2, ex2, rfl, qv13.same sE, SqT.of upd_same, by rw [hex2, List.length_map], fun x hx => ?_, fun u2 lo2 r21 r22 ft fb H15 s15 eu2 elo2 price2 g2 => ?_⟩
                · rw [hex2] at hx
                  obtain ⟨r, hr, rfl⟩ := List.mem_map.mp hx
                  exact exOf_bound nms exl exb (sub2 r hr)
                refine ⟨u2, _, 0, _, rfl, rfl, SqT.of eu2, atI_nat (j := 0) rfl, ?_⟩
                have pb2 := price_bnd price2
                have sF := sE.trans s15
                have qv15 := qv13.same sF
                have s16 := s13.trans (SameB.of sF)
                -- all columns?
                refine ⟨_, rfl, v, rs2, rfl, qv15, fun cl2 H16 s17 ncl2 ecl2 => ?_⟩
                have s18 := s16.trans (SameB.of s17)
                refine ⟨cl2, _, rfl, .inl (SqL.of ecl2), _, rfl, cl, _, rfl, .inl (SqL.of (s18 _ _ nca ecl)), rfl, _, rfl, ite2 (fun h => ?_) (fun h => ?_)⟩
                · have hl : (colsOf (owns rs2)).length = (colsOf (owns rs)).length := by
                    rw [dec_int] at h
                    have := eq_of_beq h
                    rw [List.length_map, List.length_map] at this
                    omega
                  have pc : (colsOf (owns rs2)).Perm (colsOf (owns rs)) := by
                    refine perm_of_sub (cols_nd qv15) (fun x hx => ?_) (by omega)
                    obtain ⟨o, ho, hxo⟩ := cols_mem.mp hx
                    obtain ⟨r, hr, rfl⟩ := List.mem_map.mp ho
                    exact cols_mem.mpr ⟨r.own, List.mem_map_of_mem (sub2 r hr), hxo⟩
                  refine ⟨_, rfl, _, rfl, lo, lo2, pt, pb, ft, fb, rfl, SqT.of (s18 _ _ npa ep6), SqT.of (s17 _ _ elo2), pbb.1, pbb.2, pb2.1, pb2.2, ?_⟩
                  rw [hex2] at price2
                  have fin := LP.price_mono pc.symm (part_at nms exl sub2) price price2
                  rw [decide_eq_true fin]
                  exact k _
                · have qs16 := qs6.sameB b6 nqa s18
                  refine ⟨_, rfl, _, rfl, q, e, rs, ex, rfl, qs16, SqT.of (s18 _ _ nea ee6), exl, exb, fun u3 lo3 r31 r32 ht hb H19 s19 eu3 elo3 price3 g3 => ?_⟩
                  refine ⟨u3, _, 0, _, rfl, rfl, SqT.of eu3, atI_nat (j := 0) rfl, ?_⟩
                  have same := LP.price_times (k := 1) (by decide) (fun r x hx => by rw [Int.one_mul]; exact hx) (fun r x hx => ⟨x, hx⟩) price3 price
                  rw [Int.one_mul] at same
                  obtain ⟨e1, e2⟩ := frac_eq same g g3 price.pos price3.pos
                  subst e1 e2
                  refine ⟨_, rfl, .tuple [.int pt, .int pb], .tuple [.int pt, .int pb], .tup (SqT.of elo3) (.cons (.int _) (.cons (.int _) .nil)), .tup (SqT.of (s19 _ _ (s18 _ _ npa ep6))) (.cons (.int _) (.cons (.int _) .nil)), rfl, rfl, ?_⟩
                  have ev : PyData.eqv (.tuple [.int pt, .int pb]) (.tuple [.int pt, .int pb]) = true := by
                    show (pt == pt && (pb == pb && true)) = true
                    simp
                  rw [ev]
                  exact k _
end
end MW
namespace MW
open PySem PySem.Spec PyProof.Rows L2
/-! ### what the top has written -/
theorem all_mk {l : PySem.W.OpenLaw} {w : World} {K : PySem.W.Frag} {h : Heap} {mg : Str → Option Value} {fa C f0 f1 f2 f3 f4 f5 f6 f7 f8 f9 f10 f11 f12 f13 f14 f15 f16 f17 f18 f19 f20 f21 f22 f23 f24 f25 f26 f27 f28 f29 f30 : Addr} (X : K.In h) (G : h.Ns mainGlobals mg) (hfa : mg "law" = some (.ref fa))
    {od0 an0 od1 an1 od2 an2 od3 an3 od4 an4 od5 an5 od6 an6 od7 an7 od8 an8 od9 an9 od10 an10 od11 an11 od12 an12 od13 an13 od14 an14 od15 an15 od16 an16 od17 an17 od18 an18 od19 an19 od20 an20 od21 an21 od22 an22 od23 an23 od24 an24 od25 an25 od26 an26 od27 an27 od28 an28 od29 an29 od30 an30 : Option Addr} {sl0 sl1 sl2 sl3 sl4 sl5 sl6 sl7 sl8 sl9 sl10 sl11 sl12 sl13 sl14 sl15 sl16 sl17 sl18 sl19 sl20 sl21 sl22 sl23 sl24 sl25 sl26 sl27 sl28 sl29 sl30 : Array (Option Value)} {oc0 kV0 dc0 pm0 cd0 ct0 oc1 kV1 dc1 pm1 cd1 ct1 oc2 kV2 dc2 pm2 cd2 ct2 oc3 kV3 dc3 pm3 cd3 ct3 oc4 kV4 dc4 pm4 cd4 ct4 oc5 kV5 dc5 pm5 cd5 ct5 oc6 kV6 dc6 pm6 cd6 ct6 oc7 kV7 dc7 pm7 cd7 ct7 oc8 kV8 dc8 pm8 cd8 ct8 oc9 kV9 dc9 pm9 cd9 ct9 oc10 kV10 dc10 pm10 cd10 ct10 oc11 kV11 dc11 pm11 cd11 ct11 oc12 kV12 dc12 pm12 cd12 ct12 oc13 kV13 dc13 pm13 cd13 ct13 oc14 kV14 dc14 pm14 cd14 ct14 oc15 kV15 dc15 pm15 cd15 ct15 oc16 kV16 dc16 pm16 cd16 ct16 oc17 kV17 dc17 pm17 cd17 ct17 oc18 kV18 dc18 pm18 cd18 ct18 oc19 kV19 dc19 pm19 cd19 ct19 oc20 kV20 dc20 pm20 cd20 ct20 oc21 kV21 dc21 pm21 cd21 ct21 oc22 kV22 dc22 pm22 cd22 ct22 oc23 kV23 dc23 pm23 cd23 ct23 oc24 kV24 dc24 pm24 cd24 ct24 oc25 kV25 dc25 pm25 cd25 ct25 oc26 kV26 dc26 pm26 cd26 ct26 oc27 kV27 dc27 pm27 cd27 ct27 oc28 kV28 dc28 pm28 cd28 ct28 oc29 kV29 dc29 pm29 cd29 ct29 oc30 kV30 dc30 pm30 cd30 ct30 : Value}
    (aC : PySem.W.nsIn K mainGlobals "Tableau" = some (some (.ref C)))
    (a0 : PySem.W.nsIn K mainGlobals "divisor_of" = some (some (.ref f0)))
    (l0 : K.lookup f0 = some ⟨oc0, od0, .func (PySem.W.fnOf "divisor_of" "divisor_of" (defArgs s_divisor_of) (defBody s_divisor_of) (defScope s_divisor_of) .none kV0 dc0 pm0 an0 cd0 ct0), sl0⟩)
    (c0 : PySem.W.codeIn K cd0 "divisor_of" = true)
    (k0 : PySem.W.keepIn K (.ref f0) = true)
    (a1 : PySem.W.nsIn K mainGlobals "lowest" = some (some (.ref f1)))
    (l1 : K.lookup f1 = some ⟨oc1, od1, .func (PySem.W.fnOf "lowest" "lowest" (defArgs s_lowest) (defBody s_lowest) (defScope s_lowest) .none kV1 dc1 pm1 an1 cd1 ct1), sl1⟩)
    (c1 : PySem.W.codeIn K cd1 "lowest" = true)
    (k1 : PySem.W.keepIn K (.ref f1) = true)
    (a2 : PySem.W.nsIn K mainGlobals "greatest" = some (some (.ref f2)))
    (l2 : K.lookup f2 = some ⟨oc2, od2, .func (PySem.W.fnOf "greatest" "greatest" (defArgs s_greatest) (defBody s_greatest) (defScope s_greatest) .none kV2 dc2 pm2 an2 cd2 ct2), sl2⟩)
    (c2 : PySem.W.codeIn K cd2 "greatest" = true)
    (k2 : PySem.W.keepIn K (.ref f2) = true)
    (a3 : PySem.W.nsIn K mainGlobals "columns_of" = some (some (.ref f3)))
    (l3 : K.lookup f3 = some ⟨oc3, od3, .func (PySem.W.fnOf "columns_of" "columns_of" (defArgs s_columns_of) (defBody s_columns_of) (defScope s_columns_of) .none kV3 dc3 pm3 an3 cd3 ct3), sl3⟩)
    (c3 : PySem.W.codeIn K cd3 "columns_of" = true)
    (k3 : PySem.W.keepIn K (.ref f3) = true)
    (a4 : PySem.W.nsIn K mainGlobals "part" = some (some (.ref f4)))
    (l4 : K.lookup f4 = some ⟨oc4, od4, .func (PySem.W.fnOf "part" "part" (defArgs s_part) (defBody s_part) (defScope s_part) .none kV4 dc4 pm4 an4 cd4 ct4), sl4⟩)
    (c4 : PySem.W.codeIn K cd4 "part" = true)
    (k4 : PySem.W.keepIn K (.ref f4) = true)
    (a5 : PySem.W.nsIn K mainGlobals "over_least_parts" = some (some (.ref f5)))
    (l5 : K.lookup f5 = some ⟨oc5, od5, .func (PySem.W.fnOf "over_least_parts" "over_least_parts" (defArgs s_over_least_parts) (defBody s_over_least_parts) (defScope s_over_least_parts) .none kV5 dc5 pm5 an5 cd5 ct5), sl5⟩)
    (c5 : PySem.W.codeIn K cd5 "over_least_parts" = true)
    (k5 : PySem.W.keepIn K (.ref f5) = true)
    (a6 : PySem.W.nsIn K mainGlobals "cover" = some (some (.ref f6)))
    (l6 : K.lookup f6 = some ⟨oc6, od6, .func (PySem.W.fnOf "cover" "cover" (defArgs s_cover) (defBody s_cover) (defScope s_cover) .none kV6 dc6 pm6 an6 cd6 ct6), sl6⟩)
    (c6 : PySem.W.codeIn K cd6 "cover" = true)
    (k6 : PySem.W.keepIn K (.ref f6) = true)
    (a7 : PySem.W.nsIn K mainGlobals "_law_box" = some (some (.ref f7)))
    (l7 : K.lookup f7 = some ⟨oc7, od7, .func (PySem.W.fnOf "_law_box" "_law_box" (defArgs s_lbox) (defBody s_lbox) (defScope s_lbox) .none kV7 dc7 pm7 an7 cd7 ct7), sl7⟩)
    (c7 : PySem.W.codeIn K cd7 "_law_box" = true)
    (k7 : PySem.W.keepIn K (.ref f7) = true)
    (a8 : PySem.W.nsIn K mainGlobals "_law_take" = some (some (.ref f8)))
    (l8 : K.lookup f8 = some ⟨oc8, od8, .func (PySem.W.fnOf "_law_take" "_law_take" (defArgs s_ltake) (defBody s_ltake) (defScope s_ltake) .none kV8 dc8 pm8 an8 cd8 ct8), sl8⟩)
    (c8 : PySem.W.codeIn K cd8 "_law_take" = true)
    (k8 : PySem.W.keepIn K (.ref f8) = true)
    (a9 : PySem.W.nsIn K mainGlobals "_law_order" = some (some (.ref f9)))
    (l9 : K.lookup f9 = some ⟨oc9, od9, .func (PySem.W.fnOf "_law_order" "_law_order" (defArgs s_lorder) (defBody s_lorder) (defScope s_lorder) .none kV9 dc9 pm9 an9 cd9 ct9), sl9⟩)
    (c9 : PySem.W.codeIn K cd9 "_law_order" = true)
    (k9 : PySem.W.keepIn K (.ref f9) = true)
    (a10 : PySem.W.nsIn K mainGlobals "_law_names" = some (some (.ref f10)))
    (l10 : K.lookup f10 = some ⟨oc10, od10, .func (PySem.W.fnOf "_law_names" "_law_names" (defArgs s_lnames) (defBody s_lnames) (defScope s_lnames) .none kV10 dc10 pm10 an10 cd10 ct10), sl10⟩)
    (c10 : PySem.W.codeIn K cd10 "_law_names" = true)
    (k10 : PySem.W.keepIn K (.ref f10) = true)
    (a11 : PySem.W.nsIn K mainGlobals "_law_some_columns" = some (some (.ref f11)))
    (l11 : K.lookup f11 = some ⟨oc11, od11, .func (PySem.W.fnOf "_law_some_columns" "_law_some_columns" (defArgs s_lsome_columns) (defBody s_lsome_columns) (defScope s_lsome_columns) .none kV11 dc11 pm11 an11 cd11 ct11), sl11⟩)
    (c11 : PySem.W.codeIn K cd11 "_law_some_columns" = true)
    (k11 : PySem.W.keepIn K (.ref f11) = true)
    (a12 : PySem.W.nsIn K mainGlobals "_law_any_tables" = some (some (.ref f12)))
    (l12 : K.lookup f12 = some ⟨oc12, od12, .func (PySem.W.fnOf "_law_any_tables" "_law_any_tables" (defArgs s_lany_tables) (defBody s_lany_tables) (defScope s_lany_tables) .none kV12 dc12 pm12 an12 cd12 ct12), sl12⟩)
    (c12 : PySem.W.codeIn K cd12 "_law_any_tables" = true)
    (k12 : PySem.W.keepIn K (.ref f12) = true)
    (a13 : PySem.W.nsIn K mainGlobals "_law_ear_tables" = some (some (.ref f13)))
    (l13 : K.lookup f13 = some ⟨oc13, od13, .func (PySem.W.fnOf "_law_ear_tables" "_law_ear_tables" (defArgs s_lear_tables) (defBody s_lear_tables) (defScope s_lear_tables) .none kV13 dc13 pm13 an13 cd13 ct13), sl13⟩)
    (c13 : PySem.W.codeIn K cd13 "_law_ear_tables" = true)
    (k13 : PySem.W.keepIn K (.ref f13) = true)
    (a14 : PySem.W.nsIn K mainGlobals "_law_ring_tables" = some (some (.ref f14)))
    (l14 : K.lookup f14 = some ⟨oc14, od14, .func (PySem.W.fnOf "_law_ring_tables" "_law_ring_tables" (defArgs s_lring_tables) (defBody s_lring_tables) (defScope s_lring_tables) .none kV14 dc14 pm14 an14 cd14 ct14), sl14⟩)
    (c14 : PySem.W.codeIn K cd14 "_law_ring_tables" = true)
    (k14 : PySem.W.keepIn K (.ref f14) = true)
    (a15 : PySem.W.nsIn K mainGlobals "_law_question" = some (some (.ref f15)))
    (l15 : K.lookup f15 = some ⟨oc15, od15, .func (PySem.W.fnOf "_law_question" "_law_question" (defArgs s_lquestion) (defBody s_lquestion) (defScope s_lquestion) .none kV15 dc15 pm15 an15 cd15 ct15), sl15⟩)
    (c15 : PySem.W.codeIn K cd15 "_law_question" = true)
    (k15 : PySem.W.keepIn K (.ref f15) = true)
    (a16 : PySem.W.nsIn K mainGlobals "_law_columns" = some (some (.ref f16)))
    (l16 : K.lookup f16 = some ⟨oc16, od16, .func (PySem.W.fnOf "_law_columns" "_law_columns" (defArgs s_lcolumns) (defBody s_lcolumns) (defScope s_lcolumns) .none kV16 dc16 pm16 an16 cd16 ct16), sl16⟩)
    (c16 : PySem.W.codeIn K cd16 "_law_columns" = true)
    (k16 : PySem.W.keepIn K (.ref f16) = true)
    (a17 : PySem.W.nsIn K mainGlobals "_law_exponents" = some (some (.ref f17)))
    (l17 : K.lookup f17 = some ⟨oc17, od17, .func (PySem.W.fnOf "_law_exponents" "_law_exponents" (defArgs s_lexponents) (defBody s_lexponents) (defScope s_lexponents) .none kV17 dc17 pm17 an17 cd17 ct17), sl17⟩)
    (c17 : PySem.W.codeIn K cd17 "_law_exponents" = true)
    (k17 : PySem.W.keepIn K (.ref f17) = true)
    (a18 : PySem.W.nsIn K mainGlobals "_law_cover" = some (some (.ref f18)))
    (l18 : K.lookup f18 = some ⟨oc18, od18, .func (PySem.W.fnOf "_law_cover" "_law_cover" (defArgs s_lcover) (defBody s_lcover) (defScope s_lcover) .none kV18 dc18 pm18 an18 cd18 ct18), sl18⟩)
    (c18 : PySem.W.codeIn K cd18 "_law_cover" = true)
    (k18 : PySem.W.keepIn K (.ref f18) = true)
    (a19 : PySem.W.nsIn K mainGlobals "_law_fitting" = some (some (.ref f19)))
    (l19 : K.lookup f19 = some ⟨oc19, od19, .func (PySem.W.fnOf "_law_fitting" "_law_fitting" (defArgs s_lfitting) (defBody s_lfitting) (defScope s_lfitting) .none kV19 dc19 pm19 an19 cd19 ct19), sl19⟩)
    (c19 : PySem.W.codeIn K cd19 "_law_fitting" = true)
    (k19 : PySem.W.keepIn K (.ref f19) = true)
    (a20 : PySem.W.nsIn K mainGlobals "_law_no_less" = some (some (.ref f20)))
    (l20 : K.lookup f20 = some ⟨oc20, od20, .func (PySem.W.fnOf "_law_no_less" "_law_no_less" (defArgs s_lno_less) (defBody s_lno_less) (defScope s_lno_less) .none kV20 dc20 pm20 an20 cd20 ct20), sl20⟩)
    (c20 : PySem.W.codeIn K cd20 "_law_no_less" = true)
    (k20 : PySem.W.keepIn K (.ref f20) = true)
    (a21 : PySem.W.nsIn K mainGlobals "_law_one_right" = some (some (.ref f21)))
    (l21 : K.lookup f21 = some ⟨oc21, od21, .func (PySem.W.fnOf "_law_one_right" "_law_one_right" (defArgs s_lone_right) (defBody s_lone_right) (defScope s_lone_right) .none kV21 dc21 pm21 an21 cd21 ct21), sl21⟩)
    (c21 : PySem.W.codeIn K cd21 "_law_one_right" = true)
    (k21 : PySem.W.keepIn K (.ref f21) = true)
    (a22 : PySem.W.nsIn K mainGlobals "_law_no_more" = some (some (.ref f22)))
    (l22 : K.lookup f22 = some ⟨oc22, od22, .func (PySem.W.fnOf "_law_no_more" "_law_no_more" (defArgs s_lno_more) (defBody s_lno_more) (defScope s_lno_more) .none kV22 dc22 pm22 an22 cd22 ct22), sl22⟩)
    (c22 : PySem.W.codeIn K cd22 "_law_no_more" = true)
    (k22 : PySem.W.keepIn K (.ref f22) = true)
    (a23 : PySem.W.nsIn K mainGlobals "_law_sums_right" = some (some (.ref f23)))
    (l23 : K.lookup f23 = some ⟨oc23, od23, .func (PySem.W.fnOf "_law_sums_right" "_law_sums_right" (defArgs s_lsums_right) (defBody s_lsums_right) (defScope s_lsums_right) .none kV23 dc23 pm23 an23 cd23 ct23), sl23⟩)
    (c23 : PySem.W.codeIn K cd23 "_law_sums_right" = true)
    (k23 : PySem.W.keepIn K (.ref f23) = true)
    (a24 : PySem.W.nsIn K mainGlobals "law" = some (some (.ref f24)))
    (l24 : K.lookup f24 = some ⟨oc24, od24, .func (PySem.W.fnOf "law" "law" (defArgs s_law) (defBody s_law) (defScope s_law) .none kV24 dc24 pm24 an24 cd24 ct24), sl24⟩)
    (c24 : PySem.W.codeIn K cd24 "law" = true)
    (k24 : PySem.W.keepIn K (.ref f24) = true)
    (a25 : PySem.W.findIn K (.ref C) "__init__" = some (some (.ref f25)))
    (i25 : PySem.W.isFn K (.ref f25) = true)
    (l25 : K.lookup f25 = some ⟨oc25, od25, .func (PySem.W.fnOf "__init__" "Tableau.__init__" (defArgs s_init) (defBody s_init) (defScope s_init) .none kV25 dc25 pm25 an25 cd25 ct25), sl25⟩)
    (c25 : PySem.W.codeIn K cd25 "Tableau.__init__" = true)
    (k25 : PySem.W.keepIn K (.ref f25) = true)
    (a26 : PySem.W.findIn K (.ref C) "entering" = some (some (.ref f26)))
    (i26 : PySem.W.isFn K (.ref f26) = true)
    (l26 : K.lookup f26 = some ⟨oc26, od26, .func (PySem.W.fnOf "entering" "Tableau.entering" (defArgs s_entering) (defBody s_entering) (defScope s_entering) .none kV26 dc26 pm26 an26 cd26 ct26), sl26⟩)
    (c26 : PySem.W.codeIn K cd26 "Tableau.entering" = true)
    (k26 : PySem.W.keepIn K (.ref f26) = true)
    (a27 : PySem.W.findIn K (.ref C) "leaving" = some (some (.ref f27)))
    (i27 : PySem.W.isFn K (.ref f27) = true)
    (l27 : K.lookup f27 = some ⟨oc27, od27, .func (PySem.W.fnOf "leaving" "Tableau.leaving" (defArgs s_leaving) (defBody s_leaving) (defScope s_leaving) .none kV27 dc27 pm27 an27 cd27 ct27), sl27⟩)
    (c27 : PySem.W.codeIn K cd27 "Tableau.leaving" = true)
    (k27 : PySem.W.keepIn K (.ref f27) = true)
    (a28 : PySem.W.findIn K (.ref C) "is_ahead" = some (some (.ref f28)))
    (i28 : PySem.W.isFn K (.ref f28) = true)
    (l28 : K.lookup f28 = some ⟨oc28, od28, .func (PySem.W.fnOf "is_ahead" "Tableau.is_ahead" (defArgs s_is_ahead) (defBody s_is_ahead) (defScope s_is_ahead) .none kV28 dc28 pm28 an28 cd28 ct28), sl28⟩)
    (c28 : PySem.W.codeIn K cd28 "Tableau.is_ahead" = true)
    (k28 : PySem.W.keepIn K (.ref f28) = true)
    (a29 : PySem.W.findIn K (.ref C) "turn" = some (some (.ref f29)))
    (i29 : PySem.W.isFn K (.ref f29) = true)
    (l29 : K.lookup f29 = some ⟨oc29, od29, .func (PySem.W.fnOf "turn" "Tableau.turn" (defArgs s_turn) (defBody s_turn) (defScope s_turn) .none kV29 dc29 pm29 an29 cd29 ct29), sl29⟩)
    (c29 : PySem.W.codeIn K cd29 "Tableau.turn" = true)
    (k29 : PySem.W.keepIn K (.ref f29) = true)
    (a30 : PySem.W.findIn K (.ref C) "value" = some (some (.ref f30)))
    (i30 : PySem.W.isFn K (.ref f30) = true)
    (l30 : K.lookup f30 = some ⟨oc30, od30, .func (PySem.W.fnOf "value" "Tableau.value" (defArgs s_value) (defBody s_value) (defScope s_value) .none kV30 dc30 pm30 an30 cd30 ct30), sl30⟩)
    (c30 : PySem.W.codeIn K cd30 "Tableau.value" = true)
    (k30 : PySem.W.keepIn K (.ref f30) = true)
    (pg : PySem.W.plainGet K C Str.empty = true)
    (hd : PySem.W.hasDictIn K C = true)
    (po : PySem.W.plainOver K C = true)
    (sa : PySem.W.findIn K (.ref C) "__setattr__" = some (some (.builtin "object.__setattr__")))
    (mk : PySem.W.makesIn K C = true)
    (kc : PySem.W.keepIn K (.ref C) = true)
    (n_rows : PySem.W.findIn K (.ref C) "rows" = some none)
    (n_basis : PySem.W.findIn K (.ref C) "basis" = some none)
    (n_wide : PySem.W.findIn K (.ref C) "wide" = some none)
    (n_bottom : PySem.W.findIn K (.ref C) "bottom" = some none)
    (z_len : PySem.W.nsIn K mainGlobals "len" = some none)
    (z_range : PySem.W.nsIn K mainGlobals "range" = some none)
    (z_sum : PySem.W.nsIn K mainGlobals "sum" = some none)
    (z_tuple : PySem.W.nsIn K mainGlobals "tuple" = some none)
    (z_list : PySem.W.nsIn K mainGlobals "list" = some none)
    (z_int : PySem.W.nsIn K mainGlobals "int" = some none)
    (z_min : PySem.W.nsIn K mainGlobals "min" = some none)
    (z_max : PySem.W.nsIn K mainGlobals "max" = some none)
    (z_zip : PySem.W.nsIn K mainGlobals "zip" = some none)
    (z_dict : PySem.W.nsIn K mainGlobals "dict" = some none)
    (z_enumerate : PySem.W.nsIn K mainGlobals "enumerate" = some none)
    (z_abs : PySem.W.nsIn K mainGlobals "abs" = some none)
    : ∃ fd : FuncData, (∀ (s : Shared) (v : Value), BindsTo s fd ⟨[v], []⟩ [("_law_script", v)]) ∧ ∀ base : Heap, K.In base → base.Ns mainGlobals mg → FnOk l.prog w K mg base CX0 6 fa fd ["_law_script"] (spLaw K) := by
  have e := hfa.symm.trans (PySem.W.mg_of X G a24)
  cases e
  have T : Bl mg := ⟨PySem.W.mg_none_of X G z_len, PySem.W.mg_none_of X G z_range, PySem.W.mg_none_of X G z_sum, PySem.W.mg_none_of X G z_tuple, PySem.W.mg_none_of X G z_list, PySem.W.mg_none_of X G z_int, PySem.W.mg_none_of X G z_min, PySem.W.mg_none_of X G z_max, PySem.W.mg_none_of X G z_zip, PySem.W.mg_none_of X G z_dict, PySem.W.mg_none_of X G z_enumerate, PySem.W.mg_none_of X G z_abs⟩
  have TC : TabC K C := ⟨⟨pg, hd, po, sa⟩, n_rows, n_basis, n_wide, n_bottom⟩
  have F0 := fun_mk (st := s_divisor_of) l0 c0 k0
  have b0 := F0.binds (ps := ["one", "other"]) fun _ _ _ _ _ _ us hl => match us, hl with | [_, _], _ => rfl
  have F1 := fun_mk (st := s_lowest) l1 c1 k1
  have b1 := F1.binds (ps := ["top", "bottom"]) fun _ _ _ _ _ _ us hl => match us, hl with | [_, _], _ => rfl
  have F2 := fun_mk (st := s_greatest) l2 c2 k2
  have b2 := F2.binds (ps := ["rows", "limits"]) fun _ _ _ _ _ _ us hl => match us, hl with | [_, _], _ => rfl
  have F3 := fun_mk (st := s_columns_of) l3 c3 k3
  have b3 := F3.binds (ps := ["question"]) fun _ _ _ _ _ _ us hl => match us, hl with | [_], _ => rfl
  have F4 := fun_mk (st := s_part) l4 c4 k4
  have b4 := F4.binds (ps := ["question", "tables"]) fun _ _ _ _ _ _ us hl => match us, hl with | [_, _], _ => rfl
  have F5 := fun_mk (st := s_over_least_parts) l5 c5 k5
  have b5 := F5.binds (ps := ["bottom", "numbers"]) fun _ _ _ _ _ _ us hl => match us, hl with | [_, _], _ => rfl
  have F6 := fun_mk (st := s_cover) l6 c6 k6
  have b6 := F6.binds (ps := ["question", "exponents"]) fun _ _ _ _ _ _ us hl => match us, hl with | [_, _], _ => rfl
  have F7 := fun_mk (st := s_lbox) l7 c7 k7
  have b7 := F7.binds (ps := ["_law_script", "_law_k"]) fun _ _ _ _ _ _ us hl => match us, hl with | [_, _], _ => rfl
  have F8 := fun_mk (st := s_ltake) l8 c8 k8
  have b8 := F8.binds (ps := ["_law_box_here", "_law_many"]) fun _ _ _ _ _ _ us hl => match us, hl with | [_, _], _ => rfl
  have F9 := fun_mk (st := s_lorder) l9 c9 k9
  have b9 := F9.binds (ps := ["_law_box_here", "_law_things"]) fun _ _ _ _ _ _ us hl => match us, hl with | [_, _], _ => rfl
  have F10 := fun_mk (st := s_lnames) l10 c10 k10
  have b10 := F10.binds (ps := ["_law_box_here", "_law_many"]) fun _ _ _ _ _ _ us hl => match us, hl with | [_, _], _ => rfl
  have F11 := fun_mk (st := s_lsome_columns) l11 c11 k11
  have b11 := F11.binds (ps := ["_law_box_here", "_law_names_here", "_law_many"]) fun _ _ _ _ _ _ us hl => match us, hl with | [_, _, _], _ => rfl
  have F12 := fun_mk (st := s_lany_tables) l12 c12 k12
  have b12 := F12.binds (ps := ["_law_box_here", "_law_names_here"]) fun _ _ _ _ _ _ us hl => match us, hl with | [_, _], _ => rfl
  have F13 := fun_mk (st := s_lear_tables) l13 c13 k13
  have b13 := F13.binds (ps := ["_law_box_here", "_law_names_here"]) fun _ _ _ _ _ _ us hl => match us, hl with | [_, _], _ => rfl
  have F14 := fun_mk (st := s_lring_tables) l14 c14 k14
  have b14 := F14.binds (ps := ["_law_box_here", "_law_names_here"]) fun _ _ _ _ _ _ us hl => match us, hl with | [_, _], _ => rfl
  have F15 := fun_mk (st := s_lquestion) l15 c15 k15
  have b15 := F15.binds (ps := ["_law_box_here", "_law_kind"]) fun _ _ _ _ _ _ us hl => match us, hl with | [_, _], _ => rfl
  have F16 := fun_mk (st := s_lcolumns) l16 c16 k16
  have b16 := F16.binds (ps := ["_law_question_here"]) fun _ _ _ _ _ _ us hl => match us, hl with | [_], _ => rfl
  have F17 := fun_mk (st := s_lexponents) l17 c17 k17
  have b17 := F17.binds (ps := ["_law_box_here", "_law_question_here"]) fun _ _ _ _ _ _ us hl => match us, hl with | [_, _], _ => rfl
  have F18 := fun_mk (st := s_lcover) l18 c18 k18
  have b18 := F18.binds (ps := ["_law_box_here", "_law_question_here"]) fun _ _ _ _ _ _ us hl => match us, hl with | [_, _], _ => rfl
  have F19 := fun_mk (st := s_lfitting) l19 c19 k19
  have b19 := F19.binds (ps := ["_law_box_here", "_law_question_here", "_law_exponents_here"]) fun _ _ _ _ _ _ us hl => match us, hl with | [_, _, _], _ => rfl
  have F20 := fun_mk (st := s_lno_less) l20 c20 k20
  have b20 := F20.binds (ps := ["_law_price", "_law_parts", "_law_much"]) fun _ _ _ _ _ _ us hl => match us, hl with | [_, _, _], _ => rfl
  have F21 := fun_mk (st := s_lone_right) l21 c21 k21
  have b21 := F21.binds (ps := ["_law_box_here", "_law_question_here", "_law_exponents_here", "_law_price"]) fun _ _ _ _ _ _ us hl => match us, hl with | [_, _, _, _], _ => rfl
  have F22 := fun_mk (st := s_lno_more) l22 c22 k22
  have b22 := F22.binds (ps := ["_law_one", "_law_other"]) fun _ _ _ _ _ _ us hl => match us, hl with | [_, _], _ => rfl
  have F23 := fun_mk (st := s_lsums_right) l23 c23 k23
  have b23 := F23.binds (ps := ["_law_box_here", "_law_question_here"]) fun _ _ _ _ _ _ us hl => match us, hl with | [_, _], _ => rfl
  have F24 := fun_mk (st := s_law) l24 c24 k24
  have b24 := F24.binds (ps := ["_law_script"]) fun _ _ _ _ _ _ us hl => match us, hl with | [_], _ => rfl
  have F25 := fun_mk (st := s_init) l25 c25 k25
  have b25 := F25.binds (ps := ["self", "rows", "limits"]) fun _ _ _ _ _ _ us hl => match us, hl with | [_, _, _], _ => rfl
  have F26 := fun_mk (st := s_entering) l26 c26 k26
  have b26 := F26.binds (ps := ["self"]) fun _ _ _ _ _ _ us hl => match us, hl with | [_], _ => rfl
  have F27 := fun_mk (st := s_leaving) l27 c27 k27
  have b27 := F27.binds (ps := ["self", "column"]) fun _ _ _ _ _ _ us hl => match us, hl with | [_, _], _ => rfl
  have F28 := fun_mk (st := s_is_ahead) l28 c28 k28
  have b28 := F28.binds (ps := ["self", "k", "best", "column"]) fun _ _ _ _ _ _ us hl => match us, hl with | [_, _, _, _], _ => rfl
  have F29 := fun_mk (st := s_turn) l29 c29 k29
  have b29 := F29.binds (ps := ["self", "k", "column"]) fun _ _ _ _ _ _ us hl => match us, hl with | [_, _, _], _ => rfl
  have F30 := fun_mk (st := s_value) l30 c30 k30
  have b30 := F30.binds (ps := ["self", "thing"]) fun _ _ _ _ _ _ us hl => match us, hl with | [_, _], _ => rfl
  refine ⟨PySem.W.fnOf "law" "law" (defArgs s_law) (defBody s_law) (defScope s_law) .none kV24 dc24 pm24 an24 cd24 ct24, fun s v => .of_eq rfl, fun base _ _ => ?_⟩
  have c_init : CalI l.prog w K mg base C 1 f25 _ ["self", "rows", "limits"] (spInit C) := ⟨⟨mk, a25, i25, kc⟩, ok_init F25 T TC, PySem.W.mg_of X G aC, b25⟩
  have c_entering : CalM l.prog w K mg base C 1 "entering" f26 _ ["self"] (spEnter C) := ⟨⟨a26, i26, k26⟩, ok_entering F26 T TC, b26⟩
  have c_is_ahead : CalM l.prog w K mg base C 1 "is_ahead" f28 _ ["self", "k", "best", "column"] (spAhead C) := ⟨⟨a28, i28, k28⟩, ok_ahead F28 T TC, b28⟩
  have c_leaving : CalM l.prog w K mg base C 2 "leaving" f27 _ ["self", "column"] (spLeave C) := ⟨⟨a27, i27, k27⟩, ok_leaving F27 T TC c_is_ahead, b27⟩
  have c_turn : CalM l.prog w K mg base C 1 "turn" f29 _ ["self", "k", "column"] (spTurn C) := ⟨⟨a29, i29, k29⟩, ok_turn F29 T TC, b29⟩
  have c_value : CalM l.prog w K mg base C 1 "value" f30 _ ["self", "thing"] (spValue C) := ⟨⟨a30, i30, k30⟩, ok_value F30 T TC, b30⟩
  have c_divisor_of : Cal l.prog w K mg base 1 "divisor_of" ["one", "other"] spDiv := ⟨_, _, ok_div F0 T, PySem.W.mg_of X G a0, k0, b0⟩
  have c_lowest : Cal l.prog w K mg base 2 "lowest" ["top", "bottom"] spLow := ⟨_, _, ok_low F1 T c_divisor_of, PySem.W.mg_of X G a1, k1, b1⟩
  have c_over_least_parts : Cal l.prog w K mg base 2 "over_least_parts" ["bottom", "numbers"] (spLeast K) := ⟨_, _, ok_least F5 T c_divisor_of, PySem.W.mg_of X G a5, k5, b5⟩
  have c_columns_of : Cal l.prog w K mg base 1 "columns_of" ["question"] (spCols .tup K) := ⟨_, _, ok_columns_of F3 T, PySem.W.mg_of X G a3, k3, b3⟩
  have c_part : Cal l.prog w K mg base 1 "part" ["question", "tables"] (spPart K) := ⟨_, _, ok_part F4 T, PySem.W.mg_of X G a4, k4, b4⟩
  have c_greatest : Cal l.prog w K mg base 3 "greatest" ["rows", "limits"] spGreat := ⟨_, _, ok_greatest F2 T TC c_init c_entering c_leaving c_turn c_value, PySem.W.mg_of X G a2, k2, b2⟩
  have c_cover : Cal l.prog w K mg base 4 "cover" ["question", "exponents"] (spCover K) := ⟨_, _, ok_cover F6 T c_columns_of c_greatest c_lowest c_over_least_parts, PySem.W.mg_of X G a6, k6, b6⟩
  have c_ltake : Cal l.prog w K mg base 1 "_law_take" ["_law_box_here", "_law_many"] spTake := ⟨_, _, ok_ltake F8 T, PySem.W.mg_of X G a8, k8, b8⟩
  have c_lbox : Cal l.prog w K mg base 1 "_law_box" ["_law_script", "_law_k"] (spBox K) := ⟨_, _, ok_lbox F7 T, PySem.W.mg_of X G a7, k7, b7⟩
  have c_lorder : Cal l.prog w K mg base 2 "_law_order" ["_law_box_here", "_law_things"] (spOrder K) := ⟨_, _, ok_lorder F9 T c_ltake, PySem.W.mg_of X G a9, k9, b9⟩
  have c_lnames : Cal l.prog w K mg base 2 "_law_names" ["_law_box_here", "_law_many"] spNames := ⟨_, _, ok_lnames F10 T c_ltake, PySem.W.mg_of X G a10, k10, b10⟩
  have c_lsome_columns : Cal l.prog w K mg base 3 "_law_some_columns" ["_law_box_here", "_law_names_here", "_law_many"] (spSome K) := ⟨_, _, ok_lsome_columns F11 T c_lorder, PySem.W.mg_of X G a11, k11, b11⟩
  have c_lany_tables : Cal l.prog w K mg base 4 "_law_any_tables" ["_law_box_here", "_law_names_here"] spTabs := ⟨_, _, ok_lany F12 T c_ltake c_lsome_columns, PySem.W.mg_of X G a12, k12, b12⟩
  have c_lear_tables : Cal l.prog w K mg base 4 "_law_ear_tables" ["_law_box_here", "_law_names_here"] spTabs := ⟨_, _, ok_lear F13 T c_ltake c_lsome_columns c_lorder, PySem.W.mg_of X G a13, k13, b13⟩
  have c_lring_tables : Cal l.prog w K mg base 4 "_law_ring_tables" ["_law_box_here", "_law_names_here"] spTabs := ⟨_, _, ok_lring F14 T c_ltake c_lsome_columns c_lorder, PySem.W.mg_of X G a14, k14, b14⟩
  have c_lquestion : Cal l.prog w K mg base 5 "_law_question" ["_law_box_here", "_law_kind"] spQuest := ⟨_, _, ok_lquestion F15 T c_ltake c_lnames c_lorder c_lany_tables c_lear_tables c_lring_tables, PySem.W.mg_of X G a15, k15, b15⟩
  have c_lcolumns : Cal l.prog w K mg base 1 "_law_columns" ["_law_question_here"] (spCols .lst K) := ⟨_, _, ok_lcolumns F16 T, PySem.W.mg_of X G a16, k16, b16⟩
  have c_lexponents : Cal l.prog w K mg base 2 "_law_exponents" ["_law_box_here", "_law_question_here"] (spExps K) := ⟨_, _, ok_lexps F17 T c_ltake, PySem.W.mg_of X G a17, k17, b17⟩
  have c_lcover : Cal l.prog w K mg base 2 "_law_cover" ["_law_box_here", "_law_question_here"] (spLCover K) := ⟨_, _, ok_lcover F18 T c_ltake c_lcolumns, PySem.W.mg_of X G a18, k18, b18⟩
  have c_lfitting : Cal l.prog w K mg base 2 "_law_fitting" ["_law_box_here", "_law_question_here", "_law_exponents_here"] (spFit K) := ⟨_, _, ok_lfitting F19 T c_ltake c_lcolumns, PySem.W.mg_of X G a19, k19, b19⟩
  have c_lno_less : Cal l.prog w K mg base 1 "_law_no_less" ["_law_price", "_law_parts", "_law_much"] (spNoLess K) := ⟨_, _, ok_lnoless F20 T, PySem.W.mg_of X G a20, k20, b20⟩
  have c_lno_more : Cal l.prog w K mg base 1 "_law_no_more" ["_law_one", "_law_other"] (spNoMore K) := ⟨_, _, ok_lnomore F22 T, PySem.W.mg_of X G a22, k22, b22⟩
  have c_lone_right : Cal l.prog w K mg base 3 "_law_one_right" ["_law_box_here", "_law_question_here", "_law_exponents_here", "_law_price"] (spOne K) := ⟨_, _, ok_lone F21 T c_lcover c_lfitting c_lno_less, PySem.W.mg_of X G a21, k21, b21⟩
  have c_lsums_right : Cal l.prog w K mg base 5 "_law_sums_right" ["_law_box_here", "_law_question_here"] (spSums K) := ⟨_, _, ok_lsums F23 T c_ltake c_cover c_lno_more, PySem.W.mg_of X G a23, k23, b23⟩
  exact ok_law F24 T c_lbox c_ltake c_lquestion c_lexponents c_cover c_lone_right c_lsums_right c_lcolumns c_lorder c_lno_more c_part
end MW
open PySem PySem.W PyProof.Rows
set_option maxHeartbeats 0 in
theorem PySem.Challenge.cw_mostrows_k33_whole_none_comes_to_less_holds : PySem.Challenge.rw_mostrows_k33_whole_none_comes_to_less.Holds := by
  w_on; o_law; k_head; (case hw => w_witness2)
  k_fill
  refine L2.walk_of (l := PySem.Challenge.rw_mostrows_k33_whole_none_comes_to_less) (n := 63) (k := 6) (x := "_law_script") (CX := fun _ => L2.CX0) (sp := fun w => MW.spLaw _) rfl (by decide) rfl ⟨rfl, by decide, by decide⟩ (fun w h Y => PySem.W.kIn_of Y) ?F (fun _ _ a ns hl _ hS => ⟨a, ns, rfl, hS, hl, fun _ => rfl⟩) (fun _ _ _ _ _ h => h)
  case F =>
    intro w mg fa h KX G hmg
    refine' MW.all_mk KX G hmg ?aC ?a0 ?l0 ?c0 ?k0 ?a1 ?l1 ?c1 ?k1 ?a2 ?l2 ?c2 ?k2 ?a3 ?l3 ?c3 ?k3 ?a4 ?l4 ?c4 ?k4 ?a5 ?l5 ?c5 ?k5 ?a6 ?l6 ?c6 ?k6 ?a7 ?l7 ?c7 ?k7 ?a8 ?l8 ?c8 ?k8 ?a9 ?l9 ?c9 ?k9 ?a10 ?l10 ?c10 ?k10 ?a11 ?l11 ?c11 ?k11 ?a12 ?l12 ?c12 ?k12 ?a13 ?l13 ?c13 ?k13 ?a14 ?l14 ?c14 ?k14 ?a15 ?l15 ?c15 ?k15 ?a16 ?l16 ?c16 ?k16 ?a17 ?l17 ?c17 ?k17 ?a18 ?l18 ?c18 ?k18 ?a19 ?l19 ?c19 ?k19 ?a20 ?l20 ?c20 ?k20 ?a21 ?l21 ?c21 ?k21 ?a22 ?l22 ?c22 ?k22 ?a23 ?l23 ?c23 ?k23 ?a24 ?l24 ?c24 ?k24 ?a25 ?i25 ?l25 ?c25 ?k25 ?a26 ?i26 ?l26 ?c26 ?k26 ?a27 ?i27 ?l27 ?c27 ?k27 ?a28 ?i28 ?l28 ?c28 ?k28 ?a29 ?i29 ?l29 ?c29 ?k29 ?a30 ?i30 ?l30 ?c30 ?k30 ?pg ?hd ?po ?sa ?mk ?kc ?n_rows ?n_basis ?n_wide ?n_bottom ?z_len ?z_range ?z_sum ?z_tuple ?z_list ?z_int ?z_min ?z_max ?z_zip ?z_dict ?z_enumerate ?z_abs
    (case aC => k_is)
    (case a0 => k_is)
    (case l0 => k_is)
    (case c0 => k_is)
    (case k0 => k_is)
    (case a1 => k_is)
    (case l1 => k_is)
    (case c1 => k_is)
    (case k1 => k_is)
    (case a2 => k_is)
    (case l2 => k_is)
    (case c2 => k_is)
    (case k2 => k_is)
    (case a3 => k_is)
    (case l3 => k_is)
    (case c3 => k_is)
    (case k3 => k_is)
    (case a4 => k_is)
    (case l4 => k_is)
    (case c4 => k_is)
    (case k4 => k_is)
    (case a5 => k_is)
    (case l5 => k_is)
    (case c5 => k_is)
    (case k5 => k_is)
    (case a6 => k_is)
    (case l6 => k_is)
    (case c6 => k_is)
    (case k6 => k_is)
    (case a7 => k_is)
    (case l7 => k_is)
    (case c7 => k_is)
    (case k7 => k_is)
    (case a8 => k_is)
    (case l8 => k_is)
    (case c8 => k_is)
    (case k8 => k_is)
    (case a9 => k_is)
    (case l9 => k_is)
    (case c9 => k_is)
    (case k9 => k_is)
    (case a10 => k_is)
    (case l10 => k_is)
    (case c10 => k_is)
    (case k10 => k_is)
    (case a11 => k_is)
    (case l11 => k_is)
    (case c11 => k_is)
    (case k11 => k_is)
    (case a12 => k_is)
    (case l12 => k_is)
    (case c12 => k_is)
    (case k12 => k_is)
    (case a13 => k_is)
    (case l13 => k_is)
    (case c13 => k_is)
    (case k13 => k_is)
    (case a14 => k_is)
    (case l14 => k_is)
    (case c14 => k_is)
    (case k14 => k_is)
    (case a15 => k_is)
    (case l15 => k_is)
    (case c15 => k_is)
    (case k15 => k_is)
    (case a16 => k_is)
    (case l16 => k_is)
    (case c16 => k_is)
    (case k16 => k_is)
    (case a17 => k_is)
    (case l17 => k_is)
    (case c17 => k_is)
    (case k17 => k_is)
    (case a18 => k_is)
    (case l18 => k_is)
    (case c18 => k_is)
    (case k18 => k_is)
    (case a19 => k_is)
    (case l19 => k_is)
    (case c19 => k_is)
    (case k19 => k_is)
    (case a20 => k_is)
    (case l20 => k_is)
    (case c20 => k_is)
    (case k20 => k_is)
    (case a21 => k_is)
    (case l21 => k_is)
    (case c21 => k_is)
    (case k21 => k_is)
    (case a22 => k_is)
    (case l22 => k_is)
    (case c22 => k_is)
    (case k22 => k_is)
    (case a23 => k_is)
    (case l23 => k_is)
    (case c23 => k_is)
    (case k23 => k_is)
    (case a24 => k_is)
    (case l24 => k_is)
    (case c24 => k_is)
    (case k24 => k_is)
    (case a25 => k_is)
    (case i25 => k_is)
    (case l25 => k_is)
    (case c25 => k_is)
    (case k25 => k_is)
    (case a26 => k_is)
    (case i26 => k_is)
    (case l26 => k_is)
    (case c26 => k_is)
    (case k26 => k_is)
    (case a27 => k_is)
    (case i27 => k_is)
    (case l27 => k_is)
    (case c27 => k_is)
    (case k27 => k_is)
    (case a28 => k_is)
    (case i28 => k_is)
    (case l28 => k_is)
    (case c28 => k_is)
    (case k28 => k_is)
    (case a29 => k_is)
    (case i29 => k_is)
    (case l29 => k_is)
    (case c29 => k_is)
    (case k29 => k_is)
    (case a30 => k_is)
    (case i30 => k_is)
    (case l30 => k_is)
    (case c30 => k_is)
    (case k30 => k_is)
    (case pg => k_is)
    (case hd => k_is)
    (case po => k_is)
    (case sa => k_is)
    (case mk => k_is)
    (case kc => k_is)
    (case n_rows => k_is)
    (case n_basis => k_is)
    (case n_wide => k_is)
    (case n_bottom => k_is)
    (case z_len => k_is)
    (case z_range => k_is)
    (case z_sum => k_is)
    (case z_tuple => k_is)
    (case z_list => k_is)
    (case z_int => k_is)
    (case z_min => k_is)
    (case z_max => k_is)
    (case z_zip => k_is)
    (case z_dict => k_is)
    (case z_enumerate => k_is)
    (case z_abs => k_is)
