import PyProof.Rows.All
import Wide.All
import OpenK.AllK
import Wide.FinOn
import HandS.ForMost
import HandS.Wide
import HandS.Star
import HandS.Flow
import HandS.Style
import HandS.TupMul
import HandS.Zip
import HandS.IsInst
import HandS.Deep
import HandS.Property
import HandS.Defaults
import KE.GoesNew
import KE.KTupSum
import KE.DataMinMax
import PyProof.Rows.RegStrFacts
import KE.KStateDown
import Lean
import HandS.Base
import HandS.Call
import HandS.Ends
import HandS.More
import HandS.Words
import HandS.WordsExc
import HandS.Head0
import HandS.Head1
import HandS.Head2
import HandS.HeadEnd
import HandS.HeadHook1
import HandS.HeadHook2
import PySem.Challenge.RW_softchances_k20_whole_corners_beside_wor
set_option Elab.async false
section
set_option linter.all false
namespace Ma
/-! finite sums -/
def sm : Nat → (Nat → Int) → Int
  | 0, _ => 0
  | n + 1, f => sm n f + f n
theorem sm_congr {n : Nat} {f g : Nat → Int} (h : ∀ k, k < n → f k = g k) : sm n f = sm n g := by
  induction n with
  | zero => rfl
  | succ n ih =>
    show sm n f + f n = sm n g + g n
    rw [ih (fun k hk => h k (Nat.lt_succ_of_lt hk)), h n (Nat.lt_succ_self n)]
theorem sm_add (n : Nat) (f g : Nat → Int) : sm n (fun k => f k + g k) = sm n f + sm n g := by
  induction n with
  | zero => rfl
  | succ n ih => show sm n _ + (f n + g n) = (sm n f + f n) + (sm n g + g n); rw [ih]; omega
theorem sm_sub (n : Nat) (f g : Nat → Int) : sm n (fun k => f k - g k) = sm n f - sm n g := by
  induction n with
  | zero => rfl
  | succ n ih => show sm n _ + (f n - g n) = (sm n f + f n) - (sm n g + g n); rw [ih]; omega
theorem sm_mul (n : Nat) (a : Int) (f : Nat → Int) : sm n (fun k => a * f k) = a * sm n f := by
  induction n with
  | zero => show (0 : Int) = a * 0; simp
  | succ n ih => show sm n _ + a * f n = a * (sm n f + f n); rw [ih, Int.mul_add]
theorem sm_mulr (n : Nat) (a : Int) (f : Nat → Int) : sm n (fun k => f k * a) = sm n f * a := by
  rw [Int.mul_comm, ← sm_mul]; exact sm_congr fun k _ => Int.mul_comm _ _
theorem sm_zero {n : Nat} {f : Nat → Int} (h : ∀ k, k < n → f k = 0) : sm n f = 0 := by
  rw [sm_congr h]
  induction n with
  | zero => rfl
  | succ n ih => show sm n _ + 0 = 0; rw [ih (fun k hk => h k (Nat.lt_succ_of_lt hk))]; rfl
theorem sm_neg (n : Nat) (f : Nat → Int) : sm n (fun k => - f k) = - sm n f := by
  induction n with
  | zero => rfl
  | succ n ih => show sm n _ + - f n = -(sm n f + f n); rw [ih]; omega
theorem sm_swap (n m : Nat) (f : Nat → Nat → Int) : sm n (fun i => sm m (fun j => f i j)) = sm m (fun j => sm n (fun i => f i j)) := by
  induction n with
  | zero => show (0 : Int) = _; exact (sm_zero fun _ _ => rfl).symm
  | succ n ih =>
    show sm n _ + sm m (fun j => f n j) = sm m (fun j => sm n (fun i => f i j) + f n j)
    rw [sm_add, ih]
theorem sm_one {n r : Nat} {f : Nat → Int} (hr : r < n) (h : ∀ k, k < n → k ≠ r → f k = 0) : sm n f = f r := by
  induction n with
  | zero => omega
  | succ n ih =>
    show sm n f + f n = f r
    by_cases e : r = n
    · subst e
      rw [sm_zero fun k hk => h k (Nat.lt_succ_of_lt hk) (by omega)]; omega
    · rw [ih (by omega) fun k hk => h k (Nat.lt_succ_of_lt hk), h n (Nat.lt_succ_self n) (fun q => e q.symm)]; omega
theorem sm_nonneg {n : Nat} {f : Nat → Int} (h : ∀ k, k < n → 0 ≤ f k) : 0 ≤ sm n f := by
  induction n with
  | zero => exact Int.le_refl 0
  | succ n ih => exact Int.add_nonneg (ih fun k hk => h k (Nat.lt_succ_of_lt hk)) (h n (Nat.lt_succ_self n))
theorem sm_le {n : Nat} {f g : Nat → Int} (h : ∀ k, k < n → f k ≤ g k) : sm n f ≤ sm n g := by
  induction n with
  | zero => exact Int.le_refl 0
  | succ n ih => exact Int.add_le_add (ih fun k hk => h k (Nat.lt_succ_of_lt hk)) (h n (Nat.lt_succ_self n))
theorem sm_pos_ex {n : Nat} {f : Nat → Int} (h : 0 < sm n f) : ∃ k, k < n ∧ 0 < f k := by
  induction n with
  | zero => exact absurd h (Int.lt_irrefl 0)
  | succ n ih =>
    by_cases q : 0 < f n
    · exact ⟨n, Nat.lt_succ_self n, q⟩
    · have h1 : 0 < sm n f + f n := h
      obtain ⟨k, hk, e⟩ := ih (by omega)
      exact ⟨k, Nat.lt_succ_of_lt hk, e⟩
/-! a place left out -/
def sk (k j : Nat) : Nat := if j < k then j else j + 1
theorem sk_sk {k j c : Nat} (h : k ≤ j) : sk k (sk j c) = sk (j + 1) (sk k c) := by
  unfold sk
  split <;> split <;> split <;> (try split) <;> omega
def sgn (k : Nat) : Int := if k % 2 = 0 then 1 else -1
theorem sgn_succ (k : Nat) : sgn (k + 1) = - sgn k := by
  unfold sgn
  split <;> split <;> omega
theorem sgn_abs (k : Nat) : (sgn k).natAbs = 1 := by
  unfold sgn; split <;> rfl
/-! determinants: v i k is the k-th place of the i-th vector; along the vector 0 -/
def det : (n : Nat) → (Nat → Nat → Int) → Int
  | 0, _ => 1
  | n + 1, v => sm (n + 1) fun k => sgn k * v 0 k * det n fun i c => v (i + 1) (sk k c)
theorem det_congr : ∀ {n : Nat} {v w : Nat → Nat → Int}, (∀ i k, i < n → k < n → v i k = w i k) → det n v = det n w
  | 0, _, _, _ => rfl
  | n + 1, v, w, h => sm_congr fun k hk => by
    rw [h 0 k (Nat.succ_pos n) hk, det_congr (n := n) (v := fun i c => v (i + 1) (sk k c)) (w := fun i c => w (i + 1) (sk k c)) fun i c hi hc => h (i + 1) (sk k c) (Nat.succ_lt_succ hi) (by unfold sk; split <;> omega)]
/-- one vector put in the place i -/
def put (v : Nat → Nat → Int) (i : Nat) (x : Nat → Int) : Nat → Nat → Int := fun j k => if j = i then x k else v j k
theorem put_same (v : Nat → Nat → Int) (i : Nat) (x : Nat → Int) : put v i x i = x := by funext k; unfold put; rw [if_pos rfl]
theorem put_ne {v : Nat → Nat → Int} {i j : Nat} {x : Nat → Int} (h : j ≠ i) : put v i x j = v j := by funext k; unfold put; rw [if_neg h]
theorem put_put (v : Nat → Nat → Int) (i : Nat) (x y : Nat → Int) : put (put v i x) i y = put v i y := by
  funext j k; unfold put; split <;> rfl
theorem put_comm {v : Nat → Nat → Int} {i j : Nat} {x y : Nat → Int} (h : i ≠ j) : put (put v i x) j y = put (put v j y) i x := by
  funext a k; unfold put
  by_cases h1 : a = j
  · subst h1; rw [if_pos rfl, if_neg (fun q => h q.symm), if_pos rfl]
  · rw [if_neg h1]
    by_cases h2 : a = i
    · rw [if_pos h2, if_pos h2]
    · rw [if_neg h2, if_neg h2, if_neg h1]
theorem put_self (v : Nat → Nat → Int) (i : Nat) : put v i (v i) = v := by
  funext j k; unfold put; split
  · rename_i h; rw [h]
  · rfl
theorem det_lin : ∀ {n : Nat} {v : Nat → Nat → Int} {i : Nat} {x y : Nat → Int} {a b : Int}, i < n → det n (put v i fun k => a * x k + b * y k) = a * det n (put v i x) + b * det n (put v i y)
  | 0, _, _, _, _, _, _, h => absurd h (Nat.not_lt_zero _)
  | n + 1, v, 0, x, y, a, b, _ => by
    unfold det
    rw [← sm_mul, ← sm_mul, ← sm_add]
    refine sm_congr fun k _ => ?_
    rw [put_same, put_same, put_same]
    have e : ∀ z : Nat → Int, (fun i c => put v 0 z (i + 1) (sk k c)) = fun i c => v (i + 1) (sk k c) := fun z => by
      funext i c; rw [put_ne (Nat.succ_ne_zero i)]
    rw [e, e, e]
    grind
  | n + 1, v, i + 1, x, y, a, b, h => by
    unfold det
    rw [← sm_mul, ← sm_mul, ← sm_add]
    refine sm_congr fun k _ => ?_
    have z0 : ∀ z : Nat → Int, put v (i + 1) z 0 = v 0 := fun z => put_ne (Nat.succ_ne_zero i).symm
    rw [z0, z0, z0]
    have e : ∀ z : Nat → Int, (fun j c => put v (i + 1) z (j + 1) (sk k c)) = put (fun j c => v (j + 1) (sk k c)) i (fun c => z (sk k c)) := fun z => by
      funext j c; unfold put
      by_cases q : j = i
      · rw [if_pos (by omega), if_pos q]
      · rw [if_neg (by omega), if_neg q]
    rw [e, e, e, det_lin (n := n) (i := i) (x := fun c => x (sk k c)) (y := fun c => y (sk k c)) (a := a) (b := b) (Nat.lt_of_succ_lt_succ h)]
    grind
/-- the double sum of a sign-turning table -/
theorem pairs_zero : ∀ (N : Nat) (F : Nat → Nat → Int), (∀ k j, k ≤ j → j < N → F (j + 1) k = - F k j) → sm (N + 1) (fun k => sm N fun j => F k j) = 0
  | 0, F, _ => rfl
  | N + 1, F, h => by
    have ih := pairs_zero N F fun k j hk hj => h k j hk (Nat.lt_succ_of_lt hj)
    have e1 : sm (N + 1) (fun k => sm (N + 1) fun j => F k j) = sm (N + 1) (fun k => sm N fun j => F k j) + sm (N + 1) fun k => F k N := by
      rw [← sm_add]; exact sm_congr fun k _ => rfl
    have e2 : sm (N + 1) (fun j => F (N + 1) j) = - sm (N + 1) fun j => F j N := by
      rw [← sm_neg]; exact sm_congr fun j hj => h j N (by omega) (by omega)
    show sm (N + 1) (fun k => sm (N + 1) fun j => F k j) + sm (N + 1) (fun j => F (N + 1) j) = 0
    rw [e1, e2, ih]; omega
theorem det_adj : ∀ {n : Nat} {v : Nat → Nat → Int} {i : Nat}, i + 1 < n → v i = v (i + 1) → det n v = 0
  | 0, _, _, h, _ => absurd h (Nat.not_lt_zero _)
  | 1, _, _, h, _ => absurd h (by omega)
  | n + 2, v, 0, _, e => by
    have q : det (n + 2) v = sm (n + 2) (fun k => sm (n + 1) fun j => (sgn k * v 0 k) * (sgn j * v 1 (sk k j) * det n fun i c => v (i + 2) (sk k (sk j c)))) := by
      refine sm_congr fun k _ => ?_
      rw [sm_mul]; rfl
    rw [q]
    refine pairs_zero (n + 1) _ fun k j hk hj => ?_
    have a1 : sk (j + 1) k = k := by unfold sk; rw [if_pos (by omega)]
    have a2 : sk k j = j + 1 := by unfold sk; rw [if_neg (by omega)]
    have a3 : (fun (i c : Nat) => v (i + 2) (sk (j + 1) (sk k c))) = fun i c => v (i + 2) (sk k (sk j c)) := by
      funext i c; rw [sk_sk hk]
    have e' : v 0 = v 1 := e
    show (sgn (j + 1) * v 0 (j + 1)) * (sgn k * v 1 (sk (j + 1) k) * det n fun i c => v (i + 2) (sk (j + 1) (sk k c))) = -((sgn k * v 0 k) * (sgn j * v 1 (sk k j) * det n fun i c => v (i + 2) (sk k (sk j c))))
    rw [a1, a2, a3, sgn_succ, ← e']
    generalize (det n fun i c => v (i + 2) (sk k (sk j c))) = d
    grind
  | n + 2, v, i + 1, h, e => by
    refine sm_zero fun k _ => ?_
    rw [det_adj (n := n + 1) (v := fun i c => v (i + 1) (sk k c)) (i := i) (by omega) (by funext c; exact congrFun e (sk k c))]
    simp
theorem det_add {n : Nat} {v : Nat → Nat → Int} {i : Nat} {x y : Nat → Int} (h : i < n) : det n (put v i fun k => x k + y k) = det n (put v i x) + det n (put v i y) := by
  have q := det_lin (n := n) (v := v) (i := i) (x := x) (y := y) (a := 1) (b := 1) h
  simpa using q
/-- adjacent places change their contents: the sign turns -/
theorem det_swap1 {n : Nat} {v : Nat → Nat → Int} {i : Nat} {x y : Nat → Int} (h : i + 1 < n) : det n (put (put v i x) (i + 1) y) = - det n (put (put v i y) (i + 1) x) := by
  have z := det_adj (n := n) (v := put (put v i fun k => x k + y k) (i + 1) fun k => x k + y k) (i := i) h (by
    rw [put_same, put_ne (by omega), put_same])
  rw [det_add h] at z
  have c1 : put (put v i fun k => x k + y k) (i + 1) x = put (put v (i + 1) x) i (fun k => x k + y k) := put_comm (by omega)
  have c2 : put (put v i fun k => x k + y k) (i + 1) y = put (put v (i + 1) y) i (fun k => x k + y k) := put_comm (by omega)
  rw [c1, c2, det_add (by omega), det_add (by omega)] at z
  have c3 : ∀ a b : Nat → Int, put (put v (i + 1) a) i b = put (put v i b) (i + 1) a := fun a b => put_comm (by omega)
  rw [c3, c3, c3, c3] at z
  have w : ∀ a : Nat → Int, det n (put (put v i a) (i + 1) a) = 0 := fun a => det_adj h (by rw [put_same, put_ne (by omega), put_same])
  rw [w, w] at z
  omega
/-- two equal vectors -/
theorem det_alt' {n : Nat} : ∀ (d : Nat) {v : Nat → Nat → Int} {i : Nat}, i + d + 1 < n → v i = v (i + d + 1) → det n v = 0
  | 0, v, i, h, e => det_adj h e
  | d + 1, v, i, h, e => by
    have s := det_swap1 (n := n) (v := v) (i := i + d + 1) (x := v (i + d + 1)) (y := v (i + d + 2)) (by omega)
    rw [put_self, put_self] at s
    rw [s]
    have q : det n (put (put v (i + d + 1) (v (i + d + 2))) (i + d + 1 + 1) (v (i + d + 1))) = 0 := det_alt' d (i := i) (by omega) (by
      rw [put_ne (by omega), put_ne (by omega), put_ne (by omega), put_same]
      exact e)
    rw [q]; rfl
theorem det_alt {n : Nat} {v : Nat → Nat → Int} {i j : Nat} (hi : i < n) (hj : j < n) (h : i ≠ j) (e : v i = v j) : det n v = 0 := by
  by_cases q : i < j
  · have w : j = i + (j - i - 1) + 1 := by omega
    exact det_alt' (j - i - 1) (i := i) (by omega) (by rw [← w]; exact e)
  · have w : i = j + (i - j - 1) + 1 := by omega
    exact det_alt' (i - j - 1) (i := j) (by omega) (by rw [← w]; exact e.symm)
theorem det_anti {n : Nat} {v : Nat → Nat → Int} {i j : Nat} {x y : Nat → Int} (hi : i < n) (hj : j < n) (h : i ≠ j) : det n (put (put v i x) j y) = - det n (put (put v i y) j x) := by
  have z := det_alt (n := n) (v := put (put v i fun k => x k + y k) j fun k => x k + y k) hi hj h (by
    rw [put_same, put_ne h, put_same])
  rw [det_add hj] at z
  have c1 : ∀ a b : Nat → Int, put (put v i a) j b = put (put v j b) i a := fun a b => put_comm h
  rw [c1, c1, det_add hi, det_add hi, ← c1, ← c1, ← c1, ← c1] at z
  have w : ∀ a : Nat → Int, det n (put (put v i a) j a) = 0 := fun a => det_alt hi hj h (by rw [put_same, put_ne h, put_same])
  rw [w, w] at z
  omega
theorem det_sum {n : Nat} {v : Nat → Nat → Int} {i : Nat} (h : i < n) : ∀ (M : Nat) (a : Nat → Int) (x : Nat → Nat → Int), det n (put v i fun k => sm M fun r => a r * x r k) = sm M fun r => a r * det n (put v i (x r))
  | 0, a, x => by
    have q := det_lin (n := n) (v := v) (i := i) (x := fun _ => 0) (y := fun _ => 0) (a := 0) (b := 0) h
    simpa [sm] using q
  | M + 1, a, x => by
    have q := det_lin (n := n) (v := v) (i := i) (x := fun k => sm M fun r => a r * x r k) (y := x M) (a := 1) (b := a M) h
    simp only [Int.one_mul] at q
    show det n (put v i fun k => (sm M fun r => a r * x r k) + a M * x M k) = (sm M fun r => a r * det n (put v i (x r))) + a M * det n (put v i (x M))
    rw [q, det_sum h M a x]
/-- the unit vectors -/
def un (i k : Nat) : Int := if k = i then 1 else 0
theorem det_un : ∀ n : Nat, det n un = 1
  | 0 => rfl
  | n + 1 => by
    have q : det (n + 1) un = sgn 0 * un 0 0 * det n fun i c => un (i + 1) (sk 0 c) := sm_one (f := fun k => sgn k * un 0 k * det n fun i c => un (i + 1) (sk k c)) (Nat.succ_pos n) fun k _ hk => by
      show sgn k * un 0 k * _ = 0
      unfold un
      rw [if_neg hk]; simp
    rw [q]
    have e : det n (fun i c => un (i + 1) (sk 0 c)) = det n un := det_congr fun i k _ _ => by
      unfold un sk
      by_cases h : k = i
      · rw [if_pos h, if_neg (Nat.not_lt_zero _), if_pos (by omega)]
      · rw [if_neg h, if_neg (Nat.not_lt_zero _), if_neg (by omega)]
    rw [e, det_un n]
    rfl
end Ma
end
section
set_option linter.all false
namespace Ma
theorem sm_succ (n : Nat) (f : Nat → Int) : sm (n + 1) f = sm n f + f n := rfl
theorem sm_two {n r i : Nat} {f : Nat → Int} (hr : r < n) (hi : i < n) (ne : r ≠ i) (h : ∀ k, k < n → k ≠ r → k ≠ i → f k = 0) : sm n f = f r + f i := by
  have e : sm n f = sm n (fun k => (if k = r then f r else 0) + (if k = i then f i else 0)) := sm_congr fun k hk => by
    by_cases h1 : k = r
    · subst h1; rw [if_pos rfl, if_neg ne]; omega
    · by_cases h2 : k = i
      · subst h2; rw [if_neg h1, if_pos rfl]; omega
      · rw [if_neg h1, if_neg h2, h k hk h1 h2]; rfl
  rw [e, sm_add, sm_one (f := fun k => if k = r then f r else 0) hr fun k _ q => if_neg q, sm_one (f := fun k => if k = i then f i else 0) hi fun k _ q => if_neg q]
  show (if r = r then f r else 0) + (if i = i then f i else 0) = _
  rw [if_pos rfl, if_pos rfl]
/-- a state: the table, its unit, the variable of each row -/
structure Ts where
  T : Nat → Nat → Int
  u : Int
  b : Nat → Nat
section
/-- m rows, z asked numbers, z + m columns and the bounds behind them; A the first table -/
structure Pr (m z : Nat) (A : Nat → Nat → Int) : Prop where
  slack : ∀ k i, k ≤ m → i < m → A k (z + i) = un i k
  rhs : ∀ k, k < m → 0 ≤ A k (z + m)
  last : A m (z + m) = 0
variable {m z : Nat} {A : Nat → Nat → Int}
def col (A : Nat → Nat → Int) (c : Nat) : Nat → Int := fun k => A k c
/-- the basis' vectors -/
def bv (m : Nat) (A : Nat → Nat → Int) (b : Nat → Nat) : Nat → Nat → Int := fun i k => if i < m then A k (b i) else un m k
structure Good (m z : Nat) (A : Nat → Nat → Int) (s : Ts) : Prop where
  hu : 0 < s.u
  hb : ∀ i, i < m → s.b i < z + m
  du : s.u = det (m + 1) (bv m A s.b)
  dT : ∀ i c, i ≤ m → c ≤ z + m → s.T i c = det (m + 1) (put (bv m A s.b) i (col A c))
  cr : ∀ c k, c ≤ z + m → k ≤ m → s.u * A k c = sm (m + 1) fun i => s.T i c * bv m A s.b i k
  fe : ∀ i, i < m → 0 ≤ s.T i (z + m)
theorem bv_lt {b : Nat → Nat} {i : Nat} (h : i < m) : bv m A b i = col A (b i) := by funext k; unfold bv col; rw [if_pos h]
theorem bv_m {b : Nat → Nat} : bv m A b m = un m := by funext k; unfold bv; rw [if_neg (Nat.lt_irrefl _)]
theorem bv_put {b : Nat → Nat} {r p : Nat} (h : r < m) : bv m A (fun i => if i = r then p else b i) = put (bv m A b) r (col A p) := by
  funext i k
  unfold put
  by_cases e : i = r
  · subst e; rw [if_pos rfl]; unfold bv col; rw [if_pos h]; simp only [if_true]
  · rw [if_neg e]; unfold bv; split
    · simp only [if_neg e]
    · rfl
/-- the basic columns are unit columns -/
theorem Good.unit {s : Ts} (g : Good m z A s) {i j : Nat} (hi : i ≤ m) (hj : j < m) : s.T i (s.b j) = if i = j then s.u else 0 := by
  rw [g.dT i (s.b j) hi (Nat.le_of_lt (g.hb j hj)), ← bv_lt (A := A) (b := s.b) hj]
  by_cases e : i = j
  · subst e
    rw [if_pos rfl, put_self, g.du]
  · rw [if_neg e]
    exact det_alt (i := i) (j := j) (by omega) (by omega) e (by rw [put_same, put_ne fun q => e q.symm])
theorem Good.inj {s : Ts} (g : Good m z A s) {i j : Nat} (hi : i < m) (hj : j < m) (e : s.b i = s.b j) : i = j := by
  by_cases q : i = j
  · exact q
  · exfalso
    have h1 := g.unit (i := i) (j := i) (Nat.le_of_lt hi) hi
    have h2 := g.unit (i := i) (j := j) (Nat.le_of_lt hi) hj
    rw [if_pos rfl] at h1
    rw [if_neg q, ← e, h1] at h2
    have := g.hu
    omega
/-- the exchange, before the division -/
theorem Good.ex {s : Ts} (g : Good m z A s) {r p i c : Nat} (hr : r < m) (hp : p < z + m) (hi : i ≤ m) (ne : i ≠ r) (hc : c ≤ z + m) :
    s.u * det (m + 1) (put (put (bv m A s.b) r (col A p)) i (col A c)) = s.T r p * s.T i c - s.T i p * s.T r c := by
  have hr' : r < m + 1 := by omega
  have hi' : i < m + 1 := by omega
  have c1 : put (put (bv m A s.b) r (col A p)) i (col A c) = put (put (bv m A s.b) i (col A c)) r (col A p) := put_comm fun q => ne q.symm
  have l1 := det_lin (n := m + 1) (v := put (bv m A s.b) i (col A c)) (i := r) (x := col A p) (y := fun _ => 0) (a := s.u) (b := 0) hr'
  have l2 : det (m + 1) (put (put (bv m A s.b) i (col A c)) r fun k => s.u * col A p k + 0 * (0 : Int)) = s.u * det (m + 1) (put (put (bv m A s.b) i (col A c)) r (col A p)) := by
    rw [l1]; simp
  rw [c1, ← l2]
  have l3 : det (m + 1) (put (put (bv m A s.b) i (col A c)) r fun k => s.u * col A p k + 0 * (0 : Int)) = det (m + 1) (put (put (bv m A s.b) i (col A c)) r fun k => sm (m + 1) fun j => s.T j p * bv m A s.b j k) := by
    refine det_congr fun a k _ hk => ?_
    unfold put
    split
    · have := g.cr p k (Nat.le_of_lt hp) (by omega)
      show s.u * A k p + 0 * 0 = _
      rw [this]; simp
    · rfl
  rw [l3, det_sum hr']
  rw [sm_two (r := r) (i := i) hr' hi' (fun q => ne q.symm) fun j hj n1 n2 => ?_]
  · have e1 : put (put (bv m A s.b) i (col A c)) r (bv m A s.b r) = put (bv m A s.b) i (col A c) := by
      rw [put_comm ne, put_self]
    have e2 : det (m + 1) (put (put (bv m A s.b) i (col A c)) r (bv m A s.b i)) = - s.T r c := by
      rw [det_anti hi' hr' ne, put_self, g.dT r c (Nat.le_of_lt hr) hc]
    rw [e1, e2, ← g.dT i c hi hc]
    grind
  · have z0 : det (m + 1) (put (put (bv m A s.b) i (col A c)) r (bv m A s.b j)) = 0 := det_alt (i := r) (j := j) hr' hj (fun q => n1 q.symm) (by
      rw [put_same, put_ne n1, put_ne n2])
    rw [z0]; simp
/-- what comes of an exchange -/
structure Next (m z : Nat) (s : Ts) (p r : Nat) (s' : Ts) : Prop where
  u : s'.u = s.T r p
  T : ∀ i c, i ≤ m → c ≤ z + m → s'.T i c = if i = r then s.T r c else (s.T r p * s.T i c - s.T i p * s.T r c) / s.u
  b : ∀ i, i < m → s'.b i = if i = r then p else s.b i
theorem bv_congr {b b' : Nat → Nat} (h : ∀ i, i < m → b i = b' i) : bv m A b = bv m A b' := by
  funext i k; unfold bv; split
  · rename_i q; rw [h i q]
  · rfl
/-- first the number that goes in -/
structure Ent (m z : Nat) (s : Ts) (p : Nat) : Prop where
  lt : p < z + m
  neg : s.T m p < 0
  first : ∀ j, j < p → 0 ≤ s.T m j
structure Lev (m z : Nat) (s : Ts) (p r : Nat) : Prop where
  lt : r < m
  pos : 0 < s.T r p
  min : ∀ i, i < m → 0 < s.T i p → s.T r (z + m) * s.T i p < s.T i (z + m) * s.T r p ∨ (s.T r (z + m) * s.T i p = s.T i (z + m) * s.T r p ∧ s.b r ≤ s.b i)
theorem Next.exact {s s' : Ts} (g : Good m z A s) {p r : Nat} (hr : r < m) (hp : p < z + m) (n : Next m z s p r s') {i c : Nat} (hi : i ≤ m) (ne : i ≠ r) (hc : c ≤ z + m) :
    s.u * s'.T i c = s.T r p * s.T i c - s.T i p * s.T r c := by
  have e := g.ex hr hp hi ne hc
  rw [n.T i c hi hc, if_neg ne, ← e, Int.mul_ediv_cancel_left _ (by have := g.hu; omega)]
theorem Next.good {s s' : Ts} (g : Good m z A s) {p r : Nat} (hl : Lev m z s p r) (hp : p < z + m) (n : Next m z s p r s') : Good m z A s' := by
  have hr := hl.lt
  have eb : bv m A s'.b = put (bv m A s.b) r (col A p) := by
    rw [← bv_put hr]; exact bv_congr n.b
  have u0 : s.u ≠ 0 := by have := g.hu; omega
  have dT : ∀ i c, i ≤ m → c ≤ z + m → s'.T i c = det (m + 1) (put (bv m A s'.b) i (col A c)) := fun i c hi hc => by
    rw [eb]
    by_cases e : i = r
    · subst e
      rw [put_put, ← g.dT i c hi hc, n.T i c hi hc, if_pos rfl]
    · have h1 := n.exact g hr hp hi e hc
      rw [← g.ex hr hp hi e hc] at h1
      exact Int.eq_of_mul_eq_mul_left u0 h1
  refine ⟨by rw [n.u]; exact hl.pos, fun i hi => ?_, ?_, dT, fun c k hc hk => ?_, fun i hi => ?_⟩
  · rw [n.b i hi]; split
    · exact hp
    · exact g.hb i hi
  · rw [n.u, eb, g.dT r p (Nat.le_of_lt hr) (Nat.le_of_lt hp)]
  · refine Int.eq_of_mul_eq_mul_left u0 ?_
    rw [n.u, ← sm_mul, eb]
    have e1 : sm (m + 1) (fun i => s.u * (s'.T i c * put (bv m A s.b) r (col A p) i k)) = sm (m + 1) (fun i => s.T r p * (s.T i c * bv m A s.b i k) + ((- s.T r c) * (s.T i p * bv m A s.b i k) + (if i = r then s.u * s.T r c * A k p else 0))) := sm_congr fun i hi => by
      by_cases e : i = r
      · subst e
        rw [put_same, if_pos rfl, n.T i c (by omega) hc, if_pos rfl]
        show s.u * (s.T i c * A k p) = _
        grind
      · rw [put_ne e, if_neg e, ← Int.mul_assoc, n.exact g hr hp (by omega) e hc]
        grind
    rw [e1, sm_add, sm_add, sm_mul, sm_mul, ← g.cr c k hc hk, ← g.cr p k (Nat.le_of_lt hp) hk, sm_one (r := r) (by omega) fun i _ q => if_neg q, if_pos rfl]
    grind
  · by_cases e : i = r
    · subst e
      rw [n.T i _ (Nat.le_of_lt hi) (Nat.le_refl _), if_pos rfl]; exact g.fe i hi
    · have h1 := n.exact g hr hp (Nat.le_of_lt hi) e (Nat.le_refl (z + m))
      have h2 : 0 ≤ s.T r p * s.T i (z + m) - s.T i p * s.T r (z + m) := by
        by_cases q : 0 < s.T i p
        · rcases hl.min i hi q with w | ⟨w, _⟩ <;> grind
        · have a1 : 0 ≤ s.T r p * s.T i (z + m) := Int.mul_nonneg (Int.le_of_lt hl.pos) (g.fe i hi)
          have a2 : 0 ≤ (- s.T i p) * s.T r (z + m) := Int.mul_nonneg (by omega) (g.fe r hr)
          rw [Int.neg_mul] at a2
          omega
      rw [← h1] at h2
      exact Int.nonneg_of_mul_nonneg_right h2 g.hu
/-- the row of the value, by its multiples -/
theorem Good.row {s : Ts} (P : Pr m z A) (g : Good m z A s) {c : Nat} (hc : c ≤ z + m) : s.T m c = (sm m fun k => s.T m (z + k) * A k c) + s.u * A m c := by
  have e : det (m + 1) (put (bv m A s.b) m (col A c)) = det (m + 1) (put (bv m A s.b) m fun k => sm (m + 1) fun j => A j c * un j k) := by
    refine det_congr fun a k _ hk => ?_
    unfold put
    split
    · show A k c = sm (m + 1) fun j => A j c * un j k
      rw [sm_one (r := k) hk fun j _ q => by
        show A j c * un j k = 0
        unfold un; rw [if_neg fun w => q w.symm]; simp]
      unfold un; rw [if_pos rfl]; simp
    · rfl
  rw [g.dT m c (Nat.le_refl _) hc, e, det_sum (Nat.lt_succ_self m), sm_succ]
  have e2 : put (bv m A s.b) m (un m) = bv m A s.b := by rw [← bv_m (A := A) (b := s.b), put_self]
  rw [e2, ← g.du, Int.mul_comm (A m c)]
  congr 1
  refine sm_congr fun k hk => ?_
  rw [g.dT m (z + k) (Nat.le_refl _) (by omega)]
  have e3 : det (m + 1) (put (bv m A s.b) m (un k)) = det (m + 1) (put (bv m A s.b) m (col A (z + k))) := det_congr fun a j _ hj => by
    unfold put
    split
    · exact (P.slack j k (by omega) hk).symm
    · rfl
  rw [e3, Int.mul_comm]
/-- the first state -/
theorem good0 (P : Pr m z A) {s : Ts} (hT : ∀ i c, i ≤ m → c ≤ z + m → s.T i c = A i c) (hu : s.u = 1) (hb : ∀ i, i < m → s.b i = z + i) : Good m z A s := by
  have eb : ∀ i k, i < m + 1 → k < m + 1 → bv m A s.b i k = un i k := fun i k hi hk => by
    unfold bv
    split
    · rename_i q; rw [hb i q]; exact P.slack k i (by omega) q
    · rw [show i = m by omega]
  refine ⟨by rw [hu]; decide, fun i hi => by rw [hb i hi]; omega, ?_, fun i c hi hc => ?_, fun c k hc hk => ?_, fun i hi => by rw [hT i _ (Nat.le_of_lt hi) (Nat.le_refl _)]; exact P.rhs i hi⟩
  · rw [hu, det_congr eb, det_un]
  · have e : det (m + 1) (put (bv m A s.b) i (col A c)) = det (m + 1) (put un i fun k => sm (m + 1) fun j => A j c * un j k) := by
      refine det_congr fun a k ha hk => ?_
      unfold put
      split
      · show A k c = sm (m + 1) fun j => A j c * un j k
        rw [sm_one (r := k) hk fun j _ q => by
          show A j c * un j k = 0
          unfold un; rw [if_neg fun w => q w.symm]; simp]
        unfold un; rw [if_pos rfl]; simp
      · exact eb a k ha hk
    rw [e, det_sum (by omega), hT i c hi hc]
    rw [sm_one (r := i) (by omega) fun j hj q => by
      rw [det_alt (i := i) (j := j) (by omega) hj (fun w => q w.symm) (by rw [put_same, put_ne q])]; simp]
    rw [put_self, det_un]; simp
  · rw [hu, sm_congr (g := fun i => A i c * un i k) fun i hi => by rw [hT i c (by omega) hc, eb i k hi (by omega)]]
    rw [sm_one (r := k) (by omega) fun j _ q => by
      show A j c * un j k = 0
      unfold un; rw [if_neg fun w => q w.symm]; simp]
    unfold un; rw [if_pos rfl]; simp
end
end Ma
end
section
set_option linter.all false
namespace Ma
/-- a table with values below C has a value twice -/
theorem pigeon {C : Nat} {f : Nat → Nat} (h : ∀ n, f n < C) : ∃ i j, i < j ∧ f i = f j := by
  refine Classical.byContradiction fun q => ?_
  have inj : ∀ i j, i < j → f i ≠ f j := fun i j hij e => q ⟨i, j, hij, e⟩
  have nd : ((List.range (C + 1)).map f).Nodup := by
    rw [List.nodup_iff_pairwise_ne, List.pairwise_map]
    refine List.Pairwise.imp (R := fun a b => a < b) (fun {a b} hab => inj a b hab) ?_
    exact List.pairwise_lt_range
  have sub : ((List.range (C + 1)).map f) ⊆ List.range C := fun x hx => by
    obtain ⟨n, _, rfl⟩ := List.mem_map.mp hx
    exact List.mem_range.mpr (h n)
  have := nd.length_le_of_subset sub
  simp at this
  omega
/-- a basis as a number -/
def code (N : Nat) (b : Nat → Nat) : Nat → Nat
  | 0 => 0
  | k + 1 => code N b k * N + b k
theorem code_lt {N : Nat} {b : Nat → Nat} : ∀ {m : Nat}, (∀ i, i < m → b i < N) → code N b m < N ^ m
  | 0, _ => Nat.one_pos
  | m + 1, h => by
    have h1 := code_lt (m := m) fun i hi => h i (Nat.lt_succ_of_lt hi)
    have h2 := h m (Nat.lt_succ_self m)
    show code N b m * N + b m < N ^ (m + 1)
    rw [Nat.pow_succ]
    have h3 : (code N b m + 1) * N ≤ N ^ m * N := Nat.mul_le_mul_right N h1
    rw [Nat.add_mul] at h3
    omega
theorem code_inj {N : Nat} {b c : Nat → Nat} : ∀ {m : Nat}, (∀ i, i < m → b i < N) → (∀ i, i < m → c i < N) → code N b m = code N c m → ∀ i, i < m → b i = c i
  | 0, _, _, _, i, hi => absurd hi (Nat.not_lt_zero _)
  | m + 1, hb, hc, e, i, hi => by
    have h1 := hb m (Nat.lt_succ_self m)
    have h2 := hc m (Nat.lt_succ_self m)
    have e' : code N b m * N + b m = code N c m * N + c m := e
    have e1 : b m = c m := by
      have q1 : (code N b m * N + b m) % N = b m := by rw [Nat.mul_comm, Nat.mul_add_mod, Nat.mod_eq_of_lt h1]
      have q2 : (code N c m * N + c m) % N = c m := by rw [Nat.mul_comm, Nat.mul_add_mod, Nat.mod_eq_of_lt h2]
      rw [← q1, e', q2]
    have e2 : code N b m = code N c m := by
      have : code N b m * N = code N c m * N := by omega
      exact Nat.eq_of_mul_eq_mul_right (by omega) this
    by_cases q : i = m
    · rw [q]; exact e1
    · exact code_inj (fun i hi => hb i (Nat.lt_succ_of_lt hi)) (fun i hi => hc i (Nat.lt_succ_of_lt hi)) e2 i (by omega)
section
variable {m z : Nat} {A : Nat → Nat → Int}
/-- two states whose bases are alike are alike -/
theorem Good.alike {s s' : Ts} (g : Good m z A s) (g' : Good m z A s') (h : ∀ i, i < m → s.b i = s'.b i) : s.u = s'.u ∧ ∀ i c, i ≤ m → c ≤ z + m → s.T i c = s'.T i c := by
  have e := bv_congr (A := A) h
  exact ⟨by rw [g.du, g'.du, e], fun i c hi hc => by rw [g.dT i c hi hc, g'.dT i c hi hc, e]⟩
theorem Ent.uniq {s s' : Ts} {p p' : Nat} (h : ∀ c, c ≤ z + m → s.T m c = s'.T m c) (e : Ent m z s p) (e' : Ent m z s' p') : p = p' := by
  rcases Nat.lt_trichotomy p p' with q | q | q
  · have := e'.first p q
    have h1 := e.neg
    rw [h p (Nat.le_of_lt e.lt)] at h1
    omega
  · exact q
  · have := e.first p' q
    have h1 := e'.neg
    rw [← h p' (Nat.le_of_lt e'.lt)] at h1
    omega
theorem Lev.uniq {s s' : Ts} {p r r' : Nat} (g : Good m z A s) (hp : p ≤ z + m) (h : ∀ i c, i ≤ m → c ≤ z + m → s.T i c = s'.T i c) (hb : ∀ i, i < m → s.b i = s'.b i) (e : Lev m z s p r) (e' : Lev m z s' p r') : r = r' := by
  have hr := e.lt
  have hr' := e'.lt
  have a1 := e.min r' hr' (by rw [h r' p (Nat.le_of_lt hr') hp]; exact e'.pos)
  have a2 := e'.min r hr (by rw [← h r p (Nat.le_of_lt hr) hp]; exact e.pos)
  rw [← h r' p (Nat.le_of_lt hr') hp, ← h r p (Nat.le_of_lt hr) hp, ← h r' _ (Nat.le_of_lt hr') (Nat.le_refl _), ← h r _ (Nat.le_of_lt hr) (Nat.le_refl _), ← hb r hr, ← hb r' hr'] at a2
  rcases a1 with a1 | ⟨a1, b1⟩
  · rcases a2 with a2 | ⟨a2, _⟩ <;> omega
  · rcases a2 with a2 | ⟨_, b2⟩
    · omega
    · exact g.inj hr hr' (Nat.le_antisymm b1 b2)
/-- the row of the value of another state, at the column that goes in -/
theorem key {s t : Ts} (P : Pr m z A) (g : Good m z A s) (h : Good m z A t) {c : Nat} (hc : c < z + m) :
    s.u * t.T m c = (sm m fun i => s.T i c * t.T m (s.b i)) + t.u * s.T m c := by
  have hc' := Nat.le_of_lt hc
  have r0 := h.row P hc'
  have r1 : (sm m fun i => s.T i c * t.T m (s.b i)) = sm m fun i => s.T i c * ((sm m fun k => t.T m (z + k) * A k (s.b i)) + t.u * A m (s.b i)) := sm_congr fun i hi => by
    rw [h.row P (Nat.le_of_lt (g.hb i hi))]
  have r2 : (sm m fun i => s.T i c * ((sm m fun k => t.T m (z + k) * A k (s.b i)) + t.u * A m (s.b i))) = (sm m fun k => t.T m (z + k) * sm m fun i => s.T i c * A k (s.b i)) + t.u * sm m fun i => s.T i c * A m (s.b i) := by
    rw [← sm_mul, show (sm m fun k => t.T m (z + k) * sm m fun i => s.T i c * A k (s.b i)) = sm m fun i => sm m fun k => t.T m (z + k) * (s.T i c * A k (s.b i)) by
      rw [sm_swap]; exact sm_congr fun k _ => by rw [sm_mul], ← sm_add]
    refine sm_congr fun i _ => ?_
    rw [Int.mul_add, ← sm_mul]
    congr 1
    · exact sm_congr fun k _ => by grind
    · grind
  have r3 : ∀ k, k < m → (sm m fun i => s.T i c * A k (s.b i)) = s.u * A k c := fun k hk => by
    rw [g.cr c k hc' (Nat.le_of_lt hk), sm_succ]
    have e : bv m A s.b m k = 0 := by rw [bv_m]; unfold un; rw [if_neg (by omega)]
    rw [e, Int.mul_zero, Int.add_zero]
    exact sm_congr fun i hi => by rw [bv_lt hi]; rfl
  have r4 : (sm m fun i => s.T i c * A m (s.b i)) + s.T m c = s.u * A m c := by
    rw [g.cr c m hc' (Nat.le_refl _), sm_succ]
    have e : bv m A s.b m m = 1 := by rw [bv_m]; unfold un; rw [if_pos rfl]
    rw [e, Int.mul_one]
    congr 1
    exact sm_congr fun i hi => by rw [bv_lt hi]; rfl
  rw [r1, r2, r0]
  have r5 : (sm m fun k => t.T m (z + k) * sm m fun i => s.T i c * A k (s.b i)) = s.u * sm m fun k => t.T m (z + k) * A k c := by
    rw [← sm_mul]
    exact sm_congr fun k hk => by rw [r3 k hk]; grind
  rw [r5]
  have r6 : (sm m fun i => s.T i c * A m (s.b i)) = s.u * A m c - s.T m c := by omega
  rw [r6]
  grind
/-- the value does not fall; where it stands still, the row that leaves has none -/
theorem Next.val {s s' : Ts} (g : Good m z A s) {p r : Nat} (he : Ent m z s p) (hl : Lev m z s p r) (n : Next m z s p r s') :
    s.T m (z + m) * s'.u ≤ s'.T m (z + m) * s.u ∧ (s.T m (z + m) * s'.u = s'.T m (z + m) * s.u → s.T r (z + m) = 0) := by
  have e := n.exact g hl.lt he.lt (Nat.le_refl m) (by have := hl.lt; omega) (Nat.le_refl (z + m))
  have f := g.fe r hl.lt
  have w : 0 ≤ (- s.T m p) * s.T r (z + m) := Int.mul_nonneg (by have := he.neg; omega) f
  rw [n.u]
  refine ⟨by grind, fun q => ?_⟩
  have w2 : (- s.T m p) * s.T r (z + m) = 0 := by grind
  rcases Int.mul_eq_zero.mp w2 with h | h
  · have := he.neg; omega
  · exact h
/-- a first time from n on -/
theorem first_time {Q : Nat → Prop} {n : Nat} (h : ∃ k, n ≤ k ∧ Q k) : ∃ k, n ≤ k ∧ Q k ∧ ∀ j, n ≤ j → j < k → ¬ Q j := by
  obtain ⟨k, hk, q⟩ := h
  induction k using Nat.strongRecOn with
  | _ k ih =>
    by_cases e : ∃ j, n ≤ j ∧ j < k ∧ Q j
    · obtain ⟨j, h1, h2, h3⟩ := e
      exact ih j h2 h1 h3
    · exact ⟨k, hk, q, fun j h1 h2 h3 => e ⟨j, h1, h2, h3⟩⟩
/-- a greatest one -/
theorem greatest {Q : Nat → Prop} {N : Nat} (h : ∃ k, k < N ∧ Q k) : ∃ k, k < N ∧ Q k ∧ ∀ j, j < N → Q j → j ≤ k := by
  induction N with
  | zero => obtain ⟨k, hk, _⟩ := h; omega
  | succ N ih =>
    by_cases q : Q N
    · exact ⟨N, Nat.lt_succ_self N, q, fun j hj _ => by omega⟩
    · obtain ⟨k, hk, e⟩ := h
      have : k ≠ N := fun z => q (z ▸ e)
      obtain ⟨k', h1, h2, h3⟩ := ih ⟨k, by omega, e⟩
      refine ⟨k', by omega, h2, fun j hj hq => ?_⟩
      have : j ≠ N := fun z => q (z ▸ hq)
      exact h3 j (by omega) hq
/-- THE RULE ENDS: no run of exchanges by the first number that helps goes on for ever -/
theorem bland (P : Pr m z A) {f : Nat → Ts} {p r : Nat → Nat} (g : ∀ n, Good m z A (f n)) (he : ∀ n, Ent m z (f n) (p n)) (hl : ∀ n, Lev m z (f n) (p n) (r n)) (hs : ∀ n, Next m z (f n) (p n) (r n) (f (n + 1))) : False := by
  -- a basis comes twice
  obtain ⟨i0, j0, hij, ec⟩ := pigeon (C := (z + m) ^ m) (f := fun n => code (z + m) (f n).b m) fun n => code_lt (g n).hb
  have eb0 := code_inj (g i0).hb (g j0).hb ec
  -- from there on the run is periodic
  obtain ⟨L, hL, ej⟩ : ∃ L, 0 < L ∧ j0 = i0 + L := ⟨j0 - i0, by omega, by omega⟩
  subst ej
  have per : ∀ n, ∀ i, i < m → (f (i0 + n)).b i = (f (i0 + n + L)).b i := fun n => by
    induction n with
    | zero => exact eb0
    | succ n ih =>
      obtain ⟨eu, eT⟩ := (g (i0 + n)).alike (g (i0 + n + L)) ih
      have ep : p (i0 + n) = p (i0 + n + L) := Ent.uniq (fun c hc => eT m c (Nat.le_refl _) hc) (he _) (he _)
      have er : r (i0 + n) = r (i0 + n + L) := by
        have h2 := hl (i0 + n + L)
        rw [← ep] at h2
        exact Lev.uniq (g _) (Nat.le_of_lt (he _).lt) eT ih (hl _) h2
      intro i hi
      have a := (hs (i0 + n)).b i hi
      have b := (hs (i0 + n + L)).b i hi
      rw [← er, ← ep, ← ih i hi, ← a] at b
      rw [show i0 + (n + 1) = i0 + n + 1 by omega, show i0 + n + 1 + L = i0 + n + L + 1 by omega]
      exact b.symm
  have perq : ∀ q n, ∀ i, i < m → (f (i0 + n)).b i = (f (i0 + n + q * L)).b i := fun q => by
    induction q with
    | zero => intro n i hi; rw [Nat.zero_mul, Nat.add_zero]
    | succ q ih =>
      intro n i hi
      rw [ih n i hi, show i0 + n + q * L = i0 + (n + q * L) by omega, per (n + q * L) i hi, show i0 + (n + q * L) + L = i0 + n + (q + 1) * L by rw [Nat.add_mul]; omega]
  -- the value stands still
  have mono : ∀ d n, (f n).T m (z + m) * (f (n + d)).u ≤ (f (n + d)).T m (z + m) * (f n).u := fun d => by
    induction d with
    | zero => intro n; exact Int.le_refl _
    | succ d ih =>
      intro n
      have a := ih n
      have b := ((hs (n + d)).val (g _) (he _) (hl _)).1
      have u1 := (g n).hu
      have u2 := (g (n + d)).hu
      have u3 := (g (n + d + 1)).hu
      rw [show n + (d + 1) = n + d + 1 by omega]
      have a' := Int.mul_le_mul_of_nonneg_right a (Int.le_of_lt u3)
      have b' := Int.mul_le_mul_of_nonneg_right b (Int.le_of_lt u1)
      have c : ((f n).T m (z + m) * (f (n + d + 1)).u) * (f (n + d)).u ≤ ((f (n + d + 1)).T m (z + m) * (f n).u) * (f (n + d)).u := by grind
      exact Int.le_of_mul_le_mul_right c u2
  have flat : ∀ n, i0 ≤ n → (f n).T (r n) (z + m) = 0 := fun n hn => by
    obtain ⟨k, rfl⟩ : ∃ k, n = i0 + k := ⟨n - i0, by omega⟩
    refine ((hs _).val (g _) (he _) (hl _)).2 ?_
    have a := ((hs (i0 + k)).val (g _) (he _) (hl _)).1
    obtain ⟨L', rfl⟩ : ∃ L', L = L' + 1 := ⟨L - 1, by omega⟩
    have b := mono L' (i0 + k + 1)
    obtain ⟨eu, eT⟩ := (g (i0 + k)).alike (g (i0 + k + (L' + 1))) (per k)
    rw [show i0 + k + 1 + L' = i0 + k + (L' + 1) by omega, ← eu, ← eT m (z + m) (Nat.le_refl _) (Nat.le_refl _)] at b
    omega
  -- the numbers that leave at some time
  let Fi : Nat → Prop := fun v => ∃ n, i0 ≤ n ∧ (f n).b (r n) = v
  have basic_of : ∀ n k, k < m → k ≠ r n → (f (n + 1)).b k = (f n).b k := fun n k hk ne => by
    rw [(hs n).b k hk, if_neg ne]
  -- a basic number stays, with its row, until it leaves
  have stays : ∀ v n k, k < m → (f n).b k = v → ∀ d, (∀ j, n ≤ j → j < n + d → (f j).b (r j) ≠ v) → (f (n + d)).b k = v ∧ (i0 ≤ n → ((f n).T k (z + m) = 0 ↔ (f (n + d)).T k (z + m) = 0)) := fun v n k hk hv d => by
    induction d with
    | zero => intro _; exact ⟨hv, fun _ => Iff.rfl⟩
    | succ d ih =>
      intro hj
      obtain ⟨e1, e2⟩ := ih fun j h1 h2 => hj j h1 (by omega)
      have ne : k ≠ r (n + d) := fun q => hj (n + d) (by omega) (by omega) (by rw [← q]; exact e1)
      refine ⟨by rw [show n + (d + 1) = n + d + 1 by omega, basic_of _ _ hk ne]; exact e1, fun h0 => (e2 h0).trans ?_⟩
      have x := (hs (n + d)).exact (g _) (hl _).lt (he _).lt (Nat.le_of_lt hk) ne (Nat.le_refl (z + m))
      rw [flat (n + d) (by omega), Int.mul_zero, Int.sub_zero] at x
      have u1 := (g (n + d)).hu
      have u2 := (hl (n + d)).pos
      rw [show n + (d + 1) = n + d + 1 by omega]
      constructor
      · intro q
        rw [q, Int.mul_zero] at x
        rcases Int.mul_eq_zero.mp x with h | h
        · omega
        · exact h
      · intro q
        rw [q, Int.mul_zero] at x
        rcases Int.mul_eq_zero.mp x.symm with h | h
        · omega
        · exact h
  -- basic at n, not basic later: it leaves between
  have leaves : ∀ v n n', i0 ≤ n → n ≤ n' → ∀ k, k < m → (f n).b k = v → (∀ k, k < m → (f n').b k ≠ v) → ∃ j, n ≤ j ∧ (f j).b (r j) = v ∧ ∀ i, n ≤ i → i < j → (f i).b (r i) ≠ v := fun v n n' h0 hn k hk hv hno => by
    have : ∃ j, n ≤ j ∧ (f j).b (r j) = v := Classical.byContradiction fun q => by
      have w := (stays v n k hk hv (n' - n) fun j h1 _ h3 => q ⟨j, h1, h3⟩).1
      rw [show n + (n' - n) = n' by omega] at w
      exact hno k hk w
    exact first_time this
  obtain ⟨t, htN, ⟨n1, hn1, et⟩, hmax⟩ := greatest (Q := Fi) (N := z + m) ⟨_, (g i0).hb (r i0) (hl i0).lt, i0, Nat.le_refl _, rfl⟩
  -- t goes in at some time n2
  have in2 : ∃ n2, i0 ≤ n2 ∧ p n2 = t := Classical.byContradiction fun q => by
    -- behind n1 it is not basic, and never comes in
    have out : ∀ d k, k < m → (f (n1 + 1 + d)).b k ≠ t := fun d => by
      induction d with
      | zero =>
        intro k hk e
        rw [Nat.add_zero, (hs n1).b k hk] at e
        split at e
        · exact q ⟨n1, hn1, e⟩
        · rename_i ne
          exact ne ((g n1).inj hk (hl n1).lt (e.trans et.symm))
      | succ d ih =>
        intro k hk e
        rw [show n1 + 1 + (d + 1) = n1 + 1 + d + 1 by omega, (hs _).b k hk] at e
        split at e
        · exact q ⟨_, by omega, e⟩
        · exact ih k hk e
    obtain ⟨k1, rfl⟩ : ∃ k1, n1 = i0 + k1 := ⟨n1 - i0, by omega⟩
    have w := per k1 (r (i0 + k1)) (hl _).lt
    rw [et] at w
    refine out (L - 1) (r (i0 + k1)) (hl _).lt ?_
    rw [show i0 + k1 + 1 + (L - 1) = i0 + k1 + L by omega]
    exact w.symm
  obtain ⟨n2, hn2, ep⟩ := in2
  have en := he n2
  rw [ep] at en
  have rl := (hl n1).lt
  have ent := he n1
  -- the number s that goes in when t leaves
  have hst : p n1 ≠ t := fun q => by
    have w := (g n1).unit (i := m) (j := r n1) (Nat.le_refl _) rl
    rw [et, if_neg (by omega), ← q] at w
    have := ent.neg
    omega
  have later : ∀ n, i0 ≤ n → ∃ n', n1 ≤ n' ∧ ∀ i, i < m → (f n).b i = (f n').b i := fun n hn => by
    obtain ⟨k, rfl⟩ : ∃ k, n = i0 + k := ⟨n - i0, by omega⟩
    refine ⟨i0 + k + n1 * L, ?_, perq n1 k⟩
    have : n1 * 1 ≤ n1 * L := Nat.mul_le_mul_left n1 hL
    omega
  have fick : ∀ k, k < m → (∀ j, j < m → (f n2).b j ≠ (f n1).b k) → Fi ((f n1).b k) ∧ (f n1).T k (z + m) = 0 := fun k hk hno => by
    obtain ⟨n', h1, h2⟩ := later n2 hn2
    obtain ⟨j, hj, ej, hf⟩ := leaves _ n1 n' hn1 h1 k hk rfl fun i hi => by rw [← h2 i hi]; exact hno i hi
    refine ⟨⟨j, by omega, ej⟩, ?_⟩
    obtain ⟨e1, e2⟩ := stays _ n1 k hk rfl (j - n1) fun i h1 h2 => hf i h1 (by omega)
    rw [show n1 + (j - n1) = j by omega] at e1 e2
    have er : k = r j := (g j).inj hk (hl j).lt (e1.trans ej.symm)
    exact (e2 hn1).mpr (by rw [er]; exact flat j (by omega))
  have hs_le : 0 ≤ (f n2).T m (p n1) := by
    by_cases q : p n1 < t
    · exact en.first _ q
    · -- p n1 is not t, above t: then it would have to be one that leaves
      exfalso
      -- p n1 goes in at n1, so it is basic at n1 + 1, and not at n1: it leaves later
      have nb : ∀ k, k < m → (f n1).b k ≠ p n1 := fun k hk e => by
        have w := (g n1).unit (i := m) (j := k) (Nat.le_refl _) hk
        rw [e, if_neg (by omega)] at w
        have := ent.neg
        omega
      have ib : (f (n1 + 1)).b (r n1) = p n1 := by rw [(hs n1).b _ rl, if_pos rfl]
      obtain ⟨k1, rfl⟩ : ∃ k1, n1 = i0 + k1 := ⟨n1 - i0, by omega⟩
      obtain ⟨j, hj, ej, _⟩ := leaves (p (i0 + k1)) (i0 + k1 + 1) (i0 + k1 + L) (by omega) (by omega) (r (i0 + k1)) rl ib fun k hk => by
        rw [← per k1 k hk]; exact nb k hk
      have := hmax _ ent.lt ⟨j, by omega, ej⟩
      omega
  have K := key P (g n1) (g n2) ent.lt
  have pos : 0 < sm m fun i => (f n1).T i (p n1) * (f n2).T m ((f n1).b i) := by
    have a1 : 0 ≤ (f n1).u * (f n2).T m (p n1) := Int.mul_nonneg (Int.le_of_lt (g n1).hu) hs_le
    have a2 : 0 < (f n2).u * (- (f n1).T m (p n1)) := Int.mul_pos (g n2).hu (by have := ent.neg; omega)
    rw [Int.mul_neg] at a2
    omega
  obtain ⟨i, hi, hpos⟩ := sm_pos_ex pos
  have hne : (f n2).T m ((f n1).b i) ≠ 0 := fun q => by
    rw [q, Int.mul_zero] at hpos
    exact Int.lt_irrefl _ hpos
  obtain ⟨fi, zero⟩ := fick i hi fun j hj e => hne (by
    rw [← e, (g n2).unit (Nat.le_refl _) hj, if_neg (by omega)])
  have hle := hmax _ ((g n1).hb i hi) fi
  by_cases q : (f n1).b i = t
  · have ei : i = r n1 := (g n1).inj hi rl (q.trans et.symm)
    have c1 := (hl n1).pos
    rw [q, ei] at hpos
    have c2 : 0 < (f n1).T (r n1) (p n1) * (- (f n2).T m t) := Int.mul_pos c1 (by have := en.neg; omega)
    rw [Int.mul_neg] at c2
    omega
  · have lt : (f n1).b i < t := by omega
    have c1 : 0 ≤ (f n2).T m ((f n1).b i) := en.first _ lt
    have c2 : 0 < (f n1).T i (p n1) := by
      refine Classical.byContradiction fun w => ?_
      have c3 : 0 ≤ (- (f n1).T i (p n1)) * (f n2).T m ((f n1).b i) := Int.mul_nonneg (by omega) c1
      rw [Int.neg_mul] at c3
      omega
    rcases (hl n1).min i hi c2 with h | ⟨_, h⟩
    · rw [zero, Int.zero_mul, flat n1 hn1, Int.zero_mul] at h
      exact Int.lt_irrefl _ h
    · rw [et] at h
      omega
end
end Ma
end
section
set_option linter.all false
/-! Cones by their points: the step of the double description. A vector is told by its levels at all bounds. -/
namespace Mc
abbrev Vc := Nat → Rat
inductive Gen (S : Vc → Prop) : Vc → Prop
  | zero {x : Vc} (h : ∀ k, x k = 0) : Gen S x
  | add {a : Rat} {s x y : Vc} (ha : 0 ≤ a) (hs : S s) (hx : Gen S x) (h : ∀ k, y k = a * s k + x k) : Gen S y
section
variable {S T : Vc → Prop} {x y z s : Vc} {a b : Rat} {K : Nat}
theorem Gen.mono (h : ∀ s, S s → T s) (g : Gen S x) : Gen T x := by
  induction g with
  | zero h => exact .zero h
  | add ha hs g0 e ih => exact .add ha (h _ hs) ih e
theorem Gen.congr (g : Gen S x) (h : ∀ k, y k = x k) : Gen S y := by
  have : y = x := funext h
  rw [this]; exact g
theorem Gen.plus (g : Gen S x) (h : Gen S y) : ∀ {z : Vc}, (∀ k, z k = x k + y k) → Gen S z := by
  induction g with
  | zero h0 => intro z hz; exact h.congr fun k => by rw [hz, h0]; grind
  | add ha hs g0 e ih =>
    rename_i a s x' y'
    intro z hz
    exact .add ha hs (ih (z := fun k => x' k + y k) fun k => rfl) fun k => by rw [hz, e]; grind
theorem Gen.scale (ha : 0 ≤ a) (g : Gen S x) : ∀ {z : Vc}, (∀ k, z k = a * x k) → Gen S z := by
  induction g with
  | zero h0 => intro z hz; exact .zero fun k => by rw [hz, h0]; grind
  | add hb hs g0 e ih =>
    rename_i b s x' y'
    intro z hz
    exact .add (Rat.mul_nonneg ha hb) hs (ih (z := fun k => a * x' k) fun k => rfl) fun k => by rw [hz, e]; grind
theorem Gen.one (h : S s) : Gen S s := .add (a := 1) (by decide) h (.zero (x := fun _ => 0) fun _ => rfl) fun k => by grind
theorem Gen.nonneg {k : Nat} (h : ∀ s, S s → 0 ≤ s k) (g : Gen S x) : 0 ≤ x k := by
  induction g with
  | zero h0 => rw [h0]; decide
  | add ha hs g0 e ih => rw [e]; have := Rat.mul_nonneg ha (h _ hs); grind
/-- only what lies on all its bounds has a part in it -/
theorem Gen.face (h : ∀ s, S s → ∀ k, k < K → 0 ≤ s k) (g : Gen S x) : Gen (fun s => S s ∧ ∀ k, k < K → x k = 0 → s k = 0) x := by
  induction g with
  | zero h0 => exact .zero h0
  | add ha hs g e ih =>
    rename_i a s x' y'
    have nx : ∀ k, k < K → 0 ≤ x' k := fun k hk => g.nonneg fun s hs => h s hs k hk
    by_cases q : a = 0
    · have eq : y' = x' := funext fun k => by rw [e, q]; grind
      rw [eq]; exact ih
    · have pa : 0 < a := by grind
      refine .add ha ⟨hs, fun k hk z => ?_⟩ (ih.mono fun t ht => ⟨ht.1, fun k hk z => ht.2 k hk ?_⟩) e
      · rw [e] at z
        have h1 := nx k hk
        have h2 := h s hs k hk
        have h3 := Rat.mul_nonneg ha h2
        have h4 : a * s k = 0 := by grind
        rcases Rat.mul_eq_zero.mp h4 with w | w
        · exact absurd w q
        · exact w
      · rw [e] at z
        have h1 := nx k hk
        have h2 := h s hs k hk
        have h3 := Rat.mul_nonneg ha h2
        grind
/-- all above a bound: so is what they make, but 0 -/
theorem Gen.abv {k : Nat} (h : ∀ s, S s → 0 < s k) (g : Gen S x) : (∀ j, x j = 0) ∨ 0 < x k := by
  induction g with
  | zero h0 => exact .inl h0
  | add ha hs g0 e ih =>
    rename_i a s x' y'
    by_cases q : a = 0
    · rcases ih with w | w
      · exact .inl fun j => by rw [e, q, w]; grind
      · exact .inr (by rw [e, q]; grind)
    · have pa : 0 < a := by grind
      have := Rat.mul_pos pa (h _ hs)
      rcases ih with w | w
      · exact .inr (by rw [e, w]; grind)
      · exact .inr (by rw [e]; grind)
theorem Gen.blw {k : Nat} (h : ∀ s, S s → s k < 0) (g : Gen S x) : (∀ j, x j = 0) ∨ x k < 0 := by
  induction g with
  | zero h0 => exact .inl h0
  | add ha hs g0 e ih =>
    rename_i a s x' y'
    by_cases q : a = 0
    · rcases ih with w | w
      · exact .inl fun j => by rw [e, q, w]; grind
      · exact .inr (by rw [e, q]; grind)
    · have pa : 0 < a := by grind
      have h0 := h _ hs
      have := Rat.mul_pos pa (show 0 < - s k by grind)
      rcases ih with w | w
      · exact .inr (by rw [e, w]; grind)
      · exact .inr (by rw [e]; grind)
end
/-- y lies on each bound (below K) on which x lies -/
def Sub (K : Nat) (x y : Vc) : Prop := ∀ k, k < K → x k = 0 → y k = 0
theorem Sub.trans {K : Nat} {x y z : Vc} (h : Sub K x y) (h2 : Sub K y z) : Sub K x z := fun k hk e => h2 k hk (h k hk e)
/-- as much of y taken from x as can be -/
theorem take_off {K : Nat} {x y : Vc} (hx : ∀ k, k < K → 0 ≤ x k) (hy : ∃ k, k < K ∧ 0 < y k) :
    ∃ t : Rat, 0 ≤ t ∧ (∀ k, k < K → 0 < y k → 0 ≤ x k - t * y k) ∧ ∃ k, k < K ∧ 0 < y k ∧ x k - t * y k = 0 := by
  induction K with
  | zero => obtain ⟨k, hk, _⟩ := hy; omega
  | succ K ih =>
    have hx' : ∀ k, k < K → 0 ≤ x k := fun k hk => hx k (by omega)
    have hxK := hx K (by omega)
    by_cases q : ∃ k, k < K ∧ 0 < y k
    · obtain ⟨t, h1, h2, k0, h3, h4, h5⟩ := ih hx' q
      by_cases w : 0 < y K ∧ x K - t * y K < 0
      · obtain ⟨w1, w2⟩ := w
        have e : x K / y K * y K = x K := Rat.div_mul_cancel (by grind)
        have hd : 0 ≤ x K / y K := by
          rw [Rat.div_def]; exact Rat.mul_nonneg hxK (Rat.le_of_lt (Rat.inv_pos.mpr w1))
        have lt : x K / y K < t := Rat.not_le.mp fun z => by
          have := Rat.mul_le_mul_of_nonneg_right z (Rat.le_of_lt w1)
          grind
        refine ⟨x K / y K, hd, fun k hk py => ?_, K, by omega, w1, by grind⟩
        by_cases z : k = K
        · subst z; grind
        · have a := h2 k (by omega) py
          have b := Rat.mul_le_mul_of_nonneg_right (Rat.le_of_lt lt) (Rat.le_of_lt py)
          grind
      · refine ⟨t, h1, fun k hk py => ?_, k0, by omega, h4, h5⟩
        by_cases z : k = K
        · subst z
          exact Rat.not_lt.mp fun z => w ⟨py, z⟩
        · exact h2 k (by omega) py
    · obtain ⟨k, hk, py⟩ := hy
      have : k = K := by
        by_cases z : k = K
        · exact z
        · exact absurd ⟨k, by omega, py⟩ q
      subst this
      have e : x k / y k * y k = x k := Rat.div_mul_cancel (by grind)
      have hd : 0 ≤ x k / y k := by
        rw [Rat.div_def]; exact Rat.mul_nonneg hxK (Rat.le_of_lt (Rat.inv_pos.mpr py))
      refine ⟨x k / y k, hd, fun j hj pj => ?_, k, by omega, py, by grind⟩
      by_cases z : j = k
      · subst z; grind
      · exact absurd ⟨j, by omega, pj⟩ q
/-- how many bounds are not reached -/
def far (x : Vc) : Nat → Nat
  | 0 => 0
  | K + 1 => far x K + if x K = 0 then 0 else 1
theorem far_le {x y : Vc} : ∀ {K : Nat}, Sub K x y → far y K ≤ far x K
  | 0, _ => Nat.le_refl _
  | K + 1, h => by
    have ih := far_le (K := K) fun k hk => h k (by omega)
    unfold far
    by_cases q : x K = 0
    · rw [if_pos q, if_pos (h K (by omega) q)]; omega
    · rw [if_neg q]; split <;> omega
theorem far_lt {x y : Vc} : ∀ {K : Nat}, Sub K x y → (∃ k, k < K ∧ x k ≠ 0 ∧ y k = 0) → far y K < far x K
  | 0, _, ⟨k, hk, _⟩ => by omega
  | K + 1, h, ⟨k, hk, h1, h2⟩ => by
    have hs : Sub K x y := fun k hk => h k (by omega)
    unfold far
    by_cases z : k = K
    · subst z
      have := far_le hs
      rw [if_neg h1, if_pos h2]; omega
    · have ih := far_lt hs ⟨k, by omega, h1, h2⟩
      by_cases q : x K = 0
      · rw [if_pos q, if_pos (h K (by omega) q)]; omega
      · rw [if_neg q]; split <;> omega
/-- a space: closed, and told by its levels below K -/
structure Space (W : Vc → Prop) (K : Nat) : Prop where
  lin : ∀ {x y : Vc} (a b : Rat), W x → W y → W fun k => a * x k + b * y k
  point : ∀ {x : Vc}, W x → (∀ k, k < K → x k = 0) → ∀ k, x k = 0
theorem Space.succ {W : Vc → Prop} {K : Nat} (s : Space W K) : Space W (K + 1) := ⟨s.lin, fun h z => s.point h fun k hk => z k (by omega)⟩
section
variable {W : Vc → Prop} {K : Nat} {S : Vc → Prop}
/-- who makes all that can't be parted, makes all -/
theorem gen_all (sp : Space W K) (h : ∀ x, W x → (∀ k, k < K → 0 ≤ x k) → (∃ k, k < K ∧ x k ≠ 0) →
      (∀ y, W y → (∀ k, k < K → 0 ≤ y k) → Sub K x y → ∃ t : Rat, ∀ k, y k = t * x k) → Gen S x) :
    ∀ (n : Nat) (x : Vc), far x K = n → W x → (∀ k, k < K → 0 ≤ x k) → Gen S x := by
  intro n
  induction n using Nat.strongRecOn with
  | _ n ih =>
    intro x hn hw hp
    by_cases hz : ∃ k, k < K ∧ x k ≠ 0
    · by_cases q : ∀ y, W y → (∀ k, k < K → 0 ≤ y k) → Sub K x y → ∃ t : Rat, ∀ k, y k = t * x k
      · exact h x hw hp hz q
      · -- y is no multiple of x, on all its bounds
        have : ∃ y, W y ∧ (∀ k, k < K → 0 ≤ y k) ∧ Sub K x y ∧ ¬ ∃ t : Rat, ∀ k, y k = t * x k := Classical.byContradiction fun z => q fun y h1 h2 h3 => Classical.byContradiction fun w => z ⟨y, h1, h2, h3, w⟩
        obtain ⟨y, yw, yp, ys, yn⟩ := this
        have px : ∃ k, k < K ∧ 0 < x k := by
          obtain ⟨k, hk, e⟩ := hz
          exact ⟨k, hk, by have := hp k hk; grind⟩
        obtain ⟨s, s0, s1, k1, hk1, s2, s3⟩ := take_off yp px
        -- y' = y - s x
        have w1 : W fun k => 1 * y k + (-s) * x k := sp.lin 1 (-s) yw hw
        have p1 : ∀ k, k < K → 0 ≤ 1 * y k + (-s) * x k := fun k hk => by
          by_cases z : x k = 0
          · have := ys k hk z; rw [z, this]; grind
          · have := s1 k hk (by have := hp k hk; grind); grind
        have b1 : Sub K x fun k => 1 * y k + (-s) * x k := fun k hk z => by
          have := ys k hk z
          show 1 * y k + (-s) * x k = 0
          rw [z, this]; grind
        have l1 := far_lt b1 ⟨k1, hk1, by grind, by show 1 * y k1 + (-s) * x k1 = 0; grind⟩
        have g1 := ih _ (by omega) (fun k => 1 * y k + (-s) * x k) rfl w1 p1
        have py : ∃ k, k < K ∧ 0 < 1 * y k + (-s) * x k := Classical.byContradiction fun z => by
          have z0 := sp.point w1 fun k hk => by
            have := p1 k hk
            by_cases w : 0 < 1 * y k + (-s) * x k
            · exact absurd ⟨k, hk, w⟩ z
            · grind
          exact yn ⟨s, fun k => by have := z0 k; grind⟩
        obtain ⟨t, t0, t1, k2, hk2, t2, t3⟩ := take_off hp py
        have w2 : W fun k => 1 * x k + (-t) * (1 * y k + (-s) * x k) := sp.lin 1 (-t) hw w1
        have p2 : ∀ k, k < K → 0 ≤ 1 * x k + (-t) * (1 * y k + (-s) * x k) := fun k hk => by
          have a := p1 k hk
          have b := hp k hk
          by_cases z : 1 * y k + (-s) * x k = 0
          · rw [z]; grind
          · have := t1 k hk (by grind); grind
        have b2 : Sub K x fun k => 1 * x k + (-t) * (1 * y k + (-s) * x k) := fun k hk z => by
          have := b1 k hk z
          show 1 * x k + (-t) * (1 * y k + (-s) * x k) = 0
          have e : 1 * y k + (-s) * x k = 0 := this
          rw [e, z]; grind
        have l2 := far_lt b2 ⟨k2, hk2, fun z => by
          have e : 1 * y k2 + (-s) * x k2 = 0 := b1 k2 hk2 z
          grind, by show 1 * x k2 + (-t) * (1 * y k2 + (-s) * x k2) = 0; grind⟩
        have g2 := ih _ (by omega) (fun k => 1 * x k + (-t) * (1 * y k + (-s) * x k)) rfl w2 p2
        exact g2.plus (g1.scale t0 (z := fun k => t * (1 * y k + (-s) * x k)) fun k => rfl) fun k => by grind
    · refine .zero (sp.point hw fun k hk => ?_)
      by_cases z : x k = 0
      · exact z
      · exact absurd ⟨k, hk, z⟩ hz
end
section
variable {α : Type} (W : Vc → Prop) (K : Nat) (cs : List α) (v : α → Vc)
def One : Vc → Prop := fun s => ∃ a, a ∈ cs ∧ s = v a
structure DD : Prop where
  w : ∀ a, a ∈ cs → W (v a)
  pos : ∀ a, a ∈ cs → ∀ k, k < K → 0 ≤ v a k
  ne : ∀ a, a ∈ cs → ∃ k, k < K ∧ v a k ≠ 0
  anti : cs.Pairwise fun a b => ¬ Sub K (v a) (v b) ∧ ¬ Sub K (v b) (v a)
  hull : ∀ x, W x → (∀ k, k < K → 0 ≤ x k) → Gen (One cs v) x
end
section
variable {α : Type} {W : Vc → Prop} {K : Nat} {cs cs' : List α} {v : α → Vc}
theorem DD.eq (d : DD W K cs v) {a b : α} (ha : a ∈ cs) (hb : b ∈ cs) (h : Sub K (v a) (v b)) : a = b := by
  obtain ⟨i, hi, rfl⟩ := List.mem_iff_getElem.mp ha
  obtain ⟨j, hj, rfl⟩ := List.mem_iff_getElem.mp hb
  rcases Nat.lt_trichotomy i j with q | q | q
  · exact absurd h (List.pairwise_iff_getElem.mp d.anti i j hi hj q).1
  · subst q; rfl
  · exact absurd h (List.pairwise_iff_getElem.mp d.anti j i hj hi q).2
theorem DD.nd (d : DD W K cs v) : cs.Nodup := List.nodup_iff_pairwise_ne.mpr (d.anti.imp fun {a b} h e => h.1 (by rw [e]; exact fun _ _ z => z))
/-- a and b are ends of one edge -/
def J (K : Nat) (cs : List α) (v : α → Vc) (a b : α) : Prop := ∀ c, c ∈ cs → (∀ k, k < K → v a k = 0 → v b k = 0 → v c k = 0) → c = a ∨ c = b
/-- the point between a (above the bound K) and b (below) -/
def cr (K : Nat) (x y : Vc) : Vc := fun k => x K * y k + (- y K) * x k
/-- z is a crossing of x and y -/
def IsCr (K : Nat) (x y z : Vc) : Prop := ∃ t : Rat, 0 < t ∧ ∀ k, z k = t * cr K x y k
theorem cr_zero {x y : Vc} {k : Nat} (hx : 0 ≤ x k) (hy : 0 ≤ y k) (h1 : 0 < x K) (h2 : y K < 0) : cr K x y k = 0 ↔ x k = 0 ∧ y k = 0 := by
  have a := Rat.mul_nonneg (Rat.le_of_lt h1) hy
  have b := Rat.mul_nonneg (show 0 ≤ - y K by grind) hx
  constructor
  · intro e
    have e' : x K * y k + (- y K) * x k = 0 := e
    have e1 : x K * y k = 0 := by grind
    have e2 : (- y K) * x k = 0 := by grind
    refine ⟨?_, ?_⟩
    · rcases Rat.mul_eq_zero.mp e2 with w | w
      · grind
      · exact w
    · rcases Rat.mul_eq_zero.mp e1 with w | w
      · grind
      · exact w
  · intro ⟨e1, e2⟩
    show x K * y k + (- y K) * x k = 0
    rw [e1, e2]; grind
theorem cr_pos {x y : Vc} {k : Nat} (hx : 0 ≤ x k) (hy : 0 ≤ y k) (h1 : 0 < x K) (h2 : y K < 0) : 0 ≤ cr K x y k := by
  have a := Rat.mul_nonneg (Rat.le_of_lt h1) hy
  have b := Rat.mul_nonneg (show 0 ≤ - y K by grind) hx
  show 0 ≤ x K * y k + (- y K) * x k
  grind
theorem cr_K {x y : Vc} : cr K x y K = 0 := by
  show x K * y K + (- y K) * x K = 0
  grind
theorem IsCr.zero {x y z : Vc} (i : IsCr K x y z) {k : Nat} (hx : 0 ≤ x k) (hy : 0 ≤ y k) (h1 : 0 < x K) (h2 : y K < 0) : z k = 0 ↔ x k = 0 ∧ y k = 0 := by
  obtain ⟨t, t0, e⟩ := i
  rw [e, ← cr_zero hx hy h1 h2]
  constructor
  · intro q
    rcases Rat.mul_eq_zero.mp q with w | w
    · grind
    · exact w
  · intro q; rw [q]; grind
theorem IsCr.at_K {x y z : Vc} (i : IsCr K x y z) : z K = 0 := by
  obtain ⟨t, t0, e⟩ := i
  rw [e, cr_K]; grind
/-- what is not parted by a kept one, or an edge that crosses, is one of these -/
theorem cut_hull (sp : Space W K) (d : DD W K cs v) (h2 : ∀ a, a ∈ cs → 0 ≤ v a K → ∃ a', a' ∈ cs' ∧ v a' = v a)
    (h3 : ∀ a, a ∈ cs → ∀ b, b ∈ cs → 0 < v a K → v b K < 0 → J K cs v a b → ∃ a', a' ∈ cs' ∧ IsCr K (v a) (v b) (v a')) :
    ∀ x, W x → (∀ k, k < K + 1 → 0 ≤ x k) → Gen (One cs' v) x := by
  intro x hw hp
  refine gen_all sp.succ (fun x hw hp hz hx => ?_) _ x rfl hw hp
  have hpos : ∀ s, One cs v s → ∀ k, k < K → 0 ≤ s k := fun s ⟨a, ha, e⟩ k hk => by rw [e]; exact d.pos a ha k hk
  have g := (d.hull x hw fun k hk => hp k (by omega)).face hpos
  have nz : ¬ ∀ j, x j = 0 := fun z => by obtain ⟨k, _, e⟩ := hz; exact e (z k)
  -- a multiple of x that is in the new list makes x
  have fin : ∀ (y : Vc), One cs' v y → (∃ t : Rat, ∀ k, y k = t * x k) → (∃ k, k < K + 1 ∧ y k ≠ 0) → (∀ k, k < K + 1 → 0 ≤ y k) → Gen (One cs' v) x := fun y hy ⟨t, ht⟩ ⟨k, hk, yk⟩ yp => by
    have t0 : 0 < t := by
      have a := hp k hk
      have b := yp k hk
      rw [ht] at yk b
      refine Rat.not_le.mp fun z => ?_
      have c := Rat.mul_nonneg (show 0 ≤ -t by grind) a
      grind
    refine (Gen.one hy).scale (a := t⁻¹) (Rat.le_of_lt (Rat.inv_pos.mpr t0)) fun k => ?_
    rw [ht, ← Rat.mul_assoc, Rat.inv_mul_cancel _ (by grind)]; grind
  -- a kept one on all bounds of x
  have kept : ∀ a, a ∈ cs → (∀ k, k < K → x k = 0 → v a k = 0) → 0 ≤ v a K → (x K = 0 → v a K = 0) → Gen (One cs' v) x := fun a ha hs h0 hK => by
    obtain ⟨a', m', e'⟩ := h2 a ha h0
    have pa : ∀ k, k < K + 1 → 0 ≤ v a k := fun k hk => by
      by_cases z : k = K
      · rw [z]; exact h0
      · exact d.pos a ha k (by omega)
    refine fin (v a) ⟨a', m', e'.symm⟩ (hx (v a) (d.w a ha) pa fun k hk z => ?_) (by obtain ⟨k, hk, e⟩ := d.ne a ha; exact ⟨k, by omega, e⟩) pa
    by_cases w : k = K
    · rw [w] at z ⊢; exact hK z
    · exact hs k (by omega) z
  by_cases hK : x K = 0
  · by_cases q : ∃ a, a ∈ cs ∧ (∀ k, k < K → x k = 0 → v a k = 0) ∧ v a K = 0
    · obtain ⟨a, ha, hs, e⟩ := q
      exact kept a ha hs (by rw [e]; decide) fun _ => e
    · have q0 : ∀ a, a ∈ cs → (∀ k, k < K → x k = 0 → v a k = 0) → v a K ≠ 0 := fun a ha hs e => q ⟨a, ha, hs, e⟩
      have ea : ∃ a, a ∈ cs ∧ (∀ k, k < K → x k = 0 → v a k = 0) ∧ 0 < v a K := Classical.byContradiction fun w => by
        rcases g.blw (k := K) fun s hs => by
          obtain ⟨⟨a, ha, e⟩, hs⟩ := hs
          subst e
          have n1 := q0 a ha hs
          have n2 : ¬ 0 < v a K := fun z => w ⟨a, ha, hs, z⟩
          grind with z | z
        · exact nz z
        · grind
      have eb : ∃ a, a ∈ cs ∧ (∀ k, k < K → x k = 0 → v a k = 0) ∧ v a K < 0 := Classical.byContradiction fun w => by
        rcases g.abv (k := K) fun s hs => by
          obtain ⟨⟨a, ha, e⟩, hs⟩ := hs
          subst e
          have n1 := q0 a ha hs
          have n2 : ¬ v a K < 0 := fun z => w ⟨a, ha, hs, z⟩
          grind with z | z
        · exact nz z
        · grind
      obtain ⟨a, ha, sa, a0⟩ := ea
      obtain ⟨b, hb, sb, b0⟩ := eb
      -- each crossing of two such ones is a multiple of x
      have crm : ∀ a, a ∈ cs → (∀ k, k < K → x k = 0 → v a k = 0) → 0 < v a K → ∀ b, b ∈ cs → (∀ k, k < K → x k = 0 → v b k = 0) → v b K < 0 →
          (∃ t : Rat, ∀ k, cr K (v a) (v b) k = t * x k) ∧ (∀ k, k < K + 1 → 0 ≤ cr K (v a) (v b) k) ∧ ∃ k, k < K + 1 ∧ cr K (v a) (v b) k ≠ 0 := fun a ha sa a0 b hb sb b0 => by
        have p : ∀ k, k < K + 1 → 0 ≤ cr K (v a) (v b) k := fun k hk => by
          by_cases z : k = K
          · rw [z, cr_K]; decide
          · exact cr_pos (d.pos a ha k (by omega)) (d.pos b hb k (by omega)) a0 b0
        refine ⟨hx _ (sp.lin _ _ (d.w b hb) (d.w a ha)) p fun k hk z => ?_, p, ?_⟩
        · by_cases w : k = K
          · rw [w]; exact cr_K
          · exact (cr_zero (d.pos a ha k (by omega)) (d.pos b hb k (by omega)) a0 b0).mpr ⟨sa k (by omega) z, sb k (by omega) z⟩
        · obtain ⟨k, hk, e⟩ := d.ne a ha
          exact ⟨k, by omega, fun z => e ((cr_zero (d.pos a ha k hk) (d.pos b hb k hk) a0 b0).mp z).1⟩
      obtain ⟨⟨t, ht⟩, cp, ck, chk, cne⟩ := crm a ha sa a0 b hb sb b0
      have t0 : t ≠ 0 := fun z => cne (by rw [ht, z]; grind)
      by_cases j : J K cs v a b
      · obtain ⟨a', m', s, s0, es⟩ := h3 a ha b hb a0 b0 j
        refine fin (v a') ⟨a', m', rfl⟩ ⟨s * t, fun k => by rw [es, ht]; grind⟩ ⟨ck, chk, fun z => cne ?_⟩ fun k hk => by rw [es]; exact Rat.mul_nonneg (Rat.le_of_lt s0) (cp k hk)
        rw [es] at z
        rcases Rat.mul_eq_zero.mp z with w | w
        · grind
        · exact w
      · -- a third one lies on all bounds of both
        exfalso
        have : ∃ c, c ∈ cs ∧ (∀ k, k < K → v a k = 0 → v b k = 0 → v c k = 0) ∧ c ≠ a ∧ c ≠ b := Classical.byContradiction fun w => j fun c hc hs => Classical.byContradiction fun z => w ⟨c, hc, hs, fun e => z (.inl e), fun e => z (.inr e)⟩
        obtain ⟨c, hc, hs, na, nb⟩ := this
        have sc : ∀ k, k < K → x k = 0 → v c k = 0 := fun k hk z => hs k hk (sa k hk z) (sb k hk z)
        have c0 := q0 c hc sc
        by_cases cp0 : 0 < v c K
        · -- cr c b ~ cr a b
          obtain ⟨⟨t', ht'⟩, _, ck', chk', cne'⟩ := crm c hc sc cp0 b hb sb b0
          have t'0 : t' ≠ 0 := fun z => cne' (by rw [ht', z]; grind)
          -- t * cr c b = t' * cr a b
          have e : ∀ k, t * (v c K * v b k + (- v b K) * v c k) = t' * (v a K * v b k + (- v b K) * v a k) := fun k => by
            have e1 := ht k; have e2 := ht' k
            unfold cr at e1 e2
            rw [e1, e2]; grind
          -- t, t' have one sign
          have sg : 0 < t * t' := by
            have h0 := cp ck chk
            have h1 := (crm c hc sc cp0 b hb sb b0).2.1
            have px := hp ck chk
            have hne : x ck ≠ 0 := fun z => cne (by rw [ht, z]; grind)
            have px' : 0 < x ck := by grind
            have tp : 0 < t := Rat.not_le.mp fun z => by
              rw [ht] at h0 cne
              have := Rat.mul_nonneg (show 0 ≤ -t by grind) px
              grind
            have tp' : 0 < t' := Rat.not_le.mp fun z => by
              have h2 := h1 ck chk
              rw [ht'] at h2
              have := Rat.mul_pos (show 0 < -t' by grind) px'
              grind
            exact Rat.mul_pos tp tp'
          -- (t * v c K - t' * v a K) decides
          by_cases w : 0 ≤ (t' * v a K - t * v c K) * t
          · -- c = a-part + b-part: c's bounds are a's
            refine na (d.eq hc ha fun k hk z => ?_)
            have pa := d.pos a ha k hk
            have pb := d.pos b hb k hk
            have e1 := e k
            rw [z] at e1
            have y1 : t * t' * ((- v b K) * v a k) + (t' * v a K - t * v c K) * t * v b k = 0 := by grind
            have y2 := Rat.mul_nonneg (Rat.le_of_lt sg) (Rat.mul_nonneg (show 0 ≤ - v b K by grind) pa)
            have y3 := Rat.mul_nonneg w pb
            have y4 : t * t' * ((- v b K) * v a k) = 0 := by grind
            rcases Rat.mul_eq_zero.mp y4 with y | y
            · grind
            · rcases Rat.mul_eq_zero.mp y with y | y
              · grind
              · exact y
          · refine na (d.eq ha hc fun k hk z => ?_).symm
            have pc := d.pos c hc k hk
            have pb := d.pos b hb k hk
            have e1 := e k
            rw [z] at e1
            have y1 : t * t * ((- v b K) * v c k) + (-((t' * v a K - t * v c K) * t)) * v b k = 0 := by grind
            have tt : 0 < t * t := by
              by_cases r : 0 < t
              · exact Rat.mul_pos r r
              · have := Rat.mul_pos (show 0 < -t by grind) (show 0 < -t by grind); grind
            have y2 := Rat.mul_nonneg (Rat.le_of_lt tt) (Rat.mul_nonneg (show 0 ≤ - v b K by grind) pc)
            have y3 := Rat.mul_nonneg (show 0 ≤ -((t' * v a K - t * v c K) * t) by grind) pb
            have y4 : t * t * ((- v b K) * v c k) = 0 := by grind
            rcases Rat.mul_eq_zero.mp y4 with y | y
            · grind
            · rcases Rat.mul_eq_zero.mp y with y | y
              · grind
              · exact y
        · have cn0 : v c K < 0 := by grind
          obtain ⟨⟨t', ht'⟩, cp', ck', chk', cne'⟩ := crm a ha sa a0 c hc sc cn0
          have t'0 : t' ≠ 0 := fun z => cne' (by rw [ht', z]; grind)
          have e : ∀ k, t * (v a K * v c k + (- v c K) * v a k) = t' * (v a K * v b k + (- v b K) * v a k) := fun k => by
            have e1 := ht k; have e2 := ht' k
            unfold cr at e1 e2
            rw [e1, e2]; grind
          have sg : 0 < t * t' := by
            have h0 := cp ck chk
            have px := hp ck chk
            have hne : x ck ≠ 0 := fun z => cne (by rw [ht, z]; grind)
            have px' : 0 < x ck := by grind
            have tp : 0 < t := Rat.not_le.mp fun z => by
              rw [ht] at h0 cne
              have := Rat.mul_nonneg (show 0 ≤ -t by grind) px
              grind
            have tp' : 0 < t' := Rat.not_le.mp fun z => by
              have h2 := cp' ck chk
              rw [ht'] at h2
              have := Rat.mul_pos (show 0 < -t' by grind) px'
              grind
            exact Rat.mul_pos tp tp'
          -- t a_K c = t' a_K b + (t' (-b_K) - t (-c_K)) a
          by_cases w : 0 ≤ (t' * (- v b K) - t * (- v c K)) * t
          · refine nb (d.eq hc hb fun k hk z => ?_)
            have pa := d.pos a ha k hk
            have pb := d.pos b hb k hk
            have e1 := e k
            rw [z] at e1
            have y1 : t * t' * (v a K * v b k) + (t' * (- v b K) - t * (- v c K)) * t * v a k = 0 := by grind
            have y2 := Rat.mul_nonneg (Rat.le_of_lt sg) (Rat.mul_nonneg (Rat.le_of_lt a0) pb)
            have y3 := Rat.mul_nonneg w pa
            have y4 : t * t' * (v a K * v b k) = 0 := by grind
            rcases Rat.mul_eq_zero.mp y4 with y | y
            · grind
            · rcases Rat.mul_eq_zero.mp y with y | y
              · grind
              · exact y
          · refine nb (d.eq hb hc fun k hk z => ?_).symm
            have pa := d.pos a ha k hk
            have pc := d.pos c hc k hk
            have e1 := e k
            rw [z] at e1
            have y1 : t * t * (v a K * v c k) + (-((t' * (- v b K) - t * (- v c K)) * t)) * v a k = 0 := by grind
            have tt : 0 < t * t := by
              by_cases r : 0 < t
              · exact Rat.mul_pos r r
              · have := Rat.mul_pos (show 0 < -t by grind) (show 0 < -t by grind); grind
            have y2 := Rat.mul_nonneg (Rat.le_of_lt tt) (Rat.mul_nonneg (Rat.le_of_lt a0) pc)
            have y3 := Rat.mul_nonneg (show 0 ≤ -((t' * (- v b K) - t * (- v c K)) * t) by grind) pa
            have y4 : t * t * (v a K * v c k) = 0 := by grind
            rcases Rat.mul_eq_zero.mp y4 with y | y
            · grind
            · rcases Rat.mul_eq_zero.mp y with y | y
              · grind
              · exact y
  · have xK : 0 < x K := by have := hp K (by omega); grind
    by_cases q : ∃ a, a ∈ cs ∧ (∀ k, k < K → x k = 0 → v a k = 0) ∧ 0 ≤ v a K
    · obtain ⟨a, ha, hs, e⟩ := q
      exact kept a ha hs e fun z => absurd z hK
    · exfalso
      rcases g.blw (k := K) fun s hs => by
        obtain ⟨⟨a, ha, e⟩, hs⟩ := hs
        subst e
        exact Rat.not_le.mp fun z => q ⟨a, ha, hs, z⟩ with z | z
      · exact nz z
      · grind
end
end Mc
end
section
set_option linter.all false
namespace Mc
section
variable {α : Type} {W : Vc → Prop} {K : Nat} {cs cs' : List α} {v : α → Vc}
/-! the new list parts as the old one did -/
/-- kept a, kept b -/
theorem anti_kk {x y : Vc} (h : ¬ Sub K x y) : ¬ Sub (K + 1) x y := fun s => h fun k hk => s k (by omega)
/-- kept c is not within a crossing -/
theorem anti_kc (d : DD W K cs v) {a b c : α} {z : Vc} (ha : a ∈ cs) (hb : b ∈ cs) (hc : c ∈ cs) (h1 : 0 < v a K) (h2 : v b K < 0) (i : IsCr K (v a) (v b) z) : ¬ Sub (K + 1) (v c) z := fun s => by
  have e : ∀ k, k < K → v c k = 0 → v a k = 0 ∧ v b k = 0 := fun k hk q => (i.zero (d.pos a ha k hk) (d.pos b hb k hk) h1 h2).mp (s k (by omega) q)
  have e1 := d.eq hc ha fun k hk q => (e k hk q).1
  have e2 := d.eq hc hb fun k hk q => (e k hk q).2
  rw [← e1, e2] at h1
  grind
/-- a crossing is not within a kept c -/
theorem anti_ck (d : DD W K cs v) {a b c : α} {z : Vc} (ha : a ∈ cs) (hb : b ∈ cs) (hc : c ∈ cs) (h1 : 0 < v a K) (h2 : v b K < 0) (j : J K cs v a b) (i : IsCr K (v a) (v b) z) : ¬ Sub (K + 1) z (v c) := fun s => by
  have e0 : v c K = 0 := s K (by omega) i.at_K
  rcases j c hc fun k hk q1 q2 => s k (by omega) ((i.zero (d.pos a ha k hk) (d.pos b hb k hk) h1 h2).mpr ⟨q1, q2⟩) with e | e
  · rw [e] at e0; grind
  · rw [e] at e0; grind
/-- two crossings -/
theorem anti_cc (d : DD W K cs v) {a b a' b' : α} {z z' : Vc} (ha : a ∈ cs) (hb : b ∈ cs) (ha' : a' ∈ cs) (hb' : b' ∈ cs) (h1 : 0 < v a K) (h2 : v b K < 0) (h1' : 0 < v a' K) (h2' : v b' K < 0)
    (j : J K cs v a b) (i : IsCr K (v a) (v b) z) (i' : IsCr K (v a') (v b') z') (ne : a' ≠ a ∨ b' ≠ b) : ¬ Sub (K + 1) z z' := fun s => by
  have e : ∀ k, k < K → v a k = 0 → v b k = 0 → v a' k = 0 ∧ v b' k = 0 := fun k hk q1 q2 =>
    (i'.zero (d.pos a' ha' k hk) (d.pos b' hb' k hk) h1' h2').mp (s k (by omega) ((i.zero (d.pos a ha k hk) (d.pos b hb k hk) h1 h2).mpr ⟨q1, q2⟩))
  have e1 : a' = a := by
    rcases j a' ha' fun k hk q1 q2 => (e k hk q1 q2).1 with w | w
    · exact w
    · rw [w] at h1'; grind
  have e2 : b' = b := by
    rcases j b' hb' fun k hk q1 q2 => (e k hk q1 q2).2 with w | w
    · rw [w] at h2'; grind
    · exact w
  rcases ne with w | w
  · exact w e1
  · exact w e2
/-- the new points -/
theorem cut_dd (sp : Space W K) (d : DD W K cs v)
    (h1 : ∀ a', a' ∈ cs' → (∃ a, a ∈ cs ∧ 0 ≤ v a K ∧ v a' = v a) ∨ ∃ a, a ∈ cs ∧ ∃ b, b ∈ cs ∧ 0 < v a K ∧ v b K < 0 ∧ IsCr K (v a) (v b) (v a'))
    (h2 : ∀ a, a ∈ cs → 0 ≤ v a K → ∃ a', a' ∈ cs' ∧ v a' = v a)
    (h3 : ∀ a, a ∈ cs → ∀ b, b ∈ cs → 0 < v a K → v b K < 0 → J K cs v a b → ∃ a', a' ∈ cs' ∧ IsCr K (v a) (v b) (v a'))
    (h4 : cs'.Pairwise fun a b => ¬ Sub (K + 1) (v a) (v b) ∧ ¬ Sub (K + 1) (v b) (v a)) : DD W (K + 1) cs' v := by
  refine ⟨fun a' m => ?_, fun a' m k hk => ?_, fun a' m => ?_, h4, cut_hull sp d h2 h3⟩
  · rcases h1 a' m with ⟨a, ha, _, e⟩ | ⟨a, ha, b, hb, p, q, t, t0, e⟩
    · rw [e]; exact d.w a ha
    · have : v a' = fun k => (t * v a K) * v b k + (t * (- v b K)) * v a k := funext fun k => by
        rw [e]; show t * (v a K * v b k + (- v b K) * v a k) = _
        grind
      rw [this]; exact sp.lin _ _ (d.w b hb) (d.w a ha)
  · rcases h1 a' m with ⟨a, ha, p, e⟩ | ⟨a, ha, b, hb, p, q, i⟩
    · rw [e]
      by_cases z : k = K
      · rw [z]; exact p
      · exact d.pos a ha k (by omega)
    · by_cases z : k = K
      · rw [z, i.at_K]; decide
      · obtain ⟨t, t0, e⟩ := i
        rw [e]
        exact Rat.mul_nonneg (Rat.le_of_lt t0) (cr_pos (d.pos a ha k (by omega)) (d.pos b hb k (by omega)) p q)
  · rcases h1 a' m with ⟨a, ha, p, e⟩ | ⟨a, ha, b, hb, p, q, i⟩
    · obtain ⟨k, hk, ne⟩ := d.ne a ha
      exact ⟨k, by omega, by rw [e]; exact ne⟩
    · obtain ⟨k, hk, ne⟩ := d.ne a ha
      exact ⟨k, by omega, fun z => ne ((i.zero (d.pos a ha k hk) (d.pos b hb k hk) p q).mp z).1⟩
/-- a little of x more -/
theorem some_eps {y x : Vc} : ∀ (K : Nat), (∀ k, k < K → 0 ≤ y k) → (∀ k, k < K → y k = 0 → x k = 0) → ∃ e : Rat, 0 < e ∧ ∀ k, k < K → 0 ≤ y k + e * x k
  | 0, _, _ => ⟨1, by decide, fun k hk => by omega⟩
  | K + 1, hy, hx => by
    obtain ⟨e, e0, h⟩ := some_eps K (fun k hk => hy k (by omega)) (fun k hk => hx k (by omega))
    by_cases q : 0 ≤ y K + e * x K
    · exact ⟨e, e0, fun k hk => by
        by_cases z : k = K
        · rw [z]; exact q
        · exact h k (by omega)⟩
    · have yK := hy K (by omega)
      have yp : 0 < y K := by
        by_cases z : y K = 0
        · rw [z, hx K (by omega) z] at q; grind
        · grind
      have xn : x K < 0 := Rat.not_le.mp fun z => by
        have := Rat.mul_nonneg (Rat.le_of_lt e0) z; grind
      have e1 : y K / (- x K) * (- x K) = y K := Rat.div_mul_cancel (by grind)
      have d0 : 0 < y K / (- x K) := by rw [Rat.div_def]; exact Rat.mul_pos yp (Rat.inv_pos.mpr (by grind))
      have le : y K / (- x K) ≤ e := Rat.not_lt.mp fun z => by
        have := Rat.mul_le_mul_of_nonneg_right (Rat.le_of_lt z) (show 0 ≤ - x K by grind); grind
      refine ⟨y K / (- x K), d0, fun k hk => ?_⟩
      by_cases z : k = K
      · rw [z]; grind
      · have a := h k (by omega)
        have b := hy k (by omega)
        by_cases w : 0 ≤ x k
        · have := Rat.mul_nonneg (Rat.le_of_lt d0) w; grind
        · have := Rat.mul_le_mul_of_nonneg_right le (show 0 ≤ - x k by grind)
          grind
theorem gen_one {s : Vc} {x : Vc} (g : Gen (fun t => t = s) x) : ∃ t : Rat, 0 ≤ t ∧ ∀ k, x k = t * s k := by
  induction g with
  | zero h => exact ⟨0, by decide, fun k => by rw [h]; grind⟩
  | add ha hs g0 e ih =>
    obtain ⟨t, t0, ht⟩ := ih
    subst hs
    rename_i a u x' y'
    exact ⟨a + t, by grind, fun k => by rw [e, ht]; grind⟩
/-- what lies on all bounds of a corner is a multiple of it -/
theorem DD.line (sp : Space W K) (d : DD W K cs v) {a : α} (ha : a ∈ cs) {x : Vc} (hw : W x) (hs : Sub K (v a) x) : ∃ t : Rat, ∀ k, x k = t * v a k := by
  obtain ⟨e, e0, h⟩ := some_eps K (d.pos a ha) hs
  have w : W fun k => 1 * v a k + e * x k := sp.lin 1 e (d.w a ha) hw
  have p : ∀ k, k < K → 0 ≤ 1 * v a k + e * x k := fun k hk => by have := h k hk; grind
  have g := (d.hull _ w p).face fun s ⟨b, hb, q⟩ k hk => by rw [q]; exact d.pos b hb k hk
  have g1 : Gen (fun t => t = v a) (fun k => 1 * v a k + e * x k) := g.mono fun s ⟨⟨b, hb, q⟩, hz⟩ => by
    have : a = b := d.eq ha hb fun k hk z => by
      rw [← q]
      exact hz k hk (by rw [z, hs k hk z]; grind)
    rw [q, this]
  obtain ⟨t, t0, ht⟩ := gen_one g1
  refine ⟨(t - 1) * e⁻¹, fun k => ?_⟩
  have := ht k
  have i : e⁻¹ * e = 1 := Rat.inv_mul_cancel e (by grind)
  have y : e * x k = (t - 1) * v a k := by grind
  have : e⁻¹ * (e * x k) = e⁻¹ * ((t - 1) * v a k) := by rw [y]
  rw [← Rat.mul_assoc, i] at this
  grind
end
end Mc
end
section
set_option linter.all false
/-! MTri: in four places, what is told by its bounds alone is told by three of them. -/
namespace Tri
def d4 (a y : Nat → Int) : Int := a 0 * y 0 + a 1 * y 1 + a 2 * y 2 + a 3 * y 3
def d3 (a b c : Nat → Int) (i j k : Nat) : Int := a i * (b j * c k - b k * c j) - a j * (b i * c k - b k * c i) + a k * (b i * c j - b j * c i)
def X (a b c : Nat → Int) (i : Nat) : Int := if i = 0 then d3 a b c 1 2 3 else if i = 1 then - d3 a b c 0 2 3 else if i = 2 then d3 a b c 0 1 3 else - d3 a b c 0 1 2
theorem X0 (a b c : Nat → Int) : X a b c 0 = d3 a b c 1 2 3 := rfl
theorem X1 (a b c : Nat → Int) : X a b c 1 = - d3 a b c 0 2 3 := rfl
theorem X2 (a b c : Nat → Int) : X a b c 2 = d3 a b c 0 1 3 := rfl
theorem X3 (a b c : Nat → Int) : X a b c 3 = - d3 a b c 0 1 2 := rfl
theorem self3 (a b c : Nat → Int) : d4 c (X a b c) = 0 := by
  unfold d4; rw [X0, X1, X2, X3]; unfold d3; grind
theorem sw_3 (e a b v : Nat → Int) : d4 e (X a b v) = - d4 v (X a b e) := by
  unfold d4; rw [X0, X1, X2, X3, X0, X1, X2, X3]; unfold d3; grind
theorem sw_2 (e a v w : Nat → Int) : d4 e (X a v w) = d4 w (X a e v) := by
  unfold d4; rw [X0, X1, X2, X3, X0, X1, X2, X3]; unfold d3; grind
theorem sw_1 (e u v w : Nat → Int) : d4 e (X u v w) = - d4 w (X e u v) := by
  unfold d4; rw [X0, X1, X2, X3, X0, X1, X2, X3]; unfold d3; grind
theorem X_add (a b v c : Nat → Int) (i : Nat) : X a b (fun k => v k + c k) i = X a b v i + X a b c i := by
  unfold X
  split
  · unfold d3; grind
  · split
    · unfold d3; grind
    · split
      · unfold d3; grind
      · unfold d3; grind
theorem X_swap12 (a b c : Nat → Int) (i : Nat) : X b a c i = - X a b c i := by
  unfold X
  split
  · unfold d3; grind
  · split
    · unfold d3; grind
    · split
      · unfold d3; grind
      · unfold d3; grind
theorem X_swap23 (a b c : Nat → Int) (i : Nat) : X a c b i = - X a b c i := by
  unfold X
  split
  · unfold d3; grind
  · split
    · unfold d3; grind
    · split
      · unfold d3; grind
      · unfold d3; grind
theorem lt4 {i : Nat} (h : i < 4) : i = 0 ∨ i = 1 ∨ i = 2 ∨ i = 3 := by omega
/-- y is along c -/
def Al (y c : Nat → Int) : Prop := ∀ i j, i < 4 → j < 4 → y i * c j = y j * c i
theorem sq_nn (x : Int) : 0 ≤ x * x := by
  rcases Int.le_total 0 x with h | h
  · exact Int.mul_nonneg h h
  · exact Int.mul_nonneg_of_nonpos_of_nonpos h h
theorem sq_pos {c : Nat → Int} (h : ∃ i, i < 4 ∧ c i ≠ 0) : 0 < d4 c c := by
  obtain ⟨i, hi, ne⟩ := h
  have a0 := sq_nn (c 0) 
  have a1 := sq_nn (c 1)
  have a2 := sq_nn (c 2)
  have a3 := sq_nn (c 3)
  have p : 0 < c i * c i := by
    rcases Int.lt_or_gt_of_ne ne with q | q
    · exact Int.mul_pos_of_neg_of_neg q q
    · exact Int.mul_pos q q
  unfold d4
  rcases lt4 hi with q | q | q | q <;> subst q <;> omega
theorem al_zero {v y c : Nat → Int} (hc : ∃ i, i < 4 ∧ c i ≠ 0) (al : Al y c) (h0 : d4 v y = 0) (hv : d4 v c ≠ 0) : ∀ i, i < 4 → y i = 0 := by
  intro i hi
  have e : c i * d4 v y = y i * d4 v c := by
    have e0 := al i 0 hi (by omega)
    have e1 := al i 1 hi (by omega)
    have e2 := al i 2 hi (by omega)
    have e3 := al i 3 hi (by omega)
    unfold d4
    grind
  rw [h0, Int.mul_zero] at e
  rcases Int.mul_eq_zero.mp e.symm with q | q
  · exact q
  · exact absurd q hv
/-- an additive map whose values are along c and across the argument is 0 -/
theorem lin_zero {F : (Nat → Int) → Nat → Int} {c : Nat → Int} (hc : ∃ i, i < 4 ∧ c i ≠ 0) (add : ∀ v i, F (fun k => v k + c k) i = F v i + F c i) (al : ∀ v, Al (F v) c) (ac : ∀ v, d4 v (F v) = 0) : ∀ v i, i < 4 → F v i = 0 := by
  intro v i hi
  have sp := sq_pos hc
  by_cases q : d4 v c = 0
  · have h1 := al_zero hc (al c) (ac c) (by omega) i hi
    have e : d4 (fun k => v k + c k) c = d4 v c + d4 c c := by unfold d4; grind
    have h2 := al_zero hc (al fun k => v k + c k) (ac _) (by rw [e]; omega) i hi
    rw [add, h1] at h2
    omega
  · exact al_zero hc (al v) (ac v) q i hi
def e_ (j : Nat) : Nat → Int := fun k => if k = j then 1 else 0
theorem d4_zero {w y : Nat → Int} (h : ∀ i, i < 4 → y i = 0) : d4 w y = 0 := by
  unfold d4; rw [h 0 (by omega), h 1 (by omega), h 2 (by omega), h 3 (by omega)]; simp
/-- three of the bounds on which c lies tell it -/
theorem three {T : (Nat → Int) → Prop} {c : Nat → Int} (hc : ∃ i, i < 4 ∧ c i ≠ 0) (ker : ∀ y, (∀ h, T h → d4 h y = 0) → Al y c) : ∃ a b e, T a ∧ T b ∧ T e ∧ ∃ i, i < 4 ∧ X a b e i ≠ 0 := by
  refine Classical.byContradiction fun z => ?_
  have z3 : ∀ a b e, T a → T b → T e → ∀ i, i < 4 → X a b e i = 0 := fun a b e ha hb he i hi => Classical.byContradiction fun w => z ⟨a, b, e, ha, hb, he, i, hi, w⟩
  have s3 : ∀ a b, T a → T b → ∀ v i, i < 4 → X a b v i = 0 := fun a b ha hb => lin_zero (F := fun v => X a b v) hc (fun v i => X_add a b v c i) (fun v => ker _ fun h hh => by
    rw [sw_3, d4_zero (z3 a b h ha hb hh)]; rfl) fun v => self3 a b v
  have s2 : ∀ a, T a → ∀ v w i, i < 4 → X a v w i = 0 := fun a ha v => lin_zero (F := fun w => X a v w) hc (fun w i => X_add a v w c i) (fun w => ker _ fun h hh => by
    rw [sw_2, d4_zero (s3 a h ha hh v)]) fun w => self3 a v w
  have s1 : ∀ u v w i, i < 4 → X u v w i = 0 := fun u v => lin_zero (F := fun w => X u v w) hc (fun w i => X_add u v w c i) (fun w => ker _ fun h hh => by
    rw [sw_1, d4_zero (s2 h hh u v)]; rfl) fun w => self3 u v w
  have := s1 (e_ 0) (e_ 1) (e_ 2) 3 (by omega)
  revert this
  decide
/-- what lies on three bounds is along their X -/
theorem along {a b c y : Nat → Int} (ha : d4 a y = 0) (hb : d4 b y = 0) (hc : d4 c y = 0) : Al (X a b c) y := by
  have k : ∀ i j, i < 4 → j < 4 → i < j → X a b c i * y j = X a b c j * y i := fun i j hi hj hij => by
    have h01 : X a b c 0 * y 1 - X a b c 1 * y 0 = (b 2 * c 3 - b 3 * c 2) * d4 a y - (a 2 * c 3 - a 3 * c 2) * d4 b y + (a 2 * b 3 - a 3 * b 2) * d4 c y := by
      rw [X0, X1]; unfold d3 d4; grind
    have h02 : X a b c 0 * y 2 - X a b c 2 * y 0 = -((b 1 * c 3 - b 3 * c 1) * d4 a y - (a 1 * c 3 - a 3 * c 1) * d4 b y + (a 1 * b 3 - a 3 * b 1) * d4 c y) := by
      rw [X0, X2]; unfold d3 d4; grind
    have h03 : X a b c 0 * y 3 - X a b c 3 * y 0 = (b 1 * c 2 - b 2 * c 1) * d4 a y - (a 1 * c 2 - a 2 * c 1) * d4 b y + (a 1 * b 2 - a 2 * b 1) * d4 c y := by
      rw [X0, X3]; unfold d3 d4; grind
    have h12 : X a b c 1 * y 2 - X a b c 2 * y 1 = (b 0 * c 3 - b 3 * c 0) * d4 a y - (a 0 * c 3 - a 3 * c 0) * d4 b y + (a 0 * b 3 - a 3 * b 0) * d4 c y := by
      rw [X1, X2]; unfold d3 d4; grind
    have h13 : X a b c 1 * y 3 - X a b c 3 * y 1 = -((b 0 * c 2 - b 2 * c 0) * d4 a y - (a 0 * c 2 - a 2 * c 0) * d4 b y + (a 0 * b 2 - a 2 * b 0) * d4 c y) := by
      rw [X1, X3]; unfold d3 d4; grind
    have h23 : X a b c 2 * y 3 - X a b c 3 * y 2 = (b 0 * c 1 - b 1 * c 0) * d4 a y - (a 0 * c 1 - a 1 * c 0) * d4 b y + (a 0 * b 1 - a 1 * b 0) * d4 c y := by
      rw [X2, X3]; unfold d3 d4; grind
    rw [ha, hb, hc] at h01 h02 h03 h12 h13 h23
    simp only [Int.mul_zero, Int.sub_zero, Int.add_zero, Int.neg_zero] at h01 h02 h03 h12 h13 h23
    rcases lt4 hi with q | q | q | q <;> subst q <;> rcases lt4 hj with q | q | q | q <;> subst q <;> omega
  intro i j hi hj
  rcases Nat.lt_trichotomy i j with q | q | q
  · exact k i j hi hj q
  · subst q; rfl
  · exact (k j i hj hi q).symm
theorem abs3 {a b c : Nat → Int} {B : Nat} (ha : ∀ i, i < 4 → (a i).natAbs ≤ B) (hb : ∀ i, i < 4 → (b i).natAbs ≤ B) (hc : ∀ i, i < 4 → (c i).natAbs ≤ B) {i j k : Nat} (hi : i < 4) (hj : j < 4) (hk : k < 4) : (d3 a b c i j k).natAbs ≤ 6 * B ^ 3 := by
  have m : ∀ {x y z : Int}, x.natAbs ≤ B → y.natAbs ≤ B → z.natAbs ≤ B → (x * (y * z)).natAbs ≤ B ^ 3 := fun {x y z} h1 h2 h3 => by
    rw [Int.natAbs_mul, Int.natAbs_mul, show B ^ 3 = B * (B * B) by grind]
    exact Nat.mul_le_mul h1 (Nat.mul_le_mul h2 h3)
  have e : d3 a b c i j k = a i * (b j * c k) - a i * (b k * c j) - a j * (b i * c k) + a j * (b k * c i) + a k * (b i * c j) - a k * (b j * c i) := by unfold d3; grind
  rw [e]
  have h1 := m (ha i hi) (hb j hj) (hc k hk)
  have h2 := m (ha i hi) (hb k hk) (hc j hj)
  have h3 := m (ha j hj) (hb i hi) (hc k hk)
  have h4 := m (ha j hj) (hb k hk) (hc i hi)
  have h5 := m (ha k hk) (hb i hi) (hc j hj)
  have h6 := m (ha k hk) (hb j hj) (hc i hi)
  generalize a i * (b j * c k) = x1 at *
  generalize a i * (b k * c j) = x2 at *
  generalize a j * (b i * c k) = x3 at *
  generalize a j * (b k * c i) = x4 at *
  generalize a k * (b i * c j) = x5 at *
  generalize a k * (b j * c i) = x6 at *
  omega
theorem absX {a b c : Nat → Int} {B : Nat} (ha : ∀ i, i < 4 → (a i).natAbs ≤ B) (hb : ∀ i, i < 4 → (b i).natAbs ≤ B) (hc : ∀ i, i < 4 → (c i).natAbs ≤ B) (i : Nat) : (X a b c i).natAbs ≤ 6 * B ^ 3 := by
  unfold X
  split
  · exact abs3 ha hb hc (by omega) (by omega) (by omega)
  · split
    · rw [Int.natAbs_neg]; exact abs3 ha hb hc (by omega) (by omega) (by omega)
    · split
      · exact abs3 ha hb hc (by omega) (by omega) (by omega)
      · rw [Int.natAbs_neg]; exact abs3 ha hb hc (by omega) (by omega) (by omega)
end Tri
end
section
set_option linter.all false
/-! What the program computes, by plain data: no program in sight. -/
namespace Top
def Bd (n : Nat) (q : Rat) : Prop := q.num.natAbs < 2 ^ n ∧ q.den < 2 ^ n
abbrev OTwo (x : Rat × Rat) : Prop := ∃ n m, Bd n x.1 ∧ Bd m x.2 ∧ n + m ≤ 8990
def fits (q : Rat) (t b : Int) : Bool := (decide (-t ≤ q.num) && decide (q.num ≤ t)) && decide ((q.den : Int) ≤ b)
/-- the sums on the way stay small -/
def AddOk : Rat → List Rat → Prop
  | _, [] => True
  | t, q :: l => OTwo (t, q) ∧ AddOk (t + q) l
def sumQ (t : Rat) (l : List Rat) : Rat := l.foldl (· + ·) t
def RowsOk (x : List Rat × List Rat) : Prop := ∀ p q, (p, q) ∈ x.1.zip x.2 → OTwo (p, q)
def prods (g : List Int) (c : List Rat) : List Rat := List.zipWith (fun (g : Int) (p : Rat) => (g : Rat) * p) g c
def WorthOk (x : List Int × List Rat) : Prop := x.1.length = x.2.length ∧ x.1.length ≤ 100 ∧ (∀ g p, (g, p) ∈ x.1.zip x.2 → OTwo ((g : Rat), p)) ∧ AddOk 0 (prods x.1 x.2)
def wor (g : List Int) (c : List Rat) : Rat := sumQ 0 (prods g c)
def lexZ : List (Rat × Rat) → Bool
  | [] => false
  | (p, q) :: l => if p = q then lexZ l else decide (p < q)
def lessRow (a b : List Rat) : Bool := lexZ (a.zip b)
/-- how many at the head are ahead of the row -/
def ahead (r : List Rat) (found : List (List Rat)) : Nat := (found.takeWhile fun f => lessRow f r).length
def insR (found : List (List Rat)) (r : List Rat) : List (List Rat) :=
  if ahead r found = found.length ∨ found[ahead r found]? ≠ some r then found.take (ahead r found) ++ [r] ++ found.drop (ahead r found) else found
def ordR (rows : List (List Rat)) : List (List Rat) := rows.foldl insR []
def minQ (m : Rat) (l : List Rat) : Rat := l.foldl (fun m q => if q < m then q else m) m
def mayPass (r : List Rat) : Bool := r.all fun q => decide (q.den ≤ 10 ^ 6)
abbrev Quote := List Int × Rat
def PayOk (n : Nat) (g : List Int) : Prop := g.length = n ∧ ∀ i ∈ g, -1000 ≤ i ∧ i ≤ 1000
def PriceOk (q : Rat) : Prop := fits q (10 ^ 6) 1000 = true
def QOk (n : Nat) (q : Quote) : Prop := PayOk n q.1 ∧ PriceOk q.2
def BkOk (x : Nat × List Quote) : Prop := (2 ≤ x.1 ∧ x.1 ≤ 6) ∧ x.2.length ≤ 32 ∧ ∀ q ∈ x.2, QOk x.1 q
def ShareOk (q : Rat) : Prop := 0 ≤ q.num ∧ q.num ≤ (q.den : Nat) ∧ q.den ≤ 10 ^ 6
/-- the sums on the way, from t -/
def ChOk : Rat → List Rat → Prop
  | t, [] => t = 1
  | t, q :: l => (ShareOk q ∧ OTwo (t, q) ∧ OTwo (1, t + q) ∧ t + q ≤ 1) ∧ ChOk (t + q) l
def KeepOk (x : List Quote × List Rat) : Prop := x.1.length ≤ 32 ∧ ∀ q ∈ x.1, WorthOk (q.1, x.2) ∧ OTwo (wor q.1 x.2, q.2)
def keepB (l : List Quote) (c : List Rat) : Bool := !(l.any fun q => decide (wor q.1 c < q.2))
def gainRow (l : List Quote) (i : Nat) : List Int := l.map fun q => q.1[i]?.getD 0 * (q.2.den : Nat) - q.2.num
def gainRows (x : Nat × List Quote) : List (List Int) := (List.range' 0 x.1).map fun i => gainRow x.2 i
abbrev Cn := List Int × List Nat
/-- the numbers below 2^n -/
def Small (n : Nat) (l : List Int) : Prop := ∀ i ∈ l, i.natAbs < 2 ^ n
def crossPt (a b : List Int) (above below : Int) : List Int := List.zipWith (fun near far => above * far - below * near) a b
def gcdL (l : List Int) : Int := l.foldl (fun (g : Int) n => ((Int.gcd g n : Nat) : Int)) 0
def both (a b : List Nat) : List Nat := a.filter fun e => decide (e ∈ b)
def crossing (a b : Cn) (above below : Int) (k : Nat) : Cn := ((crossPt a.1 b.1 above below).map fun n => n / gcdL (crossPt a.1 b.1 above below), both a.2 b.2 ++ [k])
structure CrArgs where
  a : Cn
  b : Cn
  ab : Int
  be : Int
  k : Nat
def CrOk (x : CrArgs) : Prop := (Small 3000 x.a.1 ∧ Small 3000 x.b.1) ∧ (x.ab.natAbs < 2 ^ 4000 ∧ x.be.natAbs < 2 ^ 4000) ∧ (x.a.1.length ≤ 100 ∧ x.a.2.length ≤ 1000) ∧ ∃ i ∈ crossPt x.a.1 x.b.1 x.ab x.be, i ≠ 0
def joined (cs : List Cn) (i j : Nat) : Bool := !((List.zip (List.range' 0 cs.length) cs).any fun p => (!decide (p.1 = i) && !decide (p.1 = j)) && ((both (cs[i]?.getD ([], [])).2 (cs[j]?.getD ([], [])).2).all fun e => decide (e ∈ p.2.2)))
def levelOf (g : List Int) (p : List Int) : Int := (List.zipWith (fun own gain => own * gain) p g).sum
def enumL {α : Type} (l : List α) : List (Nat × α) := List.zip (List.range' 0 l.length) l
def keepCut (g : List Int) (k : Nat) (c : Cn) : List Cn := if 0 ≤ levelOf g c.1 then [if levelOf g c.1 = 0 then (c.1, c.2 ++ [k]) else c] else []
def crossCut (cs : List Cn) (k : Nat) (p q : Nat × Int) : List Cn := if 0 < p.2 ∧ q.2 < 0 ∧ joined cs p.1 q.1 = true then [crossing (cs[p.1]?.getD ([], [])) (cs[q.1]?.getD ([], [])) p.2 q.2 k] else []
def cutBy (cs : List Cn) (g : List Int) (k : Nat) : List Cn :=
  (cs.flatMap fun c => keepCut g k c) ++ (enumL (cs.map fun c => levelOf g c.1)).flatMap fun p => (enumL (cs.map fun c => levelOf g c.1)).flatMap fun q => crossCut cs k p q
def CutOk (x : List Cn × List Int × Nat) : Prop := x.1.length ≤ 900 ∧ (∀ c ∈ x.1, Small 3000 c.1 ∧ c.1.length ≤ 100 ∧ c.2.length ≤ 900) ∧ Small 100 x.2.1 ∧
  ∀ a ∈ x.1, ∀ b ∈ x.1, 0 < levelOf x.2.1 a.1 → levelOf x.2.1 b.1 < 0 → ∃ i ∈ crossPt a.1 b.1 (levelOf x.2.1 a.1) (levelOf x.2.1 b.1), i ≠ 0
/-- a quote's gains, place by place -/
def col (n : Nat) (q : Quote) : List Int := (List.range' 0 n).map fun i => q.1[i]?.getD 0 * (q.2.den : Nat) - q.2.num
def startCs (n : Nat) : List Cn := (List.range' 0 n).map fun p => ((List.range' 0 n).map fun o => if o = p then 1 else 0, (List.range' 0 n).filter fun o => !decide (o = p))
def cutAll (n : Nat) : List Cn → Nat → List Quote → List Cn
  | cs, _, [] => cs
  | cs, k, q :: l => cutAll n (cutBy cs (col n q) k) (k + 1) l
def CutAllOk (n : Nat) : List Cn → Nat → List Quote → Prop
  | _, _, [] => True
  | cs, k, q :: l => CutOk (cs, col n q, k) ∧ CutAllOk n (cutBy cs (col n q) k) (k + 1) l
def cornerPts (x : Nat × List Quote) : List (List Int) := (cutAll x.1 (startCs x.1) x.1 x.2).map (·.1)
def CpOk (x : Nat × List Quote) : Prop := BkOk x ∧ CutAllOk x.1 (startCs x.1) x.1 x.2 ∧ (cutAll x.1 (startCs x.1) x.1 x.2).length ≤ 1000
def chance (p : List Int) : List Rat := p.map fun n => Rat.divInt n p.sum
def cornersOf (x : Nat × List Quote) : List (List Rat) := ordR ((cornerPts x).map chance)
def CoOk (x : Nat × List Quote) : Prop := CpOk x ∧ (∀ p ∈ cornerPts x, p.length ≤ 1000 ∧ 0 < p.sum ∧ p.sum.natAbs < 2 ^ 8000) ∧ ∀ a b, a ∈ (cornerPts x).map chance → b ∈ (cornerPts x).map chance → RowsOk (a, b)
structure Tab where
  many : Nat
  size : Nat
  unit : Int
  basis : List Nat
  lines : List (List Int)
/-- the entry (i, j) -/
def Tab.at_ (t : Tab) (i j : Nat) : Int := (t.lines[i]?.getD [])[j]?.getD 0
/-- the last column -/
abbrev Tab.rhs (t : Tab) (i : Nat) : Int := t.at_ i (t.size + t.many)
structure TabOk (t : Tab) : Prop where
  rows : t.lines.length = t.many + 1
  cols : ∀ r ∈ t.lines, r.length = t.size + t.many + 1
  bits : ∀ r ∈ t.lines, Small 2000 r
  basis : t.basis.length = t.many
  pos : 0 < t.unit
  ub : t.unit.natAbs < 2 ^ 2000
  sz : t.many ≤ 100 ∧ t.size ≤ 100
def Tab.entering (t : Tab) : Option Nat := (List.range' 0 (t.size + t.many)).find? fun p => decide (t.at_ t.many p < 0)
def Tab.ahead (t : Tab) (i o q : Nat) : Bool := decide (t.rhs i * t.at_ o q < t.rhs o * t.at_ i q) || (decide (t.rhs i * t.at_ o q = t.rhs o * t.at_ i q) && decide ((t.basis[i]?.getD 0) < t.basis[o]?.getD 0))
def Tab.leave1 (t : Tab) (q : Nat) (f : Option Nat) (i : Nat) : Option Nat := if 0 < t.at_ i q ∧ (∀ o, f = some o → t.ahead i o q = true) then some i else f
def Tab.leaving (t : Tab) (q : Nat) : Option Nat := (List.range' 0 t.many).foldl (fun f i => t.leave1 q f i) none
def Tab.mults (t : Tab) : List Rat := (List.range' 0 t.many).map fun k => Rat.divInt (t.at_ t.many (t.size + k)) t.unit
def turnRow (t : Tab) (i q : Nat) (r : List Int) : List Int := List.zipWith (fun far near => (t.at_ i q * far - r[q]?.getD 0 * near) / t.unit) r (t.lines[i]?.getD [])
def Tab.turn (t : Tab) (i q : Nat) : Tab := { t with
  unit := t.at_ i q
  basis := t.basis.set i q
  lines := (List.range' 0 (t.many + 1)).foldl (fun ls o => if o = i then ls else ls.set o (turnRow t i q (ls[o]?.getD []))) t.lines }
structure TurnOk (t : Tab) (i q : Nat) : Prop where
  ok : TabOk t
  hi : i < t.many
  hq : q < t.size + t.many
  pos : 0 < t.at_ i q
structure Lp where
  rows : List (List Int)
  bounds : List Int
  worths : List Int
def Lp.line (x : Lp) (k : Nat) (r : List Int) : List Int := r ++ ((List.range' 0 x.rows.length).map fun j => if j = k then 1 else 0) ++ [x.bounds[k]?.getD 0]
def Lp.foot (x : Lp) : List Int := (x.worths.map fun w => -w) ++ List.replicate (x.rows.length + 1) 0
def tab0 (x : Lp) : Tab := ⟨x.rows.length, x.worths.length, 1, (List.range' 0 x.rows.length).map fun k => x.worths.length + k, ((enumL x.rows).map fun p => x.line p.1 p.2) ++ [x.foot]⟩
structure LpOk (x : Lp) : Prop where
  rows : x.rows.length ≤ 100
  worths : x.worths.length ≤ 100
  bounds : x.bounds.length = x.rows.length
  cols : ∀ r ∈ x.rows, r.length = x.worths.length
/-- the way to the end: k turns from t to e -/
inductive Steps : Nat → Tab → Tab → Prop
  | done {t : Tab} (ok : TabOk t) (h : t.entering = none) : Steps 0 t t
  | step {t e : Tab} {i q k : Nat} (h1 : t.entering = some q) (h2 : t.leaving q = some i) (ok : TurnOk t i q) (h : Steps k (t.turn i q) e) : Steps (k + 1) t e
def minI : List Int → Int
  | [] => 0
  | n :: r => r.foldl min n
def lpOf (x : Nat × List Quote) (g : List Int) : Lp := ⟨(gainRows x).map fun r => 1 :: r, g.map fun n => n - minI g, 1 :: List.replicate x.2.length 0⟩
def Sol (x : Nat × List Quote) (g : List Int) (e : Tab) : Prop := ∃ k, Steps k (tab0 (lpOf x g)) e
structure SolArg where
  x : Nat × List Quote
  g : List Int
  e : Tab
def SolOk (s : SolArg) : Prop := BkOk s.x ∧ s.g.length = s.x.1 ∧ Sol s.x s.g s.e
def Tab.value (e : Tab) : Rat := Rat.divInt (e.rhs e.many) e.unit
def zeros (x : Nat × List Quote) : List Int := List.replicate x.1 0
def Sound (x : Nat × List Quote) : Prop := ∃ e, SolOk ⟨x, zeros x, e⟩
def colQ (cs : List (List Rat)) (p : Nat) : List Rat := cs.map fun c => c[p]?.getD 0
def meanOf (n : Nat) (cs : List (List Rat)) : List Rat := (List.range' 0 n).map fun p => sumQ 0 (colQ cs p) / (cs.length : Nat)
def MeanOk (x : Nat × List Quote) : Prop := ((Sound x ∧ x.1 ≤ 5) ∧ CoOk x) ∧ cornersOf x ≠ [] ∧ (cornersOf x).length ≤ 1000 ∧ (∀ c ∈ cornersOf x, c.length = x.1) ∧ ∀ p, p < x.1 → AddOk 0 (colQ (cornersOf x) p) ∧ OTwo (sumQ 0 (colQ (cornersOf x) p), ((cornersOf x).length : Nat))
/-- the least worth that the answer tells -/
def leastOf (s : SolArg) : Rat := (minI s.g : Rat) + s.e.value
def AskOk (s : SolArg) : Prop := SolOk s ∧ PayOk s.x.1 s.g ∧ Sound s.x ∧ OTwo ((minI s.g : Rat), s.e.value)
def neg (g : List Int) : List Int := g.map fun i => -i
/-- the chance that an answer's multiples tell -/
def chanceIn (e : Tab) : List Rat := e.mults.map fun q => q / sumQ 0 e.mults
def ChInOk (e : Tab) : Prop := TabOk e ∧ AddOk 0 e.mults ∧ 0 < sumQ 0 e.mults ∧ ∃ n, Bd n (sumQ 0 e.mults) ∧ n ≤ 4000
end Top
namespace Top
/-- what the ends of a payoff are asked of -/
structure PrArg where
  x : Nat × List Quote
  r0 : List Rat
  rs : List (List Rat)
  mid : List Rat
  g : List Int
  e : Tab
  e' : Tab
def lowQ (g : List Int) (r0 : List Rat) (rs : List (List Rat)) : Rat := minQ (wor g r0) (wor g r0 :: rs.map (wor g))
def highQ (g : List Int) (r0 : List Rat) (rs : List (List Rat)) : Rat := -(minQ (-(wor g r0)) (-(wor g r0) :: rs.map fun r => -(wor g r)))
structure PrOk (s : PrArg) : Prop where
  len : (s.r0 :: s.rs).length ≤ 1000
  told : cornersOf s.x = s.r0 :: s.rs
  glen : s.g.length ≤ 100
  w : ∀ r ∈ s.r0 :: s.rs, WorthOk (s.g, r)
  two : ∀ p q, p ∈ wor s.g s.r0 :: s.rs.map (wor s.g) → q ∈ wor s.g s.r0 :: s.rs.map (wor s.g) → OTwo (p, q)
  twoN : ∀ p q, p ∈ -(wor s.g s.r0) :: s.rs.map (fun r => -(wor s.g r)) → q ∈ -(wor s.g s.r0) :: s.rs.map (fun r => -(wor s.g r)) → OTwo (p, q)
  ask : AskOk ⟨s.x, s.g, s.e⟩
  askN : PayOk s.x.1 s.g ∧ AskOk ⟨s.x, neg s.g, s.e'⟩
  lowE : leastOf ⟨s.x, s.g, s.e⟩ = lowQ s.g s.r0 s.rs
  highE : -(leastOf ⟨s.x, neg s.g, s.e'⟩) = highQ s.g s.r0 s.rs
  chin : ChInOk s.e
  wch : WorthOk (s.g, chanceIn s.e)
  wchE : wor s.g (chanceIn s.e) = lowQ s.g s.r0 s.rs
  wm : WorthOk (s.g, s.mid)
  m1 : OTwo (wor s.g s.mid, lowQ s.g s.r0 s.rs)
  m1' : ¬ wor s.g s.mid < lowQ s.g s.r0 s.rs
  m2 : OTwo (highQ s.g s.r0 s.rs, wor s.g s.mid)
  m2' : ¬ highQ s.g s.r0 s.rs < wor s.g s.mid
  face : (lowQ s.g s.r0 s.rs).den ≤ 1000 → BkOk (s.x.1, s.x.2 ++ [(neg s.g, -(lowQ s.g s.r0 s.rs))]) ∧
    ((Sound (s.x.1, s.x.2 ++ [(neg s.g, -(lowQ s.g s.r0 s.rs))]) ∧ s.x.1 ≤ 5) ∧ CoOk (s.x.1, s.x.2 ++ [(neg s.g, -(lowQ s.g s.r0 s.rs))])) ∧
    cornersOf (s.x.1, s.x.2 ++ [(neg s.g, -(lowQ s.g s.r0 s.rs))]) = (s.r0 :: s.rs).filter fun r => decide (wor s.g r = lowQ s.g s.r0 s.rs)
end Top
end
section
set_option linter.all false
/-! MCut: the cutting of the program keeps the double description. -/
namespace Top
open Mc
/-! sums -/
def sQ : Nat → (Nat → Rat) → Rat
  | 0, _ => 0
  | n + 1, f => sQ n f + f n
theorem sQ_congr {n : Nat} {f g : Nat → Rat} (h : ∀ i, i < n → f i = g i) : sQ n f = sQ n g := by
  induction n with
  | zero => rfl
  | succ n ih => show sQ n f + f n = sQ n g + g n; rw [ih fun i hi => h i (by omega), h n (by omega)]
theorem sQ_zero {n : Nat} {f : Nat → Rat} (h : ∀ i, i < n → f i = 0) : sQ n f = 0 := by
  induction n with
  | zero => rfl
  | succ n ih => show sQ n f + f n = 0; rw [ih fun i hi => h i (by omega), h n (by omega)]; grind
theorem sQ_lin (n : Nat) (a b : Rat) (f g : Nat → Rat) : sQ n (fun i => a * f i + b * g i) = a * sQ n f + b * sQ n g := by
  induction n with
  | zero => show (0 : Rat) = a * 0 + b * 0; grind
  | succ n ih => show sQ n _ + (a * f n + b * g n) = a * (sQ n f + f n) + b * (sQ n g + g n); rw [ih]; grind
theorem sQ_one {n r : Nat} {f : Nat → Rat} (hr : r < n) (h : ∀ k, k < n → k ≠ r → f k = 0) : sQ n f = f r := by
  induction n with
  | zero => omega
  | succ n ih =>
    show sQ n f + f n = f r
    by_cases e : r = n
    · subst e
      rw [sQ_zero fun k hk => h k (by omega) (by omega)]; grind
    · rw [ih (by omega) fun k hk => h k (by omega), h n (by omega) (fun q => e q.symm)]; grind
theorem sQ_shift (n : Nat) (f : Nat → Rat) : sQ (n + 1) f = f 0 + sQ n fun i => f (i + 1) := by
  induction n with
  | zero => show (0 : Rat) + f 0 = f 0 + 0; grind
  | succ n ih => show sQ (n + 1) f + f (n + 1) = f 0 + (sQ n (fun i => f (i + 1)) + f (n + 1)); rw [ih]; grind
/-- a row at a vector -/
def dot (n : Nat) (h : List Int) (y : Nat → Rat) : Rat := sQ n fun i => ((h[i]?.getD 0 : Int) : Rat) * y i
def coords (p : List Int) : Nat → Rat := fun i => ((p[i]?.getD 0 : Int) : Rat)
theorem level_dot : ∀ {g p : List Int} {n : Nat}, g.length = n → p.length = n → ((levelOf g p : Int) : Rat) = dot n g (coords p)
  | [], p, n, h1, h2 => by
    simp at h1; subst h1
    rw [List.length_eq_zero_iff.mp h2]; rfl
  | a :: g, [], n, h1, h2 => by simp at h1 h2; omega
  | a :: g, b :: p, n, h1, h2 => by
    obtain ⟨m, rfl⟩ : ∃ m, n = m + 1 := ⟨g.length, by simpa using h1.symm⟩
    have ih := level_dot (g := g) (p := p) (n := m) (by simpa using h1) (by simpa using h2)
    unfold dot at ih ⊢
    rw [sQ_shift]
    have e : levelOf (a :: g) (b :: p) = b * a + levelOf g p := by
      unfold levelOf; rw [List.zipWith_cons_cons, List.sum_cons]
    rw [e, Rat.intCast_add, Rat.intCast_mul, ih]
    unfold coords
    simp only [List.getElem?_cons_zero, Option.getD_some, List.getElem?_cons_succ]
    grind
theorem level_nil (p : List Int) : levelOf [] p = 0 := by unfold levelOf; rw [List.zipWith_nil_right]; rfl
/-- the levels of a point -/
def vec (hs : List (List Int)) (p : List Int) : Vc := fun k => ((levelOf (hs[k]?.getD []) p : Int) : Rat)
/-- the bounds: the outcomes' own, then others -/
structure Hs (n : Nat) (hs : List (List Int)) : Prop where
  len : ∀ h ∈ hs, h.length = n
  unit : ∀ i, i < n → ∀ j, j < n → (hs[i]?.getD [])[j]?.getD 0 = if j = i then 1 else 0
  le : n ≤ hs.length
def Wp (n : Nat) (hs : List (List Int)) : Vc → Prop := fun x => ∃ y : Nat → Rat, ∀ k, x k = if k < hs.length then dot n (hs[k]?.getD []) y else 0
section
variable {n : Nat} {hs : List (List Int)}
theorem dot_lin (h : List Int) (a b : Rat) (x y : Nat → Rat) : dot n h (fun i => a * x i + b * y i) = a * dot n h x + b * dot n h y := by
  unfold dot
  rw [← sQ_lin]
  exact sQ_congr fun i _ => by grind
theorem dot_unit (H : Hs n hs) {k : Nat} (hk : k < n) (y : Nat → Rat) : dot n (hs[k]?.getD []) y = y k := by
  unfold dot
  rw [sQ_one (r := k) hk fun i hi ne => by rw [H.unit k hk i hi, if_neg ne]; grind]
  rw [H.unit k hk k hk, if_pos rfl]; grind
theorem wp_space (H : Hs n hs) {K : Nat} (hK : n ≤ K) : Space (Wp n hs) K := by
  refine ⟨fun {x y} a b ⟨u, hu⟩ ⟨w, hw⟩ => ⟨fun i => a * u i + b * w i, fun k => ?_⟩, fun {x} ⟨u, hu⟩ hz k => ?_⟩
  · show a * x k + b * y k = _
    rw [hu, hw]
    split
    · rw [dot_lin]
    · grind
  · rw [hu]
    have z : ∀ i, i < n → u i = 0 := fun i hi => by
      have := hz i (by omega)
      rw [hu, if_pos (by have := H.le; omega), dot_unit H hi] at this
      exact this
    split
    · unfold dot
      exact sQ_zero fun i hi => by rw [z i hi]; grind
    · rfl
theorem vec_w (H : Hs n hs) {p : List Int} (hp : p.length = n) : Wp n hs (vec hs p) := by
  refine ⟨coords p, fun k => ?_⟩
  unfold vec
  split
  · rename_i hk
    exact level_dot (H.len _ (by rw [List.getElem?_eq_getElem hk]; exact List.getElem_mem hk)) hp
  · rename_i hk
    rw [List.getElem?_eq_none (by omega)]
    show ((levelOf [] p : Int) : Rat) = 0
    rw [level_nil]; rfl
theorem vec_coord (H : Hs n hs) {p : List Int} (hp : p.length = n) {i : Nat} (hi : i < n) : vec hs p i = coords p i := by
  have hk : i < hs.length := by have := H.le; omega
  unfold vec
  rw [level_dot (H.len _ (by rw [List.getElem?_eq_getElem hk]; exact List.getElem_mem hk)) hp, dot_unit H hi]
end
/-! ### the crossing -/
theorem level_cross : ∀ (g a b : List Int) (x y : Int), a.length = b.length → levelOf g (crossPt a b x y) = x * levelOf g b - y * levelOf g a
  | [], a, b, x, y, _ => by rw [level_nil, level_nil, level_nil]; grind
  | h :: g, [], [], x, y, _ => by simp [crossPt, levelOf]
  | h :: g, [], b :: bs, x, y, e => by simp at e
  | h :: g, a :: as, [], x, y, e => by simp at e
  | h :: g, a :: as, b :: bs, x, y, e => by
    have ih := level_cross g as bs x y (by simpa using e)
    unfold crossPt levelOf at ih ⊢
    simp only [List.zipWith_cons_cons, List.sum_cons]
    rw [ih]; grind
theorem level_div {d : Int} : ∀ (g p : List Int), (∀ i ∈ p, d ∣ i) → levelOf g (p.map fun n => n / d) * d = levelOf g p
  | [], p, _ => by rw [level_nil, level_nil]; grind
  | h :: g, [], _ => by simp [levelOf]
  | h :: g, a :: as, e => by
    have ih := level_div g as fun i hi => e i (List.mem_cons_of_mem _ hi)
    have q := Int.ediv_mul_cancel (e a List.mem_cons_self)
    unfold levelOf at ih ⊢
    simp only [List.map_cons, List.zipWith_cons_cons, List.sum_cons]
    rw [Int.add_mul, ih]
    have : a / d * h * d = a * h := by
      calc a / d * h * d = (a / d * d) * h := by grind
        _ = a * h := by rw [q]
    rw [this]
theorem gcdL_spec : ∀ (l : List Int) (g : Int), 0 ≤ g → 0 ≤ l.foldl (fun (g : Int) n => ((Int.gcd g n : Nat) : Int)) g ∧ (l.foldl (fun (g : Int) n => ((Int.gcd g n : Nat) : Int)) g ∣ g) ∧ (∀ i ∈ l, l.foldl (fun (g : Int) n => ((Int.gcd g n : Nat) : Int)) g ∣ i) ∧ ∀ d : Int, d ∣ g → (∀ i ∈ l, d ∣ i) → d ∣ l.foldl (fun (g : Int) n => ((Int.gcd g n : Nat) : Int)) g
  | [], g, h => ⟨h, Int.dvd_refl g, by simp, fun d hd _ => hd⟩
  | n :: l, g, h => by
    obtain ⟨h1, h2, h3, h4⟩ := gcdL_spec l ((Int.gcd g n : Nat) : Int) (by omega)
    refine ⟨h1, Int.dvd_trans h2 (Int.gcd_dvd_left g n), fun i hi => ?_, fun d hd hl => h4 d (Int.dvd_coe_gcd hd (hl n List.mem_cons_self)) fun i hi => hl i (List.mem_cons_of_mem _ hi)⟩
    rcases List.mem_cons.mp hi with q | q
    · subst q; exact Int.dvd_trans h2 (Int.gcd_dvd_right g i)
    · exact h3 i q
theorem gcdL_dvd {l : List Int} {i : Int} (h : i ∈ l) : gcdL l ∣ i := (gcdL_spec l 0 (by decide)).2.2.1 i h
theorem gcdL_nonneg (l : List Int) : 0 ≤ gcdL l := (gcdL_spec l 0 (by decide)).1
theorem dvd_gcdL {l : List Int} {d : Int} (h : ∀ i ∈ l, d ∣ i) : d ∣ gcdL l := (gcdL_spec l 0 (by decide)).2.2.2 d (Int.dvd_zero d) h
/-- without a common divisor -/
def Prim (p : List Int) : Prop := ∀ d : Int, 0 ≤ d → (∀ i ∈ p, d ∣ i) → d = 1
theorem prim_div {l : List Int} (h : ∃ i ∈ l, i ≠ 0) : 0 < gcdL l ∧ Prim (l.map fun n => n / gcdL l) := by
  have g0 : 0 < gcdL l := by
    obtain ⟨i, hi, ne⟩ := h
    have h1 := gcdL_nonneg l
    have h2 := gcdL_dvd hi
    by_cases q : gcdL l = 0
    · rw [q] at h2; exact absurd (Int.zero_dvd.mp h2) ne
    · omega
  refine ⟨g0, fun d d0 hd => ?_⟩
  have h1 : d * gcdL l ∣ gcdL l := dvd_gcdL fun i hi => by
    obtain ⟨c, hc⟩ := hd _ (List.mem_map_of_mem hi)
    have q := Int.ediv_mul_cancel (gcdL_dvd hi)
    rw [hc] at q
    exact ⟨c, by rw [← q]; grind⟩
  obtain ⟨c, hc⟩ := h1
  have h2 : gcdL l * (d * c) = gcdL l * 1 := by rw [Int.mul_one]; rw [show gcdL l * (d * c) = d * gcdL l * c by grind]; exact hc.symm
  have h3 : d * c = 1 := Int.eq_of_mul_eq_mul_left (by omega) h2
  exact Int.eq_one_of_mul_eq_one_right d0 h3
/-! ### lists with places -/
theorem mem_enumL {α : Type} {l : List α} {p : Nat × α} : p ∈ enumL l ↔ l[p.1]? = some p.2 := by
  unfold enumL
  rw [List.mem_iff_getElem?]
  constructor
  · rintro ⟨i, hi⟩
    rw [List.getElem?_zip_eq_some] at hi
    obtain ⟨h1, h2⟩ := hi
    have := (List.getElem?_eq_some_iff.mp h1).2
    simp at this
    rw [← this]; exact h2
  · intro h
    have hl := (List.getElem?_eq_some_iff.mp h).1
    refine ⟨p.1, List.getElem?_zip_eq_some.mpr ⟨?_, h⟩⟩
    rw [List.getElem?_range' (by simpa using hl)]; simp
theorem enumL_pw {α : Type} (l : List α) : (enumL l).Pairwise fun p q => p.1 ≠ q.1 := by
  have h : ((enumL l).map (·.1)).Pairwise fun a b => a < b := by
    have e : (enumL l).map (·.1) = List.range' 0 l.length := by
      unfold enumL
      exact List.map_fst_zip (by simp)
    rw [e]; exact List.pairwise_lt_range'
  rw [List.pairwise_map] at h
  exact h.imp fun {a b} q => Nat.ne_of_lt q
/-! ### the state of the cutting -/
structure St (n : Nat) (hs : List (List Int)) (K : Nat) (cs : List Cn) : Prop where
  len : ∀ c ∈ cs, c.1.length = n
  prim : ∀ c ∈ cs, Prim c.1
  zs : ∀ c ∈ cs, ∀ k, k ∈ c.2 ↔ k < K ∧ levelOf (hs[k]?.getD []) c.1 = 0
  zl : ∀ c ∈ cs, c.2.length ≤ K
  dd : DD (Wp n hs) K cs fun c => vec hs c.1
section
variable {n K : Nat} {hs : List (List Int)} {cs : List Cn}
theorem vec_zero {p : List Int} {k : Nat} : vec hs p k = 0 ↔ levelOf (hs[k]?.getD []) p = 0 := by
  unfold vec
  constructor
  · intro h; exact Rat.intCast_eq_zero_iff.mp h
  · intro h; rw [h]; rfl
theorem nd_inj {α : Type} {l : List α} (h : l.Nodup) {i j : Nat} (hi : i < l.length) (hj : j < l.length) (e : l[i] = l[j]) : i = j := by
  rw [List.nodup_iff_pairwise_ne] at h
  rcases Nat.lt_trichotomy i j with q | q | q
  · exact absurd e (List.pairwise_iff_getElem.mp h i j hi hj q)
  · exact q
  · exact absurd e.symm (List.pairwise_iff_getElem.mp h j i hj hi q)
theorem joined_iff (s : St n hs K cs) {i j : Nat} (hi : i < cs.length) (hj : j < cs.length) : joined cs i j = true ↔ J K cs (fun c => vec hs c.1) cs[i] cs[j] := by
  have ei : cs[i]?.getD ([], []) = cs[i] := by rw [List.getElem?_eq_getElem hi]; rfl
  have ej : cs[j]?.getD ([], []) = cs[j] := by rw [List.getElem?_eq_getElem hj]; rfl
  have mi := List.getElem_mem hi
  have mj := List.getElem_mem hj
  have q : joined cs i j = true ↔ ∀ r c, cs[r]? = some c → r ≠ i → r ≠ j → ∃ e ∈ both cs[i].2 cs[j].2, ¬ e ∈ c.2 := by
    unfold joined
    rw [ei, ej]
    simp only [Bool.not_eq_true', List.any_eq_false, Bool.and_eq_true, Bool.not_eq_true', decide_eq_false_iff_not, List.all_eq_true, decide_eq_true_eq, not_and]
    constructor
    · intro h r c hr n1 n2
      have w := h (r, c) (mem_enumL.mpr hr) ⟨n1, n2⟩
      exact Classical.byContradiction fun z => w fun e he => Classical.byContradiction fun y => z ⟨e, he, y⟩
    · intro h p hp ⟨n1, n2⟩ w
      obtain ⟨e, he, ne⟩ := h p.1 p.2 (mem_enumL.mp hp) n1 n2
      exact ne (w e he)
  rw [q]
  have mb : ∀ e, e ∈ both cs[i].2 cs[j].2 ↔ e ∈ cs[i].2 ∧ e ∈ cs[j].2 := fun e => by unfold both; rw [List.mem_filter]; simp
  constructor
  · intro h c hc hz
    obtain ⟨r, hr, rfl⟩ := List.mem_iff_getElem.mp hc
    by_cases e1 : r = i
    · subst e1; exact .inl rfl
    · by_cases e2 : r = j
      · subst e2; exact .inr rfl
      · obtain ⟨e, he, ne⟩ := h r _ (List.getElem?_eq_getElem hr) e1 e2
        obtain ⟨y1, y2⟩ := (mb e).mp he
        obtain ⟨z1, z2⟩ := (s.zs _ mi e).mp y1
        obtain ⟨z3, z4⟩ := (s.zs _ mj e).mp y2
        exact absurd ((s.zs _ hc e).mpr ⟨z1, vec_zero.mp (hz e z1 (vec_zero.mpr z2) (vec_zero.mpr z4))⟩) ne
  · intro h r c hr n1 n2
    obtain ⟨hr', e⟩ := List.getElem?_eq_some_iff.mp hr
    refine Classical.byContradiction fun z => ?_
    have hc : c ∈ cs := by rw [← e]; exact List.getElem_mem hr'
    have ne : ∀ t, (ht : t < cs.length) → r ≠ t → c ≠ cs[t] := fun t ht n3 e3 => by
      rw [← e] at e3
      exact n3 (nd_inj s.dd.nd hr' ht e3)
    rcases h c hc fun k hk y1 y2 => vec_zero.mpr ((s.zs c hc k).mp (Classical.byContradiction fun y => z ⟨k, (mb k).mpr ⟨(s.zs _ mi k).mpr ⟨hk, vec_zero.mp y1⟩, (s.zs _ mj k).mpr ⟨hk, vec_zero.mp y2⟩⟩, y⟩)).2 with w | w
    · exact ne i hi n1 w
    · exact ne j hj n2 w
theorem Prim.ne {p : List Int} (h : Prim p) : ∃ i ∈ p, i ≠ 0 := Classical.byContradiction fun z => by
  have := h 0 (by decide) fun i hi => by
    by_cases q : i = 0
    · rw [q]; exact Int.dvd_refl 0
    · exact absurd ⟨i, hi, q⟩ z
  omega
/-- what a place of the new list is -/
inductive Src (cs : List Cn) (g : List Int) (K : Nat) : Cn → Prop
  | kept {c : Cn} (hc : c ∈ cs) (h : 0 ≤ levelOf g c.1) : Src cs g K (if levelOf g c.1 = 0 then (c.1, c.2 ++ [K]) else c)
  | cross {i j : Nat} (hi : i < cs.length) (hj : j < cs.length) (h1 : 0 < levelOf g cs[i].1) (h2 : levelOf g cs[j].1 < 0) (h3 : joined cs i j = true) : Src cs g K (crossing cs[i] cs[j] (levelOf g cs[i].1) (levelOf g cs[j].1) K)
theorem mem_keep {g : List Int} {c c' : Cn} : c' ∈ keepCut g K c ↔ 0 ≤ levelOf g c.1 ∧ c' = if levelOf g c.1 = 0 then (c.1, c.2 ++ [K]) else c := by
  unfold keepCut
  split
  · rename_i h; rw [List.mem_singleton]; simp [h]
  · rename_i h; simp [h]
theorem mem_lev {g : List Int} {p : Nat × Int} : p ∈ enumL (cs.map fun c => levelOf g c.1) ↔ ∃ h : p.1 < cs.length, p.2 = levelOf g (cs[p.1]).1 := by
  rw [mem_enumL, List.getElem?_map]
  constructor
  · intro h
    cases e : cs[p.1]? with
    | none => rw [e] at h; cases h
    | some c =>
      rw [e] at h
      obtain ⟨h1, h2⟩ := List.getElem?_eq_some_iff.mp e
      refine ⟨h1, ?_⟩
      rw [h2]
      exact (Option.some.inj h).symm
  · rintro ⟨h1, h2⟩
    rw [List.getElem?_eq_getElem h1, h2]; rfl
theorem mem_cross {g : List Int} {p q : Nat × Int} {c' : Cn} (hp : ∃ h : p.1 < cs.length, p.2 = levelOf g (cs[p.1]).1) (hq : ∃ h : q.1 < cs.length, q.2 = levelOf g (cs[q.1]).1) :
    c' ∈ crossCut cs K p q ↔ ∃ (h1 : p.1 < cs.length) (h2 : q.1 < cs.length), 0 < levelOf g (cs[p.1]).1 ∧ levelOf g (cs[q.1]).1 < 0 ∧ joined cs p.1 q.1 = true ∧ c' = crossing cs[p.1] cs[q.1] (levelOf g (cs[p.1]).1) (levelOf g (cs[q.1]).1) K := by
  obtain ⟨h1, e1⟩ := hp
  obtain ⟨h2, e2⟩ := hq
  unfold crossCut
  rw [List.getElem?_eq_getElem h1, List.getElem?_eq_getElem h2, e1, e2]
  split
  · rename_i h
    rw [List.mem_singleton]
    exact ⟨fun e => ⟨h1, h2, h.1, h.2.1, h.2.2, e⟩, fun ⟨_, _, _, _, _, e⟩ => e⟩
  · rename_i h
    exact ⟨fun z => by simp at z, fun ⟨_, _, a, b, c, _⟩ => absurd ⟨a, b, c⟩ h⟩
theorem src_of {g : List Int} {c' : Cn} : c' ∈ cutBy cs g K ↔ Src cs g K c' := by
  unfold cutBy
  rw [List.mem_append, List.mem_flatMap, List.mem_flatMap]
  constructor
  · rintro (⟨c, hc, h⟩ | ⟨p, hp, h⟩)
    · obtain ⟨h1, rfl⟩ := mem_keep.mp h
      exact .kept hc h1
    · rw [List.mem_flatMap] at h
      obtain ⟨q, hq, h⟩ := h
      obtain ⟨h1, h2, h3, h4, h5, rfl⟩ := (mem_cross (mem_lev.mp hp) (mem_lev.mp hq)).mp h
      exact .cross h1 h2 h3 h4 h5
  · intro h
    cases h with
    | kept hc h => exact .inl ⟨_, hc, mem_keep.mpr ⟨h, rfl⟩⟩
    | cross hi hj h1 h2 h3 =>
      rename_i i j
      have hp : (i, levelOf g cs[i].1) ∈ enumL (cs.map fun c => levelOf g c.1) := mem_lev.mpr ⟨hi, rfl⟩
      have hq : (j, levelOf g cs[j].1) ∈ enumL (cs.map fun c => levelOf g c.1) := mem_lev.mpr ⟨hj, rfl⟩
      refine .inr ⟨_, hp, ?_⟩
      rw [List.mem_flatMap]
      exact ⟨_, hq, (mem_cross (mem_lev.mp hp) (mem_lev.mp hq)).mpr ⟨hi, hj, h1, h2, h3, rfl⟩⟩
end
end Top
end
section
set_option linter.all false
namespace Top
open Mc
section
variable {n K : Nat} {hs : List (List Int)} {cs : List Cn}
theorem cross_len {a b : List Int} {x y : Int} (ha : a.length = n) (hb : b.length = n) : (crossPt a b x y).length = n := by
  unfold crossPt; rw [List.length_zipWith, ha, hb]; omega
/-- the places of a point, by their levels -/
theorem coord_get (H : Hs n hs) {p : List Int} (hp : p.length = n) {i : Nat} (hi : i < n) : ((levelOf (hs[i]?.getD []) p : Int) : Rat) = ((p[i]?.getD 0 : Int) : Rat) := vec_coord H hp hi
theorem coord_get' (H : Hs n hs) {p : List Int} (hp : p.length = n) {i : Nat} (hi : i < n) : levelOf (hs[i]?.getD []) p = p[i]?.getD 0 := Rat.intCast_inj.mp (coord_get H hp hi)
theorem some_place {p : List Int} {i : Int} (h : i ∈ p) : ∃ k, k < p.length ∧ p[k]?.getD 0 = i := by
  obtain ⟨k, hk, e⟩ := List.mem_iff_getElem.mp h
  exact ⟨k, hk, by rw [List.getElem?_eq_getElem hk]; exact e⟩
theorem St.pos (s : St n hs K cs) {c : Cn} (hc : c ∈ cs) {k : Nat} (hk : k < K) : 0 ≤ levelOf (hs[k]?.getD []) c.1 := by
  have := s.dd.pos c hc k hk
  exact Rat.intCast_nonneg.mp this
/-- a crossing's numbers are not all 0 -/
theorem cross_ne (H : Hs n hs) (hK : n ≤ K) (s : St n hs K cs) {a b : Cn} (ha : a ∈ cs) (hb : b ∈ cs) (h1 : 0 < levelOf (hs[K]?.getD []) a.1) (h2 : levelOf (hs[K]?.getD []) b.1 < 0) :
    ∃ i ∈ crossPt a.1 b.1 (levelOf (hs[K]?.getD []) a.1) (levelOf (hs[K]?.getD []) b.1), i ≠ 0 := by
  have la := s.len a ha
  have lb := s.len b hb
  obtain ⟨i, hi, ne⟩ := (s.prim a ha).ne
  obtain ⟨k, hk, e⟩ := some_place hi
  have ka : 0 ≤ levelOf (hs[k]?.getD []) a.1 := s.pos ha (by omega)
  have kb : 0 ≤ levelOf (hs[k]?.getD []) b.1 := s.pos hb (by omega)
  rw [coord_get' H la (by omega), e] at ka
  have lk : k < (crossPt a.1 b.1 (levelOf (hs[K]?.getD []) a.1) (levelOf (hs[K]?.getD []) b.1)).length := by rw [cross_len la lb]; omega
  refine ⟨_, List.getElem_mem lk, fun z => ?_⟩
  have z' : (crossPt a.1 b.1 (levelOf (hs[K]?.getD []) a.1) (levelOf (hs[K]?.getD []) b.1))[k]?.getD 0 = 0 := by rw [List.getElem?_eq_getElem lk]; exact z
  rw [← coord_get' H (cross_len la lb) (by omega), level_cross _ _ _ _ _ (by rw [la, lb]), coord_get' H la (show k < n by omega), e] at z'
  have p1 : 0 < (- levelOf (hs[K]?.getD []) b.1) * i := Int.mul_pos (by omega) (by omega)
  have p2 : 0 ≤ levelOf (hs[K]?.getD []) a.1 * levelOf (hs[k]?.getD []) b.1 := Int.mul_nonneg (by omega) kb
  grind
theorem cross_is (H : Hs n hs) (hK : n ≤ K) (s : St n hs K cs) {a b : Cn} (ha : a ∈ cs) (hb : b ∈ cs) (h1 : 0 < levelOf (hs[K]?.getD []) a.1) (h2 : levelOf (hs[K]?.getD []) b.1 < 0) :
    IsCr K (vec hs a.1) (vec hs b.1) (vec hs (crossing a b (levelOf (hs[K]?.getD []) a.1) (levelOf (hs[K]?.getD []) b.1) K).1) := by
  obtain ⟨g0, _⟩ := prim_div (cross_ne H hK s ha hb h1 h2)
  refine ⟨((gcdL (crossPt a.1 b.1 (levelOf (hs[K]?.getD []) a.1) (levelOf (hs[K]?.getD []) b.1)) : Int) : Rat)⁻¹, Rat.inv_pos.mpr (Rat.intCast_pos.mpr g0), fun k => ?_⟩
  have e1 := level_div (hs[k]?.getD []) (crossPt a.1 b.1 (levelOf (hs[K]?.getD []) a.1) (levelOf (hs[K]?.getD []) b.1)) fun i hi => gcdL_dvd hi
  rw [level_cross _ _ _ _ _ (by rw [s.len a ha, s.len b hb])] at e1
  unfold crossing
  dsimp only
  generalize gcdL (crossPt a.1 b.1 (levelOf (hs[K]?.getD []) a.1) (levelOf (hs[K]?.getD []) b.1)) = g at g0 e1 ⊢
  have e2 : ((levelOf (hs[k]?.getD []) (List.map (fun n => n / g) (crossPt a.1 b.1 (levelOf (hs[K]?.getD []) a.1) (levelOf (hs[K]?.getD []) b.1))) : Int) : Rat) * (g : Rat) = ((levelOf (hs[K]?.getD []) a.1 : Int) : Rat) * ((levelOf (hs[k]?.getD []) b.1 : Int) : Rat) - ((levelOf (hs[K]?.getD []) b.1 : Int) : Rat) * ((levelOf (hs[k]?.getD []) a.1 : Int) : Rat) := by
    rw [← Rat.intCast_mul, e1, Rat.intCast_sub, Rat.intCast_mul, Rat.intCast_mul]
  have gn : (g : Rat) ≠ 0 := fun z => by have := Rat.intCast_eq_zero_iff.mp z; omega
  have e3 : (g : Rat)⁻¹ * (g : Rat) = 1 := Rat.inv_mul_cancel _ gn
  show vec hs _ k = (g : Rat)⁻¹ * (vec hs a.1 K * vec hs b.1 k + (- vec hs b.1 K) * vec hs a.1 k)
  unfold vec
  show ((levelOf (hs[k]?.getD []) (List.map (fun n => n / g) (crossPt a.1 b.1 (levelOf (hs[K]?.getD []) a.1) (levelOf (hs[K]?.getD []) b.1))) : Int) : Rat) = _
  generalize ((levelOf (hs[k]?.getD []) (List.map (fun n => n / g) (crossPt a.1 b.1 (levelOf (hs[K]?.getD []) a.1) (levelOf (hs[K]?.getD []) b.1))) : Int) : Rat) = L at e2
  have e4 : (g : Rat)⁻¹ * (L * (g : Rat)) = L := by
    rw [Rat.mul_comm L, ← Rat.mul_assoc, e3, Rat.one_mul]
  rw [e2] at e4
  rw [← e4]
  grind
theorem anti_iff {n1 n2 : Prop} (h1 : n1) (h2 : n2) : n1 ∧ n2 := ⟨h1, h2⟩
/-- THE CUT KEEPS IT -/
theorem cut_st (H : Hs n hs) (hK : n ≤ K) (s : St n hs K cs) : St n hs (K + 1) (cutBy cs (hs[K]?.getD []) K) := by
  have vK : ∀ p : List Int, vec hs p K = ((levelOf (hs[K]?.getD []) p : Int) : Rat) := fun p => rfl
  have v0 : ∀ c : Cn, 0 ≤ vec hs c.1 K ↔ 0 ≤ levelOf (hs[K]?.getD []) c.1 := fun c => Rat.intCast_nonneg
  have vp : ∀ c : Cn, 0 < vec hs c.1 K ↔ 0 < levelOf (hs[K]?.getD []) c.1 := fun c => Rat.intCast_pos
  have vn : ∀ c : Cn, vec hs c.1 K < 0 ↔ levelOf (hs[K]?.getD []) c.1 < 0 := fun c => Rat.intCast_neg_iff
  have fst : ∀ c : Cn, (if levelOf (hs[K]?.getD []) c.1 = 0 then (c.1, c.2 ++ [K]) else c).1 = c.1 := fun c => by split <;> rfl
  refine ⟨fun c' m => ?_, fun c' m => ?_, fun c' m k => ?_, fun c' m => ?_, ?_⟩
  · cases src_of.mp m with
    | kept hc h => rw [fst]; exact s.len _ hc
    | cross hi hj h1 h2 h3 => unfold crossing; rw [List.length_map]; exact cross_len (s.len _ (List.getElem_mem hi)) (s.len _ (List.getElem_mem hj))
  · cases src_of.mp m with
    | kept hc h => rw [fst]; exact s.prim _ hc
    | cross hi hj h1 h2 h3 => exact (prim_div (cross_ne H hK s (List.getElem_mem hi) (List.getElem_mem hj) h1 h2)).2
  · cases src_of.mp m with
    | kept hc h =>
      rename_i c
      split
      · rename_i z
        show k ∈ c.2 ++ [K] ↔ _
        rw [List.mem_append, List.mem_singleton, s.zs c hc]
        constructor
        · rintro (⟨h1, h2⟩ | h1)
          · exact ⟨by omega, h2⟩
          · subst h1; exact ⟨by omega, z⟩
        · rintro ⟨h1, h2⟩
          by_cases q : k = K
          · exact .inr q
          · exact .inl ⟨by omega, h2⟩
      · rename_i z
        rw [s.zs c hc]
        constructor
        · rintro ⟨h1, h2⟩; exact ⟨by omega, h2⟩
        · rintro ⟨h1, h2⟩
          by_cases q : k = K
          · subst q; exact absurd h2 z
          · exact ⟨by omega, h2⟩
    | cross hi hj h1 h2 h3 =>
      rename_i i j
      have mi := List.getElem_mem hi
      have mj := List.getElem_mem hj
      have ic := cross_is H hK s mi mj h1 h2
      rw [← vec_zero]
      have e : k ∈ (crossing cs[i] cs[j] (levelOf (hs[K]?.getD []) cs[i].1) (levelOf (hs[K]?.getD []) cs[j].1) K).2 ↔ (k ∈ cs[i].2 ∧ k ∈ cs[j].2) ∨ k = K := by
        unfold crossing both
        simp only [List.mem_append, List.mem_filter, List.mem_singleton, decide_eq_true_eq]
      rw [e, s.zs _ mi, s.zs _ mj]
      constructor
      · rintro (⟨⟨y1, y2⟩, _, y3⟩ | y)
        · exact ⟨by omega, (ic.zero (s.dd.pos _ mi k y1) (s.dd.pos _ mj k y1) ((vp _).mpr h1) ((vn _).mpr h2)).mpr ⟨vec_zero.mpr y2, vec_zero.mpr y3⟩⟩
        · subst y; exact ⟨by omega, ic.at_K⟩
      · rintro ⟨y1, y2⟩
        by_cases q : k = K
        · exact .inr q
        · have y1' : k < K := by omega
          obtain ⟨y3, y4⟩ := (ic.zero (s.dd.pos _ mi k y1') (s.dd.pos _ mj k y1') ((vp _).mpr h1) ((vn _).mpr h2)).mp y2
          exact .inl ⟨⟨y1', vec_zero.mp y3⟩, y1', vec_zero.mp y4⟩
  · cases src_of.mp m with
    | kept hc h =>
      have := s.zl _ hc
      split
      · simp; omega
      · omega
    | cross hi hj h1 h2 h3 =>
      rename_i i j
      have := s.zl _ (List.getElem_mem hi)
      unfold crossing both
      simp only [List.length_append, List.length_singleton]
      have h5 := List.length_filter_le (fun e => decide (e ∈ cs[j].2)) cs[i].2
      omega
  · refine cut_dd (wp_space H hK) s.dd (fun a' m => ?_) (fun a ha h0 => ?_) (fun a ha b hb h1 h2 j => ?_) ?_
    · cases src_of.mp m with
      | kept hc h => exact .inl ⟨_, hc, (v0 _).mpr h, by rw [fst]⟩
      | cross hi hj h1 h2 h3 => exact .inr ⟨_, List.getElem_mem hi, _, List.getElem_mem hj, (vp _).mpr h1, (vn _).mpr h2, cross_is H hK s (List.getElem_mem hi) (List.getElem_mem hj) h1 h2⟩
    · exact ⟨_, src_of.mpr (.kept ha ((v0 a).mp h0)), by rw [fst]⟩
    · obtain ⟨i, hi, rfl⟩ := List.mem_iff_getElem.mp ha
      obtain ⟨k, hk, rfl⟩ := List.mem_iff_getElem.mp hb
      exact ⟨_, src_of.mpr (.cross hi hk ((vp _).mp h1) ((vn _).mp h2) ((joined_iff s hi hk).mpr j)), cross_is H hK s ha hb ((vp _).mp h1) ((vn _).mp h2)⟩
    · have rk : ∀ (i j : Nat) (hi : i < cs.length) (hj : j < cs.length), i ≠ j → ¬ Sub K (vec hs cs[i].1) (vec hs cs[j].1) := fun i j hi hj ne h => ne (nd_inj s.dd.nd hi hj (s.dd.eq (List.getElem_mem hi) (List.getElem_mem hj) h))
      unfold cutBy
      rw [List.pairwise_append]
      refine ⟨?_, ?_, fun a ha b hb => ?_⟩
      · rw [List.pairwise_flatMap]
        refine ⟨fun a ha => ?_, s.dd.anti.imp fun {a b} h x hx y hy => ?_⟩
        · unfold keepCut
          split
          · exact List.pairwise_singleton _ _
          · exact List.Pairwise.nil
        · obtain ⟨_, rfl⟩ := mem_keep.mp hx
          obtain ⟨_, rfl⟩ := mem_keep.mp hy
          rw [fst, fst]
          exact ⟨anti_kk h.1, anti_kk h.2⟩
      · rw [List.pairwise_flatMap]
        have both2 : ∀ {p p' q q' : Nat × Int} {x y : Cn}, p ∈ enumL (cs.map fun c => levelOf (hs[K]?.getD []) c.1) → p' ∈ enumL (cs.map fun c => levelOf (hs[K]?.getD []) c.1) → q ∈ enumL (cs.map fun c => levelOf (hs[K]?.getD []) c.1) → q' ∈ enumL (cs.map fun c => levelOf (hs[K]?.getD []) c.1) →
            (p.1 ≠ p'.1 ∨ q.1 ≠ q'.1) → x ∈ crossCut cs K p q → y ∈ crossCut cs K p' q' → ¬ Sub (K + 1) (vec hs x.1) (vec hs y.1) ∧ ¬ Sub (K + 1) (vec hs y.1) (vec hs x.1) := fun {p p' q q' x y} hp hp' hq hq' ne hx hy => by
          obtain ⟨i1, i2, i3, i4, i5, rfl⟩ := (mem_cross (mem_lev.mp hp) (mem_lev.mp hq)).mp hx
          obtain ⟨k1, k2, k3, k4, k5, rfl⟩ := (mem_cross (mem_lev.mp hp') (mem_lev.mp hq')).mp hy
          have mi1 := List.getElem_mem i1
          have mi2 := List.getElem_mem i2
          have mk1 := List.getElem_mem k1
          have mk2 := List.getElem_mem k2
          have c1 := cross_is H hK s mi1 mi2 i3 i4
          have c2 := cross_is H hK s mk1 mk2 k3 k4
          have ne1 : cs[p'.1] ≠ cs[p.1] ∨ cs[q'.1] ≠ cs[q.1] := by
            rcases ne with w | w
            · exact .inl fun z => w (nd_inj s.dd.nd k1 i1 z).symm
            · exact .inr fun z => w (nd_inj s.dd.nd k2 i2 z).symm
          refine ⟨anti_cc s.dd mi1 mi2 mk1 mk2 ((vp _).mpr i3) ((vn _).mpr i4) ((vp _).mpr k3) ((vn _).mpr k4) ((joined_iff s i1 i2).mp i5) c1 c2 ne1, ?_⟩
          refine anti_cc s.dd mk1 mk2 mi1 mi2 ((vp _).mpr k3) ((vn _).mpr k4) ((vp _).mpr i3) ((vn _).mpr i4) ((joined_iff s k1 k2).mp k5) c2 c1 ?_
          rcases ne1 with w | w
          · exact .inl fun z => w z.symm
          · exact .inr fun z => w z.symm
        refine ⟨fun p hp => ?_, (enumL_pw _).imp_of_mem fun {p p'} hp hp' ne x hx y hy => ?_⟩
        · rw [List.pairwise_flatMap]
          refine ⟨fun q hq => ?_, (enumL_pw _).imp_of_mem fun {q q'} hq hq' ne x hx y hy => ?_⟩
          · unfold crossCut
            split
            · exact List.pairwise_singleton _ _
            · exact List.Pairwise.nil
          · exact both2 hp hp hq hq' (.inr ne) hx hy
        · rw [List.mem_flatMap] at hx hy
          obtain ⟨q, hq, hx⟩ := hx
          obtain ⟨q', hq', hy⟩ := hy
          exact both2 hp hp' hq hq' (.inl ne) hx hy
      · rw [List.mem_flatMap] at ha hb
        obtain ⟨c, hc, ha⟩ := ha
        obtain ⟨p, hp, hb⟩ := hb
        rw [List.mem_flatMap] at hb
        obtain ⟨q, hq, hb⟩ := hb
        obtain ⟨h0, rfl⟩ := mem_keep.mp ha
        obtain ⟨i1, i2, i3, i4, i5, rfl⟩ := (mem_cross (mem_lev.mp hp) (mem_lev.mp hq)).mp hb
        rw [fst]
        have mi1 := List.getElem_mem i1
        have mi2 := List.getElem_mem i2
        have c1 := cross_is H hK s mi1 mi2 i3 i4
        exact ⟨anti_kc s.dd mi1 mi2 hc ((vp _).mpr i3) ((vn _).mpr i4) c1, anti_ck s.dd mi1 mi2 hc ((vp _).mpr i3) ((vn _).mpr i4) ((joined_iff s i1 i2).mp i5) c1⟩
end
end Top
end
section
set_option linter.all false
namespace Top
open Mc
def unitL (n p : Nat) : List Int := (List.range' 0 n).map fun o => if o = p then 1 else 0
theorem unit_get {n p i : Nat} (hi : i < n) : (unitL n p)[i]?.getD 0 = if i = p then 1 else 0 := by
  unfold unitL
  rw [List.getElem?_map, List.getElem?_range' (by simpa using hi)]; simp
theorem unit_len (n p : Nat) : (unitL n p).length = n := by unfold unitL; simp
def hsOf (n : Nat) (l : List Quote) : List (List Int) := (List.range' 0 n).map (unitL n) ++ l.map (col n)
theorem hs_unit {n : Nat} {l : List Quote} {k : Nat} (hk : k < n) : (hsOf n l)[k]?.getD [] = unitL n k := by
  unfold hsOf
  rw [List.getElem?_append_left (by simpa using hk), List.getElem?_map, List.getElem?_range' (by simpa using hk)]; simp
theorem hs_col {n : Nat} {l : List Quote} {j : Nat} (hj : j < l.length) : (hsOf n l)[n + j]?.getD [] = col n l[j] := by
  unfold hsOf
  rw [List.getElem?_append_right (by simp), List.getElem?_map]
  simp [hj]
theorem col_len (n : Nat) (q : Quote) : (col n q).length = n := by unfold col; simp
theorem hs_ok (n : Nat) (l : List Quote) : Hs n (hsOf n l) := by
  refine ⟨fun h m => ?_, fun i hi j hj => ?_, by unfold hsOf; simp⟩
  · unfold hsOf at m
    rcases List.mem_append.mp m with m | m
    · obtain ⟨p, _, rfl⟩ := List.mem_map.mp m; exact unit_len n p
    · obtain ⟨q, _, rfl⟩ := List.mem_map.mp m; exact col_len n q
  · rw [hs_unit hi, unit_get hj]
theorem hs_len (n : Nat) (l : List Quote) : (hsOf n l).length = n + l.length := by unfold hsOf; simp
section
variable {n : Nat} {hs : List (List Int)}
theorem mem_start {c : Cn} : c ∈ startCs n ↔ ∃ p, p < n ∧ c = (unitL n p, (List.range' 0 n).filter fun o => !decide (o = p)) := by
  unfold startCs
  rw [List.mem_map]
  constructor
  · rintro ⟨p, hp, rfl⟩
    rw [List.mem_range'_1] at hp
    exact ⟨p, by omega, rfl⟩
  · rintro ⟨p, hp, rfl⟩
    exact ⟨p, by rw [List.mem_range'_1]; omega, rfl⟩
theorem unit_coords {p i : Nat} (hi : i < n) : coords (unitL n p) i = if i = p then 1 else 0 := by
  unfold coords
  rw [unit_get hi]
  split <;> rfl
theorem start_st (H : Hs n hs) : St n hs n (startCs n) := by
  have lv : ∀ p k, k < n → levelOf (hs[k]?.getD []) (unitL n p) = if k = p then 1 else 0 := fun p k hk => by
    rw [coord_get' H (unit_len n p) hk, unit_get hk]
  have vv : ∀ p k, k < n → vec hs (unitL n p) k = if k = p then 1 else 0 := fun p k hk => by
    unfold vec; rw [lv p k hk]; split <;> rfl
  refine ⟨fun c hc => ?_, fun c hc d d0 hd => ?_, fun c hc k => ?_, fun c hc => ?_, fun c hc => ?_, fun c hc k hk => ?_, fun c hc => ?_, ?_, fun x hx hp => ?_⟩
  · obtain ⟨p, hp, rfl⟩ := mem_start.mp hc; exact unit_len n p
  · obtain ⟨p, hp, rfl⟩ := mem_start.mp hc
    have h1 : (1 : Int) ∈ unitL n p := by
      unfold unitL
      exact List.mem_map.mpr ⟨p, by rw [List.mem_range'_1]; omega, if_pos rfl⟩
    exact Int.eq_one_of_dvd_one d0 (hd 1 h1)
  · obtain ⟨p, hp, rfl⟩ := mem_start.mp hc
    rw [List.mem_filter, List.mem_range'_1]
    simp only [Bool.not_eq_true', decide_eq_false_iff_not]
    constructor
    · rintro ⟨h1, h2⟩
      exact ⟨by omega, by rw [lv p k (by omega), if_neg h2]⟩
    · rintro ⟨h1, h2⟩
      refine ⟨by omega, fun e => ?_⟩
      rw [lv p k h1, if_pos e] at h2; omega
  · obtain ⟨p, hp, rfl⟩ := mem_start.mp hc
    have := List.length_filter_le (fun o => !decide (o = p)) (List.range' 0 n)
    simp at this ⊢
    omega
  · obtain ⟨p, hp, rfl⟩ := mem_start.mp hc; exact vec_w H (unit_len n p)
  · obtain ⟨p, hp, rfl⟩ := mem_start.mp hc
    show 0 ≤ vec hs (unitL n p) k
    rw [vv p k hk]; split <;> decide
  · obtain ⟨p, hp, rfl⟩ := mem_start.mp hc
    refine ⟨p, hp, ?_⟩
    show vec hs (unitL n p) p ≠ 0
    rw [vv p p hp, if_pos rfl]; decide
  · unfold startCs
    rw [List.pairwise_map]
    have ns : ∀ p q, p < n → q < n → p ≠ q → ¬ Sub n (vec hs (unitL n p)) (vec hs (unitL n q)) := fun p q hp hq ne h => by
      have h1 : vec hs (unitL n q) q = 0 := h q hq (by rw [vv p q hq, if_neg (fun e => ne e.symm)])
      rw [vv q q hq, if_pos rfl] at h1
      exact absurd h1 (by decide)
    refine (List.pairwise_lt_range' (s := 0) (n := n)).imp_of_mem fun {p q} hp hq lt => ?_
    rw [List.mem_range'_1] at hp hq
    exact ⟨ns p q (by omega) (by omega) (by omega), ns q p (by omega) (by omega) (by omega)⟩
  · obtain ⟨y, hy⟩ := hx
    have yp : ∀ i, i < n → 0 ≤ y i := fun i hi => by
      have := hp i hi
      rw [hy, if_pos (by have := H.le; omega), dot_unit H hi] at this
      exact this
    have part : ∀ m, m ≤ n → Gen (One (startCs n) fun c => vec hs c.1) (fun k => if k < hs.length then dot n (hs[k]?.getD []) (fun i => if i < m then y i else 0) else 0) := fun m => by
      induction m with
      | zero =>
        intro _
        refine .zero fun k => ?_
        split
        · unfold dot
          exact sQ_zero fun i hi => by dsimp only; rw [if_neg (by omega)]; grind
        · rfl
      | succ m ih =>
        intro hm
        refine .add (a := y m) (s := vec hs (unitL n m)) (yp m (by omega)) ⟨_, mem_start.mpr ⟨m, by omega, rfl⟩, rfl⟩ (ih (by omega)) fun k => ?_
        split
        · rename_i hk
          have hl : (hs[k]?.getD []).length = n := H.len _ (by rw [List.getElem?_eq_getElem hk]; exact List.getElem_mem hk)
          have e1 : vec hs (unitL n m) k = dot n (hs[k]?.getD []) (coords (unitL n m)) := level_dot hl (unit_len n m)
          have e2 := dot_lin (n := n) (hs[k]?.getD []) (y m) 1 (coords (unitL n m)) (fun i => if i < m then y i else 0)
          rw [e1, show y m * dot n (hs[k]?.getD []) (coords (unitL n m)) + dot n (hs[k]?.getD []) (fun i => if i < m then y i else 0) = y m * dot n (hs[k]?.getD []) (coords (unitL n m)) + 1 * dot n (hs[k]?.getD []) (fun i => if i < m then y i else 0) by grind, ← e2]
          unfold dot
          refine sQ_congr fun i hi => ?_
          dsimp only
          rw [unit_coords hi]
          by_cases q : i = m
          · subst q; rw [if_pos (by omega), if_pos rfl, if_neg (by omega)]; grind
          · rw [if_neg q]
            by_cases w : i < m
            · rw [if_pos (by omega), if_pos w]; grind
            · rw [if_neg (by omega), if_neg w]; grind
        · rename_i hk
          have : vec hs (unitL n m) k = 0 := by
            unfold vec; rw [List.getElem?_eq_none (by omega)]
            show ((levelOf [] _ : Int) : Rat) = 0
            rw [level_nil]; rfl
          rw [this]; grind
    refine (part n (Nat.le_refl n)).congr fun k => ?_
    rw [hy]
    split
    · unfold dot
      exact sQ_congr fun i hi => by dsimp only; rw [if_pos hi]
    · rfl
theorem cutAll_st (H : Hs n hs) : ∀ (l : List Quote) (K : Nat) (cs : List Cn), n ≤ K → St n hs K cs → (∀ j, (hj : j < l.length) → hs[K + j]?.getD [] = col n l[j]) → St n hs (K + l.length) (cutAll n cs K l)
  | [], K, cs, _, s, _ => s
  | q :: l, K, cs, hK, s, hc => by
    have h0 := hc 0 (by simp)
    rw [Nat.add_zero] at h0
    have s1 := cut_st H hK s
    rw [h0] at s1
    have z := cutAll_st H l (K + 1) _ (by omega) s1 fun j hj => by
      have := hc (j + 1) (by simpa using hj)
      rw [show K + (j + 1) = K + 1 + j by omega] at this
      rw [this]; simp
    rw [show K + (q :: l).length = K + 1 + l.length by simp; omega]
    exact z
/-- the corners of a book -/
theorem book_st (n : Nat) (l : List Quote) : St n (hsOf n l) (n + l.length) (cutAll n (startCs n) n l) :=
  cutAll_st (hs_ok n l) l n _ (Nat.le_refl n) (start_st (hs_ok n l)) fun j hj => hs_col hj
end
end Top
end
section
set_option linter.all false
namespace Top
open Mc Tri
theorem sQ_pad {n m : Nat} {f : Nat → Rat} (h : n ≤ m) (z : ∀ i, n ≤ i → i < m → f i = 0) : sQ m f = sQ n f := by
  induction m with
  | zero => rw [show n = 0 by omega]
  | succ m ih =>
    by_cases q : n = m + 1
    · rw [q]
    · show sQ m f + f m = _
      rw [ih (by omega) fun i h1 h2 => z i h1 (by omega), z m (by omega) (by omega)]; grind
theorem sQ_4 (f : Nat → Rat) : sQ 4 f = f 0 + f 1 + f 2 + f 3 := by
  show ((((0 : Rat) + f 0) + f 1) + f 2) + f 3 = _
  grind
/-- a row's numbers, 0 behind them -/
def pad (g : List Int) : Nat → Int := fun i => g[i]?.getD 0
theorem pad_out {g : List Int} {i : Nat} (h : g.length ≤ i) : pad g i = 0 := by unfold pad; rw [List.getElem?_eq_none h]; rfl
theorem d4_dot {n : Nat} {g : List Int} (hg : g.length = n) (hn : n ≤ 4) (y : Nat → Int) : ((d4 (pad g) y : Int) : Rat) = dot n g fun i => ((y i : Int) : Rat) := by
  unfold dot
  rw [← sQ_pad hn fun i h1 h2 => by
    show ((pad g i : Int) : Rat) * _ = 0
    rw [pad_out (by omega)]; grind]
  rw [sQ_4]
  unfold d4 pad
  simp only [Rat.intCast_add, Rat.intCast_mul]
theorem d4_level {n : Nat} {g p : List Int} (hg : g.length = n) (hp : p.length = n) (hn : n ≤ 4) : d4 (pad g) (pad p) = levelOf g p := by
  have e := level_dot hg hp
  rw [← Rat.intCast_inj, d4_dot hg hn, e]; rfl
theorem d4_unit {i : Nat} (hi : i < 4) (y : Nat → Int) : d4 (e_ i) y = y i := by
  unfold d4 e_
  rcases lt4 hi with q | q | q | q <;> subst q <;> simp
/-- the bounds in four places -/
def hp (n : Nat) (l : List Quote) (m : Nat) : Nat → Int := if m < 4 then e_ m else pad (col n (l[m - 4]?.getD ([], 0)))
section
variable {n K : Nat} {l : List Quote} {cs : List Cn}
theorem hs_in {k : Nat} (h : k < n + l.length) : ((hsOf n l)[k]?.getD []).length = n := (hs_ok n l).len _ (by
  rw [List.getElem?_eq_getElem (by rw [hs_len]; exact h)]; exact List.getElem_mem _)
/-- who lies on all bounds of a corner is along it -/
theorem ker4 (hn : n ≤ 4) (hK : n ≤ K) (hl : K ≤ n + l.length) (s : St n (hsOf n l) K cs) {c : Cn} (hc : c ∈ cs) {y : Nat → Int}
    (h : ∀ m, m < 4 + (K - n) → d4 (hp n l m) (pad c.1) = 0 → d4 (hp n l m) y = 0) : Al y (pad c.1) := by
  have H := hs_ok n l
  have len := s.len c hc
  have y0 : ∀ i, n ≤ i → i < 4 → y i = 0 := fun i h1 h2 => by
    have e := h i (by omega) (by unfold hp; rw [if_pos h2, d4_unit h2]; exact pad_out (by omega))
    unfold hp at e
    rw [if_pos h2, d4_unit h2] at e; exact e
  obtain ⟨t, ht⟩ := s.dd.line (wp_space H hK) hc (x := fun k => if k < (hsOf n l).length then dot n ((hsOf n l)[k]?.getD []) (fun i => ((y i : Int) : Rat)) else 0) ⟨_, fun k => rfl⟩ (fun k hk z => by
    have z' := vec_zero.mp z
    show (if k < (hsOf n l).length then _ else (0 : Rat)) = 0
    rw [hs_len, if_pos (by omega)]
    by_cases q : k < n
    · rw [dot_unit H q]
      have e := h k (by omega) (by
        unfold hp; rw [if_pos (by omega), d4_unit (by omega)]
        have := coord_get' H len q
        rw [z'] at this
        exact this.symm)
      unfold hp at e
      rw [if_pos (by omega), d4_unit (by omega)] at e
      rw [e]; rfl
    · have hj : k - n < l.length := by omega
      have ek : (hsOf n l)[k]?.getD [] = col n (l[k - n]?.getD ([], 0)) := by
        have := hs_col (n := n) hj
        rw [show n + (k - n) = k by omega] at this
        rw [this, List.getElem?_eq_getElem hj]; rfl
      have e := h (4 + (k - n)) (by omega) (by
        unfold hp; rw [if_neg (by omega), show 4 + (k - n) - 4 = k - n by omega, d4_level (col_len _ _) len hn, ← ek]; exact z')
      unfold hp at e
      rw [if_neg (by omega), show 4 + (k - n) - 4 = k - n by omega] at e
      rw [ek, ← d4_dot (col_len _ _) hn, e]; rfl)
  have yt : ∀ i, i < 4 → ((y i : Int) : Rat) = t * ((pad c.1 i : Int) : Rat) := fun i hi => by
    by_cases q : i < n
    · have e := ht i
      rw [hs_len, if_pos (by omega), dot_unit H q, vec_coord H len q] at e
      exact e
    · rw [y0 i (by omega) hi, pad_out (by omega)]
      show (0 : Rat) = t * 0
      grind
  intro i j hi hj
  rw [← Rat.intCast_inj, Rat.intCast_mul, Rat.intCast_mul, yt i hi, yt j hj]; grind
theorem pad_ne {p : List Int} (h : Prim p) (hl : p.length ≤ 4) : ∃ i, i < 4 ∧ pad p i ≠ 0 := by
  obtain ⟨i, hi, ne⟩ := h.ne
  obtain ⟨k, hk, e⟩ := some_place hi
  exact ⟨k, by omega, by unfold pad; rw [e]; exact ne⟩
/-- what tells a corner: three places of bounds -/
def Tells (n : Nat) (l : List Quote) (p : List Int) (m : Nat × Nat × Nat) : Prop := (d4 (hp n l m.1) (pad p) = 0 ∧ d4 (hp n l m.2.1) (pad p) = 0 ∧ d4 (hp n l m.2.2) (pad p) = 0) ∧ ∃ i, i < 4 ∧ X (hp n l m.1) (hp n l m.2.1) (hp n l m.2.2) i ≠ 0
theorem tells_ex (hn : n ≤ 4) (hK : n ≤ K) (hl : K ≤ n + l.length) (s : St n (hsOf n l) K cs) {c : Cn} (hc : c ∈ cs) :
    ∃ m : Nat × Nat × Nat, (m.1 < 4 + (K - n) ∧ m.2.1 < 4 + (K - n) ∧ m.2.2 < 4 + (K - n)) ∧ Tells n l c.1 m := by
  have len := s.len c hc
  obtain ⟨a, b, e, ⟨ma, h1, rfl, t1⟩, ⟨mb, h2, rfl, t2⟩, ⟨me, h3, rfl, t3⟩, hx⟩ := three (T := fun h => ∃ m, m < 4 + (K - n) ∧ h = hp n l m ∧ d4 h (pad c.1) = 0) (pad_ne (s.prim c hc) (by omega)) fun y hy => ker4 hn hK hl s hc fun m hm z => hy _ ⟨m, hm, rfl, z⟩
  exact ⟨(ma, mb, me), ⟨h1, h2, h3⟩, ⟨t1, t2, t3⟩, hx⟩
theorem tells_sw12 {p : List Int} {a b c : Nat} (h : Tells n l p (a, b, c)) : Tells n l p (b, a, c) := by
  obtain ⟨⟨h1, h2, h3⟩, i, hi, ne⟩ := h
  exact ⟨⟨h2, h1, h3⟩, i, hi, fun z => ne (by rw [X_swap12] at z; dsimp only at z ⊢; omega)⟩
theorem tells_sw23 {p : List Int} {a b c : Nat} (h : Tells n l p (a, b, c)) : Tells n l p (a, c, b) := by
  obtain ⟨⟨h1, h2, h3⟩, i, hi, ne⟩ := h
  exact ⟨⟨h1, h3, h2⟩, i, hi, fun z => ne (by rw [X_swap23] at z; dsimp only at z ⊢; omega)⟩
theorem tells_ne12 {p : List Int} {a b c : Nat} (h : Tells n l p (a, b, c)) : a ≠ b := fun e => by
  subst e
  obtain ⟨_, i, hi, ne⟩ := h
  have := X_swap12 (hp n l a) (hp n l a) (hp n l c) i
  dsimp only at ne
  omega
theorem tells_ne23 {p : List Int} {a b c : Nat} (h : Tells n l p (a, b, c)) : b ≠ c := fun e => by
  subst e
  obtain ⟨_, i, hi, ne⟩ := h
  have := X_swap23 (hp n l a) (hp n l b) (hp n l b) i
  dsimp only at ne
  omega
theorem tells_sort {p : List Int} {M : Nat} (h : ∃ m : Nat × Nat × Nat, (m.1 < M ∧ m.2.1 < M ∧ m.2.2 < M) ∧ Tells n l p m) : ∃ m : Nat × Nat × Nat, (m.1 < m.2.1 ∧ m.2.1 < m.2.2 ∧ m.2.2 < M) ∧ Tells n l p m := by
  obtain ⟨⟨a, b, c⟩, ⟨h1, h2, h3⟩, t⟩ := h
  dsimp only at h1 h2 h3
  have n1 := tells_ne12 t
  have n2 := tells_ne23 t
  have n3 := tells_ne12 (tells_sw23 t)
  by_cases q1 : a < b
  · by_cases q2 : b < c
    · exact ⟨(a, b, c), ⟨q1, q2, h3⟩, t⟩
    · by_cases q3 : a < c
      · exact ⟨(a, c, b), ⟨q3, by dsimp only; omega, h2⟩, tells_sw23 t⟩
      · exact ⟨(c, a, b), ⟨by dsimp only; omega, q1, h2⟩, tells_sw12 (tells_sw23 t)⟩
  · by_cases q2 : a < c
    · exact ⟨(b, a, c), ⟨by dsimp only; omega, q2, h3⟩, tells_sw12 t⟩
    · by_cases q3 : b < c
      · exact ⟨(b, c, a), ⟨q3, by dsimp only; omega, h1⟩, tells_sw23 (tells_sw12 t)⟩
      · exact ⟨(c, b, a), ⟨by dsimp only; omega, by dsimp only; omega, h1⟩, tells_sw12 (tells_sw23 (tells_sw12 t))⟩
/-- two corners told by the same three are one -/
theorem tells_eq (hn : n ≤ 4) (hl : K ≤ n + l.length) (s : St n (hsOf n l) K cs) {a b : Cn} (ha : a ∈ cs) (hb : b ∈ cs) {m : Nat × Nat × Nat} (h1 : Tells n l a.1 m) (h2 : Tells n l b.1 m) : a = b := by
  have la := s.len a ha
  have lb := s.len b hb
  obtain ⟨⟨t1, t2, t3⟩, j, hj, ne⟩ := h1
  obtain ⟨⟨u1, u2, u3⟩, _⟩ := h2
  have A := along t1 t2 t3
  have B := along u1 u2 u3
  generalize X (hp n l m.1) (hp n l m.2.1) (hp n l m.2.2) = x at ne A B
  have aj : pad a.1 j ≠ 0 := fun z => by
    obtain ⟨i, hi, ni⟩ := pad_ne (s.prim a ha) (by omega)
    have := A j i hj hi
    rw [z, Int.mul_zero] at this
    rcases Int.mul_eq_zero.mp this with q | q
    · exact ne q
    · exact ni q
  refine s.dd.eq ha hb fun k hk z => ?_
  have z' := vec_zero.mp z
  refine vec_zero.mpr ?_
  have hg := hs_in (n := n) (l := l) (k := k) (by omega)
  have e : pad a.1 j * levelOf ((hsOf n l)[k]?.getD []) b.1 = pad b.1 j * levelOf ((hsOf n l)[k]?.getD []) a.1 := by
    rw [← d4_level hg la hn, ← d4_level hg lb hn]
    have q : ∀ i, i < 4 → pad a.1 j * pad b.1 i = pad b.1 j * pad a.1 i := fun i hi => by
      have h1 := A i j hi hj
      have h2 := B i j hi hj
      refine Int.eq_of_mul_eq_mul_left ne ?_
      grind
    have q0 := q 0 (by omega)
    have q1 := q 1 (by omega)
    have q2 := q 2 (by omega)
    have q3 := q 3 (by omega)
    unfold d4
    grind
  rw [z', Int.mul_zero] at e
  rcases Int.mul_eq_zero.mp e with q | q
  · exact absurd q aj
  · exact q
/-- all three places below 9, ascending -/
def tris : List (Nat × Nat × Nat) := (List.range 9).flatMap fun a => (List.range 9).flatMap fun b => ((List.range 9).filter fun c => decide (a < b ∧ b < c)).map fun c => (a, b, c)
theorem tris_len : tris.length = 84 := by decide +kernel
theorem mem_tris {m : Nat × Nat × Nat} (h : m.1 < m.2.1 ∧ m.2.1 < m.2.2 ∧ m.2.2 < 9) : m ∈ tris := by
  obtain ⟨a, b, c⟩ := m
  obtain ⟨h1, h2, h3⟩ := h
  dsimp only at h1 h2 h3
  unfold tris
  rw [List.mem_flatMap]
  refine ⟨a, List.mem_range.mpr (by omega), ?_⟩
  rw [List.mem_flatMap]
  refine ⟨b, List.mem_range.mpr (by omega), ?_⟩
  rw [List.mem_map]
  exact ⟨c, List.mem_filter.mpr ⟨List.mem_range.mpr h3, decide_eq_true ⟨h1, h2⟩⟩, rfl⟩
theorem count84 (hn : n ≤ 4) (hK : n ≤ K) (hl : K ≤ n + l.length) (h5 : K ≤ n + 5) (s : St n (hsOf n l) K cs) : cs.length ≤ 84 := by
  have ex : ∀ c, c ∈ cs → ∃ m : Nat × Nat × Nat, (m.1 < m.2.1 ∧ m.2.1 < m.2.2 ∧ m.2.2 < 4 + (K - n)) ∧ Tells n l c.1 m := fun c hc => tells_sort (tells_ex hn hK hl s hc)
  let f : Cn → Nat × Nat × Nat := fun c => if h : c ∈ cs then (ex c h).choose else (0, 0, 0)
  have hf : ∀ c, c ∈ cs → ((f c).1 < (f c).2.1 ∧ (f c).2.1 < (f c).2.2 ∧ (f c).2.2 < 4 + (K - n)) ∧ Tells n l c.1 (f c) := fun c hc => by
    have : f c = (ex c hc).choose := dif_pos hc
    rw [this]; exact (ex c hc).choose_spec
  have nd : (cs.map f).Nodup := by
    rw [List.nodup_iff_pairwise_ne, List.pairwise_map]
    refine (List.nodup_iff_pairwise_ne.mp s.dd.nd).imp_of_mem fun {a b} ha hb ne e => ne ?_
    have h1 := (hf a ha).2
    rw [e] at h1
    exact tells_eq hn hl s ha hb h1 (hf b hb).2
  have sub : cs.map f ⊆ tris := fun m hm => by
    obtain ⟨c, hc, rfl⟩ := List.mem_map.mp hm
    obtain ⟨h1, h2, h3⟩ := (hf c hc).1
    exact mem_tris ⟨h1, h2, by omega⟩
  have := nd.length_le_of_subset sub
  rw [tris_len, List.length_map] at this
  exact this
/-- a primitive point is not greater than what is along it -/
theorem prim_le {p : List Int} (h : Prim p) (hl : p.length ≤ 4) {x : Nat → Int} (al : Al x (pad p)) (nz : ∃ i, i < 4 ∧ x i ≠ 0) (i : Nat) (hi : i < 4) : (pad p i).natAbs ≤ (x i).natAbs := by
  obtain ⟨j, hj, nj⟩ := pad_ne h hl
  have g0 : 0 < Int.gcd (pad p j) (x j) := Int.gcd_pos_of_ne_zero_left _ nj
  obtain ⟨P, hP⟩ := Int.gcd_dvd_left (pad p j) (x j)
  obtain ⟨Q, hQ⟩ := Int.gcd_dvd_right (pad p j) (x j)
  have cop : Int.gcd P Q = 1 := by
    have e : Int.gcd (pad p j) (x j) = Int.gcd (pad p j) (x j) * Int.gcd P Q := by
      calc Int.gcd (pad p j) (x j) = Int.gcd ((Int.gcd (pad p j) (x j) : Nat) * P) ((Int.gcd (pad p j) (x j) : Nat) * Q) := by rw [← hP, ← hQ]
        _ = _ := by rw [Int.gcd_mul_left]; simp
    have : Int.gcd (pad p j) (x j) * Int.gcd P Q = Int.gcd (pad p j) (x j) * 1 := by rw [← e, Nat.mul_one]
    exact Nat.eq_of_mul_eq_mul_left g0 this
  generalize Int.gcd (pad p j) (x j) = g at *
  have e : ∀ i, i < 4 → x i * P = Q * pad p i := fun i hi => by
    have := al i j hi hj
    rw [hP, hQ] at this
    refine Int.eq_of_mul_eq_mul_left (a := (g : Int)) (by omega) ?_
    grind
  have dv : ∀ i, i < 4 → P ∣ pad p i := fun i hi => by
    have d1 : P.natAbs ∣ Q.natAbs * (pad p i).natAbs := by
      rw [← Int.natAbs_mul, ← e i hi, Int.natAbs_mul]; exact ⟨(x i).natAbs, Nat.mul_comm _ _⟩
    have d2 : Nat.Coprime P.natAbs Q.natAbs := by rw [Int.gcd_eq_natAbs_gcd_natAbs] at cop; exact cop
    exact Int.natAbs_dvd_natAbs.mp (d2.dvd_of_dvd_mul_left d1)
  have P1 : P.natAbs = 1 := by
    have := h (P.natAbs : Int) (by omega) fun k hk => by
      obtain ⟨t, ht, et⟩ := some_place hk
      have := dv t (by omega)
      unfold pad at this
      rw [et] at this
      exact Int.natAbs_dvd.mpr this
    omega
  have Q0 : Q ≠ 0 := fun z => by
    obtain ⟨k, hk, nk⟩ := nz
    have := e k hk
    rw [z, Int.zero_mul] at this
    rcases Int.mul_eq_zero.mp this with q | q
    · exact nk q
    · rw [q] at P1; simp at P1
  have := congrArg Int.natAbs (e i hi)
  rw [Int.natAbs_mul, Int.natAbs_mul, P1, Nat.mul_one] at this
  rw [this]
  exact Nat.le_mul_of_pos_left _ (by omega)
theorem size_le (hn : n ≤ 4) (hK : n ≤ K) (hl : K ≤ n + l.length) (s : St n (hsOf n l) K cs) {B : Nat} (h1 : 1 ≤ B) (hB : ∀ q ∈ l, ∀ i ∈ col n q, i.natAbs ≤ B) {c : Cn} (hc : c ∈ cs) : ∀ i ∈ c.1, i.natAbs ≤ 6 * B ^ 3 := by
  have len := s.len c hc
  obtain ⟨m, ⟨b1, b2, b3⟩, ⟨t1, t2, t3⟩, nz⟩ := tells_ex hn hK hl s hc
  have hb : ∀ m, m < 4 + (K - n) → ∀ i, i < 4 → (hp n l m i).natAbs ≤ B := fun m hm i hi => by
    unfold hp
    split
    · unfold e_; split
      · exact h1
      · exact Nat.zero_le _
    · rename_i q
      have hj : m - 4 < l.length := by omega
      rw [List.getElem?_eq_getElem hj]
      unfold pad
      by_cases w : i < n
      · rw [List.getElem?_eq_getElem (by show i < (col n l[m - 4]).length; rw [col_len]; exact w)]
        exact hB _ (List.getElem_mem hj) _ (List.getElem_mem _)
      · rw [List.getElem?_eq_none (by show (col n l[m - 4]).length ≤ i; rw [col_len]; omega)]
        exact Nat.zero_le _
  intro i hi
  obtain ⟨k, hk, e⟩ := some_place hi
  have z := prim_le (s.prim c hc) (by omega) (along t1 t2 t3) nz k (by omega)
  unfold pad at z
  rw [e] at z
  exact Nat.le_trans z (absX (hb _ b1) (hb _ b2) (hb _ b3) k)
end
end Top
end
section
set_option linter.all false
namespace Top
open Ma
/-! ### the program's table -/
structure Shape (m z : Nat) (t : Tab) : Prop where
  many : t.many = m
  size : t.size = z
  rows : t.lines.length = m + 1
  cols : ∀ r ∈ t.lines, r.length = z + m + 1
  basis : t.basis.length = m
def ts (t : Tab) : Ts := ⟨t.at_, t.unit, fun i => t.basis[i]?.getD 0⟩
theorem fold_set {α : Type} {i : Nat} {f : Nat → α → α} {d : α} : ∀ (k a : Nat) (ls : List α), a + k ≤ ls.length →
    ((List.range' a k).foldl (fun ls o => if o = i then ls else ls.set o (f o (ls[o]?.getD d))) ls).length = ls.length ∧
    ∀ r, r < ls.length → ((List.range' a k).foldl (fun ls o => if o = i then ls else ls.set o (f o (ls[o]?.getD d))) ls)[r]?.getD d = if a ≤ r ∧ r < a + k ∧ r ≠ i then f r (ls[r]?.getD d) else ls[r]?.getD d
  | 0, a, ls, _ => ⟨rfl, fun r hr => by rw [if_neg (by omega)]; rfl⟩
  | k + 1, a, ls, h => by
    rw [List.range'_succ, List.foldl_cons]
    by_cases e : a = i
    · rw [if_pos e]
      obtain ⟨h1, h2⟩ := fold_set (f := f) (i := i) (d := d) k (a + 1) ls (by omega)
      refine ⟨h1, fun r hr => ?_⟩
      rw [h2 r hr]
      by_cases q : a + 1 ≤ r ∧ r < a + 1 + k ∧ r ≠ i
      · rw [if_pos q, if_pos (by omega)]
      · rw [if_neg q, if_neg (by omega)]
    · rw [if_neg e]
      obtain ⟨h1, h2⟩ := fold_set (f := f) (i := i) (d := d) k (a + 1) (ls.set a (f a (ls[a]?.getD d))) (by simp; omega)
      rw [List.length_set] at h1 h2
      refine ⟨h1, fun r hr => ?_⟩
      rw [h2 r hr, List.getElem?_set]
      by_cases q : a = r
      · subst q
        rw [if_neg (by omega), if_pos rfl, if_pos hr, if_pos (by omega)]; rfl
      · rw [if_neg q]
        by_cases w : a + 1 ≤ r ∧ r < a + 1 + k ∧ r ≠ i
        · rw [if_pos w, if_pos (by omega)]
        · rw [if_neg w, if_neg (by omega)]
section
variable {m z : Nat} {t : Tab}
theorem Shape.row (s : Shape m z t) {i : Nat} (hi : i ≤ m) : (t.lines[i]?.getD []).length = z + m + 1 := by
  have h : i < t.lines.length := by have := s.rows; omega
  rw [List.getElem?_eq_getElem h]; exact s.cols _ (List.getElem_mem h)
theorem turn_lines (s : Shape m z t) {i q : Nat} (hi : i < m) : (t.turn i q).lines.length = m + 1 ∧ ∀ r, r ≤ m → (t.turn i q).lines[r]?.getD [] = if r = i then t.lines[r]?.getD [] else turnRow t i q (t.lines[r]?.getD []) := by
  obtain ⟨h1, h2⟩ := fold_set (f := fun _ r => turnRow t i q r) (i := i) (d := ([] : List Int)) (t.many + 1) 0 t.lines (by rw [s.rows, s.many]; omega)
  refine ⟨h1.trans s.rows, fun r hr => ?_⟩
  refine (h2 r (by rw [s.rows]; omega)).trans ?_
  have := s.many
  by_cases e : r = i
  · rw [if_neg (by omega), if_pos e]
  · rw [if_pos (by omega), if_neg e]
theorem turn_shape (s : Shape m z t) {i q : Nat} (hi : i < m) : Shape m z (t.turn i q) := by
  obtain ⟨h1, h2⟩ := turn_lines (q := q) s hi
  refine ⟨s.many, s.size, h1, fun r hr => ?_, by show (t.basis.set i q).length = m; rw [List.length_set]; exact s.basis⟩
  obtain ⟨k, hk, rfl⟩ := List.mem_iff_getElem.mp hr
  have e := h2 k (by omega)
  rw [List.getElem?_eq_getElem hk] at e
  have e : (t.turn i q).lines[k] = if k = i then t.lines[k]?.getD [] else turnRow t i q (t.lines[k]?.getD []) := e
  rw [e]
  split
  · exact s.row (by omega)
  · unfold turnRow
    rw [List.length_zipWith, s.row (by omega), s.row (by omega)]; omega
theorem turn_at (s : Shape m z t) {i q r c : Nat} (hi : i < m) (hr : r ≤ m) (hc : c ≤ z + m) : (t.turn i q).at_ r c = if r = i then t.at_ i c else (t.at_ i q * t.at_ r c - t.at_ r q * t.at_ i c) / t.unit := by
  obtain ⟨h1, h2⟩ := turn_lines (q := q) s hi
  have e := h2 r hr
  unfold Tab.at_
  rw [e]
  split
  · rename_i w; rw [w]
  · unfold turnRow
    have l1 := s.row hr
    have l2 := s.row (Nat.le_of_lt hi)
    rw [List.getElem?_zipWith, List.getElem?_eq_getElem (by omega), List.getElem?_eq_getElem (show c < (t.lines[i]?.getD []).length by omega)]
    rfl
theorem turn_next (s : Shape m z t) {i q : Nat} (hi : i < m) : Next m z (ts t) q i (ts (t.turn i q)) := by
  refine ⟨rfl, fun r c hr hc => turn_at s hi hr hc, fun k hk => ?_⟩
  show (t.basis.set i q)[k]?.getD 0 = if k = i then q else t.basis[k]?.getD 0
  have := s.basis
  rw [List.getElem?_set]
  by_cases e : i = k
  · subst e; rw [if_pos rfl, if_pos (by omega), if_pos rfl]; rfl
  · rw [if_neg e, if_neg fun w => e w.symm]
theorem enter_none (s : Shape m z t) (h : t.entering = none) {p : Nat} (hp : p < z + m) : 0 ≤ t.at_ m p := by
  unfold Tab.entering at h
  rw [List.find?_eq_none] at h
  have := h p (by rw [List.mem_range'_1, s.size, s.many]; omega)
  rw [s.many] at this
  simp only [decide_eq_true_eq] at this
  omega
theorem enter_some (s : Shape m z t) {q : Nat} (h : t.entering = some q) : Ent m z (ts t) q := by
  unfold Tab.entering at h
  rw [s.many, s.size] at h
  have h1 := List.find?_some h
  have h2 := List.mem_of_find?_eq_some h
  rw [List.mem_range'_1] at h2
  simp only [decide_eq_true_eq] at h1
  refine ⟨by omega, h1, fun j hj => ?_⟩
  rw [List.find?_eq_some_iff_getElem] at h
  obtain ⟨_, k, hk, e, hn⟩ := h
  simp at e
  have := hn j (by omega)
  simp only [List.getElem_range'] at this
  simp at this
  exact this
/-- what the search for the row that leaves has found, behind k rows -/
def Lv (t : Tab) (q k : Nat) : Option Nat → Prop
  | none => ∀ i, i < k → t.at_ i q ≤ 0
  | some r => r < k ∧ 0 < t.at_ r q ∧ ∀ i, i < k → 0 < t.at_ i q → t.rhs r * t.at_ i q < t.rhs i * t.at_ r q ∨ (t.rhs r * t.at_ i q = t.rhs i * t.at_ r q ∧ (t.basis[r]?.getD 0) ≤ t.basis[i]?.getD 0)
theorem ahead_iff {i o q : Nat} : t.ahead i o q = true ↔ t.rhs i * t.at_ o q < t.rhs o * t.at_ i q ∨ (t.rhs i * t.at_ o q = t.rhs o * t.at_ i q ∧ (t.basis[i]?.getD 0) < t.basis[o]?.getD 0) := by
  unfold Tab.ahead
  simp only [Bool.or_eq_true, Bool.and_eq_true, decide_eq_true_eq]
theorem lv_step {q k : Nat} {f : Option Nat} (h : Lv t q k f) : Lv t q (k + 1) (t.leave1 q f k) := by
  unfold Tab.leave1
  cases f with
  | none =>
    split
    · rename_i w
      refine ⟨by omega, w.1, fun i hi pi => ?_⟩
      by_cases e : i = k
      · subst e; exact .inr ⟨rfl, Nat.le_refl _⟩
      · have := h i (by omega); omega
    · rename_i w
      intro i hi
      by_cases e : i = k
      · subst e
        by_cases y : 0 < t.at_ i q
        · exact absurd ⟨y, fun o z => by cases z⟩ w
        · omega
      · exact h i (by omega)
  | some o =>
    obtain ⟨h1, h2, h3⟩ := h
    split
    · rename_i w
      obtain ⟨w1, w2⟩ := w
      have w3 := ahead_iff.mp (w2 o rfl)
      refine ⟨by omega, w1, fun i hi pi => ?_⟩
      by_cases e : i = k
      · subst e; exact .inr ⟨rfl, Nat.le_refl _⟩
      · have a := h3 i (by omega) pi
        -- k ahead of o, o not behind i
        generalize t.rhs k = rk at *
        generalize t.rhs o = ro at *
        generalize t.rhs i = ri at *
        generalize t.at_ k q = ak at *
        generalize t.at_ o q = ao at *
        generalize t.at_ i q = ai at *
        have key : ∀ {x y : Int}, (x * ao < y * ao → x < y) ∧ (x * ao = y * ao → x = y) := fun {x y} => ⟨fun z => Int.lt_of_mul_lt_mul_right z (Int.le_of_lt h2), fun z => Int.eq_of_mul_eq_mul_right (by omega) z⟩
        rcases w3 with w3 | ⟨w3, b3⟩
        · have y1 : rk * ao * ai < ro * ak * ai := Int.mul_lt_mul_of_pos_right w3 pi
          left
          refine key.1 ?_
          rcases a with a | ⟨a, _⟩
          · have y2 : ro * ai * ak < ri * ao * ak := Int.mul_lt_mul_of_pos_right a w1
            grind
          · have y2 : ro * ai * ak = ri * ao * ak := by rw [a]
            grind
        · have y1 : rk * ao * ai = ro * ak * ai := by rw [w3]
          rcases a with a | ⟨a, b⟩
          · have y2 : ro * ai * ak < ri * ao * ak := Int.mul_lt_mul_of_pos_right a w1
            left
            refine key.1 ?_
            grind
          · have y2 : ro * ai * ak = ri * ao * ak := by rw [a]
            right
            refine ⟨key.2 ?_, by omega⟩
            grind
    · rename_i w
      refine ⟨by omega, h2, fun i hi pi => ?_⟩
      by_cases e : i = k
      · subst e
        have na : ¬ t.ahead i o q = true := fun y => w ⟨pi, fun o' z => by cases z; exact y⟩
        rw [ahead_iff] at na
        have n1 : ¬ t.rhs i * t.at_ o q < t.rhs o * t.at_ i q := fun y => na (.inl y)
        by_cases y : t.rhs i * t.at_ o q = t.rhs o * t.at_ i q
        · have n2 : ¬ (t.basis[i]?.getD 0) < t.basis[o]?.getD 0 := fun v => na (.inr ⟨y, v⟩)
          exact .inr ⟨y.symm, by omega⟩
        · exact .inl (by omega)
      · exact h3 i (by omega) pi
theorem lv_fold {q : Nat} : ∀ (k a : Nat) (f : Option Nat), Lv t q a f → Lv t q (a + k) ((List.range' a k).foldl (fun f i => t.leave1 q f i) f)
  | 0, a, f, h => h
  | k + 1, a, f, h => by
    rw [List.range'_succ, List.foldl_cons, show a + (k + 1) = a + 1 + k by omega]
    exact lv_fold k (a + 1) _ (lv_step h)
theorem leave_lv {q : Nat} : Lv t q t.many (t.leaving q) := by
  have := lv_fold (t := t) (q := q) t.many 0 none fun i hi => by omega
  rw [Nat.zero_add] at this
  exact this
theorem leave_some (s : Shape m z t) {q i : Nat} (h : t.leaving q = some i) : Lev m z (ts t) q i := by
  have l := leave_lv (t := t) (q := q)
  rw [h] at l
  obtain ⟨h1, h2, h3⟩ := l
  unfold Tab.rhs at h3
  rw [s.many] at h1 h3
  rw [s.size] at h3
  exact ⟨h1, h2, h3⟩
theorem leave_none (s : Shape m z t) {q : Nat} (h : t.leaving q = none) : ∀ i, i < m → t.at_ i q ≤ 0 := by
  have l := leave_lv (t := t) (q := q)
  rw [h, s.many] at l
  exact l
end
/-! ### how great a determinant can be -/
theorem sm_abs {n M : Nat} {f : Nat → Int} (h : ∀ k, k < n → (f k).natAbs ≤ M) : (sm n f).natAbs ≤ n * M := by
  induction n with
  | zero => simp [sm]
  | succ n ih =>
    have h1 := ih fun k hk => h k (by omega)
    have h2 := h n (by omega)
    show (sm n f + f n).natAbs ≤ _
    rw [Nat.succ_mul]
    omega
theorem det_abs {B : Nat} : ∀ {n : Nat} {v : Nat → Nat → Int}, (∀ i k, i < n → k < n → (v i k).natAbs ≤ B) → (det n v).natAbs ≤ (n * B) ^ n
  | 0, v, _ => by simp [det]
  | n + 1, v, h => by
    have h1 : ∀ k, k < n + 1 → (sgn k * v 0 k * det n fun i c => v (i + 1) (sk k c)).natAbs ≤ B * (n * B) ^ n := fun k hk => by
      rw [Int.natAbs_mul, Int.natAbs_mul, sgn_abs, Nat.one_mul]
      refine Nat.mul_le_mul (h 0 k (by omega) hk) (det_abs fun i c hi hc => h _ _ (by omega) ?_)
      unfold sk; split <;> omega
    have h2 := sm_abs h1
    refine Nat.le_trans h2 ?_
    rw [Nat.pow_succ, Nat.mul_comm (((n + 1) * B) ^ n), ← Nat.mul_assoc]
    exact Nat.mul_le_mul_left _ (Nat.pow_le_pow_left (Nat.mul_le_mul_right B (by omega)) n)
end Top
end
section
set_option linter.all false
namespace Top
open Ma
theorem sm_cast (n : Nat) (f : Nat → Int) : ((sm n f : Int) : Rat) = sQ n fun i => ((f i : Int) : Rat) := by
  induction n with
  | zero => rfl
  | succ n ih => show ((sm n f + f n : Int) : Rat) = sQ n _ + _; rw [Rat.intCast_add, ih]
theorem sQ_swap (n m : Nat) (f : Nat → Nat → Rat) : sQ n (fun i => sQ m fun j => f i j) = sQ m fun j => sQ n fun i => f i j := by
  induction n with
  | zero => exact (sQ_zero fun _ _ => rfl).symm
  | succ n ih =>
    show sQ n _ + sQ m (fun j => f n j) = sQ m fun j => sQ n (fun i => f i j) + f n j
    rw [ih]
    have := sQ_lin m 1 1 (fun j => sQ n fun i => f i j) (fun j => f n j)
    simp only [Rat.one_mul] at this
    rw [this]
theorem sQ_mul (n : Nat) (a : Rat) (f : Nat → Rat) : sQ n (fun i => a * f i) = a * sQ n f := by
  have := sQ_lin n a 0 f f
  have e : (fun i => a * f i + 0 * f i) = fun i => a * f i := funext fun i => by grind
  rw [e] at this
  rw [this]; grind
theorem sQ_nonneg {n : Nat} {f : Nat → Rat} (h : ∀ i, i < n → 0 ≤ f i) : 0 ≤ sQ n f := by
  induction n with
  | zero => exact Rat.le_refl
  | succ n ih => have h1 := ih fun i hi => h i (by omega); have h2 := h n (by omega); show 0 ≤ sQ n f + f n; grind
theorem sQ_le {n : Nat} {f g : Nat → Rat} (h : ∀ i, i < n → f i ≤ g i) : sQ n f ≤ sQ n g := by
  induction n with
  | zero => exact Rat.le_refl
  | succ n ih => have h1 := ih fun i hi => h i (by omega); have h2 := h n (by omega); show sQ n f + f n ≤ sQ n g + g n; grind
section
variable {m z : Nat} {A : Nat → Nat → Int}
/-- the weights w of the rows, at a column -/
def Fw (m : Nat) (A : Nat → Nat → Int) (w : Nat → Rat) (c : Nat) : Rat := sQ m (fun k => w k * ((A k c : Int) : Rat)) + sQ m w * ((A m c : Int) : Rat)
theorem weigh {s : Ts} (g : Good m z A s) (w : Nat → Rat) {c : Nat} (hc : c ≤ z + m) : ((s.u : Int) : Rat) * Fw m A w c = sQ m (fun i => ((s.T i c : Int) : Rat) * Fw m A w (s.b i)) + ((s.T m c : Int) : Rat) * sQ m w := by
  have cr : ∀ k, k ≤ m → ((s.u : Int) : Rat) * ((A k c : Int) : Rat) = sQ m (fun i => ((s.T i c : Int) : Rat) * ((A k (s.b i) : Int) : Rat)) + ((s.T m c : Int) : Rat) * ((un m k : Int) : Rat) := fun k hk => by
    have e := g.cr c k hc hk
    have e' : ((s.u * A k c : Int) : Rat) = ((sm (m + 1) (fun i => s.T i c * bv m A s.b i k) : Int) : Rat) := by rw [e]
    rw [Rat.intCast_mul, sm_cast] at e'
    rw [e']
    show sQ m _ + _ = _
    congr 1
    · refine sQ_congr fun i hi => ?_
      rw [Rat.intCast_mul, bv_lt hi]; rfl
    · dsimp only; rw [Rat.intCast_mul, bv_m]
  have u0 : ∀ k, k < m → un m k = 0 := fun k hk => by unfold un; rw [if_neg (by omega)]
  have u1 : un m m = 1 := by unfold un; rw [if_pos rfl]
  unfold Fw
  have e1 : ((s.u : Int) : Rat) * sQ m (fun k => w k * ((A k c : Int) : Rat)) = sQ m fun i => ((s.T i c : Int) : Rat) * sQ m fun k => w k * ((A k (s.b i) : Int) : Rat) := by
    rw [← sQ_mul]
    have : sQ m (fun k => ((s.u : Int) : Rat) * (w k * ((A k c : Int) : Rat))) = sQ m fun k => sQ m fun i => ((s.T i c : Int) : Rat) * (w k * ((A k (s.b i) : Int) : Rat)) := sQ_congr fun k hk => by
      have e := cr k (Nat.le_of_lt hk)
      rw [u0 k hk] at e
      have e2 : ((s.u : Int) : Rat) * (w k * ((A k c : Int) : Rat)) = w k * sQ m (fun i => ((s.T i c : Int) : Rat) * ((A k (s.b i) : Int) : Rat)) := by
        have : ((s.u : Int) : Rat) * ((A k c : Int) : Rat) = sQ m (fun i => ((s.T i c : Int) : Rat) * ((A k (s.b i) : Int) : Rat)) := by
          rw [e]; show _ + _ * (0 : Rat) = _; grind
        rw [← this]; grind
      rw [e2, ← sQ_mul]
      exact sQ_congr fun i _ => by grind
    rw [this, sQ_swap]
    exact sQ_congr fun i _ => sQ_mul _ _ _
  have e3 := cr m (Nat.le_refl m)
  rw [u1] at e3
  have e4 : sQ m (fun i => ((s.T i c : Int) : Rat) * (sQ m (fun k => w k * ((A k (s.b i) : Int) : Rat)) + sQ m w * ((A m (s.b i) : Int) : Rat))) = sQ m (fun i => ((s.T i c : Int) : Rat) * sQ m fun k => w k * ((A k (s.b i) : Int) : Rat)) + sQ m w * sQ m (fun i => ((s.T i c : Int) : Rat) * ((A m (s.b i) : Int) : Rat)) := by
    have := sQ_lin m 1 (sQ m w) (fun i => ((s.T i c : Int) : Rat) * sQ m fun k => w k * ((A k (s.b i) : Int) : Rat)) (fun i => ((s.T i c : Int) : Rat) * ((A m (s.b i) : Int) : Rat))
    rw [Rat.one_mul] at this
    rw [← this]
    exact sQ_congr fun i _ => by grind
  rw [e4, ← e1]
  have e5 : ((s.u : Int) : Rat) * (sQ m w * ((A m c : Int) : Rat)) = sQ m w * (sQ m (fun i => ((s.T i c : Int) : Rat) * ((A m (s.b i) : Int) : Rat)) + ((s.T m c : Int) : Rat)) := by
    have e3' : ((s.u : Int) : Rat) * ((A m c : Int) : Rat) = sQ m (fun i => ((s.T i c : Int) : Rat) * ((A m (s.b i) : Int) : Rat)) + ((s.T m c : Int) : Rat) := by
      rw [e3]; show _ + _ * (1 : Rat) = _; grind
    rw [← e3']; grind
  grind
/-- weights that bound all columns: the value is bounded -/
theorem weigh_le {s : Ts} (g : Good m z A s) (w : Nat → Rat) (hF : ∀ c, c < z + m → 0 ≤ Fw m A w c) : ((s.T m (z + m) : Int) : Rat) * sQ m w ≤ ((s.u : Int) : Rat) * Fw m A w (z + m) := by
  rw [weigh g w (Nat.le_refl _)]
  have := sQ_nonneg (n := m) (f := fun i => ((s.T i (z + m) : Int) : Rat) * Fw m A w (s.b i)) fun i hi => Rat.mul_nonneg (Rat.intCast_nonneg.mpr (g.fe i hi)) (hF _ (g.hb i hi))
  grind
theorem not_free {s : Ts} (g : Good m z A s) (w : Nat → Rat) (hF : ∀ c, c < z + m → 0 ≤ Fw m A w c) (hw : 0 < sQ m w) {p : Nat} (e : Ent m z s p) (h : ∀ i, i < m → s.T i p ≤ 0) : False := by
  have e1 := weigh g w (Nat.le_of_lt e.lt)
  have h1 := hF p e.lt
  have hu : 0 < ((s.u : Int) : Rat) := Rat.intCast_pos.mpr g.hu
  have h2 := Rat.mul_nonneg (Rat.le_of_lt hu) h1
  have h3 := sQ_nonneg (n := m) (f := fun i => - (((s.T i p : Int) : Rat) * Fw m A w (s.b i))) fun i hi => by
    have a : (0 : Rat) ≤ - ((s.T i p : Int) : Rat) := by
      have := Rat.intCast_nonneg.mpr (show 0 ≤ - s.T i p by have := h i hi; omega)
      rw [Rat.intCast_neg] at this; exact this
    have := Rat.mul_nonneg a (hF _ (g.hb i hi))
    grind
  have h4 : sQ m (fun i => - (((s.T i p : Int) : Rat) * Fw m A w (s.b i))) = - sQ m (fun i => ((s.T i p : Int) : Rat) * Fw m A w (s.b i)) := by
    have := sQ_mul m (-1) fun i => ((s.T i p : Int) : Rat) * Fw m A w (s.b i)
    have e : (fun i => -1 * (((s.T i p : Int) : Rat) * Fw m A w (s.b i))) = fun i => - (((s.T i p : Int) : Rat) * Fw m A w (s.b i)) := funext fun i => by grind
    rw [e] at this; rw [this]; grind
  have h5 : (0 : Rat) < - ((s.T m p : Int) : Rat) := by
    have := Rat.intCast_pos.mpr (show 0 < - s.T m p by have := e.neg; omega)
    rw [Rat.intCast_neg] at this; exact this
  have h6 := Rat.mul_pos h5 hw
  grind
end
/-! ### the first table -/
section
variable {x : Lp} {m z : Nat}
theorem line_len (h1 : x.rows.length = m) (h2 : x.worths.length = z) (h4 : ∀ r ∈ x.rows, r.length = z) {k : Nat} {r : List Int} (hr : r ∈ x.rows) : (x.line k r).length = z + m + 1 := by
  unfold Lp.line
  simp [h4 r hr, h1]; omega
theorem tab0_shape (h1 : x.rows.length = m) (h2 : x.worths.length = z) (h4 : ∀ r ∈ x.rows, r.length = z) : Shape m z (tab0 x) := by
  refine ⟨h1, h2, ?_, fun r hr => ?_, ?_⟩
  · simp [tab0, enumL, h1]
  · unfold tab0 at hr
    rw [List.mem_append, List.mem_singleton] at hr
    rcases hr with hr | hr
    · obtain ⟨p, hp, rfl⟩ := List.mem_map.mp hr
      have := mem_enumL.mp hp
      exact line_len h1 h2 h4 (List.mem_of_getElem? this)
    · subst hr; simp [Lp.foot, h1, h2]; omega
  · simp [tab0, h1]
theorem tab0_row (h1 : x.rows.length = m) {k : Nat} (hk : k < m) : (tab0 x).lines[k]?.getD [] = x.line k (x.rows[k]?.getD []) := by
  have hk' : k < x.rows.length := by omega
  have e : (enumL x.rows)[k]? = some (k, x.rows[k]) := by
    unfold enumL
    rw [List.getElem?_zip_eq_some]
    exact ⟨by rw [List.getElem?_range' (by simpa using hk')]; simp, List.getElem?_eq_getElem hk'⟩
  unfold tab0
  rw [List.getElem?_append_left (by simp [enumL]; omega), List.getElem?_map, e, List.getElem?_eq_getElem hk']
  rfl
theorem tab0_foot (h1 : x.rows.length = m) : (tab0 x).lines[m]?.getD [] = x.foot := by
  unfold tab0
  rw [List.getElem?_append_right (by simp [enumL]; omega)]
  simp [enumL, h1]
theorem at_row (h1 : x.rows.length = m) (h4 : ∀ r ∈ x.rows, r.length = z) {k c : Nat} (hk : k < m) (hc : c < z) : (tab0 x).at_ k c = (x.rows[k]?.getD [])[c]?.getD 0 := by
  have hk' : k < x.rows.length := by omega
  have hl : (x.rows[k]?.getD []).length = z := by rw [List.getElem?_eq_getElem hk']; exact h4 _ (List.getElem_mem hk')
  unfold Tab.at_
  rw [tab0_row h1 hk]
  unfold Lp.line
  rw [List.getElem?_append_left (by simp; omega), List.getElem?_append_left (by omega)]
theorem at_unit (h1 : x.rows.length = m) (h4 : ∀ r ∈ x.rows, r.length = z) {k i : Nat} (hk : k < m) (hi : i < m) : (tab0 x).at_ k (z + i) = if i = k then 1 else 0 := by
  have hk' : k < x.rows.length := by omega
  have hl : (x.rows[k]?.getD []).length = z := by rw [List.getElem?_eq_getElem hk']; exact h4 _ (List.getElem_mem hk')
  unfold Tab.at_
  rw [tab0_row h1 hk]
  unfold Lp.line
  rw [List.getElem?_append_left (by simp; omega), List.getElem?_append_right (by omega), hl, List.getElem?_map, List.getElem?_range' (by omega)]
  simp
theorem at_rhs (h1 : x.rows.length = m) (h4 : ∀ r ∈ x.rows, r.length = z) {k : Nat} (hk : k < m) : (tab0 x).at_ k (z + m) = x.bounds[k]?.getD 0 := by
  have hk' : k < x.rows.length := by omega
  have hl : (x.rows[k]?.getD []).length = z := by rw [List.getElem?_eq_getElem hk']; exact h4 _ (List.getElem_mem hk')
  unfold Tab.at_
  rw [tab0_row h1 hk]
  unfold Lp.line
  rw [List.getElem?_append_right (by simp; omega)]
  simp [hl, h1]
theorem at_worth (h1 : x.rows.length = m) (h2 : x.worths.length = z) {c : Nat} (hc : c < z) : (tab0 x).at_ m c = - (x.worths[c]?.getD 0) := by
  unfold Tab.at_
  rw [tab0_foot h1]
  unfold Lp.foot
  rw [List.getElem?_append_left (by simp; omega), List.getElem?_map]
  rw [List.getElem?_eq_getElem (by omega)]; rfl
theorem at_foot (h1 : x.rows.length = m) (h2 : x.worths.length = z) {i : Nat} (hi : i ≤ m) : (tab0 x).at_ m (z + i) = 0 := by
  unfold Tab.at_
  rw [tab0_foot h1]
  unfold Lp.foot
  rw [List.getElem?_append_right (by simp; omega), List.getElem?_replicate]
  simp [h1, h2]; split <;> rfl
theorem tab0_pr (h1 : x.rows.length = m) (h2 : x.worths.length = z) (h3 : x.bounds.length = m) (h4 : ∀ r ∈ x.rows, r.length = z) (h5 : ∀ b ∈ x.bounds, 0 ≤ b) : Pr m z (tab0 x).at_ := by
  refine ⟨fun k i hk hi => ?_, fun k hk => ?_, at_foot h1 h2 (Nat.le_refl m)⟩
  · unfold un
    by_cases q : k = m
    · subst q
      rw [at_foot h1 h2 (Nat.le_of_lt hi), if_neg (by omega)]
    · rw [at_unit h1 h4 (by omega) hi]
      by_cases e : i = k
      · rw [if_pos e, if_pos e.symm]
      · rw [if_neg e, if_neg fun w => e w.symm]
  · rw [at_rhs h1 h4 hk, List.getElem?_eq_getElem (by omega)]
    exact h5 _ (List.getElem_mem _)
/-- all tables on the way are small -/
theorem good_ok {t : Tab} {B : Nat} (sh : Shape m z t) (g : Good m z (tab0 x).at_ (ts t)) (hB : ∀ k c, k ≤ m → c ≤ z + m → ((tab0 x).at_ k c).natAbs ≤ B) (B1 : 1 ≤ B) :
    (∀ i c, i ≤ m → c ≤ z + m → (t.at_ i c).natAbs ≤ ((m + 1) * B) ^ (m + 1)) ∧ t.unit.natAbs ≤ ((m + 1) * B) ^ (m + 1) := by
  have bvB : ∀ i k, i < m + 1 → k < m + 1 → (bv m (tab0 x).at_ (ts t).b i k).natAbs ≤ B := fun i k hi hk => by
    unfold bv
    split
    · rename_i q; exact hB k _ (by omega) (Nat.le_of_lt (g.hb i q))
    · unfold un; split
      · exact B1
      · exact Nat.zero_le _
  refine ⟨fun i c hi hc => ?_, ?_⟩
  · have := g.dT i c hi hc
    show ((ts t).T i c).natAbs ≤ _
    rw [this]
    refine det_abs fun a k ha hk => ?_
    unfold put
    split
    · exact hB k c (by omega) hc
    · exact bvB a k ha hk
  · show ((ts t).u).natAbs ≤ _
    rw [g.du]
    exact det_abs bvB
theorem good_tab {t : Tab} {B : Nat} (sh : Shape m z t) (g : Good m z (tab0 x).at_ (ts t)) (hB : ∀ k c, k ≤ m → c ≤ z + m → ((tab0 x).at_ k c).natAbs ≤ B) (B1 : 1 ≤ B) (hs : ((m + 1) * B) ^ (m + 1) < 2 ^ 2000) (hm : m ≤ 100) (hz : z ≤ 100) : TabOk t := by
  obtain ⟨b1, b2⟩ := good_ok sh g hB B1
  refine ⟨by rw [sh.rows, sh.many], fun r hr => by rw [sh.cols r hr, sh.size, sh.many], fun r hr i hi => ?_, by rw [sh.basis, sh.many], g.hu, by omega, by rw [sh.many, sh.size]; exact ⟨hm, hz⟩⟩
  obtain ⟨k, hk, rfl⟩ := List.mem_iff_getElem.mp hr
  obtain ⟨c, hc, rfl⟩ := List.mem_iff_getElem.mp hi
  have hl := sh.cols _ hr
  have := b1 k c (by have := sh.rows; omega) (by omega)
  unfold Tab.at_ at this
  rw [List.getElem?_eq_getElem hk] at this
  have this : ((t.lines[k][c]?).getD 0).natAbs ≤ _ := this
  rw [List.getElem?_eq_getElem hc] at this
  have this : (t.lines[k][c]).natAbs ≤ _ := this
  omega
/-- THE RULE COMES TO AN END, with a greatest value -/
theorem solve {B : Nat} {w : Nat → Rat} (h1 : x.rows.length = m) (h2 : x.worths.length = z) (h3 : x.bounds.length = m) (h4 : ∀ r ∈ x.rows, r.length = z) (h5 : ∀ b ∈ x.bounds, 0 ≤ b)
    (hB : ∀ k c, k ≤ m → c ≤ z + m → ((tab0 x).at_ k c).natAbs ≤ B) (B1 : 1 ≤ B) (hs : ((m + 1) * B) ^ (m + 1) < 2 ^ 2000) (hm : m ≤ 100) (hz : z ≤ 100)
    (hF : ∀ c, c < z + m → 0 ≤ Fw m (tab0 x).at_ w c) (hw : 0 < sQ m w) :
    ∃ k e, Steps k (tab0 x) e ∧ Shape m z e ∧ Good m z (tab0 x).at_ (ts e) := by
  have P := tab0_pr h1 h2 h3 h4 h5
  refine Classical.byContradiction fun no => ?_
  let Q : Tab → Prop := fun t => Shape m z t ∧ Good m z (tab0 x).at_ (ts t) ∧ ¬ ∃ k e, Steps k t e ∧ Shape m z e ∧ Good m z (tab0 x).at_ (ts e)
  have q0 : Q (tab0 x) := by
    refine ⟨tab0_shape h1 h2 h4, good0 P (fun i c _ _ => rfl) rfl fun i hi => ?_, no⟩
    show ((List.range' 0 x.rows.length).map fun k => x.worths.length + k)[i]?.getD 0 = z + i
    rw [List.getElem?_map, List.getElem?_range' (by omega)]
    simp [h2]
  have st : ∀ t, Q t → ∃ q i, t.entering = some q ∧ t.leaving q = some i ∧ Ent m z (ts t) q ∧ Lev m z (ts t) q i ∧ Next m z (ts t) q i (ts (t.turn i q)) ∧ Q (t.turn i q) := fun t ⟨sh, g, n⟩ => by
    have tok := good_tab sh g hB B1 hs hm hz
    cases e1 : t.entering with
    | none => exact absurd ⟨0, t, .done tok e1, sh, g⟩ n
    | some q =>
      have en := enter_some sh e1
      cases e2 : t.leaving q with
      | none => exact (not_free g w hF hw en (leave_none sh e2)).elim
      | some i =>
        have lv := leave_some sh e2
        have nx := turn_next (q := q) sh lv.lt
        refine ⟨q, i, rfl, e2, en, lv, nx, turn_shape sh lv.lt, nx.good g lv en.lt, fun ⟨k, e, s1, s2⟩ => n ⟨k + 1, e, .step e1 e2 ⟨tok, ?_, ?_, lv.pos⟩ s1, s2⟩⟩
        · rw [sh.many]; exact lv.lt
        · rw [sh.size, sh.many]; exact en.lt
  let f : Nat → {t : Tab // Q t} := fun n => Nat.rec ⟨tab0 x, q0⟩ (fun _ t => ⟨t.1.turn (st t.1 t.2).choose_spec.choose (st t.1 t.2).choose, (st t.1 t.2).choose_spec.choose_spec.2.2.2.2.2⟩) n
  have fs : ∀ n, (f (n + 1)).1 = (f n).1.turn (st (f n).1 (f n).2).choose_spec.choose (st (f n).1 (f n).2).choose := fun n => rfl
  refine bland P (f := fun n => ts (f n).1) (p := fun n => (st (f n).1 (f n).2).choose) (r := fun n => (st (f n).1 (f n).2).choose_spec.choose) (fun n => (f n).2.2.1) (fun n => (st (f n).1 (f n).2).choose_spec.choose_spec.2.2.1) (fun n => (st (f n).1 (f n).2).choose_spec.choose_spec.2.2.2.1) fun n => ?_
  rw [fs]
  exact (st (f n).1 (f n).2).choose_spec.choose_spec.2.2.2.2.1
end
end Top
end
section
set_option linter.all false
set_option exponentiation.threshold 10000
namespace Top
/-- q has the bottom D, and is at most M either way -/
structure Fit (D M : Nat) (q : Rat) : Prop where
  top : ∃ z : Int, q * (D : Nat) = z
  lo : -(M : Nat) ≤ q
  hi : q ≤ (M : Nat)
section
variable {D E M N : Nat} {p q : Rat}
theorem natQ_nonneg (n : Nat) : (0 : Rat) ≤ (n : Nat) := by
  have := Rat.intCast_nonneg.mpr (show (0 : Int) ≤ (n : Nat) by omega)
  exact this
theorem natQ_add (a b : Nat) : ((a + b : Nat) : Rat) = (a : Rat) + (b : Rat) := Rat.natCast_add a b
theorem natQ_mul (a b : Nat) : ((a * b : Nat) : Rat) = (a : Rat) * (b : Rat) := Rat.natCast_mul a b
theorem natQ_le {a b : Nat} (h : a ≤ b) : (a : Rat) ≤ (b : Rat) := by
  obtain ⟨c, rfl⟩ : ∃ c, b = a + c := ⟨b - a, by omega⟩
  rw [natQ_add]
  have := natQ_nonneg c
  grind
theorem Fit.add (h : Fit D M p) (h2 : Fit D N q) : Fit D (M + N) (p + q) := by
  obtain ⟨⟨a, ha⟩, h3, h4⟩ := h
  obtain ⟨⟨b, hb⟩, h5, h6⟩ := h2
  refine ⟨⟨a + b, ?_⟩, ?_, ?_⟩
  · rw [Rat.intCast_add, ← ha, ← hb]; grind
  · rw [natQ_add]; grind
  · rw [natQ_add]; grind
theorem Fit.neg (h : Fit D M p) : Fit D M (-p) := by
  obtain ⟨⟨a, ha⟩, h3, h4⟩ := h
  refine ⟨⟨-a, by rw [Rat.intCast_neg, ← ha]; grind⟩, by grind, by grind⟩
theorem Fit.more (h : Fit D M p) (hm : M ≤ N) : Fit D N p := by
  have := natQ_le hm
  exact ⟨h.top, by have := h.lo; grind, by have := h.hi; grind⟩
theorem Fit.dvd (h : Fit D M p) (hd : D ∣ E) : Fit E M p := by
  obtain ⟨k, rfl⟩ := hd
  obtain ⟨a, ha⟩ := h.top
  refine ⟨⟨a * k, ?_⟩, h.lo, h.hi⟩
  rw [natQ_mul, Rat.intCast_mul, ← ha]
  show p * ((D : Rat) * (k : Rat)) = p * (D : Rat) * (((k : Int)) : Rat)
  have : (((k : Int)) : Rat) = (k : Rat) := rfl
  rw [this]; grind
theorem mul_between {a b A B : Rat} (h1 : -A ≤ a) (h2 : a ≤ A) (h3 : -B ≤ b) (h4 : b ≤ B) : -(A * B) ≤ a * b ∧ a * b ≤ A * B := by
  have a0 : 0 ≤ A := by grind
  have b0 : 0 ≤ B := by grind
  have w1 := Rat.mul_nonneg (show 0 ≤ A - a by grind) (show 0 ≤ B - b by grind)
  have w2 := Rat.mul_nonneg (show 0 ≤ A + a by grind) (show 0 ≤ B + b by grind)
  have w3 := Rat.mul_nonneg (show 0 ≤ A + a by grind) (show 0 ≤ B - b by grind)
  have w4 := Rat.mul_nonneg (show 0 ≤ A - a by grind) (show 0 ≤ B + b by grind)
  constructor <;> grind
theorem Fit.mulI {g : Int} (h : Fit D M p) (hg : g.natAbs ≤ N) : Fit D (N * M) ((g : Rat) * p) := by
  obtain ⟨⟨a, ha⟩, h3, h4⟩ := h
  have g1 : -(N : Rat) ≤ (g : Rat) := by
    have := Rat.intCast_nonneg.mpr (show (0 : Int) ≤ g + (N : Int) by omega)
    rw [Rat.intCast_add] at this
    have e : (((N : Int)) : Rat) = (N : Rat) := rfl
    rw [e] at this; grind
  have g2 : (g : Rat) ≤ (N : Rat) := by
    have := Rat.intCast_nonneg.mpr (show (0 : Int) ≤ (N : Int) - g by omega)
    rw [Rat.intCast_sub] at this
    have e : (((N : Int)) : Rat) = (N : Rat) := rfl
    rw [e] at this; grind
  obtain ⟨w1, w2⟩ := mul_between g1 g2 h3 h4
  refine ⟨⟨g * a, ?_⟩, ?_, ?_⟩
  · rw [Rat.intCast_mul, ← ha]; grind
  · rw [natQ_mul]; exact w1
  · rw [natQ_mul]; exact w2
theorem fit_int {g : Int} (hD : 0 < D) (h : g.natAbs ≤ N) : Fit D N (g : Rat) := by
  have one : Fit D 1 1 := ⟨⟨D, by show (1 : Rat) * (D : Rat) = (D : Rat); grind⟩, by decide, by decide⟩
  have := one.mulI (g := g) (N := N) h
  rw [Nat.mul_one, Rat.mul_one] at this
  exact this
theorem fit_zero (hD : 0 < D) : Fit D 0 0 := ⟨⟨0, by rw [Rat.zero_mul]; rfl⟩, by decide, by decide⟩
theorem num_den (p : Rat) : (p.num : Rat) = p * (p.den : Nat) := by
  have h : p = (p.num : Rat) / (((p.den : Int)) : Rat) := by
    rw [← Rat.divInt_eq_div, Rat.num_divInt_den]
  have e : (((p.den : Int)) : Rat) = (p.den : Rat) := rfl
  rw [e] at h
  have ne : (p.den : Rat) ≠ 0 := fun z => by
    have := Rat.intCast_eq_zero_iff.mp (e.trans z)
    have := p.den_nz
    omega
  have := Rat.div_mul_cancel (a := (p.num : Rat)) ne
  rw [← h] at this
  exact this.symm
/-- the bottom divides D -/
theorem Fit.den (h : Fit D M p) : p.den ∣ D := by
  obtain ⟨z, hz⟩ := h.top
  have e1 : (p.num : Rat) = p * (p.den : Nat) := num_den p
  have e : ((p.num * (D : Int) : Int) : Rat) = ((z * (p.den : Int) : Int) : Rat) := by
    rw [Rat.intCast_mul, Rat.intCast_mul, e1, ← hz]
    have a : (((D : Int)) : Rat) = (D : Rat) := rfl
    have b : (((p.den : Int)) : Rat) = (p.den : Rat) := rfl
    rw [a, b]; grind
  have e2 : p.num * (D : Int) = z * (p.den : Int) := Rat.intCast_inj.mp e
  have e3 : p.num.natAbs * D = z.natAbs * p.den := by
    have := congrArg Int.natAbs e2
    rw [Int.natAbs_mul, Int.natAbs_mul] at this
    simpa using this
  exact Nat.Coprime.dvd_of_dvd_mul_left p.reduced.symm ⟨z.natAbs, by rw [e3]; exact Nat.mul_comm _ _⟩
theorem Fit.bd (h : Fit D M p) (hD : 0 < D) {n : Nat} (h1 : D * (M + 1) < 2 ^ n) : Bd n p := by
  have hd := Nat.le_of_dvd hD h.den
  have hm : M * D < 2 ^ n ∧ D < 2 ^ n := by
    rw [Nat.mul_add, Nat.mul_comm D M] at h1; omega
  refine ⟨?_, by omega⟩
  have e1 : (p.num : Rat) = p * (p.den : Nat) := num_den p
  have d0 := natQ_nonneg p.den
  have h2 : p.num ≤ ((M * p.den : Nat) : Int) := by
    have := Rat.mul_le_mul_of_nonneg_right h.hi d0
    rw [← e1, ← natQ_mul] at this
    exact Rat.intCast_le_intCast.mp this
  have h3 : -((M * p.den : Nat) : Int) ≤ p.num := by
    have := Rat.mul_le_mul_of_nonneg_right h.lo d0
    rw [← e1, Rat.neg_mul, ← natQ_mul] at this
    have a : -((M * p.den : Nat) : Rat) = ((-((M * p.den : Nat) : Int) : Int) : Rat) := by rw [Rat.intCast_neg]; rfl
    rw [a] at this
    exact Rat.intCast_le_intCast.mp this
  have h4 : M * p.den ≤ M * D := Nat.mul_le_mul_left M hd
  omega
theorem otwo_of (h : Fit D M p) (h2 : Fit E N q) (hD : 0 < D) (hE : 0 < E) (h3 : D * (M + 1) < 2 ^ 4490) (h4 : E * (N + 1) < 2 ^ 4490) : OTwo (p, q) := ⟨4490, 4490, h.bd hD h3, h2.bd hE h4, by decide⟩
theorem addOk_of : ∀ {l : List Rat} {t : Rat} {M : Nat}, 0 < D → Fit D M t → (∀ q ∈ l, Fit D N q) → D * (M + l.length * N + N + 1) < 2 ^ 4490 → AddOk t l
  | [], _, _, _, _, _, _ => trivial
  | q :: l, t, M, hD, ht, hl, hb => by
    have hq := hl q List.mem_cons_self
    rw [List.length_cons, Nat.succ_mul] at hb
    refine ⟨otwo_of ht hq hD hD (Nat.lt_of_le_of_lt (Nat.mul_le_mul_left D (by omega)) hb) (Nat.lt_of_le_of_lt (Nat.mul_le_mul_left D (by omega)) hb), addOk_of (M := M + N) hD (ht.add hq) (fun r hr => hl r (List.mem_cons_of_mem _ hr)) (Nat.lt_of_le_of_lt (Nat.mul_le_mul_left D (by omega)) hb)⟩
theorem sumQ_fit : ∀ {l : List Rat} {t : Rat} {M : Nat}, Fit D M t → (∀ q ∈ l, Fit D N q) → Fit D (M + l.length * N) (sumQ t l)
  | [], _, M, ht, _ => by simpa [sumQ] using ht
  | q :: l, t, M, ht, hl => by
    have := sumQ_fit (l := l) (ht.add (hl q List.mem_cons_self)) fun r hr => hl r (List.mem_cons_of_mem _ hr)
    rw [List.length_cons, Nat.succ_mul, show M + (l.length * N + N) = M + N + l.length * N by omega]
    exact this
theorem prods_len {g : List Int} {c : List Rat} (h : g.length = c.length) : (prods g c).length = c.length := by unfold prods; rw [List.length_zipWith, h]; omega
theorem mem_prods {g : List Int} {c : List Rat} {x : Rat} (h : x ∈ prods g c) : ∃ i p, i ∈ g ∧ p ∈ c ∧ x = (i : Rat) * p := by
  unfold prods at h
  rw [← List.map_uncurry_zip_eq_zipWith] at h
  obtain ⟨⟨i, p⟩, hm, rfl⟩ := List.mem_map.mp h
  obtain ⟨h1, h2⟩ := List.of_mem_zip hm
  exact ⟨i, p, h1, h2, rfl⟩
/-- a worth that can be reckoned -/
theorem worthOk_of {g : List Int} {c : List Rat} {G : Nat} (hD : 0 < D) (hl : g.length = c.length) (hn : c.length ≤ 6) (hg : ∀ i ∈ g, i.natAbs ≤ G) (hc : ∀ q ∈ c, Fit D M q) (hb : D * (7 * (G * M) + G + M + 1) < 2 ^ 4490) : WorthOk (g, c) ∧ Fit D (6 * (G * M)) (wor g c) := by
  have hp : ∀ x ∈ prods g c, Fit D (G * M) x := fun x hx => by
    obtain ⟨i, p, h1, h2, rfl⟩ := mem_prods hx
    exact (hc p h2).mulI (hg i h1)
  have le6 : c.length * (G * M) ≤ 6 * (G * M) := Nat.mul_le_mul_right _ hn
  refine ⟨⟨hl, by dsimp only; omega, fun i p hm => ?_, ?_⟩, ?_⟩
  · obtain ⟨h1, h2⟩ := List.of_mem_zip hm
    exact otwo_of (fit_int hD (hg i h1)) (hc p h2) hD hD (Nat.lt_of_le_of_lt (Nat.mul_le_mul_left D (by omega)) hb) (Nat.lt_of_le_of_lt (Nat.mul_le_mul_left D (by omega)) hb)
  · refine addOk_of (M := 0) (N := G * M) hD (fit_zero hD) hp ?_
    rw [prods_len hl]
    exact Nat.lt_of_le_of_lt (Nat.mul_le_mul_left D (by omega)) hb
  · unfold wor
    have := sumQ_fit (l := prods g c) (N := G * M) (fit_zero hD) hp
    rw [prods_len hl, Nat.zero_add] at this
    exact this.more le6
end
theorem bd_div {a b : Int} {n : Nat} (h : 0 < b) (ha : a.natAbs < 2 ^ n) (hb : b.natAbs < 2 ^ n) : Bd n (Rat.divInt a b) := by
  obtain ⟨B, rfl⟩ : ∃ B : Nat, b = (B : Int) := ⟨b.toNat, by omega⟩
  have hB : 0 < B := by omega
  have hB' : B < 2 ^ n := by simpa using hb
  constructor
  · rw [Rat.num_divInt, Int.sign_eq_one_of_pos h, Int.one_mul]
    refine Nat.lt_of_le_of_lt ?_ ha
    exact Int.natAbs_ediv_le_natAbs _ _
  · rw [Rat.divInt_ofNat, Rat.den_mkRat, if_neg (by omega)]
    exact Nat.lt_of_le_of_lt (Nat.div_le_self _ _) hB'
theorem divInt_div {a b : Int} : Rat.divInt a b = (a : Rat) / (b : Rat) := Rat.divInt_eq_div a b
end Top
end
section
set_option linter.all false
set_option exponentiation.threshold 10000
namespace Top
open Ma
def cf (w : List Rat) (i : Nat) : Rat := w[i]?.getD 0
def gf (g : List Int) (i : Nat) : Int := g[i]?.getD 0
theorem sumQ_sQ : ∀ (w : List Rat) (t : Rat), sumQ t w = t + sQ w.length (cf w)
  | [], t => by show t = t + 0; grind
  | a :: w, t => by
    have ih := sumQ_sQ w (t + a)
    show sumQ (t + a) w = _
    rw [ih, List.length_cons, sQ_shift]
    have e : (fun i => cf (a :: w) (i + 1)) = cf w := funext fun i => by unfold cf; rw [List.getElem?_cons_succ]
    rw [e]
    show _ = t + (a + sQ w.length (cf w))
    grind
theorem sum_sQ {n : Nat} {w : List Rat} (h : w.length = n) : sumQ 0 w = sQ n (cf w) := by
  rw [sumQ_sQ, h]; grind
theorem wor_sQ {n : Nat} {g : List Int} {w : List Rat} (hg : g.length = n) (hw : w.length = n) : wor g w = sQ n fun i => ((gf g i : Int) : Rat) * cf w i := by
  unfold wor
  rw [sum_sQ (n := n) (by rw [prods_len (by rw [hg, hw]), hw])]
  refine sQ_congr fun i hi => ?_
  unfold cf gf prods
  rw [List.getElem?_zipWith, List.getElem?_eq_getElem (by omega), List.getElem?_eq_getElem (by omega)]; rfl
/-- a chance for n outcomes -/
structure Ch (n : Nat) (w : List Rat) : Prop where
  len : w.length = n
  pos : ∀ q ∈ w, 0 ≤ q
  one : sumQ 0 w = 1
/-- it keeps the quotes -/
def Kp (l : List Quote) (w : List Rat) : Prop := ∀ q ∈ l, q.2 ≤ wor q.1 w
theorem Ch.cf {n : Nat} {w : List Rat} (h : Ch n w) {i : Nat} (hi : i < n) : 0 ≤ cf w i := by
  unfold Top.cf
  rw [List.getElem?_eq_getElem (by rw [h.len]; exact hi)]
  exact h.pos _ (List.getElem_mem _)
theorem Ch.sum {n : Nat} {w : List Rat} (h : Ch n w) : sQ n (Top.cf w) = 1 := by rw [← sum_sQ h.len]; exact h.one
theorem minI_le : ∀ {g : List Int} {i : Int}, i ∈ g → minI g ≤ i := by
  have key : ∀ (l : List Int) (m : Int), l.foldl min m ≤ m ∧ ∀ i ∈ l, l.foldl min m ≤ i := fun l => by
    induction l with
    | nil => intro m; exact ⟨Int.le_refl _, by simp⟩
    | cons a l ih =>
      intro m
      obtain ⟨h1, h2⟩ := ih (min m a)
      rw [List.foldl_cons]
      refine ⟨by omega, fun i hi => ?_⟩
      rcases List.mem_cons.mp hi with q | q
      · subst q; omega
      · exact h2 i q
  intro g i hi
  cases g with
  | nil => cases hi
  | cons n r =>
    show r.foldl min n ≤ i
    obtain ⟨h1, h2⟩ := key r n
    rcases List.mem_cons.mp hi with q | q
    · subst q; exact h1
    · exact h2 i q
theorem minI_mem {g : List Int} (h : g ≠ []) : minI g ∈ g := by
  have key : ∀ (l : List Int) (m : Int), l.foldl min m = m ∨ l.foldl min m ∈ l := fun l => by
    induction l with
    | nil => intro m; exact .inl rfl
    | cons a l ih =>
      intro m
      rw [List.foldl_cons]
      rcases ih (min m a) with q | q
      · rw [q]
        by_cases w : m ≤ a
        · left; omega
        · right; rw [show min m a = a by omega]; exact List.mem_cons_self
      · exact .inr (List.mem_cons_of_mem _ q)
  cases g with
  | nil => exact absurd rfl h
  | cons n r =>
    show r.foldl min n ∈ n :: r
    rcases key r n with q | q
    · rw [q]; exact List.mem_cons_self
    · exact List.mem_cons_of_mem _ q
theorem sQ_term {n : Nat} {f : Nat → Rat} (h : ∀ i, i < n → 0 ≤ f i) {i : Nat} (hi : i < n) : f i ≤ sQ n f := by
  induction n with
  | zero => omega
  | succ n ih =>
    have h1 := sQ_nonneg fun i hi => h i (Nat.lt_succ_of_lt hi)
    have h2 := h n (by omega)
    show f i ≤ sQ n f + f n
    by_cases e : i = n
    · subst e; grind
    · have := ih (fun i hi => h i (by omega)) (by omega); grind
theorem Ch.le1 {n : Nat} {w : List Rat} (h : Ch n w) {q : Rat} (hq : q ∈ w) : q ≤ 1 := by
  obtain ⟨k, hk, rfl⟩ := List.mem_iff_getElem.mp hq
  have hk' : k < n := by rw [← h.len]; exact hk
  have := sQ_term (fun i hi => h.cf hi) hk'
  rw [h.sum] at this
  unfold Top.cf at this
  rw [List.getElem?_eq_getElem hk] at this
  exact this
theorem fit_div {a b : Int} {M : Nat} (hb : 0 < b) (ha : a.natAbs ≤ M) : Fit b.natAbs M ((b : Rat)⁻¹ * (a : Rat)) := by
  have bq : (0 : Rat) < (b : Rat) := Rat.intCast_pos.mpr hb
  have b1 : (1 : Rat) ≤ (b : Rat) := Rat.intCast_le_intCast.mpr (show (1 : Int) ≤ b by omega)
  have bi : (b : Rat)⁻¹ * (b : Rat) = 1 := Rat.inv_mul_cancel _ (by grind)
  have bp := Rat.inv_pos.mpr bq
  have i1 : (b : Rat)⁻¹ ≤ 1 := Rat.not_lt.mp fun z => by
    have q1 := Rat.mul_pos (show 0 < (b : Rat)⁻¹ - 1 by grind) bq
    grind
  have fa := fit_int (D := 1) (g := a) (N := M) (by decide) ha
  obtain ⟨w1, w2⟩ := mul_between (a := (b : Rat)⁻¹) (A := 1) (by grind) i1 fa.lo fa.hi
  refine ⟨⟨a, ?_⟩, by grind, by grind⟩
  have e : ((b.natAbs : Nat) : Rat) = (b : Rat) := by
    have : (b.natAbs : Int) = b := by omega
    rw [← this]; rfl
  rw [e, Rat.mul_comm (b : Rat)⁻¹, Rat.mul_assoc, bi, Rat.mul_one]
section
variable {n : Nat} {l : List Quote} {g : List Int}
/-- the columns of the table of a book -/
structure Cols (n : Nat) (l : List Quote) (g : List Int) (A : Nat → Nat → Int) : Prop where
  c0 : ∀ k, k < n → A k 0 = 1
  m0 : A n 0 = -1
  cj : ∀ k j, k < n → (hj : j < l.length) → A k (j + 1) = gf (l[j]).1 k * ((l[j]).2.den : Nat) - (l[j]).2.num
  mj : ∀ j, j < l.length → A n (j + 1) = 0
  cs : ∀ k i, k < n → i < n → A k (l.length + 1 + i) = if i = k then 1 else 0
  ms : ∀ i, i ≤ n → A n (l.length + 1 + i) = 0
  cr : ∀ k, k < n → A k (l.length + 1 + n) = gf g k - minI g
theorem book_lens (hg : g.length = n) : (lpOf (n, l) g).rows.length = n ∧ (lpOf (n, l) g).worths.length = l.length + 1 ∧ (lpOf (n, l) g).bounds.length = n ∧ ∀ r ∈ (lpOf (n, l) g).rows, r.length = l.length + 1 := by
  refine ⟨by simp [lpOf, gainRows], by simp [lpOf], by simp [lpOf, hg], fun r hr => ?_⟩
  obtain ⟨s, hs, rfl⟩ := List.mem_map.mp hr
  obtain ⟨i, _, rfl⟩ := List.mem_map.mp hs
  simp [gainRow]
theorem book_cols (hg : g.length = n) : Cols n l g (tab0 (lpOf (n, l) g)).at_ := by
  obtain ⟨h1, h2, h3, h4⟩ := book_lens (l := l) hg
  have row : ∀ k, k < n → (lpOf (n, l) g).rows[k]?.getD [] = 1 :: gainRow l k := fun k hk => by
    unfold lpOf gainRows
    rw [List.getElem?_map, List.getElem?_map, List.getElem?_range' (by simpa using hk)]; simp
  refine ⟨fun k hk => ?_, ?_, fun k j hk hj => ?_, fun j hj => ?_, fun k i hk hi => at_unit h1 h4 hk hi, fun i hi => at_foot h1 h2 hi, fun k hk => ?_⟩
  · rw [at_row h1 h4 hk (by omega), row k hk]; rfl
  · rw [at_worth h1 h2 (by omega)]; rfl
  · rw [at_row h1 h4 hk (by omega), row k hk, List.getElem?_cons_succ]
    unfold gainRow
    rw [List.getElem?_map, List.getElem?_eq_getElem hj]; rfl
  · rw [at_worth h1 h2 (by omega)]
    show -((1 :: List.replicate l.length 0)[j + 1]?.getD 0) = 0
    rw [List.getElem?_cons_succ, List.getElem?_replicate, if_pos hj]; rfl
  · rw [at_rhs h1 h4 hk]
    show (g.map fun n => n - minI g)[k]?.getD 0 = _
    unfold gf
    rw [List.getElem?_map, List.getElem?_eq_getElem (by omega)]; rfl
theorem price_lt {q : Rat} (h : PriceOk q) : (-1000000 ≤ q.num ∧ q.num ≤ 1000000) ∧ q.den ≤ 1000 := by
  simp only [PriceOk, fits, Bool.and_eq_true, decide_eq_true_eq] at h
  omega
theorem gf_abs {B : Nat} (h : ∀ i ∈ g, i.natAbs ≤ B) (k : Nat) : (gf g k).natAbs ≤ B := by
  unfold gf
  by_cases q : k < g.length
  · rw [List.getElem?_eq_getElem q]; exact h _ (List.getElem_mem q)
  · rw [List.getElem?_eq_none (by omega)]; exact Nat.zero_le _
theorem pay_abs (h : PayOk n g) : ∀ i ∈ g, i.natAbs ≤ 1000 := fun i hi => by have := h.2 i hi; omega
theorem gain_abs {q : Quote} (h : QOk n q) (k : Nat) : (gf q.1 k * (q.2.den : Nat) - q.2.num).natAbs ≤ 2000000 := by
  obtain ⟨⟨p1, p2⟩, p3⟩ := price_lt h.2
  have a := gf_abs (pay_abs h.1) k
  have b : (gf q.1 k * (q.2.den : Nat)).natAbs ≤ 1000 * 1000 := by
    rw [Int.natAbs_mul]; exact Nat.mul_le_mul a (by simpa using p3)
  omega
/-- the bound on all numbers of the first table -/
theorem book_abs (hb : BkOk (n, l)) (hg : PayOk n g) (h0 : g ≠ []) {k c : Nat} (hk : k ≤ n) (hc : c ≤ l.length + 1 + n) : ((tab0 (lpOf (n, l) g)).at_ k c).natAbs ≤ 2000000 := by
  have C := book_cols (l := l) hg.1
  have cs : c = 0 ∨ (∃ j, c = j + 1 ∧ j < l.length) ∨ (∃ i, c = l.length + 1 + i ∧ i < n) ∨ c = l.length + 1 + n := by
    by_cases q1 : c = 0
    · exact .inl q1
    · by_cases q2 : c ≤ l.length
      · exact .inr (.inl ⟨c - 1, by omega, by omega⟩)
      · by_cases q3 : c < l.length + 1 + n
        · exact .inr (.inr (.inl ⟨c - (l.length + 1), by omega, by omega⟩))
        · exact .inr (.inr (.inr (by omega)))
  by_cases e : k = n
  · subst e
    rcases cs with rfl | ⟨j, rfl, hj⟩ | ⟨i, rfl, hi⟩ | rfl
    · rw [C.m0]; decide
    · rw [C.mj j hj]; decide
    · rw [C.ms i (by omega)]; decide
    · rw [C.ms k (by omega)]; decide
  · have hk' : k < n := by omega
    rcases cs with rfl | ⟨j, rfl, hj⟩ | ⟨i, rfl, hi⟩ | rfl
    · rw [C.c0 k hk']; decide
    · rw [C.cj k j hk' hj]; exact gain_abs (hb.2.2 _ (List.getElem_mem hj)) k
    · rw [C.cs k i hk' hi]; split <;> decide
    · rw [C.cr k hk']
      have a := gf_abs (pay_abs hg) k
      have b := pay_abs hg _ (minI_mem h0)
      omega
/-- the gains of a quote at weights -/
theorem gain_sum {q : Quote} (hq : q.1.length = n) {w : List Rat} (hw : w.length = n) : sQ n (fun k => cf w k * ((gf q.1 k * (q.2.den : Nat) - q.2.num : Int) : Rat)) = (q.2.den : Nat) * (wor q.1 w - q.2 * sQ n (cf w)) := by
  rw [wor_sQ hq hw]
  have e : sQ n (fun k => cf w k * ((gf q.1 k * (q.2.den : Nat) - q.2.num : Int) : Rat)) = sQ n fun k => ((q.2.den : Nat) : Rat) * (((gf q.1 k : Int) : Rat) * cf w k) + (-(q.2 * (q.2.den : Nat))) * cf w k := sQ_congr fun k _ => by
    rw [Rat.intCast_sub, Rat.intCast_mul, num_den]
    have : (((q.2.den : Int)) : Rat) = (q.2.den : Rat) := rfl
    rw [this]; grind
  rw [e, sQ_lin]; grind
theorem book_F (hb : BkOk (n, l)) (hg : g.length = n) {w : List Rat} (hw : Ch n w) (hk : Kp l w) :
    (∀ c, c < l.length + 1 + n → 0 ≤ Fw n (tab0 (lpOf (n, l) g)).at_ (cf w) c) ∧ Fw n (tab0 (lpOf (n, l) g)).at_ (cf w) (l.length + 1 + n) = wor g w - (minI g : Rat) := by
  have C := book_cols (l := l) hg
  have W := hw.sum
  refine ⟨fun c hc => ?_, ?_⟩
  · have cs : c = 0 ∨ (∃ j, c = j + 1 ∧ j < l.length) ∨ ∃ i, c = l.length + 1 + i ∧ i < n := by
      by_cases q1 : c = 0
      · exact .inl q1
      · by_cases q2 : c ≤ l.length
        · exact .inr (.inl ⟨c - 1, by omega, by omega⟩)
        · exact .inr (.inr ⟨c - (l.length + 1), by omega, by omega⟩)
    unfold Fw
    rcases cs with rfl | ⟨j, rfl, hj⟩ | ⟨i, rfl, hi⟩
    · rw [C.m0, sQ_congr (g := cf w) fun k hk => by rw [C.c0 k hk]; show cf w k * (1 : Rat) = _; grind]
      rw [W]; show (0 : Rat) ≤ 1 + 1 * (-1); grind
    · have qo := hb.2.2 _ (List.getElem_mem hj)
      rw [C.mj j hj, sQ_congr fun k hk => by rw [C.cj k j hk hj], gain_sum qo.1.1 hw.len, W]
      have h1 := hk _ (List.getElem_mem hj)
      have h2 := Rat.mul_nonneg (natQ_nonneg (l[j]).2.den) (show 0 ≤ wor (l[j]).1 w - (l[j]).2 by grind)
      show 0 ≤ _ + 1 * (0 : Rat)
      grind
    · rw [C.ms i (by omega), sQ_one (r := i) hi fun k hk ne => by rw [C.cs k i hk hi, if_neg fun e => ne e.symm]; show cf w k * (0 : Rat) = 0; grind, C.cs i i hi hi, if_pos rfl]
      have := hw.cf hi
      show 0 ≤ cf w i * (1 : Rat) + _ * (0 : Rat)
      grind
  · unfold Fw
    rw [C.ms n (Nat.le_refl n), sQ_congr (g := fun k => 1 * (((gf g k : Int) : Rat) * cf w k) + (-(minI g : Rat)) * cf w k) fun k hk => by
      rw [C.cr k hk, Rat.intCast_sub]; grind]
    rw [sQ_lin, W, ← wor_sQ hg hw.len]
    show _ + _ * (0 : Rat) = _
    grind
/-- what the answer for a book tells -/
structure Told (n : Nat) (l : List Quote) (g : List Int) (e : Tab) : Prop where
  sol : Sol (n, l) g e
  ok : TabOk e
  low : ∀ w, Ch n w → Kp l w → leastOf ⟨(n, l), g, e⟩ ≤ wor g w
  ch : Ch n (chanceIn e)
  kp : Kp l (chanceIn e)
  at_ : wor g (chanceIn e) = leastOf ⟨(n, l), g, e⟩
  bits : ∃ D : Nat, 0 < D ∧ D < 2 ^ 300 ∧ Fit D (2 ^ 300) e.value ∧ (∀ q ∈ e.mults, Fit D (2 ^ 300) q) ∧ e.mults.length ≤ 6 ∧ 0 < sumQ 0 e.mults ∧ ∃ E : Nat, 0 < E ∧ E < 2 ^ 300 ∧ ∀ q ∈ chanceIn e, Fit E 1 q
theorem lp_book (hb : BkOk (n, l)) (hg : PayOk n g) {w : List Rat} (hw : Ch n w) (hk : Kp l w) : ∃ e, Told n l g e := by
  obtain ⟨h1, h2, h3, h4⟩ := book_lens (l := l) hg.1
  obtain ⟨⟨n2, n6⟩, l32, qok⟩ := id hb
  dsimp only at n2 n6 l32 qok
  have g0 : g ≠ [] := fun z => by have := hg.1; rw [z] at this; simp at this; omega
  obtain ⟨F1, F2⟩ := book_F hb hg.1 hw hk
  have small : ((n + 1) * 2000000) ^ (n + 1) < 2 ^ 200 := by
    refine Nat.lt_of_le_of_lt (Nat.pow_le_pow_left (Nat.mul_le_mul_right _ (show n + 1 ≤ 7 by omega)) _) ?_
    refine Nat.lt_of_le_of_lt (Nat.pow_le_pow_right (by decide) (show n + 1 ≤ 7 by omega)) ?_
    decide
  have b5 : ∀ b ∈ (lpOf (n, l) g).bounds, 0 ≤ b := fun b hb => by
    obtain ⟨i, hi, rfl⟩ := List.mem_map.mp hb
    have := minI_le hi; omega
  have hB : ∀ k c, k ≤ n → c ≤ l.length + 1 + n → ((tab0 (lpOf (n, l) g)).at_ k c).natAbs ≤ 2000000 := fun k c h1 h2 => book_abs hb hg g0 h1 h2
  have hs : ((n + 1) * 2000000) ^ (n + 1) < 2 ^ 2000 := Nat.lt_trans small (by decide)
  obtain ⟨k, e, st, sh, gd⟩ := solve (w := cf w) h1 h2 h3 h4 b5 hB (by decide) hs (by omega) (by omega) F1 (by rw [hw.sum]; decide)
  have tok := good_tab sh gd hB (by decide) hs (by omega) (by omega)
  have P := tab0_pr h1 h2 h3 h4 b5
  have C := book_cols (l := l) hg.1
  have en : ∀ c, c < l.length + 1 + n → 0 ≤ e.at_ n c := fun c hc => enter_none sh (Steps.rec (motive := fun _ _ e _ => e.entering = none) (fun ok h => h) (fun _ _ _ _ ih => ih) st) hc
  obtain ⟨ab1, ab2⟩ := good_ok sh gd hB (by decide)
  have up : 0 < e.unit := gd.hu
  have uq : (0 : Rat) < (e.unit : Rat) := Rat.intCast_pos.mpr up
  have u0 : (e.unit : Rat) ≠ 0 := by grind
  have ui : (e.unit : Rat)⁻¹ * (e.unit : Rat) = 1 := Rat.inv_mul_cancel _ u0
  have upi : 0 < (e.unit : Rat)⁻¹ := Rat.inv_pos.mpr uq
  -- the multiples
  let y : Nat → Rat := fun k => ((e.at_ n (l.length + 1 + k) : Int) : Rat)
  have y0 : ∀ k, k < n → 0 ≤ y k := fun k hk => Rat.intCast_nonneg.mpr (en _ (by omega))
  have row : ∀ c, c ≤ l.length + 1 + n → ((e.at_ n c : Int) : Rat) = sQ n (fun k => y k * (((tab0 (lpOf (n, l) g)).at_ k c : Int) : Rat)) + (e.unit : Rat) * (((tab0 (lpOf (n, l) g)).at_ n c : Int) : Rat) := fun c hc => by
    have r := gd.row P hc
    have r' : e.at_ n c = (sm n fun k => e.at_ n (l.length + 1 + k) * (tab0 (lpOf (n, l) g)).at_ k c) + e.unit * (tab0 (lpOf (n, l) g)).at_ n c := r
    rw [r', Rat.intCast_add, Rat.intCast_mul, sm_cast]
    congr 1
    exact sQ_congr fun k _ => by rw [Rat.intCast_mul]
  have ml : e.mults.length = n := by unfold Tab.mults; simp [sh.many]
  have mk : ∀ k, k < n → cf e.mults k = (e.unit : Rat)⁻¹ * y k := fun k hk => by
    unfold cf Tab.mults
    rw [List.getElem?_map, List.getElem?_range' (by rw [sh.many]; exact hk)]
    show Rat.divInt (e.at_ e.many (e.size + (0 + 1 * k))) e.unit = _
    rw [sh.many, sh.size, divInt_div, Rat.div_def, Nat.zero_add, Nat.one_mul, Rat.mul_comm]
  have val : e.value = (e.unit : Rat)⁻¹ * ((e.at_ n (l.length + 1 + n) : Int) : Rat) := by
    show Rat.divInt (e.at_ e.many (e.size + e.many)) e.unit = _
    rw [sh.many, sh.size, divInt_div, Rat.div_def, Rat.mul_comm]
  have S : sumQ 0 e.mults = (e.unit : Rat)⁻¹ * sQ n y := by
    rw [sum_sQ ml, sQ_congr mk, sQ_mul]
  -- at least the unit in all
  have Y1 : (e.unit : Rat) ≤ sQ n y := by
    have r := row 0 (by omega)
    rw [C.m0, sQ_congr (g := y) fun k hk => by rw [C.c0 k hk]; show y k * (1 : Rat) = _; grind] at r
    have := Rat.intCast_nonneg.mpr (en 0 (by omega))
    have r : ((e.at_ n 0 : Int) : Rat) = sQ n y + (e.unit : Rat) * (-1) := r
    grind
  have S1 : 1 ≤ sumQ 0 e.mults := by
    rw [S, ← ui]
    exact Rat.mul_le_mul_of_nonneg_left Y1 (Rat.le_of_lt upi)
  have Sp : 0 < sumQ 0 e.mults := by grind
  have S0 : sumQ 0 e.mults ≠ 0 := by grind
  have cl : (chanceIn e).length = n := by unfold chanceIn; rw [List.length_map, ml]
  have ck : ∀ k, k < n → cf (chanceIn e) k = (sumQ 0 e.mults)⁻¹ * cf e.mults k := fun k hk => by
    unfold chanceIn cf
    rw [List.getElem?_map, List.getElem?_eq_getElem (by omega)]
    show (e.mults[k]) / sumQ 0 e.mults = _ * e.mults[k]
    rw [Rat.div_def, Rat.mul_comm]
  have Si : (sumQ 0 e.mults)⁻¹ * sumQ 0 e.mults = 1 := Rat.inv_mul_cancel _ S0
  have Sip : 0 < (sumQ 0 e.mults)⁻¹ := Rat.inv_pos.mpr Sp
  have mpos : ∀ k, k < n → 0 ≤ cf e.mults k := fun k hk => by rw [mk k hk]; exact Rat.mul_nonneg (Rat.le_of_lt upi) (y0 k hk)
  have chc : Ch n (chanceIn e) := by
    refine ⟨cl, fun q hq => ?_, ?_⟩
    · obtain ⟨k, hk, rfl⟩ := List.mem_iff_getElem.mp hq
      have := ck k (by omega)
      unfold cf at this
      rw [List.getElem?_eq_getElem hk] at this
      have this : (chanceIn e)[k] = _ := this
      rw [this]
      exact Rat.mul_nonneg (Rat.le_of_lt Sip) (mpos k (by omega))
    · rw [sum_sQ cl, sQ_congr ck, sQ_mul, ← sum_sQ ml, Si]
  have worm : ∀ h : List Int, h.length = n → wor h (chanceIn e) = (sumQ 0 e.mults)⁻¹ * wor h e.mults := fun h hh => by
    rw [wor_sQ hh cl, wor_sQ hh ml, ← sQ_mul]
    exact sQ_congr fun k hk => by rw [ck k hk]; grind
  have kpc : Kp l (chanceIn e) := fun q hq => by
    obtain ⟨j, hj, rfl⟩ := List.mem_iff_getElem.mp hq
    have qo := qok _ hq
    have r := row (j + 1) (by omega)
    rw [C.mj j hj, sQ_congr (g := fun k => (e.unit : Rat) * (cf e.mults k * ((gf (l[j]).1 k * ((l[j]).2.den : Nat) - (l[j]).2.num : Int) : Rat))) fun k hk => by
      rw [C.cj k j hk hj, mk k hk]; grind, sQ_mul, gain_sum qo.1.1 ml] at r
    have nn := Rat.intCast_nonneg.mpr (en (j + 1) (by omega))
    have r : ((e.at_ n (j + 1) : Int) : Rat) = (e.unit : Rat) * (((l[j]).2.den : Rat) * (wor (l[j]).1 e.mults - (l[j]).2 * sQ n (cf e.mults))) + (e.unit : Rat) * (0 : Rat) := r
    rw [← sum_sQ ml] at r
    rw [worm _ qo.1.1]
    have dp : (0 : Rat) < ((l[j]).2.den : Rat) := Rat.intCast_pos.mpr (show (0 : Int) < ((l[j]).2.den : Int) by have := (l[j]).2.den_nz; omega)
    have pp := Rat.mul_pos uq dp
    have w1 : 0 ≤ wor (l[j]).1 e.mults - (l[j]).2 * sumQ 0 e.mults := Rat.not_lt.mp fun z => by
      have := Rat.mul_pos pp (show 0 < -(wor (l[j]).1 e.mults - (l[j]).2 * sumQ 0 e.mults) by grind)
      grind
    have w2 := Rat.mul_nonneg (Rat.le_of_lt Sip) w1
    have w3 : (sumQ 0 e.mults)⁻¹ * (wor (l[j]).1 e.mults - (l[j]).2 * sumQ 0 e.mults) = (sumQ 0 e.mults)⁻¹ * wor (l[j]).1 e.mults - (l[j]).2 := by
      have : (sumQ 0 e.mults)⁻¹ * ((l[j]).2 * sumQ 0 e.mults) = (l[j]).2 := by
        rw [Rat.mul_comm (l[j]).2, ← Rat.mul_assoc, Si, Rat.one_mul]
      grind
    grind
  have lowf : ∀ w, Ch n w → Kp l w → leastOf ⟨(n, l), g, e⟩ ≤ wor g w := fun w hw hk => by
    obtain ⟨F1, F2⟩ := book_F hb hg.1 hw hk
    have := weigh_le gd (cf w) F1
    rw [F2, hw.sum] at this
    have this : ((e.at_ n (l.length + 1 + n) : Int) : Rat) * 1 ≤ (e.unit : Rat) * (wor g w - (minI g : Rat)) := this
    have t2 := Rat.mul_le_mul_of_nonneg_left this (Rat.le_of_lt upi)
    rw [← Rat.mul_assoc _ (e.unit : Rat), ui] at t2
    unfold leastOf
    dsimp only
    rw [val]; grind
  -- the value by the multiples
  have V : e.value = wor g e.mults - (minI g : Rat) * sumQ 0 e.mults := by
    have r := row (l.length + 1 + n) (Nat.le_refl _)
    rw [C.ms n (Nat.le_refl n), sQ_congr (g := fun k => (e.unit : Rat) * (1 * (((gf g k : Int) : Rat) * cf e.mults k) + (-(minI g : Rat)) * cf e.mults k)) fun k hk => by
      rw [C.cr k hk, mk k hk, Rat.intCast_sub]; grind, sQ_mul, sQ_lin, ← wor_sQ hg.1 ml, ← sum_sQ ml] at r
    rw [val, r]
    have r2 : (e.unit : Rat)⁻¹ * ((e.unit : Rat) * (1 * wor g e.mults + -(minI g : Rat) * sumQ 0 e.mults) + (e.unit : Rat) * (0 : Rat)) = wor g e.mults - (minI g : Rat) * sumQ 0 e.mults := by
      grind
    exact r2
  have V0 : 0 ≤ e.value := by
    rw [val]
    exact Rat.mul_nonneg (Rat.le_of_lt upi) (Rat.intCast_nonneg.mpr (by
      have h := gd.row P (Nat.le_refl (l.length + 1 + n))
      have h' : e.at_ n (l.length + 1 + n) = (sm n fun k => e.at_ n (l.length + 1 + k) * (tab0 (lpOf (n, l) g)).at_ k (l.length + 1 + n)) + e.unit * (tab0 (lpOf (n, l) g)).at_ n (l.length + 1 + n) := h
      rw [h', C.ms n (Nat.le_refl n), Int.mul_zero, Int.add_zero]
      exact sm_nonneg fun k hk => Int.mul_nonneg (en _ (by omega)) (P.rhs k hk)))
  have att : wor g (chanceIn e) = leastOf ⟨(n, l), g, e⟩ := by
    have a := lowf _ chc kpc
    have b : wor g (chanceIn e) = (sumQ 0 e.mults)⁻¹ * e.value + (minI g : Rat) := by
      rw [worm g hg.1]
      have : wor g e.mults = e.value + (minI g : Rat) * sumQ 0 e.mults := by rw [V]; grind
      rw [this]
      have : (sumQ 0 e.mults)⁻¹ * ((minI g : Rat) * sumQ 0 e.mults) = (minI g : Rat) := by
        rw [Rat.mul_comm (minI g : Rat), ← Rat.mul_assoc, Si, Rat.one_mul]
      grind
    have c : (sumQ 0 e.mults)⁻¹ * e.value ≤ e.value := by
      have i1 : (sumQ 0 e.mults)⁻¹ ≤ 1 := Rat.not_lt.mp fun z => by
        have q1 := Rat.mul_pos (show 0 < (sumQ 0 e.mults)⁻¹ - 1 by grind) Sp
        grind
      have := Rat.mul_le_mul_of_nonneg_right i1 V0
      grind
    unfold leastOf at a ⊢
    dsimp only at a ⊢
    grind
  refine ⟨e, ⟨k, st⟩, tok, lowf, chc, kpc, att, e.unit.natAbs, by omega, by omega, ?_, fun q hq => ?_, by omega, Sp, ?_⟩
  · rw [val]
    exact fit_div up (Nat.le_of_lt (Nat.lt_of_le_of_lt (ab1 n (l.length + 1 + n) (Nat.le_refl n) (Nat.le_refl _)) (Nat.lt_trans small (by decide))))
  · obtain ⟨k, hk, rfl⟩ := List.mem_iff_getElem.mp hq
    have := mk k (by omega)
    unfold cf at this
    rw [List.getElem?_eq_getElem hk] at this
    have this : e.mults[k] = _ := this
    rw [this]
    exact fit_div up (Nat.le_of_lt (Nat.lt_of_le_of_lt (ab1 n (l.length + 1 + k) (Nat.le_refl n) (by omega)) (Nat.lt_trans small (by decide))))
  · have eY : sQ n y = ((sm n fun k => e.at_ n (l.length + 1 + k) : Int) : Rat) := (sm_cast _ _).symm
    have Yp : (0 : Rat) < sQ n y := by grind
    rw [eY] at Yp
    have Yp' := Rat.intCast_pos.mp Yp
    have ba : (sm n fun k => e.at_ n (l.length + 1 + k)).natAbs ≤ n * 2 ^ 200 := sm_abs fun k hk => Nat.le_of_lt (Nat.lt_of_le_of_lt (ab1 n (l.length + 1 + k) (Nat.le_refl n) (by omega)) small)
    have bn : n * 2 ^ 200 ≤ 6 * 2 ^ 200 := Nat.mul_le_mul_right _ n6
    have bc : 6 * 2 ^ 200 < 2 ^ 300 := by decide
    refine ⟨(sm n fun k => e.at_ n (l.length + 1 + k)).natAbs, by omega, by omega, fun q hq => ⟨?_, ?_, ?_⟩⟩
    · obtain ⟨k, hk, rfl⟩ := List.mem_iff_getElem.mp hq
      refine ⟨e.at_ n (l.length + 1 + k), ?_⟩
      have c1 := ck k (by omega)
      rw [mk k (by omega)] at c1
      unfold cf at c1
      rw [List.getElem?_eq_getElem hk] at c1
      have c1 : (chanceIn e)[k] = _ := c1
      have eE : (((sm n fun k => e.at_ n (l.length + 1 + k)).natAbs : Nat) : Rat) = sQ n y := by
        rw [eY]
        have : (((sm n fun k => e.at_ n (l.length + 1 + k)).natAbs : Nat) : Int) = sm n fun k => e.at_ n (l.length + 1 + k) := by omega
        rw [← this]; rfl
      rw [c1, eE]
      have : sQ n y = (e.unit : Rat) * sumQ 0 e.mults := by
        rw [S, ← Rat.mul_assoc, Rat.mul_comm (e.unit : Rat), ui, Rat.one_mul]
      rw [this]
      show (sumQ 0 e.mults)⁻¹ * ((e.unit : Rat)⁻¹ * y k) * ((e.unit : Rat) * sumQ 0 e.mults) = y k
      calc (sumQ 0 e.mults)⁻¹ * ((e.unit : Rat)⁻¹ * y k) * ((e.unit : Rat) * sumQ 0 e.mults) = ((sumQ 0 e.mults)⁻¹ * sumQ 0 e.mults) * ((e.unit : Rat)⁻¹ * (e.unit : Rat)) * y k := by grind
        _ = y k := by rw [Si, ui]; grind
    · have := chc.pos q hq
      have : (-((1 : Nat) : Rat)) = -1 := rfl
      grind
    · exact chc.le1 hq
end
end Top
end
section
set_option linter.all false
set_option exponentiation.threshold 10000
namespace Top
open Mc
/-- a small book -/
structure Bs (n : Nat) (l : List Quote) : Prop where
  n2 : 2 ≤ n
  n4 : n ≤ 4
  l5 : l.length ≤ 5
  q : ∀ q ∈ l, q.1.length = n ∧ (∀ i ∈ q.1, i.natAbs ≤ 5) ∧ q.2.den ≤ 92 ∧ q.2.num.natAbs ≤ 650
abbrev csOf (n : Nat) (l : List Quote) : List Cn := cutAll n (startCs n) n l
section
variable {n : Nat} {l : List Quote}
theorem Bs.bk (b : Bs n l) : BkOk (n, l) := by
  refine ⟨⟨b.n2, by have := b.n4; dsimp only; omega⟩, by have := b.l5; dsimp only; omega, fun q hq => ?_⟩
  obtain ⟨h1, h2, h3, h4⟩ := b.q q hq
  refine ⟨⟨h1, fun i hi => by have := h2 i hi; omega⟩, ?_⟩
  simp only [PriceOk, fits, Bool.and_eq_true, decide_eq_true_eq]
  omega
theorem col_get {q : Quote} {k : Nat} (hk : k < n) : (col n q)[k]?.getD 0 = gf q.1 k * (q.2.den : Nat) - q.2.num := by
  unfold col gf
  rw [List.getElem?_map, List.getElem?_range' (by simpa using hk)]; simp
theorem Bs.col (b : Bs n l) : ∀ q ∈ l, ∀ i ∈ col n q, i.natAbs ≤ 1110 := fun q hq i hi => by
  obtain ⟨h1, h2, h3, h4⟩ := b.q q hq
  obtain ⟨k, hk, rfl⟩ := List.mem_map.mp hi
  have a : (gf q.1 k).natAbs ≤ 5 := gf_abs h2 k
  have c : (gf q.1 k * (q.2.den : Nat)).natAbs ≤ 5 * 92 := by rw [Int.natAbs_mul]; exact Nat.mul_le_mul a (by simpa using h3)
  show (gf q.1 k * (q.2.den : Nat) - q.2.num).natAbs ≤ 1110
  omega
/-! ### a point as a chance -/
theorem sum_sm : ∀ (p : List Int), ((p.sum : Int) : Rat) = sQ p.length fun i => ((p[i]?.getD 0 : Int) : Rat)
  | [] => rfl
  | a :: p => by
    rw [List.sum_cons, Rat.intCast_add, sum_sm p, List.length_cons, sQ_shift]
    congr 1
theorem chance_len (p : List Int) : (chance p).length = p.length := by unfold chance; rw [List.length_map]
theorem chance_cf (p : List Int) (hs : 0 < p.sum) (k : Nat) : cf (chance p) k = (p.sum : Rat)⁻¹ * coords p k := by
  unfold cf chance coords
  rw [List.getElem?_map]
  cases e : p[k]? with
  | none => show (0 : Rat) = _ * ((0 : Int) : Rat); show (0 : Rat) = _ * 0; grind
  | some a => show Rat.divInt a p.sum = _ * (a : Rat); rw [divInt_div, Rat.div_def, Rat.mul_comm]
/-- a row at a list of fractions -/
def lv (n : Nat) (h : List Int) (w : List Rat) : Rat := dot n h (cf w)
theorem lv_chance {h p : List Int} (hh : h.length = n) (hp : p.length = n) (hs : 0 < p.sum) : lv n h (chance p) = (p.sum : Rat)⁻¹ * ((levelOf h p : Int) : Rat) := by
  rw [level_dot hh hp]
  unfold lv dot
  rw [← sQ_mul]
  exact sQ_congr fun i _ => by rw [chance_cf p hs]; grind
theorem wor_lv {g : List Int} {w : List Rat} (hg : g.length = n) (hw : w.length = n) : wor g w = lv n g w := wor_sQ hg hw
theorem lv_col {q : Quote} (hq : q.1.length = n) {w : List Rat} (hw : Ch n w) : lv n (col n q) w = (q.2.den : Nat) * (wor q.1 w - q.2) := by
  have := gain_sum hq hw.len
  rw [hw.sum, Rat.mul_one] at this
  rw [← this]
  unfold lv dot
  exact sQ_congr fun k hk => by rw [col_get hk]; grind
theorem lv_unit {k : Nat} (hk : k < n) (w : List Rat) : lv n ((hsOf n l)[k]?.getD []) w = cf w k := dot_unit (hs_ok n l) hk _
/-- the bounds hold at a chance that keeps the quotes -/
theorem lv_pos (b : BkOk (n, l)) {w : List Rat} (hw : Ch n w) (hk : Kp l w) {k : Nat} (h : k < n + l.length) : 0 ≤ lv n ((hsOf n l)[k]?.getD []) w := by
  by_cases q : k < n
  · rw [lv_unit q]; exact hw.cf q
  · have hj : k - n < l.length := by omega
    have e := hs_col (n := n) hj
    rw [show n + (k - n) = k by omega] at e
    rw [e, lv_col (b.2.2 _ (List.getElem_mem hj)).1.1 hw]
    have := hk _ (List.getElem_mem hj)
    exact Rat.mul_nonneg (natQ_nonneg _) (by grind)
theorem kp_of {w : List Rat} (b : BkOk (n, l)) (hw : Ch n w) (h : ∀ k, k < n + l.length → 0 ≤ lv n ((hsOf n l)[k]?.getD []) w) : Kp l w := fun q hq => by
  obtain ⟨j, hj, rfl⟩ := List.mem_iff_getElem.mp hq
  have := h (n + j) (by omega)
  rw [hs_col hj, lv_col (b.2.2 _ hq).1.1 hw] at this
  have dp : (0 : Rat) < ((l[j]).2.den : Rat) := Rat.intCast_pos.mpr (show (0 : Int) < ((l[j]).2.den : Int) by have := (l[j]).2.den_nz; omega)
  refine Rat.not_lt.mp fun z => ?_
  have := Rat.mul_pos dp (show 0 < -(wor (l[j]).1 w - (l[j]).2) by grind)
  grind
section
variable {cs : List Cn} {K : Nat}
/-- at any state: a point's numbers -/
theorem pt_get (hK : n ≤ K) (s : St n (hsOf n l) K cs) {c : Cn} (hc : c ∈ cs) : ∀ i ∈ c.1, 0 ≤ i := fun i hi => by
  have len := s.len c hc
  obtain ⟨k, hk, e⟩ := some_place hi
  have := s.pos hc (k := k) (by omega)
  rw [coord_get' (hs_ok n l) len (by omega), e] at this
  exact this
theorem sum_ge : ∀ {p : List Int}, (∀ i ∈ p, 0 ≤ i) → 0 ≤ p.sum ∧ ∀ i ∈ p, i ≤ p.sum
  | [], _ => ⟨by decide, by simp⟩
  | a :: p, h => by
    obtain ⟨h1, h2⟩ := sum_ge (p := p) fun i hi => h i (List.mem_cons_of_mem _ hi)
    have h0 := h a List.mem_cons_self
    rw [List.sum_cons]
    refine ⟨by omega, fun i hi => ?_⟩
    rcases List.mem_cons.mp hi with q | q
    · subst q; omega
    · have := h2 i q; omega
theorem pt_sum (hK : n ≤ K) (s : St n (hsOf n l) K cs) {c : Cn} (hc : c ∈ cs) : 0 < c.1.sum := by
  obtain ⟨i, hi, ne⟩ := (s.prim c hc).ne
  have h0 := pt_get hK s hc
  have := (sum_ge h0).2 i hi
  have := h0 i hi
  omega
theorem sum_le {B : Nat} : ∀ {p : List Int}, (∀ i ∈ p, i.natAbs ≤ B) → p.sum.natAbs ≤ p.length * B
  | [], _ => by simp
  | a :: p, h => by
    have h1 := sum_le (p := p) fun i hi => h i (List.mem_cons_of_mem _ hi)
    have h0 := h a List.mem_cons_self
    rw [List.sum_cons, List.length_cons, Nat.succ_mul]
    omega
theorem pt_small (b : Bs n l) (hK : n ≤ K) (hl : K ≤ n + l.length) (s : St n (hsOf n l) K cs) {c : Cn} (hc : c ∈ cs) : (∀ i ∈ c.1, i.natAbs < 2 ^ 33) ∧ c.1.sum.natAbs < 2 ^ 35 := by
  have h := size_le b.n4 hK hl s (by decide) b.col hc
  have e : 6 * 1110 ^ 3 < 2 ^ 33 := by decide
  refine ⟨fun i hi => Nat.lt_of_le_of_lt (h i hi) e, ?_⟩
  have h2 := sum_le h
  rw [s.len c hc] at h2
  have : n * (6 * 1110 ^ 3) ≤ 4 * (6 * 1110 ^ 3) := Nat.mul_le_mul_right _ b.n4
  have e2 : 4 * (6 * 1110 ^ 3) < 2 ^ 35 := by decide
  omega
theorem pt_ch (hK : n ≤ K) (s : St n (hsOf n l) K cs) {c : Cn} (hc : c ∈ cs) : Ch n (chance c.1) := by
  have hs := pt_sum hK s hc
  have sq : (0 : Rat) < (c.1.sum : Rat) := Rat.intCast_pos.mpr hs
  have si := Rat.inv_pos.mpr sq
  have len := s.len c hc
  refine ⟨by rw [chance_len, len], fun q hq => ?_, ?_⟩
  · obtain ⟨i, hi, rfl⟩ := List.mem_map.mp hq
    rw [divInt_div, Rat.div_def, Rat.mul_comm]
    exact Rat.mul_nonneg (Rat.le_of_lt si) (Rat.intCast_nonneg.mpr (pt_get hK s hc i hi))
  · rw [sum_sQ (n := n) (by rw [chance_len, len]), sQ_congr fun k _ => chance_cf c.1 hs k, sQ_mul]
    have := sum_sm c.1
    rw [len] at this
    unfold coords
    rw [← this]
    exact Rat.inv_mul_cancel _ (by grind)
theorem pt_fit (hK : n ≤ K) (s : St n (hsOf n l) K cs) {c : Cn} (hc : c ∈ cs) : ∀ q ∈ chance c.1, Fit c.1.sum.natAbs 1 q := fun q hq => by
  have hs := pt_sum hK s hc
  have ch := pt_ch hK s hc
  have h0 := ch.pos q hq
  have h1 := ch.le1 hq
  obtain ⟨i, hi, rfl⟩ := List.mem_map.mp hq
  have sq : (0 : Rat) < (c.1.sum : Rat) := Rat.intCast_pos.mpr hs
  refine ⟨⟨i, ?_⟩, ?_, h1⟩
  · have e : ((c.1.sum.natAbs : Nat) : Rat) = (c.1.sum : Rat) := by
      have : (c.1.sum.natAbs : Int) = c.1.sum := by omega
      rw [← this]; rfl
    rw [e, divInt_div]
    exact Rat.div_mul_cancel (by grind)
  · have : (-((1 : Nat) : Rat)) = -1 := rfl
    grind
end
/-! ### the corners of a book -/
theorem co_st (n : Nat) (l : List Quote) : St n (hsOf n l) (n + l.length) (csOf n l) := book_st n l
theorem co_kp (b : BkOk (n, l)) {c : Cn} (hc : c ∈ csOf n l) : Kp l (chance c.1) := by
  have s := co_st n l
  refine kp_of b (pt_ch (by omega) s hc) fun k hk => ?_
  rw [lv_chance (hs_in hk) (s.len c hc) (pt_sum (by omega) s hc)]
  exact Rat.mul_nonneg (Rat.le_of_lt (Rat.inv_pos.mpr (Rat.intCast_pos.mpr (pt_sum (by omega) s hc)))) (Rat.intCast_nonneg.mpr (s.pos hc hk))
/-- a sum of what is above 0 at each -/
theorem Gen_fun {S : Vc → Prop} {x : Vc} {F : Vc → Rat} (lin : ∀ a s x y, (∀ k, y k = a * s k + x k) → F y = a * F s + F x) (zero : ∀ x, (∀ k, x k = 0) → F x = 0) (h : ∀ s, S s → 0 < F s) (g : Gen S x) : (∀ k, x k = 0) ∨ 0 < F x := by
  induction g with
  | zero h0 => exact .inl h0
  | add ha hs g0 e ih =>
    rename_i a s x' y'
    by_cases q : a = 0
    · rcases ih with w | w
      · exact .inl fun j => by rw [e, q, w]; grind
      · exact .inr (by rw [lin _ _ _ _ e, q]; grind)
    · have pa : 0 < a := by grind
      have := Rat.mul_pos pa (h _ hs)
      rcases ih with w | w
      · exact .inr (by rw [lin _ _ _ _ e, zero _ w]; grind)
      · exact .inr (by rw [lin _ _ _ _ e]; grind)
/-- no chance is below all corners -/
theorem co_low (b : BkOk (n, l)) {w : List Rat} (hw : Ch n w) (hk : Kp l w) {g : List Int} (hg : g.length = n) : ∃ c, c ∈ csOf n l ∧ wor g (chance c.1) ≤ wor g w := by
  have s := co_st n l
  have H := hs_ok n l
  refine Classical.byContradiction fun no => ?_
  have lt : ∀ c, c ∈ csOf n l → wor g w < wor g (chance c.1) := fun c hc => Rat.not_le.mp fun z => no ⟨c, hc, z⟩
  have ge := s.dd.hull (fun k => if k < (hsOf n l).length then dot n ((hsOf n l)[k]?.getD []) (cf w) else 0) ⟨cf w, fun k => rfl⟩ fun k hk' => by
    show 0 ≤ (if k < (hsOf n l).length then _ else (0 : Rat))
    rw [hs_len, if_pos hk']
    exact lv_pos b hw hk hk'
  have lam := wor g w
  rcases Gen_fun (F := fun x => sQ n fun i => (((gf g i : Int) : Rat) - wor g w) * x i) (fun a s x y e => by
    have := sQ_lin n a 1 (fun i => (((gf g i : Int) : Rat) - wor g w) * s i) (fun i => (((gf g i : Int) : Rat) - wor g w) * x i)
    rw [Rat.one_mul] at this
    rw [← this]
    exact sQ_congr fun i _ => by rw [e]; grind) (fun x hx => sQ_zero fun i _ => by rw [hx]; grind) (fun t ⟨c, hc, e⟩ => by
      subst e
      have len := s.len c hc
      have hs := pt_sum (by omega) s hc
      have sq : (0 : Rat) < (c.1.sum : Rat) := Rat.intCast_pos.mpr hs
      have ch := pt_ch (by omega) s hc
      have e1 : sQ n (fun i => (((gf g i : Int) : Rat) - wor g w) * vec (hsOf n l) c.1 i) = (c.1.sum : Rat) * (wor g (chance c.1) - wor g w) := by
        have e2 : sQ n (fun i => (((gf g i : Int) : Rat) - wor g w) * vec (hsOf n l) c.1 i) = sQ n fun i => (c.1.sum : Rat) * (((gf g i : Int) : Rat) * cf (chance c.1) i) + (-(c.1.sum : Rat) * wor g w) * cf (chance c.1) i := sQ_congr fun i hi => by
          rw [vec_coord H len hi]
          have e3 := chance_cf c.1 hs i
          have e4 : coords c.1 i = (c.1.sum : Rat) * cf (chance c.1) i := by
            rw [e3, ← Rat.mul_assoc, Rat.mul_comm (c.1.sum : Rat), Rat.inv_mul_cancel _ (by grind), Rat.one_mul]
          rw [e4]; grind
        rw [e2, sQ_lin, ← wor_sQ hg ch.len, ch.sum]; grind
      show 0 < sQ n (fun i => (((gf g i : Int) : Rat) - wor g w) * vec (hsOf n l) c.1 i)
      rw [e1]
      exact Rat.mul_pos sq (by have := lt c hc; grind)) ge with z | z
  · have : sQ n (cf w) = 0 := sQ_zero fun i hi => by
      have := z i
      rw [hs_len, if_pos (by omega)] at this
      rw [← lv_unit (l := l) hi w]; exact this
    rw [hw.sum] at this
    exact absurd this (by decide)
  · have e : sQ n (fun i => (((gf g i : Int) : Rat) - wor g w) * (if i < (hsOf n l).length then dot n ((hsOf n l)[i]?.getD []) (cf w) else 0)) = 0 := by
      have e2 : sQ n (fun i => (((gf g i : Int) : Rat) - wor g w) * (if i < (hsOf n l).length then dot n ((hsOf n l)[i]?.getD []) (cf w) else 0)) = sQ n fun i => 1 * (((gf g i : Int) : Rat) * cf w i) + (-(wor g w)) * cf w i := sQ_congr fun i hi => by
        rw [hs_len, if_pos (by omega), dot_unit H hi]; grind
      rw [e2, sQ_lin, ← wor_sQ hg hw.len, hw.sum]; grind
    dsimp only at z
    rw [e] at z
    exact absurd z (by decide)
/-- a corner on all of whose bounds another one lies is this one -/
theorem co_eq {c d : Cn} (hc : c ∈ csOf n l) (hd : d ∈ csOf n l) (h : ∀ k, k < n + l.length → lv n ((hsOf n l)[k]?.getD []) (chance c.1) = 0 → lv n ((hsOf n l)[k]?.getD []) (chance d.1) = 0) : c = d := by
  have s := co_st n l
  have z : ∀ c, c ∈ csOf n l → ∀ k, k < n + l.length → (lv n ((hsOf n l)[k]?.getD []) (chance c.1) = 0 ↔ vec (hsOf n l) c.1 k = 0) := fun c hc k hk => by
    have hs := pt_sum (by omega) s hc
    have sq : (0 : Rat) < (c.1.sum : Rat) := Rat.intCast_pos.mpr hs
    have si := Rat.inv_pos.mpr sq
    rw [lv_chance (hs_in hk) (s.len c hc) hs]
    constructor
    · intro e
      rcases Rat.mul_eq_zero.mp e with w | w
      · grind
      · exact w
    · intro e
      have e : ((levelOf ((hsOf n l)[k]?.getD []) c.1 : Int) : Rat) = 0 := e
      rw [e]; grind
  exact s.dd.eq hc hd fun k hk e => (z d hd k hk).mp (h k hk ((z c hc k hk).mpr e))
theorem co_len (b : Bs n l) : (csOf n l).length ≤ 84 := count84 b.n4 (by omega) (Nat.le_refl _) (by have := b.l5; omega) (co_st n l)
/-! ### what the cutting asks for -/
theorem small_of {p : List Int} {n m : Nat} (h : ∀ i ∈ p, i.natAbs < 2 ^ n) (hm : n ≤ m) : Small m p := fun i hi => Nat.lt_of_lt_of_le (h i hi) (Nat.pow_le_pow_right (by decide) hm)
theorem cutOk_of (b : Bs n l) {K : Nat} {cs : List Cn} (hK : n ≤ K) (hl : K < n + l.length) (s : St n (hsOf n l) K cs) : CutOk (cs, (hsOf n l)[K]?.getD [], K) := by
  have := b.n4; have := b.l5
  refine ⟨?_, fun c hc => ⟨small_of (pt_small b hK (by omega) s hc).1 (by decide), ?_, ?_⟩, ?_, fun a ha b' hb h1 h2 => cross_ne (hs_ok n l) hK s ha hb h1 h2⟩
  · have := count84 b.n4 hK (by omega) (by omega) s
    dsimp only; omega
  · rw [s.len c hc]; omega
  · have := s.zl c hc
    omega
  · have hj : K - n < l.length := by omega
    have e := hs_col (n := n) hj
    rw [show n + (K - n) = K by omega] at e
    dsimp only
    rw [e]
    exact small_of (n := 11) (fun i hi => Nat.lt_of_le_of_lt (b.col _ (List.getElem_mem hj) i hi) (by decide)) (by decide)
theorem cutAllOk_of (b : Bs n l) : ∀ (r : List Quote) (K : Nat) (cs : List Cn), n ≤ K → K + r.length ≤ n + l.length → St n (hsOf n l) K cs → (∀ j, (hj : j < r.length) → (hsOf n l)[K + j]?.getD [] = col n r[j]) → CutAllOk n cs K r
  | [], _, _, _, _, _, _ => trivial
  | q :: r, K, cs, hK, hl, s, hc => by
    have h0 := hc 0 (by simp)
    rw [Nat.add_zero] at h0
    rw [List.length_cons] at hl
    have o := cutOk_of b hK (by omega) s
    have s1 := cut_st (hs_ok n l) hK s
    rw [h0] at o s1
    exact ⟨o, cutAllOk_of b r (K + 1) _ (by omega) (by omega) s1 fun j hj => by
      have := hc (j + 1) (by simpa using hj)
      rw [show K + (j + 1) = K + 1 + j by omega] at this
      rw [this]; simp⟩
theorem two_fit {D E M N : Nat} {p q : Rat} (hp : Fit D M p) (hq : Fit E N q) (hD : 0 < D) (hE : 0 < E) (h1 : D * (M + 1) < 2 ^ 4490) (h2 : E * (N + 1) < 2 ^ 4490) : OTwo (p, q) := otwo_of hp hq hD hE h1 h2
theorem rows_ok {a b : List Rat} {D E : Nat} (ha : ∀ q ∈ a, Fit D 1 q) (hb : ∀ q ∈ b, Fit E 1 q) (hD : 0 < D) (hE : 0 < E) (h1 : D < 2 ^ 4000) (h2 : E < 2 ^ 4000) : RowsOk (a, b) := fun p q hm => by
  obtain ⟨m1, m2⟩ := List.of_mem_zip hm
  have e : 2 ^ 4000 * (1 + 1) < 2 ^ 4490 := by decide
  exact otwo_of (ha p m1) (hb q m2) hD hE (Nat.lt_of_le_of_lt (Nat.mul_le_mul_right _ (Nat.le_of_lt h1)) e) (Nat.lt_of_le_of_lt (Nat.mul_le_mul_right _ (Nat.le_of_lt h2)) e)
theorem pts_ok (b : Bs n l) : (∀ p ∈ (csOf n l).map (·.1), p.length ≤ 1000 ∧ 0 < p.sum ∧ p.sum.natAbs < 2 ^ 8000) ∧ ∀ x y, x ∈ ((csOf n l).map (·.1)).map chance → y ∈ ((csOf n l).map (·.1)).map chance → RowsOk (x, y) := by
  have s := co_st n l
  have sum0 : ∀ c, c ∈ csOf n l → 0 < c.1.sum.natAbs ∧ c.1.sum.natAbs < 2 ^ 35 := fun c hc => ⟨by have := pt_sum (by omega) s hc; omega, (pt_small b (by omega) (Nat.le_refl _) s hc).2⟩
  refine ⟨fun p hp => ?_, fun x y hx hy => ?_⟩
  · obtain ⟨c, hc, rfl⟩ := List.mem_map.mp hp
    have := b.n4
    exact ⟨by rw [s.len c hc]; omega, pt_sum (by omega) s hc, Nat.lt_trans (sum0 c hc).2 (Nat.pow_lt_pow_right (by decide) (by decide))⟩
  · rw [List.map_map] at hx hy
    obtain ⟨c, hc, rfl⟩ := List.mem_map.mp hx
    obtain ⟨d, hd, rfl⟩ := List.mem_map.mp hy
    have t : 2 ^ 35 < 2 ^ 4000 := Nat.pow_lt_pow_right (by decide) (by decide)
    exact rows_ok (pt_fit (by omega) s hc) (pt_fit (by omega) s hd) (sum0 c hc).1 (sum0 d hd).1 (Nat.lt_trans (sum0 c hc).2 t) (Nat.lt_trans (sum0 d hd).2 t)
theorem co_ok (b : Bs n l) : CoOk (n, l) := by
  obtain ⟨h1, h2⟩ := pts_ok b
  refine ⟨⟨b.bk, cutAllOk_of b l n _ (Nat.le_refl n) (Nat.le_refl _) (start_st (hs_ok n l)) fun j hj => hs_col hj, ?_⟩, h1, h2⟩
  have := co_len b
  exact Nat.le_trans this (by decide)
end
end Top
end
section
set_option linter.all false
set_option exponentiation.threshold 10000
namespace Top
/-! ### the order of rows -/
theorem lexZ_cons (p q : Rat) (l : List (Rat × Rat)) : lexZ ((p, q) :: l) = if p = q then lexZ l else decide (p < q) := rfl
theorem less_cons (a b : Rat) (x y : List Rat) : lessRow (a :: x) (b :: y) = if a = b then lessRow x y else decide (a < b) := rfl
theorem less_irr : ∀ (a : List Rat), lessRow a a = false
  | [] => rfl
  | p :: a => by rw [less_cons, if_pos rfl]; exact less_irr a
theorem less_tot : ∀ {a b : List Rat}, a.length = b.length → a ≠ b → lessRow a b = true ∨ lessRow b a = true
  | [], [], _, h => absurd rfl h
  | [], q :: b, h, _ => by simp at h
  | p :: a, [], h, _ => by simp at h
  | p :: a, q :: b, h, ne => by
    rw [less_cons, less_cons]
    by_cases e : p = q
    · subst e
      rw [if_pos rfl, if_pos rfl]
      exact less_tot (by simpa using h) fun z => ne (by rw [z])
    · rw [if_neg e, if_neg fun z => e z.symm, decide_eq_true_eq, decide_eq_true_eq]
      by_cases w : p < q
      · exact .inl w
      · right; grind
theorem less_trans : ∀ {a b c : List Rat}, a.length = b.length → b.length = c.length → lessRow a b = true → lessRow b c = true → lessRow a c = true
  | [], b, c, h1, h2, h, _ => by
    cases b with
    | nil => cases h
    | cons => simp at h1
  | p :: a, [], _, h1, _, _, _ => by simp at h1
  | p :: a, q :: b, [], _, h2, _, _ => by simp at h2
  | p :: a, q :: b, r :: c, h1, h2, h3, h4 => by
    rw [less_cons] at h3 h4 ⊢
    by_cases e1 : p = q
    · subst e1
      rw [if_pos rfl] at h3
      by_cases e2 : p = r
      · subst e2
        rw [if_pos rfl] at h4 ⊢
        exact less_trans (by simpa using h1) (by simpa using h2) h3 h4
      · rw [if_neg e2] at h4 ⊢; exact h4
    · rw [if_neg e1, decide_eq_true_eq] at h3
      by_cases e2 : q = r
      · subst e2
        rw [if_neg e1, decide_eq_true_eq]; exact h3
      · rw [if_neg e2, decide_eq_true_eq] at h4
        rw [if_neg (by grind), decide_eq_true_eq]; grind
def insS (r : List Rat) : List (List Rat) → List (List Rat)
  | [] => [r]
  | f :: l => if lessRow f r = true then f :: insS r l else if f = r then f :: l else r :: f :: l
theorem insR_insS (r : List Rat) : ∀ found : List (List Rat), insR found r = insS r found
  | [] => by unfold insR insS ahead; simp
  | f :: l => by
    have ih := insR_insS r l
    unfold insS
    by_cases h : lessRow f r = true
    · rw [if_pos h, ← ih]
      have ea : ahead r (f :: l) = ahead r l + 1 := by unfold ahead; rw [List.takeWhile_cons, if_pos h]; rfl
      unfold insR
      rw [ea]
      by_cases c : ahead r l = l.length ∨ l[ahead r l]? ≠ some r
      · rw [if_pos c, if_pos (c.elim (fun c => .inl (by simp [c])) fun c => .inr (by rw [List.getElem?_cons_succ]; exact c))]
        rfl
      · rw [if_neg c, if_neg fun w => c (w.elim (fun w => .inl (by simpa using w)) fun w => .inr (by rw [List.getElem?_cons_succ] at w; exact w))]
    · rw [if_neg h]
      have ea : ahead r (f :: l) = 0 := by unfold ahead; rw [List.takeWhile_cons, if_neg h]; rfl
      unfold insR
      rw [ea]
      by_cases e : f = r
      · rw [if_pos e, if_neg fun w => w.elim (fun w => by simp at w) fun w => w (by simp [e])]
      · rw [if_neg e, if_pos (.inr (by simp [e]))]; rfl
abbrev Asc (l : List (List Rat)) : Prop := l.Pairwise fun a b => lessRow a b = true
theorem insS_mem {r x : List Rat} : ∀ {l : List (List Rat)}, x ∈ insS r l ↔ x = r ∨ x ∈ l
  | [] => by unfold insS; simp
  | f :: l => by
    unfold insS
    split
    · rw [List.mem_cons, insS_mem, List.mem_cons]
      constructor
      · rintro (h | h | h)
        · exact .inr (.inl h)
        · exact .inl h
        · exact .inr (.inr h)
      · rintro (h | h | h)
        · exact .inr (.inl h)
        · exact .inl h
        · exact .inr (.inr h)
    · split
      · rename_i e
        subst e
        rw [List.mem_cons]
        constructor
        · intro h; exact .inr h
        · rintro (h | h)
          · exact .inl h
          · exact h
      · simp
theorem insS_asc {n : Nat} {r : List Rat} (hr : r.length = n) : ∀ {l : List (List Rat)}, (∀ x ∈ l, x.length = n) → Asc l → Asc (insS r l)
  | [], _, _ => List.pairwise_singleton _ _
  | f :: l, hl, h => by
    unfold insS
    obtain ⟨h1, h2⟩ := List.pairwise_cons.mp h
    have lf := hl f List.mem_cons_self
    have ll : ∀ x ∈ l, x.length = n := fun x hx => hl x (List.mem_cons_of_mem _ hx)
    split
    · rename_i hf
      refine List.pairwise_cons.mpr ⟨fun x hx => ?_, insS_asc hr ll h2⟩
      rcases insS_mem.mp hx with e | e
      · rw [e]; exact hf
      · exact h1 x e
    · rename_i hf
      split
      · exact h
      · rename_i e
        have rf : lessRow r f = true := by
          rcases less_tot (by rw [hr, lf]) (fun z => e z.symm) with w | w
          · exact w
          · exact absurd w hf
        refine List.pairwise_cons.mpr ⟨fun x hx => ?_, h⟩
        rcases List.mem_cons.mp hx with e2 | e2
        · rw [e2]; exact rf
        · exact less_trans (by rw [hr, lf]) (by rw [lf, ll x e2]) rf (h1 x e2)
theorem insS_len {r : List Rat} : ∀ {l : List (List Rat)}, (insS r l).length ≤ l.length + 1
  | [] => by simp [insS]
  | f :: l => by
    have := insS_len (r := r) (l := l)
    unfold insS
    split
    · simp; omega
    · split <;> simp
theorem fold_ins {n : Nat} : ∀ (rows found : List (List Rat)), (∀ x ∈ rows, x.length = n) → (∀ x ∈ found, x.length = n) → Asc found →
    Asc (rows.foldl insR found) ∧ (∀ x, x ∈ rows.foldl insR found ↔ x ∈ found ∨ x ∈ rows) ∧ (rows.foldl insR found).length ≤ found.length + rows.length
  | [], found, _, _, h => ⟨h, fun x => by simp, by simp⟩
  | r :: rows, found, hr, hf, h => by
    rw [List.foldl_cons, insR_insS]
    have lr := hr r List.mem_cons_self
    obtain ⟨h1, h2, h3⟩ := fold_ins rows (insS r found) (fun x hx => hr x (List.mem_cons_of_mem _ hx)) (fun x hx => by
      rcases insS_mem.mp hx with e | e
      · rw [e]; exact lr
      · exact hf x e) (insS_asc lr hf h)
    refine ⟨h1, fun x => ?_, ?_⟩
    · rw [h2, insS_mem, List.mem_cons]
      constructor
      · rintro ((h | h) | h)
        · exact .inr (.inl h)
        · exact .inl h
        · exact .inr (.inr h)
      · rintro (h | h | h)
        · exact .inl (.inr h)
        · exact .inl (.inl h)
        · exact .inr h
    · have := insS_len (r := r) (l := found)
      rw [List.length_cons]; omega
theorem ord_spec {n : Nat} {rows : List (List Rat)} (h : ∀ x ∈ rows, x.length = n) : Asc (ordR rows) ∧ (∀ x, x ∈ ordR rows ↔ x ∈ rows) ∧ (ordR rows).length ≤ rows.length := by
  obtain ⟨h1, h2, h3⟩ := fold_ins (n := n) rows [] h (by simp) List.Pairwise.nil
  exact ⟨h1, fun x => by have := h2 x; simp only [List.not_mem_nil, false_or] at this; exact this, by rw [List.length_nil, Nat.zero_add] at h3; exact h3⟩
theorem asc_ext {n : Nat} : ∀ {a b : List (List Rat)}, (∀ x ∈ a, x.length = n) → (∀ x ∈ b, x.length = n) → Asc a → Asc b → (∀ x, x ∈ a ↔ x ∈ b) → a = b
  | [], [], _, _, _, _, _ => rfl
  | [], y :: b, _, _, _, _, h => by have := (h y).mpr List.mem_cons_self; simp at this
  | x :: a, [], _, _, _, _, h => by have := (h x).mp List.mem_cons_self; simp at this
  | x :: a, y :: b, la, lb, ha, hb, h => by
    obtain ⟨a1, a2⟩ := List.pairwise_cons.mp ha
    obtain ⟨b1, b2⟩ := List.pairwise_cons.mp hb
    have lx := la x List.mem_cons_self
    have ly := lb y List.mem_cons_self
    have e : x = y := by
      rcases List.mem_cons.mp ((h x).mp List.mem_cons_self) with e | e
      · exact e
      · rcases List.mem_cons.mp ((h y).mpr List.mem_cons_self) with e2 | e2
        · exact e2.symm
        · have t := less_trans (by rw [lx, ly]) (by rw [lx, ly]) (a1 y e2) (b1 x e)
          rw [less_irr] at t; cases t
    subst e
    congr 1
    refine asc_ext (n := n) (fun z hz => la z (List.mem_cons_of_mem _ hz)) (fun z hz => lb z (List.mem_cons_of_mem _ hz)) a2 b2 fun z => ?_
    have nx : ∀ (l : List (List Rat)), (∀ w ∈ l, lessRow x w = true) → ∀ z ∈ l, z ≠ x := fun l hl z hz e => by
      subst e; have := hl z hz; rw [less_irr] at this; cases this
    constructor
    · intro hz
      rcases List.mem_cons.mp ((h z).mp (List.mem_cons_of_mem _ hz)) with e | e
      · exact absurd e (nx a a1 z hz)
      · exact e
    · intro hz
      rcases List.mem_cons.mp ((h z).mpr (List.mem_cons_of_mem _ hz)) with e | e
      · exact absurd e (nx b b1 z hz)
      · exact e
theorem asc_nodup {a : List (List Rat)} (h : Asc a) : a.Nodup := List.nodup_iff_pairwise_ne.mpr (h.imp fun {x y} q e => by rw [e, less_irr] at q; cases q)
/-! ### the told corners -/
section
variable {n : Nat} {l : List Quote}
theorem told_spec (n : Nat) (l : List Quote) : Asc (cornersOf (n, l)) ∧ (∀ r, r ∈ cornersOf (n, l) ↔ ∃ c, c ∈ csOf n l ∧ r = chance c.1) ∧ (cornersOf (n, l)).length ≤ (csOf n l).length := by
  have s := co_st n l
  have len : ∀ x ∈ (cornerPts (n, l)).map chance, x.length = n := fun x hx => by
    unfold cornerPts at hx
    rw [List.map_map] at hx
    obtain ⟨c, hc, rfl⟩ := List.mem_map.mp hx
    show (chance c.1).length = n
    rw [chance_len]; exact s.len c hc
  obtain ⟨h1, h2, h3⟩ := ord_spec len
  refine ⟨h1, fun r => ?_, ?_⟩
  · show r ∈ ordR _ ↔ _
    rw [h2]
    unfold cornerPts
    rw [List.map_map, List.mem_map]
    constructor
    · rintro ⟨c, hc, rfl⟩; exact ⟨c, hc, rfl⟩
    · rintro ⟨c, hc, rfl⟩; exact ⟨c, hc, rfl⟩
  · refine Nat.le_trans h3 ?_
    unfold cornerPts
    simp
theorem told_ch {r : List Rat} (h : r ∈ cornersOf (n, l)) : Ch n r := by
  obtain ⟨c, hc, rfl⟩ := ((told_spec n l).2.1 r).mp h
  exact pt_ch (by omega) (co_st n l) hc
theorem told_kp (b : BkOk (n, l)) {r : List Rat} (h : r ∈ cornersOf (n, l)) : Kp l r := by
  obtain ⟨c, hc, rfl⟩ := ((told_spec n l).2.1 r).mp h
  exact co_kp b hc
theorem told_low (b : BkOk (n, l)) {w : List Rat} (hw : Ch n w) (hk : Kp l w) {g : List Int} (hg : g.length = n) : ∃ r, r ∈ cornersOf (n, l) ∧ wor g r ≤ wor g w := by
  obtain ⟨c, hc, h⟩ := co_low b hw hk hg
  exact ⟨_, ((told_spec n l).2.1 _).mpr ⟨c, hc, rfl⟩, h⟩
theorem told_fit (b : Bs n l) {r : List Rat} (h : r ∈ cornersOf (n, l)) : ∃ D : Nat, 0 < D ∧ D < 2 ^ 35 ∧ ∀ q ∈ r, Fit D 1 q := by
  obtain ⟨c, hc, rfl⟩ := ((told_spec n l).2.1 r).mp h
  have s := co_st n l
  have := pt_sum (by omega) s hc
  exact ⟨c.1.sum.natAbs, by omega, (pt_small b (by omega) (Nat.le_refl _) s hc).2, pt_fit (by omega) s hc⟩
/-- told corners part -/
theorem told_eq {a b : List Rat} (ha : a ∈ cornersOf (n, l)) (hb : b ∈ cornersOf (n, l)) (h : ∀ k, k < n + l.length → lv n ((hsOf n l)[k]?.getD []) a = 0 → lv n ((hsOf n l)[k]?.getD []) b = 0) : a = b := by
  obtain ⟨c, hc, rfl⟩ := ((told_spec n l).2.1 a).mp ha
  obtain ⟨d, hd, rfl⟩ := ((told_spec n l).2.1 b).mp hb
  rw [co_eq hc hd h]
/-! ### one bottom for all -/
def prodN : List Nat → Nat
  | [] => 1
  | a :: l => a * prodN l
theorem prodN_dvd : ∀ {l : List Nat} {a : Nat}, a ∈ l → a ∣ prodN l
  | b :: l, a, h => by
    rcases List.mem_cons.mp h with e | e
    · subst e; exact ⟨prodN l, rfl⟩
    · exact Nat.dvd_trans (prodN_dvd e) ⟨b, Nat.mul_comm _ _⟩
theorem prodN_pos : ∀ {l : List Nat}, (∀ a ∈ l, 0 < a) → 0 < prodN l
  | [], _ => by decide
  | b :: l, h => Nat.mul_pos (h b List.mem_cons_self) (prodN_pos fun a ha => h a (List.mem_cons_of_mem _ ha))
theorem prodN_le : ∀ {l : List Nat} {B : Nat}, (∀ a ∈ l, a ≤ B) → prodN l ≤ B ^ l.length
  | [], _, _ => by simp [prodN]
  | b :: l, B, h => by
    have h1 := prodN_le (l := l) fun a ha => h a (List.mem_cons_of_mem _ ha)
    have h0 := h b List.mem_cons_self
    rw [List.length_cons, Nat.pow_succ, Nat.mul_comm (B ^ _)]
    exact Nat.mul_le_mul h0 h1
theorem told_fits (b : Bs n l) : ∃ L : Nat, 0 < L ∧ L < 2 ^ 2960 ∧ ∀ r ∈ cornersOf (n, l), ∀ q ∈ r, Fit L 1 q := by
  have s := co_st n l
  have sp : ∀ c, c ∈ csOf n l → 0 < c.1.sum.natAbs ∧ c.1.sum.natAbs < 2 ^ 35 := fun c hc => ⟨by have := pt_sum (by omega) s hc; omega, (pt_small b (by omega) (Nat.le_refl _) s hc).2⟩
  refine ⟨prodN ((csOf n l).map fun c => c.1.sum.natAbs), prodN_pos fun a ha => ?_, ?_, fun r hr q hq => ?_⟩
  · obtain ⟨c, hc, rfl⟩ := List.mem_map.mp ha; exact (sp c hc).1
  · have := prodN_le (l := (csOf n l).map fun c => c.1.sum.natAbs) (B := 2 ^ 35) fun a ha => by
      obtain ⟨c, hc, rfl⟩ := List.mem_map.mp ha; exact Nat.le_of_lt (sp c hc).2
    rw [List.length_map] at this
    refine Nat.lt_of_le_of_lt this (Nat.lt_of_le_of_lt (Nat.pow_le_pow_right (by decide) (co_len b)) ?_)
    rw [← Nat.pow_mul]
    exact Nat.pow_lt_pow_right (by decide) (by decide)
  · obtain ⟨c, hc, rfl⟩ := ((told_spec n l).2.1 r).mp hr
    exact (pt_fit (by omega) s hc q hq).dvd (prodN_dvd (List.mem_map.mpr ⟨c, hc, rfl⟩))
end
end Top
end
section
set_option linter.all false
set_option exponentiation.threshold 10000
namespace Top
/-! ### sums over rows -/
theorem sumQ_from (t : Rat) : ∀ l : List Rat, sumQ t l = t + sumQ 0 l := fun l => by
  rw [sumQ_sQ, sumQ_sQ]; grind
theorem sumQ_cons (a : Rat) (l : List Rat) : sumQ 0 (a :: l) = a + sumQ 0 l := by
  show sumQ (0 + a) l = _
  rw [sumQ_from]; grind
def gsum (rs : List (List Rat)) (F : List Rat → Rat) : Rat := sumQ 0 (rs.map F)
theorem gsum_cons (r : List Rat) (rs : List (List Rat)) (F : List Rat → Rat) : gsum (r :: rs) F = F r + gsum rs F := by
  unfold gsum; rw [List.map_cons, sumQ_cons]
theorem gsum_sQ (n : Nat) (a : Nat → Rat) : ∀ rs : List (List Rat), gsum rs (fun r => sQ n fun i => a i * cf r i) = sQ n fun i => a i * gsum rs fun r => cf r i
  | [] => by
    show (0 : Rat) = _
    rw [sQ_zero]; intro i _; show a i * (0 : Rat) = 0; grind
  | r :: rs => by
    rw [gsum_cons, gsum_sQ n a rs]
    have := sQ_lin n 1 1 (fun i => a i * cf r i) (fun i => a i * gsum rs fun r => cf r i)
    rw [Rat.one_mul, Rat.one_mul] at this
    rw [← this]
    exact sQ_congr fun i _ => by rw [gsum_cons]; grind
theorem gsum_nonneg {F : List Rat → Rat} : ∀ {rs : List (List Rat)}, (∀ r ∈ rs, 0 ≤ F r) → 0 ≤ gsum rs F ∧ (gsum rs F = 0 → ∀ r ∈ rs, F r = 0)
  | [], _ => ⟨Rat.le_refl, fun _ r hr => by simp at hr⟩
  | r :: rs, h => by
    obtain ⟨h1, h2⟩ := gsum_nonneg (rs := rs) fun x hx => h x (List.mem_cons_of_mem _ hx)
    have h0 := h r List.mem_cons_self
    rw [gsum_cons]
    refine ⟨by grind, fun e x hx => ?_⟩
    rcases List.mem_cons.mp hx with q | q
    · subst q; grind
    · exact h2 (by grind) x q
theorem gsum_const (c : Rat) : ∀ rs : List (List Rat), gsum rs (fun _ => c) = (rs.length : Nat) * c
  | [] => by show (0 : Rat) = ((0 : Nat) : Rat) * c; show (0 : Rat) = 0 * c; grind
  | r :: rs => by rw [gsum_cons, gsum_const c rs, List.length_cons, natQ_add]; show _ = (_ + 1) * c; grind
theorem gsum_sub (F G : List Rat → Rat) : ∀ rs : List (List Rat), gsum rs (fun r => F r - G r) = gsum rs F - gsum rs G
  | [] => by show (0 : Rat) = 0 - 0; grind
  | r :: rs => by rw [gsum_cons, gsum_cons, gsum_cons, gsum_sub F G rs]; grind
/-! ### the mean -/
section
variable {n : Nat} {rs : List (List Rat)}
theorem mean_len : (meanOf n rs).length = n := by unfold meanOf; simp
theorem mean_cf {p : Nat} (hp : p < n) : cf (meanOf n rs) p = ((rs.length : Nat) : Rat)⁻¹ * gsum rs fun r => cf r p := by
  unfold meanOf cf
  rw [List.getElem?_map, List.getElem?_range' (by simpa using hp)]
  show sumQ 0 (colQ rs (0 + 1 * p)) / _ = _
  rw [Nat.zero_add, Nat.one_mul, Rat.div_def, Rat.mul_comm]; rfl
theorem lenQ_pos (h : rs ≠ []) : (0 : Rat) < ((rs.length : Nat) : Rat) := by
  have : 0 < rs.length := List.length_pos_iff.mpr h
  exact Rat.intCast_pos.mpr (show (0 : Int) < (rs.length : Int) by omega)
/-- a sum of places at the mean -/
theorem mean_fun (h : rs ≠ []) (a : Nat → Rat) : ((rs.length : Nat) : Rat) * sQ n (fun i => a i * cf (meanOf n rs) i) = gsum rs fun r => sQ n fun i => a i * cf r i := by
  have lp := lenQ_pos h
  have li : ((rs.length : Nat) : Rat)⁻¹ * ((rs.length : Nat) : Rat) = 1 := Rat.inv_mul_cancel _ (by grind)
  rw [gsum_sQ, ← sQ_mul]
  refine sQ_congr fun i hi => ?_
  rw [mean_cf hi]
  generalize (gsum rs fun r => cf r i) = x
  grind
theorem mean_ch (h : rs ≠ []) (hr : ∀ r ∈ rs, Ch n r) : Ch n (meanOf n rs) := by
  have lp := lenQ_pos h
  have li := Rat.inv_pos.mpr lp
  refine ⟨mean_len, fun q hq => ?_, ?_⟩
  · obtain ⟨k, hk, rfl⟩ := List.mem_iff_getElem.mp hq
    have hk' : k < n := by rw [mean_len] at hk; exact hk
    have := mean_cf (n := n) (rs := rs) hk'
    unfold cf at this
    rw [List.getElem?_eq_getElem hk] at this
    have this : (meanOf n rs)[k] = _ := this
    rw [this]
    exact Rat.mul_nonneg (Rat.le_of_lt li) (gsum_nonneg fun r hrm => (hr r hrm).cf hk').1
  · rw [sum_sQ mean_len]
    have e := mean_fun (n := n) h fun _ => 1
    have e1 : sQ n (fun i => 1 * cf (meanOf n rs) i) = sQ n (cf (meanOf n rs)) := sQ_congr fun i _ => by grind
    have e2 : gsum rs (fun r => sQ n fun i => 1 * cf r i) = gsum rs fun _ => 1 := by
      unfold gsum
      congr 1
      refine List.map_congr_left fun r hrm => ?_
      rw [sQ_congr (g := cf r) fun i _ => by grind]
      exact (hr r hrm).sum
    rw [e1, e2, gsum_const] at e
    have : ((rs.length : Nat) : Rat) * (sQ n (cf (meanOf n rs)) - 1) = 0 := by grind
    rcases Rat.mul_eq_zero.mp this with w | w
    · grind
    · grind
theorem mean_lv (h : rs ≠ []) (c : List Int) : ((rs.length : Nat) : Rat) * lv n c (meanOf n rs) = gsum rs fun r => lv n c r := mean_fun h _
theorem mean_between (h : rs ≠ []) (hr : ∀ r ∈ rs, r.length = n) {g : List Int} (hg : g.length = n) {m M : Rat} (h1 : ∀ r ∈ rs, m ≤ wor g r) (h2 : ∀ r ∈ rs, wor g r ≤ M) : m ≤ wor g (meanOf n rs) ∧ wor g (meanOf n rs) ≤ M := by
  have lp := lenQ_pos h
  have e := mean_lv (n := n) h g
  rw [← wor_lv hg mean_len] at e
  have e2 : gsum rs (fun r => lv n g r) = gsum rs fun r => wor g r := by
    unfold gsum
    congr 1
    exact List.map_congr_left fun r hrm => (wor_lv hg (hr r hrm)).symm
  rw [e2] at e
  have a := (gsum_nonneg (F := fun r => wor g r - m) fun r hrm => by have := h1 r hrm; grind).1
  have b := (gsum_nonneg (F := fun r => M - wor g r) fun r hrm => by have := h2 r hrm; grind).1
  rw [gsum_sub, gsum_const] at a b
  constructor
  · refine Rat.not_lt.mp fun z => ?_
    have := Rat.mul_pos lp (show 0 < m - wor g (meanOf n rs) by grind)
    grind
  · refine Rat.not_lt.mp fun z => ?_
    have := Rat.mul_pos lp (show 0 < wor g (meanOf n rs) - M by grind)
    grind
end
section
variable {n : Nat} {l : List Quote}
theorem told_mean_kp (b : BkOk (n, l)) (h : cornersOf (n, l) ≠ []) : Kp l (meanOf n (cornersOf (n, l))) := by
  have mc := mean_ch h fun r hr => told_ch hr
  refine kp_of b mc fun k hk => ?_
  have e := mean_lv (n := n) h ((hsOf n l)[k]?.getD [])
  have p := (gsum_nonneg (rs := cornersOf (n, l)) (F := fun r => lv n ((hsOf n l)[k]?.getD []) r) fun r hr => lv_pos b (told_ch hr) (told_kp b hr) hk).1
  have lp := lenQ_pos h
  refine Rat.not_lt.mp fun z => ?_
  have := Rat.mul_pos lp (show 0 < - lv n ((hsOf n l)[k]?.getD []) (meanOf n (cornersOf (n, l))) by grind)
  grind
/-- the mean is a corner only if there is one alone -/
theorem told_mean (b : BkOk (n, l)) (h : cornersOf (n, l) ≠ []) : decide (meanOf n (cornersOf (n, l)) ∈ cornersOf (n, l)) = decide ((cornersOf (n, l)).length = 1) := by
  rw [decide_eq_decide]
  constructor
  · intro hm
    have all : ∀ r ∈ cornersOf (n, l), meanOf n (cornersOf (n, l)) = r := fun r hr => told_eq hm hr fun k hk z => by
      have e := mean_lv (n := n) h ((hsOf n l)[k]?.getD [])
      rw [z, Rat.mul_zero] at e
      exact (gsum_nonneg (rs := cornersOf (n, l)) (F := fun r => lv n ((hsOf n l)[k]?.getD []) r) fun r hr => lv_pos b (told_ch hr) (told_kp b hr) hk).2 e.symm r hr
    have nd := asc_nodup (told_spec n l).1
    revert h nd all
    generalize meanOf n (cornersOf (n, l)) = m
    generalize cornersOf (n, l) = t
    intro h all nd
    match t, h, all, nd with
    | [x], _, _, _ => rfl
    | x :: y :: t, _, all, nd =>
      have e1 := all x (by simp)
      have e2 := all y (by simp)
      rw [List.nodup_cons] at nd
      exact absurd (by rw [← e1, e2]; exact List.mem_cons_self) nd.1
  · intro h1
    have : ∀ r, r ∈ cornersOf (n, l) → meanOf n (cornersOf (n, l)) = r := fun r hr => by
      have rl := (told_ch hr).len
      have e : cornersOf (n, l) = [r] := by
        match hc : cornersOf (n, l), h1 with
        | [x], _ => rw [hc, List.mem_singleton] at hr; rw [hr]
      rw [e]
      refine List.ext_getElem (by rw [mean_len, rl]) fun k hk hk2 => ?_
      have := mean_cf (n := n) (rs := [r]) (p := k) (by omega)
      unfold cf at this
      rw [List.getElem?_eq_getElem hk] at this
      have this : (meanOf n [r])[k] = _ := this
      rw [this, gsum_cons]
      rw [List.getElem?_eq_getElem hk2]
      show ((1 : Nat) : Rat)⁻¹ * (r[k] + 0) = r[k]
      have : ((1 : Nat) : Rat)⁻¹ = 1 := by
        show (1 : Rat)⁻¹ = 1
        grind
      rw [this]; grind
    obtain ⟨r, hr⟩ := List.exists_mem_of_ne_nil _ h
    rw [this r hr]; exact hr
/-- what can be reckoned with the mean -/
theorem mean_fit (b : Bs n l) (h : cornersOf (n, l) ≠ []) : (∃ E : Nat, 0 < E ∧ E < 2 ^ 2970 ∧ ∀ q ∈ meanOf n (cornersOf (n, l)), Fit E 1 q) ∧ (cornersOf (n, l)).length ≤ 84 ∧
    ∀ p, p < n → AddOk 0 (colQ (cornersOf (n, l)) p) ∧ OTwo (sumQ 0 (colQ (cornersOf (n, l)) p), (((cornersOf (n, l)).length : Nat) : Rat)) := by
  obtain ⟨L, L0, L1, fits⟩ := told_fits b
  have N84 : (cornersOf (n, l)).length ≤ 84 := Nat.le_trans (told_spec n l).2.2 (co_len b)
  have N0 : 0 < (cornersOf (n, l)).length := List.length_pos_iff.mpr h
  have mc := mean_ch h fun r hr => told_ch hr
  have cfit : ∀ p, ∀ q ∈ colQ (cornersOf (n, l)) p, Fit L 1 q := fun p q hq => by
    obtain ⟨r, hr, rfl⟩ := List.mem_map.mp hq
    by_cases z : p < r.length
    · rw [List.getElem?_eq_getElem z]; exact fits r hr _ (List.getElem_mem z)
    · rw [List.getElem?_eq_none (by omega)]; exact (fit_zero L0).more (by decide)
  have clen : ∀ p, (colQ (cornersOf (n, l)) p).length = (cornersOf (n, l)).length := fun p => by unfold colQ; rw [List.length_map]
  have big : 2 ^ 2960 * 200 < 2 ^ 4490 := by
    have : 2 ^ 2960 * 200 < 2 ^ 2960 * 2 ^ 8 := Nat.mul_lt_mul_of_pos_left (by decide) (Nat.two_pow_pos _)
    rw [← Nat.pow_add] at this
    exact Nat.lt_of_lt_of_le this (Nat.pow_le_pow_right (by decide) (by decide))
  have bL : ∀ {k : Nat}, k ≤ 200 → L * k < 2 ^ 4490 := fun {k} hk => Nat.lt_of_le_of_lt (Nat.mul_le_mul (Nat.le_of_lt L1) hk) big
  have sfit : ∀ p, Fit L (cornersOf (n, l)).length (sumQ 0 (colQ (cornersOf (n, l)) p)) := fun p => by
    have := sumQ_fit (l := colQ (cornersOf (n, l)) p) (N := 1) (fit_zero L0) (cfit p)
    rw [clen, Nat.zero_add, Nat.mul_one] at this
    exact this
  refine ⟨⟨L * (cornersOf (n, l)).length, Nat.mul_pos L0 N0, ?_, fun q hq => ?_⟩, N84, fun p hp => ⟨?_, ?_⟩⟩
  · have : L * (cornersOf (n, l)).length < 2 ^ 2960 * 2 ^ 7 := Nat.mul_lt_mul_of_lt_of_le L1 (Nat.le_trans N84 (by decide)) (by decide)
    rw [← Nat.pow_add] at this
    exact Nat.lt_of_lt_of_le this (Nat.pow_le_pow_right (by decide) (by decide))
  · have q0 := mc.pos q hq
    have q1 := mc.le1 hq
    obtain ⟨k, hk, rfl⟩ := List.mem_iff_getElem.mp hq
    have hk' : k < n := by rw [mean_len] at hk; exact hk
    have e := mean_cf (n := n) (rs := cornersOf (n, l)) hk'
    unfold cf at e
    rw [List.getElem?_eq_getElem hk] at e
    have e : (meanOf n (cornersOf (n, l)))[k] = (((cornersOf (n, l)).length : Nat) : Rat)⁻¹ * sumQ 0 (colQ (cornersOf (n, l)) k) := e
    refine ⟨?_, ?_, q1⟩
    · obtain ⟨z, hz⟩ := (sfit k).top
      refine ⟨z, ?_⟩
      rw [e, natQ_mul, ← hz]
      have lp := lenQ_pos h
      have li : (((cornersOf (n, l)).length : Nat) : Rat)⁻¹ * (((cornersOf (n, l)).length : Nat) : Rat) = 1 := Rat.inv_mul_cancel _ (by grind)
      generalize (((cornersOf (n, l)).length : Nat) : Rat) = N at *
      generalize sumQ 0 (colQ (cornersOf (n, l)) k) = S at *
      grind
    · have : (-((1 : Nat) : Rat)) = -1 := rfl
      grind
  · refine addOk_of (M := 0) (N := 1) L0 (fit_zero L0) (cfit p) (bL ?_)
    rw [clen]; omega
  · refine otwo_of (sfit p) (fit_int (D := 1) (g := ((cornersOf (n, l)).length : Int)) (N := 84) (by decide) (by simpa using N84)) L0 (by decide) (bL (by omega)) ?_
    exact Nat.lt_of_le_of_lt (show 1 * (84 + 1) ≤ 2 ^ 7 by decide) (Nat.pow_lt_pow_right (by decide) (by decide))
end
end Top
end
section
set_option linter.all false
set_option exponentiation.threshold 10000
namespace Top
theorem cutAll_app (n : Nat) (f : Quote) : ∀ (l : List Quote) (cs : List Cn) (k : Nat), cutAll n cs k (l ++ [f]) = cutBy (cutAll n cs k l) (col n f) (k + l.length)
  | [], cs, k => rfl
  | q :: l, cs, k => by
    show cutAll n (cutBy cs (col n q) k) (k + 1) (l ++ [f]) = cutBy (cutAll n (cutBy cs (col n q) k) (k + 1) l) _ _
    rw [cutAll_app n f l, List.length_cons, show k + 1 + l.length = k + (l.length + 1) by omega]
theorem cutAllOk_app {n : Nat} {f : Quote} : ∀ {l : List Quote} {cs : List Cn} {k : Nat}, CutAllOk n cs k l → CutOk (cutAll n cs k l, col n f, k + l.length) → CutAllOk n cs k (l ++ [f])
  | [], cs, k, _, h => ⟨h, trivial⟩
  | q :: l, cs, k, h1, h => ⟨h1.1, cutAllOk_app h1.2 (by rw [show k + 1 + l.length = k + (l.length + 1) by omega]; exact h)⟩
/-- a bound that no corner is above: the corners that lie on it are left -/
theorem cut_none {cs : List Cn} {g : List Int} {k : Nat} (h : ∀ c ∈ cs, levelOf g c.1 ≤ 0) : (cutBy cs g k).map (·.1) = (cs.filter fun c => decide (levelOf g c.1 = 0)).map (·.1) := by
  have e1 : (enumL (cs.map fun c => levelOf g c.1)).flatMap (fun p => (enumL (cs.map fun c => levelOf g c.1)).flatMap fun q => crossCut cs k p q) = [] := by
    rw [List.flatMap_eq_nil_iff]
    intro p hp
    rw [List.flatMap_eq_nil_iff]
    intro q hq
    obtain ⟨hl, e⟩ := mem_lev.mp hp
    have := h _ (List.getElem_mem hl)
    unfold crossCut
    exact if_neg fun z => by have := z.1; omega
  unfold cutBy
  rw [e1, List.append_nil]
  clear e1
  induction cs with
  | nil => rfl
  | cons c cs ih =>
    have h0 := h c List.mem_cons_self
    rw [List.flatMap_cons, List.map_append, ih fun d hd => h d (List.mem_cons_of_mem _ hd)]
    unfold keepCut
    by_cases e : levelOf g c.1 = 0
    · rw [if_pos (by omega), if_pos e, List.filter_cons_of_pos (by simpa using e)]; rfl
    · rw [if_neg (by omega), List.filter_cons_of_neg (by simpa using e)]; rfl
theorem wor_neg {n : Nat} {g : List Int} {w : List Rat} (hg : g.length = n) (hw : w.length = n) : wor (neg g) w = - wor g w := by
  rw [wor_sQ (n := n) (by unfold neg; rw [List.length_map, hg]) hw, wor_sQ hg hw]
  have := sQ_mul n (-1) fun i => ((gf g i : Int) : Rat) * cf w i
  have e : sQ n (fun i => ((gf (neg g) i : Int) : Rat) * cf w i) = sQ n fun i => -1 * (((gf g i : Int) : Rat) * cf w i) := sQ_congr fun i hi => by
    have : gf (neg g) i = - gf g i := by
      unfold gf neg
      rw [List.getElem?_map, List.getElem?_eq_getElem (by omega)]; rfl
    rw [this, Rat.intCast_neg]; grind
  rw [e, this]; grind
section
variable {n : Nat} {l : List Quote} {g : List Int} {low : Rat}
theorem face_book (b : Bs n l) (hg : g.length = n) (g5 : ∀ i ∈ g, i.natAbs ≤ 5) (hd : low.den ≤ 1000) (hn : low.num.natAbs ≤ 100000) : BkOk (n, l ++ [(neg g, -low)]) := by
  obtain ⟨h1, h2, h3⟩ := b.bk
  refine ⟨h1, ?_, fun q hq => ?_⟩
  · have := b.l5; dsimp only; rw [List.length_append]; simp; omega
  · rcases List.mem_append.mp hq with hq | hq
    · exact h3 q hq
    · rw [List.mem_singleton] at hq
      subst hq
      refine ⟨⟨by unfold neg; rw [List.length_map]; exact hg, fun i hi => ?_⟩, ?_⟩
      · obtain ⟨j, hj, rfl⟩ := List.mem_map.mp hi
        have := g5 j hj; omega
      · simp only [PriceOk, fits, Bool.and_eq_true, decide_eq_true_eq, Rat.neg_num, Rat.neg_den]
        omega
/-- where the face's bound stands at a corner -/
theorem face_level (hg : g.length = n) {c : Cn} (hc : c ∈ csOf n l) (hl : low ≤ wor g (chance c.1)) : levelOf (col n (neg g, -low)) c.1 ≤ 0 ∧ (levelOf (col n (neg g, -low)) c.1 = 0 ↔ wor g (chance c.1) = low) := by
  have s := co_st n l
  have ch := pt_ch (by omega) s hc
  have hs := pt_sum (by omega) s hc
  have sq : (0 : Rat) < (c.1.sum : Rat) := Rat.intCast_pos.mpr hs
  have e1 := lv_chance (n := n) (h := col n (neg g, -low)) (col_len n _) (s.len c hc) hs
  have ng : (neg g).length = n := by unfold neg; rw [List.length_map]; exact hg
  rw [lv_col (q := (neg g, -low)) ng ch] at e1
  dsimp only at e1
  rw [wor_neg hg ch.len] at e1
  have dp : (0 : Rat) < (((-low).den : Nat) : Rat) := Rat.intCast_pos.mpr (show (0 : Int) < ((-low).den : Int) by have := (-low).den_nz; omega)
  have e2 : ((levelOf (col n (neg g, -low)) c.1 : Int) : Rat) = (c.1.sum : Rat) * ((((-low).den : Nat) : Rat) * (low - wor g (chance c.1))) := by
    have i : (c.1.sum : Rat)⁻¹ * (c.1.sum : Rat) = 1 := Rat.inv_mul_cancel _ (by grind)
    have : (c.1.sum : Rat) * ((c.1.sum : Rat)⁻¹ * ((levelOf (col n (neg g, -low)) c.1 : Int) : Rat)) = ((levelOf (col n (neg g, -low)) c.1 : Int) : Rat) := by
      rw [← Rat.mul_assoc, Rat.mul_comm (c.1.sum : Rat), i, Rat.one_mul]
    rw [← this, ← e1]
    grind
  have pp := Rat.mul_pos sq dp
  constructor
  · have a := Rat.mul_nonneg (Rat.le_of_lt pp) (show 0 ≤ wor g (chance c.1) - low by grind)
    have : ((levelOf (col n (neg g, -low)) c.1 : Int) : Rat) ≤ ((0 : Int) : Rat) := by
      rw [e2]; show _ ≤ (0 : Rat); grind
    exact Rat.intCast_le_intCast.mp this
  · constructor
    · intro z
      rw [z] at e2
      have e2 : (0 : Rat) = (c.1.sum : Rat) * ((((-low).den : Nat) : Rat) * (low - wor g (chance c.1))) := e2
      have : (c.1.sum : Rat) * (((-low).den : Nat) : Rat) * (low - wor g (chance c.1)) = 0 := by grind
      rcases Rat.mul_eq_zero.mp this with w | w
      · grind
      · grind
    · intro z
      rw [z] at e2
      have : ((levelOf (col n (neg g, -low)) c.1 : Int) : Rat) = 0 := by rw [e2]; grind
      exact Rat.intCast_eq_zero_iff.mp this
theorem face_pts (hg : g.length = n) (hl : ∀ r ∈ cornersOf (n, l), low ≤ wor g r) : cornerPts (n, l ++ [(neg g, -low)]) = ((csOf n l).filter fun c => decide (levelOf (col n (neg g, -low)) c.1 = 0)).map (·.1) := by
  show (cutAll n (startCs n) n (l ++ [(neg g, -low)])).map (·.1) = _
  rw [cutAll_app]
  exact cut_none fun c hc => (face_level hg hc (hl _ (((told_spec n l).2.1 _).mpr ⟨c, hc, rfl⟩))).1
/-- THE FACE: just the corners with the least worth -/
theorem face_corners (hg : g.length = n) (hl : ∀ r ∈ cornersOf (n, l), low ≤ wor g r) : cornersOf (n, l ++ [(neg g, -low)]) = (cornersOf (n, l)).filter fun r => decide (wor g r = low) := by
  have s := co_st n l
  have e : cornersOf (n, l ++ [(neg g, -low)]) = ordR (((csOf n l).filter fun c => decide (levelOf (col n (neg g, -low)) c.1 = 0)).map fun c => chance c.1) := by
    unfold cornersOf
    rw [face_pts hg hl, List.map_map]; rfl
  rw [e]
  have len : ∀ x ∈ ((csOf n l).filter fun c => decide (levelOf (col n (neg g, -low)) c.1 = 0)).map (fun c => chance c.1), x.length = n := fun x hx => by
    obtain ⟨c, hc, rfl⟩ := List.mem_map.mp hx
    rw [chance_len]; exact s.len c (List.mem_filter.mp hc).1
  obtain ⟨h1, h2, h3⟩ := ord_spec len
  obtain ⟨t1, t2, t3⟩ := told_spec n l
  refine asc_ext (n := n) (fun x hx => len x ((h2 x).mp hx)) (fun x hx => (told_ch (List.mem_filter.mp hx).1).len) h1 (t1.filter _) fun x => ?_
  rw [h2, List.mem_map, List.mem_filter, t2, decide_eq_true_eq]
  constructor
  · rintro ⟨c, hc, rfl⟩
    obtain ⟨hc, z⟩ := List.mem_filter.mp hc
    rw [decide_eq_true_eq] at z
    exact ⟨⟨c, hc, rfl⟩, (face_level hg hc (hl _ ((t2 _).mpr ⟨c, hc, rfl⟩))).2.mp z⟩
  · rintro ⟨⟨c, hc, rfl⟩, z⟩
    refine ⟨c, List.mem_filter.mpr ⟨hc, ?_⟩, rfl⟩
    rw [decide_eq_true_eq]
    exact (face_level hg hc (hl _ ((t2 _).mpr ⟨c, hc, rfl⟩))).2.mpr z
theorem face_co (b : Bs n l) (hg : g.length = n) (g5 : ∀ i ∈ g, i.natAbs ≤ 5) (hd : low.den ≤ 1000) (hn : low.num.natAbs ≤ 100000) (hl : ∀ r ∈ cornersOf (n, l), low ≤ wor g r) : CoOk (n, l ++ [(neg g, -low)]) := by
  obtain ⟨⟨c1, c2, c3⟩, c4, c5⟩ := co_ok b
  have s := co_st n l
  have sub : ∀ p ∈ cornerPts (n, l ++ [(neg g, -low)]), p ∈ cornerPts (n, l) := fun p hp => by
    rw [face_pts hg hl] at hp
    obtain ⟨c, hc, rfl⟩ := List.mem_map.mp hp
    exact List.mem_map_of_mem (List.mem_filter.mp hc).1
  refine ⟨⟨face_book b hg g5 hd hn, cutAllOk_app c2 ⟨?_, fun c hc => ⟨small_of (pt_small b (by omega) (Nat.le_refl _) s hc).1 (by decide), ?_, ?_⟩, ?_, fun x hx y hy h1 h2 => ?_⟩, ?_⟩, fun p hp => c4 p (sub p hp), fun x y hx hy => ?_⟩
  · have := co_len b
    show (csOf n l).length ≤ 900
    omega
  · rw [s.len c hc]; have := b.n4; omega
  · have := s.zl c hc
    have := b.n4; have := b.l5
    omega
  · refine small_of (n := 17) (fun i hi => ?_) (by decide)
    obtain ⟨k, hk, rfl⟩ := List.mem_map.mp hi
    have a : (gf (neg g) k).natAbs ≤ 5 := gf_abs (fun i hi => by
      obtain ⟨j, hj, rfl⟩ := List.mem_map.mp hi
      have := g5 j hj; omega) k
    have c : (gf (neg g) k * ((-low).den : Nat)).natAbs ≤ 5 * 1000 := by rw [Int.natAbs_mul]; exact Nat.mul_le_mul a (by simpa using hd)
    show (gf (neg g) k * ((-low).den : Nat) - (-low).num).natAbs < 2 ^ 17
    rw [Rat.neg_num]
    omega
  · have := (face_level hg hx (hl _ (((told_spec n l).2.1 _).mpr ⟨x, hx, rfl⟩))).1
    dsimp only at h1
    omega
  · have e : (cutAll n (startCs n) n (l ++ [(neg g, -low)])).length = (cornerPts (n, l ++ [(neg g, -low)])).length := by unfold cornerPts; rw [List.length_map]
    dsimp only
    rw [e, face_pts hg hl, List.length_map]
    have := co_len b
    have := List.length_filter_le (fun c : Cn => decide (levelOf (col n (neg g, -low)) c.1 = 0)) (csOf n l)
    omega
  · obtain ⟨p, hp, rfl⟩ := List.mem_map.mp hx
    obtain ⟨q, hq, rfl⟩ := List.mem_map.mp hy
    exact c5 _ _ (List.mem_map_of_mem (sub p hp)) (List.mem_map_of_mem (sub q hq))
theorem face_kp (hg : g.length = n) {r : List Rat} (hr : Ch n r) (hk : Kp l r) (h : wor g r = low) : Kp (l ++ [(neg g, -low)]) r := fun q hq => by
  rcases List.mem_append.mp hq with hq | hq
  · exact hk q hq
  · rw [List.mem_singleton] at hq
    subst hq
    show -low ≤ wor (neg g) r
    rw [wor_neg hg hr.len, h]
    exact Rat.le_refl
theorem sound_of (b : BkOk (n, l)) {r : List Rat} (hr : Ch n r) (hk : Kp l r) : Sound (n, l) := by
  have z : PayOk n (zeros (n, l)) := ⟨by simp [zeros], fun i hi => by rw [List.eq_of_mem_replicate hi]; omega⟩
  obtain ⟨e, t⟩ := lp_book b z hr hk
  exact ⟨e, b, z.1, t.sol⟩
end
end Top
end
section
set_option linter.all false
set_option exponentiation.threshold 10000
namespace Top
theorem wor_range {n : Nat} {g : List Int} {w : List Rat} (hg : g.length = n) (hw : Ch n w) {A : Int} (h : ∀ i ∈ g, -A ≤ i ∧ i ≤ A) : -(A : Rat) ≤ wor g w ∧ wor g w ≤ (A : Rat) := by
  have gi : ∀ i, i < n → -A ≤ gf g i ∧ gf g i ≤ A := fun i hi => by
    unfold gf
    rw [List.getElem?_eq_getElem (by omega)]
    exact h _ (List.getElem_mem _)
  have W := hw.sum
  rw [wor_sQ hg hw.len]
  constructor
  · have := sQ_le (n := n) (f := fun i => -(A : Rat) * cf w i) (g := fun i => ((gf g i : Int) : Rat) * cf w i) fun i hi => by
      have a := hw.cf hi
      have b : (((-A : Int)) : Rat) ≤ ((gf g i : Int) : Rat) := Rat.intCast_le_intCast.mpr (gi i hi).1
      rw [Rat.intCast_neg] at b
      exact Rat.mul_le_mul_of_nonneg_right b a
    rw [sQ_mul, W] at this
    grind
  · have := sQ_le (n := n) (f := fun i => ((gf g i : Int) : Rat) * cf w i) (g := fun i => (A : Rat) * cf w i) fun i hi => by
      have a := hw.cf hi
      exact Rat.mul_le_mul_of_nonneg_right (Rat.intCast_le_intCast.mpr (gi i hi).2) a
    rw [sQ_mul, W] at this
    grind
/-- a drawn chance -/
structure Mid (n : Nat) (c : List Rat) : Prop where
  ch : Ch n c
  fit : ∃ W : Nat, 0 < W ∧ W ≤ 23 ∧ ∀ q ∈ c, Fit W 1 q
theorem mid_of {n : Nat} {p : List Int} (hn : p.length = n) (h0 : ∀ i ∈ p, 0 ≤ i) (h1 : 0 < p.sum) (h2 : p.sum ≤ 23) : Mid n (p.map fun i => Rat.divInt i p.sum) := by
  have sq : (0 : Rat) < (p.sum : Rat) := Rat.intCast_pos.mpr h1
  have si := Rat.inv_pos.mpr sq
  have ch : Ch n (chance p) := by
    refine ⟨by rw [chance_len, hn], fun q hq => ?_, ?_⟩
    · obtain ⟨i, hi, rfl⟩ := List.mem_map.mp hq
      rw [divInt_div, Rat.div_def, Rat.mul_comm]
      exact Rat.mul_nonneg (Rat.le_of_lt si) (Rat.intCast_nonneg.mpr (h0 i hi))
    · rw [sum_sQ (n := n) (by rw [chance_len, hn]), sQ_congr fun k _ => chance_cf p h1 k, sQ_mul]
      have := sum_sm p
      rw [hn] at this
      unfold coords
      rw [← this]
      exact Rat.inv_mul_cancel _ (by grind)
  refine ⟨ch, p.sum.natAbs, by omega, by omega, fun q hq => ?_⟩
  have p0 := ch.pos q hq
  have p1 := ch.le1 hq
  obtain ⟨i, hi, rfl⟩ := List.mem_map.mp hq
  refine ⟨⟨i, ?_⟩, ?_, p1⟩
  · have e : ((p.sum.natAbs : Nat) : Rat) = (p.sum : Rat) := by
      have : (p.sum.natAbs : Int) = p.sum := by omega
      rw [← this]; rfl
    rw [e, divInt_div]
    exact Rat.div_mul_cancel (by grind)
  · have : (-((1 : Nat) : Rat)) = -1 := rfl
    grind
/-- a drawn quote that the chance c keeps -/
def QDr (n : Nat) (c : List Rat) (q : Quote) : Prop := (q.1.length = n ∧ (∀ i ∈ q.1, i.natAbs ≤ 5) ∧ q.2.den ≤ 92 ∧ q.2.num.natAbs ≤ 650) ∧ q.2 ≤ wor q.1 c
theorem big_ok {k : Nat} (h : k < 2 ^ 4000) : k < 2 ^ 4490 := Nat.lt_trans h (Nat.pow_lt_pow_right (by decide) (by decide))
theorem mid_worth {n : Nat} {c : List Rat} (m : Mid n c) (hn : n ≤ 4) {g : List Int} (hg : g.length = n) (h5 : ∀ i ∈ g, -5 ≤ i ∧ i ≤ 5) : WorthOk (g, c) := by
  obtain ⟨W, W0, W1, f⟩ := m.fit
  refine (worthOk_of (G := 5) (M := 1) W0 (by rw [hg, m.ch.len]) (by rw [m.ch.len]; omega) (fun i hi => by have := h5 i hi; omega) f (big_ok ?_)).1
  exact Nat.lt_of_le_of_lt (Nat.mul_le_mul_right _ W1) (by decide)
theorem mid_bd {n : Nat} {c : List Rat} (m : Mid n c) (hn : n ≤ 4) {g : List Int} (hg : g.length = n) (h5 : ∀ i ∈ g, -5 ≤ i ∧ i ≤ 5) : Bd 20 (wor g c) := by
  obtain ⟨W, W0, W1, f⟩ := m.fit
  have fw := (worthOk_of (G := 5) (M := 1) W0 (by rw [hg, m.ch.len]) (by rw [m.ch.len]; omega) (fun i hi => by have := h5 i hi; omega) f (big_ok (Nat.lt_of_le_of_lt (Nat.mul_le_mul_right _ W1) (by decide)))).2
  exact fw.bd W0 (Nat.lt_of_le_of_lt (Nat.mul_le_mul_right _ W1) (by decide))
theorem quote_dr {n : Nat} {c : List Rat} (m : Mid n c) (hn : n ≤ 4) {g : List Int} (hg : g.length = n) (h5 : ∀ i ∈ g, -5 ≤ i ∧ i ≤ 5) {less : Int} (l0 : 0 ≤ less) (l5 : less ≤ 5) :
    QDr n c (g, Rat.divInt ((wor g c).num * 4 - less * ((wor g c).den : Nat)) (((wor g c).den : Nat) * 4)) := by
  obtain ⟨W, W0, W1, f⟩ := m.fit
  obtain ⟨w1, w2⟩ := wor_range hg m.ch h5
  have fw : Fit W 30 (wor g c) := (worthOk_of (G := 5) (M := 1) W0 (by rw [hg, m.ch.len]) (by rw [m.ch.len]; omega) (fun i hi => by have := h5 i hi; omega) f (big_ok (Nat.lt_of_le_of_lt (Nat.mul_le_mul_right _ W1) (by decide)))).2
  have dn := fw.den
  have dp := (wor g c).den_pos
  generalize hx : wor g c = x at *
  -- the price is x - less / 4
  have e : Rat.divInt (x.num * 4 - less * (x.den : Nat)) ((x.den : Nat) * 4) = x - (less : Rat) * (4 : Rat)⁻¹ := by
    have dq : (0 : Rat) < (((x.den : Nat) : Int) : Rat) := Rat.intCast_pos.mpr (show (0 : Int) < (x.den : Int) by omega)
    have h4 : (4 : Rat)⁻¹ * 4 = 1 := by decide +kernel
    rw [divInt_div, Rat.div_def, Rat.intCast_sub, Rat.intCast_mul, Rat.intCast_mul, Rat.intCast_mul, num_den]
    have e4 : (((4 : Int)) : Rat) = 4 := rfl
    have ed : (((x.den : Nat) : Int) : Rat) = ((x.den : Nat) : Rat) := rfl
    rw [e4, ed]
    rw [ed] at dq
    generalize ((x.den : Nat) : Rat) = d at *
    have hd : (d * 4)⁻¹ = d⁻¹ * (4 : Rat)⁻¹ := by
      have i1 : d⁻¹ * d = 1 := Rat.inv_mul_cancel _ (by grind)
      have i2 : (d * 4)⁻¹ * (d * 4) = 1 := Rat.inv_mul_cancel _ (by grind)
      have : (d * 4)⁻¹ = (d * 4)⁻¹ * ((d⁻¹ * d) * ((4 : Rat)⁻¹ * 4)) := by rw [i1, h4]; grind
      rw [this]
      calc (d * 4)⁻¹ * ((d⁻¹ * d) * ((4 : Rat)⁻¹ * 4)) = ((d * 4)⁻¹ * (d * 4)) * (d⁻¹ * (4 : Rat)⁻¹) := by grind
        _ = d⁻¹ * (4 : Rat)⁻¹ := by rw [i2]; grind
    rw [hd]
    have i1 : d⁻¹ * d = 1 := Rat.inv_mul_cancel _ (by grind)
    calc (x * d * 4 - (less : Rat) * d) * (d⁻¹ * (4 : Rat)⁻¹) = x * (d⁻¹ * d) * ((4 : Rat)⁻¹ * 4) - (less : Rat) * (d⁻¹ * d) * (4 : Rat)⁻¹ := by grind
      _ = x - (less : Rat) * (4 : Rat)⁻¹ := by rw [i1, h4]; grind
  have lq0 : (0 : Rat) ≤ (less : Rat) := Rat.intCast_nonneg.mpr l0
  have lq5 : (less : Rat) ≤ 5 := Rat.intCast_le_intCast.mpr l5
  have q4 : (0 : Rat) < (4 : Rat)⁻¹ := by decide +kernel
  have a1 := Rat.mul_nonneg lq0 (Rat.le_of_lt q4)
  have a2 : (less : Rat) * (4 : Rat)⁻¹ ≤ 2 := by
    have h := Rat.mul_le_mul_of_nonneg_right lq5 (Rat.le_of_lt q4)
    have : (5 : Rat) * (4 : Rat)⁻¹ ≤ 2 := by decide +kernel
    grind
  have e5 : (((5 : Int)) : Rat) = 5 := rfl
  rw [e5] at w1 w2
  have fp : Fit (W * 4) 7 (x - (less : Rat) * (4 : Rat)⁻¹) := by
    obtain ⟨z, hz⟩ := fw.top
    refine ⟨⟨z * 4 - less * W, ?_⟩, ?_, ?_⟩
    · rw [natQ_mul, Rat.intCast_sub, Rat.intCast_mul, Rat.intCast_mul, ← hz]
      have e4 : (((4 : Int)) : Rat) = 4 := rfl
      have e4' : ((4 : Nat) : Rat) = 4 := rfl
      have eW : (((W : Nat) : Int) : Rat) = (W : Rat) := rfl
      rw [e4, e4', eW]
      have h4 : (4 : Rat)⁻¹ * 4 = 1 := by decide +kernel
      grind
    · have : (-((7 : Nat) : Rat)) = -7 := rfl
      grind
    · have : (((7 : Nat) : Rat)) = 7 := rfl
      grind
  refine ⟨⟨hg, fun i hi => by have := h5 i hi; dsimp only at *; omega, ?_, ?_⟩, ?_⟩
  · show (Rat.divInt _ _).den ≤ 92
    rw [e]
    have := Nat.le_of_dvd (by omega) fp.den
    omega
  · show (Rat.divInt _ _).num.natAbs ≤ 650
    rw [e]
    have hd := Nat.le_of_dvd (by omega) fp.den
    generalize x - (less : Rat) * (4 : Rat)⁻¹ = y at *
    have e1 := num_den y
    have d0 := natQ_nonneg y.den
    have h2 : y.num ≤ ((7 * y.den : Nat) : Int) := by
      have := Rat.mul_le_mul_of_nonneg_right fp.hi d0
      rw [← e1, ← natQ_mul] at this
      exact Rat.intCast_le_intCast.mp this
    have h3 : -((7 * y.den : Nat) : Int) ≤ y.num := by
      have := Rat.mul_le_mul_of_nonneg_right fp.lo d0
      rw [← e1, Rat.neg_mul, ← natQ_mul] at this
      have a : -((7 * y.den : Nat) : Rat) = ((-((7 * y.den : Nat) : Int) : Int) : Rat) := by rw [Rat.intCast_neg]; rfl
      rw [a] at this
      exact Rat.intCast_le_intCast.mp this
    omega
  · show Rat.divInt _ _ ≤ wor g c
    rw [hx, e]; grind
/-- a drawn book -/
structure Drawn (n : Nat) (l : List Quote) : Prop where
  bs : Bs n l
  mid : ∃ c, Ch n c ∧ Kp l c
theorem drawn_of {n : Nat} {l : List Quote} {c : List Rat} (n2 : 2 ≤ n) (n4 : n ≤ 4) (l5 : l.length ≤ 5) (m : Mid n c) (h : ∀ q ∈ l, QDr n c q) : Drawn n l :=
  ⟨⟨n2, n4, l5, fun q hq => (h q hq).1⟩, c, m.ch, fun q hq => (h q hq).2⟩
end Top
end
section
set_option linter.all false
set_option exponentiation.threshold 10000
namespace Top
theorem minQ_spec : ∀ (l : List Rat) (m : Rat), (minQ m l = m ∨ minQ m l ∈ l) ∧ minQ m l ≤ m ∧ ∀ q ∈ l, minQ m l ≤ q
  | [], m => ⟨.inl rfl, Rat.le_refl, by simp⟩
  | a :: l, m => by
    obtain ⟨h1, h2, h3⟩ := minQ_spec l (if a < m then a else m)
    have e : minQ m (a :: l) = minQ (if a < m then a else m) l := rfl
    rw [e]
    by_cases q : a < m
    · rw [if_pos q] at h1 h2 h3 ⊢
      refine ⟨?_, by grind, fun x hx => ?_⟩
      · rcases h1 with h | h
        · rw [h]; exact .inr List.mem_cons_self
        · exact .inr (List.mem_cons_of_mem _ h)
      · rcases List.mem_cons.mp hx with z | z
        · rw [z]; exact h2
        · exact h3 x z
    · rw [if_neg q] at h1 h2 h3 ⊢
      refine ⟨?_, h2, fun x hx => ?_⟩
      · rcases h1 with h | h
        · exact .inl h
        · exact .inr (List.mem_cons_of_mem _ h)
      · rcases List.mem_cons.mp hx with z | z
        · rw [z]; grind
        · exact h3 x z
theorem minQ_cons (a : Rat) (l : List Rat) : minQ a (a :: l) ∈ a :: l ∧ ∀ q ∈ a :: l, minQ a (a :: l) ≤ q := by
  obtain ⟨h1, h2, h3⟩ := minQ_spec (a :: l) a
  refine ⟨?_, h3⟩
  rcases h1 with h | h
  · rw [h]; exact List.mem_cons_self
  · exact h
theorem fit_self (q : Rat) : Fit q.den q.num.natAbs q := by
  have e := num_den q
  have d1 : (1 : Rat) ≤ ((q.den : Nat) : Rat) := natQ_le (show 1 ≤ q.den from q.den_pos)
  have f := fit_int (D := 1) (g := q.num) (N := q.num.natAbs) (by decide) (Nat.le_refl _)
  have lo := f.lo
  have hi := f.hi
  have n0 := natQ_nonneg q.num.natAbs
  refine ⟨⟨q.num, e.symm⟩, ?_, ?_⟩
  · refine Rat.not_lt.mp fun z => ?_
    have a := Rat.mul_le_mul_of_nonneg_left d1 (show 0 ≤ -(q + (q.num.natAbs : Nat)) by grind)
    have b := Rat.mul_le_mul_of_nonneg_left d1 n0
    grind
  · refine Rat.not_lt.mp fun z => ?_
    have a := Rat.mul_le_mul_of_nonneg_left d1 (show 0 ≤ q - (q.num.natAbs : Nat) by grind)
    have b := Rat.mul_le_mul_of_nonneg_left d1 n0
    grind
theorem pow_big {a k b : Nat} (h : a < 2 ^ k) {m : Nat} (hm : m < 2 ^ b) (hb : k + b ≤ 4490) : a * m < 2 ^ 4490 := by
  have := Nat.mul_lt_mul'' h hm
  rw [← Nat.pow_add] at this
  exact Nat.lt_of_lt_of_le this (Nat.pow_le_pow_right (by decide) hb)
/-- a chance whose bottoms are small can be passed -/
theorem chOk_of {E : Nat} (hE : 0 < E) (hE2 : E < 2 ^ 2970) : ∀ {l : List Rat} {t : Rat}, 0 ≤ t → (∃ z : Int, t * (E : Nat) = z) → (∀ q ∈ l, (0 ≤ q ∧ q.den ≤ 10 ^ 6) ∧ Fit E 1 q) → t + sumQ 0 l = 1 → ChOk t l
  | [], t, _, _, _, h => by
    have h : t + 0 = 1 := h
    show t = 1
    grind
  | q :: l, t, t0, ht, hl, h => by
    obtain ⟨⟨q0, qd⟩, qf⟩ := hl q List.mem_cons_self
    have rest : 0 ≤ sumQ 0 l := by
      rw [sumQ_sQ]
      have := sQ_nonneg (n := l.length) (f := cf l) fun i hi => by
        unfold cf
        rw [List.getElem?_eq_getElem hi]
        exact (hl _ (List.mem_cons_of_mem _ (List.getElem_mem hi))).1.1
      grind
    rw [sumQ_cons] at h
    have t1 : t ≤ 1 := by grind
    have tq1 : t + q ≤ 1 := by grind
    have q1 : q ≤ 1 := by grind
    have m1 : (-((1 : Nat) : Rat)) = -1 := rfl
    have p1 : (((1 : Nat) : Rat)) = 1 := rfl
    have ft : Fit E 1 t := ⟨ht, by grind, by grind⟩
    have ftq : Fit E 1 (t + q) := ⟨(ft.add qf).top, by grind, by grind⟩
    have bE : E * (1 + 1) < 2 ^ 4490 := pow_big hE2 (b := 2) (by decide) (by decide)
    have f1 : Fit E 1 1 := by
      have := fit_int (D := E) (g := 1) (N := 1) hE (by decide)
      exact this
    refine ⟨⟨⟨?_, ?_, qd⟩, otwo_of ft qf hE hE bE bE, otwo_of f1 ftq hE hE bE bE, tq1⟩, chOk_of hE hE2 (by grind) ftq.top (fun r hr => hl r (List.mem_cons_of_mem _ hr)) (by grind)⟩
    · exact Rat.num_nonneg.mpr q0
    · have := num_den q
      have d0 := natQ_nonneg q.den
      have h2 := Rat.mul_le_mul_of_nonneg_right q1 d0
      rw [← this, Rat.one_mul] at h2
      exact Rat.intCast_le_intCast.mp h2
section
variable {n : Nat} {l : List Quote}
theorem ch_pass {c : List Rat} (hc : Ch n c) {E : Nat} (hE : 0 < E) (hE2 : E < 2 ^ 2970) (hf : ∀ q ∈ c, Fit E 1 q) (hp : mayPass c = true) : ChOk 0 c := by
  refine chOk_of hE hE2 Rat.le_refl ⟨0, by rw [Rat.zero_mul]; rfl⟩ (fun q hq => ⟨⟨hc.pos q hq, ?_⟩, hf q hq⟩) (by rw [hc.one]; grind)
  have := List.all_eq_true.mp hp q hq
  exact of_decide_eq_true this
theorem worth_e {g : List Int} {c : List Rat} {E : Nat} (hg : g.length = n) (hn : n ≤ 6) (h6 : ∀ i ∈ g, i.natAbs ≤ 6) (hc : c.length = n) (hE : 0 < E) (hE2 : E < 2 ^ 2970) (hf : ∀ q ∈ c, Fit E 1 q) : WorthOk (g, c) ∧ Fit E 36 (wor g c) :=
  worthOk_of (G := 6) (M := 1) hE (by rw [hg, hc]) (by omega) h6 hf (pow_big hE2 (b := 10) (by decide) (by decide))
theorem keep_ok (b : Bs n l) {c : List Rat} (hc : Ch n c) {E : Nat} (hE : 0 < E) (hE2 : E < 2 ^ 2970) (hf : ∀ q ∈ c, Fit E 1 q) : KeepOk (l, c) := by
  have := b.l5; have := b.n4
  refine ⟨by dsimp only; omega, fun q hq => ?_⟩
  obtain ⟨h1, h2, h3, h4⟩ := b.q q hq
  obtain ⟨w1, w2⟩ := worth_e h1 (by omega) (fun i hi => by have := h2 i hi; omega) hc.len hE hE2 hf
  refine ⟨w1, otwo_of w2 ((fit_self q.2).more h4) hE q.2.den_pos (pow_big hE2 (b := 10) (by decide) (by decide)) (pow_big (k := 7) (b := 10) (by omega) (by decide) (by decide))⟩
theorem keepB_of {c : List Rat} (h : Kp l c) : keepB l c = true := by
  unfold keepB
  rw [Bool.not_eq_true', List.any_eq_false]
  intro q hq z
  have := h q hq
  have z := of_decide_eq_true z
  grind
theorem told_ne (d : Drawn n l) : cornersOf (n, l) ≠ [] := by
  obtain ⟨c, hc, hk⟩ := d.mid
  obtain ⟨r, hr, _⟩ := told_low d.bs.bk hc hk (g := List.replicate n 0) (by simp)
  exact List.ne_nil_of_mem hr
theorem drawn_sound (d : Drawn n l) : Sound (n, l) := by
  obtain ⟨c, hc, hk⟩ := d.mid
  exact sound_of d.bs.bk hc hk
theorem mean_ok (d : Drawn n l) : MeanOk (n, l) := by
  have b := d.bs
  have ne := told_ne d
  obtain ⟨_, h84, h⟩ := mean_fit b ne
  have := b.n4
  exact ⟨⟨⟨drawn_sound d, by dsimp only; omega⟩, co_ok b⟩, ne, by omega, fun c hc => (told_ch hc).len, h⟩
/-- a told corner that may be passed -/
theorem row_ok (d : Drawn n l) {r : List Rat} (hr : r ∈ cornersOf (n, l)) (hp : mayPass r = true) : ChOk 0 r ∧ KeepOk (l, r) ∧ keepB l r = true ∧ r.length = n ∧ ∀ g : List Int, g.length = n → (∀ i ∈ g, -6 ≤ i ∧ i ≤ 6) → WorthOk (g, r) := by
  have b := d.bs
  obtain ⟨D, D0, D1, f⟩ := told_fit b hr
  have hc := told_ch hr
  have D2 : D < 2 ^ 2970 := Nat.lt_trans D1 (Nat.pow_lt_pow_right (by decide) (by decide))
  have := b.n4
  exact ⟨ch_pass hc D0 D2 f hp, keep_ok b hc D0 D2 f, keepB_of (told_kp b.bk hr), hc.len, fun g hg h6 => (worth_e hg (by omega) (fun i hi => by have := h6 i hi; omega) hc.len D0 D2 f).1⟩
theorem mean_row (d : Drawn n l) (hp : mayPass (meanOf n (cornersOf (n, l))) = true) : ChOk 0 (meanOf n (cornersOf (n, l))) ∧ KeepOk (l, meanOf n (cornersOf (n, l))) ∧ keepB l (meanOf n (cornersOf (n, l))) = true := by
  have b := d.bs
  have ne := told_ne d
  obtain ⟨⟨E, E0, E1, f⟩, _⟩ := mean_fit b ne
  have hc := mean_ch ne fun r hr => told_ch hr
  exact ⟨ch_pass hc E0 E1 f hp, keep_ok b hc E0 E1 f, keepB_of (told_mean_kp b.bk ne)⟩
theorem told_pos_len (d : Drawn n l) {r : List Rat} (hr : r ∈ cornersOf (n, l)) : r ≠ [] ∧ r.length ≤ 1000 := by
  have h := (told_ch hr).len
  have := d.bs.n2; have := d.bs.n4
  refine ⟨fun z => ?_, by omega⟩
  rw [z] at h; simp at h; omega
theorem mean_pos_len (d : Drawn n l) : meanOf n (cornersOf (n, l)) ≠ [] ∧ (meanOf n (cornersOf (n, l))).length ≤ 1000 := by
  have h := mean_len (n := n) (rs := cornersOf (n, l))
  have := d.bs.n2; have := d.bs.n4
  refine ⟨fun z => ?_, by omega⟩
  rw [z] at h; simp at h; omega
/-- the ends of a payoff -/
theorem pr_ok (d : Drawn n l) {g : List Int} (hg : g.length = n) (h5 : ∀ i ∈ g, -5 ≤ i ∧ i ≤ 5) : ∃ r0 rs e e', cornersOf (n, l) = r0 :: rs ∧ PrOk ⟨(n, l), r0, rs, meanOf n (cornersOf (n, l)), g, e, e'⟩ := by
  have b := d.bs
  have bk := b.bk
  have ne := told_ne d
  have n4 := b.n4
  have n2 := b.n2
  obtain ⟨c, hc, hk⟩ := d.mid
  have ng : (neg g).length = n := by unfold neg; rw [List.length_map]; exact hg
  have pay : PayOk n g := ⟨hg, fun i hi => by have := h5 i hi; omega⟩
  have payN : PayOk n (neg g) := ⟨ng, fun i hi => by
    obtain ⟨j, hj, rfl⟩ := List.mem_map.mp hi
    have := h5 j hj; omega⟩
  obtain ⟨e, te⟩ := lp_book bk pay hc hk
  obtain ⟨e', te'⟩ := lp_book bk payN hc hk
  obtain ⟨⟨E, E0, E1, fm⟩, h84, _⟩ := mean_fit b ne
  have mc := mean_ch ne fun r hr => told_ch hr
  have g6 : ∀ i ∈ g, i.natAbs ≤ 6 := fun i hi => by have := h5 i hi; omega
  obtain ⟨L, L0, L1', fits⟩ := told_fits b
  have L1 : L < 2 ^ 2970 := Nat.lt_trans L1' (Nat.pow_lt_pow_right (by decide) (by decide))
  have wr : ∀ r ∈ cornersOf (n, l), WorthOk (g, r) ∧ Fit L 36 (wor g r) := fun r hr => worth_e hg (by omega) g6 (told_ch hr).len L0 L1 (fits r hr)
  have wm := worth_e hg (by omega) g6 mc.len E0 E1 fm
  have sound := drawn_sound d
  have bL : L * (36 + 1) < 2 ^ 4490 := pow_big L1 (b := 6) (by decide) (by decide)
  have bE : E * (36 + 1) < 2 ^ 4490 := pow_big E1 (b := 6) (by decide) (by decide)
  -- the least worth by the corners
  have least : ∀ {g : List Int} {e : Tab}, g.length = n → Told n l g e → ∀ r0 rs, cornersOf (n, l) = r0 :: rs → leastOf ⟨(n, l), g, e⟩ = lowQ g r0 rs := fun {g e} hg t r0 rs hr => by
    obtain ⟨m1, m2⟩ := minQ_cons (wor g r0) (rs.map (wor g))
    rw [← List.map_cons (f := wor g)] at m1 m2
    have lowE : lowQ g r0 rs = minQ (wor g r0) ((r0 :: rs).map (wor g)) := rfl
    rw [← lowE] at m1 m2
    obtain ⟨r, hrm, er⟩ := List.mem_map.mp m1
    have a := t.low r (told_ch (by rw [hr]; exact hrm)) (told_kp bk (by rw [hr]; exact hrm))
    obtain ⟨r', hr', hle⟩ := told_low bk t.ch t.kp hg
    rw [t.at_] at hle
    have c := m2 (wor g r') (List.mem_map_of_mem (by rw [← hr]; exact hr'))
    grind
  match hr : cornersOf (n, l), ne with
  | r0 :: rs, _ =>
    refine ⟨r0, rs, e, e', rfl, ?_⟩
    rw [hr] at wm
    have lowE := least hg te r0 rs hr
    have lowN := least ng te' r0 rs hr
    obtain ⟨m1, m2⟩ := minQ_cons (wor g r0) (rs.map (wor g))
    rw [← List.map_cons (f := wor g)] at m1 m2
    have lowD : lowQ g r0 rs = minQ (wor g r0) ((r0 :: rs).map (wor g)) := rfl
    rw [← lowD] at m1 m2
    obtain ⟨rl, hrl, erl⟩ := List.mem_map.mp m1
    have rlt : rl ∈ cornersOf (n, l) := by rw [hr]; exact hrl
    have hlen : ∀ r ∈ r0 :: rs, r.length = n := fun r h => (told_ch (by rw [hr]; exact h)).len
    have negE : ∀ r ∈ r0 :: rs, wor (neg g) r = - wor g r := fun r h => wor_neg hg (hlen r h)
    have highE : lowQ (neg g) r0 rs = - highQ g r0 rs := by
      unfold lowQ highQ
      rw [negE r0 List.mem_cons_self, List.map_congr_left fun r h => negE r (List.mem_cons_of_mem _ h)]
      grind
    have lfit : Fit L 36 (lowQ g r0 rs) := by rw [← erl]; exact (wr rl rlt).2
    have allw : ∀ p ∈ wor g r0 :: rs.map (wor g), Fit L 36 p := fun p hp => by
      rw [← List.map_cons (f := wor g)] at hp
      obtain ⟨r, h, rfl⟩ := List.mem_map.mp hp
      exact (wr r (by rw [hr]; exact h)).2
    have allN : ∀ p ∈ -(wor g r0) :: rs.map (fun r => -(wor g r)), Fit L 36 p := fun p hp => by
      rw [← List.map_cons (f := fun r => -(wor g r))] at hp
      obtain ⟨r, h, rfl⟩ := List.mem_map.mp hp
      exact (wr r (by rw [hr]; exact h)).2.neg
    obtain ⟨k1, k2⟩ := minQ_cons (-(wor g r0)) (rs.map fun r => -(wor g r))
    have hfit : Fit L 36 (highQ g r0 rs) := (allN _ k1).neg
    have hb : ∀ r ∈ r0 :: rs, wor g r ≤ highQ g r0 rs := fun r h => by
      have := k2 (-(wor g r)) (by
        rw [← List.map_cons (f := fun r => -(wor g r))]
        exact List.mem_map_of_mem h)
      unfold highQ
      grind
    have lb : ∀ r ∈ r0 :: rs, lowQ g r0 rs ≤ wor g r := fun r h => m2 _ (List.mem_map_of_mem h)
    obtain ⟨w1, w2⟩ := mean_between (n := n) (rs := r0 :: rs) (by simp) hlen hg lb hb
    obtain ⟨D, D0, D1, fv, fq, ml, sp, E2, E20, E21, fch⟩ := te.bits
    obtain ⟨D', D0', D1', fv', _⟩ := te'.bits
    have pw : 2 ^ 300 + 1 < 2 ^ 302 := by
      have h1 : (2 : Nat) ^ 302 = 2 ^ 300 * 4 := by rw [show (302 : Nat) = 300 + 2 from rfl, Nat.pow_add]
      have h2 : 0 < (2 : Nat) ^ 300 := Nat.two_pow_pos _
      omega
    have askO : ∀ {g : List Int} {e : Tab}, PayOk n g → Told n l g e → AskOk ⟨(n, l), g, e⟩ := fun {g e} hp t => by
      obtain ⟨D, D0, D1, fv, _⟩ := t.bits
      have gn : g ≠ [] := fun z => by have := hp.1; rw [z] at this; simp at this; omega
      refine ⟨⟨bk, hp.1, t.sol⟩, hp, sound, otwo_of (fit_int (D := 1) (N := 1000) (by decide) (pay_abs hp _ (minI_mem gn))) fv (by decide) D0 (pow_big (k := 1) (b := 10) (by decide) (by decide) (by decide)) (pow_big D1 (b := 302) pw (by decide))⟩
    have sfit : Fit D (6 * 2 ^ 300) (sumQ 0 e.mults) := by
      have := sumQ_fit (l := e.mults) (N := 2 ^ 300) (fit_zero D0) fq
      rw [Nat.zero_add] at this
      exact this.more (Nat.mul_le_mul_right _ ml)
    have p8 : (2 : Nat) ^ 308 = 2 ^ 300 * 256 := by rw [show (308 : Nat) = 300 + 8 from rfl, Nat.pow_add]
    have p0 : 0 < (2 : Nat) ^ 300 := Nat.two_pow_pos _
    refine ⟨?_, hr, by dsimp only; omega, fun r h => (wr r (by rw [hr]; exact h)).1, fun p q hp hq => otwo_of (allw p hp) (allw q hq) L0 L0 bL bL, fun p q hp hq => otwo_of (allN p hp) (allN q hq) L0 L0 bL bL,
      askO pay te, ⟨pay, askO payN te'⟩, lowE, ?_, ?_, ?_, ?_, wm.1, otwo_of wm.2 lfit E0 L0 bE bL, ?_, otwo_of hfit wm.2 L0 E0 bL bE, ?_, fun hd => ?_⟩
    · have : (cornersOf (n, l)).length = (r0 :: rs).length := by rw [hr]
      dsimp only
      omega
    · rw [lowN, highE]; grind
    · refine ⟨te.ok, addOk_of (M := 0) (N := 2 ^ 300) D0 (fit_zero D0) fq (pow_big D1 (b := 308) ?_ (by decide)), sp, 700, sfit.bd D0 ?_, by decide⟩
      · have : e.mults.length * 2 ^ 300 ≤ 6 * 2 ^ 300 := Nat.mul_le_mul_right _ ml
        rw [p8]
        revert this p0
        generalize (2 : Nat) ^ 300 = x
        intro p0 this
        generalize e.mults.length * x = y at *
        omega
      · have h := Nat.mul_lt_mul'' D1 (show 6 * 2 ^ 300 + 1 < 2 ^ 308 by omega)
        rw [← Nat.pow_add] at h
        exact Nat.lt_trans h (Nat.pow_lt_pow_right (by decide) (by decide))
    · exact (worth_e hg (by omega) g6 te.ch.len E20 (Nat.lt_trans E21 (Nat.pow_lt_pow_right (by decide) (by decide))) fch).1
    · rw [te.at_, lowE]
    · dsimp only; rw [← hr] at w1 ⊢; grind
    · dsimp only; rw [← hr] at w2 ⊢; grind
    · dsimp only at hd ⊢
      have hd' : (lowQ g r0 rs).den ≤ 1000 := hd
      have g5' : ∀ i ∈ g, i.natAbs ≤ 5 := fun i hi => by have := h5 i hi; omega
      have hn : (lowQ g r0 rs).num.natAbs ≤ 100000 := by
        have e1 := num_den (lowQ g r0 rs)
        have d0 := natQ_nonneg (lowQ g r0 rs).den
        have h2 : (lowQ g r0 rs).num ≤ ((36 * (lowQ g r0 rs).den : Nat) : Int) := by
          have := Rat.mul_le_mul_of_nonneg_right lfit.hi d0
          rw [← e1, ← natQ_mul] at this
          exact Rat.intCast_le_intCast.mp this
        have h3 : -((36 * (lowQ g r0 rs).den : Nat) : Int) ≤ (lowQ g r0 rs).num := by
          have := Rat.mul_le_mul_of_nonneg_right lfit.lo d0
          rw [← e1, Rat.neg_mul, ← natQ_mul] at this
          have a : -((36 * (lowQ g r0 rs).den : Nat) : Rat) = ((-((36 * (lowQ g r0 rs).den : Nat) : Int) : Int) : Rat) := by rw [Rat.intCast_neg]; rfl
          rw [a] at this
          exact Rat.intCast_le_intCast.mp this
        omega
      have lbt : ∀ r ∈ cornersOf (n, l), lowQ g r0 rs ≤ wor g r := fun r h => lb r (by rw [← hr]; exact h)
      refine ⟨face_book b hg g5' hd' hn, ⟨⟨sound_of (face_book b hg g5' hd' hn) (told_ch rlt) (face_kp hg (told_ch rlt) (told_kp bk rlt) erl), by omega⟩, face_co b hg g5' hd' hn lbt⟩, ?_⟩
      rw [face_corners hg lbt, hr]
end
end Top
end
section
set_option Elab.async false
set_option linter.all false
set_option maxRecDepth 100000
set_option maxHeartbeats 4000000
/-! Values by data: what never changes stands in a part G of the heap H; a def's promise is a relation of data. -/
namespace Pu
open PySem PySem.Spec PyProof.Rows L2 StX RZ
inductive D where
  | non | any | bl (b : Bool) | int (i : Int) | txt (n : Nat) | adr (a : Addr) | sql (ns : List Int)
  | tup (l : List D) | lst (l : List D) | obj (C : Addr) (ns : List Str) (l : List D)
mutual
def Is (K : PySem.W.Frag) (G : Hp) : D → V → Prop
  | .non, v => v = .non
  | .any, _ => True
  | .bl b, v => v = .bl b
  | .int i, v => v = .int i
  | .txt n, v => ∃ z : Str, v = .str z ∧ z.length ≤ n
  | .adr a, v => v = .ref a
  | .sql ns, v => ∃ a, v = .ref a ∧ SqL K G a (ns.map V.int)
  | .tup l, v => ∃ a xs, v = .ref a ∧ G a = some (.tup xs) ∧ IsL K G l xs
  | .lst l, v => ∃ a xs, v = .ref a ∧ G a = some (.lst xs) ∧ IsL K G l xs
  | .obj C ns l, v => ∃ a dx fs xs, v = .ref a ∧ G a = some (.ins C dx fs) ∧ fs = ns.zip xs ∧ xs.length = ns.length ∧ IsL K G l xs
def IsL (K : PySem.W.Frag) (G : Hp) : List D → List V → Prop
  | [], xs => xs = []
  | d :: l, xs => ∃ x r, xs = x :: r ∧ Is K G d x ∧ IsL K G l r
end
section
variable {K : PySem.W.Frag} {G G' : Hp}
mutual
theorem Is.mono (e : Same G G') : ∀ (d : D) (v : V), Is K G d v → Is K G' d v
  | .non, _, h => by simpa only [Is] using h
  | .any, _, h => by simpa only [Is] using h
  | .bl _, _, h => by simpa only [Is] using h
  | .int _, _, h => by simpa only [Is] using h
  | .txt _, _, h => by simpa only [Is] using h
  | .adr _, _, h => by simpa only [Is] using h
  | .sql _, _, h => by
    simp only [Is] at h ⊢
    obtain ⟨a, h1, h2⟩ := h
    exact ⟨a, h1, e.seq h2⟩
  | .tup l, _, h => by
    simp only [Is] at h ⊢
    obtain ⟨a, xs, h1, h2, h3⟩ := h
    exact ⟨a, xs, h1, e _ _ h2, IsL.mono e l xs h3⟩
  | .lst l, _, h => by
    simp only [Is] at h ⊢
    obtain ⟨a, xs, h1, h2, h3⟩ := h
    exact ⟨a, xs, h1, e _ _ h2, IsL.mono e l xs h3⟩
  | .obj C ns l, _, h => by
    simp only [Is] at h ⊢
    obtain ⟨a, dx, fs, xs, h1, h2, h3, h4, h5⟩ := h
    exact ⟨a, dx, fs, xs, h1, e _ _ h2, h3, h4, IsL.mono e l xs h5⟩
theorem IsL.mono (e : Same G G') : ∀ (l : List D) (xs : List V), IsL K G l xs → IsL K G' l xs
  | [], _, h => by simpa only [IsL] using h
  | d :: l, _, h => by
    simp only [IsL] at h ⊢
    obtain ⟨x, r, h1, h2, h3⟩ := h
    exact ⟨x, r, h1, Is.mono e d x h2, IsL.mono e l r h3⟩
end
theorem isL_nil : IsL K G [] [] := by simp only [IsL]
theorem isL_cons {d : D} {v : V} {l : List D} {xs : List V} (h1 : Is K G d v) (h2 : IsL K G l xs) : IsL K G (d :: l) (v :: xs) := by
  simp only [IsL]; exact ⟨v, xs, rfl, h1, h2⟩
theorem isL_cons_inv {d : D} {l : List D} {xs : List V} (h : IsL K G (d :: l) xs) : ∃ v r, xs = v :: r ∧ Is K G d v ∧ IsL K G l r := by
  simpa only [IsL] using h
theorem isL_nil_inv {xs : List V} (h : IsL K G [] xs) : xs = [] := by simpa only [IsL] using h
theorem IsL.length : ∀ {l : List D} {xs : List V}, IsL K G l xs → l.length = xs.length
  | [], _, h => by rw [isL_nil_inv h]; rfl
  | d :: l, _, h => by
    obtain ⟨v, r, rfl, _, h2⟩ := isL_cons_inv h
    simp [IsL.length h2]
theorem IsL.get : ∀ {l : List D} {xs : List V} {i : Nat} {d : D}, IsL K G l xs → l[i]? = some d → ∃ v, xs[i]? = some v ∧ Is K G d v
  | [], _, _, _, _, e => by simp at e
  | d :: l, _, 0, d', h, e => by
    obtain ⟨v, r, rfl, h1, _⟩ := isL_cons_inv h
    simp at e; subst e
    exact ⟨v, rfl, h1⟩
  | d :: l, _, i + 1, d', h, e => by
    obtain ⟨v, r, rfl, _, h2⟩ := isL_cons_inv h
    simp at e
    obtain ⟨w, h3, h4⟩ := IsL.get h2 e
    exact ⟨w, by simpa using h3, h4⟩
theorem IsL.get' : ∀ {l : List D} {xs : List V} {i : Nat} {v : V}, IsL K G l xs → xs[i]? = some v → ∃ d, l[i]? = some d ∧ Is K G d v := by
  intro l xs i v h e
  have hi : i < xs.length := (List.getElem?_eq_some_iff.mp e).1
  have hl := h.length
  cases q : l[i]? with
  | none => rw [List.getElem?_eq_none_iff] at q; omega
  | some d =>
    obtain ⟨w, h1, h2⟩ := h.get q
    rw [e] at h1; cases h1
    exact ⟨d, rfl, h2⟩
theorem IsL.append : ∀ {l m : List D} {xs ys : List V}, IsL K G l xs → IsL K G m ys → IsL K G (l ++ m) (xs ++ ys)
  | [], _, _, _, h1, h2 => by rw [isL_nil_inv h1]; exact h2
  | d :: l, _, _, _, h1, h2 => by
    obtain ⟨v, r, rfl, h3, h4⟩ := isL_cons_inv h1
    exact isL_cons h3 (IsL.append h4 h2)
theorem IsL.take : ∀ {l : List D} {xs : List V} (n : Nat), IsL K G l xs → IsL K G (l.take n) (xs.take n)
  | _, _, 0, _ => by simpa using isL_nil
  | [], _, n + 1, h => by rw [isL_nil_inv h]; exact isL_nil
  | d :: l, _, n + 1, h => by
    obtain ⟨v, r, rfl, h3, h4⟩ := isL_cons_inv h
    exact isL_cons h3 (IsL.take n h4)
theorem IsL.drop : ∀ {l : List D} {xs : List V} (n : Nat), IsL K G l xs → IsL K G (l.drop n) (xs.drop n)
  | _, _, 0, h => h
  | [], _, n + 1, h => by rw [isL_nil_inv h]; exact isL_nil
  | d :: l, _, n + 1, h => by
    obtain ⟨v, r, rfl, h3, h4⟩ := isL_cons_inv h
    exact IsL.drop n h4
theorem IsL.set : ∀ {l : List D} {xs : List V} {d : D} {v : V} (n : Nat), IsL K G l xs → Is K G d v → IsL K G (l.set n d) (xs.set n v)
  | [], _, _, _, n, h, _ => by rw [isL_nil_inv h]; simpa using isL_nil
  | e :: l, _, d, v, 0, h, hv => by
    obtain ⟨w, r, rfl, _, h4⟩ := isL_cons_inv h
    exact isL_cons hv h4
  | e :: l, _, d, v, n + 1, h, hv => by
    obtain ⟨w, r, rfl, h3, h4⟩ := isL_cons_inv h
    exact isL_cons h3 (IsL.set n h4 hv)
theorem isL_rep {d : D} {v : V} (h : Is K G d v) : ∀ n : Nat, IsL K G (List.replicate n d) (List.replicate n v)
  | 0 => isL_nil
  | n + 1 => isL_cons h (isL_rep h n)
theorem isL_ints : ∀ {ns : List Int} {xs : List V}, IsL K G (ns.map D.int) xs → xs = ns.map V.int
  | [], _, h => isL_nil_inv h
  | n :: ns, _, h => by
    obtain ⟨v, r, rfl, h1, h2⟩ := isL_cons_inv h
    simp only [Is] at h1
    rw [h1, isL_ints h2]; rfl
theorem isL_of_ints : ∀ {ns : List Int}, IsL K G (ns.map D.int) (ns.map V.int)
  | [] => isL_nil
  | n :: ns => isL_cons (by simp only [Is]) isL_of_ints
theorem is_int {i : Int} {v : V} (h : Is K G (.int i) v) : v = .int i := by simpa only [Is] using h
theorem is_bl {b : Bool} {v : V} (h : Is K G (.bl b) v) : v = .bl b := by simpa only [Is] using h
theorem is_non {v : V} (h : Is K G .non v) : v = .non := by simpa only [Is] using h
theorem is_tup {l : List D} {v : V} (h : Is K G (.tup l) v) : ∃ a xs, v = .ref a ∧ G a = some (.tup xs) ∧ IsL K G l xs := by simpa only [Is] using h
theorem is_lst {l : List D} {v : V} (h : Is K G (.lst l) v) : ∃ a xs, v = .ref a ∧ G a = some (.lst xs) ∧ IsL K G l xs := by simpa only [Is] using h
theorem is_obj {C : Addr} {ns : List Str} {l : List D} {v : V} (h : Is K G (.obj C ns l) v) : ∃ a dx fs xs, v = .ref a ∧ G a = some (.ins C dx fs) ∧ fs = ns.zip xs ∧ xs.length = ns.length ∧ IsL K G l xs := by simpa only [Is] using h
theorem is_txt {n : Nat} {v : V} (h : Is K G (.txt n) v) : ∃ z : Str, v = .str z ∧ z.length ≤ n := by simpa only [Is] using h
theorem is_adr {a : Addr} {v : V} (h : Is K G (.adr a) v) : v = .ref a := by simpa only [Is] using h
theorem is_sql {ns : List Int} {v : V} (h : Is K G (.sql ns) v) : ∃ a, v = .ref a ∧ SqL K G a (ns.map V.int) := by simpa only [Is] using h
theorem mk_int {i : Int} : Is K G (.int i) (.int i) := by simp only [Is]
theorem mk_bl {b : Bool} : Is K G (.bl b) (.bl b) := by simp only [Is]
theorem mk_non : Is K G .non .non := by simp only [Is]
theorem mk_any {v : V} : Is K G .any v := by simp only [Is]
theorem mk_adr {a : Addr} : Is K G (.adr a) (.ref a) := by simp only [Is]
theorem mk_txt {n : Nat} {z : Str} (h : z.length ≤ n) : Is K G (.txt n) (.str z) := by simp only [Is]; exact ⟨z, rfl, h⟩
theorem mk_tup {l : List D} {a : Addr} {xs : List V} (h : G a = some (.tup xs)) (h2 : IsL K G l xs) : Is K G (.tup l) (.ref a) := by simp only [Is]; exact ⟨a, xs, rfl, h, h2⟩
theorem mk_lst {l : List D} {a : Addr} {xs : List V} (h : G a = some (.lst xs)) (h2 : IsL K G l xs) : Is K G (.lst l) (.ref a) := by simp only [Is]; exact ⟨a, xs, rfl, h, h2⟩
theorem mk_obj {C : Addr} {ns : List Str} {l : List D} {a dx : Addr} {xs : List V} (h : G a = some (.ins C dx (ns.zip xs))) (hn : xs.length = ns.length) (h2 : IsL K G l xs) : Is K G (.obj C ns l) (.ref a) := by
  simp only [Is]; exact ⟨a, dx, _, xs, rfl, h, rfl, hn, h2⟩
end
/-! ### steps that change nothing -/
structure Stp (G H G' H' : Hp) : Prop where
  g : Same G G'
  h : Same H H'
  le : Same G' H'
  nw : ∀ a, G a = none → H a ≠ none → G' a = none
section
variable {G H G1 H1 G2 H2 : Hp}
theorem Stp.refl (e : Same G H) : Stp G H G H := ⟨Same.refl _, Same.refl _, e, fun _ h _ => h⟩
theorem Stp.trans (a : Stp G H G1 H1) (b : Stp G1 H1 G2 H2) : Stp G H G2 H2 := ⟨a.g.trans b.g, a.h.trans b.h, b.le, fun x h n => b.nw x (a.nw x h n) fun z => by
  cases e : H x with
  | none => exact n e
  | some o => rw [a.h x o e] at z; cases z⟩
theorem same_new {p : Addr} {o : HO} (h : H p = none) : Same H (upd H p o) := fun a u e => by
  rw [upd_ne (ne_of_none e h)]; exact e
/-- an object more, to both -/
theorem Stp.new {p : Addr} {o : HO} (e : Same G H) (h : H p = none) : Stp G H (upd G p o) (upd H p o) := by
  have hg : G p = none := e.free h
  refine ⟨same_new hg, same_new h, fun a u q => ?_, fun a h0 n => ?_⟩
  · by_cases z : a = p
    · subst z; rw [upd_same] at q ⊢; exact q
    · rw [upd_ne z] at q ⊢; exact e a u q
  · by_cases z : a = p
    · subst z; exact absurd h n
    · rw [upd_ne z]; exact h0
/-- an object more that stays one's own -/
theorem Stp.own {p : Addr} {o : HO} (e : Same G H) (h : H p = none) : Stp G H G (upd H p o) :=
  ⟨Same.refl _, same_new h, e.trans (same_new h), fun _ h0 _ => h0⟩
/-- an own object changes -/
theorem same_own {p : Addr} {o : HO} (e : Same G H) (h : G p = none) : Same G (upd H p o) := fun a u q => by
  rw [upd_ne (ne_of_none q h)]; exact e a u q
/-- what is one's own is given away -/
theorem same_give {p : Addr} {o : HO} (e : Same G H) (h : H p = some o) : Same (upd G p o) H := fun a u q => by
  by_cases z : a = p
  · subst z; rw [upd_same] at q; rw [h]; exact q
  · rw [upd_ne z] at q; exact e a u q
end
/-! ### names -/
abbrev Rho := List (Option D)
structure En (K : PySem.W.Frag) (G : Hp) (ρ : Rho) (σ : L2.St) : Prop where
  len : σ.length = ρ.length
  val : ∀ (i : Nat) (d : D), ρ[i]? = some (some d) → ∃ v, σ[i]? = some (some v) ∧ Is K G d v
section
variable {K : PySem.W.Frag} {G G' H H' : Hp} {ρ ρ' ρ1 : Rho} {σ : L2.St}
theorem En.mono (h : En K G ρ σ) (e : Same G G') : En K G' ρ σ := ⟨h.len, fun i d q => let ⟨v, h1, h2⟩ := h.val i d q; ⟨v, h1, Is.mono e d v h2⟩⟩
theorem En.set {i : Nat} {d : D} {v : V} (h : En K G ρ σ) (hv : Is K G d v) : En K G (ρ.set i (some d)) (σ.set i (some v)) := by
  refine ⟨by simp [h.len], fun j e q => ?_⟩
  by_cases z : i = j
  · subst z
    rw [List.getElem?_set] at q ⊢
    simp only [if_true] at q ⊢
    have hl := h.len
    split at q
    · rename_i hlt
      rw [if_pos (by omega)]
      cases q
      exact ⟨v, rfl, hv⟩
    · cases q
  · rw [List.getElem?_set_ne z] at q ⊢
    exact h.val j e q
theorem En.weak (h : En K G ρ σ) (hl : ρ'.length = ρ.length) (hw : ∀ (i : Nat) (d : D), ρ'[i]? = some (some d) → ρ[i]? = some (some d)) : En K G ρ' σ := ⟨by rw [h.len, hl], fun i d q => h.val i d (hw i d q)⟩
def wipeD (ρ : Rho) : List Nat → Rho
  | [] => ρ
  | v :: vs => (wipeD ρ vs).set v none
theorem En.wipe (h : En K G ρ σ) : ∀ vs : List Nat, En K G (wipeD ρ vs) (wipe σ vs)
  | [] => h
  | v :: vs => by
    have ih := En.wipe h vs
    refine ⟨by simp [wipeD, L2.wipe, ih.len], fun j e q => ?_⟩
    unfold wipeD at q
    unfold L2.wipe
    by_cases z : v = j
    · subst z
      rw [List.getElem?_set] at q
      simp only [if_true] at q
      split at q <;> cases q
    · rw [List.getElem?_set_ne z] at q ⊢
      exact ih.val j e q
theorem wipe_set {x : Option V} {i : Nat} : ∀ {vs : List Nat} {σ : L2.St}, i ∈ vs → wipe (σ.set i x) vs = wipe σ vs
  | [], _, h => by cases h
  | v :: vs, σ, h => by
    unfold L2.wipe
    by_cases q : i ∈ vs
    · rw [wipe_set q]
    · have e : i = v := by
        rcases List.mem_cons.mp h with z | z
        · exact z
        · exact absurd z q
      subst e
      have w : ∀ (us : List Nat), i ∉ us → wipe (σ.set i x) us = (wipe σ us).set i x := fun us => by
        induction us with
        | nil => intro _; rfl
        | cons u us ih =>
          intro hn
          have n1 : i ≠ u := fun z => hn (by rw [z]; exact List.mem_cons_self)
          have n2 : i ∉ us := fun z => hn (List.mem_cons_of_mem _ z)
          unfold L2.wipe
          rw [ih n2, List.set_comm _ _ n1]
      rw [w vs q, List.set_set]
theorem wipe_wipe {σ : L2.St} : ∀ {us vs : List Nat}, (∀ i ∈ us, i ∈ vs) → wipe (wipe σ us) vs = wipe σ vs
  | [], _, _ => rfl
  | u :: us, vs, h => by
    show wipe ((wipe σ us).set u none) vs = _
    rw [wipe_set (h u List.mem_cons_self)]
    exact wipe_wipe fun i hi => h i (List.mem_cons_of_mem _ hi)
end
/-! ### what evaluates to what -/
section
variable (K : PySem.W.Frag)
def EvD (ρ : Rho) (te : TE) (d : D) : Prop := ∀ (σ : L2.St) (G H : Hp), Same G H → En K G ρ σ → ∀ Q : VK, (∀ v G' H', Stp G H G' H' → Is K G' d v → Q v H') → te σ H Q
def EvB (ρ : Rho) (tt : TT) (b : Bool) : Prop := ∀ (σ : L2.St) (G H : Hp), Same G H → En K G ρ σ → ∀ Q : Bool → Hp → Prop, (∀ G' H', Stp G H G' H' → Q b H') → tt σ H Q
def EvA (ρ : Rho) (ta : TA) (ds : List D) : Prop := ∀ (σ : L2.St) (G H : Hp), Same G H → En K G ρ σ → ∀ Q : List V → Hp → Prop, (∀ vs G' H', Stp G H G' H' → IsL K G' ds vs → Q vs H') → ta σ H Q
def EvO (ρ : Rho) (to : TO) (o : Option Int) : Prop := ∀ (σ : L2.St) (G H : Hp), Same G H → En K G ρ σ → ∀ Q : Option Int → Hp → Prop, (∀ G' H', Stp G H G' H' → Q o H') → to σ H Q
/-- an operation by data -/
def RvD (r : R2) (a b c : D) : Prop := ∀ (G H : Hp) (x y : V), Same G H → Is K G a x → Is K G b y → ∀ Q : VK, (∀ v G' H', Stp G H G' H' → Is K G' c v → Q v H') → r x y H Q
def RuD (r : V → Hp → VK → Prop) (a c : D) : Prop := ∀ (G H : Hp) (x : V), Same G H → Is K G a x → ∀ Q : VK, (∀ v G' H', Stp G H G' H' → Is K G' c v → Q v H') → r x H Q
def RcD (r : List V → Hp → VK → Prop) (as : List D) (c : D) : Prop := ∀ (G H : Hp) (xs : List V), Same G H → IsL K G as xs → ∀ Q : VK, (∀ v G' H', Stp G H G' H' → Is K G' c v → Q v H') → r xs H Q
/-- a target by data: its slots are among is -/
def TgD (ρ : Rho) (g : TG) (d : D) (ρ' : Rho) (is : List Nat) : Prop := ∀ (v : V) (σ : L2.St) (G H : Hp), Same G H → En K G ρ σ → Is K G d v → ∀ Q : L2.St → Hp → Prop,
  (∀ σ' G' H', Stp G H G' H' → En K G' ρ' σ' → (∀ vs, (∀ i ∈ is, i ∈ vs) → wipe σ' vs = wipe σ vs) → Q σ' H') → g v σ H Q
def TgsD (ρ : Rho) (g : TGs) (ds : List D) (ρ' : Rho) (is : List Nat) : Prop := ∀ (vs : List V) (σ : L2.St) (G H : Hp), Same G H → En K G ρ σ → IsL K G ds vs → ∀ Q : L2.St → Hp → Prop,
  (∀ σ' G' H', Stp G H G' H' → En K G' ρ' σ' → (∀ vs, (∀ i ∈ is, i ∈ vs) → wipe σ' vs = wipe σ vs) → Q σ' H') → g vs σ H Q
/-- what an iterator yields -/
structure Walks (G : Hp) (J : It) (ds : List D) : Prop where
  go : ∀ G2 H2, Same G G2 → Same G2 H2 → ∀ (i : Nat) (d : D), ds[i]? = some d → J.go i H2 ∧ ∀ x H3, J.yld i H2 x H3 → ∃ G3, Stp G2 H2 G3 H3 ∧ Is K G3 d x
  stop : ∀ G2 H2, Same G G2 → Same G2 H2 → J.stop ds.length H2
def ItD (ρ : Rho) (wi : TI) (ds : List D) : Prop := ∀ (σ : L2.St) (G H : Hp), Same G H → En K G ρ σ → ∀ R : It → Hp → Prop, (∀ J G' H', Stp G H G' H' → Walks K G' J ds → R J H') → wi σ H R
/-- a statement's end -/
inductive Out where
  | nx (ρ : Rho) | rt (d : D) | bk (ρ : Rho) | ct (ρ : Rho)
def OutP (G H : Hp) (Dn : Ends) : Out → Prop
  | .nx ρ => ∀ σ' G' H', Stp G H G' H' → En K G' ρ σ' → Dn.nx σ' H'
  | .rt d => ∀ v G' H', Stp G H G' H' → Is K G' d v → Dn.rt v H'
  | .bk ρ => ∀ σ' G' H', Stp G H G' H' → En K G' ρ σ' → Dn.bk σ' H'
  | .ct ρ => ∀ σ' G' H', Stp G H G' H' → En K G' ρ σ' → Dn.ct σ' H'
def StD (ρ : Rho) (ts : TS) (o : Out) : Prop := ∀ (Dn : Ends) (σ : L2.St) (G H : Hp), Same G H → En K G ρ σ → OutP K G H Dn o → ts Dn σ H
end
section
variable {K : PySem.W.Frag} {ρ ρ1 ρ2 : Rho} {ta tb te tc : TE} {tt tu : TT} {tl : TA} {a b c d e : D} {ds : List D}
theorem ed_var {i : Nat} (h : ρ[i]? = some (some d)) : EvD K ρ (tVar i) d := fun σ G H e n Q q => by
  obtain ⟨v, h1, h2⟩ := n.val i d h
  exact ⟨v, h1, q v G H (Stp.refl e) h2⟩
theorem ed_int {i : Int} : EvD K ρ (tC (.int i)) (.int i) := fun σ G H e n Q q => q _ G H (Stp.refl e) mk_int
theorem ed_bl {b : Bool} : EvD K ρ (tC (.bl b)) (.bl b) := fun σ G H e n Q q => q _ G H (Stp.refl e) mk_bl
theorem ed_non : EvD K ρ (tC .non) .non := fun σ G H e n Q q => q _ G H (Stp.refl e) mk_non
theorem ed_str {z : Str} {n : Nat} (h : z.length ≤ n) : EvD K ρ (tC (.str z)) (.txt n) := fun σ G H e _ Q q => q _ G H (Stp.refl e) (mk_txt h)
theorem ed_op {r : R2} (ha : EvD K ρ ta a) (hb : EvD K ρ tb b) (hr : RvD K r a b c) : EvD K ρ (tOp r ta tb) c := fun σ G H e n Q q =>
  ha σ G H e n _ fun x G1 H1 s1 i1 => hb σ G1 H1 s1.le (n.mono s1.g) _ fun y G2 H2 s2 i2 =>
    hr G2 H2 x y s2.le (Is.mono s2.g a x i1) i2 Q fun v G3 H3 s3 i3 => q v G3 H3 ((s1.trans s2).trans s3) i3
theorem ed_un {r : V → Hp → VK → Prop} (ha : EvD K ρ ta a) (hr : RuD K r a c) : EvD K ρ (tUn r ta) c := fun σ G H e n Q q =>
  ha σ G H e n _ fun x G1 H1 s1 i1 => hr G1 H1 x s1.le i1 Q fun v G3 H3 s3 i3 => q v G3 H3 (s1.trans s3) i3
theorem ea_nil : EvA K ρ tNil [] := fun σ G H e n Q q => q _ G H (Stp.refl e) isL_nil
theorem ea_cons (h : EvD K ρ te d) (hr : EvA K ρ tl ds) : EvA K ρ (tCons te tl) (d :: ds) := fun σ G H e n Q q =>
  h σ G H e n _ fun x G1 H1 s1 i1 => hr σ G1 H1 s1.le (n.mono s1.g) _ fun ys G2 H2 s2 i2 => q _ G2 H2 (s1.trans s2) (isL_cons (Is.mono s2.g d x i1) i2)
theorem ea_1 (h : EvD K ρ te d) : EvA K ρ (tCons te tNil) [d] := ea_cons h ea_nil
theorem ea_2 (h : EvD K ρ ta a) (h2 : EvD K ρ tb b) : EvA K ρ (tCons ta (tCons tb tNil)) [a, b] := ea_cons h (ea_1 h2)
theorem ea_3 (h : EvD K ρ ta a) (h2 : EvD K ρ tb b) (h3 : EvD K ρ tc c) : EvA K ρ (tCons ta (tCons tb (tCons tc tNil))) [a, b, c] := ea_cons h (ea_2 h2 h3)
theorem ea_starL {l : List D} (h : EvD K ρ te (.lst l)) (hr : EvA K ρ tl ds) : EvA K ρ (tStar K te tl) (l ++ ds) := fun σ G H e n Q q =>
  h σ G H e n _ fun x G1 H1 s1 i1 => by
    obtain ⟨p, xs, rfl, h1, h2⟩ := is_lst i1
    exact ⟨p, xs, rfl, .inr (SqL.of (s1.le _ _ h1)), hr σ G1 H1 s1.le (n.mono s1.g) _ fun ys G2 H2 s2 i2 => q _ G2 H2 (s1.trans s2) ((IsL.mono s2.g _ _ h2).append i2)⟩
theorem ea_starT {l : List D} (h : EvD K ρ te (.tup l)) (hr : EvA K ρ tl ds) : EvA K ρ (tStar K te tl) (l ++ ds) := fun σ G H e n Q q =>
  h σ G H e n _ fun x G1 H1 s1 i1 => by
    obtain ⟨p, xs, rfl, h1, h2⟩ := is_tup i1
    exact ⟨p, xs, rfl, .inl (SqT.of (s1.le _ _ h1)), hr σ G1 H1 s1.le (n.mono s1.g) _ fun ys G2 H2 s2 i2 => q _ G2 H2 (s1.trans s2) ((IsL.mono s2.g _ _ h2).append i2)⟩
theorem sz_le {n : Nat} (h : n ≤ 1000000) : n ≤ sizeLine := by rw [sizeLine_eq]; omega
theorem sz_lt {n : Nat} (h : n < 1000000) : n < sizeLine := by rw [sizeLine_eq]; omega
theorem ed_tup (h : EvA K ρ tl ds) (hl : ds.length ≤ 1000000) : EvD K ρ (tTup tl) (.tup ds) := fun σ G H e n Q q =>
  h σ G H e n _ fun xs G1 H1 s1 i1 => ⟨sz_le (by rw [← i1.length]; exact hl), fun p hp => q _ _ _ (s1.trans (Stp.new s1.le hp)) (mk_tup upd_same (IsL.mono (same_new (s1.le.free hp)) _ _ i1))⟩
theorem ed_lst (h : EvA K ρ tl ds) (hl : ds.length ≤ 1000000) : EvD K ρ (tLst tl) (.lst ds) := fun σ G H e n Q q =>
  h σ G H e n _ fun xs G1 H1 s1 i1 => ⟨sz_le (by rw [← i1.length]; exact hl), fun p hp => q _ _ _ (s1.trans (Stp.new s1.le hp)) (mk_lst upd_same (IsL.mono (same_new (s1.le.free hp)) _ _ i1))⟩
theorem ed_cb {r : List V → Hp → VK → Prop} (h : EvA K ρ tl ds) (hr : RcD K r ds c) : EvD K ρ (tCB r tl) c := fun σ G H e n Q q =>
  h σ G H e n _ fun xs G1 H1 s1 i1 => hr G1 H1 xs s1.le i1 Q fun v G2 H2 s2 i2 => q v G2 H2 (s1.trans s2) i2
theorem eo_none : EvO K ρ tNoPart none := fun σ G H e n Q q => q G H (Stp.refl e)
theorem eo_some {i : Int} (h : EvD K ρ te (.int i)) : EvO K ρ (tPart te) (some i) := fun σ G H e n Q q =>
  h σ G H e n _ fun x G1 H1 s1 i1 => ⟨i, is_int i1, q G1 H1 s1⟩
theorem ed_fld {C : Addr} {ns : List Str} {l : List D} {f : Str} {i : Nat} (h : EvD K ρ te (.obj C ns l)) (hc : Cls K C) (hn : NoAttr K C f) (hi : (ns.zip (List.range ns.length)).lookup f = some i) (hd : l[i]? = some d) : EvD K ρ (tFld K te f) d := fun σ G H e n Q q =>
  h σ G H e n _ fun x G1 H1 s1 i1 => by
    obtain ⟨a, dx, fs, xs, rfl, h1, h2, h3, h4⟩ := is_obj i1
    obtain ⟨v, h5, h6⟩ := h4.get hd
    refine ⟨a, C, dx, fs, v, rfl, s1.le _ _ h1, hc, hn, ?_, q v G1 H1 s1 h6⟩
    rw [h2]
    have key : ∀ (ns : List Str) (xs : List V) (k : Nat), xs.length = ns.length → (ns.zip (List.range' k ns.length)).lookup f = some i → k ≤ i ∧ (ns.zip xs).lookup f = xs[i - k]? := fun ns => by
      induction ns with
      | nil => intro xs k _ z; simp at z
      | cons m ns ih =>
        intro xs k hl z
        cases xs with
        | nil => simp at hl
        | cons x xs =>
          simp only [List.length_cons, List.range'_succ, List.zip_cons_cons, List.lookup_cons] at z ⊢
          cases q : (f == m) with
          | true => rw [q] at z; simp at z; subst z; simp
          | false =>
            rw [q] at z
            obtain ⟨z1, z2⟩ := ih xs (k + 1) (by simpa using hl) z
            refine ⟨by omega, ?_⟩
            show List.lookup f (ns.zip xs) = _
            rw [z2, show i - k = (i - (k + 1)) + 1 by omega]; simp
    have z := (key ns xs 0 h3 (by rw [← List.range_eq_range']; exact hi)).2
    rw [z]; simpa using h5
/-! tests -/
theorem et_test {k : Bool} (h : EvD K ρ te (.bl k)) : EvB K ρ (tTest te) k := fun σ G H e n Q q => h σ G H e n _ fun x G1 H1 s1 i1 => ⟨k, is_bl i1, q G1 H1 s1⟩
theorem et_B {k : Bool} (h : EvD K ρ te (.bl k)) : EvB K ρ (tB te) k := fun σ G H e n Q q => h σ G H e n _ fun x G1 H1 s1 i1 => ⟨k, is_bl i1, q G1 H1 s1⟩
theorem et_and {j k : Bool} (h1 : EvB K ρ tt j) (h2 : j = true → EvB K ρ tu k) : EvB K ρ (tAnd tt tu) (j && k) := fun σ G H e n Q q => h1 σ G H e n _ fun G1 H1 s1 => by
  cases j with
  | true => exact h2 rfl σ G1 H1 s1.le (n.mono s1.g) Q fun G2 H2 s2 => q G2 H2 (s1.trans s2)
  | false => exact q G1 H1 s1
theorem et_or {j k : Bool} (h1 : EvB K ρ tt j) (h2 : j = false → EvB K ρ tu k) : EvB K ρ (tOr tt tu) (j || k) := fun σ G H e n Q q => h1 σ G H e n _ fun G1 H1 s1 => by
  cases j with
  | true => exact q G1 H1 s1
  | false => exact h2 rfl σ G1 H1 s1.le (n.mono s1.g) Q fun G2 H2 s2 => q G2 H2 (s1.trans s2)
theorem et_not {j : Bool} (h1 : EvB K ρ tt j) : EvB K ρ (tNot tt) (!j) := fun σ G H e n Q q => h1 σ G H e n _ q
theorem et_is {j k : Bool} (h : EvB K ρ tt j) (e : j = k) : EvB K ρ tt k := e ▸ h
theorem ed_is (h : EvD K ρ te a) (e : a = b) : EvD K ρ te b := e ▸ h
theorem ed_andV {j k : Bool} (h1 : EvD K ρ ta (.bl j)) (h2 : j = true → EvD K ρ tb (.bl k)) : EvD K ρ (tAndV ta tb) (.bl (j && k)) := fun σ G H e n Q q => h1 σ G H e n _ fun x G1 H1 s1 i1 => ⟨j, is_bl i1, by
  cases j with
  | true => exact h2 rfl σ G1 H1 s1.le (n.mono s1.g) Q fun v G2 H2 s2 i2 => q v G2 H2 (s1.trans s2) i2
  | false => exact q _ G1 H1 s1 mk_bl⟩
theorem ed_orV {j k : Bool} (h1 : EvD K ρ ta (.bl j)) (h2 : j = false → EvD K ρ tb (.bl k)) : EvD K ρ (tOrV ta tb) (.bl (j || k)) := fun σ G H e n Q q => h1 σ G H e n _ fun x G1 H1 s1 i1 => ⟨j, is_bl i1, by
  cases j with
  | true => exact q _ G1 H1 s1 mk_bl
  | false => exact h2 rfl σ G1 H1 s1.le (n.mono s1.g) Q fun v G2 H2 s2 i2 => q v G2 H2 (s1.trans s2) i2⟩
theorem ed_notV {j : Bool} (h1 : EvD K ρ ta (.bl j)) : EvD K ρ (tNotV ta) (.bl (!j)) := fun σ G H e n Q q => h1 σ G H e n _ fun x G1 H1 s1 i1 => ⟨j, is_bl i1, q _ G1 H1 s1 mk_bl⟩
theorem ed_if {j : Bool} (h : EvB K ρ tt j) (h1 : j = true → EvD K ρ ta d) (h2 : j = false → EvD K ρ tb d) : EvD K ρ (tIf tt ta tb) d := fun σ G H e n Q q => h σ G H e n _ fun G1 H1 s1 => by
  cases j with
  | true => exact h1 rfl σ G1 H1 s1.le (n.mono s1.g) Q fun v G2 H2 s2 i2 => q v G2 H2 (s1.trans s2) i2
  | false => exact h2 rfl σ G1 H1 s1.le (n.mono s1.g) Q fun v G2 H2 s2 i2 => q v G2 H2 (s1.trans s2) i2
theorem ed_chain {r r' : R2} {j : Bool} (ha : EvD K ρ ta a) (hb : EvD K ρ tb b) (hr : RvD K r a b (.bl j)) (hc : j = true → EvD K ρ tc c) {k : Bool} (hr' : j = true → RvD K r' b c (.bl k)) : EvD K ρ (tChain r r' ta tb tc) (.bl (j && k)) := fun σ G H e n Q q =>
  ha σ G H e n _ fun x G1 H1 s1 i1 => hb σ G1 H1 s1.le (n.mono s1.g) _ fun y G2 H2 s2 i2 =>
    hr G2 H2 x y s2.le (Is.mono s2.g a x i1) i2 _ fun v G3 H3 s3 i3 => ⟨j, is_bl i3, by
      have s13 := (s1.trans s2).trans s3
      cases j with
      | true =>
        exact hc rfl σ G3 H3 s3.le (n.mono s13.g) _ fun z G4 H4 s4 i4 => hr' rfl G4 H4 y z s4.le (Is.mono (s3.trans s4).g b y i2) i4 Q fun v G5 H5 s5 i5 => q v G5 H5 ((s13.trans s4).trans s5) i5
      | false => exact q _ G3 H3 s13 mk_bl⟩
/-! targets -/
theorem tg_name {i : Nat} : TgD K ρ (gName i) d (ρ.set i (some d)) [i] := fun v σ G H e n hv Q q => q _ G H (Stp.refl e) (n.set hv) fun vs h => wipe_set (h i (by simp))
theorem tgs_nil : TgsD K ρ gNil [] ρ [] := fun vs σ G H e n hv Q q => ⟨isL_nil_inv hv, q _ G H (Stp.refl e) n fun _ _ => rfl⟩
theorem tgs_cons {g : TG} {gs : TGs} {is js : List Nat} (h1 : TgD K ρ g d ρ1 is) (h2 : TgsD K ρ1 gs ds ρ2 js) : TgsD K ρ (gCons g gs) (d :: ds) ρ2 (is ++ js) := fun vs σ G H e n hv Q q => by
  obtain ⟨v, r, rfl, i1, i2⟩ := isL_cons_inv hv
  refine ⟨v, r, rfl, h1 v σ G H e n i1 _ fun σ1 G1 H1 s1 n1 w1 => h2 r σ1 G1 H1 s1.le n1 (IsL.mono s1.g _ _ i2) Q fun σ2 G2 H2 s2 n2 w2 => q σ2 G2 H2 (s1.trans s2) n2 fun us hu => ?_⟩
  rw [w2 us fun i hi => hu i (List.mem_append_right _ hi), w1 us fun i hi => hu i (List.mem_append_left _ hi)]
theorem tg_tup {gs : TGs} {is : List Nat} {k : Nat} (h : TgsD K ρ gs ds ρ1 is) (hl : ds.length = k) : TgD K ρ (gTup K k gs) (.tup ds) ρ1 is := fun v σ G H e n hv Q q => by
  obtain ⟨a, xs, rfl, h1, h2⟩ := is_tup hv
  exact ⟨a, xs, rfl, SqT.of (e _ _ h1), by rw [← h2.length, hl], h xs σ G H e n h2 Q q⟩
/-! iterators -/
theorem itl_walks {G : Hp} {a : Addr} {xs : List V} (h : G a = some (.lst xs)) (hl : IsL K G ds xs) : Walks K G (Itl K a) ds := by
  refine ⟨fun G2 H2 e1 e2 i d hd => ?_, fun G2 H2 e1 e2 => ⟨xs, SqL.of (e2 _ _ (e1 _ _ h)), by rw [hl.length]; exact Nat.le_refl _⟩⟩
  obtain ⟨v, h1, h2⟩ := hl.get hd
  refine ⟨⟨xs, v, SqL.of (e2 _ _ (e1 _ _ h)), h1⟩, fun x H3 ⟨eq, y⟩ => ?_⟩
  subst eq
  have z := y xs (SqL.of (e2 _ _ (e1 _ _ h)))
  rw [h1] at z; cases z
  exact ⟨G2, Stp.refl e2, Is.mono e1 _ _ h2⟩
theorem itt_walks {G : Hp} {a : Addr} {xs : List V} (h : G a = some (.tup xs)) (hl : IsL K G ds xs) : Walks K G (Itt K a) ds := by
  refine ⟨fun G2 H2 e1 e2 i d hd => ?_, fun G2 H2 e1 e2 => ⟨xs, SqT.of (e2 _ _ (e1 _ _ h)), by rw [hl.length]; exact Nat.le_refl _⟩⟩
  obtain ⟨v, h1, h2⟩ := hl.get hd
  refine ⟨⟨xs, v, SqT.of (e2 _ _ (e1 _ _ h)), h1⟩, fun x H3 ⟨eq, y⟩ => ?_⟩
  subst eq
  have z := y xs (SqT.of (e2 _ _ (e1 _ _ h)))
  rw [h1] at z; cases z
  exact ⟨G2, Stp.refl e2, Is.mono e1 _ _ h2⟩
theorem id_list (h : EvD K ρ te (.lst ds)) : ItD K ρ (iList K te) ds := fun σ G H e n R q => h σ G H e n _ fun x G1 H1 s1 i1 => by
  obtain ⟨a, xs, rfl, h1, h2⟩ := is_lst i1
  exact ⟨a, rfl, ⟨xs, SqL.of (s1.le _ _ h1)⟩, q _ G1 H1 s1 (itl_walks h1 h2)⟩
theorem id_tup (h : EvD K ρ te (.tup ds)) : ItD K ρ (iTup K te) ds := fun σ G H e n R q => h σ G H e n _ fun x G1 H1 s1 i1 => by
  obtain ⟨a, xs, rfl, h1, h2⟩ := is_tup i1
  exact ⟨a, rfl, ⟨xs, SqT.of (s1.le _ _ h1)⟩, q _ G1 H1 s1 (itt_walks h1 h2)⟩
/-- the intD from lo on -/
def intD (lo : Int) (n : Nat) : List D := (List.range n).map fun i => .int (lo + (i : Nat))
theorem intD_get {lo : Int} {n i : Nat} {d : D} (h : (intD lo n)[i]? = some d) : i < n ∧ d = .int (lo + (i : Nat)) := by
  unfold intD at h
  rw [List.getElem?_map] at h
  by_cases q : i < n
  · rw [List.getElem?_range q] at h
    simp at h
    exact ⟨q, h.symm⟩
  · rw [List.getElem?_eq_none (by simpa using q)] at h; cases h
theorem itr_walks {G : Hp} {lo : Int} {n : Nat} : Walks K G (Itr lo n) (intD lo n) := by
  refine ⟨fun G2 H2 e1 e2 i d hd => ?_, fun G2 H2 e1 e2 => by show n ≤ (intD lo n).length; simp [intD]⟩
  obtain ⟨hi, rfl⟩ := intD_get hd
  refine ⟨hi, fun x H3 ⟨e, y⟩ => ?_⟩
  subst e y
  exact ⟨G2, Stp.refl e2, mk_int⟩
theorem id_rng1 {j : Int} (h : EvA K ρ tl [.int j]) (h1 : -(2 ^ 62) ≤ j) (h2 : j < 2 ^ 62) : ItD K ρ (iRng1 tl) (intD 0 j.toNat) := fun σ G H e n R q => h σ G H e n _ fun xs G1 H1 s1 i1 => by
  obtain ⟨v, r, rfl, hv, hr⟩ := isL_cons_inv i1
  rw [isL_nil_inv hr, is_int hv]
  exact ⟨j, rfl, h1, h2, q _ G1 H1 s1 itr_walks⟩
def pairs : Nat → List D → List D
  | _, [] => []
  | k, d :: l => .tup [.int (k : Nat), d] :: pairs (k + 1) l
theorem pairs_get : ∀ {l : List D} {k i : Nat} {d : D}, (pairs k l)[i]? = some d → ∃ e, l[i]? = some e ∧ d = .tup [.int ((k + i : Nat) : Int), e]
  | [], _, _, _, h => by simp [pairs] at h
  | e :: l, k, 0, d, h => by simp [pairs] at h; exact ⟨e, rfl, by rw [← h]; simp⟩
  | e :: l, k, i + 1, d, h => by
    obtain ⟨x, h1, h2⟩ := pairs_get (l := l) (k := k + 1) (i := i) (by simpa [pairs] using h)
    exact ⟨x, by simpa using h1, by rw [h2, show k + 1 + i = k + (i + 1) by omega]⟩
theorem pairs_len : ∀ (l : List D) (k : Nat), (pairs k l).length = l.length
  | [], _ => rfl
  | e :: l, k => by simp [pairs, pairs_len l]
theorem ite_walks {G : Hp} {a : Addr} {xs : List V} (h : G a = some (.lst xs)) (hl : IsL K G ds xs) : Walks K G (Ite K a) (pairs 0 ds) := by
  refine ⟨fun G2 H2 e1 e2 i d hd => ?_, fun G2 H2 e1 e2 => ⟨xs, SqL.of (e2 _ _ (e1 _ _ h)), by rw [pairs_len, hl.length]; exact Nat.le_refl _⟩⟩
  obtain ⟨e, he, rfl⟩ := pairs_get hd
  obtain ⟨v, h1, h2⟩ := hl.get he
  refine ⟨⟨xs, v, SqL.of (e2 _ _ (e1 _ _ h)), h1⟩, fun x H3 ⟨T, y, ex, hT, eH, hy⟩ => ?_⟩
  subst ex eH
  have z := hy xs (SqL.of (e2 _ _ (e1 _ _ h)))
  rw [h1] at z; cases z
  have s := Stp.new (o := .tup [.int (i : Nat), v]) e2 hT
  refine ⟨_, s, mk_tup upd_same (isL_cons ?_ (isL_cons (Is.mono (e1.trans s.g) _ _ h2) isL_nil))⟩
  rw [Nat.zero_add]; exact mk_int
theorem id_enum (h : EvA K ρ tl [.lst ds]) : ItD K ρ (iEnum K tl) (pairs 0 ds) := fun σ G H e n R q => h σ G H e n _ fun vs G1 H1 s1 i1 => by
  obtain ⟨v, r, rfl, hv, hr⟩ := isL_cons_inv i1
  obtain ⟨a, xs, rfl, h1, h2⟩ := is_lst hv
  rw [isL_nil_inv hr]
  exact ⟨a, xs, rfl, SqL.of (s1.le _ _ h1), q _ G1 H1 s1 (ite_walks h1 h2)⟩
def zipD (l m : List D) : List D := List.zipWith (fun x y => .tup [x, y]) l m
theorem zipD_get {l m : List D} {i : Nat} {d : D} (h : (zipD l m)[i]? = some d) : ∃ x y, l[i]? = some x ∧ m[i]? = some y ∧ d = .tup [x, y] := by
  unfold zipD at h
  rw [List.getElem?_zipWith] at h
  cases e1 : l[i]? with
  | none => rw [e1] at h; simp at h
  | some x =>
    cases e2 : m[i]? with
    | none => rw [e1, e2] at h; simp at h
    | some y => rw [e1, e2] at h; simp at h; exact ⟨x, y, rfl, rfl, h.symm⟩
theorem itz_walks {G : Hp} {a b : Addr} {xs ys : List V} {es : List D} (h : G a = some (.lst xs)) (hl : IsL K G ds xs) (h' : G b = some (.lst ys)) (hl' : IsL K G es ys) : Walks K G (Itz K a b) (zipD ds es) := by
  refine ⟨fun G2 H2 e1 e2 i d hd => ?_, fun G2 H2 e1 e2 => ⟨xs, ys, SqL.of (e2 _ _ (e1 _ _ h)), SqL.of (e2 _ _ (e1 _ _ h')), by
    unfold zipD; rw [List.length_zipWith, hl.length, hl'.length]; omega⟩⟩
  obtain ⟨x, y, hx, hy, rfl⟩ := zipD_get hd
  obtain ⟨v, h1, h2⟩ := hl.get hx
  obtain ⟨u, h3, h4⟩ := hl'.get hy
  refine ⟨⟨xs, ys, v, u, SqL.of (e2 _ _ (e1 _ _ h)), SqL.of (e2 _ _ (e1 _ _ h')), h1, h3⟩, fun z H3 ⟨T, p, q, ex, hT, eH, hp, hq⟩ => ?_⟩
  subst ex eH
  have z1 := hp xs (SqL.of (e2 _ _ (e1 _ _ h)))
  have z2 := hq ys (SqL.of (e2 _ _ (e1 _ _ h')))
  rw [h1] at z1; cases z1
  rw [h3] at z2; cases z2
  have s := Stp.new (o := .tup [v, u]) e2 hT
  exact ⟨_, s, mk_tup upd_same (isL_cons (Is.mono (e1.trans s.g) _ _ h2) (isL_cons (Is.mono (e1.trans s.g) _ _ h4) isL_nil))⟩
theorem itzT_walks {G : Hp} {a b : Addr} {xs ys : List V} {es : List D} (h : G a = some (.tup xs)) (hl : IsL K G ds xs) (h' : G b = some (.tup ys)) (hl' : IsL K G es ys) : Walks K G (ItzT K a b) (zipD ds es) := by
  refine ⟨fun G2 H2 e1 e2 i d hd => ?_, fun G2 H2 e1 e2 => ⟨xs, ys, SqT.of (e2 _ _ (e1 _ _ h)), SqT.of (e2 _ _ (e1 _ _ h')), by
    unfold zipD; rw [List.length_zipWith, hl.length, hl'.length]; omega⟩⟩
  obtain ⟨x, y, hx, hy, rfl⟩ := zipD_get hd
  obtain ⟨v, h1, h2⟩ := hl.get hx
  obtain ⟨u, h3, h4⟩ := hl'.get hy
  refine ⟨⟨xs, ys, v, u, SqT.of (e2 _ _ (e1 _ _ h)), SqT.of (e2 _ _ (e1 _ _ h')), h1, h3⟩, fun z H3 ⟨T, p, q, ex, hT, eH, hp, hq⟩ => ?_⟩
  subst ex eH
  have z1 := hp xs (SqT.of (e2 _ _ (e1 _ _ h)))
  have z2 := hq ys (SqT.of (e2 _ _ (e1 _ _ h')))
  rw [h1] at z1; cases z1
  rw [h3] at z2; cases z2
  have s := Stp.new (o := .tup [v, u]) e2 hT
  exact ⟨_, s, mk_tup upd_same (isL_cons (Is.mono (e1.trans s.g) _ _ h2) (isL_cons (Is.mono (e1.trans s.g) _ _ h4) isL_nil))⟩
theorem id_zipL {es : List D} (h : EvA K ρ tl [.lst ds, .lst es]) : ItD K ρ (iZipA K tl) (zipD ds es) := fun σ G H e n R q => h σ G H e n _ fun vs G1 H1 s1 i1 => by
  obtain ⟨v, r, rfl, hv, hr⟩ := isL_cons_inv i1
  obtain ⟨u, r', rfl, hu, hr'⟩ := isL_cons_inv hr
  obtain ⟨a, xs, rfl, h1, h2⟩ := is_lst hv
  obtain ⟨b, ys, rfl, h3, h4⟩ := is_lst hu
  rw [isL_nil_inv hr']
  exact ⟨a, b, xs, ys, rfl, .inl ⟨SqL.of (s1.le _ _ h1), SqL.of (s1.le _ _ h3), q _ G1 H1 s1 (itz_walks h1 h2 h3 h4)⟩⟩
theorem id_zipT {es : List D} (h : EvA K ρ tl [.tup ds, .tup es]) : ItD K ρ (iZipA K tl) (zipD ds es) := fun σ G H e n R q => h σ G H e n _ fun vs G1 H1 s1 i1 => by
  obtain ⟨v, r, rfl, hv, hr⟩ := isL_cons_inv i1
  obtain ⟨u, r', rfl, hu, hr'⟩ := isL_cons_inv hr
  obtain ⟨a, xs, rfl, h1, h2⟩ := is_tup hv
  obtain ⟨b, ys, rfl, h3, h4⟩ := is_tup hu
  rw [isL_nil_inv hr']
  exact ⟨a, b, xs, ys, rfl, .inr ⟨SqT.of (s1.le _ _ h1), SqT.of (s1.le _ _ h3), q _ G1 H1 s1 (itzT_walks h1 h2 h3 h4)⟩⟩
end
end Pu
end
section
set_option Elab.async false
set_option linter.all false
set_option maxRecDepth 100000
set_option maxHeartbeats 4000000
/-! Pu2: statements, loops, comprehensions, calls, by data. -/
namespace Pu
open PySem PySem.Spec PyProof.Rows L2 StX RZ
section
variable {K : PySem.W.Frag} {ρ ρ1 ρ2 : Rho} {ta tb te tc : TE} {tt tu : TT} {tl : TA} {a b c d e : D} {ds : List D} {t u : TS} {o : Out}
theorem OutP.step {G H G1 H1 : Hp} {Dn : Ends} (s : Stp G H G1 H1) (h : OutP K G H Dn o) : OutP K G1 H1 Dn o := by
  cases o with
  | nx ρ => exact fun σ' G' H' s2 n => h σ' G' H' (s.trans s2) n
  | rt d => exact fun v G' H' s2 n => h v G' H' (s.trans s2) n
  | bk ρ => exact fun σ' G' H' s2 n => h σ' G' H' (s.trans s2) n
  | ct ρ => exact fun σ' G' H' s2 n => h σ' G' H' (s.trans s2) n
theorem sd_next : StD K ρ tNext (.nx ρ) := fun Dn σ G H e n q => q σ G H (Stp.refl e) n
theorem sd_seq (h1 : StD K ρ t (.nx ρ1)) (h2 : StD K ρ1 u o) : StD K ρ (tSeq t u) o := fun Dn σ G H e n q =>
  h1 _ σ G H e n fun σ1 G1 H1 s1 n1 => h2 Dn σ1 G1 H1 s1.le n1 (q.step s1)
theorem sd_seq_rt (h1 : StD K ρ t (.rt d)) : StD K ρ (tSeq t u) (.rt d) := fun Dn σ G H e n q => h1 _ σ G H e n q
theorem sd_seq_bk (h1 : StD K ρ t (.bk ρ1)) : StD K ρ (tSeq t u) (.bk ρ1) := fun Dn σ G H e n q => h1 _ σ G H e n q
theorem sd_seq_ct (h1 : StD K ρ t (.ct ρ1)) : StD K ρ (tSeq t u) (.ct ρ1) := fun Dn σ G H e n q => h1 _ σ G H e n q
theorem sd_asg {g : TG} {is : List Nat} (he : EvD K ρ te d) (hg : TgD K ρ g d ρ1 is) : StD K ρ (tAsg te g) (.nx ρ1) := fun Dn σ G H e n q =>
  he σ G H e n _ fun v G1 H1 s1 i1 => hg v σ G1 H1 s1.le (n.mono s1.g) i1 _ fun σ2 G2 H2 s2 n2 _ => q σ2 G2 H2 (s1.trans s2) n2
theorem sd_set {i : Nat} (he : EvD K ρ te d) : StD K ρ (tAsg te (gName i)) (.nx (ρ.set i (some d))) := sd_asg he tg_name
theorem sd_ret (he : EvD K ρ te d) : StD K ρ (tRet te) (.rt d) := fun Dn σ G H e n q => he σ G H e n _ fun v G1 H1 s1 i1 => q v G1 H1 s1 i1
theorem sd_retN : StD K ρ tRetN (.rt .non) := fun Dn σ G H e n q => q _ G H (Stp.refl e) mk_non
theorem sd_drop (he : EvD K ρ te d) : StD K ρ (tDrop te) (.nx ρ) := fun Dn σ G H e n q => he σ G H e n _ fun v G1 H1 s1 i1 => q σ G1 H1 s1 (n.mono s1.g)
theorem sd_par {i j : Nat} (h : EvA K ρ tl [a, b]) : StD K ρ (tPar i j tl) (.nx ((ρ.set i (some a)).set j (some b))) := fun Dn σ G H e n q =>
  h σ G H e n _ fun vs G1 H1 s1 i1 => by
    obtain ⟨v, r, rfl, hv, hr⟩ := isL_cons_inv i1
    obtain ⟨w, r', rfl, hw, hr'⟩ := isL_cons_inv hr
    rw [isL_nil_inv hr']
    exact ⟨v, w, rfl, q _ G1 H1 s1 (((n.mono s1.g).set hv).set hw)⟩
theorem sd_if {j : Bool} (h : EvB K ρ tt j) (h1 : j = true → StD K ρ t o) (h2 : j = false → StD K ρ u o) : StD K ρ (tIfS tt t u) o := fun Dn σ G H e n q =>
  h σ G H e n _ fun G1 H1 s1 => by
    cases j with
    | true => exact h1 rfl Dn σ G1 H1 s1.le (n.mono s1.g) (q.step s1)
    | false => exact h2 rfl Dn σ G1 H1 s1.le (n.mono s1.g) (q.step s1)
/-! ### loops -/
/-- a for over data; the state is anything of one's own -/
theorem for_raw {G H : Hp} {J : It} {g : TG} {tb : TS} {Dn : Ends} {σ : L2.St} (w : Walks K G J ds) (Pv : Nat → L2.St → Hp → Hp → Prop)
    (sm : ∀ i σ G1 H1, Pv i σ G1 H1 → Same G G1 ∧ Same G1 H1) (h0 : Pv 0 σ G H)
    (hs : ∀ i d σ G1 H1, ds[i]? = some d → Pv i σ G1 H1 → ∀ x G2 H2, Stp G1 H1 G2 H2 → Is K G2 d x →
      g x σ H2 fun σ3 H3 => tb { Dn with nx := fun σ4 H4 => ∃ G4, Pv (i + 1) σ4 G4 H4, ct := fun σ4 H4 => ∃ G4, Pv (i + 1) σ4 G4 H4, bk := Dn.nx } σ3 H3)
    (hd : ∀ σ' G' H', Pv ds.length σ' G' H' → Dn.nx σ' H') :
    ∃ W : Nat → Nat → L2.St → Hp → Prop, (∃ m, W 0 m σ H) ∧ ∀ i m σ H, W i m σ H →
      (J.stop i H ∧ Dn.nx σ H) ∨ (J.go i H ∧ ∃ N : L2.St → Hp → Prop, (∀ σ' H', N σ' H' → ∃ m', m' < m ∧ W (i + 1) m' σ' H') ∧ ∀ x H', J.yld i H x H' → g x σ H' fun σ2 H2 => tb { Dn with nx := N, ct := N, bk := Dn.nx } σ2 H2) := by
  refine ⟨fun i m σ H => m = ds.length - i ∧ i ≤ ds.length ∧ ∃ G1, Pv i σ G1 H, ⟨ds.length, by simp, Nat.zero_le _, G, h0⟩, ?_⟩
  rintro i m σ H ⟨rfl, hi, G1, p⟩
  obtain ⟨e1, e2⟩ := sm i σ G1 H p
  by_cases hlt : i < ds.length
  · have hd' : ds[i]? = some ds[i] := by simp [hlt]
    obtain ⟨go, yl⟩ := w.go G1 H e1 e2 i _ hd'
    refine .inr ⟨go, fun σ' H' => ∃ G4, Pv (i + 1) σ' G4 H', fun σ' H' q => ⟨ds.length - (i + 1), by omega, rfl, hlt, q⟩, fun x H' y => ?_⟩
    obtain ⟨G3, s3, i3⟩ := yl x H' y
    exact hs i _ σ G1 H hd' p x G3 H' s3 i3
  · have e : i = ds.length := by omega
    subst e
    exact .inl ⟨w.stop G1 H e1 e2, hd σ G1 H p⟩
/-- f: the names ahead of each turn -/
theorem sd_for {wi : TI} {g : TG} {tb : TS} {f : Nat → Rho} (hi : ItD K ρ wi ds) (h0 : f 0 = ρ)
    (hs : ∀ (i : Nat) (d : D), ds[i]? = some d → ∃ ρ1 is, TgD K (f i) g d ρ1 is ∧ (StD K ρ1 tb (.nx (f (i + 1))) ∨ StD K ρ1 tb (.ct (f (i + 1))))) : StD K ρ (tFor wi g tb) (.nx (f ds.length)) := fun Dn σ G H e n q =>
  hi σ G H e n _ fun J G1 H1 s1 w => by
    refine for_raw w (fun i σ' G' H' => Stp G1 H1 G' H' ∧ En K G' (f i) σ') (fun i σ G' H' p => ⟨p.1.g, p.1.le⟩) ⟨Stp.refl s1.le, by rw [h0]; exact n.mono s1.g⟩ (fun i d σ2 G2 H2 hd p x G3 H3 s3 i3 => ?_) fun σ' G' H' p => q σ' G' H' (s1.trans p.1) p.2
    obtain ⟨ρ1, is, tg, st⟩ := hs i d hd
    refine tg x σ2 G3 H3 s3.le (p.2.mono s3.g) i3 _ fun σ4 G4 H4 s4 n4 _ => ?_
    rcases st with st | st
    · exact st _ σ4 G4 H4 s4.le n4 fun σ5 G5 H5 s5 n5 => ⟨G5, ((p.1.trans s3).trans s4).trans s5, n5⟩
    · exact st _ σ4 G4 H4 s4.le n4 fun σ5 G5 H5 s5 n5 => ⟨G5, ((p.1.trans s3).trans s4).trans s5, n5⟩
/-- a return at the turn j -/
theorem sd_for_rt {wi : TI} {g : TG} {tb : TS} {f : Nat → Rho} {j : Nat} {z : D} (hi : ItD K ρ wi ds) (h0 : f 0 = ρ) (hj : j < ds.length)
    (hs : ∀ (i : Nat) (d : D), ds[i]? = some d → i < j → ∃ ρ1 is, TgD K (f i) g d ρ1 is ∧ (StD K ρ1 tb (.nx (f (i + 1))) ∨ StD K ρ1 tb (.ct (f (i + 1)))))
    (hr : ∀ d, ds[j]? = some d → ∃ ρ1 is, TgD K (f j) g d ρ1 is ∧ StD K ρ1 tb (.rt z)) : StD K ρ (tFor wi g tb) (.rt z) := fun Dn σ G H e n q =>
  hi σ G H e n _ fun J G1 H1 s1 w => by
    refine for_raw w (fun i σ' G' H' => i ≤ j ∧ Stp G1 H1 G' H' ∧ En K G' (f i) σ') (fun i σ G' H' p => ⟨p.2.1.g, p.2.1.le⟩) ⟨Nat.zero_le _, Stp.refl s1.le, by rw [h0]; exact n.mono s1.g⟩ (fun i d σ2 G2 H2 hd p x G3 H3 s3 i3 => ?_) fun σ' G' H' p => by
      have := p.1; omega
    obtain ⟨hle, ps, pn⟩ := p
    by_cases hlt : i < j
    · obtain ⟨ρ1, is, tg, st⟩ := hs i d hd hlt
      refine tg x σ2 G3 H3 s3.le (pn.mono s3.g) i3 _ fun σ4 G4 H4 s4 n4 _ => ?_
      rcases st with st | st
      · exact st _ σ4 G4 H4 s4.le n4 fun σ5 G5 H5 s5 n5 => ⟨G5, hlt, ((ps.trans s3).trans s4).trans s5, n5⟩
      · exact st _ σ4 G4 H4 s4.le n4 fun σ5 G5 H5 s5 n5 => ⟨G5, hlt, ((ps.trans s3).trans s4).trans s5, n5⟩
    · have e : i = j := by omega
      subst e
      obtain ⟨ρ1, is, tg, st⟩ := hr d hd
      refine tg x σ2 G3 H3 s3.le (pn.mono s3.g) i3 _ fun σ4 G4 H4 s4 n4 _ => ?_
      exact st _ σ4 G4 H4 s4.le n4 fun v G5 H5 s5 i5 => q v G5 H5 ((((s1.trans ps).trans s3).trans s4).trans s5) i5
theorem sd_while {f : Nat → Rho} (k : Nat) (h0 : f 0 = ρ) (hc : ∀ i, i < k → EvB K (f i) tt true) (hb : ∀ i, i < k → StD K (f i) t (.nx (f (i + 1)))) (he : EvB K (f k) tt false) : StD K ρ (tWhile tt t) (.nx (f k)) := fun Dn σ G H e n q => by
  refine ⟨fun m σ' H' => ∃ i G', i ≤ k ∧ m = k - i ∧ Stp G H G' H' ∧ En K G' (f i) σ', ⟨k, 0, G, Nat.zero_le _, rfl, Stp.refl e, by rw [h0]; exact n⟩, ?_⟩
  rintro m σ1 H1 ⟨i, G1, hi, rfl, s1, n1⟩
  by_cases hlt : i < k
  · exact hc i hlt σ1 G1 H1 s1.le n1 _ fun G2 H2 s2 => ⟨fun σ' H' => ∃ G', Stp G H G' H' ∧ En K G' (f (i + 1)) σ', fun σ' H' ⟨G', p1, p2⟩ => ⟨k - (i + 1), by omega, i + 1, G', hlt, rfl, p1, p2⟩,
      hb i hlt _ σ1 G2 H2 s2.le (n1.mono s2.g) fun σ3 G3 H3 s3 n3 => ⟨G3, (s1.trans s2).trans s3, n3⟩⟩
  · have e : i = k := by omega
    subst e
    exact he σ1 G1 H1 s1.le n1 _ fun G2 H2 s2 => q σ1 G2 H2 (s1.trans s2) (n1.mono s2.g)
/-! ### comprehensions -/
/-- what is kept of n turns -/
def kept (b : Nat → Bool) (e : Nat → D) : Nat → List D
  | 0 => []
  | n + 1 => kept b e n ++ (if b n = true then [e n] else [])
theorem kept_len (b : Nat → Bool) (e : Nat → D) : ∀ n, (kept b e n).length ≤ n
  | 0 => Nat.le_refl _
  | n + 1 => by
    have := kept_len b e n
    unfold kept
    rw [List.length_append]
    split <;> simp <;> omega
theorem kept_all {b : Nat → Bool} {e : Nat → D} (h : ∀ i, b i = true) : ∀ n, kept b e n = (List.range n).map e
  | 0 => rfl
  | n + 1 => by unfold kept; rw [kept_all h n, if_pos (h n), List.range_succ, List.map_append]; rfl
/-- a list of its own that no one else has -/
def EvN (K : PySem.W.Frag) (ρ : Rho) (te : TE) (l : List D) : Prop := ∀ (σ : L2.St) (G H : Hp), Same G H → En K G ρ σ → ∀ Q : VK, (∀ p xs G' H', Stp G H G' H' → G' p = none → H p = none → H' p = some (.lst xs) → IsL K G' l xs → Q (.ref p) H') → te σ H Q
theorem ed_of_en {l : List D} (h : EvN K ρ te l) : EvD K ρ te (.lst l) := fun σ G H e n Q q => h σ G H e n Q fun p xs G' H' s np hp hx hl => by
  refine q _ (upd G' p (.lst xs)) H' ⟨fun a u z => ?_, s.h, same_give s.le hx, fun a z1 z2 => ?_⟩ (mk_lst upd_same (IsL.mono (same_new np) _ _ hl))
  · have ne : a ≠ p := ne_of_none (s.g a u z) np
    rw [upd_ne ne]; exact s.g a u z
  · have ne : a ≠ p := fun q => by subst q; exact z2 hp
    rw [upd_ne ne]; exact s.nw a z1 z2
theorem en_lcK {wi : TI} {g : TG} {vs : List Nat} {b : Nat → Bool} {e : Nat → D} (hi : ItD K ρ wi ds) (hl : ds.length < 1000000)
    (hs : ∀ (i : Nat) (d : D), ds[i]? = some d → ∃ ρ1 is, TgD K (wipeD ρ vs) g d ρ1 is ∧ (∀ i ∈ is, i ∈ vs) ∧ EvB K ρ1 tt (b i) ∧ (b i = true → EvD K ρ1 te (e i))) :
    EvN K ρ (tLc wi g tt te vs) (kept b e ds.length) := fun σ G H em n Q q =>
  hi σ G H em n _ fun J G1 H1 s1 w => fun p hp => by
    refine ⟨fun i m H' => m = ds.length - i ∧ i ≤ ds.length ∧ ∃ G', Stp G1 (upd H1 p (.lst [])) G' (upd H' p (.lst [])) ∧ Same G' H' ∧ G' p = none ∧ ∃ xs, H' p = some (.lst xs) ∧ IsL K G' (kept b e i) xs,
      ⟨ds.length, by simp, Nat.zero_le _, G1, ?_, ?_, s1.le.free hp, [], upd_same, isL_nil⟩, ?_⟩
    · rw [upd_upd]; exact Stp.refl (s1.le.trans (same_new hp))
    · exact s1.le.trans (same_new hp)
    rintro i m H2 ⟨rfl, hle, G2, s2, e2, np, xs, hx, hxl⟩
    by_cases hlt : i < ds.length
    · have hd' : ds[i]? = some ds[i] := by simp [hlt]
      obtain ⟨go, yl⟩ := w.go G2 H2 s2.g e2 i _ hd'
      refine .inr ⟨go, fun H' => i + 1 ≤ ds.length ∧ ∃ G', Stp G1 (upd H1 p (.lst [])) G' (upd H' p (.lst [])) ∧ Same G' H' ∧ G' p = none ∧ ∃ xs, H' p = some (.lst xs) ∧ IsL K G' (kept b e (i + 1)) xs,
        fun H' z => ⟨ds.length - (i + 1), by omega, rfl, z.1, z.2⟩, fun x H3 y => ?_⟩
      obtain ⟨G3, s3, i3⟩ := yl x H3 y
      obtain ⟨ρ1, is, tg, hin, hb, he⟩ := hs i _ hd'
      have up : ∀ {G' H' : Hp}, Stp G2 H2 G' H' → Stp G1 (upd H1 p (.lst [])) G' (upd H' p (.lst [])) ∧ G' p = none ∧ H' p = some (.lst xs) := fun {G' H'} s => by
        have hp' : H' p = some (.lst xs) := s.h _ _ hx
        have gp' : G' p = none := s.nw p np (by rw [hx]; intro z; cases z)
        refine ⟨s2.trans ⟨s.g, fun a u z => ?_, same_own s.le gp', fun a z1 z2 => ?_⟩, gp', hp'⟩
        · by_cases q : a = p
          · subst q; rw [upd_same] at z ⊢; exact z
          · rw [upd_ne q] at z ⊢; exact s.h a u z
        · by_cases q : a = p
          · subst q; exact gp'
          · rw [upd_ne q] at z2; exact s.nw a z1 z2
      refine tg x _ G3 H3 s3.le (((n.mono (s1.g.trans (s2.g.trans s3.g))).wipe vs)) i3 _ fun σ4 G4 H4 s4 n4 w4 => ⟨?_, ?_⟩
      · rw [w4 vs hin, wipe_wipe fun i hi => hi]
      · refine hb σ4 G4 H4 s4.le n4 _ fun G5 H5 s5 => ?_
        have s35 := (s3.trans s4).trans s5
        cases hbi : b i with
        | false =>
          rw [if_neg Bool.false_ne_true]
          obtain ⟨u1, u2, u3⟩ := up s35
          refine ⟨hlt, G5, u1, s5.le, u2, xs, u3, ?_⟩
          unfold kept
          rw [hbi, if_neg Bool.false_ne_true, List.append_nil]
          exact IsL.mono s35.g _ _ hxl
        | true =>
          rw [if_pos rfl]
          refine he hbi σ4 G5 H5 s5.le (n4.mono s5.g) _ fun z G6 H6 s6 i6 => ?_
          have s36 := s35.trans s6
          obtain ⟨u1, u2, u3⟩ := up s36
          refine ⟨xs, u3, ?_, hlt, G6, ?_, same_own s6.le u2, u2, xs ++ [z], upd_same, ?_⟩
          · have h1 := hxl.length
            have h2 := kept_len b e i
            exact sz_lt (by omega)
          · rw [upd_upd]; exact u1
          · unfold kept
            rw [hbi, if_pos rfl]
            exact (IsL.mono s36.g _ _ hxl).append (isL_cons i6 isL_nil)
    · have e' : i = ds.length := by omega
      subst e'
      refine .inl ⟨w.stop G2 H2 s2.g e2, ?_⟩
      have fin : Stp G1 H1 G2 H2 := by
        refine ⟨s2.g, fun a u z => ?_, e2, fun a z1 z2 => ?_⟩
        · have ne : a ≠ p := ne_of_none z hp
          have := s2.h a u (by rw [upd_ne ne]; exact z)
          rw [upd_ne ne] at this; exact this
        · have ne : a ≠ p := fun q => by subst q; exact z2 hp
          exact s2.nw a z1 (by rw [upd_ne ne]; exact z2)
      have hp0 : H p = none := by
        cases z : H p with
        | none => rfl
        | some u => rw [s1.h p u z] at hp; cases hp
      exact q p xs G2 H2 (s1.trans fin) np hp0 hx hxl
theorem ed_lcK {wi : TI} {g : TG} {vs : List Nat} {b : Nat → Bool} {e : Nat → D} (hi : ItD K ρ wi ds) (hl : ds.length < 1000000)
    (hs : ∀ (i : Nat) (d : D), ds[i]? = some d → ∃ ρ1 is, TgD K (wipeD ρ vs) g d ρ1 is ∧ (∀ i ∈ is, i ∈ vs) ∧ EvB K ρ1 tt (b i) ∧ (b i = true → EvD K ρ1 te (e i))) :
    EvD K ρ (tLc wi g tt te vs) (.lst (kept b e ds.length)) := ed_of_en (en_lcK hi hl hs)
theorem et_yes : EvB K ρ tYes true := fun σ G H e n Q q => q G H (Stp.refl e)
/-- without a test, the elements by a function of the turn -/
theorem en_lc {wi : TI} {g : TG} {vs : List Nat} {es : List D} (hi : ItD K ρ wi ds) (hl : ds.length < 1000000) (hes : es.length = ds.length)
    (hs : ∀ (i : Nat) (d e : D), ds[i]? = some d → es[i]? = some e → ∃ ρ1 is, TgD K (wipeD ρ vs) g d ρ1 is ∧ (∀ i ∈ is, i ∈ vs) ∧ EvD K ρ1 te e) :
    EvN K ρ (tLc wi g tYes te vs) es := by
  have z := en_lcK (K := K) (ρ := ρ) (tt := tYes) (te := te) (wi := wi) (g := g) (vs := vs) (b := fun _ => true) (e := fun i => es[i]?.getD .any) hi hl fun i d hd => by
    have hi : i < es.length := by rw [hes]; exact (List.getElem?_eq_some_iff.mp hd).1
    have he : es[i]? = some es[i] := by simp [hi]
    obtain ⟨ρ1, is, h1, h2, h3⟩ := hs i d _ hd he
    exact ⟨ρ1, is, h1, h2, et_yes, fun _ => by rw [he]; exact h3⟩
  rw [kept_all fun _ => rfl] at z
  have e : (List.range ds.length).map (fun i => es[i]?.getD .any) = es := by
    rw [← hes]
    refine List.ext_getElem? fun i => ?_
    rw [List.getElem?_map]
    by_cases q : i < es.length
    · rw [List.getElem?_range q]; simp [q]
    · rw [List.getElem?_eq_none (by simpa using q), List.getElem?_eq_none (by simpa using q)]; rfl
  rw [e] at z
  exact z
theorem ed_lc {wi : TI} {g : TG} {vs : List Nat} {es : List D} (hi : ItD K ρ wi ds) (hl : ds.length < 1000000) (hes : es.length = ds.length)
    (hs : ∀ (i : Nat) (d e : D), ds[i]? = some d → es[i]? = some e → ∃ ρ1 is, TgD K (wipeD ρ vs) g d ρ1 is ∧ (∀ i ∈ is, i ∈ vs) ∧ EvD K ρ1 te e) :
    EvD K ρ (tLc wi g tYes te vs) (.lst es) := ed_of_en (en_lc hi hl hes hs)
/-! ### promises -/
/-- a def that changes nothing: R ds d says that for the arguments ds it hands back d -/
def spP (K : PySem.W.Frag) (R : List D → D → Prop) : Sp := fun vs H Q _ => ∃ G ds d, Same G H ∧ IsL K G ds vs ∧ R ds d ∧ ∀ v G' H', Stp G H G' H' → Is K G' d v → Q v H'
theorem ed_call {R : List D → D → Prop} {E : XK} (h : EvA K ρ tl ds) (hR : R ds d) : EvD K ρ (tCall (spP K R) [] E tl) d := fun σ G H e n Q q =>
  h σ G H e n _ fun vs G1 H1 s1 i1 => ⟨G1, ds, d, s1.le, by rw [List.append_nil]; exact i1, hR, fun v G2 H2 s2 i2 => q v G2 H2 (s1.trans s2) i2⟩
/-- the names ahead of a body -/
def start0 (N : List Str) (ds : List D) : Rho := ds.map some ++ List.replicate (N.length - ds.length) none
theorem en_start {G : Hp} {N : List Str} {vs : List V} (h : IsL K G ds vs) : En K G (start0 N ds) (L2.start N vs) := by
  have hl := h.length
  refine ⟨by unfold L2.start start0; simp [hl], fun i d q => ?_⟩
  unfold start0 at q
  unfold L2.start
  by_cases hi : i < ds.length
  · rw [List.getElem?_append_left (by simpa using hi), List.getElem?_map] at q
    cases e : ds[i]? with
    | none => rw [e] at q; cases q
    | some x =>
      rw [e] at q; simp at q; subst q
      obtain ⟨v, h1, h2⟩ := h.get e
      refine ⟨v, ?_, h2⟩
      rw [List.getElem?_append_left (by simp; omega), List.getElem?_map, h1]; rfl
  · rw [List.getElem?_append_right (by simpa using hi), List.getElem?_replicate] at q
    split at q <;> cases q
/-- a body keeps its promise -/
theorem body_rt {t : TS} {N : List Str} {vs : List V} {G H : Hp} {Q : VK} (e : Same G H) (i : IsL K G ds vs) (k : ∀ v G' H', Stp G H G' H' → Is K G' d v → Q v H') (h : StD K (start0 N ds) t (.rt d)) : t { nx := fun _ H' => Q .non H', rt := Q } (L2.start N vs) H :=
  h _ _ G H e (en_start i) k
theorem body_nx {t : TS} {N : List Str} {vs : List V} {G H : Hp} {Q : VK} {ρ' : Rho} (e : Same G H) (i : IsL K G ds vs) (k : ∀ v G' H', Stp G H G' H' → Is K G' .non v → Q v H') (h : StD K (start0 N ds) t (.nx ρ')) : t { nx := fun _ H' => Q .non H', rt := Q } (L2.start N vs) H :=
  h _ _ G H e (en_start i) fun σ' G' H' s n => k .non G' H' s mk_non
end
/-- a def of the module that keeps a promise -/
structure Ok (P : Program) (w : World) (K : PySem.W.Frag) (mg : Str → Option Value) (base : Heap) (k : Nat) (f : Addr) (ps : List Str) (sp : Sp) : Prop where
  ex : ∃ fd, Binds K fd ps [] ∧ FnOk P w K mg base CX0 k f fd ps sp
  kp : PySem.W.keepIn K (.ref f) = true
theorem Ok.mk' {P : Program} {w : World} {K : PySem.W.Frag} {mg : Str → Option Value} {base : Heap} {k : Nat} {f : Addr} {ps N : List Str} {sp : Sp} {x qual : Str} {params : Arguments} {body : List Stmt} {scope : Scope}
    (F : ∃ fd, FunD K x qual params body scope [] [] f fd) (S : FnScope N ps scope)
    (hb : ∀ (fd : FuncData), FunD K x qual params body scope [] [] f fd → Binds K fd ps [])
    (len : ∀ vs H Q E, sp vs H Q E → vs.length = ps.length)
    (hbody : ∀ (cdv : Value) (A : Around) (outer : List Env) (s : Shared) (H : Hp) (vs : List V) (Q : VK) (E : XK), Room k (A.deeper (envOfC qual scope s.heap.objs.size f cdv)) → sp vs H Q E →
      ∃ t, PSs (cxOf CX0 P w K mg base N qual scope f cdv A outer s H E).nox body t ∧ t { nx := fun _ H' => Q .non H', rt := Q } (L2.start N vs) H) : Ok P w K mg base (k + 1) f ps sp := by
  obtain ⟨fd, F⟩ := F
  refine ⟨⟨fd, hb fd F, F.ok S len fun cdv A outer s H vs Q E hr hsp => ?_⟩, F.kp⟩
  obtain ⟨t, h, q⟩ := hbody cdv A outer s H vs Q E hr hsp
  exact ⟨t, h.nox, q⟩
theorem Ok.pe {X : Cx} {k : Nat} {f : Addr} {ps : List Str} {sp : Sp} {x : Str} {p pos : Pos} {e : Expr} {es : List Expr} {t : TA} (h : Ok X.prog X.w X.K X.mg X.base k f ps sp) (hr : Room k X.A) (hg : Gl X x) (hm : X.mg x = some (.ref f)) (ha : PA X (e :: es) t)
    (hdb : (x == ("__debug__" : Str)) = false := by decide) (he : starEach (e :: es) X.env = (false, eval e X.env) :: starEach es X.env := by rfl) (hpl : (backTo pos (starEach es X.env)).any (·.1) = false := by rfl) :
    PE X (.Call (.Name x p) (e :: es) [] pos) (tCall sp [] E0 t) := by
  obtain ⟨fd, hb, F⟩ := h.ex
  exact pe_call F hr hg hm h.kp hb .nil pass0 ha hdb he hpl
theorem PI.or {X : Cx} {tg e : Expr} {w1 w2 : TI} (h : PI X tg e w1) (h' : PI X tg e w2) : PI X tg e (fun σ H R => w1 σ H R ∨ w2 σ H R) :=
  ⟨fun pins s σ H R I q => q.elim (fun z => h.run pins s σ H R I z) fun z => h'.run pins s σ H R I z⟩
def iSeq (K : PySem.W.Frag) (te : TE) : TI := fun σ H R => iList K te σ H R ∨ iTup K te σ H R
theorem pi_seq {X : Cx} {tg l : Expr} {tl : TE} (hl : PE X l tl) : PI X tg l (iSeq X.K tl) := PI.or (pi_list hl) (pi_tup hl)
theorem id_seqL {K : PySem.W.Frag} {ρ : Rho} {te : TE} {ds : List D} (h : EvD K ρ te (.lst ds)) : ItD K ρ (iSeq K te) ds := fun σ G H e n R q => .inl (id_list h σ G H e n R q)
theorem id_seqT {K : PySem.W.Frag} {ρ : Rho} {te : TE} {ds : List D} (h : EvD K ρ te (.tup ds)) : ItD K ρ (iSeq K te) ds := fun σ G H e n R q => .inr (id_tup h σ G H e n R q)
theorem loc {sc : Scope} {x : Str} (h : sc.names.lookup x = some .local ∨ sc.names.lookup x = some .cell) : Loc sc x := h
theorem Ok.len {P : Program} {w : World} {K : PySem.W.Frag} {mg : Str → Option Value} {base : Heap} {k : Nat} {f : Addr} {ps : List Str} {R : List D → D → Prop} (h : ∀ ds d, R ds d → ds.length = ps.length) : ∀ vs H Q E, spP K R vs H Q E → vs.length = ps.length :=
  fun vs H Q E ⟨G, ds, d, _, i, r, _⟩ => by rw [← i.length]; exact h ds d r
end Pu
end
section
set_option Elab.async false
set_option linter.all false
set_option maxRecDepth 100000
set_option maxHeartbeats 4000000
/-! Pu3: the operations by data. -/
namespace Pu
open PySem PySem.Spec PyProof.Rows L2 StX RZ
section
variable {X : Cx}
/-! ### one rule an operator, whatever its kinds -/
def rStrCat : R2 := fun x y H Q => ∃ i j, x = .str i ∧ y = .str j ∧ i.length + j.length ≤ sizeLine ∧ Q (.str (i ++ j)) H
def rAddX : R2 := fun x y H Q => rI0 (fun i j => .int (i + j)) x y H Q ∨ (rCat x y H Q ∨ rStrCat x y H Q)
theorem op_addX : OpR X (binaryOp .Add) rAddX := op_add.or (op_cat.or op_add_str)
def rMulX (K : PySem.W.Frag) : R2 := fun x y H Q => rI CMulW (fun i j => .int (i * j)) x y H Q ∨ (rRep x y H Q ∨ rRepT K x y H Q)
theorem op_mulX : OpR X (binaryOp .Mult) (rMulX X.K) := op_mulW.or (op_rep.or op_repT)
def rSubX : R2 := rI0 fun i j => .int (i - j)
theorem op_subX : OpR X (binaryOp .Sub) rSubX := op_sub
def rDivX : R2 := rI CDivW fun i j => .int (i / j)
theorem op_divX : OpR X (binaryOp .FloorDiv) rDivX := op_fdivW
def rModX : R2 := rI (fun _ j => 0 < j) fun i j => .int (i % j)
theorem op_modX : OpR X (binaryOp .Mod) rModX := op_mod
def rPowX : R2 := rI CPow fun i j => .int (i ^ j.toNat)
theorem op_powX : OpR X (binaryOp .Pow) rPowX := op_pow
def rNegX : V → Hp → VK → Prop := rU fun i => .int (-i)
theorem un_negX : UnR X (unaryOp .USub) rNegX := un_neg
def rLtX : R2 := rI0 fun i j => .bl (decide (i < j))
theorem op_ltX : OpR X (compareOp .Lt) rLtX := op_lt
def rLeX : R2 := rI0 fun i j => .bl (decide (i ≤ j))
theorem op_leX : OpR X (compareOp .LtE) rLeX := op_le
def rGtX : R2 := rI0 fun i j => .bl (decide (j < i))
theorem op_gtX : OpR X (compareOp .Gt) rGtX := op_gt
def rGeX : R2 := rI0 fun i j => .bl (decide (j ≤ i))
theorem op_geX : OpR X (compareOp .GtE) rGeX := op_ge
def rIsX : R2 := fun x y H Q => (y = .non ∧ Q (.bl (decide (x = .non))) H) ∨ rIsB x y H Q
theorem op_isX : OpR X (compareOp .Is) rIsX := op_isN.or op_isBl
def rIsNotX : R2 := fun x y H Q => (y = .non ∧ Q (.bl (!decide (x = .non))) H) ∨ rNotB x y H Q
theorem op_isNotX : OpR X (compareOp .IsNot) rIsNotX := op_notN.or op_notBl
def rInX (K : PySem.W.Frag) : R2 := fun x y H Q => rIn K false x y H Q ∨ rInD K x y H Q
theorem op_inX (hu : X.A.units + 65 < cLine) : OpR X (compareOp .In) (rInX X.K) := op_in_seq.or (op_inD hu)
def rNotInX (K : PySem.W.Frag) : R2 := rIn K true
theorem op_notInX : OpR X (compareOp .NotIn) (rNotInX X.K) := op_notIn_seq
theorem hu65 {A : Around} {k : Nat} (r : Room k A) : A.units + 65 < cLine := by have := r.un; omega
end
section
variable {K : PySem.W.Frag} {ρ : Rho} {ta tb te : TE} {tl : TA} {i j : Int} {l m ds : List D} {a b d : D} {n k : Nat}
theorem rv_add : RvD K rAddX (.int i) (.int j) (.int (i + j)) := fun G H x y e hx hy Q q => .inl ⟨i, j, is_int hx, is_int hy, q _ G H (Stp.refl e) mk_int⟩
theorem rv_cat (h : l.length + m.length ≤ 1000000) : RvD K rAddX (.lst l) (.lst m) (.lst (l ++ m)) := fun G H x y e hx hy Q q => by
  obtain ⟨p, xs, rfl, h1, h2⟩ := is_lst hx
  obtain ⟨p', ys, rfl, h3, h4⟩ := is_lst hy
  refine .inr (.inl ⟨p, p', xs, ys, rfl, rfl, e _ _ h1, e _ _ h3, sz_le (by rw [← h2.length, ← h4.length]; exact h), fun r hr => ?_⟩)
  have hg := e.free hr
  exact q _ _ _ (Stp.new e hr) (mk_lst upd_same (IsL.mono (same_new hg) _ _ (h2.append h4)))
theorem rv_strcat (h : n + k ≤ 1000000) : RvD K rAddX (.txt n) (.txt k) (.txt (n + k)) := fun G H x y e hx hy Q q => by
  obtain ⟨z, rfl, h1⟩ := is_txt hx
  obtain ⟨w, rfl, h2⟩ := is_txt hy
  refine .inr (.inr ⟨z, w, rfl, rfl, sz_le (by omega), q _ G H (Stp.refl e) (mk_txt ?_)⟩)
  have : (z ++ w).length = z.length + w.length := by
    show (⟨z.cps ++ w.cps⟩ : Str).length = _
    simp [Str.length]
  omega
theorem rv_mul (h : CMulW i j) : RvD K (rMulX K) (.int i) (.int j) (.int (i * j)) := fun G H x y e hx hy Q q => .inl ⟨i, j, is_int hx, is_int hy, h, q _ G H (Stp.refl e) mk_int⟩
theorem rep_flat {α : Type} (x : α) : ∀ n : Nat, (List.replicate n [x]).flatten = List.replicate n x
  | 0 => rfl
  | n + 1 => by rw [List.replicate_succ, List.flatten_cons, rep_flat x n]; rfl
theorem rv_rep {d : D} (h0 : 0 ≤ j) (h : j ≤ 1000000) : RvD K (rMulX K) (.lst [d]) (.int j) (.lst (List.replicate j.toNat d)) := fun G H x y e hx hy Q q => by
  obtain ⟨p, xs, rfl, h1, h2⟩ := is_lst hx
  obtain ⟨v, r, rfl, hv, hr⟩ := isL_cons_inv h2
  rw [isL_nil_inv hr] at h1
  refine .inr (.inl ⟨p, j, [v], rfl, is_int hy, e _ _ h1, by omega, by omega, sz_le (by simp; omega), fun r hr => ?_⟩)
  have hg := e.free hr
  refine q _ _ _ (Stp.new e hr) (mk_lst upd_same ?_)
  rw [rep_flat]
  exact isL_rep (Is.mono (same_new hg) _ _ hv) _
theorem rv_repT {d : D} (h0 : 2 ≤ j) (h : j ≤ 1000) : RvD K (rMulX K) (.tup [d]) (.int j) (.tup (List.replicate j.toNat d)) := fun G H x y e hx hy Q q => by
  obtain ⟨p, xs, rfl, h1, h2⟩ := is_tup hx
  obtain ⟨v, r, rfl, hv, hr⟩ := isL_cons_inv h2
  rw [isL_nil_inv hr] at h1
  refine .inr (.inr ⟨p, j, [v], rfl, is_int hy, SqT.of (e _ _ h1), by simp, h0, h, by simp, fun r hr => ?_⟩)
  have hg := e.free hr
  refine q _ _ _ (Stp.new e hr) (mk_tup upd_same ?_)
  rw [rep_flat]
  exact isL_rep (Is.mono (same_new hg) _ _ hv) _
theorem rv_I0 {g : Int → Int → V} {c : D} (hc : ∀ G, Is K G c (g i j)) : RvD K (rI0 g) (.int i) (.int j) c := fun G H x y e hx hy Q q => ⟨i, j, is_int hx, is_int hy, q _ G H (Stp.refl e) (hc G)⟩
theorem rv_sub : RvD K rSubX (.int i) (.int j) (.int (i - j)) := rv_I0 fun _ => mk_int
theorem rv_div (h : CDivW i j) : RvD K rDivX (.int i) (.int j) (.int (i / j)) := fun G H x y e hx hy Q q => ⟨i, j, is_int hx, is_int hy, h, q _ G H (Stp.refl e) mk_int⟩
theorem rv_mod (h : 0 < j) : RvD K rModX (.int i) (.int j) (.int (i % j)) := fun G H x y e hx hy Q q => ⟨i, j, is_int hx, is_int hy, h, q _ G H (Stp.refl e) mk_int⟩
theorem rv_pow (h : CPow i j) : RvD K rPowX (.int i) (.int j) (.int (i ^ j.toNat)) := fun G H x y e hx hy Q q => ⟨i, j, is_int hx, is_int hy, h, q _ G H (Stp.refl e) mk_int⟩
theorem ru_neg : RuD K rNegX (.int i) (.int (-i)) := fun G H x e hx Q q => ⟨i, is_int hx, q _ G H (Stp.refl e) mk_int⟩
theorem rv_lt : RvD K rLtX (.int i) (.int j) (.bl (decide (i < j))) := rv_I0 fun _ => mk_bl
theorem rv_le : RvD K rLeX (.int i) (.int j) (.bl (decide (i ≤ j))) := rv_I0 fun _ => mk_bl
theorem rv_gt : RvD K rGtX (.int i) (.int j) (.bl (decide (j < i))) := rv_I0 fun _ => mk_bl
theorem rv_ge : RvD K rGeX (.int i) (.int j) (.bl (decide (j ≤ i))) := rv_I0 fun _ => mk_bl
/-- is None -/
def isNon : D → Option Bool
  | .non => some true
  | .any => none
  | _ => some false
theorem isNon_ok {G : Hp} {v : V} {k : Bool} (h : isNon d = some k) (hv : Is K G d v) : decide (v = .non) = k := by
  cases d with
  | non => cases h; rw [is_non hv]; rfl
  | any => cases h
  | bl b => cases h; rw [is_bl hv]; rfl
  | int i => cases h; rw [is_int hv]; rfl
  | txt n => cases h; obtain ⟨z, rfl, _⟩ := is_txt hv; rfl
  | adr a => cases h; rw [is_adr hv]; rfl
  | sql ns => cases h; obtain ⟨a, rfl, _⟩ := is_sql hv; rfl
  | tup l => cases h; obtain ⟨a, xs, rfl, _⟩ := is_tup hv; rfl
  | lst l => cases h; obtain ⟨a, xs, rfl, _⟩ := is_lst hv; rfl
  | obj C ns l => cases h; obtain ⟨a, dx, fs, xs, rfl, _⟩ := is_obj hv; rfl
theorem rv_isN {k : Bool} (h : isNon a = some k) : RvD K rIsX a .non (.bl k) := fun G H x y e hx hy Q q => .inl ⟨is_non hy, by
  rw [isNon_ok h hx]; exact q _ G H (Stp.refl e) mk_bl⟩
theorem rv_isNotN {k : Bool} (h : isNon a = some k) : RvD K rIsNotX a .non (.bl (!k)) := fun G H x y e hx hy Q q => .inl ⟨is_non hy, by
  rw [isNon_ok h hx]; exact q _ G H (Stp.refl e) mk_bl⟩
theorem rv_isNotB {j k : Bool} : RvD K rIsNotX (.bl j) (.bl k) (.bl (!decide (j = k))) := fun G H x y e hx hy Q q => .inr ⟨j, k, is_bl hx, is_bl hy, q _ G H (Stp.refl e) mk_bl⟩
/-! plain data -/
mutual
def toP : D → PyData
  | .int i => .int i
  | .bl b => .bool b
  | .tup l => .tuple (toPs l)
  | .lst l => .list (toPs l)
  | _ => .none
def toPs : List D → List PyData
  | [] => []
  | d :: l => toP d :: toPs l
end
mutual
def plainD : D → Bool
  | .int _ => true
  | .bl _ => true
  | .non => true
  | .tup l => plainDs l
  | .lst l => plainDs l
  | _ => false
def plainDs : List D → Bool
  | [] => true
  | d :: l => plainD d && plainDs l
end
mutual
theorem dp_of {G H : Hp} (e : Same G H) : ∀ (d : D) (v : V), plainD d = true → Is K G d v → Dp K H v (toP d)
  | .int i, v, _, h => by rw [is_int h]; simp only [toP]; exact .int i
  | .bl b, v, _, h => by rw [is_bl h]; simp only [toP]; exact .bl b
  | .non, v, _, h => by rw [is_non h]; simp only [toP]; exact .non
  | .tup l, v, p, h => by
    obtain ⟨a, xs, rfl, h1, h2⟩ := is_tup h
    simp only [toP]
    exact .tup (SqT.of (e _ _ h1)) (dpAll_of e l xs (by simpa only [plainD] using p) h2)
  | .lst l, v, p, h => by
    obtain ⟨a, xs, rfl, h1, h2⟩ := is_lst h
    simp only [toP]
    exact .lst (SqL.of (e _ _ h1)) (dpAll_of e l xs (by simpa only [plainD] using p) h2)
  | .any, _, p, _ => by simp [plainD] at p
  | .txt _, _, p, _ => by simp [plainD] at p
  | .adr _, _, p, _ => by simp [plainD] at p
  | .sql _, _, p, _ => by simp [plainD] at p
  | .obj _ _ _, _, p, _ => by simp [plainD] at p
theorem dpAll_of {G H : Hp} (e : Same G H) : ∀ (l : List D) (xs : List V), plainDs l = true → IsL K G l xs → DpAll K H xs (toPs l)
  | [], _, _, h => by rw [isL_nil_inv h]; simp only [toPs]; exact .nil
  | d :: l, _, p, h => by
    obtain ⟨v, r, rfl, h1, h2⟩ := isL_cons_inv h
    have p2 : (plainD d && plainDs l) = true := by simpa only [plainDs] using p
    obtain ⟨p3, p4⟩ := Bool.and_eq_true_iff.mp p2
    simp only [toPs]
    exact .cons (dp_of e d v p3 h1) (dpAll_of e l r p4 h2)
end
theorem rv_eqD (pa : plainD a = true) (pb : plainD b = true) (sa : SeqAt.shaped (toP a) = true) (sb : SeqAt.shaped (toP b) = true) : RvD K (rEqD K) a b (.bl (PyData.eqv (toP a) (toP b))) := fun G H x y e hx hy Q q =>
  ⟨_, _, dp_of e a x pa hx, dp_of e b y pb hy, sa, sb, q _ G H (Stp.refl e) mk_bl⟩
theorem rv_neD (pa : plainD a = true) (pb : plainD b = true) (sa : SeqAt.shaped (toP a) = true) (sb : SeqAt.shaped (toP b) = true) : RvD K (rNeD K) a b (.bl (!PyData.eqv (toP a) (toP b))) := fun G H x y e hx hy Q q =>
  ⟨_, _, dp_of e a x pa hx, dp_of e b y pb hy, sa, sb, q _ G H (Stp.refl e) mk_bl⟩
theorem eqv_int : PyData.eqv (toP (.int i)) (toP (.int j)) = decide (i = j) := by
  simp only [toP, PyData.eqv]
  by_cases h : i = j
  · subst h; simp
  · simp [h]
theorem rv_eqI : RvD K (rEqD K) (.int i) (.int j) (.bl (decide (i = j))) := by
  have z := rv_eqD (K := K) (a := .int i) (b := .int j) rfl rfl rfl rfl
  rw [eqv_int] at z; exact z
theorem rv_neI : RvD K (rNeD K) (.int i) (.int j) (.bl (!decide (i = j))) := by
  have z := rv_neD (K := K) (a := .int i) (b := .int j) rfl rfl rfl rfl
  rw [eqv_int] at z; exact z
theorem rv_eqB {j k : Bool} : RvD K (rEqD K) (.bl j) (.bl k) (.bl (decide (j = k))) := by
  have z := rv_eqD (K := K) (a := .bl j) (b := .bl k) rfl rfl rfl rfl
  have e : PyData.eqv (toP (.bl j)) (toP (.bl k)) = decide (j = k) := by
    simp only [toP, PyData.eqv]
    cases j <;> cases k <;> rfl
  rw [e] at z; exact z
theorem rv_neB {j k : Bool} : RvD K (rNeD K) (.bl j) (.bl k) (.bl (!decide (j = k))) := by
  have z := rv_neD (K := K) (a := .bl j) (b := .bl k) rfl rfl rfl rfl
  have e : PyData.eqv (toP (.bl j)) (toP (.bl k)) = decide (j = k) := by
    simp only [toP, PyData.eqv]
    cases j <;> cases k <;> rfl
  rw [e] at z; exact z
theorem rv_inD (pa : plainD a = true) (pb : plainDs l = true) (sa : SeqAt.shaped (toP a) = true) (sb : SeqAt.shaped (toP (.lst l)) = true) : RvD K (rInX K) a (.lst l) (.bl ((toPs l).any fun z => PyData.eqv z (toP a))) := fun G H x y e hx hy Q q => by
  have h := dp_of e (.lst l) y (by simpa only [plainD] using pb) hy
  simp only [toP] at h sb
  exact .inr ⟨_, _, dp_of e a x pa hx, h, sa, sb, q _ G H (Stp.refl e) mk_bl⟩
theorem inV_ints {i : Int} : ∀ {ns : List Int}, inV (.int i) (ns.map V.int) = decide (i ∈ ns)
  | [] => rfl
  | n :: ns => by
    have ih := inV_ints (i := i) (ns := ns)
    unfold inV at ih ⊢
    rw [List.map_cons, List.any_cons, ih]
    show ((n == i) || decide (i ∈ ns)) = decide (i ∈ n :: ns)
    by_cases h : n = i
    · subst h; simp
    · have h2 : ¬ i = n := fun e => h e.symm
      simp [h, h2]
theorem flat_ints : ∀ {ns : List Int}, (ns.map V.int).all flatV = true
  | [] => rfl
  | n :: ns => by rw [List.map_cons, List.all_cons, flat_ints]; rfl
theorem rv_inI {ns : List Int} : RvD K (rInX K) (.int i) (.lst (ns.map D.int)) (.bl (decide (i ∈ ns))) := fun G H x y e hx hy Q q => by
  obtain ⟨p, xs, rfl, h1, h2⟩ := is_lst hy
  have hxs := isL_ints h2
  subst hxs
  rw [is_int hx]
  refine .inl ⟨p, _, rfl, .inl (SqL.of (e _ _ h1)), rfl, flat_ints, ?_⟩
  show Q (.bl (inV (.int i) (ns.map V.int))) H
  rw [inV_ints]; exact q _ G H (Stp.refl e) mk_bl
theorem rv_notInT {ns : List Int} : RvD K (rNotInX K) (.int i) (.tup (ns.map D.int)) (.bl (!decide (i ∈ ns))) := fun G H x y e hx hy Q q => by
  obtain ⟨p, xs, rfl, h1, h2⟩ := is_tup hy
  have hxs := isL_ints h2
  subst hxs
  rw [is_int hx]
  refine ⟨p, _, rfl, .inr (SqT.of (e _ _ h1)), rfl, flat_ints, ?_⟩
  show Q (.bl (!inV (.int i) (ns.map V.int))) H
  rw [inV_ints]; exact q _ G H (Stp.refl e) mk_bl
/-! items, slices -/
theorem rv_ixL {k : Nat} (h : l[k]? = some d) : RvD K (rIx K) (.lst l) (.int (k : Nat)) d := fun G H x y e hx hy Q q => by
  obtain ⟨p, xs, rfl, h1, h2⟩ := is_lst hx
  obtain ⟨v, h3, h4⟩ := h2.get h
  exact .inl ⟨p, xs, _, v, rfl, is_int hy, SqL.of (e _ _ h1), atI_nat h3, q v G H (Stp.refl e) h4⟩
theorem rv_ixT {k : Nat} (h : l[k]? = some d) : RvD K (rIx K) (.tup l) (.int (k : Nat)) d := fun G H x y e hx hy Q q => by
  obtain ⟨p, xs, rfl, h1, h2⟩ := is_tup hx
  obtain ⟨v, h3, h4⟩ := h2.get h
  exact .inr (.inl ⟨p, xs, _, v, rfl, is_int hy, SqT.of (e _ _ h1), atI_nat h3, q v G H (Stp.refl e) h4⟩)
theorem rv_ixLI {j : Int} (h0 : 0 ≤ j) (h : l[j.toNat]? = some d) : RvD K (rIx K) (.lst l) (.int j) d := by
  have z := rv_ixL (K := K) h
  rw [Int.toNat_of_nonneg h0] at z; exact z
theorem rv_ixTI {j : Int} (h0 : 0 ≤ j) (h : l[j.toNat]? = some d) : RvD K (rIx K) (.tup l) (.int j) d := by
  have z := rv_ixT (K := K) h
  rw [Int.toNat_of_nonneg h0] at z; exact z
theorem rv_ixLast (h : l[l.length - 1]? = some d) : RvD K (rIx K) (.lst l) (.int (-1)) d := fun G H x y e hx hy Q q => by
  obtain ⟨p, xs, rfl, h1, h2⟩ := is_lst hx
  obtain ⟨v, h3, h4⟩ := h2.get h
  have hl : 0 < l.length := by
    cases l with
    | nil => simp at h
    | cons x xs => simp
  have hl2 := h2.length
  have h5 : atI xs (-1) = some v := by
    unfold atI ixN
    rw [if_neg (by omega), if_pos (by omega)]
    show xs[((-1 : Int) + (xs.length : Nat)).toNat]? = some v
    rw [show ((-1 : Int) + (xs.length : Nat)).toNat = l.length - 1 by omega]; exact h3
  exact .inl ⟨p, xs, _, v, rfl, is_int hy, SqL.of (e _ _ h1), h5, q v G H (Stp.refl e) h4⟩
theorem rv_sql {ns : List Int} {j : Int} {c : Int} (h0 : 0 ≤ j) (h : ns[j.toNat]? = some c) : RvD K (rIx K) (.sql ns) (.int j) (.int c) := fun G H x y e hx hy Q q => by
  obtain ⟨p, rfl, h1⟩ := is_sql hx
  refine .inl ⟨p, _, j, .int c, rfl, is_int hy, e.seq h1, ?_, q _ G H (Stp.refl e) mk_int⟩
  rw [show j = ((j.toNat : Nat) : Int) by omega]
  exact atI_nat (by rw [List.getElem?_map, h]; rfl)
def cutD (l : List D) (lo hi : Option Int) : List D := (l.drop (HT.sIx l.length 0 lo)).take (HT.sIx l.length l.length hi - HT.sIx l.length 0 lo)
theorem ed_cut {tp tq : TO} {lo hi : Option Int} (h : EvD K ρ te (.lst l)) (h1 : EvO K ρ tp lo) (h2 : EvO K ρ tq hi) : EvD K ρ (tSl (rSlL K) te tp tq) (.lst (cutD l lo hi)) := fun σ G H e n Q q =>
  h σ G H e n _ fun x G1 H1 s1 i1 => h1 σ G1 H1 s1.le (n.mono s1.g) _ fun G2 H2 s2 => h2 σ G2 H2 s2.le (n.mono (s1.trans s2).g) _ fun G3 H3 s3 => by
    obtain ⟨p, xs, rfl, h3, h4⟩ := is_lst (Is.mono (s2.trans s3).g _ _ i1)
    refine ⟨p, xs, rfl, SqL.of (s3.le _ _ h3), fun r hr => ?_⟩
    have hg := s3.le.free hr
    refine q _ _ _ (((s1.trans s2).trans s3).trans (Stp.new s3.le hr)) (mk_lst upd_same (IsL.mono (same_new hg) _ _ ?_))
    unfold cutD cutV
    rw [h4.length]
    exact (h4.drop _).take _
theorem ed_cutS {ns : List Int} {tp tq : TO} {lo hi : Option Int} (h : EvD K ρ te (.sql ns)) (h1 : EvO K ρ tp lo) (h2 : EvO K ρ tq hi) : EvD K ρ (tSl (rSlL K) te tp tq) (.lst (cutD (ns.map D.int) lo hi)) := fun σ G H e n Q q =>
  h σ G H e n _ fun x G1 H1 s1 i1 => h1 σ G1 H1 s1.le (n.mono s1.g) _ fun G2 H2 s2 => h2 σ G2 H2 s2.le (n.mono (s1.trans s2).g) _ fun G3 H3 s3 => by
    obtain ⟨p, rfl, h3⟩ := is_sql (Is.mono (s2.trans s3).g _ _ i1)
    refine ⟨p, _, rfl, s3.le.seq h3, fun r hr => ?_⟩
    refine q _ _ _ (((s1.trans s2).trans s3).trans (Stp.new s3.le hr)) (mk_lst upd_same ?_)
    unfold cutD cutV
    simp only [List.length_map]
    exact (isL_of_ints.drop _).take _
/-! calls of built-ins -/
theorem il1 {G : Hp} {xs : List V} (h : IsL K G [a] xs) : ∃ v, xs = [v] ∧ Is K G a v := by
  obtain ⟨v, r, rfl, h1, h2⟩ := isL_cons_inv h
  rw [isL_nil_inv h2]; exact ⟨v, rfl, h1⟩
theorem il2 {G : Hp} {xs : List V} (h : IsL K G [a, b] xs) : ∃ v w, xs = [v, w] ∧ Is K G a v ∧ Is K G b w := by
  obtain ⟨v, r, rfl, h1, h2⟩ := isL_cons_inv h
  obtain ⟨w, rfl, h3⟩ := il1 h2
  exact ⟨v, w, rfl, h1, h3⟩
def rLenX (K : PySem.W.Frag) : List V → Hp → VK → Prop := fun xs H Q => ∃ p ys, xs = [.ref p] ∧ (SqL K H p ys ∨ SqT K H p ys) ∧ Q (.int ys.length) H
theorem call_lenX {X : Cx} : CallR X (.builtin "len") (rLenX X.K) := call_len_seq
theorem rc_lenL : RcD K (rLenX K) [.lst l] (.int (l.length : Nat)) := fun G H xs e h Q q => by
  obtain ⟨v, rfl, h1⟩ := il1 h
  obtain ⟨p, ys, rfl, h2, h3⟩ := is_lst h1
  exact ⟨p, ys, rfl, .inl (SqL.of (e _ _ h2)), by rw [← h3.length]; exact q _ G H (Stp.refl e) mk_int⟩
theorem rc_lenT : RcD K (rLenX K) [.tup l] (.int (l.length : Nat)) := fun G H xs e h Q q => by
  obtain ⟨v, rfl, h1⟩ := il1 h
  obtain ⟨p, ys, rfl, h2, h3⟩ := is_tup h1
  exact ⟨p, ys, rfl, .inr (SqT.of (e _ _ h2)), by rw [← h3.length]; exact q _ G H (Stp.refl e) mk_int⟩
theorem rc_lenS {ns : List Int} : RcD K (rLenX K) [.sql ns] (.int (ns.length : Nat)) := fun G H xs e h Q q => by
  obtain ⟨v, rfl, h1⟩ := il1 h
  obtain ⟨p, rfl, h2⟩ := is_sql h1
  exact ⟨p, _, rfl, .inl (e.seq h2), by rw [List.length_map]; exact q _ G H (Stp.refl e) mk_int⟩
def rAbsX : List V → Hp → VK → Prop := fun xs H Q => ∃ i, xs = [.int i] ∧ Q (.int (if i < 0 then -i else i)) H
theorem call_absX {X : Cx} : CallR X (.builtin "abs") rAbsX := call_abs
theorem rc_abs : RcD K rAbsX [.int i] (.int (i.natAbs : Nat)) := fun G H xs e h Q q => by
  obtain ⟨v, rfl, h1⟩ := il1 h
  rw [is_int h1]
  refine ⟨i, rfl, ?_⟩
  rw [show (if i < 0 then -i else i) = ((i.natAbs : Nat) : Int) by split <;> omega]
  exact q _ G H (Stp.refl e) mk_int
def rMax2X : List V → Hp → VK → Prop := fun xs H Q => ∃ i j, xs = [.int i, .int j] ∧ Q (.int (if j > i then j else i)) H
theorem rc_max2 : RcD K rMax2X [.int i, .int j] (.int (max i j)) := fun G H xs e h Q q => by
  obtain ⟨v, w, rfl, h1, h2⟩ := il2 h
  rw [is_int h1, is_int h2]
  refine ⟨i, j, rfl, ?_⟩
  rw [show (if j > i then j else i) = max i j by rw [Int.max_def]; split <;> split <;> omega]
  exact q _ G H (Stp.refl e) mk_int
def rMin2X : List V → Hp → VK → Prop := fun xs H Q => ∃ i j, xs = [.int i, .int j] ∧ Q (.int (if j < i then j else i)) H
theorem rc_min2 : RcD K rMin2X [.int i, .int j] (.int (min i j)) := fun G H xs e h Q q => by
  obtain ⟨v, w, rfl, h1, h2⟩ := il2 h
  rw [is_int h1, is_int h2]
  refine ⟨i, j, rfl, ?_⟩
  rw [show (if j < i then j else i) = min i j by rw [Int.min_def]; split <;> split <;> omega]
  exact q _ G H (Stp.refl e) mk_int
def rIntX : List V → Hp → VK → Prop := fun xs H Q => (∃ i, xs = [.int i] ∧ Q (.int i) H) ∨ ∃ k, xs = [.bl k] ∧ Q (.int (if k then 1 else 0)) H
theorem call_intX {X : Cx} : CallR X (.type "int") rIntX := call_int1
theorem rc_intI : RcD K rIntX [.int i] (.int i) := fun G H xs e h Q q => by
  obtain ⟨v, rfl, h1⟩ := il1 h
  exact .inl ⟨i, by rw [is_int h1], q _ G H (Stp.refl e) mk_int⟩
theorem rc_intB {k : Bool} : RcD K rIntX [.bl k] (.int (if k then 1 else 0)) := fun G H xs e h Q q => by
  obtain ⟨v, rfl, h1⟩ := il1 h
  exact .inr ⟨k, by rw [is_bl h1], q _ G H (Stp.refl e) mk_int⟩
def rTupOf (K : PySem.W.Frag) : List V → Hp → VK → Prop := fun xs H Q => ∃ p ys, xs = [.ref p] ∧ ((SqL K H p ys ∧ ∀ l, H l = none → Q (.ref l) (upd H l (.tup ys))) ∨ (SqT K H p ys ∧ Q (.ref p) H))
theorem call_tupX {X : Cx} : CallR X (.type "tuple") (rTupOf X.K) := call_tuple_of
theorem rc_tupL : RcD K (rTupOf K) [.lst l] (.tup l) := fun G H xs e h Q q => by
  obtain ⟨v, rfl, h1⟩ := il1 h
  obtain ⟨p, ys, rfl, h2, h3⟩ := is_lst h1
  refine ⟨p, ys, rfl, .inl ⟨SqL.of (e _ _ h2), fun r hr => ?_⟩⟩
  have hg := e.free hr
  exact q _ _ _ (Stp.new e hr) (mk_tup upd_same (IsL.mono (same_new hg) _ _ h3))
def rLstOf (K : PySem.W.Frag) : List V → Hp → VK → Prop := fun xs H Q => ∃ p ys, xs = [.ref p] ∧ (SqL K H p ys ∨ SqT K H p ys) ∧ ∀ l, H l = none → Q (.ref l) (upd H l (.lst ys))
theorem call_lstX {X : Cx} : CallR X (.type "list") (rLstOf X.K) := call_list_of
theorem rc_lstL : RcD K (rLstOf K) [.lst l] (.lst l) := fun G H xs e h Q q => by
  obtain ⟨v, rfl, h1⟩ := il1 h
  obtain ⟨p, ys, rfl, h2, h3⟩ := is_lst h1
  refine ⟨p, ys, rfl, .inl (SqL.of (e _ _ h2)), fun r hr => ?_⟩
  have hg := e.free hr
  exact q _ _ _ (Stp.new e hr) (mk_lst upd_same (IsL.mono (same_new hg) _ _ h3))
theorem isL_bls {G : Hp} : ∀ {bs : List Bool} {xs : List V}, IsL K G (bs.map D.bl) xs → xs = bs.map V.bl
  | [], _, h => isL_nil_inv h
  | n :: ns, _, h => by
    obtain ⟨v, r, rfl, h1, h2⟩ := isL_cons_inv h
    rw [is_bl h1, isL_bls h2]; rfl
theorem rc_all {bs : List Bool} : RcD K (rAll K) [.lst (bs.map D.bl)] (.bl (bs.all id)) := fun G H xs e h Q q => by
  obtain ⟨v, rfl, h1⟩ := il1 h
  obtain ⟨p, ys, rfl, h2, h3⟩ := is_lst h1
  have hh := isL_bls h3
  subst hh
  exact ⟨p, bs, rfl, SqL.of (e _ _ h2), q _ G H (Stp.refl e) mk_bl⟩
theorem rc_any {bs : List Bool} : RcD K (rAny K) [.lst (bs.map D.bl)] (.bl (bs.any id)) := fun G H xs e h Q q => by
  obtain ⟨v, rfl, h1⟩ := il1 h
  obtain ⟨p, ys, rfl, h2, h3⟩ := is_lst h1
  have hh := isL_bls h3
  subst hh
  exact ⟨p, bs, rfl, SqL.of (e _ _ h2), q _ G H (Stp.refl e) mk_bl⟩
theorem rc_sumL {ns : List Int} : RcD K (rSum K) [.lst (ns.map D.int)] (.int ns.sum) := fun G H xs e h Q q => by
  obtain ⟨v, rfl, h1⟩ := il1 h
  obtain ⟨p, ys, rfl, h2, h3⟩ := is_lst h1
  have hh := isL_ints h3
  subst hh
  exact ⟨p, ns, rfl, SqL.of (e _ _ h2), q _ G H (Stp.refl e) mk_int⟩
/-- isinstance of ints and tuples -/
theorem rc_isiI {T : String} {k : Bool} {v : V} {u : Value} (hk : PySem.W.kitOne K (.type "int") u = some k) (hc : ClsV v u) {Gv : ∀ G, Is K G b v} : ∀ (G H : Hp) (xs : List V), Same G H → xs = [.int i, v] → ∀ Q : VK, Q (.bl k) H → rIsi K xs H Q := fun G H xs e ex Q q =>
  ⟨.int i, v, .type "int", u, k, ex, hc, .base (.int i), hk, q⟩
end
end Pu
end
section
set_option Elab.async false
set_option linter.all false
set_option maxRecDepth 100000
set_option maxHeartbeats 4000000
/-! Pu4: loops down a list, whiles by turns, comprehensions by functions, own classes. -/
namespace Pu
open PySem PySem.Spec PyProof.Rows L2 StX RZ
section
variable {K : PySem.W.Frag}
/-- a for over the rest l, from the names ρ to the end o -/
inductive Fo (K : PySem.W.Frag) (g : TG) (tb : TS) : List D → Rho → Out → Prop
  | nil {ρ : Rho} : Fo K g tb [] ρ (.nx ρ)
  | nx {d : D} {l : List D} {ρ ρ1 ρ2 : Rho} {is : List Nat} {o : Out} (h1 : TgD K ρ g d ρ1 is) (h2 : StD K ρ1 tb (.nx ρ2)) (h3 : Fo K g tb l ρ2 o) : Fo K g tb (d :: l) ρ o
  | ct {d : D} {l : List D} {ρ ρ1 ρ2 : Rho} {is : List Nat} {o : Out} (h1 : TgD K ρ g d ρ1 is) (h2 : StD K ρ1 tb (.ct ρ2)) (h3 : Fo K g tb l ρ2 o) : Fo K g tb (d :: l) ρ o
  | rt {d z : D} {l : List D} {ρ ρ1 : Rho} {is : List Nat} (h1 : TgD K ρ g d ρ1 is) (h2 : StD K ρ1 tb (.rt z)) : Fo K g tb (d :: l) ρ (.rt z)
theorem sd_fo {ρ : Rho} {ds : List D} {wi : TI} {g : TG} {tb : TS} {o : Out} (hi : ItD K ρ wi ds) (hf : Fo K g tb ds ρ o) : StD K ρ (tFor wi g tb) o := fun Dn σ G H e n q =>
  hi σ G H e n _ fun J G1 H1 s1 w => by
    have q1 := q.step s1
    refine for_raw w (fun i σ' G' H' => ∃ ρ', Fo K g tb (ds.drop i) ρ' o ∧ Stp G1 H1 G' H' ∧ En K G' ρ' σ') (fun i σ G' H' ⟨_, _, p, _⟩ => ⟨p.g, p.le⟩) ⟨ρ, hf, Stp.refl s1.le, n.mono s1.g⟩ (fun i d σ2 G2 H2 hd p x G3 H3 s3 i3 => ?_) fun σ' G' H' p => ?_
    · obtain ⟨ρ', f, s2, n2⟩ := p
      have ed : ds.drop i = d :: ds.drop (i + 1) := by
        have hi := (List.getElem?_eq_some_iff.mp hd).1
        rw [List.drop_eq_getElem_cons hi]
        have := (List.getElem?_eq_some_iff.mp hd).2
        rw [this]
      rw [ed] at f
      cases f with
      | nx h1 h2 h3 => exact h1 x σ2 G3 H3 s3.le (n2.mono s3.g) i3 _ fun σ4 G4 H4 s4 n4 _ => h2 _ σ4 G4 H4 s4.le n4 fun σ5 G5 H5 s5 n5 => ⟨G5, _, h3, ((s2.trans s3).trans s4).trans s5, n5⟩
      | ct h1 h2 h3 => exact h1 x σ2 G3 H3 s3.le (n2.mono s3.g) i3 _ fun σ4 G4 H4 s4 n4 _ => h2 _ σ4 G4 H4 s4.le n4 fun σ5 G5 H5 s5 n5 => ⟨G5, _, h3, ((s2.trans s3).trans s4).trans s5, n5⟩
      | rt h1 h2 => exact h1 x σ2 G3 H3 s3.le (n2.mono s3.g) i3 _ fun σ4 G4 H4 s4 n4 _ => h2 _ σ4 G4 H4 s4.le n4 fun v G5 H5 s5 i5 => q1 v G5 H5 (((s2.trans s3).trans s4).trans s5) i5
    · obtain ⟨ρ', f, s2, n2⟩ := p
      rw [List.drop_length] at f
      cases f with
      | nil => exact q1 σ' G' H' s2 n2
/-- a while that ends within k turns -/
inductive Wh (K : PySem.W.Frag) (tt : TT) (tb : TS) : Nat → Rho → Rho → Prop
  | done {ρ : Rho} (h : EvB K ρ tt false) : Wh K tt tb 0 ρ ρ
  | step {k : Nat} {ρ ρ1 ρ2 : Rho} (h : EvB K ρ tt true) (h2 : StD K ρ tb (.nx ρ1)) (h3 : Wh K tt tb k ρ1 ρ2) : Wh K tt tb (k + 1) ρ ρ2
theorem sd_wh {tt : TT} {tb : TS} {k : Nat} {ρ ρ2 : Rho} (hw : Wh K tt tb k ρ ρ2) : StD K ρ (tWhile tt tb) (.nx ρ2) := fun Dn σ G H e n q => by
  refine ⟨fun m σ' H' => ∃ ρ' G', Wh K tt tb m ρ' ρ2 ∧ Stp G H G' H' ∧ En K G' ρ' σ', ⟨k, ρ, G, hw, Stp.refl e, n⟩, ?_⟩
  rintro m σ1 H1 ⟨ρ', G1, w, s1, n1⟩
  cases w with
  | done h => exact h σ1 G1 H1 s1.le n1 _ fun G2 H2 s2 => q σ1 G2 H2 (s1.trans s2) (n1.mono s2.g)
  | step h h2 h3 =>
    exact h σ1 G1 H1 s1.le n1 _ fun G2 H2 s2 => ⟨fun σ' H' => ∃ G', Stp G H G' H' ∧ En K G' _ σ', fun σ' H' ⟨G', p1, p2⟩ => ⟨_, Nat.lt_succ_self _, _, G', h3, p1, p2⟩,
      h2 _ σ1 G2 H2 s2.le (n1.mono s2.g) fun σ3 G3 H3 s3 n3 => ⟨G3, (s1.trans s2).trans s3, n3⟩⟩
theorem sd_whA {α : Type} {tt : TT} {tb : TS} (ρ ρ2 : α → Rho) (h : ∀ a, ∃ j, Wh K tt tb j (ρ a) (ρ2 a)) (a : α) : StD K (ρ a) (tWhile tt tb) (.nx (ρ2 a)) := by
  obtain ⟨j, hj⟩ := h a
  exact sd_wh hj
theorem kept_filter (p : D → Bool) (f : D → D) (ds : List D) : kept (fun i => match ds[i]? with | some d => p d | none => false) (fun i => match ds[i]? with | some d => f d | none => .any) ds.length = (ds.filter p).map f := by
  have key : ∀ n, n ≤ ds.length → kept (fun i => match ds[i]? with | some d => p d | none => false) (fun i => match ds[i]? with | some d => f d | none => .any) n = ((ds.take n).filter p).map f := fun n => by
    induction n with
    | zero => intro _; simp [kept]
    | succ n ih =>
      intro h
      have hn : n < ds.length := by omega
      unfold kept
      rw [ih (by omega), List.take_succ_eq_append_getElem hn, List.filter_append, List.map_append, List.getElem?_eq_getElem hn]
      simp only [List.filter_cons, List.filter_nil]
      split <;> rfl
  have := key ds.length (Nat.le_refl _)
  rw [List.take_length] at this
  exact this
/-- a comprehension with a test -/
theorem ed_lcF {ρ : Rho} {ds : List D} {wi : TI} {g : TG} {tt : TT} {te : TE} {vs : List Nat} {p : D → Bool} {f : D → D} (hi : ItD K ρ wi ds) (hl : ds.length < 1000000)
    (hs : ∀ d, d ∈ ds → ∃ ρ1 is, TgD K (wipeD ρ vs) g d ρ1 is ∧ (∀ i ∈ is, i ∈ vs) ∧ EvB K ρ1 tt (p d) ∧ (p d = true → EvD K ρ1 te (f d))) : EvD K ρ (tLc wi g tt te vs) (.lst ((ds.filter p).map f)) := by
  rw [← kept_filter]
  refine ed_lcK hi hl fun i d hd => ?_
  obtain ⟨ρ1, is, h1, h2, h3, h4⟩ := hs d (List.mem_of_getElem? hd)
  exact ⟨ρ1, is, h1, h2, by simp only [hd]; exact h3, by simp only [hd]; exact h4⟩
/-- without one -/
theorem ed_lcM {ρ : Rho} {ds : List D} {wi : TI} {g : TG} {te : TE} {vs : List Nat} {f : D → D} (hi : ItD K ρ wi ds) (hl : ds.length < 1000000)
    (hs : ∀ d, d ∈ ds → ∃ ρ1 is, TgD K (wipeD ρ vs) g d ρ1 is ∧ (∀ i ∈ is, i ∈ vs) ∧ EvD K ρ1 te (f d)) : EvD K ρ (tLc wi g tYes te vs) (.lst (ds.map f)) := by
  have z := ed_lcF (K := K) (ρ := ρ) (tt := tYes) (te := te) (wi := wi) (g := g) (vs := vs) (p := fun _ => true) (f := f) hi hl fun d hd => by
    obtain ⟨ρ1, is, h1, h2, h3⟩ := hs d hd
    exact ⟨ρ1, is, h1, h2, et_yes, fun _ => h3⟩
  rwa [List.filter_eq_self.mpr fun _ _ => rfl] at z
/-- over data of one kind: ds = xs.map enc -/
theorem en_lcT {α : Type} {ρ : Rho} {xs : List α} {enc : α → D} {wi : TI} {g : TG} {te : TE} {vs : List Nat} {f : α → D} (hi : ItD K ρ wi (xs.map enc)) (hl : xs.length < 1000000)
    (hs : ∀ x, x ∈ xs → ∃ ρ1 is, TgD K (wipeD ρ vs) g (enc x) ρ1 is ∧ (∀ i ∈ is, i ∈ vs) ∧ EvD K ρ1 te (f x)) : EvN K ρ (tLc wi g tYes te vs) (xs.map f) := by
  refine en_lc hi (by simpa using hl) (by simp) fun i d e hd he => ?_
  rw [List.getElem?_map] at hd he
  cases q : xs[i]? with
  | none => rw [q] at hd; cases hd
  | some x =>
    rw [q] at hd he
    cases hd; cases he
    exact hs x (List.mem_of_getElem? q)
theorem ed_lcT {α : Type} {ρ : Rho} {xs : List α} {enc : α → D} {wi : TI} {g : TG} {te : TE} {vs : List Nat} {f : α → D} (hi : ItD K ρ wi (xs.map enc)) (hl : xs.length < 1000000)
    (hs : ∀ x, x ∈ xs → ∃ ρ1 is, TgD K (wipeD ρ vs) g (enc x) ρ1 is ∧ (∀ i ∈ is, i ∈ vs) ∧ EvD K ρ1 te (f x)) : EvD K ρ (tLc wi g tYes te vs) (.lst (xs.map f)) := ed_of_en (en_lcT hi hl hs)
theorem ed_lcTF {α : Type} {ρ : Rho} {xs : List α} {enc : α → D} {wi : TI} {g : TG} {tt : TT} {te : TE} {vs : List Nat} {p : α → Bool} {f : α → D} (hi : ItD K ρ wi (xs.map enc)) (hl : xs.length < 1000000)
    (hs : ∀ x, x ∈ xs → ∃ ρ1 is, TgD K (wipeD ρ vs) g (enc x) ρ1 is ∧ (∀ i ∈ is, i ∈ vs) ∧ EvB K ρ1 tt (p x) ∧ (p x = true → EvD K ρ1 te (f x))) : EvD K ρ (tLc wi g tt te vs) (.lst ((xs.filter p).map f)) := by
  have key : ∀ n, n ≤ xs.length → kept (fun i => match xs[i]? with | some d => p d | none => false) (fun i => match xs[i]? with | some d => f d | none => .any) n = ((xs.take n).filter p).map f := fun n => by
    induction n with
    | zero => intro _; simp [kept]
    | succ n ih =>
      intro h
      have hn : n < xs.length := by omega
      unfold kept
      rw [ih (by omega), List.take_succ_eq_append_getElem hn, List.filter_append, List.map_append, List.getElem?_eq_getElem hn]
      simp only [List.filter_cons, List.filter_nil]
      split <;> rfl
  have kk := key xs.length (Nat.le_refl _)
  rw [List.take_length] at kk
  rw [← kk, ← List.length_map (f := enc)]
  refine ed_lcK hi (by simpa using hl) fun i d hd => ?_
  rw [List.getElem?_map] at hd
  cases q : xs[i]? with
  | none => rw [q] at hd; cases hd
  | some x =>
    rw [q] at hd
    cases hd
    obtain ⟨ρ1, is, h1, h2, h3, h4⟩ := hs x (List.mem_of_getElem? q)
    exact ⟨ρ1, is, h1, h2, h3, h4⟩
end
/-- a relation by a function: the arguments of x, where ok holds, give res -/
def RF {α : Type} (args : α → List D) (ok : α → Prop) (res : α → D) (ds : List D) (d : D) : Prop := ∃ x, ds = args x ∧ ok x ∧ d = res x
theorem rf {α : Type} {args : α → List D} {ok : α → Prop} {res : α → D} (x : α) (h : ok x) : RF args ok res (args x) (res x) := ⟨x, rfl, h, rfl⟩
theorem Ok.rf {P : Program} {w : World} {K : PySem.W.Frag} {mg : Str → Option Value} {base : Heap} {k : Nat} {f : Addr} {ps N : List Str} {x qual : Str} {params : Arguments} {body : List Stmt} {scope : Scope} {α : Type} {args : α → List D} {ok : α → Prop} {res : α → D}
    (F : ∃ fd, FunD K x qual params body scope [] [] f fd) (S : FnScope N ps scope)
    (hb : ∀ (fd : FuncData), FunD K x qual params body scope [] [] f fd → Binds K fd ps []) (len : ∀ x, (args x).length = ps.length)
    (hbody : ∀ (cdv : Value) (A : Around) (outer : List Env) (s : Shared) (H : Hp) (E : XK), Room k (A.deeper (envOfC qual scope s.heap.objs.size f cdv)) → ∀ x, ok x →
      ∃ t, PSs (cxOf CX0 P w K mg base N qual scope f cdv A outer s H E).nox body t ∧ StD K (start0 N (args x)) t (.rt (res x))) : Ok P w K mg base (k + 1) f ps (spP K (RF args ok res)) :=
  Ok.mk' F S hb (fun vs H Q E ⟨G, ds, d, _, i, ⟨x, e, _⟩, _⟩ => by rw [← i.length, e]; exact len x) fun cdv A outer s H vs Q E hr ⟨G, ds, d, e, il, ⟨x, e1, hx, e2⟩, q⟩ => by
    subst e1 e2
    obtain ⟨t, h1, h2⟩ := hbody cdv A outer s H E hr x hx
    exact ⟨t, h1, body_rt e il q h2⟩
/-- one that falls off its end -/
theorem Ok.rfN {P : Program} {w : World} {K : PySem.W.Frag} {mg : Str → Option Value} {base : Heap} {k : Nat} {f : Addr} {ps N : List Str} {x qual : Str} {params : Arguments} {body : List Stmt} {scope : Scope} {α : Type} {args : α → List D} {ok : α → Prop}
    (F : ∃ fd, FunD K x qual params body scope [] [] f fd) (S : FnScope N ps scope)
    (hb : ∀ (fd : FuncData), FunD K x qual params body scope [] [] f fd → Binds K fd ps []) (len : ∀ x, (args x).length = ps.length)
    (hbody : ∀ (cdv : Value) (A : Around) (outer : List Env) (s : Shared) (H : Hp) (E : XK), Room k (A.deeper (envOfC qual scope s.heap.objs.size f cdv)) → ∀ x, ok x →
      ∃ t, PSs (cxOf CX0 P w K mg base N qual scope f cdv A outer s H E).nox body t ∧ ∃ ρ', StD K (start0 N (args x)) t (.nx ρ')) : Ok P w K mg base (k + 1) f ps (spP K (RF args ok fun _ => .non)) :=
  Ok.mk' F S hb (fun vs H Q E ⟨G, ds, d, _, i, ⟨x, e, _⟩, _⟩ => by rw [← i.length, e]; exact len x) fun cdv A outer s H vs Q E hr ⟨G, ds, d, e, il, ⟨x, e1, hx, e2⟩, q⟩ => by
    subst e1 e2
    obtain ⟨t, h1, ρ', h2⟩ := hbody cdv A outer s H E hr x hx
    exact ⟨t, h1, body_nx e il q h2⟩
section
variable {X : Cx} {k : Nat} {f C p : Addr} {ps : List Str} {sp : Sp} {x m : Str} {ta : TE} {t : TA} {e o : Expr} {es : List Expr} {p1 pos apos : Pos}
/-- a property -/
theorem Ok.peP (h : Ok X.prog X.w X.K X.mg X.base k f ps sp) (hr : Room (k + 1) X.A) (c : Cls X.K C) (hp : PropOf X.K C m p f) (he : PE X e ta) (hab : attributeBase e m X.env (eval e X.env) = eval e X.env := by rfl) : PE X (.Attribute e m pos) (tProp C sp [] E0 ta) := by
  obtain ⟨fd, hb, F⟩ := h.ex
  exact pe_prop he c hp F hr hb .nil pass0 hab
/-- a new instance -/
theorem Ok.peM (h : Ok X.prog X.w X.K X.mg X.base k f ps sp) (M : Mk X.K C f) (hr : Room (k + 1) X.A) (hg : Gl X x) (hm : X.mg x = some (.ref C)) (ha : PA X (e :: es) t) (hdb : (x == ("__debug__" : Str)) = false := by decide)
    (he : starEach (e :: es) X.env = (false, eval e X.env) :: starEach es X.env := by rfl) (hpl : (backTo pos (starEach es X.env)).any (·.1) = false := by rfl) : PE X (.Call (.Name x p1) (e :: es) [] pos) (tMake C sp [] E0 t) := by
  obtain ⟨fd, hb, F⟩ := h.ex
  exact pe_make M F hr hg hm hb .nil pass0 ha hdb he hpl
/-- o.m(e, ..) -/
theorem Ok.peO {pl : Sem Bool} (h : Ok X.prog X.w X.K X.mg X.base k f ps sp) (hr : Room k X.A) (c : Cls X.K C) (hm : Meth X.K C m f) (he : PE X o ta) (ha : PA X (e :: es) t)
    (hst : starEach (e :: es) X.env = (false, eval e X.env) :: starEach es X.env := by rfl) (hpl : (backTo pos (starEach es X.env)).any (·.1) = false := by rfl)
    (ht : eval (.Call (.Attribute o m apos) (e :: es) [] pos) X.env = (do
      let ov ← eval o X.env
      standAt apos.atName
      let (f, first) ← holding [ov] (getMethod ov m pl)
      callWith pos f first (backTo pos (starEach (e :: es) X.env)) (backToKw pos (keywordEach [] X.env))) := by rfl) : PE X (.Call (.Attribute o m apos) (e :: es) [] pos) (tMeth C m sp [] E0 ta t) := by
  obtain ⟨fd, hb, F⟩ := h.ex
  exact pe_meth he c hm F hr hb .nil pass0 ha hst hpl ht
theorem Ok.peO0 {pl : Sem Bool} (h : Ok X.prog X.w X.K X.mg X.base k f ps sp) (hr : Room k X.A) (c : Cls X.K C) (hm : Meth X.K C m f) (he : PE X o ta)
    (ht : eval (.Call (.Attribute o m apos) [] [] pos) X.env = (do
      let ov ← eval o X.env
      standAt apos.atName
      let (f, first) ← holding [ov] (getMethod ov m pl)
      callWith pos f first (backTo pos (starEach [] X.env)) (backToKw pos (keywordEach [] X.env))) := by rfl) : PE X (.Call (.Attribute o m apos) [] [] pos) (tMeth C m sp [] E0 ta tNil) := by
  obtain ⟨fd, hb, F⟩ := h.ex
  exact pe_meth0 he c hm F hr hb .nil pass0 ht
end
section
variable {K : PySem.W.Frag} {ρ : Rho} {ta : TE} {tl : TA} {ds l : List D} {C : Addr} {ns : List Str} {d : D}
/-- a property of data by its promise -/
theorem ed_t2 {tb : TE} {a b : D} (h : EvD K ρ ta a) (h2 : EvD K ρ tb b) : EvD K ρ (tTup (tCons ta (tCons tb tNil))) (.tup [a, b]) := ed_tup (ea_2 h h2) (by simp)
theorem ed_l0 : EvD K ρ (tLst tNil) (.lst []) := ed_lst ea_nil (by simp)
theorem ed_l1 {a : D} (h : EvD K ρ ta a) : EvD K ρ (tLst (tCons ta tNil)) (.lst [a]) := ed_lst (ea_1 h) (by simp)
theorem ed_l2 {tb : TE} {a b : D} (h : EvD K ρ ta a) (h2 : EvD K ρ tb b) : EvD K ρ (tLst (tCons ta (tCons tb tNil))) (.lst [a, b]) := ed_lst (ea_2 h h2) (by simp)
theorem ed_prop {R : List D → D → Prop} {E : XK} (h : EvD K ρ ta (.obj C ns l)) (hR : R [.obj C ns l] d) : EvD K ρ (tProp C (spP K R) [] E ta) d := fun σ G H e n Q q =>
  h σ G H e n _ fun x G1 H1 s1 i1 => by
    obtain ⟨a, dx, fs, xs, rfl, h1, h2, h3, h4⟩ := is_obj i1
    refine ⟨a, dx, fs, rfl, s1.le _ _ h1, G1, [.obj C ns l], d, s1.le, isL_cons i1 isL_nil, hR, fun v G2 H2 s2 i2 => q v G2 H2 (s1.trans s2) i2⟩
/-- a method of data -/
theorem ed_meth {R : List D → D → Prop} {E : XK} {m : Str} (h : EvD K ρ ta (.obj C ns l)) (hm : m ∉ ns) (ha : EvA K ρ tl ds) (hR : R (.obj C ns l :: ds) d) : EvD K ρ (tMeth C m (spP K R) [] E ta tl) d := fun σ G H e n Q q =>
  h σ G H e n _ fun x G1 H1 s1 i1 => by
    obtain ⟨a, dx, fs, xs, rfl, h1, h2, h3, h4⟩ := is_obj i1
    refine ⟨a, dx, fs, rfl, s1.le _ _ h1, ?_, ha σ G1 H1 s1.le (n.mono s1.g) _ fun vs G2 H2 s2 i2 => ⟨G2, _, d, s2.le, by rw [List.append_nil]; exact isL_cons (Is.mono s2.g _ _ i1) i2, hR, fun v G3 H3 s3 i3 => q v G3 H3 ((s1.trans s2).trans s3) i3⟩⟩
    rw [h2]
    have key : ∀ (ns : List Str) (xs : List V), m ∉ ns → (ns.zip xs).lookup m = none := fun ns => by
      induction ns with
      | nil => intro xs _; rfl
      | cons n ns ih =>
        intro xs hn
        cases xs with
        | nil => rfl
        | cons x xs =>
          have n1 : m ≠ n := fun z => hn (by rw [z]; exact List.mem_cons_self)
          rw [List.zip_cons_cons, List.lookup_cons, beq_eq_false_iff_ne.mpr n1]
          exact ih xs fun z => hn (List.mem_cons_of_mem _ z)
    exact key ns xs hm
end
end Pu
end
section
set_option Elab.async false
set_option linter.all false
set_option maxRecDepth 100000
set_option maxHeartbeats 4000000
/-! Pu5: enumerate of a tuple, zip of a tuple and a list, sum and min of a tuple. -/
namespace Pu
open PySem PySem.Spec PyProof.Rows L2 StX RZ PySem.W
/-! ### enumerate(tuple) -/
set_option maxHeartbeats 4000000 in
theorem meets_enumT {v : Value} {o : Obj} {H : Heap → Prop} (B : Begins v o H) :
    Meets (Builtin.«enumerate.__new__» ⟨[.type "enumerate", v], []⟩) (fun _ R s => H s.heap ∧
      R (.ok (.ret (.ref (s.heap.push o).objs.size))) { s with heap := (s.heap.push o).push { cls := .type "enumerate", data := .fields #[.none, .bool false, .ref s.heap.objs.size, rawInt 0, .none, .none] } }) :=
  .of_wp fun prog w A R s h => by
    obtain ⟨hh, gg, dd, tt, oo⟩ := s
    obtain ⟨h1, h2⟩ := h
    have sub := sub_enumerate
    have go : ∀ {A' : Around} {E : Value → Shared → Prop} {Q : Value → Shared → Prop}, Q (.ref hh.objs.size) ⟨hh.push o, gg, dd, tt, oo⟩ → wpAny (model prog w) A' (pyIter v) Q E ⟨hh, gg, dd, tt, oo⟩ :=
      fun q => B.iter prog w _ _ ⟨hh, gg, dd, tt, oo⟩ _ h1 q
    wp_walk using go
    refine wpAny_stack_any fun st => wpAny_pure ?_
    split
    · rename_i c _ _ _ _ _
      cases (c == Value.type "enumerate") <;> (wp_walk using go; exact ⟨_, rfl, h2⟩)
    · wp_walk using go
      exact ⟨_, rfl, h2⟩
section
variable {prog : Program} {w : World} {A : Around} {E : Value → Shared → Prop} {s : Shared}
theorem call_enumT {t : Addr} {items : Array Value} {Q : Value → Shared → Prop} (ht : s.heap.IsTuple t items)
    (h : ∀ h', IsEnum h' (s.heap.objs.size + 1) s.heap.objs.size 0 .none → h'.IsTupleIter s.heap.objs.size t 0 → h'.objs.size = s.heap.objs.size + 2 →
      (∀ b o, s.heap.get? b = some o → h'.get? b = some o) → Q (.ref (s.heap.objs.size + 1)) { s with heap := h' }) :
    wpAny (model prog w) A (call (.type "enumerate") [.ref t]) Q E s := by
  have B := begins_tuple t items
  refine callType_new F.called_enumerate (by decide) (F.typeCall_enumerate_1 _) (F.newCall_enumerate_1 _) (fun obj => F.args_object_init_2 obj _) F.entry_enumerate_new (meets_enumT B) ⟨ht, ?_⟩
  generalize ho : ({ cls := .type "tuple_iterator", data := .fields #[.ref t, .int 0 0] } : Obj) = o at B ⊢
  have hz : (s.heap.push o).objs.size = s.heap.objs.size + 1 := Heap.size_push ..
  show _ ∧ _
  rw [hz]
  have he : IsEnum ((s.heap.push o).push { cls := .type "enumerate", data := .fields #[.none, .bool false, .ref s.heap.objs.size, rawInt 0, .none, .none] }) (s.heap.objs.size + 1) s.heap.objs.size 0 .none := by
    have q := Heap.get?_push_size (s.heap.push o) (o := { cls := .type "enumerate", data := .fields #[.none, .bool false, .ref s.heap.objs.size, rawInt 0, .none, .none] }) rfl
    rw [hz] at q; exact q
  refine ⟨⟨_, he, rfl⟩, h _ he ⟨o, Heap.get?_push_of_some _ (Heap.get?_push_size _ B.free), by rw [← ho], by rw [← ho]; rfl⟩ (by rw [Heap.size_push, hz]) fun b o x => Heap.get?_push_of_some _ (Heap.get?_push_of_some _ x)⟩
end
/-- the tuple at a, each item in a new pair with its turn -/
def IteT (K : PySem.W.Frag) (a : Addr) : It :=
  ⟨fun i H => ∃ (xs : List V) (x : V), SqT K H a xs ∧ xs[i]? = some x, fun i H v H' => ∃ T x, v = .ref T ∧ H T = none ∧ H' = upd H T (.tup [.int (i : Nat), x]) ∧ ∀ xs, SqT K H a xs → xs[i]? = some x, fun i H => ∃ xs : List V, SqT K H a xs ∧ i = xs.length⟩
theorem turn_enumT {P : Program} {w : World} {K : PySem.W.Frag} {elts : List Expr} {kk : Nat} {tpos : Pos} (a e it : Addr) :
    Turn P w K (.Tuple elts kk tpos) (IteT K a) [e, it] e (fun i h => (∃ old, IsEnum h e it (0 + ((i : Nat) : Int)) old) ∧ h.IsTupleIter it a i ∧ e ≠ it ∧ a ≠ it ∧ e ≠ a) where
  mem := by simp
  obj := fun i h st b hb => by
    obtain ⟨⟨old, he⟩, ⟨o, ho, hc, hd⟩, _⟩ := st
    rcases (show b = e ∨ b = it by simpa using hb) with z | z
    · rw [z]; exact ⟨_, he, fun v q => nomatch q⟩
    · rw [z]; exact ⟨o, ho, fun v q => by rw [hd] at q; cases q⟩
  keep := fun i h h' st k => let ⟨⟨old, he⟩, hi, hn⟩ := st; ⟨⟨old, k e (by simp) _ he⟩, hi.at fun o q => k it (by simp) o q, hn⟩
  item := by
    intro X hP hw hK hc i pins s σ H E I hf st hg
    subst hP hw hK
    obtain ⟨he, hit, hne, hna, hea⟩ := st
    obtain ⟨xs, x, hq, hx⟩ := hg
    obtain ⟨its, rv, p, hz⟩ := I.tuple hq
    obtain ⟨u, hu, ru⟩ := rv.get hx
    have W := GoesN.enumFrom (prog := X.prog) (w := X.w) (A := X.A) (elts := elts) (x1 := kk) (pos := tpos) 0 (Draws.tuple (A := X.A.in1) (I.ok.hd hc) it a hna its.toArray) e hne (by simp [hne, hea]) (by simp)
    have hi : i < its.toArray.size := by
      have := (List.getElem?_eq_some_iff.mp hu).1
      simpa using this
    refine W.goes i s (fun u' s2 => ∃ x H', Inv X pins σ H' s2 ∧ RelV x u' ∧ (IteT X.K a).yld i H x H' ∧ _ ∧ ∀ b ∈ [e, it], H' b = none) E hi ⟨he, hit, p⟩ fun v h' tk hY st' hk htk => ?_
    obtain ⟨T, t, y, rfl, hT, hy, o, ho, hoc, n, hod⟩ := hY
    have ey : u = y := by
      have h1 : its.toArray[i]? = some u := by simpa using hu
      rw [h1] at hy; exact Option.some.inj hy
    subst ey
    have new : ObjOk X.prog X.w (upd H T (.tup [.int (i : Nat), x])) h' T (.tup [.int (i : Nat), x]) :=
      ⟨by show 2 ≤ sizeLine; decide, [.int (0 + (i : Int)) t, u], .cons ⟨t, by rw [Int.zero_add]⟩ (.cons ru .nil), o, ho, hoc, n, hod⟩
    have I1 : Inv X pins σ (upd H T (.tup [.int (i : Nat), x])) { s with heap := h', toks := tk } := I.turnedNew (ch := [e, it]) hk hf hT new
    have hTn : H T = none := I.hok.fresh hT
    refine ⟨.ref T, _, I1, rfl, ⟨T, x, rfl, hTn, rfl, fun ys hy' => by rw [I.tuple_inj hy' hq]; exact hx⟩, ⟨st'.1, st'.2.1, hne, hna, hea⟩, fun b hb => ?_⟩
    have hb' : b < s.heap.objs.size := by
      obtain ⟨old, he⟩ := he
      obtain ⟨o', ho', _⟩ := hit
      rcases (show b = e ∨ b = it by simpa using hb) with z | z
      · rw [z]; exact Heap.lt_size he
      · rw [z]; exact Heap.lt_size ho'
    rw [upd_ne (Nat.ne_of_lt (Nat.lt_of_lt_of_le hb' hT))]
    exact (hf b hb).1
  done := by
    intro X hP hw hK hc i pins s σ H E I hf st hg
    subst hP hw hK
    obtain ⟨he, hit, hne, hna, hea⟩ := st
    obtain ⟨xs, hq, hx⟩ := hg
    obtain ⟨its, rv, p, hz⟩ := I.tuple hq
    have W := GoesN.enumFrom (prog := X.prog) (w := X.w) (A := X.A) (elts := elts) (x1 := kk) (pos := tpos) 0 (Draws.tuple (A := X.A.in1) (I.ok.hd hc) it a hna its.toArray) e hne (by simp [hne, hea]) (by simp)
    have hi : i = its.toArray.size := by rw [hx, rv.length]; simp
    refine W.stops s (fun s1 => Inv X pins σ H s1) E (by rw [← hi]; exact ⟨he, hit, p⟩) fun h' tk hk htk => ?_
    exact I.turnedL (ch := [e, it]) hk hf
  self := fun A i s Q E st h => let ⟨⟨_, he⟩, _⟩ := st; wpAny_pyIter_enum he h
def iEnumT (K : PySem.W.Frag) (ta : TA) : TI := fun σ H R => ta σ H fun vs H1 => ∃ a xs, vs = [.ref a] ∧ SqT K H1 a xs ∧ R (IteT K a) H1
theorem pi_enumT {X : Cx} {e : Expr} {ta : TA} {p pos tpos : Pos} {elts : List Expr} {kk : Nat} (hg : Gl X "enumerate") (hm : X.mg "enumerate" = none) (ha : PA X [e] ta) (hs : starEach [e] X.env = [(false, eval e X.env)] := by rfl) :
    PI X (.Tuple elts kk tpos) (.Call (.Name "enumerate" p) [e] [] pos) (iEnumT X.K ta) := by
  refine ⟨fun pins s σ H R I h => ?_⟩
  refine Call_ (ld_blt I hg hm boot_enumerate (PyProof.Rows.callWith_type1 (thn (ha.run pos pins s σ H _ I h) fun us s1 ⟨vs, H1, I1, r1, q1⟩ => ?_) hs rfl))
  obtain ⟨a, xs, ex, hq, q⟩ := q1
  subst ex
  obtain rfl := Vals.ref1 r1
  obtain ⟨its, rv, p', hz⟩ := I1.tuple hq
  have hal : a < s1.heap.objs.size := p'.lt
  refine call_enumT (show s1.heap.IsTuple a its.toArray from p') fun h' he hit hsz hk => wpAny_pyIter_enum he ?_
  have I2 : Inv X pins σ H1 { s1 with heap := h' } := I1.kept (t' := s1.toks) hk
  refine ⟨s1.heap.objs.size + 1, [s1.heap.objs.size + 1, s1.heap.objs.size], _, _, H1, rfl, I2, turn_enumT a (s1.heap.objs.size + 1) s1.heap.objs.size, ⟨⟨.none, he⟩, hit, Nat.succ_ne_self _, Nat.ne_of_lt hal, Nat.ne_of_gt (Nat.lt_succ_of_lt hal)⟩, fun b hb => ?_, q⟩
  have hle : s1.heap.objs.size ≤ b := by
    rcases (show b = s1.heap.objs.size + 1 ∨ b = s1.heap.objs.size by simpa using hb) with z | z
    · rw [z]; exact Nat.le_add_right _ _
    · rw [z]; exact Nat.le_refl _
  exact I1.fpOk hle (I1.hok.fresh hle)
def iEnumX (K : PySem.W.Frag) (ta : TA) : TI := fun σ H R => iEnum K ta σ H R ∨ iEnumT K ta σ H R
theorem pi_enumX {X : Cx} {e : Expr} {ta : TA} {p pos tpos : Pos} {elts : List Expr} {kk : Nat} (hg : Gl X "enumerate") (hm : X.mg "enumerate" = none) (ha : PA X [e] ta) (hs : starEach [e] X.env = [(false, eval e X.env)] := by rfl) :
    PI X (.Tuple elts kk tpos) (.Call (.Name "enumerate" p) [e] [] pos) (iEnumX X.K ta) := PI.or (pi_enum hg hm ha hs) (pi_enumT hg hm ha hs)
/-! ### zip(tuple, list) -/
def ItzM (K : PySem.W.Frag) (a b : Addr) : It :=
  ⟨fun i H => ∃ (xs ys : List V) (x y : V), SqT K H a xs ∧ SqL K H b ys ∧ xs[i]? = some x ∧ ys[i]? = some y,
    fun i H v H' => ∃ T x y, v = .ref T ∧ H T = none ∧ H' = upd H T (.tup [x, y]) ∧ (∀ xs, SqT K H a xs → xs[i]? = some x) ∧ ∀ ys, SqL K H b ys → ys[i]? = some y,
    fun i H => ∃ xs ys : List V, SqT K H a xs ∧ SqL K H b ys ∧ i = min xs.length ys.length⟩
theorem turn_zipM {P : Program} {w : World} {K : PySem.W.Frag} {elts : List Expr} {kk : Nat} {tpos : Pos} {a b z TI TO i1 i2 : Addr} (D : ZipSep2 z TI TO i1 i2 [i1, a] [i2, b]) :
    Turn P w K (.Tuple elts kk tpos) (ItzM K a b) [z, TI, TO, i1, i2] z (fun i h => IsZip h z TI TO .none ∧ IsTupOf2 h TI (.ref i1) (.ref i2) ∧ (∃ x y, IsTupOf2 h TO x y) ∧ h.IsTupleIter i1 a i ∧ h.IsListIter i2 b i) where
  mem := by simp
  obj := fun i h st c hc => by
    obtain ⟨hz, hTI, ⟨x, y, hTO⟩, ⟨o1, e1, _, d1⟩, ⟨o2, e2, _, d2⟩⟩ := st
    rcases (show c = z ∨ c = TI ∨ c = TO ∨ c = i1 ∨ c = i2 by simpa using hc) with q | q | q | q | q
    · rw [q]; exact ⟨_, hz, fun v q => nomatch q⟩
    · rw [q]; exact ⟨_, hTI, fun v q => nomatch q⟩
    · rw [q]; exact ⟨_, hTO, fun v q => nomatch q⟩
    · rw [q]; exact ⟨o1, e1, fun v q => by rw [d1] at q; cases q⟩
    · rw [q]; exact ⟨o2, e2, fun v q => by rw [d2] at q; cases q⟩
  keep := fun i h h' st k => by
    obtain ⟨hz, hTI, ⟨x, y, hTO⟩, h1, h2⟩ := st
    exact ⟨k z (by simp) _ hz, k TI (by simp) _ hTI, ⟨x, y, k TO (by simp) _ hTO⟩, h1.at fun o q => k i1 (by simp) o q, h2.at fun o q => k i2 (by simp) o q⟩
  item := by
    intro X hP hw hK hc i pins s σ H E I hf st hg
    subst hP hw hK
    obtain ⟨hz, hTI, hTO, h1, h2⟩ := st
    obtain ⟨xs, ys, x, y, hqx, hqy, hx, hy⟩ := hg
    obtain ⟨its, rv, p, _⟩ := I.tuple hqx
    obtain ⟨its2, rv2, p2, _⟩ := I.list hqy
    obtain ⟨u, hu, ru⟩ := rv.get hx
    obtain ⟨u2, hu2, ru2⟩ := rv2.get hy
    have n1 : a ≠ i1 := fun q => by
      have h3 : i1 ∈ [z, TI, TO, i1, i2] := by simp
      have := (hf i1 h3).1
      rcases hqx with (r | ⟨_, r⟩) | ⟨o, _, _, r, rc, _⟩
      · rw [q, this] at r; cases r
      · rw [q, this] at r; cases r
      · have h4 := I.kIn _ _ r
        obtain ⟨o1, e1, c1, _⟩ := h1
        rw [q, e1] at h4; cases h4
        rw [c1] at rc; injection rc with z; exact absurd z (by decide)
    have n2 : b ≠ i2 := fun q => by
      have h3 : i2 ∈ [z, TI, TO, i1, i2] := by simp
      have := (hf i2 h3).1
      rcases hqy with (r | ⟨_, r⟩) | ⟨o, _, _, r, rc, _⟩
      · rw [q, this] at r; cases r
      · rw [q, this] at r; cases r
      · have h4 := I.kIn _ _ r
        obtain ⟨o1, e1, c1, _⟩ := h2
        rw [q, e1] at h4; cases h4
        rw [c1] at rc; injection rc with z; exact absurd z (by decide)
    have W := GoesN.zip2 (prog := X.prog) (w := X.w) (A := X.A) (elts := elts) (x1 := kk) (pos := tpos) D (Draws.tuple (A := X.A.in1) (I.ok.hd hc) i1 a n1 its.toArray) (Draws.list (A := X.A.in1) (I.ok.hd hc) i2 b n2 its2.toArray)
    have hi : i < min its.toArray.size its2.toArray.size := by
      have q1 := (List.getElem?_eq_some_iff.mp hu).1
      have q2 := (List.getElem?_eq_some_iff.mp hu2).1
      simp; omega
    refine W.goes i s (fun u' s2 => ∃ x H', Inv X pins σ H' s2 ∧ RelV x u' ∧ (ItzM X.K a b).yld i H x H' ∧ _ ∧ ∀ b ∈ [z, TI, TO, i1, i2], H' b = none) E hi ⟨hz, hTI, hTO, ⟨h1, p⟩, ⟨h2, p2.isList⟩⟩ fun v h' tk hY st' hk htk => ?_
    obtain ⟨T, y1, y2, rfl, hT, hy1, hy2, o, ho, hoc, n, hod⟩ := hY
    have ey : u = y1 := by
      have h3 : its.toArray[i]? = some u := by simpa using hu
      rw [h3] at hy1; exact Option.some.inj hy1
    have ey2 : u2 = y2 := by
      have h3 : its2.toArray[i]? = some u2 := by simpa using hu2
      rw [h3] at hy2; exact Option.some.inj hy2
    subst ey ey2
    have new : ObjOk X.prog X.w (upd H T (.tup [x, y])) h' T (.tup [x, y]) :=
      ⟨by show 2 ≤ sizeLine; decide, [u, u2], .cons ru (.cons ru2 .nil), o, ho, hoc, n, hod⟩
    have I1 : Inv X pins σ (upd H T (.tup [x, y])) { s with heap := h', toks := tk } :=
      I.turnedNew (ch := [z, TI, TO, i1, i2]) (fun c o hb q => hk c o (fun m => hb (by
        rcases (show c = z ∨ c = TO ∨ c = i1 ∨ c = i2 by simpa using m) with r | r | r | r <;> simp [r])) q) hf hT new
    have hTn : H T = none := I.hok.fresh hT
    refine ⟨.ref T, _, I1, rfl, ⟨T, x, y, rfl, hTn, rfl, fun l hl => by rw [I.tuple_inj hl hqx]; exact hx, fun l hl => by rw [I.list_inj hl hqy]; exact hy⟩, ⟨st'.1, st'.2.1, st'.2.2.1, st'.2.2.2.1.1, st'.2.2.2.2.1⟩, fun c hcm => ?_⟩
    have hlt : c < s.heap.objs.size := by
      obtain ⟨x0, y0, hTO⟩ := hTO
      obtain ⟨o1, e1, _⟩ := h1
      obtain ⟨o2, e2, _⟩ := h2
      rcases (show c = z ∨ c = TI ∨ c = TO ∨ c = i1 ∨ c = i2 by simpa using hcm) with q | q | q | q | q
      · rw [q]; exact Heap.lt_size hz
      · rw [q]; exact Heap.lt_size hTI
      · rw [q]; exact Heap.lt_size hTO
      · rw [q]; exact Heap.lt_size e1
      · rw [q]; exact Heap.lt_size e2
    rw [upd_ne (Nat.ne_of_lt (Nat.lt_of_lt_of_le hlt hT))]
    exact (hf c hcm).1
  done := by
    intro X hP hw hK hc i pins s σ H E I hf st hg
    subst hP hw hK
    obtain ⟨hz, hTI, hTO, h1, h2⟩ := st
    obtain ⟨xs, ys, hqx, hqy, hi⟩ := hg
    obtain ⟨its, rv, p, _⟩ := I.tuple hqx
    obtain ⟨its2, rv2, p2, _⟩ := I.list hqy
    have n1 : a ≠ i1 := fun q => by
      have h3 : i1 ∈ [z, TI, TO, i1, i2] := by simp
      have := (hf i1 h3).1
      rcases hqx with (r | ⟨_, r⟩) | ⟨o, _, _, r, rc, _⟩
      · rw [q, this] at r; cases r
      · rw [q, this] at r; cases r
      · have h4 := I.kIn _ _ r
        obtain ⟨o1, e1, c1, _⟩ := h1
        rw [q, e1] at h4; cases h4
        rw [c1] at rc; injection rc with z; exact absurd z (by decide)
    have n2 : b ≠ i2 := fun q => by
      have h3 : i2 ∈ [z, TI, TO, i1, i2] := by simp
      have := (hf i2 h3).1
      rcases hqy with (r | ⟨_, r⟩) | ⟨o, _, _, r, rc, _⟩
      · rw [q, this] at r; cases r
      · rw [q, this] at r; cases r
      · have h4 := I.kIn _ _ r
        obtain ⟨o1, e1, c1, _⟩ := h2
        rw [q, e1] at h4; cases h4
        rw [c1] at rc; injection rc with z; exact absurd z (by decide)
    have W := GoesN.zip2 (prog := X.prog) (w := X.w) (A := X.A) (elts := elts) (x1 := kk) (pos := tpos) D (Draws.tuple (A := X.A.in1) (I.ok.hd hc) i1 a n1 its.toArray) (Draws.list (A := X.A.in1) (I.ok.hd hc) i2 b n2 its2.toArray)
    have hi : i = min its.toArray.size its2.toArray.size := by rw [hi, rv.length, rv2.length]; simp
    refine W.stops s (fun s1 => Inv X pins σ H s1) E (by rw [← hi]; exact ⟨hz, hTI, hTO, ⟨h1, p⟩, ⟨h2, p2.isList⟩⟩) fun h' tk hk htk => ?_
    exact I.turnedL (ch := [z, TI, TO, i1, i2]) (fun c o hb q => hk c o (fun m => hb (by
        rcases (show c = z ∨ c = TO ∨ c = i1 ∨ c = i2 by simpa using m) with r | r | r | r <;> simp [r])) q) hf
  self := fun A i s Q E st h => wpAny_pyIter_zip st.1 h
def iZipM (K : PySem.W.Frag) (ta : TA) : TI := fun σ H R => ta σ H fun vs H1 => ∃ a b xs ys, vs = [.ref a, .ref b] ∧ SqT K H1 a xs ∧ SqL K H1 b ys ∧ R (ItzM K a b) H1
theorem pi_zipM {X : Cx} {e e2 : Expr} {ta : TA} {p pos tpos : Pos} {elts : List Expr} {kk : Nat} (hg : Gl X "zip") (hm : X.mg "zip" = none) (ha : PA X [e, e2] ta)
    (hs : starEach [e, e2] X.env = (false, eval e X.env) :: starEach [e2] X.env := by rfl) (hpl : (backTo pos (starEach [e2] X.env)).any (·.1) = false := by rfl) :
    PI X (.Tuple elts kk tpos) (.Call (.Name "zip" p) [e, e2] [] pos) (iZipM X.K ta) := by
  refine ⟨fun pins s σ H R I h => ?_⟩
  refine Call_ (ld_blt I hg hm PyProof.Rows.boot_zip (PyProof.Rows.callWith_type1 (thn (ha.run pos pins s σ H _ I h) fun us s1 ⟨vs, H1, I1, r1, q1⟩ => ?_) hs hpl))
  obtain ⟨a, b, xs, ys, ex, hqx, hqy, q⟩ := q1
  subst ex
  obtain ⟨u, u', rfl, r, r'⟩ := Vals.two r1
  cases r
  cases r'
  have fresh5 : ∀ c, c ∈ [s1.heap.objs.size + 4, s1.heap.objs.size + 2, s1.heap.objs.size + 3, s1.heap.objs.size, s1.heap.objs.size + 1] → FpOk X pins H1 c := fun c hcm => by
    have hle : s1.heap.objs.size ≤ c := by
      simp only [List.mem_cons, List.not_mem_nil, or_false] at hcm
      rcases hcm with z | z | z | z | z
      · rw [z]; exact Nat.le_add_right _ _
      · rw [z]; exact Nat.le_add_right _ _
      · rw [z]; exact Nat.le_add_right _ _
      · rw [z]; exact Nat.le_refl _
      · rw [z]; exact Nat.le_add_right _ _
    exact I1.fpOk hle (I1.hok.fresh hle)
  obtain ⟨its, rv, p1, _⟩ := I1.tuple hqx
  obtain ⟨its2, rv2, p2, _⟩ := I1.list hqy
  refine zip_begins2 (begins_tuple a its.toArray) (begins_list b its2.toArray) (show s1.heap.IsTuple a its.toArray from p1) p2.isList fun h' hz hTI hTO h1 h2 hsz hk => wpAny_pyIter_zip hz ?_
  have I2 : Inv X pins σ H1 { s1 with heap := h' } := I1.kept (t' := s1.toks) hk
  have S := zip_sep2 (N := s1.heap.objs.size) (fp1 := [a]) (fp2 := [b]) (fun c hc => by rw [List.mem_singleton.mp hc]; exact p1.lt) (fun c hc => by rw [List.mem_singleton.mp hc]; exact p2.lt)
  exact ⟨s1.heap.objs.size + 4, [s1.heap.objs.size + 4, s1.heap.objs.size + 2, s1.heap.objs.size + 3, s1.heap.objs.size, s1.heap.objs.size + 1], _, _, H1, rfl, I2, turn_zipM S, ⟨hz, hTI, ⟨_, _, hTO⟩, ⟨_, h1, rfl, rfl⟩, ⟨_, h2, rfl, rfl⟩⟩, fresh5, q⟩
def iZipX (K : PySem.W.Frag) (ta : TA) : TI := fun σ H R => iZipA K ta σ H R ∨ iZipM K ta σ H R
theorem pi_zipX {X : Cx} {e e2 : Expr} {ta : TA} {p pos tpos : Pos} {elts : List Expr} {kk : Nat} (hg : Gl X "zip") (hm : X.mg "zip" = none) (ha : PA X [e, e2] ta)
    (hs : starEach [e, e2] X.env = (false, eval e X.env) :: starEach [e2] X.env := by rfl) (hpl : (backTo pos (starEach [e2] X.env)).any (·.1) = false := by rfl) :
    PI X (.Tuple elts kk tpos) (.Call (.Name "zip" p) [e, e2] [] pos) (iZipX X.K ta) := PI.or (pi_zipA hg hm ha hs hpl) (pi_zipM hg hm ha hs hpl)
/-! ### sum, min of a tuple; max -/
section
variable {X : Cx}
def rSumT (K : PySem.W.Frag) : List V → Hp → VK → Prop := fun vs H Q => ∃ (a : Addr) (ns : List Int), vs = [V.ref a] ∧ SqT K H a (ns.map V.int) ∧ Q (.int ns.sum) H
theorem cr_sumT (hc : X.calm = true) : CallR X (.builtin "sum") (rSumT X.K) := by
  intro pins s σ H vs us Q I r h
  obtain ⟨a, ns, rfl, hs, q⟩ := h
  obtain ⟨its, rv, hl, _⟩ := I.tuple hs
  rw [Vals.ref1 r]
  obtain ⟨xs, e⟩ := rv.ints.allInts.items
  have hn : numsOf (intItems xs).toList = ns := by rw [← e]; exact rv.ints.numsOf
  rw [nums_intItems] at hn
  have hl' : s.heap.IsTuple a its.toArray := hl
  rw [e] at hl'
  refine PySem.W.ktm_sumG (I.ok.hd hc) hl' fun h' tk t' hk => ⟨.int ns.sum, H, I.kept hk, ⟨t', ?_⟩, q⟩
  rw [preSum_eq, List.take_of_length_le (by simp), hn]
def rSumX (K : PySem.W.Frag) : List V → Hp → VK → Prop := fun vs H Q => rSum K vs H Q ∨ rSumT K vs H Q
theorem cr_sumX (hc : X.calm = true) : CallR X (.builtin "sum") (rSumX X.K) := (cr_sum hc).or (cr_sumT hc)
def rMinT (K : PySem.W.Frag) : List V → Hp → VK → Prop := fun vs H Q => ∃ (a : Addr) (n : Int) (ns : List Int), vs = [V.ref a] ∧ SqT K H a ((n :: ns).map V.int) ∧ Q (.int (ns.foldl min n)) H
theorem dpAll_ints {H : Hp} : ∀ ns : List Int, DpAll X.K H (ns.map V.int) (ns.map PyData.int)
  | [] => .nil
  | n :: ns => .cons (.int n) (dpAll_ints ns)
theorem alike_intsP (ns : List Int) : AlikeAll (ns.map PyData.int) := by
  refine ⟨fun x hx y hy => ?_, fun x hx e => ?_⟩
  · obtain ⟨i, _, rfl⟩ := List.mem_map.mp hx
    obtain ⟨j, _, rfl⟩ := List.mem_map.mp hy
    rfl
  · obtain ⟨i, _, rfl⟩ := List.mem_map.mp hx
    cases e
theorem depth_ints : ∀ ns : List Int, PyData.depthAll (ns.map PyData.int) = 0
  | [] => rfl
  | n :: ns => by
    rw [List.map_cons]
    simp only [PyData.depthAll, PyData.depth]
    rw [depth_ints ns]; rfl
theorem cr_minT (hc : X.calm = true) (hu : X.A.units + 64 < cLine) : CallR X (.builtin "min") (rMinT X.K) := by
  intro pins s σ H vs us Q I r h
  obtain ⟨a, n, ns, rfl, hs, q⟩ := h
  obtain ⟨its, rv, hl, _⟩ := I.tuple hs
  rw [Vals.ref1 r]
  obtain ⟨as, hr⟩ := Dp.readsAll I _ _ _ (dpAll_ints (H := H) (n :: ns)) rv
  have hd := depth_ints (n :: ns)
  refine min_tuple_data (x := .int n) (xs := ns.map PyData.int) (I.ok.hd hc) (show s.heap.IsTuple a its.toArray from hl) (by simpa using hr) (alike_intsP (n :: ns)) (by
    rw [List.map_cons] at hd
    rw [hd]; omega) fun i v h' tk bs hi hrd hk => ?_
  rw [minD_ints] at hrd
  cases hrd with
  | int _ t => exact ⟨.int _, H, I.kept hk, ⟨t, rfl⟩, q⟩
def rMinX (K : PySem.W.Frag) : List V → Hp → VK → Prop := fun vs H Q => rMin K vs H Q ∨ rMinT K vs H Q
theorem cr_minX (hc : X.calm = true) (hu : X.A.units + 64 < cLine) : CallR X (.builtin "min") (rMinX X.K) := (cr_min hc).or (cr_minT hc hu)
/-- xs[i], 0 ≤ i, as a value to be changed -/
def rGetL (K : PySem.W.Frag) : V → V → Hp → VK → Prop := fun x y H Q => ∃ (p : Addr) (xs : List V) (j : Nat) (v : V), x = .ref p ∧ y = .int (j : Nat) ∧ SqL K H p xs ∧ xs[j]? = some v ∧ Q v H
theorem get_listX : PGet X (rGetL X.K) := by
  intro pins s σ H o i ov iv Q I ro ri h
  obtain ⟨p, xs, j, v, rfl, rfl, hl, ha, q⟩ := h
  obtain ⟨its, rv, pl, hz⟩ := I.list hl
  obtain ⟨t, rfl⟩ := ri
  cases ro
  obtain ⟨u, hu, ru⟩ := rv.get ha
  have hlt := (List.getElem?_eq_some_iff.mp hu).1
  have hn := line63
  exact wpAny_getItem_list pl.isList (Int.natCast_nonneg j) (by rw [sizeLine_eq] at hz; have := rv.length; omega) (by simpa using hu) ⟨v, H, I, ru, q⟩
end
end Pu
end
section
set_option Elab.async false
set_option linter.all false
set_option maxRecDepth 100000
set_option maxHeartbeats 4000000
/-! Pu6: their readings by data. -/
namespace Pu
open PySem PySem.Spec PyProof.Rows L2 StX RZ PySem.W
section
variable {K : PySem.W.Frag} {ρ : Rho} {tl : TA} {ds es : List D} {a b d : D}
theorem id_enumL (h : EvA K ρ tl [.lst ds]) : ItD K ρ (iEnumX K tl) (pairs 0 ds) := fun σ G H e n R q => .inl (id_enum h σ G H e n R q)
theorem iteT_walks {G : Hp} {a : Addr} {xs : List V} (h : G a = some (.tup xs)) (hl : IsL K G ds xs) : Walks K G (IteT K a) (pairs 0 ds) := by
  refine ⟨fun G2 H2 e1 e2 i d hd => ?_, fun G2 H2 e1 e2 => ⟨xs, SqT.of (e2 _ _ (e1 _ _ h)), by rw [pairs_len, hl.length]⟩⟩
  obtain ⟨e, he, rfl⟩ := pairs_get hd
  obtain ⟨v, h1, h2⟩ := hl.get he
  refine ⟨⟨xs, v, SqT.of (e2 _ _ (e1 _ _ h)), h1⟩, fun x H3 ⟨T, y, ex, hT, eH, hy⟩ => ?_⟩
  subst ex eH
  have z := hy xs (SqT.of (e2 _ _ (e1 _ _ h)))
  rw [h1] at z; cases z
  have s := Stp.new (o := .tup [.int (i : Nat), v]) e2 hT
  refine ⟨_, s, mk_tup upd_same (isL_cons ?_ (isL_cons (Is.mono (e1.trans s.g) _ _ h2) isL_nil))⟩
  rw [Nat.zero_add]; exact mk_int
theorem id_enumT (h : EvA K ρ tl [.tup ds]) : ItD K ρ (iEnumX K tl) (pairs 0 ds) := fun σ G H e n R q => .inr (h σ G H e n _ fun vs G1 H1 s1 i1 => by
  obtain ⟨v, rfl, hv⟩ := il1 i1
  obtain ⟨a, xs, rfl, h1, h2⟩ := is_tup hv
  exact ⟨a, xs, rfl, SqT.of (s1.le _ _ h1), q _ G1 H1 s1 (iteT_walks h1 h2)⟩)
theorem id_range {n : Nat} (h : EvA K ρ tl [.int (n : Nat)]) (hn : n ≤ 1000000) : ItD K ρ (iRng1 tl) ((List.range' 0 n).map fun i => D.int (i : Nat)) := by
  have z := id_rng1 (K := K) (ρ := ρ) h (by omega) (by omega)
  have e : intD 0 (n : Int).toNat = (List.range' 0 n).map fun i => D.int (i : Nat) := by
    unfold intD
    rw [List.range_eq_range']
    exact List.map_congr_left fun i _ => by rw [Int.zero_add]
  rw [e] at z; exact z
theorem id_zipXL (h : EvA K ρ tl [.lst ds, .lst es]) : ItD K ρ (iZipX K tl) (zipD ds es) := fun σ G H e n R q => .inl (id_zipL h σ G H e n R q)
theorem id_zipXT (h : EvA K ρ tl [.tup ds, .tup es]) : ItD K ρ (iZipX K tl) (zipD ds es) := fun σ G H e n R q => .inl (id_zipT h σ G H e n R q)
theorem itzM_walks {G : Hp} {a b : Addr} {xs ys : List V} (h : G a = some (.tup xs)) (hl : IsL K G ds xs) (h' : G b = some (.lst ys)) (hl' : IsL K G es ys) : Walks K G (ItzM K a b) (zipD ds es) := by
  refine ⟨fun G2 H2 e1 e2 i d hd => ?_, fun G2 H2 e1 e2 => ⟨xs, ys, SqT.of (e2 _ _ (e1 _ _ h)), SqL.of (e2 _ _ (e1 _ _ h')), by
    unfold zipD; rw [List.length_zipWith, hl.length, hl'.length]⟩⟩
  obtain ⟨x, y, hx, hy, rfl⟩ := zipD_get hd
  obtain ⟨v, h1, h2⟩ := hl.get hx
  obtain ⟨u, h3, h4⟩ := hl'.get hy
  refine ⟨⟨xs, ys, v, u, SqT.of (e2 _ _ (e1 _ _ h)), SqL.of (e2 _ _ (e1 _ _ h')), h1, h3⟩, fun z H3 ⟨T, p, q, ex, hT, eH, hp, hq⟩ => ?_⟩
  subst ex eH
  have z1 := hp xs (SqT.of (e2 _ _ (e1 _ _ h)))
  have z2 := hq ys (SqL.of (e2 _ _ (e1 _ _ h')))
  rw [h1] at z1; cases z1
  rw [h3] at z2; cases z2
  have s := Stp.new (o := .tup [v, u]) e2 hT
  exact ⟨_, s, mk_tup upd_same (isL_cons (Is.mono (e1.trans s.g) _ _ h2) (isL_cons (Is.mono (e1.trans s.g) _ _ h4) isL_nil))⟩
theorem id_zipXM (h : EvA K ρ tl [.tup ds, .lst es]) : ItD K ρ (iZipX K tl) (zipD ds es) := fun σ G H e n R q => .inr (h σ G H e n _ fun vs G1 H1 s1 i1 => by
  obtain ⟨v, w, rfl, hv, hw⟩ := il2 i1
  obtain ⟨a, xs, rfl, h1, h2⟩ := is_tup hv
  obtain ⟨b, ys, rfl, h3, h4⟩ := is_lst hw
  exact ⟨a, b, xs, ys, rfl, SqT.of (s1.le _ _ h1), SqL.of (s1.le _ _ h3), q _ G1 H1 s1 (itzM_walks h1 h2 h3 h4)⟩)
theorem rc_sumXL {ns : List Int} : RcD K (rSumX K) [.lst (ns.map D.int)] (.int ns.sum) := fun G H xs e h Q q => .inl (rc_sumL G H xs e h Q q)
theorem rc_sumXT {ns : List Int} : RcD K (rSumX K) [.tup (ns.map D.int)] (.int ns.sum) := fun G H xs e h Q q => by
  obtain ⟨v, rfl, h1⟩ := il1 h
  obtain ⟨p, ys, rfl, h2, h3⟩ := is_tup h1
  have hh := isL_ints h3
  subst hh
  exact .inr ⟨p, ns, rfl, SqT.of (e _ _ h2), q _ G H (Stp.refl e) mk_int⟩
theorem rc_minXT {n : Int} {ns : List Int} : RcD K (rMinX K) [.tup ((n :: ns).map D.int)] (.int (ns.foldl min n)) := fun G H xs e h Q q => by
  obtain ⟨v, rfl, h1⟩ := il1 h
  obtain ⟨p, ys, rfl, h2, h3⟩ := is_tup h1
  have hh := isL_ints h3
  subst hh
  exact .inr ⟨p, n, ns, rfl, SqT.of (e _ _ h2), q _ G H (Stp.refl e) mk_int⟩
theorem rc_max {ns : List Int} {m : Int} (h0 : 0 < ns.length) (hm : ∀ k, k ∈ ns → (∀ y, y ∈ ns → y ≤ k) → k = m) : RcD K (rMax K) [.lst (ns.map D.int)] (.int m) := fun G H xs e h Q q => by
  obtain ⟨v, rfl, h1⟩ := il1 h
  obtain ⟨p, ys, rfl, h2, h3⟩ := is_lst h1
  have hh := isL_ints h3
  subst hh
  exact ⟨p, ns, rfl, SqL.of (e _ _ h2), h0, fun k hk hy => by rw [hm k hk hy]; exact q _ G H (Stp.refl e) mk_int⟩
/-- a zip of data of two kinds -/
theorem zipD_map {α β : Type} {f : α → D} {g : β → D} (l : List α) (m : List β) : zipD (l.map f) (m.map g) = (l.zip m).map fun p => .tup [f p.1, g p.2] := by
  unfold zipD
  rw [List.zipWith_map, List.zip, List.map_zipWith]
theorem pairs_map {α : Type} {f : α → D} : ∀ (l : List α) (k : Nat), pairs k (l.map f) = (List.zip (List.range' k l.length) l).map fun p => .tup [.int (p.1 : Nat), f p.2]
  | [], _ => rfl
  | x :: l, k => by
    simp only [List.map_cons, pairs, List.length_cons, List.range'_succ, List.zip_cons_cons]
    rw [pairs_map l (k + 1)]
/-! ### names forgotten -/
inductive Wk : Rho → Rho → Prop
  | nil : Wk [] []
  | same {x : Option D} {r r' : Rho} : Wk r r' → Wk (x :: r) (x :: r')
  | none {y : Option D} {r r' : Rho} : Wk r r' → Wk (none :: r) (y :: r')
theorem Wk.len : ∀ {r r' : Rho}, Wk r r' → r.length = r'.length
  | _, _, .nil => rfl
  | _, _, .same h => by simp [Wk.len h]
  | _, _, .none h => by simp [Wk.len h]
theorem Wk.get : ∀ {r r' : Rho}, Wk r r' → ∀ (i : Nat) (d : D), r[i]? = some (some d) → r'[i]? = some (some d)
  | _, _, .nil, i, d, h => h
  | _, _, .same w, 0, d, h => h
  | _, _, .same w, i + 1, d, h => by simpa using Wk.get w i d (by simpa using h)
  | _, _, .none w, 0, d, h => by simp at h
  | _, _, .none w, i + 1, d, h => by simpa using Wk.get w i d (by simpa using h)
theorem Wk.en {r r' : Rho} (w : Wk r r') {G : Hp} {σ : L2.St} (n : En K G r' σ) : En K G r σ := n.weak w.len w.get
theorem sd_weak {ρ1 ρ2 : Rho} {t : TS} (h : StD K ρ t (.nx ρ1)) (w : Wk ρ2 ρ1) : StD K ρ t (.nx ρ2) := fun Dn σ G H e n q => h Dn σ G H e n fun σ' G' H' s n' => q σ' G' H' s (w.en n')
theorem sd_from {ρ1 : Rho} {t : TS} {o : Out} (w : Wk ρ1 ρ) (h : StD K ρ1 t o) : StD K ρ t o := fun Dn σ G H e n q => h Dn σ G H e (w.en n) q
/-- a for that folds a state over data of one kind -/
theorem sd_fold {α β : Type} {enc : α → D} {wi : TI} {g : TG} {tb : TS} (env : β → Rho) (f : β → α → β) (ok : β → List α → Prop) {xs : List α} (b : β) (hi : ItD K (env b) wi (xs.map enc)) (h0 : ok b xs)
    (hs : ∀ b x l, ok b (x :: l) → ok (f b x) l ∧ ∃ ρ1 is, TgD K (env b) g (enc x) ρ1 is ∧ StD K ρ1 tb (.nx (env (f b x)))) : StD K (env b) (tFor wi g tb) (.nx (env (xs.foldl f b))) := by
  refine sd_fo hi ?_
  clear hi
  induction xs generalizing b with
  | nil => exact .nil
  | cons x l ih =>
    obtain ⟨h1, ρ1, is, h2, h3⟩ := hs b x l h0
    exact .nx h2 h3 (ih (f b x) h1)
/-- a for that only searches -/
theorem sd_search {α : Type} {enc : α → D} {wi : TI} {g : TG} {tb : TS} (env : Rho) (find : α → Option D) {xs : List α} (hi : ItD K env wi (xs.map enc))
    (hs : ∀ x, x ∈ xs → ∃ ρ1 is, TgD K env g (enc x) ρ1 is ∧ ((find x = none ∧ StD K ρ1 tb (.nx env)) ∨ ∃ d, find x = some d ∧ StD K ρ1 tb (.rt d))) :
    (xs.findSome? find = none → StD K env (tFor wi g tb) (.nx env)) ∧ ∀ d, xs.findSome? find = some d → StD K env (tFor wi g tb) (.rt d) := by
  have key : (xs.findSome? find = none → Fo K g tb (xs.map enc) env (.nx env)) ∧ ∀ d, xs.findSome? find = some d → Fo K g tb (xs.map enc) env (.rt d) := by
    clear hi
    induction xs with
    | nil => exact ⟨fun _ => .nil, fun d h => by simp at h⟩
    | cons x l ih =>
      obtain ⟨i1, i2⟩ := ih fun y hy => hs y (List.mem_cons_of_mem _ hy)
      obtain ⟨ρ1, is, h1, h⟩ := hs x List.mem_cons_self
      rcases h with ⟨e, h2⟩ | ⟨d, e, h2⟩
      · refine ⟨fun q => .nx h1 h2 (i1 (by simpa [e] using q)), fun d q => .nx h1 h2 (i2 d (by simpa [e] using q))⟩
      · refine ⟨fun q => by simp [e] at q, fun d' q => ?_⟩
        have : d = d' := by simpa [e] using q
        subst this
        exact .rt h1 h2
  exact ⟨fun q => sd_fo hi (key.1 q), fun d q => sd_fo hi (key.2 d q)⟩
theorem sd_searchQ {α : Type} {enc : α → D} {wi : TI} {g : TG} {tb u : TS} {o : Out} (env : Rho) (find : α → Option D) {xs : List α} (hi : ItD K env wi (xs.map enc))
    (hs : ∀ x, x ∈ xs → ∃ ρ1 is, TgD K env g (enc x) ρ1 is ∧ ((find x = none ∧ StD K ρ1 tb (.nx env)) ∨ ∃ d, find x = some d ∧ StD K ρ1 tb (.rt d)))
    (h0 : xs.findSome? find = none → StD K env u o) (h1 : ∀ d, xs.findSome? find = some d → o = .rt d) : StD K env (tSeq (tFor wi g tb) u) o := by
  obtain ⟨s1, s2⟩ := sd_search env find hi hs
  cases q : xs.findSome? find with
  | none => exact sd_seq (s1 q) (h0 q)
  | some d =>
    rw [h1 d q]
    exact sd_seq_rt (s2 d q)
theorem sd_aug {i : Nat} {te : TE} {ti : TIp} {c : D} (h : ρ[i]? = some (some a)) (he : EvD K ρ te b) (hr : RvD K ti a b c) : StD K ρ (tAug i te ti) (.nx (ρ.set i (some c))) := fun Dn σ G H e n q => by
  obtain ⟨x, h1, h2⟩ := n.val i a h
  exact ⟨x, h1, he σ G H e n _ fun y G1 H1 s1 i1 => hr G1 H1 x y s1.le (Is.mono s1.g _ _ h2) i1 _ fun v G2 H2 s2 i2 => q _ G2 H2 (s1.trans s2) ((n.mono (s1.trans s2).g).set i2)⟩
theorem rv_addIp {i j : Int} : RvD K (ipI fun i j => i + j) (.int i) (.int j) (.int (i + j)) := fun G H x y e hx hy Q q => ⟨i, j, is_int hx, is_int hy, q _ G H (Stp.refl e) mk_int⟩
theorem cutD_take {l : List D} {k : Nat} (h : k ≤ l.length) : cutD l none (some (k : Nat)) = l.take k := by
  unfold cutD
  rw [HT.sIx_none, HT.sIx_nat, Nat.sub_zero, List.drop_zero, Nat.min_eq_left h]
theorem cutD_drop {l : List D} {k : Nat} (h : k ≤ l.length) : cutD l (some (k : Nat)) none = l.drop k := by
  unfold cutD
  rw [HT.sIx_none, HT.sIx_nat, Nat.min_eq_left h]
  exact List.take_of_length_le (by simp)
/-! isinstance -/
theorem isi_int {T : String} {k : Bool} {i : Int} (h : kitB "int" T = some k) {te : TE} {ρ : Rho} (he : EvD K ρ te (.int i)) : EvD K ρ (tCB (rIsi K) (tCons te (tCons (tC (.ty T)) tNil))) (.bl k) := fun σ G H e n Q q =>
  he σ G H e n _ fun x G1 H1 s1 i1 => ⟨x, .ty T, .type "int", .type T, k, rfl, .ty T, by rw [is_int i1]; exact .base (.int i), kit_ty h, q _ G1 H1 s1 mk_bl⟩
theorem isi_tup {T : String} {k : Bool} {l : List D} (h : kitB "tuple" T = some k) {te : TE} {ρ : Rho} (he : EvD K ρ te (.tup l)) : EvD K ρ (tCB (rIsi K) (tCons te (tCons (tC (.ty T)) tNil))) (.bl k) := fun σ G H e n Q q =>
  he σ G H e n _ fun x G1 H1 s1 i1 => by
    obtain ⟨a, xs, rfl, h1, h2⟩ := is_tup i1
    exact ⟨_, .ty T, .type "tuple", .type T, k, rfl, .ty T, .base (.tup (s1.le _ _ h1)), kit_ty h, q _ G1 H1 s1 mk_bl⟩
end
end Pu
namespace Pu
open PySem PySem.Spec PyProof.Rows L2 StX RZ PySem.W
/-! ### the rules with the written part named -/
section
variable {X : Cx} {K : PySem.W.Frag}
theorem op_mulK (h : X.K = K) : OpR X (binaryOp .Mult) (rMulX K) := h ▸ op_mulX
theorem op_eqK (h : X.K = K) (hu : X.A.units + 64 < cLine) : OpR X (compareOp .Eq) (rEqD K) := h ▸ op_eqD hu
theorem op_neK (h : X.K = K) (hu : X.A.units + 64 < cLine) : OpR X (compareOp .NotEq) (rNeD K) := h ▸ op_neD hu
theorem op_inK (h : X.K = K) (hu : X.A.units + 65 < cLine) : OpR X (compareOp .In) (rInX K) := h ▸ op_inX hu
theorem op_notInK (h : X.K = K) : OpR X (compareOp .NotIn) (rNotInX K) := h ▸ op_notInX
theorem ix_K (h : X.K = K) : IxR X (rIx K) := h ▸ ix_seq
theorem sl_K (h : X.K = K) : SlR X (rSlL K) := h ▸ sl_list
theorem call_lenK (h : X.K = K) : CallR X (.builtin "len") (rLenX K) := h ▸ call_lenX
theorem call_tupK (h : X.K = K) : CallR X (.type "tuple") (rTupOf K) := h ▸ call_tupX
theorem call_lstK (h : X.K = K) : CallR X (.type "list") (rLstOf K) := h ▸ call_lstX
theorem call_allK (h : X.K = K) (hc : X.calm = true) : CallR X (.builtin "all") (rAll K) := h ▸ cr_all hc
theorem call_anyK (h : X.K = K) (hc : X.calm = true) : CallR X (.builtin "any") (rAny K) := h ▸ cr_any hc
theorem call_sumK (h : X.K = K) (hc : X.calm = true) : CallR X (.builtin "sum") (rSumX K) := h ▸ cr_sumX hc
theorem call_minK (h : X.K = K) (hc : X.calm = true) (hu : X.A.units + 64 < cLine) : CallR X (.builtin "min") (rMinX K) := h ▸ cr_minX hc hu
theorem call_maxK (h : X.K = K) (hc : X.calm = true) : CallR X (.builtin "max") (rMax K) := h ▸ cr_max hc
theorem call_isiK' (h : X.K = K) : CallR X (.builtin "isinstance") (rIsi K) := h ▸ call_isi
theorem get_listK (h : X.K = K) : PGet X (rGetL K) := h ▸ get_listX
variable {tg e e2 : Expr} {es : List Expr} {te : TE} {ta t : TA} {p pos tpos : Pos} {elts : List Expr} {kk : Nat} {f : Str}
theorem pe_fldK (h : X.K = K) (he : PE X e te) (hb : attributeBase e f X.env (eval e X.env) = eval e X.env) : PE X (.Attribute e f pos) (tFld K te f) := h ▸ pe_fld he hb
theorem pi_seqK (h : X.K = K) (hl : PE X e te) : PI X tg e (iSeq K te) := h ▸ pi_seq hl
theorem pi_enumK (h : X.K = K) (hg : Gl X "enumerate") (hm : X.mg "enumerate" = none) (ha : PA X [e] ta) (hs : starEach [e] X.env = [(false, eval e X.env)] := by rfl) :
    PI X (.Tuple elts kk tpos) (.Call (.Name "enumerate" p) [e] [] pos) (iEnumX K ta) := h ▸ pi_enumX hg hm ha hs
theorem pi_zipK (h : X.K = K) (hg : Gl X "zip") (hm : X.mg "zip" = none) (ha : PA X [e, e2] ta)
    (hs : starEach [e, e2] X.env = (false, eval e X.env) :: starEach [e2] X.env := by rfl) (hpl : (backTo pos (starEach [e2] X.env)).any (·.1) = false := by rfl) :
    PI X (.Tuple elts kk tpos) (.Call (.Name "zip" p) [e, e2] [] pos) (iZipX K ta) := h ▸ pi_zipX hg hm ha hs hpl
theorem pg_tupK {n : Nat} {gs : TGs} (h : X.K = K) (hc : X.calm = true) (hp : PGs X es gs)
    (hn : (assignEach es X.env).length = n := by rfl) (hst : (assignEach es X.env).findIdx? (·.1) = none := by rfl) : PG X (.Tuple es kk pos) (gTup K n gs) := h ▸ pg_tup hc hp hn hst
theorem pa_starK (h : X.K = K) (he : PE X e te) (hr : PA X es t) (hs : starEach (.Starred e p :: es) X.env = (true, eval e X.env) :: starEach es X.env := by rfl) : PA X (.Starred e p :: es) (tStar K te t) := h ▸ pa_star he hr hs
end
end Pu
end
section
set_option Elab.async false
set_option linter.all false
set_option maxRecDepth 100000
set_option maxHeartbeats 4000000
/-! Pu7: texts by their length; instances filled, properties. -/
namespace Pu
open PySem PySem.Spec PyProof.Rows L2 StX RZ PySem.W TL
section
variable {K : PySem.W.Frag} {ρ : Rho} {ta tb te : TE} {tl : TA} {n k s : Nat}
def rStrX : List V → Hp → VK → Prop := fun xs H Q => ∃ i : Int, xs = [.int i] ∧ i.natAbs.log2 < 1920 ∧ Q (.str (toString i)) H
theorem call_strX {X : Cx} : CallR X (.type "str") rStrX := call_str_int
theorem rc_str {i : Int} (h : i.natAbs.log2 < 1920) : RcD K rStrX [.int i] (.txt 1921) := fun G H xs e hx Q q => by
  obtain ⟨v, rfl, h1⟩ := il1 hx
  rw [is_int h1]
  exact ⟨i, rfl, h, q _ G H (Stp.refl e) (mk_txt (int_text_len_1921 h))⟩
theorem ed_txt (h : EvD K ρ te (.txt k)) (hl : k ≤ n) : EvD K ρ te (.txt n) := fun σ G H e en Q q => h σ G H e en Q fun v G1 H1 s1 i1 => q v G1 H1 s1 (by
  obtain ⟨z, rfl, hz⟩ := is_txt i1
  exact mk_txt (by omega))
def rJoinX (K : PySem.W.Frag) : V → List V → Hp → VK → Prop := fun x xs H Q => ∃ a p, ∃ ys : List Str, x = .str a ∧ xs = [.ref p] ∧ (SqL K H p (ys.map V.str) ∨ SqT K H p (ys.map V.str)) ∧
  (ys.map (·.length)).sum + ys.length * a.length ≤ 16777216 ∧ Q (.str (Txt.join a ys)) H
theorem pe_joinK {X : Cx} {o e : Expr} {to te : TE} {apos pos : Pos} (h : X.K = K) (ho : PE X o to) (he : PE X e te) (hs : starEach [e] X.env = [(false, eval e X.env)] := by rfl) (hbase : attributeBase o "join" X.env (eval o X.env) = eval o X.env := by rfl) (hline : (apos.endLine == pos.line) = true := by rfl) :
    PE X (.Call (.Attribute o "join" apos) [e] [] pos) (tM1 (rJoinX K) to te) := h ▸ pe_join ho he hs hbase hline
theorem isL_txts {G : Hp} : ∀ {k : Nat} {xs : List V}, IsL K G (List.replicate k (.txt n)) xs → ∃ ys : List Str, xs = ys.map V.str ∧ ys.length = k ∧ ∀ y ∈ ys, y.length ≤ n
  | 0, xs, h => ⟨[], isL_nil_inv h, rfl, by simp⟩
  | k + 1, xs, h => by
    rw [List.replicate_succ] at h
    obtain ⟨v, r, rfl, h1, h2⟩ := isL_cons_inv h
    obtain ⟨z, rfl, hz⟩ := is_txt h1
    obtain ⟨ys, rfl, e, hy⟩ := isL_txts h2
    refine ⟨z :: ys, rfl, by simp [e], fun y hm => ?_⟩
    rcases List.mem_cons.mp hm with q | q
    · rw [q]; exact hz
    · exact hy y q
theorem joinL_len (S : List Nat) : ∀ ps : List (List Nat), (∀ p ∈ ps, p.length ≤ n) → (joinL S ps).length ≤ ps.length * n + ps.length * S.length
  | [], _ => by simp [joinL]
  | [p], h => by
    have := h p (by simp)
    simp [joinL]; omega
  | p :: q :: r, h => by
    have h1 := h p (by simp)
    have h2 := joinL_len S (q :: r) fun y hy => h y (List.mem_cons_of_mem _ hy)
    show (p ++ (S ++ joinL S (q :: r))).length ≤ _
    rw [List.length_append, List.length_append]
    simp only [List.length_cons] at h2 ⊢
    rw [Nat.succ_mul (r.length + 1), Nat.succ_mul (r.length + 1)]
    omega
theorem ed_join (h1 : EvD K ρ ta (.txt s)) (h2 : EvD K ρ tb (.lst (List.replicate k (.txt n)))) (hb : k * n + k * s ≤ 1000000) : EvD K ρ (tM1 (rJoinX K) ta tb) (.txt (k * n + k * s)) := fun σ G H e en Q q =>
  h1 σ G H e en _ fun x G1 H1 s1 i1 => by
    obtain ⟨a, rfl, ha⟩ := is_txt i1
    refine ⟨⟨a, rfl⟩, h2 σ G1 H1 s1.le (en.mono s1.g) _ fun y G2 H2 s2 i2 => ?_⟩
    obtain ⟨p, xs, rfl, h3, h4⟩ := is_lst i2
    obtain ⟨ys, rfl, hk, hy⟩ := isL_txts h4
    have m1 : k * a.length ≤ k * s := Nat.mul_le_mul_left k ha
    have m2 : ∀ l : List Str, (∀ y ∈ l, y.length ≤ n) → (l.map (·.length)).sum ≤ l.length * n := fun l => by
      induction l with
      | nil => intro _; simp
      | cons z l ih =>
        intro hz
        have := hz z List.mem_cons_self
        have := ih fun y hy => hz y (List.mem_cons_of_mem _ hy)
        simp only [List.map_cons, List.sum_cons, List.length_cons, Nat.succ_mul]
        omega
    have m3 := m2 ys hy
    rw [hk] at m3
    refine ⟨a, p, ys, rfl, rfl, .inl (SqL.of (s2.le _ _ h3)), by rw [hk]; omega, q _ G2 H2 (s1.trans s2) (mk_txt ?_)⟩
    rw [join_eq]
    have e1 : (Str.join a ys).length = (tl (Str.join a ys)).length := by simp [tl, Str.length]
    rw [e1, tl_join]
    have e2 := joinL_len (n := n) (tl a) (ys.map tl) fun p hp => by
      obtain ⟨y, hy1, rfl⟩ := List.mem_map.mp hp
      have := hy y hy1
      simpa [tl, Str.length] using this
    have e3 : (tl a).length = a.length := by simp [tl, Str.length]
    rw [List.length_map, hk, e3] at e2
    omega
end
end Pu
end
section
set_option Elab.async false
set_option linter.all false
set_option maxRecDepth 100000
set_option maxHeartbeats 4000000
/-! Pu8: own cells that change. -/
namespace Pu
open PySem PySem.Spec PyProof.Rows L2 StX RZ PySem.W
/-- from (G0, H0) to (G, H) only the cells of M may have changed; they stand outside G -/
structure Hist (M : List Addr) (G0 H0 G H : Hp) : Prop where
  g : Same G0 G
  h : ∀ a o, a ∉ M → H0 a = some o → H a = some o
  nw : ∀ a, G0 a = none → H0 a ≠ none → G a = none
  own : ∀ a, a ∈ M → G a = none ∧ H a ≠ none
section
variable {M N : List Addr} {G0 H0 G H G' H' : Hp} {p : Addr} {o : HO}
theorem Hist.start (e : Same G H) (h : ∀ a, a ∈ M → G a = none ∧ H a ≠ none) : Hist M G H G H := ⟨Same.refl _, fun _ _ _ q => q, fun _ q _ => q, h⟩
theorem Hist.step (i : Hist M G0 H0 G H) (s : Stp G H G' H') : Hist M G0 H0 G' H' := by
  refine ⟨i.g.trans s.g, fun a o n q => s.h a o (i.h a o n q), fun a q1 q2 => ?_, fun a m => ?_⟩
  · refine s.nw a (i.nw a q1 q2) fun z => ?_
    by_cases m : a ∈ M
    · exact (i.own a m).2 z
    · cases e : H0 a with
      | none => exact q2 e
      | some o => rw [i.h a o m e] at z; cases z
  · obtain ⟨z1, z2⟩ := i.own a m
    refine ⟨s.nw a z1 z2, fun z => ?_⟩
    cases e : H a with
    | none => exact z2 e
    | some o => rw [s.h a o e] at z; cases z
theorem Hist.set (i : Hist M G0 H0 G H) (m : p ∈ M) : Hist M G0 H0 G (upd H p o) := by
  refine ⟨i.g, fun a u n q => ?_, i.nw, fun a m' => ⟨(i.own a m').1, ?_⟩⟩
  · rw [upd_ne (fun z => n (by rw [z]; exact m))]; exact i.h a u n q
  · by_cases z : a = p
    · subst z; rw [upd_same]; intro q; cases q
    · rw [upd_ne z]; exact (i.own a m').2
theorem Hist.more (i : Hist M G0 H0 G H) (e : Same G H) (hn : H p = none) : Hist (p :: M) G0 H0 G (upd H p o) := by
  refine ⟨i.g, fun a u n q => ?_, i.nw, fun a m => ?_⟩
  · have n1 : a ≠ p := fun z => n (by rw [z]; exact List.mem_cons_self)
    rw [upd_ne n1]; exact i.h a u (fun z => n (List.mem_cons_of_mem _ z)) q
  · by_cases z : a = p
    · subst z; exact ⟨e.free hn, by rw [upd_same]; intro q; cases q⟩
    · rcases List.mem_cons.mp m with q | q
      · exact absurd q z
      · rw [upd_ne z]; exact i.own a q
theorem Hist.comp (i : Hist M G0 H0 G H) (j : Hist N G H G' H') (hs : ∀ a, a ∈ N → a ∈ M) : Hist M G0 H0 G' H' := by
  refine ⟨i.g.trans j.g, fun a o n q => j.h a o (fun z => n (hs a z)) (i.h a o n q), fun a q1 q2 => ?_, fun a m => ?_⟩
  · refine j.nw a (i.nw a q1 q2) fun z => ?_
    by_cases m : a ∈ M
    · exact (i.own a m).2 z
    · cases e : H0 a with
      | none => exact q2 e
      | some o => rw [i.h a o m e] at z; cases z
  · obtain ⟨z1, z2⟩ := i.own a m
    refine ⟨j.nw a z1 z2, fun z => ?_⟩
    by_cases m' : a ∈ N
    · exact (j.own a m').2 z
    · cases e : H a with
      | none => exact z2 e
      | some o => rw [j.h a o m' e] at z; cases z
/-- cells that were made on the way are given up -/
theorem Hist.done (i : Hist M G0 H0 G H) (e : Same G H) (hf : ∀ a, a ∈ M → H0 a = none) : Stp G0 H0 G H :=
  ⟨i.g, fun a o q => i.h a o (fun m => by rw [hf a m] at q; cases q) q, e, i.nw⟩
/-- one of them is given away as it stands -/
theorem Hist.give (i : Hist (p :: M) G0 H0 G H) (e : Same G H) (hp : H p = some o) (hf : H0 p = none) (hm : p ∉ M) : Hist M G0 H0 (upd G p o) H ∧ Same (upd G p o) H := by
  have gp := (i.own p List.mem_cons_self).1
  refine ⟨⟨fun a u q => ?_, fun a u n q => ?_, fun a q1 q2 => ?_, fun a m => ?_⟩, same_give e hp⟩
  · have n : a ≠ p := fun z => by subst z; rw [i.g a u q] at gp; cases gp
    rw [upd_ne n]; exact i.g a u q
  · by_cases z : a = p
    · subst z; rw [hf] at q; cases q
    · exact i.h a u (fun w => by rcases List.mem_cons.mp w with r | r; exact z r; exact n r) q
  · have n : a ≠ p := fun z => by subst z; exact q2 hf
    rw [upd_ne n]; exact i.nw a q1 q2
  · have n : a ≠ p := fun z => by subst z; exact hm m
    rw [upd_ne n]; exact i.own a (List.mem_cons_of_mem _ m)
/-- fewer cells are told -/
theorem Hist.fewer (i : Hist M G0 H0 G H) (h : ∀ a o, a ∉ N → H0 a = some o → H a = some o) (hs : ∀ a, a ∈ N → a ∈ M) : Hist N G0 H0 G H := ⟨i.g, h, i.nw, fun a m => i.own a (hs a m)⟩
end
/-! ### triples: ρ the names' data, F what holds of (G, H) -/
section
variable (K : PySem.W.Frag)
def HT (ρ : Rho) (F : Hp → Hp → Prop) (ts : TS) (ρ' : Rho) (F' : Hp → Hp → Prop) (R : V → Hp → Hp → Prop) : Prop := ∀ (Dn : Ends) (σ : L2.St) (G H : Hp), Same G H → En K G ρ σ → F G H →
  (∀ σ' G' H', Same G G' → Same G' H' → En K G' ρ' σ' → F' G' H' → Dn.nx σ' H') → (∀ v G' H', Same G G' → Same G' H' → R v G' H' → Dn.rt v H') → ts Dn σ H
/-- what a step that changes nothing keeps -/
def Stay (F : Hp → Hp → Prop) : Prop := ∀ G H G' H', F G H → Stp G H G' H' → F G' H'
end
section
variable {K : PySem.W.Frag} {ρ ρ1 ρ2 : Rho} {F F1 F2 : Hp → Hp → Prop} {R : V → Hp → Hp → Prop} {t u : TS} {tt : TT} {te ta tb : TE} {d : D}
theorem ht_seq (h1 : HT K ρ F t ρ1 F1 R) (h2 : HT K ρ1 F1 u ρ2 F2 R) : HT K ρ F (tSeq t u) ρ2 F2 R := fun Dn σ G H e n f q r =>
  h1 _ σ G H e n f (fun σ' G' H' g' e' n' f' => h2 Dn σ' G' H' e' n' f' (fun σ2 G2 H2 g2 => q σ2 G2 H2 (g'.trans g2)) fun v G2 H2 g2 => r v G2 H2 (g'.trans g2)) r
theorem ht_next : HT K ρ F tNext ρ F R := fun Dn σ G H e n f q r => q σ G H (Same.refl _) e n f
theorem ht_sd (hs : Stay F) (h : StD K ρ t (.nx ρ1)) : HT K ρ F t ρ1 F R := fun Dn σ G H e n f q r => h Dn σ G H e n fun σ' G' H' s n' => q σ' G' H' s.g s.le n' (hs _ _ _ _ f s)
theorem ht_rt (h : StD K ρ t (.rt d)) (hr : ∀ G H, F G H → ∀ v G' H', Stp G H G' H' → Is K G' d v → R v G' H') : HT K ρ F t ρ1 F1 R := fun Dn σ G H e n f q r => h Dn σ G H e n fun v G' H' s i => r v G' H' s.g s.le (hr G H f v G' H' s i)
theorem ht_weak (h : HT K ρ F t ρ1 F1 R) (w : Wk ρ2 ρ1) : HT K ρ F t ρ2 F1 R := fun Dn σ G H e n f q r => h Dn σ G H e n f (fun σ' G' H' g' e' n' f' => q σ' G' H' g' e' (w.en n') f') r
theorem ht_from (w : Wk ρ1 ρ) (h : HT K ρ1 F t ρ2 F2 R) : HT K ρ F t ρ2 F2 R := fun Dn σ G H e n f q r => h Dn σ G H e (w.en n) f q r
theorem ht_pre (hp : ∀ G H, Same G H → F G H → F1 G H) (h : HT K ρ F1 t ρ2 F2 R) : HT K ρ F t ρ2 F2 R := fun Dn σ G H e n f q r => h Dn σ G H e n (hp G H e f) q r
theorem ht_post (h : HT K ρ F t ρ1 F1 R) (hp : ∀ G H, Same G H → F1 G H → F2 G H) : HT K ρ F t ρ1 F2 R := fun Dn σ G H e n f q r => h Dn σ G H e n f (fun σ' G' H' g' e' n' f' => q σ' G' H' g' e' n' (hp _ _ e' f')) r
theorem ht_ex {α : Sort _} {Fx : α → Hp → Hp → Prop} (h : ∀ x, HT K ρ (Fx x) t ρ1 F1 R) : HT K ρ (fun G H => ∃ x, Fx x G H) t ρ1 F1 R := fun Dn σ G H e n ⟨x, f⟩ q r => h x Dn σ G H e n f q r
theorem ht_if {j : Bool} (hs : Stay F) (h : EvB K ρ tt j) (h1 : j = true → HT K ρ F t ρ1 F1 R) (h2 : j = false → HT K ρ F u ρ1 F1 R) : HT K ρ F (tIfS tt t u) ρ1 F1 R := fun Dn σ G H e n f q r =>
  h σ G H e n _ fun G' H' s => by
    have f' := hs _ _ _ _ f s
    cases j with
    | true => exact h1 rfl Dn σ G' H' s.le (n.mono s.g) f' (fun σ2 G2 H2 g2 => q σ2 G2 H2 (s.g.trans g2)) fun v G2 H2 g2 => r v G2 H2 (s.g.trans g2)
    | false => exact h2 rfl Dn σ G' H' s.le (n.mono s.g) f' (fun σ2 G2 H2 g2 => q σ2 G2 H2 (s.g.trans g2)) fun v G2 H2 g2 => r v G2 H2 (s.g.trans g2)
/-- a for over data with own cells; env, Fx: the names and facts ahead of each turn -/
theorem ht_for {α β : Type} {enc : α → D} {wi : TI} {g : TG} {tb : TS} (env : β → Rho) (Fx : β → Hp → Hp → Prop) (f : β → α → β) (ok : β → List α → Prop) {xs : List α} (b : β) (hi : ItD K (env b) wi (xs.map enc)) (h0 : ok b xs) (hst : ∀ b, Stay (Fx b))
    (hs : ∀ b x l, ok b (x :: l) → ok (f b x) l ∧ ∃ ρ1 is, TgD K (env b) g (enc x) ρ1 is ∧ HT K ρ1 (Fx b) tb (env (f b x)) (Fx (f b x)) R) : HT K (env b) (Fx b) (tFor wi g tb) (env (xs.foldl f b)) (Fx (xs.foldl f b)) R := fun Dn σ G H e n fx q r =>
  hi σ G H e n _ fun J G1 H1 s1 w => by
    refine for_raw w (fun i σ' G' H' => ∃ b', ok b' (xs.drop i) ∧ (xs.drop i).foldl f b' = xs.foldl f b ∧ Same G1 G' ∧ Same G' H' ∧ En K G' (env b') σ' ∧ Fx b' G' H') (fun i σ G' H' ⟨_, _, _, p1, p2, _⟩ => ⟨p1, p2⟩)
      ⟨b, h0, rfl, Same.refl _, s1.le, n.mono s1.g, hst b _ _ _ _ fx s1⟩ (fun i d σ2 G2 H2 hd p x G3 H3 s3 i3 => ?_) fun σ' G' H' p => ?_
    · obtain ⟨b', ok', ef, p1, p2, n2, fx2⟩ := p
      rw [List.getElem?_map] at hd
      cases e1 : xs[i]? with
      | none => rw [e1] at hd; cases hd
      | some y =>
        rw [e1] at hd
        cases hd
        have hi' := (List.getElem?_eq_some_iff.mp e1).1
        have ed : xs.drop i = y :: xs.drop (i + 1) := by
          rw [List.drop_eq_getElem_cons hi', (List.getElem?_eq_some_iff.mp e1).2]
        rw [ed] at ok' ef
        obtain ⟨ok2, ρ1, is, tg, ht⟩ := hs b' y _ ok'
        refine tg x σ2 G3 H3 s3.le (n2.mono s3.g) i3 _ fun σ4 G4 H4 s4 n4 _ => ?_
        have s34 := s3.trans s4
        exact ht _ σ4 G4 H4 s4.le n4 (hst _ _ _ _ _ fx2 s34) (fun σ5 G5 H5 g5 e5 n5 f5 => ⟨G5, f b' y, ok2, ef, p1.trans (s34.g.trans g5), e5, n5, f5⟩) fun v G5 H5 g5 => r v G5 H5 (s1.g.trans (p1.trans (s34.g.trans g5)))
    · obtain ⟨b', ok', ef, p1, p2, n2, fx2⟩ := p
      rw [List.length_map, List.drop_length] at ef
      have ef : b' = xs.foldl f b := ef
      subst ef
      exact q σ' G' H' (s1.g.trans p1) p2 n2 fx2
/-! own lists -/
/-- an own list at p, of the data l -/
def OwnL (K : PySem.W.Frag) (p : Addr) (l : List D) (G H : Hp) : Prop := G p = none ∧ ∃ xs, H p = some (.lst xs) ∧ IsL K G l xs
theorem OwnL.stay {p : Addr} {l : List D} : Stay (OwnL K p l) := fun G H G' H' ⟨h1, xs, h2, h3⟩ s => ⟨s.nw p h1 (by rw [h2]; intro z; cases z), xs, s.h _ _ h2, IsL.mono s.g _ _ h3⟩
theorem Hist.stay {M : List Addr} {G0 H0 : Hp} : Stay (Hist M G0 H0) := fun G H G' H' f s => f.step s
theorem Stay.and (h1 : Stay F) (h2 : Stay F1) : Stay (fun G H => F G H ∧ F1 G H) := fun G H G' H' f s => ⟨h1 _ _ _ _ f.1 s, h2 _ _ _ _ f.2 s⟩
/-- x = [] as an own list -/
theorem ht_newL {i : Nat} {M : List Addr} {G0 H0 : Hp} (hF : Stay F) (hk : ∀ p, HT K (ρ.set i (some (.adr p))) (fun G H => (Hist (p :: M) G0 H0 G H ∧ OwnL K p [] G H ∧ H0 p = none ∧ p ∉ M) ∧ F G H) u ρ1 F1 R) : HT K ρ (fun G H => Hist M G0 H0 G H ∧ F G H) (tSeq (tAsg (tLst tNil) (gName i)) u) ρ1 F1 R := fun Dn σ G H e n ⟨f1, f2⟩ q r => by
  refine ⟨Nat.zero_le _, fun p hp => ?_⟩
  have hg : G p = none := e.free hp
  have s := Stp.own (o := .lst []) e hp
  refine hk p Dn _ G (upd H p (.lst [])) s.le (n.set mk_adr) ⟨⟨f1.more e hp, ⟨hg, [], upd_same, isL_nil⟩, ?_, fun m => ?_⟩, hF _ _ _ _ f2 s⟩ q r
  · cases z : H0 p with
    | none => rfl
    | some o =>
      by_cases m : p ∈ M
      · exact absurd hp (f1.own p m).2
      · rw [f1.h p o m z] at hp; cases hp
  · exact (f1.own p m).2 hp
/-- p.append(e) -/
theorem ht_append {i : Nat} {p : Addr} {M : List Addr} {G0 H0 : Hp} {l : List D} (hv : ρ[i]? = some (some (.adr p))) (hm : p ∈ M) (he : EvD K ρ te d) (hl : l.length < 1000000) :
    HT K ρ (fun G H => Hist M G0 H0 G H ∧ OwnL K p l G H) (tDrop (tBM K "list" rAppend (tVar i) (tCons te tNil))) ρ (fun G H => Hist M G0 H0 G H ∧ OwnL K p (l ++ [d]) G H) R := fun Dn σ G H e n ⟨f1, f2⟩ q r => by
  obtain ⟨v, h1, h2⟩ := n.val i _ hv
  rw [is_adr h2] at h1
  obtain ⟨g1, xs, g2, g3⟩ := id f2
  refine ⟨_, h1, .inl ⟨rfl, xs, SqL.of g2⟩, he σ G H e n _ fun x G1 H1 s1 i1 => ?_⟩
  obtain ⟨k1, ys, k2, k3⟩ := OwnL.stay _ _ _ _ f2 s1
  have kl := k3.length
  refine ⟨p, ys, x, rfl, rfl, k2, sz_lt (by omega), q σ G1 _ s1.g (same_own s1.le k1) (n.mono s1.g) ⟨(f1.step s1).set hm, k1, _, upd_same, k3.append (isL_cons i1 isL_nil)⟩⟩
end
end Pu
end
section
set_option Elab.async false
set_option linter.all false
set_option maxRecDepth 100000
set_option maxHeartbeats 4000000
/-! Pu9: instances that are filled. -/
namespace Pu
open PySem PySem.Spec PyProof.Rows L2 StX RZ PySem.W
theorem putF_zip {f : Str} {v : V} : ∀ {ns : List Str} {xs : List V}, f ∉ ns → xs.length = ns.length → putF f v (ns.zip xs) = (ns ++ [f]).zip (xs ++ [v])
  | [], [], _, _ => rfl
  | n :: ns, x :: xs, h, hl => by
    have h1 : ¬ (n = f) := fun z => h (by rw [z]; exact List.mem_cons_self)
    have h2 : f ∉ ns := fun z => h (List.mem_cons_of_mem _ z)
    show (if n = f then (n, v) :: ns.zip xs else (n, x) :: putF f v (ns.zip xs)) = _
    rw [if_neg h1, putF_zip h2 (by simpa using hl)]
    rfl
section
variable {K : PySem.W.Frag} {ρ ρ1 : Rho} {F1 : Hp → Hp → Prop} {R : V → Hp → Hp → Prop} {te : TE} {tl : TA} {d : D} {C : Addr} {ns : List Str} {es ds : List D}
/-- an own instance at p with the fields ns of the data es -/
def OwnI (K : PySem.W.Frag) (p C dx : Addr) (ns : List Str) (es : List D) (G H : Hp) : Prop := G p = none ∧ ∃ xs, H p = some (.ins C dx (ns.zip xs)) ∧ xs.length = ns.length ∧ IsL K G es xs
theorem OwnI.stay {p dx : Addr} : Stay (OwnI K p C dx ns es) := fun G H G' H' ⟨h1, xs, h2, h3, h4⟩ s => ⟨s.nw p h1 (by rw [h2]; intro z; cases z), xs, s.h _ _ h2, h3, IsL.mono s.g _ _ h4⟩
/-- self.f = e, f new -/
theorem ht_fld {i : Nat} {p dx : Addr} {M : List Addr} {G0 H0 : Hp} {f : Str} (hv : ρ[i]? = some (some (.adr p))) (hm : p ∈ M) (he : EvD K ρ te d) (hc : Cls K C) (hn : NoAttr K C f) (hf : f ∉ ns) (hl : ns.length < 1000) :
    HT K ρ (fun G H => Hist M G0 H0 G H ∧ OwnI K p C dx ns es G H) (sFld K (tVar i) te f) ρ (fun G H => Hist M G0 H0 G H ∧ OwnI K p C dx (ns ++ [f]) (es ++ [d]) G H) R := fun Dn σ G H e n ⟨f1, f2⟩ q r => by
  refine he σ G H e n _ fun y G1 H1 s1 i1 => ?_
  obtain ⟨v, h1, h2⟩ := n.val i _ hv
  rw [is_adr h2] at h1
  obtain ⟨k1, xs, k2, k3, k4⟩ := OwnI.stay _ _ _ _ f2 s1
  refine ⟨_, h1, p, C, dx, _, rfl, k2, hc, hn, by rw [List.length_zip]; omega, ?_⟩
  rw [putF_zip hf k3]
  exact q σ G1 _ s1.g (same_own s1.le k1) (n.mono s1.g) ⟨(f1.step s1).set hm, k1, xs ++ [y], upd_same, by simp [k3], k4.append (isL_cons i1 isL_nil)⟩
/-- an __init__ that fills the fields ns with what R says -/
def spInit (K : PySem.W.Frag) (C : Addr) (ns : List Str) (R : List D → List D → Prop) : Sp := fun vs H Q _ => ∃ G p dx us ds es, vs = .ref p :: us ∧ Same G H ∧ G p = none ∧ H p = some (.ins C dx []) ∧ IsL K G ds us ∧ R ds es ∧
  ∀ G' H', Hist [p] G H G' H' → Same G' H' → OwnI K p C dx ns es G' H' → Q .non H'
theorem ed_make {R : List D → List D → Prop} {E : XK} (h : EvA K ρ tl ds) (hR : R ds es) : EvD K ρ (tMake C (spInit K C ns R) [] E tl) (.obj C ns es) := fun σ G H e n Q q =>
  h σ G H e n _ fun vs G1 H1 s1 i1 => fun x dx hx hdx hne => by
    have hg : G1 x = none := s1.le.free hx
    have hgd : G1 dx = none := s1.le.free hdx
    have e1 : Same G1 (upd (upd H1 dx (.own x)) x (.ins C dx [])) := fun a u z => by
      rw [upd_ne (ne_of_none z hg), upd_ne (ne_of_none z hgd)]; exact s1.le a u z
    refine ⟨G1, x, dx, vs, ds, es, by rw [List.append_nil], e1, hg, upd_same, i1, hR, fun G2 H2 i2 e2 ⟨np, xs, hp, hl, il⟩ => ⟨rfl, ?_⟩⟩
    refine q _ (upd G2 x (.ins C dx (ns.zip xs))) H2 (s1.trans ⟨fun a u z => ?_, fun a u z => ?_, same_give e2 hp, fun a z1 z2 => ?_⟩) (mk_obj upd_same hl (IsL.mono (same_new np) _ _ il))
    · rw [upd_ne (ne_of_none z hg)]; exact i2.g a u z
    · have nx : a ≠ x := ne_of_none z hx
      exact i2.h a u (by simpa using nx) (by rw [upd_ne nx, upd_ne (ne_of_none z hdx)]; exact z)
    · have nx : a ≠ x := fun z => by subst z; exact z2 hx
      have nd : a ≠ dx := fun z => by subst z; exact z2 hdx
      rw [upd_ne nx]
      exact i2.nw a z1 (by rw [upd_ne nx, upd_ne nd]; exact z2)
end
def RI {α : Type} (args : α → List D) (ok : α → Prop) (res : α → List D) (ds es : List D) : Prop := ∃ x, ds = args x ∧ ok x ∧ es = res x
theorem ri {α : Type} {args : α → List D} {ok : α → Prop} {res : α → List D} (x : α) (h : ok x) : RI args ok res (args x) (res x) := ⟨x, rfl, h, rfl⟩
theorem Ok.rfI {P : Program} {w : World} {K : PySem.W.Frag} {mg : Str → Option Value} {base : Heap} {k : Nat} {f C : Addr} {ps N ns : List Str} {x qual : Str} {params : Arguments} {body : List Stmt} {scope : Scope} {α : Type} {args : α → List D} {ok : α → Prop} {res : α → List D}
    (F : ∃ fd, FunD K x qual params body scope [] [] f fd) (S : FnScope N ps scope)
    (hb : ∀ (fd : FuncData), FunD K x qual params body scope [] [] f fd → Binds K fd ps []) (len : ∀ x, (args x).length + 1 = ps.length)
    (hbody : ∀ (cdv : Value) (A : Around) (outer : List Env) (s : Shared) (H : Hp) (E : XK), Room k (A.deeper (envOfC qual scope s.heap.objs.size f cdv)) → ∀ x, ok x →
      ∃ t, PSs (cxOf CX0 P w K mg base N qual scope f cdv A outer s H E).nox body t ∧ ∀ (p dx : Addr) (G0 H0 : Hp), ∃ ρ', HT K (start0 N (.adr p :: args x)) (fun G H => Hist [p] G0 H0 G H ∧ OwnI K p C dx [] [] G H) t ρ' (fun G H => Hist [p] G0 H0 G H ∧ OwnI K p C dx ns (res x) G H) (fun _ _ _ => False)) :
    Ok P w K mg base (k + 1) f ps (spInit K C ns (RI args ok res)) :=
  Ok.mk' F S hb (fun vs H Q E ⟨G, p, dx, us, ds, es, ev, _, _, _, i, ⟨x, e, _⟩, _⟩ => by rw [ev, List.length_cons, ← i.length, e]; exact len x) fun cdv A outer s H vs Q E hr ⟨G, p, dx, us, ds, es, ev, e, gp, hp, il, ⟨x, e1, hx, e2⟩, q⟩ => by
    subst ev e1 e2
    obtain ⟨t, h1, h2⟩ := hbody cdv A outer s H E hr x hx
    obtain ⟨ρ', h3⟩ := h2 p dx G H
    refine ⟨t, h1, h3 _ _ G H e (en_start (isL_cons mk_adr il)) ⟨Hist.start e fun a m => ?_, gp, [], hp, rfl, isL_nil⟩ (fun σ' G' H' g' e' n' f' => q G' H' f'.1 e' f'.2) fun v G' H' g' e' z => z.elim⟩
    rw [List.mem_singleton.mp m]
    exact ⟨gp, by rw [hp]; intro z; cases z⟩
end Pu
end
section
set_option Elab.async false
set_option linter.all false
set_option maxRecDepth 100000
set_option maxHeartbeats 4000000
/-! Pu10: lists that grow and are then given away. -/
namespace Pu
open PySem PySem.Spec PyProof.Rows L2 StX RZ PySem.W
section
variable {K : PySem.W.Frag} {ρ ρ1 : Rho} {t u : TS} {o : Out} {l : List D} {i : Nat}
theorem fresh_of {p : Addr} {G0 H0 G H : Hp} (f : Hist [p] G0 H0 G H) (h0 : H0 p = none) : ∀ a, a ∈ [p] → H0 a = none := fun a m => by rw [List.mem_singleton.mp m]; exact h0
/-- x = [], a part that fills it, and the rest, for which it is data -/
theorem sd_own (h1 : ∀ (p : Addr) (G0 H0 : Hp), HT K (ρ.set i (some (.adr p))) (fun G H => Hist [p] G0 H0 G H ∧ OwnL K p [] G H) t (ρ1.set i (some (.adr p))) (fun G H => Hist [p] G0 H0 G H ∧ OwnL K p l G H) (fun _ _ _ => False))
    (h2 : StD K (ρ1.set i (some (.lst l))) u o) : StD K ρ (tSeq (tAsg (tLst tNil) (gName i)) (tSeq t u)) o := fun Dn σ G H e n q => by
  refine ⟨Nat.zero_le _, fun p hp => ?_⟩
  have s := Stp.own (o := .lst []) e hp
  have h0 : Hist [] G H G H := Hist.start e fun a m => by cases m
  have hg : G p = none := e.free hp
  refine h1 p G H _ (σ.set i (some (.ref p))) G (upd H p (.lst [])) s.le (n.set mk_adr) ⟨h0.more e hp, hg, [], upd_same, isL_nil⟩ (fun σ' G' H' g' e' n' f' => ?_) fun v G' H' g' e' z => z.elim
  obtain ⟨f1, z1, xs, z2, z3⟩ := f'
  obtain ⟨k1, k2⟩ := f1.give e' z2 hp (by simp)
  have st : Stp G H (upd G' p (.lst xs)) H' := k1.done k2 fun a m => by cases m
  refine h2 Dn σ' (upd G' p (.lst xs)) H' st.le ⟨?_, fun j d hd => ?_⟩ (q.step st)
  · have := n'.len
    simp only [List.length_set] at this ⊢
    exact this
  · by_cases z : i = j
    · subst z
      rw [List.getElem?_set] at hd
      simp only [if_true] at hd
      split at hd
      · rename_i hlt
        cases hd
        obtain ⟨v, y1, y2⟩ := n'.val i (.adr p) (by rw [List.getElem?_set]; simp [hlt])
        rw [is_adr y2] at y1
        exact ⟨_, y1, mk_lst upd_same (IsL.mono (same_new z1) _ _ z3)⟩
      · cases hd
    · rw [List.getElem?_set_ne z] at hd
      obtain ⟨v, y1, y2⟩ := n'.val j d (by rw [List.getElem?_set_ne z]; exact hd)
      exact ⟨v, y1, Is.mono (same_new z1) _ _ y2⟩
/-- the same for a loop: the state b, its list by L -/
theorem ht_fill {α : Type} {enc : α → D} {wi : TI} {g : TG} {te : TE} {p : Addr} {G0 H0 : Hp} {R : V → Hp → Hp → Prop} {j : Nat} (d : α → D) (ok : α → Prop) {xs : List α} (l0 : List D) (hv : ρ[j]? = some (some (.adr p))) (hi : ItD K ρ wi (xs.map enc)) (hl : l0.length + xs.length < 1000000) (h0 : ∀ x ∈ xs, ok x)
    (hs : ∀ x, ok x → ∃ ρ1 is, TgD K ρ g (enc x) ρ1 is ∧ ρ1[j]? = some (some (.adr p)) ∧ (∀ (k : Nat) (d : D), ρ[k]? = some (some d) → ρ1[k]? = some (some d)) ∧ ρ.length = ρ1.length ∧ EvD K ρ1 te (d x)) :
    HT K ρ (fun G H => Hist [p] G0 H0 G H ∧ OwnL K p l0 G H) (tFor wi g (tSeq (tDrop (tBM K "list" rAppend (tVar j) (tCons te tNil))) tNext)) ρ (fun G H => Hist [p] G0 H0 G H ∧ OwnL K p (l0 ++ xs.map d) G H) R := by
  have z := ht_for (K := K) (R := R) (tb := tSeq (tDrop (tBM K "list" rAppend (tVar j) (tCons te tNil))) tNext) (g := g) (enc := enc) (wi := wi) (fun _ : List D => ρ) (fun l G H => Hist [p] G0 H0 G H ∧ OwnL K p l G H) (fun l x => l ++ [d x]) (fun l r => (∀ x ∈ r, ok x) ∧ l.length + r.length < 1000000) (xs := xs) l0 hi ⟨h0, hl⟩ (fun b => Stay.and Hist.stay OwnL.stay) fun b x l h => by
    obtain ⟨ρ1, is, h1, h2, h3, h4, h5⟩ := hs x (h.1 x List.mem_cons_self)
    have hlen := h.2
    rw [List.length_cons] at hlen
    refine ⟨⟨fun y hy => h.1 y (List.mem_cons_of_mem _ hy), by simp; omega⟩, ρ1, is, h1, ?_⟩
    intro Dn σ G H e n f q r
    exact ht_seq (ht_append h2 List.mem_cons_self h5 (by omega)) ht_next Dn σ G H e n f (fun σ' G' H' g' e' n' f' => q σ' G' H' g' e' (n'.weak h4 h3) f') r
  have e : ∀ (xs : List α) (l0 : List D), xs.foldl (fun l x => l ++ [d x]) l0 = l0 ++ xs.map d := fun xs => by
    induction xs with
    | nil => intro l0; simp
    | cons x xs ih => intro l0; rw [List.foldl_cons, ih]; simp
  rw [e] at z
  exact z
end
end Pu
namespace Pu
open PySem PySem.Spec PyProof.Rows L2 StX RZ PySem.W
section
variable {K : PySem.W.Frag} {ρ ρ1 env : Rho} {t t2 u : TS} {o : Out} {l : List D} {i : Nat}
theorem sd_own2 (h1 : ∀ (p : Addr) (G0 H0 : Hp), HT K (ρ.set i (some (.adr p))) (fun G H => Hist [p] G0 H0 G H ∧ OwnL K p [] G H) (tSeq t t2) (ρ1.set i (some (.adr p))) (fun G H => Hist [p] G0 H0 G H ∧ OwnL K p l G H) (fun _ _ _ => False))
    (h2 : StD K (ρ1.set i (some (.lst l))) u o) : StD K ρ (tSeq (tAsg (tLst tNil) (gName i)) (tSeq t (tSeq t2 u))) o := by
  have z := sd_own (K := K) (ρ := ρ) (ρ1 := ρ1) (t := tSeq t t2) (u := u) (o := o) (l := l) (i := i) h1 h2
  exact z
/-- a loop that puts app x at the end of the own list -/
theorem ht_forL {α : Type} {enc : α → D} {wi : TI} {g : TG} {tb : TS} {p : Addr} {G0 H0 : Hp} {R : V → Hp → Hp → Prop} (app : α → List D) (m : Nat) {xs : List α} (l0 : List D) (hi : ItD K env wi (xs.map enc)) (hm : ∀ x ∈ xs, (app x).length ≤ m)
    (hs : ∀ x ∈ xs, ∀ l : List D, l.length + m ≤ l0.length + m * xs.length → ∃ ρ1 is, TgD K env g (enc x) ρ1 is ∧ HT K ρ1 (fun G H => Hist [p] G0 H0 G H ∧ OwnL K p l G H) tb env (fun G H => Hist [p] G0 H0 G H ∧ OwnL K p (l ++ app x) G H) R) :
    HT K env (fun G H => Hist [p] G0 H0 G H ∧ OwnL K p l0 G H) (tFor wi g tb) env (fun G H => Hist [p] G0 H0 G H ∧ OwnL K p (l0 ++ xs.flatMap app) G H) R := by
  have z := ht_for (K := K) (R := R) (tb := tb) (g := g) (enc := enc) (wi := wi) (fun _ : List D => env) (fun l G H => Hist [p] G0 H0 G H ∧ OwnL K p l G H) (fun l x => l ++ app x) (fun l r => (∀ x ∈ r, x ∈ xs) ∧ l.length + m * r.length ≤ l0.length + m * xs.length) (xs := xs) l0 hi ⟨fun x h => h, Nat.le_refl _⟩ (fun b => Stay.and Hist.stay OwnL.stay) fun b x l h => by
    have hx := h.1 x List.mem_cons_self
    have hlen := h.2
    have hmx := hm x hx
    rw [List.length_cons, Nat.mul_succ] at hlen
    refine ⟨⟨fun y hy => h.1 y (List.mem_cons_of_mem _ hy), by rw [List.length_append]; omega⟩, hs x hx b (by omega)⟩
  have e : ∀ (xs : List α) (l0 : List D), xs.foldl (fun l x => l ++ app x) l0 = l0 ++ xs.flatMap app := fun xs => by
    induction xs with
    | nil => intro l0; simp
    | cons x xs ih => intro l0; rw [List.foldl_cons, ih]; simp
  rw [e] at z
  exact z
end
end Pu
end
section
set_option Elab.async false
set_option linter.all false
set_option maxRecDepth 100000
set_option maxHeartbeats 4000000
/-! Pu11: what is read with own cells in sight; an own instance seen as data. -/
namespace Pu
open PySem PySem.Spec PyProof.Rows L2 StX RZ PySem.W
/-- values that hold no place of the heap's data -/
def flat : D → Bool
  | .non => true
  | .any => true
  | .bl _ => true
  | .int _ => true
  | .txt _ => true
  | .adr _ => true
  | _ => false
theorem Is.flat {K : PySem.W.Frag} {G G' : Hp} : ∀ {d : D} {v : V}, flat d = true → Is K G d v → Is K G' d v
  | .non, _, _, h => by simpa only [Is] using h
  | .any, _, _, h => by simpa only [Is] using h
  | .bl _, _, _, h => by simpa only [Is] using h
  | .int _, _, _, h => by simpa only [Is] using h
  | .txt _, _, _, h => by simpa only [Is] using h
  | .adr _, _, _, h => by simpa only [Is] using h
  | .sql _, _, h, _ => by cases h
  | .tup _, _, h, _ => by cases h
  | .lst _, _, h, _ => by cases h
  | .obj _ _ _, _, h, _ => by cases h
theorem IsL.flat {K : PySem.W.Frag} {G G' : Hp} : ∀ {l : List D} {xs : List V}, (∀ d ∈ l, Pu.flat d = true) → IsL K G l xs → IsL K G' l xs
  | [], xs, _, h => by rw [isL_nil_inv h]; exact isL_nil
  | d :: l, xs, hf, h => by
    obtain ⟨v, r, rfl, h1, h2⟩ := isL_cons_inv h
    exact isL_cons (Is.flat (hf d List.mem_cons_self) h1) (IsL.flat (fun e he => hf e (List.mem_cons_of_mem _ he)) h2)
section
variable (K : PySem.W.Frag) (F : Hp → Hp → Prop)
def EvF (ρ : Rho) (te : TE) (d : D) : Prop := ∀ (σ : L2.St) (G H : Hp), Same G H → En K G ρ σ → F G H → ∀ Q : VK, (∀ v G' H', Stp G H G' H' → Is K G' d v → Q v H') → te σ H Q
def EvFN (ρ : Rho) (te : TE) (l : List D) : Prop := ∀ (σ : L2.St) (G H : Hp), Same G H → En K G ρ σ → F G H → ∀ Q : VK, (∀ p xs G' H', Stp G H G' H' → G' p = none → H p = none → H' p = some (.lst xs) → IsL K G' l xs → Q (.ref p) H') → te σ H Q
def EaF (ρ : Rho) (ta : TA) (ds : List D) : Prop := ∀ (σ : L2.St) (G H : Hp), Same G H → En K G ρ σ → F G H → ∀ Q : List V → Hp → Prop, (∀ vs G' H', Stp G H G' H' → IsL K G' ds vs → Q vs H') → ta σ H Q
def ItF (ρ : Rho) (wi : TI) (ds : List D) : Prop := ∀ (σ : L2.St) (G H : Hp), Same G H → En K G ρ σ → F G H → ∀ R : It → Hp → Prop, (∀ J G' H', Stp G H G' H' → Walks K G' J ds → R J H') → wi σ H R
def EbF (ρ : Rho) (tt : TT) (b : Bool) : Prop := ∀ (σ : L2.St) (G H : Hp), Same G H → En K G ρ σ → F G H → ∀ Q : Bool → Hp → Prop, (∀ G' H', Stp G H G' H' → Q b H') → tt σ H Q
end
section
variable {K : PySem.W.Frag} {F F1 : Hp → Hp → Prop} {R : V → Hp → Hp → Prop} {ρ ρ1 : Rho} {te ta tb : TE} {tt : TT} {tl : TA} {t u : TS} {a b c d : D} {ds es l : List D} {C : Addr} {ns : List Str}
theorem ef_of (h : EvD K ρ te d) : EvF K F ρ te d := fun σ G H e n _ Q q => h σ G H e n Q q
theorem efn_of (h : EvN K ρ te l) : EvFN K F ρ te l := fun σ G H e n _ Q q => h σ G H e n Q q
theorem ebf_of {b : Bool} (h : EvB K ρ tt b) : EbF K F ρ tt b := fun σ G H e n _ Q q => h σ G H e n Q q
theorem eaf_nil : EaF K F ρ tNil [] := fun σ G H e n _ Q q => q _ G H (Stp.refl e) isL_nil
theorem eaf_cons (hs : Stay F) (h : EvF K F ρ te d) (hr : EaF K F ρ tl ds) : EaF K F ρ (tCons te tl) (d :: ds) := fun σ G H e n f Q q =>
  h σ G H e n f _ fun x G1 H1 s1 i1 => hr σ G1 H1 s1.le (n.mono s1.g) (hs _ _ _ _ f s1) _ fun ys G2 H2 s2 i2 => q _ G2 H2 (s1.trans s2) (isL_cons (Is.mono s2.g d x i1) i2)
theorem ef_op {r : R2} (hs : Stay F) (ha : EvF K F ρ ta a) (hb : EvF K F ρ tb b) (hr : RvD K r a b c) : EvF K F ρ (tOp r ta tb) c := fun σ G H e n f Q q =>
  ha σ G H e n f _ fun x G1 H1 s1 i1 => hb σ G1 H1 s1.le (n.mono s1.g) (hs _ _ _ _ f s1) _ fun y G2 H2 s2 i2 =>
    hr G2 H2 x y s2.le (Is.mono s2.g a x i1) i2 Q fun v G3 H3 s3 i3 => q v G3 H3 ((s1.trans s2).trans s3) i3
theorem ef_pre (hp : ∀ G H, Same G H → F G H → F1 G H) (h : EvF K F1 ρ te d) : EvF K F ρ te d := fun σ G H e n f Q q => h σ G H e n (hp G H e f) Q q
/-- an own instance's field -/
theorem ef_fld {i j : Nat} {p dx : Addr} {f : Str} (hv : ρ[i]? = some (some (.adr p))) (hF : ∀ G H, F G H → OwnI K p C dx ns es G H) (hc : Cls K C) (hn : NoAttr K C f) (hi : (ns.zip (List.range ns.length)).lookup f = some j) (hd : es[j]? = some d) : EvF K F ρ (tFld K (tVar i) f) d := fun σ G H e n ff Q q => by
  obtain ⟨v, h1, h2⟩ := n.val i _ hv
  rw [is_adr h2] at h1
  obtain ⟨g1, xs, g2, g3, g4⟩ := hF G H ff
  obtain ⟨w, h5, h6⟩ := g4.get hd
  refine ⟨_, h1, p, C, dx, _, w, rfl, g2, hc, hn, ?_, q w G H (Stp.refl e) h6⟩
  have key : ∀ (ns : List Str) (xs : List V) (k i : Nat), xs.length = ns.length → (ns.zip (List.range' k ns.length)).lookup f = some i → k ≤ i ∧ (ns.zip xs).lookup f = xs[i - k]? := fun ns => by
    induction ns with
    | nil => intro xs k i _ z; simp at z
    | cons m ns ih =>
      intro xs k i hl z
      cases xs with
      | nil => simp at hl
      | cons x xs =>
        simp only [List.length_cons, List.range'_succ, List.zip_cons_cons, List.lookup_cons] at z ⊢
        cases q : (f == m) with
        | true => rw [q] at z; simp at z; subst z; simp
        | false =>
          rw [q] at z
          obtain ⟨z1, z2⟩ := ih xs (k + 1) i (by simpa using hl) z
          refine ⟨by omega, ?_⟩
          show List.lookup f (ns.zip xs) = _
          rw [z2, show i - k = (i - (k + 1)) + 1 by omega]; simp
  have z := (key ns xs 0 j g3 (by rw [← List.range_eq_range']; exact hi)).2
  rw [z]; simpa using h5
/-- an own list's element -/
theorem ef_ixO {q : Addr} {k : Nat} (hs : Stay F) (hF : ∀ G H, F G H → OwnL K q l G H) (ha : EvF K F ρ ta (.adr q)) (hb : EvF K F ρ tb (.int (k : Nat))) (hd : l[k]? = some d) : EvF K F ρ (tOp (rIx K) ta tb) d := fun σ G H e n f Q k1 =>
  ha σ G H e n f _ fun x G1 H1 s1 i1 => by
    have f1 := hs _ _ _ _ f s1
    refine hb σ G1 H1 s1.le (n.mono s1.g) f1 _ fun y G2 H2 s2 i2 => ?_
    obtain ⟨g1, xs, g2, g3⟩ := hF G2 H2 (hs _ _ _ _ f1 s2)
    obtain ⟨v, h3, h4⟩ := g3.get hd
    rw [is_adr i1]
    exact .inl ⟨q, xs, _, v, rfl, is_int i2, SqL.of g2, atI_nat h3, k1 v G2 H2 (s1.trans s2) h4⟩
theorem itf_rng {j : Int} (h : EaF K F ρ tl [.int j]) (h1 : -(2 ^ 62) ≤ j) (h2 : j < 2 ^ 62) : ItF K F ρ (iRng1 tl) (intD 0 j.toNat) := fun σ G H e n f R q => h σ G H e n f _ fun xs G1 H1 s1 i1 => by
  obtain ⟨v, r, rfl, hv, hr⟩ := isL_cons_inv i1
  rw [isL_nil_inv hr, is_int hv]
  exact ⟨j, rfl, h1, h2, q _ G1 H1 s1 itr_walks⟩
theorem itf_range {n : Nat} (h : EaF K F ρ tl [.int (n : Nat)]) (hn : n ≤ 1000000) : ItF K F ρ (iRng1 tl) ((List.range' 0 n).map fun i => D.int (i : Nat)) := by
  have z := itf_rng (K := K) (F := F) (ρ := ρ) h (by omega) (by omega)
  have e : intD 0 (n : Int).toNat = (List.range' 0 n).map fun i => D.int (i : Nat) := by
    unfold intD
    rw [List.range_eq_range']
    exact List.map_congr_left fun i _ => by rw [Int.zero_add]
  rw [e] at z; exact z
theorem ht_set {i : Nat} (hs : Stay F) (h : EvF K F ρ te d) : HT K ρ F (tAsg te (gName i)) (ρ.set i (some d)) F R := fun Dn σ G H e n f q r =>
  h σ G H e n f _ fun v G1 H1 s1 i1 => q _ G1 H1 s1.g s1.le ((n.mono s1.g).set i1) (hs _ _ _ _ f s1)
theorem ht_ifF {j : Bool} (hs : Stay F) (h : EbF K F ρ tt j) (h1 : j = true → HT K ρ F t ρ1 F1 R) (h2 : j = false → HT K ρ F u ρ1 F1 R) : HT K ρ F (tIfS tt t u) ρ1 F1 R := fun Dn σ G H e n f q r =>
  h σ G H e n f _ fun G' H' s => by
    have f' := hs _ _ _ _ f s
    cases j with
    | true => exact h1 rfl Dn σ G' H' s.le (n.mono s.g) f' (fun σ2 G2 H2 g2 => q σ2 G2 H2 (s.g.trans g2)) fun v G2 H2 g2 => r v G2 H2 (s.g.trans g2)
    | false => exact h2 rfl Dn σ G' H' s.le (n.mono s.g) f' (fun σ2 G2 H2 g2 => q σ2 G2 H2 (s.g.trans g2)) fun v G2 H2 g2 => r v G2 H2 (s.g.trans g2)
theorem ixN_at {n k : Nat} (h : k < n) : ixN n (k : Nat) = some k := by
  unfold ixN
  simp [h]
/-- an own list's element is set -/
theorem ht_setO {q : Addr} {k : Nat} {M : List Addr} {G0 H0 : Hp} {to ti : TE} {Fx : Hp → Hp → Prop} (hx : Stay Fx) (hq : q ∈ M) (he : EvF K (fun G H => Hist M G0 H0 G H ∧ OwnL K q l G H ∧ Fx G H) ρ te d) (ho : EvF K (fun G H => Hist M G0 H0 G H ∧ OwnL K q l G H ∧ Fx G H) ρ to (.adr q)) (hi : EvF K (fun G H => Hist M G0 H0 G H ∧ OwnL K q l G H ∧ Fx G H) ρ ti (.int (k : Nat))) (hk : k < l.length)
    (hfx : ∀ G H o, H q = some o → (∃ ys, o = .lst ys) → Fx G H → ∀ xs, Fx G (upd H q (.lst xs))) : HT K ρ (fun G H => Hist M G0 H0 G H ∧ OwnL K q l G H ∧ Fx G H) (tAsg te (gSub to ti rSetL)) ρ (fun G H => Hist M G0 H0 G H ∧ OwnL K q (l.set k d) G H ∧ Fx G H) R := fun Dn σ G H e n f q1 r => by
  have hs : Stay (fun G H => Hist M G0 H0 G H ∧ OwnL K q l G H ∧ Fx G H) := Stay.and Hist.stay (Stay.and OwnL.stay hx)
  refine he σ G H e n f _ fun v G1 H1 s1 i1 => ?_
  have f1 := hs _ _ _ _ f s1
  refine ho σ G1 H1 s1.le (n.mono s1.g) f1 _ fun o G2 H2 s2 i2 => ?_
  have f2 := hs _ _ _ _ f1 s2
  refine hi σ G2 H2 s2.le (n.mono (s1.trans s2).g) f2 _ fun j G3 H3 s3 i3 => ?_
  obtain ⟨f3, ⟨z1, xs, z2, z3⟩, z4⟩ := hs _ _ _ _ f2 s3
  have hl := z3.length
  have s123 := (s1.trans s2).trans s3
  refine ⟨q, xs, (k : Nat), k, is_adr i2, is_int i3, z2, ixN_at (by omega), ?_⟩
  exact q1 σ G3 _ s123.g (same_own s123.le z1) (n.mono s123.g) ⟨f3.set hq, ⟨z1, _, upd_same, z3.set k (Is.mono (s2.trans s3).g _ _ i1)⟩, hfx G3 H3 _ z2 ⟨_, rfl⟩ z4 _⟩
theorem putF_set {f : Str} {v : V} : ∀ {ns : List Str} {xs : List V} {j : Nat}, (ns.zip (List.range' 0 ns.length)).lookup f = some j → xs.length = ns.length → putF f v (ns.zip xs) = ns.zip (xs.set j v) := by
  have key : ∀ (ns : List Str) (xs : List V) (k j : Nat), (ns.zip (List.range' k ns.length)).lookup f = some j → xs.length = ns.length → k ≤ j ∧ putF f v (ns.zip xs) = ns.zip (xs.set (j - k) v) := fun ns => by
    induction ns with
    | nil => intro xs k j z; simp at z
    | cons m ns ih =>
      intro xs k j z hl
      cases xs with
      | nil => simp at hl
      | cons x xs =>
        simp only [List.length_cons, List.range'_succ, List.zip_cons_cons, List.lookup_cons] at z ⊢
        show _ ∧ (if m = f then (m, v) :: ns.zip xs else (m, x) :: putF f v (ns.zip xs)) = _
        by_cases q : f = m
        · subst q
          simp at z
          subst z
          rw [if_pos rfl]
          simp
        · have q2 : (f == m) = false := beq_eq_false_iff_ne.mpr q
          rw [q2] at z
          obtain ⟨z1, z2⟩ := ih xs (k + 1) j z (by simpa using hl)
          refine ⟨by omega, ?_⟩
          rw [if_neg (fun z => q z.symm), z2, show j - k = (j - (k + 1)) + 1 by omega]; rfl
  intro ns xs j h hl
  have := (key ns xs 0 j h hl).2
  simpa using this
/-- self.f = e, f old -/
theorem ht_fldS {i j : Nat} {p dx : Addr} {M : List Addr} {G0 H0 : Hp} {f : Str} {Fx : Hp → Hp → Prop} (hx : Stay Fx) (hv : ρ[i]? = some (some (.adr p))) (hm : p ∈ M) (he : EvF K (fun G H => Hist M G0 H0 G H ∧ OwnI K p C dx ns es G H ∧ Fx G H) ρ te d) (hc : Cls K C) (hn : NoAttr K C f) (hi : (ns.zip (List.range ns.length)).lookup f = some j) (hl : ns.length < 1000)
    (hfx : ∀ G H fs, H p = some (.ins C dx fs) → Fx G H → ∀ gs, Fx G (upd H p (.ins C dx gs))) :
    HT K ρ (fun G H => Hist M G0 H0 G H ∧ OwnI K p C dx ns es G H ∧ Fx G H) (sFld K (tVar i) te f) ρ (fun G H => Hist M G0 H0 G H ∧ OwnI K p C dx ns (es.set j d) G H ∧ Fx G H) R := fun Dn σ G H e n ff q r => by
  have hs : Stay (fun G H => Hist M G0 H0 G H ∧ OwnI K p C dx ns es G H ∧ Fx G H) := Stay.and Hist.stay (Stay.and OwnI.stay hx)
  refine he σ G H e n ff _ fun y G1 H1 s1 i1 => ?_
  obtain ⟨v, h1, h2⟩ := n.val i _ hv
  rw [is_adr h2] at h1
  obtain ⟨f1, ⟨k1, xs, k2, k3, k4⟩, k5⟩ := hs _ _ _ _ ff s1
  refine ⟨_, h1, p, C, dx, _, rfl, k2, hc, hn, by rw [List.length_zip]; omega, ?_⟩
  rw [putF_set (by rw [← List.range_eq_range']; exact hi) k3]
  exact q σ G1 _ s1.g (same_own s1.le k1) (n.mono s1.g) ⟨f1.set hm, ⟨k1, _, upd_same, by simp [k3], k4.set j i1⟩, hfx G1 H1 _ k2 k5 _⟩
/-! ### own cells seen as data -/
/-- with F, the names ρ stand for ρ2 in a wider part of the heap -/
def View (K : PySem.W.Frag) (F : Hp → Hp → Prop) (ρ ρ2 : Rho) : Prop := ∀ (σ : L2.St) (G H : Hp), Same G H → En K G ρ σ → F G H → ∃ G2, Same G G2 ∧ Same G2 H ∧ En K G2 ρ2 σ
open Classical in
theorem back_of {G G2 H G' H' : Hp} (e1 : Same G G2) (s : Stp G2 H G' H') : ∃ G3, Stp G H G3 H' ∧ ∀ p, G' p = none → G3 p = none := by
  refine ⟨fun a => if G a = none ∧ H a ≠ none then none else G' a, ⟨fun a u z => ?_, s.h, fun a u z => ?_, fun a z1 z2 => if_pos ⟨z1, z2⟩⟩, fun p hp => ?_⟩
  · have : ¬ (G a = none ∧ H a ≠ none) := fun q => by rw [q.1] at z; cases z
    show (if _ then _ else _) = _
    rw [if_neg this]
    exact s.g a u (e1 a u z)
  · have z' : (if G a = none ∧ H a ≠ none then none else G' a) = some u := z
    split at z'
    · cases z'
    · exact s.le a u z'
  · show (if _ then _ else _) = _
    split
    · rfl
    · exact hp
theorem ef_view {ρ2 : Rho} (v : View K F ρ ρ2) (h : EvD K ρ2 te d) (hd : flat d = true) : EvF K F ρ te d := fun σ G H e n f Q q => by
  obtain ⟨G2, e1, e2, n2⟩ := v σ G H e n f
  refine h σ G2 H e2 n2 Q fun x G' H' s i => ?_
  obtain ⟨G3, s3, _⟩ := back_of e1 s
  exact q x G3 H' s3 (Is.flat hd i)
theorem efn_view {ρ2 : Rho} (v : View K F ρ ρ2) (h : EvN K ρ2 te l) (hd : ∀ d ∈ l, flat d = true) : EvFN K F ρ te l := fun σ G H e n f Q q => by
  obtain ⟨G2, e1, e2, n2⟩ := v σ G H e n f
  refine h σ G2 H e2 n2 Q fun p xs G' H' s np hp hx hl => ?_
  obtain ⟨G3, s3, np3⟩ := back_of e1 s
  exact q p xs G3 H' s3 (np3 p np) hp hx (IsL.flat hd hl)
theorem ef_of_efn (h : EvFN K F ρ te l) : EvF K F ρ te (.lst l) := fun σ G H e n f Q q => h σ G H e n f Q fun p xs G' H' s np hp hx hl => by
  refine q _ (upd G' p (.lst xs)) H' ⟨fun a u z => ?_, s.h, same_give s.le hx, fun a z1 z2 => ?_⟩ (mk_lst upd_same (IsL.mono (same_new np) _ _ hl))
  · have ne : a ≠ p := ne_of_none (s.g a u z) np
    rw [upd_ne ne]; exact s.g a u z
  · have ne : a ≠ p := fun q => by subst q; exact z2 hp
    rw [upd_ne ne]; exact s.nw a z1 z2
end
end Pu
end
section
set_option Elab.async false
set_option linter.all false
set_option maxRecDepth 100000
set_option maxHeartbeats 4000000
/-! Pu12: loops with own cells in sight, own lists as fields. -/
namespace Pu
open PySem PySem.Spec PyProof.Rows L2 StX RZ PySem.W
section
variable {K : PySem.W.Frag} {F F1 F2 : Hp → Hp → Prop} {R : V → Hp → Hp → Prop} {ρ ρ1 ρ2 : Rho} {te ta tb to ti : TE} {tt : TT} {tl : TA} {t u : TS} {a b c d : D} {ds es l l0 : List D} {C : Addr} {ns : List Str} {o : Out} {i : Nat}
/-- [e] * n as a list of its own -/
theorem en_rep {j : Int} (h : EvD K ρ te d) (hn : EvD K ρ ta (.int j)) (h0 : 0 ≤ j) (hj : j ≤ 1000000) : EvN K ρ (tOp (rMulX K) (tLst (tCons te tNil)) ta) (List.replicate j.toNat d) := fun σ G H e n Q q => by
  refine ed_l1 h σ G H e n _ fun x G1 H1 s1 i1 => hn σ G1 H1 s1.le (n.mono s1.g) _ fun y G2 H2 s2 i2 => ?_
  obtain ⟨p, xs, rfl, h1, h2⟩ := is_lst (Is.mono s2.g _ _ i1)
  obtain ⟨v, r, rfl, hv, hr⟩ := isL_cons_inv h2
  rw [isL_nil_inv hr] at h1
  refine .inr (.inl ⟨p, j, [v], rfl, is_int i2, s2.le _ _ h1, by omega, by omega, sz_le (by simp; omega), fun r hr => ?_⟩)
  have hg := s2.le.free hr
  have s12 := s1.trans s2
  have hr0 : H r = none := by
    cases z : H r with
    | none => rfl
    | some w => rw [s12.h r w z] at hr; cases hr
  refine q r _ G2 _ (s12.trans (Stp.own s2.le hr)) hg hr0 upd_same ?_
  rw [rep_flat]
  exact isL_rep hv _
/-- the literal as a list of its own -/
theorem en_lst (h : EvA K ρ tl ds) (hl : ds.length ≤ 1000000) : EvN K ρ (tLst tl) ds := fun σ G H e n Q q =>
  h σ G H e n _ fun xs G1 H1 s1 i1 => ⟨sz_le (by rw [← i1.length]; exact hl), fun p hp => q p xs G1 _ (s1.trans (Stp.own s1.le hp)) (s1.le.free hp) (by
    cases z : H p with
    | none => rfl
    | some w => rw [s1.h p w z] at hp; cases hp) upd_same i1⟩
/-- x = a list of its own, a part that changes it, and the rest, for which it is data -/
theorem sd_ownE (h0 : EvN K ρ te l0) (h1 : ∀ (p : Addr) (G0 H0 : Hp), HT K (ρ.set i (some (.adr p))) (fun G H => Hist [p] G0 H0 G H ∧ OwnL K p l0 G H) t (ρ1.set i (some (.adr p))) (fun G H => Hist [p] G0 H0 G H ∧ OwnL K p l G H) (fun _ _ _ => False))
    (h2 : StD K (ρ1.set i (some (.lst l))) u o) : StD K ρ (tSeq (tAsg te (gName i)) (tSeq t u)) o := fun Dn σ G H e n q => by
  refine h0 σ G H e n _ fun p xs0 G1 H1 s1 np hp hx0 hl0 => ?_
  have hh : Hist [p] G H G1 H1 := ⟨s1.g, fun a u _ z => s1.h a u z, s1.nw, fun a m => by rw [List.mem_singleton.mp m]; exact ⟨np, by rw [hx0]; intro z; cases z⟩⟩
  refine h1 p G H _ (σ.set i (some (.ref p))) G1 H1 s1.le ((n.mono s1.g).set mk_adr) ⟨hh, np, xs0, hx0, hl0⟩ (fun σ' G' H' g' e' n' f' => ?_) fun v G' H' g' e' z => z.elim
  obtain ⟨f1, z1, xs, z2, z3⟩ := f'
  obtain ⟨k1, k2⟩ := f1.give e' z2 hp (by simp)
  have st : Stp G H (upd G' p (.lst xs)) H' := k1.done k2 fun a m => by cases m
  refine h2 Dn σ' (upd G' p (.lst xs)) H' st.le ⟨?_, fun j d hd => ?_⟩ (q.step st)
  · have := n'.len
    simp only [List.length_set] at this ⊢
    exact this
  · by_cases z : i = j
    · subst z
      rw [List.getElem?_set] at hd
      simp only [if_true] at hd
      split at hd
      · rename_i hlt
        cases hd
        obtain ⟨v, y1, y2⟩ := n'.val i (.adr p) (by rw [List.getElem?_set]; simp [hlt])
        rw [is_adr y2] at y1
        exact ⟨_, y1, mk_lst upd_same (IsL.mono (same_new z1) _ _ z3)⟩
      · cases hd
    · rw [List.getElem?_set_ne z] at hd
      obtain ⟨v, y1, y2⟩ := n'.val j d (by rw [List.getElem?_set_ne z]; exact hd)
      exact ⟨v, y1, Is.mono (same_new z1) _ _ y2⟩
/-- a for whose iterator is read with own cells in sight -/
theorem ht_forF {α β : Type} {enc : α → D} {wi : TI} {g : TG} {tb : TS} (env : β → Rho) (Fx : β → Hp → Hp → Prop) (f : β → α → β) (ok : β → List α → Prop) {xs : List α} (b : β) (hi : ItF K (Fx b) (env b) wi (xs.map enc)) (h0 : ok b xs) (hst : ∀ b, Stay (Fx b))
    (hs : ∀ b x l, ok b (x :: l) → ok (f b x) l ∧ ∃ ρ1 is, TgD K (env b) g (enc x) ρ1 is ∧ HT K ρ1 (Fx b) tb (env (f b x)) (Fx (f b x)) R) : HT K (env b) (Fx b) (tFor wi g tb) (env (xs.foldl f b)) (Fx (xs.foldl f b)) R := fun Dn σ G H e n fx q r =>
  hi σ G H e n fx _ fun J G1 H1 s1 w => by
    refine for_raw w (fun i σ' G' H' => ∃ b', ok b' (xs.drop i) ∧ (xs.drop i).foldl f b' = xs.foldl f b ∧ Same G1 G' ∧ Same G' H' ∧ En K G' (env b') σ' ∧ Fx b' G' H') (fun i σ G' H' ⟨_, _, _, p1, p2, _⟩ => ⟨p1, p2⟩)
      ⟨b, h0, rfl, Same.refl _, s1.le, n.mono s1.g, hst b _ _ _ _ fx s1⟩ (fun i d σ2 G2 H2 hd p x G3 H3 s3 i3 => ?_) fun σ' G' H' p => ?_
    · obtain ⟨b', ok', ef, p1, p2, n2, fx2⟩ := p
      rw [List.getElem?_map] at hd
      cases e1 : xs[i]? with
      | none => rw [e1] at hd; cases hd
      | some y =>
        rw [e1] at hd
        cases hd
        have hi' := (List.getElem?_eq_some_iff.mp e1).1
        have ed : xs.drop i = y :: xs.drop (i + 1) := by
          rw [List.drop_eq_getElem_cons hi', (List.getElem?_eq_some_iff.mp e1).2]
        rw [ed] at ok' ef
        obtain ⟨ok2, ρ1, is, tg, ht⟩ := hs b' y _ ok'
        refine tg x σ2 G3 H3 s3.le (n2.mono s3.g) i3 _ fun σ4 G4 H4 s4 n4 _ => ?_
        have s34 := s3.trans s4
        exact ht _ σ4 G4 H4 s4.le n4 (hst _ _ _ _ _ fx2 s34) (fun σ5 G5 H5 g5 e5 n5 f5 => ⟨G5, f b' y, ok2, ef, p1.trans (s34.g.trans g5), e5, n5, f5⟩) fun v G5 H5 g5 => r v G5 H5 (s1.g.trans (p1.trans (s34.g.trans g5)))
    · obtain ⟨b', ok', ef, p1, p2, n2, fx2⟩ := p
      rw [List.length_map, List.drop_length] at ef
      have ef : b' = xs.foldl f b := ef
      subst ef
      exact q σ' G' H' (s1.g.trans p1) p2 n2 fx2
/-- o.append(e) for an own list that o reads -/
theorem ht_appendF {q : Addr} {M : List Addr} {G0 H0 : Hp} {Fx : Hp → Hp → Prop} (hx : Stay Fx) (hq : q ∈ M) (ho : EvF K (fun G H => Hist M G0 H0 G H ∧ OwnL K q l G H ∧ Fx G H) ρ to (.adr q)) (he : EvF K (fun G H => Hist M G0 H0 G H ∧ OwnL K q l G H ∧ Fx G H) ρ te d) (hl : l.length < 1000000)
    (hfx : ∀ G H o, H q = some o → (∃ ys, o = .lst ys) → Fx G H → ∀ xs, Fx G (upd H q (.lst xs))) :
    HT K ρ (fun G H => Hist M G0 H0 G H ∧ OwnL K q l G H ∧ Fx G H) (tDrop (tBM K "list" rAppend to (tCons te tNil))) ρ (fun G H => Hist M G0 H0 G H ∧ OwnL K q (l ++ [d]) G H ∧ Fx G H) R := fun Dn σ G H e n f q1 r => by
  have hs : Stay (fun G H => Hist M G0 H0 G H ∧ OwnL K q l G H ∧ Fx G H) := Stay.and Hist.stay (Stay.and OwnL.stay hx)
  refine ho σ G H e n f _ fun v G1 H1 s1 i1 => ?_
  have f1 := hs _ _ _ _ f s1
  have f1' := f1
  obtain ⟨_, ⟨g1, xs, g2, g3⟩, _⟩ := f1'
  rw [is_adr i1]
  refine ⟨.inl ⟨rfl, xs, SqL.of g2⟩, he σ G1 H1 s1.le (n.mono s1.g) f1 _ fun x G2 H2 s2 i2 => ?_⟩
  obtain ⟨f2, ⟨k1, ys, k2, k3⟩, k4⟩ := hs _ _ _ _ f1 s2
  have kl := k3.length
  have s12 := s1.trans s2
  exact ⟨q, ys, x, rfl, rfl, k2, sz_lt (by omega), q1 σ G2 _ s12.g (same_own s12.le k1) (n.mono s12.g) ⟨f2.set hq, ⟨k1, _, upd_same, k3.append (isL_cons i2 isL_nil)⟩, hfx G2 H2 _ k2 ⟨_, rfl⟩ k4 _⟩⟩
/-- self.f = a list of its own, f new -/
theorem ht_fldN {p dx : Addr} {M : List Addr} {G0 H0 : Hp} {f : Str} {Fx : Hp → Hp → Prop} (hx : Stay Fx) (hv : ρ[i]? = some (some (.adr p))) (hm : p ∈ M) (he : EvN K ρ te l) (hc : Cls K C) (hn : NoAttr K C f) (hf : f ∉ ns) (hl : ns.length < 1000)
    (hfx : ∀ G H fs, H p = some (.ins C dx fs) → Fx G H → ∀ gs, Fx G (upd H p (.ins C dx gs))) (hk : ∀ b, HT K ρ (fun G H => Hist (b :: M) G0 H0 G H ∧ OwnI K p C dx (ns ++ [f]) (es ++ [.adr b]) G H ∧ (OwnL K b l G H ∧ H0 b = none ∧ b ∉ M) ∧ Fx G H) u ρ1 F1 R) :
    HT K ρ (fun G H => Hist M G0 H0 G H ∧ OwnI K p C dx ns es G H ∧ Fx G H) (tSeq (sFld K (tVar i) te f) u) ρ1 F1 R := fun Dn σ G H e n ff q r => by
  have hs : Stay (fun G H => Hist M G0 H0 G H ∧ OwnI K p C dx ns es G H ∧ Fx G H) := Stay.and Hist.stay (Stay.and OwnI.stay hx)
  refine he σ G H e n _ fun b ys G1 H1 s1 nb hb hy hyl => ?_
  obtain ⟨v, h1, h2⟩ := n.val i _ hv
  rw [is_adr h2] at h1
  obtain ⟨f1, ⟨k1, xs, k2, k3, k4⟩, k5⟩ := hs _ _ _ _ ff s1
  refine ⟨_, h1, p, C, dx, _, rfl, k2, hc, hn, by rw [List.length_zip]; omega, ?_⟩
  rw [putF_zip hf k3]
  have hbm : b ∉ M := fun m => (ff.1.own b m).2 hb
  have hbp : b ≠ p := fun z => by rw [z] at hy; rw [k2] at hy; cases hy
  have h0 : H0 b = none := by
    cases z : H0 b with
    | none => rfl
    | some w => rw [ff.1.h b w hbm z] at hb; cases hb
  have hh : Hist (b :: M) G0 H0 G1 H1 := ⟨f1.g, fun a u na z => f1.h a u (fun m => na (List.mem_cons_of_mem _ m)) z, f1.nw, fun a m => by
    rcases List.mem_cons.mp m with z | z
    · rw [z]; exact ⟨nb, by rw [hy]; intro z; cases z⟩
    · exact f1.own a z⟩
  refine hk b Dn σ G1 _ (same_own s1.le k1) (n.mono s1.g) ⟨hh.set (List.mem_cons_of_mem _ hm), ⟨k1, xs ++ [.ref b], upd_same, by simp [k3], k4.append (isL_cons mk_adr isL_nil)⟩, ⟨⟨nb, ys, ?_, hyl⟩, h0, hbm⟩, hfx G1 H1 _ k2 k5 _⟩ (fun σ' G' H' g' => q σ' G' H' (s1.g.trans g')) fun v G' H' g' => r v G' H' (s1.g.trans g')
  rw [upd_ne hbp]; exact hy
/-- self.f = e, f new, with more in sight -/
theorem ht_fldX {p dx : Addr} {M : List Addr} {G0 H0 : Hp} {f : Str} {Fx : Hp → Hp → Prop} (hx : Stay Fx) (hv : ρ[i]? = some (some (.adr p))) (hm : p ∈ M) (he : EvD K ρ te d) (hc : Cls K C) (hn : NoAttr K C f) (hf : f ∉ ns) (hl : ns.length < 1000)
    (hfx : ∀ G H fs, H p = some (.ins C dx fs) → Fx G H → ∀ gs, Fx G (upd H p (.ins C dx gs))) :
    HT K ρ (fun G H => Hist M G0 H0 G H ∧ OwnI K p C dx ns es G H ∧ Fx G H) (sFld K (tVar i) te f) ρ (fun G H => Hist M G0 H0 G H ∧ OwnI K p C dx (ns ++ [f]) (es ++ [d]) G H ∧ Fx G H) R := fun Dn σ G H e n ff q r => by
  have hs : Stay (fun G H => Hist M G0 H0 G H ∧ OwnI K p C dx ns es G H ∧ Fx G H) := Stay.and Hist.stay (Stay.and OwnI.stay hx)
  refine he σ G H e n _ fun y G1 H1 s1 i1 => ?_
  obtain ⟨v, h1, h2⟩ := n.val i _ hv
  rw [is_adr h2] at h1
  obtain ⟨f1, ⟨k1, xs, k2, k3, k4⟩, k5⟩ := hs _ _ _ _ ff s1
  refine ⟨_, h1, p, C, dx, _, rfl, k2, hc, hn, by rw [List.length_zip]; omega, ?_⟩
  rw [putF_zip hf k3]
  exact q σ G1 _ s1.g (same_own s1.le k1) (n.mono s1.g) ⟨f1.set hm, ⟨k1, xs ++ [y], upd_same, by simp [k3], k4.append (isL_cons i1 isL_nil)⟩, hfx G1 H1 _ k2 k5 _⟩
end
end Pu
end
section
set_option Elab.async false
set_option linter.all false
set_option maxRecDepth 100000
set_option maxHeartbeats 4000000
/-! Pu13: a jar: an own list of three ints that a call changes; what is drawn is known by what is true of it. -/
namespace Pu
open PySem PySem.Spec PyProof.Rows L2 StX RZ PySem.W
/-- the jar at q, n draws at most -/
def Jar (q : Addr) (n : Nat) (G H : Hp) : Prop := G q = none ∧ ∃ a m c : Int, H q = some (.lst [.int a, .int m, .int c]) ∧ m.natAbs < 2 ^ 64 ∧ c.natAbs ≤ n
/-- from (G, H) to (G', H') only the jar may have changed -/
structure JS (q : Addr) (n : Nat) (G H G' H' : Hp) : Prop where
  hist : Hist [q] G H G' H'
  le : Same G' H'
  jar : Jar q n G' H'
section
variable {q p : Addr} {n m k k1 k2 : Nat} {G H G1 H1 G2 H2 : Hp}
theorem Jar.own (j : Jar q n G H) : ∀ a, a ∈ [q] → G a = none ∧ H a ≠ none := fun a ha => by
  obtain ⟨h, x, y, z, e, _⟩ := j
  rw [List.mem_singleton.mp ha]
  exact ⟨h, by rw [e]; intro w; cases w⟩
theorem Jar.more (j : Jar q n G H) (h : n ≤ m) : Jar q m G H := by
  obtain ⟨h1, x, y, z, e, h2, h3⟩ := j
  exact ⟨h1, x, y, z, e, h2, by omega⟩
theorem Jar.step (j : Jar q n G H) (s : Stp G H G1 H1) : Jar q n G1 H1 := by
  obtain ⟨h1, x, y, z, e, h2⟩ := j
  exact ⟨s.nw q h1 (by rw [e]; intro w; cases w), x, y, z, s.h _ _ e, h2⟩
theorem JS.refl (e : Same G H) (j : Jar q n G H) : JS q n G H G H := ⟨Hist.start e j.own, e, j⟩
theorem JS.stp (e : Same G H) (j : Jar q n G H) (s : Stp G H G1 H1) : JS q n G H G1 H1 := ⟨(Hist.start e j.own).step s, s.le, j.step s⟩
theorem JS.trans (a : JS q n G H G1 H1) (b : JS q m G1 H1 G2 H2) : JS q m G H G2 H2 := ⟨a.hist.comp b.hist fun _ h => h, b.le, b.jar⟩
theorem JS.more (a : JS q n G H G1 H1) (h : n ≤ m) : JS q m G H G1 H1 := ⟨a.hist, a.le, a.jar.more h⟩
theorem JS.keep {o : HO} (a : JS q n G H G1 H1) (ne : p ≠ q) (hp : H p = some o) : H1 p = some o := a.hist.h p o (fun m => ne (List.mem_singleton.mp m)) hp
theorem JS.free (a : JS q n G H G1 H1) (hg : G p = none) (hp : H p ≠ none) : G1 p = none := a.hist.nw p hg hp
theorem JS.ownL {K : PySem.W.Frag} {l : List D} (a : JS q n G H G1 H1) (ne : p ≠ q) (o : OwnL K p l G H) : OwnL K p l G1 H1 := by
  obtain ⟨h1, xs, h2, h3⟩ := o
  exact ⟨a.free h1 (by rw [h2]; intro z; cases z), xs, a.keep ne h2, IsL.mono a.hist.g _ _ h3⟩
theorem JS.fresh (a : JS q n G H G1 H1) (j : Jar q m G H) (hp : H1 p = none) : H p = none := by
  cases z : H p with
  | none => rfl
  | some o =>
    have ne : p ≠ q := fun e => by
      subst e
      obtain ⟨_, x, y, w, e2, _⟩ := a.jar
      rw [e2] at hp; cases hp
    rw [a.keep ne z] at hp; cases hp
theorem Jar.ne (j : Jar q n G H) (hp : H p = none) : p ≠ q := fun e => by
  subst e
  obtain ⟨_, x, y, w, e2, _⟩ := j
  rw [e2] at hp; cases hp
end
/-- the most that can be drawn -/
abbrev JL : Nat := 1000000
section
variable (K : PySem.W.Frag) (q : Addr)
def EvX (ρ : Rho) (te : TE) (Φ : D → Prop) (k : Nat) : Prop := ∀ n, n + k ≤ JL → ∀ (σ : L2.St) (G H : Hp), Same G H → En K G ρ σ → Jar q n G H → ∀ Q : VK, (∀ d v G' H', Φ d → JS q (n + k) G H G' H' → Is K G' d v → Q v H') → te σ H Q
def EaX (ρ : Rho) (tl : TA) (Ψ : List D → Prop) (k : Nat) : Prop := ∀ n, n + k ≤ JL → ∀ (σ : L2.St) (G H : Hp), Same G H → En K G ρ σ → Jar q n G H → ∀ Q : List V → Hp → Prop, (∀ ds vs G' H', Ψ ds → JS q (n + k) G H G' H' → IsL K G' ds vs → Q vs H') → tl σ H Q
def EbX (ρ : Rho) (tt : TT) (b : Bool) (k : Nat) : Prop := ∀ n, n + k ≤ JL → ∀ (σ : L2.St) (G H : Hp), Same G H → En K G ρ σ → Jar q n G H → ∀ Q : Bool → Hp → Prop, (∀ G' H', JS q (n + k) G H G' H' → Q b H') → tt σ H Q
/-- a new list of its own -/
def EnX (ρ : Rho) (te : TE) (Ψ : List D → Prop) (k : Nat) : Prop := ∀ n, n + k ≤ JL → ∀ (σ : L2.St) (G H : Hp), Same G H → En K G ρ σ → Jar q n G H → ∀ Q : VK, (∀ l p xs G' H', Ψ l → JS q (n + k) G H G' H' → G' p = none → H p = none → H' p = some (.lst xs) → IsL K G' l xs → Q (.ref p) H') → te σ H Q
/-- a statement that returns -/
def SrX (ρ : Rho) (t : TS) (Φ : D → Prop) (k : Nat) : Prop := ∀ n, n + k ≤ JL → ∀ (Dn : Ends) (σ : L2.St) (G H : Hp), Same G H → En K G ρ σ → Jar q n G H → (∀ d v G' H', Φ d → JS q (n + k) G H G' H' → Is K G' d v → Dn.rt v H') → t Dn σ H
/-- one that goes on -/
def SjX (ρ : Rho) (t : TS) (ρ' : Rho) (k : Nat) : Prop := ∀ n, n + k ≤ JL → ∀ (Dn : Ends) (σ : L2.St) (G H : Hp), Same G H → En K G ρ σ → Jar q n G H → (∀ σ' G' H', JS q (n + k) G H G' H' → En K G' ρ' σ' → Dn.nx σ' H') → t Dn σ H
/-- one that goes on, with an own list at p -/
def SnX (p : Addr) (ρ : Rho) (Ψ : List D → Prop) (t : TS) (ρ' : Rho) (Ψ' : List D → Prop) (k : Nat) : Prop := ∀ n, n + k ≤ JL → ∀ (Dn : Ends) (σ : L2.St) (G H : Hp), Same G H → En K G ρ σ → Jar q n G H → p ≠ q → ∀ l, Ψ l → OwnL K p l G H →
  (∀ σ' G' H' l', Ψ' l' → Hist [p, q] G H G' H' → Same G' H' → En K G' ρ' σ' → Jar q (n + k) G' H' → OwnL K p l' G' H' → Dn.nx σ' H') → t Dn σ H
end
section
variable {K : PySem.W.Frag} {q p : Addr} {ρ ρ1 ρ2 : Rho} {te ta tb : TE} {tl : TA} {tt : TT} {t u : TS} {Φ Φ1 Φ2 : D → Prop} {Ψ Ψ1 Ψ2 Ψ3 : List D → Prop} {k k1 k2 k3 : Nat} {d : D} {ds : List D}
theorem ex_of (h : EvD K ρ te d) : EvX K q ρ te (fun x => x = d) 0 := fun n hn σ G H e en j Q hq => h σ G H e en Q fun v G' H' s i => hq d v G' H' rfl (JS.stp e j s) i
theorem ex_is (h : EvX K q ρ te Φ k) (hi : ∀ d, Φ d → Φ1 d) : EvX K q ρ te Φ1 k := fun n hn σ G H e en j Q hq => h n hn σ G H e en j Q fun d v G' H' f => hq d v G' H' (hi d f)
theorem exa_of (h : EvA K ρ tl ds) : EaX K q ρ tl (fun x => x = ds) 0 := fun n hn σ G H e en j Q hq => h σ G H e en Q fun v G' H' s i => hq ds v G' H' rfl (JS.stp e j s) i
theorem exa_nil : EaX K q ρ tNil (fun x => x = []) 0 := exa_of ea_nil
theorem exa_cons (h1 : EvX K q ρ te Φ k1) (h2 : EaX K q ρ tl Ψ k2) : EaX K q ρ (tCons te tl) (fun l => ∃ d ds, l = d :: ds ∧ Φ d ∧ Ψ ds) (k1 + k2) := fun n hn σ G H e en j Q hq =>
  h1 n (by omega) σ G H e en j _ fun d v G1 H1 f1 s1 i1 => h2 (n + k1) (by omega) σ G1 H1 s1.le (en.mono s1.hist.g) s1.jar _ fun ds vs G2 H2 f2 s2 i2 =>
    hq (d :: ds) (v :: vs) G2 H2 ⟨d, ds, rfl, f1, f2⟩ ((s1.trans s2).more (by omega)) (isL_cons (Is.mono s2.hist.g _ _ i1) i2)
theorem exa_is (h : EaX K q ρ tl Ψ k) (hi : ∀ d, Ψ d → Ψ1 d) : EaX K q ρ tl Ψ1 k := fun n hn σ G H e en j Q hq => h n hn σ G H e en j Q fun d v G' H' f => hq d v G' H' (hi d f)
theorem ex_op {r : R2} (h1 : EvX K q ρ ta Φ1 k1) (h2 : EvX K q ρ tb Φ2 k2) (hr : ∀ a b, Φ1 a → Φ2 b → ∃ c, Φ c ∧ RvD K r a b c) : EvX K q ρ (tOp r ta tb) Φ (k1 + k2) := fun n hn σ G H e en j Q hq =>
  h1 n (by omega) σ G H e en j _ fun a x G1 H1 f1 s1 i1 => h2 (n + k1) (by omega) σ G1 H1 s1.le (en.mono s1.hist.g) s1.jar _ fun b y G2 H2 f2 s2 i2 => by
    obtain ⟨c, fc, rc⟩ := hr a b f1 f2
    refine rc G2 H2 x y s2.le (Is.mono s2.hist.g _ _ i1) i2 Q fun v G3 H3 s3 i3 => ?_
    exact hq c v G3 H3 fc (((s1.trans s2).trans (JS.stp s2.le s2.jar s3)).more (by omega)) i3
theorem ex_cb {r : List V → Hp → VK → Prop} (h : EaX K q ρ tl Ψ k) (hr : ∀ ds, Ψ ds → ∃ c, Φ c ∧ RcD K r ds c) : EvX K q ρ (tCB r tl) Φ k := fun n hn σ G H e en j Q hq =>
  h n hn σ G H e en j _ fun ds vs G1 H1 f1 s1 i1 => by
    obtain ⟨c, fc, rc⟩ := hr ds f1
    exact rc G1 H1 vs s1.le i1 Q fun v G2 H2 s2 i2 => hq c v G2 H2 fc (s1.trans (JS.stp s1.le s1.jar s2)) i2
theorem ex_call {R : List D → D → Prop} {E : XK} (h : EaX K q ρ tl Ψ k) (hr : ∀ ds, Ψ ds → ∃ d, Φ d ∧ R ds d) : EvX K q ρ (tCall (spP K R) [] E tl) Φ k := fun n hn σ G H e en j Q hq =>
  h n hn σ G H e en j _ fun ds vs G1 H1 f1 s1 i1 => by
    obtain ⟨d, fd, rd⟩ := hr ds f1
    exact ⟨G1, ds, d, s1.le, by rw [List.append_nil]; exact i1, rd, fun v G2 H2 s2 i2 => hq d v G2 H2 fd (s1.trans (JS.stp s1.le s1.jar s2)) i2⟩
theorem ex_tup (h : EaX K q ρ tl Ψ k) (hl : ∀ ds, Ψ ds → ds.length ≤ 1000000) : EvX K q ρ (tTup tl) (fun d => ∃ ds, Ψ ds ∧ d = .tup ds) k := fun n hn σ G H e en j Q hq =>
  h n hn σ G H e en j _ fun ds vs G1 H1 f1 s1 i1 => ⟨sz_le (by rw [← i1.length]; exact hl ds f1), fun p hp => hq (.tup ds) _ _ _ ⟨ds, f1, rfl⟩ (s1.trans (JS.stp s1.le s1.jar (Stp.new s1.le hp))) (mk_tup upd_same (IsL.mono (same_new (s1.le.free hp)) _ _ i1))⟩
theorem ebx_B {b : Bool} (h : EvX K q ρ te (fun d => d = .bl b) k) : EbX K q ρ (tB te) b k := fun n hn σ G H e en j Q hq =>
  h n hn σ G H e en j _ fun d v G1 H1 f1 s1 i1 => ⟨b, is_bl (by rw [f1] at i1; exact i1), hq G1 H1 s1⟩
theorem ebx_not {b : Bool} (h : EbX K q ρ tt b k) : EbX K q ρ (tNot tt) (!b) k := fun n hn σ G H e en j Q hq => h n hn σ G H e en j _ hq
/-! ### promises that draw -/
def spJ (K : PySem.W.Frag) (R : List D → (D → Prop) → Prop) (k : Nat) : Sp := fun vs H Q _ => ∃ (G : Hp) (q : Addr) (n : Nat) (us : List V) (ds : List D) (Φ : D → Prop), vs = .ref q :: us ∧ Same G H ∧ n + k ≤ JL ∧ Jar q n G H ∧ IsL K G ds us ∧ R ds Φ ∧
  ∀ d v G' H', Φ d → JS q (n + k) G H G' H' → Is K G' d v → Q v H'
def RJ {α : Type} (args : α → List D) (ok : α → Prop) (Φ : α → D → Prop) (ds : List D) (F : D → Prop) : Prop := ∃ x, ds = args x ∧ ok x ∧ F = Φ x
theorem rj {α : Type} {args : α → List D} {ok : α → Prop} {Φ : α → D → Prop} (x : α) (h : ok x) : RJ args ok Φ (args x) (Φ x) := ⟨x, rfl, h, rfl⟩
theorem ex_callJ {R : List D → (D → Prop) → Prop} {E : XK} {i : Nat} (hv : ρ[i]? = some (some (.adr q))) (h : EaX K q ρ tl Ψ k1) (hr : ∀ ds, Ψ ds → ∃ F, R ds F ∧ ∀ d, F d → Φ d) : EvX K q ρ (tCall (spJ K R k2) [] E (tCons (tVar i) tl)) Φ (k1 + k2) := fun n hn σ G H e en j Q hq => by
  obtain ⟨v, h1, h2⟩ := en.val i _ hv
  rw [is_adr h2] at h1
  refine ⟨_, h1, h n (by omega) σ G H e en j _ fun ds vs G1 H1 f1 s1 i1 => ?_⟩
  obtain ⟨F, rF, hF⟩ := hr ds f1
  exact ⟨G1, q, n + k1, vs, ds, F, by rw [List.append_nil], s1.le, by omega, s1.jar, i1, rF, fun d v G2 H2 fd s2 i2 => hq d v G2 H2 (hF d fd) ((s1.trans s2).more (by omega)) i2⟩
/-! ### statements -/
theorem srx_ret (h : EvX K q ρ te Φ k) : SrX K q ρ (tRet te) Φ k := fun n hn Dn σ G H e en j hq => h n hn σ G H e en j _ hq
theorem srx_one (h : SrX K q ρ t Φ k) : SrX K q ρ (tSeq t u) Φ k := fun n hn Dn σ G H e en j hq => h n hn _ σ G H e en j hq
theorem srx_asg {g : TG} (h1 : EvX K q ρ te Φ1 k1) (h2 : ∀ d, Φ1 d → ∃ ρ1 is, TgD K ρ g d ρ1 is ∧ SrX K q ρ1 u Φ k2) : SrX K q ρ (tSeq (tAsg te g) u) Φ (k1 + k2) := fun n hn Dn σ G H e en j hq =>
  h1 n (by omega) σ G H e en j _ fun d v G1 H1 f1 s1 i1 => by
    obtain ⟨ρ1, is, tg, hu⟩ := h2 d f1
    refine tg v σ G1 H1 s1.le (en.mono s1.hist.g) i1 _ fun σ2 G2 H2 s2 n2 _ => ?_
    have s12 := s1.trans (JS.stp s1.le s1.jar s2)
    exact hu (n + k1) (by omega) Dn σ2 G2 H2 s2.le n2 s12.jar fun d v G3 H3 f3 s3 i3 => hq d v G3 H3 f3 ((s12.trans s3).more (by omega)) i3
theorem srx_set {i : Nat} (h1 : EvX K q ρ te Φ1 k1) (h2 : ∀ d, Φ1 d → SrX K q (ρ.set i (some d)) u Φ k2) : SrX K q ρ (tSeq (tAsg te (gName i)) u) Φ (k1 + k2) := srx_asg h1 fun d hd => ⟨_, _, tg_name, h2 d hd⟩
theorem srx_sd (h : StD K ρ t (.nx ρ1)) (h2 : SrX K q ρ1 u Φ k) : SrX K q ρ (tSeq t u) Φ k := fun n hn Dn σ G H e en j hq =>
  h _ σ G H e en fun σ' G' H' s n' => h2 n hn Dn σ' G' H' s.le n' (j.step s) fun d v G3 H3 f3 s3 i3 => hq d v G3 H3 f3 ((JS.stp e j s).trans s3) i3
theorem srx_sj (h : SjX K q ρ t ρ1 k1) (h2 : SrX K q ρ1 u Φ k2) : SrX K q ρ (tSeq t u) Φ (k1 + k2) := fun n hn Dn σ G H e en j hq =>
  h n (by omega) _ σ G H e en j fun σ' G' H' s n' => h2 (n + k1) (by omega) Dn σ' G' H' s.le n' s.jar fun d v G3 H3 f3 s3 i3 => hq d v G3 H3 f3 ((s.trans s3).more (by omega)) i3
theorem srx_from (w : Wk ρ1 ρ) (h : SrX K q ρ1 t Φ k) : SrX K q ρ t Φ k := fun n hn Dn σ G H e en j hq => h n hn Dn σ G H e (w.en en) j hq
theorem sjx_sd (h : StD K ρ t (.nx ρ1)) : SjX K q ρ t ρ1 0 := fun n hn Dn σ G H e en j hq => h _ σ G H e en fun σ' G' H' s n' => hq σ' G' H' (JS.stp e j s) n'
theorem sjx_seq (h : SjX K q ρ t ρ1 k1) (h2 : SjX K q ρ1 u ρ2 k2) : SjX K q ρ (tSeq t u) ρ2 (k1 + k2) := fun n hn Dn σ G H e en j hq =>
  h n (by omega) _ σ G H e en j fun σ' G' H' s n' => h2 (n + k1) (by omega) Dn σ' G' H' s.le n' s.jar fun σ2 G2 H2 s2 n2 => hq σ2 G2 H2 ((s.trans s2).more (by omega)) n2
theorem sjx_set {i : Nat} (h1 : EvX K q ρ te Φ1 k1) (h2 : ∀ d, Φ1 d → SjX K q (ρ.set i (some d)) u ρ2 k2) : SjX K q ρ (tSeq (tAsg te (gName i)) u) ρ2 (k1 + k2) := fun n hn Dn σ G H e en j hq =>
  h1 n (by omega) σ G H e en j _ fun d v G1 H1 f1 s1 i1 => h2 d f1 (n + k1) (by omega) Dn _ G1 H1 s1.le ((en.mono s1.hist.g).set i1) s1.jar fun σ2 G2 H2 s2 n2 => hq σ2 G2 H2 ((s1.trans s2).more (by omega)) n2
theorem sjx_weak (h : SjX K q ρ t ρ1 k) (w : Wk ρ2 ρ1) : SjX K q ρ t ρ2 k := fun n hn Dn σ G H e en j hq => h n hn Dn σ G H e en j fun σ' G' H' s n' => hq σ' G' H' s (w.en n')
theorem sjx_if (h : EbX K q ρ tt false k) (h2 : StD K ρ u (.nx ρ1)) : SjX K q ρ (tIfS tt t u) ρ1 k := fun n hn Dn σ G H e en j hq =>
  h n hn σ G H e en j _ fun G1 H1 s1 => h2 Dn σ G1 H1 s1.le (en.mono s1.hist.g) fun σ2 G2 H2 s2 n2 => hq σ2 G2 H2 (s1.trans (JS.stp s1.le s1.jar s2)) n2
theorem sjx_next : SjX K q ρ tNext ρ 0 := fun n hn Dn σ G H e en j hq => hq σ G H (JS.refl e j) en
/-- a for that draws at each turn -/
theorem sjx_for {α : Type} {enc : α → D} {wi : TI} {g : TG} {tb : TS} {env : Rho} {xs : List α} (hi : ItD K env wi (xs.map enc))
    (hs : ∀ x, x ∈ xs → ∃ ρ1 is, TgD K env g (enc x) ρ1 is ∧ SjX K q ρ1 tb env k) : SjX K q env (tFor wi g tb) env (k * xs.length) := fun n hn Dn σ G H e en j hq =>
  hi σ G H e en _ fun J G1 H1 s1 w => by
    have j1 := JS.stp e j s1
    refine for_raw w (fun i σ' G' H' => i ≤ xs.length ∧ JS q (n + k * i) G1 H1 G' H' ∧ En K G' env σ') (fun i σ G' H' p => ⟨p.2.1.hist.g, p.2.1.le⟩) ⟨Nat.zero_le _, JS.refl s1.le j1.jar, en.mono s1.g⟩ (fun i d σ2 G2 H2 hd p x G3 H3 s3 i3 => ?_) fun σ' G' H' p => ?_
    · obtain ⟨pi, p1, p2⟩ := p
      rw [List.getElem?_map] at hd
      cases e1 : xs[i]? with
      | none => rw [e1] at hd; cases hd
      | some y =>
        rw [e1] at hd
        cases hd
        have hlt := (List.getElem?_eq_some_iff.mp e1).1
        have hm : k * (i + 1) ≤ k * xs.length := Nat.mul_le_mul_left k hlt
        rw [Nat.mul_succ] at hm
        obtain ⟨ρ1, is, tg, hb⟩ := hs y (List.mem_of_getElem? e1)
        have j3 := p1.trans (JS.stp p1.le p1.jar s3)
        refine tg x σ2 G3 H3 s3.le (p2.mono s3.g) i3 _ fun σ4 G4 H4 s4 n4 _ => ?_
        have j4 := j3.trans (JS.stp j3.le j3.jar s4)
        exact hb (n + k * i) (by omega) _ σ4 G4 H4 s4.le n4 j4.jar fun σ5 G5 H5 s5 n5 => ⟨G5, hlt, (j4.trans s5).more (by rw [Nat.mul_succ]; omega), n5⟩
    · rw [List.length_map] at p
      exact hq σ' G' H' (j1.trans p.2.1) p.2.2
/-! ### with an own list -/
theorem snx_sj (h : SjX K q ρ t ρ1 k) : SnX K q p ρ Ψ t ρ1 Ψ k := fun n hn Dn σ G H e en j ne l hl o hq =>
  h n hn Dn σ G H e en j fun σ' G' H' s n' => hq σ' G' H' l hl ⟨s.hist.g, fun a u m z => s.hist.h a u (fun w => m (List.mem_cons_of_mem _ w)) z, s.hist.nw, fun a m => by
    rcases List.mem_cons.mp m with w | w
    · rw [w]
      obtain ⟨o1, xs, o2, _⟩ := s.ownL ne o
      exact ⟨o1, by rw [o2]; intro z; cases z⟩
    · exact s.hist.own a w⟩ s.le n' s.jar (s.ownL ne o)
theorem snx_seq (h : SnX K q p ρ Ψ t ρ1 Ψ1 k1) (h2 : SnX K q p ρ1 Ψ1 u ρ2 Ψ2 k2) : SnX K q p ρ Ψ (tSeq t u) ρ2 Ψ2 (k1 + k2) := fun n hn Dn σ G H e en j ne l hl o hq =>
  h n (by omega) _ σ G H e en j ne l hl o fun σ' G' H' l' hl' hh e' n' j' o' => h2 (n + k1) (by omega) Dn σ' G' H' e' n' j' ne l' hl' o' fun σ2 G2 H2 l2 hl2 hh2 e2 n2 j2 o2 =>
    hq σ2 G2 H2 l2 hl2 (hh.comp hh2 fun _ m => m) e2 n2 (j2.more (by omega)) o2
theorem hist_p {n : Nat} {G H G1 H1 : Hp} {l : List D} (s : JS q n G H G1 H1) (ne : p ≠ q) (o : OwnL K p l G H) : Hist [p, q] G H G1 H1 := ⟨s.hist.g, fun a u m z => s.hist.h a u (fun w => m (List.mem_cons_of_mem _ w)) z, s.hist.nw, fun a m => by
    rcases List.mem_cons.mp m with w | w
    · rw [w]
      obtain ⟨o1, xs, o2, _⟩ := s.ownL ne o
      exact ⟨o1, by rw [o2]; intro z; cases z⟩
    · exact s.hist.own a w⟩
theorem snx_set {i : Nat} (h1 : EvX K q ρ te Φ1 k1) (h2 : ∀ d, Φ1 d → SnX K q p (ρ.set i (some d)) Ψ u ρ2 Ψ2 k2) : SnX K q p ρ Ψ (tSeq (tAsg te (gName i)) u) ρ2 Ψ2 (k1 + k2) := fun n hn Dn σ G H e en j ne l hl o hq =>
  h1 n (by omega) σ G H e en j _ fun d v G1 H1 f1 s1 i1 => h2 d f1 (n + k1) (by omega) Dn _ G1 H1 s1.le ((en.mono s1.hist.g).set i1) s1.jar ne l hl (s1.ownL ne o) fun σ2 G2 H2 l2 hl2 hh2 e2 n2 j2 o2 =>
    hq σ2 G2 H2 l2 hl2 ((hist_p s1 ne o).comp hh2 fun _ m => m) e2 n2 (j2.more (by omega)) o2
theorem snx_weak (h : SnX K q p ρ Ψ t ρ1 Ψ1 k) (w : Wk ρ2 ρ1) : SnX K q p ρ Ψ t ρ2 Ψ1 k := fun n hn Dn σ G H e en j ne l hl o hq => h n hn Dn σ G H e en j ne l hl o fun σ' G' H' l' hl' hh e' n' => hq σ' G' H' l' hl' hh e' (w.en n')
theorem snx_post (h : SnX K q p ρ Ψ t ρ1 Ψ1 k) (w : ∀ l, Ψ1 l → Ψ2 l) : SnX K q p ρ Ψ t ρ1 Ψ2 k := fun n hn Dn σ G H e en j ne l hl o hq => h n hn Dn σ G H e en j ne l hl o fun σ' G' H' l' hl' => hq σ' G' H' l' (w l' hl')
/-- x.append(e) -/
theorem snx_append {i : Nat} (hv : ρ[i]? = some (some (.adr p))) (he : EvD K ρ te d) (hl : ∀ l, Ψ l → l.length < 1000000 ∧ Ψ1 (l ++ [d])) : SnX K q p ρ Ψ (tDrop (tBM K "list" rAppend (tVar i) (tCons te tNil))) ρ Ψ1 0 := fun n hn Dn σ G H e en j ne l hl' o hq => by
  obtain ⟨v, h1, h2⟩ := en.val i _ hv
  rw [is_adr h2] at h1
  obtain ⟨w1, w2⟩ := hl l hl'
  obtain ⟨g1, xs, g2, g3⟩ := id o
  refine ⟨_, h1, .inl ⟨rfl, xs, SqL.of g2⟩, he σ G H e en _ fun x G1 H1 s1 i1 => ?_⟩
  obtain ⟨k1, ys, k2, k3⟩ := OwnL.stay _ _ _ _ o s1
  have kl := k3.length
  have s := JS.stp e j s1
  refine ⟨p, ys, x, rfl, rfl, k2, sz_lt (by omega), hq σ G1 _ _ w2 ((hist_p s ne o).set List.mem_cons_self) (same_own s1.le k1) (en.mono s1.g) ?_ ⟨k1, _, upd_same, k3.append (isL_cons i1 isL_nil)⟩⟩
  obtain ⟨j1, a, m, c, j2, j3⟩ := s.jar
  exact ⟨j1, a, m, c, by rw [upd_ne ne.symm]; exact j2, j3⟩
/-- a for with an own list -/
theorem snx_for {α : Type} {enc : α → D} {wi : TI} {g : TG} {tb : TS} {env : Rho} {xs : List α} (Ψ : Nat → List D → Prop) (hi : ItD K env wi (xs.map enc))
    (hs : ∀ (i : Nat) (x : α), xs[i]? = some x → ∃ ρ1 is, TgD K env g (enc x) ρ1 is ∧ SnX K q p ρ1 (Ψ i) tb env (Ψ (i + 1)) k) : SnX K q p env (Ψ 0) (tFor wi g tb) env (Ψ xs.length) (k * xs.length) := fun n hn Dn σ G H e en j ne l hl o hq =>
  hi σ G H e en _ fun J G1 H1 s1 w => by
    have j1 := JS.stp e j s1
    have o1 := OwnL.stay _ _ _ _ o s1
    refine for_raw w (fun i σ' G' H' => i ≤ xs.length ∧ Hist [p, q] G1 H1 G' H' ∧ Same G' H' ∧ En K G' env σ' ∧ Jar q (n + k * i) G' H' ∧ ∃ l, Ψ i l ∧ OwnL K p l G' H') (fun i σ G' H' p => ⟨p.2.1.g, p.2.2.1⟩)
      ⟨Nat.zero_le _, hist_p (JS.refl s1.le j1.jar) ne o1, s1.le, en.mono s1.g, j1.jar, l, hl, o1⟩ (fun i d σ2 G2 H2 hd pp x G3 H3 s3 i3 => ?_) fun σ' G' H' pp => ?_
    · obtain ⟨pi, p1, p2, p3, p4, l2, p5, p6⟩ := pp
      rw [List.getElem?_map] at hd
      cases e1 : xs[i]? with
      | none => rw [e1] at hd; cases hd
      | some y =>
        rw [e1] at hd
        cases hd
        have hlt := (List.getElem?_eq_some_iff.mp e1).1
        have hm : k * (i + 1) ≤ k * xs.length := Nat.mul_le_mul_left k hlt
        rw [Nat.mul_succ] at hm
        obtain ⟨ρ1, is, tg, hb⟩ := hs i y e1
        refine tg x σ2 G3 H3 s3.le (p3.mono s3.g) i3 _ fun σ4 G4 H4 s4 n4 _ => ?_
        have s34 := s3.trans s4
        refine hb (n + k * i) (by omega) _ σ4 G4 H4 s4.le n4 (p4.step s34) ne l2 p5 (OwnL.stay _ _ _ _ p6 s34) fun σ5 G5 H5 l5 f5 h5 e5 n5 j5 o5 => ⟨G5, hlt, (p1.step s34).comp h5 (fun _ m => m), e5, n5, j5.more (by rw [Nat.mul_succ]; omega), l5, f5, o5⟩
    · obtain ⟨_, p1, p2, p3, p4, l2, p5, p6⟩ := pp
      rw [List.length_map] at p4 p5
      exact hq σ' G' H' l2 p5 ((hist_p j1 ne o).comp p1 fun _ m => m) p2 p3 p4 p6
/-- the own list is given away -/
theorem give_p {n : Nat} {G H G' H' : Hp} {l : List D} (h : Hist [p, q] G H G' H') (e : Same G' H') (j : Jar q n G' H') (o : OwnL K p l G' H') (hp : H p = none) (ne : p ≠ q) :
    ∃ G2, JS q n G H G2 H' ∧ Same G' G2 ∧ Is K G2 (.lst l) (.ref p) := by
  obtain ⟨o1, xs, o2, o3⟩ := o
  obtain ⟨k1, k2⟩ := h.give e o2 hp (by rw [List.mem_singleton]; exact ne)
  refine ⟨upd G' p (.lst xs), ⟨k1, k2, ?_⟩, same_new o1, mk_lst upd_same (IsL.mono (same_new o1) _ _ o3)⟩
  obtain ⟨j1, a, m, c, j2, j3⟩ := j
  exact ⟨by rw [upd_ne ne.symm]; exact j1, a, m, c, j2, j3⟩
theorem en_give {i : Nat} {G' G2 : Hp} {l : List D} {σ : L2.St} (n' : En K G' (ρ1.set i (some (.adr p))) σ) (e : Same G' G2) (il : Is K G2 (.lst l) (.ref p)) : En K G2 (ρ1.set i (some (.lst l))) σ := by
  refine ⟨?_, fun j d hd => ?_⟩
  · have := n'.len
    simp only [List.length_set] at this ⊢
    exact this
  · by_cases z : i = j
    · subst z
      rw [List.getElem?_set] at hd
      simp only [if_true] at hd
      split at hd
      · rename_i hlt
        cases hd
        obtain ⟨v, y1, y2⟩ := n'.val i (.adr p) (by rw [List.getElem?_set]; simp [hlt])
        rw [is_adr y2] at y1
        exact ⟨_, y1, il⟩
      · cases hd
    · rw [List.getElem?_set_ne z] at hd
      obtain ⟨v, y1, y2⟩ := n'.val j d (by rw [List.getElem?_set_ne z]; exact hd)
      exact ⟨v, y1, Is.mono e _ _ y2⟩
/-- x = a list of its own, a part that changes it, and the rest, for which it is data -/
theorem srx_own {i : Nat} (h0 : EnX K q ρ te Ψ k1) (h1 : ∀ p, SnX K q p (ρ.set i (some (.adr p))) Ψ t (ρ1.set i (some (.adr p))) Ψ1 k2) (h2 : ∀ l, Ψ1 l → SrX K q (ρ1.set i (some (.lst l))) u Φ k3) : SrX K q ρ (tSeq (tAsg te (gName i)) (tSeq t u)) Φ (k1 + k2 + k3) := fun n hn Dn σ G H e en j hq =>
  h0 n (by omega) σ G H e en j _ fun l p xs G1 H1 f1 s1 np hp hx il => by
    have ne : p ≠ q := j.ne hp
    refine h1 p (n + k1) (by omega) _ _ G1 H1 s1.le ((en.mono s1.hist.g).set mk_adr) s1.jar ne l f1 ⟨np, xs, hx, il⟩ fun σ2 G2 H2 l2 f2 hh e2 n2 j2 o2 => ?_
    have hh0 : Hist [p, q] G H G2 H2 := by
      have a : Hist [p, q] G H G1 H1 := ⟨s1.hist.g, fun a u m z => s1.hist.h a u (fun w => m (List.mem_cons_of_mem _ w)) z, s1.hist.nw, fun a m => by
        rcases List.mem_cons.mp m with w | w
        · rw [w]; exact ⟨np, by rw [hx]; intro z; cases z⟩
        · exact s1.hist.own a w⟩
      exact a.comp hh fun _ m => m
    obtain ⟨G3, s3, e3, i3⟩ := give_p hh0 e2 j2 o2 hp ne
    exact h2 l2 f2 (n + k1 + k2) (by omega) Dn σ2 G3 H2 s3.le (en_give n2 e3 i3) s3.jar fun d v G4 H4 f4 s4 i4 => hq d v G4 H4 f4 ((s3.trans s4).more (by omega)) i4
/-- y, x = e, [], a part that fills x, and the rest -/
theorem srx_ownP {i j : Nat} {ρa : D → Rho} {Ψa : D → List D → Prop} (h0 : EvX K q ρ te Φ1 k1) (h1 : ∀ d, Φ1 d → ∀ p, SnX K q p ((ρ.set i (some d)).set j (some (.adr p))) (fun l => l = []) t ((ρa d).set j (some (.adr p))) (Ψa d) k2) (h2 : ∀ d, Φ1 d → ∀ l, Ψa d l → SrX K q ((ρa d).set j (some (.lst l))) u Φ k3) :
    SrX K q ρ (tSeq (tPar i j (tCons te (tCons (tLst tNil) tNil))) (tSeq t u)) Φ (k1 + k2 + k3) := fun n hn Dn σ G H e en jj hq =>
  h0 n (by omega) σ G H e en jj _ fun d v G1 H1 f1 s1 i1 => ⟨Nat.zero_le _, fun p hp => by
    have ne : p ≠ q := s1.jar.ne hp
    have hp0 := s1.fresh jj hp
    have hg := s1.le.free hp
    have so := Stp.own (o := .lst []) s1.le hp
    have s2 := s1.trans (JS.stp s1.le s1.jar so)
    show ∃ v' w', [v, V.ref p] = [v', w'] ∧ _
    refine ⟨_, _, rfl, ?_⟩
    refine h1 d f1 p (n + k1) (by omega) _ _ G1 (upd H1 p (.lst [])) so.le (((en.mono s1.hist.g).set i1).set mk_adr) s2.jar ne [] rfl ⟨hg, [], upd_same, isL_nil⟩ fun σ2 G2 H2 l2 f2 hh e2 n2 j2 o2 => ?_
    have hh0 : Hist [p, q] G H G2 H2 := by
      have a : Hist [p, q] G H G1 (upd H1 p (.lst [])) := ⟨s2.hist.g, fun a u m z => s2.hist.h a u (fun w => m (List.mem_cons_of_mem _ w)) z, s2.hist.nw, fun a m => by
        rcases List.mem_cons.mp m with w | w
        · rw [w]; exact ⟨hg, by rw [upd_same]; intro z; cases z⟩
        · exact s2.hist.own a w⟩
      exact a.comp hh fun _ m => m
    obtain ⟨G3, s3, e3, i3⟩ := give_p hh0 e2 j2 o2 hp0 ne
    exact h2 d f1 l2 f2 (n + k1 + k2) (by omega) Dn σ2 G3 H2 s3.le (en_give n2 e3 i3) s3.jar fun d v G4 H4 f4 s4 i4 => hq d v G4 H4 f4 ((s3.trans s4).more (by omega)) i4⟩
/-- a comprehension whose items are drawn -/
theorem enx_lc {wi : TI} {g : TG} {vs : List Nat} (hi : ItD K ρ wi ds) (hl : ds.length < 1000000)
    (hs : ∀ d, d ∈ ds → ∃ ρ1 is, TgD K (wipeD ρ vs) g d ρ1 is ∧ (∀ i ∈ is, i ∈ vs) ∧ EvX K q ρ1 te Φ k) :
    EnX K q ρ (tLc wi g tYes te vs) (fun l => l.length = ds.length ∧ ∀ e ∈ l, Φ e) (k * ds.length) := fun n hn σ G H e em jar Q hq =>
  hi σ G H e em _ fun J G1 H1 s1 w => fun p hp => by
    have j1 := JS.stp e jar s1
    have ne : p ≠ q := j1.jar.ne hp
    have hg : G1 p = none := s1.le.free hp
    have so := Stp.own (o := .lst []) s1.le hp
    have j1' := JS.stp s1.le j1.jar so
    refine ⟨fun i m H' => m = ds.length - i ∧ i ≤ ds.length ∧ ∃ G', Hist [p, q] G1 (upd H1 p (.lst [])) G' H' ∧ Same G' H' ∧ Jar q (n + k * i) G' H' ∧ ∃ l xs, H' p = some (.lst xs) ∧ IsL K G' l xs ∧ l.length = i ∧ ∀ e ∈ l, Φ e,
      ⟨ds.length, by simp, Nat.zero_le _, G1, Hist.start so.le (fun a m => ?_), so.le, j1'.jar, [], [], upd_same, isL_nil, rfl, by simp⟩, ?_⟩
    · rcases List.mem_cons.mp m with z | z
      · rw [z]; exact ⟨hg, by rw [upd_same]; intro y; cases y⟩
      · exact j1'.jar.own a z
    rintro i m H2 ⟨rfl, hle, G2, hh, e2, j2, l, xs, hx, hxl, hll, hlf⟩
    by_cases hlt : i < ds.length
    · have hd' : ds[i]? = some ds[i] := by simp [hlt]
      have hm : k * (i + 1) ≤ k * ds.length := Nat.mul_le_mul_left k hlt
      rw [Nat.mul_succ] at hm
      obtain ⟨go, yl⟩ := w.go G2 H2 hh.g e2 i _ hd'
      refine .inr ⟨go, fun H' => i + 1 ≤ ds.length ∧ ∃ G', Hist [p, q] G1 (upd H1 p (.lst [])) G' H' ∧ Same G' H' ∧ Jar q (n + k * (i + 1)) G' H' ∧ ∃ l xs, H' p = some (.lst xs) ∧ IsL K G' l xs ∧ l.length = i + 1 ∧ ∀ e ∈ l, Φ e,
        fun H' z => ⟨ds.length - (i + 1), by omega, rfl, z.1, z.2⟩, fun x H3 y => ?_⟩
      obtain ⟨G3, s3, i3⟩ := yl x H3 y
      obtain ⟨ρ1, is, tg, hin, he⟩ := hs _ (List.getElem_mem hlt)
      refine tg x _ G3 H3 s3.le (((em.mono (s1.g.trans (hh.g.trans s3.g))).wipe vs)) i3 _ fun σ4 G4 H4 s4 n4 w4 => ⟨?_, ?_⟩
      · rw [w4 vs hin, wipe_wipe fun i hi => hi]
      · show te σ4 H4 _
        have s34 := s3.trans s4
        have o2 : OwnL K p l G2 H2 := ⟨(hh.own p List.mem_cons_self).1, xs, hx, hxl⟩
        have o4 := OwnL.stay _ _ _ _ o2 s34
        refine he (n + k * i) (by omega) σ4 G4 H4 s4.le n4 (j2.step s34) _ fun z v G6 H6 f6 s6 i6 => ?_
        obtain ⟨u1, ys, u2, u3⟩ := s6.ownL ne o4
        have hh6 : Hist [p, q] G1 (upd H1 p (.lst [])) G6 H6 := (hh.step s34).comp (hist_p s6 ne o4) fun _ m => m
        have kl := u3.length
        refine ⟨ys, u2, sz_lt (by omega), hlt, G6, hh6.set List.mem_cons_self, same_own s6.le u1, ?_, l ++ [z], ys ++ [v], upd_same, u3.append (isL_cons i6 isL_nil), by simp [hll], fun e he => ?_⟩
        · obtain ⟨jj1, a, mm, c, jj2, jj3⟩ := s6.jar
          exact ⟨jj1, a, mm, c, by rw [upd_ne ne.symm]; exact jj2, by rw [Nat.mul_succ]; omega⟩
        · rcases List.mem_append.mp he with q1 | q1
          · exact hlf e q1
          · rw [List.mem_singleton] at q1; rw [q1]; exact f6
    · have e' : i = ds.length := by omega
      subst e'
      refine .inl ⟨w.stop G2 H2 hh.g e2, ?_⟩
      refine hq l p xs G2 H2 ⟨hll, hlf⟩ ⟨⟨s1.g.trans hh.g, fun a u m z => ?_, fun a z1 z2 => ?_, fun a m => hh.own a (List.mem_cons_of_mem _ m)⟩, e2, j2⟩ (hh.own p List.mem_cons_self).1 (j1.fresh jar hp) hx hxl
      · have z1 := s1.h a u z
        have na : a ≠ p := ne_of_none z1 hp
        exact hh.h a u (fun w => by
          rcases List.mem_cons.mp w with y | y
          · exact na y
          · exact m y) (by rw [upd_ne na]; exact z1)
      · have g1 := s1.nw a z1 z2
        have na : a ≠ p := fun y => by
          subst y
          exact z2 (j1.fresh jar hp)
        refine hh.nw a g1 ?_
        rw [upd_ne na]
        intro y
        cases e0 : H a with
        | none => exact z2 e0
        | some o => rw [s1.h a o e0] at y; cases y
theorem ex_of_enx (h : EnX K q ρ te Ψ k) : EvX K q ρ te (fun d => ∃ l, Ψ l ∧ d = .lst l) k := fun n hn σ G H e em jar Q hq =>
  h n hn σ G H e em jar Q fun l p xs G' H' f s np hp hx hl => by
    have ne : p ≠ q := jar.ne hp
    refine hq (.lst l) _ (upd G' p (.lst xs)) H' ⟨l, f, rfl⟩ ⟨⟨fun a u z => ?_, s.hist.h, fun a z1 z2 => ?_, fun a m => ?_⟩, same_give s.le hx, ?_⟩ (mk_lst upd_same (IsL.mono (same_new np) _ _ hl))
    · have na : a ≠ p := ne_of_none (s.hist.g a u z) np
      rw [upd_ne na]; exact s.hist.g a u z
    · have na : a ≠ p := fun y => by subst y; exact z2 hp
      rw [upd_ne na]; exact s.hist.nw a z1 z2
    · have na : a ≠ p := fun y => ne (by rw [← y]; exact List.mem_singleton.mp m)
      rw [upd_ne na]; exact s.hist.own a m
    · obtain ⟨j1, a, m, c, j2, j3⟩ := s.jar
      exact ⟨by rw [upd_ne ne.symm]; exact j1, a, m, c, j2, j3⟩
end
end Pu
end
section
set_option Elab.async false
set_option linter.all false
set_option maxRecDepth 100000
set_option maxHeartbeats 4000000
/-! Pu14: defs that draw; the jar's own cells. -/
namespace Pu
open PySem PySem.Spec PyProof.Rows L2 StX RZ PySem.W
section
variable {K : PySem.W.Frag} {q : Addr} {ρ ρ1 ρ2 : Rho} {F F1 F2 : Hp → Hp → Prop} {R : V → Hp → Hp → Prop} {te ta tb : TE} {tl : TA} {t u : TS} {tt : TT} {d c : D} {ds l : List D} {Φ : D → Prop} {k : Nat}
theorem ef_cb {r : List V → Hp → VK → Prop} (h : EaF K F ρ tl ds) (hr : RcD K r ds c) : EvF K F ρ (tCB r tl) c := fun σ G H e n f Q q =>
  h σ G H e n f _ fun xs G1 H1 s1 i1 => hr G1 H1 xs s1.le i1 Q fun v G2 H2 s2 i2 => q v G2 H2 (s1.trans s2) i2
theorem eaf_1 (hs : Stay F) (h : EvF K F ρ te d) : EaF K F ρ (tCons te tNil) [d] := eaf_cons hs h eaf_nil
theorem ebf_test {b : Bool} (h : EvF K F ρ te (.bl b)) : EbF K F ρ (tTest te) b := fun σ G H e n f Q q => h σ G H e n f _ fun x G1 H1 s1 i1 => ⟨b, is_bl i1, q G1 H1 s1⟩
theorem ht_retF (hs : Stay F) (h : EvF K F ρ te d) (hr : ∀ G H, Same G H → F G H → ∀ v, Is K G d v → R v G H) : HT K ρ F (tRet te) ρ1 (fun _ _ => False) R := fun Dn σ G H e n f q r =>
  h σ G H e n f _ fun v G1 H1 s1 i1 => r v G1 H1 s1.g s1.le (hr G1 H1 s1.le (hs _ _ _ _ f s1) v i1)
theorem ht_false : HT K ρ (fun _ _ => False) t ρ1 F1 R := fun Dn σ G H e n f q r => f.elim
theorem ht_one (h : HT K ρ F t ρ1 (fun _ _ => False) R) : HT K ρ F (tSeq t u) ρ2 F2 R := ht_seq h ht_false
/-- the facts of an own list -/
abbrev FO (K : PySem.W.Frag) (q : Addr) (G0 H0 : Hp) (l : List D) : Hp → Hp → Prop := fun G H => Hist [q] G0 H0 G H ∧ OwnL K q l G H ∧ True
theorem FO.stay {G0 H0 : Hp} : Stay (FO K q G0 H0 l) := Stay.and Hist.stay (Stay.and OwnL.stay fun _ _ _ _ _ _ => trivial)
theorem fo_ix {G0 H0 : Hp} {i j : Nat} (hv : ρ[i]? = some (some (.adr q))) (hd : l[j]? = some d) : EvF K (FO K q G0 H0 l) ρ (tOp (rIx K) (tVar i) (tC (.int (j : Nat)))) d :=
  ef_ixO FO.stay (fun G H f => f.2.1) (ef_of (ed_var hv)) (ef_of ed_int) hd
theorem fo_set {G0 H0 : Hp} {i j : Nat} (hv : ρ[i]? = some (some (.adr q))) (hj : j < l.length) (he : EvF K (FO K q G0 H0 l) ρ te d) : HT K ρ (FO K q G0 H0 l) (tAsg te (gSub (tVar i) (tC (.int (j : Nat))) rSetL)) ρ (FO K q G0 H0 (l.set j d)) R :=
  ht_setO (fun _ _ _ _ _ _ => trivial) List.mem_cons_self he (ef_of (ed_var hv)) (ef_of ed_int) hj fun _ _ _ _ _ _ _ => trivial
/-- q[0], x = a pair -/
theorem fo_pair {G0 H0 : Hp} {i j : Nat} {x y : D} (hv : ρ[i]? = some (some (.adr q))) (hl : 0 < l.length) (he : EvF K (FO K q G0 H0 l) ρ te (.tup [x, y])) :
    HT K ρ (FO K q G0 H0 l) (tAsg te (gTup K 2 (gCons (gSub (tVar i) (tC (.int 0)) rSetL) (gCons (gName j) gNil)))) (ρ.set j (some y)) (FO K q G0 H0 (l.set 0 x)) R := fun Dn σ G H e n f q1 r => by
  refine he σ G H e n f _ fun v G1 H1 s1 i1 => ?_
  obtain ⟨h1, ⟨h2, zs, h3, h4⟩, _⟩ := FO.stay _ _ _ _ f s1
  obtain ⟨a, xs, rfl, h5, h6⟩ := is_tup i1
  obtain ⟨v, w, rfl, hx, hy⟩ := il2 h6
  obtain ⟨qv, y1, y2⟩ := n.val i _ hv
  rw [is_adr y2] at y1
  have kl := h4.length
  refine ⟨a, _, rfl, SqT.of (s1.le _ _ h5), rfl, v, [w], rfl, ⟨_, y1, q, zs, 0, 0, rfl, rfl, h3, ixN_at (k := 0) (by omega), ?_⟩⟩
  refine ⟨w, [], rfl, ?_⟩
  exact ⟨rfl, q1 _ G1 _ s1.g (same_own s1.le h2) ((n.mono s1.g).set hy) ⟨h1.set List.mem_cons_self, ⟨h2, _, upd_same, h4.set 0 hx⟩, trivial⟩⟩
def rDivmod : List V → Hp → VK → Prop := fun xs H Q => ∃ i j, xs = [.int i, .int j] ∧ CDiv i j ∧ ∀ p, H p = none → Q (.ref p) (upd H p (.tup [.int (i / j), .int (i % j)]))
theorem rc_divmod {i j : Int} (h : CDiv i j) : RcD K rDivmod [.int i, .int j] (.tup [.int (i / j), .int (i % j)]) := fun G H xs e hx Q q => by
  obtain ⟨v, w, rfl, h1, h2⟩ := il2 hx
  rw [is_int h1, is_int h2]
  exact ⟨i, j, rfl, h, fun p hp => q _ _ _ (Stp.new e hp) (mk_tup upd_same (isL_cons mk_int (isL_cons mk_int isL_nil)))⟩
/-- a def that changes the jar's own cells -/
theorem srx_ht (h : ∀ (n : Nat) (a m c : Int) (G0 H0 : Hp), m.natAbs < 2 ^ 64 → c.natAbs ≤ n → n + k ≤ JL → ∃ ρ', HT K ρ (FO K q G0 H0 [.int a, .int m, .int c]) t ρ' (fun _ _ => False) (fun v G H => ∃ d, Φ d ∧ Is K G d v ∧ JS q (n + k) G0 H0 G H)) : SrX K q ρ t Φ k := fun n hn Dn σ G H e en j hq => by
  obtain ⟨j1, a, m, c, j2, j3, j4⟩ := id j
  obtain ⟨ρ', z⟩ := h n a m c G H j3 j4 hn
  refine z Dn σ G H e en ⟨Hist.start e j.own, ⟨j1, _, j2, isL_cons mk_int (isL_cons mk_int (isL_cons mk_int isL_nil))⟩, trivial⟩ (fun _ _ _ _ _ _ f => f.elim) fun v G' H' g e' ⟨d, fd, id, s⟩ => hq d v G' H' fd s id
theorem fo_jar {G0 H0 G H : Hp} {n : Nat} {a m c : Int} (e : Same G H) (f : FO K q G0 H0 [.int a, .int m, .int c] G H) (hm : m.natAbs < 2 ^ 64) (hc : c.natAbs ≤ n) : JS q n G0 H0 G H := by
  obtain ⟨h1, ⟨h2, xs, h3, h4⟩, _⟩ := f
  have hh := isL_ints (ns := [a, m, c]) h4
  exact ⟨h1, e, h2, a, m, c, by rw [h3, hh]; rfl, hm, hc⟩
/-- a statement that returns a new list -/
def SrN (K : PySem.W.Frag) (ρ : Rho) (t : TS) (Ψ : List D → Prop) : Prop := ∀ (Dn : Ends) (σ : L2.St) (G H : Hp), Same G H → En K G ρ σ → (∀ l p xs G' H', Ψ l → Stp G H G' H' → G' p = none → H p = none → H' p = some (.lst xs) → IsL K G' l xs → Dn.rt (.ref p) H') → t Dn σ H
variable {Ψ : List D → Prop}
theorem srn_sd (h : StD K ρ t (.nx ρ1)) (h2 : SrN K ρ1 u Ψ) : SrN K ρ (tSeq t u) Ψ := fun Dn σ G H e n q =>
  h _ σ G H e n fun σ1 G1 H1 s1 n1 => h2 Dn σ1 G1 H1 s1.le n1 fun l p xs G' H' f s np hp hx hl => q l p xs G' H' f (s1.trans s) np (by
    cases z : H p with
    | none => rfl
    | some o => rw [s1.h p o z] at hp; cases hp) hx hl
theorem srn_ret (h : EvN K ρ te l) (hl : Ψ l) : SrN K ρ (tRet te) Ψ := fun Dn σ G H e n q => h σ G H e n _ fun p xs G' H' s np hp hx il => q l p xs G' H' hl s np hp hx il
theorem srn_one (h : SrN K ρ t Ψ) : SrN K ρ (tSeq t u) Ψ := fun Dn σ G H e n q => h _ σ G H e n q
end
/-- a def that hands back a new list -/
def spN (K : PySem.W.Frag) (R : List D → (List D → Prop) → Prop) : Sp := fun vs H Q _ => ∃ G ds Ψ, Same G H ∧ IsL K G ds vs ∧ R ds Ψ ∧ ∀ l p xs G' H', Ψ l → Stp G H G' H' → G' p = none → H p = none → H' p = some (.lst xs) → IsL K G' l xs → Q (.ref p) H'
def RN {α : Type} (args : α → List D) (ok : α → Prop) (Ψ : α → List D → Prop) (ds : List D) (F : List D → Prop) : Prop := ∃ x, ds = args x ∧ ok x ∧ F = Ψ x
theorem Ok.rfX {P : Program} {w : World} {K : PySem.W.Frag} {mg : Str → Option Value} {base : Heap} {k : Nat} {f : Addr} {ps N : List Str} {x qual : Str} {params : Arguments} {body : List Stmt} {scope : Scope} {α : Type} {args : α → List D} {ok : α → Prop} {Ψ : α → List D → Prop}
    (F : ∃ fd, FunD K x qual params body scope [] [] f fd) (S : FnScope N ps scope)
    (hb : ∀ (fd : FuncData), FunD K x qual params body scope [] [] f fd → Binds K fd ps []) (len : ∀ x, (args x).length = ps.length)
    (hbody : ∀ (cdv : Value) (A : Around) (outer : List Env) (s : Shared) (H : Hp) (E : XK), Room k (A.deeper (envOfC qual scope s.heap.objs.size f cdv)) → ∀ x, ok x →
      ∃ t, PSs (cxOf CX0 P w K mg base N qual scope f cdv A outer s H E).nox body t ∧ SrN K (start0 N (args x)) t (Ψ x)) : Ok P w K mg base (k + 1) f ps (spN K (RN args ok Ψ)) :=
  Ok.mk' F S hb (fun vs H Q E ⟨G, ds, _, _, i, ⟨x, e, _⟩, _⟩ => by rw [← i.length, e]; exact len x) fun cdv A outer s H vs Q E hr ⟨G, ds, _, e, il, ⟨x, e1, hx, e2⟩, q⟩ => by
    subst e1 e2
    obtain ⟨t, h1, h2⟩ := hbody cdv A outer s H E hr x hx
    exact ⟨t, h1, h2 _ _ G H e (en_start il) q⟩
theorem Ok.rfJ {P : Program} {w : World} {K : PySem.W.Frag} {mg : Str → Option Value} {base : Heap} {k kk : Nat} {f : Addr} {ps N : List Str} {x qual : Str} {params : Arguments} {body : List Stmt} {scope : Scope} {α : Type} {args : α → List D} {ok : α → Prop} {Φ : α → D → Prop}
    (F : ∃ fd, FunD K x qual params body scope [] [] f fd) (S : FnScope N ps scope)
    (hb : ∀ (fd : FuncData), FunD K x qual params body scope [] [] f fd → Binds K fd ps []) (len : ∀ x, (args x).length + 1 = ps.length)
    (hbody : ∀ (cdv : Value) (A : Around) (outer : List Env) (s : Shared) (H : Hp) (E : XK), Room k (A.deeper (envOfC qual scope s.heap.objs.size f cdv)) → ∀ x, ok x →
      ∃ t, PSs (cxOf CX0 P w K mg base N qual scope f cdv A outer s H E).nox body t ∧ ∀ q, SrX K q (start0 N (.adr q :: args x)) t (Φ x) kk) : Ok P w K mg base (k + 1) f ps (spJ K (RJ args ok Φ) kk) :=
  Ok.mk' F S hb (fun vs H Q E ⟨G, q, n, us, ds, _, ev, _, _, _, i, ⟨x, e, _⟩, _⟩ => by rw [ev, List.length_cons, ← i.length, e]; exact len x) fun cdv A outer s H vs Q E hr ⟨G, q, n, us, ds, _, ev, e, hn, j, il, ⟨x, e1, hx, e2⟩, qq⟩ => by
    subst ev e1 e2
    obtain ⟨t, h1, h2⟩ := hbody cdv A outer s H E hr x hx
    exact ⟨t, h1, h2 q n hn _ _ G H e (en_start (isL_cons mk_adr il)) j qq⟩
section
variable {K : PySem.W.Frag} {ρ : Rho} {tl : TA} {ds : List D} {Φ : D → Prop}
/-- a call with a new jar: nothing that stood there changes -/
theorem ed_jar {RA : List D → (List D → Prop) → Prop} {RB : List D → (D → Prop) → Prop} {E E2 : XK} {k : Nat} {d : D} (h : EvA K ρ tl ds) {Ψ : List D → Prop} (hA : RA ds Ψ) (hΨ : ∀ l, Ψ l → ∃ a m c : Int, l = [.int a, .int m, .int c] ∧ m.natAbs < 2 ^ 64 ∧ c = 0) (hB : RB [] Φ) (hd : ∀ x, Φ x → x = d) (hk : k ≤ JL) :
    EvD K ρ (tCall (spJ K RB k) [] E (tCons (tCall (spN K RA) [] E2 tl) tNil)) d := fun σ G H e n Q hq =>
  h σ G H e n _ fun vs G1 H1 s1 i1 => ⟨G1, ds, Ψ, s1.le, by rw [List.append_nil]; exact i1, hA, fun l p xs G2 H2 f2 s2 np hp hx il => by
    obtain ⟨a, m, c, rfl, hm, hc⟩ := hΨ l f2
    have hh := isL_ints (ns := [a, m, c]) il
    refine ⟨G2, p, 0, [], [], Φ, rfl, s2.le, by omega, ⟨np, a, m, c, by rw [hx, hh]; rfl, hm, by omega⟩, isL_nil, hB, fun x v G3 H3 fx s3 i3 => ?_⟩
    rw [hd x fx] at i3
    have hp0 : H p = none := by
      cases z : H p with
      | none => rfl
      | some o => rw [s1.h p o z] at hp; cases hp
    have s12 := s1.trans s2
    refine hq v G3 H3 ⟨s12.g.trans s3.hist.g, fun b u z => ?_, s3.le, fun b z1 z2 => ?_⟩ i3
    · have nb : b ≠ p := ne_of_none z hp0
      exact s3.hist.h b u (fun m => nb (List.mem_singleton.mp m)) (s12.h b u z)
    · refine s3.hist.nw b (s12.nw b z1 z2) fun y => ?_
      cases e0 : H b with
      | none => exact z2 e0
      | some o => rw [s12.h b o e0] at y; cases y⟩
end
end Pu
end
section
set_option Elab.async false
set_option linter.all false
set_option maxRecDepth 100000
set_option maxHeartbeats 0
namespace Top
open PySem PySem.Spec PyProof.Rows L2

def top (i : Nat) : Stmt := PySem.Challenge.pw_softchances_k20_whole_corners_beside_wor.main.body.getD i (.Pass ⟨0, 0, 0, 0⟩)
abbrev s_is_integer : Stmt := top 15
abbrev s_is_between : Stmt := top 16
abbrev s_common_divisor : Stmt := top 19
abbrev s_is_fraction : Stmt := top 20
abbrev s_lowest : Stmt := top 23
abbrev s_plus : Stmt := top 24
abbrev s_over : Stmt := top 25
abbrev s_is_less : Stmt := top 26
abbrev s_added : Stmt := top 27
abbrev s_is_less_row : Stmt := top 28
abbrev s_ordered : Stmt := top 29
abbrev s_written : Stmt := top 30
abbrev s_Answer___init__ : Stmt := inClass (top 40) 0
abbrev s_Table___init__ : Stmt := inClass (top 41) 0
abbrev s_Table_entering : Stmt := inClass (top 41) 1
abbrev s_Table_leaving : Stmt := inClass (top 41) 2
abbrev s_Table_is_ahead : Stmt := inClass (top 41) 3
abbrev s_Table_turn : Stmt := inClass (top 41) 4
abbrev s_Table_numbers_now : Stmt := inClass (top 41) 5
abbrev s_Table_multiples_now : Stmt := inClass (top 41) 7
abbrev s_greatest_sum : Stmt := top 42
abbrev s_is_payoff : Stmt := top 44
abbrev s_is_price : Stmt := top 45
abbrev s_is_quote : Stmt := top 46
abbrev s_check_quotes : Stmt := top 47
abbrev s_quote_text : Stmt := top 48
abbrev s_check_payoff : Stmt := top 50
abbrev s_check_price : Stmt := top 51
abbrev s_Book___init__ : Stmt := inClass (top 52) 0
abbrev s_Book_outcomes : Stmt := inClass (top 52) 2
abbrev s_Book_quotes : Stmt := inClass (top 52) 3
abbrev s_Book_with_quote : Stmt := inClass (top 52) 4
abbrev s_check_book : Stmt := top 55
abbrev s_is_share : Stmt := top 56
abbrev s_check_chance : Stmt := top 57
abbrev s_worth_at : Stmt := top 58
abbrev s_does_keep : Stmt := top 59
abbrev s_gain_rows : Stmt := top 60
abbrev s_least_answer : Stmt := top 61
abbrev s_chance_in : Stmt := top 62
abbrev s_plain_answer : Stmt := top 63
abbrev s_is_kept_by_some : Stmt := top 64
abbrev s_check_sound : Stmt := top 65
abbrev s_worth : Stmt := top 66
abbrev s_keeps : Stmt := top 67
abbrev s_Corner___init__ : Stmt := inClass (top 69) 0
abbrev s_common_of : Stmt := top 70
abbrev s_crossing : Stmt := top 71
abbrev s_are_joined : Stmt := top 72
abbrev s_cut_by : Stmt := top 73
abbrev s_corner_points : Stmt := top 74
abbrev s_chance_of : Stmt := top 75
abbrev s_corners_of : Stmt := top 76
abbrev s_check_listed : Stmt := top 77
abbrev s_corners : Stmt := top 78
abbrev s_is_corner : Stmt := top 79
abbrev s_mean_corner : Stmt := top 80
abbrev s_least_by : Stmt := top 82
abbrev s_greatest_by : Stmt := top 83
abbrev s_turned : Stmt := top 84
abbrev s_check_asked : Stmt := top 85
abbrev s_least_worth : Stmt := top 86
abbrev s_greatest_worth : Stmt := top 87
abbrev s_end_chance : Stmt := top 88
abbrev s__law_jar : Stmt := top 90
abbrev s__law_dip : Stmt := top 91
abbrev s__law_one_of : Stmt := top 92
abbrev s__law_common : Stmt := top 93
abbrev s__law_low : Stmt := top 94
abbrev s__law_plus : Stmt := top 95
abbrev s__law_times : Stmt := top 96
abbrev s__law_less : Stmt := top 97
abbrev s__law_least : Stmt := top 98
abbrev s__law_minus : Stmt := top 99
abbrev s__law_worth : Stmt := top 100
abbrev s__law_payoff : Stmt := top 101
abbrev s__law_chance : Stmt := top 102
abbrev s__law_quotes : Stmt := top 103
abbrev s__law_case : Stmt := top 104
abbrev s__law_may_pass : Stmt := top 105
abbrev s__law_payoff_right : Stmt := top 106
abbrev s__law_right : Stmt := top 107
abbrev s_law : Stmt := top 108
def d_is_integer : He.DefD := ⟨("is_integer", none), "is_integer", "is_integer", defArgs s_is_integer, defBody s_is_integer, defScope s_is_integer, [], []⟩
def d_is_between : He.DefD := ⟨("is_between", none), "is_between", "is_between", defArgs s_is_between, defBody s_is_between, defScope s_is_between, [], []⟩
def d_common_divisor : He.DefD := ⟨("common_divisor", none), "common_divisor", "common_divisor", defArgs s_common_divisor, defBody s_common_divisor, defScope s_common_divisor, [], []⟩
def d_is_fraction : He.DefD := ⟨("is_fraction", none), "is_fraction", "is_fraction", defArgs s_is_fraction, defBody s_is_fraction, defScope s_is_fraction, [], []⟩
def d_lowest : He.DefD := ⟨("lowest", none), "lowest", "lowest", defArgs s_lowest, defBody s_lowest, defScope s_lowest, [], []⟩
def d_plus : He.DefD := ⟨("plus", none), "plus", "plus", defArgs s_plus, defBody s_plus, defScope s_plus, [], []⟩
def d_over : He.DefD := ⟨("over", none), "over", "over", defArgs s_over, defBody s_over, defScope s_over, [], []⟩
def d_is_less : He.DefD := ⟨("is_less", none), "is_less", "is_less", defArgs s_is_less, defBody s_is_less, defScope s_is_less, [], []⟩
def d_added : He.DefD := ⟨("added", none), "added", "added", defArgs s_added, defBody s_added, defScope s_added, [], []⟩
def d_is_less_row : He.DefD := ⟨("is_less_row", none), "is_less_row", "is_less_row", defArgs s_is_less_row, defBody s_is_less_row, defScope s_is_less_row, [], []⟩
def d_ordered : He.DefD := ⟨("ordered", none), "ordered", "ordered", defArgs s_ordered, defBody s_ordered, defScope s_ordered, [], []⟩
def d_written : He.DefD := ⟨("written", none), "written", "written", defArgs s_written, defBody s_written, defScope s_written, [], []⟩
def d_Answer___init__ : He.DefD := ⟨("Answer", some "__init__"), "__init__", "Answer.__init__", defArgs s_Answer___init__, defBody s_Answer___init__, defScope s_Answer___init__, [], []⟩
def d_Table___init__ : He.DefD := ⟨("Table", some "__init__"), "__init__", "Table.__init__", defArgs s_Table___init__, defBody s_Table___init__, defScope s_Table___init__, [], []⟩
def d_Table_entering : He.DefD := ⟨("Table", some "entering"), "entering", "Table.entering", defArgs s_Table_entering, defBody s_Table_entering, defScope s_Table_entering, [], []⟩
def d_Table_leaving : He.DefD := ⟨("Table", some "leaving"), "leaving", "Table.leaving", defArgs s_Table_leaving, defBody s_Table_leaving, defScope s_Table_leaving, [], []⟩
def d_Table_is_ahead : He.DefD := ⟨("Table", some "is_ahead"), "is_ahead", "Table.is_ahead", defArgs s_Table_is_ahead, defBody s_Table_is_ahead, defScope s_Table_is_ahead, [], []⟩
def d_Table_turn : He.DefD := ⟨("Table", some "turn"), "turn", "Table.turn", defArgs s_Table_turn, defBody s_Table_turn, defScope s_Table_turn, [], []⟩
def d_Table_numbers_now : He.DefD := ⟨("Table", some "numbers_now"), "numbers_now", "Table.numbers_now", defArgs s_Table_numbers_now, defBody s_Table_numbers_now, defScope s_Table_numbers_now, [], []⟩
def d_Table_multiples_now : He.DefD := ⟨("Table", some "multiples_now"), "multiples_now", "Table.multiples_now", defArgs s_Table_multiples_now, defBody s_Table_multiples_now, defScope s_Table_multiples_now, [], []⟩
def d_greatest_sum : He.DefD := ⟨("greatest_sum", none), "greatest_sum", "greatest_sum", defArgs s_greatest_sum, defBody s_greatest_sum, defScope s_greatest_sum, [], []⟩
def d_is_payoff : He.DefD := ⟨("is_payoff", none), "is_payoff", "is_payoff", defArgs s_is_payoff, defBody s_is_payoff, defScope s_is_payoff, [], []⟩
def d_is_price : He.DefD := ⟨("is_price", none), "is_price", "is_price", defArgs s_is_price, defBody s_is_price, defScope s_is_price, [], []⟩
def d_is_quote : He.DefD := ⟨("is_quote", none), "is_quote", "is_quote", defArgs s_is_quote, defBody s_is_quote, defScope s_is_quote, [], []⟩
def d_check_quotes : He.DefD := ⟨("check_quotes", none), "check_quotes", "check_quotes", defArgs s_check_quotes, defBody s_check_quotes, defScope s_check_quotes, [], []⟩
def d_quote_text : He.DefD := ⟨("quote_text", none), "quote_text", "quote_text", defArgs s_quote_text, defBody s_quote_text, defScope s_quote_text, [], []⟩
def d_check_payoff : He.DefD := ⟨("check_payoff", none), "check_payoff", "check_payoff", defArgs s_check_payoff, defBody s_check_payoff, defScope s_check_payoff, [], []⟩
def d_check_price : He.DefD := ⟨("check_price", none), "check_price", "check_price", defArgs s_check_price, defBody s_check_price, defScope s_check_price, [], []⟩
def d_Book___init__ : He.DefD := ⟨("Book", some "__init__"), "__init__", "Book.__init__", defArgs s_Book___init__, defBody s_Book___init__, defScope s_Book___init__, [], []⟩
def d_Book_with_quote : He.DefD := ⟨("Book", some "with_quote"), "with_quote", "Book.with_quote", defArgs s_Book_with_quote, defBody s_Book_with_quote, defScope s_Book_with_quote, [], []⟩
def d_check_book : He.DefD := ⟨("check_book", none), "check_book", "check_book", defArgs s_check_book, defBody s_check_book, defScope s_check_book, [], []⟩
def d_is_share : He.DefD := ⟨("is_share", none), "is_share", "is_share", defArgs s_is_share, defBody s_is_share, defScope s_is_share, [], []⟩
def d_check_chance : He.DefD := ⟨("check_chance", none), "check_chance", "check_chance", defArgs s_check_chance, defBody s_check_chance, defScope s_check_chance, [], []⟩
def d_worth_at : He.DefD := ⟨("worth_at", none), "worth_at", "worth_at", defArgs s_worth_at, defBody s_worth_at, defScope s_worth_at, [], []⟩
def d_does_keep : He.DefD := ⟨("does_keep", none), "does_keep", "does_keep", defArgs s_does_keep, defBody s_does_keep, defScope s_does_keep, [], []⟩
def d_gain_rows : He.DefD := ⟨("gain_rows", none), "gain_rows", "gain_rows", defArgs s_gain_rows, defBody s_gain_rows, defScope s_gain_rows, [], []⟩
def d_least_answer : He.DefD := ⟨("least_answer", none), "least_answer", "least_answer", defArgs s_least_answer, defBody s_least_answer, defScope s_least_answer, [], []⟩
def d_chance_in : He.DefD := ⟨("chance_in", none), "chance_in", "chance_in", defArgs s_chance_in, defBody s_chance_in, defScope s_chance_in, [], []⟩
def d_plain_answer : He.DefD := ⟨("plain_answer", none), "plain_answer", "plain_answer", defArgs s_plain_answer, defBody s_plain_answer, defScope s_plain_answer, [], []⟩
def d_is_kept_by_some : He.DefD := ⟨("is_kept_by_some", none), "is_kept_by_some", "is_kept_by_some", defArgs s_is_kept_by_some, defBody s_is_kept_by_some, defScope s_is_kept_by_some, [], []⟩
def d_check_sound : He.DefD := ⟨("check_sound", none), "check_sound", "check_sound", defArgs s_check_sound, defBody s_check_sound, defScope s_check_sound, [], []⟩
def d_worth : He.DefD := ⟨("worth", none), "worth", "worth", defArgs s_worth, defBody s_worth, defScope s_worth, [], []⟩
def d_keeps : He.DefD := ⟨("keeps", none), "keeps", "keeps", defArgs s_keeps, defBody s_keeps, defScope s_keeps, [], []⟩
def d_Corner___init__ : He.DefD := ⟨("Corner", some "__init__"), "__init__", "Corner.__init__", defArgs s_Corner___init__, defBody s_Corner___init__, defScope s_Corner___init__, [], []⟩
def d_common_of : He.DefD := ⟨("common_of", none), "common_of", "common_of", defArgs s_common_of, defBody s_common_of, defScope s_common_of, [], []⟩
def d_crossing : He.DefD := ⟨("crossing", none), "crossing", "crossing", defArgs s_crossing, defBody s_crossing, defScope s_crossing, [], []⟩
def d_are_joined : He.DefD := ⟨("are_joined", none), "are_joined", "are_joined", defArgs s_are_joined, defBody s_are_joined, defScope s_are_joined, [], []⟩
def d_cut_by : He.DefD := ⟨("cut_by", none), "cut_by", "cut_by", defArgs s_cut_by, defBody s_cut_by, defScope s_cut_by, [], []⟩
def d_corner_points : He.DefD := ⟨("corner_points", none), "corner_points", "corner_points", defArgs s_corner_points, defBody s_corner_points, defScope s_corner_points, [], []⟩
def d_chance_of : He.DefD := ⟨("chance_of", none), "chance_of", "chance_of", defArgs s_chance_of, defBody s_chance_of, defScope s_chance_of, [], []⟩
def d_corners_of : He.DefD := ⟨("corners_of", none), "corners_of", "corners_of", defArgs s_corners_of, defBody s_corners_of, defScope s_corners_of, [], []⟩
def d_check_listed : He.DefD := ⟨("check_listed", none), "check_listed", "check_listed", defArgs s_check_listed, defBody s_check_listed, defScope s_check_listed, [], []⟩
def d_corners : He.DefD := ⟨("corners", none), "corners", "corners", defArgs s_corners, defBody s_corners, defScope s_corners, [], []⟩
def d_is_corner : He.DefD := ⟨("is_corner", none), "is_corner", "is_corner", defArgs s_is_corner, defBody s_is_corner, defScope s_is_corner, [], []⟩
def d_mean_corner : He.DefD := ⟨("mean_corner", none), "mean_corner", "mean_corner", defArgs s_mean_corner, defBody s_mean_corner, defScope s_mean_corner, [], []⟩
def d_least_by : He.DefD := ⟨("least_by", none), "least_by", "least_by", defArgs s_least_by, defBody s_least_by, defScope s_least_by, [], []⟩
def d_greatest_by : He.DefD := ⟨("greatest_by", none), "greatest_by", "greatest_by", defArgs s_greatest_by, defBody s_greatest_by, defScope s_greatest_by, [], []⟩
def d_turned : He.DefD := ⟨("turned", none), "turned", "turned", defArgs s_turned, defBody s_turned, defScope s_turned, [], []⟩
def d_check_asked : He.DefD := ⟨("check_asked", none), "check_asked", "check_asked", defArgs s_check_asked, defBody s_check_asked, defScope s_check_asked, [], []⟩
def d_least_worth : He.DefD := ⟨("least_worth", none), "least_worth", "least_worth", defArgs s_least_worth, defBody s_least_worth, defScope s_least_worth, [], []⟩
def d_greatest_worth : He.DefD := ⟨("greatest_worth", none), "greatest_worth", "greatest_worth", defArgs s_greatest_worth, defBody s_greatest_worth, defScope s_greatest_worth, [], []⟩
def d_end_chance : He.DefD := ⟨("end_chance", none), "end_chance", "end_chance", defArgs s_end_chance, defBody s_end_chance, defScope s_end_chance, [], []⟩
def d__law_jar : He.DefD := ⟨("_law_jar", none), "_law_jar", "_law_jar", defArgs s__law_jar, defBody s__law_jar, defScope s__law_jar, [], []⟩
def d__law_dip : He.DefD := ⟨("_law_dip", none), "_law_dip", "_law_dip", defArgs s__law_dip, defBody s__law_dip, defScope s__law_dip, [], []⟩
def d__law_one_of : He.DefD := ⟨("_law_one_of", none), "_law_one_of", "_law_one_of", defArgs s__law_one_of, defBody s__law_one_of, defScope s__law_one_of, [], []⟩
def d__law_common : He.DefD := ⟨("_law_common", none), "_law_common", "_law_common", defArgs s__law_common, defBody s__law_common, defScope s__law_common, [], []⟩
def d__law_low : He.DefD := ⟨("_law_low", none), "_law_low", "_law_low", defArgs s__law_low, defBody s__law_low, defScope s__law_low, [], []⟩
def d__law_plus : He.DefD := ⟨("_law_plus", none), "_law_plus", "_law_plus", defArgs s__law_plus, defBody s__law_plus, defScope s__law_plus, [], []⟩
def d__law_times : He.DefD := ⟨("_law_times", none), "_law_times", "_law_times", defArgs s__law_times, defBody s__law_times, defScope s__law_times, [], []⟩
def d__law_less : He.DefD := ⟨("_law_less", none), "_law_less", "_law_less", defArgs s__law_less, defBody s__law_less, defScope s__law_less, [], []⟩
def d__law_least : He.DefD := ⟨("_law_least", none), "_law_least", "_law_least", defArgs s__law_least, defBody s__law_least, defScope s__law_least, [], []⟩
def d__law_minus : He.DefD := ⟨("_law_minus", none), "_law_minus", "_law_minus", defArgs s__law_minus, defBody s__law_minus, defScope s__law_minus, [], []⟩
def d__law_worth : He.DefD := ⟨("_law_worth", none), "_law_worth", "_law_worth", defArgs s__law_worth, defBody s__law_worth, defScope s__law_worth, [], []⟩
def d__law_payoff : He.DefD := ⟨("_law_payoff", none), "_law_payoff", "_law_payoff", defArgs s__law_payoff, defBody s__law_payoff, defScope s__law_payoff, [], []⟩
def d__law_chance : He.DefD := ⟨("_law_chance", none), "_law_chance", "_law_chance", defArgs s__law_chance, defBody s__law_chance, defScope s__law_chance, [], []⟩
def d__law_quotes : He.DefD := ⟨("_law_quotes", none), "_law_quotes", "_law_quotes", defArgs s__law_quotes, defBody s__law_quotes, defScope s__law_quotes, [], []⟩
def d__law_case : He.DefD := ⟨("_law_case", none), "_law_case", "_law_case", defArgs s__law_case, defBody s__law_case, defScope s__law_case, [], []⟩
def d__law_may_pass : He.DefD := ⟨("_law_may_pass", none), "_law_may_pass", "_law_may_pass", defArgs s__law_may_pass, defBody s__law_may_pass, defScope s__law_may_pass, [], []⟩
def d__law_payoff_right : He.DefD := ⟨("_law_payoff_right", none), "_law_payoff_right", "_law_payoff_right", defArgs s__law_payoff_right, defBody s__law_payoff_right, defScope s__law_payoff_right, [], []⟩
def d__law_right : He.DefD := ⟨("_law_right", none), "_law_right", "_law_right", defArgs s__law_right, defBody s__law_right, defScope s__law_right, [], []⟩
def d_law : He.DefD := ⟨("law", none), "law", "law", defArgs s_law, defBody s_law, defScope s_law, [], []⟩
def fn : List He.DefD := [d_is_integer, d_is_between, d_common_divisor, d_is_fraction, d_lowest, d_plus, d_over, d_is_less, d_added, d_is_less_row, d_ordered, d_written, d_Answer___init__, d_Table___init__, d_Table_entering, d_Table_leaving, d_Table_is_ahead, d_Table_turn, d_Table_numbers_now, d_Table_multiples_now, d_greatest_sum, d_is_payoff, d_is_price, d_is_quote, d_check_quotes, d_quote_text, d_check_payoff, d_check_price, d_Book___init__, d_Book_with_quote, d_check_book, d_is_share, d_check_chance, d_worth_at, d_does_keep, d_gain_rows, d_least_answer, d_chance_in, d_plain_answer, d_is_kept_by_some, d_check_sound, d_worth, d_keeps, d_Corner___init__, d_common_of, d_crossing, d_are_joined, d_cut_by, d_corner_points, d_chance_of, d_corners_of, d_check_listed, d_corners, d_is_corner, d_mean_corner, d_least_by, d_greatest_by, d_turned, d_check_asked, d_least_worth, d_greatest_worth, d_end_chance, d__law_jar, d__law_dip, d__law_one_of, d__law_common, d__law_low, d__law_plus, d__law_times, d__law_less, d__law_least, d__law_minus, d__law_worth, d__law_payoff, d__law_chance, d__law_quotes, d__law_case, d__law_may_pass, d__law_payoff_right, d__law_right, d_law]
def fa : List He.Fa := [.glo "is_integer", .glo "is_between", .glo "common_divisor", .glo "is_fraction", .glo "lowest", .glo "plus", .glo "over", .glo "is_less", .glo "added", .glo "is_less_row", .glo "ordered", .glo "written", .glo "greatest_sum", .glo "is_payoff", .glo "is_price", .glo "is_quote", .glo "check_quotes", .glo "quote_text", .glo "check_payoff", .glo "check_price", .glo "check_book", .glo "is_share", .glo "check_chance", .glo "worth_at", .glo "does_keep", .glo "gain_rows", .glo "least_answer", .glo "chance_in", .glo "plain_answer", .glo "is_kept_by_some", .glo "check_sound", .glo "worth", .glo "keeps", .glo "common_of", .glo "crossing", .glo "are_joined", .glo "cut_by", .glo "corner_points", .glo "chance_of", .glo "corners_of", .glo "check_listed", .glo "corners", .glo "is_corner", .glo "mean_corner", .glo "least_by", .glo "greatest_by", .glo "turned", .glo "check_asked", .glo "least_worth", .glo "greatest_worth", .glo "end_chance", .glo "_law_jar", .glo "_law_dip", .glo "_law_one_of", .glo "_law_common", .glo "_law_low", .glo "_law_plus", .glo "_law_times", .glo "_law_less", .glo "_law_least", .glo "_law_minus", .glo "_law_worth", .glo "_law_payoff", .glo "_law_chance", .glo "_law_quotes", .glo "_law_case", .glo "_law_may_pass", .glo "_law_payoff_right", .glo "_law_right", .glo "law", .glo "Answer", .cls "Answer", .mkr "Answer", .glo "Table", .cls "Table", .mkr "Table", .glo "Book", .cls "Book", .mkr "Book", .glo "Corner", .cls "Corner", .mkr "Corner", .noat "Answer" "value", .noat "Answer" "numbers", .noat "Answer" "multiples", .noat "Table" "many", .noat "Table" "size", .noat "Table" "unit", .noat "Table" "basis", .noat "Table" "lines", .noat "Book" "held", .noat "Book" "words", .noat "Corner" "point", .noat "Corner" "bounds", .meth "Table" "entering", .meth "Table" "leaving", .meth "Table" "is_ahead", .meth "Table" "turn", .meth "Table" "numbers_now", .meth "Table" "multiples_now", .meth "Book" "with_quote", .int "MOST_OUTCOMES" 6, .int "MOST_LISTED" 5, .int "MOST_NUMBER" 1000, .int "MOST_QUOTES" 32, .int "MOST_TOP" 1000000000, .int "MOST_BOTTOM" 1000000, .int "MOST_PRICE_TOP" 1000000, .int "MOST_PRICE_BOTTOM" 1000, .free "len", .free "range", .free "enumerate", .free "zip", .free "abs", .free "min", .free "max", .free "sum", .free "all", .free "any", .free "int", .free "tuple", .free "list", .free "str", .free "isinstance", .free "divmod", .free "bool"]
def loose0 : List PySem.Str := ["WrongValue", "InvalidText", "InvalidNumber", "InvalidPayoff", "InvalidFraction", "InvalidIndex", "NotABook", "InvalidChance", "InvalidQuotes", "NoAnswer", "NotSound", "TooGreat", "DIGITS", "is_integer", "is_between", "number_in", "integer_in", "common_divisor", "is_fraction", "fraction_in", "lowest", "plus", "over", "is_less", "added", "is_less_row", "ordered", "written", "MOST_OUTCOMES", "MOST_LISTED"]
def loose1 : List PySem.Str := ["MOST_NUMBER", "MOST_QUOTES", "MOST_TOP", "MOST_BOTTOM", "MOST_PRICE_TOP", "MOST_PRICE_BOTTOM", "Answer", "Table", "greatest_sum", "is_payoff", "is_price", "is_quote", "check_quotes", "quote_text", "quote_in", "check_payoff", "check_price", "Book", "less_one", "check_index", "check_book", "is_share", "check_chance", "worth_at", "does_keep", "gain_rows", "least_answer", "chance_in", "plain_answer", "is_kept_by_some"]
def loose2 : List PySem.Str := ["check_sound", "worth", "keeps", "Corner", "common_of", "crossing", "are_joined", "cut_by", "corner_points", "chance_of", "corners_of", "check_listed", "corners", "is_corner", "mean_corner", "least_by", "greatest_by", "turned", "check_asked", "least_worth", "greatest_worth", "end_chance", "_law_jar", "_law_dip", "_law_one_of", "_law_common", "_law_low", "_law_plus", "_law_times", "_law_less"]
def loose3 : List PySem.Str := ["_law_least", "_law_minus", "_law_worth", "_law_payoff", "_law_chance", "_law_quotes", "_law_case", "_law_may_pass", "_law_payoff_right", "_law_right"]
def loose : List PySem.Str := loose0 ++ loose1 ++ loose2 ++ loose3

/-! ### the part of the heap that the facts read: frontiers from the module's names -/
def nxt (g : Addr → Option Obj) (as : List Addr) : List Addr := as.flatMap fun a => match g a with
  | some o => He.refsD o
  | none => []
def isD (g : Addr → Option Obj) (a : Addr) : Bool := match g a with
  | some ⟨_, _, .dict _ _, _⟩ => true
  | _ => false
def isF (g : Addr → Option Obj) (a : Addr) : Bool := match g a with
  | some ⟨_, _, .func _, _⟩ => true
  | _ => false
def asX (g : Addr → Option Obj) : List Addr :=
  let l1 := nxt g [mainGlobals]
  let l2 := nxt g l1
  let l3 := nxt g (l2.filter (isD g))
  let l4 := nxt g l3
  let l5 := nxt g (l4.filter (isF g))
  mainGlobals :: (l1 ++ l2 ++ l3 ++ l4 ++ l5)
/-! ### a property's facts -/
/-- the getter of the property m of the class x -/
def gA (K : PySem.W.Frag) (x m : Str) : Addr := match PySem.W.recIn K (He.ma K (He.ga K x) m) "property" with
  | some (.ref g :: _) => g
  | _ => 0
def isiOk (K : PySem.W.Frag) : Bool :=
  He.eqO (PySem.W.findIn K (.ref (He.ga K "Book")) "__class__") (some (some (.builtin "object.__class__"))) &&
  (He.eqO (PySem.W.specialIn K (.builtin "object.__class__") "__get__") (some (some (.builtin "getset_descriptor.__get__"))) &&
  (decide (PySem.W.takesIn K (.builtin "object.__class__") = some true) && decide (PySem.W.mroIn K (He.ga K "Book") (.type "object") = some true)))
def propOk (K : PySem.W.Frag) (x m : Str) : Bool :=
  He.eqO (PySem.W.findIn K (.ref (He.ga K x)) m) (some (some (.ref (He.ma K (He.ga K x) m)))) &&
  (He.eqO (PySem.W.specialIn K (.ref (He.ma K (He.ga K x) m)) "__get__") (some (some (.builtin "property.__get__"))) &&
  (decide (PySem.W.takesIn K (.ref (He.ma K (He.ga K x) m)) = some true) &&
  (match PySem.W.recIn K (He.ma K (He.ga K x) m) "property" with
    | some (.ref _ :: _) => true
    | _ => false)))
theorem prop_ok {K : PySem.W.Frag} {x m : Str} (c : propOk K x m = true) : PropOf K (He.ga K x) m (He.ma K (He.ga K x) m) (gA K x m) := by
  obtain ⟨c1, c2⟩ := He.ba c
  obtain ⟨c2, c3⟩ := He.ba c2
  obtain ⟨c3, c4⟩ := He.ba c3
  refine ⟨He.eqO_ok c1, He.eqO_ok c2, of_decide_eq_true c3, ?_⟩
  unfold gA
  split at c4
  · rename_i g r e
    exact ⟨r, by rw [e]⟩
  · cases c4
/-- a def by its address -/
structure DefA where
  name : Str
  qual : Str
  params : Arguments
  body : List Stmt
  scope : Scope
def fnWA (K : PySem.W.Frag) (a : Addr) : He.FnW := match K.lookup a with
  | some ⟨_, _, .func fd, _⟩ => some (fd.name, fd.qualname, fd.params, fd.body, fd.scope, fd.globals, fd.closure, fd.builtins)
  | _ => none
def DefA.val (d : DefA) : He.FnW := some (d.name, d.qual, d.params, .stmts d.body, d.scope, mainGlobals, [], builtinsNs)
def DefA.ok (K : PySem.W.Frag) (a : Addr) (d : DefA) : Bool := PySem.W.keepIn K (.ref a) && (match K.lookup a with
  | some ⟨_, _, .func fd, _⟩ => PySem.W.codeIn K fd.code d.qual && (He.dflB K fd.defaults [] && He.kwdB K fd.kwdefaults [])
  | _ => false)
theorem DefA.funD {K : PySem.W.Frag} {a : Addr} {d : DefA} (e : fnWA K a = d.val) (c : d.ok K a = true) : ∃ fd, FunD K d.name d.qual d.params d.body d.scope [] [] a fd := by
  obtain ⟨kp, c2⟩ := He.ba c
  unfold fnWA at e
  cases q : K.lookup a with
  | none =>
    rw [q] at c2
    cases c2
  | some o =>
    obtain ⟨oc, od, dt, osl⟩ := o
    rw [q] at c2 e
    cases dt with
    | func fd =>
      obtain ⟨n1, n2, n3, n4, n5, n6, n7, n8, n9, n10, n11, n12, n13, n14, n15⟩ := fd
      have e2 : (some (n1, n2, n3, n4, n5, n6, n7, n15) : He.FnW) = some (d.name, d.qual, d.params, .stmts d.body, d.scope, mainGlobals, [], builtinsNs) := e
      simp only [Option.some.injEq, Prod.mk.injEq] at e2
      obtain ⟨h1, h2, h3, h4, h5, h6, h7, h8⟩ := e2
      subst h1 h2 h3 h4 h5 h6 h7 h8
      have c3 : (PySem.W.codeIn K n13 d.qual && (He.dflB K n8 [] && He.kwdB K n9 [])) = true := c2
      obtain ⟨k1, k2⟩ := He.ba c3
      obtain ⟨k3, k4⟩ := He.ba k2
      exact ⟨_, ⟨oc, od, n8, n9, n10, n11, n12, n13, n14, osl, rfl, q, k1, He.dflB_ok k3, He.kwdB_ok k4⟩, kp⟩
    | _ => cases c2
def g_outcomes : DefA := ⟨"outcomes", "Book.outcomes", defArgs s_Book_outcomes, defBody s_Book_outcomes, defScope s_Book_outcomes⟩
def g_quotes : DefA := ⟨"quotes", "Book.quotes", defArgs s_Book_quotes, defBody s_Book_quotes, defScope s_Book_quotes⟩
/-! ### the Hook -/
abbrev AlX : Type := Bool × List He.FnW
def obsX (K : PySem.W.Frag) : AlX :=
  ((fa.all fun f => f.ok K) && ((fn.all fun d => d.ok K) && (propOk K "Book" "outcomes" && (propOk K "Book" "quotes" && (g_outcomes.ok K (gA K "Book" "outcomes") && (g_quotes.ok K (gA K "Book" "quotes") && isiOk K))))),
    fnWA K (gA K "Book" "outcomes") :: fnWA K (gA K "Book" "quotes") :: fn.map fun d => He.fnW K d.at_)
def valX : AlX := (true, g_outcomes.val :: g_quotes.val :: fn.map He.DefD.val)
def obsG (g : Addr → Option Obj) : AlX := obsX (He.frG g (asX g))
def hk : PySem.W.Hook where
  α := AlX
  obs := fun s => obsG s.heap.get?
  val := fun _ => valX
  says := fun _ h => ∃ K : PySem.W.Frag, K.In h ∧ obsX K = valX
  of := fun _ _ e => ⟨_, He.frG_in, e⟩
  keeps := fun _ _ _ ⟨K, hK, c⟩ k => ⟨K, PySem.W.Frag.In.keeps hK k, c⟩
theorem obsG_eq {g : Addr → Option Obj} {s : Shared} (h : ∀ a, g a = s.heap.get? a) : obsG g = hk.obs s := by
  have e : g = s.heap.get? := funext h
  rw [e] <;> rfl
abbrev R : PySem.W.OpenRow := PySem.W.OpenLaw.row PySem.Challenge.rw_softchances_k20_whole_corners_beside_wor
def ob (s : PySem.W.SharedT) : AlX := obsG (HandSHeadRun.getT s)
theorem ob_eq (s : PySem.W.SharedT) : ob s = hk.obs s.abs := obsG_eq (HandSHeadRun.getT_eq s)
theorem run (w : World) : HandSHeadRun.RunEq R (PySem.W.view R.prog [108]) hk ob 9000 loose w := by
  intro os
  kernel_rfl
/-! ### the facts by names -/
structure Facts (K : PySem.W.Frag) (mg : Str → Option Value) : Prop where
  c : obsX K = valX
  glo : ∀ (i : Nat) (x : Str), fa[i]? = some (He.Fa.glo x) → mg x = some (.ref (He.ga K x))
  free : ∀ (i : Nat) (x : Str), fa[i]? = some (He.Fa.free x) → mg x = none
  int : ∀ (i : Nat) (x : Str) (n : Int), fa[i]? = some (He.Fa.int x n) → ∃ t, mg x = some (.int n t)
section
variable {K : PySem.W.Frag} {mg : Str → Option Value}
theorem obs1 (c : obsX K = valX) : (fa.all fun f => f.ok K) = true ∧ (fn.all fun d => d.ok K) = true ∧ propOk K "Book" "outcomes" = true ∧ propOk K "Book" "quotes" = true ∧ g_outcomes.ok K (gA K "Book" "outcomes") = true ∧ (g_quotes.ok K (gA K "Book" "quotes") && isiOk K) = true := by
  have h : ((fa.all fun f => f.ok K) && ((fn.all fun d => d.ok K) && (propOk K "Book" "outcomes" && (propOk K "Book" "quotes" && (g_outcomes.ok K (gA K "Book" "outcomes") && (g_quotes.ok K (gA K "Book" "quotes") && isiOk K)))))) = true := congrArg (fun z : AlX => z.1) c
  obtain ⟨h1, h⟩ := He.ba h
  obtain ⟨h2, h⟩ := He.ba h
  obtain ⟨h3, h⟩ := He.ba h
  obtain ⟨h4, h⟩ := He.ba h
  obtain ⟨h5, h⟩ := He.ba h
  exact ⟨h1, h2, h3, h4, h5, h⟩
theorem fact (c : obsX K = valX) (i : Nat) {f : He.Fa} (h : fa[i]? = some f) : f.ok K = true := List.all_eq_true.mp (obs1 c).1 f (List.mem_of_getElem? h)
theorem facts_of {h : Heap} (X : K.In h) (G : h.Ns mainGlobals mg) (c : obsX K = valX) : Facts K mg :=
  ⟨c, fun i x e => He.glo_ok X G (fact c i e), fun i x e => He.free_ok X G (fact c i e), fun i x n e => He.int_ok X G (fact c i e)⟩
theorem Facts.def_ (T : Facts K mg) (i : Nat) {d : He.DefD} (h : fn[i]? = some d) : ∃ fd, FunD K d.name d.qual d.params d.body d.scope (d.dvs K) (d.kws K) (He.fAd K d.at_) fd := by
  have e : (fnWA K (gA K "Book" "outcomes") :: fnWA K (gA K "Book" "quotes") :: fn.map fun d => He.fnW K d.at_) = g_outcomes.val :: g_quotes.val :: fn.map He.DefD.val := congrArg (fun z : AlX => z.2) T.c
  have e := (List.cons.inj (List.cons.inj e).2).2
  have e2 : (fn.map fun d => He.fnW K d.at_)[i]? = (fn.map He.DefD.val)[i]? := by rw [e]
  rw [List.getElem?_map, List.getElem?_map, h] at e2
  exact He.DefD.funD (Option.some.inj e2) (List.all_eq_true.mp (obs1 T.c).2.1 d (List.mem_of_getElem? h))
theorem Facts.p_outcomes (T : Facts K mg) : PropOf K (He.ga K "Book") "outcomes" (He.ma K (He.ga K "Book") "outcomes") (gA K "Book" "outcomes") := prop_ok (obs1 T.c).2.2.1
theorem Facts.p_quotes (T : Facts K mg) : PropOf K (He.ga K "Book") "quotes" (He.ma K (He.ga K "Book") "quotes") (gA K "Book" "quotes") := prop_ok (obs1 T.c).2.2.2.1
theorem Facts.F_Book_outcomes (T : Facts K mg) : ∃ fd, FunD K "outcomes" "Book.outcomes" (defArgs s_Book_outcomes) (defBody s_Book_outcomes) (defScope s_Book_outcomes) [] [] (gA K "Book" "outcomes") fd := by
  have e : (fnWA K (gA K "Book" "outcomes") :: fnWA K (gA K "Book" "quotes") :: fn.map fun d => He.fnW K d.at_) = g_outcomes.val :: g_quotes.val :: fn.map He.DefD.val := congrArg (fun z : AlX => z.2) T.c
  exact DefA.funD (d := g_outcomes) (List.cons.inj e).1 (obs1 T.c).2.2.2.2.1
theorem Facts.F_Book_quotes (T : Facts K mg) : ∃ fd, FunD K "quotes" "Book.quotes" (defArgs s_Book_quotes) (defBody s_Book_quotes) (defScope s_Book_quotes) [] [] (gA K "Book" "quotes") fd := by
  have e : (fnWA K (gA K "Book" "outcomes") :: fnWA K (gA K "Book" "quotes") :: fn.map fun d => He.fnW K d.at_) = g_outcomes.val :: g_quotes.val :: fn.map He.DefD.val := congrArg (fun z : AlX => z.2) T.c
  exact DefA.funD (d := g_quotes) (List.cons.inj (List.cons.inj e).2).1 (He.ba (obs1 T.c).2.2.2.2.2).1
theorem Facts.isi (T : Facts K mg) : PySem.W.findIn K (.ref (He.ga K "Book")) "__class__" = some (some (.builtin "object.__class__")) ∧ PySem.W.specialIn K (.builtin "object.__class__") "__get__" = some (some (.builtin "getset_descriptor.__get__")) ∧ PySem.W.takesIn K (.builtin "object.__class__") = some true ∧ PySem.W.mroIn K (He.ga K "Book") (.type "object") = some true := by
  have h := (He.ba (obs1 T.c).2.2.2.2.2).2
  unfold isiOk at h
  obtain ⟨h1, h⟩ := He.ba h
  obtain ⟨h2, h⟩ := He.ba h
  obtain ⟨h3, h4⟩ := He.ba h
  exact ⟨He.eqO_ok h1, He.eqO_ok h2, of_decide_eq_true h3, of_decide_eq_true h4⟩
theorem Facts.m_is_integer (T : Facts K mg) : mg "is_integer" = some (.ref (He.ga K "is_integer")) := T.glo 0 _ rfl
theorem Facts.m_is_between (T : Facts K mg) : mg "is_between" = some (.ref (He.ga K "is_between")) := T.glo 1 _ rfl
theorem Facts.m_common_divisor (T : Facts K mg) : mg "common_divisor" = some (.ref (He.ga K "common_divisor")) := T.glo 2 _ rfl
theorem Facts.m_is_fraction (T : Facts K mg) : mg "is_fraction" = some (.ref (He.ga K "is_fraction")) := T.glo 3 _ rfl
theorem Facts.m_lowest (T : Facts K mg) : mg "lowest" = some (.ref (He.ga K "lowest")) := T.glo 4 _ rfl
theorem Facts.m_plus (T : Facts K mg) : mg "plus" = some (.ref (He.ga K "plus")) := T.glo 5 _ rfl
theorem Facts.m_over (T : Facts K mg) : mg "over" = some (.ref (He.ga K "over")) := T.glo 6 _ rfl
theorem Facts.m_is_less (T : Facts K mg) : mg "is_less" = some (.ref (He.ga K "is_less")) := T.glo 7 _ rfl
theorem Facts.m_added (T : Facts K mg) : mg "added" = some (.ref (He.ga K "added")) := T.glo 8 _ rfl
theorem Facts.m_is_less_row (T : Facts K mg) : mg "is_less_row" = some (.ref (He.ga K "is_less_row")) := T.glo 9 _ rfl
theorem Facts.m_ordered (T : Facts K mg) : mg "ordered" = some (.ref (He.ga K "ordered")) := T.glo 10 _ rfl
theorem Facts.m_written (T : Facts K mg) : mg "written" = some (.ref (He.ga K "written")) := T.glo 11 _ rfl
theorem Facts.m_greatest_sum (T : Facts K mg) : mg "greatest_sum" = some (.ref (He.ga K "greatest_sum")) := T.glo 12 _ rfl
theorem Facts.m_is_payoff (T : Facts K mg) : mg "is_payoff" = some (.ref (He.ga K "is_payoff")) := T.glo 13 _ rfl
theorem Facts.m_is_price (T : Facts K mg) : mg "is_price" = some (.ref (He.ga K "is_price")) := T.glo 14 _ rfl
theorem Facts.m_is_quote (T : Facts K mg) : mg "is_quote" = some (.ref (He.ga K "is_quote")) := T.glo 15 _ rfl
theorem Facts.m_check_quotes (T : Facts K mg) : mg "check_quotes" = some (.ref (He.ga K "check_quotes")) := T.glo 16 _ rfl
theorem Facts.m_quote_text (T : Facts K mg) : mg "quote_text" = some (.ref (He.ga K "quote_text")) := T.glo 17 _ rfl
theorem Facts.m_check_payoff (T : Facts K mg) : mg "check_payoff" = some (.ref (He.ga K "check_payoff")) := T.glo 18 _ rfl
theorem Facts.m_check_price (T : Facts K mg) : mg "check_price" = some (.ref (He.ga K "check_price")) := T.glo 19 _ rfl
theorem Facts.m_check_book (T : Facts K mg) : mg "check_book" = some (.ref (He.ga K "check_book")) := T.glo 20 _ rfl
theorem Facts.m_is_share (T : Facts K mg) : mg "is_share" = some (.ref (He.ga K "is_share")) := T.glo 21 _ rfl
theorem Facts.m_check_chance (T : Facts K mg) : mg "check_chance" = some (.ref (He.ga K "check_chance")) := T.glo 22 _ rfl
theorem Facts.m_worth_at (T : Facts K mg) : mg "worth_at" = some (.ref (He.ga K "worth_at")) := T.glo 23 _ rfl
theorem Facts.m_does_keep (T : Facts K mg) : mg "does_keep" = some (.ref (He.ga K "does_keep")) := T.glo 24 _ rfl
theorem Facts.m_gain_rows (T : Facts K mg) : mg "gain_rows" = some (.ref (He.ga K "gain_rows")) := T.glo 25 _ rfl
theorem Facts.m_least_answer (T : Facts K mg) : mg "least_answer" = some (.ref (He.ga K "least_answer")) := T.glo 26 _ rfl
theorem Facts.m_chance_in (T : Facts K mg) : mg "chance_in" = some (.ref (He.ga K "chance_in")) := T.glo 27 _ rfl
theorem Facts.m_plain_answer (T : Facts K mg) : mg "plain_answer" = some (.ref (He.ga K "plain_answer")) := T.glo 28 _ rfl
theorem Facts.m_is_kept_by_some (T : Facts K mg) : mg "is_kept_by_some" = some (.ref (He.ga K "is_kept_by_some")) := T.glo 29 _ rfl
theorem Facts.m_check_sound (T : Facts K mg) : mg "check_sound" = some (.ref (He.ga K "check_sound")) := T.glo 30 _ rfl
theorem Facts.m_worth (T : Facts K mg) : mg "worth" = some (.ref (He.ga K "worth")) := T.glo 31 _ rfl
theorem Facts.m_keeps (T : Facts K mg) : mg "keeps" = some (.ref (He.ga K "keeps")) := T.glo 32 _ rfl
theorem Facts.m_common_of (T : Facts K mg) : mg "common_of" = some (.ref (He.ga K "common_of")) := T.glo 33 _ rfl
theorem Facts.m_crossing (T : Facts K mg) : mg "crossing" = some (.ref (He.ga K "crossing")) := T.glo 34 _ rfl
theorem Facts.m_are_joined (T : Facts K mg) : mg "are_joined" = some (.ref (He.ga K "are_joined")) := T.glo 35 _ rfl
theorem Facts.m_cut_by (T : Facts K mg) : mg "cut_by" = some (.ref (He.ga K "cut_by")) := T.glo 36 _ rfl
theorem Facts.m_corner_points (T : Facts K mg) : mg "corner_points" = some (.ref (He.ga K "corner_points")) := T.glo 37 _ rfl
theorem Facts.m_chance_of (T : Facts K mg) : mg "chance_of" = some (.ref (He.ga K "chance_of")) := T.glo 38 _ rfl
theorem Facts.m_corners_of (T : Facts K mg) : mg "corners_of" = some (.ref (He.ga K "corners_of")) := T.glo 39 _ rfl
theorem Facts.m_check_listed (T : Facts K mg) : mg "check_listed" = some (.ref (He.ga K "check_listed")) := T.glo 40 _ rfl
theorem Facts.m_corners (T : Facts K mg) : mg "corners" = some (.ref (He.ga K "corners")) := T.glo 41 _ rfl
theorem Facts.m_is_corner (T : Facts K mg) : mg "is_corner" = some (.ref (He.ga K "is_corner")) := T.glo 42 _ rfl
theorem Facts.m_mean_corner (T : Facts K mg) : mg "mean_corner" = some (.ref (He.ga K "mean_corner")) := T.glo 43 _ rfl
theorem Facts.m_least_by (T : Facts K mg) : mg "least_by" = some (.ref (He.ga K "least_by")) := T.glo 44 _ rfl
theorem Facts.m_greatest_by (T : Facts K mg) : mg "greatest_by" = some (.ref (He.ga K "greatest_by")) := T.glo 45 _ rfl
theorem Facts.m_turned (T : Facts K mg) : mg "turned" = some (.ref (He.ga K "turned")) := T.glo 46 _ rfl
theorem Facts.m_check_asked (T : Facts K mg) : mg "check_asked" = some (.ref (He.ga K "check_asked")) := T.glo 47 _ rfl
theorem Facts.m_least_worth (T : Facts K mg) : mg "least_worth" = some (.ref (He.ga K "least_worth")) := T.glo 48 _ rfl
theorem Facts.m_greatest_worth (T : Facts K mg) : mg "greatest_worth" = some (.ref (He.ga K "greatest_worth")) := T.glo 49 _ rfl
theorem Facts.m_end_chance (T : Facts K mg) : mg "end_chance" = some (.ref (He.ga K "end_chance")) := T.glo 50 _ rfl
theorem Facts.m__law_jar (T : Facts K mg) : mg "_law_jar" = some (.ref (He.ga K "_law_jar")) := T.glo 51 _ rfl
theorem Facts.m__law_dip (T : Facts K mg) : mg "_law_dip" = some (.ref (He.ga K "_law_dip")) := T.glo 52 _ rfl
theorem Facts.m__law_one_of (T : Facts K mg) : mg "_law_one_of" = some (.ref (He.ga K "_law_one_of")) := T.glo 53 _ rfl
theorem Facts.m__law_common (T : Facts K mg) : mg "_law_common" = some (.ref (He.ga K "_law_common")) := T.glo 54 _ rfl
theorem Facts.m__law_low (T : Facts K mg) : mg "_law_low" = some (.ref (He.ga K "_law_low")) := T.glo 55 _ rfl
theorem Facts.m__law_plus (T : Facts K mg) : mg "_law_plus" = some (.ref (He.ga K "_law_plus")) := T.glo 56 _ rfl
theorem Facts.m__law_times (T : Facts K mg) : mg "_law_times" = some (.ref (He.ga K "_law_times")) := T.glo 57 _ rfl
theorem Facts.m__law_less (T : Facts K mg) : mg "_law_less" = some (.ref (He.ga K "_law_less")) := T.glo 58 _ rfl
theorem Facts.m__law_least (T : Facts K mg) : mg "_law_least" = some (.ref (He.ga K "_law_least")) := T.glo 59 _ rfl
theorem Facts.m__law_minus (T : Facts K mg) : mg "_law_minus" = some (.ref (He.ga K "_law_minus")) := T.glo 60 _ rfl
theorem Facts.m__law_worth (T : Facts K mg) : mg "_law_worth" = some (.ref (He.ga K "_law_worth")) := T.glo 61 _ rfl
theorem Facts.m__law_payoff (T : Facts K mg) : mg "_law_payoff" = some (.ref (He.ga K "_law_payoff")) := T.glo 62 _ rfl
theorem Facts.m__law_chance (T : Facts K mg) : mg "_law_chance" = some (.ref (He.ga K "_law_chance")) := T.glo 63 _ rfl
theorem Facts.m__law_quotes (T : Facts K mg) : mg "_law_quotes" = some (.ref (He.ga K "_law_quotes")) := T.glo 64 _ rfl
theorem Facts.m__law_case (T : Facts K mg) : mg "_law_case" = some (.ref (He.ga K "_law_case")) := T.glo 65 _ rfl
theorem Facts.m__law_may_pass (T : Facts K mg) : mg "_law_may_pass" = some (.ref (He.ga K "_law_may_pass")) := T.glo 66 _ rfl
theorem Facts.m__law_payoff_right (T : Facts K mg) : mg "_law_payoff_right" = some (.ref (He.ga K "_law_payoff_right")) := T.glo 67 _ rfl
theorem Facts.m__law_right (T : Facts K mg) : mg "_law_right" = some (.ref (He.ga K "_law_right")) := T.glo 68 _ rfl
theorem Facts.m_law (T : Facts K mg) : mg "law" = some (.ref (He.ga K "law")) := T.glo 69 _ rfl
theorem Facts.m_Answer (T : Facts K mg) : mg "Answer" = some (.ref (He.ga K "Answer")) := T.glo 70 _ rfl
theorem Facts.c_Answer (T : Facts K mg) : Cls K (He.ga K "Answer") := He.cls_ok (fact T.c 71 rfl)
theorem Facts.k_Answer (T : Facts K mg) : Mk K (He.ga K "Answer") (He.ma K (He.ga K "Answer") "__init__") := He.mkr_ok (fact T.c 72 rfl)
theorem Facts.m_Table (T : Facts K mg) : mg "Table" = some (.ref (He.ga K "Table")) := T.glo 73 _ rfl
theorem Facts.c_Table (T : Facts K mg) : Cls K (He.ga K "Table") := He.cls_ok (fact T.c 74 rfl)
theorem Facts.k_Table (T : Facts K mg) : Mk K (He.ga K "Table") (He.ma K (He.ga K "Table") "__init__") := He.mkr_ok (fact T.c 75 rfl)
theorem Facts.m_Book (T : Facts K mg) : mg "Book" = some (.ref (He.ga K "Book")) := T.glo 76 _ rfl
theorem Facts.c_Book (T : Facts K mg) : Cls K (He.ga K "Book") := He.cls_ok (fact T.c 77 rfl)
theorem Facts.k_Book (T : Facts K mg) : Mk K (He.ga K "Book") (He.ma K (He.ga K "Book") "__init__") := He.mkr_ok (fact T.c 78 rfl)
theorem Facts.m_Corner (T : Facts K mg) : mg "Corner" = some (.ref (He.ga K "Corner")) := T.glo 79 _ rfl
theorem Facts.c_Corner (T : Facts K mg) : Cls K (He.ga K "Corner") := He.cls_ok (fact T.c 80 rfl)
theorem Facts.k_Corner (T : Facts K mg) : Mk K (He.ga K "Corner") (He.ma K (He.ga K "Corner") "__init__") := He.mkr_ok (fact T.c 81 rfl)
theorem Facts.n_Answer_value (T : Facts K mg) : NoAttr K (He.ga K "Answer") "value" := He.noat_ok (fact T.c 82 rfl)
theorem Facts.n_Answer_numbers (T : Facts K mg) : NoAttr K (He.ga K "Answer") "numbers" := He.noat_ok (fact T.c 83 rfl)
theorem Facts.n_Answer_multiples (T : Facts K mg) : NoAttr K (He.ga K "Answer") "multiples" := He.noat_ok (fact T.c 84 rfl)
theorem Facts.n_Table_many (T : Facts K mg) : NoAttr K (He.ga K "Table") "many" := He.noat_ok (fact T.c 85 rfl)
theorem Facts.n_Table_size (T : Facts K mg) : NoAttr K (He.ga K "Table") "size" := He.noat_ok (fact T.c 86 rfl)
theorem Facts.n_Table_unit (T : Facts K mg) : NoAttr K (He.ga K "Table") "unit" := He.noat_ok (fact T.c 87 rfl)
theorem Facts.n_Table_basis (T : Facts K mg) : NoAttr K (He.ga K "Table") "basis" := He.noat_ok (fact T.c 88 rfl)
theorem Facts.n_Table_lines (T : Facts K mg) : NoAttr K (He.ga K "Table") "lines" := He.noat_ok (fact T.c 89 rfl)
theorem Facts.n_Book_held (T : Facts K mg) : NoAttr K (He.ga K "Book") "held" := He.noat_ok (fact T.c 90 rfl)
theorem Facts.n_Book_words (T : Facts K mg) : NoAttr K (He.ga K "Book") "words" := He.noat_ok (fact T.c 91 rfl)
theorem Facts.n_Corner_point (T : Facts K mg) : NoAttr K (He.ga K "Corner") "point" := He.noat_ok (fact T.c 92 rfl)
theorem Facts.n_Corner_bounds (T : Facts K mg) : NoAttr K (He.ga K "Corner") "bounds" := He.noat_ok (fact T.c 93 rfl)
theorem Facts.h_Table_entering (T : Facts K mg) : Meth K (He.ga K "Table") "entering" (He.ma K (He.ga K "Table") "entering") := He.meth_ok (fact T.c 94 rfl)
theorem Facts.h_Table_leaving (T : Facts K mg) : Meth K (He.ga K "Table") "leaving" (He.ma K (He.ga K "Table") "leaving") := He.meth_ok (fact T.c 95 rfl)
theorem Facts.h_Table_is_ahead (T : Facts K mg) : Meth K (He.ga K "Table") "is_ahead" (He.ma K (He.ga K "Table") "is_ahead") := He.meth_ok (fact T.c 96 rfl)
theorem Facts.h_Table_turn (T : Facts K mg) : Meth K (He.ga K "Table") "turn" (He.ma K (He.ga K "Table") "turn") := He.meth_ok (fact T.c 97 rfl)
theorem Facts.h_Table_numbers_now (T : Facts K mg) : Meth K (He.ga K "Table") "numbers_now" (He.ma K (He.ga K "Table") "numbers_now") := He.meth_ok (fact T.c 98 rfl)
theorem Facts.h_Table_multiples_now (T : Facts K mg) : Meth K (He.ga K "Table") "multiples_now" (He.ma K (He.ga K "Table") "multiples_now") := He.meth_ok (fact T.c 99 rfl)
theorem Facts.h_Book_with_quote (T : Facts K mg) : Meth K (He.ga K "Book") "with_quote" (He.ma K (He.ga K "Book") "with_quote") := He.meth_ok (fact T.c 100 rfl)
theorem Facts.i_MOST_OUTCOMES (T : Facts K mg) : ∃ t, mg "MOST_OUTCOMES" = some (.int 6 t) := T.int 101 _ _ rfl
theorem Facts.i_MOST_LISTED (T : Facts K mg) : ∃ t, mg "MOST_LISTED" = some (.int 5 t) := T.int 102 _ _ rfl
theorem Facts.i_MOST_NUMBER (T : Facts K mg) : ∃ t, mg "MOST_NUMBER" = some (.int 1000 t) := T.int 103 _ _ rfl
theorem Facts.i_MOST_QUOTES (T : Facts K mg) : ∃ t, mg "MOST_QUOTES" = some (.int 32 t) := T.int 104 _ _ rfl
theorem Facts.i_MOST_TOP (T : Facts K mg) : ∃ t, mg "MOST_TOP" = some (.int 1000000000 t) := T.int 105 _ _ rfl
theorem Facts.i_MOST_BOTTOM (T : Facts K mg) : ∃ t, mg "MOST_BOTTOM" = some (.int 1000000 t) := T.int 106 _ _ rfl
theorem Facts.i_MOST_PRICE_TOP (T : Facts K mg) : ∃ t, mg "MOST_PRICE_TOP" = some (.int 1000000 t) := T.int 107 _ _ rfl
theorem Facts.i_MOST_PRICE_BOTTOM (T : Facts K mg) : ∃ t, mg "MOST_PRICE_BOTTOM" = some (.int 1000 t) := T.int 108 _ _ rfl
theorem Facts.b_len (T : Facts K mg) : mg "len" = none := T.free 109 _ rfl
theorem Facts.b_range (T : Facts K mg) : mg "range" = none := T.free 110 _ rfl
theorem Facts.b_enumerate (T : Facts K mg) : mg "enumerate" = none := T.free 111 _ rfl
theorem Facts.b_zip (T : Facts K mg) : mg "zip" = none := T.free 112 _ rfl
theorem Facts.b_abs (T : Facts K mg) : mg "abs" = none := T.free 113 _ rfl
theorem Facts.b_min (T : Facts K mg) : mg "min" = none := T.free 114 _ rfl
theorem Facts.b_max (T : Facts K mg) : mg "max" = none := T.free 115 _ rfl
theorem Facts.b_sum (T : Facts K mg) : mg "sum" = none := T.free 116 _ rfl
theorem Facts.b_all (T : Facts K mg) : mg "all" = none := T.free 117 _ rfl
theorem Facts.b_any (T : Facts K mg) : mg "any" = none := T.free 118 _ rfl
theorem Facts.b_int (T : Facts K mg) : mg "int" = none := T.free 119 _ rfl
theorem Facts.b_tuple (T : Facts K mg) : mg "tuple" = none := T.free 120 _ rfl
theorem Facts.b_list (T : Facts K mg) : mg "list" = none := T.free 121 _ rfl
theorem Facts.b_str (T : Facts K mg) : mg "str" = none := T.free 122 _ rfl
theorem Facts.b_isinstance (T : Facts K mg) : mg "isinstance" = none := T.free 123 _ rfl
theorem Facts.b_divmod (T : Facts K mg) : mg "divmod" = none := T.free 124 _ rfl
theorem Facts.b_bool (T : Facts K mg) : mg "bool" = none := T.free 125 _ rfl
theorem Facts.F_is_integer (T : Facts K mg) : ∃ fd, FunD K "is_integer" "is_integer" (defArgs s_is_integer) (defBody s_is_integer) (defScope s_is_integer) [] [] (He.ga K "is_integer") fd := T.def_ 0 (d := d_is_integer) rfl
theorem Facts.F_is_between (T : Facts K mg) : ∃ fd, FunD K "is_between" "is_between" (defArgs s_is_between) (defBody s_is_between) (defScope s_is_between) [] [] (He.ga K "is_between") fd := T.def_ 1 (d := d_is_between) rfl
theorem Facts.F_common_divisor (T : Facts K mg) : ∃ fd, FunD K "common_divisor" "common_divisor" (defArgs s_common_divisor) (defBody s_common_divisor) (defScope s_common_divisor) [] [] (He.ga K "common_divisor") fd := T.def_ 2 (d := d_common_divisor) rfl
theorem Facts.F_is_fraction (T : Facts K mg) : ∃ fd, FunD K "is_fraction" "is_fraction" (defArgs s_is_fraction) (defBody s_is_fraction) (defScope s_is_fraction) [] [] (He.ga K "is_fraction") fd := T.def_ 3 (d := d_is_fraction) rfl
theorem Facts.F_lowest (T : Facts K mg) : ∃ fd, FunD K "lowest" "lowest" (defArgs s_lowest) (defBody s_lowest) (defScope s_lowest) [] [] (He.ga K "lowest") fd := T.def_ 4 (d := d_lowest) rfl
theorem Facts.F_plus (T : Facts K mg) : ∃ fd, FunD K "plus" "plus" (defArgs s_plus) (defBody s_plus) (defScope s_plus) [] [] (He.ga K "plus") fd := T.def_ 5 (d := d_plus) rfl
theorem Facts.F_over (T : Facts K mg) : ∃ fd, FunD K "over" "over" (defArgs s_over) (defBody s_over) (defScope s_over) [] [] (He.ga K "over") fd := T.def_ 6 (d := d_over) rfl
theorem Facts.F_is_less (T : Facts K mg) : ∃ fd, FunD K "is_less" "is_less" (defArgs s_is_less) (defBody s_is_less) (defScope s_is_less) [] [] (He.ga K "is_less") fd := T.def_ 7 (d := d_is_less) rfl
theorem Facts.F_added (T : Facts K mg) : ∃ fd, FunD K "added" "added" (defArgs s_added) (defBody s_added) (defScope s_added) [] [] (He.ga K "added") fd := T.def_ 8 (d := d_added) rfl
theorem Facts.F_is_less_row (T : Facts K mg) : ∃ fd, FunD K "is_less_row" "is_less_row" (defArgs s_is_less_row) (defBody s_is_less_row) (defScope s_is_less_row) [] [] (He.ga K "is_less_row") fd := T.def_ 9 (d := d_is_less_row) rfl
theorem Facts.F_ordered (T : Facts K mg) : ∃ fd, FunD K "ordered" "ordered" (defArgs s_ordered) (defBody s_ordered) (defScope s_ordered) [] [] (He.ga K "ordered") fd := T.def_ 10 (d := d_ordered) rfl
theorem Facts.F_written (T : Facts K mg) : ∃ fd, FunD K "written" "written" (defArgs s_written) (defBody s_written) (defScope s_written) [] [] (He.ga K "written") fd := T.def_ 11 (d := d_written) rfl
theorem Facts.F_Answer___init__ (T : Facts K mg) : ∃ fd, FunD K "__init__" "Answer.__init__" (defArgs s_Answer___init__) (defBody s_Answer___init__) (defScope s_Answer___init__) [] [] (He.ma K (He.ga K "Answer") "__init__") fd := T.def_ 12 (d := d_Answer___init__) rfl
theorem Facts.F_Table___init__ (T : Facts K mg) : ∃ fd, FunD K "__init__" "Table.__init__" (defArgs s_Table___init__) (defBody s_Table___init__) (defScope s_Table___init__) [] [] (He.ma K (He.ga K "Table") "__init__") fd := T.def_ 13 (d := d_Table___init__) rfl
theorem Facts.F_Table_entering (T : Facts K mg) : ∃ fd, FunD K "entering" "Table.entering" (defArgs s_Table_entering) (defBody s_Table_entering) (defScope s_Table_entering) [] [] (He.ma K (He.ga K "Table") "entering") fd := T.def_ 14 (d := d_Table_entering) rfl
theorem Facts.F_Table_leaving (T : Facts K mg) : ∃ fd, FunD K "leaving" "Table.leaving" (defArgs s_Table_leaving) (defBody s_Table_leaving) (defScope s_Table_leaving) [] [] (He.ma K (He.ga K "Table") "leaving") fd := T.def_ 15 (d := d_Table_leaving) rfl
theorem Facts.F_Table_is_ahead (T : Facts K mg) : ∃ fd, FunD K "is_ahead" "Table.is_ahead" (defArgs s_Table_is_ahead) (defBody s_Table_is_ahead) (defScope s_Table_is_ahead) [] [] (He.ma K (He.ga K "Table") "is_ahead") fd := T.def_ 16 (d := d_Table_is_ahead) rfl
theorem Facts.F_Table_turn (T : Facts K mg) : ∃ fd, FunD K "turn" "Table.turn" (defArgs s_Table_turn) (defBody s_Table_turn) (defScope s_Table_turn) [] [] (He.ma K (He.ga K "Table") "turn") fd := T.def_ 17 (d := d_Table_turn) rfl
theorem Facts.F_Table_numbers_now (T : Facts K mg) : ∃ fd, FunD K "numbers_now" "Table.numbers_now" (defArgs s_Table_numbers_now) (defBody s_Table_numbers_now) (defScope s_Table_numbers_now) [] [] (He.ma K (He.ga K "Table") "numbers_now") fd := T.def_ 18 (d := d_Table_numbers_now) rfl
theorem Facts.F_Table_multiples_now (T : Facts K mg) : ∃ fd, FunD K "multiples_now" "Table.multiples_now" (defArgs s_Table_multiples_now) (defBody s_Table_multiples_now) (defScope s_Table_multiples_now) [] [] (He.ma K (He.ga K "Table") "multiples_now") fd := T.def_ 19 (d := d_Table_multiples_now) rfl
theorem Facts.F_greatest_sum (T : Facts K mg) : ∃ fd, FunD K "greatest_sum" "greatest_sum" (defArgs s_greatest_sum) (defBody s_greatest_sum) (defScope s_greatest_sum) [] [] (He.ga K "greatest_sum") fd := T.def_ 20 (d := d_greatest_sum) rfl
theorem Facts.F_is_payoff (T : Facts K mg) : ∃ fd, FunD K "is_payoff" "is_payoff" (defArgs s_is_payoff) (defBody s_is_payoff) (defScope s_is_payoff) [] [] (He.ga K "is_payoff") fd := T.def_ 21 (d := d_is_payoff) rfl
theorem Facts.F_is_price (T : Facts K mg) : ∃ fd, FunD K "is_price" "is_price" (defArgs s_is_price) (defBody s_is_price) (defScope s_is_price) [] [] (He.ga K "is_price") fd := T.def_ 22 (d := d_is_price) rfl
theorem Facts.F_is_quote (T : Facts K mg) : ∃ fd, FunD K "is_quote" "is_quote" (defArgs s_is_quote) (defBody s_is_quote) (defScope s_is_quote) [] [] (He.ga K "is_quote") fd := T.def_ 23 (d := d_is_quote) rfl
theorem Facts.F_check_quotes (T : Facts K mg) : ∃ fd, FunD K "check_quotes" "check_quotes" (defArgs s_check_quotes) (defBody s_check_quotes) (defScope s_check_quotes) [] [] (He.ga K "check_quotes") fd := T.def_ 24 (d := d_check_quotes) rfl
theorem Facts.F_quote_text (T : Facts K mg) : ∃ fd, FunD K "quote_text" "quote_text" (defArgs s_quote_text) (defBody s_quote_text) (defScope s_quote_text) [] [] (He.ga K "quote_text") fd := T.def_ 25 (d := d_quote_text) rfl
theorem Facts.F_check_payoff (T : Facts K mg) : ∃ fd, FunD K "check_payoff" "check_payoff" (defArgs s_check_payoff) (defBody s_check_payoff) (defScope s_check_payoff) [] [] (He.ga K "check_payoff") fd := T.def_ 26 (d := d_check_payoff) rfl
theorem Facts.F_check_price (T : Facts K mg) : ∃ fd, FunD K "check_price" "check_price" (defArgs s_check_price) (defBody s_check_price) (defScope s_check_price) [] [] (He.ga K "check_price") fd := T.def_ 27 (d := d_check_price) rfl
theorem Facts.F_Book___init__ (T : Facts K mg) : ∃ fd, FunD K "__init__" "Book.__init__" (defArgs s_Book___init__) (defBody s_Book___init__) (defScope s_Book___init__) [] [] (He.ma K (He.ga K "Book") "__init__") fd := T.def_ 28 (d := d_Book___init__) rfl
theorem Facts.F_Book_with_quote (T : Facts K mg) : ∃ fd, FunD K "with_quote" "Book.with_quote" (defArgs s_Book_with_quote) (defBody s_Book_with_quote) (defScope s_Book_with_quote) [] [] (He.ma K (He.ga K "Book") "with_quote") fd := T.def_ 29 (d := d_Book_with_quote) rfl
theorem Facts.F_check_book (T : Facts K mg) : ∃ fd, FunD K "check_book" "check_book" (defArgs s_check_book) (defBody s_check_book) (defScope s_check_book) [] [] (He.ga K "check_book") fd := T.def_ 30 (d := d_check_book) rfl
theorem Facts.F_is_share (T : Facts K mg) : ∃ fd, FunD K "is_share" "is_share" (defArgs s_is_share) (defBody s_is_share) (defScope s_is_share) [] [] (He.ga K "is_share") fd := T.def_ 31 (d := d_is_share) rfl
theorem Facts.F_check_chance (T : Facts K mg) : ∃ fd, FunD K "check_chance" "check_chance" (defArgs s_check_chance) (defBody s_check_chance) (defScope s_check_chance) [] [] (He.ga K "check_chance") fd := T.def_ 32 (d := d_check_chance) rfl
theorem Facts.F_worth_at (T : Facts K mg) : ∃ fd, FunD K "worth_at" "worth_at" (defArgs s_worth_at) (defBody s_worth_at) (defScope s_worth_at) [] [] (He.ga K "worth_at") fd := T.def_ 33 (d := d_worth_at) rfl
theorem Facts.F_does_keep (T : Facts K mg) : ∃ fd, FunD K "does_keep" "does_keep" (defArgs s_does_keep) (defBody s_does_keep) (defScope s_does_keep) [] [] (He.ga K "does_keep") fd := T.def_ 34 (d := d_does_keep) rfl
theorem Facts.F_gain_rows (T : Facts K mg) : ∃ fd, FunD K "gain_rows" "gain_rows" (defArgs s_gain_rows) (defBody s_gain_rows) (defScope s_gain_rows) [] [] (He.ga K "gain_rows") fd := T.def_ 35 (d := d_gain_rows) rfl
theorem Facts.F_least_answer (T : Facts K mg) : ∃ fd, FunD K "least_answer" "least_answer" (defArgs s_least_answer) (defBody s_least_answer) (defScope s_least_answer) [] [] (He.ga K "least_answer") fd := T.def_ 36 (d := d_least_answer) rfl
theorem Facts.F_chance_in (T : Facts K mg) : ∃ fd, FunD K "chance_in" "chance_in" (defArgs s_chance_in) (defBody s_chance_in) (defScope s_chance_in) [] [] (He.ga K "chance_in") fd := T.def_ 37 (d := d_chance_in) rfl
theorem Facts.F_plain_answer (T : Facts K mg) : ∃ fd, FunD K "plain_answer" "plain_answer" (defArgs s_plain_answer) (defBody s_plain_answer) (defScope s_plain_answer) [] [] (He.ga K "plain_answer") fd := T.def_ 38 (d := d_plain_answer) rfl
theorem Facts.F_is_kept_by_some (T : Facts K mg) : ∃ fd, FunD K "is_kept_by_some" "is_kept_by_some" (defArgs s_is_kept_by_some) (defBody s_is_kept_by_some) (defScope s_is_kept_by_some) [] [] (He.ga K "is_kept_by_some") fd := T.def_ 39 (d := d_is_kept_by_some) rfl
theorem Facts.F_check_sound (T : Facts K mg) : ∃ fd, FunD K "check_sound" "check_sound" (defArgs s_check_sound) (defBody s_check_sound) (defScope s_check_sound) [] [] (He.ga K "check_sound") fd := T.def_ 40 (d := d_check_sound) rfl
theorem Facts.F_worth (T : Facts K mg) : ∃ fd, FunD K "worth" "worth" (defArgs s_worth) (defBody s_worth) (defScope s_worth) [] [] (He.ga K "worth") fd := T.def_ 41 (d := d_worth) rfl
theorem Facts.F_keeps (T : Facts K mg) : ∃ fd, FunD K "keeps" "keeps" (defArgs s_keeps) (defBody s_keeps) (defScope s_keeps) [] [] (He.ga K "keeps") fd := T.def_ 42 (d := d_keeps) rfl
theorem Facts.F_Corner___init__ (T : Facts K mg) : ∃ fd, FunD K "__init__" "Corner.__init__" (defArgs s_Corner___init__) (defBody s_Corner___init__) (defScope s_Corner___init__) [] [] (He.ma K (He.ga K "Corner") "__init__") fd := T.def_ 43 (d := d_Corner___init__) rfl
theorem Facts.F_common_of (T : Facts K mg) : ∃ fd, FunD K "common_of" "common_of" (defArgs s_common_of) (defBody s_common_of) (defScope s_common_of) [] [] (He.ga K "common_of") fd := T.def_ 44 (d := d_common_of) rfl
theorem Facts.F_crossing (T : Facts K mg) : ∃ fd, FunD K "crossing" "crossing" (defArgs s_crossing) (defBody s_crossing) (defScope s_crossing) [] [] (He.ga K "crossing") fd := T.def_ 45 (d := d_crossing) rfl
theorem Facts.F_are_joined (T : Facts K mg) : ∃ fd, FunD K "are_joined" "are_joined" (defArgs s_are_joined) (defBody s_are_joined) (defScope s_are_joined) [] [] (He.ga K "are_joined") fd := T.def_ 46 (d := d_are_joined) rfl
theorem Facts.F_cut_by (T : Facts K mg) : ∃ fd, FunD K "cut_by" "cut_by" (defArgs s_cut_by) (defBody s_cut_by) (defScope s_cut_by) [] [] (He.ga K "cut_by") fd := T.def_ 47 (d := d_cut_by) rfl
theorem Facts.F_corner_points (T : Facts K mg) : ∃ fd, FunD K "corner_points" "corner_points" (defArgs s_corner_points) (defBody s_corner_points) (defScope s_corner_points) [] [] (He.ga K "corner_points") fd := T.def_ 48 (d := d_corner_points) rfl
theorem Facts.F_chance_of (T : Facts K mg) : ∃ fd, FunD K "chance_of" "chance_of" (defArgs s_chance_of) (defBody s_chance_of) (defScope s_chance_of) [] [] (He.ga K "chance_of") fd := T.def_ 49 (d := d_chance_of) rfl
theorem Facts.F_corners_of (T : Facts K mg) : ∃ fd, FunD K "corners_of" "corners_of" (defArgs s_corners_of) (defBody s_corners_of) (defScope s_corners_of) [] [] (He.ga K "corners_of") fd := T.def_ 50 (d := d_corners_of) rfl
theorem Facts.F_check_listed (T : Facts K mg) : ∃ fd, FunD K "check_listed" "check_listed" (defArgs s_check_listed) (defBody s_check_listed) (defScope s_check_listed) [] [] (He.ga K "check_listed") fd := T.def_ 51 (d := d_check_listed) rfl
theorem Facts.F_corners (T : Facts K mg) : ∃ fd, FunD K "corners" "corners" (defArgs s_corners) (defBody s_corners) (defScope s_corners) [] [] (He.ga K "corners") fd := T.def_ 52 (d := d_corners) rfl
theorem Facts.F_is_corner (T : Facts K mg) : ∃ fd, FunD K "is_corner" "is_corner" (defArgs s_is_corner) (defBody s_is_corner) (defScope s_is_corner) [] [] (He.ga K "is_corner") fd := T.def_ 53 (d := d_is_corner) rfl
theorem Facts.F_mean_corner (T : Facts K mg) : ∃ fd, FunD K "mean_corner" "mean_corner" (defArgs s_mean_corner) (defBody s_mean_corner) (defScope s_mean_corner) [] [] (He.ga K "mean_corner") fd := T.def_ 54 (d := d_mean_corner) rfl
theorem Facts.F_least_by (T : Facts K mg) : ∃ fd, FunD K "least_by" "least_by" (defArgs s_least_by) (defBody s_least_by) (defScope s_least_by) [] [] (He.ga K "least_by") fd := T.def_ 55 (d := d_least_by) rfl
theorem Facts.F_greatest_by (T : Facts K mg) : ∃ fd, FunD K "greatest_by" "greatest_by" (defArgs s_greatest_by) (defBody s_greatest_by) (defScope s_greatest_by) [] [] (He.ga K "greatest_by") fd := T.def_ 56 (d := d_greatest_by) rfl
theorem Facts.F_turned (T : Facts K mg) : ∃ fd, FunD K "turned" "turned" (defArgs s_turned) (defBody s_turned) (defScope s_turned) [] [] (He.ga K "turned") fd := T.def_ 57 (d := d_turned) rfl
theorem Facts.F_check_asked (T : Facts K mg) : ∃ fd, FunD K "check_asked" "check_asked" (defArgs s_check_asked) (defBody s_check_asked) (defScope s_check_asked) [] [] (He.ga K "check_asked") fd := T.def_ 58 (d := d_check_asked) rfl
theorem Facts.F_least_worth (T : Facts K mg) : ∃ fd, FunD K "least_worth" "least_worth" (defArgs s_least_worth) (defBody s_least_worth) (defScope s_least_worth) [] [] (He.ga K "least_worth") fd := T.def_ 59 (d := d_least_worth) rfl
theorem Facts.F_greatest_worth (T : Facts K mg) : ∃ fd, FunD K "greatest_worth" "greatest_worth" (defArgs s_greatest_worth) (defBody s_greatest_worth) (defScope s_greatest_worth) [] [] (He.ga K "greatest_worth") fd := T.def_ 60 (d := d_greatest_worth) rfl
theorem Facts.F_end_chance (T : Facts K mg) : ∃ fd, FunD K "end_chance" "end_chance" (defArgs s_end_chance) (defBody s_end_chance) (defScope s_end_chance) [] [] (He.ga K "end_chance") fd := T.def_ 61 (d := d_end_chance) rfl
theorem Facts.F__law_jar (T : Facts K mg) : ∃ fd, FunD K "_law_jar" "_law_jar" (defArgs s__law_jar) (defBody s__law_jar) (defScope s__law_jar) [] [] (He.ga K "_law_jar") fd := T.def_ 62 (d := d__law_jar) rfl
theorem Facts.F__law_dip (T : Facts K mg) : ∃ fd, FunD K "_law_dip" "_law_dip" (defArgs s__law_dip) (defBody s__law_dip) (defScope s__law_dip) [] [] (He.ga K "_law_dip") fd := T.def_ 63 (d := d__law_dip) rfl
theorem Facts.F__law_one_of (T : Facts K mg) : ∃ fd, FunD K "_law_one_of" "_law_one_of" (defArgs s__law_one_of) (defBody s__law_one_of) (defScope s__law_one_of) [] [] (He.ga K "_law_one_of") fd := T.def_ 64 (d := d__law_one_of) rfl
theorem Facts.F__law_common (T : Facts K mg) : ∃ fd, FunD K "_law_common" "_law_common" (defArgs s__law_common) (defBody s__law_common) (defScope s__law_common) [] [] (He.ga K "_law_common") fd := T.def_ 65 (d := d__law_common) rfl
theorem Facts.F__law_low (T : Facts K mg) : ∃ fd, FunD K "_law_low" "_law_low" (defArgs s__law_low) (defBody s__law_low) (defScope s__law_low) [] [] (He.ga K "_law_low") fd := T.def_ 66 (d := d__law_low) rfl
theorem Facts.F__law_plus (T : Facts K mg) : ∃ fd, FunD K "_law_plus" "_law_plus" (defArgs s__law_plus) (defBody s__law_plus) (defScope s__law_plus) [] [] (He.ga K "_law_plus") fd := T.def_ 67 (d := d__law_plus) rfl
theorem Facts.F__law_times (T : Facts K mg) : ∃ fd, FunD K "_law_times" "_law_times" (defArgs s__law_times) (defBody s__law_times) (defScope s__law_times) [] [] (He.ga K "_law_times") fd := T.def_ 68 (d := d__law_times) rfl
theorem Facts.F__law_less (T : Facts K mg) : ∃ fd, FunD K "_law_less" "_law_less" (defArgs s__law_less) (defBody s__law_less) (defScope s__law_less) [] [] (He.ga K "_law_less") fd := T.def_ 69 (d := d__law_less) rfl
theorem Facts.F__law_least (T : Facts K mg) : ∃ fd, FunD K "_law_least" "_law_least" (defArgs s__law_least) (defBody s__law_least) (defScope s__law_least) [] [] (He.ga K "_law_least") fd := T.def_ 70 (d := d__law_least) rfl
theorem Facts.F__law_minus (T : Facts K mg) : ∃ fd, FunD K "_law_minus" "_law_minus" (defArgs s__law_minus) (defBody s__law_minus) (defScope s__law_minus) [] [] (He.ga K "_law_minus") fd := T.def_ 71 (d := d__law_minus) rfl
theorem Facts.F__law_worth (T : Facts K mg) : ∃ fd, FunD K "_law_worth" "_law_worth" (defArgs s__law_worth) (defBody s__law_worth) (defScope s__law_worth) [] [] (He.ga K "_law_worth") fd := T.def_ 72 (d := d__law_worth) rfl
theorem Facts.F__law_payoff (T : Facts K mg) : ∃ fd, FunD K "_law_payoff" "_law_payoff" (defArgs s__law_payoff) (defBody s__law_payoff) (defScope s__law_payoff) [] [] (He.ga K "_law_payoff") fd := T.def_ 73 (d := d__law_payoff) rfl
theorem Facts.F__law_chance (T : Facts K mg) : ∃ fd, FunD K "_law_chance" "_law_chance" (defArgs s__law_chance) (defBody s__law_chance) (defScope s__law_chance) [] [] (He.ga K "_law_chance") fd := T.def_ 74 (d := d__law_chance) rfl
theorem Facts.F__law_quotes (T : Facts K mg) : ∃ fd, FunD K "_law_quotes" "_law_quotes" (defArgs s__law_quotes) (defBody s__law_quotes) (defScope s__law_quotes) [] [] (He.ga K "_law_quotes") fd := T.def_ 75 (d := d__law_quotes) rfl
theorem Facts.F__law_case (T : Facts K mg) : ∃ fd, FunD K "_law_case" "_law_case" (defArgs s__law_case) (defBody s__law_case) (defScope s__law_case) [] [] (He.ga K "_law_case") fd := T.def_ 76 (d := d__law_case) rfl
theorem Facts.F__law_may_pass (T : Facts K mg) : ∃ fd, FunD K "_law_may_pass" "_law_may_pass" (defArgs s__law_may_pass) (defBody s__law_may_pass) (defScope s__law_may_pass) [] [] (He.ga K "_law_may_pass") fd := T.def_ 77 (d := d__law_may_pass) rfl
theorem Facts.F__law_payoff_right (T : Facts K mg) : ∃ fd, FunD K "_law_payoff_right" "_law_payoff_right" (defArgs s__law_payoff_right) (defBody s__law_payoff_right) (defScope s__law_payoff_right) [] [] (He.ga K "_law_payoff_right") fd := T.def_ 78 (d := d__law_payoff_right) rfl
theorem Facts.F__law_right (T : Facts K mg) : ∃ fd, FunD K "_law_right" "_law_right" (defArgs s__law_right) (defBody s__law_right) (defScope s__law_right) [] [] (He.ga K "_law_right") fd := T.def_ 79 (d := d__law_right) rfl
theorem Facts.F_law (T : Facts K mg) : ∃ fd, FunD K "law" "law" (defArgs s_law) (defBody s_law) (defScope s_law) [] [] (He.ga K "law") fd := T.def_ 80 (d := d_law) rfl
end
end Top
end
section
set_option Elab.async false
set_option linter.all false
set_option maxRecDepth 100000
set_option maxHeartbeats 4000000
set_option exponentiation.threshold 100
/-! F1: integers and fractions. -/
namespace Top
open PySem PySem.Spec PyProof.Rows L2 StX RZ Pu
/-- a fraction in lowest terms -/
def fr (q : Rat) : D := .tup [.int q.num, .int (q.den : Nat)]
theorem divInt_num {a b : Int} (h : 0 < b) : a / (Int.gcd a b : Nat) = (Rat.divInt a b).num := by
  rw [Rat.num_divInt, Int.sign_eq_one_of_pos h, Int.one_mul, Int.gcd_comm]
theorem divInt_den {a b : Int} (h : 0 < b) : b / (Int.gcd a b : Nat) = ((Rat.divInt a b).den : Nat) := by
  obtain ⟨n, rfl⟩ : ∃ n : Nat, b = (n : Int) := ⟨b.toNat, by omega⟩
  have hn : n ≠ 0 := by omega
  rw [Rat.divInt_ofNat, Rat.den_mkRat, if_neg hn, Int.gcd_comm]
  rfl
theorem gcd_pos {a b : Int} (h : 0 < b) : 0 < Int.gcd a b := Nat.pos_of_ne_zero fun z => by
  have := (Int.gcd_eq_zero_iff.mp z).2; omega
theorem gcd_le {a b : Int} (h : 0 < b) : (Int.gcd a b : Int) ≤ b := Int.le_of_dvd h (Int.gcd_dvd_right a b)
theorem log2_of {n k : Nat} (h : n < 2 ^ k) (hk : 0 < k) : n.log2 < k := by
  by_cases z : n = 0
  · subst z; simpa using hk
  · exact (Nat.log2_lt z).mpr h
theorem bd_mulw {p q : Int} {n m : Nat} (hp : p.natAbs < 2 ^ n) (hq : q.natAbs < 2 ^ m) (h : n + m ≤ 999990) : CMulW p q := by
  have a := log2_of (k := n + 1) (Nat.lt_of_lt_of_le hp (Nat.pow_le_pow_right (by decide) (by omega))) (by omega)
  have b := log2_of (k := m + 1) (Nat.lt_of_lt_of_le hq (Nat.pow_le_pow_right (by decide) (by omega))) (by omega)
  unfold CMulW
  omega
theorem den_pos (q : Rat) : (0 : Int) < (q.den : Nat) := by have := q.den_pos; omega
theorem add_fr (p q : Rat) : p + q = Rat.divInt (p.num * (q.den : Nat) + q.num * (p.den : Nat)) ((p.den : Nat) * (q.den : Nat)) := by
  rw [Rat.add_def, Rat.normalize_eq_mkRat, ← Rat.divInt_ofNat]; simp
theorem mul_fr (p q : Rat) : p * q = Rat.divInt (p.num * q.num) ((p.den : Nat) * (q.den : Nat)) := by
  rw [Rat.mul_def, Rat.normalize_eq_mkRat, ← Rat.divInt_ofNat]; simp
theorem lt_fr (p q : Rat) : (p < q) ↔ p.num * (q.den : Nat) < q.num * (p.den : Nat) := Rat.lt_iff p q
theorem gcd_small {a b : Int} {n : Nat} (h : 0 < b) (hb : b.natAbs < 2 ^ n) (hn : n ≤ 8999) : (Int.gcd a b).log2 < 9000 := by
  have h1 := gcd_le (a := a) h
  exact log2_of (Nat.lt_of_lt_of_le (Nat.lt_of_le_of_lt (by omega) hb) (Nat.pow_le_pow_right (by decide) (by omega))) (by decide)
theorem mul_bits {p q : Int} {n m : Nat} (hp : p.natAbs < 2 ^ n) (hq : q.natAbs < 2 ^ m) : (p * q).natAbs < 2 ^ (n + m) := by
  rw [Int.natAbs_mul, Nat.pow_add]; exact Nat.mul_lt_mul'' hp hq
abbrev ACommon (x : Int × Int) : List D := [.int x.1, .int x.2]
abbrev RCommon := RF ACommon (fun _ => True) fun x => .int (Int.gcd x.1 x.2 : Nat)
abbrev RLowest := RF ACommon (fun x => 0 < x.2 ∧ (Int.gcd x.1 x.2).log2 < 9000) fun x => fr (Rat.divInt x.1 x.2)
abbrev ATwo (x : Rat × Rat) : List D := [fr x.1, fr x.2]
abbrev RPlus := RF ATwo OTwo fun x => fr (x.1 + x.2)
abbrev RTimes := RF ATwo OTwo fun x => fr (x.1 * x.2)
abbrev RLess := RF ATwo OTwo fun x => .bl (decide (x.1 < x.2))
section
variable {K : PySem.W.Frag} {ρ : Rho} {ta tb te : TE} {q : Rat} {n : Nat}
theorem fr_0 (h : EvD K ρ ta (fr q)) : EvD K ρ (tOp (rIx K) ta (tC (.int 0))) (.int q.num) := ed_op h ed_int (rv_ixT (k := 0) rfl)
theorem fr_1 (h : EvD K ρ ta (fr q)) : EvD K ρ (tOp (rIx K) ta (tC (.int 1))) (.int (q.den : Nat)) := ed_op h ed_int (rv_ixT (k := 1) rfl)
end
section
variable {P : Program} {w : World} {K : PySem.W.Frag} {mg : Str → Option Value} {base : Heap}
theorem sc_common_divisor : FnScope ["one", "other"] ["one", "other"] (defScope s_common_divisor) := ⟨rfl, rfl, rfl, by decide +kernel, rfl, by decide +kernel, by decide +kernel⟩
theorem ok_common_divisor (T : Facts K mg) : Ok P w K mg base 1 (He.ga K "common_divisor") ["one", "other"] (spP K RCommon) := by
  refine Ok.rf T.F_common_divisor sc_common_divisor (fun fd F => F.bindsN fun _ _ _ _ _ _ us hl => match us, hl with | [_, _], _ => rfl) (fun _ => rfl) fun cdv A outer s H E hr x hx => ⟨_, (pss_cons (ps_par (i := 0) (j := 1) rfl sc_common_divisor.nd rfl rfl (by decide) rfl rfl (pa_cons (pe_callB call_absX rfl T.b_abs (by decide +kernel) (pa_cons (pv 0) pa_nil)) (pa_cons (pe_callB call_absX rfl T.b_abs (by decide +kernel) (pa_cons (pv 1) pa_nil)) pa_nil)) (by rfl))
      (pss_cons (ps_while PassesOwn.never (pt_cmpR (op_neK (K := K) rfl hr.units) (pv 1) pe_int (nomark _)) (pss_one (ps_par (i := 0) (j := 1) rfl sc_common_divisor.nd rfl rfl (by decide) rfl rfl (pa_cons (pv 1) (pa_cons (pe_op op_modX (pv 0) (pv 1)) pa_nil)) (by rfl))))
      (pss_one (ps_ret (pv 0))))), ?_⟩
  obtain ⟨a, b⟩ := x
  refine sd_seq (sd_par (ea_2 (ed_cb (ea_1 (ed_var rfl)) rc_abs) (ed_cb (ea_1 (ed_var rfl)) rc_abs))) ?_
  refine sd_seq (sd_whA (α := Nat × Nat) (fun x => [some (.int (x.1 : Nat)), some (.int (x.2 : Nat))]) (fun x => [some (.int (Nat.gcd x.1 x.2 : Nat)), some (.int 0)]) ?_ (a.natAbs, b.natAbs)) (sd_seq_rt (sd_ret (ed_var rfl)))
  rintro ⟨m, n⟩
  induction n using Nat.strongRecOn generalizing m with
  | _ n ih =>
    by_cases hn : n = 0
    · subst hn
      refine ⟨0, ?_⟩
      rw [show Nat.gcd m 0 = m from Nat.gcd_zero_right m]
      exact .done (et_is (et_test (ed_op (ed_var rfl) ed_int rv_neI)) (by simp))
    · obtain ⟨j, hj⟩ := ih (m % n) (Nat.mod_lt _ (by omega)) n
      refine ⟨j + 1, .step (et_is (et_test (ed_op (ed_var rfl) ed_int rv_neI)) (by simp; omega)) (sd_seq (sd_par (ea_2 (ed_var rfl) (ed_op (ed_var rfl) (ed_var rfl) (rv_mod (by omega))))) sd_next) ?_⟩
      have e1 : Nat.gcd m n = Nat.gcd n (m % n) := by rw [Nat.gcd_comm m n, Nat.gcd_rec n m, Nat.gcd_comm]
      show Wh K _ _ j _ [some (D.int (Nat.gcd m n : Nat)), some (D.int 0)]
      rw [e1]
      exact hj
theorem sc__law_common : FnScope ["_law_a", "_law_b"] ["_law_a", "_law_b"] (defScope s__law_common) := ⟨rfl, rfl, rfl, by decide +kernel, rfl, by decide +kernel, by decide +kernel⟩
theorem ok__law_common (T : Facts K mg) : Ok P w K mg base 1 (He.ga K "_law_common") ["_law_a", "_law_b"] (spP K RCommon) := by
  refine Ok.rf T.F__law_common sc__law_common (fun fd F => F.bindsN fun _ _ _ _ _ _ us hl => match us, hl with | [_, _], _ => rfl) (fun _ => rfl) fun cdv A outer s H E hr x hx => ⟨_, (pss_cons (ps_par (i := 0) (j := 1) rfl sc__law_common.nd rfl rfl (by decide) rfl rfl (pa_cons (pe_callB call_absX rfl T.b_abs (by decide +kernel) (pa_cons (pv 0) pa_nil)) (pa_cons (pe_callB call_absX rfl T.b_abs (by decide +kernel) (pa_cons (pv 1) pa_nil)) pa_nil)) (by rfl))
      (pss_cons (ps_while PassesOwn.never (pt_cmpR op_gtX (pv 1) pe_int (nomark _)) (pss_one (ps_par (i := 0) (j := 1) rfl sc__law_common.nd rfl rfl (by decide) rfl rfl (pa_cons (pv 1) (pa_cons (pe_op op_modX (pe_callTy call_intX rfl T.b_int (by decide +kernel) (pa_cons (pv 0) pa_nil)) (pv 1)) pa_nil)) (by rfl))))
      (pss_one (ps_ret (pv 0))))), ?_⟩
  obtain ⟨a, b⟩ := x
  refine sd_seq (sd_par (ea_2 (ed_cb (ea_1 (ed_var rfl)) rc_abs) (ed_cb (ea_1 (ed_var rfl)) rc_abs))) ?_
  refine sd_seq (sd_whA (α := Nat × Nat) (fun x => [some (.int (x.1 : Nat)), some (.int (x.2 : Nat))]) (fun x => [some (.int (Nat.gcd x.1 x.2 : Nat)), some (.int 0)]) ?_ (a.natAbs, b.natAbs)) (sd_seq_rt (sd_ret (ed_var rfl)))
  rintro ⟨m, n⟩
  induction n using Nat.strongRecOn generalizing m with
  | _ n ih =>
    by_cases hn : n = 0
    · subst hn
      refine ⟨0, ?_⟩
      rw [show Nat.gcd m 0 = m from Nat.gcd_zero_right m]
      exact .done (et_is (et_test (ed_op (ed_var rfl) ed_int rv_gt)) (by simp))
    · obtain ⟨j, hj⟩ := ih (m % n) (Nat.mod_lt _ (by omega)) n
      refine ⟨j + 1, .step (et_is (et_test (ed_op (ed_var rfl) ed_int rv_gt)) (by simp; omega)) (sd_seq (sd_par (ea_2 (ed_var rfl) (ed_op (ed_cb (ea_1 (ed_var rfl)) rc_intI) (ed_var rfl) (rv_mod (by omega))))) sd_next) ?_⟩
      have e1 : Nat.gcd m n = Nat.gcd n (m % n) := by rw [Nat.gcd_comm m n, Nat.gcd_rec n m, Nat.gcd_comm]
      show Wh K _ _ j _ [some (D.int (Nat.gcd m n : Nat)), some (D.int 0)]
      rw [e1]
      exact hj
theorem sc_lowest : FnScope ["top", "bottom", "common"] ["top", "bottom"] (defScope s_lowest) := ⟨rfl, rfl, rfl, by decide +kernel, rfl, by decide +kernel, by decide +kernel⟩
theorem ok_lowest (T : Facts K mg) : Ok P w K mg base 2 (He.ga K "lowest") ["top", "bottom"] (spP K RLowest) := by
  have G_common_divisor : Ok P w K mg base 1 _ _ _ := ok_common_divisor T
  refine Ok.rf T.F_lowest sc_lowest (fun fd F => F.bindsN fun _ _ _ _ _ _ us hl => match us, hl with | [_, _], _ => rfl) (fun _ => rfl) fun cdv A outer s H E hr x hx => ⟨_, (pss_cons (ps_set (i := 2) sc_lowest.nd rfl (by first | exact Or.inl rfl | exact Or.inr rfl) (G_common_divisor.pe (hr.mono (by decide)) rfl T.m_common_divisor (pa_cons (pv 0) (pa_cons (pv 1) pa_nil))))
      (pss_one (ps_ret (pe_tup (pa_cons (pe_op op_divX (pv 0) (pv 2)) (pa_cons (pe_op op_divX (pv 1) (pv 2)) pa_nil)))))), ?_⟩
  obtain ⟨a, b⟩ := x
  obtain ⟨hb, hg⟩ := hx
  have hb : 0 < b := hb
  have hg : (Int.gcd a b).log2 < 9000 := hg
  have hp := gcd_pos (a := a) hb
  have c : ∀ x : Int, CDivW x ((Int.gcd a b : Nat) : Int) := fun x => ⟨by omega, by simpa using hg⟩
  refine sd_seq (sd_set (ed_call (ea_2 (ed_var rfl) (ed_var rfl)) (rf (a, b) trivial))) (sd_seq_rt (sd_ret (ed_is (ed_t2 (ed_op (ed_var rfl) (ed_var rfl) (rv_div (c a))) (ed_op (ed_var rfl) (ed_var rfl) (rv_div (c b)))) ?_)))
  show _ = fr (Rat.divInt a b)
  unfold fr
  rw [← divInt_num hb, ← divInt_den hb]
theorem sc__law_low : FnScope ["_law_top", "_law_bottom", "_law_shared"] ["_law_top", "_law_bottom"] (defScope s__law_low) := ⟨rfl, rfl, rfl, by decide +kernel, rfl, by decide +kernel, by decide +kernel⟩
theorem ok__law_low (T : Facts K mg) : Ok P w K mg base 2 (He.ga K "_law_low") ["_law_top", "_law_bottom"] (spP K RLowest) := by
  have G__law_common : Ok P w K mg base 1 _ _ _ := ok__law_common T
  refine Ok.rf T.F__law_low sc__law_low (fun fd F => F.bindsN fun _ _ _ _ _ _ us hl => match us, hl with | [_, _], _ => rfl) (fun _ => rfl) fun cdv A outer s H E hr x hx => ⟨_, (pss_cons (ps_set (i := 2) sc__law_low.nd rfl (by first | exact Or.inl rfl | exact Or.inr rfl) (G__law_common.pe (hr.mono (by decide)) rfl T.m__law_common (pa_cons (pv 0) (pa_cons (pv 1) pa_nil))))
      (pss_one (ps_ret (pe_tup (pa_cons (pe_op op_divX (pv 0) (pv 2)) (pa_cons (pe_op op_divX (pv 1) (pv 2)) pa_nil)))))), ?_⟩
  obtain ⟨a, b⟩ := x
  obtain ⟨hb, hg⟩ := hx
  have hb : 0 < b := hb
  have hg : (Int.gcd a b).log2 < 9000 := hg
  have hp := gcd_pos (a := a) hb
  have c : ∀ x : Int, CDivW x ((Int.gcd a b : Nat) : Int) := fun x => ⟨by omega, by simpa using hg⟩
  refine sd_seq (sd_set (ed_call (ea_2 (ed_var rfl) (ed_var rfl)) (rf (a, b) trivial))) (sd_seq_rt (sd_ret (ed_is (ed_t2 (ed_op (ed_var rfl) (ed_var rfl) (rv_div (c a))) (ed_op (ed_var rfl) (ed_var rfl) (rv_div (c b)))) ?_)))
  show _ = fr (Rat.divInt a b)
  unfold fr
  rw [← divInt_num hb, ← divInt_den hb]
theorem sc_plus : FnScope ["one", "other"] ["one", "other"] (defScope s_plus) := ⟨rfl, rfl, rfl, by decide +kernel, rfl, by decide +kernel, by decide +kernel⟩
theorem ok_plus (T : Facts K mg) : Ok P w K mg base 3 (He.ga K "plus") ["one", "other"] (spP K RPlus) := by
  have G_lowest : Ok P w K mg base 2 _ _ _ := ok_lowest T
  refine Ok.rf T.F_plus sc_plus (fun fd F => F.bindsN fun _ _ _ _ _ _ us hl => match us, hl with | [_, _], _ => rfl) (fun _ => rfl) fun cdv A outer s H E hr x hx => ⟨_, (pss_one (ps_ret (G_lowest.pe (hr.mono (by decide)) rfl T.m_lowest (pa_cons (pe_op op_addX (pe_op (op_mulK (K := K) rfl) (pe_ix (ix_K (K := K) rfl) (pv 0) pe_int (fun _ _ => rfl)) (pe_ix (ix_K (K := K) rfl) (pv 1) pe_int (fun _ _ => rfl))) (pe_op (op_mulK (K := K) rfl) (pe_ix (ix_K (K := K) rfl) (pv 1) pe_int (fun _ _ => rfl)) (pe_ix (ix_K (K := K) rfl) (pv 0) pe_int (fun _ _ => rfl)))) (pa_cons (pe_op (op_mulK (K := K) rfl) (pe_ix (ix_K (K := K) rfl) (pv 0) pe_int (fun _ _ => rfl)) (pe_ix (ix_K (K := K) rfl) (pv 1) pe_int (fun _ _ => rfl))) pa_nil))))), ?_⟩
  obtain ⟨p, q⟩ := x
  obtain ⟨n, m, ⟨p1, p2⟩, ⟨q1, q2⟩, h⟩ := hx
  refine sd_ret (ed_is (ed_call (ea_2 (ed_op (ed_op (fr_0 (ed_var rfl)) (fr_1 (ed_var rfl)) (rv_mul (bd_mulw p1 (by simpa using q2) (by omega)))) (ed_op (fr_0 (ed_var rfl)) (fr_1 (ed_var rfl)) (rv_mul (bd_mulw q1 (by simpa using p2) (by omega)))) rv_add)
    (ed_op (fr_1 (ed_var rfl)) (fr_1 (ed_var rfl)) (rv_mul (bd_mulw (by simpa using p2) (by simpa using q2) (by omega))))) (rf (_, _) ⟨Int.mul_pos (den_pos p) (den_pos q), gcd_small (Int.mul_pos (den_pos p) (den_pos q)) (mul_bits (n := n) (m := m) (by simpa using p2) (by simpa using q2)) (by omega)⟩)) ?_)
  rw [← add_fr]
theorem sc__law_plus : FnScope ["_law_one", "_law_two"] ["_law_one", "_law_two"] (defScope s__law_plus) := ⟨rfl, rfl, rfl, by decide +kernel, rfl, by decide +kernel, by decide +kernel⟩
theorem ok__law_plus (T : Facts K mg) : Ok P w K mg base 3 (He.ga K "_law_plus") ["_law_one", "_law_two"] (spP K RPlus) := by
  have G__law_low : Ok P w K mg base 2 _ _ _ := ok__law_low T
  refine Ok.rf T.F__law_plus sc__law_plus (fun fd F => F.bindsN fun _ _ _ _ _ _ us hl => match us, hl with | [_, _], _ => rfl) (fun _ => rfl) fun cdv A outer s H E hr x hx => ⟨_, (pss_one (ps_ret (G__law_low.pe (hr.mono (by decide)) rfl T.m__law_low (pa_cons (pe_op op_addX (pe_op (op_mulK (K := K) rfl) (pe_ix (ix_K (K := K) rfl) (pv 0) pe_int (fun _ _ => rfl)) (pe_ix (ix_K (K := K) rfl) (pv 1) pe_int (fun _ _ => rfl))) (pe_op (op_mulK (K := K) rfl) (pe_ix (ix_K (K := K) rfl) (pv 1) pe_int (fun _ _ => rfl)) (pe_ix (ix_K (K := K) rfl) (pv 0) pe_int (fun _ _ => rfl)))) (pa_cons (pe_op (op_mulK (K := K) rfl) (pe_ix (ix_K (K := K) rfl) (pv 0) pe_int (fun _ _ => rfl)) (pe_ix (ix_K (K := K) rfl) (pv 1) pe_int (fun _ _ => rfl))) pa_nil))))), ?_⟩
  obtain ⟨p, q⟩ := x
  obtain ⟨n, m, ⟨p1, p2⟩, ⟨q1, q2⟩, h⟩ := hx
  refine sd_ret (ed_is (ed_call (ea_2 (ed_op (ed_op (fr_0 (ed_var rfl)) (fr_1 (ed_var rfl)) (rv_mul (bd_mulw p1 (by simpa using q2) (by omega)))) (ed_op (fr_0 (ed_var rfl)) (fr_1 (ed_var rfl)) (rv_mul (bd_mulw q1 (by simpa using p2) (by omega)))) rv_add)
    (ed_op (fr_1 (ed_var rfl)) (fr_1 (ed_var rfl)) (rv_mul (bd_mulw (by simpa using p2) (by simpa using q2) (by omega))))) (rf (_, _) ⟨Int.mul_pos (den_pos p) (den_pos q), gcd_small (Int.mul_pos (den_pos p) (den_pos q)) (mul_bits (n := n) (m := m) (by simpa using p2) (by simpa using q2)) (by omega)⟩)) ?_)
  rw [← add_fr]
theorem sc__law_times : FnScope ["_law_one", "_law_two"] ["_law_one", "_law_two"] (defScope s__law_times) := ⟨rfl, rfl, rfl, by decide +kernel, rfl, by decide +kernel, by decide +kernel⟩
theorem ok__law_times (T : Facts K mg) : Ok P w K mg base 3 (He.ga K "_law_times") ["_law_one", "_law_two"] (spP K RTimes) := by
  have G__law_low : Ok P w K mg base 2 _ _ _ := ok__law_low T
  refine Ok.rf T.F__law_times sc__law_times (fun fd F => F.bindsN fun _ _ _ _ _ _ us hl => match us, hl with | [_, _], _ => rfl) (fun _ => rfl) fun cdv A outer s H E hr x hx => ⟨_, (pss_one (ps_ret (G__law_low.pe (hr.mono (by decide)) rfl T.m__law_low (pa_cons (pe_op (op_mulK (K := K) rfl) (pe_ix (ix_K (K := K) rfl) (pv 0) pe_int (fun _ _ => rfl)) (pe_ix (ix_K (K := K) rfl) (pv 1) pe_int (fun _ _ => rfl))) (pa_cons (pe_op (op_mulK (K := K) rfl) (pe_ix (ix_K (K := K) rfl) (pv 0) pe_int (fun _ _ => rfl)) (pe_ix (ix_K (K := K) rfl) (pv 1) pe_int (fun _ _ => rfl))) pa_nil))))), ?_⟩
  obtain ⟨p, q⟩ := x
  obtain ⟨n, m, ⟨p1, p2⟩, ⟨q1, q2⟩, h⟩ := hx
  refine sd_ret (ed_is (ed_call (ea_2 (ed_op (fr_0 (ed_var rfl)) (fr_0 (ed_var rfl)) (rv_mul (bd_mulw p1 q1 (by omega))))
    (ed_op (fr_1 (ed_var rfl)) (fr_1 (ed_var rfl)) (rv_mul (bd_mulw (by simpa using p2) (by simpa using q2) (by omega))))) (rf (_, _) ⟨Int.mul_pos (den_pos p) (den_pos q), gcd_small (Int.mul_pos (den_pos p) (den_pos q)) (mul_bits (n := n) (m := m) (by simpa using p2) (by simpa using q2)) (by omega)⟩)) ?_)
  rw [← mul_fr]
theorem sc_is_less : FnScope ["one", "other"] ["one", "other"] (defScope s_is_less) := ⟨rfl, rfl, rfl, by decide +kernel, rfl, by decide +kernel, by decide +kernel⟩
theorem ok_is_less (T : Facts K mg) : Ok P w K mg base 1 (He.ga K "is_less") ["one", "other"] (spP K RLess) := by
  refine Ok.rf T.F_is_less sc_is_less (fun fd F => F.bindsN fun _ _ _ _ _ _ us hl => match us, hl with | [_, _], _ => rfl) (fun _ => rfl) fun cdv A outer s H E hr x hx => ⟨_, (pss_one (ps_ret (pe_cmpR op_ltX (pe_op (op_mulK (K := K) rfl) (pe_ix (ix_K (K := K) rfl) (pv 0) pe_int (fun _ _ => rfl)) (pe_ix (ix_K (K := K) rfl) (pv 1) pe_int (fun _ _ => rfl))) (pe_op (op_mulK (K := K) rfl) (pe_ix (ix_K (K := K) rfl) (pv 1) pe_int (fun _ _ => rfl)) (pe_ix (ix_K (K := K) rfl) (pv 0) pe_int (fun _ _ => rfl))) (nomark _)))), ?_⟩
  obtain ⟨p, q⟩ := x
  obtain ⟨n, m, ⟨p1, p2⟩, ⟨q1, q2⟩, h⟩ := hx
  refine sd_ret (ed_is (ed_op (ed_op (fr_0 (ed_var rfl)) (fr_1 (ed_var rfl)) (rv_mul (bd_mulw p1 (by simpa using q2) (by omega)))) (ed_op (fr_0 (ed_var rfl)) (fr_1 (ed_var rfl)) (rv_mul (bd_mulw q1 (by simpa using p2) (by omega)))) rv_lt) ?_)
  simp only [lt_fr]
theorem sc__law_less : FnScope ["_law_one", "_law_two"] ["_law_one", "_law_two"] (defScope s__law_less) := ⟨rfl, rfl, rfl, by decide +kernel, rfl, by decide +kernel, by decide +kernel⟩
theorem ok__law_less (T : Facts K mg) : Ok P w K mg base 1 (He.ga K "_law_less") ["_law_one", "_law_two"] (spP K RLess) := by
  refine Ok.rf T.F__law_less sc__law_less (fun fd F => F.bindsN fun _ _ _ _ _ _ us hl => match us, hl with | [_, _], _ => rfl) (fun _ => rfl) fun cdv A outer s H E hr x hx => ⟨_, (pss_one (ps_ret (pe_cmpR op_ltX (pe_op (op_mulK (K := K) rfl) (pe_ix (ix_K (K := K) rfl) (pv 0) pe_int (fun _ _ => rfl)) (pe_ix (ix_K (K := K) rfl) (pv 1) pe_int (fun _ _ => rfl))) (pe_op (op_mulK (K := K) rfl) (pe_ix (ix_K (K := K) rfl) (pv 1) pe_int (fun _ _ => rfl)) (pe_ix (ix_K (K := K) rfl) (pv 0) pe_int (fun _ _ => rfl))) (nomark _)))), ?_⟩
  obtain ⟨p, q⟩ := x
  obtain ⟨n, m, ⟨p1, p2⟩, ⟨q1, q2⟩, h⟩ := hx
  refine sd_ret (ed_is (ed_op (ed_op (fr_0 (ed_var rfl)) (fr_1 (ed_var rfl)) (rv_mul (bd_mulw p1 (by simpa using q2) (by omega)))) (ed_op (fr_0 (ed_var rfl)) (fr_1 (ed_var rfl)) (rv_mul (bd_mulw q1 (by simpa using p2) (by omega)))) rv_lt) ?_)
  simp only [lt_fr]
end
end Top
end
section
set_option Elab.async false
set_option linter.all false
set_option maxRecDepth 100000
set_option maxHeartbeats 4000000
/-! F2: kinds, sums, rows of fractions. -/
namespace Top
open PySem PySem.Spec PyProof.Rows L2 StX RZ Pu PySem.W
def rw_ (r : List Rat) : D := .tup (r.map fr)
theorem fr_plain (q : Rat) : plainD (fr q) = true := rfl
theorem fr_shaped (q : Rat) : SeqAt.shaped (toP (fr q)) = true := rfl
theorem eqv_fr (p q : Rat) : PyData.eqv (toP (fr p)) (toP (fr q)) = decide (p = q) := by
  unfold fr
  simp only [toP, toPs, PyData.eqv, PyData.eqvAll]
  by_cases h : p = q
  · subst h; simp
  · rw [decide_eq_false h]
    by_cases h1 : p.num = q.num
    · have h2 : ¬ p.den = q.den := fun h2 => h (Rat.ext h1 h2)
      have h3 : ¬ ((p.den : Int) = (q.den : Int)) := by omega
      simp [h3]
    · simp [beq_eq_false_iff_ne.mpr h1]
section
variable {K : PySem.W.Frag} {p q : Rat}
theorem rv_neF : RvD K (rNeD K) (fr p) (fr q) (.bl (!decide (p = q))) := by
  have z := rv_neD (K := K) (fr_plain p) (fr_plain q) (fr_shaped p) (fr_shaped q)
  rw [eqv_fr] at z; exact z
theorem rv_eqF : RvD K (rEqD K) (fr p) (fr q) (.bl (decide (p = q))) := by
  have z := rv_eqD (K := K) (fr_plain p) (fr_plain q) (fr_shaped p) (fr_shaped q)
  rw [eqv_fr] at z; exact z
end
/-! promises -/
abbrev RIsInt := RF (fun i : Int => [D.int i]) (fun _ => True) fun _ => .bl true
abbrev RBetween := RF (fun x : Int × Int × Int => [D.int x.1, D.int x.2.1, D.int x.2.2]) (fun _ => True) fun x => .bl (decide (x.2.1 ≤ x.1) && decide (x.1 ≤ x.2.2))
abbrev RIsFr := RF (fun x : Rat × Int × Int => [fr x.1, D.int x.2.1, D.int x.2.2]) (fun _ => True) fun x => .bl (fits x.1 x.2.1 x.2.2)
abbrev ROver := RF ATwo (fun x => OTwo x ∧ 0 < x.2) fun x => fr (x.1 / x.2)
abbrev RAdded := RF (fun l : List Rat => [D.lst (l.map fr)]) (fun l => AddOk 0 l) fun l => fr (sumQ 0 l)
def lexR : List Rat → List Rat → Bool
  | p :: ps, q :: qs => if p = q then lexR ps qs else decide (p < q)
  | _, _ => false
abbrev RLessRow := RF (fun x : List Rat × List Rat => [rw_ x.1, rw_ x.2]) RowsOk fun x => .bl (lexR x.1 x.2)
abbrev RMinus := RF (fun q : Rat => [fr q]) (fun _ => True) fun q => fr (-q)
abbrev RWorth := RF (fun x : List Int × List Rat => [D.tup (x.1.map D.int), rw_ x.2]) WorthOk fun x => fr (wor x.1 x.2)
section
variable {P : Program} {w : World} {K : PySem.W.Frag} {mg : Str → Option Value} {base : Heap}
theorem sc_is_integer : FnScope ["value"] ["value"] (defScope s_is_integer) := ⟨rfl, rfl, rfl, by decide +kernel, rfl, by decide +kernel, by decide +kernel⟩
theorem ok_is_integer (T : Facts K mg) : Ok P w K mg base 1 (He.ga K "is_integer") ["value"] (spP K RIsInt) := by
  refine Ok.rf T.F_is_integer sc_is_integer (fun fd F => F.bindsN fun _ _ _ _ _ _ us hl => match us, hl with | [_], _ => rfl) (fun _ => rfl) fun cdv A outer s H E hr x hx => ⟨_, (pss_one (ps_ret (pe_and (pe_callB (call_isiK' (K := K) rfl) rfl T.b_isinstance (by decide +kernel) (pa_cons (pv 0) (pa_cons (pe_bltn (v := .ty "int") rfl T.b_int (by decide +kernel) rfl) pa_nil))) (pe_one (pe_not (pe_callB (call_isiK' (K := K) rfl) rfl T.b_isinstance (by decide +kernel) (pa_cons (pv 0) (pa_cons (pe_bltn (v := .ty "bool") rfl T.b_bool (by decide +kernel) rfl) pa_nil)))))))), ?_⟩
  exact sd_ret (ed_is (ed_andV (isi_int rfl (ed_var rfl)) fun _ => ed_notV (isi_int rfl (ed_var rfl))) rfl)
theorem sc_is_between : FnScope ["value", "low", "high"] ["value", "low", "high"] (defScope s_is_between) := ⟨rfl, rfl, rfl, by decide +kernel, rfl, by decide +kernel, by decide +kernel⟩
theorem ok_is_between (T : Facts K mg) : Ok P w K mg base 2 (He.ga K "is_between") ["value", "low", "high"] (spP K RBetween) := by
  have G_is_integer : Ok P w K mg base 1 _ _ _ := ok_is_integer T
  refine Ok.rf T.F_is_between sc_is_between (fun fd F => F.bindsN fun _ _ _ _ _ _ us hl => match us, hl with | [_, _, _], _ => rfl) (fun _ => rfl) fun cdv A outer s H E hr x hx => ⟨_, (pss_one (ps_ret (pe_and (G_is_integer.pe (hr.mono (by decide)) rfl T.m_is_integer (pa_cons (pv 0) pa_nil)) (pe_one (pe_chain op_leX op_leX (pv 1) (pv 0) (pv 2)))))), ?_⟩
  exact sd_ret (ed_is (ed_andV (ed_call (ea_1 (ed_var rfl)) (rf _ trivial)) fun _ => ed_chain (ed_var rfl) (ed_var rfl) rv_le (fun _ => ed_var rfl) fun _ => rv_le) rfl)
theorem sc_is_fraction : FnScope ["value", "top", "bottom"] ["value", "top", "bottom"] (defScope s_is_fraction) := ⟨rfl, rfl, rfl, by decide +kernel, rfl, by decide +kernel, by decide +kernel⟩
theorem ok_is_fraction (T : Facts K mg) : Ok P w K mg base 3 (He.ga K "is_fraction") ["value", "top", "bottom"] (spP K RIsFr) := by
  have G_is_between : Ok P w K mg base 2 _ _ _ := ok_is_between T
  have G_common_divisor : Ok P w K mg base 1 _ _ _ := ok_common_divisor T
  refine Ok.rf T.F_is_fraction sc_is_fraction (fun fd F => F.bindsN fun _ _ _ _ _ _ us hl => match us, hl with | [_, _, _], _ => rfl) (fun _ => rfl) fun cdv A outer s H E hr x hx => ⟨_, (pss_cons (ps_if (PW.pt (pw_or (pt_not (pt_val (pe_callB (call_isiK' (K := K) rfl) rfl T.b_isinstance (by decide +kernel) (pa_cons (pv 0) (pa_cons (pe_bltn (v := .ty "tuple") rfl T.b_tuple (by decide +kernel) rfl) pa_nil))))) (pw_or1 (pt_cmpR (op_neK (K := K) rfl hr.units) (pe_callB (call_lenK (K := K) rfl) rfl T.b_len (by decide +kernel) (pa_cons (pv 0) pa_nil)) pe_int (nomark _))))) (pss_one (ps_ret pe_bl)) pss_nil)
      (pss_cons (ps_if (PW.pt (pw_or (pt_not (pt_val (G_is_between.pe (hr.mono (by decide)) rfl T.m_is_between (pa_cons (pe_ix (ix_K (K := K) rfl) (pv 0) pe_int (fun _ _ => rfl)) (pa_cons (pe_un un_negX (pv 1)) (pa_cons (pv 1) pa_nil)))))) (pw_or1 (pt_not (pt_val (G_is_between.pe (hr.mono (by decide)) rfl T.m_is_between (pa_cons (pe_ix (ix_K (K := K) rfl) (pv 0) pe_int (fun _ _ => rfl)) (pa_cons pe_int (pa_cons (pv 2) pa_nil))))))))) (pss_one (ps_ret pe_bl)) pss_nil)
      (pss_one (ps_ret (pe_cmpR (op_eqK (K := K) rfl hr.units) (G_common_divisor.pe (hr.mono (by decide)) rfl T.m_common_divisor (pa_cons (pe_ix (ix_K (K := K) rfl) (pv 0) pe_int (fun _ _ => rfl)) (pa_cons (pe_ix (ix_K (K := K) rfl) (pv 0) pe_int (fun _ _ => rfl)) pa_nil))) pe_int (nomark _)))))), ?_⟩
  obtain ⟨q, t, b⟩ := x
  have hd := q.den_pos
  refine sd_seq (sd_if (j := false) (et_is (et_or (et_not (et_B (isi_tup rfl (ed_var rfl)))) fun _ => et_test (ed_op (ed_cb (ea_1 (ed_var rfl)) rc_lenT) ed_int rv_neI)) (by simp)) (fun h => by cases h) fun _ => sd_next) ?_
  cases hft : fits q t b with
  | true =>
    refine sd_seq (sd_if (j := false) (et_is (et_or (et_not (et_B (ed_call (ea_3 (fr_0 (ed_var rfl)) (ed_un (ed_var rfl) ru_neg) (ed_var rfl)) (rf (_, _, _) trivial)))) fun _ => et_not (et_B (ed_call (ea_3 (fr_1 (ed_var rfl)) ed_int (ed_var rfl)) (rf (_, _, _) trivial)))) ?_) (fun h => by cases h) fun _ => sd_next) ?_
    · simp only [fits, Bool.and_eq_true, decide_eq_true_eq] at hft
      obtain ⟨⟨f1, f2⟩, f3⟩ := hft
      have f4 : (1 : Int) ≤ (q.den : Nat) := by omega
      dsimp only
      rw [decide_eq_true f1, decide_eq_true f2, decide_eq_true f3, decide_eq_true f4]; rfl
    · refine sd_seq_rt (sd_ret (ed_is (ed_op (ed_call (ea_2 (fr_0 (ed_var rfl)) (fr_1 (ed_var rfl))) (rf (_, _) trivial)) ed_int rv_eqI) ?_))
      have hg : Int.gcd q.num (q.den : Nat) = 1 := q.reduced
      show D.bl (decide (((Int.gcd q.num (q.den : Nat) : Nat) : Int) = 1)) = D.bl true
      rw [hg]; rfl
  | false =>
    refine sd_seq_rt (sd_if (j := true) (et_is (et_or (et_not (et_B (ed_call (ea_3 (fr_0 (ed_var rfl)) (ed_un (ed_var rfl) ru_neg) (ed_var rfl)) (rf (_, _, _) trivial)))) fun _ => et_not (et_B (ed_call (ea_3 (fr_1 (ed_var rfl)) ed_int (ed_var rfl)) (rf (_, _, _) trivial)))) ?_) (fun _ => sd_ret (ed_is ed_bl ?_)) fun h => by cases h)
    · simp only [fits] at hft
      have h1 : decide ((1 : Int) ≤ (q.den : Nat)) = true := decide_eq_true (by omega)
      dsimp only
      rw [h1, Bool.true_and, ← Bool.not_and, hft]; rfl
    · rfl
theorem sc_over : FnScope ["one", "other"] ["one", "other"] (defScope s_over) := ⟨rfl, rfl, rfl, by decide +kernel, rfl, by decide +kernel, by decide +kernel⟩
theorem ok_over (T : Facts K mg) : Ok P w K mg base 3 (He.ga K "over") ["one", "other"] (spP K ROver) := by
  have G_lowest : Ok P w K mg base 2 _ _ _ := ok_lowest T
  refine Ok.rf T.F_over sc_over (fun fd F => F.bindsN fun _ _ _ _ _ _ us hl => match us, hl with | [_, _], _ => rfl) (fun _ => rfl) fun cdv A outer s H E hr x hx => ⟨_, (pss_one (ps_ret (G_lowest.pe (hr.mono (by decide)) rfl T.m_lowest (pa_cons (pe_op (op_mulK (K := K) rfl) (pe_ix (ix_K (K := K) rfl) (pv 0) pe_int (fun _ _ => rfl)) (pe_ix (ix_K (K := K) rfl) (pv 1) pe_int (fun _ _ => rfl))) (pa_cons (pe_op (op_mulK (K := K) rfl) (pe_ix (ix_K (K := K) rfl) (pv 0) pe_int (fun _ _ => rfl)) (pe_ix (ix_K (K := K) rfl) (pv 1) pe_int (fun _ _ => rfl))) pa_nil))))), ?_⟩
  obtain ⟨p, q⟩ := x
  obtain ⟨⟨n, m, ⟨p1, p2⟩, ⟨q1, q2⟩, h⟩, hq⟩ := hx
  have hn : 0 < q.num := by have := (lt_fr 0 q).mp hq; simpa using this
  have hpos : 0 < (p.den : Nat) * q.num := Int.mul_pos (den_pos p) hn
  refine sd_ret (ed_is (ed_call (ea_2 (ed_op (fr_0 (ed_var rfl)) (fr_1 (ed_var rfl)) (rv_mul (bd_mulw p1 (by simpa using q2) (by omega))))
    (ed_op (fr_1 (ed_var rfl)) (fr_0 (ed_var rfl)) (rv_mul (bd_mulw (by simpa using p2) q1 (by omega))))) (rf (_, _) ⟨hpos, gcd_small hpos (mul_bits (n := n) (m := m) (by simpa using p2) q1) (by omega)⟩)) ?_)
  show fr (Rat.divInt (p.num * (q.den : Nat)) ((p.den : Nat) * q.num)) = fr (p / q)
  congr 1
  rw [Rat.div_def, Rat.inv_def, ← Rat.divInt_mul_divInt, Rat.num_divInt_den]
theorem sc_added : FnScope ["some", "total", "one"] ["some"] (defScope s_added) := ⟨rfl, rfl, rfl, by decide +kernel, rfl, by decide +kernel, by decide +kernel⟩
theorem ok_added (T : Facts K mg) : Ok P w K mg base 4 (He.ga K "added") ["some"] (spP K RAdded) := by
  have G_plus : Ok P w K mg base 3 _ _ _ := ok_plus T
  refine Ok.rf T.F_added sc_added (fun fd F => F.bindsN fun _ _ _ _ _ _ us hl => match us, hl with | [_], _ => rfl) (fun _ => rfl) fun cdv A outer s H E hr x hx => ⟨_, (pss_cons (ps_set (i := 1) sc_added.nd rfl (by first | exact Or.inl rfl | exact Or.inr rfl) (pe_tup (pa_cons pe_int (pa_cons pe_int pa_nil))))
      (pss_cons (ps_for PassesOwn.never rfl (pi_seqK (K := K) rfl (pv 0)) (pg_name (i := 2) sc_added.nd rfl (by first | exact Or.inl rfl | exact Or.inr rfl)) (pss_one (ps_set (i := 1) sc_added.nd rfl (by first | exact Or.inl rfl | exact Or.inr rfl) (G_plus.pe (hr.mono (by decide)) rfl T.m_plus (pa_cons (pv 1) (pa_cons (pv 2) pa_nil))))))
      (pss_one (ps_ret (pv 1))))), ?_⟩
  refine sd_seq (sd_set (ed_is (ed_t2 ed_int ed_int) (show _ = fr 0 from rfl))) ?_
  refine sd_seq (sd_from (by repeat (first | exact .nil | apply Wk.same | apply Wk.none)) (sd_fold (fun t => [some (.lst (x.map fr)), some (fr t), none]) (fun t q => t + q) AddOk (xs := x) (0 : Rat) (id_seqL (ed_var rfl)) hx fun t q l h => ⟨h.2, _, _, tg_name, ?_⟩)) (sd_seq_rt (sd_ret (ed_var rfl)))
  exact sd_weak (sd_seq (sd_set (ed_call (ea_2 (ed_var rfl) (ed_var rfl)) (rf (t, q) h.1))) sd_next) (by repeat (first | exact .nil | apply Wk.same | apply Wk.none))
end
end Top
end
section
set_option Elab.async false
set_option linter.all false
set_option maxRecDepth 100000
set_option maxHeartbeats 4000000
/-! F3: rows of fractions, worths. -/
namespace Top
open PySem PySem.Spec PyProof.Rows L2 StX RZ Pu PySem.W
def findL (x : Rat × Rat) : Option D := if x.1 = x.2 then none else some (.bl (decide (x.1 < x.2)))
theorem findL_lex : ∀ l : List (Rat × Rat), (l.findSome? findL = none ∧ lexZ l = false) ∨ l.findSome? findL = some (.bl (lexZ l))
  | [] => .inl ⟨rfl, rfl⟩
  | (p, q) :: l => by
    by_cases h : p = q
    · have e1 : findL (p, q) = none := if_pos h
      have e2 : lexZ ((p, q) :: l) = lexZ l := if_pos h
      rw [List.findSome?_cons, e1, e2]
      exact findL_lex l
    · have e1 : findL (p, q) = some (.bl (decide (p < q))) := if_neg h
      have e2 : lexZ ((p, q) :: l) = decide (p < q) := if_neg h
      rw [List.findSome?_cons, e1, e2]
      exact .inr rfl
abbrev RLessR := RF (fun x : List Rat × List Rat => [rw_ x.1, rw_ x.2]) RowsOk fun x => .bl (lessRow x.1 x.2)
theorem plain_frs : ∀ r : List Rat, plainDs (r.map fr) = true
  | [] => rfl
  | q :: r => by rw [List.map_cons]; simp only [plainDs, fr_plain, plain_frs r, Bool.and_self]
theorem rw_plain (r : List Rat) : plainD (rw_ r) = true := by unfold rw_; simp only [plainD]; exact plain_frs r
theorem lay_frs : ∀ r : List Rat, PyData.canLayAll0 (toPs (r.map fr)) = true ∧ PyData.depthAll (toPs (r.map fr)) ≤ 1
  | [] => ⟨rfl, by decide⟩
  | q :: r => by
    obtain ⟨h1, h2⟩ := lay_frs r
    rw [List.map_cons]
    simp only [toPs, PyData.canLayAll0, PyData.depthAll]
    refine ⟨by rw [h1]; rfl, ?_⟩
    have : PyData.depth (toP (fr q)) = 1 := rfl
    rw [this]; omega
theorem rw_shaped (r : List Rat) : SeqAt.shaped (toP (rw_ r)) = true := by
  obtain ⟨h1, h2⟩ := lay_frs r
  unfold rw_ SeqAt.shaped
  simp only [toP, PyData.canLay0, PyData.depth, h1, Bool.true_and, decide_eq_true_eq]
  omega
theorem eqvAll_frs : ∀ a b : List Rat, PyData.eqvAll (toPs (a.map fr)) (toPs (b.map fr)) = decide (a = b)
  | [], [] => rfl
  | [], _ :: _ => by simp [toPs, PyData.eqvAll]
  | _ :: _, [] => by simp [toPs, PyData.eqvAll]
  | p :: a, q :: b => by
    rw [List.map_cons, List.map_cons]
    simp only [toPs, PyData.eqvAll, eqv_fr, eqvAll_frs a b]
    by_cases h1 : p = q <;> by_cases h2 : a = b <;> simp [h1, h2]
theorem eqv_rw (a b : List Rat) : PyData.eqv (toP (rw_ a)) (toP (rw_ b)) = decide (a = b) := by
  unfold rw_; simp only [toP, PyData.eqv]; exact eqvAll_frs a b
theorem rv_neR {K : PySem.W.Frag} {a b : List Rat} : RvD K (rNeD K) (rw_ a) (rw_ b) (.bl (!decide (a = b))) := by
  have z := rv_neD (K := K) (rw_plain a) (rw_plain b) (rw_shaped a) (rw_shaped b)
  rw [eqv_rw] at z; exact z
theorem ahead_le (r : List Rat) (found : List (List Rat)) : ahead r found ≤ found.length := (List.takeWhile_prefix _).length_le
theorem ahead_lt {r : List Rat} : ∀ {found : List (List Rat)} {i : Nat}, i < ahead r found → ∃ f, found[i]? = some f ∧ lessRow f r = true
  | [], _, h => by simp [ahead] at h
  | f :: l, 0, h => by
    unfold ahead at h
    rw [List.takeWhile_cons] at h
    split at h
    · rename_i q; exact ⟨f, rfl, q⟩
    · simp at h
  | f :: l, i + 1, h => by
    unfold ahead at h
    rw [List.takeWhile_cons] at h
    split at h
    · have h2 : i < ahead r l := by unfold ahead; simpa using h
      obtain ⟨g, h3, h4⟩ := ahead_lt h2
      exact ⟨g, by simpa using h3, h4⟩
    · simp at h
theorem ahead_at {r : List Rat} : ∀ {found : List (List Rat)} {f : List Rat}, found[ahead r found]? = some f → lessRow f r = false
  | [], _, h => by simp at h
  | g :: l, f, h => by
    unfold ahead at h
    rw [List.takeWhile_cons] at h
    split at h
    · exact ahead_at (r := r) (found := l) (by unfold ahead; simpa using h)
    · rename_i q
      simp at h; subst h
      exact Bool.eq_false_iff.mpr q
abbrev ROrdered := RF (fun rows : List (List Rat) => [D.lst (rows.map rw_)]) (fun rows => rows.length ≤ 100000 ∧ ∀ a b, a ∈ rows → b ∈ rows → RowsOk (a, b)) fun rows => .lst ((ordR rows).map rw_)
theorem insR_sub {found : List (List Rat)} {r x : List Rat} (h : x ∈ insR found r) : x ∈ found ∨ x = r := by
  unfold insR at h
  split at h
  · simp only [List.mem_append, List.mem_singleton] at h
    rcases h with (h | h) | h
    · exact .inl (List.mem_of_mem_take h)
    · exact .inr h
    · exact .inl (List.mem_of_mem_drop h)
  · exact .inl h
theorem insR_len (found : List (List Rat)) (r : List Rat) : (insR found r).length ≤ found.length + 1 := by
  unfold insR
  split
  · have := ahead_le r found
    simp; omega
  · omega
section
variable {P : Program} {w : World} {K : PySem.W.Frag} {mg : Str → Option Value} {base : Heap}
theorem sc_is_less_row : FnScope ["one", "other", "own", "far"] ["one", "other"] (defScope s_is_less_row) := ⟨rfl, rfl, rfl, by decide +kernel, rfl, by decide +kernel, by decide +kernel⟩
theorem ok_is_less_row (T : Facts K mg) : Ok P w K mg base 2 (He.ga K "is_less_row") ["one", "other"] (spP K RLessR) := by
  have G_is_less : Ok P w K mg base 1 _ _ _ := ok_is_less T
  refine Ok.rf T.F_is_less_row sc_is_less_row (fun fd F => F.bindsN fun _ _ _ _ _ _ us hl => match us, hl with | [_, _], _ => rfl) (fun _ => rfl) fun cdv A outer s H E hr x hx => ⟨_, (pss_cons (ps_for PassesOwn.never rfl (pi_zipK (K := K) rfl rfl T.b_zip (pa_cons (pv 0) (pa_cons (pv 1) pa_nil))) (pg_tupK (n := 2) (K := K) rfl rfl (pgs_cons (pg_name (i := 2) sc_is_less_row.nd rfl (by first | exact Or.inl rfl | exact Or.inr rfl)) (pgs_cons (pg_name (i := 3) sc_is_less_row.nd rfl (by first | exact Or.inl rfl | exact Or.inr rfl)) pgs_nil))) (pss_one (ps_if (pt_cmpR (op_neK (K := K) rfl hr.units) (pv 2) (pv 3) (nomark _)) (pss_one (ps_ret (G_is_less.pe (hr.mono (by decide)) rfl T.m_is_less (pa_cons (pv 2) (pa_cons (pv 3) pa_nil))))) pss_nil)))
      (pss_one (ps_ret pe_bl))), ?_⟩
  obtain ⟨a, b⟩ := x
  refine sd_searchQ [some (rw_ a), some (rw_ b), none, none] findL (xs := a.zip b) (enc := fun p => .tup [fr p.1, fr p.2]) (by rw [← zipD_map]; exact id_zipXT (ea_2 (ed_var rfl) (ed_var rfl))) (fun ⟨p, q⟩ hm => ⟨_, _, tg_tup (tgs_cons tg_name (tgs_cons tg_name tgs_nil)) rfl, ?_⟩) (fun h => sd_seq_rt (sd_ret (ed_is ed_bl ?_))) fun d h => ?_
  · by_cases h : p = q
    · exact .inl ⟨if_pos h, sd_weak (sd_seq (sd_if (j := false) (et_is (et_test (ed_op (ed_var rfl) (ed_var rfl) rv_neF)) (by simp [h])) (fun h => by cases h) fun _ => sd_next) sd_next) (by repeat (first | exact .nil | apply Wk.same | apply Wk.none))⟩
    · exact .inr ⟨_, if_neg h, sd_seq_rt (sd_if (j := true) (et_is (et_test (ed_op (ed_var rfl) (ed_var rfl) rv_neF)) (by simp [h])) (fun _ => sd_seq_rt (sd_ret (ed_call (ea_2 (ed_var rfl) (ed_var rfl)) (rf (p, q) (hx p q hm))))) fun h => by cases h)⟩
  · show _ = D.bl (lessRow a b)
    unfold lessRow
    rcases findL_lex (a.zip b) with ⟨_, h2⟩ | h1
    · rw [h2]
    · rw [h] at h1; cases h1
  · show Out.rt (D.bl (lessRow a b)) = _
    unfold lessRow
    rcases findL_lex (a.zip b) with ⟨h1, _⟩ | h1
    · rw [h] at h1; cases h1
    · rw [h] at h1; cases h1; rfl
end
end Top
end
section
set_option Elab.async false
set_option linter.all false
set_option maxRecDepth 100000
set_option maxHeartbeats 4000000
/-! F4: ordered, chances of points, worths. -/
namespace Top
open PySem PySem.Spec PyProof.Rows L2 StX RZ Pu PySem.W
abbrev RChanceOf := RF (fun ns : List Int => [D.tup (ns.map D.int)]) (fun ns => ns.length ≤ 1000 ∧ 0 < ns.sum ∧ ns.sum.natAbs < 2 ^ 8000) fun ns => rw_ (ns.map fun n => Rat.divInt n ns.sum)
abbrev RCommonOf := RF (fun ns : List Int => [D.lst (ns.map D.int)]) (fun _ => True) fun ns => .int (ns.foldl (fun (g : Int) n => ((Int.gcd g n : Nat) : Int)) 0)
abbrev RLeast := RF (fun x : Rat × List Rat => [D.lst ((x.1 :: x.2).map fr)]) (fun x => ∀ p q, p ∈ x.1 :: x.2 → q ∈ x.1 :: x.2 → OTwo (p, q)) fun x => fr (minQ x.1 (x.1 :: x.2))
abbrev RMayPass := RF (fun r : List Rat => [rw_ r]) (fun r => r ≠ [] ∧ r.length ≤ 1000) fun r => .bl (mayPass r)
theorem max_ex : ∀ {l : List Int}, l ≠ [] → ∃ m, m ∈ l ∧ ∀ y, y ∈ l → y ≤ m
  | [], h => absurd rfl h
  | [a], _ => ⟨a, by simp, fun y hy => by simp at hy; omega⟩
  | a :: b :: l, _ => by
    obtain ⟨m, h1, h2⟩ := max_ex (l := b :: l) (by simp)
    by_cases q : a ≤ m
    · refine ⟨m, List.mem_cons_of_mem _ h1, fun y hy => ?_⟩
      rcases List.mem_cons.mp hy with z | z
      · omega
      · exact h2 y z
    · refine ⟨a, List.mem_cons_self, fun y hy => ?_⟩
      rcases List.mem_cons.mp hy with z | z
      · omega
      · have := h2 y z; omega
section
variable {P : Program} {w : World} {K : PySem.W.Frag} {mg : Str → Option Value} {base : Heap}
theorem sc_ordered : FnScope ["rows", "found", "row", "place"] ["rows"] (defScope s_ordered) := ⟨rfl, rfl, rfl, by decide +kernel, rfl, by decide +kernel, by decide +kernel⟩
theorem ok_ordered (T : Facts K mg) : Ok P w K mg base 3 (He.ga K "ordered") ["rows"] (spP K ROrdered) := by
  have G_is_less_row : Ok P w K mg base 2 _ _ _ := ok_is_less_row T
  refine Ok.rf T.F_ordered sc_ordered (fun fd F => F.bindsN fun _ _ _ _ _ _ us hl => match us, hl with | [_], _ => rfl) (fun _ => rfl) fun cdv A outer s H E hr x hx => ⟨_, (pss_cons (ps_set (i := 1) sc_ordered.nd rfl (by first | exact Or.inl rfl | exact Or.inr rfl) (pe_lst pa_nil))
      (pss_cons (ps_for PassesOwn.never rfl (pi_seqK (K := K) rfl (pv 0)) (pg_name (i := 2) sc_ordered.nd rfl (by first | exact Or.inl rfl | exact Or.inr rfl)) (pss_cons (ps_set (i := 3) sc_ordered.nd rfl (by first | exact Or.inl rfl | exact Or.inr rfl) pe_int)
      (pss_cons (ps_while PassesOwn.never (PW.pt (pw_and (pt_cmpR op_ltX (pv 3) (pe_callB (call_lenK (K := K) rfl) rfl T.b_len (by decide +kernel) (pa_cons (pv 1) pa_nil)) (nomark _)) (pw_and1 (pt_val (G_is_less_row.pe (hr.mono (by decide)) rfl T.m_is_less_row (pa_cons (pe_ix (ix_K (K := K) rfl) (pv 1) (pv 3) (fun _ _ => rfl)) (pa_cons (pv 2) pa_nil))))))) (pss_one (ps_aug (i := 3) sc_ordered.nd rfl (by first | exact Or.inl rfl | exact Or.inr rfl) pe_int ip_add)))
      (pss_one (ps_if (PW.pt (pw_or (pt_cmpR (op_eqK (K := K) rfl hr.units) (pv 3) (pe_callB (call_lenK (K := K) rfl) rfl T.b_len (by decide +kernel) (pa_cons (pv 1) pa_nil)) (nomark _)) (pw_or1 (pt_cmpR (op_neK (K := K) rfl hr.units) (pe_ix (ix_K (K := K) rfl) (pv 1) (pv 3) (fun _ _ => rfl)) (pv 2) (nomark _))))) (pss_one (ps_set (i := 1) sc_ordered.nd rfl (by first | exact Or.inl rfl | exact Or.inr rfl) (pe_op op_addX (pe_op op_addX (pe_slice (sl_K (K := K) rfl) (pv 1) po_none (po_some (pv 3))) (pe_lst (pa_cons (pv 2) pa_nil))) (pe_slice (sl_K (K := K) rfl) (pv 1) (po_some (pv 3)) po_none)))) pss_nil)))))
      (pss_one (ps_ret (pv 1))))), ?_⟩
  obtain ⟨hl, hx⟩ := hx
  refine sd_seq (sd_set ed_l0) ?_
  refine sd_seq (sd_from (by repeat (first | exact .nil | apply Wk.same | apply Wk.none)) (sd_fold (fun f : List (List Rat) => [some (.lst (x.map rw_)), some (.lst (f.map rw_)), none, none]) insR
    (fun f l => (∀ r ∈ f, r ∈ x) ∧ (∀ r ∈ l, r ∈ x) ∧ f.length + l.length ≤ 100000) (xs := x) [] (id_seqL (ed_var rfl)) ⟨by simp, fun r h => h, by simpa using hl⟩ fun f r l h => ?_)) (sd_seq_rt (sd_ret (ed_var rfl)))
  obtain ⟨h1, h2, h3⟩ := h
  have hr' : r ∈ x := h2 r List.mem_cons_self
  have hlen := insR_len f r
  rw [List.length_cons] at h3
  refine ⟨⟨fun y hy => ?_, fun y hy => h2 y (List.mem_cons_of_mem _ hy), by omega⟩, _, _, tg_name, ?_⟩
  · rcases insR_sub hy with z | z
    · exact h1 y z
    · rw [z]; exact hr'
  refine sd_seq (sd_set ed_int) ?_
  have hle := ahead_le r f
  refine sd_seq (sd_while (f := fun i : Nat => [some (.lst (x.map rw_)), some (.lst (f.map rw_)), some (rw_ r), some (.int (i : Nat))]) (ahead r f) rfl (fun i hi => ?_) (fun i hi => ?_) ?_) ?_
  · obtain ⟨g, hg, hlt⟩ := ahead_lt hi
    refine et_is (et_and (et_test (ed_op (ed_var rfl) (ed_cb (ea_1 (ed_var rfl)) rc_lenL) rv_lt)) fun _ => et_B (ed_call (ea_2 (ed_op (ed_var rfl) (ed_var rfl) (rv_ixL (d := rw_ g) (by rw [List.getElem?_map, hg]; rfl))) (ed_var rfl)) (rf (g, r) (hx g r (h1 g (List.mem_of_getElem? hg)) hr')))) ?_
    show (decide ((i : Int) < ((f.map rw_).length : Nat)) && lessRow g r) = true
    rw [hlt, List.length_map, decide_eq_true (by omega)]; rfl
  · exact sd_seq (sd_aug rfl ed_int rv_addIp) sd_next
  · by_cases hlt : ahead r f < f.length
    · have hg : f[ahead r f]? = some f[ahead r f] := by simp [hlt]
      refine et_is (et_and (et_test (ed_op (ed_var rfl) (ed_cb (ea_1 (ed_var rfl)) rc_lenL) rv_lt)) fun _ => et_B (ed_call (ea_2 (ed_op (ed_var rfl) (ed_var rfl) (rv_ixL (d := rw_ f[ahead r f]) (by rw [List.getElem?_map, hg]; rfl))) (ed_var rfl)) (rf (f[ahead r f], r) (hx _ r (h1 _ (List.mem_of_getElem? hg)) hr')))) ?_
      show (_ && lessRow f[ahead r f] r) = false
      rw [ahead_at hg, Bool.and_false]
    · refine et_is (et_and (k := true) (et_test (ed_op (ed_var rfl) (ed_cb (ea_1 (ed_var rfl)) rc_lenL) rv_lt)) fun h => ?_) ?_
      · rw [List.length_map] at h
        have := of_decide_eq_true h
        omega
      · rw [List.length_map, decide_eq_false (by omega)]; rfl
  · by_cases hc : ahead r f = f.length ∨ f[ahead r f]? ≠ some r
    · have ei : insR f r = f.take (ahead r f) ++ [r] ++ f.drop (ahead r f) := if_pos hc
      rw [ei]
      refine sd_weak (sd_seq (sd_if (j := true) ?_ (fun _ => sd_seq (sd_set (ed_is (ed_op (ed_op (ed_cut (ed_var rfl) eo_none (eo_some (ed_var rfl))) (ed_l1 (ed_var rfl)) (rv_cat (by rw [cutD_take (by simpa using hle)]; simp; omega))) (ed_cut (ed_var rfl) (eo_some (ed_var rfl)) eo_none) (rv_cat (by rw [cutD_take (by simpa using hle), cutD_drop (by simpa using hle)]; simp; omega))) (show _ = D.lst ((f.take (ahead r f) ++ [r] ++ f.drop (ahead r f)).map rw_) from ?_))) sd_next) fun h => by cases h) sd_next) (by repeat (first | exact .nil | apply Wk.same | apply Wk.none))
      · by_cases hlt : ahead r f < f.length
        · have hg : f[ahead r f]? = some f[ahead r f] := by simp [hlt]
          have hne : f[ahead r f] ≠ r := fun z => by
            rcases hc with q | q
            · omega
            · exact q (by rw [hg, z])
          refine et_is (et_or (et_test (ed_op (ed_var rfl) (ed_cb (ea_1 (ed_var rfl)) rc_lenL) rv_eqI)) fun _ => et_test (ed_op (ed_op (ed_var rfl) (ed_var rfl) (rv_ixL (d := rw_ f[ahead r f]) (by rw [List.getElem?_map, hg]; rfl))) (ed_var rfl) rv_neR)) ?_
          rw [decide_eq_false hne]; simp
        · refine et_is (et_or (k := true) (et_test (ed_op (ed_var rfl) (ed_cb (ea_1 (ed_var rfl)) rc_lenL) rv_eqI)) fun h => ?_) ?_
          · rw [List.length_map] at h
            have := of_decide_eq_false h
            omega
          · rw [List.length_map, decide_eq_true (by omega)]; rfl
      · rw [cutD_take (by simpa using hle), cutD_drop (by simpa using hle)]
        simp
    · have ei : insR f r = f := if_neg hc
      rw [ei]
      have hlt : ahead r f < f.length := by
        by_cases q : ahead r f = f.length
        · exact absurd (.inl q) hc
        · omega
      have hg : f[ahead r f]? = some f[ahead r f] := by simp [hlt]
      have he : f[ahead r f] = r := Classical.byContradiction fun z => hc (.inr fun q => z (by rw [hg] at q; exact Option.some.inj q))
      refine sd_weak (sd_seq (sd_if (j := false) (et_is (et_or (et_test (ed_op (ed_var rfl) (ed_cb (ea_1 (ed_var rfl)) rc_lenL) rv_eqI)) fun _ => et_test (ed_op (ed_op (ed_var rfl) (ed_var rfl) (rv_ixL (d := rw_ f[ahead r f]) (by rw [List.getElem?_map, hg]; rfl))) (ed_var rfl) rv_neR)) ?_) (fun h => by cases h) fun _ => sd_next) sd_next) (by repeat (first | exact .nil | apply Wk.same | apply Wk.none))
      rw [decide_eq_true he, List.length_map, decide_eq_false (by omega)]; rfl
theorem sc_chance_of : FnScope ["point", "total", "number"] ["point"] (defScope s_chance_of) := ⟨rfl, rfl, rfl, by decide +kernel, rfl, by decide +kernel, by decide +kernel⟩
theorem ok_chance_of (T : Facts K mg) : Ok P w K mg base 3 (He.ga K "chance_of") ["point"] (spP K RChanceOf) := by
  have G_lowest : Ok P w K mg base 2 _ _ _ := ok_lowest T
  refine Ok.rf T.F_chance_of sc_chance_of (fun fd F => F.bindsN fun _ _ _ _ _ _ us hl => match us, hl with | [_], _ => rfl) (fun _ => rfl) fun cdv A outer s H E hr x hx => ⟨_, (pss_cons (ps_set (i := 1) sc_chance_of.nd rfl (by first | exact Or.inl rfl | exact Or.inr rfl) (pe_callB (call_sumK (K := K) rfl rfl) rfl T.b_sum (by decide +kernel) (pa_cons (pv 0) pa_nil)))
      (pss_one (ps_ret (pe_callTy (call_tupK (K := K) rfl) rfl T.b_tuple (by decide +kernel) (pa_cons (pe_lc (own := [("number", 2)]) rfl sc_chance_of.nd (pi_seqK (K := K) rfl (pv 0)) (blkOk_by (N := ["point", "total", "number"]) (sc := defScope s_chance_of) (by decide +kernel)) (fun _ _ _ _ _ => (pg_name (i := 2) sc_chance_of.nd rfl (by first | exact Or.inl rfl | exact Or.inr rfl))) (fun _ _ _ _ _ => pts_nil) (fun _ _ _ _ _ => (G_lowest.pe (hr.mono (by decide)) rfl T.m_lowest (pa_cons (pv 2) (pa_cons (pv 1) pa_nil))))) pa_nil))))), ?_⟩
  obtain ⟨hl, hp, hb⟩ := hx
  refine sd_seq (sd_set (ed_cb (ea_1 (ed_var rfl)) rc_sumXT)) (sd_seq_rt (sd_ret (ed_cb (ea_1 (ed_is (ed_lcT (f := fun n : Int => fr (Rat.divInt n x.sum)) (id_seqT (ed_var rfl)) (by omega) fun n hn => ⟨_, _, tg_name, by simp, ed_call (ea_2 (ed_var rfl) (ed_var rfl)) (rf (n, x.sum) ⟨hp, gcd_small hp hb (by decide)⟩)⟩) (show _ = D.lst (List.map fr (x.map fun n => Rat.divInt n x.sum)) by rw [List.map_map]; rfl))) rc_tupL)))
theorem sc_common_of : FnScope ["numbers", "found", "number"] ["numbers"] (defScope s_common_of) := ⟨rfl, rfl, rfl, by decide +kernel, rfl, by decide +kernel, by decide +kernel⟩
theorem ok_common_of (T : Facts K mg) : Ok P w K mg base 2 (He.ga K "common_of") ["numbers"] (spP K RCommonOf) := by
  have G_common_divisor : Ok P w K mg base 1 _ _ _ := ok_common_divisor T
  refine Ok.rf T.F_common_of sc_common_of (fun fd F => F.bindsN fun _ _ _ _ _ _ us hl => match us, hl with | [_], _ => rfl) (fun _ => rfl) fun cdv A outer s H E hr x hx => ⟨_, (pss_cons (ps_set (i := 1) sc_common_of.nd rfl (by first | exact Or.inl rfl | exact Or.inr rfl) pe_int)
      (pss_cons (ps_for PassesOwn.never rfl (pi_seqK (K := K) rfl (pv 0)) (pg_name (i := 2) sc_common_of.nd rfl (by first | exact Or.inl rfl | exact Or.inr rfl)) (pss_one (ps_set (i := 1) sc_common_of.nd rfl (by first | exact Or.inl rfl | exact Or.inr rfl) (G_common_divisor.pe (hr.mono (by decide)) rfl T.m_common_divisor (pa_cons (pv 1) (pa_cons (pv 2) pa_nil))))))
      (pss_one (ps_ret (pv 1))))), ?_⟩
  refine sd_seq (sd_set ed_int) ?_
  refine sd_seq (sd_from (by repeat (first | exact .nil | apply Wk.same | apply Wk.none)) (sd_fold (fun g : Int => [some (.lst (x.map D.int)), some (.int g), none]) (fun (g : Int) n => ((Int.gcd g n : Nat) : Int)) (fun _ _ => True) (xs := x) (0 : Int) (id_seqL (ed_var rfl)) trivial fun g n l _ => ⟨trivial, _, _, tg_name, ?_⟩)) (sd_seq_rt (sd_ret (ed_var rfl)))
  exact sd_weak (sd_seq (sd_set (ed_call (ea_2 (ed_var rfl) (ed_var rfl)) (rf (g, n) trivial))) sd_next) (by repeat (first | exact .nil | apply Wk.same | apply Wk.none))
theorem sc__law_least : FnScope ["_law_some", "_law_found", "_law_each"] ["_law_some"] (defScope s__law_least) := ⟨rfl, rfl, rfl, by decide +kernel, rfl, by decide +kernel, by decide +kernel⟩
theorem ok__law_least (T : Facts K mg) : Ok P w K mg base 2 (He.ga K "_law_least") ["_law_some"] (spP K RLeast) := by
  have G__law_less : Ok P w K mg base 1 _ _ _ := ok__law_less T
  refine Ok.rf T.F__law_least sc__law_least (fun fd F => F.bindsN fun _ _ _ _ _ _ us hl => match us, hl with | [_], _ => rfl) (fun _ => rfl) fun cdv A outer s H E hr x hx => ⟨_, (pss_cons (ps_set (i := 1) sc__law_least.nd rfl (by first | exact Or.inl rfl | exact Or.inr rfl) (pe_ix (ix_K (K := K) rfl) (pv 0) pe_int (fun _ _ => rfl)))
      (pss_cons (ps_for PassesOwn.never rfl (pi_seqK (K := K) rfl (pv 0)) (pg_name (i := 2) sc__law_least.nd rfl (by first | exact Or.inl rfl | exact Or.inr rfl)) (pss_one (ps_set (i := 1) sc__law_least.nd rfl (by first | exact Or.inl rfl | exact Or.inr rfl) (pe_ifExp (pt_val (G__law_less.pe (hr.mono (by decide)) rfl T.m__law_less (pa_cons (pv 2) (pa_cons (pv 1) pa_nil)))) (pv 2) (pv 1)))))
      (pss_one (ps_ret (pv 1))))), ?_⟩
  obtain ⟨q, x⟩ := x
  refine sd_seq (sd_set (ed_op (ed_var rfl) ed_int (rv_ixL (k := 0) rfl))) ?_
  refine sd_seq (sd_from (by repeat (first | exact .nil | apply Wk.same | apply Wk.none)) (sd_fold (fun m : Rat => [some (.lst ((q :: x).map fr)), some (fr m), none]) (fun m p => if p < m then p else m) (fun m l => m ∈ q :: x ∧ ∀ p ∈ l, p ∈ q :: x) (xs := q :: x) q (id_seqL (ed_var rfl)) ⟨List.mem_cons_self, fun p h => h⟩ fun m p l h => ⟨⟨?_, fun y hy => h.2 y (List.mem_cons_of_mem _ hy)⟩, _, _, tg_name, ?_⟩)) (sd_seq_rt (sd_ret (ed_var rfl)))
  · split
    · exact h.2 p List.mem_cons_self
    · exact h.1
  · refine sd_weak (sd_seq (sd_set (ed_if (et_B (ed_call (ea_2 (ed_var rfl) (ed_var rfl)) (rf (p, m) (hx p m (h.2 p List.mem_cons_self) h.1)))) (fun h => ?_) fun h => ?_)) sd_next) (by repeat (first | exact .nil | apply Wk.same | apply Wk.none))
    · rw [if_pos (of_decide_eq_true h)]; exact ed_var rfl
    · rw [if_neg (of_decide_eq_false h)]; exact ed_var rfl
theorem sc__law_minus : FnScope ["_law_one"] ["_law_one"] (defScope s__law_minus) := ⟨rfl, rfl, rfl, by decide +kernel, rfl, by decide +kernel, by decide +kernel⟩
theorem ok__law_minus (T : Facts K mg) : Ok P w K mg base 1 (He.ga K "_law_minus") ["_law_one"] (spP K RMinus) := by
  refine Ok.rf T.F__law_minus sc__law_minus (fun fd F => F.bindsN fun _ _ _ _ _ _ us hl => match us, hl with | [_], _ => rfl) (fun _ => rfl) fun cdv A outer s H E hr x hx => ⟨_, (pss_one (ps_ret (pe_tup (pa_cons (pe_op op_subX pe_int (pe_ix (ix_K (K := K) rfl) (pv 0) pe_int (fun _ _ => rfl))) (pa_cons (pe_ix (ix_K (K := K) rfl) (pv 0) pe_int (fun _ _ => rfl)) pa_nil))))), ?_⟩
  refine sd_ret (ed_is (ed_t2 (ed_op ed_int (fr_0 (ed_var rfl)) rv_sub) (fr_1 (ed_var rfl))) ?_)
  unfold fr
  rw [Rat.neg_num, Rat.neg_den, Int.zero_sub]
theorem sc__law_may_pass : FnScope ["_law_row", "_law_part"] ["_law_row"] (defScope s__law_may_pass) := ⟨rfl, rfl, rfl, by decide +kernel, rfl, by decide +kernel, by decide +kernel⟩
theorem ok__law_may_pass (T : Facts K mg) : Ok P w K mg base 1 (He.ga K "_law_may_pass") ["_law_row"] (spP K RMayPass) := by
  refine Ok.rf T.F__law_may_pass sc__law_may_pass (fun fd F => F.bindsN fun _ _ _ _ _ _ us hl => match us, hl with | [_], _ => rfl) (fun _ => rfl) fun cdv A outer s H E hr x hx => ⟨_, (pss_one (ps_ret (pe_cmpR op_leX (pe_callB (call_maxK (K := K) rfl rfl) rfl T.b_max (by decide +kernel) (pa_cons (pe_lc (own := [("_law_part", 1)]) rfl sc__law_may_pass.nd (pi_seqK (K := K) rfl (pv 0)) (blkOk_by (N := ["_law_row", "_law_part"]) (sc := defScope s__law_may_pass) (by decide +kernel)) (fun _ _ _ _ _ => (pg_name (i := 1) sc__law_may_pass.nd rfl (by first | exact Or.inl rfl | exact Or.inr rfl))) (fun _ _ _ _ _ => pts_nil) (fun _ _ _ _ _ => (pe_ix (ix_K (K := K) rfl) (pv 1) pe_int (fun _ _ => rfl)))) pa_nil)) (pe_op op_powX pe_int pe_int) (nomark _)))), ?_⟩
  obtain ⟨hne, hl⟩ := hx
  obtain ⟨m, hm, hmax⟩ := max_ex (l := x.map fun q => ((q.den : Nat) : Int)) (by simpa using hne)
  refine sd_ret (ed_is (ed_op (ed_cb (ea_1 (ed_is (ed_lcT (f := fun q : Rat => D.int (q.den : Nat)) (id_seqT (ed_var rfl)) (by omega) fun q hq => ⟨_, _, tg_name, by simp, fr_1 (ed_var rfl)⟩) (show _ = D.lst ((x.map fun q => ((q.den : Nat) : Int)).map D.int) by rw [List.map_map]; rfl))) (rc_max (m := m) (by cases x with | nil => exact absurd rfl hne | cons a l => simp) fun k hk hy => Int.le_antisymm (hmax k hk) (hy m hm))) (ed_op ed_int ed_int (rv_pow ⟨by decide, by decide, by decide⟩)) rv_le) ?_)
  congr 1
  unfold mayPass
  obtain ⟨q, hq, e⟩ := List.mem_map.mp hm
  by_cases h : m ≤ 10 ^ 6
  · rw [show (10 : Int) ^ (6 : Int).toNat = 10 ^ 6 from rfl, decide_eq_true h]
    refine (List.all_eq_true.mpr fun p hp => decide_eq_true ?_).symm
    have := hmax _ (List.mem_map.mpr ⟨p, hp, rfl⟩)
    omega
  · rw [show (10 : Int) ^ (6 : Int).toNat = 10 ^ 6 from rfl, decide_eq_false h]
    refine (Bool.eq_false_iff.mpr fun z => ?_).symm
    have := of_decide_eq_true (List.all_eq_true.mp z q hq)
    omega
end
end Top
end
section
set_option Elab.async false
set_option linter.all false
set_option maxRecDepth 100000
set_option maxHeartbeats 4000000
/-! F5: worths. -/
namespace Top
open PySem PySem.Spec PyProof.Rows L2 StX RZ Pu PySem.W
def py (g : List Int) : D := .tup (g.map D.int)
theorem fr_int (g : Int) : fr (g : Rat) = .tup [.int g, .int 1] := by
  unfold fr; simp
theorem fold_get (L : List Rat) : ∀ (m i : Nat) (t : Rat), i + m = L.length → (List.range' i m).foldl (fun t k => t + (L[k]?.getD 0)) t = sumQ t (L.drop i)
  | 0, i, t, h => by
    rw [List.drop_eq_nil_of_le (by omega)]; rfl
  | m + 1, i, t, h => by
    have hi : i < L.length := by omega
    rw [List.range'_succ, List.foldl_cons, fold_get L m (i + 1) _ (by omega), List.drop_eq_getElem_cons hi]
    show sumQ _ _ = sumQ (t + L[i]) _
    rw [List.getElem?_eq_getElem hi]; rfl
theorem prods_get {g : List Int} {c : List Rat} {i : Nat} {a : Int} {b : Rat} (h1 : g[i]? = some a) (h2 : c[i]? = some b) : (prods g c)[i]? = some ((a : Rat) * b) := by
  unfold prods; rw [List.getElem?_zipWith, h1, h2]
theorem zip_mem {α β : Type} {l : List α} {m : List β} {i : Nat} {a : α} {b : β} (h1 : l[i]? = some a) (h2 : m[i]? = some b) : (a, b) ∈ l.zip m := by
  refine List.mem_of_getElem? (i := i) ?_
  rw [List.getElem?_zip_eq_some]; exact ⟨h1, h2⟩
section
variable {P : Program} {w : World} {K : PySem.W.Frag} {mg : Str → Option Value} {base : Heap}
theorem sc__law_worth : FnScope ["_law_payoff_here", "_law_chance_here", "_law_found", "_law_k"] ["_law_payoff_here", "_law_chance_here"] (defScope s__law_worth) := ⟨rfl, rfl, rfl, by decide +kernel, rfl, by decide +kernel, by decide +kernel⟩
theorem ok__law_worth (T : Facts K mg) : Ok P w K mg base 4 (He.ga K "_law_worth") ["_law_payoff_here", "_law_chance_here"] (spP K RWorth) := by
  have G__law_plus : Ok P w K mg base 3 _ _ _ := ok__law_plus T
  have G__law_times : Ok P w K mg base 3 _ _ _ := ok__law_times T
  refine Ok.rf T.F__law_worth sc__law_worth (fun fd F => F.bindsN fun _ _ _ _ _ _ us hl => match us, hl with | [_, _], _ => rfl) (fun _ => rfl) fun cdv A outer s H E hr x hx => ⟨_, (pss_cons (ps_set (i := 2) sc__law_worth.nd rfl (by first | exact Or.inl rfl | exact Or.inr rfl) (pe_tup (pa_cons pe_int (pa_cons pe_int pa_nil))))
      (pss_cons (ps_for PassesOwn.never rfl (pi_range1 rfl T.b_range (pa_cons (pe_callB (call_lenK (K := K) rfl) rfl T.b_len (by decide +kernel) (pa_cons (pv 0) pa_nil)) pa_nil)) (pg_name (i := 3) sc__law_worth.nd rfl (by first | exact Or.inl rfl | exact Or.inr rfl)) (pss_one (ps_set (i := 2) sc__law_worth.nd rfl (by first | exact Or.inl rfl | exact Or.inr rfl) (G__law_plus.pe (hr.mono (by decide)) rfl T.m__law_plus (pa_cons (pv 2) (pa_cons (G__law_times.pe (hr.mono (by decide)) rfl T.m__law_times (pa_cons (pe_tup (pa_cons (pe_ix (ix_K (K := K) rfl) (pv 0) (pv 3) (fun _ _ => rfl)) (pa_cons pe_int pa_nil))) (pa_cons (pe_ix (ix_K (K := K) rfl) (pv 1) (pv 3) (fun _ _ => rfl)) pa_nil))) pa_nil))))))
      (pss_one (ps_ret (pv 2))))), ?_⟩
  obtain ⟨g, c⟩ := x
  obtain ⟨hl, hn, hp, hs⟩ := hx
  dsimp only at hl hn hp hs
  have hpl : (prods g c).length = g.length := by unfold prods; rw [List.length_zipWith, ← hl]; omega
  refine sd_seq (sd_set (ed_is (ed_t2 ed_int ed_int) (show _ = fr 0 from rfl))) ?_
  have e1 : fr (wor g c) = fr ((List.range' 0 g.length).foldl (fun t k => t + ((prods g c)[k]?.getD 0)) 0) := by
    rw [fold_get _ _ _ _ (by omega)]; rfl
  rw [show (fr (wor (g, c).1 (g, c).2)) = fr (wor g c) from rfl, e1]
  refine sd_seq (sd_from (by repeat (first | exact .nil | apply Wk.same | apply Wk.none)) (sd_fold (enc := fun i : Nat => D.int (i : Nat)) (fun t : Rat => [some (py g), some (rw_ c), some (fr t), none]) (fun t k => t + ((prods g c)[k]?.getD 0))
    (fun t l => ∃ i, l = List.range' i (g.length - i) ∧ i ≤ g.length ∧ AddOk t ((prods g c).drop i)) (xs := List.range' 0 g.length) (0 : Rat)
    (id_range (ea_1 (ed_is (ed_cb (ea_1 (ed_var rfl)) rc_lenT) (by rw [List.length_map]))) (by omega)) ⟨0, rfl, Nat.zero_le _, hs⟩ fun t k l h => ?_)) (sd_seq_rt (sd_ret (ed_var rfl)))
  obtain ⟨i, h1, h2, h3⟩ := h
  have hi : i < g.length := by
    by_cases q : i < g.length
    · exact q
    · rw [show g.length - i = 0 by omega] at h1; cases h1
  rw [show g.length - i = (g.length - (i + 1)) + 1 by omega, List.range'_succ] at h1
  obtain ⟨rfl, rfl⟩ := List.cons.inj h1
  have hci : k < c.length := by omega
  have ga : g[k]? = some g[k] := by simp [hi]
  have ca : c[k]? = some c[k] := by simp [hci]
  have pa : (prods g c)[k]? = some ((g[k] : Rat) * c[k]) := prods_get ga ca
  rw [List.drop_eq_getElem_cons (by omega)] at h3
  have pe : (prods g c)[k]'(by omega) = (g[k] : Rat) * c[k] := by
    have := List.getElem?_eq_getElem (l := prods g c) (i := k) (by omega)
    rw [pa] at this; exact (Option.some.inj this).symm
  rw [pe] at h3
  refine ⟨⟨k + 1, rfl, hi, by rw [pa]; exact h3.2⟩, _, _, tg_name, ?_⟩
  rw [pa]
  refine sd_weak (sd_seq (sd_set (ed_call (ea_2 (ed_var rfl) (ed_call (ea_2 (ed_is (ed_t2 (ed_op (ed_var rfl) (ed_var rfl) (rv_ixT (d := .int g[k]) (by rw [List.getElem?_map, ga]; rfl))) ed_int) (fr_int g[k]).symm) (ed_op (ed_var rfl) (ed_var rfl) (rv_ixT (d := fr c[k]) (by rw [List.getElem?_map, ca]; rfl)))) (rf (_, _) (hp _ _ (zip_mem ga ca))))) (rf (t, (g[k] : Rat) * c[k]) h3.1))) sd_next) (by repeat (first | exact .nil | apply Wk.same | apply Wk.none))
theorem sc_worth_at : FnScope ["payoff", "chance", "number", "top", "bottom"] ["payoff", "chance"] (defScope s_worth_at) := ⟨rfl, rfl, rfl, by decide +kernel, rfl, by decide +kernel, by decide +kernel⟩
theorem ok_worth_at (T : Facts K mg) : Ok P w K mg base 5 (He.ga K "worth_at") ["payoff", "chance"] (spP K RWorth) := by
  have G_added : Ok P w K mg base 4 _ _ _ := ok_added T
  have G_lowest : Ok P w K mg base 2 _ _ _ := ok_lowest T
  refine Ok.rf T.F_worth_at sc_worth_at (fun fd F => F.bindsN fun _ _ _ _ _ _ us hl => match us, hl with | [_, _], _ => rfl) (fun _ => rfl) fun cdv A outer s H E hr x hx => ⟨_, (pss_one (ps_ret (G_added.pe (hr.mono (by decide)) rfl T.m_added (pa_cons (pe_lc (own := [("number", 2), ("top", 3), ("bottom", 4)]) rfl sc_worth_at.nd (pi_zipK (K := K) rfl rfl T.b_zip (pa_cons (pv 0) (pa_cons (pv 1) pa_nil))) (blkOk_by (N := ["payoff", "chance", "number", "top", "bottom"]) (sc := defScope s_worth_at) (by decide +kernel)) (fun _ _ _ _ _ => (pg_tupK (n := 2) (K := K) rfl rfl (pgs_cons (pg_name (i := 2) sc_worth_at.nd rfl (by first | exact Or.inl rfl | exact Or.inr rfl)) (pgs_cons (pg_tupK (n := 2) (K := K) rfl rfl (pgs_cons (pg_name (i := 3) sc_worth_at.nd rfl (by first | exact Or.inl rfl | exact Or.inr rfl)) (pgs_cons (pg_name (i := 4) sc_worth_at.nd rfl (by first | exact Or.inl rfl | exact Or.inr rfl)) pgs_nil))) pgs_nil)))) (fun _ _ _ _ _ => pts_nil) (fun _ _ _ _ _ => (G_lowest.pe (hr.mono (by decide)) rfl T.m_lowest (pa_cons (pe_op (op_mulK (K := K) rfl) (pv 2) (pv 3)) (pa_cons (pv 4) pa_nil))))) pa_nil)))), ?_⟩
  obtain ⟨g, c⟩ := x
  obtain ⟨hl, hn, hp, hs⟩ := hx
  dsimp only at hl hn hp hs
  refine sd_ret (ed_call (ea_1 (ed_is (ed_lcT (xs := g.zip c) (enc := fun p : Int × Rat => .tup [.int p.1, fr p.2]) (f := fun p : Int × Rat => fr ((p.1 : Rat) * p.2)) (by rw [← zipD_map]; exact id_zipXT (ea_2 (ed_var rfl) (ed_var rfl))) (by rw [List.length_zip]; omega) fun p hpm => ⟨_, _, tg_tup (tgs_cons tg_name (tgs_cons (tg_tup (tgs_cons tg_name (tgs_cons tg_name tgs_nil)) rfl) tgs_nil)) rfl, by simp, ?_⟩) (show _ = D.lst ((prods g c).map fr) by unfold prods; rw [List.map_zipWith, List.zip, List.map_zipWith]))) (rf (prods g c) hs))
  obtain ⟨a, q⟩ := p
  obtain ⟨n, m, ⟨p1, p2⟩, ⟨q1, q2⟩, h⟩ := hp a q hpm
  have e : (a : Rat) * q = Rat.divInt (a * q.num) (q.den : Nat) := by
    rw [mul_fr]; simp
  dsimp only
  rw [e]
  exact ed_call (ea_2 (ed_op (ed_var rfl) (ed_var rfl) (rv_mul (bd_mulw (by simpa using p1) q1 (by omega)))) (ed_var rfl)) (rf (_, _) ⟨den_pos q, gcd_small (den_pos q) (n := m) (by simpa using q2) (by omega)⟩)
end
end Top
end
section
set_option Elab.async false
set_option linter.all false
set_option maxRecDepth 100000
set_option maxHeartbeats 4000000
/-! F6: books. -/
namespace Top
open PySem PySem.Spec PyProof.Rows L2 StX RZ Pu PySem.W
def qd (q : Quote) : D := .tup [py q.1, fr q.2]
def qs (l : List Quote) : D := .tup (l.map qd)
def bk (K : PySem.W.Frag) (x : Nat × List Quote) : D := .obj (He.ga K "Book") ["held", "words"] [.tup [.int (x.1 : Nat), qs x.2], .txt 700000]
abbrev RWritten := RF (fun q : Rat => [fr q]) (fun q => q.num.natAbs.log2 < 1920 ∧ q.den.log2 < 1920) fun _ => .txt 3843
abbrev RQText := RF (fun q : Quote => [qd q]) (fun q => QOk q.1.length q ∧ q.1.length ≤ 6) fun _ => .txt 20000
abbrev RIsPayoff := RF (fun x : List Int × Nat => [py x.1, D.int (x.2 : Nat)]) (fun x => PayOk x.2 x.1 ∧ x.2 ≤ 6) fun _ => .bl true
abbrev RIsPrice := RF (fun q : Rat => [fr q]) PriceOk fun _ => .bl true
abbrev RIsQuote := RF (fun x : Quote × Nat => [qd x.1, D.int (x.2 : Nat)]) (fun x => QOk x.2 x.1 ∧ x.2 ≤ 6) fun _ => .bl true
abbrev RChQuotes := RF (fun x : List Quote × Nat => [qs x.1, D.int (x.2 : Nat)]) (fun x => x.1.length ≤ 32 ∧ (∀ q ∈ x.1, QOk x.2 q) ∧ x.2 ≤ 6) fun _ => .non
abbrev RChPayoff := RF (fun x : List Int × Nat => [py x.1, D.int (x.2 : Nat)]) (fun x => PayOk x.2 x.1 ∧ x.2 ≤ 6) fun _ => .non
abbrev RChPrice := RF (fun q : Rat => [fr q]) PriceOk fun _ => .non
theorem price_bits {q : Rat} (h : PriceOk q) : (-1000000 ≤ q.num ∧ q.num ≤ 1000000) ∧ q.den ≤ 1000 := by
  simp only [PriceOk, fits, Bool.and_eq_true, decide_eq_true_eq] at h
  omega
theorem log_small {n : Nat} (h : n < 2 ^ 100) : n.log2 < 1920 := Nat.lt_of_lt_of_le (log2_of h (by decide)) (by decide)
section
variable {P : Program} {w : World} {K : PySem.W.Frag} {mg : Str → Option Value} {base : Heap}
theorem sc_written : FnScope ["fraction"] ["fraction"] (defScope s_written) := ⟨rfl, rfl, rfl, by decide +kernel, rfl, by decide +kernel, by decide +kernel⟩
theorem ok_written (T : Facts K mg) : Ok P w K mg base 1 (He.ga K "written") ["fraction"] (spP K RWritten) := by
  refine Ok.rf T.F_written sc_written (fun fd F => F.bindsN fun _ _ _ _ _ _ us hl => match us, hl with | [_], _ => rfl) (fun _ => rfl) fun cdv A outer s H E hr x hx => ⟨_, (pss_one (ps_ret (pe_op op_addX (pe_op op_addX (pe_callTy call_strX rfl T.b_str (by decide +kernel) (pa_cons (pe_ix (ix_K (K := K) rfl) (pv 0) pe_int (fun _ _ => rfl)) pa_nil)) pe_str) (pe_callTy call_strX rfl T.b_str (by decide +kernel) (pa_cons (pe_ix (ix_K (K := K) rfl) (pv 0) pe_int (fun _ _ => rfl)) pa_nil))))), ?_⟩
  obtain ⟨h1, h2⟩ := hx
  exact sd_ret (ed_op (ed_op (ed_cb (ea_1 (fr_0 (ed_var rfl))) (rc_str h1)) (ed_str (n := 1) (by decide)) (rv_strcat (by decide))) (ed_cb (ea_1 (fr_1 (ed_var rfl))) (rc_str (by simpa using h2))) (rv_strcat (by decide)))
theorem sc_is_payoff : FnScope ["value", "outcomes", "number"] ["value", "outcomes"] (defScope s_is_payoff) := ⟨rfl, rfl, rfl, by decide +kernel, rfl, by decide +kernel, by decide +kernel⟩
theorem ok_is_payoff (T : Facts K mg) : Ok P w K mg base 3 (He.ga K "is_payoff") ["value", "outcomes"] (spP K RIsPayoff) := by
  have G_is_between : Ok P w K mg base 2 _ _ _ := ok_is_between T
  refine Ok.rf T.F_is_payoff sc_is_payoff (fun fd F => F.bindsN fun _ _ _ _ _ _ us hl => match us, hl with | [_, _], _ => rfl) (fun _ => rfl) fun cdv A outer s H E hr x hx => ⟨_, (pss_cons (ps_if (PW.pt (pw_or (pt_not (pt_val (pe_callB (call_isiK' (K := K) rfl) rfl T.b_isinstance (by decide +kernel) (pa_cons (pv 0) (pa_cons (pe_bltn (v := .ty "tuple") rfl T.b_tuple (by decide +kernel) rfl) pa_nil))))) (pw_or1 (pt_cmpR (op_neK (K := K) rfl hr.units) (pe_callB (call_lenK (K := K) rfl) rfl T.b_len (by decide +kernel) (pa_cons (pv 0) pa_nil)) (pv 1) (nomark _))))) (pss_one (ps_ret pe_bl)) pss_nil)
      (pss_one (ps_ret (pe_callB (call_allK (K := K) rfl rfl) rfl T.b_all (by decide +kernel) (pa_cons (pe_lc (own := [("number", 2)]) rfl sc_is_payoff.nd (pi_seqK (K := K) rfl (pv 0)) (blkOk_by (N := ["value", "outcomes", "number"]) (sc := defScope s_is_payoff) (by decide +kernel)) (fun _ _ _ _ _ => (pg_name (i := 2) sc_is_payoff.nd rfl (by first | exact Or.inl rfl | exact Or.inr rfl))) (fun _ _ _ _ _ => pts_nil) (fun _ _ _ _ _ => (G_is_between.pe (hr.mono (by decide)) rfl T.m_is_between (pa_cons (pv 2) (pa_cons (pe_un un_negX (pe_glob (v := .int 1000) rfl T.i_MOST_NUMBER.choose_spec ⟨_, rfl⟩)) (pa_cons (pe_glob (v := .int 1000) rfl T.i_MOST_NUMBER.choose_spec ⟨_, rfl⟩) pa_nil)))))) pa_nil))))), ?_⟩
  obtain ⟨g, n⟩ := x
  obtain ⟨⟨hl, hb⟩, hn⟩ := hx
  dsimp only at hl hb hn
  refine sd_seq (sd_if (j := false) (et_is (et_or (et_not (et_B (isi_tup rfl (ed_var rfl)))) fun _ => et_test (ed_op (ed_cb (ea_1 (ed_var rfl)) rc_lenT) (ed_var rfl) rv_neI)) (by simp [hl])) (fun h => by cases h) fun _ => sd_next) ?_
  refine sd_seq_rt (sd_ret (ed_is (ed_cb (ea_1 (ed_is (ed_lcT (xs := g) (enc := D.int) (f := fun _ : Int => D.bl true) (id_seqT (ed_var rfl)) (by omega) fun i hi => ⟨_, _, tg_name, by simp, ?_⟩) (show _ = D.lst ((g.map fun _ => true).map D.bl) by rw [List.map_map]; rfl))) rc_all) (by simp)))
  have hh := hb i hi
  refine ed_is (ed_call (ea_3 (ed_var rfl) (ed_un ed_int ru_neg) ed_int) (rf (_, _, _) trivial)) ?_
  dsimp only
  rw [decide_eq_true hh.1, decide_eq_true hh.2]; rfl
theorem sc_is_price : FnScope ["value"] ["value"] (defScope s_is_price) := ⟨rfl, rfl, rfl, by decide +kernel, rfl, by decide +kernel, by decide +kernel⟩
theorem ok_is_price (T : Facts K mg) : Ok P w K mg base 4 (He.ga K "is_price") ["value"] (spP K RIsPrice) := by
  have G_is_fraction : Ok P w K mg base 3 _ _ _ := ok_is_fraction T
  refine Ok.rf T.F_is_price sc_is_price (fun fd F => F.bindsN fun _ _ _ _ _ _ us hl => match us, hl with | [_], _ => rfl) (fun _ => rfl) fun cdv A outer s H E hr x hx => ⟨_, (pss_one (ps_ret (G_is_fraction.pe (hr.mono (by decide)) rfl T.m_is_fraction (pa_cons (pv 0) (pa_cons (pe_glob (v := .int 1000000) rfl T.i_MOST_PRICE_TOP.choose_spec ⟨_, rfl⟩) (pa_cons (pe_glob (v := .int 1000) rfl T.i_MOST_PRICE_BOTTOM.choose_spec ⟨_, rfl⟩) pa_nil)))))), ?_⟩
  refine sd_ret (ed_is (ed_call (ea_3 (ed_var rfl) ed_int ed_int) (rf (x, 1000000, 1000) trivial)) ?_)
  exact congrArg D.bl hx
theorem sc_is_quote : FnScope ["value", "outcomes"] ["value", "outcomes"] (defScope s_is_quote) := ⟨rfl, rfl, rfl, by decide +kernel, rfl, by decide +kernel, by decide +kernel⟩
theorem ok_is_quote (T : Facts K mg) : Ok P w K mg base 5 (He.ga K "is_quote") ["value", "outcomes"] (spP K RIsQuote) := by
  have G_is_payoff : Ok P w K mg base 3 _ _ _ := ok_is_payoff T
  have G_is_price : Ok P w K mg base 4 _ _ _ := ok_is_price T
  refine Ok.rf T.F_is_quote sc_is_quote (fun fd F => F.bindsN fun _ _ _ _ _ _ us hl => match us, hl with | [_, _], _ => rfl) (fun _ => rfl) fun cdv A outer s H E hr x hx => ⟨_, (pss_cons (ps_if (PW.pt (pw_or (pt_not (pt_val (pe_callB (call_isiK' (K := K) rfl) rfl T.b_isinstance (by decide +kernel) (pa_cons (pv 0) (pa_cons (pe_bltn (v := .ty "tuple") rfl T.b_tuple (by decide +kernel) rfl) pa_nil))))) (pw_or1 (pt_cmpR (op_neK (K := K) rfl hr.units) (pe_callB (call_lenK (K := K) rfl) rfl T.b_len (by decide +kernel) (pa_cons (pv 0) pa_nil)) pe_int (nomark _))))) (pss_one (ps_ret pe_bl)) pss_nil)
      (pss_one (ps_ret (pe_and (G_is_payoff.pe (hr.mono (by decide)) rfl T.m_is_payoff (pa_cons (pe_ix (ix_K (K := K) rfl) (pv 0) pe_int (fun _ _ => rfl)) (pa_cons (pv 1) pa_nil))) (pe_one (G_is_price.pe (hr.mono (by decide)) rfl T.m_is_price (pa_cons (pe_ix (ix_K (K := K) rfl) (pv 0) pe_int (fun _ _ => rfl)) pa_nil))))))), ?_⟩
  obtain ⟨⟨g, q⟩, n⟩ := x
  obtain ⟨⟨h1, h2⟩, hn⟩ := hx
  refine sd_seq (sd_if (j := false) (et_is (et_or (et_not (et_B (isi_tup rfl (ed_var rfl)))) fun _ => et_test (ed_op (ed_cb (ea_1 (ed_var rfl)) rc_lenT) ed_int rv_neI)) (by simp)) (fun h => by cases h) fun _ => sd_next) ?_
  refine sd_seq_rt (sd_ret (ed_is (ed_andV (j := true) (k := true) ?_ fun _ => ?_) rfl))
  · exact ed_call (ea_2 (ed_op (ed_var rfl) ed_int (rv_ixT (k := 0) rfl)) (ed_var rfl)) (rf (g, n) ⟨h1, hn⟩)
  · exact ed_call (ea_1 (ed_op (ed_var rfl) ed_int (rv_ixT (k := 1) rfl))) (rf q h2)
theorem sc_check_quotes : FnScope ["quotes", "outcomes", "index", "quote"] ["quotes", "outcomes"] (defScope s_check_quotes) := ⟨rfl, rfl, rfl, by decide +kernel, rfl, by decide +kernel, by decide +kernel⟩
theorem ok_check_quotes (T : Facts K mg) : Ok P w K mg base 6 (He.ga K "check_quotes") ["quotes", "outcomes"] (spP K RChQuotes) := by
  have G_is_quote : Ok P w K mg base 5 _ _ _ := ok_is_quote T
  refine Ok.rfN T.F_check_quotes sc_check_quotes (fun fd F => F.bindsN fun _ _ _ _ _ _ us hl => match us, hl with | [_, _], _ => rfl) (fun _ => rfl) fun cdv A outer s H E hr x hx => ⟨_, (pss_cons (ps_if (pt_not (pt_val (pe_callB (call_isiK' (K := K) rfl) rfl T.b_isinstance (by decide +kernel) (pa_cons (pv 0) (pa_cons (pe_bltn (v := .ty "tuple") rfl T.b_tuple (by decide +kernel) rfl) pa_nil))))) (pss_one ps_never) pss_nil)
      (pss_one (ps_for PassesOwn.never rfl (pi_enumK (K := K) rfl rfl T.b_enumerate (pa_cons (pv 0) pa_nil)) (pg_tupK (n := 2) (K := K) rfl rfl (pgs_cons (pg_name (i := 2) sc_check_quotes.nd rfl (by first | exact Or.inl rfl | exact Or.inr rfl)) (pgs_cons (pg_name (i := 3) sc_check_quotes.nd rfl (by first | exact Or.inl rfl | exact Or.inr rfl)) pgs_nil))) (pss_one (ps_if (PW.pt (pw_or (pt_cmpR (op_eqK (K := K) rfl hr.units) (pv 2) (pe_glob (v := .int 32) rfl T.i_MOST_QUOTES.choose_spec ⟨_, rfl⟩) (nomark _)) (pw_or1 (pt_not (pt_val (G_is_quote.pe (hr.mono (by decide)) rfl T.m_is_quote (pa_cons (pv 3) (pa_cons (pv 1) pa_nil)))))))) (pss_one ps_never) pss_nil))))), ?_⟩
  obtain ⟨l, n⟩ := x
  obtain ⟨hl, hq, hn⟩ := hx
  dsimp only at hl hq hn
  refine ⟨[some (qs l), some (.int (n : Nat)), none, none], ?_⟩
  refine sd_seq (sd_if (j := false) (et_is (et_not (et_B (isi_tup rfl (ed_var rfl)))) rfl) (fun h => by cases h) fun _ => sd_next) ?_
  refine sd_seq (sd_from (by repeat (first | exact .nil | apply Wk.same | apply Wk.none)) (sd_fold (enc := fun p : Nat × Quote => .tup [.int (p.1 : Nat), qd p.2]) (fun _ : Unit => [some (qs l), some (.int (n : Nat)), none, none]) (fun _ _ => ()) (fun _ r => ∀ p ∈ r, p.1 < 32 ∧ p.2 ∈ l) (xs := List.zip (List.range' 0 l.length) l) ()
    (by rw [← pairs_map]; exact id_enumT (ea_1 (ed_var rfl))) (fun p hp => ?_) fun _ p r h => ⟨fun y hy => h y (List.mem_cons_of_mem _ hy), _, _, tg_tup (tgs_cons tg_name (tgs_cons tg_name tgs_nil)) rfl, ?_⟩)) sd_next
  · obtain ⟨i, q⟩ := p
    have h1 := (List.of_mem_zip hp).1
    have h2 := (List.of_mem_zip hp).2
    rw [List.mem_range'_1] at h1
    exact ⟨by dsimp only; omega, h2⟩
  · obtain ⟨i, q⟩ := p
    obtain ⟨h1, h2⟩ := h (i, q) List.mem_cons_self
    dsimp only at h1 h2
    refine sd_weak (sd_seq (sd_if (j := false) (et_is (et_or (et_test (ed_op (ed_var rfl) ed_int rv_eqI)) fun _ => et_not (et_B (ed_call (ea_2 (ed_var rfl) (ed_var rfl)) (rf (q, n) ⟨hq q h2, hn⟩)))) ?_) (fun h => by cases h) fun _ => sd_next) sd_next) (by repeat (first | exact .nil | apply Wk.same | apply Wk.none))
    rw [decide_eq_false (by omega)]; rfl
theorem sc_check_payoff : FnScope ["value", "outcomes"] ["value", "outcomes"] (defScope s_check_payoff) := ⟨rfl, rfl, rfl, by decide +kernel, rfl, by decide +kernel, by decide +kernel⟩
theorem ok_check_payoff (T : Facts K mg) : Ok P w K mg base 4 (He.ga K "check_payoff") ["value", "outcomes"] (spP K RChPayoff) := by
  have G_is_payoff : Ok P w K mg base 3 _ _ _ := ok_is_payoff T
  refine Ok.rfN T.F_check_payoff sc_check_payoff (fun fd F => F.bindsN fun _ _ _ _ _ _ us hl => match us, hl with | [_, _], _ => rfl) (fun _ => rfl) fun cdv A outer s H E hr x hx => ⟨_, (pss_one (ps_if (pt_not (pt_val (G_is_payoff.pe (hr.mono (by decide)) rfl T.m_is_payoff (pa_cons (pv 0) (pa_cons (pv 1) pa_nil))))) (pss_one ps_never) pss_nil)), ?_⟩
  exact ⟨_, sd_seq (sd_if (j := false) (et_is (et_not (et_B (ed_call (ea_2 (ed_var rfl) (ed_var rfl)) (rf x hx)))) rfl) (fun h => by cases h) fun _ => sd_next) sd_next⟩
theorem sc_check_price : FnScope ["value"] ["value"] (defScope s_check_price) := ⟨rfl, rfl, rfl, by decide +kernel, rfl, by decide +kernel, by decide +kernel⟩
theorem ok_check_price (T : Facts K mg) : Ok P w K mg base 5 (He.ga K "check_price") ["value"] (spP K RChPrice) := by
  have G_is_price : Ok P w K mg base 4 _ _ _ := ok_is_price T
  refine Ok.rfN T.F_check_price sc_check_price (fun fd F => F.bindsN fun _ _ _ _ _ _ us hl => match us, hl with | [_], _ => rfl) (fun _ => rfl) fun cdv A outer s H E hr x hx => ⟨_, (pss_one (ps_if (pt_not (pt_val (G_is_price.pe (hr.mono (by decide)) rfl T.m_is_price (pa_cons (pv 0) pa_nil)))) (pss_one ps_never) pss_nil)), ?_⟩
  exact ⟨_, sd_seq (sd_if (j := false) (et_is (et_not (et_B (ed_call (ea_1 (ed_var rfl)) (rf x hx)))) rfl) (fun h => by cases h) fun _ => sd_next) sd_next⟩
theorem sc_quote_text : FnScope ["quote", "number"] ["quote"] (defScope s_quote_text) := ⟨rfl, rfl, rfl, by decide +kernel, rfl, by decide +kernel, by decide +kernel⟩
theorem ok_quote_text (T : Facts K mg) : Ok P w K mg base 2 (He.ga K "quote_text") ["quote"] (spP K RQText) := by
  have G_written : Ok P w K mg base 1 _ _ _ := ok_written T
  refine Ok.rf T.F_quote_text sc_quote_text (fun fd F => F.bindsN fun _ _ _ _ _ _ us hl => match us, hl with | [_], _ => rfl) (fun _ => rfl) fun cdv A outer s H E hr x hx => ⟨_, (pss_one (ps_ret (pe_op op_addX (pe_op op_addX (pe_joinK (K := K) rfl pe_str (pe_lc (own := [("number", 1)]) rfl sc_quote_text.nd (pi_seqK (K := K) rfl (pe_ix (ix_K (K := K) rfl) (pv 0) pe_int (fun _ _ => rfl))) (blkOk_by (N := ["quote", "number"]) (sc := defScope s_quote_text) (by decide +kernel)) (fun _ _ _ _ _ => (pg_name (i := 1) sc_quote_text.nd rfl (by first | exact Or.inl rfl | exact Or.inr rfl))) (fun _ _ _ _ _ => pts_nil) (fun _ _ _ _ _ => (pe_callTy call_strX rfl T.b_str (by decide +kernel) (pa_cons (pv 1) pa_nil))))) pe_str) (G_written.pe (hr.mono (by decide)) rfl T.m_written (pa_cons (pe_ix (ix_K (K := K) rfl) (pv 0) pe_int (fun _ _ => rfl)) pa_nil))))), ?_⟩
  obtain ⟨g, q⟩ := x
  obtain ⟨⟨⟨_, hb⟩, h2⟩, hl⟩ := hx
  obtain ⟨⟨b1, b2⟩, b3⟩ := price_bits h2
  dsimp only at hb hl b1 b2 b3
  have hlc : ∀ ρ : Rho, True := fun _ => trivial
  refine sd_ret (ed_txt (ed_op (ed_op (ed_join (s := 1) (k := g.length) (n := 1921) (ed_str (by decide)) (ed_is (ed_lcT (xs := g) (enc := D.int) (f := fun _ : Int => D.txt 1921) (id_seqT (ed_op (ed_var rfl) ed_int (rv_ixT (k := 0) rfl))) (by omega) fun i hi => ⟨_, _, tg_name, by simp, ed_cb (ea_1 (ed_var rfl)) (rc_str (log_small (by have := hb i hi; omega)))⟩) (by rw [List.map_const'])) (by omega)) (ed_str (n := 2) (by decide)) (rv_strcat (by omega))) (ed_call (ea_1 (ed_op (ed_var rfl) ed_int (rv_ixT (k := 1) rfl))) (rf q ⟨log_small (by omega), log_small (by omega)⟩)) (rv_strcat (by omega))) (by omega))
end
end Top
end
section
set_option Elab.async false
set_option linter.all false
set_option maxRecDepth 100000
set_option maxHeartbeats 4000000
/-! F7: the Book, chances, worths by it. -/
namespace Top
open PySem PySem.Spec PyProof.Rows L2 StX RZ Pu PySem.W
abbrev bkF (x : Nat × List Quote) : List D := [.tup [.int (x.1 : Nat), qs x.2], .txt 700000]
abbrev RBook := RI (fun x : Nat × List Quote => [D.int (x.1 : Nat), qs x.2]) BkOk bkF
abbrev ROutcomes (K : PySem.W.Frag) := RF (fun x : Nat × List Quote => [bk K x]) (fun _ => True) fun x => .int (x.1 : Nat)
abbrev RQuotes (K : PySem.W.Frag) := RF (fun x : Nat × List Quote => [bk K x]) (fun _ => True) fun x => qs x.2
abbrev RWithQ (K : PySem.W.Frag) := RF (fun x : (Nat × List Quote) × Quote => [bk K x.1, py x.2.1, fr x.2.2]) (fun x => BkOk (x.1.1, x.1.2 ++ [x.2])) fun x => bk K (x.1.1, x.1.2 ++ [x.2])
abbrev RChBook (K : PySem.W.Frag) := RF (fun x : Nat × List Quote => [bk K x]) (fun _ => True) fun _ => .non
abbrev RShare := RF (fun q : Rat => [fr q]) ShareOk fun _ => .bl true
abbrev RChChance := RF (fun x : List Rat × Nat => [rw_ x.1, D.int (x.2 : Nat)]) (fun x => x.1.length = x.2 ∧ x.2 ≤ 6 ∧ ChOk 0 x.1) fun _ => .non
abbrev RKeep := RF (fun x : List Quote × List Rat => [qs x.1, rw_ x.2]) KeepOk fun x => .bl (keepB x.1 x.2)
def rowsD (l : List (List Int)) : D := .lst (l.map fun r => .lst (r.map D.int))
abbrev RGains (K : PySem.W.Frag) := RF (fun x : Nat × List Quote => [bk K x]) BkOk fun x => rowsD (gainRows x)
abbrev RTopWorth := RF (fun x : List Int × List Rat => [py x.1, rw_ x.2]) (fun x => PayOk x.1.length x.1 ∧ (2 ≤ x.1.length ∧ x.1.length ≤ 6) ∧ x.2.length = x.1.length ∧ ChOk 0 x.2 ∧ WorthOk x) fun x => fr (wor x.1 x.2)
abbrev RKeeps (K : PySem.W.Frag) := RF (fun x : (Nat × List Quote) × List Rat => [bk K x.1, rw_ x.2]) (fun x => x.2.length = x.1.1 ∧ x.1.1 ≤ 6 ∧ ChOk 0 x.2 ∧ KeepOk (x.1.2, x.2)) fun x => .bl (keepB x.1.2 x.2)
abbrev RTurned := RF (fun g : List Int => [py g]) (fun g => g.length ≤ 1000) fun g => py (g.map fun i => -i)
theorem fr_one : fr 1 = .tup [.int 1, .int 1] := by unfold fr; simp
section
variable {P : Program} {w : World} {K : PySem.W.Frag} {mg : Str → Option Value} {base : Heap}
theorem ed_outcomes {k : Nat} {E : XK} {ρ : Rho} {te : TE} (x : Nat × List Quote) (h : EvD K ρ te (bk K x)) : EvD K ρ (tProp (He.ga K "Book") (spP K (ROutcomes K)) [] E te) (.int (x.1 : Nat)) := ed_prop h (rf x trivial)
theorem ed_quotes {k : Nat} {E : XK} {ρ : Rho} {te : TE} (x : Nat × List Quote) (h : EvD K ρ te (bk K x)) : EvD K ρ (tProp (He.ga K "Book") (spP K (RQuotes K)) [] E te) (qs x.2) := ed_prop h (rf x trivial)
theorem isi_book (T : Facts K mg) {te : TE} {ρ : Rho} {ns : List Str} {l : List D} (he : EvD K ρ te (.obj (He.ga K "Book") ns l)) : EvD K ρ (tCB (rIsi K) (tCons te (tCons (tC (.ref (He.ga K "Book"))) tNil))) (.bl true) := fun σ G H e n Q q =>
  he σ G H e n _ fun x G1 H1 s1 i1 => by
    obtain ⟨a, dx, fs, xs, rfl, h1, h2, h3, h4⟩ := is_obj i1
    obtain ⟨k1, k2, k3, k4⟩ := T.isi
    exact ⟨_, .ref _, .ref _, .ref _, true, rfl, .own _, .base (.ins (s1.le _ _ h1) T.c_Book k1 k2 k3 k4), by simp [PySem.W.kitOne], q _ G1 H1 s1 mk_bl⟩
theorem sc_Book___init__ : FnScope ["self", "outcomes", "quotes", "quote"] ["self", "outcomes", "quotes"] (defScope s_Book___init__) := ⟨rfl, rfl, rfl, by decide +kernel, rfl, by decide +kernel, by decide +kernel⟩
theorem ok_Book___init__ (T : Facts K mg) : Ok P w K mg base 7 (He.ma K (He.ga K "Book") "__init__") ["self", "outcomes", "quotes"] (spInit K (He.ga K "Book") ["held", "words"] RBook) := by
  have G_is_between : Ok P w K mg base 2 _ _ _ := ok_is_between T
  have G_check_quotes : Ok P w K mg base 6 _ _ _ := ok_check_quotes T
  have G_quote_text : Ok P w K mg base 2 _ _ _ := ok_quote_text T
  refine Ok.rfI T.F_Book___init__ sc_Book___init__ (fun fd F => F.bindsN fun _ _ _ _ _ _ us hl => match us, hl with | [_, _, _], _ => rfl) (fun _ => rfl) fun cdv A outer s H E hr x hx => ⟨_, (pss_cons (ps_if (pt_not (pt_val (G_is_between.pe (hr.mono (by decide)) rfl T.m_is_between (pa_cons (pv 1) (pa_cons pe_int (pa_cons (pe_glob (v := .int 6) rfl T.i_MOST_OUTCOMES.choose_spec ⟨_, rfl⟩) pa_nil)))))) (pss_one ps_never) pss_nil)
      (pss_cons (ps_expr (G_check_quotes.pe (hr.mono (by decide)) rfl T.m_check_quotes (pa_cons (pv 2) (pa_cons (pv 1) pa_nil))))
      (pss_cons (ps_fld (pv 0) (pe_tup (pa_cons (pv 1) (pa_cons (pv 2) pa_nil))) rfl)
      (pss_one (ps_fld (pv 0) (pe_joinK (K := K) rfl pe_str (pe_op op_addX (pe_lst (pa_cons (pe_op op_addX (pe_callTy call_strX rfl T.b_str (by decide +kernel) (pa_cons (pv 1) pa_nil)) pe_str) pa_nil)) (pe_lc (own := [("quote", 3)]) rfl sc_Book___init__.nd (pi_seqK (K := K) rfl (pv 2)) (blkOk_by (N := ["self", "outcomes", "quotes", "quote"]) (sc := defScope s_Book___init__) (by decide +kernel)) (fun _ _ _ _ _ => (pg_name (i := 3) sc_Book___init__.nd rfl (by first | exact Or.inl rfl | exact Or.inr rfl))) (fun _ _ _ _ _ => pts_nil) (fun _ _ _ _ _ => (G_quote_text.pe (hr.mono (by decide)) rfl T.m_quote_text (pa_cons (pv 3) pa_nil)))))) rfl))))), ?_⟩
  obtain ⟨n, l⟩ := x
  obtain ⟨⟨n1, n2⟩, hl, hq⟩ := hx
  dsimp only at n1 n2 hl hq
  intro p dx G0 H0
  have st : ∀ (ns : List Str) (es : List D), Stay (fun G H => Hist [p] G0 H0 G H ∧ OwnI K p (He.ga K "Book") dx ns es G H) := fun ns es => Stay.and Hist.stay OwnI.stay
  refine ⟨_, ht_seq (ht_sd (st _ _) (sd_if (j := false) (et_is (et_not (et_B (ed_call (ea_3 (ed_var rfl) ed_int ed_int) (rf (_, _, _) trivial)))) ?_) (fun h => by cases h) fun _ => sd_next)) (ht_seq (ht_sd (st _ _) (sd_drop (ed_call (ea_2 (ed_var rfl) (ed_var rfl)) (rf (l, n) ⟨hl, hq, n2⟩))))
    (ht_seq (ht_fld rfl List.mem_cons_self (ed_t2 (ed_var rfl) (ed_var rfl)) T.c_Book T.n_Book_held (by simp) (by decide))
      (ht_seq (ht_fld rfl List.mem_cons_self (ed_txt (ed_join (s := 1) (k := 1 + l.length) (n := 20000) (ed_str (by decide)) (ed_is (ed_op (ed_l1 (ed_txt (n := 20000) (ed_op (ed_cb (ea_1 (ed_var rfl)) (rc_str (log_small (by omega)))) (ed_str (n := 1) (by decide)) (rv_strcat (by decide))) (by decide))) (ed_lcT (xs := l) (enc := qd) (f := fun _ : Quote => D.txt 20000) (id_seqT (ed_var rfl)) (by omega) fun q hm => ⟨_, _, tg_name, by simp, ed_call (ea_1 (ed_var rfl)) (rf q ⟨by rw [(hq q hm).1.1]; exact hq q hm, by rw [(hq q hm).1.1]; exact n2⟩)⟩) (rv_cat (by simp; omega))) ?_) (by omega)) (by omega)) T.c_Book T.n_Book_words (by decide) (by decide)) ht_next)))⟩
  · dsimp only
    have a1 : (2 : Int) ≤ (n : Nat) := by omega
    have a2 : ((n : Nat) : Int) ≤ 6 := by omega
    rw [decide_eq_true (by exact a1), decide_eq_true (by exact a2)]; rfl
  · rw [List.map_const', ← List.replicate_append_replicate]; rfl
theorem sc_Book_outcomes : FnScope ["self"] ["self"] (defScope s_Book_outcomes) := ⟨rfl, rfl, rfl, by decide +kernel, rfl, by decide +kernel, by decide +kernel⟩
theorem ok_Book_outcomes (T : Facts K mg) : Ok P w K mg base 1 (gA K "Book" "outcomes") ["self"] (spP K (ROutcomes K)) := by
  refine Ok.rf T.F_Book_outcomes sc_Book_outcomes (fun fd F => F.bindsN fun _ _ _ _ _ _ us hl => match us, hl with | [_], _ => rfl) (fun _ => rfl) fun cdv A outer s H E hr x hx => ⟨_, (pss_one (ps_ret (pe_ix (ix_K (K := K) rfl) (pe_fldK (K := K) rfl (pv 0) rfl) pe_int (fun _ _ => rfl)))), ?_⟩
  exact sd_ret (ed_op (ed_fld (ed_var rfl) T.c_Book T.n_Book_held (i := 0) (by decide +kernel) rfl) ed_int (rv_ixT (k := 0) rfl))
theorem sc_Book_quotes : FnScope ["self"] ["self"] (defScope s_Book_quotes) := ⟨rfl, rfl, rfl, by decide +kernel, rfl, by decide +kernel, by decide +kernel⟩
theorem ok_Book_quotes (T : Facts K mg) : Ok P w K mg base 1 (gA K "Book" "quotes") ["self"] (spP K (RQuotes K)) := by
  refine Ok.rf T.F_Book_quotes sc_Book_quotes (fun fd F => F.bindsN fun _ _ _ _ _ _ us hl => match us, hl with | [_], _ => rfl) (fun _ => rfl) fun cdv A outer s H E hr x hx => ⟨_, (pss_one (ps_ret (pe_ix (ix_K (K := K) rfl) (pe_fldK (K := K) rfl (pv 0) rfl) pe_int (fun _ _ => rfl)))), ?_⟩
  exact sd_ret (ed_op (ed_fld (ed_var rfl) T.c_Book T.n_Book_held (i := 0) (by decide +kernel) rfl) ed_int (rv_ixT (k := 1) rfl))
theorem sc_Book_with_quote : FnScope ["self", "payoff", "price"] ["self", "payoff", "price"] (defScope s_Book_with_quote) := ⟨rfl, rfl, rfl, by decide +kernel, rfl, by decide +kernel, by decide +kernel⟩
theorem ok_Book_with_quote (T : Facts K mg) : Ok P w K mg base 9 (He.ma K (He.ga K "Book") "with_quote") ["self", "payoff", "price"] (spP K (RWithQ K)) := by
  have G_check_payoff : Ok P w K mg base 4 _ _ _ := ok_check_payoff T
  have G_check_price : Ok P w K mg base 5 _ _ _ := ok_check_price T
  have G_Book_outcomes : Ok P w K mg base 1 _ _ _ := ok_Book_outcomes T
  have G_Book_quotes : Ok P w K mg base 1 _ _ _ := ok_Book_quotes T
  have G_Book___init__ : Ok P w K mg base 7 _ _ _ := ok_Book___init__ T
  refine Ok.rf T.F_Book_with_quote sc_Book_with_quote (fun fd F => F.bindsN fun _ _ _ _ _ _ us hl => match us, hl with | [_, _, _], _ => rfl) (fun _ => rfl) fun cdv A outer s H E hr x hx => ⟨_, (pss_cons (ps_expr (G_check_payoff.pe (hr.mono (by decide)) rfl T.m_check_payoff (pa_cons (pv 1) (pa_cons (G_Book_outcomes.peP (hr.mono (by decide)) T.c_Book T.p_outcomes (pv 0)) pa_nil))))
      (pss_cons (ps_expr (G_check_price.pe (hr.mono (by decide)) rfl T.m_check_price (pa_cons (pv 2) pa_nil)))
      (pss_cons (ps_if (pt_cmpR (op_eqK (K := K) rfl hr.units) (pe_callB (call_lenK (K := K) rfl) rfl T.b_len (by decide +kernel) (pa_cons (G_Book_quotes.peP (hr.mono (by decide)) T.c_Book T.p_quotes (pv 0)) pa_nil)) (pe_glob (v := .int 32) rfl T.i_MOST_QUOTES.choose_spec ⟨_, rfl⟩) (nomark _)) (pss_one ps_never) pss_nil)
      (pss_one (ps_ret (G_Book___init__.peM T.k_Book (hr.mono (by decide)) rfl T.m_Book (pa_cons (G_Book_outcomes.peP (hr.mono (by decide)) T.c_Book T.p_outcomes (pv 0)) (pa_cons (pe_tup (pa_starK (K := K) rfl (G_Book_quotes.peP (hr.mono (by decide)) T.c_Book T.p_quotes (pv 0)) (pa_cons (pe_tup (pa_cons (pv 1) (pa_cons (pv 2) pa_nil))) pa_nil))) pa_nil)))))))), ?_⟩
  obtain ⟨⟨n, l⟩, g, q⟩ := x
  have hb := hx
  obtain ⟨⟨n1, n2⟩, hl, hq⟩ := hx
  dsimp only at n1 n2 hl hq
  have hgq := hq (g, q) (by simp)
  rw [List.length_append] at hl
  simp only [List.length_cons, List.length_nil] at hl
  refine sd_seq (sd_drop (ed_call (ea_2 (ed_var rfl) (ed_prop (ed_var rfl) (rf (n, l) trivial))) (rf (g, n) ⟨hgq.1, n2⟩))) ?_
  refine sd_seq (sd_drop (ed_call (ea_1 (ed_var rfl)) (rf q hgq.2))) ?_
  refine sd_seq (sd_if (j := false) (et_is (et_test (ed_op (ed_cb (ea_1 (ed_prop (ed_var rfl) (rf (n, l) trivial))) rc_lenT) ed_int rv_eqI)) ?_) (fun h => by cases h) fun _ => sd_next) ?_
  · have a1 : ¬ (((l.map qd).length : Nat) : Int) = 32 := by rw [List.length_map]; omega
    exact decide_eq_false a1
  refine sd_seq_rt (sd_ret (ed_make (ea_2 (ed_prop (ed_var rfl) (rf (n, l) trivial)) (ed_is (ed_tup (ea_starT (ed_prop (ed_var rfl) (rf (n, l) trivial)) (ea_1 (ed_t2 (ed_var rfl) (ed_var rfl)))) (by simp; omega)) (show _ = qs (l ++ [(g, q)]) by unfold qs; rw [List.map_append]; rfl))) (ri (n, l ++ [(g, q)]) hb)))
theorem sc_check_book : FnScope ["value"] ["value"] (defScope s_check_book) := ⟨rfl, rfl, rfl, by decide +kernel, rfl, by decide +kernel, by decide +kernel⟩
theorem ok_check_book (T : Facts K mg) : Ok P w K mg base 1 (He.ga K "check_book") ["value"] (spP K (RChBook K)) := by
  refine Ok.rfN T.F_check_book sc_check_book (fun fd F => F.bindsN fun _ _ _ _ _ _ us hl => match us, hl with | [_], _ => rfl) (fun _ => rfl) fun cdv A outer s H E hr x hx => ⟨_, (pss_one (ps_if (pt_not (pt_val (pe_callB (call_isiK' (K := K) rfl) rfl T.b_isinstance (by decide +kernel) (pa_cons (pv 0) (pa_cons (pe_glob (v := .ref _) rfl T.m_Book rfl) pa_nil))))) (pss_one ps_never) pss_nil)), ?_⟩
  exact ⟨_, sd_seq (sd_if (j := false) (et_is (et_not (et_B (isi_book T (ed_var rfl)))) rfl) (fun h => by cases h) fun _ => sd_next) sd_next⟩
theorem sc_is_share : FnScope ["value"] ["value"] (defScope s_is_share) := ⟨rfl, rfl, rfl, by decide +kernel, rfl, by decide +kernel, by decide +kernel⟩
theorem ok_is_share (T : Facts K mg) : Ok P w K mg base 4 (He.ga K "is_share") ["value"] (spP K RShare) := by
  have G_is_fraction : Ok P w K mg base 3 _ _ _ := ok_is_fraction T
  refine Ok.rf T.F_is_share sc_is_share (fun fd F => F.bindsN fun _ _ _ _ _ _ us hl => match us, hl with | [_], _ => rfl) (fun _ => rfl) fun cdv A outer s H E hr x hx => ⟨_, (pss_one (ps_ret (pe_and (G_is_fraction.pe (hr.mono (by decide)) rfl T.m_is_fraction (pa_cons (pv 0) (pa_cons (pe_glob (v := .int 1000000000) rfl T.i_MOST_TOP.choose_spec ⟨_, rfl⟩) (pa_cons (pe_glob (v := .int 1000000) rfl T.i_MOST_BOTTOM.choose_spec ⟨_, rfl⟩) pa_nil)))) (pe_one (pe_chain op_leX op_leX pe_int (pe_ix (ix_K (K := K) rfl) (pv 0) pe_int (fun _ _ => rfl)) (pe_ix (ix_K (K := K) rfl) (pv 0) pe_int (fun _ _ => rfl))))))), ?_⟩
  obtain ⟨h1, h2, h3⟩ := hx
  refine sd_ret (ed_is (ed_andV (j := fits x 1000000000 1000000) ?_ fun _ => ed_chain ed_int (fr_0 (ed_var rfl)) rv_le (fun _ => fr_1 (ed_var rfl)) fun _ => rv_le) ?_)
  · exact ed_call (ea_3 (ed_var rfl) ed_int ed_int) (rf (x, 1000000000, 1000000) trivial)
  · unfold fits
    rw [decide_eq_true h1, decide_eq_true h2, decide_eq_true (show -1000000000 ≤ x.num by omega), decide_eq_true (show x.num ≤ 1000000000 by omega), decide_eq_true (show ((x.den : Nat) : Int) ≤ 1000000 by omega)]; rfl
theorem sc_check_chance : FnScope ["value", "outcomes", "total", "index", "part"] ["value", "outcomes"] (defScope s_check_chance) := ⟨rfl, rfl, rfl, by decide +kernel, rfl, by decide +kernel, by decide +kernel⟩
theorem ok_check_chance (T : Facts K mg) : Ok P w K mg base 5 (He.ga K "check_chance") ["value", "outcomes"] (spP K RChChance) := by
  have G_is_share : Ok P w K mg base 4 _ _ _ := ok_is_share T
  have G_plus : Ok P w K mg base 3 _ _ _ := ok_plus T
  have G_is_less : Ok P w K mg base 1 _ _ _ := ok_is_less T
  refine Ok.rfN T.F_check_chance sc_check_chance (fun fd F => F.bindsN fun _ _ _ _ _ _ us hl => match us, hl with | [_, _], _ => rfl) (fun _ => rfl) fun cdv A outer s H E hr x hx => ⟨_, (pss_cons (ps_if (PW.pt (pw_or (pt_not (pt_val (pe_callB (call_isiK' (K := K) rfl) rfl T.b_isinstance (by decide +kernel) (pa_cons (pv 0) (pa_cons (pe_bltn (v := .ty "tuple") rfl T.b_tuple (by decide +kernel) rfl) pa_nil))))) (pw_or1 (pt_cmpR (op_neK (K := K) rfl hr.units) (pe_callB (call_lenK (K := K) rfl) rfl T.b_len (by decide +kernel) (pa_cons (pv 0) pa_nil)) (pv 1) (nomark _))))) (pss_one ps_never) pss_nil)
      (pss_cons (ps_set (i := 2) sc_check_chance.nd rfl (by first | exact Or.inl rfl | exact Or.inr rfl) (pe_tup (pa_cons pe_int (pa_cons pe_int pa_nil))))
      (pss_cons (ps_for PassesOwn.never rfl (pi_enumK (K := K) rfl rfl T.b_enumerate (pa_cons (pv 0) pa_nil)) (pg_tupK (n := 2) (K := K) rfl rfl (pgs_cons (pg_name (i := 3) sc_check_chance.nd rfl (by first | exact Or.inl rfl | exact Or.inr rfl)) (pgs_cons (pg_name (i := 4) sc_check_chance.nd rfl (by first | exact Or.inl rfl | exact Or.inr rfl)) pgs_nil))) (pss_cons (ps_if (pt_not (pt_val (G_is_share.pe (hr.mono (by decide)) rfl T.m_is_share (pa_cons (pv 4) pa_nil)))) (pss_one ps_never) pss_nil)
      (pss_cons (ps_set (i := 2) sc_check_chance.nd rfl (by first | exact Or.inl rfl | exact Or.inr rfl) (G_plus.pe (hr.mono (by decide)) rfl T.m_plus (pa_cons (pv 2) (pa_cons (pv 4) pa_nil))))
      (pss_one (ps_if (pt_val (G_is_less.pe (hr.mono (by decide)) rfl T.m_is_less (pa_cons (pe_tup (pa_cons pe_int (pa_cons pe_int pa_nil))) (pa_cons (pv 2) pa_nil)))) (pss_one ps_never) pss_nil)))))
      (pss_one (ps_if (pt_cmpR (op_neK (K := K) rfl hr.units) (pv 2) (pe_tup (pa_cons pe_int (pa_cons pe_int pa_nil))) (nomark _)) (pss_one ps_never) pss_nil))))), ?_⟩
  obtain ⟨c, n⟩ := x
  obtain ⟨hl, hn, hc⟩ := hx
  dsimp only at hl hn hc
  have hfin : ∀ (c : List Rat) (t : Rat), ChOk t c → sumQ t c = 1 := fun c => by
    induction c with
    | nil => intro t h; exact h
    | cons q l ih => intro t h; exact ih _ h.2
  refine ⟨[some (rw_ c), some (.int (n : Nat)), some (fr 1), none, none], ?_⟩
  refine sd_seq (sd_if (j := false) (et_is (et_or (et_not (et_B (isi_tup rfl (ed_var rfl)))) fun _ => et_test (ed_op (ed_cb (ea_1 (ed_var rfl)) rc_lenT) (ed_var rfl) rv_neI)) (by simp [hl])) (fun h => by cases h) fun _ => sd_next) ?_
  refine sd_seq (sd_set (ed_is (ed_t2 ed_int ed_int) (show _ = fr 0 from rfl))) ?_
  refine sd_seq (sd_from (by repeat (first | exact .nil | apply Wk.same | apply Wk.none)) (sd_fold (enc := fun p : Nat × Rat => .tup [.int (p.1 : Nat), fr p.2]) (fun t : Rat => [some (rw_ c), some (.int (n : Nat)), some (fr t), none, none]) (fun t p => t + p.2) (fun t r => ChOk t (r.map (·.2))) (xs := List.zip (List.range' 0 c.length) c) (0 : Rat)
    (by rw [← pairs_map]; exact id_enumT (ea_1 (ed_var rfl))) (by rw [List.map_snd_zip (by simp)]; exact hc) fun t p r h => ?_)) ?_
  · obtain ⟨i, q⟩ := p
    obtain ⟨⟨c1, c2, c3, c4⟩, h⟩ := h
    refine ⟨h, _, _, tg_tup (tgs_cons tg_name (tgs_cons tg_name tgs_nil)) rfl, ?_⟩
    refine sd_weak (sd_seq (sd_if (j := false) (et_is (et_not (et_B (ed_call (ea_1 (ed_var rfl)) (rf q c1)))) rfl) (fun h => by cases h) fun _ => sd_next) (sd_seq (sd_set (ed_call (ea_2 (ed_var rfl) (ed_var rfl)) (rf (t, q) c2))) (sd_seq (sd_if (j := false) (et_is (et_B (ed_call (ea_2 (ed_is (ed_t2 ed_int ed_int) fr_one.symm) (ed_var rfl)) (rf (1, t + q) c3))) ?_) (fun h => by cases h) fun _ => sd_next) sd_next))) (by repeat (first | exact .nil | apply Wk.same | apply Wk.none))
    exact decide_eq_false (Rat.not_lt.mpr c4)
  · have e : (List.zip (List.range' 0 c.length) c).foldl (fun (t : Rat) (p : Nat × Rat) => t + p.2) 0 = 1 := by
      rw [← hfin c 0 hc]
      unfold sumQ
      rw [← List.foldl_map (f := fun p : Nat × Rat => p.2) (g := fun (a b : Rat) => a + b), List.map_snd_zip (by simp)]
    rw [e]
    refine sd_seq (sd_if (j := false) (et_is (et_test (ed_op (ed_var rfl) (ed_is (ed_t2 ed_int ed_int) fr_one.symm) rv_neF)) (by simp)) (fun h => by cases h) fun _ => sd_next) sd_next
theorem sc_does_keep : FnScope ["quotes", "chance", "payoff", "price"] ["quotes", "chance"] (defScope s_does_keep) := ⟨rfl, rfl, rfl, by decide +kernel, rfl, by decide +kernel, by decide +kernel⟩
theorem ok_does_keep (T : Facts K mg) : Ok P w K mg base 6 (He.ga K "does_keep") ["quotes", "chance"] (spP K RKeep) := by
  have G_is_less : Ok P w K mg base 1 _ _ _ := ok_is_less T
  have G_worth_at : Ok P w K mg base 5 _ _ _ := ok_worth_at T
  refine Ok.rf T.F_does_keep sc_does_keep (fun fd F => F.bindsN fun _ _ _ _ _ _ us hl => match us, hl with | [_, _], _ => rfl) (fun _ => rfl) fun cdv A outer s H E hr x hx => ⟨_, (pss_one (ps_ret (pe_not (pe_callB (call_anyK (K := K) rfl rfl) rfl T.b_any (by decide +kernel) (pa_cons (pe_lc (own := [("payoff", 2), ("price", 3)]) rfl sc_does_keep.nd (pi_seqK (K := K) rfl (pv 0)) (blkOk_by (N := ["quotes", "chance", "payoff", "price"]) (sc := defScope s_does_keep) (by decide +kernel)) (fun _ _ _ _ _ => (pg_tupK (n := 2) (K := K) rfl rfl (pgs_cons (pg_name (i := 2) sc_does_keep.nd rfl (by first | exact Or.inl rfl | exact Or.inr rfl)) (pgs_cons (pg_name (i := 3) sc_does_keep.nd rfl (by first | exact Or.inl rfl | exact Or.inr rfl)) pgs_nil)))) (fun _ _ _ _ _ => pts_nil) (fun _ _ _ _ _ => (G_is_less.pe (hr.mono (by decide)) rfl T.m_is_less (pa_cons (G_worth_at.pe (hr.mono (by decide)) rfl T.m_worth_at (pa_cons (pv 2) (pa_cons (pv 1) pa_nil))) (pa_cons (pv 3) pa_nil))))) pa_nil))))), ?_⟩
  obtain ⟨l, c⟩ := x
  obtain ⟨hl, hq⟩ := hx
  dsimp only at hl hq
  refine sd_ret (ed_is (ed_notV (ed_cb (ea_1 (ed_is (ed_lcT (xs := l) (enc := qd) (f := fun q : Quote => D.bl (decide (wor q.1 c < q.2))) (id_seqT (ed_var rfl)) (by omega) fun q hm => ⟨_, _, tg_tup (tgs_cons tg_name (tgs_cons tg_name tgs_nil)) rfl, by simp, ed_call (ea_2 (ed_call (ea_2 (ed_var rfl) (ed_var rfl)) (rf (q.1, c) (hq q hm).1)) (ed_var rfl)) (rf (_, _) (hq q hm).2)⟩) (show _ = D.lst ((l.map fun q => decide (wor q.1 c < q.2)).map D.bl) by rw [List.map_map]; rfl))) rc_any)) ?_)
  unfold keepB
  rw [List.any_map]; rfl
theorem sc_gain_rows : FnScope ["book", "rows", "place", "payoff", "price"] ["book"] (defScope s_gain_rows) := ⟨rfl, rfl, rfl, by decide +kernel, rfl, by decide +kernel, by decide +kernel⟩
theorem ok_gain_rows (T : Facts K mg) : Ok P w K mg base 3 (He.ga K "gain_rows") ["book"] (spP K (RGains K)) := by
  have G_Book_outcomes : Ok P w K mg base 1 _ _ _ := ok_Book_outcomes T
  have G_Book_quotes : Ok P w K mg base 1 _ _ _ := ok_Book_quotes T
  refine Ok.rf T.F_gain_rows sc_gain_rows (fun fd F => F.bindsN fun _ _ _ _ _ _ us hl => match us, hl with | [_], _ => rfl) (fun _ => rfl) fun cdv A outer s H E hr x hx => ⟨_, (pss_cons (ps_set (i := 1) sc_gain_rows.nd rfl (by first | exact Or.inl rfl | exact Or.inr rfl) (pe_lst pa_nil))
      (pss_cons (ps_for PassesOwn.never rfl (pi_range1 rfl T.b_range (pa_cons (G_Book_outcomes.peP (hr.mono (by decide)) T.c_Book T.p_outcomes (pv 0)) pa_nil)) (pg_name (i := 2) sc_gain_rows.nd rfl (by first | exact Or.inl rfl | exact Or.inr rfl)) (pss_one (ps_expr (pe_bm PySem.F.plainAttrs_list PySem.F.slot_list_append PySem.F.type_list_append mt_append (pv 1) (pa_cons (pe_lc (own := [("payoff", 3), ("price", 4)]) rfl sc_gain_rows.nd (pi_seqK (K := K) rfl (G_Book_quotes.peP (hr.mono (by decide)) T.c_Book T.p_quotes (pv 0))) (blkOk_by (N := ["book", "rows", "place", "payoff", "price"]) (sc := defScope s_gain_rows) (by decide +kernel)) (fun _ _ _ _ _ => (pg_tupK (n := 2) (K := K) rfl rfl (pgs_cons (pg_name (i := 3) sc_gain_rows.nd rfl (by first | exact Or.inl rfl | exact Or.inr rfl)) (pgs_cons (pg_name (i := 4) sc_gain_rows.nd rfl (by first | exact Or.inl rfl | exact Or.inr rfl)) pgs_nil)))) (fun _ _ _ _ _ => pts_nil) (fun _ _ _ _ _ => (pe_op op_subX (pe_op (op_mulK (K := K) rfl) (pe_ix (ix_K (K := K) rfl) (pv 3) (pv 2) (fun _ _ => rfl)) (pe_ix (ix_K (K := K) rfl) (pv 4) pe_int (fun _ _ => rfl))) (pe_ix (ix_K (K := K) rfl) (pv 4) pe_int (fun _ _ => rfl))))) pa_nil)))))
      (pss_one (ps_ret (pv 1))))), ?_⟩
  obtain ⟨n, l⟩ := x
  obtain ⟨⟨n1, n2⟩, hl, hq⟩ := hx
  dsimp only at n1 n2 hl hq
  refine sd_own (ρ1 := [some (bk K (n, l)), none, none, none, none]) (l := (List.range' 0 n).map fun i => D.lst ((gainRow l i).map D.int)) (fun p G0 H0 => ?_) (sd_seq_rt (sd_ret (ed_is (ed_var rfl) ?_)))
  · refine ht_from (by repeat (first | exact .nil | apply Wk.same | apply Wk.none)) (ht_fill (ρ := [some (bk K (n, l)), some (.adr p), none, none, none]) (enc := fun i : Nat => D.int (i : Nat)) (fun i => D.lst ((gainRow l i).map D.int)) (fun i => i < n) (xs := List.range' 0 n) [] rfl (id_range (ea_1 (ed_prop (ed_var rfl) (rf (n, l) trivial))) (by omega)) (by simp; omega) (fun i hi => by rw [List.mem_range'_1] at hi; omega) fun i hi => ⟨_, _, tg_name, rfl, ?_, rfl, ?_⟩)
    · intro k d hd
      match k, hd with
      | 0, hd => exact hd
      | 1, hd => exact hd
      | 2, hd => cases hd
      | 3, hd => cases hd
      | 4, hd => cases hd
      | k + 5, hd => simp at hd
    · refine ed_is (ed_lcT (xs := l) (enc := qd) (f := fun q : Quote => D.int (q.1[i]?.getD 0 * (q.2.den : Nat) - q.2.num)) (id_seqT (ed_prop (ed_var rfl) (rf (n, l) trivial))) (by omega) fun q hm => ⟨_, _, tg_tup (tgs_cons tg_name (tgs_cons tg_name tgs_nil)) rfl, by simp, ?_⟩) (by unfold gainRow; rw [List.map_map]; rfl)
      have hqq := hq q hm
      have hi2 : i < q.1.length := by rw [hqq.1.1]; exact hi
      have he : q.1[i]? = some q.1[i] := by simp [hi2]
      have hb := hqq.1.2 q.1[i] (List.getElem_mem hi2)
      obtain ⟨⟨b1, b2⟩, b3⟩ := price_bits hqq.2
      rw [he]
      exact ed_op (ed_op (ed_op (ed_var rfl) (ed_var rfl) (rv_ixT (d := .int q.1[i]) (by rw [List.getElem?_map, he]; rfl))) (fr_1 (ed_var rfl)) (rv_mul (bd_mulw (n := 100) (m := 100) (by omega) (by omega) (by decide)))) (fr_0 (ed_var rfl)) rv_sub
  · show _ = rowsD (gainRows (n, l))
    unfold rowsD gainRows
    rw [List.map_map]; rfl
theorem sc_worth : FnScope ["payoff", "chance"] ["payoff", "chance"] (defScope s_worth) := ⟨rfl, rfl, rfl, by decide +kernel, rfl, by decide +kernel, by decide +kernel⟩
theorem ok_worth (T : Facts K mg) : Ok P w K mg base 6 (He.ga K "worth") ["payoff", "chance"] (spP K RTopWorth) := by
  have G_check_payoff : Ok P w K mg base 4 _ _ _ := ok_check_payoff T
  have G_check_chance : Ok P w K mg base 5 _ _ _ := ok_check_chance T
  have G_worth_at : Ok P w K mg base 5 _ _ _ := ok_worth_at T
  refine Ok.rf T.F_worth sc_worth (fun fd F => F.bindsN fun _ _ _ _ _ _ us hl => match us, hl with | [_, _], _ => rfl) (fun _ => rfl) fun cdv A outer s H E hr x hx => ⟨_, (pss_cons (ps_if (PW.pt (pw_or (pt_not (pt_val (pe_callB (call_isiK' (K := K) rfl) rfl T.b_isinstance (by decide +kernel) (pa_cons (pv 0) (pa_cons (pe_bltn (v := .ty "tuple") rfl T.b_tuple (by decide +kernel) rfl) pa_nil))))) (pw_or1 (pt_not (pt_chain op_leX op_leX pe_int (pe_callB (call_lenK (K := K) rfl) rfl T.b_len (by decide +kernel) (pa_cons (pv 0) pa_nil)) (pe_glob (v := .int 6) rfl T.i_MOST_OUTCOMES.choose_spec ⟨_, rfl⟩)))))) (pss_one ps_never) pss_nil)
      (pss_cons (ps_expr (G_check_payoff.pe (hr.mono (by decide)) rfl T.m_check_payoff (pa_cons (pv 0) (pa_cons (pe_callB (call_lenK (K := K) rfl) rfl T.b_len (by decide +kernel) (pa_cons (pv 0) pa_nil)) pa_nil))))
      (pss_cons (ps_expr (G_check_chance.pe (hr.mono (by decide)) rfl T.m_check_chance (pa_cons (pv 1) (pa_cons (pe_callB (call_lenK (K := K) rfl) rfl T.b_len (by decide +kernel) (pa_cons (pv 0) pa_nil)) pa_nil))))
      (pss_one (ps_ret (G_worth_at.pe (hr.mono (by decide)) rfl T.m_worth_at (pa_cons (pv 0) (pa_cons (pv 1) pa_nil)))))))), ?_⟩
  obtain ⟨g, c⟩ := x
  obtain ⟨h1, ⟨h2, h3⟩, h4, h5, h6⟩ := hx
  dsimp only at h1 h2 h3 h4 h5 h6
  have len : ∀ {ρ : Rho}, ρ[0]? = some (some (py g)) → EvD K ρ (tCB (rLenX K) (tCons (tVar 0) tNil)) (.int (g.length : Nat)) := fun h => ed_is (ed_cb (ea_1 (ed_var h)) rc_lenT) (by rw [List.length_map])
  refine sd_seq (sd_if (j := false) (et_is (et_or (et_not (et_B (isi_tup rfl (ed_var rfl)))) fun _ => et_not (et_test (ed_chain ed_int (len rfl) rv_le (fun _ => ed_int) fun _ => rv_le))) ?_) (fun h => by cases h) fun _ => sd_next) ?_
  · rw [decide_eq_true (by omega), decide_eq_true (by omega)]; rfl
  refine sd_seq (sd_drop (ed_call (ea_2 (ed_var rfl) (len rfl)) (rf (g, g.length) ⟨h1, h3⟩))) ?_
  refine sd_seq (sd_drop (ed_call (ea_2 (ed_var rfl) (len rfl)) (rf (c, g.length) ⟨h4, h3, h5⟩))) ?_
  exact sd_seq_rt (sd_ret (ed_call (ea_2 (ed_var rfl) (ed_var rfl)) (rf (g, c) h6)))
theorem sc_keeps : FnScope ["book", "chance"] ["book", "chance"] (defScope s_keeps) := ⟨rfl, rfl, rfl, by decide +kernel, rfl, by decide +kernel, by decide +kernel⟩
theorem ok_keeps (T : Facts K mg) : Ok P w K mg base 7 (He.ga K "keeps") ["book", "chance"] (spP K (RKeeps K)) := by
  have G_check_book : Ok P w K mg base 1 _ _ _ := ok_check_book T
  have G_check_chance : Ok P w K mg base 5 _ _ _ := ok_check_chance T
  have G_does_keep : Ok P w K mg base 6 _ _ _ := ok_does_keep T
  have G_Book_outcomes : Ok P w K mg base 1 _ _ _ := ok_Book_outcomes T
  have G_Book_quotes : Ok P w K mg base 1 _ _ _ := ok_Book_quotes T
  refine Ok.rf T.F_keeps sc_keeps (fun fd F => F.bindsN fun _ _ _ _ _ _ us hl => match us, hl with | [_, _], _ => rfl) (fun _ => rfl) fun cdv A outer s H E hr x hx => ⟨_, (pss_cons (ps_expr (G_check_book.pe (hr.mono (by decide)) rfl T.m_check_book (pa_cons (pv 0) pa_nil)))
      (pss_cons (ps_expr (G_check_chance.pe (hr.mono (by decide)) rfl T.m_check_chance (pa_cons (pv 1) (pa_cons (G_Book_outcomes.peP (hr.mono (by decide)) T.c_Book T.p_outcomes (pv 0)) pa_nil))))
      (pss_one (ps_ret (G_does_keep.pe (hr.mono (by decide)) rfl T.m_does_keep (pa_cons (G_Book_quotes.peP (hr.mono (by decide)) T.c_Book T.p_quotes (pv 0)) (pa_cons (pv 1) pa_nil))))))), ?_⟩
  obtain ⟨b, c⟩ := x
  obtain ⟨h1, h2, h3, h4⟩ := hx
  refine sd_seq (sd_drop (ed_call (ea_1 (ed_var rfl)) (rf b trivial))) ?_
  refine sd_seq (sd_drop (ed_call (ea_2 (ed_var rfl) (ed_prop (ed_var rfl) (rf b trivial))) (rf (c, b.1) ⟨h1, h2, h3⟩))) ?_
  exact sd_seq_rt (sd_ret (ed_call (ea_2 (ed_prop (ed_var rfl) (rf b trivial)) (ed_var rfl)) (rf (b.2, c) h4)))
theorem sc_turned : FnScope ["payoff", "number"] ["payoff"] (defScope s_turned) := ⟨rfl, rfl, rfl, by decide +kernel, rfl, by decide +kernel, by decide +kernel⟩
theorem ok_turned (T : Facts K mg) : Ok P w K mg base 1 (He.ga K "turned") ["payoff"] (spP K RTurned) := by
  refine Ok.rf T.F_turned sc_turned (fun fd F => F.bindsN fun _ _ _ _ _ _ us hl => match us, hl with | [_], _ => rfl) (fun _ => rfl) fun cdv A outer s H E hr x hx => ⟨_, (pss_one (ps_ret (pe_callTy (call_tupK (K := K) rfl) rfl T.b_tuple (by decide +kernel) (pa_cons (pe_lc (own := [("number", 1)]) rfl sc_turned.nd (pi_seqK (K := K) rfl (pv 0)) (blkOk_by (N := ["payoff", "number"]) (sc := defScope s_turned) (by decide +kernel)) (fun _ _ _ _ _ => (pg_name (i := 1) sc_turned.nd rfl (by first | exact Or.inl rfl | exact Or.inr rfl))) (fun _ _ _ _ _ => pts_nil) (fun _ _ _ _ _ => (pe_un un_negX (pv 1)))) pa_nil)))), ?_⟩
  exact sd_ret (ed_is (ed_cb (ea_1 (ed_lcT (xs := x) (enc := D.int) (f := fun i : Int => D.int (-i)) (id_seqT (ed_var rfl)) (by omega) fun i hi => ⟨_, _, tg_name, by simp, ed_un (ed_var rfl) ru_neg⟩)) rc_tupL) (by unfold py; rw [List.map_map]; rfl))
end
end Top
end
section
set_option Elab.async false
set_option linter.all false
set_option maxRecDepth 100000
set_option maxHeartbeats 4000000
/-! F8: corners, crossings, neighbours. -/
namespace Top
open PySem PySem.Spec PyProof.Rows L2 StX RZ Pu PySem.W
def nl (l : List Nat) : D := .lst (l.map fun n => D.int (n : Nat))
def coF (c : Cn) : List D := [py c.1, nl c.2]
def co (K : PySem.W.Frag) (c : Cn) : D := .obj (He.ga K "Corner") ["point", "bounds"] (coF c)
def cos (K : PySem.W.Frag) (l : List Cn) : D := .lst (l.map (co K))
abbrev RCorner := RI (fun c : Cn => coF c) (fun _ => True) coF
abbrev RCrossing (K : PySem.W.Frag) := RF (fun x : CrArgs => [co K x.a, co K x.b, D.int x.ab, D.int x.be, D.int (x.k : Nat)]) CrOk fun x => co K (crossing x.a x.b x.ab x.be x.k)
abbrev RJoined (K : PySem.W.Frag) := RF (fun x : List Cn × Nat × Nat => [cos K x.1, D.int (x.2.1 : Nat), D.int (x.2.2 : Nat)]) (fun x => x.1.length ≤ 1000 ∧ (x.2.1 < x.1.length ∧ x.2.2 < x.1.length) ∧ ∀ c ∈ x.1, c.2.length ≤ 1000) fun x => .bl (joined x.1 x.2.1 x.2.2)
theorem gcdL_le : ∀ (l : List Int) (g : Int), 0 ≤ g → 0 ≤ l.foldl (fun (g : Int) n => ((Int.gcd g n : Nat) : Int)) g ∧ (l.foldl (fun (g : Int) n => ((Int.gcd g n : Nat) : Int)) g ∣ g) ∧ ∀ i ∈ l, l.foldl (fun (g : Int) n => ((Int.gcd g n : Nat) : Int)) g ∣ i
  | [], g, h => ⟨h, Int.dvd_refl g, by simp⟩
  | n :: l, g, h => by
    obtain ⟨h1, h2, h3⟩ := gcdL_le l ((Int.gcd g n : Nat) : Int) (by omega)
    refine ⟨h1, Int.dvd_trans h2 (Int.gcd_dvd_left g n), fun i hi => ?_⟩
    rcases List.mem_cons.mp hi with q | q
    · subst q; exact Int.dvd_trans h2 (Int.gcd_dvd_right g i)
    · exact h3 i q
theorem gcdL_dvdF {l : List Int} {i : Int} (h : i ∈ l) : gcdL l ∣ i := (gcdL_le l 0 (by omega)).2.2 i h
theorem gcdL_nn {l : List Int} : 0 ≤ gcdL l := (gcdL_le l 0 (by omega)).1
theorem gcdL_pos {l : List Int} (h : ∃ i ∈ l, i ≠ 0) : 0 < gcdL l := by
  obtain ⟨i, hi, h0⟩ := h
  have h1 := gcdL_dvdF hi
  have h2 := gcdL_nn (l := l)
  by_cases q : gcdL l = 0
  · rw [q] at h1; exact absurd (Int.zero_dvd.mp h1) h0
  · omega
theorem natAbs_sub_le (a b : Int) : (a - b).natAbs ≤ a.natAbs + b.natAbs := by omega
theorem cross_bits {a b : List Int} {x y : Int} {n m : Nat} (ha : Small n a) (hb : Small n b) (hx : x.natAbs < 2 ^ m) (hy : y.natAbs < 2 ^ m) : Small (n + m + 1) (crossPt a b x y) := fun i hi => by
  unfold crossPt at hi
  obtain ⟨j, hj, e⟩ := List.mem_iff_getElem.mp hi
  rw [List.getElem_zipWith] at e
  subst e
  rw [List.length_zipWith] at hj
  have h1 := ha a[j] (List.getElem_mem (by omega))
  have h2 := hb b[j] (List.getElem_mem (by omega))
  have q1 := mul_bits hx h2
  have q2 := mul_bits hy h1
  have q3 := natAbs_sub_le (x * b[j]) (y * a[j])
  rw [Nat.pow_succ]
  have e : m + n = n + m := Nat.add_comm _ _
  rw [e] at q1 q2
  omega
theorem div_of {l : List Int} {i : Int} {n : Nat} (hs : Small n l) (hn : n ≤ 8999) (h : ∃ i ∈ l, i ≠ 0) : CDivW i (gcdL l) := by
  have hp := gcdL_pos h
  obtain ⟨j, hj, h0⟩ := h
  have hd := Int.natAbs_dvd_natAbs.mpr (gcdL_dvdF hj)
  have hle := Nat.le_of_dvd (by omega) hd
  exact ⟨by omega, log2_of (Nat.lt_of_lt_of_le (Nat.lt_of_le_of_lt hle (hs j hj)) (Nat.pow_le_pow_right (by decide) (by omega))) (by decide)⟩
theorem mem_nat {i : Nat} {l : List Nat} : decide ((i : Int) ∈ l.map fun n : Nat => ((n : Nat) : Int)) = decide (i ∈ l) := by
  have : ((i : Int) ∈ l.map fun n : Nat => ((n : Nat) : Int)) ↔ i ∈ l := by
    rw [List.mem_map]
    constructor
    · rintro ⟨j, h1, h2⟩
      have : j = i := by omega
      exact this ▸ h1
    · exact fun h => ⟨i, h, rfl⟩
  exact decide_eq_decide.mpr this
section
variable {P : Program} {w : World} {K : PySem.W.Frag} {mg : Str → Option Value} {base : Heap} {ρ : Rho} {te ta tb : TE}
theorem ed_point (T : Facts K mg) {c : Cn} (h : EvD K ρ te (co K c)) : EvD K ρ (tFld K te "point") (py c.1) := ed_fld h T.c_Corner T.n_Corner_point (i := 0) (by decide +kernel) rfl
theorem ed_bounds (T : Facts K mg) {c : Cn} (h : EvD K ρ te (co K c)) : EvD K ρ (tFld K te "bounds") (nl c.2) := ed_fld h T.c_Corner T.n_Corner_bounds (i := 1) (by decide +kernel) rfl
theorem ed_inN {l : List Nat} {i : Nat} (h : EvD K ρ ta (.int (i : Nat))) (h2 : EvD K ρ tb (nl l)) : EvD K ρ (tOp (rInX K) ta tb) (.bl (decide (i ∈ l))) := by
  rw [← mem_nat]
  refine ed_op h h2 ?_
  have e : nl l = D.lst ((l.map fun n : Nat => ((n : Nat) : Int)).map D.int) := by unfold nl; rw [List.map_map]; rfl
  rw [e]; exact rv_inI
theorem sc_Corner___init__ : FnScope ["self", "point", "bounds"] ["self", "point", "bounds"] (defScope s_Corner___init__) := ⟨rfl, rfl, rfl, by decide +kernel, rfl, by decide +kernel, by decide +kernel⟩
theorem ok_Corner___init__ (T : Facts K mg) : Ok P w K mg base 1 (He.ma K (He.ga K "Corner") "__init__") ["self", "point", "bounds"] (spInit K (He.ga K "Corner") ["point", "bounds"] RCorner) := by
  refine Ok.rfI T.F_Corner___init__ sc_Corner___init__ (fun fd F => F.bindsN fun _ _ _ _ _ _ us hl => match us, hl with | [_, _, _], _ => rfl) (fun _ => rfl) fun cdv A outer s H E hr x hx => ⟨_, (pss_cons (ps_fld (pv 0) (pv 1) rfl)
      (pss_one (ps_fld (pv 0) (pv 2) rfl))), ?_⟩
  intro p dx G0 H0
  exact ⟨_, ht_seq (ht_fld rfl List.mem_cons_self (ed_var rfl) T.c_Corner T.n_Corner_point (by simp) (by decide))
      (ht_seq (ht_fld rfl List.mem_cons_self (ed_var rfl) T.c_Corner T.n_Corner_bounds (by decide) (by decide)) ht_next)⟩
theorem sc_crossing : FnScope ["one", "other", "above", "below", "bound", "point", "common", "both", "near", "far", "each", "number"] ["one", "other", "above", "below", "bound"] (defScope s_crossing) := ⟨rfl, rfl, rfl, by decide +kernel, rfl, by decide +kernel, by decide +kernel⟩
theorem ok_crossing (T : Facts K mg) : Ok P w K mg base 3 (He.ga K "crossing") ["one", "other", "above", "below", "bound"] (spP K (RCrossing K)) := by
  have G_common_of : Ok P w K mg base 2 _ _ _ := ok_common_of T
  have G_Corner___init__ : Ok P w K mg base 1 _ _ _ := ok_Corner___init__ T
  refine Ok.rf T.F_crossing sc_crossing (fun fd F => F.bindsN fun _ _ _ _ _ _ us hl => match us, hl with | [_, _, _, _, _], _ => rfl) (fun _ => rfl) fun cdv A outer s H E hr x hx => ⟨_, (pss_cons (ps_setLc (i := 5) (own := [("near", 8), ("far", 9)]) rfl sc_crossing.nd rfl rfl (sw_true rfl rfl rfl (by decide +kernel)) (pi_zipK (K := K) rfl rfl T.b_zip (pa_cons (pe_fldK (K := K) rfl (pv 0) rfl) (pa_cons (pe_fldK (K := K) rfl (pv 1) rfl) pa_nil))) (blkOk_by (N := ["one", "other", "above", "below", "bound", "point", "common", "both", "near", "far", "each", "number"]) (sc := defScope s_crossing) (by decide +kernel)) (fun _ _ _ _ _ => (pg_tupK (n := 2) (K := K) rfl rfl (pgs_cons (pg_name (i := 8) sc_crossing.nd rfl (by first | exact Or.inl rfl | exact Or.inr rfl)) (pgs_cons (pg_name (i := 9) sc_crossing.nd rfl (by first | exact Or.inl rfl | exact Or.inr rfl)) pgs_nil)))) (fun _ _ _ _ _ => pts_nil) (fun _ _ _ _ _ => (pe_op op_subX (pe_op (op_mulK (K := K) rfl) (pv 2) (pv 9)) (pe_op (op_mulK (K := K) rfl) (pv 3) (pv 8)))))
      (pss_cons (ps_set (i := 6) sc_crossing.nd rfl (by first | exact Or.inl rfl | exact Or.inr rfl) (G_common_of.pe (hr.mono (by decide)) rfl T.m_common_of (pa_cons (pv 5) pa_nil)))
      (pss_cons (ps_setLc (i := 7) (own := [("each", 10)]) rfl sc_crossing.nd rfl rfl (sw_true rfl rfl rfl (by decide +kernel)) (pi_seqK (K := K) rfl (pe_fldK (K := K) rfl (pv 0) rfl)) (blkOk_by (N := ["one", "other", "above", "below", "bound", "point", "common", "both", "near", "far", "each", "number"]) (sc := defScope s_crossing) (by decide +kernel)) (fun _ _ _ _ _ => (pg_name (i := 10) sc_crossing.nd rfl (by first | exact Or.inl rfl | exact Or.inr rfl))) (fun _ _ _ _ _ => (pts_one (pt_cmpR (op_inK (K := K) rfl (hu65 hr)) (pv 10) (pe_fldK (K := K) rfl (pv 1) rfl) (by with_unfolding_all rfl)))) (fun _ _ _ _ _ => (pv 10)))
      (pss_one (ps_ret (G_Corner___init__.peM T.k_Corner (hr.mono (by decide)) rfl T.m_Corner (pa_cons (pe_callTy (call_tupK (K := K) rfl) rfl T.b_tuple (by decide +kernel) (pa_cons (pe_lc (own := [("number", 11)]) rfl sc_crossing.nd (pi_seqK (K := K) rfl (pv 5)) (blkOk_by (N := ["one", "other", "above", "below", "bound", "point", "common", "both", "near", "far", "each", "number"]) (sc := defScope s_crossing) (by decide +kernel)) (fun _ _ _ _ _ => (pg_name (i := 11) sc_crossing.nd rfl (by first | exact Or.inl rfl | exact Or.inr rfl))) (fun _ _ _ _ _ => pts_nil) (fun _ _ _ _ _ => (pe_op op_divX (pv 11) (pv 6)))) pa_nil)) (pa_cons (pe_op op_addX (pv 7) (pe_lst (pa_cons (pv 4) pa_nil))) pa_nil)))))))), ?_⟩
  obtain ⟨a, b, ab, be, k⟩ := x
  obtain ⟨⟨h1, h2⟩, ⟨h3, h4⟩, ⟨h5, h6⟩, h7⟩ := hx
  dsimp only at h1 h2 h3 h4 h5 h6 h7
  have hb := cross_bits h1 h2 h3 h4
  have hpl : (crossPt a.1 b.1 ab be).length ≤ 100 := by unfold crossPt; rw [List.length_zipWith]; omega
  refine sd_seq (sd_set (ed_is (ed_lcT (xs := a.1.zip b.1) (enc := fun p : Int × Int => .tup [.int p.1, .int p.2]) (f := fun p : Int × Int => D.int (ab * p.2 - be * p.1)) (by rw [← zipD_map]; exact id_zipXT (ea_2 (ed_point T (ed_var rfl)) (ed_point T (ed_var rfl)))) (by rw [List.length_zip]; omega) fun p hp => ⟨_, _, tg_tup (tgs_cons tg_name (tgs_cons tg_name tgs_nil)) rfl, by simp, ?_⟩) (show _ = D.lst ((crossPt a.1 b.1 ab be).map D.int) by unfold crossPt; rw [List.map_zipWith, List.zip, List.map_zipWith]))) ?_
  · have q1 := h1 p.1 (List.of_mem_zip (show (p.1, p.2) ∈ _ from hp)).1
    have q2 := h2 p.2 (List.of_mem_zip (show (p.1, p.2) ∈ _ from hp)).2
    exact ed_op (ed_op (ed_var rfl) (ed_var rfl) (rv_mul (bd_mulw h3 q2 (by decide)))) (ed_op (ed_var rfl) (ed_var rfl) (rv_mul (bd_mulw h4 q1 (by decide)))) rv_sub
  refine sd_seq (sd_set (ed_call (ea_1 (ed_var rfl)) (rf (crossPt a.1 b.1 ab be) trivial))) ?_
  refine sd_seq (sd_set (ed_lcTF (xs := a.2) (enc := fun n : Nat => D.int (n : Nat)) (f := fun n : Nat => D.int (n : Nat)) (p := fun e => decide (e ∈ b.2)) (id_seqL (ed_bounds T (ed_var rfl))) (by omega) fun n hn => ⟨_, _, tg_name, by simp, et_test (ed_inN (ed_var rfl) (ed_bounds T (ed_var rfl))), fun _ => ed_var rfl⟩)) ?_
  refine sd_seq_rt (sd_ret (ed_make (ea_2 (ed_is (ed_cb (ea_1 (ed_lcT (xs := crossPt a.1 b.1 ab be) (enc := D.int) (f := fun n : Int => D.int (n / gcdL (crossPt a.1 b.1 ab be))) (id_seqL (ed_var rfl)) (by omega) fun n hn => ⟨_, _, tg_name, by simp, ed_op (ed_var rfl) (ed_var rfl) (rv_div (div_of hb (by decide) h7))⟩)) rc_tupL) (show _ = py (crossing a b ab be k).1 by unfold crossing py; rw [List.map_map]; rfl)) (ed_is (ed_op (ed_var rfl) (ed_l1 (ed_var rfl)) (rv_cat ?_)) (show _ = nl (crossing a b ab be k).2 by unfold crossing nl both; rw [List.map_append]; rfl))) (ri (crossing a b ab be k) trivial)))
  have := List.length_filter_le (fun e => decide (e ∈ b.2)) a.2
  simp only [List.length_map, List.length_cons, List.length_nil]
  omega
theorem sc_are_joined : FnScope ["corners", "near", "far", "both", "index", "third", "each"] ["corners", "near", "far"] (defScope s_are_joined) := ⟨rfl, rfl, rfl, by decide +kernel, rfl, by decide +kernel, by decide +kernel⟩
theorem ok_are_joined (T : Facts K mg) : Ok P w K mg base 1 (He.ga K "are_joined") ["corners", "near", "far"] (spP K (RJoined K)) := by
  refine Ok.rf T.F_are_joined sc_are_joined (fun fd F => F.bindsN fun _ _ _ _ _ _ us hl => match us, hl with | [_, _, _], _ => rfl) (fun _ => rfl) fun cdv A outer s H E hr x hx => ⟨_, (pss_cons (ps_setLc (i := 3) (own := [("each", 6)]) rfl sc_are_joined.nd rfl rfl (sw_true rfl rfl rfl (by decide +kernel)) (pi_seqK (K := K) rfl (pe_fldK (K := K) rfl (pe_ix (ix_K (K := K) rfl) (pv 0) (pv 1) (fun _ _ => rfl)) rfl)) (blkOk_by (N := ["corners", "near", "far", "both", "index", "third", "each"]) (sc := defScope s_are_joined) (by decide +kernel)) (fun _ _ _ _ _ => (pg_name (i := 6) sc_are_joined.nd rfl (by first | exact Or.inl rfl | exact Or.inr rfl))) (fun _ _ _ _ _ => (pts_one (pt_cmpR (op_inK (K := K) rfl (hu65 hr)) (pv 6) (pe_fldK (K := K) rfl (pe_ix (ix_K (K := K) rfl) (pv 0) (pv 2) (fun _ _ => rfl)) rfl) (by with_unfolding_all rfl)))) (fun _ _ _ _ _ => (pv 6)))
      (pss_cons (ps_for PassesOwn.never rfl (pi_enumK (K := K) rfl rfl T.b_enumerate (pa_cons (pv 0) pa_nil)) (pg_tupK (n := 2) (K := K) rfl rfl (pgs_cons (pg_name (i := 4) sc_are_joined.nd rfl (by first | exact Or.inl rfl | exact Or.inr rfl)) (pgs_cons (pg_name (i := 5) sc_are_joined.nd rfl (by first | exact Or.inl rfl | exact Or.inr rfl)) pgs_nil))) (pss_one (ps_if (PW.pt (pw_and (pt_cmpR (op_notInK (K := K) rfl) (pv 4) (pe_tup (pa_cons (pv 1) (pa_cons (pv 2) pa_nil))) (by with_unfolding_all rfl)) (pw_and1 (pt_val (pe_callB (call_allK (K := K) rfl rfl) rfl T.b_all (by decide +kernel) (pa_cons (pe_lc (own := [("each", 6)]) rfl sc_are_joined.nd (pi_seqK (K := K) rfl (pv 3)) (blkOk_by (N := ["corners", "near", "far", "both", "index", "third", "each"]) (sc := defScope s_are_joined) (by decide +kernel)) (fun _ _ _ _ _ => (pg_name (i := 6) sc_are_joined.nd rfl (by first | exact Or.inl rfl | exact Or.inr rfl))) (fun _ _ _ _ _ => pts_nil) (fun _ _ _ _ _ => (pe_cmpR (op_inK (K := K) rfl (hu65 hr)) (pv 6) (pe_fldK (K := K) rfl (pv 5) rfl) (by with_unfolding_all rfl)))) pa_nil)))))) (pss_one (ps_ret pe_bl)) pss_nil)))
      (pss_one (ps_ret pe_bl)))), ?_⟩
  obtain ⟨cs, i, j⟩ := x
  obtain ⟨hl, ⟨hi, hj⟩, hb⟩ := hx
  dsimp only at hl hi hj hb
  have gi : cs[i]? = some cs[i] := by simp [hi]
  have gj : cs[j]? = some cs[j] := by simp [hj]
  have bi := hb cs[i] (List.getElem_mem hi)
  have ei : (List.map (co K) cs)[i]? = some (co K cs[i]) := by rw [List.getElem?_map, gi]; rfl
  have ej : (List.map (co K) cs)[j]? = some (co K cs[j]) := by rw [List.getElem?_map, gj]; rfl
  refine sd_seq (sd_set (ed_lcTF (xs := cs[i].2) (enc := fun n : Nat => D.int (n : Nat)) (f := fun n : Nat => D.int (n : Nat)) (p := fun e => decide (e ∈ cs[j].2)) (id_seqL (ed_bounds T (ed_op (ed_var rfl) (ed_var rfl) (rv_ixL ei)))) (by omega) fun n hn => ⟨_, _, tg_name, by simp, et_test (ed_inN (ed_var rfl) (ed_bounds T (ed_op (ed_var rfl) (ed_var rfl) (rv_ixL ej)))), fun _ => ed_var rfl⟩)) ?_
  have hbl : (both cs[i].2 cs[j].2).length ≤ 1000 := by
    have := List.length_filter_le (fun e => decide (e ∈ cs[j].2)) cs[i].2
    unfold both; omega
  refine sd_from (by repeat (first | exact .nil | apply Wk.same | apply Wk.none)) (sd_searchQ (enc := fun p : Nat × Cn => .tup [.int (p.1 : Nat), co K p.2]) [some (cos K cs), some (.int (i : Nat)), some (.int (j : Nat)), some (nl (both cs[i].2 cs[j].2)), none, none, none]
    (fun p : Nat × Cn => if ((!decide (p.1 = i) && !decide (p.1 = j)) && ((both cs[i].2 cs[j].2).all fun e => decide (e ∈ p.2.2))) = true then some (D.bl false) else none) (xs := List.zip (List.range' 0 cs.length) cs)
    (by rw [← pairs_map]; exact id_enumL (ea_1 (ed_var rfl))) (fun p hp => ⟨_, _, tg_tup (tgs_cons tg_name (tgs_cons tg_name tgs_nil)) rfl, ?_⟩) (fun h => ?_) fun d h => ?_)
  · have hbb : (!decide ((p.1 : Int) ∈ [((i : Nat) : Int), ((j : Nat) : Int)]) && ((both cs[i].2 cs[j].2).map fun n => decide (n ∈ p.2.2)).all id) = ((!decide (p.1 = i) && !decide (p.1 = j)) && ((both cs[i].2 cs[j].2).all fun e => decide (e ∈ p.2.2))) := by
      rw [List.all_map]
      congr 1
      rw [← Bool.not_or]
      congr 1
      rw [← Bool.decide_or]
      refine decide_eq_decide.mpr ?_
      simp only [List.mem_cons, List.not_mem_nil, or_false]
      omega
    by_cases q : ((!decide (p.1 = i) && !decide (p.1 = j)) && ((both cs[i].2 cs[j].2).all fun e => decide (e ∈ p.2.2))) = true
    · exact .inr ⟨D.bl false, if_pos q, sd_seq_rt (sd_if (j := true) (et_is (et_and (et_test (ed_op (ed_var rfl) (ed_t2 (ed_var rfl) (ed_var rfl)) (rv_notInT (i := (p.1 : Nat)) (ns := [((i : Nat) : Int), ((j : Nat) : Int)])))) fun _ => et_B (ed_cb (ea_1 (ed_is (ed_lcT (xs := both cs[i].2 cs[j].2) (enc := fun n : Nat => D.int (n : Nat)) (f := fun n : Nat => D.bl (decide (n ∈ p.2.2))) (id_seqL (ed_var rfl)) (by omega) fun n hn => ⟨_, _, tg_name, by simp, ed_inN (ed_var rfl) (ed_bounds T (ed_var rfl))⟩) (show _ = D.lst (((both cs[i].2 cs[j].2).map fun n => decide (n ∈ p.2.2)).map D.bl) by rw [List.map_map]; rfl))) rc_all)) (hbb.trans q)) (fun _ => sd_seq_rt (sd_ret ed_bl)) fun h => by cases h)⟩
    · exact .inl ⟨if_neg q, sd_weak (sd_seq (sd_if (j := false) (et_is (et_and (et_test (ed_op (ed_var rfl) (ed_t2 (ed_var rfl) (ed_var rfl)) (rv_notInT (i := (p.1 : Nat)) (ns := [((i : Nat) : Int), ((j : Nat) : Int)])))) fun _ => et_B (ed_cb (ea_1 (ed_is (ed_lcT (xs := both cs[i].2 cs[j].2) (enc := fun n : Nat => D.int (n : Nat)) (f := fun n : Nat => D.bl (decide (n ∈ p.2.2))) (id_seqL (ed_var rfl)) (by omega) fun n hn => ⟨_, _, tg_name, by simp, ed_inN (ed_var rfl) (ed_bounds T (ed_var rfl))⟩) (show _ = D.lst (((both cs[i].2 cs[j].2).map fun n => decide (n ∈ p.2.2)).map D.bl) by rw [List.map_map]; rfl))) rc_all)) (hbb.trans (Bool.eq_false_iff.mpr q))) (fun h => by cases h) fun _ => sd_next) sd_next) (by repeat (first | exact .nil | apply Wk.same | apply Wk.none))⟩
  · have e : joined cs i j = true := by
      unfold joined
      rw [gi, gj]
      refine Bool.not_eq_true' _ |>.mpr (Bool.eq_false_iff.mpr fun z => ?_)
      obtain ⟨p, hp, hq⟩ := List.any_eq_true.mp z
      have := List.findSome?_eq_none_iff.mp h p hp
      rw [if_pos (by simpa using hq)] at this
      cases this
    refine sd_seq_rt (sd_ret (ed_is ed_bl ?_))
    dsimp only
    rw [e]
  · obtain ⟨p, hp, hq⟩ := List.exists_of_findSome?_eq_some h
    split at hq
    · rename_i hc
      cases hq
      congr 2
      unfold joined
      rw [gi, gj]
      refine (Bool.not_eq_false' _).mpr (List.any_eq_true.mpr ⟨p, hp, by simpa using hc⟩)
    · cases hq
end
end Top
end
section
set_option Elab.async false
set_option linter.all false
set_option maxRecDepth 100000
set_option maxHeartbeats 4000000
/-! F9: cuts and corners. -/
namespace Top
open PySem PySem.Spec PyProof.Rows L2 StX RZ Pu PySem.W
def lcS (e : Option Expr) : Scope := match e with
  | some (.ListComp _ _ s _) => s
  | _ => defScope s_cut_by
def asgV (s : Option Stmt) : Option Expr := match s with
  | some (.Assign _ v _) => some v
  | _ => none
abbrev blkS_cut_by : Scope := lcS (asgV (defBody s_cut_by)[0]?)
abbrev RCut (K : PySem.W.Frag) := RF (fun x : List Cn × List Int × Nat => [cos K x.1, .lst (x.2.1.map D.int), D.int (x.2.2 : Nat)]) CutOk fun x => cos K (cutBy x.1 x.2.1 x.2.2)
abbrev RCorPts (K : PySem.W.Frag) := RF (fun x : Nat × List Quote => [bk K x]) CpOk fun x => .lst ((cornerPts x).map py)
abbrev RCorOf (K : PySem.W.Frag) := RF (fun x : Nat × List Quote => [bk K x]) CoOk fun x => .lst ((cornersOf x).map rw_)
theorem sum_bits {n : Nat} : ∀ {l : List Int}, Small n l → l.sum.natAbs ≤ l.length * 2 ^ n
  | [], _ => by simp
  | a :: l, h => by
    have h1 := h a List.mem_cons_self
    have h2 := sum_bits (l := l) fun i hi => h i (List.mem_cons_of_mem _ hi)
    rw [List.sum_cons, List.length_cons, Nat.succ_mul]
    omega
theorem level_bits {g p : List Int} (hg : Small 100 g) (hp : Small 3000 p) (hl : p.length ≤ 100) : (levelOf g p).natAbs < 2 ^ 4000 := by
  have h : Small 3100 (List.zipWith (fun own gain => own * gain) p g) := fun i hi => by
    obtain ⟨j, hj, e⟩ := List.mem_iff_getElem.mp hi
    rw [List.getElem_zipWith] at e
    rw [List.length_zipWith] at hj
    subst e
    exact mul_bits (hp _ (List.getElem_mem (by omega))) (hg _ (List.getElem_mem (by omega)))
  have q := sum_bits h
  have hlen : (List.zipWith (fun own gain : Int => own * gain) p g).length ≤ 100 := by rw [List.length_zipWith]; omega
  have e : (2 : Nat) ^ 4000 = 2 ^ 900 * 2 ^ 3100 := by rw [← Nat.pow_add]
  have e2 : (100 : Nat) < 2 ^ 900 := Nat.lt_of_lt_of_le (show 100 < 2 ^ 7 by decide) (Nat.pow_le_pow_right (by decide) (by decide))
  have e3 : (0 : Nat) < 2 ^ 3100 := Nat.pow_pos (by decide)
  unfold levelOf
  rw [e]
  exact Nat.lt_of_le_of_lt (Nat.le_trans q (Nat.mul_le_mul_right _ hlen)) (Nat.mul_lt_mul_of_pos_right e2 e3)
theorem enumL_len {α : Type} (l : List α) : (enumL l).length = l.length := by unfold enumL; rw [List.length_zip]; simp
theorem enumL_mem {α : Type} {l : List α} {p : Nat × α} (h : p ∈ enumL l) : l[p.1]? = some p.2 := by
  unfold enumL at h
  obtain ⟨i, hi, e⟩ := List.mem_iff_getElem.mp h
  rw [List.getElem_zip] at e
  subst e
  simp only [List.getElem_range', Nat.zero_add, Nat.one_mul]
  rw [List.length_zip] at hi
  simp at hi ⊢
theorem foldl_cut (n k : Nat) (l : List Quote) : ∀ (m i : Nat) (cs : List Cn), i + m = l.length → (List.range' i m).foldl (fun cs i => cutBy cs (col n (l[i]?.getD ([], 0))) (n + i)) cs = cutAll n cs (n + i) (l.drop i)
  | 0, i, cs, h => by rw [List.drop_eq_nil_of_le (by omega)]; rfl
  | m + 1, i, cs, h => by
    have hi : i < l.length := by omega
    rw [List.range'_succ, List.foldl_cons, foldl_cut n k l m (i + 1) _ (by omega), List.drop_eq_getElem_cons hi]
    show _ = cutAll n (cutBy cs (col n l[i]) (n + i)) (n + i + 1) (l.drop (i + 1))
    rw [List.getElem?_eq_getElem hi]; rfl
section
variable {P : Program} {w : World} {K : PySem.W.Frag} {mg : Str → Option Value} {base : Heap}
theorem sc_cut_by : FnScope ["corners", "gains", "bound", "levels", "found", "corner", "level", "near", "above", "far", "below", "own", "gain"] ["corners", "gains", "bound"] (defScope s_cut_by) := ⟨rfl, rfl, rfl, by decide +kernel, rfl, by decide +kernel, by decide +kernel⟩
theorem ok_cut_by (T : Facts K mg) : Ok P w K mg base 4 (He.ga K "cut_by") ["corners", "gains", "bound"] (spP K (RCut K)) := by
  have G_are_joined : Ok P w K mg base 1 _ _ _ := ok_are_joined T
  have G_crossing : Ok P w K mg base 3 _ _ _ := ok_crossing T
  have G_Corner___init__ : Ok P w K mg base 1 _ _ _ := ok_Corner___init__ T
  refine Ok.rf T.F_cut_by sc_cut_by (fun fd F => F.bindsN fun _ _ _ _ _ _ us hl => match us, hl with | [_, _, _], _ => rfl) (fun _ => rfl) fun cdv A outer s H E hr x hx => ⟨_, (pss_cons (ps_setLc (i := 3) (own := [("corner", 5)]) rfl sc_cut_by.nd rfl rfl (sw_true rfl rfl rfl (by decide +kernel)) (pi_seqK (K := K) rfl (pv 0)) (blkOk_by (N := ["corners", "gains", "bound", "levels", "found", "corner", "level", "near", "above", "far", "below", "own", "gain"]) (sc := defScope s_cut_by) (by decide +kernel)) (fun _ _ _ _ _ => (pg_name (i := 5) sc_cut_by.nd rfl (by first | exact Or.inl rfl | exact Or.inr rfl))) (fun _ _ _ _ _ => pts_nil) (fun _ _ _ _ _ => (pe_callB (call_sumK (K := K) rfl rfl) rfl T.b_sum (by decide +kernel) (pa_cons (pe_lc (own := [("own", 11), ("gain", 12)]) rfl sc_cut_by.nd (pi_zipK (K := K) rfl rfl T.b_zip (pa_cons (pe_fldK (K := K) rfl (pv 5) rfl) (pa_cons (pv 1) pa_nil))) (blkOk_by (N := ["corners", "gains", "bound", "levels", "found", "corner", "level", "near", "above", "far", "below", "own", "gain"]) (sc := relS (blkS_cut_by) (defScope s_cut_by)) (by decide +kernel)) (fun _ _ _ _ _ => (pg_tupK (n := 2) (K := K) rfl rfl (pgs_cons (pg_name (i := 11) sc_cut_by.nd rfl (by first | exact Or.inl rfl | exact Or.inr rfl)) (pgs_cons (pg_name (i := 12) sc_cut_by.nd rfl (by first | exact Or.inl rfl | exact Or.inr rfl)) pgs_nil)))) (fun _ _ _ _ _ => pts_nil) (fun _ _ _ _ _ => (pe_op (op_mulK (K := K) rfl) (pv 11) (pv 12)))) pa_nil))))
      (pss_cons (ps_set (i := 4) sc_cut_by.nd rfl (by first | exact Or.inl rfl | exact Or.inr rfl) (pe_lst pa_nil))
      (pss_cons (ps_for PassesOwn.never rfl (pi_zipK (K := K) rfl rfl T.b_zip (pa_cons (pv 0) (pa_cons (pv 3) pa_nil))) (pg_tupK (n := 2) (K := K) rfl rfl (pgs_cons (pg_name (i := 5) sc_cut_by.nd rfl (by first | exact Or.inl rfl | exact Or.inr rfl)) (pgs_cons (pg_name (i := 6) sc_cut_by.nd rfl (by first | exact Or.inl rfl | exact Or.inr rfl)) pgs_nil))) (pss_one (ps_if (pt_cmpR op_geX (pv 6) pe_int (nomark _)) (pss_one (ps_expr (pe_bm PySem.F.plainAttrs_list PySem.F.slot_list_append PySem.F.type_list_append mt_append (pv 4) (pa_cons (pe_ifExp (pt_cmpR (op_eqK (K := K) rfl hr.units) (pv 6) pe_int (nomark _)) (G_Corner___init__.peM T.k_Corner (hr.mono (by decide)) rfl T.m_Corner (pa_cons (pe_fldK (K := K) rfl (pv 5) rfl) (pa_cons (pe_op op_addX (pe_fldK (K := K) rfl (pv 5) rfl) (pe_lst (pa_cons (pv 2) pa_nil))) pa_nil))) (pv 5)) pa_nil)))) pss_nil)))
      (pss_cons (ps_for PassesOwn.never rfl (pi_enumK (K := K) rfl rfl T.b_enumerate (pa_cons (pv 3) pa_nil)) (pg_tupK (n := 2) (K := K) rfl rfl (pgs_cons (pg_name (i := 7) sc_cut_by.nd rfl (by first | exact Or.inl rfl | exact Or.inr rfl)) (pgs_cons (pg_name (i := 8) sc_cut_by.nd rfl (by first | exact Or.inl rfl | exact Or.inr rfl)) pgs_nil))) (pss_one (ps_for PassesOwn.never rfl (pi_enumK (K := K) rfl rfl T.b_enumerate (pa_cons (pv 3) pa_nil)) (pg_tupK (n := 2) (K := K) rfl rfl (pgs_cons (pg_name (i := 9) sc_cut_by.nd rfl (by first | exact Or.inl rfl | exact Or.inr rfl)) (pgs_cons (pg_name (i := 10) sc_cut_by.nd rfl (by first | exact Or.inl rfl | exact Or.inr rfl)) pgs_nil))) (pss_one (ps_if (PW.pt (pw_and (pt_cmpR op_gtX (pv 8) pe_int (nomark _)) (pw_and (pt_cmpR op_ltX (pv 10) pe_int (nomark _)) (pw_and1 (pt_val (G_are_joined.pe (hr.mono (by decide)) rfl T.m_are_joined (pa_cons (pv 0) (pa_cons (pv 7) (pa_cons (pv 9) pa_nil))))))))) (pss_one (ps_expr (pe_bm PySem.F.plainAttrs_list PySem.F.slot_list_append PySem.F.type_list_append mt_append (pv 4) (pa_cons (G_crossing.pe (hr.mono (by decide)) rfl T.m_crossing (pa_cons (pe_ix (ix_K (K := K) rfl) (pv 0) (pv 7) (fun _ _ => rfl)) (pa_cons (pe_ix (ix_K (K := K) rfl) (pv 0) (pv 9) (fun _ _ => rfl)) (pa_cons (pv 8) (pa_cons (pv 10) (pa_cons (pv 2) pa_nil)))))) pa_nil)))) pss_nil)))))
      (pss_one (ps_ret (pv 4))))))), ?_⟩
  obtain ⟨cs, g, k⟩ := x
  obtain ⟨hl, hc, hg, hx⟩ := hx
  dsimp only at hl hc hg hx
  have hmm : ∀ (c : Cn) (i : Nat), cs[i]? = some c → (cs.map (co K))[i]? = some (co K c) := fun c i e => by rw [List.getElem?_map, e]; rfl
  refine sd_seq (sd_set (ed_is (ed_lcT (xs := cs) (enc := co K) (f := fun c : Cn => D.int (levelOf g c.1)) (id_seqL (ed_var rfl)) (by omega) fun c hm => ⟨_, _, tg_name, by simp, ed_is (ed_cb (ea_1 (ed_is (ed_lcT (xs := c.1.zip g) (enc := fun p : Int × Int => .tup [.int p.1, .int p.2]) (f := fun p : Int × Int => D.int (p.1 * p.2)) (by rw [← zipD_map]; exact id_zipXM (ea_2 (ed_point T (ed_var rfl)) (ed_var rfl))) (by rw [List.length_zip]; have := (hc c hm).2.1; omega) fun p hp => ⟨_, _, tg_tup (tgs_cons tg_name (tgs_cons tg_name tgs_nil)) rfl, by simp, ?_⟩) (show _ = D.lst ((List.zipWith (fun own gain : Int => own * gain) c.1 g).map D.int) by rw [List.map_zipWith, List.zip, List.map_zipWith]))) rc_sumXL) rfl⟩) (show _ = D.lst ((cs.map fun c => levelOf g c.1).map D.int) by rw [List.map_map]; rfl))) ?_
  · have q1 := (hc c hm).1 p.1 (List.of_mem_zip (show (p.1, p.2) ∈ _ from hp)).1
    have q2 := hg p.2 (List.of_mem_zip (show (p.1, p.2) ∈ _ from hp)).2
    exact ed_op (ed_var rfl) (ed_var rfl) (rv_mul (bd_mulw q1 q2 (by decide)))
  refine sd_own2 (ρ1 := [some (cos K cs), some (.lst (g.map D.int)), some (.int (k : Nat)), some (.lst ((cs.map fun c => levelOf g c.1).map D.int)), none, none, none, none, none, none, none, none, none]) (l := (cutBy cs g k).map (co K)) (fun p G0 H0 => ?_) (sd_seq_rt (sd_ret (ed_var rfl)))
  refine ht_from (ρ1 := [some (cos K cs), some (.lst (g.map D.int)), some (.int (k : Nat)), some (.lst ((cs.map fun c => levelOf g c.1).map D.int)), some (.adr p), none, none, none, none, none, none, none, none]) (by repeat (first | exact .nil | apply Wk.same | apply Wk.none)) ?_
  have e : (cutBy cs g k).map (co K) = ([] ++ (cs.zip (cs.map fun c => levelOf g c.1)).flatMap fun p : Cn × Int => (keepCut g k p.1).map (co K)) ++ (enumL (cs.map fun c => levelOf g c.1)).flatMap fun p => (enumL (cs.map fun c => levelOf g c.1)).flatMap fun q => (crossCut cs k p q).map (co K) := by
    unfold cutBy
    rw [List.map_append, List.map_flatMap, List.map_flatMap, List.nil_append]
    congr 1
    · have z : ∀ (f : Cn → Int) (cs : List Cn), (cs.zip (cs.map f)).flatMap (fun p : Cn × Int => (keepCut g k p.1).map (co K)) = cs.flatMap fun c => (keepCut g k c).map (co K) := fun f cs => by
        induction cs with
        | nil => rfl
        | cons c cs ih => simp only [List.map_cons, List.zip_cons_cons, List.flatMap_cons, ih]
      rw [z]
    · congr 1
      funext p
      rw [List.map_flatMap]
  rw [e]
  refine ht_seq (ht_forL (env := [some (cos K cs), some (.lst (g.map D.int)), some (.int (k : Nat)), some (.lst ((cs.map fun c => levelOf g c.1).map D.int)), some (.adr p), none, none, none, none, none, none, none, none]) (enc := fun p : Cn × Int => .tup [co K p.1, .int p.2]) (fun p : Cn × Int => (keepCut g k p.1).map (co K)) 1 (xs := cs.zip (cs.map fun c => levelOf g c.1)) [] (by rw [← zipD_map]; exact id_zipXL (ea_2 (ed_var rfl) (ed_var rfl))) (fun x _ => ?_) fun x hm l hlen => ?_) ?_
  · rw [List.length_map]; unfold keepCut; split <;> simp
  · obtain ⟨c, lv⟩ := x
    have hcm := (List.of_mem_zip hm).1
    have hlv : lv = levelOf g c.1 := by
      obtain ⟨i, hi, e⟩ := List.mem_iff_getElem.mp hm
      rw [List.getElem_zip, List.getElem_map] at e
      cases e; rfl
    subst hlv
    rw [List.length_zip, List.length_map, Nat.min_self, Nat.one_mul] at hlen
    simp only [List.length_nil] at hlen
    obtain ⟨c1, c2, c3⟩ := hc c hcm
    refine ⟨_, _, tg_tup (tgs_cons tg_name (tgs_cons tg_name tgs_nil)) rfl, ?_⟩
    by_cases h0 : 0 ≤ levelOf g c.1
    · have ek : keepCut g k c = [if levelOf g c.1 = 0 then (c.1, c.2 ++ [k]) else c] := if_pos h0
      dsimp only
      rw [ek]
      refine ht_weak (ht_seq (ht_if (j := true) (Stay.and Hist.stay OwnL.stay) (et_is (et_test (ed_op (ed_var rfl) ed_int rv_ge)) (decide_eq_true h0)) (fun _ => ht_seq (ht_append rfl List.mem_cons_self (d := co K (if levelOf g c.1 = 0 then (c.1, c.2 ++ [k]) else c)) (ed_if (et_test (ed_op (ed_var rfl) ed_int rv_eqI)) (fun h => ?_) fun h => ?_) (by omega)) ht_next) fun h => by cases h) ht_next) (by repeat (first | exact .nil | apply Wk.same | apply Wk.none))
      · rw [if_pos (of_decide_eq_true h)]
        exact ed_make (ea_2 (ed_point T (ed_var rfl)) (ed_is (ed_op (ed_bounds T (ed_var rfl)) (ed_l1 (ed_var rfl)) (rv_cat (by simp only [List.length_map, List.length_cons, List.length_nil]; omega))) (show _ = nl (c.2 ++ [k]) by unfold nl; rw [List.map_append]; rfl))) (ri (c.1, c.2 ++ [k]) trivial)
      · rw [if_neg (of_decide_eq_false h)]
        exact ed_var rfl
    · have ek : keepCut g k c = [] := if_neg h0
      dsimp only
      rw [ek, List.map_nil, List.append_nil]
      exact ht_weak (ht_seq (ht_if (j := false) (Stay.and Hist.stay OwnL.stay) (et_is (et_test (ed_op (ed_var rfl) ed_int rv_ge)) (decide_eq_false h0)) (fun h => by cases h) fun _ => ht_next) ht_next) (by repeat (first | exact .nil | apply Wk.same | apply Wk.none))
  have hk : ((cs.zip (cs.map fun c => levelOf g c.1)).flatMap fun p : Cn × Int => (keepCut g k p.1).map (co K)).length ≤ cs.length := by
    have z : ∀ l : List (Cn × Int), (l.flatMap fun p : Cn × Int => (keepCut g k p.1).map (co K)).length ≤ l.length := fun l => by
      induction l with
      | nil => simp
      | cons x l ih =>
        have : (keepCut g k x.1).length ≤ 1 := by unfold keepCut; split <;> simp
        simp only [List.flatMap_cons, List.length_append, List.length_map, List.length_cons]
        omega
    have := z (cs.zip (cs.map fun c => levelOf g c.1))
    rw [List.length_zip, List.length_map, Nat.min_self] at this
    exact this
  refine ht_forL (env := [some (cos K cs), some (.lst (g.map D.int)), some (.int (k : Nat)), some (.lst ((cs.map fun c => levelOf g c.1).map D.int)), some (.adr p), none, none, none, none, none, none, none, none]) (enc := fun p : Nat × Int => .tup [.int (p.1 : Nat), .int p.2]) (fun p => (enumL (cs.map fun c => levelOf g c.1)).flatMap fun q => (crossCut cs k p q).map (co K)) 900 (xs := enumL (cs.map fun c => levelOf g c.1)) _ ?_ (fun x _ => ?_) fun x hm l hlen => ?_
  · unfold enumL; rw [← pairs_map]; exact id_enumL (ea_1 (ed_var rfl))
  · have z : ∀ l : List (Nat × Int), (l.flatMap fun q => (crossCut cs k x q).map (co K)).length ≤ l.length := fun l => by
      induction l with
      | nil => simp
      | cons y l ih =>
        have : (crossCut cs k x y).length ≤ 1 := by unfold crossCut; split <;> simp
        simp only [List.flatMap_cons, List.length_append, List.length_map, List.length_cons]
        omega
    have := z (enumL (cs.map fun c => levelOf g c.1))
    rw [enumL_len, List.length_map] at this
    omega
  · obtain ⟨i, lv⟩ := x
    rw [enumL_len, List.length_map, List.nil_append] at hlen
    have hx1 := enumL_mem hm
    dsimp only at hx1
    rw [List.getElem?_map] at hx1
    obtain ⟨ca, hca, hlv⟩ := Option.map_eq_some_iff.mp hx1
    subst hlv
    have ham := List.mem_of_getElem? hca
    refine ⟨_, _, tg_tup (tgs_cons tg_name (tgs_cons tg_name tgs_nil)) rfl, ?_⟩
    refine ht_weak (ht_seq (ht_forL (env := [some (cos K cs), some (.lst (g.map D.int)), some (.int (k : Nat)), some (.lst ((cs.map fun c => levelOf g c.1).map D.int)), some (.adr p), none, none, some (.int (i : Nat)), some (.int (levelOf g ca.1)), none, none, none, none]) (enc := fun p : Nat × Int => .tup [.int (p.1 : Nat), .int p.2]) (fun q => (crossCut cs k (i, levelOf g ca.1) q).map (co K)) 1 (xs := enumL (cs.map fun c => levelOf g c.1)) l (by unfold enumL; rw [← pairs_map]; exact id_enumL (ea_1 (ed_var rfl))) (fun x _ => ?_) fun x hm2 l2 hlen2 => ?_) ht_next) (by repeat (first | exact .nil | apply Wk.same | apply Wk.none))
    · rw [List.length_map]; unfold crossCut; split <;> simp
    · obtain ⟨j, lw⟩ := x
      rw [enumL_len, List.length_map, Nat.one_mul] at hlen2
      have hx2 := enumL_mem hm2
      dsimp only at hx2
      rw [List.getElem?_map] at hx2
      obtain ⟨cb, hcb, hlw⟩ := Option.map_eq_some_iff.mp hx2
      subst hlw
      have hbm := List.mem_of_getElem? hcb
      obtain ⟨a1, a2, a3⟩ := hc ca ham
      obtain ⟨b1, b2, b3⟩ := hc cb hbm
      have hii : i < cs.length := (List.getElem?_eq_some_iff.mp hca).1
      have hjj : j < cs.length := (List.getElem?_eq_some_iff.mp hcb).1
      refine ⟨_, _, tg_tup (tgs_cons tg_name (tgs_cons tg_name tgs_nil)) rfl, ?_⟩
      have hok : cs.length ≤ 1000 ∧ (i < cs.length ∧ j < cs.length) ∧ ∀ c ∈ cs, c.2.length ≤ 1000 := ⟨by omega, ⟨hii, hjj⟩, fun c hm => by have := (hc c hm).2.2; omega⟩
      have hcc : (decide (0 < levelOf g ca.1) && (decide (levelOf g cb.1 < 0) && joined cs i j)) = decide (0 < levelOf g ca.1 ∧ levelOf g cb.1 < 0 ∧ joined cs i j = true) := by simp
      by_cases h0 : 0 < levelOf g ca.1 ∧ levelOf g cb.1 < 0 ∧ joined cs i j = true
      · have ek : crossCut cs k (i, levelOf g ca.1) (j, levelOf g cb.1) = [crossing ca cb (levelOf g ca.1) (levelOf g cb.1) k] := by
          unfold crossCut; rw [if_pos h0, hca, hcb]; rfl
        rw [ek]
        have hok2 : CrOk ⟨ca, cb, levelOf g ca.1, levelOf g cb.1, k⟩ := ⟨⟨a1, b1⟩, ⟨level_bits hg a1 a2, level_bits hg b1 b2⟩, ⟨a2, by dsimp only; omega⟩, hx ca ham cb hbm h0.1 h0.2.1⟩
        refine ht_weak (ht_seq (ht_if (j := true) (Stay.and Hist.stay OwnL.stay) (et_is (et_and (et_test (ed_op (ed_var rfl) ed_int rv_gt)) fun _ => et_and (et_test (ed_op (ed_var rfl) ed_int rv_lt)) fun _ => et_B (ed_call (ea_3 (ed_var rfl) (ed_var rfl) (ed_var rfl)) (show RJoined K [cos K cs, D.int (i : Nat), D.int (j : Nat)] (D.bl (joined cs i j)) from rf (cs, i, j) hok))) (hcc.trans (decide_eq_true h0))) (fun _ => ht_seq (ht_append rfl List.mem_cons_self (d := co K (crossing ca cb (levelOf g ca.1) (levelOf g cb.1) k)) (ed_call (ea_cons (ed_op (ed_var rfl) (ed_var rfl) (rv_ixL (hmm _ _ hca))) (ea_cons (ed_op (ed_var rfl) (ed_var rfl) (rv_ixL (hmm _ _ hcb))) (ea_3 (ed_var rfl) (ed_var rfl) (ed_var rfl)))) (show RCrossing K [co K ca, co K cb, D.int (levelOf g ca.1), D.int (levelOf g cb.1), D.int (k : Nat)] (co K (crossing ca cb (levelOf g ca.1) (levelOf g cb.1) k)) from rf (CrArgs.mk ca cb (levelOf g ca.1) (levelOf g cb.1) k) hok2)) (by omega)) ht_next) fun h => by cases h) ht_next) (by repeat (first | exact .nil | apply Wk.same | apply Wk.none))
      · have ek : crossCut cs k (i, levelOf g ca.1) (j, levelOf g cb.1) = [] := if_neg h0
        rw [ek, List.map_nil, List.append_nil]
        exact ht_weak (ht_seq (ht_if (j := false) (Stay.and Hist.stay OwnL.stay) (et_is (et_and (et_test (ed_op (ed_var rfl) ed_int rv_gt)) fun _ => et_and (et_test (ed_op (ed_var rfl) ed_int rv_lt)) fun _ => et_B (ed_call (ea_3 (ed_var rfl) (ed_var rfl) (ed_var rfl)) (show RJoined K [cos K cs, D.int (i : Nat), D.int (j : Nat)] (D.bl (joined cs i j)) from rf (cs, i, j) hok))) (hcc.trans (decide_eq_false h0))) (fun h => by cases h) fun _ => ht_next) ht_next) (by repeat (first | exact .nil | apply Wk.same | apply Wk.none))
end
end Top
end
section
set_option Elab.async false
set_option linter.all false
set_option maxRecDepth 100000
set_option maxHeartbeats 4000000
/-! F10: the corner points of a book. -/
namespace Top
open PySem PySem.Spec PyProof.Rows L2 StX RZ Pu PySem.W
section
variable {P : Program} {w : World} {K : PySem.W.Frag} {mg : Str → Option Value} {base : Heap}
theorem sc_corner_points : FnScope ["book", "size", "corners", "place", "point", "rows", "index", "other", "row", "corner"] ["book"] (defScope s_corner_points) := ⟨rfl, rfl, rfl, by decide +kernel, rfl, by decide +kernel, by decide +kernel⟩
theorem ok_corner_points (T : Facts K mg) : Ok P w K mg base 5 (He.ga K "corner_points") ["book"] (spP K (RCorPts K)) := by
  have G_gain_rows : Ok P w K mg base 3 _ _ _ := ok_gain_rows T
  have G_cut_by : Ok P w K mg base 4 _ _ _ := ok_cut_by T
  have G_Corner___init__ : Ok P w K mg base 1 _ _ _ := ok_Corner___init__ T
  have G_Book_outcomes : Ok P w K mg base 1 _ _ _ := ok_Book_outcomes T
  have G_Book_quotes : Ok P w K mg base 1 _ _ _ := ok_Book_quotes T
  refine Ok.rf T.F_corner_points sc_corner_points (fun fd F => F.bindsN fun _ _ _ _ _ _ us hl => match us, hl with | [_], _ => rfl) (fun _ => rfl) fun cdv A outer s H E hr x hx => ⟨_, (pss_cons (ps_set (i := 1) sc_corner_points.nd rfl (by first | exact Or.inl rfl | exact Or.inr rfl) (G_Book_outcomes.peP (hr.mono (by decide)) T.c_Book T.p_outcomes (pv 0)))
      (pss_cons (ps_set (i := 2) sc_corner_points.nd rfl (by first | exact Or.inl rfl | exact Or.inr rfl) (pe_lst pa_nil))
      (pss_cons (ps_for PassesOwn.never rfl (pi_range1 rfl T.b_range (pa_cons (pv 1) pa_nil)) (pg_name (i := 3) sc_corner_points.nd rfl (by first | exact Or.inl rfl | exact Or.inr rfl)) (pss_cons (ps_set (i := 4) sc_corner_points.nd rfl (by first | exact Or.inl rfl | exact Or.inr rfl) (pe_callTy (call_tupK (K := K) rfl) rfl T.b_tuple (by decide +kernel) (pa_cons (pe_lc (own := [("other", 7)]) rfl sc_corner_points.nd (pi_range1 rfl T.b_range (pa_cons (pv 1) pa_nil)) (blkOk_by (N := ["book", "size", "corners", "place", "point", "rows", "index", "other", "row", "corner"]) (sc := defScope s_corner_points) (by decide +kernel)) (fun _ _ _ _ _ => (pg_name (i := 7) sc_corner_points.nd rfl (by first | exact Or.inl rfl | exact Or.inr rfl))) (fun _ _ _ _ _ => pts_nil) (fun _ _ _ _ _ => (pe_callTy call_intX rfl T.b_int (by decide +kernel) (pa_cons (pe_cmpR (op_eqK (K := K) rfl hr.units) (pv 7) (pv 3) (nomark _)) pa_nil)))) pa_nil)))
      (pss_one (ps_expr (pe_bm PySem.F.plainAttrs_list PySem.F.slot_list_append PySem.F.type_list_append mt_append (pv 2) (pa_cons (G_Corner___init__.peM T.k_Corner (hr.mono (by decide)) rfl T.m_Corner (pa_cons (pv 4) (pa_cons (pe_lc (own := [("other", 7)]) rfl sc_corner_points.nd (pi_range1 rfl T.b_range (pa_cons (pv 1) pa_nil)) (blkOk_by (N := ["book", "size", "corners", "place", "point", "rows", "index", "other", "row", "corner"]) (sc := defScope s_corner_points) (by decide +kernel)) (fun _ _ _ _ _ => (pg_name (i := 7) sc_corner_points.nd rfl (by first | exact Or.inl rfl | exact Or.inr rfl))) (fun _ _ _ _ _ => (pts_one (pt_cmpR (op_neK (K := K) rfl hr.units) (pv 7) (pv 3) (nomark _)))) (fun _ _ _ _ _ => (pv 7))) pa_nil))) pa_nil))))))
      (pss_cons (ps_set (i := 5) sc_corner_points.nd rfl (by first | exact Or.inl rfl | exact Or.inr rfl) (G_gain_rows.pe (hr.mono (by decide)) rfl T.m_gain_rows (pa_cons (pv 0) pa_nil)))
      (pss_cons (ps_for PassesOwn.never rfl (pi_range1 rfl T.b_range (pa_cons (pe_callB (call_lenK (K := K) rfl) rfl T.b_len (by decide +kernel) (pa_cons (G_Book_quotes.peP (hr.mono (by decide)) T.c_Book T.p_quotes (pv 0)) pa_nil)) pa_nil)) (pg_name (i := 6) sc_corner_points.nd rfl (by first | exact Or.inl rfl | exact Or.inr rfl)) (pss_one (ps_set (i := 2) sc_corner_points.nd rfl (by first | exact Or.inl rfl | exact Or.inr rfl) (G_cut_by.pe (hr.mono (by decide)) rfl T.m_cut_by (pa_cons (pv 2) (pa_cons (pe_lc (own := [("row", 8)]) rfl sc_corner_points.nd (pi_seqK (K := K) rfl (pv 5)) (blkOk_by (N := ["book", "size", "corners", "place", "point", "rows", "index", "other", "row", "corner"]) (sc := defScope s_corner_points) (by decide +kernel)) (fun _ _ _ _ _ => (pg_name (i := 8) sc_corner_points.nd rfl (by first | exact Or.inl rfl | exact Or.inr rfl))) (fun _ _ _ _ _ => pts_nil) (fun _ _ _ _ _ => (pe_ix (ix_K (K := K) rfl) (pv 8) (pv 6) (fun _ _ => rfl)))) (pa_cons (pe_op op_addX (pv 1) (pv 6)) pa_nil)))))))
      (pss_one (ps_ret (pe_lc (own := [("corner", 9)]) rfl sc_corner_points.nd (pi_seqK (K := K) rfl (pv 2)) (blkOk_by (N := ["book", "size", "corners", "place", "point", "rows", "index", "other", "row", "corner"]) (sc := defScope s_corner_points) (by decide +kernel)) (fun _ _ _ _ _ => (pg_name (i := 9) sc_corner_points.nd rfl (by first | exact Or.inl rfl | exact Or.inr rfl))) (fun _ _ _ _ _ => pts_nil) (fun _ _ _ _ _ => (pe_fldK (K := K) rfl (pv 9) rfl)))))))))), ?_⟩
  obtain ⟨n, l⟩ := x
  obtain ⟨hb, hca, hlen⟩ := hx
  have hb' := hb
  obtain ⟨⟨n1, n2⟩, hl, hq⟩ := hb'
  dsimp only at n1 n2 hl hq hca hlen
  refine sd_seq (sd_set (ed_prop (ed_var rfl) (rf (n, l) trivial))) ?_
  refine sd_own (ρ1 := [some (bk K (n, l)), some (.int (n : Nat)), none, none, none, none, none, none, none, none]) (l := (startCs n).map (co K)) (fun p G0 H0 => ?_) ?_
  · refine ht_from (ρ1 := [some (bk K (n, l)), some (.int (n : Nat)), some (.adr p), none, none, none, none, none, none, none]) (by repeat (first | exact .nil | apply Wk.same | apply Wk.none)) ?_
    have e : (startCs n).map (co K) = [] ++ (List.range' 0 n).flatMap fun p => [co K ((List.range' 0 n).map fun o => if o = p then 1 else 0, (List.range' 0 n).filter fun o => !decide (o = p))] := by
      unfold startCs
      rw [List.nil_append, List.map_map, ← List.map_eq_flatMap]; rfl
    rw [e]
    refine ht_forL (env := [some (bk K (n, l)), some (.int (n : Nat)), some (.adr p), none, none, none, none, none, none, none]) (enc := fun i : Nat => D.int (i : Nat)) (fun p => [co K ((List.range' 0 n).map fun o => if o = p then 1 else 0, (List.range' 0 n).filter fun o => !decide (o = p))]) 1 (xs := List.range' 0 n) [] ?_ (fun x _ => by simp) fun x hm l2 hlen => ?_
    · exact id_range (ea_1 (ed_var rfl)) (by omega)
    · rw [List.length_range'] at hlen
      simp only [List.length_nil] at hlen
      refine ⟨_, _, tg_name, ?_⟩
      refine ht_weak (ht_seq (ht_sd (Stay.and Hist.stay OwnL.stay) (sd_set (d := py ((List.range' 0 n).map fun o => if o = x then 1 else 0)) (ed_is (ed_cb (ea_1 (ed_lcT (xs := List.range' 0 n) (enc := fun i : Nat => D.int (i : Nat)) (f := fun o : Nat => D.int (if (decide ((o : Int) = (x : Nat))) then 1 else 0)) ?_ ?_ fun o ho => ⟨_, _, tg_name, by simp, ed_cb (ea_1 (ed_op (ed_var rfl) (ed_var rfl) rv_eqI)) rc_intB⟩)) rc_tupL) ?_))) (ht_append rfl List.mem_cons_self (ed_make (ea_2 (ed_var rfl) (ed_is (ed_lcTF (xs := List.range' 0 n) (enc := fun i : Nat => D.int (i : Nat)) (f := fun o : Nat => D.int (o : Nat)) (p := fun o => !decide ((o : Int) = (x : Nat))) ?_ ?_ fun o ho => ⟨_, _, tg_name, by simp, et_test (ed_op (ed_var rfl) (ed_var rfl) rv_neI), fun _ => ed_var rfl⟩) ?_)) (ri ((List.range' 0 n).map fun o => if o = x then 1 else 0, (List.range' 0 n).filter fun o => !decide (o = x)) trivial)) (by omega))) (by repeat (first | exact .nil | apply Wk.same | apply Wk.none))
      · exact id_range (ea_1 (ed_var rfl)) (by omega)
      · simp; omega
      · unfold py
        rw [List.map_map]
        congr 1
        refine List.map_congr_left fun o _ => ?_
        by_cases q : o = x
        · subst q; simp
        · have : ¬ (o : Int) = (x : Nat) := by omega
          simp [q, this]
      · exact id_range (ea_1 (ed_var rfl)) (by omega)
      · simp; omega
      · unfold nl
        congr 2
        refine List.filter_congr fun o _ => ?_
        rw [decide_eq_decide.mpr (show ((o : Int) = (x : Nat)) ↔ o = x by omega)]
  refine sd_seq (sd_set (ed_call (ea_1 (ed_var rfl)) (rf (n, l) hb))) ?_
  have fc := foldl_cut n 0 l l.length 0 (startCs n) (by omega)
  rw [Nat.add_zero, List.drop_zero] at fc
  refine sd_seq (sd_from (ρ1 := [some (bk K (n, l)), some (.int (n : Nat)), some (cos K (startCs n)), none, none, some (rowsD (gainRows (n, l))), none, none, none, none]) (by repeat (first | exact .nil | apply Wk.same | apply Wk.none)) (sd_fold (enc := fun i : Nat => D.int (i : Nat)) (fun cs : List Cn => [some (bk K (n, l)), some (.int (n : Nat)), some (cos K cs), none, none, some (rowsD (gainRows (n, l))), none, none, none, none]) (fun cs i => cutBy cs (col n (l[i]?.getD ([], 0))) (n + i))
    (fun cs r => ∃ i, r = List.range' i (l.length - i) ∧ i ≤ l.length ∧ CutAllOk n cs (n + i) (l.drop i)) (xs := List.range' 0 l.length) (startCs n) ?_ ⟨0, rfl, Nat.zero_le _, hca⟩ fun cs k r h => ?_)) ?_
  · exact id_range (ea_1 (ed_is (ed_cb (ea_1 (ed_prop (ed_var rfl) (rf (n, l) trivial))) rc_lenT) (by rw [List.length_map]))) (by omega)
  · obtain ⟨i, h1, h2, h3⟩ := h
    have hi : i < l.length := by
      by_cases q : i < l.length
      · exact q
      · rw [show l.length - i = 0 by omega] at h1; cases h1
    rw [show l.length - i = (l.length - (i + 1)) + 1 by omega, List.range'_succ] at h1
    obtain ⟨rfl, rfl⟩ := List.cons.inj h1
    rw [List.drop_eq_getElem_cons hi] at h3
    have ga : l[k]?.getD ([], 0) = l[k] := by simp [hi]
    rw [ga]
    refine ⟨⟨k + 1, rfl, hi, h3.2⟩, _, _, tg_name, ?_⟩
    refine sd_weak (sd_set (ed_call (ea_3 (ed_var rfl) (ed_is (ed_lcT (xs := gainRows (n, l)) (enc := fun r : List Int => .lst (r.map D.int)) (f := fun r : List Int => D.int (r[k]?.getD 0)) (id_seqL (ed_var rfl)) ?_ fun r hr => ⟨_, _, tg_name, by simp, ed_op (ed_var rfl) (ed_var rfl) (rv_ixL ?_)⟩) (show _ = D.lst ((col n l[k]).map D.int) from ?_)) (ed_is (ed_op (ed_var rfl) (ed_var rfl) rv_add) (show _ = D.int ((n + k : Nat) : Int) by simp))) (rf (cs, col n l[k], n + k) h3.1))) (by repeat (first | exact .nil | apply Wk.same | apply Wk.none))
    · unfold gainRows; simp; omega
    · unfold gainRows at hr
      obtain ⟨j, hj, e⟩ := List.mem_map.mp hr
      rw [List.getElem?_map]
      subst e
      unfold gainRow
      rw [List.getElem?_map, List.getElem?_eq_getElem hi]; rfl
    · unfold gainRows col
      rw [List.map_map, List.map_map]
      congr 1
      refine List.map_congr_left fun j _ => ?_
      show D.int ((gainRow l j)[k]?.getD 0) = _
      unfold gainRow
      rw [List.getElem?_map, List.getElem?_eq_getElem hi]; rfl
  · rw [fc]
    refine sd_seq_rt (sd_ret (ed_is (ed_lcT (xs := cutAll n (startCs n) n l) (enc := co K) (f := fun c : Cn => py c.1) (id_seqL (ed_var rfl)) (by omega) fun c hm => ⟨_, _, tg_name, by simp, ed_point T (ed_var rfl)⟩) ?_))
    show _ = D.lst ((cornerPts (n, l)).map py)
    unfold cornerPts
    rw [List.map_map]; rfl
theorem sc_corners_of : FnScope ["book", "point"] ["book"] (defScope s_corners_of) := ⟨rfl, rfl, rfl, by decide +kernel, rfl, by decide +kernel, by decide +kernel⟩
theorem ok_corners_of (T : Facts K mg) : Ok P w K mg base 6 (He.ga K "corners_of") ["book"] (spP K (RCorOf K)) := by
  have G_ordered : Ok P w K mg base 3 _ _ _ := ok_ordered T
  have G_corner_points : Ok P w K mg base 5 _ _ _ := ok_corner_points T
  have G_chance_of : Ok P w K mg base 3 _ _ _ := ok_chance_of T
  refine Ok.rf T.F_corners_of sc_corners_of (fun fd F => F.bindsN fun _ _ _ _ _ _ us hl => match us, hl with | [_], _ => rfl) (fun _ => rfl) fun cdv A outer s H E hr x hx => ⟨_, (pss_one (ps_ret (G_ordered.pe (hr.mono (by decide)) rfl T.m_ordered (pa_cons (pe_lc (own := [("point", 1)]) rfl sc_corners_of.nd (pi_seqK (K := K) rfl (G_corner_points.pe (hr.mono (by decide)) rfl T.m_corner_points (pa_cons (pv 0) pa_nil))) (blkOk_by (N := ["book", "point"]) (sc := defScope s_corners_of) (by decide +kernel)) (fun _ _ _ _ _ => (pg_name (i := 1) sc_corners_of.nd rfl (by first | exact Or.inl rfl | exact Or.inr rfl))) (fun _ _ _ _ _ => pts_nil) (fun _ _ _ _ _ => (G_chance_of.pe (hr.mono (by decide)) rfl T.m_chance_of (pa_cons (pv 1) pa_nil)))) pa_nil)))), ?_⟩
  obtain ⟨h1, h2, h3⟩ := hx
  have hlen : (cornerPts x).length ≤ 1000 := by unfold cornerPts; rw [List.length_map]; exact h1.2.2
  refine sd_ret (ed_call (ea_1 (ed_is (ed_lcT (xs := cornerPts x) (enc := py) (f := fun p : List Int => rw_ (chance p)) (id_seqL (ed_call (ea_1 (ed_var rfl)) (rf x h1))) (by omega) fun p hp => ⟨_, _, tg_name, by simp, ed_call (ea_1 (ed_var rfl)) (rf p (h2 p hp))⟩) (show _ = D.lst (((cornerPts x).map chance).map rw_) by rw [List.map_map]; rfl))) (rf ((cornerPts x).map chance) ⟨by rw [List.length_map]; omega, h3⟩))
end
end Top
end
section
set_option Elab.async false
set_option linter.all false
set_option maxRecDepth 100000
set_option maxHeartbeats 4000000
/-! F11: the table as data. -/
namespace Top
open PySem PySem.Spec PyProof.Rows L2 StX RZ Pu PySem.W
abbrev tabN : List Str := ["many", "size", "unit", "basis", "lines"]
def lnD (r : List Int) : D := .lst (r.map D.int)
def tabF (t : Tab) : List D := [.int (t.many : Nat), .int (t.size : Nat), .int t.unit, nl t.basis, .lst (t.lines.map lnD)]
def tab (K : PySem.W.Frag) (t : Tab) : D := .obj (He.ga K "Table") tabN (tabF t)
def optD : Option Nat → D
  | none => .non
  | some i => .int (i : Nat)
abbrev REnter (K : PySem.W.Frag) := RF (fun t : Tab => [tab K t]) TabOk fun t => optD t.entering
abbrev RLeave (K : PySem.W.Frag) := RF (fun x : Tab × Nat => [tab K x.1, D.int (x.2 : Nat)]) (fun x => TabOk x.1 ∧ x.2 < x.1.size + x.1.many) fun x => optD (x.1.leaving x.2)
abbrev RAhead (K : PySem.W.Frag) := RF (fun x : Tab × Nat × Nat × Nat => [tab K x.1, D.int (x.2.1 : Nat), D.int (x.2.2.1 : Nat), D.int (x.2.2.2 : Nat)]) (fun x => TabOk x.1 ∧ x.2.1 < x.1.many ∧ x.2.2.1 < x.1.many ∧ x.2.2.2 < x.1.size + x.1.many) fun x => .bl (x.1.ahead x.2.1 x.2.2.1 x.2.2.2)
abbrev RMults (K : PySem.W.Frag) := RF (fun t : Tab => [tab K t]) TabOk fun t => .lst (t.mults.map fr)
abbrev RNums (K : PySem.W.Frag) := RF (fun t : Tab => [tab K t]) TabOk fun t => .any
abbrev RAnswer := RI (fun x : D × D × D => [x.1, x.2.1, x.2.2]) (fun _ => True) fun x => [x.1, x.2.1, x.2.2]
section
variable {P : Program} {w : World} {K : PySem.W.Frag} {mg : Str → Option Value} {base : Heap} {ρ : Rho} {te ta tb : TE} {t : Tab}
theorem ed_many (T : Facts K mg) (h : EvD K ρ te (tab K t)) : EvD K ρ (tFld K te "many") (.int (t.many : Nat)) := ed_fld h T.c_Table T.n_Table_many (i := 0) (by decide +kernel) rfl
theorem ed_size (T : Facts K mg) (h : EvD K ρ te (tab K t)) : EvD K ρ (tFld K te "size") (.int (t.size : Nat)) := ed_fld h T.c_Table T.n_Table_size (i := 1) (by decide +kernel) rfl
theorem ed_unit (T : Facts K mg) (h : EvD K ρ te (tab K t)) : EvD K ρ (tFld K te "unit") (.int t.unit) := ed_fld h T.c_Table T.n_Table_unit (i := 2) (by decide +kernel) rfl
theorem ed_basis (T : Facts K mg) (h : EvD K ρ te (tab K t)) : EvD K ρ (tFld K te "basis") (nl t.basis) := ed_fld h T.c_Table T.n_Table_basis (i := 3) (by decide +kernel) rfl
theorem ed_lines (T : Facts K mg) (h : EvD K ρ te (tab K t)) : EvD K ρ (tFld K te "lines") (.lst (t.lines.map lnD)) := ed_fld h T.c_Table T.n_Table_lines (i := 4) (by decide +kernel) rfl
theorem row_get (ok : TabOk t) {i : Nat} (hi : i ≤ t.many) : (t.lines.map lnD)[i]? = some (lnD (t.lines[i]?.getD [])) := by
  have h : i < t.lines.length := by rw [ok.rows]; omega
  rw [List.getElem?_map, List.getElem?_eq_getElem h]; rfl
theorem row_mem (ok : TabOk t) {i : Nat} (hi : i ≤ t.many) : t.lines[i]?.getD [] ∈ t.lines := by
  have h : i < t.lines.length := by rw [ok.rows]; omega
  rw [List.getElem?_eq_getElem h]; exact List.getElem_mem h
theorem cell_get (ok : TabOk t) {i j : Nat} (hi : i ≤ t.many) (hj : j ≤ t.size + t.many) : ((t.lines[i]?.getD []).map D.int)[j]? = some (.int (t.at_ i j)) := by
  have h : j < (t.lines[i]?.getD []).length := by rw [ok.cols _ (row_mem ok hi)]; omega
  unfold Tab.at_
  rw [List.getElem?_map, List.getElem?_eq_getElem h]; rfl
theorem cell_bits (ok : TabOk t) {i j : Nat} (hi : i ≤ t.many) (hj : j ≤ t.size + t.many) : (t.at_ i j).natAbs < 2 ^ 2000 := by
  have h : j < (t.lines[i]?.getD []).length := by rw [ok.cols _ (row_mem ok hi)]; omega
  unfold Tab.at_
  rw [List.getElem?_eq_getElem h]
  exact ok.bits _ (row_mem ok hi) _ (List.getElem_mem h)
theorem ed_row (T : Facts K mg) (ok : TabOk t) {i : Nat} (hi : i ≤ t.many) (h : EvD K ρ te (tab K t)) (h2 : EvD K ρ ta (.int (i : Nat))) : EvD K ρ (tOp (rIx K) (tFld K te "lines") ta) (lnD (t.lines[i]?.getD [])) := ed_op (ed_lines T h) h2 (rv_ixL (row_get ok hi))
theorem ed_last (T : Facts K mg) (ok : TabOk t) (h : EvD K ρ te (tab K t)) : EvD K ρ (tOp (rIx K) (tFld K te "lines") (tUn rNegX (tC (.int 1)))) (lnD (t.lines[t.many]?.getD [])) := ed_op (ed_lines T h) (ed_un ed_int ru_neg) (rv_ixLast (by rw [List.length_map, ok.rows, Nat.add_sub_cancel]; exact row_get ok (Nat.le_refl _)))
theorem ed_cell (ok : TabOk t) {i j : Nat} (hi : i ≤ t.many) (hj : j ≤ t.size + t.many) (h : EvD K ρ te (lnD (t.lines[i]?.getD []))) (h2 : EvD K ρ ta (.int (j : Nat))) : EvD K ρ (tOp (rIx K) te ta) (.int (t.at_ i j)) := ed_op h h2 (rv_ixL (cell_get ok hi hj))
theorem ed_rhs (ok : TabOk t) {i : Nat} (hi : i ≤ t.many) (h : EvD K ρ te (lnD (t.lines[i]?.getD []))) : EvD K ρ (tOp (rIx K) te (tUn rNegX (tC (.int 1)))) (.int (t.rhs i)) := ed_op h (ed_un ed_int ru_neg) (rv_ixLast (by rw [List.length_map, ok.cols _ (row_mem ok hi), Nat.add_sub_cancel]; exact cell_get ok hi (Nat.le_refl _)))
theorem sc_Answer___init__ : FnScope ["self", "value", "numbers", "multiples"] ["self", "value", "numbers", "multiples"] (defScope s_Answer___init__) := ⟨rfl, rfl, rfl, by decide +kernel, rfl, by decide +kernel, by decide +kernel⟩
theorem ok_Answer___init__ (T : Facts K mg) : Ok P w K mg base 1 (He.ma K (He.ga K "Answer") "__init__") ["self", "value", "numbers", "multiples"] (spInit K (He.ga K "Answer") ["value", "numbers", "multiples"] RAnswer) := by
  refine Ok.rfI T.F_Answer___init__ sc_Answer___init__ (fun fd F => F.bindsN fun _ _ _ _ _ _ us hl => match us, hl with | [_, _, _, _], _ => rfl) (fun _ => rfl) fun cdv A outer s H E hr x hx => ⟨_, (pss_cons (ps_fld (pv 0) (pv 1) rfl)
      (pss_cons (ps_fld (pv 0) (pv 2) rfl)
      (pss_one (ps_fld (pv 0) (pv 3) rfl)))), ?_⟩
  intro p dx G0 H0
  exact ⟨_, ht_seq (ht_fld rfl List.mem_cons_self (ed_var rfl) T.c_Answer T.n_Answer_value (by simp) (by decide))
      (ht_seq (ht_fld rfl List.mem_cons_self (ed_var rfl) T.c_Answer T.n_Answer_numbers (by decide) (by decide)) (ht_seq (ht_fld rfl List.mem_cons_self (ed_var rfl) T.c_Answer T.n_Answer_multiples (by decide) (by decide)) ht_next))⟩
theorem sc_Table_entering : FnScope ["self", "last", "place"] ["self"] (defScope s_Table_entering) := ⟨rfl, rfl, rfl, by decide +kernel, rfl, by decide +kernel, by decide +kernel⟩
theorem ok_Table_entering (T : Facts K mg) : Ok P w K mg base 1 (He.ma K (He.ga K "Table") "entering") ["self"] (spP K (REnter K)) := by
  refine Ok.rf T.F_Table_entering sc_Table_entering (fun fd F => F.bindsN fun _ _ _ _ _ _ us hl => match us, hl with | [_], _ => rfl) (fun _ => rfl) fun cdv A outer s H E hr x hx => ⟨_, (pss_cons (ps_set (i := 1) sc_Table_entering.nd rfl (by first | exact Or.inl rfl | exact Or.inr rfl) (pe_ix (ix_K (K := K) rfl) (pe_fldK (K := K) rfl (pv 0) rfl) (pe_un un_negX pe_int) (fun _ _ => rfl)))
      (pss_cons (ps_for PassesOwn.never rfl (pi_range1 rfl T.b_range (pa_cons (pe_op op_addX (pe_fldK (K := K) rfl (pv 0) rfl) (pe_fldK (K := K) rfl (pv 0) rfl)) pa_nil)) (pg_name (i := 2) sc_Table_entering.nd rfl (by first | exact Or.inl rfl | exact Or.inr rfl)) (pss_one (ps_if (pt_cmpR op_ltX (pe_ix (ix_K (K := K) rfl) (pv 1) (pv 2) (fun _ _ => rfl)) pe_int (nomark _)) (pss_one (ps_ret (pv 2))) pss_nil)))
      (pss_one (ps_ret pe_non)))), ?_⟩
  refine sd_seq (sd_set (ed_last T hx (ed_var rfl))) ?_
  have hsz := hx.sz
  refine sd_from (by repeat (first | exact .nil | apply Wk.same | apply Wk.none)) (sd_searchQ (enc := fun i : Nat => D.int (i : Nat)) [some (tab K x), some (lnD (x.lines[x.many]?.getD [])), none] (fun p : Nat => if x.at_ x.many p < 0 then some (D.int (p : Nat)) else none) (xs := List.range' 0 (x.size + x.many)) ?_ (fun p hp => ⟨_, _, tg_name, ?_⟩) (fun h => ?_) fun d h => ?_)
  · exact id_range (ea_1 (ed_is (ed_op (ed_size T (ed_var rfl)) (ed_many T (ed_var rfl)) rv_add) (by simp))) (by omega)
  · rw [List.mem_range'_1] at hp
    by_cases q : x.at_ x.many p < 0
    · exact .inr ⟨_, if_pos q, sd_seq_rt (sd_if (j := true) (et_is (et_test (ed_op (ed_cell hx (Nat.le_refl _) (by omega) (ed_var rfl) (ed_var rfl)) ed_int rv_lt)) (decide_eq_true q)) (fun _ => sd_seq_rt (sd_ret (ed_var rfl))) fun h => by cases h)⟩
    · exact .inl ⟨if_neg q, sd_weak (sd_seq (sd_if (j := false) (et_is (et_test (ed_op (ed_cell hx (Nat.le_refl _) (by omega) (ed_var rfl) (ed_var rfl)) ed_int rv_lt)) (decide_eq_false q)) (fun h => by cases h) fun _ => sd_next) sd_next) (by repeat (first | exact .nil | apply Wk.same | apply Wk.none))⟩
  · have e : x.entering = none := by
      unfold Tab.entering
      rw [List.find?_eq_none]
      intro p hp q
      have := List.findSome?_eq_none_iff.mp h p hp
      rw [if_pos (of_decide_eq_true q)] at this
      cases this
    refine sd_seq_rt (sd_ret (ed_is ed_non ?_))
    rw [e]; rfl
  · congr 1
    have key : ∀ l : List Nat, l.findSome? (fun p : Nat => if x.at_ x.many p < 0 then some (D.int (p : Nat)) else none) = some d → optD (l.find? fun p => decide (x.at_ x.many p < 0)) = d := fun l => by
      induction l with
      | nil => intro z; cases z
      | cons a l ih =>
        intro z
        rw [List.findSome?_cons] at z
        by_cases q : x.at_ x.many a < 0
        · rw [if_pos q] at z
          rw [List.find?_cons_of_pos (by simpa using q)]
          exact Option.some.inj z
        · rw [if_neg q] at z
          rw [List.find?_cons_of_neg (by simpa using q)]
          exact ih z
    exact key _ h
theorem sc_Table_is_ahead : FnScope ["self", "index", "other", "place", "one", "two"] ["self", "index", "other", "place"] (defScope s_Table_is_ahead) := ⟨rfl, rfl, rfl, by decide +kernel, rfl, by decide +kernel, by decide +kernel⟩
theorem ok_Table_is_ahead (T : Facts K mg) : Ok P w K mg base 1 (He.ma K (He.ga K "Table") "is_ahead") ["self", "index", "other", "place"] (spP K (RAhead K)) := by
  refine Ok.rf T.F_Table_is_ahead sc_Table_is_ahead (fun fd F => F.bindsN fun _ _ _ _ _ _ us hl => match us, hl with | [_, _, _, _], _ => rfl) (fun _ => rfl) fun cdv A outer s H E hr x hx => ⟨_, (pss_cons (ps_set (i := 4) sc_Table_is_ahead.nd rfl (by first | exact Or.inl rfl | exact Or.inr rfl) (pe_op (op_mulK (K := K) rfl) (pe_ix (ix_K (K := K) rfl) (pe_ix (ix_K (K := K) rfl) (pe_fldK (K := K) rfl (pv 0) rfl) (pv 1) (fun _ _ => rfl)) (pe_un un_negX pe_int) (fun _ _ => rfl)) (pe_ix (ix_K (K := K) rfl) (pe_ix (ix_K (K := K) rfl) (pe_fldK (K := K) rfl (pv 0) rfl) (pv 2) (fun _ _ => rfl)) (pv 3) (fun _ _ => rfl))))
      (pss_cons (ps_set (i := 5) sc_Table_is_ahead.nd rfl (by first | exact Or.inl rfl | exact Or.inr rfl) (pe_op (op_mulK (K := K) rfl) (pe_ix (ix_K (K := K) rfl) (pe_ix (ix_K (K := K) rfl) (pe_fldK (K := K) rfl (pv 0) rfl) (pv 2) (fun _ _ => rfl)) (pe_un un_negX pe_int) (fun _ _ => rfl)) (pe_ix (ix_K (K := K) rfl) (pe_ix (ix_K (K := K) rfl) (pe_fldK (K := K) rfl (pv 0) rfl) (pv 1) (fun _ _ => rfl)) (pv 3) (fun _ _ => rfl))))
      (pss_one (ps_ret (pe_or (pe_cmpR op_ltX (pv 4) (pv 5) (nomark _)) (pe_one (pe_and (pe_cmpR (op_eqK (K := K) rfl hr.units) (pv 4) (pv 5) (nomark _)) (pe_one (pe_cmpR op_ltX (pe_ix (ix_K (K := K) rfl) (pe_fldK (K := K) rfl (pv 0) rfl) (pv 1) (fun _ _ => rfl)) (pe_ix (ix_K (K := K) rfl) (pe_fldK (K := K) rfl (pv 0) rfl) (pv 2) (fun _ _ => rfl)) (nomark _)))))))))), ?_⟩
  obtain ⟨t, i, o, q⟩ := x
  obtain ⟨ok, hi, ho, hq⟩ := hx
  dsimp only at ok hi ho hq
  have b : ∀ i j, i ≤ t.many → j ≤ t.size + t.many → (t.at_ i j).natAbs < 2 ^ 2000 := fun i j h1 h2 => cell_bits ok h1 h2
  have gb : ∀ i, i < t.many → (t.basis.map fun n : Nat => D.int (n : Nat))[i]? = some (.int ((t.basis[i]?.getD 0 : Nat) : Int)) := fun i h => by
    have h' : i < t.basis.length := by rw [ok.basis]; exact h
    rw [List.getElem?_map, List.getElem?_eq_getElem h']; rfl
  have hi1 : i ≤ t.many := by omega
  have ho1 : o ≤ t.many := by omega
  have hq1 : q ≤ t.size + t.many := by omega
  refine sd_seq (sd_set (ed_op (ed_rhs ok hi1 (ed_row T ok hi1 (ed_var rfl) (ed_var rfl))) (ed_cell ok ho1 hq1 (ed_row T ok ho1 (ed_var rfl) (ed_var rfl)) (ed_var rfl)) (rv_mul (bd_mulw (b i _ hi1 (Nat.le_refl _)) (b o q ho1 hq1) (by decide))))) ?_
  refine sd_seq (sd_set (ed_op (ed_rhs ok ho1 (ed_row T ok ho1 (ed_var rfl) (ed_var rfl))) (ed_cell ok hi1 hq1 (ed_row T ok hi1 (ed_var rfl) (ed_var rfl)) (ed_var rfl)) (rv_mul (bd_mulw (b o _ ho1 (Nat.le_refl _)) (b i q hi1 hq1) (by decide))))) ?_
  refine sd_seq_rt (sd_ret (ed_is (ed_orV (ed_op (ed_var rfl) (ed_var rfl) rv_lt) fun _ => ed_andV (ed_op (ed_var rfl) (ed_var rfl) rv_eqI) fun _ => ed_op (ed_op (ed_basis T (ed_var rfl)) (ed_var rfl) (rv_ixL (gb i hi))) (ed_op (ed_basis T (ed_var rfl)) (ed_var rfl) (rv_ixL (gb o ho))) rv_lt) ?_))
  show D.bl _ = D.bl (t.ahead i o q)
  unfold Tab.ahead
  congr 3
  exact decide_eq_decide.mpr Int.ofNat_lt
theorem sc_Table_leaving : FnScope ["self", "place", "found", "index", "step"] ["self", "place"] (defScope s_Table_leaving) := ⟨rfl, rfl, rfl, by decide +kernel, rfl, by decide +kernel, by decide +kernel⟩
theorem ok_Table_leaving (T : Facts K mg) : Ok P w K mg base 2 (He.ma K (He.ga K "Table") "leaving") ["self", "place"] (spP K (RLeave K)) := by
  have G_Table_is_ahead : Ok P w K mg base 1 _ _ _ := ok_Table_is_ahead T
  refine Ok.rf T.F_Table_leaving sc_Table_leaving (fun fd F => F.bindsN fun _ _ _ _ _ _ us hl => match us, hl with | [_, _], _ => rfl) (fun _ => rfl) fun cdv A outer s H E hr x hx => ⟨_, (pss_cons (ps_set (i := 2) sc_Table_leaving.nd rfl (by first | exact Or.inl rfl | exact Or.inr rfl) pe_non)
      (pss_cons (ps_for PassesOwn.never rfl (pi_range1 rfl T.b_range (pa_cons (pe_fldK (K := K) rfl (pv 0) rfl) pa_nil)) (pg_name (i := 3) sc_Table_leaving.nd rfl (by first | exact Or.inl rfl | exact Or.inr rfl)) (pss_cons (ps_set (i := 4) sc_Table_leaving.nd rfl (by first | exact Or.inl rfl | exact Or.inr rfl) (pe_ix (ix_K (K := K) rfl) (pe_ix (ix_K (K := K) rfl) (pe_fldK (K := K) rfl (pv 0) rfl) (pv 3) (fun _ _ => rfl)) (pv 1) (fun _ _ => rfl)))
      (pss_one (ps_if (PW.pt (pw_and (pt_cmpR op_gtX (pv 4) pe_int (nomark _)) (pw_and1 (PW.pt (pw_or (pt_cmpR op_isX (pv 2) pe_non (nomark _)) (pw_or1 (pt_val (G_Table_is_ahead.peO (hr.mono (by decide)) T.c_Table T.h_Table_is_ahead (pv 0) (pa_cons (pv 3) (pa_cons (pv 2) (pa_cons (pv 1) pa_nil))))))))))) (pss_one (ps_set (i := 2) sc_Table_leaving.nd rfl (by first | exact Or.inl rfl | exact Or.inr rfl) (pv 3))) pss_nil))))
      (pss_one (ps_ret (pv 2))))), ?_⟩
  obtain ⟨t, q⟩ := x
  obtain ⟨ok, hq⟩ := hx
  dsimp only at ok hq
  have hsz := ok.sz
  refine sd_seq (sd_set ed_non) ?_
  refine sd_seq (sd_from (by repeat (first | exact .nil | apply Wk.same | apply Wk.none)) (sd_fold (enc := fun i : Nat => D.int (i : Nat)) (fun f : Option Nat => [some (tab K t), some (.int (q : Nat)), some (optD f), none, none]) (fun f i => t.leave1 q f i) (fun f l => (∀ o, f = some o → o < t.many) ∧ ∀ i ∈ l, i < t.many) (xs := List.range' 0 t.many) none ?_ ⟨fun o h => by (cases h), fun i hi => by rw [List.mem_range'_1] at hi; omega⟩ fun f i l h => ?_)) (sd_seq_rt (sd_ret (ed_var rfl)))
  · exact id_range (ea_1 (ed_many T (ed_var rfl))) (by omega)
  · obtain ⟨h1, h2⟩ := h
    have hi := h2 i List.mem_cons_self
    refine ⟨⟨fun o ho => ?_, fun j hj => h2 j (List.mem_cons_of_mem _ hj)⟩, _, _, tg_name, ?_⟩
    · unfold Tab.leave1 at ho
      split at ho
      · cases ho; exact hi
      · exact h1 o ho
    have hi1 : i ≤ t.many := by omega
    have hq1 : q ≤ t.size + t.many := by omega
    refine sd_seq (sd_set (ed_cell ok hi1 hq1 (ed_row T ok hi1 (ed_var rfl) (ed_var rfl)) (ed_var rfl))) ?_
    cases f with
    | none =>
      by_cases hc : 0 < t.at_ i q
      · have e : t.leave1 q none i = some i := if_pos ⟨hc, fun o z => by cases z⟩
        rw [e]
        refine sd_weak (sd_seq (sd_if (j := true) (et_is (et_and (et_test (ed_op (ed_var rfl) ed_int rv_gt)) fun _ => et_or (k := false) (et_test (ed_op (ed_var rfl) ed_non (rv_isN rfl))) fun z => by cases z) (by rw [decide_eq_true hc]; rfl)) (fun _ => sd_seq (sd_set (ed_var rfl)) sd_next) fun h => by cases h) sd_next) (by repeat (first | exact .nil | apply Wk.same | apply Wk.none))
      · have e : t.leave1 q none i = none := if_neg fun z => hc z.1
        rw [e]
        refine sd_weak (sd_seq (sd_if (j := false) (et_is (et_and (k := true) (et_test (ed_op (ed_var rfl) ed_int rv_gt)) fun z => absurd (of_decide_eq_true z) hc) (by rw [decide_eq_false hc]; rfl)) (fun h => by cases h) fun _ => sd_next) sd_next) (by repeat (first | exact .nil | apply Wk.same | apply Wk.none))
    | some o =>
      have ho := h1 o rfl
      by_cases hc : 0 < t.at_ i q ∧ t.ahead i o q = true
      · have e : t.leave1 q (some o) i = some i := if_pos ⟨hc.1, fun o' z => by cases z; exact hc.2⟩
        rw [e]
        refine sd_weak (sd_seq (sd_if (j := true) (et_is (et_and (et_test (ed_op (ed_var rfl) ed_int rv_gt)) fun _ => et_or (et_test (ed_op (ed_var rfl) ed_non (rv_isN rfl))) fun _ => et_B (ed_meth (ed_var rfl) (by decide) (ea_3 (ed_var rfl) (ed_var rfl) (ed_var rfl)) (show RAhead K [tab K t, D.int (i : Nat), D.int (o : Nat), D.int (q : Nat)] (D.bl (t.ahead i o q)) from rf (t, i, o, q) ⟨ok, hi, ho, hq⟩))) (by rw [decide_eq_true hc.1, hc.2]; rfl)) (fun _ => sd_seq (sd_set (ed_var rfl)) sd_next) fun h => by cases h) sd_next) (by repeat (first | exact .nil | apply Wk.same | apply Wk.none))
      · have e : t.leave1 q (some o) i = some o := if_neg fun z => hc ⟨z.1, z.2 o rfl⟩
        rw [e]
        refine sd_weak (sd_seq (sd_if (j := false) (et_is (et_and (et_test (ed_op (ed_var rfl) ed_int rv_gt)) fun _ => et_or (et_test (ed_op (ed_var rfl) ed_non (rv_isN rfl))) fun _ => et_B (ed_meth (ed_var rfl) (by decide) (ea_3 (ed_var rfl) (ed_var rfl) (ed_var rfl)) (show RAhead K [tab K t, D.int (i : Nat), D.int (o : Nat), D.int (q : Nat)] (D.bl (t.ahead i o q)) from rf (t, i, o, q) ⟨ok, hi, ho, hq⟩))) ?_) (fun h => by cases h) fun _ => sd_next) sd_next) (by repeat (first | exact .nil | apply Wk.same | apply Wk.none))
        by_cases h0 : 0 < t.at_ i q
        · rw [decide_eq_true h0, Bool.eq_false_iff.mpr fun z => hc ⟨h0, z⟩]; rfl
        · rw [decide_eq_false h0]; rfl
theorem sc_Table_multiples_now : FnScope ["self", "last", "k"] ["self"] (defScope s_Table_multiples_now) := ⟨rfl, rfl, rfl, by decide +kernel, rfl, by decide +kernel, by decide +kernel⟩
theorem ok_Table_multiples_now (T : Facts K mg) : Ok P w K mg base 3 (He.ma K (He.ga K "Table") "multiples_now") ["self"] (spP K (RMults K)) := by
  have G_lowest : Ok P w K mg base 2 _ _ _ := ok_lowest T
  refine Ok.rf T.F_Table_multiples_now sc_Table_multiples_now (fun fd F => F.bindsN fun _ _ _ _ _ _ us hl => match us, hl with | [_], _ => rfl) (fun _ => rfl) fun cdv A outer s H E hr x hx => ⟨_, (pss_cons (ps_set (i := 1) sc_Table_multiples_now.nd rfl (by first | exact Or.inl rfl | exact Or.inr rfl) (pe_ix (ix_K (K := K) rfl) (pe_fldK (K := K) rfl (pv 0) rfl) (pe_un un_negX pe_int) (fun _ _ => rfl)))
      (pss_one (ps_ret (pe_lc (own := [("k", 2)]) rfl sc_Table_multiples_now.nd (pi_range1 rfl T.b_range (pa_cons (pe_fldK (K := K) rfl (pv 0) rfl) pa_nil)) (blkOk_by (N := ["self", "last", "k"]) (sc := defScope s_Table_multiples_now) (by decide +kernel)) (fun _ _ _ _ _ => (pg_name (i := 2) sc_Table_multiples_now.nd rfl (by first | exact Or.inl rfl | exact Or.inr rfl))) (fun _ _ _ _ _ => pts_nil) (fun _ _ _ _ _ => (G_lowest.pe (hr.mono (by decide)) rfl T.m_lowest (pa_cons (pe_ix (ix_K (K := K) rfl) (pv 1) (pe_op op_addX (pe_fldK (K := K) rfl (pv 0) rfl) (pv 2)) (fun _ _ => rfl)) (pa_cons (pe_fldK (K := K) rfl (pv 0) rfl) pa_nil)))))))), ?_⟩
  have hsz := hx.sz
  refine sd_seq (sd_set (ed_last T hx (ed_var rfl))) (sd_seq_rt (sd_ret (ed_is (ed_lcT (xs := List.range' 0 x.many) (enc := fun i : Nat => D.int (i : Nat)) (f := fun k : Nat => fr (Rat.divInt (x.at_ x.many (x.size + k)) x.unit)) ?_ ?_ fun k hk => ⟨_, _, tg_name, by simp, ?_⟩) ?_)))
  · exact id_range (ea_1 (ed_many T (ed_var rfl))) (by omega)
  · simp; omega
  · rw [List.mem_range'_1] at hk
    exact ed_call (ea_2 (ed_cell hx (Nat.le_refl _) (by omega) (ed_var rfl) (ed_is (ed_op (ed_size T (ed_var rfl)) (ed_var rfl) rv_add) (by simp))) (ed_unit T (ed_var rfl))) (rf (_, _) ⟨hx.pos, gcd_small hx.pos hx.ub (by decide)⟩)
  · show _ = D.lst (x.mults.map fr)
    unfold Tab.mults
    rw [List.map_map]; rfl
end
end Top
end
section
set_option Elab.async false
set_option linter.all false
set_option maxRecDepth 100000
set_option maxHeartbeats 4000000
/-! F12: the own table. -/
namespace Top
open PySem PySem.Spec PyProof.Rows L2 StX RZ Pu PySem.W
theorem en_is {K : PySem.W.Frag} {ρ : Rho} {te : TE} {l m : List D} (h : EvN K ρ te l) (e : l = m) : EvN K ρ te m := e ▸ h
abbrev ownN (t : Tab) (b L : Addr) : List D := [.int (t.many : Nat), .int (t.size : Nat), .int t.unit, .adr b, .adr L]
/-- the table as own cells -/
def OT (K : PySem.W.Frag) (p b L dx : Addr) (t : Tab) (G H : Hp) : Prop := OwnI K p (He.ga K "Table") dx tabN (ownN t b L) G H ∧ OwnL K b (t.basis.map fun n : Nat => D.int (n : Nat)) G H ∧ OwnL K L (t.lines.map lnD) G H ∧ b ≠ L
theorem OT.stay {K : PySem.W.Frag} {p b L dx : Addr} {t : Tab} : Stay (OT K p b L dx t) := fun G H G' H' f s => ⟨OwnI.stay _ _ _ _ f.1 s, OwnL.stay _ _ _ _ f.2.1 s, OwnL.stay _ _ _ _ f.2.2.1 s, f.2.2.2⟩
theorem ot_view {K : PySem.W.Frag} {p b L dx : Addr} {t : Tab} {G H : Hp} (e : Same G H) (f : OT K p b L dx t G H) : ∃ G2, Same G G2 ∧ Same G2 H ∧ Is K G2 (tab K t) (.ref p) ∧ ∀ a, a ≠ p → a ≠ b → a ≠ L → G2 a = G a := by
  obtain ⟨⟨p1, xs, p2, p3, p4⟩, ⟨b1, ys, b2, b3⟩, ⟨l1, zs, l2, l3⟩, ne⟩ := f
  have hbp : b ≠ p := fun z => by rw [z, p2] at b2; cases b2
  have hlp : L ≠ p := fun z => by rw [z, p2] at l2; cases l2
  have sg : Same G (upd (upd (upd G p (.ins (He.ga K "Table") dx (tabN.zip xs))) b (.lst ys)) L (.lst zs)) := fun a u z => by
    rw [upd_ne (ne_of_none z l1), upd_ne (ne_of_none z b1), upd_ne (ne_of_none z p1)]; exact z
  refine ⟨_, sg, same_give (same_give (same_give e p2) b2) l2, ?_, fun a n1 n2 n3 => by rw [upd_ne n3, upd_ne n2, upd_ne n1]⟩
  have gp : upd (upd (upd G p (.ins (He.ga K "Table") dx (tabN.zip xs))) b (.lst ys)) L (.lst zs) p = some (.ins (He.ga K "Table") dx (tabN.zip xs)) := by rw [upd_ne (Ne.symm hlp), upd_ne (Ne.symm hbp), upd_same]
  refine mk_obj gp p3 ?_
  obtain ⟨x0, r0, rfl, y0, p4⟩ := isL_cons_inv p4
  obtain ⟨x1, r1, rfl, y1, p4⟩ := isL_cons_inv p4
  obtain ⟨x2, r2, rfl, y2, p4⟩ := isL_cons_inv p4
  obtain ⟨x3, r3, rfl, y3, p4⟩ := isL_cons_inv p4
  obtain ⟨x4, r4, rfl, y4, p4⟩ := isL_cons_inv p4
  obtain rfl := isL_nil_inv p4
  obtain rfl := is_adr y3
  obtain rfl := is_adr y4
  exact isL_cons (Is.mono sg _ _ y0) (isL_cons (Is.mono sg _ _ y1) (isL_cons (Is.mono sg _ _ y2) (isL_cons (mk_lst (by rw [upd_ne ne, upd_same]) (IsL.mono sg _ _ b3)) (isL_cons (mk_lst upd_same (IsL.mono sg _ _ l3)) isL_nil))))
theorem ot_View {K : PySem.W.Frag} {p b L dx : Addr} {t : Tab} {F : Hp → Hp → Prop} {ρ : Rho} {i : Nat} (hv : ρ[i]? = some (some (.adr p))) (hF : ∀ G H, F G H → OT K p b L dx t G H) : View K F ρ (ρ.set i (some (tab K t))) := fun σ G H e n f => by
  obtain ⟨G2, e1, e2, h, _⟩ := ot_view e (hF G H f)
  obtain ⟨v, h1, h2⟩ := n.val i _ hv
  rw [is_adr h2] at h1
  refine ⟨G2, e1, e2, ?_⟩
  have z := (n.mono e1).set (i := i) h
  have es : σ.set i (some (.ref p)) = σ := by
    refine List.ext_getElem? fun j => ?_
    by_cases q : i = j
    · subst q
      have := (List.getElem?_eq_some_iff.mp h1).1
      rw [List.getElem?_set_self this, h1]
    · rw [List.getElem?_set_ne q]
  rw [es] at z; exact z
theorem ownL_upd {K : PySem.W.Frag} {q a : Addr} {l : List D} {G H : Hp} {o : HO} (f : OwnL K q l G H) (h : q ≠ a) : OwnL K q l G (upd H a o) := ⟨f.1, f.2.choose, by rw [upd_ne h]; exact f.2.choose_spec.1, f.2.choose_spec.2⟩
theorem ownI_upd {K : PySem.W.Frag} {p a C dx : Addr} {ns : List Str} {es : List D} {G H : Hp} {o : HO} (f : OwnI K p C dx ns es G H) (h : p ≠ a) : OwnI K p C dx ns es G (upd H a o) := ⟨f.1, f.2.choose, by rw [upd_ne h]; exact f.2.choose_spec.1, f.2.choose_spec.2⟩
theorem ownL_ne {K : PySem.W.Frag} {q a C dx : Addr} {l : List D} {G H : Hp} {fs : List (Str × V)} (f : OwnL K q l G H) (h : H a = some (.ins C dx fs)) : q ≠ a := fun z => by
  obtain ⟨_, xs, h2, _⟩ := f
  rw [z, h] at h2; cases h2
theorem ownI_ne {K : PySem.W.Frag} {p a C dx : Addr} {ns : List Str} {es : List D} {G H : Hp} {ys : List V} (f : OwnI K p C dx ns es G H) (h : H a = some (.lst ys)) : p ≠ a := fun z => by
  obtain ⟨_, xs, h2, _⟩ := f
  rw [z, h] at h2; cases h2
/-- an own table is changed: a promise -/
def spTurn (K : PySem.W.Frag) : Sp := fun vs H Q _ => ∃ (G : Hp) (p b L dx : Addr) (i q : Nat) (t : Tab), vs = [.ref p, .int (i : Nat), .int (q : Nat)] ∧ Same G H ∧ OT K p b L dx t G H ∧ TurnOk t i q ∧
  ∀ G' H', Same G' H' → Hist [p, b, L] G H G' H' → OT K p b L dx (t.turn i q) G' H' → Q .non H'
section
variable {P : Program} {w : World} {K : PySem.W.Frag} {mg : Str → Option Value} {base : Heap}
theorem sc_Table_turn : FnScope ["self", "index", "place", "own", "step", "other", "row", "by", "far", "near"] ["self", "index", "place"] (defScope s_Table_turn) := ⟨rfl, rfl, rfl, by decide +kernel, rfl, by decide +kernel, by decide +kernel⟩
theorem ok_Table_turn (T : Facts K mg) : Ok P w K mg base 1 (He.ma K (He.ga K "Table") "turn") ["self", "index", "place"] (spTurn K) := by
  refine Ok.mk' T.F_Table_turn sc_Table_turn (fun fd F => F.bindsN fun _ _ _ _ _ _ us hl => match us, hl with | [_, _, _], _ => rfl) (fun vs H Q E ⟨G, p, b, L, dx, i, q, t, ev, _⟩ => by rw [ev]; rfl) fun cdv A outer s H vs Q E hr ⟨G, p, b, L, dx, i, q, t, ev, e, ot, tok, hq⟩ => ⟨_, (pss_cons (ps_set (i := 3) sc_Table_turn.nd rfl (by first | exact Or.inl rfl | exact Or.inr rfl) (pe_ix (ix_K (K := K) rfl) (pe_fldK (K := K) rfl (pv 0) rfl) (pv 1) (fun _ _ => rfl)))
      (pss_cons (ps_set (i := 4) sc_Table_turn.nd rfl (by first | exact Or.inl rfl | exact Or.inr rfl) (pe_ix (ix_K (K := K) rfl) (pv 3) (pv 2) (fun _ _ => rfl)))
      (pss_cons (ps_for PassesOwn.never rfl (pi_range1 rfl T.b_range (pa_cons (pe_op op_addX (pe_fldK (K := K) rfl (pv 0) rfl) pe_int) pa_nil)) (pg_name (i := 5) sc_Table_turn.nd rfl (by first | exact Or.inl rfl | exact Or.inr rfl)) (pss_one (ps_if (pt_cmpR (op_neK (K := K) rfl hr.units) (pv 5) (pv 1) (nomark _)) (pss_cons (ps_set (i := 6) sc_Table_turn.nd rfl (by first | exact Or.inl rfl | exact Or.inr rfl) (pe_ix (ix_K (K := K) rfl) (pe_fldK (K := K) rfl (pv 0) rfl) (pv 5) (fun _ _ => rfl)))
      (pss_cons (ps_set (i := 7) sc_Table_turn.nd rfl (by first | exact Or.inl rfl | exact Or.inr rfl) (pe_ix (ix_K (K := K) rfl) (pv 6) (pv 2) (fun _ _ => rfl)))
      (pss_one (ps_asg (pe_lc (own := [("far", 8), ("near", 9)]) rfl sc_Table_turn.nd (pi_zipK (K := K) rfl rfl T.b_zip (pa_cons (pv 6) (pa_cons (pv 3) pa_nil))) (blkOk_by (N := ["self", "index", "place", "own", "step", "other", "row", "by", "far", "near"]) (sc := defScope s_Table_turn) (by decide +kernel)) (fun _ _ _ _ _ => (pg_tupK (n := 2) (K := K) rfl rfl (pgs_cons (pg_name (i := 8) sc_Table_turn.nd rfl (by first | exact Or.inl rfl | exact Or.inr rfl)) (pgs_cons (pg_name (i := 9) sc_Table_turn.nd rfl (by first | exact Or.inl rfl | exact Or.inr rfl)) pgs_nil)))) (fun _ _ _ _ _ => pts_nil) (fun _ _ _ _ _ => (pe_op op_divX (pe_op op_subX (pe_op (op_mulK (K := K) rfl) (pv 4) (pv 8)) (pe_op (op_mulK (K := K) rfl) (pv 7) (pv 9))) (pe_fldK (K := K) rfl (pv 0) rfl)))) (pg_sub (pe_fldK (K := K) rfl (pv 0) rfl) (pv 5) set_list))))) pss_nil)))
      (pss_cons (ps_fld (pv 0) (pv 4) rfl)
      (pss_one (ps_asg (pv 2) (pg_sub (pe_fldK (K := K) rfl (pv 0) rfl) (pv 1) set_list))))))), ?_⟩
  subst ev
  obtain ⟨ok, hi, hqq, hpos⟩ := tok
  have hsz := ok.sz
  have hi1 : i ≤ t.many := by omega
  have hq1 : q ≤ t.size + t.many := by omega
  have start : Hist [p, b, L] G H G H := Hist.start e fun a m => by
    simp only [List.mem_cons, List.not_mem_nil, or_false] at m
    obtain ⟨⟨p1, xs, p2, p3, p4⟩, ⟨b1, ys, b2, b3⟩, ⟨l1, zs, l2, l3⟩, ne⟩ := ot
    rcases m with z | z | z <;> subst z
    · exact ⟨p1, by rw [p2]; intro z; cases z⟩
    · exact ⟨b1, by rw [b2]; intro z; cases z⟩
    · exact ⟨l1, by rw [l2]; intro z; cases z⟩
  have hne : b ≠ L := ot.2.2.2
  let Fx : Tab → Hp → Hp → Prop := fun t G' H' => Hist [p, b, L] G H G' H' ∧ OT K p b L dx t G' H'
  have stF : ∀ t, Stay (Fx t) := fun t => Stay.and Hist.stay OT.stay
  have efl : ∀ {ρ : Rho} {t' : Tab}, ρ[0]? = some (some (.adr p)) → EvF K (Fx t') ρ (tFld K (tVar 0) "lines") (.adr L) := fun hv => ef_fld hv (fun G H f => f.2.1) T.c_Table T.n_Table_lines (j := 4) (by decide +kernel) rfl
  have efr : ∀ {ρ : Rho} {t' : Tab} {te : TE} {k : Nat} {r : List Int}, ρ[0]? = some (some (.adr p)) → EvD K ρ te (.int (k : Nat)) → t'.lines[k]? = some r → EvF K (Fx t') ρ (tOp (rIx K) (tFld K (tVar 0) "lines") te) (lnD r) := fun hv h hk => ef_ixO (stF _) (fun G H f => f.2.2.2.1) (efl hv) (ef_of h) (by rw [List.getElem?_map, hk]; rfl)
  have hil : t.lines[i]? = some (t.lines[i]?.getD []) := by
    have h : i < t.lines.length := by rw [ok.rows]; omega
    rw [List.getElem?_eq_getElem h]; rfl
  have fin : ∀ {ts : TS} {ρ' : Rho}, HT K (start0 ["self", "index", "place", "own", "step", "other", "row", "by", "far", "near"] [.adr p, .int (i : Nat), .int (q : Nat)]) (Fx t) ts ρ' (Fx (t.turn i q)) (fun _ _ _ => False) → ts { nx := fun _ H' => Q .non H', rt := Q } (L2.start ["self", "index", "place", "own", "step", "other", "row", "by", "far", "near"] [.ref p, .int (i : Nat), .int (q : Nat)]) H := fun h =>
    h _ _ G H e (en_start (isL_cons mk_adr (isL_cons mk_int (isL_cons mk_int isL_nil)))) ⟨start, ot⟩ (fun σ' G' H' g' e' n' f' => hq G' H' e' f'.1 f'.2) fun _ _ _ _ _ z => z.elim
  let ls1 := (List.range' 0 (t.many + 1)).foldl (fun ls o => if o = i then ls else ls.set o (turnRow t i q (ls[o]?.getD []))) t.lines
  refine fin (ρ' := [some (.adr p), some (.int (i : Nat)), some (.int (q : Nat)), some (lnD (t.lines[i]?.getD [])), some (.int (t.at_ i q)), none, none, none, none, none]) (ht_seq (ht_set (stF _) (efr rfl (ed_var rfl) hil)) (ht_seq (ht_set (stF _) (ef_of (ed_cell ok hi1 hq1 (ed_var rfl) (ed_var rfl)))) (ht_seq (F1 := Fx { t with lines := ls1 }) (ht_from (ρ1 := [some (.adr p), some (.int (i : Nat)), some (.int (q : Nat)), some (lnD (t.lines[i]?.getD [])), some (.int (t.at_ i q)), none, none, none, none, none]) (by repeat (first | exact .nil | apply Wk.same | apply Wk.none)) (ht_forF (enc := fun k : Nat => D.int (k : Nat)) (fun _ : List (List Int) => [some (.adr p), some (.int (i : Nat)), some (.int (q : Nat)), some (lnD (t.lines[i]?.getD [])), some (.int (t.at_ i q)), none, none, none, none, none]) (fun ls => Fx { t with lines := ls }) (fun ls o => if o = i then ls else ls.set o (turnRow t i q (ls[o]?.getD [])))
      (fun ls r => ∃ k, r = List.range' k (t.many + 1 - k) ∧ k ≤ t.many + 1 ∧ ls.length = t.many + 1 ∧ ls[i]? = t.lines[i]? ∧ ∀ j, k ≤ j → ls[j]? = t.lines[j]?) (xs := List.range' 0 (t.many + 1)) t.lines ?_ ⟨0, rfl, Nat.zero_le _, ok.rows, rfl, fun j _ => rfl⟩ (fun ls => stF _) fun ls o r h => ?_)) (ht_seq (ρ1 := [some (.adr p), some (.int (i : Nat)), some (.int (q : Nat)), some (lnD (t.lines[i]?.getD [])), some (.int (t.at_ i q)), none, none, none, none, none]) (F1 := Fx { t with lines := ls1, unit := t.at_ i q }) ?_ ?_))))
  · exact itf_range (eaf_cons (stF _) (by
      have z := ef_op (K := K) (stF t) (ef_fld (i := 0) (ρ := [some (.adr p), some (.int (i : Nat)), some (.int (q : Nat)), some (lnD (t.lines[i]?.getD [])), some (.int (t.at_ i q)), none, none, none, none, none]) rfl (fun G H f => f.2.1) T.c_Table T.n_Table_many (j := 0) (by decide +kernel) rfl) (ef_of (ed_int (i := 1))) rv_add
      exact z) eaf_nil) (by omega)
  · obtain ⟨k, h1, h2, h3, h4, h5⟩ := h
    have hk : k < t.many + 1 := by
      by_cases z : k < t.many + 1
      · exact z
      · rw [show t.many + 1 - k = 0 by omega] at h1; cases h1
    rw [show t.many + 1 - k = (t.many + 1 - (k + 1)) + 1 by omega, List.range'_succ] at h1
    obtain ⟨rfl, rfl⟩ := List.cons.inj h1
    have hro : ls[o]? = some (t.lines[o]?.getD []) := by
      rw [h5 o (Nat.le_refl _)]
      have h : o < t.lines.length := by rw [ok.rows]; omega
      rw [List.getElem?_eq_getElem h]; rfl
    have ho1 : o ≤ t.many := by omega
    refine ⟨⟨o + 1, rfl, by omega, ?_, ?_, fun j hj => ?_⟩, _, _, tg_name, ?_⟩
    · split
      · exact h3
      · rw [List.length_set]; exact h3
    · split
      · exact h4
      · rename_i z
        rw [List.getElem?_set_ne z]; exact h4
    · split
      · exact h5 j (by omega)
      · rw [List.getElem?_set_ne (by omega)]; exact h5 j (by omega)
    by_cases z : o = i
    · rw [if_pos z]
      refine ht_weak (ht_if (j := false) (stF _) (et_is (et_test (ed_op (ed_var rfl) (ed_var rfl) rv_neI)) (by subst z; simp)) (fun h => by cases h) fun _ => ht_next) (by repeat (first | exact .nil | apply Wk.same | apply Wk.none))
    · rw [if_neg z]
      have hz : ¬ (o : Int) = (i : Nat) := by omega
      refine ht_weak (ht_if (j := true) (stF _) (et_is (et_test (ed_op (ed_var rfl) (ed_var rfl) rv_neI)) (by rw [decide_eq_false (by exact hz)]; rfl)) (fun _ => ht_seq (ht_set (stF _) (efr rfl (ed_var rfl) hro)) (ht_seq (ht_set (stF _) (ef_of (ed_cell ok ho1 hq1 (ed_var rfl) (ed_var rfl)))) (ht_pre (F1 := fun G' H' => Hist [p, b, L] G H G' H' ∧ OwnL K L (ls.map lnD) G' H' ∧ OwnI K p (He.ga K "Table") dx tabN (ownN t b L) G' H' ∧ OwnL K b (t.basis.map fun n : Nat => D.int (n : Nat)) G' H') (fun G' H' _ f => ⟨f.1, f.2.2.2.1, f.2.1, f.2.2.1⟩) (ht_post (ht_setO (d := lnD (turnRow t i q (ls[o]?.getD []))) (Stay.and OwnI.stay OwnL.stay) (by simp) ?_ ?_ (ef_of (ed_var rfl)) (by rw [List.length_map, h3]; exact hk) ?_) fun G' H' _ f => ⟨f.1, f.2.2.1, f.2.2.2, ?_, hne⟩)))) fun h => by cases h) (by repeat (first | exact .nil | apply Wk.same | apply Wk.none))
      · have hlt : o < ls.length := by omega
        have hrow : (ls[o]?.getD []) = t.lines[o]?.getD [] := by rw [hro]; rfl
        rw [hrow]
        refine ef_of_efn (efn_view (ot_View (i := 0) (t := { t with lines := ls }) rfl fun G' H' f => ⟨f.2.2.1, f.2.2.2, f.2.1, hne⟩) (en_is (en_lcT (xs := (t.lines[o]?.getD []).zip (t.lines[i]?.getD [])) (enc := fun p : Int × Int => .tup [.int p.1, .int p.2]) (f := fun p : Int × Int => D.int ((t.at_ i q * p.1 - t.at_ o q * p.2) / t.unit)) (by rw [← zipD_map]; exact id_zipXL (ea_2 (ed_var rfl) (ed_var rfl))) ?_ fun x hx => ⟨_, _, tg_tup (tgs_cons tg_name (tgs_cons tg_name tgs_nil)) rfl, by simp, ?_⟩) ?_) ?_)
        · rw [List.length_zip, ok.cols _ (row_mem ok ho1)]; omega
        · have b1 := ok.bits _ (row_mem ok ho1) x.1 (List.of_mem_zip (show (x.1, x.2) ∈ _ from hx)).1
          have b2 := ok.bits _ (row_mem ok hi1) x.2 (List.of_mem_zip (show (x.1, x.2) ∈ _ from hx)).2
          refine ed_op (ed_op (ed_op (ed_var rfl) (ed_var rfl) (rv_mul (bd_mulw (cell_bits ok hi1 hq1) b1 (by decide)))) (ed_op (ed_var rfl) (ed_var rfl) (rv_mul (bd_mulw (cell_bits ok ho1 hq1) b2 (by decide)))) rv_sub) (ed_unit T (ed_var rfl)) (rv_div ⟨by have := ok.pos; simp; omega, log2_of (Nat.lt_of_lt_of_le ok.ub (Nat.pow_le_pow_right (by decide) (by decide))) (by decide)⟩)
        · show _ = (turnRow t i q (t.lines[o]?.getD [])).map D.int
          unfold turnRow
          rw [List.map_zipWith, List.zip, List.map_zipWith]; rfl
        · intro d hd
          obtain ⟨z, _, rfl⟩ := List.mem_map.mp hd
          rfl
      · exact ef_fld rfl (fun G' H' f => f.2.2.1) T.c_Table T.n_Table_lines (j := 4) (by decide +kernel) rfl
      · intro G' H' o' h1 h2 h3 xs
        obtain ⟨ys, rfl⟩ := h2
        exact ⟨ownI_upd h3.1 (ownI_ne h3.1 h1), ownL_upd h3.2 hne⟩
      · have e : (ls.map lnD).set o (lnD (turnRow t i q (ls[o]?.getD []))) = (ls.set o (turnRow t i q (ls[o]?.getD []))).map lnD := by rw [List.map_set]
        rw [← e]; exact f.2.1
  · refine ht_pre (F1 := fun G' H' => Hist [p, b, L] G H G' H' ∧ OwnI K p (He.ga K "Table") dx tabN (ownN t b L) G' H' ∧ OwnL K b (t.basis.map fun n : Nat => D.int (n : Nat)) G' H' ∧ OwnL K L (ls1.map lnD) G' H') (fun G' H' _ f => ⟨f.1, f.2.1, f.2.2.1, f.2.2.2.1⟩) (ht_post (ht_fldS (j := 2) (d := .int (t.at_ i q)) (Stay.and OwnL.stay OwnL.stay) rfl (by simp) (ef_of (ed_var rfl)) T.c_Table T.n_Table_unit (by decide +kernel) (by decide) ?_) fun G' H' _ f => ⟨f.1, f.2.1, f.2.2.1, f.2.2.2, hne⟩)
    intro G' H' fs h1 h2 gs
    exact ⟨ownL_upd h2.1 (ownL_ne h2.1 h1), ownL_upd h2.2 (ownL_ne h2.2 h1)⟩
  · refine ht_pre (F1 := fun G' H' => Hist [p, b, L] G H G' H' ∧ OwnL K b (t.basis.map fun n : Nat => D.int (n : Nat)) G' H' ∧ OwnI K p (He.ga K "Table") dx tabN (ownN { t with lines := ls1, unit := t.at_ i q } b L) G' H' ∧ OwnL K L (ls1.map lnD) G' H') (fun G' H' _ f => ⟨f.1, f.2.2.1, f.2.1, f.2.2.2.1⟩) (ht_post (ht_setO (d := .int (q : Nat)) (Stay.and OwnI.stay OwnL.stay) (by simp) (ef_of (ed_var rfl)) ?_ (ef_of (ed_var rfl)) (by rw [List.length_map, ok.basis]; exact hi) ?_) fun G' H' _ f => ⟨f.1, f.2.2.1, ?_, f.2.2.2, hne⟩)
    · exact ef_fld rfl (fun G' H' f => f.2.2.1) T.c_Table T.n_Table_basis (j := 3) (by decide +kernel) rfl
    · intro G' H' o' h1 h2 h3 xs
      obtain ⟨ys, rfl⟩ := h2
      exact ⟨ownI_upd h3.1 (ownI_ne h3.1 h1), ownL_upd h3.2 (Ne.symm hne)⟩
    · have e : (t.basis.map fun n : Nat => D.int (n : Nat)).set i (D.int (q : Nat)) = (t.basis.set i q).map fun n : Nat => D.int (n : Nat) := by rw [List.map_set]
      rw [show (t.turn i q).basis = t.basis.set i q from rfl, ← e]; exact f.2.1
end
end Top
end
section
set_option Elab.async false
set_option linter.all false
set_option maxRecDepth 100000
set_option maxHeartbeats 4000000
/-! F13: the table is made. -/
namespace Top
open PySem PySem.Spec PyProof.Rows L2 StX RZ Pu PySem.W
abbrev blkS_Table___init__ : Scope := lcS (asgV (defBody s_Table___init__)[5]?)
def RTab (ds : List D) (t : Tab) : Prop := ∃ x : Lp, ds = [.lst (x.rows.map lnD), lnD x.bounds, lnD x.worths] ∧ LpOk x ∧ t = tab0 x
def spTab (K : PySem.W.Frag) : Sp := fun vs H Q _ => ∃ (G : Hp) (p dx : Addr) (us : List V) (ds : List D) (t : Tab), vs = .ref p :: us ∧ Same G H ∧ G p = none ∧ H p = some (.ins (He.ga K "Table") dx []) ∧ IsL K G ds us ∧ RTab ds t ∧
  ∀ b L G' H', Same G' H' → Hist [L, b, p] G H G' H' → H b = none → H L = none → OT K p b L dx t G' H' → Q .non H'
theorem stay_true : Stay (fun _ _ => True) := fun _ _ _ _ _ _ => trivial
section
variable {P : Program} {w : World} {K : PySem.W.Frag} {mg : Str → Option Value} {base : Heap}
theorem sc_Table___init__ : FnScope ["self", "rows", "bounds", "worths", "many", "size", "k", "row", "j", "worth"] ["self", "rows", "bounds", "worths"] (defScope s_Table___init__) := ⟨rfl, rfl, rfl, by decide +kernel, rfl, by decide +kernel, by decide +kernel⟩
theorem ok_Table___init__ (T : Facts K mg) : Ok P w K mg base 1 (He.ma K (He.ga K "Table") "__init__") ["self", "rows", "bounds", "worths"] (spTab K) := by
  refine Ok.mk' T.F_Table___init__ sc_Table___init__ (fun fd F => F.bindsN fun _ _ _ _ _ _ us hl => match us, hl with | [_, _, _, _], _ => rfl) (fun vs H Q E ⟨G, p, dx, us, ds, t, ev, _, _, _, i, ⟨x, e, _⟩, _⟩ => by rw [ev, List.length_cons, ← i.length, e]; rfl) fun cdv A outer s H vs Q E hr ⟨G, p, dx, us, ds, t, ev, e, gp, hp, il, ⟨x, e1, hx, e2⟩, hq⟩ => ⟨_, (pss_cons (ps_asg (pe_tup (pa_cons (pe_callB (call_lenK (K := K) rfl) rfl T.b_len (by decide +kernel) (pa_cons (pv 1) pa_nil)) (pa_cons (pe_callB (call_lenK (K := K) rfl) rfl T.b_len (by decide +kernel) (pa_cons (pv 3) pa_nil)) pa_nil))) (pg_tupK (n := 2) (K := K) rfl rfl (pgs_cons (pg_name (i := 4) sc_Table___init__.nd rfl (by first | exact Or.inl rfl | exact Or.inr rfl)) (pgs_cons (pg_name (i := 5) sc_Table___init__.nd rfl (by first | exact Or.inl rfl | exact Or.inr rfl)) pgs_nil))))
      (pss_cons (ps_fld (pv 0) (pv 4) rfl)
      (pss_cons (ps_fld (pv 0) (pv 5) rfl)
      (pss_cons (ps_fld (pv 0) pe_int rfl)
      (pss_cons (ps_fld (pv 0) (pe_lc (own := [("k", 6)]) rfl sc_Table___init__.nd (pi_range1 rfl T.b_range (pa_cons (pv 4) pa_nil)) (blkOk_by (N := ["self", "rows", "bounds", "worths", "many", "size", "k", "row", "j", "worth"]) (sc := defScope s_Table___init__) (by decide +kernel)) (fun _ _ _ _ _ => (pg_name (i := 6) sc_Table___init__.nd rfl (by first | exact Or.inl rfl | exact Or.inr rfl))) (fun _ _ _ _ _ => pts_nil) (fun _ _ _ _ _ => (pe_op op_addX (pv 5) (pv 6)))) rfl)
      (pss_cons (ps_fld (pv 0) (pe_lc (own := [("k", 6), ("row", 7)]) rfl sc_Table___init__.nd (pi_enumK (K := K) rfl rfl T.b_enumerate (pa_cons (pv 1) pa_nil)) (blkOk_by (N := ["self", "rows", "bounds", "worths", "many", "size", "k", "row", "j", "worth"]) (sc := defScope s_Table___init__) (by decide +kernel)) (fun _ _ _ _ _ => (pg_tupK (n := 2) (K := K) rfl rfl (pgs_cons (pg_name (i := 6) sc_Table___init__.nd rfl (by first | exact Or.inl rfl | exact Or.inr rfl)) (pgs_cons (pg_name (i := 7) sc_Table___init__.nd rfl (by first | exact Or.inl rfl | exact Or.inr rfl)) pgs_nil)))) (fun _ _ _ _ _ => pts_nil) (fun _ _ _ _ _ => (pe_op op_addX (pe_op op_addX (pe_callTy (call_lstK (K := K) rfl) rfl T.b_list (by decide +kernel) (pa_cons (pv 7) pa_nil)) (pe_lc (own := [("j", 8)]) rfl sc_Table___init__.nd (pi_range1 rfl T.b_range (pa_cons (pv 4) pa_nil)) (blkOk_by (N := ["self", "rows", "bounds", "worths", "many", "size", "k", "row", "j", "worth"]) (sc := relS (blkS_Table___init__) (defScope s_Table___init__)) (by decide +kernel)) (fun _ _ _ _ _ => (pg_name (i := 8) sc_Table___init__.nd rfl (by first | exact Or.inl rfl | exact Or.inr rfl))) (fun _ _ _ _ _ => pts_nil) (fun _ _ _ _ _ => (pe_callTy call_intX rfl T.b_int (by decide +kernel) (pa_cons (pe_cmpR (op_eqK (K := K) rfl hr.units) (pv 8) (pv 6) (nomark _)) pa_nil))))) (pe_lst (pa_cons (pe_ix (ix_K (K := K) rfl) (pv 2) (pv 6) (fun _ _ => rfl)) pa_nil))))) rfl)
      (pss_one (ps_expr (pe_bm PySem.F.plainAttrs_list PySem.F.slot_list_append PySem.F.type_list_append mt_append (pe_fldK (K := K) rfl (pv 0) rfl) (pa_cons (pe_op op_addX (pe_lc (own := [("worth", 9)]) rfl sc_Table___init__.nd (pi_seqK (K := K) rfl (pv 3)) (blkOk_by (N := ["self", "rows", "bounds", "worths", "many", "size", "k", "row", "j", "worth"]) (sc := defScope s_Table___init__) (by decide +kernel)) (fun _ _ _ _ _ => (pg_name (i := 9) sc_Table___init__.nd rfl (by first | exact Or.inl rfl | exact Or.inr rfl))) (fun _ _ _ _ _ => pts_nil) (fun _ _ _ _ _ => (pe_un un_negX (pv 9)))) (pe_op (op_mulK (K := K) rfl) (pe_lst (pa_cons pe_int pa_nil)) (pe_op op_addX (pv 4) pe_int))) pa_nil)))))))))), ?_⟩
  subst ev e1 e2
  have hm := hx.rows
  have hw := hx.worths
  have start : Hist [p] G H G H := Hist.start e fun a m => by
    rw [List.mem_singleton.mp m]; exact ⟨gp, by rw [hp]; intro z; cases z⟩
  have fin : ∀ {ts : TS} {ρ' : Rho}, HT K (start0 ["self", "rows", "bounds", "worths", "many", "size", "k", "row", "j", "worth"] [.adr p, .lst (x.rows.map lnD), lnD x.bounds, lnD x.worths]) (fun G' H' => Hist [p] G H G' H' ∧ OwnI K p (He.ga K "Table") dx [] [] G' H' ∧ True) ts ρ' (fun G' H' => ∃ b L, Hist [L, b, p] G H G' H' ∧ H b = none ∧ H L = none ∧ OT K p b L dx (tab0 x) G' H') (fun _ _ _ => False) → ts { nx := fun _ H' => Q .non H', rt := Q } (L2.start ["self", "rows", "bounds", "worths", "many", "size", "k", "row", "j", "worth"] (.ref p :: us)) H := fun h =>
    h _ _ G H e (en_start (isL_cons mk_adr il)) ⟨start, ⟨gp, [], hp, rfl, isL_nil⟩, trivial⟩ (fun σ' G' H' g' e' n' ⟨b, L, f1, f2, f3, f4⟩ => hq b L G' H' e' f1 f2 f3 f4) fun _ _ _ _ _ z => z.elim
  have fx0 : ∀ (G' H' : Hp) (fs : List (Str × V)), H' p = some (.ins (He.ga K "Table") dx fs) → True → ∀ gs : List (Str × V), True := fun _ _ _ _ _ _ => trivial
  have st0 : ∀ ns es, Stay (fun G' H' => Hist [p] G H G' H' ∧ OwnI K p (He.ga K "Table") dx ns es G' H' ∧ True) := fun ns es => Stay.and Hist.stay (Stay.and OwnI.stay stay_true)
  let env : Rho := [some (.adr p), some (.lst (x.rows.map lnD)), some (lnD x.bounds), some (lnD x.worths), some (.int (x.rows.length : Nat)), some (.int (x.worths.length : Nat)), none, none, none, none]
  refine fin (ρ' := env) (ht_seq (ρ1 := env) (ht_sd (st0 _ _) (sd_asg (ed_t2 (ed_is (ed_cb (ea_1 (ed_var rfl)) rc_lenL) (show _ = D.int (x.rows.length : Nat) by rw [List.length_map])) (ed_is (ed_cb (ea_1 (ed_var rfl)) rc_lenL) (show _ = D.int (x.worths.length : Nat) by rw [List.length_map]))) (tg_tup (tgs_cons tg_name (tgs_cons tg_name tgs_nil)) rfl)))
    (ht_seq (ht_fldX stay_true rfl List.mem_cons_self (ed_var rfl) T.c_Table T.n_Table_many (by simp) (by decide) fx0)
    (ht_seq (ht_fldX stay_true rfl List.mem_cons_self (ed_var rfl) T.c_Table T.n_Table_size (by decide) (by decide) fx0)
    (ht_seq (ht_fldX stay_true rfl List.mem_cons_self ed_int T.c_Table T.n_Table_unit (by decide) (by decide) fx0)
    (ht_fldN (l := (tab0 x).basis.map fun n : Nat => D.int (n : Nat)) stay_true rfl List.mem_cons_self (en_is (en_lcT (xs := List.range' 0 x.rows.length) (enc := fun i : Nat => D.int (i : Nat)) (f := fun k : Nat => D.int ((x.worths.length + k : Nat) : Int)) (id_range (ea_1 (ed_var rfl)) (by omega)) (by simp; omega) fun k hk => ⟨_, _, tg_name, by simp, ed_is (ed_op (ed_var rfl) (ed_var rfl) rv_add) (by simp)⟩) (by unfold tab0; rw [List.map_map]; rfl)) T.c_Table T.n_Table_basis (by decide) (by decide) fx0 fun b =>
    ht_fldN (l := ((enumL x.rows).map fun p => x.line p.1 p.2).map lnD) ?_ rfl (by simp) (en_is (en_lcT (xs := enumL x.rows) (enc := fun p : Nat × List Int => .tup [.int (p.1 : Nat), lnD p.2]) (f := fun p : Nat × List Int => lnD (x.line p.1 p.2)) (by unfold enumL; rw [← pairs_map]; exact id_enumL (ea_1 (ed_var rfl))) (by rw [enumL_len]; omega) fun k hk => ⟨_, _, tg_tup (tgs_cons tg_name (tgs_cons tg_name tgs_nil)) rfl, by simp, ?_⟩) (by rw [List.map_map]; rfl)) T.c_Table T.n_Table_lines (by decide) (by decide) ?_ fun L => ?_)))))
  · exact Stay.and (fun G1 H1 G2 H2 f s => ⟨OwnL.stay _ _ _ _ f.1 s, f.2⟩) stay_true
  · obtain ⟨k, r⟩ := k
    have hr1 := enumL_mem hk
    have hkk : k < x.rows.length := (List.getElem?_eq_some_iff.mp hr1).1
    have hcol := hx.cols r (List.mem_of_getElem? hr1)
    refine ed_is (ed_op (ed_op (ed_cb (ea_1 (ed_var rfl)) rc_lstL) (ed_is (ed_lcT (xs := List.range' 0 x.rows.length) (enc := fun i : Nat => D.int (i : Nat)) (f := fun j : Nat => D.int (if (decide ((j : Int) = (k : Nat))) then 1 else 0)) (id_range (ea_1 (ed_var rfl)) (by omega)) (by simp; omega) fun j hj => ⟨_, _, tg_name, by simp, ed_cb (ea_1 (ed_op (ed_var rfl) (ed_var rfl) rv_eqI)) rc_intB⟩) (show _ = lnD ((List.range' 0 x.rows.length).map fun j => if j = k then 1 else 0) from ?_)) (rv_cat (l := r.map D.int) (m := (((List.range' 0 x.rows.length).map fun j => if j = k then (1 : Int) else 0)).map D.int) (by simp; omega))) (ed_l1 (ed_op (ed_var rfl) (ed_var rfl) (rv_ixL (d := .int (x.bounds[k]?.getD 0)) ?_))) (rv_cat (by simp; omega))) ?_
    · unfold lnD
      rw [List.map_map]
      congr 1
      refine List.map_congr_left fun o _ => ?_
      by_cases q : o = k
      · subst q; simp
      · have : ¬ (o : Int) = (k : Nat) := by omega
        simp [q, this]
    · have h : k < x.bounds.length := by rw [hx.bounds]; exact hkk
      rw [List.getElem?_map, List.getElem?_eq_getElem h]; rfl
    · show _ = lnD (x.line k r)
      unfold lnD Lp.line
      rw [List.map_append, List.map_append]; rfl
  · exact fun G' H' fs h1 h2 gs => ⟨⟨ownL_upd h2.1.1 (ownL_ne h2.1.1 h1), h2.1.2⟩, trivial⟩
  · refine ht_pre (F1 := fun G' H' => Hist [L, b, p] G H G' H' ∧ OwnL K L (((enumL x.rows).map fun p => x.line p.1 p.2).map lnD) G' H' ∧ (OwnI K p (He.ga K "Table") dx tabN (ownN (tab0 x) b L) G' H' ∧ OwnL K b ((tab0 x).basis.map fun n : Nat => D.int (n : Nat)) G' H' ∧ H b = none ∧ H L = none ∧ b ≠ L)) (fun G' H' _ f => ⟨f.1, f.2.2.1.1, f.2.1, f.2.2.2.1.1, f.2.2.2.1.2.1, f.2.2.1.2.1, fun z => f.2.2.1.2.2 (by simp [z])⟩) (ht_post (ht_appendF (d := lnD x.foot) ?_ (by simp) ?_ ?_ (by rw [List.length_map, List.length_map, enumL_len]; omega) ?_) fun G' H' _ f => ⟨b, L, f.1, f.2.2.2.2.1, f.2.2.2.2.2.1, f.2.2.1, f.2.2.2.1, ?_, f.2.2.2.2.2.2⟩)
    · exact fun G1 H1 G2 H2 f s => ⟨OwnI.stay _ _ _ _ f.1 s, OwnL.stay _ _ _ _ f.2.1 s, f.2.2⟩
    · exact ef_fld rfl (fun G' H' f => f.2.2.1) T.c_Table T.n_Table_lines (j := 4) (by decide +kernel) rfl
    · refine ef_of (ed_is (ed_op (ed_lcT (xs := x.worths) (enc := D.int) (f := fun w : Int => D.int (-w)) (id_seqL (ed_var rfl)) (by omega) fun w hw => ⟨_, _, tg_name, by simp, ed_un (ed_var rfl) ru_neg⟩) (ed_op (ed_l1 ed_int) (ed_is (ed_op (ed_var rfl) ed_int rv_add) (show _ = D.int ((x.rows.length + 1 : Nat) : Int) by simp)) (rv_rep (by omega) (by omega))) (rv_cat (by simp; omega))) ?_)
      show _ = lnD x.foot
      unfold lnD Lp.foot
      rw [List.map_append, List.map_map, List.map_replicate, Int.toNat_natCast]; rfl
    · intro G' H' o h1 h2 h3 xs
      obtain ⟨ys, rfl⟩ := h2
      exact ⟨ownI_upd h3.1 (ownI_ne h3.1 h1), ownL_upd h3.2.1 h3.2.2.2.2, h3.2.2⟩
    · rw [show (tab0 x).lines.map lnD = ((enumL x.rows).map fun p => x.line p.1 p.2).map lnD ++ [lnD x.foot] by unfold tab0; rw [List.map_append]; rfl]
      exact f.2.1
end
end Top
end
section
set_option Elab.async false
set_option linter.all false
set_option maxRecDepth 100000
set_option maxHeartbeats 4000000
/-! F14: greatest_sum. -/
namespace Top
open PySem PySem.Spec PyProof.Rows L2 StX RZ Pu PySem.W
abbrev ansN : List Str := ["value", "numbers", "multiples"]
def ans (K : PySem.W.Frag) (t : Tab) : D := .obj (He.ga K "Answer") ansN [fr (Rat.divInt (t.rhs t.many) t.unit), .any, .lst (t.mults.map fr)]
abbrev RGreat (K : PySem.W.Frag) := RF (fun x : Lp × Nat × Tab => [.lst (x.1.rows.map lnD), lnD x.1.bounds, lnD x.1.worths]) (fun x => LpOk x.1 ∧ Steps x.2.1 (tab0 x.1) x.2.2) fun x => ans K x.2.2
theorem Steps.okE : ∀ {k : Nat} {t e : Tab}, Steps k t e → TabOk e ∧ e.entering = none
  | _, _, _, .done ok h => ⟨ok, h⟩
  | _, _, _, .step _ _ _ h => Steps.okE h
theorem Steps.ok1 : ∀ {k : Nat} {t e : Tab}, Steps k t e → TabOk t
  | _, _, _, .done ok h => ok
  | _, _, _, .step _ _ ok _ => ok.ok
theorem ed_any {K : PySem.W.Frag} {ρ : Rho} {te : TE} {d : D} (h : EvD K ρ te d) : EvD K ρ te .any := fun σ G H e n Q q => h σ G H e n Q fun v G' H' s _ => q v G' H' s mk_any
theorem isL_any {K : PySem.W.Frag} {G : Hp} : ∀ {l : List D} {xs : List V}, IsL K G l xs → IsL K G (List.replicate l.length .any) xs
  | [], _, h => by rw [isL_nil_inv h]; exact isL_nil
  | d :: l, _, h => by
    obtain ⟨v, r, rfl, _, h2⟩ := isL_cons_inv h
    exact isL_cons mk_any (isL_any h2)
theorem en_any {K : PySem.W.Frag} {ρ : Rho} {te : TE} {l : List D} (h : EvN K ρ te l) : EvN K ρ te (List.replicate l.length .any) := fun σ G H e n Q q => h σ G H e n Q fun p xs G' H' s a b c d => q p xs G' H' s a b c (isL_any d)
theorem flat_optD : ∀ o : Option Nat, flat (optD o) = true
  | none => rfl
  | some _ => rfl
theorem ht_whileR {K : PySem.W.Frag} {ρ ρ1 : Rho} {F : Nat → Hp → Hp → Prop} {R : V → Hp → Hp → Prop} {F1 : Hp → Hp → Prop} {tt : TT} {tb : TS} (hs : ∀ k, Stay (F k)) (ht : EvB K ρ tt true) (hb : ∀ k, HT K ρ (F k) tb ρ (fun G H => ∃ j, j < k ∧ F j G H) R) (k : Nat) : HT K ρ (F k) (tWhile tt tb) ρ1 F1 R := fun Dn σ G H e n f q r => by
  refine ⟨fun m σ' H' => ∃ G', Same G G' ∧ Same G' H' ∧ En K G' ρ σ' ∧ F m G' H', ⟨k, G, Same.refl _, e, n, f⟩, ?_⟩
  rintro m σ1 H1 ⟨G1, g1, e1, n1, f1⟩
  exact ht σ1 G1 H1 e1 n1 _ fun G2 H2 s2 => ⟨fun σ' H' => ∃ G', Same G G' ∧ Same G' H' ∧ En K G' ρ σ' ∧ ∃ j, j < m ∧ F j G' H', fun σ' H' ⟨G', a, b, c, j, d1, d2⟩ => ⟨j, d1, G', a, b, c, d2⟩,
    hb m _ σ1 G2 H2 s2.le (n1.mono s2.g) (hs m _ _ _ _ f1 s2) (fun σ3 G3 H3 g3 e3 n3 f3 => ⟨G3, g1.trans (s2.g.trans g3), e3, n3, f3⟩) fun v G3 H3 g3 => r v G3 H3 (g1.trans (s2.g.trans g3))⟩
abbrev Fresh (H0 : Hp) (p b L : Addr) : Prop := H0 p = none ∧ H0 b = none ∧ H0 L = none
theorem sd_tab {K : PySem.W.Frag} {ρ ρ1 : Rho} {tl : TA} {ds : List D} {t : Tab} {u : TS} {i : Nat} {d : D} {E : XK} (hA : EvA K ρ tl ds) (hR : RTab ds t)
    (h : ∀ p b L dx G0 H0, Fresh H0 p b L → HT K (ρ.set i (some (.adr p))) (fun G H => Hist [L, b, p] G0 H0 G H ∧ OT K p b L dx t G H) u ρ1 (fun _ _ => False) (fun v G H => ∃ G', Stp G0 H0 G' H ∧ Is K G' d v)) :
    StD K ρ (tSeq (tAsg (tMake (He.ga K "Table") (spTab K) [] E tl) (gName i)) u) (.rt d) := fun Dn σ G H e n q => by
  refine hA σ G H e n _ fun vs G1 H1 s1 i1 => fun x dx hx hdx hne => ?_
  have hg : G1 x = none := s1.le.free hx
  have sH : Same H1 (upd (upd H1 dx (.own x)) x (.ins (He.ga K "Table") dx [])) := fun a u z => by
    rw [upd_ne (ne_of_none z hx), upd_ne (ne_of_none z hdx)]; exact z
  refine ⟨G1, x, dx, vs, ds, t, by rw [List.append_nil], s1.le.trans sH, hg, upd_same, i1, hR, fun b L G' H' e' hh hb hl ot => ⟨rfl, ?_⟩⟩
  have none1 : ∀ a, upd (upd H1 dx (.own x)) x (.ins (He.ga K "Table") dx []) a = none → H1 a = none := fun a z => by
    cases w : H1 a with
    | none => rfl
    | some u => rw [sH a u w] at z; cases z
  have hh1 : Hist [L, b, x] G1 H1 G' H' := ⟨hh.g, fun a o na z => hh.h a o na (sH a o z), fun a z1 z2 => hh.nw a z1 fun z => z2 (none1 a z), hh.own⟩
  refine h x b L dx G1 H1 ⟨hx, none1 b hb, none1 L hl⟩ Dn (σ.set i (some (.ref x))) G' H' e' (((n.mono s1.g).mono hh1.g).set mk_adr) ⟨hh1, ot⟩ (fun _ _ _ _ _ _ z => z.elim) fun v G2 H2 _ _ ⟨G3, s3, i3⟩ => ?_
  exact q v G3 H2 (s1.trans s3) i3
theorem ht_giveT {K : PySem.W.Frag} {ρ ρ1 : Rho} {te : TE} {t : Tab} {i : Nat} {d : D} {p b L dx : Addr} {G0 H0 : Hp} {F1 : Hp → Hp → Prop} (hf : Fresh H0 p b L) (hv : ρ[i]? = some (some (.adr p))) (h : EvD K (ρ.set i (some (tab K t))) te d) :
    HT K ρ (fun G H => Hist [L, b, p] G0 H0 G H ∧ OT K p b L dx t G H) (tRet te) ρ1 F1 (fun v G H => ∃ G', Stp G0 H0 G' H ∧ Is K G' d v) := fun Dn σ G H e n f q r => by
  obtain ⟨f1, f2⟩ := f
  obtain ⟨G2, e1, e2, hi, hx⟩ := ot_view e f2
  obtain ⟨v, h1, h2⟩ := n.val i _ hv
  rw [is_adr h2] at h1
  have z := (n.mono e1).set (i := i) hi
  have es : σ.set i (some (.ref p)) = σ := by
    refine List.ext_getElem? fun j => ?_
    by_cases q : i = j
    · subst q
      have := (List.getElem?_eq_some_iff.mp h1).1
      rw [List.getElem?_set_self this, h1]
    · rw [List.getElem?_set_ne q]
  rw [es] at z
  have st : Stp G0 H0 G2 H := ⟨f1.g.trans e1, fun a o w => f1.h a o (fun m => by
    simp only [List.mem_cons, List.not_mem_nil, or_false] at m
    rcases m with y | y | y <;> subst y
    · rw [hf.2.2] at w; cases w
    · rw [hf.2.1] at w; cases w
    · rw [hf.1] at w; cases w) w, e2, fun a z1 z2 => by
      rw [hx a (fun y => z2 (by rw [y]; exact hf.1)) (fun y => z2 (by rw [y]; exact hf.2.1)) (fun y => z2 (by rw [y]; exact hf.2.2))]
      exact f1.nw a z1 z2⟩
  exact h σ G2 H e2 z _ fun v G3 H3 s3 i3 => r v G3 H3 (e1.trans s3.g) s3.le ⟨G3, st.trans s3, i3⟩
theorem ht_turn {K : PySem.W.Frag} {ρ : Rho} {ti tq : TE} {t : Tab} {i j q : Nat} {p b L dx : Addr} {G0 H0 : Hp} {E : XK} {R : V → Hp → Hp → Prop} (hv : ρ[j]? = some (some (.adr p))) (h1 : EvD K ρ ti (.int (i : Nat))) (h2 : EvD K ρ tq (.int (q : Nat))) (ok : TurnOk t i q) :
    HT K ρ (fun G H => Hist [L, b, p] G0 H0 G H ∧ OT K p b L dx t G H) (tDrop (tMeth (He.ga K "Table") "turn" (spTurn K) [] E (tVar j) (tCons ti (tCons tq tNil)))) ρ (fun G H => Hist [L, b, p] G0 H0 G H ∧ OT K p b L dx (t.turn i q) G H) R := fun Dn σ G H e n f q1 r => by
  obtain ⟨f1, f2⟩ := f
  obtain ⟨v, y1, y2⟩ := n.val j _ hv
  rw [is_adr y2] at y1
  obtain ⟨p1, xs, p2, p3, p4⟩ := f2.1
  refine ⟨_, y1, p, dx, _, rfl, p2, ?_, ea_2 h1 h2 σ G H e n _ fun vs G1 H1 s1 i1 => ?_⟩
  · match xs, p3 with
    | [_, _, _, _, _], _ => rfl
  · obtain ⟨x0, r0, rfl, w0, i1⟩ := isL_cons_inv i1
    obtain ⟨x1, r1, rfl, w1, i1⟩ := isL_cons_inv i1
    obtain rfl := isL_nil_inv i1
    rw [is_int w0, is_int w1]
    refine ⟨G1, p, b, L, dx, i, q, t, rfl, s1.le, OT.stay _ _ _ _ f2 s1, ok, fun G' H' e' hh ot => ?_⟩
    have hh2 : Hist [L, b, p] G0 H0 G' H' := (f1.step s1).comp hh fun a m => by
      simp only [List.mem_cons, List.not_mem_nil, or_false] at m ⊢
      rcases m with z | z | z <;> simp [z]
    exact q1 σ G' H' (s1.g.trans hh.g) e' (n.mono (s1.g.trans hh.g)) ⟨hh2, ot⟩
section
variable {P : Program} {w : World} {K : PySem.W.Frag} {mg : Str → Option Value} {base : Heap}
theorem sc_Table_numbers_now : FnScope ["self", "found", "index", "place"] ["self"] (defScope s_Table_numbers_now) := ⟨rfl, rfl, rfl, by decide +kernel, rfl, by decide +kernel, by decide +kernel⟩
theorem ok_Table_numbers_now (T : Facts K mg) : Ok P w K mg base 3 (He.ma K (He.ga K "Table") "numbers_now") ["self"] (spP K (RNums K)) := by
  have G_lowest : Ok P w K mg base 2 _ _ _ := ok_lowest T
  refine Ok.rf T.F_Table_numbers_now sc_Table_numbers_now (fun fd F => F.bindsN fun _ _ _ _ _ _ us hl => match us, hl with | [_], _ => rfl) (fun _ => rfl) fun cdv A outer s H E hr x hx => ⟨_, (pss_cons (ps_set (i := 1) sc_Table_numbers_now.nd rfl (by first | exact Or.inl rfl | exact Or.inr rfl) (pe_op (op_mulK (K := K) rfl) (pe_lst (pa_cons (pe_tup (pa_cons pe_int (pa_cons pe_int pa_nil))) pa_nil)) (pe_fldK (K := K) rfl (pv 0) rfl)))
      (pss_cons (ps_for PassesOwn.never rfl (pi_enumK (K := K) rfl rfl T.b_enumerate (pa_cons (pe_fldK (K := K) rfl (pv 0) rfl) pa_nil)) (pg_tupK (n := 2) (K := K) rfl rfl (pgs_cons (pg_name (i := 2) sc_Table_numbers_now.nd rfl (by first | exact Or.inl rfl | exact Or.inr rfl)) (pgs_cons (pg_name (i := 3) sc_Table_numbers_now.nd rfl (by first | exact Or.inl rfl | exact Or.inr rfl)) pgs_nil))) (pss_one (ps_if (pt_cmpR op_ltX (pv 3) (pe_fldK (K := K) rfl (pv 0) rfl) (nomark _)) (pss_one (ps_asg (G_lowest.pe (hr.mono (by decide)) rfl T.m_lowest (pa_cons (pe_ix (ix_K (K := K) rfl) (pe_ix (ix_K (K := K) rfl) (pe_fldK (K := K) rfl (pv 0) rfl) (pv 2) (fun _ _ => rfl)) (pe_un un_negX pe_int) (fun _ _ => rfl)) (pa_cons (pe_fldK (K := K) rfl (pv 0) rfl) pa_nil))) (pg_sub (pv 1) (pv 3) set_list))) pss_nil)))
      (pss_one (ps_ret (pv 1))))), ?_⟩
  have hsz := hx.sz
  have e0 : (List.replicate ((x.size : Nat) : Int).toNat (D.tup [.int 0, .int 1])).length = x.size := by simp
  refine sd_ownE (l0 := List.replicate x.size .any) (l := List.replicate x.size .any) (ρ1 := [some (tab K x), none, none, none]) (by
    have z := en_any (en_rep (K := K) (ρ := start0 ["self", "found", "index", "place"] [tab K x]) (ed_t2 (ed_int (i := 0)) (ed_int (i := 1))) (ed_size T (ed_var (i := 0) rfl)) (by omega) (by omega))
    rw [e0] at z
    exact z) (fun p G0 H0 => ?_) (sd_seq_rt (sd_ret (ed_any (ed_var rfl))))
  refine ht_from (ρ1 := [some (tab K x), some (.adr p), none, none]) (by repeat (first | exact .nil | apply Wk.same | apply Wk.none)) (ht_for (enc := fun q : Nat × Nat => .tup [.int (q.1 : Nat), .int (q.2 : Nat)]) (fun _ : Unit => [some (tab K x), some (.adr p), none, none]) (fun _ G H => Hist [p] G0 H0 G H ∧ OwnL K p (List.replicate x.size .any) G H) (fun _ _ => ()) (fun _ r => ∀ q ∈ r, q.1 < x.many) (xs := enumL x.basis) () (by unfold enumL; rw [← pairs_map (f := fun n : Nat => D.int (n : Nat))]; exact id_enumL (ea_1 (ed_basis T (ed_var rfl)))) (fun q hq => ?_) (fun _ => Stay.and Hist.stay OwnL.stay) fun _ q r h => ⟨fun y hy => h y (List.mem_cons_of_mem _ hy), _, _, tg_tup (tgs_cons tg_name (tgs_cons tg_name tgs_nil)) rfl, ?_⟩)
  · have := (List.getElem?_eq_some_iff.mp (enumL_mem hq)).1
    rw [hx.basis] at this; exact this
  · obtain ⟨k, q⟩ := q
    have hk : k < x.many := h _ List.mem_cons_self
    have hk1 : k ≤ x.many := by omega
    by_cases z : q < x.size
    · refine ht_weak (ht_if (j := true) (Stay.and Hist.stay OwnL.stay) (et_is (et_test (ed_op (ed_var rfl) (ed_size T (ed_var rfl)) rv_lt)) (decide_eq_true (by exact Int.ofNat_lt.mpr z))) (fun _ => ht_pre (F1 := fun G H => Hist [p] G0 H0 G H ∧ OwnL K p (List.replicate x.size .any) G H ∧ True) (fun G H _ f => ⟨f.1, f.2, trivial⟩) (ht_post (ht_setO (d := .any) stay_true (by simp) (ef_of (ed_any (ed_call (ea_2 (ed_rhs hx hk1 (ed_row T hx hk1 (ed_var rfl) (ed_var rfl))) (ed_unit T (ed_var rfl))) (rf (_, _) ⟨hx.pos, gcd_small hx.pos hx.ub (by decide)⟩)))) (ef_of (ed_var rfl)) (ef_of (ed_var rfl)) (by rw [List.length_replicate]; exact z) (fun _ _ _ _ _ _ _ => trivial)) fun G H _ f => ⟨f.1, by have := f.2.1; rwa [List.set_replicate_self] at this⟩)) fun h => by cases h) (by repeat (first | exact .nil | apply Wk.same | apply Wk.none))
    · exact ht_weak (ht_if (j := false) (Stay.and Hist.stay OwnL.stay) (et_is (et_test (ed_op (ed_var rfl) (ed_size T (ed_var rfl)) rv_lt)) (decide_eq_false (fun y => z (Int.ofNat_lt.mp y)))) (fun h => by cases h) fun _ => ht_next) (by repeat (first | exact .nil | apply Wk.same | apply Wk.none))
theorem sc_greatest_sum : FnScope ["rows", "bounds", "worths", "table", "place", "index"] ["rows", "bounds", "worths"] (defScope s_greatest_sum) := ⟨rfl, rfl, rfl, by decide +kernel, rfl, by decide +kernel, by decide +kernel⟩
theorem ok_greatest_sum (T : Facts K mg) : Ok P w K mg base 4 (He.ga K "greatest_sum") ["rows", "bounds", "worths"] (spP K (RGreat K)) := by
  have G_Table___init__ : Ok P w K mg base 1 _ _ _ := ok_Table___init__ T
  have G_Answer___init__ : Ok P w K mg base 1 _ _ _ := ok_Answer___init__ T
  have G_lowest : Ok P w K mg base 2 _ _ _ := ok_lowest T
  have G_Table_entering : Ok P w K mg base 1 _ _ _ := ok_Table_entering T
  have G_Table_leaving : Ok P w K mg base 2 _ _ _ := ok_Table_leaving T
  have G_Table_numbers_now : Ok P w K mg base 3 _ _ _ := ok_Table_numbers_now T
  have G_Table_multiples_now : Ok P w K mg base 3 _ _ _ := ok_Table_multiples_now T
  have G_Table_turn : Ok P w K mg base 1 _ _ _ := ok_Table_turn T
  refine Ok.rf T.F_greatest_sum sc_greatest_sum (fun fd F => F.bindsN fun _ _ _ _ _ _ us hl => match us, hl with | [_, _, _], _ => rfl) (fun _ => rfl) fun cdv A outer s H E hr x hx => ⟨_, (pss_cons (ps_set (i := 3) sc_greatest_sum.nd rfl (by first | exact Or.inl rfl | exact Or.inr rfl) (G_Table___init__.peM T.k_Table (hr.mono (by decide)) rfl T.m_Table (pa_cons (pv 0) (pa_cons (pv 1) (pa_cons (pv 2) pa_nil)))))
      (pss_one (ps_while PassesOwn.never (pt_val pe_bl) (pss_cons (ps_set (i := 4) sc_greatest_sum.nd rfl (by first | exact Or.inl rfl | exact Or.inr rfl) (G_Table_entering.peO0 (hr.mono (by decide)) T.c_Table T.h_Table_entering (pv 3)))
      (pss_cons (ps_if (pt_cmpR op_isX (pv 4) pe_non (nomark _)) (pss_one (ps_ret (G_Answer___init__.peM T.k_Answer (hr.mono (by decide)) rfl T.m_Answer (pa_cons (G_lowest.pe (hr.mono (by decide)) rfl T.m_lowest (pa_cons (pe_ix (ix_K (K := K) rfl) (pe_ix (ix_K (K := K) rfl) (pe_fldK (K := K) rfl (pv 3) rfl) (pe_un un_negX pe_int) (fun _ _ => rfl)) (pe_un un_negX pe_int) (fun _ _ => rfl)) (pa_cons (pe_fldK (K := K) rfl (pv 3) rfl) pa_nil))) (pa_cons (G_Table_numbers_now.peO0 (hr.mono (by decide)) T.c_Table T.h_Table_numbers_now (pv 3)) (pa_cons (G_Table_multiples_now.peO0 (hr.mono (by decide)) T.c_Table T.h_Table_multiples_now (pv 3)) pa_nil)))))) pss_nil)
      (pss_cons (ps_set (i := 5) sc_greatest_sum.nd rfl (by first | exact Or.inl rfl | exact Or.inr rfl) (G_Table_leaving.peO (hr.mono (by decide)) T.c_Table T.h_Table_leaving (pv 3) (pa_cons (pv 4) pa_nil)))
      (pss_cons (ps_if (pt_cmpR op_isX (pv 5) pe_non (nomark _)) (pss_one ps_never) pss_nil)
      (pss_one (ps_expr (G_Table_turn.peO (hr.mono (by decide)) T.c_Table T.h_Table_turn (pv 3) (pa_cons (pv 5) (pa_cons (pv 4) pa_nil)))))))))))), ?_⟩
  obtain ⟨x, k0, e⟩ := x
  obtain ⟨hlp, hst⟩ := hx
  dsimp only at hlp hst
  refine sd_tab (ρ1 := []) (ea_3 (ed_var rfl) (ed_var rfl) (ed_var rfl)) ⟨x, rfl, hlp, rfl⟩ fun p b L dx G0 H0 hf => ?_
  let env : Rho := [some (.lst (x.rows.map lnD)), some (lnD x.bounds), some (lnD x.worths), some (.adr p), none, none]
  have stF : ∀ t, Stay (fun G H => Hist [L, b, p] G0 H0 G H ∧ OT K p b L dx t G H) := fun t => Stay.and Hist.stay OT.stay
  refine ht_from (ρ1 := env) (by repeat (first | exact .nil | apply Wk.same | apply Wk.none)) (ht_pre (F1 := fun G H => ∃ t, Steps k0 t e ∧ (Hist [L, b, p] G0 H0 G H ∧ OT K p b L dx t G H)) (fun G H _ f => ⟨_, hst, f⟩) (ht_whileR (F := fun k G H => ∃ t, Steps k t e ∧ (Hist [L, b, p] G0 H0 G H ∧ OT K p b L dx t G H)) (fun k G H G' H' ⟨t, h, f⟩ s => ⟨t, h, stF t _ _ _ _ f s⟩) (et_B ed_bl) (fun k => ht_ex fun t => ?_) k0))
  intro Dn σ G H eq n ⟨hs, f⟩
  revert Dn σ G H
  show HT K env (fun G H => Hist [L, b, p] G0 H0 G H ∧ OT K p b L dx t G H) _ env _ _
  have ok1 := hs.ok1
  refine ht_seq (ht_set (stF t) (ef_view (ot_View (i := 3) rfl fun G H f => f.2) (ed_meth (ed_var rfl) (by decide) ea_nil (show REnter K [tab K t] (optD t.entering) from rf t ok1)) (flat_optD _))) ?_
  cases hs with
  | done ok h =>
    rw [h]
    refine ht_seq (ht_if (j := true) (ρ1 := env) (F1 := fun _ _ => False) (stF e) (et_is (et_test (ed_op (ed_var rfl) ed_non (rv_isN rfl))) rfl) (fun _ => ht_giveT hf (i := 3) rfl (ed_make (ea_3 (ed_call (ea_2 (ed_rhs ok (Nat.le_refl _) (ed_last T ok (ed_var rfl))) (ed_unit T (ed_var rfl))) (show RLowest [D.int (e.rhs e.many), D.int e.unit] (fr (Rat.divInt (e.rhs e.many) e.unit)) from rf (e.rhs e.many, e.unit) ⟨ok.pos, gcd_small ok.pos ok.ub (by decide)⟩)) (ed_meth (ed_var rfl) (by decide) ea_nil (show RNums K [tab K e] D.any from rf e ok)) (ed_meth (ed_var rfl) (by decide) ea_nil (show RMults K [tab K e] (.lst (e.mults.map fr)) from rf e ok))) (show RAnswer [fr (Rat.divInt (e.rhs e.many) e.unit), D.any, D.lst (e.mults.map fr)] [fr (Rat.divInt (e.rhs e.many) e.unit), .any, .lst (e.mults.map fr)] from ri (fr (Rat.divInt (e.rhs e.many) e.unit), D.any, D.lst (e.mults.map fr)) trivial))) fun h => by cases h) (fun Dn σ G H _ _ z _ _ => z.elim)
  | step h1 h2 tok h =>
    rename_i i q k'
    rw [h1]
    refine ht_seq (ht_if (j := false) (stF t) (et_is (et_test (ed_op (ed_var rfl) ed_non (rv_isN rfl))) rfl) (fun h => by cases h) fun _ => ht_next) ?_
    refine ht_seq (ht_set (stF t) (ef_view (ot_View (i := 3) rfl fun G H f => f.2) (ed_meth (ed_var rfl) (by decide) (ea_1 (ed_var rfl)) (show RLeave K [tab K t, D.int (q : Nat)] (optD (t.leaving q)) from rf (t, q) ⟨ok1, tok.hq⟩)) (flat_optD _))) ?_
    rw [h2]
    refine ht_seq (ht_if (j := false) (stF t) (et_is (et_test (ed_op (ed_var rfl) ed_non (rv_isN rfl))) rfl) (fun h => by cases h) fun _ => ht_next) ?_
    exact ht_weak (ht_post (ht_turn rfl (ed_var rfl) (ed_var rfl) tok) fun G H _ f => ⟨k', Nat.lt_succ_self _, _, h, f⟩) (by repeat (first | exact .nil | apply Wk.same | apply Wk.none))
end
end Top
end
section
set_option Elab.async false
set_option linter.all false
set_option maxRecDepth 100000
set_option maxHeartbeats 4000000
/-! F15: answers, worths asked. -/
namespace Top
open PySem PySem.Spec PyProof.Rows L2 StX RZ Pu PySem.W
abbrev RLeastA (K : PySem.W.Frag) := RF (fun s : SolArg => [bk K s.x, py s.g]) SolOk fun s => ans K s.e
abbrev RPlain (K : PySem.W.Frag) := RF (fun s : (Nat × List Quote) × Tab => [bk K s.1]) (fun s => SolOk ⟨s.1, zeros s.1, s.2⟩) fun s => ans K s.2
abbrev RSome (K : PySem.W.Frag) := RF (fun x : Nat × List Quote => [bk K x]) Sound fun _ => .bl true
abbrev RChSound (K : PySem.W.Frag) := RF (fun x : Nat × List Quote => [bk K x]) Sound fun _ => .non
abbrev RChListed (K : PySem.W.Frag) := RF (fun x : Nat × List Quote => [bk K x]) (fun x => Sound x ∧ x.1 ≤ 5) fun _ => .non
abbrev RCorners (K : PySem.W.Frag) := RF (fun x : Nat × List Quote => [bk K x]) (fun x => (Sound x ∧ x.1 ≤ 5) ∧ CoOk x) fun x => .tup ((cornersOf x).map rw_)
theorem lp_ok {x : Nat × List Quote} {g : List Int} (hb : BkOk x) (hg : g.length = x.1) : LpOk (lpOf x g) := by
  obtain ⟨⟨n1, n2⟩, hl, hq⟩ := hb
  refine ⟨?_, ?_, ?_, fun r hr => ?_⟩
  · simp [lpOf, gainRows]; omega
  · simp [lpOf]; omega
  · simp [lpOf, gainRows, hg]
  · simp only [lpOf, List.mem_map] at hr
    obtain ⟨s, hs, rfl⟩ := hr
    obtain ⟨i, _, rfl⟩ := List.mem_map.mp hs
    simp [lpOf, gainRow]
section
variable {P : Program} {w : World} {K : PySem.W.Frag} {mg : Str → Option Value} {base : Heap} {ρ : Rho} {te : TE}
theorem ed_value (T : Facts K mg) {e : Tab} (h : EvD K ρ te (ans K e)) : EvD K ρ (tFld K te "value") (fr e.value) := ed_fld h T.c_Answer T.n_Answer_value (i := 0) (by decide +kernel) rfl
theorem ed_mults (T : Facts K mg) {e : Tab} (h : EvD K ρ te (ans K e)) : EvD K ρ (tFld K te "multiples") (.lst (e.mults.map fr)) := ed_fld h T.c_Answer T.n_Answer_multiples (i := 2) (by decide +kernel) rfl
theorem sc_least_answer : FnScope ["book", "payoff", "low", "rows", "gains", "number"] ["book", "payoff"] (defScope s_least_answer) := ⟨rfl, rfl, rfl, by decide +kernel, rfl, by decide +kernel, by decide +kernel⟩
theorem ok_least_answer (T : Facts K mg) : Ok P w K mg base 5 (He.ga K "least_answer") ["book", "payoff"] (spP K (RLeastA K)) := by
  have G_gain_rows : Ok P w K mg base 3 _ _ _ := ok_gain_rows T
  have G_greatest_sum : Ok P w K mg base 4 _ _ _ := ok_greatest_sum T
  have G_Book_quotes : Ok P w K mg base 1 _ _ _ := ok_Book_quotes T
  refine Ok.rf T.F_least_answer sc_least_answer (fun fd F => F.bindsN fun _ _ _ _ _ _ us hl => match us, hl with | [_, _], _ => rfl) (fun _ => rfl) fun cdv A outer s H E hr x hx => ⟨_, (pss_cons (ps_set (i := 2) sc_least_answer.nd rfl (by first | exact Or.inl rfl | exact Or.inr rfl) (pe_callB (call_minK (K := K) rfl rfl hr.units) rfl T.b_min (by decide +kernel) (pa_cons (pv 1) pa_nil)))
      (pss_cons (ps_setLc (i := 3) (own := [("gains", 4)]) rfl sc_least_answer.nd rfl rfl (sw_true rfl rfl rfl (by decide +kernel)) (pi_seqK (K := K) rfl (G_gain_rows.pe (hr.mono (by decide)) rfl T.m_gain_rows (pa_cons (pv 0) pa_nil))) (blkOk_by (N := ["book", "payoff", "low", "rows", "gains", "number"]) (sc := defScope s_least_answer) (by decide +kernel)) (fun _ _ _ _ _ => (pg_name (i := 4) sc_least_answer.nd rfl (by first | exact Or.inl rfl | exact Or.inr rfl))) (fun _ _ _ _ _ => pts_nil) (fun _ _ _ _ _ => (pe_lst (pa_cons pe_int (pa_starK (K := K) rfl (pv 4) pa_nil)))))
      (pss_one (ps_ret (G_greatest_sum.pe (hr.mono (by decide)) rfl T.m_greatest_sum (pa_cons (pv 3) (pa_cons (pe_lc (own := [("number", 5)]) rfl sc_least_answer.nd (pi_seqK (K := K) rfl (pv 1)) (blkOk_by (N := ["book", "payoff", "low", "rows", "gains", "number"]) (sc := defScope s_least_answer) (by decide +kernel)) (fun _ _ _ _ _ => (pg_name (i := 5) sc_least_answer.nd rfl (by first | exact Or.inl rfl | exact Or.inr rfl))) (fun _ _ _ _ _ => pts_nil) (fun _ _ _ _ _ => (pe_op op_subX (pv 5) (pv 2)))) (pa_cons (pe_op op_addX (pe_lst (pa_cons pe_int pa_nil)) (pe_op (op_mulK (K := K) rfl) (pe_lst (pa_cons pe_int pa_nil)) (pe_callB (call_lenK (K := K) rfl) rfl T.b_len (by decide +kernel) (pa_cons (G_Book_quotes.peP (hr.mono (by decide)) T.c_Book T.p_quotes (pv 0)) pa_nil)))) pa_nil)))))))), ?_⟩
  obtain ⟨x, g, e⟩ := x
  obtain ⟨hb, hg, k, hs⟩ := hx
  dsimp only at hb hg hs
  have hlp := lp_ok hb hg
  have hb' := hb
  obtain ⟨⟨n1, n2⟩, hl, hq⟩ := hb'
  have hmin : ∀ {ρ : Rho}, ρ[1]? = some (some (py g)) → EvD K ρ (tCB (rMinX K) (tCons (tVar 1) tNil)) (.int (minI g)) := fun h => by
    cases g with
    | nil => simp at hg; omega
    | cons n r => exact ed_cb (ea_1 (ed_var h)) rc_minXT
  have hgl : (gainRows x).length = x.1 := by simp [gainRows]
  refine sd_seq (sd_set (hmin rfl)) ?_
  refine sd_seq (sd_set (ed_is (ed_lcT (xs := gainRows x) (enc := lnD) (f := fun r : List Int => lnD (1 :: r)) (id_seqL (ed_call (ea_1 (ed_var rfl)) (show RGains K [bk K x] (.lst ((gainRows x).map lnD)) from rf x hb))) (by omega) fun r hr => ⟨_, _, tg_name, by simp, ed_is (ed_lst (ea_cons ed_int (ea_starL (l := r.map D.int) (ed_var rfl) ea_nil)) ?_) (by unfold lnD; simp)⟩) (show _ = D.lst ((lpOf x g).rows.map lnD) by unfold lpOf; rw [List.map_map]; rfl))) ?_
  · have : r.length = x.2.length := by
      obtain ⟨i, _, rfl⟩ := List.mem_map.mp hr
      simp [gainRow]
    simp; omega
  refine sd_seq_rt (sd_ret (ed_call (ea_3 (ed_var rfl) (ed_is (ed_lcT (xs := g) (enc := D.int) (f := fun n : Int => D.int (n - minI g)) (id_seqT (ed_var rfl)) (by omega) fun n hn => ⟨_, _, tg_name, by simp, ed_op (ed_var rfl) (ed_var rfl) rv_sub⟩) (show _ = lnD (lpOf x g).bounds by unfold lpOf lnD; rw [List.map_map]; rfl)) (ed_is (ed_op (ed_l1 ed_int) (ed_op (ed_l1 ed_int) (ed_is (ed_cb (ea_1 (ed_prop (ed_var rfl) (rf x trivial))) rc_lenT) (show _ = D.int (x.2.length : Nat) by rw [List.length_map])) (rv_rep (by omega) (by omega))) (rv_cat (by simp; omega))) (show _ = lnD (lpOf x g).worths by unfold lpOf lnD; simp))) (show RGreat K _ (ans K e) from rf (lpOf x g, k, e) ⟨hlp, hs⟩)))
theorem sc_plain_answer : FnScope ["book"] ["book"] (defScope s_plain_answer) := ⟨rfl, rfl, rfl, by decide +kernel, rfl, by decide +kernel, by decide +kernel⟩
theorem ok_plain_answer (T : Facts K mg) : Ok P w K mg base 6 (He.ga K "plain_answer") ["book"] (spP K (RPlain K)) := by
  have G_least_answer : Ok P w K mg base 5 _ _ _ := ok_least_answer T
  have G_Book_outcomes : Ok P w K mg base 1 _ _ _ := ok_Book_outcomes T
  refine Ok.rf T.F_plain_answer sc_plain_answer (fun fd F => F.bindsN fun _ _ _ _ _ _ us hl => match us, hl with | [_], _ => rfl) (fun _ => rfl) fun cdv A outer s H E hr x hx => ⟨_, (pss_one (ps_ret (G_least_answer.pe (hr.mono (by decide)) rfl T.m_least_answer (pa_cons (pv 0) (pa_cons (pe_op (op_mulK (K := K) rfl) (pe_tup (pa_cons pe_int pa_nil)) (G_Book_outcomes.peP (hr.mono (by decide)) T.c_Book T.p_outcomes (pv 0))) pa_nil))))), ?_⟩
  obtain ⟨x, e⟩ := x
  have hso : SolOk ⟨x, zeros x, e⟩ := hx
  have hb := hx.1
  obtain ⟨⟨n1, n2⟩, hl, hq⟩ := hb
  dsimp only at n1 n2
  refine sd_ret (ed_call (ea_2 (ed_var rfl) (ed_is (ed_op (ed_tup (ea_1 ed_int) (by simp)) (ed_prop (ed_var rfl) (rf x trivial)) (rv_repT (by omega) (by omega))) (show _ = py (zeros x) by unfold py zeros; rw [List.map_replicate, Int.toNat_natCast]))) (show RLeastA K [bk K x, py (zeros x)] (ans K e) from rf (SolArg.mk x (zeros x) e) hso))
theorem sc_is_kept_by_some : FnScope ["book"] ["book"] (defScope s_is_kept_by_some) := ⟨rfl, rfl, rfl, by decide +kernel, rfl, by decide +kernel, by decide +kernel⟩
theorem ok_is_kept_by_some (T : Facts K mg) : Ok P w K mg base 7 (He.ga K "is_kept_by_some") ["book"] (spP K (RSome K)) := by
  have G_plain_answer : Ok P w K mg base 6 _ _ _ := ok_plain_answer T
  refine Ok.rf T.F_is_kept_by_some sc_is_kept_by_some (fun fd F => F.bindsN fun _ _ _ _ _ _ us hl => match us, hl with | [_], _ => rfl) (fun _ => rfl) fun cdv A outer s H E hr x hx => ⟨_, (pss_one (ps_ret (pe_cmpR op_isNotX (pe_fldK (K := K) rfl (G_plain_answer.pe (hr.mono (by decide)) rfl T.m_plain_answer (pa_cons (pv 0) pa_nil)) rfl) pe_non (nomark _)))), ?_⟩
  obtain ⟨e, he⟩ := hx
  exact sd_ret (ed_is (ed_op (ed_value T (ed_call (ea_1 (ed_var rfl)) (show RPlain K [bk K x] (ans K e) from rf (x, e) he))) ed_non (rv_isNotN rfl)) rfl)
theorem sc_check_sound : FnScope ["book"] ["book"] (defScope s_check_sound) := ⟨rfl, rfl, rfl, by decide +kernel, rfl, by decide +kernel, by decide +kernel⟩
theorem ok_check_sound (T : Facts K mg) : Ok P w K mg base 8 (He.ga K "check_sound") ["book"] (spP K (RChSound K)) := by
  have G_is_kept_by_some : Ok P w K mg base 7 _ _ _ := ok_is_kept_by_some T
  refine Ok.rfN T.F_check_sound sc_check_sound (fun fd F => F.bindsN fun _ _ _ _ _ _ us hl => match us, hl with | [_], _ => rfl) (fun _ => rfl) fun cdv A outer s H E hr x hx => ⟨_, (pss_one (ps_if (pt_not (pt_val (G_is_kept_by_some.pe (hr.mono (by decide)) rfl T.m_is_kept_by_some (pa_cons (pv 0) pa_nil)))) (pss_one ps_never) pss_nil)), ?_⟩
  exact ⟨_, sd_seq (sd_if (j := false) (et_is (et_not (et_B (ed_call (ea_1 (ed_var rfl)) (rf x hx)))) rfl) (fun h => by cases h) fun _ => sd_next) sd_next⟩
theorem sc_check_listed : FnScope ["book"] ["book"] (defScope s_check_listed) := ⟨rfl, rfl, rfl, by decide +kernel, rfl, by decide +kernel, by decide +kernel⟩
theorem ok_check_listed (T : Facts K mg) : Ok P w K mg base 9 (He.ga K "check_listed") ["book"] (spP K (RChListed K)) := by
  have G_check_sound : Ok P w K mg base 8 _ _ _ := ok_check_sound T
  have G_Book_outcomes : Ok P w K mg base 1 _ _ _ := ok_Book_outcomes T
  refine Ok.rfN T.F_check_listed sc_check_listed (fun fd F => F.bindsN fun _ _ _ _ _ _ us hl => match us, hl with | [_], _ => rfl) (fun _ => rfl) fun cdv A outer s H E hr x hx => ⟨_, (pss_cons (ps_expr (G_check_sound.pe (hr.mono (by decide)) rfl T.m_check_sound (pa_cons (pv 0) pa_nil)))
      (pss_one (ps_if (pt_cmpR op_gtX (G_Book_outcomes.peP (hr.mono (by decide)) T.c_Book T.p_outcomes (pv 0)) (pe_glob (v := .int 5) rfl T.i_MOST_LISTED.choose_spec ⟨_, rfl⟩) (nomark _)) (pss_one ps_never) pss_nil))), ?_⟩
  obtain ⟨h1, h2⟩ := hx
  refine ⟨_, sd_seq (sd_drop (ed_call (ea_1 (ed_var rfl)) (rf x h1))) (sd_seq (sd_if (j := false) (et_is (et_test (ed_op (ed_prop (ed_var rfl) (rf x trivial)) ed_int rv_gt)) ?_) (fun h => by cases h) fun _ => sd_next) sd_next)⟩
  have : ¬ (5 : Int) < (x.1 : Nat) := by omega
  exact decide_eq_false this
theorem sc_corners : FnScope ["book"] ["book"] (defScope s_corners) := ⟨rfl, rfl, rfl, by decide +kernel, rfl, by decide +kernel, by decide +kernel⟩
theorem ok_corners (T : Facts K mg) : Ok P w K mg base 10 (He.ga K "corners") ["book"] (spP K (RCorners K)) := by
  have G_check_book : Ok P w K mg base 1 _ _ _ := ok_check_book T
  have G_check_listed : Ok P w K mg base 9 _ _ _ := ok_check_listed T
  have G_corners_of : Ok P w K mg base 6 _ _ _ := ok_corners_of T
  refine Ok.rf T.F_corners sc_corners (fun fd F => F.bindsN fun _ _ _ _ _ _ us hl => match us, hl with | [_], _ => rfl) (fun _ => rfl) fun cdv A outer s H E hr x hx => ⟨_, (pss_cons (ps_expr (G_check_book.pe (hr.mono (by decide)) rfl T.m_check_book (pa_cons (pv 0) pa_nil)))
      (pss_cons (ps_expr (G_check_listed.pe (hr.mono (by decide)) rfl T.m_check_listed (pa_cons (pv 0) pa_nil)))
      (pss_one (ps_ret (pe_callTy (call_tupK (K := K) rfl) rfl T.b_tuple (by decide +kernel) (pa_cons (G_corners_of.pe (hr.mono (by decide)) rfl T.m_corners_of (pa_cons (pv 0) pa_nil)) pa_nil)))))), ?_⟩
  obtain ⟨h1, h2⟩ := hx
  exact sd_seq (sd_drop (ed_call (ea_1 (ed_var rfl)) (rf x trivial))) (sd_seq (sd_drop (ed_call (ea_1 (ed_var rfl)) (rf x h1))) (sd_seq_rt (sd_ret (ed_cb (ea_1 (ed_call (ea_1 (ed_var rfl)) (rf x h2))) rc_tupL))))
end
end Top
end
section
set_option Elab.async false
set_option linter.all false
set_option maxRecDepth 100000
set_option maxHeartbeats 4000000
/-! F16: corners and worths asked for. -/
namespace Top
open PySem PySem.Spec PyProof.Rows L2 StX RZ Pu PySem.W
abbrev RIsCorner (K : PySem.W.Frag) := RF (fun s : (Nat × List Quote) × List Rat => [bk K s.1, rw_ s.2]) (fun s => ((Sound s.1 ∧ s.1.1 ≤ 5) ∧ CoOk s.1) ∧ s.2.length = s.1.1 ∧ ChOk 0 s.2) fun s => .bl (decide (s.2 ∈ cornersOf s.1))
abbrev RMean (K : PySem.W.Frag) := RF (fun x : Nat × List Quote => [bk K x]) MeanOk fun x => rw_ (meanOf x.1 (cornersOf x))
abbrev RLeastBy (K : PySem.W.Frag) := RF (fun s : SolArg => [bk K s.x, py s.g]) AskOk fun s => fr (leastOf s)
abbrev RGreatBy (K : PySem.W.Frag) := RF (fun s : SolArg => [bk K s.x, py s.g]) (fun s => AskOk ⟨s.x, neg s.g, s.e⟩) fun s => fr (-(leastOf ⟨s.x, neg s.g, s.e⟩))
abbrev RChAsked (K : PySem.W.Frag) := RF (fun s : (Nat × List Quote) × List Int => [bk K s.1, py s.2]) (fun s => PayOk s.1.1 s.2 ∧ s.1.1 ≤ 6 ∧ Sound s.1) fun _ => .non
abbrev RGreatW (K : PySem.W.Frag) := RF (fun s : SolArg => [bk K s.x, py s.g]) (fun s => PayOk s.x.1 s.g ∧ AskOk ⟨s.x, neg s.g, s.e⟩) fun s => fr (-(leastOf ⟨s.x, neg s.g, s.e⟩))
abbrev RChIn (K : PySem.W.Frag) := RF (fun e : Tab => [ans K e]) ChInOk fun e => rw_ (chanceIn e)
abbrev REndCh (K : PySem.W.Frag) := RF (fun s : SolArg => [bk K s.x, py s.g]) (fun s => AskOk s ∧ ChInOk s.e) fun s => rw_ (chanceIn s.e)
theorem plain_rws : ∀ r : List (List Rat), plainDs (r.map rw_) = true
  | [] => rfl
  | q :: r => by rw [List.map_cons]; simp only [plainDs, rw_plain, plain_rws r, Bool.and_self]
theorem lay_rws : ∀ r : List (List Rat), PyData.canLayAll0 (toPs (r.map rw_)) = true ∧ PyData.depthAll (toPs (r.map rw_)) ≤ 2
  | [] => ⟨rfl, by decide⟩
  | q :: r => by
    obtain ⟨h1, h2⟩ := lay_rws r
    obtain ⟨k1, k2⟩ := lay_frs q
    rw [List.map_cons]
    have d1 : PyData.depth (toP (rw_ q)) ≤ 2 := by unfold rw_; simp only [toP, PyData.depth]; omega
    have d2 : PyData.canLay0 (toP (rw_ q)) = true := by unfold rw_; simp only [toP, PyData.canLay0, k1]
    simp only [toPs, PyData.canLayAll0, PyData.depthAll]
    exact ⟨by rw [h1, d2]; rfl, by omega⟩
theorem rws_shaped (r : List (List Rat)) : SeqAt.shaped (toP (.lst (r.map rw_))) = true := by
  obtain ⟨h1, h2⟩ := lay_rws r
  unfold SeqAt.shaped
  simp only [toP, PyData.canLay0, PyData.depth, h1, Bool.true_and, decide_eq_true_eq]
  omega
theorem any_rws (c : List Rat) : ∀ l : List (List Rat), ((toPs (l.map rw_)).any fun z => PyData.eqv z (toP (rw_ c))) = decide (c ∈ l)
  | [] => rfl
  | r :: l => by
    rw [List.map_cons]
    simp only [toPs, List.any_cons, eqv_rw, any_rws c l]
    by_cases h1 : r = c
    · subst h1; simp
    · have : ¬ c = r := fun z => h1 z.symm
      simp [h1, this]
theorem rv_inR {K : PySem.W.Frag} {c : List Rat} {l : List (List Rat)} : RvD K (rInX K) (rw_ c) (.lst (l.map rw_)) (.bl (decide (c ∈ l))) := by
  have z := rv_inD (K := K) (rw_plain c) (plain_rws l) (rw_shaped c) (rws_shaped l)
  rw [any_rws] at z; exact z
theorem fr_int' (g : Int) : fr (g : Rat) = .tup [.int g, .int 1] := fr_int g
section
variable {P : Program} {w : World} {K : PySem.W.Frag} {mg : Str → Option Value} {base : Heap} {ρ : Rho} {te : TE}
theorem sc_is_corner : FnScope ["book", "chance"] ["book", "chance"] (defScope s_is_corner) := ⟨rfl, rfl, rfl, by decide +kernel, rfl, by decide +kernel, by decide +kernel⟩
theorem ok_is_corner (T : Facts K mg) : Ok P w K mg base 10 (He.ga K "is_corner") ["book", "chance"] (spP K (RIsCorner K)) := by
  have G_check_book : Ok P w K mg base 1 _ _ _ := ok_check_book T
  have G_check_chance : Ok P w K mg base 5 _ _ _ := ok_check_chance T
  have G_check_listed : Ok P w K mg base 9 _ _ _ := ok_check_listed T
  have G_corners_of : Ok P w K mg base 6 _ _ _ := ok_corners_of T
  have G_Book_outcomes : Ok P w K mg base 1 _ _ _ := ok_Book_outcomes T
  refine Ok.rf T.F_is_corner sc_is_corner (fun fd F => F.bindsN fun _ _ _ _ _ _ us hl => match us, hl with | [_, _], _ => rfl) (fun _ => rfl) fun cdv A outer s H E hr x hx => ⟨_, (pss_cons (ps_expr (G_check_book.pe (hr.mono (by decide)) rfl T.m_check_book (pa_cons (pv 0) pa_nil)))
      (pss_cons (ps_expr (G_check_chance.pe (hr.mono (by decide)) rfl T.m_check_chance (pa_cons (pv 1) (pa_cons (G_Book_outcomes.peP (hr.mono (by decide)) T.c_Book T.p_outcomes (pv 0)) pa_nil))))
      (pss_cons (ps_expr (G_check_listed.pe (hr.mono (by decide)) rfl T.m_check_listed (pa_cons (pv 0) pa_nil)))
      (pss_one (ps_ret (pe_cmpR (op_inK (K := K) rfl (hu65 hr)) (pv 1) (G_corners_of.pe (hr.mono (by decide)) rfl T.m_corners_of (pa_cons (pv 0) pa_nil)) (by with_unfolding_all rfl))))))), ?_⟩
  obtain ⟨x, c⟩ := x
  obtain ⟨⟨h1, h2⟩, h3, h4⟩ := hx
  have h6 : x.1 ≤ 6 := by have := h1.2; dsimp only at this; omega
  refine sd_seq (sd_drop (ed_call (ea_1 (ed_var rfl)) (rf x trivial))) (sd_seq (sd_drop (ed_call (ea_2 (ed_var rfl) (ed_prop (ed_var rfl) (rf x trivial))) (show RChChance [rw_ c, D.int (x.1 : Nat)] .non from rf (c, x.1) ⟨h3, h6, h4⟩))) (sd_seq (sd_drop (ed_call (ea_1 (ed_var rfl)) (rf x h1))) (sd_seq_rt (sd_ret (ed_op (ed_var rfl) (ed_call (ea_1 (ed_var rfl)) (rf x h2)) rv_inR)))))
theorem sc_least_by : FnScope ["book", "payoff"] ["book", "payoff"] (defScope s_least_by) := ⟨rfl, rfl, rfl, by decide +kernel, rfl, by decide +kernel, by decide +kernel⟩
theorem ok_least_by (T : Facts K mg) : Ok P w K mg base 6 (He.ga K "least_by") ["book", "payoff"] (spP K (RLeastBy K)) := by
  have G_plus : Ok P w K mg base 3 _ _ _ := ok_plus T
  have G_least_answer : Ok P w K mg base 5 _ _ _ := ok_least_answer T
  refine Ok.rf T.F_least_by sc_least_by (fun fd F => F.bindsN fun _ _ _ _ _ _ us hl => match us, hl with | [_, _], _ => rfl) (fun _ => rfl) fun cdv A outer s H E hr x hx => ⟨_, (pss_one (ps_ret (G_plus.pe (hr.mono (by decide)) rfl T.m_plus (pa_cons (pe_tup (pa_cons (pe_callB (call_minK (K := K) rfl rfl hr.units) rfl T.b_min (by decide +kernel) (pa_cons (pv 1) pa_nil)) (pa_cons pe_int pa_nil))) (pa_cons (pe_fldK (K := K) rfl (G_least_answer.pe (hr.mono (by decide)) rfl T.m_least_answer (pa_cons (pv 0) (pa_cons (pv 1) pa_nil))) rfl) pa_nil))))), ?_⟩
  obtain ⟨h1, h2, h3, h4⟩ := hx
  have hmin : ∀ {ρ : Rho}, ρ[1]? = some (some (py x.g)) → EvD K ρ (tCB (rMinX K) (tCons (tVar 1) tNil)) (.int (minI x.g)) := fun h => by
    have hb := h1.1.1.1
    have hg := h1.2.1
    cases q : x.g with
    | nil => rw [q] at hg; simp at hg; omega
    | cons n r => rw [q] at h; exact ed_cb (ea_1 (ed_var h)) rc_minXT
  exact sd_ret (ed_call (ea_2 (ed_is (ed_t2 (hmin rfl) ed_int) (fr_int _).symm) (ed_value T (ed_call (ea_2 (ed_var rfl) (ed_var rfl)) (rf x h1)))) (rf (_, _) h4))
theorem sc_check_asked : FnScope ["book", "payoff"] ["book", "payoff"] (defScope s_check_asked) := ⟨rfl, rfl, rfl, by decide +kernel, rfl, by decide +kernel, by decide +kernel⟩
theorem ok_check_asked (T : Facts K mg) : Ok P w K mg base 9 (He.ga K "check_asked") ["book", "payoff"] (spP K (RChAsked K)) := by
  have G_check_book : Ok P w K mg base 1 _ _ _ := ok_check_book T
  have G_check_payoff : Ok P w K mg base 4 _ _ _ := ok_check_payoff T
  have G_check_sound : Ok P w K mg base 8 _ _ _ := ok_check_sound T
  have G_Book_outcomes : Ok P w K mg base 1 _ _ _ := ok_Book_outcomes T
  refine Ok.rfN T.F_check_asked sc_check_asked (fun fd F => F.bindsN fun _ _ _ _ _ _ us hl => match us, hl with | [_, _], _ => rfl) (fun _ => rfl) fun cdv A outer s H E hr x hx => ⟨_, (pss_cons (ps_expr (G_check_book.pe (hr.mono (by decide)) rfl T.m_check_book (pa_cons (pv 0) pa_nil)))
      (pss_cons (ps_expr (G_check_payoff.pe (hr.mono (by decide)) rfl T.m_check_payoff (pa_cons (pv 1) (pa_cons (G_Book_outcomes.peP (hr.mono (by decide)) T.c_Book T.p_outcomes (pv 0)) pa_nil))))
      (pss_one (ps_expr (G_check_sound.pe (hr.mono (by decide)) rfl T.m_check_sound (pa_cons (pv 0) pa_nil)))))), ?_⟩
  obtain ⟨x, g⟩ := x
  obtain ⟨h1, h2, h3⟩ := hx
  exact ⟨_, sd_seq (sd_drop (ed_call (ea_1 (ed_var rfl)) (rf x trivial))) (sd_seq (sd_drop (ed_call (ea_2 (ed_var rfl) (ed_prop (ed_var rfl) (rf x trivial))) (show RChPayoff [py g, D.int (x.1 : Nat)] .non from rf (g, x.1) ⟨h1, h2⟩))) (sd_seq (sd_drop (ed_call (ea_1 (ed_var rfl)) (rf x h3))) sd_next))⟩
end
end Top
end
section
set_option Elab.async false
set_option linter.all false
set_option maxRecDepth 100000
set_option maxHeartbeats 4000000
/-! F17: the mean corner, greatest worths, end chances. -/
namespace Top
open PySem PySem.Spec PyProof.Rows L2 StX RZ Pu PySem.W
def retV (s : Option Stmt) : Option Expr := match s with
  | some (.Return v _) => v
  | _ => none
def arg0 (e : Option Expr) : Option Expr := match e with
  | some (.Call _ (a :: _) _ _) => some a
  | _ => none
abbrev blkS_mean_corner : Scope := lcS (arg0 (retV (defBody s_mean_corner)[3]?))
theorem bd_divInt {a b : Int} {n : Nat} (h : 0 < b) (ha : a.natAbs < 2 ^ n) (hb : b.natAbs < 2 ^ n) : Bd n (Rat.divInt a b) := by
  have h1 := divInt_num (a := a) h
  have h2 := divInt_den (a := a) h
  have hg := gcd_pos (a := a) h
  constructor
  · rw [← h1]
    refine Nat.lt_of_le_of_lt ?_ ha
    have : (a / (Int.gcd a b : Nat)).natAbs ≤ a.natAbs := Int.natAbs_ediv_le_natAbs _ _
    exact this
  · have : (((Rat.divInt a b).den : Nat) : Int).natAbs ≤ b.natAbs := by rw [← h2]; exact Int.natAbs_ediv_le_natAbs _ _
    simp at this
    omega
section
variable {P : Program} {w : World} {K : PySem.W.Frag} {mg : Str → Option Value} {base : Heap} {ρ : Rho} {te : TE}
theorem sc_mean_corner : FnScope ["book", "some", "place", "corner"] ["book"] (defScope s_mean_corner) := ⟨rfl, rfl, rfl, by decide +kernel, rfl, by decide +kernel, by decide +kernel⟩
theorem ok_mean_corner (T : Facts K mg) : Ok P w K mg base 10 (He.ga K "mean_corner") ["book"] (spP K (RMean K)) := by
  have G_check_book : Ok P w K mg base 1 _ _ _ := ok_check_book T
  have G_check_listed : Ok P w K mg base 9 _ _ _ := ok_check_listed T
  have G_corners_of : Ok P w K mg base 6 _ _ _ := ok_corners_of T
  have G_over : Ok P w K mg base 3 _ _ _ := ok_over T
  have G_added : Ok P w K mg base 4 _ _ _ := ok_added T
  have G_Book_outcomes : Ok P w K mg base 1 _ _ _ := ok_Book_outcomes T
  refine Ok.rf T.F_mean_corner sc_mean_corner (fun fd F => F.bindsN fun _ _ _ _ _ _ us hl => match us, hl with | [_], _ => rfl) (fun _ => rfl) fun cdv A outer s H E hr x hx => ⟨_, (pss_cons (ps_expr (G_check_book.pe (hr.mono (by decide)) rfl T.m_check_book (pa_cons (pv 0) pa_nil)))
      (pss_cons (ps_expr (G_check_listed.pe (hr.mono (by decide)) rfl T.m_check_listed (pa_cons (pv 0) pa_nil)))
      (pss_cons (ps_set (i := 1) sc_mean_corner.nd rfl (by first | exact Or.inl rfl | exact Or.inr rfl) (G_corners_of.pe (hr.mono (by decide)) rfl T.m_corners_of (pa_cons (pv 0) pa_nil)))
      (pss_one (ps_ret (pe_callTy (call_tupK (K := K) rfl) rfl T.b_tuple (by decide +kernel) (pa_cons (pe_lc (own := [("place", 2)]) rfl sc_mean_corner.nd (pi_range1 rfl T.b_range (pa_cons (G_Book_outcomes.peP (hr.mono (by decide)) T.c_Book T.p_outcomes (pv 0)) pa_nil)) (blkOk_by (N := ["book", "some", "place", "corner"]) (sc := defScope s_mean_corner) (by decide +kernel)) (fun _ _ _ _ _ => (pg_name (i := 2) sc_mean_corner.nd rfl (by first | exact Or.inl rfl | exact Or.inr rfl))) (fun _ _ _ _ _ => pts_nil) (fun _ _ _ _ _ => (G_over.pe (hr.mono (by decide)) rfl T.m_over (pa_cons (G_added.pe (hr.mono (by decide)) rfl T.m_added (pa_cons (pe_lc (own := [("corner", 3)]) rfl sc_mean_corner.nd (pi_seqK (K := K) rfl (pv 1)) (blkOk_by (N := ["book", "some", "place", "corner"]) (sc := relS (blkS_mean_corner) (defScope s_mean_corner)) (by decide +kernel)) (fun _ _ _ _ _ => (pg_name (i := 3) sc_mean_corner.nd rfl (by first | exact Or.inl rfl | exact Or.inr rfl))) (fun _ _ _ _ _ => pts_nil) (fun _ _ _ _ _ => (pe_ix (ix_K (K := K) rfl) (pv 3) (pv 2) (fun _ _ => rfl)))) pa_nil)) (pa_cons (pe_tup (pa_cons (pe_callB (call_lenK (K := K) rfl) rfl T.b_len (by decide +kernel) (pa_cons (pv 1) pa_nil)) (pa_cons pe_int pa_nil))) pa_nil))))) pa_nil))))))), ?_⟩
  obtain ⟨⟨h1, h2⟩, h3, h4, h5, h6⟩ := hx
  have hn : x.1 ≤ 5 := h1.2
  have hlen : 0 < (cornersOf x).length := List.length_pos_iff.mpr h3
  refine sd_seq (sd_drop (ed_call (ea_1 (ed_var rfl)) (rf x trivial))) (sd_seq (sd_drop (ed_call (ea_1 (ed_var rfl)) (rf x h1))) (sd_seq (sd_set (ed_call (ea_1 (ed_var rfl)) (rf x h2))) (sd_seq_rt (sd_ret (ed_is (ed_cb (ea_1 (ed_lcT (xs := List.range' 0 x.1) (enc := fun i : Nat => D.int (i : Nat)) (f := fun p : Nat => fr (sumQ 0 (colQ (cornersOf x) p) / ((cornersOf x).length : Nat))) (id_range (ea_1 (ed_prop (ed_var rfl) (rf x trivial))) (by omega)) (by simp; omega) fun p hp => ⟨_, _, tg_name, by simp, ?_⟩)) rc_tupL) (by unfold rw_ meanOf; rw [List.map_map]; rfl))))))
  rw [List.mem_range'_1] at hp
  have hpp : p < x.1 := by omega
  obtain ⟨k1, k2⟩ := h6 p hpp
  have hpos : (0 : Rat) < (((cornersOf x).length : Nat) : Rat) := Rat.natCast_pos.mpr hlen
  have hov : ROver [fr (sumQ 0 (colQ (cornersOf x) p)), fr (((cornersOf x).length : Nat) : Rat)] (fr (sumQ 0 (colQ (cornersOf x) p) / ((cornersOf x).length : Nat))) := rf (sumQ 0 (colQ (cornersOf x) p), (((cornersOf x).length : Nat) : Rat)) ⟨k2, hpos⟩
  refine ed_call (ea_2 (ed_call (ea_1 (ed_is (ed_lcT (xs := cornersOf x) (enc := rw_) (f := fun c : List Rat => fr (c[p]?.getD 0)) (id_seqL (ed_var rfl)) (by omega) fun c hc => ⟨_, _, tg_name, by simp, ed_op (ed_var rfl) (ed_var rfl) (rv_ixT ?_)⟩) (show _ = D.lst ((colQ (cornersOf x) p).map fr) by unfold colQ; rw [List.map_map]; rfl))) (rf (colQ (cornersOf x) p) k1)) (ed_is (ed_t2 (ed_cb (ea_1 (ed_var rfl)) rc_lenL) ed_int) ?_)) hov
  · have h : p < c.length := by rw [h5 c hc]; exact hpp
    rw [List.getElem?_map, List.getElem?_eq_getElem h]; rfl
  · rw [List.length_map]
    have := fr_int (((cornersOf x).length : Nat) : Int)
    rw [← this]; rfl
theorem sc_greatest_by : FnScope ["book", "payoff", "top", "bottom"] ["book", "payoff"] (defScope s_greatest_by) := ⟨rfl, rfl, rfl, by decide +kernel, rfl, by decide +kernel, by decide +kernel⟩
theorem ok_greatest_by (T : Facts K mg) : Ok P w K mg base 7 (He.ga K "greatest_by") ["book", "payoff"] (spP K (RGreatBy K)) := by
  have G_least_by : Ok P w K mg base 6 _ _ _ := ok_least_by T
  have G_turned : Ok P w K mg base 1 _ _ _ := ok_turned T
  refine Ok.rf T.F_greatest_by sc_greatest_by (fun fd F => F.bindsN fun _ _ _ _ _ _ us hl => match us, hl with | [_, _], _ => rfl) (fun _ => rfl) fun cdv A outer s H E hr x hx => ⟨_, (pss_cons (ps_asg (G_least_by.pe (hr.mono (by decide)) rfl T.m_least_by (pa_cons (pv 0) (pa_cons (G_turned.pe (hr.mono (by decide)) rfl T.m_turned (pa_cons (pv 1) pa_nil)) pa_nil))) (pg_tupK (n := 2) (K := K) rfl rfl (pgs_cons (pg_name (i := 2) sc_greatest_by.nd rfl (by first | exact Or.inl rfl | exact Or.inr rfl)) (pgs_cons (pg_name (i := 3) sc_greatest_by.nd rfl (by first | exact Or.inl rfl | exact Or.inr rfl)) pgs_nil))))
      (pss_one (ps_ret (pe_tup (pa_cons (pe_un un_negX (pv 2)) (pa_cons (pv 3) pa_nil)))))), ?_⟩
  have hl : x.g.length ≤ 1000 := by
    have h1 := hx.1.2.1
    have h2 := hx.1.1.1
    simp [neg] at h1
    dsimp only at h1 h2
    omega
  refine sd_seq (sd_asg (ed_call (ea_2 (ed_var rfl) (ed_call (ea_1 (ed_var rfl)) (rf x.g hl))) (show RLeastBy K [bk K x.x, py (neg x.g)] (fr (leastOf ⟨x.x, neg x.g, x.e⟩)) from rf (SolArg.mk x.x (neg x.g) x.e) hx)) (tg_tup (tgs_cons tg_name (tgs_cons tg_name tgs_nil)) rfl)) (sd_seq_rt (sd_ret (ed_is (ed_t2 (ed_un (ed_var rfl) ru_neg) (ed_var rfl)) ?_)))
  unfold fr
  rw [Rat.neg_num, Rat.neg_den]
theorem sc_least_worth : FnScope ["book", "payoff"] ["book", "payoff"] (defScope s_least_worth) := ⟨rfl, rfl, rfl, by decide +kernel, rfl, by decide +kernel, by decide +kernel⟩
theorem ok_least_worth (T : Facts K mg) : Ok P w K mg base 10 (He.ga K "least_worth") ["book", "payoff"] (spP K (RLeastBy K)) := by
  have G_least_by : Ok P w K mg base 6 _ _ _ := ok_least_by T
  have G_check_asked : Ok P w K mg base 9 _ _ _ := ok_check_asked T
  refine Ok.rf T.F_least_worth sc_least_worth (fun fd F => F.bindsN fun _ _ _ _ _ _ us hl => match us, hl with | [_, _], _ => rfl) (fun _ => rfl) fun cdv A outer s H E hr x hx => ⟨_, (pss_cons (ps_expr (G_check_asked.pe (hr.mono (by decide)) rfl T.m_check_asked (pa_cons (pv 0) (pa_cons (pv 1) pa_nil))))
      (pss_one (ps_ret (G_least_by.pe (hr.mono (by decide)) rfl T.m_least_by (pa_cons (pv 0) (pa_cons (pv 1) pa_nil)))))), ?_⟩
  exact sd_seq (sd_drop (ed_call (ea_2 (ed_var rfl) (ed_var rfl)) (show RChAsked K [bk K x.x, py x.g] .non from rf (x.x, x.g) ⟨hx.2.1, hx.1.1.1.2, hx.2.2.1⟩))) (sd_seq_rt (sd_ret (ed_call (ea_2 (ed_var rfl) (ed_var rfl)) (rf x hx))))
theorem sc_greatest_worth : FnScope ["book", "payoff"] ["book", "payoff"] (defScope s_greatest_worth) := ⟨rfl, rfl, rfl, by decide +kernel, rfl, by decide +kernel, by decide +kernel⟩
theorem ok_greatest_worth (T : Facts K mg) : Ok P w K mg base 10 (He.ga K "greatest_worth") ["book", "payoff"] (spP K (RGreatW K)) := by
  have G_greatest_by : Ok P w K mg base 7 _ _ _ := ok_greatest_by T
  have G_check_asked : Ok P w K mg base 9 _ _ _ := ok_check_asked T
  refine Ok.rf T.F_greatest_worth sc_greatest_worth (fun fd F => F.bindsN fun _ _ _ _ _ _ us hl => match us, hl with | [_, _], _ => rfl) (fun _ => rfl) fun cdv A outer s H E hr x hx => ⟨_, (pss_cons (ps_expr (G_check_asked.pe (hr.mono (by decide)) rfl T.m_check_asked (pa_cons (pv 0) (pa_cons (pv 1) pa_nil))))
      (pss_one (ps_ret (G_greatest_by.pe (hr.mono (by decide)) rfl T.m_greatest_by (pa_cons (pv 0) (pa_cons (pv 1) pa_nil)))))), ?_⟩
  exact sd_seq (sd_drop (ed_call (ea_2 (ed_var rfl) (ed_var rfl)) (show RChAsked K [bk K x.x, py x.g] .non from rf (x.x, x.g) ⟨hx.1, hx.2.1.1.1.2, hx.2.2.2.1⟩))) (sd_seq_rt (sd_ret (ed_call (ea_2 (ed_var rfl) (ed_var rfl)) (rf x hx.2))))
theorem sc_chance_in : FnScope ["answer", "total", "top", "bottom"] ["answer"] (defScope s_chance_in) := ⟨rfl, rfl, rfl, by decide +kernel, rfl, by decide +kernel, by decide +kernel⟩
theorem ok_chance_in (T : Facts K mg) : Ok P w K mg base 5 (He.ga K "chance_in") ["answer"] (spP K (RChIn K)) := by
  have G_added : Ok P w K mg base 4 _ _ _ := ok_added T
  have G_lowest : Ok P w K mg base 2 _ _ _ := ok_lowest T
  refine Ok.rf T.F_chance_in sc_chance_in (fun fd F => F.bindsN fun _ _ _ _ _ _ us hl => match us, hl with | [_], _ => rfl) (fun _ => rfl) fun cdv A outer s H E hr x hx => ⟨_, (pss_cons (ps_set (i := 1) sc_chance_in.nd rfl (by first | exact Or.inl rfl | exact Or.inr rfl) (G_added.pe (hr.mono (by decide)) rfl T.m_added (pa_cons (pe_fldK (K := K) rfl (pv 0) rfl) pa_nil)))
      (pss_one (ps_ret (pe_callTy (call_tupK (K := K) rfl) rfl T.b_tuple (by decide +kernel) (pa_cons (pe_lc (own := [("top", 2), ("bottom", 3)]) rfl sc_chance_in.nd (pi_seqK (K := K) rfl (pe_fldK (K := K) rfl (pv 0) rfl)) (blkOk_by (N := ["answer", "total", "top", "bottom"]) (sc := defScope s_chance_in) (by decide +kernel)) (fun _ _ _ _ _ => (pg_tupK (n := 2) (K := K) rfl rfl (pgs_cons (pg_name (i := 2) sc_chance_in.nd rfl (by first | exact Or.inl rfl | exact Or.inr rfl)) (pgs_cons (pg_name (i := 3) sc_chance_in.nd rfl (by first | exact Or.inl rfl | exact Or.inr rfl)) pgs_nil)))) (fun _ _ _ _ _ => pts_nil) (fun _ _ _ _ _ => (G_lowest.pe (hr.mono (by decide)) rfl T.m_lowest (pa_cons (pe_op (op_mulK (K := K) rfl) (pv 2) (pe_ix (ix_K (K := K) rfl) (pv 1) pe_int (fun _ _ => rfl))) (pa_cons (pe_op (op_mulK (K := K) rfl) (pv 3) (pe_ix (ix_K (K := K) rfl) (pv 1) pe_int (fun _ _ => rfl))) pa_nil))))) pa_nil))))), ?_⟩
  obtain ⟨h0, h1, h2, n, ⟨h3, h4⟩, h5⟩ := hx
  have hm : x.mults.length ≤ 100 := by unfold Tab.mults; simp; exact h0.sz.1
  refine sd_seq (sd_set (ed_call (ea_1 (ed_mults T (ed_var rfl))) (rf x.mults h1))) (sd_seq_rt (sd_ret (ed_is (ed_cb (ea_1 (ed_lcT (xs := x.mults) (enc := fr) (f := fun q : Rat => fr (q / sumQ 0 x.mults)) (id_seqL (ed_mults T (ed_var rfl))) (by omega) fun q hq => ⟨_, _, tg_tup (tgs_cons tg_name (tgs_cons tg_name tgs_nil)) rfl, by simp, ?_⟩)) rc_tupL) (by unfold rw_ chanceIn; rw [List.map_map]; rfl))))
  have hq2 : Bd 2000 q := by
    unfold Tab.mults at hq
    obtain ⟨k, hk, rfl⟩ := List.mem_map.mp hq
    rw [List.mem_range'_1] at hk
    exact bd_divInt h0.pos (cell_bits h0 (Nat.le_refl _) (by omega)) h0.ub
  have hn : 0 < (sumQ 0 x.mults).num := by have := (lt_fr 0 (sumQ 0 x.mults)).mp h2; simpa using this
  have hpos : 0 < (q.den : Nat) * (sumQ 0 x.mults).num := Int.mul_pos (den_pos q) hn
  have e : Rat.divInt (q.num * ((sumQ 0 x.mults).den : Nat)) ((q.den : Nat) * (sumQ 0 x.mults).num) = q / sumQ 0 x.mults := by
    rw [Rat.div_def, Rat.inv_def, ← Rat.divInt_mul_divInt, Rat.num_divInt_den]
  rw [← e]
  exact ed_call (ea_2 (ed_op (ed_var rfl) (fr_1 (ed_var rfl)) (rv_mul (bd_mulw (n := 2000) (m := n) hq2.1 (by simpa using h4) (by omega)))) (ed_op (ed_var rfl) (fr_0 (ed_var rfl)) (rv_mul (bd_mulw (n := 2000) (m := n) (by simpa using hq2.2) h3 (by omega))))) (rf (_, _) ⟨hpos, gcd_small hpos (mul_bits (n := 2000) (m := n) (by simpa using hq2.2) h3) (by omega)⟩)
theorem sc_end_chance : FnScope ["book", "payoff"] ["book", "payoff"] (defScope s_end_chance) := ⟨rfl, rfl, rfl, by decide +kernel, rfl, by decide +kernel, by decide +kernel⟩
theorem ok_end_chance (T : Facts K mg) : Ok P w K mg base 10 (He.ga K "end_chance") ["book", "payoff"] (spP K (REndCh K)) := by
  have G_check_asked : Ok P w K mg base 9 _ _ _ := ok_check_asked T
  have G_chance_in : Ok P w K mg base 5 _ _ _ := ok_chance_in T
  have G_least_answer : Ok P w K mg base 5 _ _ _ := ok_least_answer T
  refine Ok.rf T.F_end_chance sc_end_chance (fun fd F => F.bindsN fun _ _ _ _ _ _ us hl => match us, hl with | [_, _], _ => rfl) (fun _ => rfl) fun cdv A outer s H E hr x hx => ⟨_, (pss_cons (ps_expr (G_check_asked.pe (hr.mono (by decide)) rfl T.m_check_asked (pa_cons (pv 0) (pa_cons (pv 1) pa_nil))))
      (pss_one (ps_ret (G_chance_in.pe (hr.mono (by decide)) rfl T.m_chance_in (pa_cons (G_least_answer.pe (hr.mono (by decide)) rfl T.m_least_answer (pa_cons (pv 0) (pa_cons (pv 1) pa_nil))) pa_nil))))), ?_⟩
  obtain ⟨h1, h2⟩ := hx
  exact sd_seq (sd_drop (ed_call (ea_2 (ed_var rfl) (ed_var rfl)) (show RChAsked K [bk K x.x, py x.g] .non from rf (x.x, x.g) ⟨h1.2.1, h1.1.1.1.2, h1.2.2.1⟩))) (sd_seq_rt (sd_ret (ed_call (ea_1 (ed_call (ea_2 (ed_var rfl) (ed_var rfl)) (rf x h1.1))) (rf x.e h2))))
end
end Top
end
section
set_option Elab.async false
set_option linter.all false
set_option maxRecDepth 100000
set_option maxHeartbeats 4000000
/-! F18: the ends of a payoff beside the told corners. -/
namespace Top
open PySem PySem.Spec PyProof.Rows L2 StX RZ Pu PySem.W
abbrev RPayRight (K : PySem.W.Frag) := RF (fun s : PrArg => [bk K s.x, .tup ((s.r0 :: s.rs).map rw_), rw_ s.mid, py s.g]) PrOk fun _ => .bl true
theorem eqvAll_rws : ∀ a b : List (List Rat), PyData.eqvAll (toPs (a.map rw_)) (toPs (b.map rw_)) = decide (a = b)
  | [], [] => rfl
  | [], _ :: _ => by simp [toPs, PyData.eqvAll]
  | _ :: _, [] => by simp [toPs, PyData.eqvAll]
  | p :: a, q :: b => by
    rw [List.map_cons, List.map_cons]
    simp only [toPs, PyData.eqvAll, eqv_rw, eqvAll_rws a b]
    by_cases h1 : p = q <;> by_cases h2 : a = b <;> simp [h1, h2]
theorem rwsT_shaped (r : List (List Rat)) : SeqAt.shaped (toP (.tup (r.map rw_))) = true := by
  obtain ⟨h1, h2⟩ := lay_rws r
  unfold SeqAt.shaped
  simp only [toP, PyData.canLay0, PyData.depth, h1, Bool.true_and, decide_eq_true_eq]
  omega
theorem rv_eqRows {K : PySem.W.Frag} {a b : List (List Rat)} : RvD K (rEqD K) (.tup (a.map rw_)) (.tup (b.map rw_)) (.bl (decide (a = b))) := by
  have z := rv_eqD (K := K) (a := .tup (a.map rw_)) (b := .tup (b.map rw_)) (by simp only [plainD]; exact plain_rws a) (by simp only [plainD]; exact plain_rws b) (rwsT_shaped a) (rwsT_shaped b)
  have e : PyData.eqv (toP (.tup (a.map rw_))) (toP (.tup (b.map rw_))) = decide (a = b) := by simp only [toP, PyData.eqv]; exact eqvAll_rws a b
  rw [e] at z; exact z
theorem frsL_shaped (r : List Rat) : SeqAt.shaped (toP (.lst (r.map fr))) = true := by
  obtain ⟨h1, h2⟩ := lay_frs r
  unfold SeqAt.shaped
  simp only [toP, PyData.canLay0, PyData.depth, h1, Bool.true_and, decide_eq_true_eq]
  omega
theorem rv_neL2 {K : PySem.W.Frag} {a b c d : Rat} : RvD K (rNeD K) (.lst [fr a, fr b]) (.lst [fr c, fr d]) (.bl (!decide ([a, b] = [c, d]))) := by
  have z := rv_neD (K := K) (a := .lst ([a, b].map fr)) (b := .lst ([c, d].map fr)) (by simp only [plainD]; exact plain_frs _) (by simp only [plainD]; exact plain_frs _) (frsL_shaped [a, b]) (frsL_shaped [c, d])
  have e : PyData.eqv (toP (.lst ([a, b].map fr))) (toP (.lst ([c, d].map fr))) = decide ([a, b] = [c, d]) := by simp only [toP, PyData.eqv]; exact eqvAll_frs [a, b] [c, d]
  rw [e] at z; exact z
section
variable {P : Program} {w : World} {K : PySem.W.Frag} {mg : Str → Option Value} {base : Heap} {ρ : Rho} {te : TE}
theorem sc__law_payoff_right : FnScope ["_law_mine", "_law_told", "_law_middle", "_law_gains", "_law_worths_here", "_law_low_here", "_law_high", "_law_here", "_law_face", "_law_row", "_law_x"] ["_law_mine", "_law_told", "_law_middle", "_law_gains"] (defScope s__law_payoff_right) := ⟨rfl, rfl, rfl, by decide +kernel, rfl, by decide +kernel, by decide +kernel⟩
theorem ok__law_payoff_right (T : Facts K mg) : Ok P w K mg base 11 (He.ga K "_law_payoff_right") ["_law_mine", "_law_told", "_law_middle", "_law_gains"] (spP K (RPayRight K)) := by
  have G__law_worth : Ok P w K mg base 4 _ _ _ := ok__law_worth T
  have G__law_least : Ok P w K mg base 2 _ _ _ := ok__law_least T
  have G__law_minus : Ok P w K mg base 1 _ _ _ := ok__law_minus T
  have G__law_less : Ok P w K mg base 1 _ _ _ := ok__law_less T
  have G_least_worth : Ok P w K mg base 10 _ _ _ := ok_least_worth T
  have G_greatest_worth : Ok P w K mg base 10 _ _ _ := ok_greatest_worth T
  have G_end_chance : Ok P w K mg base 10 _ _ _ := ok_end_chance T
  have G_Book_with_quote : Ok P w K mg base 9 _ _ _ := ok_Book_with_quote T
  have G_corners : Ok P w K mg base 10 _ _ _ := ok_corners T
  refine Ok.rf T.F__law_payoff_right sc__law_payoff_right (fun fd F => F.bindsN fun _ _ _ _ _ _ us hl => match us, hl with | [_, _, _, _], _ => rfl) (fun _ => rfl) fun cdv A outer s H E hr x hx => ⟨_, (pss_cons (ps_setLc (i := 4) (own := [("_law_row", 9)]) rfl sc__law_payoff_right.nd rfl rfl (sw_true rfl rfl rfl (by decide +kernel)) (pi_seqK (K := K) rfl (pv 1)) (blkOk_by (N := ["_law_mine", "_law_told", "_law_middle", "_law_gains", "_law_worths_here", "_law_low_here", "_law_high", "_law_here", "_law_face", "_law_row", "_law_x"]) (sc := defScope s__law_payoff_right) (by decide +kernel)) (fun _ _ _ _ _ => (pg_name (i := 9) sc__law_payoff_right.nd rfl (by first | exact Or.inl rfl | exact Or.inr rfl))) (fun _ _ _ _ _ => pts_nil) (fun _ _ _ _ _ => (G__law_worth.pe (hr.mono (by decide)) rfl T.m__law_worth (pa_cons (pv 3) (pa_cons (pv 9) pa_nil)))))
      (pss_cons (ps_asg (pe_tup (pa_cons (G__law_least.pe (hr.mono (by decide)) rfl T.m__law_least (pa_cons (pv 4) pa_nil)) (pa_cons (G__law_minus.pe (hr.mono (by decide)) rfl T.m__law_minus (pa_cons (G__law_least.pe (hr.mono (by decide)) rfl T.m__law_least (pa_cons (pe_lc (own := [("_law_x", 10)]) rfl sc__law_payoff_right.nd (pi_seqK (K := K) rfl (pv 4)) (blkOk_by (N := ["_law_mine", "_law_told", "_law_middle", "_law_gains", "_law_worths_here", "_law_low_here", "_law_high", "_law_here", "_law_face", "_law_row", "_law_x"]) (sc := defScope s__law_payoff_right) (by decide +kernel)) (fun _ _ _ _ _ => (pg_name (i := 10) sc__law_payoff_right.nd rfl (by first | exact Or.inl rfl | exact Or.inr rfl))) (fun _ _ _ _ _ => pts_nil) (fun _ _ _ _ _ => (G__law_minus.pe (hr.mono (by decide)) rfl T.m__law_minus (pa_cons (pv 10) pa_nil)))) pa_nil)) pa_nil)) pa_nil))) (pg_tupK (n := 2) (K := K) rfl rfl (pgs_cons (pg_name (i := 5) sc__law_payoff_right.nd rfl (by first | exact Or.inl rfl | exact Or.inr rfl)) (pgs_cons (pg_name (i := 6) sc__law_payoff_right.nd rfl (by first | exact Or.inl rfl | exact Or.inr rfl)) pgs_nil))))
      (pss_cons (ps_if (pt_cmpR (op_neK (K := K) rfl hr.units) (pe_lst (pa_cons (G_least_worth.pe (hr.mono (by decide)) rfl T.m_least_worth (pa_cons (pv 0) (pa_cons (pv 3) pa_nil))) (pa_cons (G_greatest_worth.pe (hr.mono (by decide)) rfl T.m_greatest_worth (pa_cons (pv 0) (pa_cons (pv 3) pa_nil))) pa_nil))) (pe_lst (pa_cons (pv 5) (pa_cons (pv 6) pa_nil))) (nomark _)) (pss_one (ps_ret pe_bl)) pss_nil)
      (pss_cons (ps_set (i := 7) sc__law_payoff_right.nd rfl (by first | exact Or.inl rfl | exact Or.inr rfl) (G_end_chance.pe (hr.mono (by decide)) rfl T.m_end_chance (pa_cons (pv 0) (pa_cons (pv 3) pa_nil))))
      (pss_cons (ps_if (PW.pt (pw_or (pt_cmpR (op_neK (K := K) rfl hr.units) (G__law_worth.pe (hr.mono (by decide)) rfl T.m__law_worth (pa_cons (pv 3) (pa_cons (pv 7) pa_nil))) (pv 5) (nomark _)) (pw_or1 (pt_val (G__law_less.pe (hr.mono (by decide)) rfl T.m__law_less (pa_cons (G__law_worth.pe (hr.mono (by decide)) rfl T.m__law_worth (pa_cons (pv 3) (pa_cons (pv 2) pa_nil))) (pa_cons (pv 5) pa_nil))))))) (pss_one (ps_ret pe_bl)) pss_nil)
      (pss_cons (ps_if (pt_val (G__law_less.pe (hr.mono (by decide)) rfl T.m__law_less (pa_cons (pv 6) (pa_cons (G__law_worth.pe (hr.mono (by decide)) rfl T.m__law_worth (pa_cons (pv 3) (pa_cons (pv 2) pa_nil))) pa_nil)))) (pss_one (ps_ret pe_bl)) pss_nil)
      (pss_cons (ps_if (pt_cmpR op_gtX (pe_ix (ix_K (K := K) rfl) (pv 5) pe_int (fun _ _ => rfl)) pe_int (nomark _)) (pss_one (ps_ret pe_bl)) pss_nil)
      (pss_cons (ps_set (i := 8) sc__law_payoff_right.nd rfl (by first | exact Or.inl rfl | exact Or.inr rfl) (G_Book_with_quote.peO (hr.mono (by decide)) T.c_Book T.h_Book_with_quote (pv 0) (pa_cons (pe_callTy (call_tupK (K := K) rfl) rfl T.b_tuple (by decide +kernel) (pa_cons (pe_lc (own := [("_law_x", 10)]) rfl sc__law_payoff_right.nd (pi_seqK (K := K) rfl (pv 3)) (blkOk_by (N := ["_law_mine", "_law_told", "_law_middle", "_law_gains", "_law_worths_here", "_law_low_here", "_law_high", "_law_here", "_law_face", "_law_row", "_law_x"]) (sc := defScope s__law_payoff_right) (by decide +kernel)) (fun _ _ _ _ _ => (pg_name (i := 10) sc__law_payoff_right.nd rfl (by first | exact Or.inl rfl | exact Or.inr rfl))) (fun _ _ _ _ _ => pts_nil) (fun _ _ _ _ _ => (pe_op op_subX pe_int (pv 10)))) pa_nil)) (pa_cons (G__law_minus.pe (hr.mono (by decide)) rfl T.m__law_minus (pa_cons (pv 5) pa_nil)) pa_nil))))
      (pss_one (ps_ret (pe_cmpR (op_eqK (K := K) rfl hr.units) (G_corners.pe (hr.mono (by decide)) rfl T.m_corners (pa_cons (pv 8) pa_nil)) (pe_callTy (call_tupK (K := K) rfl) rfl T.b_tuple (by decide +kernel) (pa_cons (pe_lc (own := [("_law_row", 9)]) rfl sc__law_payoff_right.nd (pi_seqK (K := K) rfl (pv 1)) (blkOk_by (N := ["_law_mine", "_law_told", "_law_middle", "_law_gains", "_law_worths_here", "_law_low_here", "_law_high", "_law_here", "_law_face", "_law_row", "_law_x"]) (sc := defScope s__law_payoff_right) (by decide +kernel)) (fun _ _ _ _ _ => (pg_name (i := 9) sc__law_payoff_right.nd rfl (by first | exact Or.inl rfl | exact Or.inr rfl))) (fun _ _ _ _ _ => (pts_one (pt_cmpR (op_eqK (K := K) rfl hr.units) (G__law_worth.pe (hr.mono (by decide)) rfl T.m__law_worth (pa_cons (pv 3) (pa_cons (pv 9) pa_nil))) (pv 5) (nomark _)))) (fun _ _ _ _ _ => (pv 9))) pa_nil)) (nomark _)))))))))))), ?_⟩
  obtain ⟨b, r0, rs, mid, g, e, e'⟩ := x
  obtain ⟨hlen, htold, hg, hw, h2, h2n, hask, haskN, hlow, hhigh, hch, hwc, hwce, hwm, hm1, hm1', hm2, hm2', hface⟩ := hx
  dsimp only at hlen htold hg hw h2 h2n hask haskN hlow hhigh hch hwc hwce hwm hm1 hm1' hm2 hm2' hface
  have wv : ∀ {ρ : Rho} {i j : Nat} {E : XK} (r : List Rat), WorthOk (g, r) → ρ[i]? = some (some (py g)) → ρ[j]? = some (some (rw_ r)) → EvD K ρ (tCall (spP K RWorth) [] E (tCons (tVar i) (tCons (tVar j) tNil))) (fr (wor g r)) := fun r hr h1 h2 => ed_call (ea_2 (ed_var h1) (ed_var h2)) (rf (g, r) hr)
  have hlow' := hlow
  have hhigh' := hhigh
  generalize hL : lowQ g r0 rs = low at *
  generalize hH : highQ g r0 rs = high at *
  refine sd_seq (sd_set (ed_is (ed_lcT (xs := r0 :: rs) (enc := rw_) (f := fun r : List Rat => fr (wor g r)) (id_seqT (ed_var rfl)) (by simp only [List.length_cons] at hlen ⊢; omega) fun r hr => ⟨_, _, tg_name, by simp, wv r (hw r hr) rfl rfl⟩) (show _ = D.lst ((wor g r0 :: rs.map (wor g)).map fr) by rw [← List.map_cons (f := wor g), List.map_map]; rfl))) ?_
  refine sd_seq (sd_asg (ed_t2 (ed_call (ea_1 (ed_var rfl)) (show RLeast _ (fr low) from by rw [← hL]; exact rf (wor g r0, rs.map (wor g)) h2)) (ed_call (ea_1 (ed_call (ea_1 (ed_is (ed_lcT (xs := wor g r0 :: rs.map (wor g)) (enc := fr) (f := fun q : Rat => fr (-q)) (id_seqL (ed_var rfl)) (by simp only [List.length_cons, List.length_map] at hlen ⊢; omega) fun q hq => ⟨_, _, tg_name, by simp, ed_call (ea_1 (ed_var rfl)) (rf q trivial)⟩) (show _ = D.lst ((-(wor g r0) :: rs.map (fun r => -(wor g r))).map fr) by rw [List.map_cons, List.map_cons, List.map_map, List.map_map]; rfl))) (rf (-(wor g r0), rs.map fun r => -(wor g r)) h2n))) (show RMinus _ (fr high) from by rw [← hH]; exact rf _ trivial))) (tg_tup (tgs_cons tg_name (tgs_cons tg_name tgs_nil)) rfl)) ?_
  refine sd_seq (sd_if (j := false) (et_is (et_test (ed_op (ed_l2 (ed_call (ea_2 (ed_var rfl) (ed_var rfl)) (show RLeastBy K [bk K b, py g] (fr low) from by rw [← hlow]; exact rf (SolArg.mk b g e) hask)) (ed_call (ea_2 (ed_var rfl) (ed_var rfl)) (show RGreatW K [bk K b, py g] (fr high) from by rw [← hhigh]; exact rf (SolArg.mk b g e') haskN))) (ed_l2 (ed_var rfl) (ed_var rfl)) rv_neL2)) (by simp)) (fun h => by cases h) fun _ => sd_next) ?_
  refine sd_seq (sd_set (ed_call (ea_2 (ed_var rfl) (ed_var rfl)) (show REndCh K [bk K b, py g] (rw_ (chanceIn e)) from rf (SolArg.mk b g e) ⟨hask, hch⟩))) ?_
  refine sd_seq (sd_if (j := false) (et_is (et_or (et_test (ed_op (wv (chanceIn e) hwc rfl rfl) (ed_var rfl) rv_neF)) fun _ => et_B (ed_call (ea_2 (wv mid hwm rfl rfl) (ed_var rfl)) (rf (wor g mid, low) hm1))) ?_) (fun h => by cases h) fun _ => sd_next) ?_
  · rw [hwce]; simp [hm1']
  refine sd_seq (sd_if (j := false) (et_is (et_B (ed_call (ea_2 (ed_var rfl) (wv mid hwm rfl rfl)) (rf (high, wor g mid) hm2))) ?_) (fun h => by cases h) fun _ => sd_next) ?_
  · simp [hm2']
  by_cases hd : low.den ≤ 1000
  · obtain ⟨f1, f2, f3⟩ := hface hd
    refine sd_seq (sd_if (j := false) (et_is (et_test (ed_op (fr_1 (ed_var rfl)) ed_int rv_gt)) ?_) (fun h => by cases h) fun _ => sd_next) ?_
    · exact decide_eq_false (by omega)
    refine sd_seq (sd_set (ed_meth (ed_var rfl) (by decide) (ea_2 (ed_cb (ea_1 (ed_is (ed_lcT (xs := g) (enc := D.int) (f := fun i : Int => D.int (0 - i)) (id_seqT (ed_var rfl)) (by omega) fun i hi => ⟨_, _, tg_name, by simp, ed_op ed_int (ed_var rfl) rv_sub⟩) (show _ = D.lst ((neg g).map D.int) by unfold neg; rw [List.map_map]; exact congrArg D.lst (List.map_congr_left fun i _ => by rw [Int.zero_sub]; rfl)))) rc_tupL) (ed_call (ea_1 (ed_var rfl)) (rf low trivial))) (show RWithQ K [bk K b, py (neg g), fr (-low)] (bk K (b.1, b.2 ++ [(neg g, -low)])) from rf (b, (neg g, -low)) f1))) ?_
    refine sd_seq_rt (sd_ret (ed_is (ed_op (ed_call (ea_1 (ed_var rfl)) (rf (b.1, b.2 ++ [(neg g, -low)]) f2)) (ed_cb (ea_1 (ed_is (ed_lcTF (xs := r0 :: rs) (enc := rw_) (f := rw_) (p := fun r : List Rat => decide (wor g r = low)) (id_seqT (ed_var rfl)) (by simp only [List.length_cons] at hlen ⊢; omega) fun r hr => ⟨_, _, tg_name, by simp, et_test (ed_op (wv r (hw r hr) rfl rfl) (ed_var rfl) rv_eqF), fun _ => ed_var rfl⟩) rfl)) rc_tupL) rv_eqRows) ?_))
    rw [f3, decide_eq_true rfl]
  · refine sd_seq_rt (sd_if (j := true) (et_is (et_test (ed_op (fr_1 (ed_var rfl)) ed_int rv_gt)) ?_) (fun _ => sd_seq_rt (sd_ret ed_bl)) fun h => by cases h)
    exact decide_eq_true (by omega)
end
end Top
end
section
set_option Elab.async false
set_option linter.all false
set_option maxRecDepth 100000
set_option maxHeartbeats 4000000
/-! F19: the jar; what is drawn from it. -/
namespace Top
open PySem PySem.Spec PyProof.Rows L2 StX RZ Pu PySem.W
abbrev RJar := RN (fun x : List Int × Nat => [.sql x.1, .int (x.2 : Nat)]) (fun x => x.2 ≤ 1000) fun _ l => ∃ a m c : Int, l = [D.int a, .int m, .int c] ∧ m.natAbs < 2 ^ 64 ∧ c = 0
/-- an int below top -/
def Dip (top : Int) (d : D) : Prop := ∃ i : Int, d = .int i ∧ 0 ≤ i ∧ i < top
abbrev RDip := RJ (fun top : Int => [D.int top]) (fun top => 0 < top ∧ top < 1073741824) Dip
abbrev ROne := RJ (fun l : List Int => [D.lst (l.map D.int)]) (fun l => l ≠ [] ∧ l.length ≤ 1000) fun l d => ∃ i ∈ l, d = .int i
/-- a payoff -/
def Pay (n : Nat) (top : Int) (d : D) : Prop := ∃ g : List Int, d = py g ∧ g.length = n ∧ ∀ i ∈ g, -top ≤ i ∧ i ≤ top
abbrev RPayoff := RJ (fun x : Nat × Int => [D.int (x.1 : Nat), D.int x.2]) (fun x => x.1 ≤ 6 ∧ 0 < x.2 ∧ x.2 ≤ 1000) fun x => Pay x.1 x.2
section
variable {P : Program} {w : World} {K : PySem.W.Frag} {mg : Str → Option Value} {base : Heap}
theorem sc__law_jar : FnScope ["_law_cells", "_law_turn", "_law_cell", "_law_mixed", "_law_each"] ["_law_cells", "_law_turn"] (defScope s__law_jar) := ⟨rfl, rfl, rfl, by decide +kernel, rfl, by decide +kernel, by decide +kernel⟩
theorem ok__law_jar (T : Facts K mg) : Ok P w K mg base 1 (He.ga K "_law_jar") ["_law_cells", "_law_turn"] (spN K RJar) := by
  refine Ok.rfX T.F__law_jar sc__law_jar (fun fd F => F.bindsN fun _ _ _ _ _ _ us hl => match us, hl with | [_, _], _ => rfl) (fun _ => rfl) fun cdv A outer s H E hr x hx => ⟨_, (pss_cons (ps_set (i := 2) sc__law_jar.nd rfl (by first | exact Or.inl rfl | exact Or.inr rfl) (pe_ifExp (pt_cmpR op_ltX (pv 1) (pe_callB (call_lenK (K := K) rfl) rfl T.b_len (by decide +kernel) (pa_cons (pv 0) pa_nil)) (nomark _)) (pe_ix (ix_K (K := K) rfl) (pv 0) (pv 1) (fun _ _ => rfl)) (pe_op op_addX (pe_op (op_mulK (K := K) rfl) pe_int (pv 1)) pe_int)))
      (pss_cons (ps_set (i := 3) sc__law_jar.nd rfl (by first | exact Or.inl rfl | exact Or.inr rfl) (pe_op op_addX pe_int (pe_op (op_mulK (K := K) rfl) pe_int (pv 1))))
      (pss_cons (ps_for PassesOwn.never rfl (pi_seqK (K := K) rfl (pe_op op_addX (pe_slice (sl_K (K := K) rfl) (pv 0) po_none (po_some pe_int)) (pe_lst (pa_cons (pv 2) pa_nil)))) (pg_name (i := 4) sc__law_jar.nd rfl (by first | exact Or.inl rfl | exact Or.inr rfl)) (pss_one (ps_set (i := 3) sc__law_jar.nd rfl (by first | exact Or.inl rfl | exact Or.inr rfl) (pe_op op_modX (pe_callTy call_intX rfl T.b_int (by decide +kernel) (pa_cons (pe_op op_addX (pe_op (op_mulK (K := K) rfl) (pv 3) pe_int) (pv 4)) pa_nil)) pe_int))))
      (pss_one (ps_ret (pe_lst (pa_cons (pe_ifExp (PW.pt (pw_or (pt_cmpR op_ltX (pv 2) pe_int (nomark _)) (pw_or1 (pt_cmpR op_geX (pv 2) (pe_op op_powX pe_int pe_int) (nomark _))))) (pe_callB call_absX rfl T.b_abs (by decide +kernel) (pa_cons (pv 2) pa_nil)) pe_int) (pa_cons (pv 3) (pa_cons pe_int pa_nil))))))))), ?_⟩
  obtain ⟨ns, t⟩ := x
  have ht : t ≤ 1000 := hx
  have tb : ((t : Nat) : Int).natAbs < 2 ^ 10 := by simp; omega
  refine srn_sd (sd_set (d := .int (if h : t < ns.length then ns[t] else 53 * (t : Nat) + 4)) (ed_if (j := decide (t < ns.length)) (et_is (et_test (ed_op (ed_var rfl) (ed_cb (ea_1 (ed_var rfl)) rc_lenS) rv_lt)) (decide_eq_decide.mpr (by dsimp only; omega))) (fun h => ?_) fun h => ?_)) ?_
  · have h := of_decide_eq_true h
    rw [dif_pos h]
    exact ed_op (ed_var rfl) (ed_var rfl) (rv_sql (by omega) (by simp [h]))
  · rw [dif_neg (of_decide_eq_false h)]
    exact ed_op (ed_op ed_int (ed_var rfl) (rv_mul (bd_mulw (n := 10) (m := 10) (by decide) tb (by decide)))) ed_int rv_add
  generalize (if h : t < ns.length then ns[t] else 53 * (t : Nat) + 4) = cell
  refine srn_sd (sd_set (ed_op ed_int (ed_op ed_int (ed_var rfl) (rv_mul (bd_mulw (n := 20) (m := 10) (by decide) tb (by decide)))) rv_add)) ?_
  have hm0 : (40009 + 9011 * ((t : Nat) : Int)).natAbs < 2 ^ 60 := by omega
  generalize (40009 + 9011 * ((t : Nat) : Int)) = m0 at hm0
  have key : ∀ (xs : List Int) (m : Int), m.natAbs < 2 ^ 60 → (xs.foldl (fun m e => (m * 20021 + e) % 2147482951) m).natAbs < 2 ^ 60 := fun xs => by
    induction xs with
    | nil => intro m h; exact h
    | cons x xs ih =>
      intro m h
      refine ih _ ?_
      have := Int.emod_nonneg (m * 20021 + x) (show (2147482951 : Int) ≠ 0 by decide)
      have := Int.emod_lt_of_pos (m * 20021 + x) (show (0 : Int) < 2147482951 by decide)
      show ((m * 20021 + x) % 2147482951).natAbs < 2 ^ 60
      omega
  have hslice : Pu.cutD (ns.map D.int) none (some (5 : Int)) ++ [.int cell] = (ns.take 5 ++ [cell]).map D.int := by
    rw [List.map_append, List.map_take]
    congr 1
    unfold Pu.cutD
    rw [HT.sIx_none, show (some (5 : Int)) = some ((5 : Nat) : Int) from rfl, HT.sIx_nat, Nat.sub_zero, List.drop_zero]
    by_cases h : 5 ≤ (ns.map D.int).length
    · rw [Nat.min_eq_left h]
    · rw [Nat.min_eq_right (by omega), List.take_of_length_le (Nat.le_refl _), List.take_of_length_le (by omega)]
  refine srn_sd (sd_from (ρ1 := [some (.sql ns), some (.int (t : Nat)), some (.int cell), some (.int m0), none]) (by repeat (first | exact .nil | apply Wk.same | apply Wk.none)) (sd_fold (fun m : Int => [some (.sql ns), some (.int (t : Nat)), some (.int cell), some (.int m), none]) (fun m e => (m * 20021 + e) % 2147482951) (fun m _ => m.natAbs < 2 ^ 60) (xs := ns.take 5 ++ [cell]) m0 (id_seqL (ed_is (ed_op (ed_cutS (ed_var rfl) eo_none (eo_some ed_int)) (ed_l1 (ed_var rfl)) (rv_cat ?_)) (by rw [hslice]))) hm0 fun m e l h => ⟨?_, _, _, tg_name, ?_⟩)) ?_
  · have := congrArg List.length hslice
    rw [List.length_append] at this
    rw [this]
    simp; omega
  · have := Int.emod_nonneg (m * 20021 + e) (show (2147482951 : Int) ≠ 0 by decide)
    have := Int.emod_lt_of_pos (m * 20021 + e) (show (0 : Int) < 2147482951 by decide)
    omega
  · exact sd_weak (sd_seq (sd_set (ed_op (ed_cb (ea_1 (ed_op (ed_op (ed_var rfl) ed_int (rv_mul (bd_mulw (n := 60) (m := 20) h (by decide) (by decide)))) (ed_var rfl) rv_add)) rc_intI) ed_int (rv_mod (by decide)))) sd_next) (by repeat (first | exact .nil | apply Wk.same | apply Wk.none))
  have hm := key (ns.take 5 ++ [cell]) m0 hm0
  generalize ((ns.take 5 ++ [cell]).foldl (fun m e => (m * 20021 + e) % 2147482951) m0) = m at hm
  refine srn_one (srn_ret (l := [.int (if (decide (cell < 0) || decide (10 ^ (18 : Int).toNat ≤ cell)) = true then (cell.natAbs : Nat) else 0), .int m, .int 0]) (en_lst (ea_cons (ed_if (et_or (et_test (ed_op (ed_var rfl) ed_int rv_lt)) fun _ => et_test (ed_op (ed_var rfl) (ed_op ed_int ed_int (rv_pow ⟨by decide, by decide, by decide⟩)) rv_ge)) (fun h => ?_) fun h => ?_) (ea_cons (ed_var rfl) (ea_cons ed_int ea_nil))) (by simp)) ⟨_, m, 0, rfl, by omega, rfl⟩)
  · rw [if_pos h]; exact ed_cb (ea_1 (ed_var rfl)) rc_abs
  · rw [if_neg (by rw [h]; decide)]; exact ed_int
theorem sc__law_dip : FnScope ["_law_jar_here", "_law_top", "_law_digit"] ["_law_jar_here", "_law_top"] (defScope s__law_dip) := ⟨rfl, rfl, rfl, by decide +kernel, rfl, by decide +kernel, by decide +kernel⟩
theorem ok__law_dip (T : Facts K mg) : Ok P w K mg base 1 (He.ga K "_law_dip") ["_law_jar_here", "_law_top"] (spJ K RDip 1) := by
  refine Ok.rfJ T.F__law_dip sc__law_dip (fun fd F => F.bindsN fun _ _ _ _ _ _ us hl => match us, hl with | [_, _], _ => rfl) (fun _ => rfl) fun cdv A outer s H E hr x hx => ⟨_, (pss_cons (ps_asg (pe_op op_addX (pe_ix (ix_K (K := K) rfl) (pv 0) pe_int (fun _ _ => rfl)) pe_int) (pg_sub (pv 0) pe_int set_list))
      (pss_cons (ps_if (pt_cmpR op_gtX (pe_ix (ix_K (K := K) rfl) (pv 0) pe_int (fun _ _ => rfl)) pe_int (nomark _)) (pss_cons (ps_asg (pe_callB call_divmod rfl T.b_divmod (by decide +kernel) (pa_cons (pe_ix (ix_K (K := K) rfl) (pv 0) pe_int (fun _ _ => rfl)) (pa_cons (pv 1) pa_nil))) (pg_tupK (n := 2) (K := K) rfl rfl (pgs_cons (pg_sub (pv 0) pe_int set_list) (pgs_cons (pg_name (i := 2) sc__law_dip.nd rfl (by first | exact Or.inl rfl | exact Or.inr rfl)) pgs_nil))))
      (pss_one (ps_ret (pv 2)))) pss_nil)
      (pss_cons (ps_asg (pe_op op_modX (pe_callTy call_intX rfl T.b_int (by decide +kernel) (pa_cons (pe_op op_addX (pe_op (op_mulK (K := K) rfl) (pe_ix (ix_K (K := K) rfl) (pv 0) pe_int (fun _ _ => rfl)) pe_int) (pe_op (op_mulK (K := K) rfl) pe_int (pe_ix (ix_K (K := K) rfl) (pv 0) pe_int (fun _ _ => rfl)))) pa_nil)) pe_int) (pg_sub (pv 0) pe_int set_list))
      (pss_one (ps_ret (pe_op op_modX (pe_callTy call_intX rfl T.b_int (by decide +kernel) (pa_cons (pe_op op_divX (pe_ix (ix_K (K := K) rfl) (pv 0) pe_int (fun _ _ => rfl)) pe_int) pa_nil)) (pv 1))))))), ?_⟩
  intro q
  refine srx_ht fun n a m c G0 H0 hm hc hn => ⟨[some (.adr q), some (.int x), none], ?_⟩
  obtain ⟨x0, x1⟩ := hx
  have st : ∀ l, Stay (FO K q G0 H0 l) := fun l => FO.stay
  have fin : ∀ {G H : Hp} {a' m' : Int}, Same G H → FO K q G0 H0 [.int a', .int m', .int (c + 1)] G H → m'.natAbs < 2 ^ 64 → JS q (n + 1) G0 H0 G H := fun e f h => fo_jar e f h (by omega)
  refine ht_seq (fo_set (j := 2) rfl (by simp) (ef_op (st _) (fo_ix (j := 2) rfl rfl) (ef_of ed_int) rv_add)) ?_
  refine ht_seq (F1 := FO K q G0 H0 [.int a, .int m, .int (c + 1)]) (ρ1 := [some (.adr q), some (.int x), none]) (ht_ifF (st _) (j := decide (0 < a)) (ebf_test (ef_op (st _) (fo_ix (j := 0) rfl rfl) (ef_of ed_int) rv_gt)) (fun h => ?_) fun h => ht_next) ?_
  · refine ht_seq (fo_pair rfl (by simp) (ef_cb (eaf_cons (st _) (fo_ix (j := 0) rfl rfl) (eaf_1 (st _) (ef_of (ed_var rfl)))) (rc_divmod ⟨x0, x1⟩))) (ht_one (ht_retF (ρ1 := []) (st _) (ef_of (ed_var rfl)) fun G H e f v hv => ⟨_, ⟨_, rfl, ?_, ?_⟩, hv, fin e f hm⟩))
    · exact Int.emod_nonneg _ (by omega)
    · exact Int.emod_lt_of_pos _ x0
  have hm2 := Int.emod_nonneg (m * 48271 + 30011 * (c + 1)) (show (2147483399 : Int) ≠ 0 by decide)
  have hm3 := Int.emod_lt_of_pos (m * 48271 + 30011 * (c + 1)) (show (0 : Int) < 2147483399 by decide)
  refine ht_seq (fo_set (j := 1) rfl (by simp) (ef_op (st _) (ef_cb (eaf_1 (st _) (ef_op (st _) (ef_op (st _) (fo_ix (j := 1) rfl rfl) (ef_of ed_int) (rv_mul (bd_mulw (n := 64) (m := 20) hm (by decide) (by decide)))) (ef_op (st _) (ef_of ed_int) (fo_ix (j := 2) rfl rfl) (rv_mul (bd_mulw (n := 20) (m := 64) (by decide) (show (c + 1).natAbs < 2 ^ 64 by have : JL = 1000000 := rfl; omega) (by decide)))) rv_add)) rc_intI) (ef_of ed_int) (rv_mod (by decide)))) ?_
  refine ht_one (ht_retF (ρ1 := []) (st _) (ef_op (st _) (ef_cb (eaf_1 (st _) (ef_op (st _) (fo_ix (j := 1) rfl rfl) (ef_of ed_int) (rv_div ⟨by decide, by decide⟩))) rc_intI) (ef_of (ed_var rfl)) (rv_mod x0)) fun G H e f v hv => ⟨_, ⟨_, rfl, ?_, ?_⟩, hv, fin e f (by omega)⟩)
  · exact Int.emod_nonneg _ (by omega)
  · exact Int.emod_lt_of_pos _ x0
theorem sc__law_one_of : FnScope ["_law_jar_here", "_law_some"] ["_law_jar_here", "_law_some"] (defScope s__law_one_of) := ⟨rfl, rfl, rfl, by decide +kernel, rfl, by decide +kernel, by decide +kernel⟩
theorem ok__law_one_of (T : Facts K mg) : Ok P w K mg base 2 (He.ga K "_law_one_of") ["_law_jar_here", "_law_some"] (spJ K ROne 1) := by
  have G__law_dip : Ok P w K mg base 1 _ _ _ := ok__law_dip T
  refine Ok.rfJ T.F__law_one_of sc__law_one_of (fun fd F => F.bindsN fun _ _ _ _ _ _ us hl => match us, hl with | [_, _], _ => rfl) (fun _ => rfl) fun cdv A outer s H E hr x hx => ⟨_, (pss_one (ps_ret (pe_ix (ix_K (K := K) rfl) (pv 1) (G__law_dip.pe (hr.mono (by decide)) rfl T.m__law_dip (pa_cons (pv 0) (pa_cons (pe_callB (call_lenK (K := K) rfl) rfl T.b_len (by decide +kernel) (pa_cons (pv 1) pa_nil)) pa_nil))) (fun _ _ => rfl)))), ?_⟩
  intro q
  obtain ⟨h0, h1⟩ := hx
  have hl : 0 < x.length := List.length_pos_iff.mpr h0
  refine srx_one (srx_ret (k := 1) (ex_op (k1 := 0) (k2 := 1) (ex_of (ed_var rfl)) (ex_callJ (k1 := 0) (k2 := 1) (Φ := Dip (x.length : Nat)) rfl (exa_of (ea_1 (ed_cb (ea_1 (ed_var rfl)) rc_lenL))) fun ds hd => ?_) fun a b ha hb => ?_))
  · subst hd
    rw [List.length_map]
    exact ⟨_, rj ((x.length : Nat) : Int) ⟨by omega, by omega⟩, fun d h => h⟩
  · subst ha
    obtain ⟨i, rfl, i0, i1⟩ := hb
    obtain ⟨k, rfl⟩ : ∃ k : Nat, i = k := ⟨i.toNat, by omega⟩
    have hk : k < x.length := by omega
    exact ⟨.int x[k], ⟨x[k], List.getElem_mem hk, rfl⟩, rv_ixL (by simp [hk])⟩
theorem sc__law_payoff : FnScope ["_law_jar_here", "_law_size", "_law_top", "_law_k"] ["_law_jar_here", "_law_size", "_law_top"] (defScope s__law_payoff) := ⟨rfl, rfl, rfl, by decide +kernel, rfl, by decide +kernel, by decide +kernel⟩
theorem ok__law_payoff (T : Facts K mg) : Ok P w K mg base 2 (He.ga K "_law_payoff") ["_law_jar_here", "_law_size", "_law_top"] (spJ K RPayoff 6) := by
  have G__law_dip : Ok P w K mg base 1 _ _ _ := ok__law_dip T
  refine Ok.rfJ T.F__law_payoff sc__law_payoff (fun fd F => F.bindsN fun _ _ _ _ _ _ us hl => match us, hl with | [_, _, _], _ => rfl) (fun _ => rfl) fun cdv A outer s H E hr x hx => ⟨_, (pss_one (ps_ret (pe_callTy (call_tupK (K := K) rfl) rfl T.b_tuple (by decide +kernel) (pa_cons (pe_lc (own := [("_law_k", 3)]) rfl sc__law_payoff.nd (pi_range1 rfl T.b_range (pa_cons (pv 1) pa_nil)) (blkOk_by (N := ["_law_jar_here", "_law_size", "_law_top", "_law_k"]) (sc := defScope s__law_payoff) (by decide +kernel)) (fun _ _ _ _ _ => (pg_name (i := 3) sc__law_payoff.nd rfl (by first | exact Or.inl rfl | exact Or.inr rfl))) (fun _ _ _ _ _ => pts_nil) (fun _ _ _ _ _ => (pe_op op_subX (G__law_dip.pe (hr.mono (by decide)) rfl T.m__law_dip (pa_cons (pv 0) (pa_cons (pe_op op_addX (pe_op (op_mulK (K := K) rfl) pe_int (pv 2)) pe_int) pa_nil))) (pv 2)))) pa_nil)))), ?_⟩
  intro q
  obtain ⟨n, top⟩ := x
  obtain ⟨h0, h1, h2⟩ := hx
  dsimp only at h0 h1 h2
  have lc := enx_lc (K := K) (q := q) (ρ := [some (.adr q), some (.int (n : Nat)), some (.int top), none]) (Φ := fun d => ∃ i : Int, d = .int i ∧ -top ≤ i ∧ i ≤ top) (k := 1) (vs := [3]) (g := gName 3) (wi := iRng1 (tCons (tVar 1) tNil)) (ds := (List.range' 0 n).map fun i => D.int (i : Nat)) (te := tOp rSubX (tCall (spJ K RDip 1) [] E0 (tCons (tVar 0) (tCons (tOp rAddX (tOp (rMulX K) (tC (.int 2)) (tVar 2)) (tC (.int 1))) tNil))) (tVar 2)) (id_range (ea_1 (ed_var rfl)) (by omega)) (by simp; omega) fun d hd => ⟨_, _, tg_name, by simp, ?_⟩
  · refine srx_one (srx_ret (k := 6) (ex_cb (r := rTupOf K) (Ψ := fun l => ∃ m : List D, l = [.lst m] ∧ m.length = n ∧ ∀ e ∈ m, ∃ i : Int, e = .int i ∧ -top ≤ i ∧ i ≤ top) ?_ fun ds hd => ?_))
    · intro nn hnn σ G H e en j Q hq
      have hnl : 1 * ((List.range' 0 n).map fun i : Nat => D.int (i : Nat)).length = n := by simp
      refine ex_of_enx lc nn (by rw [hnl]; omega) σ G H e en j _ fun d v G' H' fd s i => ?_
      obtain ⟨l, ⟨l1, l2⟩, rfl⟩ := fd
      exact hq [.lst l] [v] G' H' ⟨l, rfl, by simpa using l1, l2⟩ (s.more (by rw [hnl]; omega)) (isL_cons i isL_nil)
    · obtain ⟨m, rfl, hm, hf⟩ := hd
      obtain ⟨g, hg, hgl⟩ : ∃ g : List Int, m = g.map D.int ∧ ∀ i ∈ g, -top ≤ i ∧ i ≤ top := by
        clear hm lc
        induction m with
        | nil => exact ⟨[], rfl, by simp⟩
        | cons d m ih =>
          obtain ⟨i, rfl, hi⟩ := hf d List.mem_cons_self
          obtain ⟨g, rfl, hg⟩ := ih fun e he => hf e (List.mem_cons_of_mem _ he)
          exact ⟨i :: g, rfl, fun j hj => by
            rcases List.mem_cons.mp hj with z | z
            · rw [z]; exact hi
            · exact hg j z⟩
      subst hg
      exact ⟨_, ⟨g, rfl, by simpa using hm, hgl⟩, rc_tupL⟩
  · refine ex_op (k1 := 1) (k2 := 0) (Φ1 := Dip (2 * top + 1)) (ex_callJ (k1 := 0) (k2 := 1) rfl (exa_of (ea_1 (ed_op (ed_op ed_int (ed_var rfl) (rv_mul (bd_mulw (n := 2) (m := 20) (by decide) (by omega) (by decide)))) ed_int rv_add))) fun ds hd => ?_) (ex_of (ed_var rfl)) fun a b ha hb => ?_
    · subst hd
      exact ⟨_, rj (2 * top + 1) ⟨by omega, by omega⟩, fun d h => h⟩
    · obtain ⟨i, rfl, i0, i1⟩ := ha
      subst hb
      exact ⟨_, ⟨i - top, rfl, by omega, by omega⟩, rv_sub⟩
end
end Top
end
section
set_option Elab.async false
set_option linter.all false
set_option maxRecDepth 100000
set_option maxHeartbeats 4000000
/-! F20: drawn chances, quotes, books. -/
namespace Pu
open PySem PySem.Spec PyProof.Rows L2 StX RZ PySem.W
section
variable {K : PySem.W.Frag} {q p : Addr} {ρ ρ1 ρ2 : Rho} {te ti : TE} {tl : TA} {t u : TS} {Φ Φ1 Φ2 : D → Prop} {Ψ Ψ1 Ψ2 : List D → Prop} {k k1 k2 : Nat}
theorem srx_more (h : SrX K q ρ t Φ k) (hk : k ≤ k1) : SrX K q ρ t Φ k1 := fun n hn Dn σ G H e en j hq => h n (by omega) Dn σ G H e en j fun d v G' H' f s i => hq d v G' H' f (s.more (by omega)) i
theorem enx_more (h : EnX K q ρ te Ψ k) (hk : k ≤ k1) : EnX K q ρ te Ψ k1 := fun n hn σ G H e en j Q hq => h n (by omega) σ G H e en j Q fun l p xs G' H' f s => hq l p xs G' H' f (s.more (by omega))
theorem snx_more (h : SnX K q p ρ Ψ t ρ1 Ψ1 k) (hk : k ≤ k1) : SnX K q p ρ Ψ t ρ1 Ψ1 k1 := fun n hn Dn σ G H e en j ne l hl o hq => h n (by omega) Dn σ G H e en j ne l hl o fun σ' G' H' l' hl' hh e' n' j' o' => hq σ' G' H' l' hl' hh e' n' (j'.more (by omega)) o'
theorem sjx_more (h : SjX K q ρ t ρ1 k) (hk : k ≤ k1) : SjX K q ρ t ρ1 k1 := fun n hn Dn σ G H e en j hq => h n (by omega) Dn σ G H e en j fun σ' G' H' s n' => hq σ' G' H' (s.more (by omega)) n'
theorem snx_from (w : Wk ρ1 ρ) (h : SnX K q p ρ1 Ψ t ρ2 Ψ1 k) : SnX K q p ρ Ψ t ρ2 Ψ1 k := fun n hn Dn σ G H e en j ne l hl o hq => h n hn Dn σ G H e (w.en en) j ne l hl o hq
theorem snx_pre (h : SnX K q p ρ Ψ t ρ1 Ψ1 k) (w : ∀ l, Ψ2 l → Ψ l) : SnX K q p ρ Ψ2 t ρ1 Ψ1 k := fun n hn Dn σ G H e en j ne l hl o hq => h n hn Dn σ G H e en j ne l (w l hl) o hq
/-- p[i] += e -/
theorem snx_aug {i : Nat} (hv : ρ[i]? = some (some (.adr p))) (hi : EvX K q ρ ti Φ1 k1) (he : EvX K q ρ te Φ2 k2)
    (h : ∀ l a, Ψ l → Φ1 a → ∃ (j : Nat) (x : Int), a = .int (j : Nat) ∧ l[j]? = some (.int x) ∧ ∀ b, Φ2 b → ∃ y : Int, b = .int y ∧ Ψ1 (l.set j (.int (x + y)))) :
    SnX K q p ρ Ψ (tAugS (tVar i) ti te (rGetL K) (ipI fun i j => i + j) rSetL) ρ Ψ1 (k1 + k2) := fun n hn Dn σ G H e en j ne l hl o hq => by
  obtain ⟨v, h1, h2⟩ := en.val i _ hv
  rw [is_adr h2] at h1
  refine ⟨_, h1, hi n (by omega) σ G H e en j _ fun a va G1 H1 f1 s1 i1 => ?_⟩
  obtain ⟨o1, xs, o2, o3⟩ := s1.ownL ne o
  obtain ⟨jj, x, ea, ex, hset⟩ := h l a hl f1
  subst ea
  obtain ⟨w, w1, w2⟩ := o3.get ex
  refine ⟨p, xs, jj, w, rfl, is_int i1, SqL.of o2, w1, ?_⟩
  refine he (n + k1) (by omega) σ G1 H1 s1.le (en.mono s1.hist.g) s1.jar _ fun b vb G2 H2 f2 s2 i2 => ?_
  obtain ⟨y2, eb, hset⟩ := hset b f2
  subst eb
  have s12 := s1.trans s2
  obtain ⟨p1, ys, p2, p3⟩ := s12.ownL ne o
  have kl := p3.length
  have hlt : jj < l.length := (List.getElem?_eq_some_iff.mp ex).1
  refine ⟨x, y2, is_int w2, is_int i2, p, ys, (jj : Nat), jj, rfl, is_int i1, p2, ixN_at (by omega), ?_⟩
  refine hq σ G2 _ _ hset ((hist_p s12 ne o).set List.mem_cons_self) (same_own s12.le p1) (en.mono s12.hist.g) ?_ ⟨p1, _, upd_same, p3.set jj mk_int⟩
  obtain ⟨q1, aa, mm, cc, q2, q3, q4⟩ := s12.jar
  exact ⟨q1, aa, mm, cc, by rw [upd_ne ne.symm]; exact q2, q3, by omega⟩
end
end Pu
namespace Top
open PySem PySem.Spec PyProof.Rows L2 StX RZ Pu PySem.W
abbrev RChance := RJ (fun n : Nat => [D.int (n : Nat)]) (fun n => 2 ≤ n ∧ n ≤ 4) fun n d => ∃ c, d = rw_ c ∧ Mid n c
/-- drawn quotes -/
def Qs (n : Nat) (d : D) : Prop := ∃ l : List Quote, d = qs l ∧ Drawn n l
abbrev RQuotesJ := RJ (fun x : Nat × Nat => [D.int (x.1 : Nat), D.int (x.2 : Nat), D.int 0]) (fun x => (2 ≤ x.1 ∧ x.1 ≤ 4) ∧ x.2 ≤ 5) fun x => Qs x.1
abbrev RCase := RJ (fun _ : Unit => [D.int 0]) (fun _ => True) fun _ d => ∃ (n : Nat) (l : List Quote), d = .tup [.int (n : Nat), qs l] ∧ Drawn n l
theorem sum_set : ∀ {l : List Int} {j : Nat} {y : Int}, (h : j < l.length) → (l.set j (l[j] + y)).sum = l.sum + y
  | [], _, _, h => by simp at h
  | a :: l, 0, y, h => by simp [List.set_cons_zero]; omega
  | a :: l, j + 1, y, h => by
    have ih := sum_set (l := l) (j := j) (y := y) (by simpa using h)
    simp only [List.set_cons_succ, List.getElem_cons_succ, List.sum_cons]
    rw [ih]; omega
theorem dips_ints {top : Int} : ∀ {l : List D}, (∀ e ∈ l, Dip top e) → ∃ ns : List Int, l = ns.map D.int ∧ ∀ i ∈ ns, 0 ≤ i ∧ i < top
  | [], _ => ⟨[], rfl, by simp⟩
  | d :: l, h => by
    obtain ⟨i, rfl, hi⟩ := h d List.mem_cons_self
    obtain ⟨ns, rfl, hn⟩ := dips_ints (l := l) fun e he => h e (List.mem_cons_of_mem _ he)
    exact ⟨i :: ns, rfl, fun j hj => by
      rcases List.mem_cons.mp hj with z | z
      · rw [z]; exact hi
      · exact hn j z⟩
theorem sum_between {B : Int} : ∀ {ns : List Int}, (∀ i ∈ ns, 0 ≤ i ∧ i < B) → 0 ≤ ns.sum ∧ ns.sum ≤ ns.length * (B - 1)
  | [], _ => by simp
  | a :: l, h => by
    obtain ⟨h1, h2⟩ := sum_between (ns := l) fun i hi => h i (List.mem_cons_of_mem _ hi)
    have h0 := h a List.mem_cons_self
    rw [List.sum_cons, List.length_cons]
    refine ⟨by omega, ?_⟩
    have : ((l.length + 1 : Nat) : Int) * (B - 1) = (l.length : Int) * (B - 1) + (B - 1) := by
      rw [Int.natCast_add, Int.add_mul]; simp
    rw [this]; omega
section
variable {P : Program} {w : World} {K : PySem.W.Frag} {mg : Str → Option Value} {base : Heap}
theorem sc__law_chance : FnScope ["_law_jar_here", "_law_size", "_law_parts_here", "_law_whole", "_law_k", "_law_each"] ["_law_jar_here", "_law_size"] (defScope s__law_chance) := ⟨rfl, rfl, rfl, by decide +kernel, rfl, by decide +kernel, by decide +kernel⟩
theorem ok__law_chance (T : Facts K mg) : Ok P w K mg base 3 (He.ga K "_law_chance") ["_law_jar_here", "_law_size"] (spJ K RChance 8) := by
  have G__law_dip : Ok P w K mg base 1 _ _ _ := ok__law_dip T
  have G__law_low : Ok P w K mg base 2 _ _ _ := ok__law_low T
  refine Ok.rfJ T.F__law_chance sc__law_chance (fun fd F => F.bindsN fun _ _ _ _ _ _ us hl => match us, hl with | [_, _], _ => rfl) (fun _ => rfl) fun cdv A outer s H E hr x hx => ⟨_, (pss_cons (ps_setLc (i := 2) (own := [("_law_k", 4)]) rfl sc__law_chance.nd rfl rfl (sw_true rfl rfl rfl (by decide +kernel)) (pi_range1 rfl T.b_range (pa_cons (pv 1) pa_nil)) (blkOk_by (N := ["_law_jar_here", "_law_size", "_law_parts_here", "_law_whole", "_law_k", "_law_each"]) (sc := defScope s__law_chance) (by decide +kernel)) (fun _ _ _ _ _ => (pg_name (i := 4) sc__law_chance.nd rfl (by first | exact Or.inl rfl | exact Or.inr rfl))) (fun _ _ _ _ _ => pts_nil) (fun _ _ _ _ _ => (G__law_dip.pe (hr.mono (by decide)) rfl T.m__law_dip (pa_cons (pv 0) (pa_cons pe_int pa_nil)))))
      (pss_cons (ps_augS (pv 2) (G__law_dip.pe (hr.mono (by decide)) rfl T.m__law_dip (pa_cons (pv 0) (pa_cons (pv 1) pa_nil))) (get_listK (K := K) rfl) (pe_op op_addX pe_int (G__law_dip.pe (hr.mono (by decide)) rfl T.m__law_dip (pa_cons (pv 0) (pa_cons pe_int pa_nil)))) ip_add set_list)
      (pss_cons (ps_set (i := 3) sc__law_chance.nd rfl (by first | exact Or.inl rfl | exact Or.inr rfl) (pe_callB (call_sumK (K := K) rfl rfl) rfl T.b_sum (by decide +kernel) (pa_cons (pv 2) pa_nil)))
      (pss_one (ps_ret (pe_callTy (call_tupK (K := K) rfl) rfl T.b_tuple (by decide +kernel) (pa_cons (pe_lc (own := [("_law_each", 5)]) rfl sc__law_chance.nd (pi_seqK (K := K) rfl (pv 2)) (blkOk_by (N := ["_law_jar_here", "_law_size", "_law_parts_here", "_law_whole", "_law_k", "_law_each"]) (sc := defScope s__law_chance) (by decide +kernel)) (fun _ _ _ _ _ => (pg_name (i := 5) sc__law_chance.nd rfl (by first | exact Or.inl rfl | exact Or.inr rfl))) (fun _ _ _ _ _ => pts_nil) (fun _ _ _ _ _ => (G__law_low.pe (hr.mono (by decide)) rfl T.m__law_low (pa_cons (pv 5) (pa_cons (pv 3) pa_nil))))) pa_nil))))))), ?_⟩
  intro q
  obtain ⟨n2, n4⟩ := hx
  refine srx_more (k := 6 + (1 + 1) + 0) (srx_own (ρ1 := [some (.adr q), some (.int (x : Nat)), none, none, none, none]) (Ψ := fun l => ∃ ns : List Int, l = ns.map D.int ∧ ns.length = x ∧ ∀ i ∈ ns, 0 ≤ i ∧ i < 6)
    (Ψ1 := fun l => ∃ ns : List Int, l = ns.map D.int ∧ ns.length = x ∧ (∀ i ∈ ns, 0 ≤ i) ∧ 0 < ns.sum ∧ ns.sum ≤ 23) ?_ (fun p => ?_) fun l hl => ?_) (by decide)
  · have lc := enx_lc (K := K) (q := q) (ρ := [some (.adr q), some (.int (x : Nat)), none, none, none, none]) (Φ := Dip 6) (k := 1) (vs := [4]) (g := gName 4) (wi := iRng1 (tCons (tVar 1) tNil)) (ds := (List.range' 0 x).map fun i => D.int (i : Nat)) (te := tCall (spJ K RDip 1) [] E0 (tCons (tVar 0) (tCons (tC (.int 6)) tNil))) (id_range (ea_1 (ed_var rfl)) (by omega)) (by simp; omega) fun d hd => ⟨_, _, tg_name, by simp, ex_callJ (k1 := 0) (k2 := 1) rfl (exa_of (ea_1 ed_int)) fun ds hd => by
      subst hd; exact ⟨_, rj 6 ⟨by decide, by decide⟩, fun d h => h⟩⟩
    intro nn hnn σ G H e en j Q hq
    have hl : 1 * ((List.range' 0 x).map fun i : Nat => D.int (i : Nat)).length = x := by simp
    refine lc nn (by omega) σ G H e en j Q fun l p xs G' H' f s => hq l p xs G' H' ?_ (s.more (by omega))
    obtain ⟨f1, f2⟩ := f
    obtain ⟨ns, rfl, hns⟩ := dips_ints f2
    exact ⟨ns, rfl, by simpa using f1, hns⟩
  · refine snx_aug (Φ1 := Dip (x : Nat)) (Φ2 := fun d => ∃ y : Int, d = .int y ∧ 1 ≤ y ∧ y ≤ 3) rfl (ex_callJ (k1 := 0) (k2 := 1) rfl (exa_of (ea_1 (ed_var rfl))) fun ds hd => ?_) (ex_op (k1 := 0) (k2 := 1) (Φ2 := Dip 3) (ex_of ed_int) (ex_callJ (k1 := 0) (k2 := 1) rfl (exa_of (ea_1 ed_int)) fun ds hd => ?_) fun a b ha hb => ?_) fun l a hl ha => ?_
    · subst hd; exact ⟨_, rj ((x : Nat) : Int) ⟨by omega, by omega⟩, fun d h => h⟩
    · subst hd; exact ⟨_, rj 3 ⟨by decide, by decide⟩, fun d h => h⟩
    · subst ha
      obtain ⟨i, rfl, i0, i1⟩ := hb
      exact ⟨_, ⟨1 + i, rfl, by omega, by omega⟩, rv_add⟩
    · obtain ⟨ns, rfl, hn, h6⟩ := hl
      obtain ⟨i, rfl, i0, i1⟩ := ha
      obtain ⟨j, rfl⟩ : ∃ j : Nat, i = j := ⟨i.toNat, by omega⟩
      have hj : j < ns.length := by omega
      refine ⟨j, ns[j], rfl, by simp [hj], fun b ⟨y, eb, y1, y3⟩ => ⟨y, eb, ns.set j (ns[j] + y), by rw [List.map_set], by simp [hn], fun i hi => ?_, ?_, ?_⟩⟩
      · rcases List.mem_or_eq_of_mem_set hi with z | z
        · exact (h6 i z).1
        · have := (h6 _ (List.getElem_mem hj)).1; omega
      · rw [sum_set hj]; have := (sum_between h6).1; omega
      · rw [sum_set hj]
        have := (sum_between h6).2
        rw [hn] at this
        have e : (6 : Int) - 1 = 5 := rfl
        rw [e] at this
        omega
  · obtain ⟨ns, rfl, hn, h0, h1, h2⟩ := hl
    refine srx_sd (sd_set (ed_cb (ea_1 (ed_var rfl)) rc_sumXL)) (srx_one (srx_ret (ex_is (ex_of (ed_cb (ea_1 (ed_is (ed_lcT (xs := ns) (enc := D.int) (f := fun n : Int => fr (Rat.divInt n ns.sum)) (id_seqL (ed_var rfl)) (by omega) fun n hn => ⟨_, _, tg_name, by simp, ed_call (ea_2 (ed_var rfl) (ed_var rfl)) (rf (n, ns.sum) ⟨h1, gcd_small (n := 10) h1 (by omega) (by decide)⟩)⟩) (show _ = D.lst (List.map fr (ns.map fun n => Rat.divInt n ns.sum)) by rw [List.map_map]; rfl))) rc_tupL)) fun d hd => ?_)))
    exact ⟨_, hd, mid_of hn h0 h1 h2⟩
theorem sc__law_quotes : FnScope ["_law_jar_here", "_law_size", "_law_many", "_law_slack", "_law_middle", "_law_found", "_law_turn", "_law_payoff_here", "_law_top", "_law_bottom", "_law_less_here"] ["_law_jar_here", "_law_size", "_law_many", "_law_slack"] (defScope s__law_quotes) := ⟨rfl, rfl, rfl, by decide +kernel, rfl, by decide +kernel, by decide +kernel⟩
theorem ok__law_quotes (T : Facts K mg) : Ok P w K mg base 5 (He.ga K "_law_quotes") ["_law_jar_here", "_law_size", "_law_many", "_law_slack"] (spJ K RQuotesJ 48) := by
  have G__law_dip : Ok P w K mg base 1 _ _ _ := ok__law_dip T
  have G__law_low : Ok P w K mg base 2 _ _ _ := ok__law_low T
  have G__law_chance : Ok P w K mg base 3 _ _ _ := ok__law_chance T
  have G__law_payoff : Ok P w K mg base 2 _ _ _ := ok__law_payoff T
  have G__law_one_of : Ok P w K mg base 2 _ _ _ := ok__law_one_of T
  have G__law_worth : Ok P w K mg base 4 _ _ _ := ok__law_worth T
  refine Ok.rfJ T.F__law_quotes sc__law_quotes (fun fd F => F.bindsN fun _ _ _ _ _ _ us hl => match us, hl with | [_, _, _, _], _ => rfl) (fun _ => rfl) fun cdv A outer s H E hr x hx => ⟨_, (pss_cons (ps_par (i := 4) (j := 5) rfl sc__law_quotes.nd rfl rfl (by decide) rfl rfl (pa_cons (G__law_chance.pe (hr.mono (by decide)) rfl T.m__law_chance (pa_cons (pv 0) (pa_cons (pv 1) pa_nil))) (pa_cons (pe_lst pa_nil) pa_nil)) (by rfl))
      (pss_cons (ps_for PassesOwn.never rfl (pi_range1 rfl T.b_range (pa_cons (pv 2) pa_nil)) (pg_name (i := 6) sc__law_quotes.nd rfl (by first | exact Or.inl rfl | exact Or.inr rfl)) (pss_cons (ps_set (i := 7) sc__law_quotes.nd rfl (by first | exact Or.inl rfl | exact Or.inr rfl) (G__law_payoff.pe (hr.mono (by decide)) rfl T.m__law_payoff (pa_cons (pv 0) (pa_cons (pv 1) (pa_cons (G__law_one_of.pe (hr.mono (by decide)) rfl T.m__law_one_of (pa_cons (pv 0) (pa_cons (pe_lst (pa_cons pe_int (pa_cons pe_int (pa_cons pe_int (pa_cons pe_int pa_nil))))) pa_nil))) pa_nil)))))
      (pss_cons (ps_asg (G__law_worth.pe (hr.mono (by decide)) rfl T.m__law_worth (pa_cons (pv 7) (pa_cons (pv 4) pa_nil))) (pg_tupK (n := 2) (K := K) rfl rfl (pgs_cons (pg_name (i := 8) sc__law_quotes.nd rfl (by first | exact Or.inl rfl | exact Or.inr rfl)) (pgs_cons (pg_name (i := 9) sc__law_quotes.nd rfl (by first | exact Or.inl rfl | exact Or.inr rfl)) pgs_nil))))
      (pss_cons (ps_set (i := 10) sc__law_quotes.nd rfl (by first | exact Or.inl rfl | exact Or.inr rfl) (G__law_one_of.pe (hr.mono (by decide)) rfl T.m__law_one_of (pa_cons (pv 0) (pa_cons (pe_lst (pa_cons pe_int (pa_cons pe_int (pa_cons pe_int (pa_cons pe_int (pa_cons pe_int pa_nil)))))) pa_nil))))
      (pss_cons (ps_if (PW.pt (pw_and (pt_cmpR op_gtX (pv 3) pe_int (nomark _)) (pw_and1 (pt_cmpR (op_eqK (K := K) rfl hr.units) (G__law_dip.pe (hr.mono (by decide)) rfl T.m__law_dip (pa_cons (pv 0) (pa_cons (pv 3) pa_nil))) pe_int (nomark _))))) (pss_one (ps_set (i := 10) sc__law_quotes.nd rfl (by first | exact Or.inl rfl | exact Or.inr rfl) (pe_op op_subX (pe_op op_subX pe_int pe_int) (G__law_dip.pe (hr.mono (by decide)) rfl T.m__law_dip (pa_cons (pv 0) (pa_cons pe_int pa_nil)))))) pss_nil)
      (pss_one (ps_expr (pe_bm PySem.F.plainAttrs_list PySem.F.slot_list_append PySem.F.type_list_append mt_append (pv 5) (pa_cons (pe_tup (pa_cons (pv 7) (pa_cons (G__law_low.pe (hr.mono (by decide)) rfl T.m__law_low (pa_cons (pe_op op_subX (pe_op (op_mulK (K := K) rfl) (pv 8) pe_int) (pe_op (op_mulK (K := K) rfl) (pv 10) (pv 9))) (pa_cons (pe_op (op_mulK (K := K) rfl) (pv 9) pe_int) pa_nil))) pa_nil))) pa_nil)))))))))
      (pss_one (ps_ret (pe_callTy (call_tupK (K := K) rfl) rfl T.b_tuple (by decide +kernel) (pa_cons (pv 5) pa_nil)))))), ?_⟩
  intro q
  obtain ⟨n, many⟩ := x
  obtain ⟨⟨n2, n4⟩, m5⟩ := hx
  dsimp only at n2 n4 m5
  refine srx_more (k := 8 + 40 + 0) (srx_ownP (Φ1 := fun d => ∃ c, d = rw_ c ∧ Mid n c) (ρa := fun d => [some (.adr q), some (.int (n : Nat)), some (.int (many : Nat)), some (.int 0), some d, none, none, none, none, none, none]) (Ψa := fun d l => ∃ (c : List Rat) (z : List Quote), d = rw_ c ∧ l = z.map qd ∧ z.length = many ∧ Mid n c ∧ ∀ x ∈ z, QDr n c x) (ex_callJ (k1 := 0) (k2 := 8) rfl (exa_of (ea_1 (ed_var rfl))) fun ds hd => ?_) (fun d hd p => ?_) fun d hd l hl => ?_) (by decide)
  · subst hd; exact ⟨_, rj n ⟨n2, n4⟩, fun d h => h⟩
  · obtain ⟨c, rfl, hc⟩ := hd
    refine snx_more (k := 8 * (List.range' 0 many).length) (snx_post (snx_pre (snx_from (ρ1 := [some (.adr q), some (.int (n : Nat)), some (.int (many : Nat)), some (.int 0), some (rw_ c), some (.adr p), none, none, none, none, none]) (by repeat (first | exact .nil | apply Wk.same | apply Wk.none)) (snx_for (k := 8) (xs := List.range' 0 many) (enc := fun i : Nat => D.int (i : Nat)) (fun i l => ∃ z : List Quote, l = z.map qd ∧ z.length = i ∧ ∀ x ∈ z, QDr n c x) (id_range (ea_1 (ed_var rfl)) (by omega)) fun i x hi => ⟨_, _, tg_name, ?_⟩)) ?_) ?_) ?_
    rotate_left
    · intro l hl; rw [hl]; exact ⟨[], rfl, rfl, by simp⟩
    · intro l hl
      obtain ⟨z, h1, h2, h3⟩ := hl
      exact ⟨c, z, rfl, h1, by simpa using h2, hc, h3⟩
    · simp; omega
    · have hi5 : i < many := by have := (List.getElem?_eq_some_iff.mp hi).1; simpa using this
      refine snx_set (k1 := 7) (k2 := 1) (Φ1 := fun d => ∃ g : List Int, d = py g ∧ g.length = n ∧ ∀ i ∈ g, -5 ≤ i ∧ i ≤ 5) (ex_callJ (k1 := 1) (k2 := 6) rfl (exa_cons (k1 := 0) (k2 := 1) (ex_of (ed_var rfl)) (exa_cons (k1 := 1) (k2 := 0) (ex_callJ (Φ := fun d => ∃ i : Int, d = .int i ∧ 1 ≤ i ∧ i ≤ 5) (k1 := 0) (k2 := 1) rfl (exa_of (ea_1 (ed_is (ed_lst (ea_cons ed_int (ea_cons ed_int (ea_cons ed_int (ea_cons ed_int ea_nil)))) (by simp)) (show _ = D.lst ([1, 1, 2, 5].map D.int) from rfl)))) fun ds hd => ?_) exa_nil)) fun ds hd => ?_) fun d hd => ?_
      · subst hd
        refine ⟨_, rj [1, 1, 2, 5] ⟨by simp, by simp⟩, fun d ⟨i, hi, e⟩ => ⟨i, e, ?_⟩⟩
        simp at hi
        omega
      · obtain ⟨a, r, rfl, rfl, b, r2, rfl, ⟨i, rfl, i1, i5⟩, rfl⟩ := hd
        refine ⟨_, rj (n, i) ⟨by dsimp only; omega, by dsimp only; omega, by dsimp only; omega⟩, fun d ⟨g, e, hg, h⟩ => ⟨g, e, hg, fun k hk => ?_⟩⟩
        have := h k hk
        dsimp only at this
        omega
      · obtain ⟨g, rfl, hg, h5⟩ := hd
        refine snx_seq (k1 := 0) (k2 := 1) (snx_sj (sjx_sd (sd_asg (ed_call (ea_2 (ed_var rfl) (ed_var rfl)) (show RWorth [D.tup (g.map D.int), rw_ c] (fr (wor g c)) from rf (g, c) (mid_worth hc n4 hg h5))) (tg_tup (tgs_cons tg_name (tgs_cons tg_name tgs_nil)) rfl)))) ?_
        refine snx_set (k1 := 1) (k2 := 0) (Φ1 := fun d => ∃ i : Int, d = .int i ∧ 0 ≤ i ∧ i ≤ 5) (ex_callJ (k1 := 0) (k2 := 1) rfl (exa_of (ea_1 (ed_is (ed_lst (ea_cons ed_int (ea_cons ed_int (ea_cons ed_int (ea_cons ed_int (ea_cons ed_int ea_nil))))) (by simp)) (show _ = D.lst ([0, 0, 1, 2, 5].map D.int) from rfl)))) fun ds hd => ?_) fun d hd => ?_
        · subst hd
          refine ⟨_, rj [0, 0, 1, 2, 5] ⟨by simp, by simp⟩, fun d ⟨i, hi, e⟩ => ⟨i, e, ?_⟩⟩
          simp at hi
          omega
        · obtain ⟨less, rfl, l0, l5⟩ := hd
          have dp := den_pos (wor g c)
          refine snx_seq (k1 := 0) (k2 := 0) (snx_sj (sjx_sd (sd_if (j := false) (et_is (et_and (k := true) (et_test (ed_op (ed_var rfl) ed_int rv_gt)) fun h => absurd h (by decide)) (by decide)) (fun h => by cases h) fun _ => sd_next))) ?_
          have qd5 := quote_dr hc n4 hg h5 l0 l5
          have hb1 : 0 < (((wor g c).den : Nat) : Int) * 4 := by omega
          obtain ⟨bn, bd⟩ := mid_bd hc n4 hg h5
          have bd' : (((wor g c).den : Nat) : Int).natAbs < 2 ^ 20 := by simpa using bd
          have lb : less.natAbs < 2 ^ 20 := by omega
          refine snx_seq (k1 := 0) (k2 := 0) (snx_append (d := qd (g, Rat.divInt ((wor g c).num * 4 - less * ((wor g c).den : Nat)) (((wor g c).den : Nat) * 4))) rfl (ed_tup (ea_2 (ed_var rfl) (ed_call (ea_2 (ed_op (ed_op (ed_var rfl) ed_int (rv_mul (bd_mulw (n := 20) (m := 20) bn (by decide) (by decide)))) (ed_op (ed_var rfl) (ed_var rfl) (rv_mul (bd_mulw (n := 20) (m := 20) lb bd' (by decide)))) rv_sub) (ed_op (ed_var rfl) ed_int (rv_mul (bd_mulw (n := 20) (m := 20) bd' (by decide) (by decide))))) (show RLowest [D.int ((wor g c).num * 4 - less * ((wor g c).den : Nat)), D.int (((wor g c).den : Nat) * 4)] (fr (Rat.divInt ((wor g c).num * 4 - less * ((wor g c).den : Nat)) (((wor g c).den : Nat) * 4))) from rf (_, _) ⟨hb1, gcd_small (n := 30) hb1 (by dsimp only; omega) (by decide)⟩))) (by simp)) fun l hl => ?_) (snx_sj (sjx_weak sjx_next (by repeat (first | exact .nil | apply Wk.same | apply Wk.none))))
          obtain ⟨z, rfl, hz, hq⟩ := hl
          refine ⟨by rw [List.length_map]; omega, z ++ [_], by rw [List.map_append]; rfl, by simp [hz], fun y hy => ?_⟩
          rcases List.mem_append.mp hy with h | h
          · exact hq y h
          · rw [List.mem_singleton] at h; rw [h]; exact qd5
  · obtain ⟨c, z, rfl, rfl, hz, hc, hq⟩ := hl
    refine srx_one (srx_ret (ex_is (ex_of (ed_cb (ea_1 (ed_var rfl)) rc_tupL)) fun d hd => ?_))
    exact ⟨z, hd, drawn_of n2 n4 (by omega) hc hq⟩
end
end Top
end
section
set_option Elab.async false
set_option linter.all false
set_option maxRecDepth 100000
set_option maxHeartbeats 4000000
/-! F21: the law. -/
namespace Top
open PySem PySem.Spec PyProof.Rows L2 StX RZ Pu PySem.W
abbrev RRight := RJ (fun _ : Unit => ([] : List D)) (fun _ => True) fun _ d => d = .bl true
abbrev RLaw := RF (fun ns : List Int => [D.sql ns]) (fun _ => True) fun _ => .bl true
theorem rfF {P : Program} {w : World} {K : PySem.W.Frag} {mg : Str → Option Value} {base : Heap} {k : Nat} {f : Addr} {ps N : List Str} {x qual : Str} {params : Arguments} {body : List Stmt} {scope : Scope} {α : Type} {args : α → List D} {ok : α → Prop} {res : α → D} {fd : FuncData}
    (F : FunD K x qual params body scope [] [] f fd) (S : FnScope N ps scope) (len : ∀ x, (args x).length = ps.length)
    (hbody : ∀ (cdv : Value) (A : Around) (outer : List Env) (s : Shared) (H : Hp) (E : XK), Room k (A.deeper (envOfC qual scope s.heap.objs.size f cdv)) → ∀ x, ok x →
      ∃ t, PSs (cxOf CX0 P w K mg base N qual scope f cdv A outer s H E).nox body t ∧ StD K (start0 N (args x)) t (.rt (res x))) : FnOk P w K mg base CX0 (k + 1) f fd ps (spP K (RF args ok res)) :=
  F.ok S (fun vs H Q E ⟨G, ds, d, _, i, ⟨x, e, _⟩, _⟩ => by rw [← i.length, e]; exact len x) fun cdv A outer s H vs Q E hr ⟨G, ds, d, e, il, ⟨x, e1, hx, e2⟩, q⟩ => by
    subst e1 e2
    obtain ⟨t, h1, h2⟩ := hbody cdv A outer s H E hr x hx
    exact ⟨t, h1.nox, body_rt e il q h2⟩
theorem rv_neBb {K : PySem.W.Frag} {j k : Bool} : RvD K (rNeD K) (.bl j) (.bl k) (.bl (!decide (j = k))) := rv_neB
section
variable {P : Program} {w : World} {K : PySem.W.Frag} {mg : Str → Option Value} {base : Heap}
theorem sc__law_case : FnScope ["_law_jar_here", "_law_slack", "_law_size"] ["_law_jar_here", "_law_slack"] (defScope s__law_case) := ⟨rfl, rfl, rfl, by decide +kernel, rfl, by decide +kernel, by decide +kernel⟩
theorem ok__law_case (T : Facts K mg) : Ok P w K mg base 6 (He.ga K "_law_case") ["_law_jar_here", "_law_slack"] (spJ K RCase 50) := by
  have G__law_dip : Ok P w K mg base 1 _ _ _ := ok__law_dip T
  have G__law_one_of : Ok P w K mg base 2 _ _ _ := ok__law_one_of T
  have G__law_quotes : Ok P w K mg base 5 _ _ _ := ok__law_quotes T
  refine Ok.rfJ T.F__law_case sc__law_case (fun fd F => F.bindsN fun _ _ _ _ _ _ us hl => match us, hl with | [_, _], _ => rfl) (fun _ => rfl) fun cdv A outer s H E hr x hx => ⟨_, (pss_cons (ps_set (i := 2) sc__law_case.nd rfl (by first | exact Or.inl rfl | exact Or.inr rfl) (G__law_one_of.pe (hr.mono (by decide)) rfl T.m__law_one_of (pa_cons (pv 0) (pa_cons (pe_lst (pa_cons pe_int (pa_cons pe_int (pa_cons pe_int (pa_cons pe_int (pa_cons pe_int (pa_cons pe_int pa_nil))))))) pa_nil))))
      (pss_one (ps_ret (pe_tup (pa_cons (pv 2) (pa_cons (G__law_quotes.pe (hr.mono (by decide)) rfl T.m__law_quotes (pa_cons (pv 0) (pa_cons (pv 2) (pa_cons (G__law_dip.pe (hr.mono (by decide)) rfl T.m__law_dip (pa_cons (pv 0) (pa_cons pe_int pa_nil))) (pa_cons (pv 1) pa_nil))))) pa_nil)))))), ?_⟩
  intro q
  refine srx_set (k1 := 1) (k2 := 49) (Φ1 := fun d => ∃ n : Nat, d = .int (n : Nat) ∧ 2 ≤ n ∧ n ≤ 4) (ex_callJ (k1 := 0) (k2 := 1) rfl (exa_of (ea_1 (ed_is (ed_lst (ea_cons ed_int (ea_cons ed_int (ea_cons ed_int (ea_cons ed_int (ea_cons ed_int (ea_cons ed_int ea_nil)))))) (by simp)) (show _ = D.lst ([2, 2, 3, 3, 3, 4].map D.int) from rfl)))) fun ds hd => ?_) fun d hd => ?_
  · subst hd
    refine ⟨_, rj [2, 2, 3, 3, 3, 4] ⟨by simp, by simp⟩, fun d ⟨i, hi, e⟩ => ⟨i.toNat, ?_, ?_⟩⟩
    · simp at hi
      rw [e, Int.toNat_of_nonneg (by omega)]
    · simp at hi; omega
  · obtain ⟨n, rfl, n2, n4⟩ := hd
    refine srx_one (srx_ret (ex_is (ex_tup (k := 49) (exa_cons (k1 := 0) (k2 := 49) (ex_of (ed_var rfl)) (exa_cons (k1 := 49) (k2 := 0) (ex_callJ (Φ := Qs n) (k1 := 1) (k2 := 48) rfl (exa_cons (k1 := 0) (k2 := 1) (ex_of (ed_var rfl)) (exa_cons (k1 := 1) (k2 := 0) (ex_callJ (Φ := Dip 6) (k1 := 0) (k2 := 1) rfl (exa_of (ea_1 ed_int)) fun ds hd => ?_) (exa_of (ea_1 (ed_var rfl))))) fun ds hd => ?_) exa_nil)) fun ds hd => ?_) fun d hd => ?_))
    · subst hd; exact ⟨_, rj 6 ⟨by decide, by decide⟩, fun d h => h⟩
    · obtain ⟨a, r, rfl, rfl, b, r2, rfl, ⟨i, rfl, i0, i1⟩, rfl⟩ := hd
      obtain ⟨m, rfl⟩ : ∃ m : Nat, i = m := ⟨i.toNat, by omega⟩
      exact ⟨_, rj (n, m) ⟨⟨n2, n4⟩, by dsimp only; omega⟩, fun d h => h⟩
    · obtain ⟨a, r, rfl, _, b, r2, rfl, _, rfl⟩ := hd; simp
    · obtain ⟨ds, ⟨a, r, rfl, rfl, b, r2, rfl, ⟨l, rfl, hl⟩, rfl⟩, rfl⟩ := hd
      exact ⟨n, l, rfl, hl⟩
theorem sc__law_right : FnScope ["_law_jar_here", "_law_size", "_law_quotes_here", "_law_mine", "_law_told", "_law_row", "_law_gains", "_law_middle", "_law_turn", "_law_each"] ["_law_jar_here"] (defScope s__law_right) := ⟨rfl, rfl, rfl, by decide +kernel, rfl, by decide +kernel, by decide +kernel⟩
theorem ok__law_right (T : Facts K mg) : Ok P w K mg base 12 (He.ga K "_law_right") ["_law_jar_here"] (spJ K RRight 568) := by
  have G__law_case : Ok P w K mg base 6 _ _ _ := ok__law_case T
  have G_Book___init__ : Ok P w K mg base 7 _ _ _ := ok_Book___init__ T
  have G_corners : Ok P w K mg base 10 _ _ _ := ok_corners T
  have G__law_may_pass : Ok P w K mg base 1 _ _ _ := ok__law_may_pass T
  have G_keeps : Ok P w K mg base 7 _ _ _ := ok_keeps T
  have G_is_corner : Ok P w K mg base 10 _ _ _ := ok_is_corner T
  have G__law_payoff : Ok P w K mg base 2 _ _ _ := ok__law_payoff T
  have G__law_one_of : Ok P w K mg base 2 _ _ _ := ok__law_one_of T
  have G_worth : Ok P w K mg base 6 _ _ _ := ok_worth T
  have G__law_worth : Ok P w K mg base 4 _ _ _ := ok__law_worth T
  have G_mean_corner : Ok P w K mg base 10 _ _ _ := ok_mean_corner T
  have G__law_payoff_right : Ok P w K mg base 11 _ _ _ := ok__law_payoff_right T
  refine Ok.rfJ T.F__law_right sc__law_right (fun fd F => F.bindsN fun _ _ _ _ _ _ us hl => match us, hl with | [_], _ => rfl) (fun _ => rfl) fun cdv A outer s H E hr x hx => ⟨_, (pss_cons (ps_asg (G__law_case.pe (hr.mono (by decide)) rfl T.m__law_case (pa_cons (pv 0) (pa_cons pe_int pa_nil))) (pg_tupK (n := 2) (K := K) rfl rfl (pgs_cons (pg_name (i := 1) sc__law_right.nd rfl (by first | exact Or.inl rfl | exact Or.inr rfl)) (pgs_cons (pg_name (i := 2) sc__law_right.nd rfl (by first | exact Or.inl rfl | exact Or.inr rfl)) pgs_nil))))
      (pss_cons (ps_set (i := 3) sc__law_right.nd rfl (by first | exact Or.inl rfl | exact Or.inr rfl) (G_Book___init__.peM T.k_Book (hr.mono (by decide)) rfl T.m_Book (pa_cons (pv 1) (pa_cons (pv 2) pa_nil))))
      (pss_cons (ps_set (i := 4) sc__law_right.nd rfl (by first | exact Or.inl rfl | exact Or.inr rfl) (G_corners.pe (hr.mono (by decide)) rfl T.m_corners (pa_cons (pv 3) pa_nil)))
      (pss_cons (ps_for PassesOwn.never rfl (pi_seqK (K := K) rfl (pe_lc (own := [("_law_each", 9)]) rfl sc__law_right.nd (pi_seqK (K := K) rfl (pv 4)) (blkOk_by (N := ["_law_jar_here", "_law_size", "_law_quotes_here", "_law_mine", "_law_told", "_law_row", "_law_gains", "_law_middle", "_law_turn", "_law_each"]) (sc := defScope s__law_right) (by decide +kernel)) (fun _ _ _ _ _ => (pg_name (i := 9) sc__law_right.nd rfl (by first | exact Or.inl rfl | exact Or.inr rfl))) (fun _ _ _ _ _ => (pts_one (pt_val (G__law_may_pass.pe (hr.mono (by decide)) rfl T.m__law_may_pass (pa_cons (pv 9) pa_nil))))) (fun _ _ _ _ _ => (pv 9)))) (pg_name (i := 5) sc__law_right.nd rfl (by first | exact Or.inl rfl | exact Or.inr rfl)) (pss_cons (ps_if (PW.pt (pw_or (pt_cmpR op_isNotX (G_keeps.pe (hr.mono (by decide)) rfl T.m_keeps (pa_cons (pv 3) (pa_cons (pv 5) pa_nil))) pe_bl (nomark _)) (pw_or1 (pt_cmpR op_isNotX (G_is_corner.pe (hr.mono (by decide)) rfl T.m_is_corner (pa_cons (pv 3) (pa_cons (pv 5) pa_nil))) pe_bl (nomark _))))) (pss_one (ps_ret pe_bl)) pss_nil)
      (pss_cons (ps_set (i := 6) sc__law_right.nd rfl (by first | exact Or.inl rfl | exact Or.inr rfl) (G__law_payoff.pe (hr.mono (by decide)) rfl T.m__law_payoff (pa_cons (pv 0) (pa_cons (pv 1) (pa_cons pe_int pa_nil)))))
      (pss_one (ps_if (pt_cmpR (op_neK (K := K) rfl hr.units) (G_worth.pe (hr.mono (by decide)) rfl T.m_worth (pa_cons (pv 6) (pa_cons (pv 5) pa_nil))) (G__law_worth.pe (hr.mono (by decide)) rfl T.m__law_worth (pa_cons (pv 6) (pa_cons (pv 5) pa_nil))) (nomark _)) (pss_one (ps_ret pe_bl)) pss_nil)))))
      (pss_cons (ps_set (i := 7) sc__law_right.nd rfl (by first | exact Or.inl rfl | exact Or.inr rfl) (G_mean_corner.pe (hr.mono (by decide)) rfl T.m_mean_corner (pa_cons (pv 3) pa_nil)))
      (pss_cons (ps_if (PW.pt (pw_and (pt_val (G__law_may_pass.pe (hr.mono (by decide)) rfl T.m__law_may_pass (pa_cons (pv 7) pa_nil))) (pw_and1 (PW.pt (pw_or (pt_cmpR (op_neK (K := K) rfl hr.units) (G_is_corner.pe (hr.mono (by decide)) rfl T.m_is_corner (pa_cons (pv 3) (pa_cons (pv 7) pa_nil))) (pe_cmpR (op_eqK (K := K) rfl hr.units) (pe_callB (call_lenK (K := K) rfl) rfl T.b_len (by decide +kernel) (pa_cons (pv 4) pa_nil)) pe_int (nomark _)) (nomark _)) (pw_or1 (pt_not (pt_val (G_keeps.pe (hr.mono (by decide)) rfl T.m_keeps (pa_cons (pv 3) (pa_cons (pv 7) pa_nil))))))))))) (pss_one (ps_ret pe_bl)) pss_nil)
      (pss_cons (ps_for PassesOwn.never rfl (pi_range1 rfl T.b_range (pa_cons pe_int pa_nil)) (pg_name (i := 8) sc__law_right.nd rfl (by first | exact Or.inl rfl | exact Or.inr rfl)) (pss_one (ps_if (pt_not (pt_val (G__law_payoff_right.pe (hr.mono (by decide)) rfl T.m__law_payoff_right (pa_cons (pv 3) (pa_cons (pv 4) (pa_cons (pv 7) (pa_cons (G__law_payoff.pe (hr.mono (by decide)) rfl T.m__law_payoff (pa_cons (pv 0) (pa_cons (pv 1) (pa_cons (G__law_one_of.pe (hr.mono (by decide)) rfl T.m__law_one_of (pa_cons (pv 0) (pa_cons (pe_lst (pa_cons pe_int (pa_cons pe_int (pa_cons pe_int (pa_cons pe_int pa_nil))))) pa_nil))) pa_nil)))) pa_nil))))))) (pss_one (ps_ret pe_bl)) pss_nil)))
      (pss_one (ps_ret pe_bl))))))))), ?_⟩
  intro q
  refine srx_asg (k1 := 50) (k2 := 518) (ex_callJ (k1 := 0) (k2 := 50) rfl (exa_of (ea_1 ed_int)) fun ds hd => by subst hd; exact ⟨_, rj () trivial, fun d h => h⟩) fun d hd => ?_
  obtain ⟨n, l, rfl, dr⟩ := hd
  refine ⟨_, _, tg_tup (tgs_cons tg_name (tgs_cons tg_name tgs_nil)) rfl, ?_⟩
  have n2 := dr.bs.n2
  have n4 := dr.bs.n4
  have snd := drawn_sound dr
  have cok := co_ok dr.bs
  have bok := dr.bs.bk
  have toldE : ∀ {ρ : Rho} {i : Nat} {E : XK}, ρ[i]? = some (some (bk K (n, l))) → EvD K ρ (tCall (spP K (RCorners K)) [] E (tCons (tVar i) tNil)) (.tup ((cornersOf (n, l)).map rw_)) := fun h => ed_call (ea_1 (ed_var h)) (rf (n, l) ⟨⟨snd, by dsimp only; omega⟩, cok⟩)
  have tl84 : (cornersOf (n, l)).length ≤ 84 := Nat.le_trans (told_spec n l).2.2 (co_len dr.bs)
  refine srx_sd (sd_set (show EvD K _ _ (bk K (n, l)) from ed_make (ea_2 (ed_var rfl) (ed_var rfl)) (ri (n, l) bok))) ?_
  refine srx_sd (sd_set (toldE rfl)) ?_
  refine srx_sj (k1 := 504) (k2 := 14) (sjx_more (k := 6 * ((cornersOf (n, l)).filter fun r => mayPass r).length) (sjx_for (k := 6) (enc := rw_) (xs := (cornersOf (n, l)).filter fun r => mayPass r) (id_seqL (ed_lcTF (xs := cornersOf (n, l)) (enc := rw_) (f := rw_) (p := mayPass) (id_seqT (ed_var rfl)) (by omega) fun r hr => ⟨_, _, tg_name, by simp, et_B (ed_call (ea_1 (ed_var rfl)) (rf r (told_pos_len dr hr))), fun _ => ed_var rfl⟩)) fun r hr => ⟨_, _, tg_name, ?_⟩) ?_) ?_
  · obtain ⟨hr, hp⟩ := List.mem_filter.mp hr
    obtain ⟨c1, c2, c3, c4, c5⟩ := row_ok dr hr hp
    refine sjx_seq (k1 := 0) (k2 := 6) (sjx_sd (sd_if (j := false) (et_is (et_or (et_test (ed_op (ed_call (ea_2 (ed_var rfl) (ed_var rfl)) (rf ((n, l), r) ⟨c4, by dsimp only; omega, c1, c2⟩)) ed_bl rv_isNotB)) fun _ => et_test (ed_op (ed_call (ea_2 (ed_var rfl) (ed_var rfl)) (rf ((n, l), r) ⟨⟨⟨snd, by dsimp only; omega⟩, cok⟩, c4, c1⟩)) ed_bl rv_isNotB)) ?_) (fun h => by cases h) fun _ => sd_next)) ?_
    · dsimp only
      rw [c3, decide_eq_true hr]; rfl
    · refine sjx_set (k1 := 6) (k2 := 0) (Φ1 := Pay n 6) (ex_callJ (k1 := 0) (k2 := 6) rfl (exa_of (ea_2 (ed_var rfl) ed_int)) fun ds hd => by subst hd; exact ⟨_, rj (n, (6 : Int)) ⟨by dsimp only; omega, by dsimp only; omega, by dsimp only; omega⟩, fun d h => h⟩) fun d hd => ?_
      obtain ⟨g, rfl, hg, h6⟩ := hd
      have wok := c5 g hg h6
      refine sjx_weak (sjx_seq (k1 := 0) (k2 := 0) (sjx_sd (sd_if (j := false) (et_is (et_test (ed_op (ed_call (ea_2 (ed_var rfl) (ed_var rfl)) (rf (g, r) ⟨⟨rfl, fun i hi => by have := h6 i hi; omega⟩, by dsimp only; omega, by dsimp only; omega, c1, wok⟩)) (ed_call (ea_2 (ed_var rfl) (ed_var rfl)) (show RWorth [D.tup (g.map D.int), rw_ r] (fr (wor g r)) from rf (g, r) wok)) rv_neF)) ?_) (fun h => by cases h) fun _ => sd_next)) sjx_next) (by repeat (first | exact .nil | apply Wk.same | apply Wk.none))
      dsimp only
      rw [decide_eq_true rfl]; rfl
  · have := List.length_filter_le (fun r => mayPass r) (cornersOf (n, l))
    omega
  refine srx_sd (sd_set (ed_call (ea_1 (ed_var rfl)) (rf (n, l) (mean_ok dr)))) ?_
  have mpl := mean_pos_len dr
  have bs5 : n ≤ 5 := by omega
  refine srx_sd (sd_if (j := false) (et_is (et_and (k := false) (et_B (ed_call (ea_1 (ed_var rfl)) (show RMayPass [rw_ (meanOf n (cornersOf (n, l)))] (.bl (mayPass (meanOf n (cornersOf (n, l))))) from rf _ mpl))) fun hp => ?_) (by rw [Bool.and_false])) (fun h => by cases h) fun _ => sd_next) ?_
  · obtain ⟨c1, c2, c3⟩ := mean_row dr hp
    refine et_is (et_or (et_test (ed_op (ed_call (ea_2 (ed_var rfl) (ed_var rfl)) (show RIsCorner K [bk K (n, l), rw_ (meanOf n (cornersOf (n, l)))] _ from rf ((n, l), meanOf n (cornersOf (n, l))) ⟨⟨⟨snd, bs5⟩, cok⟩, mean_len, c1⟩)) (ed_op (ed_cb (ea_1 (ed_var rfl)) rc_lenT) ed_int rv_eqI) rv_neB)) fun _ => et_not (et_B (ed_call (ea_2 (ed_var rfl) (ed_var rfl)) (show RKeeps K [bk K (n, l), rw_ (meanOf n (cornersOf (n, l)))] _ from rf ((n, l), meanOf n (cornersOf (n, l))) ⟨mean_len, by dsimp only; omega, c1, c2⟩)))) ?_
    dsimp only
    rw [c3, told_mean bok (told_ne dr), List.length_map]
    have : decide (((cornersOf (n, l)).length : Int) = 1) = decide ((cornersOf (n, l)).length = 1) := decide_eq_decide.mpr (by omega)
    rw [this, decide_eq_true rfl]; rfl
  refine srx_sj (k1 := 14) (k2 := 0) (sjx_more (k := 7 * (List.range' 0 2).length) (sjx_for (k := 7) (enc := fun i : Nat => D.int (i : Nat)) (xs := List.range' 0 2) (id_range (n := 2) (ea_1 ed_int) (by decide)) fun i hi => ⟨_, _, tg_name, ?_⟩) (by simp)) (srx_one (srx_ret (ex_of ed_bl)))
  refine sjx_weak (sjx_seq (k1 := 7) (k2 := 0) (sjx_if (ebx_not (b := true) (ebx_B (ex_call (Ψ := fun ds => ∃ g : List Int, ds = [bk K (n, l), .tup ((cornersOf (n, l)).map rw_), rw_ (meanOf n (cornersOf (n, l))), py g] ∧ g.length = n ∧ ∀ i ∈ g, -5 ≤ i ∧ i ≤ 5) (exa_is (exa_cons (k1 := 0) (k2 := 7) (ex_of (ed_var rfl)) (exa_cons (k1 := 0) (k2 := 7) (ex_of (ed_var rfl)) (exa_cons (k1 := 0) (k2 := 7) (ex_of (ed_var rfl)) (exa_cons (k1 := 7) (k2 := 0) (ex_callJ (Φ := fun d => ∃ g : List Int, d = py g ∧ g.length = n ∧ ∀ i ∈ g, -5 ≤ i ∧ i ≤ 5) (k1 := 1) (k2 := 6) rfl (exa_cons (k1 := 0) (k2 := 1) (ex_of (ed_var rfl)) (exa_cons (k1 := 1) (k2 := 0) (ex_callJ (Φ := fun d => ∃ i : Int, d = .int i ∧ 1 ≤ i ∧ i ≤ 5) (k1 := 0) (k2 := 1) rfl (exa_of (ea_1 (ed_is (ed_lst (ea_cons ed_int (ea_cons ed_int (ea_cons ed_int (ea_cons ed_int ea_nil)))) (by simp)) (show _ = D.lst ([1, 1, 2, 5].map D.int) from rfl)))) fun ds hd => ?_) exa_nil)) fun ds hd => ?_) exa_nil)))) fun ds hd => ?_) fun ds hd => ?_))) sd_next) sjx_next) (by repeat (first | exact .nil | apply Wk.same | apply Wk.none))
  · subst hd
    refine ⟨_, rj [1, 1, 2, 5] ⟨by simp, by simp⟩, fun d ⟨i, hi, e⟩ => ⟨i, e, ?_⟩⟩
    simp at hi
    omega
  · obtain ⟨a, r, rfl, rfl, b, r2, rfl, ⟨i, rfl, i1, i5⟩, rfl⟩ := hd
    refine ⟨_, rj (n, i) ⟨by dsimp only; omega, by dsimp only; omega, by dsimp only; omega⟩, fun d ⟨g, e, hg, h⟩ => ⟨g, e, hg, fun k hk => ?_⟩⟩
    have := h k hk
    dsimp only at this
    omega
  · obtain ⟨a, r, rfl, rfl, b, r2, rfl, rfl, c, r3, rfl, rfl, e, r4, rfl, ⟨g, rfl, hg, h5⟩, rfl⟩ := hd
    exact ⟨g, rfl, hg, h5⟩
  · obtain ⟨g, rfl, hg, h5⟩ := hd
    obtain ⟨r0, rs, e, e', ht, pr⟩ := pr_ok dr hg h5
    refine ⟨_, rfl, ?_⟩
    rw [ht] at pr ⊢
    exact rf (PrArg.mk (n, l) r0 rs (meanOf n (r0 :: rs)) g e e') pr
theorem sc_law : FnScope ["_law_cells", "_law_turn"] ["_law_cells"] (defScope s_law) := ⟨rfl, rfl, rfl, by decide +kernel, rfl, by decide +kernel, by decide +kernel⟩
theorem ok_law (T : Facts K mg) {fd : FuncData} (hF : FunD K "law" "law" (defArgs s_law) (defBody s_law) (defScope s_law) [] [] (He.ga K "law") fd) : FnOk P w K mg base CX0 13 (He.ga K "law") fd ["_law_cells"] (spP K RLaw) := by
  have G__law_right : Ok P w K mg base 12 _ _ _ := ok__law_right T
  have G__law_jar : Ok P w K mg base 1 _ _ _ := ok__law_jar T
  refine rfF hF sc_law (fun _ => rfl) fun cdv A outer s H E hr x hx => ⟨_, (pss_one (ps_ret (pe_callB (call_allK (K := K) rfl rfl) rfl T.b_all (by decide +kernel) (pa_cons (pe_lc (own := [("_law_turn", 1)]) rfl sc_law.nd (pi_range1 rfl T.b_range (pa_cons (pe_callB (call_max2 rfl) rfl T.b_max (by decide +kernel) (pa_cons pe_int (pa_cons (pe_callB (call_min2 rfl) rfl T.b_min (by decide +kernel) (pa_cons (pe_callB (call_lenK (K := K) rfl) rfl T.b_len (by decide +kernel) (pa_cons (pv 0) pa_nil)) (pa_cons pe_int pa_nil))) pa_nil))) pa_nil)) (blkOk_by (N := ["_law_cells", "_law_turn"]) (sc := defScope s_law) (by decide +kernel)) (fun _ _ _ _ _ => (pg_name (i := 1) sc_law.nd rfl (by first | exact Or.inl rfl | exact Or.inr rfl))) (fun _ _ _ _ _ => pts_nil) (fun _ _ _ _ _ => (G__law_right.pe (hr.mono (by decide)) rfl T.m__law_right (pa_cons (G__law_jar.pe (hr.mono (by decide)) rfl T.m__law_jar (pa_cons (pv 0) (pa_cons (pv 1) pa_nil))) pa_nil)))) pa_nil)))), ?_⟩
  have hj : ∃ m : Nat, max (2 : Int) (min ((x.length : Nat) : Int) 3) = m ∧ m ≤ 3 := ⟨(max (2 : Int) (min ((x.length : Nat) : Int) 3)).toNat, by omega, by omega⟩
  obtain ⟨m, hm, m3⟩ := hj
  refine sd_seq_rt (sd_ret (ed_is (ed_cb (ea_1 (ed_is (ed_lcT (xs := List.range' 0 m) (enc := fun i : Nat => D.int (i : Nat)) (f := fun _ : Nat => D.bl true) (id_range (ea_1 (ed_is (ed_cb (ea_2 ed_int (ed_cb (ea_2 (ed_cb (ea_1 (ed_var rfl)) rc_lenS) ed_int) rc_min2)) rc_max2) (show _ = D.int (m : Nat) by rw [hm]))) (by omega)) (by simp; omega) fun i hi => ⟨_, _, tg_name, by simp, ?_⟩) (show _ = D.lst ((List.replicate m true).map D.bl) by rw [List.map_const', List.length_range', List.map_replicate]))) rc_all) ?_))
  · rw [List.mem_range'_1] at hi
    exact ed_jar (ea_2 (ed_var rfl) (ed_var rfl)) (⟨(x, i), rfl, by dsimp only; omega, rfl⟩ : RJar [D.sql x, D.int (i : Nat)] _) (fun l h => h) (⟨(), rfl, trivial, rfl⟩ : RRight [] _) (fun d h => h) (by decide)
  · congr 1
    rw [List.all_replicate]
    simp
end
end Top
end
set_option Elab.async false
set_option linter.all false
set_option maxRecDepth 100000
set_option maxHeartbeats 0
namespace Top
open PySem PySem.Spec PyProof.Rows L2 StX RZ Pu PySem.W
theorem facts_law {P : Program} {w : World} {K : PySem.W.Frag} {h : Heap} {mg : Str → Option Value} {f : Addr} (X : K.In h) (G : h.Ns mainGlobals mg) (hfa : mg ("law" : Str) = some (.ref f)) (c : obsX K = valX) :
    ∃ fd : FuncData, (∀ (s : Shared) (v : Value), BindsTo s fd ⟨[v], []⟩ [("_law_cells", v)]) ∧ ∀ base : Heap, K.In base → base.Ns mainGlobals mg → FnOk P w K mg base CX0 13 f fd ["_law_cells"] (spP K RLaw) := by
  have T := facts_of X G c
  have e := hfa.symm.trans T.m_law
  cases e
  obtain ⟨fd, F⟩ := T.F_law
  have b := FunD.bindsA (ps := ["_law_cells"]) F fun _ _ _ _ _ _ us hl => match us, hl with | [_], _ => rfl
  exact ⟨fd, fun s v => b s [v] rfl, fun base _ _ => ok_law T F⟩
end Top
open PySem PySem.W PySem.Calls PyProof.Rows
theorem PySem.Challenge.cw_softchances_k20_whole_corners_beside_wor_holds : PySem.Challenge.rw_softchances_k20_whole_corners_beside_wor.Holds := by
  w_on; o_law
  refine HandSHeadRun.head_any (r := OpenLaw.row PySem.Challenge.rw_softchances_k20_whole_corners_beside_wor) (q := view (OpenLaw.row PySem.Challenge.rw_softchances_k20_whole_corners_beside_wor).prog [108]) (H := Top.hk) (ob := Top.ob) (M := 9000) (loose := Top.loose) (d := HandSHeadRun.topDef (OpenLaw.row PySem.Challenge.rw_softchances_k20_whole_corners_beside_wor).prog 108) (kwd := []) Top.ob_eq
    (by kernel_rfl) (fun s => by kernel_rfl) Top.run (by kernel_rfl) (by kernel_rfl) (by kernel_rfl) (by rfl) (by first | assumption | decide +kernel) (by decide +kernel) ⟨rfl, rfl, rfl, rfl, rfl, by decide +kernel⟩ ?hw ?hc
  case hw => w_witness2
  case hc =>
    refine L2.walk_ofE (l := PySem.Challenge.rw_softchances_k20_whole_corners_beside_wor) (n := 63) (k := 13) (x := "_law_cells") (CX := L2.CX0) rfl (by decide) (by kernel_rfl) ⟨rfl, by decide, by decide⟩ ?F (fun _ _ _ _ z => z)
    intro w mg fa h Y G hmg0
    obtain ⟨K, KX, c⟩ := Y
    have hmg : mg ("law" : PySem.Str) = some (.ref fa) := by
      have e : (HandSHeadRun.topDef (OpenLaw.row PySem.Challenge.rw_softchances_k20_whole_corners_beside_wor).prog 108).name = ("law" : PySem.Str) := by kernel_rfl
      rw [← e]
      exact hmg0
    obtain ⟨fd, hb, hF⟩ := Top.facts_law (P := (PySem.Challenge.rw_softchances_k20_whole_corners_beside_wor).prog) (w := w) KX G hmg c
    exact ⟨K, fd, Pu.spP K Top.RLaw, KX, hb, fun H a ns hl _ hS => ⟨H, [.sql ns], .bl true, L2.Same.refl _, Pu.isL_cons ⟨a, rfl, hS⟩ Pu.isL_nil, ⟨ns, rfl, trivial, rfl⟩, fun v G' H' s i => Pu.is_bl i⟩, hF⟩
