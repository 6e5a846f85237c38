import PyProof.Rows.All
import Wide.All
import OpenK.AllK
import Wide.FinOn
import HandS.ForMost
import HandS.Wide
import HandS.Gcd
import HandS.Defaults
import HandS.Flow
import HandS.WideBits
import HandS.IsInst
import HandS.TupAny
import HandS.SortInts
import HandS.Walk
import HandS.Conv
import HandS.Zip
import KE.KTupSum
import KE.DataMinMax
import HandS.Style
import HandS.Property
import KE.GoesMore
import KE.GoesZip
import KE.GoesEnum
import PyProof.EnumMake
import PySem.Challenge.RW_paidforsigns_k78_whole_pooled_is_ties
import HandS.Base
import HandS.Call
import HandS.Ends
import HandS.More
import HandS.Words
import HandS.WordsExc
import HandS.Head0
import HandS.Head1
import HandS.Head2
import HandS.Head3
import HandS.HeadEnd
import HandS.HeadHook1
import HandS.HeadHook2
import HandS.HeadHook3
import HandS.HeadHook4
import HandS.HeadWalk
set_option Elab.async false
set_option linter.all false
set_option maxRecDepth 100000
set_option maxHeartbeats 0
namespace Slv
/-! sums, determinants -/
def sm : Nat → (Nat → Int) → Int
  | 0, _ => 0
  | n + 1, f => sm n f + f n
theorem sm_congr {f g : Nat → Int} : ∀ {n : Nat}, (∀ i, i < n → f i = g i) → sm n f = sm n g
  | 0, _ => rfl
  | n + 1, h => by
    show sm n f + f n = sm n g + g n
    rw [sm_congr (n := n) fun i hi => h i (by omega), h n (by omega)]
theorem sm_zero {f : Nat → Int} {n : Nat} (h : ∀ i, i < n → f i = 0) : sm n f = 0 := by
  induction n with
  | zero => rfl
  | succ n ih =>
    show sm n f + f n = 0
    rw [ih fun i hi => h i (by omega), h n (by omega)]
    rfl
theorem sm_add (f g : Nat → Int) : ∀ n : Nat, sm n (fun i => f i + g i) = sm n f + sm n g
  | 0 => rfl
  | n + 1 => by
    show sm n (fun i => f i + g i) + (f n + g n) = sm n f + f n + (sm n g + g n)
    rw [sm_add f g n]
    omega
theorem sm_sub (f g : Nat → Int) : ∀ n : Nat, sm n (fun i => f i - g i) = sm n f - sm n g
  | 0 => rfl
  | n + 1 => by
    show sm n (fun i => f i - g i) + (f n - g n) = sm n f + f n - (sm n g + g n)
    rw [sm_sub f g n]
    omega
theorem sm_mul (a : Int) (f : Nat → Int) : ∀ n : Nat, sm n (fun i => a * f i) = a * sm n f
  | 0 => (Int.mul_zero a).symm
  | n + 1 => by
    show sm n (fun i => a * f i) + a * f n = a * (sm n f + f n)
    rw [sm_mul a f n, Int.mul_add]
theorem sm_mulr (a : Int) (f : Nat → Int) (n : Nat) : sm n (fun i => f i * a) = sm n f * a := by
  rw [Int.mul_comm (sm n f) a, ← sm_mul]
  exact sm_congr fun i _ => Int.mul_comm _ _
theorem sm_one {f : Nat → Int} {k : Nat} : ∀ {n : Nat}, k < n → (∀ i, i < n → i ≠ k → f i = 0) → sm n f = f k
  | 0, h, _ => by omega
  | n + 1, h, z => by
    show sm n f + f n = f k
    by_cases e : k = n
    · rw [sm_zero fun i hi => z i (by omega) (by omega), e]
      omega
    · rw [sm_one (n := n) (by omega) fun i hi => z i (by omega), z n (by omega) (fun q => e q.symm)]
      omega
theorem sm_two {f : Nat → Int} {k l : Nat} : ∀ {n : Nat}, k < l → l < n → (∀ i, i < n → i ≠ k → i ≠ l → f i = 0) → sm n f = f k + f l
  | 0, _, h, _ => by omega
  | n + 1, hkl, h, z => by
    show sm n f + f n = f k + f l
    by_cases e : l = n
    · rw [sm_one (k := k) (by omega) fun i hi hk => z i (by omega) hk (by omega), e]
    · rw [sm_two (n := n) hkl (by omega) fun i hi => z i (by omega), z n (by omega) (by omega) (fun q => e q.symm)]
      omega
theorem sm_swap (f : Nat → Nat → Int) (m : Nat) : ∀ n : Nat, sm n (fun i => sm m (fun j => f i j)) = sm m (fun j => sm n (fun i => f i j))
  | 0 => (sm_zero fun _ _ => rfl).symm
  | n + 1 => by
    show sm n (fun i => sm m (fun j => f i j)) + sm m (fun j => f n j) = sm m (fun j => sm n (fun i => f i j) + f n j)
    rw [sm_swap f m n, sm_add]
theorem sm_le {f g : Nat → Int} : ∀ {n : Nat}, (∀ i, i < n → f i ≤ g i) → sm n f ≤ sm n g
  | 0, _ => Int.le_refl _
  | n + 1, h => by
    show sm n f + f n ≤ sm n g + g n
    have a := sm_le (n := n) fun i hi => h i (by omega)
    have b := h n (by omega)
    omega
theorem sm_nonneg {f : Nat → Int} {n : Nat} (h : ∀ i, i < n → 0 ≤ f i) : 0 ≤ sm n f := by
  have a := sm_le (f := fun _ => 0) h
  rw [sm_zero fun _ _ => rfl] at a
  exact a
theorem sm_head (f : Nat → Int) : ∀ n : Nat, sm (n + 1) f = f 0 + sm n (fun i => f (i + 1))
  | 0 => by
    show (0 : Int) + f 0 = f 0 + 0
    omega
  | n + 1 => by
    show sm (n + 1) f + f (n + 1) = f 0 + (sm n (fun i => f (i + 1)) + f (n + 1))
    rw [sm_head f n]
    omega
theorem sm_split (f : Nat → Int) (a : Nat) : ∀ b : Nat, sm (a + b) f = sm a f + sm b (fun i => f (a + i))
  | 0 => by
    show sm a f = sm a f + 0
    omega
  | b + 1 => by
    show sm (a + b) f + f (a + b) = sm a f + (sm b (fun i => f (a + i)) + f (a + b))
    rw [sm_split f a b]
    omega

abbrev Vec := Nat → Int
def put {α : Type} (v : Nat → α) (k : Nat) (w : α) : Nat → α := fun i => if i = k then w else v i
def skip {α : Type} (i : Nat) (v : Nat → α) : Nat → α := fun l => if l < i then v l else v (l + 1)
theorem put_same {α : Type} (v : Nat → α) (k : Nat) (w : α) : put v k w k = w := if_pos rfl
theorem put_ne {α : Type} (v : Nat → α) {k l : Nat} (w : α) (h : l ≠ k) : put v k w l = v l := if_neg h
theorem put_put {α : Type} (v : Nat → α) (k : Nat) (w u : α) : put (put v k w) k u = put v k u := by
  funext i; unfold put; split <;> rfl
theorem put_comm {α : Type} (v : Nat → α) {k l : Nat} (w u : α) (h : k ≠ l) : put (put v k w) l u = put (put v l u) k w := by
  funext i; unfold put
  by_cases a : i = l
  · rw [if_pos a, if_neg (by omega), if_pos a]
  · rw [if_neg a]
    by_cases b : i = k
    · rw [if_pos b, if_pos b]
    · rw [if_neg b, if_neg b, if_neg a]
theorem put_self {α : Type} (v : Nat → α) (k : Nat) : put v k (v k) = v := by
  funext i; unfold put; split
  · rename_i h; rw [h]
  · rfl
theorem skip_put_same {α : Type} (v : Nat → α) (k : Nat) (w : α) : skip k (put v k w) = skip k v := by
  funext l; unfold skip put
  split
  · rw [if_neg (by omega)]
  · rw [if_neg (by omega)]
theorem skip_put_ne {α : Type} (v : Nat → α) {i k : Nat} (w : α) (h : i ≠ k) : skip i (put v k w) = put (skip i v) (if k < i then k else k - 1) w := by
  funext l; unfold skip put
  by_cases a : k < i
  · by_cases b : l < i
    · simp only [if_pos a, if_pos b]
    · simp only [if_pos a, if_neg b, if_neg (show ¬ l + 1 = k by omega), if_neg (show ¬ l = k by omega)]
  · by_cases b : l < i
    · simp only [if_neg a, if_pos b, if_neg (show ¬ l = k by omega), if_neg (show ¬ l = k - 1 by omega)]
    · by_cases c : l + 1 = k
      · simp only [if_neg a, if_neg b, if_pos c, if_pos (show l = k - 1 by omega)]
      · simp only [if_neg a, if_neg b, if_neg c, if_neg (show ¬ l = k - 1 by omega)]
def sgn (i : Nat) : Int := if i % 2 = 0 then 1 else -1
theorem sgn_succ (i : Nat) : sgn (i + 1) = - sgn i := by
  unfold sgn
  by_cases h : i % 2 = 0
  · rw [if_pos h, if_neg (by omega)]
  · rw [if_neg h, if_pos (by omega)]; rfl
def det : Nat → Nat → (Nat → Vec) → Int
  | 0, _, _ => 1
  | n + 1, c, v => sm (n + 1) fun i => sgn i * v i c * det n (c + 1) (skip i v)
theorem det_lin : ∀ (n c : Nat) (v : Nat → Vec) (k : Nat) (a b : Int) (u w : Vec), k < n →
    det n c (put v k fun j => a * u j + b * w j) = a * det n c (put v k u) + b * det n c (put v k w)
  | 0, _, _, _, _, _, _, _, h => by omega
  | n + 1, c, v, k, a, b, u, w, h => by
    show sm (n + 1) _ = a * sm (n + 1) _ + b * sm (n + 1) _
    rw [← sm_mul, ← sm_mul, ← sm_add]
    refine sm_congr fun i hi => ?_
    by_cases e : i = k
    · subst e
      rw [skip_put_same, skip_put_same, skip_put_same, put_same, put_same, put_same]
      simp only [Int.mul_add, Int.add_mul, Int.mul_assoc, Int.mul_left_comm]
    · rw [skip_put_ne v _ e, skip_put_ne v _ e, skip_put_ne v _ e, put_ne v _ e, put_ne v _ e, put_ne v _ e,
        det_lin n (c + 1) (skip i v) _ a b u w (by split <;> omega)]
      simp only [Int.mul_add, Int.mul_assoc, Int.mul_left_comm]
theorem det_adj : ∀ (n c : Nat) (v : Nat → Vec) (k : Nat), k + 1 < n → v k = v (k + 1) → det n c v = 0
  | 0, _, _, _, h, _ => by omega
  | n + 1, c, v, k, h, e => by
    show sm (n + 1) _ = 0
    rw [sm_two (k := k) (l := k + 1) (by omega) h]
    · have q : skip k v = skip (k + 1) v := by
        funext l; unfold skip
        by_cases a : l < k
        · rw [if_pos a, if_pos (by omega)]
        · rw [if_neg a]
          by_cases b : l = k
          · rw [if_pos (by omega), b, e]
          · rw [if_neg (by omega)]
      rw [q, sgn_succ, e, Int.neg_mul, Int.neg_mul]
      omega
    · intro i hi h1 h2
      rw [det_adj n (c + 1) (skip i v) (if k < i then k else k - 1) (by split <;> omega), Int.mul_zero]
      unfold skip
      by_cases a : k < i
      · rw [if_pos a, if_pos a, if_pos (by omega)]; exact e
      · rw [if_neg a, if_neg (by omega), if_neg (by omega)]
        have e1 : k - 1 + 1 = k := by omega
        rw [e1]; exact e
theorem det_swap1 (n c : Nat) (v : Nat → Vec) (k : Nat) (a b : Vec) (h : k + 1 < n) : det n c (put (put v k a) (k + 1) b) = - det n c (put (put v k b) (k + 1) a) := by
  have key : ∀ x y : Vec, det n c (put (put v k x) (k + 1) y) = det n c (put (put v (k + 1) y) k x) := fun x y => by rw [put_comm v x y (by omega)]
  have z : ∀ x : Vec, det n c (put (put v k x) (k + 1) x) = 0 := fun x => det_adj n c _ k h (by rw [put_ne _ _ (by omega), put_same, put_same])
  have l1 : ∀ x : Vec, det n c (put (put v k x) (k + 1) fun j => 1 * a j + 1 * b j) = det n c (put (put v k x) (k + 1) a) + det n c (put (put v k x) (k + 1) b) := fun x => by
    rw [det_lin n c (put v k x) (k + 1) 1 1 a b h]; omega
  have l2 : ∀ y : Vec, det n c (put (put v k fun j => 1 * a j + 1 * b j) (k + 1) y) = det n c (put (put v k a) (k + 1) y) + det n c (put (put v k b) (k + 1) y) := fun y => by
    rw [key, key, key, det_lin n c (put v (k + 1) y) k 1 1 a b (by omega)]; omega
  have t := z fun j => 1 * a j + 1 * b j
  rw [l1, l2, l2, z a, z b] at t
  omega
theorem det_alt : ∀ (d n c : Nat) (v : Nat → Vec) (k : Nat), k + 1 + d < n → v k = v (k + 1 + d) → det n c v = 0
  | 0, n, c, v, k, h, e => det_adj n c v k h e
  | d + 1, n, c, v, k, h, e => by
    have q : v = put (put v (k + 1 + d) (v (k + 1 + d))) (k + 1 + d + 1) (v (k + 1 + d + 1)) := by rw [put_self, put_self]
    rw [q, det_swap1 n c v (k + 1 + d) _ _ (by omega)]
    rw [det_alt d n c _ k (by omega)]
    · rfl
    · rw [put_ne _ _ (by omega), put_ne _ _ (by omega), put_ne _ _ (by omega), put_same]
      exact e
theorem det_eq0 {n c : Nat} {v : Nat → Vec} {k l : Nat} (hk : k < n) (hl : l < n) (hkl : k ≠ l) (e : v k = v l) : det n c v = 0 := by
  by_cases a : k < l
  · obtain ⟨d, rfl⟩ : ∃ d, l = k + 1 + d := ⟨l - k - 1, by omega⟩
    exact det_alt d n c v k hl e
  · obtain ⟨d, rfl⟩ : ∃ d, k = l + 1 + d := ⟨k - l - 1, by omega⟩
    exact det_alt d n c v l hk e.symm
theorem det_swap {n c : Nat} {v : Nat → Vec} {k l : Nat} (a b : Vec) (hk : k < n) (hl : l < n) (hkl : k ≠ l) : det n c (put (put v k a) l b) = - det n c (put (put v k b) l a) := by
  have key : ∀ x y : Vec, det n c (put (put v k x) l y) = det n c (put (put v l y) k x) := fun x y => by rw [put_comm v x y hkl]
  have z : ∀ x : Vec, det n c (put (put v k x) l x) = 0 := fun x => det_eq0 hk hl hkl (by rw [put_ne _ _ hkl, put_same, put_same])
  have l1 : ∀ x : Vec, det n c (put (put v k x) l fun j => 1 * a j + 1 * b j) = det n c (put (put v k x) l a) + det n c (put (put v k x) l b) := fun x => by
    rw [det_lin n c (put v k x) l 1 1 a b hl]; omega
  have l2 : ∀ y : Vec, det n c (put (put v k fun j => 1 * a j + 1 * b j) l y) = det n c (put (put v k a) l y) + det n c (put (put v k b) l y) := fun y => by
    rw [key, key, key, det_lin n c (put v l y) k 1 1 a b hk]; omega
  have t := z fun j => 1 * a j + 1 * b j
  rw [l1, l2, l2, z a, z b] at t
  omega
/-- only coordinates below c + n count -/
theorem det_congr : ∀ {n c : Nat} {v w : Nat → Vec}, (∀ i j, i < n → c ≤ j → j < c + n → v i j = w i j) → det n c v = det n c w
  | 0, _, _, _, _ => rfl
  | n + 1, c, v, w, h => by
    show sm (n + 1) _ = sm (n + 1) _
    refine sm_congr fun i hi => ?_
    rw [h i c hi (by omega) (by omega), det_congr (n := n) (c := c + 1) (v := skip i v) (w := skip i w) fun l j hl h1 h2 => by
      unfold skip
      split
      · exact h l j (by omega) (by omega) (by omega)
      · exact h (l + 1) j (by omega) (by omega) (by omega)]
theorem det_id : ∀ (n c : Nat), det n c (fun i j => if j = c + i then 1 else 0) = 1
  | 0, _ => rfl
  | n + 1, c => by
    have e : skip 0 (fun (i : Nat) (j : Nat) => if j = c + i then (1 : Int) else 0) = fun i j => if j = (c + 1) + i then 1 else 0 := by
      funext l j; unfold skip
      rw [if_neg (by omega)]
      show (if j = c + (l + 1) then (1 : Int) else 0) = _
      by_cases a : j = c + (l + 1)
      · rw [if_pos a, if_pos (by omega)]
      · rw [if_neg a, if_neg (by omega)]
    show sm (n + 1) (fun i => sgn i * (if c = c + i then 1 else 0) * det n (c + 1) (skip i (fun (i : Nat) (j : Nat) => if j = c + i then (1 : Int) else 0))) = 1
    rw [sm_one (k := 0) (by omega)]
    · rw [e, det_id n (c + 1), if_pos (by omega)]
      rfl
    · intro i hi h0
      rw [if_neg (by omega), Int.mul_zero, Int.zero_mul]
theorem det_sm {n c : Nat} {v : Nat → Vec} {k : Nat} (hk : k < n) (a : Nat → Int) (u : Nat → Vec) : ∀ m : Nat,
    det n c (put v k fun j => sm m fun t => a t * u t j) = sm m fun t => a t * det n c (put v k (u t))
  | 0 => by
    have e := det_lin n c v k 0 0 (fun _ => 0) (fun _ => 0) hk
    show det n c (put v k fun _ => 0) = 0
    have e2 : (fun _ : Nat => (0 : Int) * 0 + 0 * 0) = fun _ => 0 := rfl
    rw [e2] at e
    omega
  | m + 1 => by
    have e := det_lin n c v k 1 (a m) (fun j => sm m fun t => a t * u t j) (u m) hk
    have e1 : (fun j => 1 * (sm m fun t => a t * u t j) + a m * u m j) = fun j => sm (m + 1) fun t => a t * u t j := by
      funext j
      show 1 * (sm m fun t => a t * u t j) + a m * u m j = (sm m fun t => a t * u t j) + a m * u m j
      omega
    rw [e1, det_sm hk a u m] at e
    rw [e]
    show 1 * _ + _ = (sm m fun t => a t * det n c (put v k (u t))) + a m * det n c (put v k (u m))
    omega
def fact : Nat → Nat
  | 0 => 1
  | n + 1 => (n + 1) * fact n
theorem sm_abs {f : Nat → Int} {b : Nat} : ∀ {n : Nat}, (∀ i, i < n → (f i).natAbs ≤ b) → (sm n f).natAbs ≤ n * b
  | 0, _ => by show (0 : Int).natAbs ≤ 0 * b; simp
  | n + 1, h => by
    have a := sm_abs (n := n) fun i hi => h i (by omega)
    have c := h n (by omega)
    have t := Int.natAbs_add_le (sm n f) (f n)
    show (sm n f + f n).natAbs ≤ (n + 1) * b
    rw [Nat.add_mul]
    omega
theorem sgn_abs (i : Nat) : (sgn i).natAbs = 1 := by
  unfold sgn; split <;> rfl
theorem det_abs : ∀ (n c : Nat) (v : Nat → Vec) (b : Nat), (∀ i j, i < n → c ≤ j → j < c + n → (v i j).natAbs ≤ b) → (det n c v).natAbs ≤ fact n * b ^ n
  | 0, _, _, _, _ => by show (1 : Int).natAbs ≤ 1 * 1; decide
  | n + 1, c, v, b, h => by
    have t : (det (n + 1) c v).natAbs ≤ (n + 1) * (b * (fact n * b ^ n)) := sm_abs fun i hi => by
      rw [Int.natAbs_mul, Int.natAbs_mul, sgn_abs, Nat.one_mul]
      refine Nat.mul_le_mul (h i c hi (by omega) (by omega)) (det_abs n (c + 1) (skip i v) b fun l j hl h1 h2 => ?_)
      unfold skip
      split
      · exact h l j (by omega) (by omega) (by omega)
      · exact h (l + 1) j (by omega) (by omega) (by omega)
    refine Nat.le_trans t (Nat.le_of_eq ?_)
    show (n + 1) * (b * (fact n * b ^ n)) = (n + 1) * fact n * (b ^ n * b)
    rw [Nat.mul_assoc, Nat.mul_left_comm b, Nat.mul_comm b]
end Slv

namespace Slv
/-! the tableau -/
def e0 : Vec := fun c => if c = 0 then 1 else 0
def B (V : Nat → Vec) (l : List Nat) : Nat → Vec := fun j => if j = 0 then e0 else V (l.getD (j - 1) 0)
def D (n : Nat) (V : Nat → Vec) (l : List Nat) : Int := det (n + 1) 0 (B V l)
def T (n : Nat) (V : Nat → Vec) (l : List Nat) (i k : Nat) : Int := det (n + 1) 0 (put (B V l) k (V i))
structure Pb (n N : Nat) (V : Nat → Vec) : Prop where
  hN : n < N
  unit : ∀ j, 1 ≤ j → j ≤ n → ∀ c, c ≤ n → V j c = if c = j then 1 else 0
  goal : ∀ k, 1 ≤ k → k ≤ n → 0 ≤ V 0 k
section
variable {n N : Nat} {V : Nat → Vec} {l : List Nat}
theorem B_set (hl : l.length = n) {cc r : Nat} (h1 : 1 ≤ cc) (h2 : cc ≤ n) : B V (l.set (cc - 1) r) = put (B V l) cc (V r) := by
  funext j
  unfold B put
  by_cases a : j = cc
  · subst a
    rw [if_neg (by omega), if_pos rfl, List.getD_eq_getElem?_getD, List.getElem?_set_self (by omega)]
    rfl
  · rw [if_neg a]
    by_cases b : j = 0
    · simp only [if_pos b]
    · simp only [if_neg b]
      rw [List.getD_eq_getElem?_getD, List.getD_eq_getElem?_getD, List.getElem?_set_ne (by omega)]
theorem det_B {k t : Nat} (hk : k ≤ n) (ht : t ≤ n) : det (n + 1) 0 (put (B V l) k (B V l t)) = if k = t then D n V l else 0 := by
  by_cases e : k = t
  · rw [if_pos e, ← e, put_self]; rfl
  · rw [if_neg e]
    exact det_eq0 (k := k) (l := t) (by omega) (by omega) e (by rw [put_same, put_ne _ _ (Ne.symm e)])
theorem T_basis {j k : Nat} (h1 : 1 ≤ j) (h2 : j ≤ n) (hk : k ≤ n) : T n V l (l.getD (j - 1) 0) k = if k = j then D n V l else 0 := by
  have e : B V l j = V (l.getD (j - 1) 0) := by unfold B; rw [if_neg (by omega)]
  unfold T
  rw [← e]
  exact det_B hk h2
theorem T_e0 {k : Nat} (hk : k ≤ n) : det (n + 1) 0 (put (B V l) k e0) = if k = 0 then D n V l else 0 := by
  have e : B V l 0 = e0 := rfl
  rw [← e]
  exact det_B hk (Nat.zero_le _)
def Cram (n N : Nat) (V : Nat → Vec) (l : List Nat) : Prop := ∀ i, i < N → ∀ c, c ≤ n → D n V l * V i c = sm (n + 1) fun k => T n V l i k * B V l k c
theorem D_set (hl : l.length = n) {cc r : Nat} (h1 : 1 ≤ cc) (h2 : cc ≤ n) : D n V (l.set (cc - 1) r) = T n V l r cc := by
  unfold D T
  rw [B_set hl h1 h2]
theorem T_set_cc (hl : l.length = n) {cc r : Nat} (i : Nat) (h1 : 1 ≤ cc) (h2 : cc ≤ n) : T n V (l.set (cc - 1) r) i cc = T n V l i cc := by
  unfold T
  rw [B_set hl h1 h2, put_put]
theorem T_set (hl : l.length = n) (hc : Cram n N V l) {cc r i k : Nat} (h1 : 1 ≤ cc) (h2 : cc ≤ n) (hi : i < N) (hk : k ≤ n) (hkc : k ≠ cc) :
    D n V l * T n V (l.set (cc - 1) r) i k = T n V l i k * T n V l r cc - T n V l i cc * T n V l r k := by
  have e1 : T n V (l.set (cc - 1) r) i k = det (n + 1) 0 (put (put (B V l) cc (V r)) k (V i)) := by
    unfold T
    rw [B_set hl h1 h2]
  have e2 : D n V l * det (n + 1) 0 (put (put (B V l) cc (V r)) k (V i)) = det (n + 1) 0 (put (put (B V l) cc (V r)) k fun c => sm (n + 1) fun t => T n V l i t * B V l t c) := by
    have a := det_lin (n + 1) 0 (put (B V l) cc (V r)) k (D n V l) 0 (V i) (V i) (by omega)
    rw [Int.zero_mul, Int.add_zero] at a
    rw [← a]
    refine det_congr fun x j hx _ hj => ?_
    unfold put
    by_cases q : x = k
    · rw [if_pos q, if_pos q]
      show D n V l * V i j + 0 * V i j = _
      rw [Int.zero_mul, Int.add_zero]
      exact hc i hi j (by omega)
    · rw [if_neg q, if_neg q]
  rw [e1, e2, det_sm (by omega)]
  have tk : det (n + 1) 0 (put (put (B V l) cc (V r)) k (B V l k)) = T n V l r cc := by
    have z : put (B V l) cc (V r) k = B V l k := put_ne _ _ hkc
    rw [← z, put_self]; rfl
  have tc : det (n + 1) 0 (put (put (B V l) cc (V r)) k (B V l cc)) = - T n V l r k := by
    rw [det_swap _ _ (by omega) (by omega) (Ne.symm hkc), put_self]; rfl
  have z0 : ∀ t, t < n + 1 → t ≠ k → t ≠ cc → T n V l i t * det (n + 1) 0 (put (put (B V l) cc (V r)) k (B V l t)) = 0 := fun t ht a b => by
    rw [det_eq0 (k := k) (l := t) (by omega) ht (Ne.symm a) (by rw [put_same, put_ne _ _ a, put_ne _ _ b]), Int.mul_zero]
  by_cases q : k < cc
  · rw [sm_two q (by omega) z0, tk, tc, Int.mul_neg]; omega
  · rw [sm_two (k := cc) (l := k) (by omega) (by omega) fun t ht a b => z0 t ht b a, tk, tc, Int.mul_neg]; omega
theorem Cram_set (hl : l.length = n) (hc : Cram n N V l) (hd : D n V l ≠ 0) {cc r : Nat} (h1 : 1 ≤ cc) (h2 : cc ≤ n) (hr : r < N) : Cram n N V (l.set (cc - 1) r) := fun i hi c hcn => by
  refine Int.eq_of_mul_eq_mul_left hd ?_
  rw [D_set hl h1 h2, ← sm_mul]
  have key : ∀ k, k < n + 1 → D n V l * (T n V (l.set (cc - 1) r) i k * B V (l.set (cc - 1) r) k c) =
      (T n V l r cc * (T n V l i k * B V l k c) - T n V l i cc * (T n V l r k * B V l k c)) + (if k = cc then D n V l * (T n V l i cc * V r c) else 0) := fun k hk => by
    rw [B_set hl h1 h2]
    by_cases e : k = cc
    · subst e
      rw [if_pos rfl, T_set_cc hl i h1 h2, put_same]
      have z : T n V l r k * (T n V l i k * B V l k c) = T n V l i k * (T n V l r k * B V l k c) := Int.mul_left_comm _ _ _
      omega
    · rw [if_neg e, put_ne _ _ e, ← Int.mul_assoc, T_set hl hc h1 h2 hi (by omega) e, Int.sub_mul, Int.add_zero]
      simp only [Int.mul_assoc, Int.mul_left_comm]
  rw [sm_congr key, sm_add, sm_sub, sm_mul, sm_mul, ← hc i hi c hcn, ← hc r hr c hcn, sm_one (k := cc) (by omega) fun t _ ht => if_neg ht, if_pos rfl]
  simp only [Int.mul_left_comm]
  omega
/-- each row is the same sum of the unknowns' rows -/
theorem T_rows (P : Pb n N V) {i k : Nat} (hk : k ≤ n) : T n V l i k = V i 0 * (if k = 0 then D n V l else 0) + sm n fun c => V i (c + 1) * T n V l (c + 1) k := by
  have e : T n V l i k = det (n + 1) 0 (put (B V l) k fun j => sm (n + 1) fun t => V i t * (if t = 0 then e0 else V t) j) := by
    unfold T
    refine det_congr fun x j hx _ hj => ?_
    unfold put
    by_cases q : x = k
    · rw [if_pos q, if_pos q]
      show V i j = sm (n + 1) fun t => V i t * (if t = 0 then e0 else V t) j
      rw [sm_one (k := j) (by omega)]
      · by_cases a : j = 0
        · rw [if_pos a, a]; show _ = _ * (if (0 : Nat) = 0 then (1 : Int) else 0); rw [if_pos rfl, Int.mul_one]
        · rw [if_neg a, P.unit j (by omega) (by omega) j (by omega), if_pos rfl, Int.mul_one]
      · intro t ht htj
        by_cases a : t = 0
        · rw [if_pos a]; show _ * (if j = 0 then (1 : Int) else 0) = 0; rw [if_neg (by omega), Int.mul_zero]
        · rw [if_neg a, P.unit t (by omega) (by omega) j (by omega), if_neg (by omega), Int.mul_zero]
    · rw [if_neg q, if_neg q]
  rw [e, det_sm (by omega), sm_head]
  rw [if_pos rfl, T_e0 hk]
  refine congrArg _ (sm_congr fun c hc => ?_)
  rw [if_neg (by omega)]; rfl
/-! ### the beginning -/
def l0 (n : Nat) : List Nat := (List.range n).map (· + 1)
theorem l0_getD {j : Nat} (h1 : 1 ≤ j) (h2 : j ≤ n) : (l0 n).getD (j - 1) 0 = j := by
  unfold l0
  rw [List.getD_eq_getElem?_getD, List.getElem?_map, List.getElem?_range (by omega)]
  show j - 1 + 1 = j
  omega
theorem B_l0 (P : Pb n N V) {j c : Nat} (hj : j ≤ n) (hc : c ≤ n) : B V (l0 n) j c = if c = j then 1 else 0 := by
  unfold B
  by_cases a : j = 0
  · rw [if_pos a, a]; rfl
  · rw [if_neg a, l0_getD (by omega) hj, P.unit j (by omega) hj c hc]
theorem D_l0 (P : Pb n N V) : D n V (l0 n) = 1 := by
  unfold D
  rw [← det_id (n + 1) 0]
  refine det_congr fun i j hi _ hj => ?_
  rw [B_l0 P (by omega) (by omega)]
  by_cases a : j = i
  · rw [if_pos a, if_pos (by omega)]
  · rw [if_neg a, if_neg (by omega)]
theorem T_l0 (P : Pb n N V) {i k : Nat} (hk : k ≤ n) : T n V (l0 n) i k = V i k := by
  have e : T n V (l0 n) i k = det (n + 1) 0 (put (B V (l0 n)) k fun j => sm (n + 1) fun t => V i t * B V (l0 n) t j) := by
    unfold T
    refine det_congr fun x j hx _ hj => ?_
    unfold put
    by_cases q : x = k
    · rw [if_pos q, if_pos q, sm_one (k := j) (by omega)]
      · rw [B_l0 P (by omega) (by omega), if_pos rfl, Int.mul_one]
      · intro t ht htj
        rw [B_l0 P (by omega) (by omega), if_neg (Ne.symm htj), Int.mul_zero]
    · rw [if_neg q, if_neg q]
  rw [e, det_sm (by omega), sm_one (k := k) (by omega)]
  · rw [det_B hk hk, if_pos rfl, D_l0 P, Int.mul_one]
  · intro t ht htk
    rw [det_B hk (by omega), if_neg (Ne.symm htk), Int.mul_zero]
theorem Cram_l0 (P : Pb n N V) : Cram n N V (l0 n) := fun i hi c hc => by
  rw [D_l0 P, Int.one_mul, sm_one (k := c) (by omega)]
  · rw [T_l0 P hc, B_l0 P hc hc, if_pos rfl, Int.mul_one]
  · intro t ht htc
    rw [B_l0 P (by omega) hc, if_neg (Ne.symm htc), Int.mul_zero]
/-! ### the order -/
def LP (N : Nat) (f : Nat → Int) : Prop := ∃ i, i < N ∧ 0 < f i ∧ ∀ j, j < i → f j = 0
theorem LP.congr {f g : Nat → Int} (h : LP N f) (e : ∀ i, i < N → f i = g i) : LP N g := by
  obtain ⟨i, hi, hp, hz⟩ := h
  exact ⟨i, hi, by rw [← e i hi]; exact hp, fun j hj => by rw [← e j (by omega)]; exact hz j hj⟩
theorem LP.first {f : Nat → Int} (h : LP N f) : 0 ≤ f 0 := by
  obtain ⟨i, hi, hp, hz⟩ := h
  by_cases a : i = 0
  · rw [a] at hp; omega
  · rw [hz 0 (by omega)]; omega
theorem LP.scale {f : Nat → Int} {a : Int} (ha : 0 < a) (h : LP N f) : LP N fun i => a * f i := by
  obtain ⟨i, hi, hp, hz⟩ := h
  exact ⟨i, hi, Int.mul_pos ha hp, fun j hj => by show a * f j = 0; rw [hz j hj, Int.mul_zero]⟩
theorem LP.unscale {f : Nat → Int} {a : Int} (ha : 0 < a) (h : LP N fun i => a * f i) : LP N f := by
  obtain ⟨i, hi, hp, hz⟩ := h
  refine ⟨i, hi, Int.pos_of_mul_pos_right (show 0 < a * f i from hp) ha, fun j hj => ?_⟩
  · rcases Int.mul_eq_zero.mp (hz j hj) with q | q
    · omega
    · exact q
theorem LP.add {f g : Nat → Int} (h : LP N f) (h' : LP N g) : LP N fun i => f i + g i := by
  obtain ⟨i, hi, hp, hz⟩ := h
  obtain ⟨k, hk, hq, hw⟩ := h'
  by_cases a : i < k
  · exact ⟨i, hi, by show 0 < f i + g i; rw [hw i a]; omega, fun j hj => by show f j + g j = 0; rw [hz j hj, hw j (by omega)]; rfl⟩
  · by_cases b : k < i
    · exact ⟨k, hk, by show 0 < f k + g k; rw [hz k b]; omega, fun j hj => by show f j + g j = 0; rw [hz j (by omega), hw j hj]; rfl⟩
    · have e : i = k := by omega
      subst e
      exact ⟨i, hi, by show 0 < f i + g i; omega, fun j hj => by show f j + g j = 0; rw [hz j hj, hw j hj]; rfl⟩
theorem LP.addN {f g : Nat → Int} {b : Int} (h : LP N f) (hb : 0 ≤ b) (h' : LP N g) : LP N fun i => f i + b * g i := by
  by_cases e : b = 0
  · subst e
    exact h.congr fun i _ => by rw [Int.zero_mul, Int.add_zero]
  · exact h.add (h'.scale (by omega))
theorem LP.tri (f : Nat → Int) : ∀ N : Nat, LP N f ∨ LP N (fun i => - f i) ∨ ∀ i, i < N → f i = 0
  | 0 => .inr (.inr fun i hi => by omega)
  | N + 1 => by
    rcases LP.tri f N with ⟨i, hi, h⟩ | ⟨i, hi, h⟩ | h
    · exact .inl ⟨i, by omega, h⟩
    · exact .inr (.inl ⟨i, by omega, h⟩)
    · rcases Int.lt_trichotomy (f N) 0 with q | q | q
      · exact .inr (.inl ⟨N, by omega, by show 0 < - f N; omega, fun j hj => by show - f j = 0; rw [h j hj]; rfl⟩)
      · refine .inr (.inr fun i hi => ?_)
        by_cases e : i = N
        · rw [e]; exact q
        · exact h i (by omega)
      · exact .inl ⟨N, by omega, q, fun j hj => h j hj⟩
theorem LP.irr (h : LP N fun _ => 0) : False := by
  obtain ⟨i, hi, hp, _⟩ := h
  have q : (0 : Int) < 0 := hp
  omega
structure Good (n N : Nat) (V : Nat → Vec) (l : List Nat) : Prop where
  len : l.length = n
  low : ∀ x ∈ l, 1 ≤ x
  top : ∀ x ∈ l, x < N
  pos : 0 < D n V l
  cram : Cram n N V l
  lex : ∀ k, 1 ≤ k → k ≤ n → LP N fun i => T n V l i k
theorem Good.getD (G : Good n N V l) {j : Nat} (h1 : 1 ≤ j) (h2 : j ≤ n) : 1 ≤ l.getD (j - 1) 0 ∧ l.getD (j - 1) 0 < N := by
  have h : j - 1 < l.length := by rw [G.len]; omega
  rw [List.getD_eq_getElem?_getD, List.getElem?_eq_getElem h]
  exact ⟨G.low _ (List.getElem_mem h), G.top _ (List.getElem_mem h)⟩
theorem good_l0 (P : Pb n N V) : Good n N V (l0 n) where
  len := by unfold l0; simp
  low := fun x hx => by unfold l0 at hx; simp at hx; omega
  top := fun x hx => by have := P.hN; unfold l0 at hx; simp at hx; omega
  pos := by rw [D_l0 P]; decide
  cram := Cram_l0 P
  lex := fun k h1 h2 => by
    refine LP.congr (f := fun i => V i k) ?_ fun i _ => (T_l0 P h2).symm
    have hN := P.hN
    have z : ∀ j, 1 ≤ j → j < k → V j k = 0 := fun j a b => by rw [P.unit j a (by omega) k h2, if_neg (by omega)]
    by_cases e : V 0 k = 0
    · refine ⟨k, by omega, ?_, fun j hj => ?_⟩
      · show 0 < V k k
        rw [P.unit k h1 h2 k h2, if_pos rfl]; decide
      · by_cases a : j = 0
        · rw [a]; exact e
        · exact z j (by omega) hj
    · have := P.goal k h1 h2
      exact ⟨0, by omega, by show 0 < V 0 k; omega, fun j hj => by omega⟩
theorem Good.step (G : Good n N V l) {cc r : Nat} (h1 : 1 ≤ cc) (h2 : cc ≤ n) (hr1 : 1 ≤ r) (hr : r < N) (hp : 0 < T n V l r cc)
    (best : ∀ k, 1 ≤ k → k ≤ n → 0 < T n V l r k → ¬ LP N fun i => T n V l i cc * T n V l r k - T n V l i k * T n V l r cc) : Good n N V (l.set (cc - 1) r) where
  len := by rw [List.length_set]; exact G.len
  low := fun x hx => by
    rcases List.mem_or_eq_of_mem_set hx with q | q
    · exact G.low x q
    · omega
  top := fun x hx => by
    rcases List.mem_or_eq_of_mem_set hx with q | q
    · exact G.top x q
    · omega
  pos := by rw [D_set G.len h1 h2]; exact hp
  cram := Cram_set G.len G.cram (by have := G.pos; omega) h1 h2 hr
  lex := fun k k1 k2 => by
    by_cases e : k = cc
    · subst e
      exact (G.lex k k1 k2).congr fun i _ => (T_set_cc G.len i h1 h2).symm
    · refine LP.unscale G.pos ?_
      refine LP.congr (f := fun i => T n V l i k * T n V l r cc - T n V l i cc * T n V l r k) ?_ fun i hi => (T_set G.len G.cram h1 h2 hi k2 e).symm
      by_cases q : 0 < T n V l r k
      · rcases LP.tri (fun i => T n V l i k * T n V l r cc - T n V l i cc * T n V l r k) N with z | z | z
        · exact z
        · exact absurd (z.congr fun i _ => by omega) (best k k1 k2 q)
        · have w := z _ (G.getD k1 k2).2
          rw [T_basis k1 k2 k2, T_basis k1 k2 h2, if_pos rfl, if_neg (Ne.symm e), Int.zero_mul, Int.sub_zero] at w
          have := Int.mul_pos G.pos hp
          omega
      · refine LP.congr (f := fun i => T n V l r cc * T n V l i k + (- T n V l r k) * T n V l i cc) (((G.lex k k1 k2).scale hp).addN (by omega) (G.lex cc h1 h2)) fun i _ => ?_
        rw [Int.neg_mul, Int.mul_comm (T n V l r cc), Int.mul_comm (T n V l r k)]
        omega
/-! ### the measure -/
def Less (n N : Nat) (V : Nat → Vec) (l l' : List Nat) : Prop := LP N fun i => T n V l' i 0 * D n V l - T n V l i 0 * D n V l'
theorem less_step (G : Good n N V l) {cc r : Nat} (h1 : 1 ≤ cc) (h2 : cc ≤ n) (hr : r < N) (hn : T n V l r 0 < 0) : Less n N V l (l.set (cc - 1) r) := by
  refine LP.congr (f := fun i => (- T n V l r 0) * T n V l i cc) ((G.lex cc h1 h2).scale (by omega)) fun i hi => ?_
  rw [D_set G.len h1 h2, Int.mul_comm (T n V (l.set (cc - 1) r) i 0), T_set G.len G.cram h1 h2 hi (Nat.zero_le _) (by omega), Int.neg_mul, Int.mul_comm (T n V l r 0)]
  omega
theorem less_trans {l1 l2 : List Nat} (h0 : 0 < D n V l) (hd : 0 < D n V l1) (h2 : 0 < D n V l2) (a : Less n N V l l1) (b : Less n N V l1 l2) : Less n N V l l2 := by
  refine LP.unscale hd (LP.congr ((LP.scale h2 a).add (LP.scale h0 b)) fun i _ => ?_)
  show D n V l2 * (T n V l1 i 0 * D n V l - T n V l i 0 * D n V l1) + D n V l * (T n V l2 i 0 * D n V l1 - T n V l1 i 0 * D n V l2) = D n V l1 * (T n V l2 i 0 * D n V l - T n V l i 0 * D n V l2)
  simp only [Int.mul_sub]
  have e1 : D n V l2 * (T n V l1 i 0 * D n V l) = D n V l * (T n V l1 i 0 * D n V l2) := by simp only [Int.mul_comm, Int.mul_left_comm]
  have e2 : D n V l2 * (T n V l i 0 * D n V l1) = D n V l1 * (T n V l i 0 * D n V l2) := by simp only [Int.mul_comm, Int.mul_left_comm]
  have e3 : D n V l * (T n V l2 i 0 * D n V l1) = D n V l1 * (T n V l2 i 0 * D n V l) := by simp only [Int.mul_comm, Int.mul_left_comm]
  omega
theorem less_irr (h : Less n N V l l) : False := LP.irr (h.congr fun i _ => by omega)
def allL : Nat → Nat → List (List Nat)
  | 0, _ => [[]]
  | n + 1, N => (List.range N).flatMap fun x => (allL n N).map (x :: ·)
theorem mem_allL : ∀ {n : Nat} {l : List Nat}, l.length = n → (∀ x ∈ l, x < N) → l ∈ allL n N
  | 0, l, h, _ => by
    have e : l = [] := List.length_eq_zero_iff.mp h
    rw [e]; exact List.mem_singleton.mpr rfl
  | n + 1, [], h, _ => by cases h
  | n + 1, x :: l, h, ht => by
    refine List.mem_flatMap.mpr ⟨x, List.mem_range.mpr (ht x List.mem_cons_self), List.mem_map.mpr ⟨l, ?_, rfl⟩⟩
    exact mem_allL (by simpa using h) fun y hy => ht y (List.mem_cons_of_mem _ hy)
theorem countP_lt {α : Type} {p q : α → Bool} (h : ∀ x, p x = true → q x = true) : ∀ {l : List α} {y : α}, y ∈ l → q y = true → p y = false → l.countP p < l.countP q
  | [], y, hm, _, _ => by cases hm
  | x :: l, y, hm, hq, hp => by
    rw [List.countP_cons, List.countP_cons]
    have mono : l.countP p ≤ l.countP q := List.countP_mono_left fun x _ => h x
    rcases List.mem_cons.mp hm with e | hm
    · rw [← e, hq, hp]
      simp
      omega
    · have ih := countP_lt h hm hq hp
      have : (if p x = true then 1 else 0) ≤ (if q x = true then 1 else 0) := by
        by_cases a : p x = true
        · rw [if_pos a, if_pos (h x a)]; exact Nat.le_refl _
        · rw [if_neg a]; exact Nat.zero_le _
      omega
open Classical in
noncomputable def mu (n N : Nat) (V : Nat → Vec) (l : List Nat) : Nat := (allL n N).countP fun l' => decide (0 < D n V l' ∧ Less n N V l l')
open Classical in
theorem mu_step (G : Good n N V l) {l' : List Nat} (G' : Good n N V l') (h : Less n N V l l') : mu n N V l' < mu n N V l := by
  unfold mu
  refine countP_lt (y := l') (fun x hx => ?_) (mem_allL G'.len G'.top) ?_ ?_
  · have q := of_decide_eq_true hx
    exact decide_eq_true ⟨q.1, less_trans G.pos G'.pos q.1 h q.2⟩
  · exact decide_eq_true ⟨G'.pos, h⟩
  · exact decide_eq_false fun q => less_irr q.2
end
end Slv

namespace Slv
section
variable {n N m : Nat} {V : Nat → Vec} {l : List Nat}
/-! ### which comes before -/
def Bef (N : Nat) (t : Nat → Nat → Int) (r k b : Nat) : Prop := LP N fun i => t i b * t r k - t i k * t r b
theorem bef_irr {t : Nat → Nat → Int} {r k : Nat} : ¬ Bef N t r k k := fun h => LP.irr (h.congr fun i _ => by omega)
theorem bef_trans {t : Nat → Nat → Int} {r k c b : Nat} (hk : 0 < t r k) (hc : 0 < t r c) (hb : 0 < t r b) (h1 : Bef N t r k c) (h2 : Bef N t r c b) : Bef N t r k b := by
  refine LP.unscale hc (LP.congr ((LP.scale hk h2).add (LP.scale hb h1)) fun i _ => ?_)
  show t r k * (t i b * t r c - t i c * t r b) + t r b * (t i c * t r k - t i k * t r c) = t r c * (t i b * t r k - t i k * t r b)
  simp only [Int.mul_sub]
  have e1 : t r k * (t i b * t r c) = t r c * (t i b * t r k) := by simp only [Int.mul_comm, Int.mul_left_comm]
  have e2 : t r k * (t i c * t r b) = t r b * (t i c * t r k) := by simp only [Int.mul_comm, Int.mul_left_comm]
  have e3 : t r b * (t i k * t r c) = t r c * (t i k * t r b) := by simp only [Int.mul_comm, Int.mul_left_comm]
  omega
/-- behind the columns below c -/
def BestTo (N : Nat) (t : Nat → Nat → Int) (r c b : Nat) : Prop :=
  (b = 0 ∧ ∀ k, 1 ≤ k → k < c → t r k ≤ 0) ∨ (1 ≤ b ∧ b < c ∧ 0 < t r b ∧ ∀ k, 1 ≤ k → k < c → 0 < t r k → ¬ Bef N t r k b)
theorem best_start {t : Nat → Nat → Int} {r : Nat} : BestTo N t r 1 0 := .inl ⟨rfl, fun k a b => by omega⟩
theorem best_not {t : Nat → Nat → Int} {r c b : Nat} (h : BestTo N t r c b) (hc : t r c ≤ 0) : BestTo N t r (c + 1) b := by
  rcases h with ⟨e, h⟩ | ⟨h1, h2, h3, h⟩
  · refine .inl ⟨e, fun k a q => ?_⟩
    by_cases z : k = c
    · rw [z]; exact hc
    · exact h k a (by omega)
  · refine .inr ⟨h1, by omega, h3, fun k a q p => ?_⟩
    by_cases z : k = c
    · rw [z] at p; omega
    · exact h k a (by omega) p
theorem best_keep {t : Nat → Nat → Int} {r c b : Nat} (h : BestTo N t r c b) (hb : b ≠ 0) (hn : ¬ Bef N t r c b) : BestTo N t r (c + 1) b := by
  rcases h with ⟨e, h⟩ | ⟨h1, h2, h3, h⟩
  · exact absurd e hb
  · refine .inr ⟨h1, by omega, h3, fun k a q p => ?_⟩
    by_cases z : k = c
    · rw [z]; exact hn
    · exact h k a (by omega) p
theorem best_new {t : Nat → Nat → Int} {r c b : Nat} (h : BestTo N t r c b) (h1 : 1 ≤ c) (hc : 0 < t r c) (hn : b = 0 ∨ Bef N t r c b) : BestTo N t r (c + 1) c := by
  refine .inr ⟨h1, by omega, hc, fun k a q p => ?_⟩
  by_cases z : k = c
  · rw [z]; exact bef_irr
  · rcases h with ⟨e, h⟩ | ⟨b1, b2, b3, h⟩
    · have := h k a (by omega); omega
    · intro w
      rcases hn with e | hn
      · omega
      · exact h k a (by omega) p (bef_trans p hc b3 w hn)
/-! ### the basis as a set -/
theorem Good.inj (G : Good n N V l) {j k : Nat} (hj : j < n) (hk : k < n) (e : l.getD j 0 = l.getD k 0) : j = k := by
  have a := T_basis (n := n) (V := V) (l := l) (j := j + 1) (k := j + 1) (by omega) (by omega) (by omega)
  have b := T_basis (n := n) (V := V) (l := l) (j := k + 1) (k := j + 1) (by omega) (by omega) (by omega)
  rw [if_pos rfl] at a
  rw [Nat.add_sub_cancel] at a b
  rw [e] at a
  rw [a] at b
  have p := G.pos
  by_cases q : j + 1 = k + 1
  · omega
  · rw [if_neg q] at b; omega
theorem Good.get (G : Good n N V l) {j : Nat} (h2 : j < n) : 1 ≤ l.getD j 0 ∧ l.getD j 0 < N := G.getD (j := j + 1) (by omega) (by omega)
def ind (n : Nat) (l : List Nat) (u : Nat) : Int := sm n fun j => if l.getD j 0 = u then 1 else 0
theorem ind_at (G : Good n N V l) {j : Nat} (hj : j < n) (f : Nat → Int) : sm n (fun k => if l.getD k 0 = l.getD j 0 then f k else 0) = f j := by
  rw [sm_one (k := j) hj, if_pos rfl]
  intro i hi h
  rw [if_neg fun e => h (G.inj hi hj e)]
theorem sel (G : Good n N V l) (u : Nat) (f : Nat → Int) : (∃ j, j < n ∧ l.getD j 0 = u ∧ sm n (fun k => if l.getD k 0 = u then f k else 0) = f j) ∨ ((∀ j, j < n → l.getD j 0 ≠ u) ∧ sm n (fun k => if l.getD k 0 = u then f k else 0) = 0) := by
  by_cases h : ∃ j, j < n ∧ l.getD j 0 = u
  · obtain ⟨j, hj, e⟩ := h
    refine .inl ⟨j, hj, e, ?_⟩
    rw [← e]; exact ind_at G hj f
  · have z : ∀ j, j < n → l.getD j 0 ≠ u := fun j hj e => h ⟨j, hj, e⟩
    exact .inr ⟨z, sm_zero fun i hi => if_neg (z i hi)⟩
theorem ind_le (G : Good n N V l) (u : Nat) : 0 ≤ ind n l u ∧ ind n l u ≤ 1 := by
  unfold ind
  rcases sel G u fun _ => 1 with ⟨j, _, _, e⟩ | ⟨_, e⟩ <;> rw [e] <;> decide
theorem sm_le1 {f : Nat → Int} (h : ∀ i, i < n → f i ≤ 1) : sm n f ≤ n := by
  have a := sm_le (g := fun _ => 1) h
  have b : ∀ k : Nat, sm k (fun _ => 1) = k := fun k => by
    induction k with
    | zero => rfl
    | succ k ih =>
      show sm k (fun _ => 1) + 1 = _
      rw [ih]; omega
  rw [b] at a
  exact a
theorem sm_const1 : ∀ k : Nat, sm k (fun _ => 1) = k
  | 0 => rfl
  | k + 1 => by
    show sm k (fun _ => 1) + 1 = _
    rw [sm_const1 k]; omega
/-- all of the basis are unknowns or slacks -/
theorem ind_all (G : Good n (n + 1 + m) V l) : sm n (fun k => ind n l (k + 1)) + sm m (fun s => ind n l (n + 1 + s)) = n := by
  have a : sm (n + m) (fun k => ind n l (k + 1)) = n := by
    show sm (n + m) (fun k => sm n fun j => if l.getD j 0 = k + 1 then 1 else 0) = n
    rw [sm_swap (fun k j => if l.getD j 0 = k + 1 then 1 else 0)]
    rw [sm_congr (g := fun _ => 1), sm_const1]
    intro j hj
    have q := G.get hj
    rw [sm_one (k := l.getD j 0 - 1) (by omega), if_pos (by omega)]
    intro i hi hne
    rw [if_neg (by omega)]
  rw [sm_split] at a
  rw [← a]
  refine congrArg _ (sm_congr fun s _ => ?_)
  rw [show n + 1 + s = n + s + 1 by omega]
theorem ind_slack (G : Good n (n + 1 + m) V l) : sm n (fun k => 1 - ind n l (k + 1)) = sm m (fun s => ind n l (n + 1 + s)) := by
  have a := ind_all G
  rw [sm_sub, sm_const1]
  omega
/-! ### the weights -/
def wt (n : Nat) (l : List Nat) (f : Nat → Int) (s : Nat) : Int := sm n fun j => if l.getD j 0 = n + 1 + s then f (j + 1) else 0
theorem wt_nonneg {f : Nat → Int} (hf : ∀ k, 1 ≤ k → k ≤ n → 0 ≤ f k) (s : Nat) : 0 ≤ wt n l f s := sm_nonneg fun j hj => by
  by_cases q : l.getD j 0 = n + 1 + s
  · rw [if_pos q]; exact hf _ (by omega) (by omega)
  · rw [if_neg q]; exact Int.le_refl _
theorem wt_pos (G : Good n N V l) (f : Nat → Int) (s : Nat) : (if 0 < wt n l f s then (1 : Int) else 0) ≤ ind n l (n + 1 + s) := by
  have b := ind_le G (n + 1 + s)
  by_cases q : 0 < wt n l f s
  · rw [if_pos q]
    unfold wt at q
    rcases sel G (n + 1 + s) fun j => f (j + 1) with ⟨j, hj, e, _⟩ | ⟨_, z⟩
    · have c := ind_at G hj fun _ => 1
      rw [e] at c
      unfold ind
      rw [c]; exact Int.le_refl _
    · rw [z] at q; omega
  · rw [if_neg q]; exact b.1
theorem dual (G : Good n (n + 1 + m) V l) {i c : Nat} (hi : i < n + 1 + m) (hc : c ≤ n) :
    D n V l * V i c = T n V l i 0 * e0 c + (sm m (fun s => wt n l (T n V l i) s * V (n + 1 + s) c) + sm n fun j => if l.getD j 0 ≤ n then T n V l i (j + 1) * V (l.getD j 0) c else 0) := by
  rw [G.cram i hi c hc, sm_head]
  refine congrArg _ ?_
  have e : sm m (fun s => wt n l (T n V l i) s * V (n + 1 + s) c) = sm n fun j => if l.getD j 0 ≤ n then 0 else T n V l i (j + 1) * V (l.getD j 0) c := by
    rw [sm_congr (g := fun s => sm n fun j => if l.getD j 0 = n + 1 + s then T n V l i (j + 1) * V (l.getD j 0) c else 0)]
    · rw [sm_swap (fun s j => if l.getD j 0 = n + 1 + s then T n V l i (j + 1) * V (l.getD j 0) c else 0)]
      refine sm_congr fun j hj => ?_
      have q := G.get hj
      by_cases a : l.getD j 0 ≤ n
      · rw [if_pos a]; exact sm_zero fun s _ => if_neg (by omega)
      · rw [if_neg a, sm_one (k := l.getD j 0 - (n + 1)) (by omega), if_pos (by omega)]
        intro s hs hne
        rw [if_neg (by omega)]
    · intro s hs
      unfold wt
      rw [← sm_mulr]
      refine sm_congr fun j hj => ?_
      by_cases a : l.getD j 0 = n + 1 + s
      · rw [if_pos a, if_pos a, a]
      · rw [if_neg a, if_neg a, Int.zero_mul]
  rw [e, ← sm_add]
  refine sm_congr fun j hj => ?_
  show T n V l i (j + 1) * V (l.getD (j + 1 - 1) 0) c = _
  rw [Nat.add_sub_cancel]
  by_cases a : l.getD j 0 ≤ n
  · rw [if_pos a, if_pos a]; omega
  · rw [if_neg a, if_neg a]; omega
end
/-! ### a wish -/
def VV (n : Nat) (goal : Nat → Int) (coef : Nat → Nat → Int) (bound : Nat → Int) : Nat → Vec := fun i c =>
  if i = 0 then (if c = 0 then 0 else goal (c - 1)) else if i ≤ n then (if c = i then 1 else 0) else (if c = 0 then - bound (i - (n + 1)) else coef (i - (n + 1)) (c - 1))
section
variable {n m : Nat} {goal : Nat → Int} {coef : Nat → Nat → Int} {bound : Nat → Int} {l : List Nat}
theorem VV_goal {c : Nat} : VV n goal coef bound 0 (c + 1) = goal c := by
  unfold VV; rw [if_pos rfl, if_neg (by omega)]; rfl
theorem VV_goal0 : VV n goal coef bound 0 0 = 0 := by
  unfold VV; rw [if_pos rfl, if_pos rfl]
theorem VV_unit {j c : Nat} (h1 : 1 ≤ j) (h2 : j ≤ n) : VV n goal coef bound j c = if c = j then 1 else 0 := by
  unfold VV; rw [if_neg (by omega), if_pos h2]
theorem VV_bound {s : Nat} : VV n goal coef bound (n + 1 + s) 0 = - bound s := by
  unfold VV; rw [if_neg (by omega), if_neg (by omega), if_pos rfl, Nat.add_sub_cancel_left]
theorem VV_coef {s c : Nat} : VV n goal coef bound (n + 1 + s) (c + 1) = coef s c := by
  unfold VV; rw [if_neg (by omega), if_neg (by omega), if_neg (by omega), Nat.add_sub_cancel_left]; rfl
theorem pb_of (hg : ∀ k, k < n → 0 ≤ goal k) : Pb n (n + 1 + m) (VV n goal coef bound) where
  hN := by omega
  unit := fun j h1 h2 c _ => VV_unit h1 h2
  goal := fun k h1 h2 => by
    obtain ⟨c, rfl⟩ : ∃ c, k = c + 1 := ⟨k - 1, by omega⟩
    rw [VV_goal]; exact hg c (by omega)
structure Grt (n m : Nat) (goal : Nat → Int) (coef : Nat → Nat → Int) (bound : Nat → Int) (d v : Int) (x w : Nat → Int) : Prop where
  pos : 0 < d
  x0 : ∀ k, k < n → 0 ≤ x k
  w0 : ∀ s, s < m → 0 ≤ w s
  rows : ∀ s, s < m → bound s * d ≤ sm n fun k => coef s k * x k
  cols : ∀ k, k < n → (sm m fun s => w s * coef s k) ≤ goal k * d
  vb : (sm m fun s => w s * bound s) = v
  vg : (sm n fun k => goal k * x k) = v
  cx : (sm n fun k => if 0 < x k then 1 else 0) ≤ m
  cw : (sm m fun s => if 0 < w s then 1 else 0) ≤ n
structure Rft (n m : Nat) (coef : Nat → Nat → Int) (bound : Nat → Int) (d : Int) (w : Nat → Int) : Prop where
  pos : 0 < d
  w0 : ∀ s, s < m → 0 ≤ w s
  cols : ∀ k, k < n → (sm m fun s => w s * coef s k) ≤ 0
  vb : 0 < sm m fun s => w s * bound s
  cw : (sm m fun s => if 0 < w s then 1 else 0) ≤ n + 1
theorem low_nonneg {c : Nat} {f : Nat → Int} (hf : ∀ k, 1 ≤ k → k ≤ n → 0 ≤ f k) (hl : ∀ j, j < n → 1 ≤ l.getD j 0) : 0 ≤ sm n fun j => if l.getD j 0 ≤ n then f (j + 1) * VV n goal coef bound (l.getD j 0) c else 0 := sm_nonneg fun j hj => by
  by_cases a : l.getD j 0 ≤ n
  · rw [if_pos a, VV_unit (hl j hj) a]
    refine Int.mul_nonneg (hf _ (by omega) (by omega)) ?_
    split <;> decide
  · rw [if_neg a]; exact Int.le_refl _
theorem low_zero {f : Nat → Int} (hl : ∀ j, j < n → 1 ≤ l.getD j 0) : (sm n fun j => if l.getD j 0 ≤ n then f (j + 1) * VV n goal coef bound (l.getD j 0) 0 else 0) = 0 := sm_zero fun j hj => by
  have q := hl j hj
  by_cases a : l.getD j 0 ≤ n
  · rw [if_pos a, VV_unit q a, if_neg (by omega), Int.mul_zero]
  · rw [if_neg a]
theorem granted_of (hg : ∀ k, k < n → 0 ≤ goal k) (G : Good n (n + 1 + m) (VV n goal coef bound) l) (h : ∀ i, 1 ≤ i → i < n + 1 + m → 0 ≤ T n (VV n goal coef bound) l i 0) :
    Grt n m goal coef bound (D n (VV n goal coef bound) l) (T n (VV n goal coef bound) l 0 0) (fun k => T n (VV n goal coef bound) l (k + 1) 0) (wt n l (T n (VV n goal coef bound) l 0)) where
  pos := G.pos
  x0 := fun k hk => h _ (by omega) (by omega)
  w0 := fun s _ => wt_nonneg (fun k h1 h2 => (G.lex k h1 h2).first) s
  rows := fun s hs => by
    have e := T_rows (l := l) (pb_of (m := m) (coef := coef) (bound := bound) hg) (i := n + 1 + s) (k := 0) (Nat.zero_le _)
    have p := h (n + 1 + s) (by omega) (by omega)
    rw [VV_bound, if_pos rfl, sm_congr (g := fun c => coef s c * T n (VV n goal coef bound) l (c + 1) 0) fun c _ => by rw [VV_coef], Int.neg_mul] at e
    omega
  cols := fun k hk => by
    have e := dual G (i := 0) (c := k + 1) (by omega) (by omega)
    have z : e0 (k + 1) = 0 := if_neg (by omega)
    have p := low_nonneg (n := n) (goal := goal) (coef := coef) (bound := bound) (l := l) (c := k + 1) (f := T n (VV n goal coef bound) l 0) (fun k h1 h2 => (G.lex k h1 h2).first) fun j hj => (G.get hj).1
    rw [VV_goal, z, Int.mul_zero, sm_congr (g := fun s => wt n l (T n (VV n goal coef bound) l 0) s * coef s k) fun s _ => by rw [VV_coef], Int.mul_comm] at e
    omega
  vb := by
    have e := dual G (i := 0) (c := 0) (by omega) (by omega)
    have z : e0 0 = 1 := if_pos rfl
    rw [VV_goal0, z, Int.mul_zero, low_zero fun j hj => (G.get hj).1, sm_congr (g := fun s => (-1) * (wt n l (T n (VV n goal coef bound) l 0) s * bound s)) fun s _ => by rw [VV_bound, Int.mul_neg, Int.neg_mul, Int.one_mul], sm_mul] at e
    omega
  vg := by
    have e := T_rows (l := l) (pb_of (m := m) (coef := coef) (bound := bound) hg) (i := 0) (k := 0) (Nat.zero_le _)
    rw [VV_goal0, Int.zero_mul, Int.zero_add] at e
    rw [e]
    exact sm_congr fun c _ => by rw [VV_goal]
  cx := by
    refine Int.le_trans (sm_le (g := fun k => 1 - ind n l (k + 1)) fun k hk => ?_) ?_
    · have b := ind_le G (k + 1)
      by_cases q : 0 < T n (VV n goal coef bound) l (k + 1) 0
      · rw [if_pos q]
        unfold ind
        rcases sel G (k + 1) fun _ => 1 with ⟨j, hj, e, _⟩ | ⟨_, z⟩
        · have t := T_basis (n := n) (V := VV n goal coef bound) (l := l) (j := j + 1) (k := 0) (by omega) (by omega) (by omega)
          rw [Nat.add_sub_cancel, e, if_neg (by omega)] at t
          omega
        · rw [z]; decide
      · rw [if_neg q]; omega
    · rw [ind_slack G]
      exact sm_le1 fun s _ => (ind_le G _).2
  cw := by
    refine Int.le_trans (sm_le fun s _ => wt_pos G _ s) ?_
    have a := ind_all G
    have b : 0 ≤ sm n fun k => ind n l (k + 1) := sm_nonneg fun k _ => (ind_le G _).1
    omega
theorem refused_of (G : Good n (n + 1 + m) (VV n goal coef bound) l) {r : Nat} (h1 : 1 ≤ r) (hr : r < n + 1 + m) (h0 : T n (VV n goal coef bound) l r 0 < 0) (hk : ∀ k, 1 ≤ k → k ≤ n → T n (VV n goal coef bound) l r k ≤ 0) :
    Rft n m coef bound (D n (VV n goal coef bound) l) fun s => wt n l (fun k => - T n (VV n goal coef bound) l r k) s + if r = n + 1 + s then D n (VV n goal coef bound) l else 0 := by
  have hp := G.pos
  have wn : ∀ s, wt n l (fun k => - T n (VV n goal coef bound) l r k) s = - wt n l (T n (VV n goal coef bound) l r) s := fun s => by
    unfold wt
    have a := sm_mul (-1) (fun j => if l.getD j 0 = n + 1 + s then T n (VV n goal coef bound) l r (j + 1) else 0) n
    rw [Int.neg_mul, Int.one_mul] at a
    rw [← a]
    refine sm_congr fun j _ => ?_
    by_cases q : l.getD j 0 = n + 1 + s
    · simp only [if_pos q]; omega
    · simp only [if_neg q]; rfl
  -- the row's own part
  have own : ∀ f : Nat → Int, sm m (fun s => (if r = n + 1 + s then D n (VV n goal coef bound) l else 0) * f (n + 1 + s)) = D n (VV n goal coef bound) l * (if n + 1 ≤ r then f r else 0) := fun f => by
    by_cases q : n + 1 ≤ r
    · rw [if_pos q, sm_one (k := r - (n + 1)) (by omega), if_pos (by omega), show n + 1 + (r - (n + 1)) = r by omega]
      intro i hi hne
      rw [if_neg (by omega), Int.zero_mul]
    · rw [if_neg q, Int.mul_zero]
      exact sm_zero fun s _ => by rw [if_neg (by omega), Int.zero_mul]
  have key : ∀ c, c ≤ n → sm m (fun s => (wt n l (fun k => - T n (VV n goal coef bound) l r k) s + if r = n + 1 + s then D n (VV n goal coef bound) l else 0) * VV n goal coef bound (n + 1 + s) c) =
      T n (VV n goal coef bound) l r 0 * e0 c + (sm n fun j => if l.getD j 0 ≤ n then T n (VV n goal coef bound) l r (j + 1) * VV n goal coef bound (l.getD j 0) c else 0) - D n (VV n goal coef bound) l * (if n + 1 ≤ r then 0 else VV n goal coef bound r c) := fun c hc => by
    have e := dual G (i := r) (c := c) hr hc
    have s1 : sm m (fun s => (wt n l (fun k => - T n (VV n goal coef bound) l r k) s + if r = n + 1 + s then D n (VV n goal coef bound) l else 0) * VV n goal coef bound (n + 1 + s) c) =
        sm m (fun s => (if r = n + 1 + s then D n (VV n goal coef bound) l else 0) * VV n goal coef bound (n + 1 + s) c) - sm m (fun s => wt n l (T n (VV n goal coef bound) l r) s * VV n goal coef bound (n + 1 + s) c) := by
      rw [← sm_sub]
      refine sm_congr fun s _ => ?_
      rw [wn, Int.add_mul, Int.neg_mul]
      omega
    rw [s1, own (fun u => VV n goal coef bound u c)]
    by_cases q : n + 1 ≤ r
    · rw [if_pos q, if_pos q]; omega
    · rw [if_neg q, if_neg q]; omega
  have low : ∀ c, (sm n fun j => if l.getD j 0 ≤ n then T n (VV n goal coef bound) l r (j + 1) * VV n goal coef bound (l.getD j 0) c else 0) ≤ 0 := fun c => by
    have p := low_nonneg (n := n) (goal := goal) (coef := coef) (bound := bound) (l := l) (c := c) (f := fun k => - T n (VV n goal coef bound) l r k) (fun k a b => by have := hk k a b; omega) fun j hj => (G.get hj).1
    have e : (sm n fun j => if l.getD j 0 ≤ n then - T n (VV n goal coef bound) l r (j + 1) * VV n goal coef bound (l.getD j 0) c else 0) = (-1) * sm n fun j => if l.getD j 0 ≤ n then T n (VV n goal coef bound) l r (j + 1) * VV n goal coef bound (l.getD j 0) c else 0 := by
      rw [← sm_mul]
      refine sm_congr fun j _ => ?_
      split
      · rw [Int.neg_mul, Int.neg_mul, Int.one_mul]
      · rfl
    rw [e] at p
    omega
  refine ⟨hp, fun s _ => ?_, fun k hkn => ?_, ?_, ?_⟩
  · have a := wt_nonneg (n := n) (l := l) (f := fun k => - T n (VV n goal coef bound) l r k) (fun k a b => by have := hk k a b; omega) s
    show 0 ≤ _ + _
    split <;> omega
  · have e := key (k + 1) (by omega)
    have z : e0 (k + 1) = 0 := if_neg (by omega)
    rw [z, Int.mul_zero, sm_congr (g := fun s => (wt n l (fun k => - T n (VV n goal coef bound) l r k) s + if r = n + 1 + s then D n (VV n goal coef bound) l else 0) * coef s k) fun s _ => by rw [VV_coef]] at e
    have lw := low (k + 1)
    have q : 0 ≤ D n (VV n goal coef bound) l * (if n + 1 ≤ r then 0 else VV n goal coef bound r (k + 1)) := by
      refine Int.mul_nonneg (by omega) ?_
      by_cases a : n + 1 ≤ r
      · rw [if_pos a]; exact Int.le_refl _
      · rw [if_neg a, VV_unit h1 (by omega)]; split <;> decide
    omega
  · have e := key 0 (by omega)
    have z : e0 0 = 1 := if_pos rfl
    rw [z, Int.mul_one, low_zero fun j hj => (G.get hj).1] at e
    have q : D n (VV n goal coef bound) l * (if n + 1 ≤ r then 0 else VV n goal coef bound r 0) = 0 := by
      by_cases a : n + 1 ≤ r
      · rw [if_pos a, Int.mul_zero]
      · rw [if_neg a, VV_unit h1 (by omega), if_neg (by omega), Int.mul_zero]
    rw [q, sm_congr (g := fun s => (-1) * ((wt n l (fun k => - T n (VV n goal coef bound) l r k) s + if r = n + 1 + s then D n (VV n goal coef bound) l else 0) * bound s)) fun s _ => by rw [VV_bound, Int.mul_neg, Int.neg_mul, Int.one_mul], sm_mul] at e
    omega
  · refine Int.le_trans (sm_le (g := fun s => ind n l (n + 1 + s) + if r = n + 1 + s then 1 else 0) fun s _ => ?_) ?_
    · have a := wt_pos G (fun k => - T n (VV n goal coef bound) l r k) s
      have b := ind_le G (n + 1 + s)
      by_cases q : r = n + 1 + s
      · rw [if_pos q, if_pos q]; split <;> omega
      · rw [if_neg q, if_neg q, Int.add_zero, Int.add_zero]; exact a
    · rw [sm_add]
      have a := ind_all G
      have b : 0 ≤ sm n fun k => ind n l (k + 1) := sm_nonneg fun k _ => (ind_le G _).1
      have c : (sm m fun s => if r = n + 1 + s then (1 : Int) else 0) ≤ 1 := by
        by_cases q : n + 1 ≤ r
        · rw [sm_one (k := r - (n + 1)) (by omega)]
          · split <;> decide
          · intro i hi hne
            rw [if_neg (by omega)]
        · rw [sm_zero fun s _ => if_neg (by omega)]; decide
      omega
/-! ### how great the numbers are -/
theorem size_T {b : Nat} (hb : 1 ≤ b) (G : Good n (n + 1 + m) (VV n goal coef bound) l) (hV : ∀ i c, i < n + 1 + m → c ≤ n → (VV n goal coef bound i c).natAbs ≤ b) {i : Nat} (hi : i < n + 1 + m) (k : Nat) :
    (T n (VV n goal coef bound) l i k).natAbs ≤ fact (n + 1) * b ^ (n + 1) := by
  refine det_abs _ _ _ _ fun x j hx _ hj => ?_
  unfold put
  by_cases q : x = k
  · rw [if_pos q]; exact hV i j hi (by omega)
  · rw [if_neg q]
    unfold B
    by_cases a : x = 0
    · rw [if_pos a]; unfold e0; split <;> simp <;> omega
    · rw [if_neg a]; exact hV _ j (G.getD (by omega) (by omega)).2 (by omega)
theorem size_D {b : Nat} (hb : 1 ≤ b) (G : Good n (n + 1 + m) (VV n goal coef bound) l) (hV : ∀ i c, i < n + 1 + m → c ≤ n → (VV n goal coef bound i c).natAbs ≤ b) :
    (D n (VV n goal coef bound) l).natAbs ≤ fact (n + 1) * b ^ (n + 1) := by
  refine det_abs _ _ _ _ fun x j hx _ hj => ?_
  unfold B
  by_cases a : x = 0
  · rw [if_pos a]; unfold e0; split <;> simp <;> omega
  · rw [if_neg a]; exact hV _ j (G.getD (by omega) (by omega)).2 (by omega)
theorem VV_abs {b : Nat} (hb : 1 ≤ b) (h1 : ∀ k, k < n → (goal k).natAbs ≤ b) (h2 : ∀ s k, s < m → k < n → (coef s k).natAbs ≤ b) (h3 : ∀ s, s < m → (bound s).natAbs ≤ b) : ∀ i c, i < n + 1 + m → c ≤ n → (VV n goal coef bound i c).natAbs ≤ b := fun i c hi hc => by
  unfold VV
  by_cases a : i = 0
  · rw [if_pos a]
    by_cases q : c = 0
    · rw [if_pos q]; simp
    · rw [if_neg q]; exact h1 _ (by omega)
  · rw [if_neg a]
    by_cases q : i ≤ n
    · rw [if_pos q]; split <;> simp <;> omega
    · rw [if_neg q]
      by_cases z : c = 0
      · rw [if_pos z, Int.natAbs_neg]; exact h3 _ (by omega)
      · rw [if_neg z]; exact h2 _ _ (by omega) (by omega)
end
end Slv

/-! Values as data: what a value is worth, without the heap. -/
namespace Dl
open PySem PySem.Spec PyProof.Rows L2
inductive D where
  | non | bl (b : Bool) | int (i : Int) | str (x : Str) | tup (xs : List D) | lst (xs : List D) | slst (xs : List D) | ins (C : Addr) (fs : List (Str × D))
/-- what the class of an instance must be, for its fields to be read -/
def InsOk (K : PySem.W.Frag) (C : Addr) (fs : List (Str × D)) : Prop := Cls K C ∧ ∀ p ∈ fs, NoAttr K C p.1
mutual
inductive Rep (K : PySem.W.Frag) (B : Hp) : V → D → Prop where
  | non : Rep K B .non .non
  | bl {b : Bool} : Rep K B (.bl b) (.bl b)
  | int {i : Int} : Rep K B (.int i) (.int i)
  | str {x : Str} : Rep K B (.str x) (.str x)
  | tup {a : Addr} {vs : List V} {ds : List D} : SqT K B a vs → Reps K B vs ds → Rep K B (.ref a) (.tup ds)
  | lst {a : Addr} {vs : List V} {ds : List D} : B a = some (.lst vs) → Reps K B vs ds → Rep K B (.ref a) (.lst ds)
  | slst {a : Addr} {vs : List V} {ds : List D} : SqL K B a vs → Reps K B vs ds → Rep K B (.ref a) (.slst ds)
  | ins {a C dx : Addr} {vs : List (Str × V)} {fs : List (Str × D)} : InsOk K C fs → B a = some (.ins C dx vs) → RepF K B vs fs → Rep K B (.ref a) (.ins C fs)
inductive Reps (K : PySem.W.Frag) (B : Hp) : List V → List D → Prop where
  | nil : Reps K B [] []
  | cons {v : V} {d : D} {vs : List V} {ds : List D} : Rep K B v d → Reps K B vs ds → Reps K B (v :: vs) (d :: ds)
inductive RepF (K : PySem.W.Frag) (B : Hp) : List (Str × V) → List (Str × D) → Prop where
  | nil : RepF K B [] []
  | cons {x : Str} {v : V} {d : D} {vs : List (Str × V)} {fs : List (Str × D)} : Rep K B v d → RepF K B vs fs → RepF K B ((x, v) :: vs) ((x, d) :: fs)
end
theorem same_rd {H H' : Hp} {a : Addr} {u : HO} (e : Same H H') (h : Rd H a u) : Rd H' a u := by
  rcases h with h | ⟨o, h⟩
  · exact .inl (e a _ h)
  · exact .inr ⟨o, e a _ h⟩
theorem same_l {K : PySem.W.Frag} {H H' : Hp} {a : Addr} {xs : List V} (e : Same H H') (h : SqL K H a xs) : SqL K H' a xs := by
  rcases h with h | h
  · exact .inl (same_rd e h)
  · exact .inr h
theorem same_t {K : PySem.W.Frag} {H H' : Hp} {a : Addr} {xs : List V} (e : Same H H') (h : SqT K H a xs) : SqT K H' a xs := by
  rcases h with h | h
  · exact .inl (same_rd e h)
  · exact .inr h
theorem same_upd {H : Hp} {p : Addr} {o : HO} (h : H p = none) : Same H (upd H p o) := fun b x e => by
  rw [upd_ne (ne_of_none e h)]; exact e
section
variable {K : PySem.W.Frag} {B B' : Hp}
mutual
theorem Rep.mono (e : Same B B') {v : V} {d : D} : Rep K B v d → Rep K B' v d
  | .non => .non
  | .bl => .bl
  | .int => .int
  | .str => .str
  | .tup h r => .tup (same_t e h) (Reps.mono e r)
  | .lst h r => .lst (e _ _ h) (Reps.mono e r)
  | .slst h r => .slst (same_l e h) (Reps.mono e r)
  | .ins o h r => .ins o (e _ _ h) (RepF.mono e r)
theorem Reps.mono (e : Same B B') {vs : List V} {ds : List D} : Reps K B vs ds → Reps K B' vs ds
  | .nil => .nil
  | .cons h r => .cons (Rep.mono e h) (Reps.mono e r)
theorem RepF.mono (e : Same B B') {vs : List (Str × V)} {ds : List (Str × D)} : RepF K B vs ds → RepF K B' vs ds
  | .nil => .nil
  | .cons h r => .cons (Rep.mono e h) (RepF.mono e r)
end
theorem Reps.len : ∀ {vs : List V} {ds : List D}, Reps K B vs ds → vs.length = ds.length
  | _, _, .nil => rfl
  | _, _, .cons _ r => congrArg (· + 1) (Reps.len r)
theorem Reps.get : ∀ {vs : List V} {ds : List D} {i : Nat} {d : D}, Reps K B vs ds → ds[i]? = some d → ∃ v, vs[i]? = some v ∧ Rep K B v d
  | _, _, _, _, .nil, h => by simp at h
  | _, _, 0, d, .cons h _, e => by simp at e; subst e; exact ⟨_, rfl, h⟩
  | _, _, i + 1, d, .cons _ r, e => by
    obtain ⟨v, h1, h2⟩ := Reps.get (i := i) r (by simpa using e)
    exact ⟨v, by simpa using h1, h2⟩
theorem Reps.getV : ∀ {vs : List V} {ds : List D} {i : Nat} {v : V}, Reps K B vs ds → vs[i]? = some v → ∃ d, ds[i]? = some d ∧ Rep K B v d
  | _, _, _, _, .nil, h => by simp at h
  | _, _, 0, d, .cons h _, e => by simp at e; subst e; exact ⟨_, rfl, h⟩
  | _, _, i + 1, d, .cons _ r, e => by
    obtain ⟨v, h1, h2⟩ := Reps.getV (i := i) r (by simpa using e)
    exact ⟨v, by simpa using h1, h2⟩
theorem Reps.append : ∀ {vs ws : List V} {ds es : List D}, Reps K B vs ds → Reps K B ws es → Reps K B (vs ++ ws) (ds ++ es)
  | _, _, _, _, .nil, s => s
  | _, _, _, _, .cons h r, s => .cons h (Reps.append r s)
theorem Reps.set {v : V} {d : D} (h : Rep K B v d) : ∀ {vs : List V} {ds : List D} (i : Nat), Reps K B vs ds → Reps K B (vs.set i v) (ds.set i d)
  | _, _, _, .nil => .nil
  | _, _, 0, .cons _ r => .cons h r
  | _, _, i + 1, .cons q r => .cons q (Reps.set h i r)
theorem Reps.take : ∀ {vs : List V} {ds : List D} (n : Nat), Reps K B vs ds → Reps K B (vs.take n) (ds.take n)
  | _, _, 0, _ => .nil
  | _, _, _ + 1, .nil => .nil
  | _, _, n + 1, .cons h r => .cons h (Reps.take n r)
theorem Reps.drop : ∀ {vs : List V} {ds : List D} (n : Nat), Reps K B vs ds → Reps K B (vs.drop n) (ds.drop n)
  | _, _, 0, r => r
  | _, _, _ + 1, .nil => .nil
  | _, _, n + 1, .cons _ r => Reps.drop n r
theorem Reps.ints : ∀ {vs : List V} {ns : List Int}, Reps K B vs (ns.map D.int) → vs = ns.map V.int
  | _, [], .nil => rfl
  | _, n :: ns, .cons h r => by
    cases h
    rw [Reps.ints r]; rfl
theorem Reps.bls : ∀ {vs : List V} {ns : List Bool}, Reps K B vs (ns.map D.bl) → vs = ns.map V.bl
  | _, [], .nil => rfl
  | _, n :: ns, .cons h r => by
    cases h
    rw [Reps.bls r]; rfl
theorem reps_ints (ns : List Int) : Reps K B (ns.map V.int) (ns.map D.int) := by
  induction ns with
  | nil => exact .nil
  | cons n ns ih => exact .cons .int ih
theorem RepF.look {f : Str} : ∀ {vs : List (Str × V)} {fs : List (Str × D)} {d : D}, RepF K B vs fs → fs.lookup f = some d → ∃ v, vs.lookup f = some v ∧ Rep K B v d
  | _, _, _, .nil, h => by cases h
  | _, _, d, .cons (x := x) (v := v) h r, e => by
    by_cases q : f = x
    · subst q
      rw [List.lookup_cons, beq_self_eq_true] at e
      cases e
      exact ⟨_, by rw [List.lookup_cons, beq_self_eq_true], h⟩
    · have nb : (f == x) = false := beq_eq_false_iff_ne.mpr q
      rw [List.lookup_cons, nb] at e
      obtain ⟨w, h1, h2⟩ := RepF.look r e
      exact ⟨w, by rw [List.lookup_cons, nb]; exact h1, h2⟩
theorem RepF.none {f : Str} : ∀ {vs : List (Str × V)} {fs : List (Str × D)}, RepF K B vs fs → fs.lookup f = none → vs.lookup f = none
  | _, _, .nil, h => rfl
  | _, _, .cons (x := x) h r, e => by
    by_cases q : f = x
    · subst q
      rw [List.lookup_cons, beq_self_eq_true] at e
      cases e
    · have nb : (f == x) = false := beq_eq_false_iff_ne.mpr q
      rw [List.lookup_cons, nb] at e ⊢
      exact RepF.none r e
theorem RepF.len : ∀ {vs : List (Str × V)} {fs : List (Str × D)}, RepF K B vs fs → vs.length = fs.length
  | _, _, .nil => rfl
  | _, _, .cons _ r => congrArg (· + 1) (RepF.len r)
def putD (f : Str) (d : D) : List (Str × D) → List (Str × D)
  | [] => [(f, d)]
  | (g, x) :: r => if g = f then (g, d) :: r else (g, x) :: putD f d r
theorem RepF.put {f : Str} {v : V} {d : D} (h : Rep K B v d) : ∀ {vs : List (Str × V)} {fs : List (Str × D)}, RepF K B vs fs → RepF K B (putF f v vs) (putD f d fs)
  | _, _, .nil => .cons h .nil
  | _, _, .cons (x := x) q r => by
    by_cases e : x = f
    · show RepF K B (if x = f then _ else _) (if x = f then _ else _)
      rw [if_pos e, if_pos e]; exact .cons h r
    · show RepF K B (if x = f then _ else _) (if x = f then _ else _)
      rw [if_neg e, if_neg e]; exact .cons q (RepF.put h r)
end
/-! ### results, slots, growth -/
inductive R where
  | val (d : D) | own (xs : List D) | bor (xs : List D)
inductive S where
  | no | val (d : D) | own (xs : List D) | obj (p C : Addr) (fs : List (Str × D)) | lat (p : Addr) (xs : List D)
def S.isOwn : S → Bool
  | .own _ => true
  | .obj _ _ _ => true
  | .lat _ _ => true
  | _ => false
/-- from (H, B) to (H', B'): H the heap, B its part that stays as it is -/
structure Gr (H B H' B' : Hp) : Prop where
  hh : Same H H'
  bb : Same B B'
  bh : Same B' H'
  nw : ∀ p, H p ≠ none → B p = none → B' p = none
theorem Gr.refl {H B : Hp} (h : Same B H) : Gr H B H B := ⟨Same.refl _, Same.refl _, h, fun _ _ q => q⟩
theorem Gr.trans {H B H1 B1 H2 B2 : Hp} (a : Gr H B H1 B1) (b : Gr H1 B1 H2 B2) : Gr H B H2 B2 :=
  ⟨a.hh.trans b.hh, a.bb.trans b.bb, b.bh, fun p h q => b.nw p (fun z => h (a.hh.free z)) (a.nw p h q)⟩
section
variable {K : PySem.W.Frag} {H B H' B' H1 B1 H2 B2 : Hp} {σ : L2.St} {ds : List S} {v : V} {r : R}
def RepR (K : PySem.W.Frag) (H B' H' : Hp) (v : V) : R → Prop
  | .val d => Rep K B' v d
  | .own xs => ∃ p vs, v = .ref p ∧ H p = none ∧ B' p = none ∧ H' p = some (.lst vs) ∧ Reps K B' vs xs
  | .bor xs => ∃ p vs, v = .ref p ∧ B' p = none ∧ H' p = some (.lst vs) ∧ Reps K B' vs xs
theorem RepR.grow (g : Gr H1 B1 H2 B2) (h : RepR K H B1 H1 v r) : RepR K H B2 H2 v r := by
  cases r with
  | val d => exact Rep.mono g.bb h
  | own xs =>
    obtain ⟨p, vs, e, a, b, c, q⟩ := h
    exact ⟨p, vs, e, a, g.nw p (by rw [c]; exact fun z => by cases z) b, g.hh _ _ c, Reps.mono g.bb q⟩
  | bor xs =>
    obtain ⟨p, vs, e, b, c, q⟩ := h
    exact ⟨p, vs, e, g.nw p (by rw [c]; exact fun z => by cases z) b, g.hh _ _ c, Reps.mono g.bb q⟩
theorem RepR.base (s : Same H H1) (h : RepR K H1 B' H' v r) : RepR K H B' H' v r := by
  cases r with
  | val d => exact h
  | own xs =>
    obtain ⟨p, vs, e, a, b, c, q⟩ := h
    exact ⟨p, vs, e, s.free a, b, c, q⟩
  | bor xs => exact h
/-- as a datum -/
def R.d : R → Option D
  | .val d => some d
  | .own xs => some (.lst xs)
  | .bor _ => none
theorem RepR.freeze {d : D} (g : Gr H B H' B') (h : RepR K H B' H' v r) (e : r.d = some d) : ∃ B'', Gr H B H' B'' ∧ Same B' B'' ∧ Rep K B'' v d := by
  cases r with
  | val x => cases e; exact ⟨B', g, Same.refl _, h⟩
  | own xs =>
    cases e
    obtain ⟨p, vs, rfl, a, b, c, q⟩ := h
    have s := same_upd (o := .lst vs) b
    refine ⟨upd B' p (.lst vs), ⟨g.hh, g.bb.trans s, fun x o z => ?_, fun x hx hb => ?_⟩, s, .lst upd_same (Reps.mono s q)⟩
    · by_cases w : x = p
      · subst w; rw [upd_same] at z; cases z; exact c
      · rw [upd_ne w] at z; exact g.bh _ _ z
    · have w : x ≠ p := fun w => hx (by rw [w]; exact a)
      rw [upd_ne w]; exact g.nw x hx hb
  | bor xs => cases e
/-- as a sequence that is read: its items -/
def R.seq : R → Option (List D)
  | .val (.lst xs) => some xs
  | .val (.slst xs) => some xs
  | .val (.tup xs) => some xs
  | .own xs => some xs
  | .bor xs => some xs
  | _ => none
/-- .. as a list -/
def R.lst : R → Option (List D)
  | .val (.lst xs) => some xs
  | .own xs => some xs
  | .bor xs => some xs
  | _ => none
theorem RepR.seq {xs : List D} (g : Same B' H') (h : RepR K H B' H' v r) (e : r.seq = some xs) : ∃ a vs, v = .ref a ∧ (SqL K H' a vs ∨ SqT K H' a vs) ∧ Reps K B' vs xs := by
  cases r with
  | val d =>
    cases d with
    | lst ys =>
      cases e
      cases (show Rep K B' v (.lst xs) from h) with
      | lst a q => exact ⟨_, _, rfl, .inl (SqL.of (g _ _ a)), q⟩
    | slst ys =>
      cases e
      cases (show Rep K B' v (.slst xs) from h) with
      | slst a q => exact ⟨_, _, rfl, .inl (same_l g a), q⟩
    | tup ys =>
      cases e
      cases (show Rep K B' v (.tup xs) from h) with
      | tup a q => exact ⟨_, _, rfl, .inr (same_t g a), q⟩
    | _ => cases e
  | own ys =>
    cases e
    obtain ⟨p, vs, rfl, _, _, c, q⟩ := h
    exact ⟨p, vs, rfl, .inl (SqL.of c), q⟩
  | bor ys =>
    cases e
    obtain ⟨p, vs, rfl, _, c, q⟩ := h
    exact ⟨p, vs, rfl, .inl (SqL.of c), q⟩
theorem RepR.lst {xs : List D} (g : Same B' H') (h : RepR K H B' H' v r) (e : r.lst = some xs) : ∃ a vs, v = .ref a ∧ H' a = some (.lst vs) ∧ Reps K B' vs xs := by
  cases r with
  | val d =>
    cases d with
    | lst ys =>
      cases e
      cases (show Rep K B' v (.lst xs) from h) with
      | lst a q => exact ⟨_, _, rfl, g _ _ a, q⟩
    | _ => cases e
  | own ys =>
    cases e
    obtain ⟨p, vs, rfl, _, _, c, q⟩ := h
    exact ⟨p, vs, rfl, c, q⟩
  | bor ys =>
    cases e
    obtain ⟨p, vs, rfl, _, c, q⟩ := h
    exact ⟨p, vs, rfl, c, q⟩
/-- the slots -/
structure Sl (K : PySem.W.Frag) (H B : Hp) (σ : L2.St) (ds : List S) : Prop where
  bh : Same B H
  len : ds.length = σ.length
  val : ∀ (i : Nat) (d : D), ds[i]? = some (S.val d) → ∃ v, σ[i]? = some (some v) ∧ Rep K B v d
  own : ∀ (i : Nat) (xs : List D), ds[i]? = some (S.own xs) → ∃ p vs, σ[i]? = some (some (V.ref p)) ∧ B p = none ∧ H p = some (HO.lst vs) ∧ Reps K B vs xs
  obj : ∀ (i : Nat) (p C : Addr) (fs : List (Str × D)), ds[i]? = some (S.obj p C fs) → ∃ dx vs, σ[i]? = some (some (V.ref p)) ∧ B p = none ∧ H p = some (HO.ins C dx vs) ∧ RepF K B vs fs
  lat : ∀ (i : Nat) (p : Addr) (xs : List D), ds[i]? = some (S.lat p xs) → ∃ vs, σ[i]? = some (some (V.ref p)) ∧ B p = none ∧ H p = some (HO.lst vs) ∧ Reps K B vs xs
  sep : ∀ (i j : Nat) (p : Addr), i ≠ j → (ds[i]?.map S.isOwn) = some true → (ds[j]?.map S.isOwn) = some true → σ[i]? = some (some (V.ref p)) → σ[j]? ≠ some (some (V.ref p))
theorem Sl.grow (s : Sl K H B σ ds) (g : Gr H B H' B') : Sl K H' B' σ ds where
  bh := g.bh
  len := s.len
  val := fun i d e => let ⟨v, a, b⟩ := s.val i d e; ⟨v, a, b.mono g.bb⟩
  own := fun i xs e => let ⟨p, vs, a, b, c, q⟩ := s.own i xs e; ⟨p, vs, a, g.nw p (by rw [c]; exact fun z => by cases z) b, g.hh _ _ c, q.mono g.bb⟩
  obj := fun i p C fs e => let ⟨dx, vs, a, b, c, q⟩ := s.obj i p C fs e; ⟨dx, vs, a, g.nw p (by rw [c]; exact fun z => by cases z) b, g.hh _ _ c, q.mono g.bb⟩
  lat := fun i p xs e => let ⟨vs, a, b, c, q⟩ := s.lat i p xs e; ⟨vs, a, g.nw p (by rw [c]; exact fun z => by cases z) b, g.hh _ _ c, q.mono g.bb⟩
  sep := s.sep
end
/-! ### expressions -/
abbrev DE := List S → (R → Prop) → Prop
abbrev DT := List S → (Bool → Prop) → Prop
abbrev DA := List S → (List D → Prop) → Prop
structure SE (K : PySem.W.Frag) (te : TE) (de : DE) : Prop where
  mono : ∀ {ds : List S} {P P' : R → Prop}, (∀ r, P r → P' r) → de ds P → de ds P'
  run : ∀ {σ : L2.St} {H B : Hp} {ds : List S} {Q : VK}, Sl K H B σ ds → de ds (fun r => ∀ v H' B', Gr H B H' B' → RepR K H B' H' v r → Q v H') → te σ H Q
structure ST (K : PySem.W.Frag) (tt : TT) (dt : DT) : Prop where
  mono : ∀ {ds : List S} {P P' : Bool → Prop}, (∀ r, P r → P' r) → dt ds P → dt ds P'
  run : ∀ {σ : L2.St} {H B : Hp} {ds : List S} {Q : Bool → Hp → Prop}, Sl K H B σ ds → dt ds (fun b => ∀ H' B', Gr H B H' B' → Q b H') → tt σ H Q
structure SA (K : PySem.W.Frag) (ta : TA) (da : DA) : Prop where
  mono : ∀ {ds : List S} {P P' : List D → Prop}, (∀ r, P r → P' r) → da ds P → da ds P'
  run : ∀ {σ : L2.St} {H B : Hp} {ds : List S} {Q : List V → Hp → Prop}, Sl K H B σ ds → da ds (fun xs => ∀ vs H' B', Gr H B H' B' → Reps K B' vs xs → Q vs H') → ta σ H Q
structure PX (X : Cx) (e : Expr) (te : TE) (de : DE) : Prop where
  p : PE X e te
  s : SE X.K te de
structure PXT (X : Cx) (e : Expr) (tt : TT) (dt : DT) : Prop where
  p : PT X e tt
  s : ST X.K tt dt
structure PXA (X : Cx) (es : List Expr) (ta : TA) (da : DA) : Prop where
  p : PA X es ta
  s : SA X.K ta da
section
variable {K : PySem.W.Frag} {X : Cx}
def eC (d : D) : DE := fun _ P => P (.val d)
theorem se_c {v : V} {d : D} (h : ∀ B, Rep K B v d) : SE K (tC v) (eC d) where
  mono := fun h q => h _ q
  run := fun s q => q _ _ _ (Gr.refl s.bh) (h _)
def eVar (i : Nat) : DE := fun ds P => match ds[i]? with
  | some (.val d) => P (.val d)
  | some (.own xs) => P (.bor xs)
  | some (.lat _ xs) => P (.bor xs)
  | _ => False
theorem se_var {i : Nat} : SE K (tVar i) (eVar i) where
  mono := fun {ds P P'} h q => by
    unfold eVar at q ⊢
    split at q
    · exact h _ q
    · exact h _ q
    · exact h _ q
    · exact q.elim
  run := fun {σ H B ds Q} s q => by
    unfold eVar at q
    split at q
    · rename_i d e
      obtain ⟨v, a, b⟩ := s.val _ _ e
      exact ⟨v, a, q _ _ _ (Gr.refl s.bh) b⟩
    · rename_i xs e
      obtain ⟨p, vs, a, b, c, r⟩ := s.own _ _ e
      exact ⟨.ref p, a, q _ _ _ (Gr.refl s.bh) ⟨p, vs, rfl, b, c, r⟩⟩
    · rename_i p xs e
      obtain ⟨vs, a, b, c, r⟩ := s.lat _ _ _ e
      exact ⟨.ref p, a, q _ _ _ (Gr.refl s.bh) ⟨p, vs, rfl, b, c, r⟩⟩
    · exact q.elim
theorem px_int {i : Int} {j pos} : PX X (.Constant (.int i) j pos) (tC (.int i)) (eC (.int i)) := ⟨pe_int, se_c fun _ => .int⟩
theorem px_bl {i : Bool} {j pos} : PX X (.Constant (.bool i) j pos) (tC (.bl i)) (eC (.bl i)) := ⟨pe_bl, se_c fun _ => .bl⟩
theorem px_non {j pos} : PX X (.Constant .none j pos) (tC .non) (eC .non) := ⟨pe_non, se_c fun _ => .non⟩
theorem px_str {x : String} {j pos} : PX X (.Constant (.str x) j pos) (tC (.str x)) (eC (.str x)) := ⟨pe_str, se_c fun _ => .str⟩
theorem pxv (i : Nat) {x : Str} {pos : Pos} (hN : X.N[i]? = some x := by rfl) (hv : Vis X.env.scope x := by first | exact Or.inl rfl | exact Or.inr (Or.inl rfl) | exact Or.inr (Or.inr rfl)) (hd : (x == ("__debug__" : Str)) = false := by decide)
    (hcd : (x == ("__classdict__" : Str)) = false := by decide) : PX X (.Name x pos) (tVar i) (eVar i) := ⟨pe_var hN hv hd hcd, se_var⟩
/-! two places -/
abbrev D2 := R → R → (R → Prop) → Prop
structure SR2 (K : PySem.W.Frag) (r : R2) (d2 : D2) : Prop where
  mono : ∀ {x y : R} {P P' : R → Prop}, (∀ r, P r → P' r) → d2 x y P → d2 x y P'
  run : ∀ {x y : R} {v u : V} {H0 H B : Hp} {Q : VK}, Same B H → Same H0 H → RepR K H0 B H v x → RepR K H0 B H u y → d2 x y (fun r => ∀ v H' B', Gr H B H' B' → RepR K H B' H' v r → Q v H') → r v u H Q
def eOp (d2 : D2) (da db : DE) : DE := fun ds P => da ds fun x => db ds fun y => d2 x y P
theorem se_op {r : R2} {d2 : D2} {ta tb : TE} {da db : DE} (hr : SR2 K r d2) (ha : SE K ta da) (hb : SE K tb db) : SE K (tOp r ta tb) (eOp d2 da db) where
  mono := fun h q => ha.mono (fun _ q => hb.mono (fun _ q => hr.mono h q) q) q
  run := fun {σ H B ds Q} s q => by
    refine ha.run s (ha.mono (fun x q v H1 B1 g1 r1 => ?_) q)
    refine hb.run (s.grow g1) (hb.mono (fun y q u H2 B2 g2 r2 => ?_) q)
    have g := g1.trans g2
    refine hr.run (H0 := H) g.bh g.hh (r1.grow g2) (r2.base g1.hh) (hr.mono (fun r q w H3 B3 g3 r3 => ?_) q)
    exact q w H3 B3 (g.trans g3) (r3.base g.hh)
/-- two ints -/
def dI (C : Int → Int → Prop) (f : Int → Int → D) : D2 := fun x y P => match x, y with
  | .val (.int i), .val (.int j) => C i j ∧ P (.val (f i j))
  | _, _ => False
def dI0 (f : Int → Int → D) : D2 := fun x y P => match x, y with
  | .val (.int i), .val (.int j) => P (.val (f i j))
  | _, _ => False
theorem sr_I {C : Int → Int → Prop} {g : Int → Int → V} {f : Int → Int → D} (h : ∀ B i j, Rep K B (g i j) (f i j)) : SR2 K (rI C g) (dI C f) where
  mono := fun {x y P P'} h q => by
    unfold dI at q ⊢
    split at q
    · exact ⟨q.1, h _ q.2⟩
    · exact q.elim
  run := fun {x y v u H0 H B Q} s s0 rx ry q => by
    unfold dI at q
    split at q
    · cases (show Rep K B v _ from rx)
      cases (show Rep K B u _ from ry)
      exact ⟨_, _, rfl, rfl, q.1, q.2 _ _ _ (Gr.refl s) (h _ _ _)⟩
    · exact q.elim
theorem sr_I0 {g : Int → Int → V} {f : Int → Int → D} (h : ∀ B i j, Rep K B (g i j) (f i j)) : SR2 K (rI0 g) (dI0 f) where
  mono := fun {x y P P'} h q => by
    unfold dI0 at q ⊢
    split at q
    · exact h _ q
    · exact q.elim
  run := fun {x y v u H0 H B Q} s s0 rx ry q => by
    unfold dI0 at q
    split at q
    · cases (show Rep K B v _ from rx)
      cases (show Rep K B u _ from ry)
      exact ⟨_, _, rfl, rfl, q _ _ _ (Gr.refl s) (h _ _ _)⟩
    · exact q.elim
variable {a b : Expr} {ta tb : TE} {da db : DE} {pos : Pos}
abbrev dAdd : D2 := dI0 fun i j => .int (i + j)
abbrev dSub : D2 := dI0 fun i j => .int (i - j)
abbrev dMul : D2 := dI CMulW fun i j => .int (i * j)
abbrev dFdiv : D2 := dI CDivW fun i j => .int (i / j)
abbrev dMod : D2 := dI (fun _ j => 0 < j) fun i j => .int (i % j)
theorem px_add (ha : PX X a ta da) (hb : PX X b tb db) : PX X (.BinOp a .Add b pos) (tOp (rI0 fun i j => .int (i + j)) ta tb) (eOp dAdd da db) := ⟨pe_op op_add ha.p hb.p, se_op (sr_I0 fun _ _ _ => .int) ha.s hb.s⟩
theorem px_sub (ha : PX X a ta da) (hb : PX X b tb db) : PX X (.BinOp a .Sub b pos) (tOp (rI0 fun i j => .int (i - j)) ta tb) (eOp dSub da db) := ⟨pe_op op_sub ha.p hb.p, se_op (sr_I0 fun _ _ _ => .int) ha.s hb.s⟩
theorem px_mul (ha : PX X a ta da) (hb : PX X b tb db) : PX X (.BinOp a .Mult b pos) (tOp (rI CMulW fun i j => .int (i * j)) ta tb) (eOp dMul da db) := ⟨pe_op op_mulW ha.p hb.p, se_op (sr_I fun _ _ _ => .int) ha.s hb.s⟩
theorem px_fdiv (ha : PX X a ta da) (hb : PX X b tb db) : PX X (.BinOp a .FloorDiv b pos) (tOp (rI CDivW fun i j => .int (i / j)) ta tb) (eOp dFdiv da db) := ⟨pe_op op_fdivW ha.p hb.p, se_op (sr_I fun _ _ _ => .int) ha.s hb.s⟩
theorem px_mod (ha : PX X a ta da) (hb : PX X b tb db) : PX X (.BinOp a .Mod b pos) (tOp (rI (fun _ j => 0 < j) fun i j => .int (i % j)) ta tb) (eOp dMod da db) := ⟨pe_op op_mod ha.p hb.p, se_op (sr_I fun _ _ _ => .int) ha.s hb.s⟩
/-! comparisons -/
abbrev dLt : D2 := dI0 fun i j => .bl (decide (i < j))
abbrev dLe : D2 := dI0 fun i j => .bl (decide (i ≤ j))
abbrev dGt : D2 := dI0 fun i j => .bl (decide (j < i))
abbrev dGe : D2 := dI0 fun i j => .bl (decide (j ≤ i))
theorem sr_bl0 {p : Int → Int → Bool} : SR2 K (rI0 fun i j => .bl (p i j)) (dI0 fun i j => .bl (p i j)) := sr_I0 fun _ _ _ => .bl
/-- == of two ints, two texts, None and another -/
def eqD : D → D → Option Bool
  | .int i, .int j => some (decide (i = j))
  | .str i, .str j => some (decide (i = j))
  | .bl i, .bl j => some (decide (i = j))
  | _, _ => none
def dEq (neg : Bool) : D2 := fun x y P => match x, y with
  | .val d, .val e => (match eqD d e with
    | some b => P (.val (.bl (if neg then !b else b)))
    | none => False)
  | _, _ => False
theorem rep_int {B : Hp} {v : V} {i : Int} (h : Rep K B v (.int i)) : v = .int i := by cases h; rfl
theorem rep_str {B : Hp} {v : V} {i : Str} (h : Rep K B v (.str i)) : v = .str i := by cases h; rfl
theorem rep_bl {B : Hp} {v : V} {i : Bool} (h : Rep K B v (.bl i)) : v = .bl i := by cases h; rfl
theorem rep_non {B : Hp} {v : V} (h : Rep K B v .non) : v = .non := by cases h; rfl
theorem eqD_ok {B : Hp} {d e : D} {v u : V} {b : Bool} (h : eqD d e = some b) (rx : Rep K B v d) (ry : Rep K B u e) : scal v u = true ∧ decide (v = u) = b := by
  unfold eqD at h
  split at h
  · cases h; cases rx; cases ry; exact ⟨rfl, by rw [dec_int]; exact (Bool.beq_eq_decide_eq _ _)⟩
  · cases h; cases rx; cases ry; exact ⟨rfl, by rw [dec_str]; exact (Bool.beq_eq_decide_eq _ _)⟩
  · cases h; cases rx; cases ry; exact ⟨rfl, by rw [dec_bl]; exact (Bool.beq_eq_decide_eq _ _)⟩
  · cases h
theorem dEq_mono {neg : Bool} {x y : R} {P P' : R → Prop} (h : ∀ r, P r → P' r) (q : dEq neg x y P) : dEq neg x y P' := by
  cases x with
  | val d =>
    cases y with
    | val e =>
      have q' : (match eqD d e with
        | some b => P (.val (.bl (if neg then !b else b)))
        | none => False) := q
      show (match eqD d e with
        | some b => P' (.val (.bl (if neg then !b else b)))
        | none => False)
      cases w : eqD d e with
      | none => rw [w] at q'; exact q'
      | some b => rw [w] at q'; exact h _ q'
    | _ => exact q.elim
  | _ => exact q.elim
theorem sr_eq : SR2 K rEq (dEq false) where
  mono := dEq_mono
  run := fun {x y v u H0 H B Q} s s0 rx ry q => by
    unfold dEq at q
    split at q
    · split at q
      · rename_i e
        obtain ⟨h1, h2⟩ := eqD_ok e rx ry
        refine ⟨h1, ?_⟩
        rw [h2]
        exact q _ _ _ (Gr.refl s) Rep.bl
      · exact q.elim
    · exact q.elim
theorem sr_ne : SR2 K rNe (dEq true) where
  mono := dEq_mono
  run := fun {x y v u H0 H B Q} s s0 rx ry q => by
    unfold dEq at q
    split at q
    · split at q
      · rename_i e
        obtain ⟨h1, h2⟩ := eqD_ok e rx ry
        refine ⟨h1, ?_⟩
        rw [h2]
        exact q _ _ _ (Gr.refl s) Rep.bl
      · exact q.elim
    · exact q.elim
def isNon : D → Bool
  | .non => true
  | _ => false
/-- is None: of a value -/
def dIsN (neg : Bool) : D2 := fun x y P => match x, y with
  | .val d, .val .non => P (.val (.bl (if neg then !(isNon d) else isNon d)))
  | _, _ => False
theorem isNon_ok {B : Hp} {d : D} {v : V} (h : Rep K B v d) : decide (v = .non) = isNon d := by
  cases h <;> rfl
theorem dIsN_mono {neg : Bool} {x y : R} {P P' : R → Prop} (h : ∀ r, P r → P' r) (q : dIsN neg x y P) : dIsN neg x y P' := by
  unfold dIsN at q ⊢
  split at q
  · exact h _ q
  · exact q.elim
theorem sr_isN : SR2 K (fun x y H Q => y = .non ∧ Q (.bl (decide (x = .non))) H) (dIsN false) where
  mono := dIsN_mono
  run := fun {x y v u H0 H B Q} s s0 rx ry q => by
    unfold dIsN at q
    split at q
    · refine ⟨rep_non ry, ?_⟩
      rw [isNon_ok rx]
      exact q _ _ _ (Gr.refl s) Rep.bl
    · exact q.elim
theorem sr_notN : SR2 K (fun x y H Q => y = .non ∧ Q (.bl (!decide (x = .non))) H) (dIsN true) where
  mono := dIsN_mono
  run := fun {x y v u H0 H B Q} s s0 rx ry q => by
    unfold dIsN at q
    split at q
    · refine ⟨rep_non ry, ?_⟩
      rw [isNon_ok rx]
      exact q _ _ _ (Gr.refl s) Rep.bl
    · exact q.elim
/-- a comparison's rule: the operator's, the data's -/
structure CmpX (X : Cx) (op : CmpOp) (r : R2) (d2 : D2) : Prop where
  o : OpR X (compareOp op) r
  s : SR2 X.K r d2
  m : ∀ b : Expr, behindInMarks op b = false
theorem cx_lt : CmpX X .Lt (rI0 fun i j => .bl (decide (i < j))) dLt := ⟨op_lt, sr_bl0, fun b => nomark b⟩
theorem cx_le : CmpX X .LtE (rI0 fun i j => .bl (decide (i ≤ j))) dLe := ⟨op_le, sr_bl0, fun b => nomark b⟩
theorem cx_gt : CmpX X .Gt (rI0 fun i j => .bl (decide (j < i))) dGt := ⟨op_gt, sr_bl0, fun b => nomark b⟩
theorem cx_ge : CmpX X .GtE (rI0 fun i j => .bl (decide (j ≤ i))) dGe := ⟨op_ge, sr_bl0, fun b => nomark b⟩
theorem cx_eq : CmpX X .Eq rEq (dEq false) := ⟨op_eq, sr_eq, fun b => nomark b⟩
theorem cx_ne : CmpX X .NotEq rNe (dEq true) := ⟨op_ne, sr_ne, fun b => nomark b⟩
theorem cx_isN : CmpX X .Is (fun x y H Q => y = .non ∧ Q (.bl (decide (x = .non))) H) (dIsN false) := ⟨op_isN, sr_isN, fun b => nomark b⟩
theorem cx_notN : CmpX X .IsNot (fun x y H Q => y = .non ∧ Q (.bl (!decide (x = .non))) H) (dIsN true) := ⟨op_notN, sr_notN, fun b => nomark b⟩
theorem px_cmp {op : CmpOp} {r : R2} {d2 : D2} (c : CmpX X op r d2) (ha : PX X a ta da) (hb : PX X b tb db) : PX X (.Compare a [op] [b] pos) (tOp r ta tb) (eOp d2 da db) :=
  ⟨pe_cmpR c.o ha.p hb.p (c.m b), se_op c.s ha.s hb.s⟩
/-! tests -/
def asB (de : DE) : DT := fun ds P => de ds fun r => match r with
  | .val (.bl b) => P b
  | _ => False
theorem asB_mono {te : TE} {de : DE} (h : SE K te de) {ds : List S} {P P' : Bool → Prop} (hp : ∀ b, P b → P' b) (q : asB de ds P) : asB de ds P' := by
  refine h.mono (fun r q => ?_) q
  split at q
  · exact hp _ q
  · exact q.elim
theorem st_of {te : TE} {de : DE} (h : SE K te de) : ST K (tTest te) (asB de) where
  mono := asB_mono h
  run := fun {σ H B ds Q} s q => by
    refine h.run s (h.mono (fun r q v H' B' g rr => ?_) q)
    split at q
    · exact ⟨_, rep_bl rr, q H' B' g⟩
    · exact q.elim
theorem pxt_cmp {op : CmpOp} {r : R2} {d2 : D2} (c : CmpX X op r d2) (ha : PX X a ta da) (hb : PX X b tb db) : PXT X (.Compare a [op] [b] pos) (tTest (tOp r ta tb)) (asB (eOp d2 da db)) :=
  ⟨pt_cmpR c.o ha.p hb.p (c.m b), st_of (se_op c.s ha.s hb.s)⟩
/-- a test that is the value of an expression -/
theorem pxt_val {e : Expr} {te : TE} {de : DE} (h : PX X e te de) (he : ∀ whole, isTrue e X.env whole = (do let v ← whole; standAt e.pos; holding [v] (truthy v)) := by intro _; rfl) : PXT X e (tB te) (asB de) :=
  ⟨pt_val h.p he, st_of h.s⟩
def uAnd (a b : DT) : DT := fun ds P => a ds fun x => (x = true → b ds P) ∧ (x = false → P false)
def uOr (a b : DT) : DT := fun ds P => a ds fun x => (x = true → P true) ∧ (x = false → b ds P)
def uNot (a : DT) : DT := fun ds P => a ds fun x => P (!x)
section
variable {tA tB' : TT} {uA uB : DT} {rest : List Expr}
theorem st_and (ha : ST K tA uA) (hb : ST K tB' uB) : ST K (tAnd tA tB') (uAnd uA uB) where
  mono := fun h q => ha.mono (fun _ q => ⟨fun e => hb.mono h (q.1 e), fun e => h _ (q.2 e)⟩) q
  run := fun {σ H B ds Q} s q => by
    refine ha.run s (ha.mono (fun b q H1 B1 g1 => ?_) q)
    cases b with
    | true =>
      show tB' σ H1 Q
      exact hb.run (s.grow g1) (hb.mono (fun b q H2 B2 g2 => q H2 B2 (g1.trans g2)) (q.1 rfl))
    | false => exact q.2 rfl H1 B1 g1
theorem st_or (ha : ST K tA uA) (hb : ST K tB' uB) : ST K (tOr tA tB') (uOr uA uB) where
  mono := fun h q => ha.mono (fun _ q => ⟨fun e => h _ (q.1 e), fun e => hb.mono h (q.2 e)⟩) q
  run := fun {σ H B ds Q} s q => by
    refine ha.run s (ha.mono (fun b q H1 B1 g1 => ?_) q)
    cases b with
    | true => exact q.1 rfl H1 B1 g1
    | false =>
      show tB' σ H1 Q
      exact hb.run (s.grow g1) (hb.mono (fun b q H2 B2 g2 => q H2 B2 (g1.trans g2)) (q.2 rfl))
theorem st_not (ha : ST K tA uA) : ST K (tNot tA) (uNot uA) where
  mono := fun h q => ha.mono (fun _ q => h _ q) q
  run := fun s q => ha.run s q
structure PXW (X : Cx) (e : Expr) (tt : TT) (dt : DT) : Prop where
  p : PW X e tt
  s : ST X.K tt dt
theorem pxw_and1 (ha : PXT X a tA uA) : PXW X (.BoolOp .And [a] pos) tA uA := ⟨pw_and1 ha.p, ha.s⟩
theorem pxw_or1 (ha : PXT X a tA uA) : PXW X (.BoolOp .Or [a] pos) tA uA := ⟨pw_or1 ha.p, ha.s⟩
theorem pxw_and (ha : PXT X a tA uA) (hb : PXW X (.BoolOp .And (b :: rest) pos) tB' uB) : PXW X (.BoolOp .And (a :: b :: rest) pos) (tAnd tA tB') (uAnd uA uB) := ⟨pw_and ha.p hb.p, st_and ha.s hb.s⟩
theorem pxw_or (ha : PXT X a tA uA) (hb : PXW X (.BoolOp .Or (b :: rest) pos) tB' uB) : PXW X (.BoolOp .Or (a :: b :: rest) pos) (tOr tA tB') (uOr uA uB) := ⟨pw_or ha.p hb.p, st_or ha.s hb.s⟩
theorem pxt_w {e : Expr} (h : PXW X e tA uA) : PXT X e tA uA := ⟨h.p.pt, h.s⟩
theorem pxt_not (ha : PXT X a tA uA) : PXT X (.UnaryOp .Not a pos) (tNot tA) (uNot uA) := ⟨pt_not ha.p, st_not ha.s⟩
end
/-! and, or, not as values -/
def eAndV (da db : DE) : DE := fun ds P => asB da ds fun x => (x = true → db ds P) ∧ (x = false → P (.val (.bl false)))
def eOrV (da db : DE) : DE := fun ds P => asB da ds fun x => (x = true → P (.val (.bl true))) ∧ (x = false → db ds P)
def eNotV (da : DE) : DE := fun ds P => asB da ds fun x => P (.val (.bl (!x)))
theorem se_andV (ha : SE K ta da) (hb : SE K tb db) : SE K (tAndV ta tb) (eAndV da db) where
  mono := fun h q => asB_mono ha (fun _ q => ⟨fun e => hb.mono h (q.1 e), fun e => h _ (q.2 e)⟩) q
  run := fun {σ H B ds Q} s q => by
    refine ha.run s (ha.mono (fun r q v H1 B1 g1 rr => ?_) q)
    split at q
    · rename_i b
      refine ⟨b, rep_bl rr, ?_⟩
      cases b with
      | true =>
        show tb σ H1 Q
        exact hb.run (s.grow g1) (hb.mono (fun b q v H2 B2 g2 r2 => q v H2 B2 (g1.trans g2) (r2.base g1.hh)) (q.1 rfl))
      | false =>
        show Q (.bl false) H1
        exact q.2 rfl _ H1 B1 g1 Rep.bl
    · exact q.elim
theorem se_orV (ha : SE K ta da) (hb : SE K tb db) : SE K (tOrV ta tb) (eOrV da db) where
  mono := fun h q => asB_mono ha (fun _ q => ⟨fun e => h _ (q.1 e), fun e => hb.mono h (q.2 e)⟩) q
  run := fun {σ H B ds Q} s q => by
    refine ha.run s (ha.mono (fun r q v H1 B1 g1 rr => ?_) q)
    split at q
    · rename_i b
      refine ⟨b, rep_bl rr, ?_⟩
      cases b with
      | true =>
        show Q (.bl true) H1
        exact q.1 rfl _ H1 B1 g1 Rep.bl
      | false =>
        show tb σ H1 Q
        exact hb.run (s.grow g1) (hb.mono (fun b q v H2 B2 g2 r2 => q v H2 B2 (g1.trans g2) (r2.base g1.hh)) (q.2 rfl))
    · exact q.elim
theorem se_notV (ha : SE K ta da) : SE K (tNotV ta) (eNotV da) where
  mono := fun h q => asB_mono ha (fun _ q => h _ q) q
  run := fun {σ H B ds Q} s q => by
    refine ha.run s (ha.mono (fun r q v H1 B1 g1 rr => ?_) q)
    split at q
    · rename_i b
      exact ⟨b, rep_bl rr, q _ H1 B1 g1 Rep.bl⟩
    · exact q.elim
theorem px_one {op} (h : PX X a ta da) : PX X (.BoolOp op [a] pos) ta da := ⟨pe_one h.p, h.s⟩
theorem px_and {rest : List Expr} (ha : PX X a ta da) (hb : PX X (.BoolOp .And (b :: rest) pos) tb db) : PX X (.BoolOp .And (a :: b :: rest) pos) (tAndV ta tb) (eAndV da db) := ⟨pe_and ha.p hb.p, se_andV ha.s hb.s⟩
theorem px_or {rest : List Expr} (ha : PX X a ta da) (hb : PX X (.BoolOp .Or (b :: rest) pos) tb db) : PX X (.BoolOp .Or (a :: b :: rest) pos) (tOrV ta tb) (eOrV da db) := ⟨pe_or ha.p hb.p, se_orV ha.s hb.s⟩
theorem px_not (ha : PX X a ta da) : PX X (.UnaryOp .Not a pos) (tNotV ta) (eNotV da) := ⟨pe_not ha.p, se_notV ha.s⟩
/-! one place -/
def eNeg (da : DE) : DE := fun ds P => da ds fun x => match x with
  | .val (.int i) => P (.val (.int (-i)))
  | _ => False
theorem px_neg (ha : PX X a ta da) : PX X (.UnaryOp .USub a pos) (tUn (rU fun i => .int (-i)) ta) (eNeg da) := ⟨pe_un un_neg ha.p, {
  mono := fun h q => ha.s.mono (fun r q => by split at q; exact h _ q; exact q.elim) q
  run := fun {σ H B ds Q} s q => by
    refine ha.s.run s (ha.s.mono (fun r q v H1 B1 g1 rr => ?_) q)
    split at q
    · exact ⟨_, rep_int rr, q _ _ _ g1 Rep.int⟩
    · exact q.elim }⟩
/-! argument lists -/
def aNil : DA := fun _ P => P []
def aCons (da : DE) (dr : DA) : DA := fun ds P => da ds fun r => ∃ d, r.d = some d ∧ dr ds fun xs => P (d :: xs)
theorem sa_nil : SA K tNil aNil where
  mono := fun h q => h _ q
  run := fun s q => q _ _ _ (Gr.refl s.bh) .nil
theorem sa_cons {t : TA} {dr : DA} (ha : SE K ta da) (hr : SA K t dr) : SA K (tCons ta t) (aCons da dr) where
  mono := fun h q => ha.mono (fun _ ⟨d, e, q⟩ => ⟨d, e, hr.mono (fun _ q => h _ q) q⟩) q
  run := fun {σ H B ds Q} s q => by
    refine ha.run s (ha.mono (fun r ⟨d, e, q⟩ v H1 B1 g1 rr => ?_) q)
    obtain ⟨B2, g2, s2, r2⟩ := rr.freeze g1 e
    refine hr.run (s.grow g2) (hr.mono (fun xs q vs H3 B3 g3 rs => ?_) q)
    exact q _ _ _ (g2.trans g3) (.cons (r2.mono g3.bb) rs)
theorem pxa_nil : PXA X [] tNil aNil := ⟨pa_nil, sa_nil⟩
theorem pxa_cons {e : Expr} {es : List Expr} {te : TE} {de : DE} {t : TA} {dr : DA} (ha : PX X e te de) (hr : PXA X es t dr) (hs : starEach (e :: es) X.env = (false, eval e X.env) :: starEach es X.env := by rfl) : PXA X (e :: es) (tCons te t) (aCons de dr) :=
  ⟨pa_cons ha.p hr.p hs, sa_cons ha.s hr.s⟩
/-! displays -/
def eTup (da : DA) : DE := fun ds P => da ds fun xs => xs.length ≤ sizeLine ∧ P (.val (.tup xs))
def eLst (da : DA) : DE := fun ds P => da ds fun xs => xs.length ≤ sizeLine ∧ P (.own xs)
theorem gr_laid {H B : Hp} {p : Addr} {o : HO} (s : Same B H) (h : H p = none) : Gr H B (upd H p o) B :=
  ⟨same_upd h, Same.refl _, s.trans (same_upd h), fun _ _ q => q⟩
theorem own_new {H B : Hp} {p : Addr} {vs : List V} {xs : List D} (s : Same B H) (h : H p = none) (r : Reps K B vs xs) : RepR K H B (upd H p (.lst vs)) (.ref p) (.own xs) :=
  ⟨p, vs, rfl, h, s.free h, upd_same, r⟩
theorem gr_tup {H B : Hp} {p : Addr} {o : HO} (s : Same B H) (h : H p = none) : Gr H B (upd H p o) (upd B p o) := by
  refine ⟨same_upd h, same_upd (s.free h), fun x u e => ?_, fun x hx hb => ?_⟩
  · by_cases w : x = p
    · subst w; rw [upd_same] at e ⊢; exact e
    · rw [upd_ne w] at e ⊢; exact s _ _ e
  · have w : x ≠ p := fun w => hx (by rw [w]; exact h)
    rw [upd_ne w]; exact hb
theorem sq_tup {H : Hp} {p : Addr} {vs : List V} (h : H p = some (.tup vs)) : SqT K H p vs := .inl (.inl h)
theorem px_tup {es : List Expr} {t : TA} {da : DA} {x1} (h : PXA X es t da) : PX X (.Tuple es x1 pos) (tTup t) (eTup da) := ⟨pe_tup h.p, {
  mono := fun hp q => h.s.mono (fun _ q => ⟨q.1, hp _ q.2⟩) q
  run := fun {σ H B ds Q} s q => by
    refine h.s.run s (h.s.mono (fun xs q vs H1 B1 g1 rr => ?_) q)
    refine ⟨by rw [rr.len]; exact q.1, fun p hp => q.2 _ _ _ (g1.trans (gr_tup g1.bh hp)) ?_⟩
    exact Rep.tup (sq_tup upd_same) (rr.mono (same_upd (g1.bh.free hp))) }⟩
theorem px_lst {es : List Expr} {t : TA} {da : DA} (h : PXA X es t da) : PX X (.List es pos) (tLst t) (eLst da) := ⟨pe_lst h.p, {
  mono := fun hp q => h.s.mono (fun _ q => ⟨q.1, hp _ q.2⟩) q
  run := fun {σ H B ds Q} s q => by
    refine h.s.run s (h.s.mono (fun xs q vs H1 B1 g1 rr => ?_) q)
    refine ⟨by rw [rr.len]; exact q.1, fun p hp => q.2 _ _ _ (g1.trans (gr_laid g1.bh hp)) ?_⟩
    exact (own_new g1.bh hp rr).base g1.hh }⟩
end
end Dl

namespace Dl
open PySem PySem.Spec PyProof.Rows L2
section
variable {K : PySem.W.Frag} {X : Cx} {a b : Expr} {ta tb : TE} {da db : DE} {pos : Pos}
/-! products of either kind -/
def CMulA (i j : Int) : Prop := CMul i j ∨ CMulW i j
theorem op_mulA {X : Cx} : OpR X (binaryOp .Mult) (rI CMulA fun i j => .int (i * j)) := opI fun _ _ _ _ _ _ _ hc q => mul_int q (hc.elim CMul.ok CMulW.ok)
abbrev dMulA : D2 := dI CMulA fun i j => .int (i * j)
theorem px_mulA (ha : PX X a ta da) (hb : PX X b tb db) : PX X (.BinOp a .Mult b pos) (tOp (rI CMulA fun i j => .int (i * j)) ta tb) (eOp dMulA da db) := ⟨pe_op op_mulA ha.p hb.p, se_op (sr_I fun _ _ _ => .int) ha.s hb.s⟩
abbrev dPow : D2 := dI CPow fun i j => .int (i ^ j.toNat)
theorem px_pow (ha : PX X a ta da) (hb : PX X b tb db) : PX X (.BinOp a .Pow b pos) (tOp (rI CPow fun i j => .int (i ^ j.toNat)) ta tb) (eOp dPow da db) := ⟨pe_op op_pow ha.p hb.p, se_op (sr_I fun _ _ _ => .int) ha.s hb.s⟩
/-! an item -/
theorem Reps.atI {B : Hp} {vs : List V} {xs : List D} {i : Int} {d : D} (r : Reps K B vs xs) (h : atI xs i = some d) : ∃ v, L2.atI vs i = some v ∧ Rep K B v d := by
  unfold L2.atI at h ⊢
  rw [r.len]
  cases e : ixN xs.length i with
  | none => rw [e] at h; cases h
  | some j =>
    rw [e] at h
    exact r.get h
def dIx : D2 := fun x y P => match y with
  | .val (.int i) => ∃ d, (x.seq.bind fun xs => atI xs i) = some d ∧ P (.val d)
  | _ => False
theorem sr_ix : SR2 K (rIx K) dIx where
  mono := fun {x y P P'} h q => by
    unfold dIx at q ⊢
    split at q
    · obtain ⟨d, e, q⟩ := q; exact ⟨d, e, h _ q⟩
    · exact q.elim
  run := fun {x y v u H0 H B Q} s s0 rx ry q => by
    unfold dIx at q
    split at q
    · rename_i i
      obtain ⟨d, e, q⟩ := q
      have eu := rep_int ry
      subst eu
      cases w : x.seq with
      | none => rw [w] at e; cases e
      | some xs =>
        rw [w] at e
        obtain ⟨p, vs, rfl, h, r⟩ := rx.seq s w
        obtain ⟨z, hz, rz⟩ := r.atI e
        rcases h with h | h
        · exact .inl ⟨p, vs, i, z, rfl, rfl, h, hz, q _ _ _ (Gr.refl s) rz⟩
        · exact .inr (.inl ⟨p, vs, i, z, rfl, rfl, h, hz, q _ _ _ (Gr.refl s) rz⟩)
    · exact q.elim
theorem px_ix (ha : PX X a ta da) (hb : PX X b tb db) (hs : PlainIx b := by exact fun _ _ => rfl) : PX X (.Subscript a b pos) (tOp (rIx X.K) ta tb) (eOp dIx da db) := ⟨pe_ix ix_seq ha.p hb.p hs, se_op sr_ix ha.s hb.s⟩
/-! a slice -/
def cutD (xs : List D) (lo hi : Option Int) : List D := (xs.drop (HT.sIx xs.length 0 lo)).take (HT.sIx xs.length xs.length hi - HT.sIx xs.length 0 lo)
theorem Reps.cut {B : Hp} {vs : List V} {xs : List D} {lo hi : Option Int} (r : Reps K B vs xs) : Reps K B (cutV vs lo hi) (cutD xs lo hi) := by
  unfold cutV cutD
  rw [r.len]
  exact (r.drop _).take _
abbrev DO := List S → (Option Int → Prop) → Prop
structure SO (K : PySem.W.Frag) (to : TO) (dO : DO) : Prop where
  mono : ∀ {ds : List S} {P P' : Option Int → Prop}, (∀ r, P r → P' r) → dO ds P → dO ds P'
  run : ∀ {σ : L2.St} {H B : Hp} {ds : List S} {Q : Option Int → Hp → Prop}, Sl K H B σ ds → dO ds (fun o => ∀ H' B', Gr H B H' B' → Q o H') → to σ H Q
structure PXO (X : Cx) (e : Option Expr) (to : TO) (dO : DO) : Prop where
  p : PO X e to
  s : SO X.K to dO
def oNone : DO := fun _ P => P none
def oSome (da : DE) : DO := fun ds P => da ds fun r => match r with
  | .val (.int i) => P (some i)
  | _ => False
theorem pxo_none : PXO X none tNoPart oNone := ⟨po_none, ⟨fun h q => h _ q, fun s q => q _ _ (Gr.refl s.bh)⟩⟩
theorem pxo_some (h : PX X a ta da) : PXO X (some a) (tPart ta) (oSome da) := ⟨po_some h.p, {
  mono := fun hp q => h.s.mono (fun r q => by split at q; exact hp _ q; exact q.elim) q
  run := fun {σ H B ds Q} s q => by
    refine h.s.run s (h.s.mono (fun r q v H1 B1 g1 rr => ?_) q)
    split at q
    · exact ⟨_, rep_int rr, q _ _ g1⟩
    · exact q.elim }⟩
def isTup : R → Bool
  | .val (.tup _) => true
  | _ => false
/-- of a list: a new list; of a tuple: a tuple -/
def eSl (da : DE) (lo hi : DO) : DE := fun ds P => da ds fun r => lo ds fun l => hi ds fun u => ∃ xs, r.seq = some xs ∧ P (if isTup r then .val (.tup (cutD xs l u)) else .own (cutD xs l u))
theorem not_tup {H0 B H : Hp} {v : V} {r : R} {xs : List D} (g : Same B H) (hr : RepR K H0 B H v r) (h : r.seq = some xs) (ht : isTup r = false) : ∃ a vs, v = .ref a ∧ SqL K H a vs ∧ Reps K B vs xs := by
  cases r with
  | val d => cases d with
    | lst ys =>
      obtain ⟨a, vs, e, z, q⟩ := RepR.lst g hr h
      exact ⟨a, vs, e, SqL.of z, q⟩
    | slst ys =>
      cases h
      cases (show Rep K B v (.slst xs) from hr) with
      | slst a q => exact ⟨_, _, rfl, same_l g a, q⟩
    | tup ys => cases ht
    | _ => cases h
  | own ys =>
    obtain ⟨a, vs, e, z, q⟩ := RepR.lst g hr h
    exact ⟨a, vs, e, SqL.of z, q⟩
  | bor ys =>
    obtain ⟨a, vs, e, z, q⟩ := RepR.lst g hr h
    exact ⟨a, vs, e, SqL.of z, q⟩
theorem is_tup {r : R} {xs : List D} (h : r.seq = some xs) (ht : isTup r = true) : r = .val (.tup xs) := by
  cases r with
  | val d => cases d with
    | tup ys => cases h; rfl
    | _ => cases ht
  | _ => cases ht
theorem cut_whole {xs : List D} {lo hi : Option Int} (h : HT.sIx xs.length 0 lo = 0 ∧ HT.sIx xs.length xs.length hi = xs.length) : cutD xs lo hi = xs := by
  unfold cutD
  rw [h.1, h.2]
  simp
theorem px_sl {lo hi : Option Expr} {tl th : TO} {dl dh : DO} {p2 : Pos} (ha : PX X a ta da) (hl : PXO X lo tl dl) (hh : PXO X hi th dh) :
    PX X (.Subscript a (.Slice lo hi none p2) pos) (tSl (fun x lo hi H Q => rSlL X.K x lo hi H Q ∨ rSlA X.K x lo hi H Q) ta tl th) (eSl da dl dh) := ⟨pe_slice (sl_list.or sl_tupA) ha.p hl.p hh.p, {
  mono := fun hp q => ha.s.mono (fun r q => hl.s.mono (fun l q => hh.s.mono (fun u ⟨xs, e, q⟩ => ⟨xs, e, hp _ q⟩) q) q) q
  run := fun {σ H B ds Q} s q => by
    refine ha.s.run s (ha.s.mono (fun r q v H1 B1 g1 rr => ?_) q)
    refine hl.s.run (s.grow g1) (hl.s.mono (fun l q H2 B2 g2 => ?_) q)
    refine hh.s.run ((s.grow g1).grow g2) (hh.s.mono (fun u ⟨xs, e, qq⟩ H3 B3 g3 => ?_) q)
    have r3 := (rr.grow g2).grow g3
    have g := (g1.trans g2).trans g3
    cases t : isTup r with
    | false =>
      obtain ⟨p, vs, rfl, h, rs⟩ := not_tup g.bh r3 e t
      rw [t] at qq
      refine .inl ⟨p, vs, rfl, h, fun D hD => qq _ _ _ (g.trans (gr_laid g.bh hD)) ?_⟩
      exact (own_new g.bh hD rs.cut).base g.hh
    | true =>
      rw [t] at qq
      have er := is_tup e t
      subst er
      cases (show Rep X.K B3 v (.tup xs) from r3) with
      | tup hT rs =>
        rename_i p vs
        refine .inr ⟨p, vs, rfl, same_t g.bh hT, fun hw => qq _ _ _ g ?_, fun _ D hD => qq _ _ _ (g.trans (gr_tup g.bh hD)) ?_⟩
        · rw [rs.len] at hw
          rw [cut_whole hw]
          exact Rep.tup hT rs
        · have sm := same_upd (o := HO.tup (cutV vs l u)) (g.bh.free hD)
          exact Rep.tup (sq_tup upd_same) (rs.cut.mono sm) }⟩
/-! built-ins of one value -/
abbrev D1 := R → (R → Prop) → Prop
structure SC1 (K : PySem.W.Frag) (r : List V → Hp → VK → Prop) (d1 : D1) : Prop where
  mono : ∀ {x : R} {P P' : R → Prop}, (∀ r, P r → P' r) → d1 x P → d1 x P'
  run : ∀ {x : R} {v : V} {H0 H B : Hp} {Q : VK}, Same B H → Same H0 H → RepR K H0 B H v x → d1 x (fun r => ∀ w H' B', Gr H B H' B' → RepR K H B' H' w r → Q w H') → r [v] H Q
def eB1 (d1 : D1) (da : DE) : DE := fun ds P => da ds fun x => d1 x P
theorem se_b1 {r : List V → Hp → VK → Prop} {d1 : D1} (hs : SC1 K r d1) (ha : SE K ta da) : SE K (tCB r (tCons ta tNil)) (eB1 d1 da) where
  mono := fun h q => ha.mono (fun _ q => hs.mono h q) q
  run := fun {σ H B ds Q} s q => by
    refine ha.run s (ha.mono (fun x q v H1 B1 g1 r1 => ?_) q)
    exact hs.run g1.bh g1.hh r1 (hs.mono (fun r q w H2 B2 g2 r2 => q w H2 B2 (g1.trans g2) (r2.base g1.hh)) q)
theorem px_b1 {x : Str} {p : Pos} {id : String} {r : List V → Hp → VK → Prop} {d1 : D1} (hc : CallR X (.builtin id) r) (hs : SC1 X.K r d1) (hg : Gl X x) (hm : X.mg x = none) (hv : bootBuiltins x = some (.builtin id)) (ha : PX X a ta da)
    (hn : x ≠ "__name__" := by decide) (hdb : (x == ("__debug__" : Str)) = false := by decide) (he : starEach [a] X.env = (false, eval a X.env) :: starEach [] X.env := by rfl) (hpl : (backTo pos (starEach [] X.env)).any (·.1) = false := by rfl) :
    PX X (.Call (.Name x p) [a] [] pos) (tCB r (tCons ta tNil)) (eB1 d1 da) := ⟨pe_callB hc hg hm hv (pa_cons ha.p pa_nil he) hn hdb he hpl, se_b1 hs ha.s⟩
theorem px_t1 {x : Str} {p : Pos} {T : String} {r : List V → Hp → VK → Prop} {d1 : D1} (hc : CallR X (.type T) r) (hs : SC1 X.K r d1) (hg : Gl X x) (hm : X.mg x = none) (hv : bootBuiltins x = some (.type T)) (ha : PX X a ta da)
    (hn : x ≠ "__name__" := by decide) (hdb : (x == ("__debug__" : Str)) = false := by decide) (he : starEach [a] X.env = (false, eval a X.env) :: starEach [] X.env := by rfl) (hpl : (backTo pos (starEach [] X.env)).any (·.1) = false := by rfl) :
    PX X (.Call (.Name x p) [a] [] pos) (tCB r (tCons ta tNil)) (eB1 d1 da) := ⟨pe_callTy hc hg hm hv (pa_cons ha.p pa_nil he) hn hdb he hpl, se_b1 hs ha.s⟩
-- len
def rLenQ (K : PySem.W.Frag) : List V → Hp → VK → Prop := fun xs H Q => ∃ p ys, xs = [.ref p] ∧ (SqL K H p ys ∨ SqT K H p ys) ∧ Q (.int ys.length) H
def dLen : D1 := fun x P => ∃ xs, x.seq = some xs ∧ P (.val (.int xs.length))
theorem sc_len : SC1 K (rLenQ K) dLen where
  mono := fun h ⟨xs, e, q⟩ => ⟨xs, e, h _ q⟩
  run := fun {x v H0 H B Q} s s0 rx ⟨xs, e, q⟩ => by
    obtain ⟨p, vs, rfl, h, r⟩ := rx.seq s e
    refine ⟨p, vs, rfl, h, ?_⟩
    rw [r.len]
    exact q _ _ _ (Gr.refl s) Rep.int
theorem px_len {p : Pos} (hg : Gl X "len") (hm : X.mg "len" = none) (ha : PX X a ta da) (he : starEach [a] X.env = (false, eval a X.env) :: starEach [] X.env := by rfl) (hpl : (backTo pos (starEach [] X.env)).any (·.1) = false := by rfl) :
    PX X (.Call (.Name "len" p) [a] [] pos) (tCB (rLenQ X.K) (tCons ta tNil)) (eB1 dLen da) := px_b1 (id := "len") call_len_seq sc_len hg hm PySem.boot_len ha (by decide) (by decide) he hpl
-- list(x)
def rListQ (K : PySem.W.Frag) : List V → Hp → VK → Prop := fun xs H Q => ∃ p ys, xs = [.ref p] ∧ (SqL K H p ys ∨ SqT K H p ys) ∧ ∀ l, H l = none → Q (.ref l) (upd H l (.lst ys))
def dList : D1 := fun x P => ∃ xs, x.seq = some xs ∧ P (.own xs)
theorem sc_list : SC1 K (rListQ K) dList where
  mono := fun h ⟨xs, e, q⟩ => ⟨xs, e, h _ q⟩
  run := fun {x v H0 H B Q} s s0 rx ⟨xs, e, q⟩ => by
    obtain ⟨p, vs, rfl, h, r⟩ := rx.seq s e
    exact ⟨p, vs, rfl, h, fun l hl => q _ _ _ (gr_laid s hl) (own_new s hl r)⟩
theorem px_list {p : Pos} (hg : Gl X "list") (hm : X.mg "list" = none) (ha : PX X a ta da) (he : starEach [a] X.env = (false, eval a X.env) :: starEach [] X.env := by rfl) (hpl : (backTo pos (starEach [] X.env)).any (·.1) = false := by rfl) :
    PX X (.Call (.Name "list" p) [a] [] pos) (tCB (rListQ X.K) (tCons ta tNil)) (eB1 dList da) := px_t1 (T := "list") call_list_of sc_list hg hm (by decide +kernel) ha (by decide) (by decide) he hpl
-- tuple(x)
def rTupQ (K : PySem.W.Frag) : List V → Hp → VK → Prop := fun xs H Q => ∃ p ys, xs = [.ref p] ∧ ((SqL K H p ys ∧ ∀ l, H l = none → Q (.ref l) (upd H l (.tup ys))) ∨ (SqT K H p ys ∧ Q (.ref p) H))
def dTup : D1 := fun x P => ∃ xs, x.seq = some xs ∧ P (.val (.tup xs))
theorem sc_tup : SC1 K (rTupQ K) dTup where
  mono := fun h ⟨xs, e, q⟩ => ⟨xs, e, h _ q⟩
  run := fun {x v H0 H B Q} s s0 rx ⟨xs, e, q⟩ => by
    cases t : isTup x with
    | false =>
      obtain ⟨p, vs, rfl, h, r⟩ := not_tup s rx e t
      exact ⟨p, vs, rfl, .inl ⟨h, fun l hl => q _ _ _ (gr_tup s hl) (Rep.tup (sq_tup upd_same) (r.mono (same_upd (s.free hl))))⟩⟩
    | true =>
      have er := is_tup e t
      subst er
      cases (show Rep K B v (.tup xs) from rx) with
      | tup hT rs => exact ⟨_, _, rfl, .inr ⟨same_t s hT, q _ _ _ (Gr.refl s) (Rep.tup hT rs)⟩⟩
theorem px_tupleOf {p : Pos} (hg : Gl X "tuple") (hm : X.mg "tuple" = none) (ha : PX X a ta da) (he : starEach [a] X.env = (false, eval a X.env) :: starEach [] X.env := by rfl) (hpl : (backTo pos (starEach [] X.env)).any (·.1) = false := by rfl) :
    PX X (.Call (.Name "tuple" p) [a] [] pos) (tCB (rTupQ X.K) (tCons ta tNil)) (eB1 dTup da) := px_t1 (T := "tuple") call_tuple_of sc_tup hg hm (by decide +kernel) ha (by decide) (by decide) he hpl
-- int(x), abs(x)
def rInt1 : List V → Hp → VK → Prop := fun xs H Q => (∃ i, xs = [.int i] ∧ Q (.int i) H) ∨ ∃ k, xs = [.bl k] ∧ Q (.int (if k then 1 else 0)) H
def dInt : D1 := fun x P => match x with
  | .val (.int i) => P (.val (.int i))
  | .val (.bl k) => P (.val (.int (if k then 1 else 0)))
  | _ => False
theorem sc_int : SC1 K rInt1 dInt where
  mono := fun {x P P'} h q => by
    unfold dInt at q ⊢
    split at q
    · exact h _ q
    · exact h _ q
    · exact q.elim
  run := fun {x v H0 H B Q} s s0 rx q => by
    unfold dInt at q
    split at q
    · rw [rep_int rx]; exact .inl ⟨_, rfl, q _ _ _ (Gr.refl s) Rep.int⟩
    · rw [rep_bl rx]; exact .inr ⟨_, rfl, q _ _ _ (Gr.refl s) Rep.int⟩
    · exact q.elim
theorem px_intOf {p : Pos} (hg : Gl X "int") (hm : X.mg "int" = none) (ha : PX X a ta da) (he : starEach [a] X.env = (false, eval a X.env) :: starEach [] X.env := by rfl) (hpl : (backTo pos (starEach [] X.env)).any (·.1) = false := by rfl) :
    PX X (.Call (.Name "int" p) [a] [] pos) (tCB rInt1 (tCons ta tNil)) (eB1 dInt da) := px_t1 (T := "int") call_int1 sc_int hg hm (by decide +kernel) ha (by decide) (by decide) he hpl
def rAbs : List V → Hp → VK → Prop := fun xs H Q => ∃ i : Int, xs = [.int i] ∧ Q (.int (if i < 0 then -i else i)) H
def dAbs : D1 := fun x P => match x with
  | .val (.int i) => P (.val (.int (if i < 0 then -i else i)))
  | _ => False
theorem sc_abs : SC1 K rAbs dAbs where
  mono := fun {x P P'} h q => by
    unfold dAbs at q ⊢
    split at q
    · exact h _ q
    · exact q.elim
  run := fun {x v H0 H B Q} s s0 rx q => by
    unfold dAbs at q
    split at q
    · rw [rep_int rx]; exact ⟨_, rfl, q _ _ _ (Gr.refl s) Rep.int⟩
    · exact q.elim
theorem px_abs {p : Pos} (hg : Gl X "abs") (hm : X.mg "abs" = none) (ha : PX X a ta da) (he : starEach [a] X.env = (false, eval a X.env) :: starEach [] X.env := by rfl) (hpl : (backTo pos (starEach [] X.env)).any (·.1) = false := by rfl) :
    PX X (.Call (.Name "abs" p) [a] [] pos) (tCB rAbs (tCons ta tNil)) (eB1 dAbs da) := px_b1 (id := "abs") call_abs sc_abs hg hm (by decide +kernel) ha (by decide) (by decide) he hpl
-- x.bit_length()
def eBits (da : DE) : DE := fun ds P => da ds fun r => match r with
  | .val (.int i) => P (.val (.int (Builtin.Int.intBits i : Nat)))
  | _ => False
theorem px_bits {apos : Pos} (ha : PX X a ta da) (hbase : attributeBase a "bit_length" X.env (eval a X.env) = eval a X.env := by rfl) (hline : (apos.endLine == pos.line) = true := by rfl) : PX X (.Call (.Attribute a "bit_length" apos) [] [] pos) (tBits ta) (eBits da) := ⟨pe_bits ha.p hbase hline, {
  mono := fun h q => ha.s.mono (fun r q => by split at q; exact h _ q; exact q.elim) q
  run := fun {σ H B ds Q} s q => by
    refine ha.s.run s (ha.s.mono (fun r q v H1 B1 g1 rr => ?_) q)
    split at q
    · exact ⟨_, rep_int rr, q _ _ _ g1 Rep.int⟩
    · exact q.elim }⟩
/-! sums, least and greatest of whole numbers in a list or a tuple -/
theorem sum_tup {prog : Program} {w : World} {A : Around} {E : Value → Shared → Prop} {s : Shared} {l : Addr} {its : List Value} {ns : List Int} {Q : Value → Shared → Prop} (hh : A.handled = none) (hl : s.heap.IsTuple l its.toArray) (hi : IntsAre its ns)
    (h : ∀ h' tk t', (∀ b o, s.heap.get? b = some o → h'.get? b = some o) → Q (.int ns.sum t') { s with heap := h', toks := tk }) : wpAny (model prog w) A (call (.builtin "sum") [.ref l]) Q E s := by
  obtain ⟨xs, e⟩ := hi.allInts.items
  have hn : numsOf (intItems xs).toList = ns := by rw [← e]; exact hi.numsOf
  rw [nums_intItems] at hn
  rw [e] at hl
  refine PySem.W.ktm_sumG hh hl fun h' tk t' hk => ?_
  have := h h' tk t' hk
  rw [preSum_eq, List.take_of_length_le (by simp), hn]; exact this
theorem iter_intTup {prog : Program} {w : World} {A : Around} {E : Value → Shared → Prop} {s : Shared} {l : Addr} {xs : Array (Int × Tok)} {Q : Value → Shared → Prop} (hl : s.heap.IsTuple l (intItems xs))
    (h : ∀ s₂ : Shared, s₂ = { s with heap := s.heap.push { cls := .type "tuple_iterator", data := .fields #[.ref l, .int 0 0] } } →
      (s₂.heap.IsTupleIter s.heap.objs.size l 0 ∧ s₂.heap.IsTuple l (intItems xs)) → (∀ b ∈ [s.heap.objs.size, l], b < s₂.heap.objs.size) → l ≠ s.heap.objs.size → Q (.ref s.heap.objs.size) s₂) :
    wpAny (model prog w) A (pyIter (.ref l)) Q E s := by
  have hlt : l < s.heap.objs.size := by obtain ⟨_, e, _⟩ := hl; exact Heap.lt_size e
  refine wpAny_pyIter_tuple hl (h _ rfl ⟨⟨_, Heap.get?_push_size _ rfl, rfl, rfl⟩, hl.at fun o e => Heap.get?_push_of_some _ e⟩ (fun b hb => ?_) (Nat.ne_of_lt hlt))
  show b < (s.heap.push _).objs.size
  rw [Heap.size_push]
  rcases List.mem_cons.mp hb with rfl | hb
  · exact Nat.lt_succ_self _
  · rcases List.mem_cons.mp hb with rfl | hb
    · exact Nat.lt_succ_of_lt hlt
    · cases hb
theorem old_keptT {s : Shared} {l : Addr} {h' : Heap} (hk : ∀ b o, b ∉ [s.heap.objs.size] → (s.heap.push { cls := .type "tuple_iterator", data := .fields #[.ref l, .int 0 0] }).get? b = some o → h'.get? b = some o) :
    ∀ b o, s.heap.get? b = some o → h'.get? b = some o := fun b o e => by
  refine hk b o (fun hm => ?_) (Heap.get?_push_of_some _ e)
  rcases List.mem_cons.mp hm with e1 | hm
  · exact absurd (e1 ▸ Heap.lt_size e) (Nat.lt_irrefl _)
  · cases hm
section
variable {prog : Program} {w : World} {A : Around} {E : Value → Shared → Prop} {s : Shared} {l : Addr} {its : List Value} {ns : List Int} {Q : Value → Shared → Prop}
theorem max_tup (hh : A.handled = none) (hl : s.heap.IsTuple l its.toArray) (hi : IntsAre its ns) (hne : 0 < ns.length)
    (h : ∀ h' tk M t', (∀ b o, s.heap.get? b = some o → h'.get? b = some o) → M ∈ ns → (∀ a, a ∈ ns → a ≤ M) → Q (.int M t') { s with heap := h', toks := tk }) : wpAny (model prog w) A (call (.builtin "max") [.ref l]) Q E s := by
  obtain ⟨xs, e⟩ := hi.allInts.items
  have hn : numsOf (intItems xs).toList = ns := by rw [← e]; exact hi.numsOf
  rw [nums_intItems] at hn
  subst hn
  rw [e] at hl
  have hsz : 0 < xs.size := by simpa using hne
  refine call_max_walk (iter_intTup hl fun s₂ e2 st hfp hlI => ?_)
  subst e2
  refine ⟨_, _, _, _, _, _, _, rfl, Walks.tuple (A := A.in1) hh _ l hlI (intItems xs), st, hfp, by simpa [intItems] using hsz, CmpOf.ints_gt (numAt xs) (fun _ _ => intItems_at), fun v h' tk hP hk => ?_⟩
  have hv : (intItems xs)[argBest (fun i j => decide (numAt xs i > numAt xs j)) (xs.size - 1)]? = some v := by simpa [intItems] using hP
  obtain ⟨t, rfl⟩ := intItems_at hv
  obtain ⟨h1, h2⟩ := argBest_gt (numAt xs) (xs.size - 1)
  refine h h' tk _ t (old_keptT hk) ?_ fun a ha => ?_
  · rw [numAt_eq]; exact PySem.getD_mem (by rw [List.length_map, Array.length_toList]; omega)
  · obtain ⟨j, hj, rfl⟩ := mem_getD ha
    rw [List.length_map, Array.length_toList] at hj
    rw [← numAt_eq]; exact h2 j (by omega)
theorem min_tup (hh : A.handled = none) (hl : s.heap.IsTuple l its.toArray) (hi : IntsAre its ns) (hne : 0 < ns.length)
    (h : ∀ h' tk M t', (∀ b o, s.heap.get? b = some o → h'.get? b = some o) → M ∈ ns → (∀ a, a ∈ ns → M ≤ a) → Q (.int M t') { s with heap := h', toks := tk }) : wpAny (model prog w) A (call (.builtin "min") [.ref l]) Q E s := by
  obtain ⟨xs, e⟩ := hi.allInts.items
  have hn : numsOf (intItems xs).toList = ns := by rw [← e]; exact hi.numsOf
  rw [nums_intItems] at hn
  subst hn
  rw [e] at hl
  have hsz : 0 < xs.size := by simpa using hne
  refine call_min_walk (iter_intTup hl fun s₂ e2 st hfp hlI => ?_)
  subst e2
  refine ⟨_, _, _, _, _, _, _, rfl, Walks.tuple (A := A.in1) hh _ l hlI (intItems xs), st, hfp, by simpa [intItems] using hsz, CmpOf.ints_lt (numAt xs) (fun _ _ => intItems_at), fun v h' tk hP hk => ?_⟩
  have hv : (intItems xs)[argBest (fun i j => decide (numAt xs i < numAt xs j)) (xs.size - 1)]? = some v := by simpa [intItems] using hP
  obtain ⟨t, rfl⟩ := intItems_at hv
  obtain ⟨h1, h2⟩ := argBest_lt (numAt xs) (xs.size - 1)
  refine h h' tk _ t (old_keptT hk) ?_ fun a ha => ?_
  · rw [numAt_eq]; exact PySem.getD_mem (by rw [List.length_map, Array.length_toList]; omega)
  · obtain ⟨j, hj, rfl⟩ := mem_getD ha
    rw [List.length_map, Array.length_toList] at hj
    rw [← numAt_eq]; exact h2 j (by omega)
end
/-- of a list or a tuple -/
def SqA (K : PySem.W.Frag) (H : Hp) (a : Addr) (xs : List V) : Prop := SqL K H a xs ∨ SqT K H a xs
def rSumA (K : PySem.W.Frag) : List V → Hp → VK → Prop := fun vs H Q => ∃ (a : Addr) (ns : List Int), vs = [V.ref a] ∧ SqA K H a (ns.map V.int) ∧ Q (.int ns.sum) H
def rMaxA (K : PySem.W.Frag) : List V → Hp → VK → Prop := fun vs H Q => ∃ (a : Addr) (ns : List Int), vs = [V.ref a] ∧ SqA K H a (ns.map V.int) ∧ 0 < ns.length ∧ ∀ m, m ∈ ns → (∀ y, y ∈ ns → y ≤ m) → Q (.int m) H
def rMinA (K : PySem.W.Frag) : List V → Hp → VK → Prop := fun vs H Q => ∃ (a : Addr) (ns : List Int), vs = [V.ref a] ∧ SqA K H a (ns.map V.int) ∧ 0 < ns.length ∧ ∀ m, m ∈ ns → (∀ y, y ∈ ns → m ≤ y) → Q (.int m) H
theorem isTup_of {h : Heap} {a : Addr} {its : Array Value} (x : IsTup h a its) : h.IsTuple a its := x
theorem cr_sumA (hc : X.calm = true) : CallR X (.builtin "sum") (rSumA X.K) := by
  intro pins s σ H vs us Q I r h
  obtain ⟨a, ns, rfl, hs, q⟩ := h
  rcases hs with hs | hs
  · exact cr_sum hc pins s σ H _ us Q I r ⟨a, ns, rfl, hs, q⟩
  · obtain ⟨its, rv, hl, _⟩ := I.tuple hs
    rw [Vals.ref1 r]
    exact sum_tup (I.ok.hd hc) (isTup_of hl) rv.ints fun h' tk t' hk => ⟨.int _, H, I.kept hk, ⟨_, rfl⟩, q⟩
theorem cr_maxA (hc : X.calm = true) : CallR X (.builtin "max") (rMaxA X.K) := by
  intro pins s σ H vs us Q I r h
  obtain ⟨a, ns, rfl, hs, hne, q⟩ := h
  rcases hs with hs | hs
  · exact cr_max hc pins s σ H _ us Q I r ⟨a, ns, rfl, hs, hne, q⟩
  · obtain ⟨its, rv, hl, _⟩ := I.tuple hs
    rw [Vals.ref1 r]
    exact max_tup (I.ok.hd hc) (isTup_of hl) rv.ints hne fun h' tk m t' hk h1 h2 => ⟨.int _, H, I.kept hk, ⟨_, rfl⟩, q m h1 h2⟩
theorem cr_minA (hc : X.calm = true) : CallR X (.builtin "min") (rMinA X.K) := by
  intro pins s σ H vs us Q I r h
  obtain ⟨a, ns, rfl, hs, hne, q⟩ := h
  rcases hs with hs | hs
  · exact cr_min hc pins s σ H _ us Q I r ⟨a, ns, rfl, hs, hne, q⟩
  · obtain ⟨its, rv, hl, _⟩ := I.tuple hs
    rw [Vals.ref1 r]
    exact min_tup (I.ok.hd hc) (isTup_of hl) rv.ints hne fun h' tk m t' hk h1 h2 => ⟨.int _, H, I.kept hk, ⟨_, rfl⟩, q m h1 h2⟩
/-! least and greatest -/
def lmin : List Int → Int
  | [] => 0
  | [x] => x
  | x :: y :: r => min x (lmin (y :: r))
def lmax : List Int → Int
  | [] => 0
  | [x] => x
  | x :: y :: r => max x (lmax (y :: r))
theorem lmin_mem : ∀ {ns : List Int}, ns ≠ [] → lmin ns ∈ ns
  | [], h => absurd rfl h
  | [x], _ => List.mem_singleton.mpr rfl
  | x :: y :: r, _ => by
    show min x (lmin (y :: r)) ∈ _
    have ih := lmin_mem (ns := y :: r) (by simp)
    rcases Int.le_total x (lmin (y :: r)) with h | h
    · rw [Int.min_eq_left h]; exact List.mem_cons_self
    · rw [Int.min_eq_right h]; exact List.mem_cons_of_mem _ ih
theorem lmin_le : ∀ {ns : List Int} {x : Int}, x ∈ ns → lmin ns ≤ x
  | [], _, h => by cases h
  | [x], z, h => by rw [List.mem_singleton.mp h]; exact Int.le_refl _
  | x :: y :: r, z, h => by
    show min x (lmin (y :: r)) ≤ z
    rcases List.mem_cons.mp h with e | h
    · rw [e]; exact Int.min_le_left _ _
    · exact Int.le_trans (Int.min_le_right _ _) (lmin_le h)
theorem lmax_mem : ∀ {ns : List Int}, ns ≠ [] → lmax ns ∈ ns
  | [], h => absurd rfl h
  | [x], _ => List.mem_singleton.mpr rfl
  | x :: y :: r, _ => by
    show max x (lmax (y :: r)) ∈ _
    have ih := lmax_mem (ns := y :: r) (by simp)
    rcases Int.le_total x (lmax (y :: r)) with h | h
    · rw [Int.max_eq_right h]; exact List.mem_cons_of_mem _ ih
    · rw [Int.max_eq_left h]; exact List.mem_cons_self
theorem le_lmax : ∀ {ns : List Int} {x : Int}, x ∈ ns → x ≤ lmax ns
  | [], _, h => by cases h
  | [x], z, h => by rw [List.mem_singleton.mp h]; exact Int.le_refl _
  | x :: y :: r, z, h => by
    show z ≤ max x (lmax (y :: r))
    rcases List.mem_cons.mp h with e | h
    · rw [e]; exact Int.le_max_left _ _
    · exact Int.le_trans (le_lmax h) (Int.le_max_right _ _)
def dSum : D1 := fun x P => ∃ ns : List Int, x.seq = some (ns.map D.int) ∧ P (.val (.int ns.sum))
def dMin : D1 := fun x P => ∃ ns : List Int, x.seq = some (ns.map D.int) ∧ ns ≠ [] ∧ P (.val (.int (lmin ns)))
def dMax : D1 := fun x P => ∃ ns : List Int, x.seq = some (ns.map D.int) ∧ ns ≠ [] ∧ P (.val (.int (lmax ns)))
theorem sc_sum : SC1 K (rSumA K) dSum where
  mono := fun h ⟨xs, e, q⟩ => ⟨xs, e, h _ q⟩
  run := fun {x v H0 H B Q} s s0 rx ⟨ns, e, q⟩ => by
    obtain ⟨p, vs, rfl, h, r⟩ := rx.seq s e
    rw [r.ints] at h
    exact ⟨p, ns, rfl, h, q _ _ _ (Gr.refl s) Rep.int⟩
theorem sc_min : SC1 K (rMinA K) dMin where
  mono := fun h ⟨xs, e, n, q⟩ => ⟨xs, e, n, h _ q⟩
  run := fun {x v H0 H B Q} s s0 rx ⟨ns, e, hn, q⟩ => by
    obtain ⟨p, vs, rfl, h, r⟩ := rx.seq s e
    rw [r.ints] at h
    refine ⟨p, ns, rfl, h, List.length_pos_iff.mpr hn, fun m h1 h2 => ?_⟩
    have em : m = lmin ns := Int.le_antisymm (h2 _ (lmin_mem hn)) (lmin_le h1)
    rw [em]
    exact q _ _ _ (Gr.refl s) Rep.int
theorem sc_max : SC1 K (rMaxA K) dMax where
  mono := fun h ⟨xs, e, n, q⟩ => ⟨xs, e, n, h _ q⟩
  run := fun {x v H0 H B Q} s s0 rx ⟨ns, e, hn, q⟩ => by
    obtain ⟨p, vs, rfl, h, r⟩ := rx.seq s e
    rw [r.ints] at h
    refine ⟨p, ns, rfl, h, List.length_pos_iff.mpr hn, fun m h1 h2 => ?_⟩
    have em : m = lmax ns := Int.le_antisymm (le_lmax h1) (h2 _ (lmax_mem hn))
    rw [em]
    exact q _ _ _ (Gr.refl s) Rep.int
variable {p : Pos}
theorem px_sum (hc : X.calm = true) (hg : Gl X "sum") (hm : X.mg "sum" = none) (ha : PX X a ta da) (he : starEach [a] X.env = (false, eval a X.env) :: starEach [] X.env := by rfl) (hpl : (backTo pos (starEach [] X.env)).any (·.1) = false := by rfl) :
    PX X (.Call (.Name "sum" p) [a] [] pos) (tCB (rSumA X.K) (tCons ta tNil)) (eB1 dSum da) := px_b1 (id := "sum") (cr_sumA hc) sc_sum hg hm (by decide +kernel) ha (by decide) (by decide) he hpl
theorem px_min (hc : X.calm = true) (hg : Gl X "min") (hm : X.mg "min" = none) (ha : PX X a ta da) (he : starEach [a] X.env = (false, eval a X.env) :: starEach [] X.env := by rfl) (hpl : (backTo pos (starEach [] X.env)).any (·.1) = false := by rfl) :
    PX X (.Call (.Name "min" p) [a] [] pos) (tCB (rMinA X.K) (tCons ta tNil)) (eB1 dMin da) := px_b1 (id := "min") (cr_minA hc) sc_min hg hm (by decide +kernel) ha (by decide) (by decide) he hpl
theorem px_max (hc : X.calm = true) (hg : Gl X "max") (hm : X.mg "max" = none) (ha : PX X a ta da) (he : starEach [a] X.env = (false, eval a X.env) :: starEach [] X.env := by rfl) (hpl : (backTo pos (starEach [] X.env)).any (·.1) = false := by rfl) :
    PX X (.Call (.Name "max" p) [a] [] pos) (tCB (rMaxA X.K) (tCons ta tNil)) (eB1 dMax da) := px_b1 (id := "max") (cr_maxA hc) sc_max hg hm (by decide +kernel) ha (by decide) (by decide) he hpl
/-! any, all of truths -/
def dAny : D1 := fun x P => ∃ bs : List Bool, x.lst = some (bs.map D.bl) ∧ P (.val (.bl (bs.any id)))
def dAll : D1 := fun x P => ∃ bs : List Bool, x.lst = some (bs.map D.bl) ∧ P (.val (.bl (bs.all id)))
theorem sc_any : SC1 K (rAny K) dAny where
  mono := fun h ⟨xs, e, q⟩ => ⟨xs, e, h _ q⟩
  run := fun {x v H0 H B Q} s s0 rx ⟨ns, e, q⟩ => by
    obtain ⟨p, vs, rfl, h, r⟩ := rx.lst s e
    rw [r.bls] at h
    exact ⟨p, ns, rfl, SqL.of h, q _ _ _ (Gr.refl s) Rep.bl⟩
theorem sc_all : SC1 K (rAll K) dAll where
  mono := fun h ⟨xs, e, q⟩ => ⟨xs, e, h _ q⟩
  run := fun {x v H0 H B Q} s s0 rx ⟨ns, e, q⟩ => by
    obtain ⟨p, vs, rfl, h, r⟩ := rx.lst s e
    rw [r.bls] at h
    exact ⟨p, ns, rfl, SqL.of h, q _ _ _ (Gr.refl s) Rep.bl⟩
theorem px_any (hc : X.calm = true) (hg : Gl X "any") (hm : X.mg "any" = none) (ha : PX X a ta da) (he : starEach [a] X.env = (false, eval a X.env) :: starEach [] X.env := by rfl) (hpl : (backTo pos (starEach [] X.env)).any (·.1) = false := by rfl) :
    PX X (.Call (.Name "any" p) [a] [] pos) (tCB (rAny X.K) (tCons ta tNil)) (eB1 dAny da) := px_b1 (id := "any") (cr_any hc) sc_any hg hm (by decide +kernel) ha (by decide) (by decide) he hpl
theorem px_all (hc : X.calm = true) (hg : Gl X "all") (hm : X.mg "all" = none) (ha : PX X a ta da) (he : starEach [a] X.env = (false, eval a X.env) :: starEach [] X.env := by rfl) (hpl : (backTo pos (starEach [] X.env)).any (·.1) = false := by rfl) :
    PX X (.Call (.Name "all" p) [a] [] pos) (tCB (rAll X.K) (tCons ta tNil)) (eB1 dAll da) := px_b1 (id := "all") (cr_all hc) sc_all hg hm (by decide +kernel) ha (by decide) (by decide) he hpl
/-! sorted whole numbers -/
def dSorted : D1 := fun x P => ∃ ns : List Int, x.lst = some (ns.map D.int) ∧ ns.length < 64 ∧ ∀ ms : List Int, ms.Perm ns → ms.Pairwise (· ≤ ·) → P (.own (ms.map D.int))
theorem sc_sorted : SC1 K (rSorted K) dSorted where
  mono := fun h ⟨xs, e, n, q⟩ => ⟨xs, e, n, fun ms a b => h _ (q ms a b)⟩
  run := fun {x v H0 H B Q} s s0 rx ⟨ns, e, hn, q⟩ => by
    obtain ⟨p, vs, rfl, h, r⟩ := rx.lst s e
    rw [r.ints] at h
    exact ⟨p, ns, rfl, SqL.of h, hn, fun ms l h1 h2 hl => q ms h1 h2 _ _ _ (gr_laid s hl) (own_new s hl (reps_ints ms))⟩
theorem px_sorted (hg : Gl X "sorted") (hm : X.mg "sorted" = none) (ha : PX X a ta da) (he : starEach [a] X.env = (false, eval a X.env) :: starEach [] X.env := by rfl) (hpl : (backTo pos (starEach [] X.env)).any (·.1) = false := by rfl) :
    PX X (.Call (.Name "sorted" p) [a] [] pos) (tCB (rSorted X.K) (tCons ta tNil)) (eB1 dSorted da) := px_b1 (id := "sorted") cr_sorted sc_sorted hg hm (by decide +kernel) ha (by decide) (by decide) he hpl
/-! list + list, list * int, in -/
def dCat : D2 := fun x y P => ∃ xs ys, x.lst = some xs ∧ y.lst = some ys ∧ xs.length + ys.length ≤ sizeLine ∧ P (.own (xs ++ ys))
theorem sr_cat : SR2 K rCat dCat where
  mono := fun h ⟨xs, ys, e, f, n, q⟩ => ⟨xs, ys, e, f, n, h _ q⟩
  run := fun {x y v u H0 H B Q} s s0 rx ry ⟨xs, ys, e, f, n, q⟩ => by
    obtain ⟨p, vs, rfl, h, r⟩ := rx.lst s e
    obtain ⟨p2, ws, rfl, h2, r2⟩ := ry.lst s f
    exact ⟨p, p2, vs, ws, rfl, rfl, h, h2, by rw [r.len, r2.len]; exact n, fun l hl => q _ _ _ (gr_laid s hl) (own_new s hl (r.append r2))⟩
theorem px_cat (ha : PX X a ta da) (hb : PX X b tb db) : PX X (.BinOp a .Add b pos) (tOp rCat ta tb) (eOp dCat da db) := ⟨pe_op op_cat ha.p hb.p, se_op sr_cat ha.s hb.s⟩
def dRep : D2 := fun x y P => ∃ xs k, x.lst = some xs ∧ y = .val (.int k) ∧ -(2 ^ 63) ≤ k ∧ k < 2 ^ 63 ∧ xs.length * k.toNat ≤ sizeLine ∧ P (.own ((List.replicate k.toNat xs).flatten))
theorem Reps.rep {B : Hp} {vs : List V} {xs : List D} (h : Reps K B vs xs) : ∀ k : Nat, Reps K B (List.replicate k vs).flatten (List.replicate k xs).flatten
  | 0 => .nil
  | k + 1 => by
    rw [List.replicate_succ, List.replicate_succ, List.flatten_cons, List.flatten_cons]
    exact h.append (h.rep k)
theorem sr_rep : SR2 K rRep dRep where
  mono := fun h ⟨xs, k, e, f, n1, n2, n3, q⟩ => ⟨xs, k, e, f, n1, n2, n3, h _ q⟩
  run := fun {x y v u H0 H B Q} s s0 rx ry ⟨xs, k, e, f, n1, n2, n3, q⟩ => by
    obtain ⟨p, vs, rfl, h, r⟩ := rx.lst s e
    subst f
    rw [rep_int ry]
    exact ⟨p, k, vs, rfl, rfl, h, n1, n2, by rw [r.len]; exact n3, fun l hl => q _ _ _ (gr_laid s hl) (own_new s hl (r.rep _))⟩
theorem px_rep (ha : PX X a ta da) (hb : PX X b tb db) : PX X (.BinOp a .Mult b pos) (tOp rRep ta tb) (eOp dRep da db) := ⟨pe_op op_rep ha.p hb.p, se_op sr_rep ha.s hb.s⟩
theorem flat_ints (ns : List Int) : (ns.map V.int).all flatV = true := List.all_eq_true.mpr fun x hx => by
  obtain ⟨i, _, rfl⟩ := List.mem_map.mp hx
  rfl
theorem in_ints (i : Int) (ns : List Int) : inV (.int i) (ns.map V.int) = decide (i ∈ ns) := by
  unfold inV
  rw [Bool.eq_iff_iff, List.any_eq_true, decide_eq_true_iff]
  constructor
  · rintro ⟨x, hx, e⟩
    obtain ⟨j, hj, rfl⟩ := List.mem_map.mp hx
    have z : j = i := by simpa [eqV] using e
    exact z ▸ hj
  · intro h
    exact ⟨.int i, List.mem_map.mpr ⟨i, h, rfl⟩, by simp [eqV]⟩
def dIn (neg : Bool) : D2 := fun x y P => ∃ (i : Int) (ns : List Int), x = .val (.int i) ∧ y.seq = some (ns.map D.int) ∧ P (.val (.bl (if neg then !decide (i ∈ ns) else decide (i ∈ ns))))
theorem sr_in (neg : Bool) : SR2 K (rIn K neg) (dIn neg) where
  mono := fun h ⟨i, ns, e, f, q⟩ => ⟨i, ns, e, f, h _ q⟩
  run := fun {x y v u H0 H B Q} s s0 rx ry ⟨i, ns, e, f, q⟩ => by
    subst e
    rw [rep_int rx]
    obtain ⟨p, vs, rfl, h, r⟩ := ry.seq s f
    rw [r.ints] at h
    refine ⟨p, _, rfl, h, rfl, flat_ints ns, ?_⟩
    rw [in_ints]
    exact q _ _ _ (Gr.refl s) Rep.bl
theorem cx_in (h : ∀ b : Expr, behindInMarks .In b = false) : CmpX X .In (rIn X.K false) (dIn false) := ⟨op_in_seq, sr_in false, h⟩
theorem px_in (ha : PX X a ta da) (hb : PX X b tb db) (hm : behindInMarks .In b = false := by rfl) : PX X (.Compare a [.In] [b] pos) (tOp (rIn X.K false) ta tb) (eOp (dIn false) da db) := ⟨pe_cmpR op_in_seq ha.p hb.p hm, se_op (sr_in false) ha.s hb.s⟩
theorem px_notin (ha : PX X a ta da) (hb : PX X b tb db) (hm : behindInMarks .NotIn b = false := by rfl) : PX X (.Compare a [.NotIn] [b] pos) (tOp (rIn X.K true) ta tb) (eOp (dIn true) da db) := ⟨pe_cmpR op_notIn_seq ha.p hb.p hm, se_op (sr_in true) ha.s hb.s⟩
theorem pxt_in (ha : PX X a ta da) (hb : PX X b tb db) (hm : behindInMarks .In b = false := by rfl) : PXT X (.Compare a [.In] [b] pos) (tTest (tOp (rIn X.K false) ta tb)) (asB (eOp (dIn false) da db)) := ⟨pt_cmpR op_in_seq ha.p hb.p hm, st_of (se_op (sr_in false) ha.s hb.s)⟩
theorem pxt_notin (ha : PX X a ta da) (hb : PX X b tb db) (hm : behindInMarks .NotIn b = false := by rfl) : PXT X (.Compare a [.NotIn] [b] pos) (tTest (tOp (rIn X.K true) ta tb)) (asB (eOp (dIn true) da db)) := ⟨pt_cmpR op_notIn_seq ha.p hb.p hm, st_of (se_op (sr_in true) ha.s hb.s)⟩
end
end Dl

namespace Dl
open PySem PySem.Spec PyProof.Rows L2
section
variable {K : PySem.W.Frag} {X : Cx} {a b e : Expr} {ta tb te : TE} {da db de : DE} {pos : Pos}
/-! promises over data -/
abbrev DSp := List D → (R → Prop) → Prop
def MSp (dsp : DSp) : Prop := ∀ (ds : List D) (P P' : R → Prop), (∀ r, P r → P' r) → dsp ds P → dsp ds P'
def liftSp (K : PySem.W.Frag) (dsp : DSp) : Sp := fun vs H Q _ => ∃ (B : Hp) (ds : List D), Same B H ∧ Reps K B vs ds ∧ dsp ds (fun r => ∀ v H' B', Gr H B H' B' → RepR K H B' H' v r → Q v H')
def eCall (dsp : DSp) (dD : List D) (da : DA) : DE := fun ds P => da ds fun xs => dsp (xs ++ dD) P
section
variable {k : Nat} {f C : Addr} {fd : FuncData} {ps : List Str} {dsp : DSp} {dvs : List V} {dD : List D} {dsv : List Value} {x : Str} {p : Pos} {es : List Expr} {t : TA} {dA : DA} {E : XK}
theorem se_call (M : MSp dsp) (hD : ∀ B, Reps K B dvs dD) (ha : SA K t dA) : SE K (tCall (liftSp K dsp) dvs E t) (eCall dsp dD dA) where
  mono := fun h q => ha.mono (fun xs q => M _ _ _ h q) q
  run := fun {σ H B ds Q} s q => by
    refine ha.run s (ha.mono (fun xs q vs H1 B1 g1 rs => ?_) q)
    exact ⟨B1, xs ++ dD, g1.bh, rs.append (hD B1), M _ _ _ (fun r q v H2 B2 g2 r2 => q v H2 B2 (g1.trans g2) (r2.base g1.hh)) q⟩
theorem px_call (F : FnOk X.prog X.w X.K X.mg X.base CX0 k f fd ps (liftSp X.K dsp)) (M : MSp dsp) (hr : Room k X.A) (hg : Gl X x) (hm : X.mg x = some (.ref f)) (hk : PySem.W.keepIn X.K (.ref f) = true) (hb : Binds X.K fd ps dsv) (hd : Vals dvs dsv) (hD : ∀ B, Reps X.K B dvs dD)
    (ha : PXA X (e :: es) t dA) (hdb : (x == ("__debug__" : Str)) = false := by decide) (he : starEach (e :: es) X.env = (false, eval e X.env) :: starEach es X.env := by rfl) (hpl : (backTo pos (starEach es X.env)).any (·.1) = false := by rfl) :
    PX X (.Call (.Name x p) (e :: es) [] pos) (tCall (liftSp X.K dsp) dvs E0 t) (eCall dsp dD dA) := ⟨pe_call F hr hg hm hk hb hd pass0 ha.p hdb he hpl, se_call M hD ha.s⟩
/-! a call of arguments that are only borrowed: a plain answer -/
mutual
def nolst : D → Bool
  | .lst _ => false
  | .slst _ => false
  | .tup xs => nolsts xs
  | .ins _ fs => nolstF fs
  | _ => true
def nolsts : List D → Bool
  | [] => true
  | x :: r => nolst x && nolsts r
def nolstF : List (Str × D) → Bool
  | [] => true
  | (_, x) :: r => nolst x && nolstF r
end
/-- B' has what B has but lists -/
def LessB (B B' : Hp) : Prop := ∀ a o, B a = some o → (∃ vs, o = .lst vs) ∨ B' a = some o
section
variable {B B' : Hp}
theorem less_t {a : Addr} {xs : List V} (e : LessB B B') (h : SqT K B a xs) : SqT K B' a xs := by
  rcases h with (h | ⟨o, h⟩) | h
  · rcases e a _ h with ⟨_, z⟩ | z
    · cases z
    · exact .inl (.inl z)
  · rcases e a _ h with ⟨_, z⟩ | z
    · cases z
    · exact .inl (.inr ⟨o, z⟩)
  · exact .inr h
mutual
theorem rep_less (e : LessB B B') {v : V} {d : D} : Rep K B v d → nolst d = true → Rep K B' v d
  | .non, _ => .non
  | .bl, _ => .bl
  | .int, _ => .int
  | .str, _ => .str
  | .tup h r, n => .tup (less_t e h) (reps_less e r n)
  | .lst h r, n => by cases n
  | .slst h r, n => by cases n
  | .ins o h r, n => by
    rcases e _ _ h with ⟨_, z⟩ | z
    · cases z
    · exact .ins o z (repF_less e r n)
theorem reps_less (e : LessB B B') {vs : List V} {ds : List D} : Reps K B vs ds → nolsts ds = true → Reps K B' vs ds
  | .nil, _ => .nil
  | .cons h r, n => by
    have n' := Bool.and_eq_true_iff.mp (show (nolst _ && nolsts _) = true from n)
    exact .cons (rep_less e h n'.1) (reps_less e r n'.2)
theorem repF_less (e : LessB B B') {vs : List (Str × V)} {ds : List (Str × D)} : RepF K B vs ds → nolstF ds = true → RepF K B' vs ds
  | .nil, _ => .nil
  | .cons h r, n => by
    have n' := Bool.and_eq_true_iff.mp (show (nolst _ && nolstF _) = true from n)
    exact .cons (rep_less e h n'.1) (repF_less e r n'.2)
end
end
def R.dB : R → D
  | .val d => d
  | .own xs => .lst xs
  | .bor xs => .lst xs
structure SAB (K : PySem.W.Frag) (ta : TA) (da : DA) : Prop where
  mono : ∀ {ds : List S} {P P' : List D → Prop}, (∀ r, P r → P' r) → da ds P → da ds P'
  run : ∀ {σ : L2.St} {H B : Hp} {ds : List S} {Q : List V → Hp → Prop}, Sl K H B σ ds → da ds (fun xs => ∀ vs H' B' B2, Gr H B H' B' → Same B' B2 → Same B2 H' → LessB B2 B' → Reps K B2 vs xs → Q vs H') → ta σ H Q
def aConsB (da : DE) (dr : DA) : DA := fun ds P => da ds fun r => dr ds fun xs => P (r.dB :: xs)
theorem sab_nil : SAB K tNil aNil where
  mono := fun h q => h _ q
  run := fun s q => q _ _ _ _ (Gr.refl s.bh) (Same.refl _) s.bh (fun _ _ z => .inr z) .nil
theorem RepR.here {H B' H' : Hp} {v : V} {r : R} (h : RepR K H B' H' v r) : ∀ H3 B3 B2, Same H' H3 → Same B' B3 → Same B3 B2 → Same B2 H3 → ∃ B4, Same B2 B4 ∧ Same B4 H3 ∧ LessB B4 B2 ∧ Rep K B4 v r.dB := fun H3 B3 B2 hh hb h2 h3 => by
  have key : ∀ (p : Addr) (vs : List V) (xs : List D), v = .ref p → H' p = some (.lst vs) → Reps K B' vs xs → ∃ B4, Same B2 B4 ∧ Same B4 H3 ∧ LessB B4 B2 ∧ Rep K B4 v (.lst xs) := fun p vs xs e c q => by
    subst e
    have s4 : Same B2 (upd B2 p (.lst vs)) := fun a o z => by
      by_cases w : a = p
      · subst w
        have := h3 _ _ z
        rw [hh _ _ c] at this
        rw [upd_same]; exact this
      · rw [upd_ne w]; exact z
    refine ⟨upd B2 p (.lst vs), s4, fun a o z => ?_, fun a o z => ?_, .lst upd_same (((q.mono hb).mono h2).mono s4)⟩
    · by_cases w : a = p
      · subst w; rw [upd_same] at z; cases z; exact hh _ _ c
      · rw [upd_ne w] at z; exact h3 _ _ z
    · by_cases w : a = p
      · subst w; rw [upd_same] at z; cases z; exact .inl ⟨_, rfl⟩
      · rw [upd_ne w] at z; exact .inr z
  cases r with
  | val d => exact ⟨B2, Same.refl _, h3, (fun _ _ z => .inr z), (Rep.mono hb h).mono h2⟩
  | own xs =>
    obtain ⟨p, vs, e, _, _, c, q⟩ := h
    exact key p vs xs e c q
  | bor xs =>
    obtain ⟨p, vs, e, _, c, q⟩ := h
    exact key p vs xs e c q
theorem sab_cons {dr : DA} (ha : SE K ta da) (hr : SAB K t dr) : SAB K (tCons ta t) (aConsB da dr) where
  mono := fun h q => ha.mono (fun _ q => hr.mono (fun _ q => h _ q) q) q
  run := fun {σ H B ds Q} s q => by
    refine ha.run s (ha.mono (fun r q v H1 B1 g1 rr => ?_) q)
    refine hr.run (s.grow g1) (hr.mono (fun xs q vs H3 B3 B2 g3 s2 s3 l2 rs => ?_) q)
    obtain ⟨B4, s4, s5, l4, r4⟩ := rr.here H3 B3 B2 g3.hh g3.bb s2 s3
    exact q _ _ _ _ (g1.trans g3) (s2.trans s4) s5 (fun a o z => (l4 a o z).elim .inl fun z => l2 a o z) (.cons r4 (rs.mono s4))
structure PXAB (X : Cx) (es : List Expr) (ta : TA) (da : DA) : Prop where
  p : PA X es ta
  s : SAB X.K ta da
theorem pxab_nil : PXAB X [] tNil aNil := ⟨pa_nil, sab_nil⟩
theorem pxab_cons {dr : DA} (ha : PX X e te de) (hr : PXAB X es t dr) (hs : starEach (e :: es) X.env = (false, eval e X.env) :: starEach es X.env := by rfl) : PXAB X (e :: es) (tCons te t) (aConsB de dr) :=
  ⟨pa_cons ha.p hr.p hs, sab_cons ha.s hr.s⟩
/-- behind a call with borrowed lists: they are no part of what stays -/
theorem back {H B H1 B1 B2 H2 B3 : Hp} (g1 : Gr H B H1 B1) (s1 : Same B1 B2) (l2 : LessB B2 B1) (g2 : Gr H1 B2 H2 B3) : ∃ B4, Gr H B H2 B4 ∧ LessB B3 B4 := by
  refine ⟨fun a => if B1 a = none ∧ B2 a ≠ none then none else B3 a, ⟨g1.hh.trans g2.hh, fun a o z => ?_, fun a o z => ?_, fun a ha hb => ?_⟩, fun a o z => ?_⟩
  · have z1 := g1.bb _ _ z
    show (if B1 a = none ∧ B2 a ≠ none then none else B3 a) = some o
    rw [if_neg (fun w => by rw [z1] at w; cases w.1)]
    exact g2.bb _ _ (s1 _ _ z1)
  · have z' : (if B1 a = none ∧ B2 a ≠ none then none else B3 a) = some o := z
    split at z'
    · cases z'
    · exact g2.bh _ _ z'
  · show (if B1 a = none ∧ B2 a ≠ none then none else B3 a) = none
    have h1 := g1.nw a ha hb
    by_cases w : B2 a = none
    · rw [if_neg (fun u => u.2 w)]
      exact g2.nw a (fun u => ha (g1.hh.free u)) w
    · rw [if_pos ⟨h1, w⟩]
  · by_cases w : B1 a = none ∧ B2 a ≠ none
    · cases w2 : B2 a with
      | none => exact absurd w2 w.2
      | some u =>
        have z3 := g2.bb _ _ w2
        rw [z] at z3; cases z3
        rcases l2 a _ w2 with q | q
        · exact .inl q
        · rw [w.1] at q; cases q
    · exact .inr (by show (if B1 a = none ∧ B2 a ≠ none then none else B3 a) = some o; rw [if_neg w]; exact z)
def eCallB (dsp : DSp) (dD : List D) (da : DA) : DE := fun ds P => da ds fun xs => dsp (xs ++ dD) fun r => ∃ d, r = .val d ∧ nolst d = true ∧ P (.val d)
theorem se_callB (M : MSp dsp) (hD : ∀ B, Reps K B dvs dD) (ha : SAB K t dA) : SE K (tCall (liftSp K dsp) dvs E t) (eCallB dsp dD dA) where
  mono := fun h q => ha.mono (fun xs q => M _ _ _ (fun r ⟨d, e, z, q⟩ => ⟨d, e, z, h _ q⟩) q) q
  run := fun {σ H B ds Q} s q => by
    refine ha.run s (ha.mono (fun xs q vs H1 B1 B2 g1 s1 s2 l2 rs => ?_) q)
    refine ⟨B2, xs ++ dD, s2, rs.append (hD B2), M _ _ _ (fun r ⟨d, e, z, q⟩ v H2 B3 g2 r2 => ?_) q⟩
    subst e
    obtain ⟨B4, g4, lb⟩ := back g1 s1 l2 g2
    exact q v H2 B4 g4 (rep_less lb r2 z)
theorem px_callB (F : FnOk X.prog X.w X.K X.mg X.base CX0 k f fd ps (liftSp X.K dsp)) (M : MSp dsp) (hr : Room k X.A) (hg : Gl X x) (hm : X.mg x = some (.ref f)) (hk : PySem.W.keepIn X.K (.ref f) = true) (hb : Binds X.K fd ps dsv) (hd : Vals dvs dsv) (hD : ∀ B, Reps X.K B dvs dD)
    (ha : PXAB X (e :: es) t dA) (hdb : (x == ("__debug__" : Str)) = false := by decide) (he : starEach (e :: es) X.env = (false, eval e X.env) :: starEach es X.env := by rfl) (hpl : (backTo pos (starEach es X.env)).any (·.1) = false := by rfl) :
    PX X (.Call (.Name x p) (e :: es) [] pos) (tCall (liftSp X.K dsp) dvs E0 t) (eCallB dsp dD dA) := ⟨pe_call F hr hg hm hk hb hd pass0 ha.p hdb he hpl, se_callB M hD ha.s⟩
/-! a new instance -/
abbrev DIn := List D → (List (Str × D) → Prop) → Prop
def MIn (d : DIn) : Prop := ∀ (ds : List D) (P P' : List (Str × D) → Prop), (∀ r, P r → P' r) → d ds P → d ds P'
def del (p : Addr) (H : Hp) : Hp := fun a => if a = p then none else H a
theorem del_same {p : Addr} {H : Hp} : del p H p = none := if_pos rfl
theorem del_ne {p q : Addr} {H : Hp} (h : q ≠ p) : del p H q = H q := if_neg h
/-- __init__'s promise: from the new instance without fields and the arguments: the fields -/
def liftIn (K : PySem.W.Frag) (C : Addr) (d : DIn) : Sp := fun vs H Q _ => ∃ (p dx : Addr) (ws : List V) (B : Hp) (ds : List D), vs = .ref p :: ws ∧ H p = some (.ins C dx []) ∧ B p = none ∧ Same B H ∧ Reps K B ws ds ∧
  d ds (fun fs => ∀ H' B' dx' vs', Gr (del p H) B H' B' → B' p = none → H' p = some (.ins C dx' vs') → RepF K B' vs' fs → Q .non H')
def eMake (C : Addr) (d : DIn) (dD : List D) (da : DA) : DE := fun ds P => da ds fun xs => d (xs ++ dD) fun fs => P (.val (.ins C fs))
theorem se_make {d : DIn} (M : MIn d) (hD : ∀ B, Reps K B dvs dD) (ha : SA K t dA) (hS : ∀ xs P, d xs P → d xs (fun fs => P fs ∧ InsOk K C fs)) : SE K (tMake C (liftIn K C d) dvs E t) (eMake C d dD dA) where
  mono := fun h q => ha.mono (fun xs q => M _ _ _ (fun fs q => h _ q) q) q
  run := fun {σ H B ds Q} s q => by
    refine ha.run s (ha.mono (fun xs q vs H1 B1 g1 rs x dx hx hdx hne => ?_) q)
    have sm1 : Same H1 (upd H1 dx (.own x)) := same_upd hdx
    have hx2 : (upd H1 dx (.own x)) x = none := by rw [upd_ne (Ne.symm hne)]; exact hx
    have sm2 : Same (upd H1 dx (.own x)) (upd (upd H1 dx (.own x)) x (.ins C dx [])) := same_upd hx2
    refine ⟨x, dx, _, B1, xs ++ dD, rfl, upd_same, g1.bh.free hx, g1.bh.trans (sm1.trans sm2), rs.append (hD B1), ?_⟩
    refine M _ _ _ (fun fs ⟨q, hI⟩ H' B' dx' vs' g hb hp rf => ⟨rfl, ?_⟩) (hS _ _ q)
    have sd : Same H1 (del x (upd (upd H1 dx (.own x)) x (.ins C dx []))) := fun a o z => by
      have w : a ≠ x := ne_of_none z hx
      rw [del_ne w, upd_ne w]; exact sm1 _ _ z
    have sb := same_upd (o := HO.ins C dx' vs') hb
    refine q _ H' (upd B' x (.ins C dx' vs')) ⟨g1.hh.trans (sd.trans g.hh), g1.bb.trans (g.bb.trans sb), fun a o z => ?_, fun a ha hb' => ?_⟩ (Rep.ins hI upd_same (rf.mono sb))
    · by_cases w : a = x
      · subst w; rw [upd_same] at z; cases z; exact hp
      · rw [upd_ne w] at z; exact g.bh _ _ z
    · have ha1 : H1 a ≠ none := fun z => ha (g1.hh.free z)
      have w : a ≠ x := fun w => ha1 (by rw [w]; exact hx)
      rw [upd_ne w]
      have ha2 : del x (upd (upd H1 dx (.own x)) x (.ins C dx [])) a ≠ none := fun z => ha1 (sd.free z)
      exact g.nw a ha2 (g1.nw a ha hb')
theorem px_make {d : DIn} (Mk' : Mk X.K C f) (F : FnOk X.prog X.w X.K X.mg X.base CX0 k f fd ps (liftIn X.K C d)) (M : MIn d) (hS : ∀ xs P, d xs P → d xs (fun fs => P fs ∧ InsOk X.K C fs)) (hr : Room (k + 1) X.A) (hg : Gl X x) (hm : X.mg x = some (.ref C)) (hb : Binds X.K fd ps dsv) (hd : Vals dvs dsv) (hD : ∀ B, Reps X.K B dvs dD)
    (ha : PXA X (e :: es) t dA) (hdb : (x == ("__debug__" : Str)) = false := by decide) (he : starEach (e :: es) X.env = (false, eval e X.env) :: starEach es X.env := by rfl) (hpl : (backTo pos (starEach es X.env)).any (·.1) = false := by rfl) :
    PX X (.Call (.Name x p) (e :: es) [] pos) (tMake C (liftIn X.K C d) dvs E0 t) (eMake C d dD dA) :=
  ⟨pe_make Mk' F hr hg hm hb hd pass0 ha.p hdb he hpl, se_make M hD ha.s hS⟩
/-- .., arguments that are only borrowed -/
def eMakeB (C : Addr) (d : DIn) (dD : List D) (da : DA) : DE := fun ds P => da ds fun xs => d (xs ++ dD) fun fs => nolstF fs = true ∧ P (.val (.ins C fs))
theorem se_makeB {d : DIn} (M : MIn d) (hD : ∀ B, Reps K B dvs dD) (ha : SAB K t dA) (hS : ∀ xs P, d xs P → d xs (fun fs => P fs ∧ InsOk K C fs)) : SE K (tMake C (liftIn K C d) dvs E t) (eMakeB C d dD dA) where
  mono := fun h q => ha.mono (fun xs q => M _ _ _ (fun fs q => ⟨q.1, h _ q.2⟩) q) q
  run := fun {σ H B ds Q} s q => by
    refine ha.run s (ha.mono (fun xs q vs H1 B1 B2 g1 s1 s2 l2 rs x dx hx hdx hne => ?_) q)
    have sm1 : Same H1 (upd H1 dx (.own x)) := same_upd hdx
    have hx2 : (upd H1 dx (.own x)) x = none := by rw [upd_ne (Ne.symm hne)]; exact hx
    have sm2 : Same (upd H1 dx (.own x)) (upd (upd H1 dx (.own x)) x (.ins C dx [])) := same_upd hx2
    refine ⟨x, dx, _, B2, xs ++ dD, rfl, upd_same, s2.free hx, s2.trans (sm1.trans sm2), rs.append (hD B2), ?_⟩
    refine M _ _ _ (fun fs ⟨⟨nl, q⟩, hI⟩ H' B' dx' vs' g hb hp rf => ⟨rfl, ?_⟩) (hS _ _ q)
    have sd : Same H1 (del x (upd (upd H1 dx (.own x)) x (.ins C dx []))) := fun a o z => by
      have w : a ≠ x := ne_of_none z hx
      rw [del_ne w, upd_ne w]; exact sm1 _ _ z
    have sb := same_upd (o := HO.ins C dx' vs') hb
    have g2 : Gr H1 B2 H' (upd B' x (.ins C dx' vs')) := by
      refine ⟨sd.trans g.hh, g.bb.trans sb, fun a o z => ?_, fun a ha1 hb' => ?_⟩
      · by_cases w : a = x
        · subst w; rw [upd_same] at z; cases z; exact hp
        · rw [upd_ne w] at z; exact g.bh _ _ z
      · have w : a ≠ x := fun w => ha1 (by rw [w]; exact hx)
        rw [upd_ne w]
        have ha2 : del x (upd (upd H1 dx (.own x)) x (.ins C dx [])) a ≠ none := fun z => ha1 (sd.free z)
        exact g.nw a ha2 hb'
    obtain ⟨B4, g4, lb⟩ := back g1 s1 l2 g2
    exact q _ H' B4 g4 (rep_less lb (Rep.ins hI upd_same (rf.mono sb)) nl)
theorem px_makeB {d : DIn} (Mk' : Mk X.K C f) (F : FnOk X.prog X.w X.K X.mg X.base CX0 k f fd ps (liftIn X.K C d)) (M : MIn d) (hS : ∀ xs P, d xs P → d xs (fun fs => P fs ∧ InsOk X.K C fs)) (hr : Room (k + 1) X.A) (hg : Gl X x) (hm : X.mg x = some (.ref C)) (hb : Binds X.K fd ps dsv) (hd : Vals dvs dsv) (hD : ∀ B, Reps X.K B dvs dD)
    (ha : PXAB X (e :: es) t dA) (hdb : (x == ("__debug__" : Str)) = false := by decide) (he : starEach (e :: es) X.env = (false, eval e X.env) :: starEach es X.env := by rfl) (hpl : (backTo pos (starEach es X.env)).any (·.1) = false := by rfl) :
    PX X (.Call (.Name x p) (e :: es) [] pos) (tMake C (liftIn X.K C d) dvs E0 t) (eMakeB C d dD dA) :=
  ⟨pe_make Mk' F hr hg hm hb hd pass0 ha.p hdb he hpl, se_makeB M hD ha.s hS⟩
end
/-! a field -/
def eFld (f : Str) (de : DE) : DE := fun ds P => de ds fun r => match r with
  | .val (.ins C fs) => ∃ d, fs.lookup f = some d ∧ P (.val d)
  | _ => False
theorem lookup_mem {α : Type} {f : Str} : ∀ {fs : List (Str × α)} {d : α}, fs.lookup f = some d → (f, d) ∈ fs
  | [], _, h => by cases h
  | (g, x) :: r, d, h => by
    by_cases q : f = g
    · subst q
      rw [List.lookup_cons, beq_self_eq_true] at h
      cases h; exact List.mem_cons_self
    · have nb : (f == g) = false := beq_eq_false_iff_ne.mpr q
      rw [List.lookup_cons, nb] at h
      exact List.mem_cons_of_mem _ (lookup_mem h)
theorem px_fld {f : Str} (ha : PX X a ta da) (hb : attributeBase a f X.env (eval a X.env) = eval a X.env := by rfl) : PX X (.Attribute a f pos) (tFld X.K ta f) (eFld f da) := ⟨pe_fld ha.p hb, {
  mono := fun h q => ha.s.mono (fun r q => by
    split at q
    · obtain ⟨d, e, q⟩ := q; exact ⟨d, e, h _ q⟩
    · exact q.elim) q
  run := fun {σ H B ds Q} s q => by
    refine ha.s.run s (ha.s.mono (fun r q v H1 B1 g1 rr => ?_) q)
    split at q
    · rename_i C fs
      obtain ⟨d, e, q⟩ := q
      cases (show Rep X.K B1 v (.ins C fs) from rr) with
      | ins o h r =>
        obtain ⟨w, h1, h2⟩ := r.look e
        exact ⟨_, C, _, _, w, rfl, g1.bh _ _ h, o.1, o.2 _ (lookup_mem e), h1, q _ _ _ g1 h2⟩
    · exact q.elim }⟩
end
end Dl

namespace Dl
open PySem PySem.Spec PyProof.Rows L2
/-! ### statements -/
structure DN where
  nx : List S → Prop
  rt : R → Prop
  bk : List S → Prop := fun _ => False
  ct : List S → Prop := fun _ => False
abbrev DS := DN → List S → Prop
structure Sn (K : PySem.W.Frag) (H0 B0 H B : Hp) (σ : L2.St) (ds : List S) : Prop where
  sl : Sl K H B σ ds
  gr : Gr H0 B0 H B
  fr : ∀ (i : Nat) (p : Addr), (ds[i]?.map S.isOwn) = some true → σ[i]? = some (some (V.ref p)) → H0 p = none
structure SS (K : PySem.W.Frag) (ts : TS) (dst : DS) : Prop where
  run : ∀ {H0 B0 : Hp} {σ : L2.St} {H B : Hp} {ds : List S} {Dn : DN} {E : Ends}, Sn K H0 B0 H B σ ds → (∀ σ' H' B' ds', Sn K H0 B0 H' B' σ' ds' → Dn.nx ds' → E.nx σ' H') → (∀ σ' H' B' ds', Sn K H0 B0 H' B' σ' ds' → Dn.bk ds' → E.bk σ' H') →
    (∀ σ' H' B' ds', Sn K H0 B0 H' B' σ' ds' → Dn.ct ds' → E.ct σ' H') → (∀ v H' B' r, Gr H0 B0 H' B' → RepR K H0 B' H' v r → Dn.rt r → E.rt v H') → dst Dn ds → ts E σ H
structure PXS1 (X : Cx) (st : Stmt) (ts : TS) (dst : DS) : Prop where
  p : PS X st ts
  s : SS X.K ts dst
structure PXS (X : Cx) (st : List Stmt) (ts : TS) (dst : DS) : Prop where
  p : PSs X st ts
  s : SS X.K ts dst
section
variable {K : PySem.W.Frag} {X : Cx} {H0 B0 H B H1 B1 : Hp} {σ : L2.St} {ds : List S}
theorem Sn.grow (s : Sn K H0 B0 H B σ ds) (g : Gr H B H1 B1) : Sn K H0 B0 H1 B1 σ ds := ⟨s.sl.grow g, s.gr.trans g, s.fr⟩
/-- a slot takes a value -/
theorem Sn.setV {i : Nat} {v : V} {d : D} (s : Sn K H0 B0 H B σ ds) (r : Rep K B v d) : Sn K H0 B0 H B (σ.set i (some v)) (ds.set i (.val d)) where
  gr := s.gr
  fr := fun j p h e => by
    by_cases q : j = i
    · subst q
      by_cases l : j < ds.length
      · rw [List.getElem?_set_self l] at h; cases h
      · rw [List.getElem?_eq_none (by rw [List.length_set]; omega)] at h; cases h
    · rw [List.getElem?_set_ne (Ne.symm q)] at h e
      exact s.fr j p h e
  sl := {
    bh := s.sl.bh
    len := by rw [List.length_set, List.length_set]; exact s.sl.len
    val := fun j d' e => by
      by_cases q : j = i
      · subst q
        by_cases l : j < ds.length
        · rw [List.getElem?_set_self l] at e
          cases e
          exact ⟨v, List.getElem?_set_self (by rw [← s.sl.len]; exact l), r⟩
        · rw [List.getElem?_eq_none (by rw [List.length_set]; omega)] at e; cases e
      · rw [List.getElem?_set_ne (Ne.symm q)] at e
        rw [List.getElem?_set_ne (Ne.symm q)]
        exact s.sl.val j d' e
    own := fun j xs e => by
      by_cases q : j = i
      · subst q
        by_cases l : j < ds.length
        · rw [List.getElem?_set_self l] at e; cases e
        · rw [List.getElem?_eq_none (by rw [List.length_set]; omega)] at e; cases e
      · rw [List.getElem?_set_ne (Ne.symm q)] at e
        rw [List.getElem?_set_ne (Ne.symm q)]
        exact s.sl.own j xs e
    obj := fun j pp C fs e => by
      by_cases q : j = i
      · subst q
        by_cases l : j < ds.length
        · rw [List.getElem?_set_self l] at e; cases e
        · rw [List.getElem?_eq_none (by rw [List.length_set]; omega)] at e; cases e
      · rw [List.getElem?_set_ne (Ne.symm q)] at e
        rw [List.getElem?_set_ne (Ne.symm q)]
        exact s.sl.obj j pp C fs e
    lat := fun j pp zs e => by
      by_cases q : j = i
      · subst q
        by_cases l : j < ds.length
        · rw [List.getElem?_set_self l] at e; cases e
        · rw [List.getElem?_eq_none (by rw [List.length_set]; omega)] at e; cases e
      · rw [List.getElem?_set_ne (Ne.symm q)] at e
        rw [List.getElem?_set_ne (Ne.symm q)]
        exact s.sl.lat j pp zs e
    sep := fun j k p hjk hj hk e => by
      by_cases q : j = i
      · subst q
        by_cases l : j < ds.length
        · rw [List.getElem?_set_self l] at hj; cases hj
        · rw [List.getElem?_eq_none (by rw [List.length_set]; omega)] at hj; cases hj
      · by_cases q2 : k = i
        · subst q2
          by_cases l : k < ds.length
          · rw [List.getElem?_set_self l] at hk; cases hk
          · rw [List.getElem?_eq_none (by rw [List.length_set]; omega)] at hk; cases hk
        · rw [List.getElem?_set_ne (Ne.symm q)] at hj e
          rw [List.getElem?_set_ne (Ne.symm q2)] at hk
          rw [List.getElem?_set_ne (Ne.symm q2)]
          exact s.sl.sep j k p hjk hj hk e }
/-- a slot is forgotten -/
theorem Sn.setNo {i : Nat} {o : Option V} (s : Sn K H0 B0 H B σ ds) : Sn K H0 B0 H B (σ.set i o) (ds.set i .no) where
  gr := s.gr
  fr := fun j p h e => by
    by_cases q : j = i
    · subst q
      by_cases l : j < ds.length
      · rw [List.getElem?_set_self l] at h; cases h
      · rw [List.getElem?_eq_none (by rw [List.length_set]; omega)] at h; cases h
    · rw [List.getElem?_set_ne (Ne.symm q)] at h e
      exact s.fr j p h e
  sl := {
    bh := s.sl.bh
    len := by rw [List.length_set, List.length_set]; exact s.sl.len
    val := fun j d' e => by
      by_cases q : j = i
      · subst q
        by_cases l : j < ds.length
        · rw [List.getElem?_set_self l] at e; cases e
        · rw [List.getElem?_eq_none (by rw [List.length_set]; omega)] at e; cases e
      · rw [List.getElem?_set_ne (Ne.symm q)] at e
        rw [List.getElem?_set_ne (Ne.symm q)]
        exact s.sl.val j d' e
    own := fun j xs e => by
      by_cases q : j = i
      · subst q
        by_cases l : j < ds.length
        · rw [List.getElem?_set_self l] at e; cases e
        · rw [List.getElem?_eq_none (by rw [List.length_set]; omega)] at e; cases e
      · rw [List.getElem?_set_ne (Ne.symm q)] at e
        rw [List.getElem?_set_ne (Ne.symm q)]
        exact s.sl.own j xs e
    obj := fun j pp C fs e => by
      by_cases q : j = i
      · subst q
        by_cases l : j < ds.length
        · rw [List.getElem?_set_self l] at e; cases e
        · rw [List.getElem?_eq_none (by rw [List.length_set]; omega)] at e; cases e
      · rw [List.getElem?_set_ne (Ne.symm q)] at e
        rw [List.getElem?_set_ne (Ne.symm q)]
        exact s.sl.obj j pp C fs e
    lat := fun j pp zs e => by
      by_cases q : j = i
      · subst q
        by_cases l : j < ds.length
        · rw [List.getElem?_set_self l] at e; cases e
        · rw [List.getElem?_eq_none (by rw [List.length_set]; omega)] at e; cases e
      · rw [List.getElem?_set_ne (Ne.symm q)] at e
        rw [List.getElem?_set_ne (Ne.symm q)]
        exact s.sl.lat j pp zs e
    sep := fun j k p hjk hj hk e => by
      by_cases q : j = i
      · subst q
        by_cases l : j < ds.length
        · rw [List.getElem?_set_self l] at hj; cases hj
        · rw [List.getElem?_eq_none (by rw [List.length_set]; omega)] at hj; cases hj
      · by_cases q2 : k = i
        · subst q2
          by_cases l : k < ds.length
          · rw [List.getElem?_set_self l] at hk; cases hk
          · rw [List.getElem?_eq_none (by rw [List.length_set]; omega)] at hk; cases hk
        · rw [List.getElem?_set_ne (Ne.symm q)] at hj e
          rw [List.getElem?_set_ne (Ne.symm q2)] at hk
          rw [List.getElem?_set_ne (Ne.symm q2)]
          exact s.sl.sep j k p hjk hj hk e }
theorem own_at {i : Nat} {xs : List D} (h : ds[i]? = some (S.own xs)) : (ds[i]?.map S.isOwn) = some true := by rw [h]; rfl
/-- an owned slot's address -/
theorem Sl.ownp (s : Sl K H B σ ds) {i : Nat} {p : Addr} (h : (ds[i]?.map S.isOwn) = some true) (e : σ[i]? = some (some (V.ref p))) : B p = none ∧ H p ≠ none := by
  cases w : ds[i]? with
  | none => rw [w] at h; cases h
  | some z =>
    rw [w] at h
    cases z with
    | no => cases h
    | val d => cases h
    | own xs =>
      obtain ⟨q, vs, a, b, c, _⟩ := s.own i xs w
      rw [a] at e; cases e
      exact ⟨b, by rw [c]; exact fun z => by cases z⟩
    | obj q C fs =>
      obtain ⟨dx, vs, a, b, c, _⟩ := s.obj i q C fs w
      rw [a] at e; cases e
      exact ⟨b, by rw [c]; exact fun z => by cases z⟩
    | lat q xs =>
      obtain ⟨vs, a, b, c, _⟩ := s.lat i q xs w
      rw [a] at e; cases e
      exact ⟨b, by rw [c]; exact fun z => by cases z⟩
/-- a slot takes a new object: the list at p -/
theorem Sn.setOwn {i : Nat} {p : Addr} {vs : List V} {xs : List D} (s : Sn K H0 B0 H B σ ds) (s0 : H0 p = none) (hB : B p = none) (hH : H p = some (.lst vs)) (r : Reps K B vs xs)
    (ap : ∀ j, j ≠ i → (ds[j]?.map S.isOwn) = some true → σ[j]? ≠ some (some (V.ref p))) : Sn K H0 B0 H B (σ.set i (some (.ref p))) (ds.set i (.own xs)) where
  gr := s.gr
  fr := fun j q h e => by
    by_cases w : j = i
    · subst w
      by_cases l : j < σ.length
      · rw [List.getElem?_set_self l] at e; cases e; exact s0
      · rw [List.getElem?_eq_none (by rw [List.length_set]; omega)] at e; cases e
    · rw [List.getElem?_set_ne (Ne.symm w)] at h e
      exact s.fr j q h e
  sl := {
    bh := s.sl.bh
    len := by rw [List.length_set, List.length_set]; exact s.sl.len
    val := fun j d' e => by
      by_cases w : j = i
      · subst w
        by_cases l : j < ds.length
        · rw [List.getElem?_set_self l] at e; cases e
        · rw [List.getElem?_eq_none (by rw [List.length_set]; omega)] at e; cases e
      · rw [List.getElem?_set_ne (Ne.symm w)] at e
        rw [List.getElem?_set_ne (Ne.symm w)]
        exact s.sl.val j d' e
    own := fun j ys e => by
      by_cases w : j = i
      · subst w
        by_cases l : j < ds.length
        · rw [List.getElem?_set_self l] at e
          cases e
          exact ⟨p, vs, List.getElem?_set_self (by rw [← s.sl.len]; exact l), hB, hH, r⟩
        · rw [List.getElem?_eq_none (by rw [List.length_set]; omega)] at e; cases e
      · rw [List.getElem?_set_ne (Ne.symm w)] at e
        rw [List.getElem?_set_ne (Ne.symm w)]
        exact s.sl.own j ys e
    obj := fun j pp C fs e => by
      by_cases w : j = i
      · subst w
        by_cases l : j < ds.length
        · rw [List.getElem?_set_self l] at e; cases e
        · rw [List.getElem?_eq_none (by rw [List.length_set]; omega)] at e; cases e
      · rw [List.getElem?_set_ne (Ne.symm w)] at e
        rw [List.getElem?_set_ne (Ne.symm w)]
        exact s.sl.obj j pp C fs e
    lat := fun j pp zs e => by
      by_cases w : j = i
      · subst w
        by_cases l : j < ds.length
        · rw [List.getElem?_set_self l] at e; cases e
        · rw [List.getElem?_eq_none (by rw [List.length_set]; omega)] at e; cases e
      · rw [List.getElem?_set_ne (Ne.symm w)] at e
        rw [List.getElem?_set_ne (Ne.symm w)]
        exact s.sl.lat j pp zs e
    sep := fun j k q hjk hj hk e e2 => by
      by_cases w : j = i
      · subst w
        have hk' : (ds[k]?.map S.isOwn) = some true := by rw [List.getElem?_set_ne hjk] at hk; exact hk
        rw [List.getElem?_set_ne hjk] at e2
        by_cases l : j < σ.length
        · rw [List.getElem?_set_self l] at e; cases e; exact ap k (Ne.symm hjk) hk' e2
        · rw [List.getElem?_eq_none (by rw [List.length_set]; omega)] at e; cases e
      · rw [List.getElem?_set_ne (Ne.symm w)] at hj e
        by_cases w2 : k = i
        · subst w2
          by_cases l : k < σ.length
          · rw [List.getElem?_set_self l] at e2; cases e2; exact ap j hjk hj e
          · rw [List.getElem?_eq_none (by rw [List.length_set]; omega)] at e2; cases e2
        · rw [List.getElem?_set_ne (Ne.symm w2)] at hk e2
          exact s.sl.sep j k q hjk hj hk e e2 }
/-- the owned list of a slot is changed -/
theorem Sn.upd {i : Nat} {p : Addr} {xs ys : List D} {ws : List V} (s : Sn K H0 B0 H B σ ds) (h : ds[i]? = some (S.own xs)) (e : σ[i]? = some (some (V.ref p))) (r : Reps K B ws ys) : Sn K H0 B0 (upd H p (.lst ws)) B σ (ds.set i (.own ys)) := by
  have ho := own_at h
  obtain ⟨hB, hH⟩ := s.sl.ownp ho e
  have s0 := s.fr i p ho e
  have ne : ∀ j q, j ≠ i → (ds[j]?.map S.isOwn) = some true → σ[j]? = some (some (V.ref q)) → q ≠ p := fun j q hj hq eq w => by
    subst w
    exact s.sl.sep j i q hj hq ho eq e
  have base : Sn K H0 B0 (L2.upd H p (.lst ws)) B σ (ds.set i .no) := {
    gr := ⟨fun a o z => by rw [upd_ne (ne_of_none z s0)]; exact s.gr.hh _ _ z, s.gr.bb, fun a o z => by rw [upd_ne (ne_of_none z hB)]; exact s.gr.bh _ _ z, s.gr.nw⟩
    fr := fun j q hj hq => by
      by_cases w : j = i
      · subst w
        by_cases l : j < ds.length
        · rw [List.getElem?_set_self l] at hj; cases hj
        · rw [List.getElem?_eq_none (by rw [List.length_set]; omega)] at hj; cases hj
      · rw [List.getElem?_set_ne (Ne.symm w)] at hj
        exact s.fr j q hj hq
    sl := {
      bh := fun a o z => by rw [upd_ne (ne_of_none z hB)]; exact s.sl.bh _ _ z
      len := by rw [List.length_set]; exact s.sl.len
      val := fun j d e => by
        by_cases w : j = i
        · subst w
          by_cases l : j < ds.length
          · rw [List.getElem?_set_self l] at e; cases e
          · rw [List.getElem?_eq_none (by rw [List.length_set]; omega)] at e; cases e
        · rw [List.getElem?_set_ne (Ne.symm w)] at e
          exact s.sl.val j d e
      own := fun j zs ej => by
        by_cases w : j = i
        · subst w
          by_cases l : j < ds.length
          · rw [List.getElem?_set_self l] at ej; cases ej
          · rw [List.getElem?_eq_none (by rw [List.length_set]; omega)] at ej; cases ej
        · rw [List.getElem?_set_ne (Ne.symm w)] at ej
          obtain ⟨q, vs, a, b, c, r⟩ := s.sl.own j zs ej
          exact ⟨q, vs, a, b, by rw [upd_ne (ne j q w (own_at ej) a)]; exact c, r⟩
      obj := fun j q C fs ej => by
        by_cases w : j = i
        · subst w
          by_cases l : j < ds.length
          · rw [List.getElem?_set_self l] at ej; cases ej
          · rw [List.getElem?_eq_none (by rw [List.length_set]; omega)] at ej; cases ej
        · rw [List.getElem?_set_ne (Ne.symm w)] at ej
          obtain ⟨dx, vs, a, b, c, r⟩ := s.sl.obj j q C fs ej
          exact ⟨dx, vs, a, b, by rw [upd_ne (ne j q w (by rw [ej]; rfl) a)]; exact c, r⟩
      lat := fun j q zs ej => by
        by_cases w : j = i
        · subst w
          by_cases l : j < ds.length
          · rw [List.getElem?_set_self l] at ej; cases ej
          · rw [List.getElem?_eq_none (by rw [List.length_set]; omega)] at ej; cases ej
        · rw [List.getElem?_set_ne (Ne.symm w)] at ej
          obtain ⟨vs, a, b, c, r⟩ := s.sl.lat j q zs ej
          exact ⟨vs, a, b, by rw [upd_ne (ne j q w (by rw [ej]; rfl) a)]; exact c, r⟩
      sep := fun j k q hjk hj hk ej => by
        by_cases w : j = i
        · subst w
          by_cases l : j < ds.length
          · rw [List.getElem?_set_self l] at hj; cases hj
          · rw [List.getElem?_eq_none (by rw [List.length_set]; omega)] at hj; cases hj
        · by_cases w2 : k = i
          · subst w2
            by_cases l : k < ds.length
            · rw [List.getElem?_set_self l] at hk; cases hk
            · rw [List.getElem?_eq_none (by rw [List.length_set]; omega)] at hk; cases hk
          · rw [List.getElem?_set_ne (Ne.symm w)] at hj
            rw [List.getElem?_set_ne (Ne.symm w2)] at hk
            exact s.sl.sep j k q hjk hj hk ej } }
  have fin := base.setOwn (i := i) s0 hB upd_same r fun j hj hq => by
    rw [List.getElem?_set_ne (Ne.symm hj)] at hq
    intro w
    exact ne j p hj hq w rfl
  rw [List.set_set] at fin
  have es : σ.set i (some (V.ref p)) = σ := by
    apply List.ext_getElem?
    intro j
    by_cases w : j = i
    · subst w
      rw [List.getElem?_set_self (List.getElem?_eq_some_iff.mp e).1, e]
    · rw [List.getElem?_set_ne (Ne.symm w)]
  rw [es] at fin
  exact fin
/-- a slot takes a new object: the list at p, told -/
theorem Sn.setLat {i : Nat} {p : Addr} {vs : List V} {xs : List D} (s : Sn K H0 B0 H B σ ds) (s0 : H0 p = none) (hB : B p = none) (hH : H p = some (.lst vs)) (r : Reps K B vs xs)
    (ap : ∀ j, j ≠ i → (ds[j]?.map S.isOwn) = some true → σ[j]? ≠ some (some (V.ref p))) : Sn K H0 B0 H B (σ.set i (some (.ref p))) (ds.set i (.lat p xs)) where
  gr := s.gr
  fr := fun j q h e => by
    by_cases w : j = i
    · subst w
      by_cases l : j < σ.length
      · rw [List.getElem?_set_self l] at e; cases e; exact s0
      · rw [List.getElem?_eq_none (by rw [List.length_set]; omega)] at e; cases e
    · rw [List.getElem?_set_ne (Ne.symm w)] at h e
      exact s.fr j q h e
  sl := {
    bh := s.sl.bh
    len := by rw [List.length_set, List.length_set]; exact s.sl.len
    val := fun j d' e => by
      by_cases w : j = i
      · subst w
        by_cases l : j < ds.length
        · rw [List.getElem?_set_self l] at e; cases e
        · rw [List.getElem?_eq_none (by rw [List.length_set]; omega)] at e; cases e
      · rw [List.getElem?_set_ne (Ne.symm w)] at e
        rw [List.getElem?_set_ne (Ne.symm w)]
        exact s.sl.val j d' e
    own := fun j ys e => by
      by_cases w : j = i
      · subst w
        by_cases l : j < ds.length
        · rw [List.getElem?_set_self l] at e; cases e
        · rw [List.getElem?_eq_none (by rw [List.length_set]; omega)] at e; cases e
      · rw [List.getElem?_set_ne (Ne.symm w)] at e
        rw [List.getElem?_set_ne (Ne.symm w)]
        exact s.sl.own j ys e
    obj := fun j pp C fs e => by
      by_cases w : j = i
      · subst w
        by_cases l : j < ds.length
        · rw [List.getElem?_set_self l] at e; cases e
        · rw [List.getElem?_eq_none (by rw [List.length_set]; omega)] at e; cases e
      · rw [List.getElem?_set_ne (Ne.symm w)] at e
        rw [List.getElem?_set_ne (Ne.symm w)]
        exact s.sl.obj j pp C fs e
    lat := fun j pp zs e => by
      by_cases w : j = i
      · subst w
        by_cases l : j < ds.length
        · rw [List.getElem?_set_self l] at e
          cases e
          exact ⟨vs, List.getElem?_set_self (by rw [← s.sl.len]; exact l), hB, hH, r⟩
        · rw [List.getElem?_eq_none (by rw [List.length_set]; omega)] at e; cases e
      · rw [List.getElem?_set_ne (Ne.symm w)] at e
        rw [List.getElem?_set_ne (Ne.symm w)]
        exact s.sl.lat j pp zs e
    sep := fun j k q hjk hj hk e e2 => by
      by_cases w : j = i
      · subst w
        have hk' : (ds[k]?.map S.isOwn) = some true := by rw [List.getElem?_set_ne hjk] at hk; exact hk
        rw [List.getElem?_set_ne hjk] at e2
        by_cases l : j < σ.length
        · rw [List.getElem?_set_self l] at e; cases e; exact ap k (Ne.symm hjk) hk' e2
        · rw [List.getElem?_eq_none (by rw [List.length_set]; omega)] at e; cases e
      · rw [List.getElem?_set_ne (Ne.symm w)] at hj e
        by_cases w2 : k = i
        · subst w2
          by_cases l : k < σ.length
          · rw [List.getElem?_set_self l] at e2; cases e2; exact ap j hjk hj e
          · rw [List.getElem?_eq_none (by rw [List.length_set]; omega)] at e2; cases e2
        · rw [List.getElem?_set_ne (Ne.symm w2)] at hk e2
          exact s.sl.sep j k q hjk hj hk e e2 }
/-- the owned list of a slot is changed, the address told -/
theorem Sn.updLat {i : Nat} {p : Addr} {xs ys : List D} {ws : List V} (s : Sn K H0 B0 H B σ ds) (h : ds[i]? = some (S.lat p xs)) (e : σ[i]? = some (some (V.ref p))) (r : Reps K B ws ys) : Sn K H0 B0 (L2.upd H p (.lst ws)) B σ (ds.set i (.lat p ys)) := by
  have ho : (ds[i]?.map S.isOwn) = some true := by rw [h]; rfl
  obtain ⟨hB, hH⟩ := s.sl.ownp ho e
  have s0 := s.fr i p ho e
  have ne : ∀ j q, j ≠ i → (ds[j]?.map S.isOwn) = some true → σ[j]? = some (some (V.ref q)) → q ≠ p := fun j q hj hq eq w => by
    subst w
    exact s.sl.sep j i q hj hq ho eq e
  have base : Sn K H0 B0 (L2.upd H p (.lst ws)) B σ (ds.set i .no) := {
    gr := ⟨fun a o z => by rw [upd_ne (ne_of_none z s0)]; exact s.gr.hh _ _ z, s.gr.bb, fun a o z => by rw [upd_ne (ne_of_none z hB)]; exact s.gr.bh _ _ z, s.gr.nw⟩
    fr := fun j q hj hq => by
      by_cases w : j = i
      · subst w
        by_cases l : j < ds.length
        · rw [List.getElem?_set_self l] at hj; cases hj
        · rw [List.getElem?_eq_none (by rw [List.length_set]; omega)] at hj; cases hj
      · rw [List.getElem?_set_ne (Ne.symm w)] at hj
        exact s.fr j q hj hq
    sl := {
      bh := fun a o z => by rw [upd_ne (ne_of_none z hB)]; exact s.sl.bh _ _ z
      len := by rw [List.length_set]; exact s.sl.len
      val := fun j d e => by
        by_cases w : j = i
        · subst w
          by_cases l : j < ds.length
          · rw [List.getElem?_set_self l] at e; cases e
          · rw [List.getElem?_eq_none (by rw [List.length_set]; omega)] at e; cases e
        · rw [List.getElem?_set_ne (Ne.symm w)] at e
          exact s.sl.val j d e
      own := fun j zs ej => by
        by_cases w : j = i
        · subst w
          by_cases l : j < ds.length
          · rw [List.getElem?_set_self l] at ej; cases ej
          · rw [List.getElem?_eq_none (by rw [List.length_set]; omega)] at ej; cases ej
        · rw [List.getElem?_set_ne (Ne.symm w)] at ej
          obtain ⟨q, vs, a, b, c, r⟩ := s.sl.own j zs ej
          exact ⟨q, vs, a, b, by rw [upd_ne (ne j q w (own_at ej) a)]; exact c, r⟩
      obj := fun j q C fs ej => by
        by_cases w : j = i
        · subst w
          by_cases l : j < ds.length
          · rw [List.getElem?_set_self l] at ej; cases ej
          · rw [List.getElem?_eq_none (by rw [List.length_set]; omega)] at ej; cases ej
        · rw [List.getElem?_set_ne (Ne.symm w)] at ej
          obtain ⟨dx, vs, a, b, c, r⟩ := s.sl.obj j q C fs ej
          exact ⟨dx, vs, a, b, by rw [upd_ne (ne j q w (by rw [ej]; rfl) a)]; exact c, r⟩
      lat := fun j q zs ej => by
        by_cases w : j = i
        · subst w
          by_cases l : j < ds.length
          · rw [List.getElem?_set_self l] at ej; cases ej
          · rw [List.getElem?_eq_none (by rw [List.length_set]; omega)] at ej; cases ej
        · rw [List.getElem?_set_ne (Ne.symm w)] at ej
          obtain ⟨vs, a, b, c, r⟩ := s.sl.lat j q zs ej
          exact ⟨vs, a, b, by rw [upd_ne (ne j q w (by rw [ej]; rfl) a)]; exact c, r⟩
      sep := fun j k q hjk hj hk ej => by
        by_cases w : j = i
        · subst w
          by_cases l : j < ds.length
          · rw [List.getElem?_set_self l] at hj; cases hj
          · rw [List.getElem?_eq_none (by rw [List.length_set]; omega)] at hj; cases hj
        · by_cases w2 : k = i
          · subst w2
            by_cases l : k < ds.length
            · rw [List.getElem?_set_self l] at hk; cases hk
            · rw [List.getElem?_eq_none (by rw [List.length_set]; omega)] at hk; cases hk
          · rw [List.getElem?_set_ne (Ne.symm w)] at hj
            rw [List.getElem?_set_ne (Ne.symm w2)] at hk
            exact s.sl.sep j k q hjk hj hk ej } }
  have fin := base.setLat (i := i) s0 hB upd_same r fun j hj hq => by
    rw [List.getElem?_set_ne (Ne.symm hj)] at hq
    intro w
    exact ne j p hj hq w rfl
  rw [List.set_set] at fin
  have es : σ.set i (some (V.ref p)) = σ := by
    apply List.ext_getElem?
    intro j
    by_cases w : j = i
    · subst w
      rw [List.getElem?_set_self (List.getElem?_eq_some_iff.mp e).1, e]
    · rw [List.getElem?_set_ne (Ne.symm w)]
  rw [es] at fin
  exact fin
/-- a slot takes a new object: an instance at p -/
theorem Sn.setObj {i : Nat} {p C dx : Addr} {vs : List (Str × V)} {fs : List (Str × D)} (s : Sn K H0 B0 H B σ ds) (s0 : H0 p = none) (hB : B p = none) (hH : H p = some (.ins C dx vs)) (r : RepF K B vs fs)
    (ap : ∀ j, j ≠ i → (ds[j]?.map S.isOwn) = some true → σ[j]? ≠ some (some (V.ref p))) : Sn K H0 B0 H B (σ.set i (some (.ref p))) (ds.set i (.obj p C fs)) where
  gr := s.gr
  fr := fun j q h e => by
    by_cases w : j = i
    · subst w
      by_cases l : j < σ.length
      · rw [List.getElem?_set_self l] at e; cases e; exact s0
      · rw [List.getElem?_eq_none (by rw [List.length_set]; omega)] at e; cases e
    · rw [List.getElem?_set_ne (Ne.symm w)] at h e
      exact s.fr j q h e
  sl := {
    bh := s.sl.bh
    len := by rw [List.length_set, List.length_set]; exact s.sl.len
    val := fun j d' e => by
      by_cases w : j = i
      · subst w
        by_cases l : j < ds.length
        · rw [List.getElem?_set_self l] at e; cases e
        · rw [List.getElem?_eq_none (by rw [List.length_set]; omega)] at e; cases e
      · rw [List.getElem?_set_ne (Ne.symm w)] at e
        rw [List.getElem?_set_ne (Ne.symm w)]
        exact s.sl.val j d' e
    own := fun j ys e => by
      by_cases w : j = i
      · subst w
        by_cases l : j < ds.length
        · rw [List.getElem?_set_self l] at e; cases e
        · rw [List.getElem?_eq_none (by rw [List.length_set]; omega)] at e; cases e
      · rw [List.getElem?_set_ne (Ne.symm w)] at e
        rw [List.getElem?_set_ne (Ne.symm w)]
        exact s.sl.own j ys e
    obj := fun j pp C' fs' e => by
      by_cases w : j = i
      · subst w
        by_cases l : j < ds.length
        · rw [List.getElem?_set_self l] at e
          cases e
          exact ⟨dx, vs, List.getElem?_set_self (by rw [← s.sl.len]; exact l), hB, hH, r⟩
        · rw [List.getElem?_eq_none (by rw [List.length_set]; omega)] at e; cases e
      · rw [List.getElem?_set_ne (Ne.symm w)] at e
        rw [List.getElem?_set_ne (Ne.symm w)]
        exact s.sl.obj j pp C' fs' e
    lat := fun j pp zs e => by
      by_cases w : j = i
      · subst w
        by_cases l : j < ds.length
        · rw [List.getElem?_set_self l] at e; cases e
        · rw [List.getElem?_eq_none (by rw [List.length_set]; omega)] at e; cases e
      · rw [List.getElem?_set_ne (Ne.symm w)] at e
        rw [List.getElem?_set_ne (Ne.symm w)]
        exact s.sl.lat j pp zs e
    sep := fun j k q hjk hj hk e e2 => by
      by_cases w : j = i
      · subst w
        have hk' : (ds[k]?.map S.isOwn) = some true := by rw [List.getElem?_set_ne hjk] at hk; exact hk
        rw [List.getElem?_set_ne hjk] at e2
        by_cases l : j < σ.length
        · rw [List.getElem?_set_self l] at e; cases e; exact ap k (Ne.symm hjk) hk' e2
        · rw [List.getElem?_eq_none (by rw [List.length_set]; omega)] at e; cases e
      · rw [List.getElem?_set_ne (Ne.symm w)] at hj e
        by_cases w2 : k = i
        · subst w2
          by_cases l : k < σ.length
          · rw [List.getElem?_set_self l] at e2; cases e2; exact ap j hjk hj e
          · rw [List.getElem?_eq_none (by rw [List.length_set]; omega)] at e2; cases e2
        · rw [List.getElem?_set_ne (Ne.symm w2)] at hk e2
          exact s.sl.sep j k q hjk hj hk e e2 }
/-- the fields of a slot's instance are changed -/
theorem Sn.updObj {i : Nat} {p C dx : Addr} {gs fs : List (Str × D)} {ws : List (Str × V)} (s : Sn K H0 B0 H B σ ds) (h : ds[i]? = some (S.obj p C gs)) (e : σ[i]? = some (some (V.ref p))) (r : RepF K B ws fs) : Sn K H0 B0 (L2.upd H p (.ins C dx ws)) B σ (ds.set i (.obj p C fs)) := by
  have ho : (ds[i]?.map S.isOwn) = some true := by rw [h]; rfl
  obtain ⟨hB, hH⟩ := s.sl.ownp ho e
  have s0 := s.fr i p ho e
  have ne : ∀ j q, j ≠ i → (ds[j]?.map S.isOwn) = some true → σ[j]? = some (some (V.ref q)) → q ≠ p := fun j q hj hq eq w => by
    subst w
    exact s.sl.sep j i q hj hq ho eq e
  have base : Sn K H0 B0 (L2.upd H p (.ins C dx ws)) B σ (ds.set i .no) := {
    gr := ⟨fun a o z => by rw [upd_ne (ne_of_none z s0)]; exact s.gr.hh _ _ z, s.gr.bb, fun a o z => by rw [upd_ne (ne_of_none z hB)]; exact s.gr.bh _ _ z, s.gr.nw⟩
    fr := fun j q hj hq => by
      by_cases w : j = i
      · subst w
        by_cases l : j < ds.length
        · rw [List.getElem?_set_self l] at hj; cases hj
        · rw [List.getElem?_eq_none (by rw [List.length_set]; omega)] at hj; cases hj
      · rw [List.getElem?_set_ne (Ne.symm w)] at hj
        exact s.fr j q hj hq
    sl := {
      bh := fun a o z => by rw [upd_ne (ne_of_none z hB)]; exact s.sl.bh _ _ z
      len := by rw [List.length_set]; exact s.sl.len
      val := fun j d e => by
        by_cases w : j = i
        · subst w
          by_cases l : j < ds.length
          · rw [List.getElem?_set_self l] at e; cases e
          · rw [List.getElem?_eq_none (by rw [List.length_set]; omega)] at e; cases e
        · rw [List.getElem?_set_ne (Ne.symm w)] at e
          exact s.sl.val j d e
      own := fun j zs ej => by
        by_cases w : j = i
        · subst w
          by_cases l : j < ds.length
          · rw [List.getElem?_set_self l] at ej; cases ej
          · rw [List.getElem?_eq_none (by rw [List.length_set]; omega)] at ej; cases ej
        · rw [List.getElem?_set_ne (Ne.symm w)] at ej
          obtain ⟨q, vs, a, b, c, r⟩ := s.sl.own j zs ej
          exact ⟨q, vs, a, b, by rw [upd_ne (ne j q w (own_at ej) a)]; exact c, r⟩
      obj := fun j q C' fs' ej => by
        by_cases w : j = i
        · subst w
          by_cases l : j < ds.length
          · rw [List.getElem?_set_self l] at ej; cases ej
          · rw [List.getElem?_eq_none (by rw [List.length_set]; omega)] at ej; cases ej
        · rw [List.getElem?_set_ne (Ne.symm w)] at ej
          obtain ⟨dx', vs, a, b, c, r⟩ := s.sl.obj j q C' fs' ej
          exact ⟨dx', vs, a, b, by rw [upd_ne (ne j q w (by rw [ej]; rfl) a)]; exact c, r⟩
      lat := fun j q zs ej => by
        by_cases w : j = i
        · subst w
          by_cases l : j < ds.length
          · rw [List.getElem?_set_self l] at ej; cases ej
          · rw [List.getElem?_eq_none (by rw [List.length_set]; omega)] at ej; cases ej
        · rw [List.getElem?_set_ne (Ne.symm w)] at ej
          obtain ⟨vs, a, b, c, r⟩ := s.sl.lat j q zs ej
          exact ⟨vs, a, b, by rw [upd_ne (ne j q w (by rw [ej]; rfl) a)]; exact c, r⟩
      sep := fun j k q hjk hj hk ej => by
        by_cases w : j = i
        · subst w
          by_cases l : j < ds.length
          · rw [List.getElem?_set_self l] at hj; cases hj
          · rw [List.getElem?_eq_none (by rw [List.length_set]; omega)] at hj; cases hj
        · by_cases w2 : k = i
          · subst w2
            by_cases l : k < ds.length
            · rw [List.getElem?_set_self l] at hk; cases hk
            · rw [List.getElem?_eq_none (by rw [List.length_set]; omega)] at hk; cases hk
          · rw [List.getElem?_set_ne (Ne.symm w)] at hj
            rw [List.getElem?_set_ne (Ne.symm w2)] at hk
            exact s.sl.sep j k q hjk hj hk ej } }
  have fin := base.setObj (i := i) s0 hB upd_same r fun j hj hq => by
    rw [List.getElem?_set_ne (Ne.symm hj)] at hq
    intro w
    exact ne j p hj hq w rfl
  rw [List.set_set] at fin
  have es : σ.set i (some (V.ref p)) = σ := by
    apply List.ext_getElem?
    intro j
    by_cases w : j = i
    · subst w
      rw [List.getElem?_set_self (List.getElem?_eq_some_iff.mp e).1, e]
    · rw [List.getElem?_set_ne (Ne.symm w)]
  rw [es] at fin
  exact fin
/-- an owned slot is frozen -/
def frz (i : Nat) (ds : List S) : List S := match ds[i]? with
  | some (.own xs) => ds.set i (.val (.lst xs))
  | _ => ds
theorem Sn.frz {i : Nat} (s : Sn K H0 B0 H B σ ds) : ∃ B', Sn K H0 B0 H B' σ (frz i ds) := by
  unfold Dl.frz
  split
  · rename_i xs h
    obtain ⟨p, vs, a, b, c, r⟩ := s.sl.own i xs h
    have ho := own_at h
    have s0 := s.fr i p ho a
    have sm := same_upd (o := HO.lst vs) b
    have ne : ∀ j q, j ≠ i → (ds[j]?.map S.isOwn) = some true → σ[j]? = some (some (V.ref q)) → q ≠ p := fun j q hj hq eq w => by
      subst w
      exact s.sl.sep j i q hj hq ho eq a
    have base : Sn K H0 B0 H (L2.upd B p (.lst vs)) σ (ds.set i .no) := {
      gr := ⟨s.gr.hh, s.gr.bb.trans sm, fun x o z => by
        by_cases w : x = p
        · subst w; rw [upd_same] at z; cases z; exact c
        · rw [upd_ne w] at z; exact s.gr.bh _ _ z, fun x hx hb => by
        have w : x ≠ p := fun w => hx (by rw [w]; exact s0)
        rw [upd_ne w]; exact s.gr.nw x hx hb⟩
      fr := fun j q hj hq => by
        by_cases w : j = i
        · subst w
          by_cases l : j < ds.length
          · rw [List.getElem?_set_self l] at hj; cases hj
          · rw [List.getElem?_eq_none (by rw [List.length_set]; omega)] at hj; cases hj
        · rw [List.getElem?_set_ne (Ne.symm w)] at hj
          exact s.fr j q hj hq
      sl := {
        bh := fun x o z => by
          by_cases w : x = p
          · subst w; rw [upd_same] at z; cases z; exact c
          · rw [upd_ne w] at z; exact s.sl.bh _ _ z
        len := by rw [List.length_set]; exact s.sl.len
        val := fun j d e => by
          by_cases w : j = i
          · subst w
            by_cases l : j < ds.length
            · rw [List.getElem?_set_self l] at e; cases e
            · rw [List.getElem?_eq_none (by rw [List.length_set]; omega)] at e; cases e
          · rw [List.getElem?_set_ne (Ne.symm w)] at e
            obtain ⟨v, x, y⟩ := s.sl.val j d e
            exact ⟨v, x, y.mono sm⟩
        own := fun j zs ej => by
          by_cases w : j = i
          · subst w
            by_cases l : j < ds.length
            · rw [List.getElem?_set_self l] at ej; cases ej
            · rw [List.getElem?_eq_none (by rw [List.length_set]; omega)] at ej; cases ej
          · rw [List.getElem?_set_ne (Ne.symm w)] at ej
            obtain ⟨q, vs', a', b', c', r'⟩ := s.sl.own j zs ej
            exact ⟨q, vs', a', by rw [upd_ne (ne j q w (own_at ej) a')]; exact b', c', r'.mono sm⟩
        obj := fun j q C fs ej => by
          by_cases w : j = i
          · subst w
            by_cases l : j < ds.length
            · rw [List.getElem?_set_self l] at ej; cases ej
            · rw [List.getElem?_eq_none (by rw [List.length_set]; omega)] at ej; cases ej
          · rw [List.getElem?_set_ne (Ne.symm w)] at ej
            obtain ⟨dx, vs', a', b', c', r'⟩ := s.sl.obj j q C fs ej
            exact ⟨dx, vs', a', by rw [upd_ne (ne j q w (by rw [ej]; rfl) a')]; exact b', c', r'.mono sm⟩
        lat := fun j q zs ej => by
          by_cases w : j = i
          · subst w
            by_cases l : j < ds.length
            · rw [List.getElem?_set_self l] at ej; cases ej
            · rw [List.getElem?_eq_none (by rw [List.length_set]; omega)] at ej; cases ej
          · rw [List.getElem?_set_ne (Ne.symm w)] at ej
            obtain ⟨vs', a', b', c', r'⟩ := s.sl.lat j q zs ej
            exact ⟨vs', a', by rw [upd_ne (ne j q w (by rw [ej]; rfl) a')]; exact b', c', r'.mono sm⟩
        sep := fun j k q hjk hj hk ej => by
          by_cases w : j = i
          · subst w
            by_cases l : j < ds.length
            · rw [List.getElem?_set_self l] at hj; cases hj
            · rw [List.getElem?_eq_none (by rw [List.length_set]; omega)] at hj; cases hj
          · by_cases w2 : k = i
            · subst w2
              by_cases l : k < ds.length
              · rw [List.getElem?_set_self l] at hk; cases hk
              · rw [List.getElem?_eq_none (by rw [List.length_set]; omega)] at hk; cases hk
            · rw [List.getElem?_set_ne (Ne.symm w)] at hj
              rw [List.getElem?_set_ne (Ne.symm w2)] at hk
              exact s.sl.sep j k q hjk hj hk ej } }
    have fin := base.setV (i := i) (v := .ref p) (d := .lst xs) (Rep.lst upd_same (r.mono sm))
    rw [List.set_set] at fin
    have es : σ.set i (some (V.ref p)) = σ := by
      apply List.ext_getElem?
      intro j
      by_cases w : j = i
      · subst w
        rw [List.getElem?_set_self (List.getElem?_eq_some_iff.mp a).1, a]
      · rw [List.getElem?_set_ne (Ne.symm w)]
    rw [es] at fin
    exact ⟨_, fin⟩
  · exact ⟨B, s⟩
/-! blocks -/
def dNext : DS := fun Dn ds => Dn.nx ds
def dSeq (a b : DS) : DS := fun Dn ds => a { Dn with nx := b Dn } ds
def dFrz (i : Nat) (a : DS) : DS := fun Dn ds => a Dn (frz i ds)
variable {st : Stmt} {rest : List Stmt} {t u : TS} {d d' : DS} {e : Expr} {te : TE} {de : DE} {pos : Pos}
theorem pxs_nil : PXS X [] tNext dNext := ⟨pss_nil, ⟨fun s hn _ _ _ q => hn _ _ _ _ s q⟩⟩
theorem pxs_cons (h1 : PXS1 X st t d) (h2 : PXS X rest u d') : PXS X (st :: rest) (tSeq t u) (dSeq d d') := ⟨pss_cons h1.p h2.p, ⟨fun {H0 B0 σ H B ds Dn E} s hn hb hc hr q =>
  h1.s.run (Dn := { Dn with nx := d' Dn }) (E := { E with nx := u E }) s (fun σ' H' B' ds' s' q' => h2.s.run s' hn hb hc hr q') hb hc hr q⟩⟩
theorem pxs_one (h1 : PXS1 X st t d) : PXS X [st] t d := ⟨pss_one h1.p, h1.s⟩
theorem pxs_frz (i : Nat) {body : List Stmt} (h : PXS X body t d) : PXS X body t (dFrz i d) := ⟨h.p, ⟨fun s hn hb hc hr q =>
  let ⟨_, s'⟩ := s.frz (i := i); h.s.run s' hn hb hc hr q⟩⟩
def dBreak : DS := fun Dn ds => Dn.bk ds
def dCont : DS := fun Dn ds => Dn.ct ds
def dNever : DS := fun _ _ => False
theorem px_pass : PXS1 X (.Pass pos) tNext dNext := ⟨ps_pass, ⟨fun s hn _ _ _ q => hn _ _ _ _ s q⟩⟩
theorem px_break : PXS1 X (.Break pos) tBreak dBreak := ⟨ps_break, ⟨fun s _ hb _ _ q => hb _ _ _ _ s q⟩⟩
theorem px_continue : PXS1 X (.Continue pos) tCont dCont := ⟨ps_continue, ⟨fun s _ _ hc _ q => hc _ _ _ _ s q⟩⟩
theorem px_never : PXS1 X st tNever dNever := ⟨ps_never, ⟨fun _ _ _ _ _ q => q.elim⟩⟩
theorem pxs_never {sts : List Stmt} : PXS X sts tNever dNever := ⟨pss_never, ⟨fun _ _ _ _ _ q => q.elim⟩⟩
/-! return -/
def dRet (de : DE) : DS := fun Dn ds => de ds fun r => ∃ r', (r.d.isSome = true ∧ r' = r) ∧ Dn.rt r'
theorem px_ret (h : PX X e te de) : PXS1 X (.Return (some e) pos) (tRet te) (dRet de) := ⟨ps_ret h.p, ⟨fun s _ _ _ hr q => by
  refine h.s.run s.sl (h.s.mono (fun r ⟨r', ⟨_, e⟩, q⟩ v H' B' g rr => ?_) q)
  subst e
  exact hr _ _ _ _ (s.gr.trans g) (rr.base s.gr.hh) q⟩⟩
def dRetN : DS := fun Dn _ => Dn.rt (.val .non)
theorem px_retN : PXS1 X (.Return none pos) tRetN dRetN := ⟨ps_retN, ⟨fun s _ _ _ hr q => hr _ _ _ (.val .non) s.gr Rep.non q⟩⟩
/-- return of an owned local list -/
def dRetV (i : Nat) : DS := fun Dn ds => match ds[i]? with
  | some (.val d) => Dn.rt (.val d)
  | some (.own xs) => Dn.rt (.own xs)
  | _ => False
theorem px_retV (i : Nat) (h : PX X e (tVar i) (eVar i)) : PXS1 X (.Return (some e) pos) (tRet (tVar i)) (dRetV i) := ⟨ps_ret h.p, ⟨fun {H0 B0 σ H B ds Dn E} s _ _ _ hr q => by
  unfold dRetV at q
  split at q
  · rename_i d w
    obtain ⟨v, a, b⟩ := s.sl.val _ _ w
    exact ⟨v, a, hr _ _ _ (.val d) s.gr b q⟩
  · rename_i xs w
    obtain ⟨p, vs, a, b, c, r⟩ := s.sl.own _ _ w
    exact ⟨.ref p, a, hr _ _ _ (.own xs) s.gr ⟨p, vs, rfl, s.fr _ p (own_at w) a, b, c, r⟩ q⟩
  · exact q.elim⟩⟩
/-! if -/
def dIf (c : DT) (a b : DS) : DS := fun Dn ds => c ds fun x => (x = true → a Dn ds) ∧ (x = false → b Dn ds)
theorem px_if {c : Expr} {a b : List Stmt} {tc : TT} {dc : DT} (hc : PXT X c tc dc) (ha : PXS X a t d) (hb : PXS X b u d') : PXS1 X (.If c a b pos) (tIfS tc t u) (dIf dc d d') := ⟨ps_if hc.p ha.p hb.p, ⟨fun {H0 B0 σ H B ds Dn E} s hn hbk hct hr q => by
  refine hc.s.run s.sl (hc.s.mono (fun x q H' B' g => ?_) q)
  cases x with
  | true =>
    show t E σ H'
    exact ha.s.run (s.grow g) hn hbk hct hr (q.1 rfl)
  | false =>
    show u E σ H'
    exact hb.s.run (s.grow g) hn hbk hct hr (q.2 rfl)⟩⟩
/-! name = value -/
def R.slot : R → Option S
  | .val d => some (.val d)
  | .own xs => some (.own xs)
  | .bor _ => none
def dAsg (de : DE) (i : Nat) : DS := fun Dn ds => de ds fun r => ∃ s, r.slot = some s ∧ Dn.nx (ds.set i s)
theorem Sn.setR {i : Nat} {v : V} {r : R} {z : S} (s : Sn K H0 B0 H B σ ds) (g : Gr H B H1 B1) (rr : RepR K H B1 H1 v r) (e : r.slot = some z) : Sn K H0 B0 H1 B1 (σ.set i (some v)) (ds.set i z) := by
  cases r with
  | val d => cases e; exact (s.grow g).setV rr
  | own xs =>
    cases e
    obtain ⟨p, vs, rfl, a, b, c, r⟩ := rr
    exact (s.grow g).setOwn (s.gr.hh.free a) b c r fun j _ hj w => (s.sl.ownp hj w).2 a
  | bor xs => cases e
theorem px_set {i : Nat} {x : Str} {pos' : Pos} (hN : X.N.Nodup) (hi : X.N[i]? = some x) (hx : Loc X.env.scope x) (he : PX X e te de) (hs : swapsWith e (some (.Name x pos')) pos.line X.env = pure false := by rfl) (hf : X.fn x = true ∨ X.env.scope.names.lookup x = some .local := by first | exact .inl rfl | exact .inr rfl | assumption) :
    PXS1 X (.Assign [.Name x pos'] e pos) (tAsg te (gName i)) (dAsg de i) := ⟨ps_set hN hi hx he.p hs hf, ⟨fun s hn _ _ _ q => by
  refine he.s.run s.sl (he.s.mono (fun r ⟨z, ez, q⟩ v H' B' g rr => ?_) q)
  exact hn _ _ _ _ (s.setR g rr ez) q⟩⟩
/-! name += int -/
def dAug (f : Int → Int → Int) (i : Nat) (de : DE) : DS := fun Dn ds => match ds[i]? with
  | some (.val (.int a)) => de ds fun r => match r with
    | .val (.int b) => Dn.nx (ds.set i (.val (.int (f a b))))
    | _ => False
  | _ => False
theorem ss_aug {f : Int → Int → Int} {i : Nat} (he : SE K te de) : SS K (tAug i te (ipI f)) (dAug f i de) := ⟨fun {H0 B0 σ H B ds Dn E} s hn _ _ _ q => by
  unfold dAug at q
  split at q
  · rename_i a w
    obtain ⟨v, ev, rv⟩ := s.sl.val _ _ w
    have e1 := rep_int rv
    subst e1
    refine ⟨.int a, ev, he.run s.sl (he.mono (fun r q v H' B' g rr => ?_) q)⟩
    split at q
    · rename_i b
      exact ⟨a, b, rfl, rep_int rr, hn _ _ _ _ ((s.grow g).setV Rep.int) q⟩
    · exact q.elim
  · exact q.elim⟩
theorem px_augAdd {i : Nat} {x : Str} {pos' : Pos} (hN : X.N.Nodup) (hi : X.N[i]? = some x) (hx : Loc X.env.scope x) (he : PX X e te de) (hf : X.fn x = true ∨ X.env.scope.names.lookup x = some .local := by first | exact .inl rfl | exact .inr rfl | assumption) :
    PXS1 X (.AugAssign (.Name x pos') .Add e pos) (tAug i te (ipI fun i j => i + j)) (dAug (fun i j => i + j) i de) := ⟨ps_aug hN hi hx he.p ip_add hf, ss_aug he.s⟩
/-! x.append(e), x.extend(e) of an owned local list -/
def dApp (i : Nat) (de : DE) : DS := fun Dn ds => match ds[i]? with
  | some (.own xs) => de ds fun r => ∃ d, r.d = some d ∧ xs.length < sizeLine ∧ Dn.nx (ds.set i (.own (xs ++ [d])))
  | _ => False
theorem ss_app {i : Nat} (he : SE K te de) : SS K (tDrop (tBM K "list" rAppend (tVar i) (tCons te tNil))) (dApp i de) := ⟨fun {H0 B0 σ H B ds Dn E} s hn _ _ _ q => by
  unfold dApp at q
  split at q
  · rename_i xs w
    obtain ⟨p, vs, ev, hB, hH, rs⟩ := s.sl.own _ _ w
    refine ⟨.ref p, ev, .inl ⟨rfl, vs, SqL.of hH⟩, he.run s.sl (he.mono (fun r ⟨d, ed, hl, q⟩ v H' B' g rr => ?_) q)⟩
    obtain ⟨B2, g2, s2, r2⟩ := rr.freeze g ed
    refine ⟨p, vs, v, rfl, rfl, g.hh _ _ hH, by rw [rs.len]; exact hl, ?_⟩
    exact hn _ _ _ _ ((s.grow g2).upd w ev ((rs.mono g2.bb).append (.cons r2 .nil))) q
  · exact q.elim⟩
theorem px_app {i : Nat} {o : Expr} {apos cpos : Pos} (ho : PX X o (tVar i) (eVar i)) (he : PX X e te de)
    (hp : PE X (.Call (.Attribute o "append" apos) [e] [] cpos) (tBM X.K "list" rAppend (tVar i) (tCons te tNil))) (hs : swapsWith (.Call (.Attribute o "append" apos) [e] [] cpos) none pos.line X.env = pure false := by rfl) :
    PXS1 X (.Expr (.Call (.Attribute o "append" apos) [e] [] cpos) pos) (tDrop (tBM X.K "list" rAppend (tVar i) (tCons te tNil))) (dApp i de) := ⟨ps_expr hp hs, ss_app he.s⟩
def dExt (i : Nat) (de : DE) : DS := fun Dn ds => match ds[i]? with
  | some (.own xs) => de ds fun r => ∃ ys, r.lst = some ys ∧ xs.length + ys.length ≤ sizeLine ∧ Dn.nx (ds.set i (.own (xs ++ ys)))
  | _ => False
theorem ss_ext {i : Nat} (he : SE K te de) : SS K (tDrop (tBM K "list" rExtend (tVar i) (tCons te tNil))) (dExt i de) := ⟨fun {H0 B0 σ H B ds Dn E} s hn _ _ _ q => by
  unfold dExt at q
  split at q
  · rename_i xs w
    obtain ⟨p, vs, ev, hB, hH, rs⟩ := s.sl.own _ _ w
    refine ⟨.ref p, ev, .inl ⟨rfl, vs, SqL.of hH⟩, he.run s.sl (he.mono (fun r ⟨ys, ed, hl, q⟩ v H' B' g rr => ?_) q)⟩
    obtain ⟨b, zs, rfl, hb, rz⟩ := rr.lst g.bh ed
    refine ⟨p, b, vs, zs, rfl, rfl, g.hh _ _ hH, hb, by rw [rs.len, rz.len]; exact hl, ?_⟩
    exact hn _ _ _ _ ((s.grow g).upd w ev ((rs.mono g.bb).append rz)) q
  · exact q.elim⟩
theorem px_ext {i : Nat} {o : Expr} {apos cpos : Pos} (ho : PX X o (tVar i) (eVar i)) (he : PX X e te de)
    (hp : PE X (.Call (.Attribute o "extend" apos) [e] [] cpos) (tBM X.K "list" rExtend (tVar i) (tCons te tNil))) (hs : swapsWith (.Call (.Attribute o "extend" apos) [e] [] cpos) none pos.line X.env = pure false := by rfl) :
    PXS1 X (.Expr (.Call (.Attribute o "extend" apos) [e] [] cpos) pos) (tDrop (tBM X.K "list" rExtend (tVar i) (tCons te tNil))) (dExt i de) := ⟨ps_expr hp hs, ss_ext he.s⟩
/-! x[j] = e of an owned local list -/
def dSet (i : Nat) (dj de : DE) : DS := fun Dn ds => match ds[i]? with
  | some (.own xs) => de ds fun r => dj ds fun rj => ∃ d k j, r.d = some d ∧ rj = .val (.int k) ∧ ixN xs.length k = some j ∧ Dn.nx (ds.set i (.own (xs.set j d)))
  | _ => False
theorem ss_set {i : Nat} {tj : TE} {dj : DE} (he : SE K te de) (hj : SE K tj dj) : SS K (tAsg te (gSub (tVar i) tj rSetL)) (dSet i dj de) := ⟨fun {H0 B0 σ H B ds Dn E} s hn _ _ _ q => by
  unfold dSet at q
  split at q
  · rename_i xs w
    obtain ⟨p, vs, ev, hB, hH, rs⟩ := s.sl.own _ _ w
    refine he.run s.sl (he.mono (fun r q v H' B' g rr => ?_) q)
    refine ⟨.ref p, ev, ?_⟩
    refine hj.run (s.sl.grow g) (hj.mono (fun rj ⟨d, k, j, ed, ek, ej, q⟩ u H2 B2 g2 r2 => ?_) q)
    obtain ⟨B3, g3, s3, r3⟩ := (rr.grow g2).freeze (g.trans g2) ed
    subst ek
    rw [rep_int r2]
    refine ⟨p, vs, k, j, rfl, rfl, g2.hh _ _ (g.hh _ _ hH), by rw [rs.len]; exact ej, ?_⟩
    exact hn _ _ _ _ ((s.grow g3).upd w ev (Reps.set r3 j (rs.mono g3.bb))) q
  · exact q.elim⟩
theorem px_setI {i : Nat} {o ej : Expr} {tj : TE} {dj : DE} {spos : Pos} (ho : PX X o (tVar i) (eVar i)) (hj : PX X ej tj dj) (he : PX X e te de) (hs : swapsWithSole [.Subscript o ej spos] e pos.line X.env = pure false := by rfl) (hw : swappedStores [.Subscript o ej spos] e X.env = pure none := by rfl)
    (h1 : (assignEach [.Subscript o ej spos] X.env).map (·.2) = [assign (.Subscript o ej spos) X.env] := by rfl)
    (ha : ∀ v, assign (.Subscript o ej spos) X.env v = (do
      let ov ← holding [v] (eval o X.env)
      let iv ← holding [v, ov] (eval ej X.env)
      standAt spos
      holding [v, ov, iv] (setItem ov iv v)
      release [v, ov, iv] []) := by intro _; rfl) :
    PXS1 X (.Assign [.Subscript o ej spos] e pos) (tAsg te (gSub (tVar i) tj rSetL)) (dSet i dj de) := ⟨ps_asg he.p (pg_sub ho.p hj.p set_list ha) hs hw h1, ss_set he.s hj.s⟩
/-! a, b = e1, e2 -/
def dPar (i j : Nat) (da db : DE) : DS := fun Dn ds => da ds fun x => db ds fun y => ∃ z z', x.slot = some z ∧ y.slot = some z' ∧ Dn.nx ((ds.set i z).set j z')
theorem ss_par {i j : Nat} {ta tb : TE} {da db : DE} (ha : SE K ta da) (hb : SE K tb db) : SS K (tPar i j (tCons ta (tCons tb tNil))) (dPar i j da db) := ⟨fun {H0 B0 σ H B ds Dn E} s hn _ _ _ q => by
  refine ha.run s.sl (ha.mono (fun x q v H1 B1 g1 r1 => ?_) q)
  refine hb.run (s.sl.grow g1) (hb.mono (fun y ⟨z, z', ez, ez', q⟩ u H2 B2 g2 r2 => ?_) q)
  have s1 := s.setR (i := i) (g1.trans g2) (r1.grow g2) ez
  refine ⟨v, u, rfl, hn _ H2 B2 _ ?_ q⟩
  cases y with
  | val d => cases ez'; exact s1.setV r2
  | own xs =>
    cases ez'
    obtain ⟨p, vs, rfl, a, b, c, r⟩ := r2
    refine s1.setOwn (s.gr.hh.free (g1.hh.free a)) b c r fun k hk ho w => ?_
    by_cases e : k = i
    · subst e
      by_cases l : k < σ.length
      · rw [List.getElem?_set_self l] at w
        cases w
        rw [List.getElem?_set_self (by rw [s.sl.len]; exact l)] at ho
        cases x with
        | val d => cases ez; cases ho
        | own ys =>
          obtain ⟨p1, vs1, e1, _, _, c1, _⟩ := r1
          cases e1
          rw [c1] at a; cases a
        | bor ys => cases ez
      · rw [List.getElem?_eq_none (by rw [List.length_set]; omega)] at w; cases w
    · rw [List.getElem?_set_ne (Ne.symm e)] at ho w
      exact (s.sl.ownp ho w).2 (g1.hh.free a)
  | bor xs => cases ez'⟩
theorem px_par {i j : Nat} {x y : Str} {a b : Expr} {ta tb : TE} {da db : DE} {px py pt : Pos} {kt k2 pt2} (hc : X.calm = true) (hN : X.N.Nodup) (hi : X.N[i]? = some x) (hj : X.N[j]? = some y) (hij : i ≠ j)
    (hx : X.env.scope.names.lookup x = some .local) (hy : X.env.scope.names.lookup y = some .local) (ha : PX X a ta da) (hb : PX X b tb db)
    (hw : swappedStores [.Tuple [.Name x px, .Name y py] kt pt] (.Tuple [a, b] k2 pt2) X.env = pure (some [x, y]) := by rfl)
    (hs : swapsWithSole [.Tuple [.Name x px, .Name y py] kt pt] (.Tuple [a, b] k2 pt2) pos.line X.env = pure false := by rfl)
    (h1 : starEach [a, b] X.env = (false, eval a X.env) :: starEach [b] X.env := by rfl) (h2 : starEach [b] X.env = (false, eval b X.env) :: starEach [] X.env := by rfl) :
    PXS1 X (.Assign [.Tuple [.Name x px, .Name y py] kt pt] (.Tuple [a, b] k2 pt2) pos) (tPar i j (tCons ta (tCons tb tNil))) (dPar i j da db) :=
  ⟨ps_par hc hN hi hj hij hx hy (pa_cons ha.p (pa_cons hb.p pa_nil h2) h1) hw hs, ss_par ha.s hb.s⟩
end
end Dl

/-! enumerate of a tuple, zip of any two sequences -/
namespace Dl
open PySem PySem.Spec PyProof.Rows L2
open AutoSeq1 (wpAny_loadPart')
theorem meets_enumerate_newT (l : Addr) (items : Array Value) (n : Nat) (dct : Option Addr) (sl : Array (Option Value)) :
    Meets (Builtin.«enumerate.__new__» ⟨[.type "enumerate", .ref l], []⟩) (fun _ R s => s.heap.get? l = some { cls := .type "tuple", dict := dct, data := .seq items n, slots := sl } ∧
      R (.ok (.ret (.ref (s.heap.push { cls := .type "tuple_iterator", data := .fields #[.ref l, .int 0 0] }).objs.size)))
        { s with heap := (s.heap.push { cls := .type "tuple_iterator", data := .fields #[.ref l, .int 0 0] }).push { cls := .type "enumerate", data := .fields #[.none, .bool false, .ref s.heap.objs.size, rawInt 0, .none, .none] } }) :=
  .of_wp fun prog w A R s h => by
    obtain ⟨hp, g, d, tk, os⟩ := s; obtain ⟨hl, h⟩ := h
    have hsub := sub_enumerate
    have hL : Heap.IsTuple (Shared.heap ⟨hp, g, d, tk, os⟩) l items := ⟨_, hl, rfl, n, rfl⟩
    wp_walk using wpAny_loadPart' hl
    refine wpAny_stack_any fun st => wpAny_pure ?_
    split
    · rename_i c _ _ _ _ _
      cases (c == Value.type "enumerate")
      · wp_walk using wpAny_loadPart' hl, wpAny_pyIter_tuple hL
        exact ⟨_, rfl, h⟩
      · wp_walk using wpAny_loadPart' hl, wpAny_pyIter_tuple hL
        exact ⟨_, rfl, h⟩
    · wp_walk using wpAny_loadPart' hl, wpAny_pyIter_tuple hL
      exact ⟨_, rfl, h⟩
theorem call_enumerate_tuple {prog : Program} {w : World} {A : Around} {E : Value → Shared → Prop} {s : Shared} {l : Addr} {items : Array Value} {Q : Value → Shared → Prop} (hL : s.heap.IsTuple l items)
    (h : ∀ h', IsEnum h' (s.heap.objs.size + 1) s.heap.objs.size 0 .none → h'.IsTupleIter s.heap.objs.size l 0 → h'.objs.size = s.heap.objs.size + 2 →
      (∀ b o, s.heap.get? b = some o → h'.get? b = some o) → Q (.ref (s.heap.objs.size + 1)) { s with heap := h' }) :
    wpAny (model prog w) A (call (.type "enumerate") [.ref l]) Q E s := by
  obtain ⟨⟨oc, od, dt, sl⟩, ho, hc, n, hd⟩ := hL
  simp only at hc hd
  subst hc hd
  refine callType_new F.called_enumerate (by decide) (F.typeCall_enumerate_1 _) (F.newCall_enumerate_1 _) (fun obj => F.args_object_init_2 obj _) F.entry_enumerate_new
    (meets_enumerate_newT l items n od sl) ⟨ho, ?_⟩
  have hz : (s.heap.push { cls := .type "tuple_iterator", data := .fields #[.ref l, .int 0 0] }).objs.size = s.heap.objs.size + 1 := Heap.size_push ..
  show _ ∧ _
  rw [hz]
  have he : IsEnum ((s.heap.push { cls := .type "tuple_iterator", data := .fields #[.ref l, .int 0 0] }).push
      { cls := .type "enumerate", data := .fields #[.none, .bool false, .ref s.heap.objs.size, rawInt 0, .none, .none] }) (s.heap.objs.size + 1) s.heap.objs.size 0 .none := by
    have := Heap.get?_push_size (s.heap.push { cls := .type "tuple_iterator", data := .fields #[.ref l, .int 0 0] })
      (o := { cls := .type "enumerate", data := .fields #[.none, .bool false, .ref s.heap.objs.size, rawInt 0, .none, .none] }) rfl
    rw [hz] at this; exact this
  refine ⟨⟨_, he, rfl⟩, h _ he ⟨_, Heap.get?_push_of_some _ (Heap.get?_push_size _ rfl), rfl, rfl⟩ (by rw [Heap.size_push, hz]) fun b o x => Heap.get?_push_of_some _ (Heap.get?_push_of_some _ x)⟩
/-! a list or a tuple, its iterator -/
def Sq (K : PySem.W.Frag) (H : Hp) (t : Bool) (a : Addr) (xs : List V) : Prop := if t = true then SqT K H a xs else SqL K H a xs
def IsIt (h : Heap) (t : Bool) (it a : Addr) (i : Nat) : Prop := if t = true then h.IsTupleIter it a i else h.IsListIter it a i
def IsSq (h : Heap) (t : Bool) (a : Addr) (its : Array Value) : Prop := if t = true then h.IsTuple a its else h.IsList a its
theorem IsIt.at' {h h' : Heap} {t : Bool} {it a : Addr} {i : Nat} (x : IsIt h t it a i) (k : ∀ o, h.get? it = some o → h'.get? it = some o) : IsIt h' t it a i := by
  cases t with
  | true => exact Heap.IsTupleIter.at (show h.IsTupleIter it a i from x) k
  | false => exact Heap.IsListIter.at (show h.IsListIter it a i from x) k
theorem IsIt.obj {h : Heap} {t : Bool} {it a : Addr} {i : Nat} (x : IsIt h t it a i) : ∃ o, h.get? it = some o ∧ ∀ v, o.data ≠ .cell v := by
  cases t with
  | true =>
    obtain ⟨o, e, c, d⟩ := (show h.IsTupleIter it a i from x)
    exact ⟨o, e, fun v z => by rw [d] at z; cases z⟩
  | false =>
    obtain ⟨o, e, c, d⟩ := (show h.IsListIter it a i from x)
    exact ⟨o, e, fun v z => by rw [d] at z; cases z⟩
theorem draws_sq {prog : Program} {w : World} {A : Around} (hh : A.handled = none) (t : Bool) (it l : Addr) (hne : l ≠ it) (items : Array Value) :
    Draws prog w A it [it, l] items.size (fun i v => items[i]? = some v) (fun i h => IsIt h t it l i ∧ IsSq h t l items) := by
  cases t with
  | true => exact Draws.tuple hh it l hne items
  | false => exact Draws.list hh it l hne items
section
variable {X : Cx} {pins : List (Addr × Obj)} {σ : L2.St} {H : Hp} {s : Shared}
theorem inv_sq (I : Inv X pins σ H s) {t : Bool} {a : Addr} {xs : List V} (h : Sq X.K H t a xs) : ∃ its : List Value, Vals xs its ∧ IsSq s.heap t a its.toArray := by
  cases t with
  | true =>
    obtain ⟨its, r, p, _⟩ := I.tuple (show SqT X.K H a xs from h)
    exact ⟨its, r, p⟩
  | false =>
    obtain ⟨its, r, p, _⟩ := I.list (show SqL X.K H a xs from h)
    exact ⟨its, r, p.isList⟩
theorem inv_sq_inj (I : Inv X pins σ H s) {t : Bool} {a : Addr} {xs ys : List V} (h : Sq X.K H t a xs) (h' : Sq X.K H t a ys) : xs = ys := by
  cases t with
  | true => exact I.tuple_inj (show SqT X.K H a xs from h) (show SqT X.K H a ys from h')
  | false => exact I.list_inj (show SqL X.K H a xs from h) (show SqL X.K H a ys from h')
end
theorem isSq_lt {h : Heap} {t : Bool} {a : Addr} {its : Array Value} (x : IsSq h t a its) : a < h.objs.size := by
  cases t with
  | true =>
    obtain ⟨_, e, _⟩ := (show h.IsTuple a its from x)
    exact Heap.lt_size e
  | false =>
    obtain ⟨_, e, _⟩ := (show h.IsList a its from x)
    exact Heap.lt_size e
/-! enumerate -/
def IteS (K : PySem.W.Frag) (t : Bool) (a : Addr) : It :=
  ⟨fun i H => ∃ (xs : List V) (x : V), Sq K H t a xs ∧ xs[i]? = some x, fun i H v H' => ∃ T x, v = .ref T ∧ H T = none ∧ H' = upd H T (.tup [.int (i : Nat), x]) ∧ ∀ xs, Sq K H t a xs → xs[i]? = some x, fun i H => ∃ xs : List V, Sq K H t a xs ∧ xs.length = i⟩
theorem turn_enumS {P : Program} {w : World} {K : PySem.W.Frag} {elts : List Expr} {kk : Nat} {tpos : Pos} (t : Bool) (a e it : Addr) (ha : a ≠ it) (hae : a ≠ e) :
    Turn P w K (.Tuple elts kk tpos) (IteS K t a) [e, it] e (fun i h => (∃ old, IsEnum h e it ((i : Nat) : Int) old) ∧ IsIt h t it a i ∧ e ≠ it) where
  mem := by simp
  obj := fun i h st b hb => by
    obtain ⟨⟨old, he⟩, hi, _⟩ := st
    have e' : b = e ∨ b = it := by simpa using hb
    rcases e' with z | z
    · rw [z]; exact ⟨_, he, fun v q => nomatch q⟩
    · rw [z]; exact hi.obj
  keep := fun i h h' st k => let ⟨⟨old, he⟩, hi, hne⟩ := st; ⟨⟨old, k e (by simp) _ he⟩, hi.at' fun o q => k it (by simp) o q, hne⟩
  item := by
    intro X hP hw hK hc i pins s σ H E I hf st hg
    subst hP hw hK
    obtain ⟨⟨old, he⟩, hit, hne⟩ := st
    obtain ⟨xs, x, hq, hx⟩ := hg
    obtain ⟨its, rv, p⟩ := inv_sq I hq
    obtain ⟨u, hu, ru⟩ := rv.get hx
    have hel : e < s.heap.objs.size := Heap.lt_size he
    have hil : it < s.heap.objs.size := by obtain ⟨_, q, _⟩ := hit.obj; exact Heap.lt_size q
    have hlt : i < its.toArray.size := by
      have := (List.getElem?_eq_some_iff.mp hu).1
      simpa using this
    refine wpAny_pyNext_enum_itemD (draws_sq (A := X.A.in1) (I.ok.hd hc) t it a ha its.toArray) he ⟨hit, p⟩ hlt hne (by simp [hne, Ne.symm hae]) fun x' h' tk hP ho hst' hT hsz hk => ?_
    have ex : x' = u := by
      have hu' : its.toArray[i]? = some u := by simpa using hu
      rw [hu'] at hP; exact (Option.some.inj hP).symm
    subst ex
    refine ⟨_, rfl, wpAny_letOwnedTupleGo_enum (s := { s with heap := h', toks := tk + 1 }) ho fun h'' he' sb => ?_⟩
    have hT2 : h''.get? s.heap.objs.size = some { cls := .type "tuple", data := .seq #[.int i tk, x'] } := (sb.2 _ (Nat.ne_of_gt hel)).trans hT
    have new : ObjOk X.prog X.w (upd H s.heap.objs.size (.tup [.int (i : Nat), x])) h'' s.heap.objs.size (.tup [.int (i : Nat), x]) :=
      ⟨by show 2 ≤ sizeLine; decide, [.int i tk, x'], .cons ⟨_, rfl⟩ (.cons ru .nil), ⟨_, hT2, rfl, _, rfl⟩⟩
    have I1 : Inv X pins σ (upd H s.heap.objs.size (.tup [.int (i : Nat), x])) { s with heap := h'', toks := tk + 1 } :=
      I.turnedNew (ch := [e, it]) (fun b ob hb q => (sb.2 b (fun z => hb (by simp [z]))).trans (hk b ob (fun z => hb (by simp [z])) (fun z => hb (by simp [z])) q)) hf (Nat.le_refl _) new
    refine ⟨.ref s.heap.objs.size, _, I1, rfl, ⟨_, x, rfl, I.hok.fresh (Nat.le_refl _), rfl, fun ys hy => by rw [inv_sq_inj I hy hq]; exact hx⟩, ⟨⟨x', ?_⟩, hst'.1.at' fun o q => (sb.2 it (Ne.symm hne)).trans q, hne⟩, fun b hb => ?_⟩
    · have e1 : ((i + 1 : Nat) : Int) = (i : Int) + 1 := by omega
      rw [e1]; exact he'
    · have hb' : b < s.heap.objs.size := by
        have e' : b = e ∨ b = it := by simpa using hb
        rcases e' with z | z
        · rw [z]; exact hel
        · rw [z]; exact hil
      rw [upd_ne (Nat.ne_of_lt hb')]
      exact (hf b hb).1
  done := by
    intro X hP hw hK hc i pins s σ H E I hf st hg
    subst hP hw hK
    obtain ⟨⟨old, he⟩, hit, hne⟩ := st
    obtain ⟨xs, hq, hx⟩ := hg
    obtain ⟨its, rv, p⟩ := inv_sq I hq
    obtain ⟨f0, f1, f2, f3, f4, f5⟩ := hf it (by simp)
    have hl := rv.length
    have en : its.toArray.size = i := by rw [List.size_toArray, ← hl, hx]
    refine wpAny_pyNext_enum_endD (draws_sq (A := X.A.in1) (I.ok.hd hc) t it a ha its.toArray) he (by rw [en]; exact ⟨hit, p⟩) fun h' eb => ⟨rfl, I.turned (t' := s.toks) (fun b o hb q => eb b o hb q) f0 f1 f3 f4 f5⟩
  self := fun A i s Q E st h => let ⟨⟨_, he⟩, _⟩ := st; wpAny_pyIter_enum he h
def iEnumS (K : PySem.W.Frag) (te : TE) : TI := fun σ H R => te σ H fun v H1 => ∃ t a, v = .ref a ∧ (∃ xs, Sq K H1 t a xs) ∧ R (IteS K t a) H1
theorem pi_enumS {X : Cx} {e : Expr} {te : TE} {p pos tpos : Pos} {elts : List Expr} {kk : Nat} (hg : Gl X "enumerate") (hm : X.mg "enumerate" = none) (ha : PE X e te) (hs : starEach [e] X.env = [(false, eval e X.env)] := by rfl) :
    PI X (.Tuple elts kk tpos) (.Call (.Name "enumerate" p) [e] [] pos) (iEnumS X.K te) := by
  refine ⟨fun pins s σ H R I h => ?_⟩
  refine Call_ (ld_blt I hg hm boot_enumerate (PyProof.Rows.callWith_type1 (thn ((pa_cons ha pa_nil hs).run pos pins s σ H (fun vs H1 => ∃ t a, vs = [.ref a] ∧ (∃ xs, Sq X.K H1 t a xs) ∧ R (IteS X.K t a) H1) I ?_) fun us s1 ⟨vs, H1, I1, r1, q1⟩ => ?_) hs rfl))
  · have key : te σ H (fun v H1 => ∃ t a, v = .ref a ∧ (∃ xs, Sq X.K H1 t a xs) ∧ R (IteS X.K t a) H1) := h
    have conv : (fun (v : V) (H1 : Hp) => ∃ t a, v = .ref a ∧ (∃ xs, Sq X.K H1 t a xs) ∧ R (IteS X.K t a) H1) = fun v H1 => ∃ t a, [v] = [V.ref a] ∧ (∃ xs, Sq X.K H1 t a xs) ∧ R (IteS X.K t a) H1 := by
      funext v H1
      simp
    rw [conv] at key
    exact key
  · obtain ⟨t, a, ex, ⟨xs, hq⟩, q⟩ := q1
    subst ex
    cases r1 with
    | cons r rr =>
      cases rr
      cases r
      obtain ⟨its, rv, p'⟩ := inv_sq I1 hq
      have hlt := isSq_lt p'
      have fin : ∀ h' : Heap, IsEnum h' (s1.heap.objs.size + 1) s1.heap.objs.size 0 .none → IsIt h' t s1.heap.objs.size a 0 → (∀ b o, s1.heap.get? b = some o → h'.get? b = some o) →
          wpAny (model X.prog X.w) X.A (pyIter (.ref (s1.heap.objs.size + 1))) (PIE X pins σ (.Tuple elts kk tpos) R) X.xe { s1 with heap := h' } := fun h' he hit hk => by
        refine wpAny_pyIter_enum he ?_
        have I2 : Inv X pins σ H1 { s1 with heap := h' } := I1.kept (t' := s1.toks) hk
        refine ⟨s1.heap.objs.size + 1, [s1.heap.objs.size + 1, s1.heap.objs.size], _, _, H1, rfl, I2, turn_enumS t a (s1.heap.objs.size + 1) s1.heap.objs.size (Nat.ne_of_lt hlt) (Nat.ne_of_lt (Nat.lt_succ_of_lt hlt)), ⟨⟨.none, he⟩, hit, Nat.succ_ne_self _⟩, fun b hb => ?_, q⟩
        have e' : b = s1.heap.objs.size + 1 ∨ b = s1.heap.objs.size := by simpa using hb
        have hle : s1.heap.objs.size ≤ b := by
          rcases e' with z | z
          · rw [z]; exact Nat.le_add_right _ _
          · rw [z]; exact Nat.le_refl _
        exact I1.fpOk hle (I1.hok.fresh hle)
      cases t with
      | true => exact call_enumerate_tuple (show s1.heap.IsTuple a its.toArray from p') fun h' he hit hsz hk => fin h' he hit hk
      | false => exact call_enumerate_list (show s1.heap.IsList a its.toArray from p') fun h' he hit hsz hk => fin h' he hit hk
/-! zip -/
def ItzS (K : PySem.W.Frag) (t1 t2 : Bool) (a b : Addr) : It :=
  ⟨fun i H => ∃ (xs ys : List V) (x y : V), Sq K H t1 a xs ∧ Sq K H t2 b ys ∧ xs[i]? = some x ∧ ys[i]? = some y,
    fun i H v H' => ∃ T x y, v = .ref T ∧ H T = none ∧ H' = upd H T (.tup [x, y]) ∧ (∀ xs, Sq K H t1 a xs → xs[i]? = some x) ∧ ∀ ys, Sq K H t2 b ys → ys[i]? = some y,
    fun i H => ∃ xs ys : List V, Sq K H t1 a xs ∧ Sq K H t2 b ys ∧ i ≤ xs.length ∧ i ≤ ys.length ∧ (xs.length = i ∨ ys.length = i)⟩
theorem turn_zipS {P : Program} {w : World} {K : PySem.W.Frag} {elts : List Expr} {kk : Nat} {tpos : Pos} {t1 t2 : Bool} {a b z TI TO i1 i2 : Addr} (D : ZipSep2 z TI TO i1 i2 [i1, a] [i2, b]) (na : a ≠ i1) (nb : b ≠ i2) :
    Turn P w K (.Tuple elts kk tpos) (ItzS K t1 t2 a b) [z, TI, TO, i1, i2] z (fun i h => IsZip h z TI TO .none ∧ IsTupOf2 h TI (.ref i1) (.ref i2) ∧ (∃ x y, IsTupOf2 h TO x y) ∧ IsIt h t1 i1 a i ∧ IsIt h t2 i2 b i) where
  mem := by simp
  obj := fun i h st c hc => by
    obtain ⟨hz, hTI, ⟨x, y, hTO⟩, h1, h2⟩ := st
    have e' : c = z ∨ c = TI ∨ c = TO ∨ c = i1 ∨ c = i2 := by simpa using hc
    rcases e' with q | q | q | q | q
    · rw [q]; exact ⟨_, hz, fun v q => nomatch q⟩
    · rw [q]; exact ⟨_, hTI, fun v q => nomatch q⟩
    · rw [q]; exact ⟨_, hTO, fun v q => nomatch q⟩
    · rw [q]; exact h1.obj
    · rw [q]; exact h2.obj
  keep := fun i h h' st k => by
    obtain ⟨hz, hTI, ⟨x, y, hTO⟩, h1, h2⟩ := st
    exact ⟨k z (by simp) _ hz, k TI (by simp) _ hTI, ⟨x, y, k TO (by simp) _ hTO⟩, h1.at' fun o q => k i1 (by simp) o q, h2.at' fun o q => k i2 (by simp) o q⟩
  item := by
    intro X hP hw hK hc i pins s σ H E I hf st hg
    subst hP hw hK
    obtain ⟨hz, hTI, ⟨x0, y0, hTO⟩, h1, h2⟩ := st
    obtain ⟨xs, ys, x, y, hqx, hqy, hx, hy⟩ := hg
    obtain ⟨its, rv, p⟩ := inv_sq I hqx
    obtain ⟨its2, rv2, p2⟩ := inv_sq I hqy
    obtain ⟨u, hu, ru⟩ := rv.get hx
    obtain ⟨u2, hu2, ru2⟩ := rv2.get hy
    have hzl : z < s.heap.objs.size := Heap.lt_size hz
    have hu' : its.toArray[i]? = some u := by simpa using hu
    have hu2' : its2.toArray[i]? = some u2 := by simpa using hu2
    have l1 : i < its.toArray.size := (Array.getElem?_eq_some_iff.mp hu').1
    have l2 : i < its2.toArray.size := (Array.getElem?_eq_some_iff.mp hu2').1
    refine wpAny_pyNext_zipD2_item D (draws_sq (A := X.A.in1) (I.ok.hd hc) t1 i1 a na its.toArray) (draws_sq (A := X.A.in1) (I.ok.hd hc) t2 i2 b nb its2.toArray) hz hTI hTO ⟨h1, p⟩ ⟨h2, p2⟩ l1 l2 fun v1 v2 h' tk hP1 hP2 z' TO' st1' st2' hT hsz hk => ?_
    have ex : v1 = u := by rw [hu'] at hP1; exact (Option.some.inj hP1).symm
    have ex2 : v2 = u2 := by rw [hu2'] at hP2; exact (Option.some.inj hP2).symm
    subst ex ex2
    refine ⟨_, rfl, wpAny_letOwnedTupleGo_zip (s := { s with heap := h', toks := tk }) z' fun h'' z'' sb => ?_⟩
    have hT2 : h''.get? s.heap.objs.size = some { cls := .type "tuple", data := .seq #[v1, v2] } := (sb.2 _ (Nat.ne_of_gt hzl)).trans hT
    have new : ObjOk X.prog X.w (upd H s.heap.objs.size (.tup [x, y])) h'' s.heap.objs.size (.tup [x, y]) :=
      ⟨by show 2 ≤ sizeLine; decide, [v1, v2], .cons ru (.cons ru2 .nil), ⟨_, hT2, rfl, _, rfl⟩⟩
    have I1 : Inv X pins σ (upd H s.heap.objs.size (.tup [x, y])) { s with heap := h'', toks := tk } :=
      I.turnedNew (t' := tk) (ch := [z, TI, TO, i1, i2]) (fun c o hb q => (sb.2 c (fun q' => hb (by simp [q']))).trans (hk c o (fun q' => hb (by simp [q'])) (fun q' => hb (by simp [q'])) (fun q' => hb (by simp [q'])) (fun q' => hb (by simp [q'])) q)) hf (Nat.le_refl _) new
    refine ⟨.ref s.heap.objs.size, _, I1, rfl, ⟨_, x, y, rfl, I.hok.fresh (Nat.le_refl _), rfl, fun l hl => by rw [inv_sq_inj I hl hqx]; exact hx, fun l hl => by rw [inv_sq_inj I hl hqy]; exact hy⟩, ⟨z'', ?_, ⟨v1, v2, ?_⟩, ?_, ?_⟩, fun c hcm => ?_⟩
    · exact (sb.2 _ D.TIz).trans (hk _ _ D.TIz D.TITO D.TIi1 D.TIi2 hTI)
    · exact (sb.2 _ D.TOz).trans TO'
    · exact st1'.1.at' fun o q => (sb.2 _ (Ne.symm D.zi1)).trans q
    · exact st2'.1.at' fun o q => (sb.2 _ (Ne.symm D.zi2)).trans q
    · have hlt : c < s.heap.objs.size := by
        have e' : c = z ∨ c = TI ∨ c = TO ∨ c = i1 ∨ c = i2 := by simpa using hcm
        rcases e' with q | q | q | q | q
        · rw [q]; exact hzl
        · rw [q]; exact Heap.lt_size hTI
        · rw [q]; exact Heap.lt_size hTO
        · rw [q]; obtain ⟨_, e1, _⟩ := h1.obj; exact Heap.lt_size e1
        · rw [q]; obtain ⟨_, e2, _⟩ := h2.obj; exact Heap.lt_size e2
      rw [upd_ne (Nat.ne_of_lt hlt)]
      exact (hf c hcm).1
  done := by
    intro X hP hw hK hc i pins s σ H E I hf st hg
    subst hP hw hK
    obtain ⟨hz, hTI, ⟨x0, y0, hTO⟩, h1, h2⟩ := st
    obtain ⟨xs, ys, hqx, hqy, le1, le2, hend⟩ := hg
    obtain ⟨its, rv, p⟩ := inv_sq I hqx
    obtain ⟨its2, rv2, p2⟩ := inv_sq I hqy
    have l1 := rv.length
    have l2 := rv2.length
    refine wpAny_pyNext_zipD2_end D (draws_sq (A := X.A.in1) (I.ok.hd hc) t1 i1 a na its.toArray) (draws_sq (A := X.A.in1) (I.ok.hd hc) t2 i2 b nb its2.toArray) hz hTI hTO ⟨h1, p⟩ ⟨h2, p2⟩ (by simp; omega) (by simp; omega) (by simp; omega) fun h' tk hk => ⟨rfl, I.turnedL (t' := tk) (ch := [z, TI, TO, i1, i2]) (fun c o hb q =>
      hk c o (fun q' => hb (by simp [q'])) (fun q' => hb (by simp [q'])) (fun q' => hb (by simp [q'])) (fun q' => hb (by simp [q'])) q) hf⟩
  self := fun A i s Q E st h => wpAny_pyIter_zip st.1 h
def iZipS (K : PySem.W.Frag) (ta tb : TE) : TI := fun σ H R => ta σ H fun v H1 => tb σ H1 fun u H2 => ∃ t1 t2 a b, v = .ref a ∧ u = .ref b ∧ (∃ xs, Sq K H2 t1 a xs) ∧ (∃ ys, Sq K H2 t2 b ys) ∧ R (ItzS K t1 t2 a b) H2
theorem pi_zipS {X : Cx} {e e2 : Expr} {ta tb : TE} {p pos tpos : Pos} {elts : List Expr} {kk : Nat} (hg : Gl X "zip") (hm : X.mg "zip" = none) (ha : PE X e ta) (hb : PE X e2 tb)
    (hs : starEach [e, e2] X.env = (false, eval e X.env) :: starEach [e2] X.env := by rfl) (hs2 : starEach [e2] X.env = (false, eval e2 X.env) :: starEach [] X.env := by rfl) (hpl : (backTo pos (starEach [e2] X.env)).any (·.1) = false := by rfl) :
    PI X (.Tuple elts kk tpos) (.Call (.Name "zip" p) [e, e2] [] pos) (iZipS X.K ta tb) := by
  refine ⟨fun pins s σ H R I h => ?_⟩
  refine Call_ (ld_blt I hg hm PyProof.Rows.boot_zip (PyProof.Rows.callWith_type1 (thn ((pa_cons ha (pa_cons hb pa_nil hs2) hs).run pos pins s σ H (fun vs H2 => ∃ t1 t2 a b, vs = [.ref a, .ref b] ∧ (∃ xs, Sq X.K H2 t1 a xs) ∧ (∃ ys, Sq X.K H2 t2 b ys) ∧ R (ItzS X.K t1 t2 a b) H2) I ?_) fun us s1 ⟨vs, H1, I1, r1, q1⟩ => ?_) hs hpl))
  · have key : ta σ H (fun v H1 => tb σ H1 fun u H2 => ∃ t1 t2 a b, v = .ref a ∧ u = .ref b ∧ (∃ xs, Sq X.K H2 t1 a xs) ∧ (∃ ys, Sq X.K H2 t2 b ys) ∧ R (ItzS X.K t1 t2 a b) H2) := h
    have conv : (fun (v : V) (H1 : Hp) => tb σ H1 fun u H2 => ∃ t1 t2 a b, v = .ref a ∧ u = .ref b ∧ (∃ xs, Sq X.K H2 t1 a xs) ∧ (∃ ys, Sq X.K H2 t2 b ys) ∧ R (ItzS X.K t1 t2 a b) H2) =
        fun v H1 => tb σ H1 fun u H2 => ∃ t1 t2 a b, [v, u] = [V.ref a, V.ref b] ∧ (∃ xs, Sq X.K H2 t1 a xs) ∧ (∃ ys, Sq X.K H2 t2 b ys) ∧ R (ItzS X.K t1 t2 a b) H2 := by
      funext v H1
      refine congrArg _ ?_
      funext u H2
      simp [and_assoc]
    rw [conv] at key
    exact key
  · obtain ⟨t1, t2, a, b, ex, ⟨xs, hqx⟩, ⟨ys, hqy⟩, q⟩ := q1
    subst ex
    cases r1 with
    | cons r rr =>
      cases rr with
      | cons r' rr =>
        cases rr
        cases r
        cases r'
        have fresh5 : ∀ c, c ∈ [s1.heap.objs.size + 4, s1.heap.objs.size + 2, s1.heap.objs.size + 3, s1.heap.objs.size, s1.heap.objs.size + 1] → FpOk X pins H1 c := fun c hcm => by
          have e' : c = s1.heap.objs.size + 4 ∨ c = s1.heap.objs.size + 2 ∨ c = s1.heap.objs.size + 3 ∨ c = s1.heap.objs.size ∨ c = s1.heap.objs.size + 1 := by simpa using hcm
          have hle : s1.heap.objs.size ≤ c := by
            rcases e' with z | z | z | z | z
            · rw [z]; exact Nat.le_add_right _ _
            · rw [z]; exact Nat.le_add_right _ _
            · rw [z]; exact Nat.le_add_right _ _
            · rw [z]; exact Nat.le_refl _
            · rw [z]; exact Nat.le_add_right _ _
          exact I1.fpOk hle (I1.hok.fresh hle)
        obtain ⟨its, rv, p1⟩ := inv_sq I1 hqx
        obtain ⟨its2, rv2, p2⟩ := inv_sq I1 hqy
        have la := isSq_lt p1
        have lb := isSq_lt p2
        have sep : ZipSep2 (s1.heap.objs.size + 4) (s1.heap.objs.size + 2) (s1.heap.objs.size + 3) s1.heap.objs.size (s1.heap.objs.size + 1) [s1.heap.objs.size, a] [s1.heap.objs.size + 1, b] :=
          zip_sep2 (N := s1.heap.objs.size) (fp1 := [a]) (fp2 := [b]) (fun c hc => by rw [List.mem_singleton.mp hc]; exact la) (fun c hc => by rw [List.mem_singleton.mp hc]; exact lb)
        have fin : ∀ h' : Heap, IsZip h' (s1.heap.objs.size + 4) (s1.heap.objs.size + 2) (s1.heap.objs.size + 3) .none → IsTupOf2 h' (s1.heap.objs.size + 2) (.ref s1.heap.objs.size) (.ref (s1.heap.objs.size + 1)) →
            IsTupOf2 h' (s1.heap.objs.size + 3) .none .none → IsIt h' t1 s1.heap.objs.size a 0 → IsIt h' t2 (s1.heap.objs.size + 1) b 0 → (∀ c o, s1.heap.get? c = some o → h'.get? c = some o) →
            wpAny (model X.prog X.w) X.A (pyIter (.ref (s1.heap.objs.size + 4))) (PIE X pins σ (.Tuple elts kk tpos) R) X.xe { s1 with heap := h' } := fun h' hz hTI hTO h1 h2 hk => by
          refine wpAny_pyIter_zip hz ?_
          have I2 : Inv X pins σ H1 { s1 with heap := h' } := I1.kept (t' := s1.toks) hk
          exact ⟨s1.heap.objs.size + 4, [s1.heap.objs.size + 4, s1.heap.objs.size + 2, s1.heap.objs.size + 3, s1.heap.objs.size, s1.heap.objs.size + 1], _, _, H1, rfl, I2, turn_zipS sep (Nat.ne_of_lt la) (Nat.ne_of_lt (Nat.lt_succ_of_lt lb)), ⟨hz, hTI, ⟨_, _, hTO⟩, h1, h2⟩, fresh5, q⟩
        cases t1 with
        | true =>
          cases t2 with
          | true => exact zip_begins2 (begins_tuple a its.toArray) (begins_tuple b its2.toArray) p1 p2 fun h' hz hTI hTO h1 h2 _ hk => fin h' hz hTI hTO ⟨_, h1, rfl, rfl⟩ ⟨_, h2, rfl, rfl⟩ hk
          | false => exact zip_begins2 (begins_tuple a its.toArray) (begins_list b its2.toArray) p1 p2 fun h' hz hTI hTO h1 h2 _ hk => fin h' hz hTI hTO ⟨_, h1, rfl, rfl⟩ ⟨_, h2, rfl, rfl⟩ hk
        | false =>
          cases t2 with
          | true => exact zip_begins2 (begins_list a its.toArray) (begins_tuple b its2.toArray) p1 p2 fun h' hz hTI hTO h1 h2 _ hk => fin h' hz hTI hTO ⟨_, h1, rfl, rfl⟩ ⟨_, h2, rfl, rfl⟩ hk
          | false => exact zip_begins2 (begins_list a its.toArray) (begins_list b its2.toArray) p1 p2 fun h' hz hTI hTO h1 h2 _ hk => fin h' hz hTI hTO ⟨_, h1, rfl, rfl⟩ ⟨_, h2, rfl, rfl⟩ hk
end Dl

namespace Dl
open PySem PySem.Spec PyProof.Rows L2
section
variable {K : PySem.W.Frag} {X : Cx} {a b e : Expr} {ta tb te : TE} {da db de : DE} {pos : Pos}
/-! what is walked: the items xs while G holds of the heap -/
def Yl (K : PySem.W.Frag) (J : It) (G : Hp → Prop) (xs : List D) (B1 : Hp) : Prop := ∀ i H2 B2, G H2 → Same B1 B2 → Same B2 H2 →
  (∀ d, xs[i]? = some d → J.go i H2 ∧ ∀ x H3, J.yld i H2 x H3 → ∃ B3, Gr H2 B2 H3 B3 ∧ Rep K B3 x d) ∧ (i = xs.length → J.stop i H2)
abbrev DSrc := List S → (List D → Prop) → Prop
/-- m: true within a comprehension (the heap grows only), false in a loop (what stands in B stays) -/
structure SI (K : PySem.W.Frag) (m : Bool) (wi : TI) (src : DSrc) : Prop where
  mono : ∀ {ds : List S} {P P' : List D → Prop}, (∀ r, P r → P' r) → src ds P → src ds P'
  run : ∀ {σ : L2.St} {H B : Hp} {ds : List S} {Q : It → Hp → Prop}, Sl K H B σ ds → src ds (fun xs => ∀ J H' B', Gr H B H' B' → Yl K J (fun H2 => m = true → Same H' H2) xs B' → Q J H') → wi σ H Q
structure PXI (X : Cx) (m : Bool) (tg it : Expr) (wi : TI) (src : DSrc) : Prop where
  p : PI X tg it wi
  s : SI X.K m wi src
/-- a sequence: in a comprehension any, in a loop a value -/
def R.sq (m : Bool) (r : R) : Option (List D) := if m = true then r.seq else r.d.bind fun d => (R.val d).seq
theorem sq_ready {m : Bool} {r : R} {xs : List D} {H B' H' : Hp} {B : Hp} {v : V} (g : Gr H B H' B') (h : RepR K H B' H' v r) (e : r.sq m = some xs) :
    ∃ B2 a vs t, Gr H B H' B2 ∧ v = .ref a ∧ Sq K H' t a vs ∧ Reps K B2 vs xs ∧ ∀ H2 B3, (m = true → Same H' H2) → Same B2 B3 → Same B3 H2 → Sq K H2 t a vs := by
  cases m with
  | true =>
    obtain ⟨a, vs, rfl, q, rs⟩ := h.seq g.bh (show r.seq = some xs from e)
    rcases q with q | q
    · exact ⟨B', a, vs, false, g, rfl, q, rs, fun H2 B3 s _ _ => same_l (s rfl) q⟩
    · exact ⟨B', a, vs, true, g, rfl, q, rs, fun H2 B3 s _ _ => same_t (s rfl) q⟩
  | false =>
    have e' : (r.d.bind fun d => (R.val d).seq) = some xs := e
    cases w : r.d with
    | none => rw [w] at e'; cases e'
    | some d =>
      rw [w] at e'
      obtain ⟨B2, g2, s2, r2⟩ := h.freeze g w
      have e2 : (R.val d).seq = some xs := e'
      cases d with
      | lst ys =>
        cases e2
        cases r2 with
        | lst a rs => exact ⟨B2, _, _, false, g2, rfl, SqL.of (g2.bh _ _ a), rs, fun H2 B3 _ s3 s4 => SqL.of (s4 _ _ (s3 _ _ a))⟩
      | slst ys =>
        cases e2
        cases r2 with
        | slst a rs => exact ⟨B2, _, _, false, g2, rfl, same_l g2.bh a, rs, fun H2 B3 _ s3 s4 => same_l s4 (same_l s3 a)⟩
      | tup ys =>
        cases e2
        cases r2 with
        | tup a rs => exact ⟨B2, _, _, true, g2, rfl, same_t g2.bh a, rs, fun H2 B3 _ s3 s4 => same_t s4 (same_t s3 a)⟩
      | _ => cases e2
/-! a list or a tuple -/
def iSeq (K : PySem.W.Frag) (tl : TE) : TI := fun σ H R => tl σ H fun x H1 => ∃ t a, x = .ref a ∧ (∃ xs, Sq K H1 t a xs) ∧ R (if t = true then Itt K a else Itl K a) H1
theorem pi_seq {tg l : Expr} {tl : TE} (hl : PE X l tl) : PI X tg l (iSeq X.K tl) := by
  refine ⟨fun pins s σ H R I h => ?_⟩
  refine thn (hl.run pins s σ H _ I h) fun v s1 ⟨x, H1, I1, r1, q1⟩ => ?_
  obtain ⟨t, a, e, ⟨xs, hq⟩, q⟩ := q1
  subst e
  cases r1
  cases t with
  | false =>
    obtain ⟨its, rv, p, hz⟩ := I1.list (show SqL X.K H1 a xs from hq)
    refine wpAny_pyIter_list p.isList ?_
    refine ⟨s1.heap.objs.size, [s1.heap.objs.size], _, _, H1, rfl, I1.kept (t' := s1.toks) fun b o e => Heap.get?_push_of_some _ e, turn_list a _, ⟨_, Heap.get?_push_size _ rfl, rfl, rfl⟩, fun b hb => ?_, q⟩
    have e : b = s1.heap.objs.size := by simpa using hb
    subst e
    exact I1.fpOk (Nat.le_refl _) (I1.hok.fresh (Nat.le_refl _))
  | true =>
    obtain ⟨its, rv, p, hz⟩ := I1.tuple (show SqT X.K H1 a xs from hq)
    refine wpAny_pyIter_tuple (show s1.heap.IsTuple a its.toArray from p) ?_
    refine ⟨s1.heap.objs.size, [s1.heap.objs.size], _, _, H1, rfl, I1.kept (t' := s1.toks) fun b o e => Heap.get?_push_of_some _ e, turn_tuple a _, ⟨_, Heap.get?_push_size _ rfl, rfl, rfl⟩, fun b hb => ?_, q⟩
    have e : b = s1.heap.objs.size := by simpa using hb
    subst e
    exact I1.fpOk (Nat.le_refl _) (I1.hok.fresh (Nat.le_refl _))
def srcS (m : Bool) (de : DE) : DSrc := fun ds P => de ds fun r => ∃ xs, r.sq m = some xs ∧ P xs
theorem gr_same {H B : Hp} (h : Same B H) : Gr H B H B := Gr.refl h
theorem px_iter {m : Bool} {tg : Expr} (h : PX X e te de) : PXI X m tg e (iSeq X.K te) (srcS m de) := ⟨pi_seq h.p, {
  mono := fun hp q => h.s.mono (fun r ⟨xs, e, q⟩ => ⟨xs, e, hp _ q⟩) q
  run := fun {σ H B ds Q} s q => by
    refine h.s.run s (h.s.mono (fun r ⟨xs, e, q⟩ v H' B' g rr => ?_) q)
    obtain ⟨B2, a, vs, t, g2, rfl, hq, rs, st⟩ := sq_ready g rr e
    refine ⟨t, a, rfl, ⟨vs, hq⟩, q _ H' B2 g2 fun i H2 B3 hG s3 s4 => ?_⟩
    have hq2 := st H2 B3 hG s3 s4
    cases t with
    | false =>
      have hq3 : SqL X.K H2 a vs := hq2
      refine ⟨fun d ed => ?_, fun ei => ⟨vs, hq3, by rw [rs.len]; omega⟩⟩
      obtain ⟨x, hx, rx⟩ := rs.get ed
      refine ⟨⟨vs, x, hq3, hx⟩, fun y H3 hy => ?_⟩
      obtain ⟨rfl, hy⟩ := hy
      have ey : y = x := Option.some.inj ((hy vs hq3).symm.trans hx)
      subst ey
      exact ⟨B3, Gr.refl s4, rx.mono s3⟩
    | true =>
      have hq3 : SqT X.K H2 a vs := hq2
      refine ⟨fun d ed => ?_, fun ei => ⟨vs, hq3, by rw [rs.len]; omega⟩⟩
      obtain ⟨x, hx, rx⟩ := rs.get ed
      refine ⟨⟨vs, x, hq3, hx⟩, fun y H3 hy => ?_⟩
      obtain ⟨rfl, hy⟩ := hy
      have ey : y = x := Option.some.inj ((hy vs hq3).symm.trans hx)
      subst ey
      exact ⟨B3, Gr.refl s4, rx.mono s3⟩ }⟩
/-! range -/
def rgD (lo : Int) (n : Nat) : List D := (List.range n).map fun (i : Nat) => D.int (lo + (i : Int))
theorem yl_range {J : It} {lo : Int} {n : Nat} {G : Hp → Prop} {B1 : Hp} (h : J = Itr lo n) : Yl K J G (rgD lo n) B1 := by
  subst h
  intro i H2 B2 _ _ s4
  refine ⟨fun d ed => ?_, fun ei => ?_⟩
  · unfold rgD at ed
    rw [List.getElem?_map] at ed
    have hi : i < n := by
      cases w : (List.range n)[i]? with
      | none => rw [w] at ed; cases ed
      | some j =>
        have := (List.getElem?_eq_some_iff.mp w).1
        simpa using this
    rw [List.getElem?_range hi] at ed
    cases ed
    refine ⟨hi, fun x H3 hy => ?_⟩
    obtain ⟨rfl, rfl⟩ := hy
    exact ⟨B2, Gr.refl s4, Rep.int⟩
  · show n ≤ i
    rw [ei]; unfold rgD; simp
def srcR1 (de : DE) : DSrc := fun ds P => de ds fun r => match r with
  | .val (.int j) => -(2 ^ 62) ≤ j ∧ j < 2 ^ 62 ∧ P (rgD 0 j.toNat)
  | _ => False
theorem px_range1 {m : Bool} {tg : Expr} {p : Pos} (hg : Gl X "range") (hm : X.mg "range" = none) (h : PX X e te de) (hs : starEach [e] X.env = [(false, eval e X.env)] := by rfl) : PXI X m tg (.Call (.Name "range" p) [e] [] pos) (iRng1 (tCons te tNil)) (srcR1 de) := ⟨pi_range1 hg hm (pa_cons h.p pa_nil hs) hs, {
  mono := fun hp q => h.s.mono (fun r q => by split at q; exact ⟨q.1, q.2.1, hp _ q.2.2⟩; exact q.elim) q
  run := fun {σ H B ds Q} s q => by
    refine h.s.run s (h.s.mono (fun r q v H' B' g rr => ?_) q)
    split at q
    · rename_i j
      rw [rep_int rr]
      exact ⟨j, rfl, q.1, q.2.1, q.2.2 _ _ _ g (yl_range rfl)⟩
    · exact q.elim }⟩
def srcR2 (da db : DE) : DSrc := fun ds P => da ds fun x => db ds fun y => match x, y with
  | .val (.int i), .val (.int j) => (-(2 ^ 62) ≤ i ∧ i < 2 ^ 62 ∧ -(2 ^ 62) ≤ j ∧ j < 2 ^ 62) ∧ P (rgD i (j - i).toNat)
  | _, _ => False
theorem px_range2 {m : Bool} {tg : Expr} {p : Pos} (hg : Gl X "range") (hm : X.mg "range" = none) (ha : PX X a ta da) (hb : PX X b tb db) (hs : starEach [a, b] X.env = [(false, eval a X.env), (false, eval b X.env)] := by rfl) (hs2 : starEach [b] X.env = [(false, eval b X.env)] := by rfl) :
    PXI X m tg (.Call (.Name "range" p) [a, b] [] pos) (iRng2 (tCons ta (tCons tb tNil))) (srcR2 da db) := ⟨pi_range2 hg hm (pa_cons ha.p (pa_cons hb.p pa_nil hs2) (by rw [hs, hs2])) hs hs2, {
  mono := fun hp q => ha.s.mono (fun r q => hb.s.mono (fun r q => by split at q; exact ⟨q.1, hp _ q.2⟩; exact q.elim) q) q
  run := fun {σ H B ds Q} s q => by
    refine ha.s.run s (ha.s.mono (fun x q v H1 B1 g1 r1 => ?_) q)
    refine hb.s.run (s.grow g1) (hb.s.mono (fun y q u H2 B2 g2 r2 => ?_) q)
    split at q
    · rw [rep_int (r1.grow g2), rep_int r2]
      exact ⟨_, _, rfl, q.1, q.2 _ _ _ (g1.trans g2) (yl_range rfl)⟩
    · exact q.elim }⟩
/-! enumerate, zip -/
def enumD (xs : List D) : List D := (List.range xs.length).map fun (i : Nat) => D.tup [.int (i : Int), xs.getD i .non]
theorem enumD_get {xs : List D} {i : Nat} {d : D} (h : (enumD xs)[i]? = some d) : ∃ x, xs[i]? = some x ∧ d = .tup [.int i, x] := by
  unfold enumD at h
  rw [List.getElem?_map] at h
  by_cases hi : i < xs.length
  · rw [List.getElem?_range hi] at h
    cases h
    refine ⟨xs[i], List.getElem?_eq_getElem hi, ?_⟩
    show D.tup [.int (i : Int), xs.getD i .non] = _
    rw [List.getD_eq_getElem?_getD, List.getElem?_eq_getElem hi]; rfl
  · rw [List.getElem?_eq_none (by simpa using hi)] at h; cases h
theorem enumD_len (xs : List D) : (enumD xs).length = xs.length := by unfold enumD; simp
def srcE (m : Bool) (de : DE) : DSrc := fun ds P => de ds fun r => ∃ xs, r.sq m = some xs ∧ P (enumD xs)
theorem px_enum {m : Bool} {elts : List Expr} {kk : Nat} {tpos p : Pos} (hg : Gl X "enumerate") (hm : X.mg "enumerate" = none) (h : PX X e te de) (hs : starEach [e] X.env = [(false, eval e X.env)] := by rfl) :
    PXI X m (.Tuple elts kk tpos) (.Call (.Name "enumerate" p) [e] [] pos) (iEnumS X.K te) (srcE m de) := ⟨pi_enumS hg hm h.p hs, {
  mono := fun hp q => h.s.mono (fun r ⟨xs, e, q⟩ => ⟨xs, e, hp _ q⟩) q
  run := fun {σ H B ds Q} s q => by
    refine h.s.run s (h.s.mono (fun r ⟨xs, e, q⟩ v H' B' g rr => ?_) q)
    obtain ⟨B2, a, vs, t, g2, rfl, hq, rs, st⟩ := sq_ready g rr e
    refine ⟨t, a, rfl, ⟨vs, hq⟩, q _ H' B2 g2 fun i H2 B3 hG s3 s4 => ?_⟩
    have hq2 := st H2 B3 hG s3 s4
    refine ⟨fun d ed => ?_, fun ei => ⟨vs, hq2, by rw [rs.len, ei, enumD_len]⟩⟩
    obtain ⟨z, ez, rfl⟩ := enumD_get ed
    obtain ⟨x, hx, rx⟩ := rs.get ez
    refine ⟨⟨vs, x, hq2, hx⟩, fun y H3 hy => ?_⟩
    obtain ⟨T, x', rfl, hT, rfl, hy⟩ := hy
    have ey : x' = x := Option.some.inj ((hy vs hq2).symm.trans hx)
    subst ey
    have sm := same_upd (o := HO.tup [.int i, x']) (s4.free hT)
    exact ⟨_, gr_tup s4 hT, Rep.tup (sq_tup upd_same) (.cons .int (.cons ((rx.mono s3).mono sm) .nil))⟩ }⟩
def zipD (xs ys : List D) : List D := (List.range (min xs.length ys.length)).map fun (i : Nat) => D.tup [xs.getD i .non, ys.getD i .non]
theorem zipD_get {xs ys : List D} {i : Nat} {d : D} (h : (zipD xs ys)[i]? = some d) : ∃ x y, xs[i]? = some x ∧ ys[i]? = some y ∧ d = .tup [x, y] := by
  unfold zipD at h
  rw [List.getElem?_map] at h
  by_cases hi : i < min xs.length ys.length
  · rw [List.getElem?_range hi] at h
    cases h
    have h1 : i < xs.length := by omega
    have h2 : i < ys.length := by omega
    refine ⟨xs[i], ys[i], List.getElem?_eq_getElem h1, List.getElem?_eq_getElem h2, ?_⟩
    show D.tup [xs.getD i .non, ys.getD i .non] = _
    rw [List.getD_eq_getElem?_getD, List.getD_eq_getElem?_getD, List.getElem?_eq_getElem h1, List.getElem?_eq_getElem h2]; rfl
  · rw [List.getElem?_eq_none (by simpa using hi)] at h; cases h
theorem zipD_len (xs ys : List D) : (zipD xs ys).length = min xs.length ys.length := by unfold zipD; simp
def srcZ (m : Bool) (da db : DE) : DSrc := fun ds P => da ds fun x => db ds fun y => ∃ xs ys, x.sq m = some xs ∧ y.sq m = some ys ∧ P (zipD xs ys)
theorem px_zip {m : Bool} {elts : List Expr} {kk : Nat} {tpos p : Pos} (hg : Gl X "zip") (hm : X.mg "zip" = none) (ha : PX X a ta da) (hb : PX X b tb db)
    (hs : starEach [a, b] X.env = (false, eval a X.env) :: starEach [b] X.env := by rfl) (hs2 : starEach [b] X.env = (false, eval b X.env) :: starEach [] X.env := by rfl) (hpl : (backTo pos (starEach [b] X.env)).any (·.1) = false := by rfl) :
    PXI X m (.Tuple elts kk tpos) (.Call (.Name "zip" p) [a, b] [] pos) (iZipS X.K ta tb) (srcZ m da db) := ⟨pi_zipS hg hm ha.p hb.p hs hs2 hpl, {
  mono := fun hp q => ha.s.mono (fun r q => hb.s.mono (fun r ⟨xs, ys, e, f, q⟩ => ⟨xs, ys, e, f, hp _ q⟩) q) q
  run := fun {σ H B ds Q} s q => by
    refine ha.s.run s (ha.s.mono (fun x q v H1 B1 g1 r1 => ?_) q)
    refine hb.s.run (s.grow g1) (hb.s.mono (fun y ⟨xs, ys, e, f, q⟩ u H2 B2 g2 r2 => ?_) q)
    obtain ⟨B3, a1, vs, t1, g3, rfl, hq, rs, st⟩ := sq_ready (g1.trans g2) (r1.grow g2) e
    -- the second, over the first's B
    have r2' : ∃ B4 b1 ws t2, Gr H B H2 B4 ∧ Same B3 B4 ∧ u = .ref b1 ∧ Sq X.K H2 t2 b1 ws ∧ Reps X.K B4 ws ys ∧ ∀ H5 B5, (m = true → Same H2 H5) → Same B4 B5 → Same B5 H5 → Sq X.K H5 t2 b1 ws := by
      cases m with
      | true =>
        obtain ⟨b1, ws, rfl, q2, rs2⟩ := r2.seq g2.bh (show y.seq = some ys from f)
        -- B3 here is B2
        have hb3 : ∃ B4, Gr H B H2 B4 ∧ Same B3 B4 ∧ Same B2 B4 := by
          refine ⟨fun p => (B3 p).or (B2 p), ⟨g3.hh, fun p o z => ?_, fun p o z => ?_, fun p hp hb => ?_⟩, fun p o z => ?_, fun p o z => ?_⟩
          · show (B3 p).or (B2 p) = some o
            rw [g3.bb _ _ z]; rfl
          · have z' : (B3 p).or (B2 p) = some o := z
            cases w : B3 p with
            | some o' => rw [w] at z'; cases z'; exact g3.bh _ _ w
            | none => rw [w] at z'; exact g2.bh _ _ z'
          · show (B3 p).or (B2 p) = none
            rw [g3.nw p hp hb, (g1.trans g2).nw p hp hb]; rfl
          · show (B3 p).or (B2 p) = some o
            rw [z]; rfl
          · show (B3 p).or (B2 p) = some o
            cases w : B3 p with
            | some o' =>
              have h1 := g3.bh _ _ w
              have h2 := g2.bh _ _ z
              rw [h1] at h2; cases h2; rfl
            | none => exact z
        obtain ⟨B4, g4, s34, s24⟩ := hb3
        rcases q2 with q2 | q2
        · exact ⟨B4, b1, ws, false, g4, s34, rfl, q2, rs2.mono s24, fun H5 B5 s _ _ => same_l (s rfl) q2⟩
        · exact ⟨B4, b1, ws, true, g4, s34, rfl, q2, rs2.mono s24, fun H5 B5 s _ _ => same_t (s rfl) q2⟩
      | false =>
        obtain ⟨B4', b1, ws, t2, g4, rfl, hq2, rs2, st2⟩ := sq_ready (B := B1) g2 r2 f
        have hb3 : ∃ B4, Gr H B H2 B4 ∧ Same B3 B4 ∧ Same B4' B4 := by
          refine ⟨fun p => (B3 p).or (B4' p), ⟨g3.hh, fun p o z => ?_, fun p o z => ?_, fun p hp hb => ?_⟩, fun p o z => ?_, fun p o z => ?_⟩
          · show (B3 p).or (B4' p) = some o
            rw [g3.bb _ _ z]; rfl
          · have z' : (B3 p).or (B4' p) = some o := z
            cases w : B3 p with
            | some o' => rw [w] at z'; cases z'; exact g3.bh _ _ w
            | none => rw [w] at z'; exact g4.bh _ _ z'
          · show (B3 p).or (B4' p) = none
            rw [g3.nw p hp hb, (g1.trans g4).nw p hp hb]; rfl
          · show (B3 p).or (B4' p) = some o
            rw [z]; rfl
          · show (B3 p).or (B4' p) = some o
            cases w : B3 p with
            | some o' =>
              have h1 := g3.bh _ _ w
              have h2 := g4.bh _ _ z
              rw [h1] at h2; cases h2; rfl
            | none => exact z
        obtain ⟨B4, g5, s34, s44⟩ := hb3
        exact ⟨B4, b1, ws, t2, g5, s34, rfl, hq2, rs2.mono s44, fun H5 B5 s s5 s6 => st2 H5 B5 s (s44.trans s5) s6⟩
    obtain ⟨B4, b1, ws, t2, g4, s34, rfl, hq2, rs2, st2⟩ := r2'
    refine ⟨t1, t2, a1, b1, rfl, rfl, ⟨vs, hq⟩, ⟨ws, hq2⟩, q _ H2 B4 g4 fun i H5 B5 hG s5 s6 => ?_⟩
    have hqa := st H5 B5 hG (s34.trans s5) s6
    have hqb := st2 H5 B5 hG s5 s6
    refine ⟨fun d ed => ?_, fun ei => ⟨vs, ws, hqa, hqb, ?_⟩⟩
    · obtain ⟨z1, z2, e1, e2, rfl⟩ := zipD_get ed
      obtain ⟨x1, hx1, rx1⟩ := rs.get e1
      obtain ⟨x2, hx2, rx2⟩ := rs2.get e2
      refine ⟨⟨vs, ws, x1, x2, hqa, hqb, hx1, hx2⟩, fun y' H6 hy => ?_⟩
      obtain ⟨T, y1, y2, rfl, hT, rfl, hy1, hy2⟩ := hy
      have ey1 : y1 = x1 := Option.some.inj ((hy1 vs hqa).symm.trans hx1)
      have ey2 : y2 = x2 := Option.some.inj ((hy2 ws hqb).symm.trans hx2)
      subst ey1 ey2
      have sm := same_upd (o := HO.tup [y1, y2]) (s6.free hT)
      exact ⟨_, gr_tup s6 hT, Rep.tup (sq_tup upd_same) (.cons (((rx1.mono s34).mono s5).mono sm) (.cons ((rx2.mono s5).mono sm) .nil))⟩
    · rw [zipD_len] at ei
      rw [rs.len, rs2.len]
      omega }⟩
end
/-! ### targets -/
abbrev DG := D → List S → (List S → Prop) → Prop
structure SG (K : PySem.W.Frag) (g : TG) (dg : DG) : Prop where
  mono : ∀ {d : D} {ds : List S} {P P' : List S → Prop}, (∀ r, P r → P' r) → dg d ds P → dg d ds P'
  run : ∀ {H0 B0 H B : Hp} {σ : L2.St} {ds : List S} {v : V} {d : D} {Q : L2.St → Hp → Prop}, Sn K H0 B0 H B σ ds → Rep K B v d → dg d ds (fun ds' => ∀ σ', Sn K H0 B0 H B σ' ds' → Q σ' H) → g v σ H Q
structure PXG (X : Cx) (tg : Expr) (g : TG) (dg : DG) : Prop where
  p : PG X tg g
  s : SG X.K g dg
abbrev DGs := List D → List S → (List S → Prop) → Prop
structure SGs (K : PySem.W.Frag) (g : TGs) (dg : DGs) : Prop where
  mono : ∀ {d : List D} {ds : List S} {P P' : List S → Prop}, (∀ r, P r → P' r) → dg d ds P → dg d ds P'
  run : ∀ {H0 B0 H B : Hp} {σ : L2.St} {ds : List S} {v : List V} {d : List D} {Q : L2.St → Hp → Prop}, Sn K H0 B0 H B σ ds → Reps K B v d → dg d ds (fun ds' => ∀ σ', Sn K H0 B0 H B σ' ds' → Q σ' H) → g v σ H Q
structure PXGs (X : Cx) (tg : List Expr) (g : TGs) (dg : DGs) : Prop where
  p : PGs X tg g
  s : SGs X.K g dg
section
variable {K : PySem.W.Frag} {X : Cx} {a b e : Expr} {ta tb te : TE} {da db de : DE} {pos : Pos}
def gV (i : Nat) : DG := fun d ds P => P (ds.set i (.val d))
theorem sg_name {i : Nat} : SG K (gName i) (gV i) := ⟨fun h q => h _ q, fun s r q => q _ (s.setV r)⟩
theorem pxg_name {i : Nat} {x : Str} (hN : X.N.Nodup) (hi : X.N[i]? = some x) (hx : Loc X.env.scope x) (hf : X.fn x = true ∨ X.env.scope.names.lookup x = some .local := by first | exact .inl rfl | exact .inr rfl | assumption) : PXG X (.Name x pos) (gName i) (gV i) := ⟨pg_name hN hi hx hf, sg_name⟩
def gN0 : DGs := fun d ds P => d = [] ∧ P ds
def gC0 (t : DG) (u : DGs) : DGs := fun d ds P => match d with
  | x :: r => t x ds fun ds' => u r ds' P
  | [] => False
theorem pxgs_nil : PXGs X [] gNil gN0 := ⟨pgs_nil, ⟨fun h q => ⟨q.1, h _ q.2⟩, fun s r q => by
  obtain ⟨rfl, q⟩ := q
  cases r
  exact ⟨rfl, q _ s⟩⟩⟩
theorem pxgs_cons {es : List Expr} {t : TG} {u : TGs} {dt : DG} {du : DGs} (h1 : PXG X e t dt) (h2 : PXGs X es u du)
    (hs : (assignEach (e :: es) X.env).map (·.2) = assign e X.env :: (assignEach es X.env).map (·.2) := by rfl) : PXGs X (e :: es) (gCons t u) (gC0 dt du) := ⟨pgs_cons h1.p h2.p hs, {
  mono := fun {d ds P P'} h q => by
    cases d with
    | nil => exact q
    | cons x r => exact h1.s.mono (fun ds' q => h2.s.mono h q) q
  run := fun {H0 B0 H B σ ds v d Q} s r q => by
    cases d with
    | nil => exact q.elim
    | cons x d =>
      cases r with
      | cons rx rr =>
        refine ⟨_, _, rfl, h1.s.run s rx (h1.s.mono (fun ds' q σ' s' => ?_) q)⟩
        exact h2.s.run s' rr q }⟩
def gT0 (n : Nat) (t : DGs) : DG := fun d ds P => ∃ xs, (R.val d).seq = some xs ∧ (∃ ys, d = .tup ys) ∧ xs.length = n ∧ t xs ds P
theorem pxg_tup {es : List Expr} {k n : Nat} {t : TGs} {dt : DGs} (hc : X.calm = true) (h : PXGs X es t dt)
    (hn : (assignEach es X.env).length = n := by rfl) (hst : (assignEach es X.env).findIdx? (·.1) = none := by rfl) : PXG X (.Tuple es k pos) (gTup X.K n t) (gT0 n dt) := ⟨pg_tup hc h.p hn hst, {
  mono := fun hp ⟨xs, e, f, n, q⟩ => ⟨xs, e, f, n, h.s.mono hp q⟩
  run := fun {H0 B0 H B σ ds v d Q} s r ⟨xs, e, ⟨ys, f⟩, n, q⟩ => by
    subst f
    cases e
    cases r with
    | tup hT rs => exact ⟨_, _, rfl, same_t s.sl.bh hT, by rw [rs.len]; exact n, h.s.run s rs q⟩ }⟩
/-- target = value, the value frozen -/
def dAsgG (de : DE) (dg : DG) : DS := fun Dn ds => de ds fun r => ∃ d, r.d = some d ∧ dg d ds Dn.nx
theorem px_asg {tg : Expr} {g : TG} {dg : DG} (he : PX X e te de) (hg : PXG X tg g dg) (hs : swapsWithSole [tg] e pos.line X.env = pure false := by rfl) (hw : swappedStores [tg] e X.env = pure none := by rfl)
    (h1 : (assignEach [tg] X.env).map (·.2) = [assign tg X.env] := by rfl) : PXS1 X (.Assign [tg] e pos) (tAsg te g) (dAsgG de dg) := ⟨ps_asg he.p hg.p hs hw h1, ⟨fun s hn _ _ _ q => by
  refine he.s.run s.sl (he.s.mono (fun r ⟨d, ed, q⟩ v H' B' g rr => ?_) q)
  obtain ⟨B2, g2, s2, r2⟩ := rr.freeze g ed
  exact hg.s.run (s.grow g2) r2 (hg.s.mono (fun ds' q σ' s' => hn _ _ _ _ s' q) q)⟩⟩
section
variable {H0 B0 H B H1 B1 : Hp} {σ : L2.St} {ds : List S}
theorem Sn.re (s : Sn K H0 B0 H B σ ds) (h : Same B1 B) (h0 : Same B0 B1) : Sn K H0 B1 H B σ ds := ⟨s.sl, ⟨s.gr.hh, h, s.gr.bh, fun p hp hb => s.gr.nw p hp (h0.free hb)⟩, s.fr⟩
theorem Gr.un (g : Gr H0 B1 H B) (h : Gr H0 B0 H1 B1) : Gr H0 B0 H B := ⟨g.hh, h.bb.trans g.bb, g.bh, fun p hp hb => g.nw p hp (h.nw p hp hb)⟩
theorem Sn.un (s : Sn K H0 B1 H B σ ds) (h : Gr H0 B0 H1 B1) : Sn K H0 B0 H B σ ds := ⟨s.sl, s.gr.un h, s.fr⟩
end
/-! ### for -/
def dFor (src : DSrc) (dg : DG) (body : DS) : DS := fun Dn ds => src ds fun xs => ∃ Iv : Nat → List S → Prop, Iv 0 ds ∧
  (∀ i d ds', xs[i]? = some d → Iv i ds' → dg d ds' fun ds2 => body { Dn with nx := Iv (i + 1), ct := Iv (i + 1), bk := Dn.nx } ds2) ∧ ∀ ds', Iv xs.length ds' → Dn.nx ds'
theorem px_for {tg iter : Expr} {body : List Stmt} {wi : TI} {g : TG} {tb : TS} {src : DSrc} {dg : DG} {db : DS} (hp : PassesOwn (model X.prog X.w) X.A X.env X.xe) (hc : X.calm = true) (hi : PXI X false tg iter wi src) (hg : PXG X tg g dg) (hb : PXS X body tb db)
    (hs : ∀ x, foldedSetIterable iter X.env x = pure x := by intro _; rfl) : PXS1 X (.For tg iter body [] pos) (tFor wi g tb) (dFor src dg db) := ⟨ps_for hp hc hi.p hg.p hb.p hs, ⟨fun {H0 B0 σ H B ds Dn E} s hn hbk hct hrt q => by
  refine hi.s.run s.sl (hi.s.mono (fun xs ⟨Iv, i0, step, fin⟩ J H1 B1 g1 yl => ?_) q)
  have g01 := s.gr.trans g1
  refine ⟨fun i m σ' H' => m = xs.length - i ∧ i ≤ xs.length ∧ ∃ B' ds', Sn X.K H0 B1 H' B' σ' ds' ∧ Iv i ds', ⟨xs.length, by simp, Nat.zero_le _, B1, ds, (s.grow g1).re (Same.refl _) g01.bb, i0⟩, ?_⟩
  rintro i m σ' H' ⟨rfl, hi', B', ds', s', iv⟩
  obtain ⟨y1, y2⟩ := yl i H' B' (fun z => by cases z) s'.gr.bb s'.sl.bh
  by_cases hlt : i < xs.length
  · obtain ⟨go, yd⟩ := y1 xs[i] (List.getElem?_eq_getElem hlt)
    refine .inr ⟨go, fun σ2 H2 => ∃ B2 ds2, Sn X.K H0 B1 H2 B2 σ2 ds2 ∧ Iv (i + 1) ds2, fun σ2 H2 ⟨B2, ds2, a, c⟩ => ⟨xs.length - (i + 1), by omega, rfl, hlt, B2, ds2, a, c⟩, fun x H2 hy => ?_⟩
    obtain ⟨B2, g2, rx⟩ := yd x H2 hy
    refine hg.s.run (s'.grow g2) rx (hg.s.mono (fun ds2 q σ2 s3 => ?_) (step i xs[i] ds' (List.getElem?_eq_getElem hlt) iv))
    exact hb.s.run (Dn := { Dn with nx := Iv (i + 1), ct := Iv (i + 1), bk := Dn.nx }) s3 (fun σ4 H4 B4 ds4 s4 q4 => ⟨B4, ds4, s4, q4⟩) (fun σ4 H4 B4 ds4 s4 q4 => hn _ _ _ _ (s4.un g01) q4)
      (fun σ4 H4 B4 ds4 s4 q4 => ⟨B4, ds4, s4, q4⟩) (fun v H4 B4 r g4 r4 q4 => hrt _ _ _ _ (g4.un g01) r4 q4) q
  · have e : i = xs.length := by omega
    subst e
    exact .inl ⟨y2 rfl, hn _ _ _ _ (s'.un g01) (fin _ iv)⟩⟩⟩
/-! ### while -/
def dWhile (c : DT) (body : DS) : DS := fun Dn ds => ∃ Iv : Nat → List S → Prop, (∃ m, Iv m ds) ∧ ∀ m ds', Iv m ds' → c ds' fun x =>
  (x = true → body { Dn with nx := fun ds2 => ∃ m', m' < m ∧ Iv m' ds2, ct := fun ds2 => ∃ m', m' < m ∧ Iv m' ds2, bk := Dn.nx } ds') ∧ (x = false → Dn.nx ds')
theorem px_while {c : Expr} {body : List Stmt} {tc : TT} {tb : TS} {dc : DT} {db : DS} (hp : PassesOwn (model X.prog X.w) X.A X.env X.xe) (hc : PXT X c tc dc) (hb : PXS X body tb db) : PXS1 X (.While c body [] pos) (tWhile tc tb) (dWhile dc db) := ⟨ps_while hp hc.p hb.p, ⟨fun {H0 B0 σ H B ds Dn E} s hn hbk hct hrt q => by
  obtain ⟨Iv, ⟨m0, i0⟩, step⟩ := q
  refine ⟨fun m σ' H' => ∃ B' ds', Sn X.K H0 B0 H' B' σ' ds' ∧ Iv m ds', ⟨m0, B, ds, s, i0⟩, ?_⟩
  rintro m σ' H' ⟨B', ds', s', iv⟩
  refine hc.s.run s'.sl (hc.s.mono (fun x q H2 B2 g => ?_) (step m ds' iv))
  cases x with
  | true =>
    rw [if_pos rfl]
    refine ⟨fun σ2 H2 => ∃ m', m' < m ∧ ∃ B2 ds2, Sn X.K H0 B0 H2 B2 σ2 ds2 ∧ Iv m' ds2, fun σ2 H2 ⟨m', h1, h2⟩ => ⟨m', h1, h2⟩, ?_⟩
    exact hb.s.run (Dn := { Dn with nx := fun ds2 => ∃ m', m' < m ∧ Iv m' ds2, ct := fun ds2 => ∃ m', m' < m ∧ Iv m' ds2, bk := Dn.nx }) (s'.grow g) (fun σ4 H4 B4 ds4 s4 ⟨m', h1, h2⟩ => ⟨m', h1, B4, ds4, s4, h2⟩) (fun σ4 H4 B4 ds4 s4 q4 => hn _ _ _ _ s4 q4)
      (fun σ4 H4 B4 ds4 s4 ⟨m', h1, h2⟩ => ⟨m', h1, B4, ds4, s4, h2⟩) hrt (q.1 rfl)
  | false =>
    rw [if_neg Bool.false_ne_true]
    exact hn _ _ _ _ (s'.grow g) (q.2 rfl)⟩⟩
end
end Dl

namespace Dl
open PySem PySem.Spec PyProof.Rows L2
section
variable {K : PySem.W.Frag} {X : Cx} {H B H1 B1 : Hp} {σ : L2.St} {ds : List S}
/-! slots without an entry -/
def nil0 : Hp := fun _ => none
theorem gr0 (s : Same B H) : Gr nil0 nil0 H B := ⟨(fun _ _ z => by cases z), (fun _ _ z => by cases z), s, (fun _ h _ => (h rfl).elim)⟩
theorem Sl.sn (s : Sl K H B σ ds) : Sn K nil0 nil0 H B σ ds := ⟨s, gr0 s.bh, fun _ _ _ _ => rfl⟩
def wipeD (ds : List S) : List Nat → List S
  | [] => ds
  | v :: vs => (wipeD ds vs).set v .no
theorem Sl.wipe (s : Sl K H B σ ds) : ∀ vs : List Nat, Sl K H B (wipe σ vs) (wipeD ds vs)
  | [] => s
  | v :: vs => ((Sl.wipe s vs).sn.setNo (i := v) (o := none)).sl
/-! targets within a comprehension -/
structure SGc (K : PySem.W.Frag) (vs : List Nat) (g : TG) (dg : DG) : Prop where
  mono : ∀ {d : D} {ds : List S} {P P' : List S → Prop}, (∀ r, P r → P' r) → dg d ds P → dg d ds P'
  run : ∀ {H B : Hp} {σ : L2.St} {ds : List S} {v : V} {d : D} {Q : L2.St → Hp → Prop}, Sl K H B σ ds → Rep K B v d → dg d ds (fun ds' => ∀ σ', Sl K H B σ' ds' → wipe σ' vs = wipe σ vs → Q σ' H) → g v σ H Q
structure SGsc (K : PySem.W.Frag) (vs : List Nat) (g : TGs) (dg : DGs) : Prop where
  mono : ∀ {d : List D} {ds : List S} {P P' : List S → Prop}, (∀ r, P r → P' r) → dg d ds P → dg d ds P'
  run : ∀ {H B : Hp} {σ : L2.St} {ds : List S} {v : List V} {d : List D} {Q : L2.St → Hp → Prop}, Sl K H B σ ds → Reps K B v d → dg d ds (fun ds' => ∀ σ', Sl K H B σ' ds' → wipe σ' vs = wipe σ vs → Q σ' H) → g v σ H Q
theorem wipe_set {i : Nat} {o : Option V} : ∀ {vs : List Nat} (σ : L2.St), i ∈ vs → wipe (σ.set i o) vs = wipe σ vs
  | [], _, h => by cases h
  | v :: vs, σ, h => by
    show (wipe (σ.set i o) vs).set v none = (wipe σ vs).set v none
    by_cases e : i ∈ vs
    · rw [wipe_set σ e]
    · rcases List.mem_cons.mp h with q | q
      · subst q
        have key : ∀ (ws : List Nat), i ∉ ws → wipe (σ.set i o) ws = (wipe σ ws).set i o := fun ws => by
          induction ws with
          | nil => intro _; rfl
          | cons w ws ih =>
            intro hw
            show (wipe (σ.set i o) ws).set w none = ((wipe σ ws).set w none).set i o
            rw [ih (fun z => hw (List.mem_cons_of_mem _ z)), List.set_comm _ _ (fun z => hw (by rw [z]; exact List.mem_cons_self))]
        rw [key vs e, List.set_set]
      · exact absurd q e
theorem wipe_sub {vs : List Nat} : ∀ (us : List Nat) (τ : L2.St), (∀ u ∈ us, u ∈ vs) → wipe (wipe τ us) vs = wipe τ vs
  | [], _, _ => rfl
  | u :: us, τ, h => by
    show wipe ((wipe τ us).set u none) vs = wipe τ vs
    rw [wipe_set _ (h u List.mem_cons_self), wipe_sub us τ fun u' hu' => h u' (List.mem_cons_of_mem _ hu')]
theorem sgc_name {i : Nat} {vs : List Nat} (hi : i ∈ vs) : SGc K vs (gName i) (gV i) := ⟨fun h q => h _ q, fun s r q => q _ (s.sn.setV r).sl (wipe_set _ hi)⟩
theorem sgsc_nil {vs : List Nat} : SGsc K vs gNil gN0 := ⟨fun h q => ⟨q.1, h _ q.2⟩, fun s r q => by
  obtain ⟨rfl, q⟩ := q
  cases r
  exact ⟨rfl, q _ s rfl⟩⟩
theorem sgsc_cons {vs : List Nat} {t : TG} {u : TGs} {dt : DG} {du : DGs} (h1 : SGc K vs t dt) (h2 : SGsc K vs u du) : SGsc K vs (gCons t u) (gC0 dt du) where
  mono := fun {d ds P P'} h q => by
    cases d with
    | nil => exact q
    | cons x r => exact h1.mono (fun ds' q => h2.mono h q) q
  run := fun {H B σ ds v d Q} s r q => by
    cases d with
    | nil => exact q.elim
    | cons x d =>
      cases r with
      | cons rx rr =>
        refine ⟨_, _, rfl, h1.run s rx (h1.mono (fun ds' q σ' s' w => ?_) q)⟩
        exact h2.run s' rr (h2.mono (fun ds2 q σ2 s2 w2 => q σ2 s2 (w2.trans w)) q)
theorem sgc_tup {vs : List Nat} {n : Nat} {t : TGs} {dt : DGs} (h : SGsc K vs t dt) : SGc K vs (gTup K n t) (gT0 n dt) where
  mono := fun hp ⟨xs, e, f, n, q⟩ => ⟨xs, e, f, n, h.mono hp q⟩
  run := fun {H B σ ds v d Q} s r ⟨xs, e, ⟨ys, f⟩, n, q⟩ => by
    subst f
    cases e
    cases r with
    | tup hT rs => exact ⟨_, _, rfl, same_t s.bh hT, by rw [rs.len]; exact n, h.run s rs q⟩
/-! tests -/
def uYes : DT := fun _ P => P true
theorem st_yes : ST K tYes uYes := ⟨fun h q => h _ q, fun s q => q _ _ (Gr.refl s.bh)⟩
/-! ### a comprehension: f i: what the i-th item gives, if anything -/
def eLc (src : DSrc) (dg : DG) (dt : DT) (de : DE) (vs : List Nat) : DE := fun ds P => src ds fun xs => xs.length ≤ sizeLine ∧ ∃ f : Nat → Option D,
  (∀ i d, xs[i]? = some d → dg d (wipeD ds vs) fun ds2 => dt ds2 fun b => (b = true → de ds2 fun r => ∃ y, r.d = some y ∧ f i = some y) ∧ (b = false → f i = none)) ∧
  P (.own ((List.range xs.length).filterMap f))
theorem fm_len {α : Type} {f : Nat → Option α} (n : Nat) : ((List.range n).filterMap f).length ≤ n := by
  have := List.length_filterMap_le f (List.range n)
  rw [List.length_range] at this
  exact this
theorem fm_succ {α : Type} {f : Nat → Option α} (n : Nat) : (List.range (n + 1)).filterMap f = (List.range n).filterMap f ++ (match f n with | some y => [y] | none => []) := by
  rw [List.range_succ, List.filterMap_append]
  refine congrArg _ ?_
  cases h : f n with
  | none => simp [h]
  | some y => simp [h]
theorem se_lc {wi : TI} {g : TG} {tt : TT} {te : TE} {src : DSrc} {dg : DG} {dt : DT} {de : DE} {vs : List Nat} (hi : SI K true wi src) (hg : SGc K vs g dg) (ht : ST K tt dt) (he : SE K te de) : SE K (tLc wi g tt te vs) (eLc src dg dt de vs) where
  mono := fun h q => hi.mono (fun xs ⟨hl, f, st, q⟩ => ⟨hl, f, st, h _ q⟩) q
  run := fun {σ H B ds Q} s q => by
    refine hi.run s (hi.mono (fun xs ⟨hl, f, st, q⟩ J H1 B1 g1 yl A hA => ?_) q)
    refine ⟨fun i m H' => m = xs.length - i ∧ i ≤ xs.length ∧ ∃ B' acc, Gr H1 B1 H' B' ∧ B' A = none ∧ H' A = some (.lst acc) ∧ Reps K B' acc ((List.range i).filterMap f),
      ⟨xs.length, by simp, Nat.zero_le _, B1, [], gr_laid g1.bh hA, g1.bh.free hA, upd_same, .nil⟩, ?_⟩
    rintro i m H' ⟨rfl, hi', B', acc, g', hB, hH, rs⟩
    obtain ⟨y1, y2⟩ := yl i H' B' (fun _ => g'.hh) g'.bb g'.bh
    by_cases hlt : i < xs.length
    · obtain ⟨go, yd⟩ := y1 xs[i] (List.getElem?_eq_getElem hlt)
      refine .inr ⟨go, fun H2 => ∃ B2 acc2, Gr H1 B1 H2 B2 ∧ B2 A = none ∧ H2 A = some (.lst acc2) ∧ Reps K B2 acc2 ((List.range (i + 1)).filterMap f), fun H2 z => ⟨xs.length - (i + 1), by omega, rfl, hlt, z⟩, fun x H2 hy => ?_⟩
      obtain ⟨B2, g2, rx⟩ := yd x H2 hy
      have sw := (((s.grow g1).grow g').grow g2).wipe vs
      refine hg.run sw rx (hg.mono (fun ds2 q2 σ2 s2 w2 => ⟨by
        have ww : wipe (wipe σ vs) vs = wipe σ vs := wipe_sub vs σ fun u hu => hu
        rw [w2, ww], ?_⟩) (st i xs[i] (List.getElem?_eq_getElem hlt)))
      refine ht.run s2 (ht.mono (fun b q3 H3 B3 g3 => ?_) q2)
      cases b with
      | false =>
        rw [if_neg Bool.false_ne_true]
        have g5 := (g'.trans g2).trans g3
        have g6 := g2.trans g3
        have e := q3.2 rfl
        refine ⟨B3, acc, g5, g6.nw A (by rw [hH]; exact fun z => by cases z) hB, g6.hh _ _ hH, ?_⟩
        rw [fm_succ, e, List.append_nil]
        exact rs.mono g6.bb
      | true =>
        rw [if_pos rfl]
        refine he.run (s2.grow g3) (he.mono (fun r ⟨y, ey, ef⟩ v H4 B4 g4 rr => ?_) (q3.1 rfl))
        obtain ⟨B5, g5, s5, r5⟩ := rr.freeze g4 ey
        have g6 := (g2.trans g3).trans g5
        have hH4 := g6.hh _ _ hH
        have hB5 := g6.nw A (by rw [hH]; exact fun z => by cases z) hB
        refine ⟨acc, hH4, ?_, B5, acc ++ [v], ?_, hB5, upd_same, ?_⟩
        · rw [rs.len]
          have := fm_len (f := f) i
          omega
        · have gt := g'.trans g6
          exact ⟨fun a o z => by rw [upd_ne (ne_of_none z hA)]; exact gt.hh _ _ z, gt.bb, fun a o z => by rw [upd_ne (ne_of_none z hB5)]; exact gt.bh _ _ z, gt.nw⟩
        · rw [fm_succ, ef]
          exact (rs.mono g6.bb).append (.cons r5 .nil)
    · have e : i = xs.length := by omega
      subst e
      exact .inl ⟨y2 rfl, q _ _ _ (g1.trans g') ⟨A, acc, rfl, g1.hh.free hA, hB, hH, rs⟩⟩
variable {elt tg iter : Expr} {ifs : List Expr} {scope : Scope} {own : List (Str × Nat)} {pos : Pos} {wi : TI} {g : TG} {tt : TT} {te : TE} {src : DSrc} {dg : DG} {dt : DT} {de : DE}
structure PXGc (X : Cx) (vs : List Nat) (tg : Expr) (g : TG) (dg : DG) : Prop where
  p : PG X tg g
  s : SGc X.K vs g dg
structure PXGsc (X : Cx) (vs : List Nat) (tg : List Expr) (g : TGs) (dg : DGs) : Prop where
  p : PGs X tg g
  s : SGsc X.K vs g dg
theorem pxgc_name {vs : List Nat} {i : Nat} {x : Str} (hN : X.N.Nodup) (hm : i ∈ vs := by decide) (hi : X.N[i]? = some x := by rfl) (hx : Loc X.env.scope x := by first | exact .inl rfl | exact .inr rfl) (hf : X.fn x = true ∨ X.env.scope.names.lookup x = some .local := by first | exact .inl rfl | exact .inr rfl) : PXGc X vs (.Name x pos) (gName i) (gV i) := ⟨pg_name hN hi hx hf, sgc_name hm⟩
theorem pxgsc_nil {vs : List Nat} : PXGsc X vs [] gNil gN0 := ⟨pgs_nil, sgsc_nil⟩
theorem pxgsc_cons {vs : List Nat} {e : Expr} {es : List Expr} {t : TG} {u : TGs} {dt : DG} {du : DGs} (h1 : PXGc X vs e t dt) (h2 : PXGsc X vs es u du)
    (hs : (assignEach (e :: es) X.env).map (·.2) = assign e X.env :: (assignEach es X.env).map (·.2) := by rfl) : PXGsc X vs (e :: es) (gCons t u) (gC0 dt du) := ⟨pgs_cons h1.p h2.p hs, sgsc_cons h1.s h2.s⟩
theorem pxgc_tup {vs : List Nat} {es : List Expr} {k n : Nat} {t : TGs} {dt : DGs} (hc : X.calm = true) (h : PXGsc X vs es t dt)
    (hn : (assignEach es X.env).length = n := by rfl) (hst : (assignEach es X.env).findIdx? (·.1) = none := by rfl) : PXGc X vs (.Tuple es k pos) (gTup X.K n t) (gT0 n dt) := ⟨pg_tup hc h.p hn hst, sgc_tup h.s⟩
structure PXTs (X : Cx) (es : List Expr) (tt : TT) (dt : DT) : Prop where
  p : PTs X es tt
  s : ST X.K tt dt
theorem pxts_nil : PXTs X [] tYes uYes := ⟨pts_nil, st_yes⟩
theorem pxts_one {c : Expr} (h : PXT X c tt dt) : PXTs X [c] tt dt := ⟨pts_one h.p, h.s⟩
theorem px_lc (hc : X.calm = true) (hN : X.N.Nodup) (hi : PXI X true tg iter wi src) (ok : BlkOk X.N X.env.scope scope own)
    (hg : ∀ (s : Shared) (H : Hp) (C : Addr) (cl : List (Str × Addr)) (fp : List Addr), PXGc (X.blk s H scope (compEnvC scope cl C X.env) fp) (own.map (·.2)) tg g dg) (ht : ∀ (s : Shared) (H : Hp) (C : Addr) (cl : List (Str × Addr)) (fp : List Addr), PXTs (X.blk s H scope (compEnvC scope cl C X.env) fp) ifs tt dt) (he : ∀ (s : Shared) (H : Hp) (C : Addr) (cl : List (Str × Addr)) (fp : List Addr), PX (X.blk s H scope (compEnvC scope cl C X.env) fp) elt te de) (hs : ∀ x, foldedSetIterable iter X.env x = pure x := by intro _; rfl) :
    PX X (.ListComp elt [⟨tg, iter, ifs, 0⟩] scope pos) (tLc wi g tt te (own.map (·.2))) (eLc src dg dt de (own.map (·.2))) :=
  ⟨pe_lc hc hN hi.p ok (fun s H C cl fp => (hg s H C cl fp).p) (fun s H C cl fp => (ht s H C cl fp).p) (fun s H C cl fp => (he s H C cl fp).p) hs,
    se_lc hi.s (hg X.s_0 X.H_0 0 [] []).s (ht X.s_0 X.H_0 0 [] []).s (he X.s_0 X.H_0 0 [] []).s⟩
theorem ss_asg {i : Nat} (he : SE K te de) : SS K (tAsg te (gName i)) (dAsg de i) := ⟨fun s hn _ _ _ q => by
  refine he.run s.sl (he.mono (fun r ⟨z, ez, q⟩ v H' B' g rr => ?_) q)
  exact hn _ _ _ _ (s.setR g rr ez) q⟩
theorem ss_asgG (he : SE K te de) (hg : SG K g dg) : SS K (tAsg te g) (dAsgG de dg) := ⟨fun s hn _ _ _ q => by
  refine he.run s.sl (he.mono (fun r ⟨d, ed, q⟩ v H' B' g rr => ?_) q)
  obtain ⟨B2, g2, s2, r2⟩ := rr.freeze g ed
  exact hg.run (s.grow g2) r2 (hg.mono (fun ds' q σ' s' => hn _ _ _ _ s' q) q)⟩
/-- name = [..], the name a local of the def -/
theorem px_setLc {i : Nat} {y : Str} {py spos : Pos} (hc : X.calm = true) (hN : X.N.Nodup) (hi : PXI X true tg iter wi src) (ok : BlkOk X.N X.env.scope scope own)
    (hg : ∀ (s : Shared) (H : Hp) (C : Addr) (cl : List (Str × Addr)) (fp : List Addr), PXGc (X.blk s H scope (compEnvC scope cl C X.env) fp) (own.map (·.2)) tg g dg) (ht : ∀ (s : Shared) (H : Hp) (C : Addr) (cl : List (Str × Addr)) (fp : List Addr), PXTs (X.blk s H scope (compEnvC scope cl C X.env) fp) ifs tt dt) (he : ∀ (s : Shared) (H : Hp) (C : Addr) (cl : List (Str × Addr)) (fp : List Addr), PX (X.blk s H scope (compEnvC scope cl C X.env) fp) elt te de)
    (hk : X.env.scope.kind = .function := by rfl) (hy : X.N[i]? = some y := by rfl) (hyl : X.env.scope.names.lookup y = some .local := by rfl) (hl : (py.line == pos.line) = true := by rfl)
    (ha : (scope.names.any fun (n, k) => n == y && (k == .local || k == .cell)) = false := by rfl) (hs : ∀ x, foldedSetIterable iter X.env x = pure x := by intro _; rfl) :
    PXS1 X (.Assign [.Name y py] (.ListComp elt [⟨tg, iter, ifs, 0⟩] scope pos) spos) (tAsg (tLc wi g tt te (own.map (·.2))) (gName i)) (dAsg (eLc src dg dt de (own.map (·.2))) i) :=
  ⟨ps_setLc hc hN hy hyl (sw_true hk hyl hl ha) hi.p ok (fun s H C cl fp => (hg s H C cl fp).p) (fun s H C cl fp => (ht s H C cl fp).p) (fun s H C cl fp => (he s H C cl fp).p) hs,
    ss_asg (se_lc hi.s (hg X.s_0 X.H_0 0 [] []).s (ht X.s_0 X.H_0 0 [] []).s (he X.s_0 X.H_0 0 [] []).s)⟩
/-- .., frozen -/
theorem px_setLcG {i : Nat} {y : Str} {py spos : Pos} (hc : X.calm = true) (hN : X.N.Nodup) (hi : PXI X true tg iter wi src) (ok : BlkOk X.N X.env.scope scope own)
    (hg : ∀ (s : Shared) (H : Hp) (C : Addr) (cl : List (Str × Addr)) (fp : List Addr), PXGc (X.blk s H scope (compEnvC scope cl C X.env) fp) (own.map (·.2)) tg g dg) (ht : ∀ (s : Shared) (H : Hp) (C : Addr) (cl : List (Str × Addr)) (fp : List Addr), PXTs (X.blk s H scope (compEnvC scope cl C X.env) fp) ifs tt dt) (he : ∀ (s : Shared) (H : Hp) (C : Addr) (cl : List (Str × Addr)) (fp : List Addr), PX (X.blk s H scope (compEnvC scope cl C X.env) fp) elt te de)
    (hk : X.env.scope.kind = .function := by rfl) (hy : X.N[i]? = some y := by rfl) (hyl : X.env.scope.names.lookup y = some .local := by rfl) (hl : (py.line == pos.line) = true := by rfl)
    (ha : (scope.names.any fun (n, k) => n == y && (k == .local || k == .cell)) = false := by rfl) (hs : ∀ x, foldedSetIterable iter X.env x = pure x := by intro _; rfl) :
    PXS1 X (.Assign [.Name y py] (.ListComp elt [⟨tg, iter, ifs, 0⟩] scope pos) spos) (tAsg (tLc wi g tt te (own.map (·.2))) (gName i)) (dAsgG (eLc src dg dt de (own.map (·.2))) (gV i)) :=
  ⟨ps_setLc hc hN hy hyl (sw_true hk hyl hl ha) hi.p ok (fun s H C cl fp => (hg s H C cl fp).p) (fun s H C cl fp => (ht s H C cl fp).p) (fun s H C cl fp => (he s H C cl fp).p) hs,
    ss_asgG (se_lc hi.s (hg X.s_0 X.H_0 0 [] []).s (ht X.s_0 X.H_0 0 [] []).s (he X.s_0 X.H_0 0 [] []).s) sg_name⟩
end
end Dl

namespace Dl
open PySem PySem.Spec PyProof.Rows L2
/-! ### the rule of a def -/
def startD (n : Nat) (ds : List D) : List S := ds.map S.val ++ List.replicate (n - ds.length) S.no
theorem startD_get {n : Nat} {ds : List D} {i : Nat} {s : S} (h : (startD n ds)[i]? = some s) : (∃ d, s = .val d ∧ ds[i]? = some d) ∨ s = .no := by
  unfold startD at h
  by_cases hi : i < ds.length
  · rw [List.getElem?_append_left (by rw [List.length_map]; exact hi), List.getElem?_map, List.getElem?_eq_getElem hi] at h
    cases h
    exact .inl ⟨_, rfl, List.getElem?_eq_getElem hi⟩
  · rw [List.getElem?_append_right (by rw [List.length_map]; omega)] at h
    exact .inr (List.eq_of_mem_replicate (List.mem_of_getElem? h))
section
variable {K : PySem.W.Frag} {H B : Hp} {vs : List V} {ds : List D} {N : List Str}
theorem startV_get {i : Nat} {d : D} (r : Reps K B vs ds) (h : ds[i]? = some d) : ∃ v, (L2.start N vs)[i]? = some (some v) ∧ Rep K B v d := by
  obtain ⟨v, hv, rv⟩ := r.get h
  have hi : i < vs.length := (List.getElem?_eq_some_iff.mp hv).1
  refine ⟨v, ?_, rv⟩
  unfold L2.start
  rw [List.getElem?_append_left (by rw [List.length_map]; exact hi), List.getElem?_map, hv]; rfl
theorem start_len (r : Reps K B vs ds) : (startD N.length ds).length = (L2.start N vs).length := by
  unfold startD L2.start
  rw [List.length_append, List.length_append, List.length_map, List.length_map, List.length_replicate, List.length_replicate, r.len]
theorem sl_start (h : Same B H) (r : Reps K B vs ds) : Sl K H B (L2.start N vs) (startD N.length ds) where
  bh := h
  len := start_len r
  val := fun i d e => by
    rcases startD_get e with ⟨d', e', q⟩ | e'
    · cases e'; exact startV_get r q
    · cases e'
  own := fun i xs e => by
    rcases startD_get e with ⟨d', e', q⟩ | e' <;> cases e'
  obj := fun i p C fs e => by
    rcases startD_get e with ⟨d', e', q⟩ | e' <;> cases e'
  lat := fun i p xs e => by
    rcases startD_get e with ⟨d', e', q⟩ | e' <;> cases e'
  sep := fun i j p _ hi _ _ => by
    cases w : (startD N.length ds)[i]? with
    | none => rw [w] at hi; cases hi
    | some s =>
      rw [w] at hi
      rcases startD_get w with ⟨d', e', q⟩ | e' <;> (subst e'; cases hi)
theorem sn_start (h : Same B H) (r : Reps K B vs ds) : Sn K H B H B (L2.start N vs) (startD N.length ds) where
  sl := sl_start h r
  gr := Gr.refl h
  fr := fun i p hi _ => by
    cases w : (startD N.length ds)[i]? with
    | none => rw [w] at hi; cases hi
    | some s =>
      rw [w] at hi
      rcases startD_get w with ⟨d', e', q⟩ | e' <;> (subst e'; cases hi)
/-- .., before them an instance without fields -/
theorem sn_startO {p C dx : Addr} {M : Str} {N : List Str} (h : Same B H) (r : Reps K B vs ds) (hB : B p = none) (hH : H p = some (.ins C dx [])) : Sn K (del p H) B H B (L2.start (M :: N) (.ref p :: vs)) (.obj p C [] :: startD N.length ds) where
  gr := ⟨fun a o z => by
    by_cases w : a = p
    · subst w; rw [del_same] at z; cases z
    · rw [del_ne w] at z; exact z, Same.refl _, h, fun _ _ q => q⟩
  fr := fun i q hi e => by
    cases i with
    | zero => cases e; exact del_same
    | succ i =>
      have hi' : ((startD N.length ds)[i]?.map S.isOwn) = some true := hi
      cases w : (startD N.length ds)[i]? with
      | none => rw [w] at hi'; cases hi'
      | some s =>
        rw [w] at hi'
        rcases startD_get w with ⟨d', e', q⟩ | e' <;> (subst e'; cases hi')
  sl := by
    have b := sl_start (N := N) h r
    have st : L2.start (M :: N) (.ref p :: vs) = some (.ref p) :: L2.start N vs := by
      unfold L2.start
      rw [List.map_cons, List.cons_append, List.length_cons, List.length_cons, Nat.add_sub_add_right]
    rw [st]
    exact {
      bh := h
      len := congrArg (· + 1) b.len
      val := fun i d e => by
        cases i with
        | zero => cases e
        | succ i => exact b.val i d e
      own := fun i d e => by
        cases i with
        | zero => cases e
        | succ i => exact b.own i d e
      obj := fun i q C' fs e => by
        cases i with
        | zero => cases e; exact ⟨dx, [], rfl, hB, hH, .nil⟩
        | succ i => exact b.obj i q C' fs e
      lat := fun i q xs e => by
        cases i with
        | zero => cases e
        | succ i => exact b.lat i q xs e
      sep := fun i j q hij hi hj e => by
        cases i with
        | zero =>
          cases j with
          | zero => exact (hij rfl).elim
          | succ j =>
            have hj' : ((startD N.length ds)[j]?.map S.isOwn) = some true := hj
            cases w : (startD N.length ds)[j]? with
            | none => rw [w] at hj'; cases hj'
            | some s =>
              rw [w] at hj'
              rcases startD_get w with ⟨d', e', q⟩ | e' <;> (subst e'; cases hj')
        | succ i =>
          have hj' : ((startD N.length ds)[i]?.map S.isOwn) = some true := hi
          cases w : (startD N.length ds)[i]? with
          | none => rw [w] at hj'; cases hj'
          | some s =>
            rw [w] at hj'
            rcases startD_get w with ⟨d', e', q⟩ | e' <;> (subst e'; cases hj') }
end
section
variable {P : Program} {w : World} {K : PySem.W.Frag} {mg : Str → Option Value} {base : Heap} {x qual : Str} {params : Arguments} {body : List Stmt} {scope : Scope} {dvs : List V} {kws : List (Str × V)} {f : Addr} {fd : FuncData} {N ps : List Str} {k : Nat}
theorem fnD_ok {dsp : DSp} {d : DS} (F : FunD K x qual params body scope dvs kws f fd) (S : FnScope N ps scope) (len : ∀ ds P, dsp ds P → ds.length = ps.length)
    (hbody : ∀ (cdv : Value) (A : Around) (outer : List Env) (s : Shared) (H : Hp) (E : XK), Room k (A.deeper (envOfC qual scope s.heap.objs.size f cdv)) → ∃ t, PXS (cxOf CX0 P w K mg base N qual scope f cdv A outer s H E).nox body t d)
    (hp : ∀ ds P, dsp ds P → d { nx := fun _ => P (.val .non), rt := P } (startD N.length ds)) : FnOk P w K mg base CX0 (k + 1) f fd ps (liftSp K dsp) := by
  refine F.ok S (fun vs H Q E ⟨B, ds, sm, rs, q⟩ => by rw [rs.len]; exact len _ _ q) fun cdv A outer s H vs Q E hr ⟨B, ds, sm, rs, q⟩ => ?_
  obtain ⟨t, h⟩ := hbody cdv A outer s H E hr
  refine ⟨t, PSs.nox h.p, h.s.run (Dn := { nx := fun _ => _, rt := _ }) (sn_start sm rs) (fun σ' H' B' ds' s' q' => ?_) (fun _ _ _ _ _ z => z.elim) (fun _ _ _ _ _ z => z.elim) (fun v H' B' r g rr q' => q' v H' B' g rr) (hp _ _ q)⟩
  exact q' .non H' B' s'.gr Rep.non
theorem initD_ok {C : Addr} {dsp : DIn} {d : DS} {M : Str} (F : FunD K x qual params body scope dvs kws f fd) (S : FnScope (M :: N) ps scope) (len : ∀ ds P, dsp ds P → ds.length + 1 = ps.length)
    (hbody : ∀ (cdv : Value) (A : Around) (outer : List Env) (s : Shared) (H : Hp) (E : XK), Room k (A.deeper (envOfC qual scope s.heap.objs.size f cdv)) → ∃ t, PXS (cxOf CX0 P w K mg base (M :: N) qual scope f cdv A outer s H E).nox body t d)
    (hp : ∀ p ds P, dsp ds P → d { nx := fun ds' => ∃ fs, ds'[0]? = some (.obj p C fs) ∧ P fs, rt := fun _ => False } (.obj p C [] :: startD N.length ds)) : FnOk P w K mg base CX0 (k + 1) f fd ps (liftIn K C dsp) := by
  refine F.ok S (fun vs H Q E ⟨p, dx, ws, B, ds, e, _, _, _, rs, q⟩ => by subst e; rw [List.length_cons, rs.len]; exact len _ _ q) fun cdv A outer s H vs Q E hr ⟨p, dx, ws, B, ds, e, hH, hB, sm, rs, q⟩ => ?_
  subst e
  obtain ⟨t, h⟩ := hbody cdv A outer s H E hr
  refine ⟨t, PSs.nox h.p, h.s.run (Dn := { nx := fun ds' => ∃ fs, ds'[0]? = some (.obj p C fs) ∧ _, rt := fun _ => False }) (sn_startO sm rs hB hH) (fun σ' H' B' ds' s' ⟨fs, e0, q'⟩ => ?_) (fun _ _ _ _ _ z => z.elim) (fun _ _ _ _ _ z => z.elim) (fun v H' B' r g rr q' => q'.elim) (hp p _ _ q)⟩
  obtain ⟨dx', vs', _, hB', hH', rf⟩ := s'.sl.obj _ _ _ _ e0
  exact q' H' B' dx' vs' s'.gr hB' hH' rf
end
/-! promises as relations -/
def spR (S : List D → R → Prop) : DSp := fun ds P => ∃ r, S ds r ∧ P r
theorem spR_m (S : List D → R → Prop) : MSp (spR S) := fun _ _ _ h ⟨r, s, q⟩ => ⟨r, s, h r q⟩
def inR (S : List D → List (Str × D) → Prop) : DIn := fun ds P => ∃ r, S ds r ∧ P r
theorem inR_m (S : List D → List (Str × D) → Prop) : MIn (inR S) := fun _ _ _ h ⟨r, s, q⟩ => ⟨r, s, h r q⟩
/-! a known def -/
structure Kn (P : Program) (w : World) (K : PySem.W.Frag) (mg : Str → Option Value) (base : Heap) (x : Str) (ps : List Str) (k : Nat) (dsp : DSp) (dvs : List V) : Prop where
  ex : ∃ (f : Addr) (fd : FuncData) (dsv : List Value), FnOk P w K mg base CX0 k f fd ps (liftSp K dsp) ∧ mg x = some (.ref f) ∧ PySem.W.keepIn K (.ref f) = true ∧ Binds K fd ps dsv ∧ Vals dvs dsv
structure Kc (P : Program) (w : World) (K : PySem.W.Frag) (mg : Str → Option Value) (base : Heap) (x : Str) (C : Addr) (ps : List Str) (k : Nat) (din : DIn) (dvs : List V) : Prop where
  ex : ∃ (f : Addr) (fd : FuncData) (dsv : List Value), Mk K C f ∧ FnOk P w K mg base CX0 k f fd ps (liftIn K C din) ∧ mg x = some (.ref C) ∧ Binds K fd ps dsv ∧ Vals dvs dsv
section
variable {X : Cx} {x : Str} {p pos : Pos} {ps : List Str} {j k : Nat} {dsp : DSp} {dvs : List V} {dD : List D} {e : Expr} {es : List Expr} {t : TA} {dA : DA} {C : Addr} {din : DIn}
theorem px_k (h : Kn X.prog X.w X.K X.mg X.base x ps k dsp dvs) (M : MSp dsp) (hr : Room j X.A) (hj : k ≤ j) (hg : Gl X x) (hD : ∀ B, Reps X.K B dvs dD) (ha : PXA X (e :: es) t dA)
    (hdb : (x == ("__debug__" : Str)) = false := by decide) (he : starEach (e :: es) X.env = (false, eval e X.env) :: starEach es X.env := by rfl) (hpl : (backTo pos (starEach es X.env)).any (·.1) = false := by rfl) :
    PX X (.Call (.Name x p) (e :: es) [] pos) (tCall (liftSp X.K dsp) dvs E0 t) (eCall dsp dD dA) := by
  obtain ⟨f, fd, dsv, F, hm, hk, hb, hd⟩ := h.ex
  exact px_call F M (hr.mono hj) hg hm hk hb hd hD ha hdb he hpl
theorem px_kB (h : Kn X.prog X.w X.K X.mg X.base x ps k dsp dvs) (M : MSp dsp) (hr : Room j X.A) (hj : k ≤ j) (hg : Gl X x) (hD : ∀ B, Reps X.K B dvs dD) (ha : PXAB X (e :: es) t dA)
    (hdb : (x == ("__debug__" : Str)) = false := by decide) (he : starEach (e :: es) X.env = (false, eval e X.env) :: starEach es X.env := by rfl) (hpl : (backTo pos (starEach es X.env)).any (·.1) = false := by rfl) :
    PX X (.Call (.Name x p) (e :: es) [] pos) (tCall (liftSp X.K dsp) dvs E0 t) (eCallB dsp dD dA) := by
  obtain ⟨f, fd, dsv, F, hm, hk, hb, hd⟩ := h.ex
  exact px_callB F M (hr.mono hj) hg hm hk hb hd hD ha hdb he hpl
theorem px_c (h : Kc X.prog X.w X.K X.mg X.base x C ps k din dvs) (M : MIn din) (hS : ∀ xs P, din xs P → din xs (fun fs => P fs ∧ InsOk X.K C fs)) (hr : Room j X.A) (hj : k + 1 ≤ j) (hg : Gl X x) (hD : ∀ B, Reps X.K B dvs dD) (ha : PXA X (e :: es) t dA)
    (hdb : (x == ("__debug__" : Str)) = false := by decide) (he : starEach (e :: es) X.env = (false, eval e X.env) :: starEach es X.env := by rfl) (hpl : (backTo pos (starEach es X.env)).any (·.1) = false := by rfl) :
    PX X (.Call (.Name x p) (e :: es) [] pos) (tMake C (liftIn X.K C din) dvs E0 t) (eMake C din dD dA) := by
  obtain ⟨f, fd, dsv, hM, F, hm, hb, hd⟩ := h.ex
  exact px_make hM F M hS (hr.mono hj) hg hm hb hd hD ha hdb he hpl
theorem px_cB (h : Kc X.prog X.w X.K X.mg X.base x C ps k din dvs) (M : MIn din) (hS : ∀ xs P, din xs P → din xs (fun fs => P fs ∧ InsOk X.K C fs)) (hr : Room j X.A) (hj : k + 1 ≤ j) (hg : Gl X x) (hD : ∀ B, Reps X.K B dvs dD) (ha : PXAB X (e :: es) t dA)
    (hdb : (x == ("__debug__" : Str)) = false := by decide) (he : starEach (e :: es) X.env = (false, eval e X.env) :: starEach es X.env := by rfl) (hpl : (backTo pos (starEach es X.env)).any (·.1) = false := by rfl) :
    PX X (.Call (.Name x p) (e :: es) [] pos) (tMake C (liftIn X.K C din) dvs E0 t) (eMakeB C din dD dA) := by
  obtain ⟨f, fd, dsv, hM, F, hm, hb, hd⟩ := h.ex
  exact px_makeB hM F M hS (hr.mono hj) hg hm hb hd hD ha hdb he hpl
/-! names of the module -/
theorem px_gint {i : Int} {t : Option Nat} {u : Value} (hg : Gl X x) (hm : X.mg x = some u) (hu : RelV (.int i) u) (hdb : (x == ("__debug__" : Str)) = false := by decide) : PX X (.Name x pos) (tC (.int i)) (eC (.int i)) := ⟨pe_glob hg hm hu hdb, se_c fun _ => .int⟩
theorem px_gtup {a : Addr} {vs : List V} {ds : List D} (hg : Gl X x) (hm : X.mg x = some (.ref a)) (hq : ∀ H, SqT X.K H a vs) (hr : ∀ B, Reps X.K B vs ds) (hdb : (x == ("__debug__" : Str)) = false := by decide) : PX X (.Name x pos) (tC (.ref a)) (eC (.tup ds)) := ⟨pe_glob hg hm rfl hdb, se_c fun B => .tup (hq B) (hr B)⟩
/-! gcd -/
def eGcd (da : DA) : DE := fun ds P => da ds fun xs => match xs with
  | [.int i, .int j] => P (.val (.int ((Nat.gcd i.natAbs j.natAbs : Nat) : Int)))
  | _ => False
theorem px_gcd (hg : Gl X x) (hm : X.mg x = some (.builtin "math.gcd")) (ha : PXA X (e :: es) t dA) (hdb : (x == ("__debug__" : Str)) = false := by decide)
    (he : starEach (e :: es) X.env = (false, eval e X.env) :: starEach es X.env := by rfl) (hpl : (backTo pos (starEach es X.env)).any (·.1) = false := by rfl) : PX X (.Call (.Name x p) (e :: es) [] pos) (tCB rGcd t) (eGcd dA) := ⟨pe_callBfun cr_gcd hg hm ha.p hdb he hpl, {
  mono := fun h q => ha.s.mono (fun xs q => by split at q; exact h _ q; exact q.elim) q
  run := fun {σ H B ds Q} s q => by
    refine ha.s.run s (ha.s.mono (fun xs q vs H1 B1 g1 rs => ?_) q)
    split at q
    · rename_i i j
      cases rs with
      | cons r1 rs =>
        cases rs with
        | cons r2 rs =>
          cases rs
          rw [rep_int r1, rep_int r2]
          exact ⟨i, j, rfl, q _ _ _ g1 Rep.int⟩
    · exact q.elim }⟩
end
/-! ### is of a bool; == of data -/
def rIsTF : R2 := fun x y H Q => ∃ b, y = .bl b ∧ Q (.bl (decide (x = .bl b))) H
section
variable {X : Cx} {K : PySem.W.Frag}
theorem op_isTF : OpR X (compareOp .Is) rIsTF := by
  intro pins s σ H x y v u Q I rx ry h
  obtain ⟨b, rfl, q⟩ := h
  cases (show u = Value.bool b from ry)
  have ne : ∀ v', v = v' → v' ≠ Value.bool b → plainIs v' (Value.bool b) = true → decide (x = .bl b) = false → wpAny (model X.prog X.w) X.A (compareOp .Is v (.bool b)) (EP X pins σ Q) X.xe s := fun v' hv hn hp hd => by
    subst hv
    exact wpAny_is_other hp hn ⟨.bl false, H, I, rfl, by rw [hd] at q; exact q⟩
  cases x with
  | non => exact ne _ rx (fun z => nomatch z) rfl rfl
  | bl c =>
    cases (show v = Value.bool c from rx)
    by_cases e : c = b
    · subst e
      exact wpAny_is_self rfl ⟨.bl true, H, I, rfl, by simpa using q⟩
    · exact wpAny_is_other rfl (fun z => e (Value.bool.inj z)) ⟨.bl false, H, I, rfl, by simpa [e] using q⟩
  | int i => obtain ⟨t, e⟩ := rx; exact ne _ e (fun z => nomatch z) rfl rfl
  | str i => obtain ⟨t, e⟩ := rx; exact ne _ e (fun z => nomatch z) rfl rfl
  | byt i => obtain ⟨t, e⟩ := rx; exact ne _ e (fun z => nomatch z) rfl rfl
  | flt i => obtain ⟨t, e⟩ := rx; exact ne _ e (fun z => nomatch z) rfl rfl
  | ref a => exact ne _ rx (fun z => nomatch z) rfl rfl
  | ty n => exact ne _ rx (fun z => nomatch z) rfl rfl
def isBl (b : Bool) : D → Bool
  | .bl c => decide (c = b)
  | _ => false
def dIsTF : D2 := fun x y P => match x, y with
  | .val d, .val (.bl b) => P (.val (.bl (isBl b d)))
  | _, _ => False
theorem isBl_ok {B : Hp} {d : D} {v : V} {b : Bool} (h : Rep K B v d) : decide (v = .bl b) = isBl b d := by
  cases h with
  | bl => rename_i c; cases b <;> cases c <;> rfl
  | _ => rfl
theorem sr_isTF : SR2 K rIsTF dIsTF where
  mono := fun {x y P P'} h q => by
    unfold dIsTF at q ⊢
    split at q
    · exact h _ q
    · exact q.elim
  run := fun {x y v u H0 H B Q} s s0 rx ry q => by
    unfold dIsTF at q
    split at q
    · refine ⟨_, rep_bl ry, ?_⟩
      rw [isBl_ok rx]
      exact q _ _ _ (Gr.refl s) Rep.bl
    · exact q.elim
theorem cx_isTF : CmpX X .Is rIsTF dIsTF := ⟨op_isTF, sr_isTF, fun b => nomark b⟩
mutual
def toP : D → Option PyData
  | .non => some .none
  | .bl b => some (.bool b)
  | .int i => some (.int i)
  | .str x => some (.str x)
  | .tup xs => (toPs xs).map .tuple
  | .lst xs => (toPs xs).map .list
  | .slst xs => (toPs xs).map .list
  | .ins _ _ => none
def toPs : List D → Option (List PyData)
  | [] => some []
  | x :: xs => match toP x, toPs xs with
    | some y, some ys => some (y :: ys)
    | _, _ => none
end
section
variable {B H : Hp}
mutual
theorem rep_dp (s : Same B H) {v : V} {d : D} {p : PyData} : Rep K B v d → toP d = some p → Dp K H v p
  | .non, h => by cases h; exact .non
  | .bl, h => by cases h; exact .bl _
  | .int, h => by cases h; exact .int _
  | .str, h => by cases h; exact .str _
  | .tup (ds := ds) a r, h => by
    unfold toP at h
    cases w : toPs ds with
    | none => rw [w] at h; cases h
    | some ps => rw [w] at h; cases h; exact .tup (same_t s a) (reps_dp s r w)
  | .lst (ds := ds) a r, h => by
    unfold toP at h
    cases w : toPs ds with
    | none => rw [w] at h; cases h
    | some ps => rw [w] at h; cases h; exact .lst (SqL.of (s _ _ a)) (reps_dp s r w)
  | .slst (ds := ds) a r, h => by
    unfold toP at h
    cases w : toPs ds with
    | none => rw [w] at h; cases h
    | some ps => rw [w] at h; cases h; exact .lst (same_l s a) (reps_dp s r w)
  | .ins _ _ _, h => by unfold toP at h; cases h
theorem reps_dp (s : Same B H) {vs : List V} {ds : List D} {ps : List PyData} : Reps K B vs ds → toPs ds = some ps → DpAll K H vs ps
  | .nil, h => by unfold toPs at h; cases h; exact .nil
  | .cons (d := d) (ds := ds) a r, h => by
    unfold toPs at h
    cases w : toP d with
    | none => rw [w] at h; cases h
    | some p =>
      cases w2 : toPs ds with
      | none => rw [w, w2] at h; cases h
      | some ps => rw [w, w2] at h; cases h; exact .cons (rep_dp s a w) (reps_dp s r w2)
end
end
def dEqP (neg : Bool) : D2 := fun x y P => ∃ d e p q, x.d = some d ∧ y.d = some e ∧ toP d = some p ∧ toP e = some q ∧ SeqAt.shaped p = true ∧ SeqAt.shaped q = true ∧ P (.val (.bl (if neg then !PyData.eqv p q else PyData.eqv p q)))
theorem eqP_both {H0 H B : Hp} {x y : R} {v u : V} {d e : D} (s : Same B H) (s0 : Same H0 H) (rx : RepR K H0 B H v x) (ry : RepR K H0 B H u y) (ex : x.d = some d) (ey : y.d = some e) : ∃ B1 B2, Same B1 H ∧ Same B2 H ∧ Rep K B1 v d ∧ Rep K B2 u e := by
  have one : ∀ {x : R} {v : V} {d : D}, RepR K H0 B H v x → x.d = some d → ∃ B1, Same B1 H ∧ Rep K B1 v d := fun {x v d} r h => by
    cases x with
    | val z => cases h; exact ⟨B, s, r⟩
    | own xs =>
      cases h
      obtain ⟨p, vs, rfl, a, b, c, q⟩ := r
      have sb := same_upd (o := HO.lst vs) b
      refine ⟨upd B p (.lst vs), fun a' o z => ?_, .lst upd_same (Reps.mono sb q)⟩
      by_cases w : a' = p
      · subst w; rw [upd_same] at z; cases z; exact c
      · rw [upd_ne w] at z; exact s _ _ z
    | bor xs => cases h
  obtain ⟨B1, s1, r1⟩ := one rx ex
  obtain ⟨B2, s2, r2⟩ := one ry ey
  exact ⟨B1, B2, s1, s2, r1, r2⟩
theorem sr_eqP : SR2 K (rEqD K) (dEqP false) where
  mono := fun h ⟨d, e, p, q, a, b, c, f, g, i, z⟩ => ⟨d, e, p, q, a, b, c, f, g, i, h _ z⟩
  run := fun {x y v u H0 H B Q} s s0 rx ry ⟨d, e, p, q, a, b, c, f, g, i, z⟩ => by
    obtain ⟨B1, B2, s1, s2, r1, r2⟩ := eqP_both s s0 rx ry a b
    exact ⟨p, q, rep_dp s1 r1 c, rep_dp s2 r2 f, g, i, z _ _ _ (Gr.refl s) Rep.bl⟩
theorem cx_eqP (hu : X.A.units + 64 < cLine) : CmpX X .Eq (rEqD X.K) (dEqP false) := ⟨op_eqD hu, sr_eqP, fun b => nomark b⟩
end
/-! ### isinstance -/
def tyS : D → Option String
  | .non => some "NoneType"
  | .bl _ => some "bool"
  | .int _ => some "int"
  | .str _ => some "str"
  | .tup _ => some "tuple"
  | .lst _ => some "list"
  | .slst _ => some "list"
  | .ins _ _ => none
theorem rep_tyx {K : PySem.W.Frag} {B H : Hp} {v : V} {d : D} {n : String} (s : Same B H) (r : Rep K B v d) (h : tyS d = some n) : TyX K H v (.type n) := by
  cases r with
  | non => cases h; exact .base .non
  | bl => cases h; exact .base (.bl _)
  | int => cases h; exact .base (.int _)
  | str => cases h; exact .base (.str _)
  | tup a r =>
    cases h
    rcases same_t s a with (q | ⟨o, q⟩) | ⟨o, its, n, q, c, _⟩
    · exact .base (.tup q)
    · exact .fTuple q
    · exact .kTuple q c
  | lst a r => cases h; exact .base (.lst (s _ _ a))
  | slst a r =>
    cases h
    rcases same_l s a with (q | ⟨o, q⟩) | ⟨o, its, n, q, c, _⟩
    · exact .base (.lst q)
    · exact .base (.frz q)
    · exact .kList q c
  | ins _ _ _ => cases h
section
variable {X : Cx} {x : Str} {p p2 pos : Pos} {e : Expr} {te : TE} {de : DE}
def eIsi (T : String) (de : DE) : DE := fun ds P => de ds fun r => ∃ d n b, r.d = some d ∧ tyS d = some n ∧ kitB n T = some b ∧ P (.val (.bl b))
theorem RepR.dd {K : PySem.W.Frag} {H0 H B : Hp} {v : V} {x : R} {d : D} (s : Same B H) (r : RepR K H0 B H v x) (h : x.d = some d) : ∃ B1, Same B1 H ∧ Rep K B1 v d := by
  cases x with
  | val z => cases h; exact ⟨B, s, r⟩
  | own xs =>
    cases h
    obtain ⟨p, vs, rfl, a, b, c, q⟩ := r
    have sb := same_upd (o := HO.lst vs) b
    refine ⟨upd B p (.lst vs), fun a' o z => ?_, .lst upd_same (Reps.mono sb q)⟩
    by_cases w : a' = p
    · subst w; rw [upd_same] at z; cases z; exact c
    · rw [upd_ne w] at z; exact s _ _ z
  | bor xs => cases h
theorem px_isi {T : String} {tn : Str} (hg : Gl X "isinstance") (hm : X.mg "isinstance" = none) (hgt : Gl X tn) (hmt : X.mg tn = none) (hv : bootBuiltins tn = some (.type T)) (he : PX X e te de) (hn : tn ≠ "__name__" := by decide) (hd : (tn == ("__debug__" : Str)) = false := by decide)
    (hs : starEach [e, .Name tn p2] X.env = (false, eval e X.env) :: starEach [.Name tn p2] X.env := by rfl) (hs2 : starEach [.Name tn p2] X.env = (false, eval (.Name tn p2) X.env) :: starEach [] X.env := by rfl) (hpl : (backTo pos (starEach [.Name tn p2] X.env)).any (·.1) = false := by rfl) :
    PX X (.Call (.Name "isinstance" p) [e, .Name tn p2] [] pos) (tCB (rIsi X.K) (tCons te (tCons (tC (.ty T)) tNil))) (eIsi T de) :=
  ⟨pe_callB call_isi hg hm boot_isinstance (pa_cons he.p (pa_cons (pe_bltn hgt hmt hv rfl hn hd) pa_nil hs2) hs) (by decide) (by decide) hs hpl, {
    mono := fun h q => he.s.mono (fun r ⟨d, n, b, a1, a2, a3, q⟩ => ⟨d, n, b, a1, a2, a3, h _ q⟩) q
    run := fun {σ H B ds Q} s q => by
      refine he.s.run s (he.s.mono (fun r ⟨d, n, b, a1, a2, a3, q⟩ v H1 B1 g1 rr => ?_) q)
      obtain ⟨B2, s2, r2⟩ := rr.dd g1.bh a1
      exact ⟨v, .ty T, _, _, b, rfl, .ty T, rep_tyx s2 r2 a2, kit_ty a3, q _ _ _ g1 Rep.bl⟩ }⟩
/-- the facts of an own class that isinstance asks for -/
structure IsiC (K : PySem.W.Frag) (C : Addr) : Prop where
  ha : PySem.W.findIn K (.ref C) "__class__" = some (some (.builtin "object.__class__"))
  hn : PySem.W.specialIn K (.builtin "object.__class__") "__get__" = some (some (.builtin "getset_descriptor.__get__"))
  htk : PySem.W.takesIn K (.builtin "object.__class__") = some true
  hm : PySem.W.mroIn K C (.type "object") = some true
structure IsiF (K : PySem.W.Frag) (cs : List Addr) : Prop where
  one : ∀ C ∈ cs, IsiC K C
  two : ∀ C ∈ cs, ∀ D ∈ cs, PySem.W.kitOne K (.ref C) (.ref D) = some (decide (C = D))
def eIsiO (cs : List Addr) (C : Addr) (de : DE) : DE := fun ds P => de ds fun r => match r with
  | .val (.ins C' _) => C' ∈ cs ∧ P (.val (.bl (decide (C' = C))))
  | _ => False
theorem px_isiO {cs : List Addr} {C : Addr} {cn : Str} (hF : IsiF X.K cs) (hC : C ∈ cs) (hg : Gl X "isinstance") (hm : X.mg "isinstance" = none) (hgt : Gl X cn) (hmt : X.mg cn = some (.ref C)) (he : PX X e te de) (hd : (cn == ("__debug__" : Str)) = false := by decide)
    (hs : starEach [e, .Name cn p2] X.env = (false, eval e X.env) :: starEach [.Name cn p2] X.env := by rfl) (hs2 : starEach [.Name cn p2] X.env = (false, eval (.Name cn p2) X.env) :: starEach [] X.env := by rfl) (hpl : (backTo pos (starEach [.Name cn p2] X.env)).any (·.1) = false := by rfl) :
    PX X (.Call (.Name "isinstance" p) [e, .Name cn p2] [] pos) (tCB (rIsi X.K) (tCons te (tCons (tC (.ref C)) tNil))) (eIsiO cs C de) :=
  ⟨pe_callB call_isi hg hm boot_isinstance (pa_cons he.p (pa_cons (pe_glob hgt hmt rfl hd) pa_nil hs2) hs) (by decide) (by decide) hs hpl, {
    mono := fun h q => he.s.mono (fun r q => by split at q; exact ⟨q.1, h _ q.2⟩; exact q.elim) q
    run := fun {σ H B ds Q} s q => by
      refine he.s.run s (he.s.mono (fun r q v H1 B1 g1 rr => ?_) q)
      split at q
      · rename_i C' fs
        cases (show Rep X.K B1 v (.ins C' fs) from rr) with
        | ins o h r =>
          have f := hF.one C' q.1
          exact ⟨_, .ref C, _, _, _, rfl, .own C, .base (.ins (g1.bh _ _ h) o.1 f.ha f.hn f.htk f.hm), hF.two C' q.1 C hC, q.2 _ _ _ g1 Rep.bl⟩
      · exact q.elim }⟩
end
end Dl

namespace Dl
open PySem PySem.Spec PyProof.Rows L2 HT
section
variable {X : Cx} {K : PySem.W.Frag} {pos : Pos} {e : Expr} {te : TE} {de : DE}
/-! self.f = e in __init__ -/
def dFld (C : Addr) (f : Str) (i : Nat) (de : DE) : DS := fun Dn ds => de ds fun r => ∃ d p fs, r.d = some d ∧ ds[i]? = some (.obj p C fs) ∧ fs.length < 1000 ∧ Dn.nx (ds.set i (.obj p C (putD f d fs)))
theorem ss_fld {C : Addr} {f : Str} {i : Nat} (hC : Cls K C) (hN : NoAttr K C f) (he : SE K te de) : SS K (sFld K (tVar i) te f) (dFld C f i de) := ⟨fun {H0 B0 σ H B ds Dn E} s hn _ _ _ q => by
  refine he.run s.sl (he.mono (fun r ⟨d, p, fs, ed, eo, hl, q⟩ v H1 B1 g rr => ?_) q)
  obtain ⟨B2, g2, s2, r2⟩ := rr.freeze g ed
  have s3 := s.grow g2
  obtain ⟨dx, vs, ev, hB, hH, rf⟩ := s3.sl.obj _ _ _ _ eo
  refine ⟨.ref p, ev, p, C, dx, vs, rfl, hH, hC, hN, by rw [rf.len]; exact hl, ?_⟩
  exact hn _ _ _ _ (s3.updObj eo ev (rf.put r2)) q⟩
theorem px_fldSet {C : Addr} {f : Str} {i : Nat} {o : Expr} {pos' : Pos} (hC : Cls X.K C) (hN : NoAttr X.K C f) (ho : PX X o (tVar i) (eVar i)) (he : PX X e te de) (hs : swapsWith e (some (.Attribute o f pos')) pos.line X.env = pure false := by rfl) :
    PXS1 X (.Assign [.Attribute o f pos'] e pos) (sFld X.K (tVar i) te f) (dFld C f i de) := ⟨ps_fld ho.p he.p hs, ss_fld hC hN he.s⟩
/-! x[j] += e, x[j] -= e of an owned local list of ints -/
def rGetL (K : PySem.W.Frag) : V → V → Hp → VK → Prop := fun o i H Q => ∃ p xs k z, o = .ref p ∧ i = .int k ∧ SqL K H p xs ∧ (ixN xs.length k).bind (fun j => xs[j]?) = some z ∧ Q z H
theorem get_list : PGet X (rGetL X.K) := by
  intro pins s σ H o i ov iv Q I ro ri h
  obtain ⟨p, xs, k, z, rfl, rfl, hq, he, q⟩ := h
  cases ro
  obtain ⟨t, rfl⟩ := ri
  obtain ⟨its, r, pl, hz⟩ := I.list hq
  obtain ⟨j, h1, h2, h3, h4, h5⟩ := atI_get (show atI xs k = some z from he)
  obtain ⟨w, ew, rw'⟩ := r.get h2
  have hl := r.length
  have hn := line63
  have fin : EP X pins σ Q w s := ⟨z, H, I, rw', q⟩
  by_cases h0 : 0 ≤ k
  · have hj : k.toNat = j := by
      rw [seqIndex_of h0 h5] at h1
      exact Option.some.inj h1
    exact wpAny_getItem_list pl.isList h0 (by omega) (by rw [hj]; simpa using ew) fin
  · have hj : (k + (its.toArray.size : Int)).toNat = j := by
      rw [seqIndex_neg (by omega) h4] at h1
      rw [List.size_toArray, ← hl]
      exact Option.some.inj h1
    exact wpAny_getItem_list_neg pl.isList (by omega) (by rw [List.size_toArray] <;> omega) (by omega) (by rw [hj]; simpa using ew) fin
def dAugI (f : Int → Int → Int) (i : Nat) (dj de : DE) : DS := fun Dn ds => match ds[i]? with
  | some (.own xs) => dj ds fun rj => ∃ k j a, rj = .val (.int k) ∧ ixN xs.length k = some j ∧ xs[j]? = some (.int a) ∧ de ds fun r => ∃ b, r = .val (.int b) ∧ Dn.nx (ds.set i (.own (xs.set j (.int (f a b)))))
  | _ => False
theorem ss_augI {f : Int → Int → Int} {i : Nat} {tj : TE} {dj : DE} (hj : SE K tj dj) (he : SE K te de) : SS K (tAugS (tVar i) tj te (rGetL K) (ipI f) rSetL) (dAugI f i dj de) := ⟨fun {H0 B0 σ H B ds Dn E} s hn _ _ _ q => by
  unfold dAugI at q
  split at q
  · rename_i xs w
    obtain ⟨p, vs, ev, hB, hH, rs⟩ := s.sl.own _ _ w
    refine ⟨.ref p, ev, ?_⟩
    refine hj.run s.sl (hj.mono (fun rj ⟨k, j, a, ek, ej, ea, q⟩ u H1 B1 g1 r1 => ?_) q)
    subst ek
    rw [rep_int r1]
    have hH1 := g1.hh _ _ hH
    obtain ⟨z, hz, rz⟩ := rs.get ea
    have ez := rep_int rz
    subst ez
    refine ⟨p, vs, k, .int a, rfl, rfl, SqL.of hH1, by rw [rs.len, ej]; exact hz, ?_⟩
    refine he.run (s.sl.grow g1) (he.mono (fun r ⟨b, eb, q⟩ v H2 B2 g2 r2 => ?_) q)
    subst eb
    rw [rep_int r2]
    refine ⟨a, b, rfl, rfl, p, vs, k, j, rfl, rfl, g2.hh _ _ hH1, by rw [rs.len]; exact ej, ?_⟩
    have g := g1.trans g2
    exact hn _ _ _ _ ((s.grow g).upd w ev (Reps.set (.int (i := f a b)) j (rs.mono g.bb))) q
  · exact q.elim⟩
theorem px_augIAdd {i : Nat} {o ej : Expr} {tj : TE} {dj : DE} {spos : Pos} (ho : PX X o (tVar i) (eVar i)) (hj : PX X ej tj dj) (he : PX X e te de)
    (ha : ∀ ov iv new, augStore ej ov iv new = (do holding [new, ov, iv] (setItem ov iv new); release [new, ov, iv] []; pure .next) := by intros; rfl) :
    PXS1 X (.AugAssign (.Subscript o ej spos) .Add e pos) (tAugS (tVar i) tj te (rGetL X.K) (ipI fun a b => a + b) rSetL) (dAugI (fun a b => a + b) i dj de) := ⟨ps_augS ho.p hj.p get_list he.p ip_add set_list ha, ss_augI hj.s he.s⟩
theorem px_augISub {i : Nat} {o ej : Expr} {tj : TE} {dj : DE} {spos : Pos} (ho : PX X o (tVar i) (eVar i)) (hj : PX X ej tj dj) (he : PX X e te de)
    (ha : ∀ ov iv new, augStore ej ov iv new = (do holding [new, ov, iv] (setItem ov iv new); release [new, ov, iv] []; pure .next) := by intros; rfl) :
    PXS1 X (.AugAssign (.Subscript o ej spos) .Sub e pos) (tAugS (tVar i) tj te (rGetL X.K) (ipI fun a b => a - b) rSetL) (dAugI (fun a b => a - b) i dj de) := ⟨ps_augS ho.p hj.p get_list he.p ip_sub set_list ha, ss_augI hj.s he.s⟩
end
/-! tuple + tuple -/
def dCatT : D2 := fun x y P => ∃ xs ys, x = .val (.tup xs) ∧ y = .val (.tup ys) ∧ xs.length + ys.length ≤ sizeLine ∧ P (.val (.tup (xs ++ ys)))
theorem sr_catT {K : PySem.W.Frag} : SR2 K (rCatA K) dCatT where
  mono := fun h ⟨xs, ys, e, f, n, q⟩ => ⟨xs, ys, e, f, n, h _ q⟩
  run := fun {x y v u H0 H B Q} s s0 rx ry ⟨xs, ys, e, f, n, q⟩ => by
    subst e; subst f
    cases (show Rep K B v (.tup xs) from rx) with
    | tup a ra =>
      cases (show Rep K B u (.tup ys) from ry) with
      | tup b rb =>
        refine ⟨_, _, _, _, rfl, rfl, same_t s a, same_t s b, by rw [ra.len, rb.len]; exact n, fun z => ?_, fun _ z => ?_, fun _ _ p hp => ?_⟩
        · subst z
          cases ra
          exact q _ _ _ (Gr.refl s) (Rep.tup b rb)
        · subst z
          cases rb
          rw [List.append_nil] at q
          exact q _ _ _ (Gr.refl s) (Rep.tup a ra)
        · exact q _ _ _ (gr_tup s hp) (Rep.tup (sq_tup upd_same) ((ra.append rb).mono (same_upd (s.free hp))))
theorem px_catT {X : Cx} {a b : Expr} {ta tb : TE} {da db : DE} {pos : Pos} (ha : PX X a ta da) (hb : PX X b tb db) : PX X (.BinOp a .Add b pos) (tOp (rCatA X.K) ta tb) (eOp dCatT da db) := ⟨pe_op op_catA ha.p hb.p, se_op sr_catT ha.s hb.s⟩
/-! a property -/
structure Kp (P : Program) (w : World) (K : PySem.W.Frag) (mg : Str → Option Value) (base : Heap) (C : Addr) (f : Str) (k : Nat) (dsp : DSp) : Prop where
  ex : ∃ (p g : Addr) (fd : FuncData) (ps : List Str), Cls K C ∧ PropOf K C f p g ∧ FnOk P w K mg base CX0 k g fd ps (liftSp K dsp) ∧ Binds K fd ps []
def eProp (C : Addr) (dsp : DSp) (de : DE) : DE := fun ds P => de ds fun r => match r with
  | .val (.ins C' fs) => C' = C ∧ dsp [.ins C fs] P
  | _ => False
theorem px_prop {X : Cx} {C : Addr} {f : Str} {j k : Nat} {dsp : DSp} {e : Expr} {te : TE} {de : DE} {pos : Pos} (h : Kp X.prog X.w X.K X.mg X.base C f k dsp) (M : MSp dsp) (hr : Room j X.A) (hj : k + 1 ≤ j) (he : PX X e te de) (hab : attributeBase e f X.env (eval e X.env) = eval e X.env := by rfl) :
    PX X (.Attribute e f pos) (tProp C (liftSp X.K dsp) [] E0 te) (eProp C dsp de) := by
  obtain ⟨p, g, fd, ps, hC, hp, F, hb⟩ := h.ex
  exact ⟨pe_prop he.p hC hp F (hr.mono hj) hb .nil pass0 hab, {
    mono := fun hm q => he.s.mono (fun r q => by
      split at q
      · exact ⟨q.1, M _ _ _ hm q.2⟩
      · exact q.elim) q
    run := fun {σ H B ds Q} s q => by
      refine he.s.run s (he.s.mono (fun r q v H1 B1 g1 rr => ?_) q)
      split at q
      · rename_i C' fs
        obtain ⟨rfl, q⟩ := q
        cases (show Rep X.K B1 v (.ins C' fs) from rr) with
        | ins o h r =>
          exact ⟨_, _, _, rfl, g1.bh _ _ h, B1, [.ins C' fs], g1.bh, .cons (.ins o h r) .nil, M _ _ _ (fun r q v H2 B2 g2 r2 => q v H2 B2 (g1.trans g2) (r2.base g1.hh)) q⟩
      · exact q.elim }⟩
end Dl

namespace Dl
open PySem PySem.Spec PyProof.Rows L2
section
variable {X : Cx} {K : PySem.W.Frag} {a b e : Expr} {ta tb te : TE} {da db de : DE} {pos : Pos}
theorem reps_rg {B : Hp} {lo hi : Int} : Reps K B (rgV lo hi) (rgD lo (hi - lo).toNat) := by
  unfold rgV rgD
  induction (hi - lo).toNat with
  | zero => exact .nil
  | succ n ih =>
    rw [List.range_succ, List.map_append, List.map_append]
    exact ih.append (.cons .int .nil)
def eListR1 (da : DE) : DE := fun ds P => da ds fun r => match r with
  | .val (.int n) => -(2 ^ 62) ≤ n ∧ n ≤ 16777216 ∧ P (.own (rgD 0 n.toNat))
  | _ => False
theorem px_listR1 {p q pos2 : Pos} (hg : Gl X "list") (hm : X.mg "list" = none) (hg2 : Gl X "range") (hm2 : X.mg "range" = none) (hc : X.calm = true) (ha : PX X a ta da) (na : starEach [a] X.env = (false, eval a X.env) :: starEach [] X.env := by rfl)
    (nl : starEach [.Call (.Name "range" q) [a] [] pos2] X.env = (false, eval (.Call (.Name "range" q) [a] [] pos2) X.env) :: starEach [] X.env := by rfl) :
    PX X (.Call (.Name "list" p) [.Call (.Name "range" q) [a] [] pos2] [] pos) (tLstRg (tRg1 ta)) (eListR1 da) := ⟨pe_listRg hc hg hm (prg_1 hg2 hm2 ha.p na) nl, {
  mono := fun h q => ha.s.mono (fun r q => by
    split at q
    · exact ⟨q.1, q.2.1, h _ q.2.2⟩
    · exact q.elim) q
  run := fun {σ H B ds Q} s q => by
    refine ha.s.run s (ha.s.mono (fun r q v H1 B1 g1 rr => ?_) q)
    split at q
    · rename_i n
      rw [rep_int rr]
      refine ⟨n, rfl, ⟨by omega, by omega, by omega, by omega, by omega⟩, fun l hl => q.2.2 _ _ _ (g1.trans (gr_laid g1.bh hl)) ?_⟩
      have w := (own_new (vs := rgV 0 n) (xs := rgD 0 n.toNat) g1.bh hl (by have := reps_rg (K := X.K) (B := B1) (lo := 0) (hi := n); rw [Int.sub_zero] at this; exact this)).base g1.hh
      exact w
    · exact q.elim }⟩
def eListR2 (da db : DE) : DE := fun ds P => da ds fun x => db ds fun y => match x, y with
  | .val (.int i), .val (.int j) => 0 ≤ i ∧ i ≤ 16777216 ∧ 0 ≤ j ∧ j ≤ 16777216 ∧ P (.own (rgD i (j - i).toNat))
  | _, _ => False
theorem px_listR2 {p q pos2 : Pos} (hg : Gl X "list") (hm : X.mg "list" = none) (hg2 : Gl X "range") (hm2 : X.mg "range" = none) (hc : X.calm = true) (ha : PX X a ta da) (hb : PX X b tb db) (na : starEach [a, b] X.env = (false, eval a X.env) :: starEach [b] X.env := by rfl)
    (nb : starEach [b] X.env = (false, eval b X.env) :: starEach [] X.env := by rfl) (hp : (backTo pos2 (starEach [b] X.env)).any (·.1) = false := by rfl)
    (nl : starEach [.Call (.Name "range" q) [a, b] [] pos2] X.env = (false, eval (.Call (.Name "range" q) [a, b] [] pos2) X.env) :: starEach [] X.env := by rfl) :
    PX X (.Call (.Name "list" p) [.Call (.Name "range" q) [a, b] [] pos2] [] pos) (tLstRg (tRg2 ta tb)) (eListR2 da db) := ⟨pe_listRg hc hg hm (prg_2 hg2 hm2 ha.p hb.p na nb hp) nl, {
  mono := fun h q => ha.s.mono (fun r q => hb.s.mono (fun r q => by
    split at q
    · exact ⟨q.1, q.2.1, q.2.2.1, q.2.2.2.1, h _ q.2.2.2.2⟩
    · exact q.elim) q) q
  run := fun {σ H B ds Q} s q => by
    refine ha.s.run s (ha.s.mono (fun x q v H1 B1 g1 r1 => ?_) q)
    refine hb.s.run (s.grow g1) (hb.s.mono (fun y q u H2 B2 g2 r2 => ?_) q)
    split at q
    · rw [rep_int (r1.grow g2), rep_int r2]
      have g := g1.trans g2
      refine ⟨_, _, rfl, rfl, ⟨by omega, by omega, by omega, by omega, by omega⟩, fun l hl => q.2.2.2.2 _ _ _ (g.trans (gr_laid g2.bh hl)) ?_⟩
      exact (own_new g2.bh hl reps_rg).base g.hh
    · exact q.elim }⟩
theorem px_gintE {x : Str} {i : Int} (hg : Gl X x) (hm : ∃ t, X.mg x = some (.int i t)) (hdb : (x == ("__debug__" : Str)) = false := by decide) : PX X (.Name x pos) (tC (.int i)) (eC (.int i)) := by
  obtain ⟨t, h⟩ := hm
  exact ⟨pe_glob hg h ⟨t, rfl⟩ hdb, se_c fun _ => .int⟩
theorem px_gtupE {x : Str} {a : Addr} {ns : List Int} (hg : Gl X x) (hm : X.mg x = some (.ref a)) (hq : ∀ H, SqT X.K H a (ns.map V.int)) (hdb : (x == ("__debug__" : Str)) = false := by decide) : PX X (.Name x pos) (tC (.ref a)) (eC (.tup (ns.map D.int))) :=
  ⟨pe_glob hg hm rfl hdb, se_c fun B => .tup (hq B) (reps_ints ns)⟩
def dExprS (de : DE) : DS := fun Dn ds => de ds fun _ => Dn.nx ds
theorem px_exprS (h : PX X e te de) (hs : swapsWith e none pos.line X.env = pure false := by rfl) : PXS1 X (.Expr e pos) (tDrop te) (dExprS de) := ⟨ps_expr h.p hs, ⟨fun s hn _ _ _ q => by
  refine h.s.run s.sl (h.s.mono (fun r q v H' B' g rr => ?_) q)
  exact hn _ _ _ _ (s.grow g) q⟩⟩
end
/-- the j-th statement of a class's body -/
def methOf (st : Stmt) (j : Nat) : Stmt := match st with
  | .ClassDef (body := b) .. => b.getD j (.Pass ⟨0, 0, 0, 0⟩)
  | _ => .Pass ⟨0, 0, 0, 0⟩
end Dl

namespace Dl
open PySem PySem.Spec PyProof.Rows L2
section
variable {K : PySem.W.Frag} {X : Cx}
theorem ss_seq {t u : TS} {d d' : DS} (h1 : SS K t d) (h2 : SS K u d') : SS K (tSeq t u) (dSeq d d') := ⟨fun {H0 B0 σ H B ds Dn E} s hn hb hc hr q =>
  h1.run (Dn := { Dn with nx := d' Dn }) (E := { E with nx := u E }) s (fun σ' H' B' ds' s' q' => h2.run s' hn hb hc hr q') hb hc hr q⟩
/-! x[j] = [..]; x[j][c] = v with the list x told by its address -/
def dEx (i jp jc jv : Nat) (de : DE) : DS := fun Dn ds => de ds fun r => ∃ p xs acc k j c cj v, ds[i]? = some (.lat p xs) ∧ r = .own acc ∧ ds[jp]? = some (.val (.int k)) ∧ ixN xs.length k = some j ∧ ds[jc]? = some (.val (.int c)) ∧ ixN acc.length c = some cj ∧ ds[jv]? = some (.val v) ∧
  Dn.nx (ds.set i (.lat p (xs.set j (.lst (acc.set cj v)))))
theorem ss_ex {i jp jc jv : Nat} {te : TE} {de : DE} (he : SE K te de) : SS K (tSeq (tAsg te (gSub (tVar i) (tVar jp) rSetL)) (tAsg (tVar jv) (gSub (tOp (rIx K) (tVar i) (tVar jp)) (tVar jc) rSetL))) (dEx i jp jc jv de) := ⟨fun {H0 B0 σ H B ds Dn E} s hn _ _ _ q => by
  refine he.run s.sl (he.mono (fun r ⟨p, xs, acc, k, j, c, cj, v, ei, er, ep, ej, ec, ecj, ev, q⟩ w H1 B1 g rr => ?_) q)
  subst er
  obtain ⟨A, avs, rfl, hA, hBA, hHA, rA⟩ := rr
  obtain ⟨ws, si, hpB, hpH, rw'⟩ := s.sl.lat _ _ _ ei
  obtain ⟨kv, sp, rk⟩ := s.sl.val _ _ ep
  obtain ⟨cv, sc, rc⟩ := s.sl.val _ _ ec
  obtain ⟨vv, sv, rv⟩ := s.sl.val _ _ ev
  have ek := rep_int rk
  have ec' := rep_int rc
  subst ek ec'
  have hne : A ≠ p := fun z => by rw [z, hpH] at hA; cases hA
  have hp1 := g.hh _ _ hpH
  have hjl : j < ws.length := by rw [rw'.len]; exact (ixN_seq ej).2.1
  refine ⟨.ref p, si, .int k, sp, p, ws, k, j, rfl, rfl, hp1, by rw [rw'.len]; exact ej, ?_⟩
  refine ⟨vv, sv, .ref p, si, .int k, sp, .inl ⟨p, ws.set j (.ref A), k, .ref A, rfl, rfl, SqL.of upd_same, ?_, ?_⟩⟩
  · show (ixN (ws.set j (.ref A)).length k).bind _ = _
    rw [List.length_set, rw'.len, ej]
    exact List.getElem?_set_self hjl
  · refine ⟨.int c, sc, A, avs, c, cj, rfl, rfl, by rw [upd_ne hne]; exact hHA, by rw [rA.len]; exact ecj, ?_⟩
    have sb := same_upd (o := HO.lst (avs.set cj vv)) hBA
    have g' : Gr H B (upd H1 A (.lst (avs.set cj vv))) (upd B1 A (.lst (avs.set cj vv))) := by
      refine ⟨fun a o z => ?_, g.bb.trans sb, fun a o z => ?_, fun a ha hb => ?_⟩
      · rw [upd_ne (ne_of_none z hA)]; exact g.hh _ _ z
      · by_cases w : a = A
        · subst w; rw [upd_same] at z ⊢; exact z
        · rw [upd_ne w] at z ⊢; exact g.bh _ _ z
      · have w : a ≠ A := fun w => ha (by rw [w]; exact hA)
        rw [upd_ne w]; exact g.nw a ha hb
    have s2 := s.grow g'
    have rA' : Rep K (upd B1 A (.lst (avs.set cj vv))) (.ref A) (.lst (acc.set cj v)) := .lst upd_same ((Reps.set (rv.mono g.bb) cj rA).mono sb)
    have s3 := s2.updLat ei si (Reps.set rA' j (rw'.mono (g.bb.trans sb)))
    have eh : upd (upd H1 p (.lst (ws.set j (.ref A)))) A (.lst (avs.set cj vv)) = upd (upd H1 A (.lst (avs.set cj vv))) p (.lst (ws.set j (.ref A))) := by
      funext a
      by_cases w : a = A
      · subst w; rw [upd_same, upd_ne hne, upd_same]
      · rw [upd_ne w]
        by_cases w2 : a = p
        · subst w2; rw [upd_same, upd_same]
        · rw [upd_ne w2, upd_ne w2, upd_ne w]
    show E.nx σ _
    rw [eh]
    exact hn _ _ _ _ s3 q⟩
theorem pxs_ex {i jp jc jv : Nat} {o1 o2 ej1 ej2 ec ev e : Expr} {te : TE} {de : DE} {p1 p2 p3 q1 q2 : Pos} (he : PX X e te de) (ho1 : PX X o1 (tVar i) (eVar i)) (hj1 : PX X ej1 (tVar jp) (eVar jp)) (ho2 : PX X o2 (tVar i) (eVar i)) (hj2 : PX X ej2 (tVar jp) (eVar jp)) (hc : PX X ec (tVar jc) (eVar jc)) (hv : PX X ev (tVar jv) (eVar jv))
    (hs : swapsWithSole [.Subscript o1 ej1 p1] e q1.line X.env = pure false := by rfl) (hw : swappedStores [.Subscript o1 ej1 p1] e X.env = pure none := by rfl)
    (h1 : (assignEach [.Subscript o1 ej1 p1] X.env).map (·.2) = [assign (.Subscript o1 ej1 p1) X.env] := by rfl)
    (ha : ∀ v, assign (.Subscript o1 ej1 p1) X.env v = (do
      let ov ← holding [v] (eval o1 X.env)
      let iv ← holding [v, ov] (eval ej1 X.env)
      standAt p1
      holding [v, ov, iv] (setItem ov iv v)
      release [v, ov, iv] []) := by intro _; rfl)
    (hs' : swapsWithSole [.Subscript (.Subscript o2 ej2 p2) ec p3] ev q2.line X.env = pure false := by rfl) (hw' : swappedStores [.Subscript (.Subscript o2 ej2 p2) ec p3] ev X.env = pure none := by rfl)
    (h1' : (assignEach [.Subscript (.Subscript o2 ej2 p2) ec p3] X.env).map (·.2) = [assign (.Subscript (.Subscript o2 ej2 p2) ec p3) X.env] := by rfl)
    (ha' : ∀ v, assign (.Subscript (.Subscript o2 ej2 p2) ec p3) X.env v = (do
      let ov ← holding [v] (eval (.Subscript o2 ej2 p2) X.env)
      let iv ← holding [v, ov] (eval ec X.env)
      standAt p3
      holding [v, ov, iv] (setItem ov iv v)
      release [v, ov, iv] []) := by intro _; rfl) (hp : PlainIx ej2 := by exact fun _ _ => rfl) :
    PXS X [.Assign [.Subscript o1 ej1 p1] e q1, .Assign [.Subscript (.Subscript o2 ej2 p2) ec p3] ev q2] (tSeq (tAsg te (gSub (tVar i) (tVar jp) rSetL)) (tAsg (tVar jv) (gSub (tOp (rIx X.K) (tVar i) (tVar jp)) (tVar jc) rSetL))) (dEx i jp jc jv de) :=
  ⟨pss_cons (ps_asg he.p (pg_sub ho1.p hj1.p set_list ha) hs hw h1) (pss_one (ps_asg hv.p (pg_sub (px_ix ho2 hj2 hp).p hc.p set_list ha') hs' hw' h1')), ss_ex he.s⟩
end
end Dl

namespace Dl
open PySem PySem.Spec PyProof.Rows L2 Slv
/-! ### numbers as data -/
def vec (n : Nat) (f : Nat → Int) : List D := (List.range n).map fun i => D.int (f i)
def tab (N n : Nat) (t : Nat → Nat → Int) : List D := (List.range N).map fun i => D.lst (vec (n + 1) (t i))
def rowsT (m n : Nat) (coef : Nat → Nat → Int) (bound : Nat → Int) : List D := (List.range m).map fun s => D.tup [.tup (vec n (coef s)), .int (bound s)]
def mp {α : Type} (n : Nat) (f : Nat → α) : List α := (List.range n).map f
theorem mp_len {α : Type} {n : Nat} {f : Nat → α} : ((List.range n).map f).length = n := by rw [List.length_map, List.length_range]
theorem mp_get {α : Type} {n i : Nat} {f : Nat → α} (h : i < n) : ((List.range n).map f)[i]? = some (f i) := by rw [List.getElem?_map, List.getElem?_range h]; rfl
theorem mp_some {α : Type} {n i : Nat} {f : Nat → α} {d : α} (h : ((List.range n).map f)[i]? = some d) : i < n ∧ d = f i := by
  have hi : i < n := by
    have := (List.getElem?_eq_some_iff.mp h).1
    rwa [mp_len] at this
  rw [mp_get hi] at h
  cases h
  exact ⟨hi, rfl⟩
theorem atI_mp {α : Type} {n i : Nat} {z : Int} {f : Nat → α} (h : i < n) (e : z = i) : atI ((List.range n).map f) z = some (f i) := by
  subst e
  exact atI_nat (mp_get h)
theorem atI_vec {n i : Nat} {z : Int} {f : Nat → Int} (h : i < n) (e : z = i) : atI (vec n f) z = some (.int (f i)) := atI_mp h e
theorem atI_tab {N n i : Nat} {z : Int} {t : Nat → Nat → Int} (h : i < N) (e : z = i) : atI (tab N n t) z = some (.lst (vec (n + 1) (t i))) := atI_mp h e
theorem ixN_nat {n i : Nat} {z : Int} (h : i < n) (e : z = i) : ixN n z = some i := by
  subst e
  unfold ixN
  rw [if_pos (by omega), if_pos (by omega), Int.toNat_natCast]
theorem vec_len {n : Nat} {f : Nat → Int} : (vec n f).length = n := mp_len
theorem tab_len {N n : Nat} {t : Nat → Nat → Int} : (tab N n t).length = N := mp_len
theorem rows_len {m n : Nat} {coef : Nat → Nat → Int} {bound : Nat → Int} : (rowsT m n coef bound).length = m := mp_len
theorem mp_succ {α : Type} (n : Nat) (f : Nat → α) : (List.range (n + 1)).map f = (List.range n).map f ++ [f n] := by rw [List.range_succ, List.map_append]; rfl
theorem mp_cons {α : Type} (n : Nat) (f : Nat → α) : (List.range (n + 1)).map f = f 0 :: (List.range n).map fun i => f (i + 1) := by
  rw [List.range_succ_eq_map, List.map_cons, List.map_map]; rfl
theorem mp_congr {α : Type} {n : Nat} {f g : Nat → α} (h : ∀ i, i < n → f i = g i) : (List.range n).map f = (List.range n).map g :=
  List.map_congr_left fun i hi => h i (List.mem_range.mp hi)
theorem vec_congr {n : Nat} {f g : Nat → Int} (h : ∀ i, i < n → f i = g i) : vec n f = vec n g := mp_congr fun i hi => by rw [h i hi]
theorem mp_app {α : Type} (a b : Nat) (f : Nat → α) : (List.range (a + b)).map f = (List.range a).map f ++ (List.range b).map fun i => f (a + i) := by
  induction b with
  | zero => simp
  | succ b ih => rw [show a + (b + 1) = (a + b) + 1 by omega, mp_succ, ih, mp_succ, List.append_assoc]
theorem mp_set {α : Type} {n i : Nat} {f : Nat → α} {x : α} : ((List.range n).map f).set i x = (List.range n).map fun j => if j = i then x else f j := by
  apply List.ext_getElem?
  intro j
  by_cases hj : j < n
  · rw [mp_get hj]
    by_cases e : j = i
    · subst e
      rw [List.getElem?_set_self (by rw [mp_len]; exact hj), if_pos rfl]
    · rw [List.getElem?_set_ne (Ne.symm e), mp_get hj, if_neg e]
  · rw [List.getElem?_eq_none (by rw [List.length_set, mp_len]; omega), List.getElem?_eq_none (by rw [mp_len]; omega)]
theorem rgD_some {lo : Int} {n i : Nat} {d : D} (h : (rgD lo n)[i]? = some d) : i < n ∧ d = .int (lo + i) := mp_some h
theorem rgD_len {lo : Int} {n : Nat} : (rgD lo n).length = n := mp_len
/-- a comprehension without tests -/
theorem eLc_map {src : DSrc} {dg : DG} {de : DE} {vs : List Nat} {ds : List S} {P : R → Prop} {xs : List D} {g : Nat → D}
    (hx : xs.length ≤ sizeLine) (h : ∀ i d, xs[i]? = some d → dg d (wipeD ds vs) fun ds2 => de ds2 fun r => r.d = some (g i)) (hm : ∀ {d : D} {ds : List S} {P P' : List S → Prop}, (∀ r, P r → P' r) → dg d ds P → dg d ds P') (hm2 : ∀ {ds : List S} {P P' : R → Prop}, (∀ r, P r → P' r) → de ds P → de ds P')
    (hP : P (.own ((List.range xs.length).map g))) : xs.length ≤ sizeLine ∧ ∃ f : Nat → Option D,
  (∀ i d, xs[i]? = some d → dg d (wipeD ds vs) fun ds2 => uYes ds2 fun b => (b = true → de ds2 fun r => ∃ y, r.d = some y ∧ f i = some y) ∧ (b = false → f i = none)) ∧
  P (.own ((List.range xs.length).filterMap f)) := by
  refine ⟨hx, fun i => some (g i), fun i d e => hm (fun ds2 q => ⟨fun _ => hm2 (fun r q => ⟨_, q, rfl⟩) q, fun z => by cases z⟩) (h i d e), ?_⟩
  have e : (List.range xs.length).filterMap (fun i => some (g i)) = (List.range xs.length).map g := by
    rw [← List.filterMap_eq_map]; rfl
  rw [e]; exact hP
end Dl

namespace Dl
open PySem PySem.Spec PyProof.Rows L2 Slv
/-- x bits at most b -/
def Bt (b : Nat) (x : Int) : Prop := x.natAbs < 2 ^ b
def exT (sc : Int) (row col : Nat) (t : Nat → Nat → Int) : Nat → Nat → Int := fun i k => if k = col then t i col else (t i k * t row col - t i col * t row k) / sc
def ExP (N n : Nat) (sc : Int) (row col : Nat) (t : Nat → Nat → Int) : Prop := N ≤ 3000 ∧ n ≤ 1000 ∧ row < N ∧ col ≤ n ∧ 0 < sc ∧ Bt 9000 sc ∧ ∀ i k, i < N → k ≤ n → Bt 9000 (t i k)
/-- exchange's promise: the list at p is changed -/
def spEx (K : PySem.W.Frag) : Sp := fun vs H Q _ => ∃ (p : Addr) (B : Hp) (ws : List V) (N n : Nat) (sc : Int) (row col : Nat) (t : Nat → Nat → Int), vs = [.ref p, .int sc, .int row, .int col] ∧ Same B H ∧ B p = none ∧ H p = some (.lst ws) ∧ Reps K B ws (tab N n t) ∧ ExP N n sc row col t ∧
  ∀ H' B' ws', Gr (del p H) B H' B' → B' p = none → H' p = some (.lst ws') → Reps K B' ws' (tab N n (exT sc row col t)) → Q (.int (t row col)) H'
section
variable {K : PySem.W.Frag} {X : Cx} {H B : Hp} {vs : List V} {ds : List D}
/-- .., before them a list -/
theorem sn_startL {p : Addr} {M : Str} {N : List Str} {ws : List V} {xs : List D} (h : Same B H) (r : Reps K B vs ds) (hB : B p = none) (hH : H p = some (.lst ws)) (rw' : Reps K B ws xs) : Sn K (del p H) B H B (L2.start (M :: N) (.ref p :: vs)) (.lat p xs :: startD N.length ds) where
  gr := ⟨fun a o z => by
    by_cases w : a = p
    · subst w; rw [del_same] at z; cases z
    · rw [del_ne w] at z; exact z, Same.refl _, h, fun _ _ q => q⟩
  fr := fun i q hi e => by
    cases i with
    | zero => cases e; exact del_same
    | succ i =>
      have hi' : ((startD N.length ds)[i]?.map S.isOwn) = some true := hi
      cases w : (startD N.length ds)[i]? with
      | none => rw [w] at hi'; cases hi'
      | some s =>
        rw [w] at hi'
        rcases startD_get w with ⟨d', e', q⟩ | e' <;> (subst e'; cases hi')
  sl := by
    have b := sl_start (N := N) h r
    have st : L2.start (M :: N) (.ref p :: vs) = some (.ref p) :: L2.start N vs := by
      unfold L2.start
      rw [List.map_cons, List.cons_append, List.length_cons, List.length_cons, Nat.add_sub_add_right]
    rw [st]
    exact {
      bh := h
      len := congrArg (· + 1) b.len
      val := fun i d e => by
        cases i with
        | zero => cases e
        | succ i => exact b.val i d e
      own := fun i d e => by
        cases i with
        | zero => cases e
        | succ i => exact b.own i d e
      obj := fun i q C' fs e => by
        cases i with
        | zero => cases e
        | succ i => exact b.obj i q C' fs e
      lat := fun i q xs e => by
        cases i with
        | zero => cases e; exact ⟨ws, rfl, hB, hH, rw'⟩
        | succ i => exact b.lat i q xs e
      sep := fun i j q hij hi hj e => by
        cases i with
        | zero =>
          cases j with
          | zero => exact (hij rfl).elim
          | succ j =>
            have hj' : ((startD N.length ds)[j]?.map S.isOwn) = some true := hj
            cases w : (startD N.length ds)[j]? with
            | none => rw [w] at hj'; cases hj'
            | some s =>
              rw [w] at hj'
              rcases startD_get w with ⟨d', e', q⟩ | e' <;> (subst e'; cases hj')
        | succ i =>
          have hj' : ((startD N.length ds)[i]?.map S.isOwn) = some true := hi
          cases w : (startD N.length ds)[i]? with
          | none => rw [w] at hj'; cases hj'
          | some s =>
            rw [w] at hj'
            rcases startD_get w with ⟨d', e', q⟩ | e' <;> (subst e'; cases hj') }
/-! name = exchange(table, ..), the table an owned local -/
def dExC (i ia ib ic : Nat) : DS := fun Dn ds => ∃ (N n : Nat) (sc : Int) (row col : Nat) (t : Nat → Nat → Int), ds[i]? = some (.own (tab N n t)) ∧ ds[ia]? = some (.val (.int sc)) ∧ ds[ib]? = some (.val (.int row)) ∧ ds[ic]? = some (.val (.int col)) ∧ ExP N n sc row col t ∧
  Dn.nx ((ds.set i (.own (tab N n (exT sc row col t)))).set ia (.val (.int (t row col))))
theorem ss_exC {i ia ib ic : Nat} : SS K (tAsg (tCall (spEx K) [] E0 (tCons (tVar i) (tCons (tVar ia) (tCons (tVar ib) (tCons (tVar ic) tNil))))) (gName ia)) (dExC i ia ib ic) := ⟨fun {H0 B0 σ H B ds Dn E} s hn _ _ _ q => by
  obtain ⟨N, n, sc, row, col, t, ei, ea, eb, ec, pre, q⟩ := q
  obtain ⟨p, ws, si, hB, hH, rw'⟩ := s.sl.own _ _ ei
  obtain ⟨v1, s1, r1⟩ := s.sl.val _ _ ea
  obtain ⟨v2, s2, r2⟩ := s.sl.val _ _ eb
  obtain ⟨v3, s3, r3⟩ := s.sl.val _ _ ec
  have z1 := rep_int r1
  have z2 := rep_int r2
  have z3 := rep_int r3
  subst z1 z2 z3
  refine ⟨.ref p, si, .int sc, s1, .int row, s2, .int col, s3, ?_⟩
  refine ⟨p, B, ws, N, n, sc, row, col, t, rfl, s.sl.bh, hB, hH, rw', pre, fun H' B' ws' g hB' hH' rw2 => ?_⟩
  have hp0 := s.fr i p (own_at ei) si
  have ho := own_at ei
  -- other owned slots lie elsewhere
  have ne : ∀ j q, j ≠ i → (ds[j]?.map S.isOwn) = some true → σ[j]? = some (some (V.ref q)) → q ≠ p := fun j q hj hq eq w => by
    subst w
    exact s.sl.sep j i q hj hq ho eq si
  have keepH : ∀ q o, q ≠ p → H q = some o → H' q = some o := fun q o w z => g.hh q o (by rw [del_ne w]; exact z)
  have keepB : ∀ q, q ≠ p → H q ≠ none → B q = none → B' q = none := fun q w z z2 => g.nw q (by rw [del_ne w]; exact z) z2
  have base : Sn K H0 B0 H' B' σ (ds.set i .no) := {
    gr := ⟨fun a o z => keepH a o (ne_of_none z hp0) (s.gr.hh _ _ z), s.gr.bb.trans g.bb, g.bh, fun a ha hb => keepB a (fun w => ha (by rw [w]; exact hp0)) (fun z => ha (s.gr.hh.free z)) (s.gr.nw a ha hb)⟩
    fr := fun j q hj hq => by
      by_cases w : j = i
      · subst w
        by_cases l : j < ds.length
        · rw [List.getElem?_set_self l] at hj; cases hj
        · rw [List.getElem?_eq_none (by rw [List.length_set]; omega)] at hj; cases hj
      · rw [List.getElem?_set_ne (Ne.symm w)] at hj
        exact s.fr j q hj hq
    sl := {
      bh := g.bh
      len := by rw [List.length_set]; exact s.sl.len
      val := fun j d e => by
        by_cases w : j = i
        · subst w
          by_cases l : j < ds.length
          · rw [List.getElem?_set_self l] at e; cases e
          · rw [List.getElem?_eq_none (by rw [List.length_set]; omega)] at e; cases e
        · rw [List.getElem?_set_ne (Ne.symm w)] at e
          obtain ⟨v, a, b⟩ := s.sl.val j d e
          exact ⟨v, a, b.mono g.bb⟩
      own := fun j zs ej => by
        by_cases w : j = i
        · subst w
          by_cases l : j < ds.length
          · rw [List.getElem?_set_self l] at ej; cases ej
          · rw [List.getElem?_eq_none (by rw [List.length_set]; omega)] at ej; cases ej
        · rw [List.getElem?_set_ne (Ne.symm w)] at ej
          obtain ⟨q, vs, a, b, c, r⟩ := s.sl.own j zs ej
          have w2 := ne j q w (own_at ej) a
          exact ⟨q, vs, a, keepB q w2 (by rw [c]; exact fun z => by cases z) b, keepH _ _ w2 c, r.mono g.bb⟩
      obj := fun j q C fs ej => by
        by_cases w : j = i
        · subst w
          by_cases l : j < ds.length
          · rw [List.getElem?_set_self l] at ej; cases ej
          · rw [List.getElem?_eq_none (by rw [List.length_set]; omega)] at ej; cases ej
        · rw [List.getElem?_set_ne (Ne.symm w)] at ej
          obtain ⟨dx, vs, a, b, c, r⟩ := s.sl.obj j q C fs ej
          have w2 := ne j q w (by rw [ej]; rfl) a
          exact ⟨dx, vs, a, keepB q w2 (by rw [c]; exact fun z => by cases z) b, keepH _ _ w2 c, r.mono g.bb⟩
      lat := fun j q zs ej => by
        by_cases w : j = i
        · subst w
          by_cases l : j < ds.length
          · rw [List.getElem?_set_self l] at ej; cases ej
          · rw [List.getElem?_eq_none (by rw [List.length_set]; omega)] at ej; cases ej
        · rw [List.getElem?_set_ne (Ne.symm w)] at ej
          obtain ⟨vs, a, b, c, r⟩ := s.sl.lat j q zs ej
          have w2 := ne j q w (by rw [ej]; rfl) a
          exact ⟨vs, a, keepB q w2 (by rw [c]; exact fun z => by cases z) b, keepH _ _ w2 c, r.mono g.bb⟩
      sep := fun j k q hjk hj hk ej => by
        by_cases w : j = i
        · subst w
          by_cases l : j < ds.length
          · rw [List.getElem?_set_self l] at hj; cases hj
          · rw [List.getElem?_eq_none (by rw [List.length_set]; omega)] at hj; cases hj
        · by_cases w2 : k = i
          · subst w2
            by_cases l : k < ds.length
            · rw [List.getElem?_set_self l] at hk; cases hk
            · rw [List.getElem?_eq_none (by rw [List.length_set]; omega)] at hk; cases hk
          · rw [List.getElem?_set_ne (Ne.symm w)] at hj
            rw [List.getElem?_set_ne (Ne.symm w2)] at hk
            exact s.sl.sep j k q hjk hj hk ej } }
  have fin := base.setOwn (i := i) hp0 hB' hH' rw2 fun j hj hq => by
    rw [List.getElem?_set_ne (Ne.symm hj)] at hq
    intro w
    exact ne j p hj hq w rfl
  rw [List.set_set] at fin
  have es : σ.set i (some (V.ref p)) = σ := by
    apply List.ext_getElem?
    intro j
    by_cases w : j = i
    · subst w
      rw [List.getElem?_set_self (List.getElem?_eq_some_iff.mp si).1, si]
    · rw [List.getElem?_set_ne (Ne.symm w)]
  rw [es] at fin
  exact hn _ _ _ _ (fin.setV Rep.int) q⟩
end
/-- exchange is known -/
structure KnEx (P : Program) (w : World) (K : PySem.W.Frag) (mg : Str → Option Value) (base : Heap) (k : Nat) : Prop where
  ex : ∃ (f : Addr) (fd : FuncData), FnOk P w K mg base CX0 k f fd ["table", "scale", "row", "column"] (spEx K) ∧ mg "exchange" = some (.ref f) ∧ PySem.W.keepIn K (.ref f) = true ∧ Binds K fd ["table", "scale", "row", "column"] []
theorem px_exC {X : Cx} {j k : Nat} {i ia ib ic : Nat} {e1 e2 e3 e4 : Expr} {x : Str} {p pos pos' spos : Pos} (h : KnEx X.prog X.w X.K X.mg X.base k) (hr : Room j X.A) (hj : k ≤ j) (hg : Gl X "exchange") (hN : X.N.Nodup) (hi : X.N[ia]? = some x) (hx : Loc X.env.scope x)
    (h1 : PX X e1 (tVar i) (eVar i)) (h2 : PX X e2 (tVar ia) (eVar ia)) (h3 : PX X e3 (tVar ib) (eVar ib)) (h4 : PX X e4 (tVar ic) (eVar ic))
    (s1 : starEach [e1, e2, e3, e4] X.env = (false, eval e1 X.env) :: starEach [e2, e3, e4] X.env := by rfl) (s2 : starEach [e2, e3, e4] X.env = (false, eval e2 X.env) :: starEach [e3, e4] X.env := by rfl) (s3 : starEach [e3, e4] X.env = (false, eval e3 X.env) :: starEach [e4] X.env := by rfl) (s4 : starEach [e4] X.env = (false, eval e4 X.env) :: starEach [] X.env := by rfl)
    (hpl : (backTo pos (starEach [e2, e3, e4] X.env)).any (·.1) = false := by rfl)
    (hs : swapsWith (.Call (.Name "exchange" p) [e1, e2, e3, e4] [] pos) (some (.Name x pos')) spos.line X.env = pure false := by rfl) (hf : X.fn x = true ∨ X.env.scope.names.lookup x = some .local := by first | exact .inl rfl | exact .inr rfl) :
    PXS1 X (.Assign [.Name x pos'] (.Call (.Name "exchange" p) [e1, e2, e3, e4] [] pos) spos) (tAsg (tCall (spEx X.K) [] E0 (tCons (tVar i) (tCons (tVar ia) (tCons (tVar ib) (tCons (tVar ic) tNil))))) (gName ia)) (dExC i ia ib ic) := by
  obtain ⟨f, fd, F, hm, hk, hb⟩ := h.ex
  exact ⟨ps_set hN hi hx (pe_call F (hr.mono hj) hg hm hk hb .nil pass0 (pa_cons h1.p (pa_cons h2.p (pa_cons h3.p (pa_cons h4.p pa_nil s4) s3) s2) s1) (by decide) s1 hpl) hs hf, ss_exC⟩
end Dl

namespace Dl
open PySem PySem.Spec PyProof.Rows L2 Slv
/-! ### promises: the solver -/
def gc (a b : Int) : Int := (Nat.gcd a.natAbs b.natAbs : Nat)
def rat (a b : Int) : D := .tup [.int (a / gc a b), .int (b / gc a b)]
def sp_ratio : DSp := fun ds P => ∃ a b : Int, ds = [.int a, .int b] ∧ 0 < b ∧ Bt 9000 b ∧ P (.val (rat a b))
theorem sp_ratio_m : MSp sp_ratio := fun _ _ _ h ⟨a, b, e, p, z, q⟩ => ⟨a, b, e, p, z, h _ q⟩
def sp_first_table : DSp := fun ds P => ∃ (n m : Nat) (goal : Nat → Int) (coef : Nat → Nat → Int) (bound : Nat → Int), ds = [.tup (vec n goal), .tup (rowsT m n coef bound)] ∧ n ≤ 1000 ∧ m ≤ 1000 ∧ P (.own (tab (n + 1 + m) n (VV n goal coef bound)))
theorem sp_first_table_m : MSp sp_first_table := fun _ _ _ h ⟨n, m, g, c, b, e, p, z, q⟩ => ⟨n, m, g, c, b, e, p, z, h _ q⟩
def sp_negative_row : DSp := fun ds P => ∃ (N n : Nat) (t : Nat → Nat → Int), ds = [.lst (tab N n t)] ∧ N ≤ 3000 ∧ n ≤ 1000 ∧ 1 ≤ N ∧ ((∀ i, 1 ≤ i → i < N → 0 ≤ t i 0) → P (.val (.int 0))) ∧ ∀ r : Nat, 1 ≤ r → r < N → t r 0 < 0 → P (.val (.int r))
theorem sp_negative_row_m : MSp sp_negative_row := fun _ _ _ h ⟨N, n, t, e, p, z, w, q, q2⟩ => ⟨N, n, t, e, p, z, w, fun a => h _ (q a), fun r a b c => h _ (q2 r a b c)⟩
def sp_comes_before : DSp := fun ds P => ∃ (N n row k b : Nat) (t : Nat → Nat → Int), ds = [.lst (tab N n t), .int row, .int k, .int b] ∧ N ≤ 3000 ∧ n ≤ 1000 ∧ row < N ∧ k ≤ n ∧ b ≤ n ∧ (∀ i k, i < N → k ≤ n → Bt 9000 (t i k)) ∧ ∀ x : Bool, (x = true ↔ Bef N t row k b) → P (.val (.bl x))
theorem sp_comes_before_m : MSp sp_comes_before := fun _ _ _ h ⟨N, n, r, k, b, t, e, p, z, w, u, v, s, q⟩ => ⟨N, n, r, k, b, t, e, p, z, w, u, v, s, fun x hx => h _ (q x hx)⟩
def sp_entering_column : DSp := fun ds P => ∃ (N n row : Nat) (t : Nat → Nat → Int), ds = [.lst (tab N n t), .int row] ∧ N ≤ 3000 ∧ n ≤ 1000 ∧ row < N ∧ (∀ i k, i < N → k ≤ n → Bt 9000 (t i k)) ∧ ∀ b : Nat, BestTo N t row (n + 1) b → P (.val (.int b))
theorem sp_entering_column_m : MSp sp_entering_column := fun _ _ _ h ⟨N, n, r, t, e, p, z, w, s, q⟩ => ⟨N, n, r, t, e, p, z, w, s, fun x hx => h _ (q x hx)⟩
def sp_at_slacks : DSp := fun ds P => ∃ (n m : Nat) (f : Nat → Int) (l : List Nat), ds = [.lst (vec (n + 1) f), .lst (l.map fun v => D.int (v : Nat)), .int n, .int m] ∧ l.length = n ∧ (∀ v ∈ l, v < n + 1 + m) ∧ (∀ i j, i < n → j < n → l.getD i 0 = l.getD j 0 → i = j) ∧ n ≤ 1000 ∧ m ≤ 1000 ∧
  P (.own (vec m (wt n l f)))
theorem sp_at_slacks_m : MSp sp_at_slacks := fun _ _ _ h ⟨n, m, f, l, e, p, z, w, s, u, q⟩ => ⟨n, m, f, l, e, p, z, w, s, u, h _ q⟩
def WsP (n m : Nat) (goal : Nat → Int) (coef : Nat → Nat → Int) (bound : Nat → Int) : Prop := n ≤ 18 ∧ m ≤ 40 ∧ (∀ k, k < n → 0 ≤ goal k ∧ Bt 100 (goal k)) ∧ ∀ s, s < m → Bt 100 (bound s) ∧ ∀ k, k < n → Bt 100 (coef s k)
def sp_solve : DSp := fun ds P => ∃ (n m : Nat) (goal : Nat → Int) (coef : Nat → Nat → Int) (bound : Nat → Int), ds = [.tup (vec n goal), .tup (rowsT m n coef bound)] ∧ WsP n m goal coef bound ∧
  (∀ (d v : Int) (x w : Nat → Int), Grt n m goal coef bound d v x w → Bt 2000 d → Bt 2000 v → (∀ k, k < n → Bt 2000 (x k)) → (∀ s, s < m → Bt 2000 (w s)) → P (.val (.tup [.bl true, .int v, .lst (vec n x), .lst (vec m w), .int d]))) ∧
  ∀ (d : Int) (w : Nat → Int), Rft n m coef bound d w → Bt 2000 d → (∀ s, s < m → Bt 2000 (w s)) → P (.val (.tup [.bl false, .lst (vec m w), .int d]))
theorem sp_solve_m : MSp sp_solve := fun _ _ _ h ⟨n, m, g, c, b, e, p, q, q2⟩ => ⟨n, m, g, c, b, e, p, fun d v x w a1 a2 a3 a4 a5 => h _ (q d v x w a1 a2 a3 a4 a5), fun d w a1 a2 a3 => h _ (q2 d w a1 a2 a3)⟩
end Dl

namespace Dl
open PySem PySem.Spec PyProof.Rows L2 Slv
def d_first_table : DS :=
  (dSeq (dAsgG (eB1 dLen (eVar 0)) (gV 2))
  (dSeq (dAsg (eLst (aCons (eOp dCat (eLst (aCons (eC (.int 0)) aNil)) (eB1 dList (eVar 0))) aNil)) 3)
  (dSeq (dFor (srcR1 (eVar 2)) (gV 4)
  (dApp 3 (eOp dCat (eLst (aCons (eC (.int 0)) aNil)) (eLc (srcR1 (eVar 2)) (gV 7) uYes (eB1 dInt (eOp (dEq false) (eVar 4) (eVar 7))) [7]))))
  (dSeq (dFor (srcS false (eVar 1)) (gT0 2 (gC0 (gV 5) (gC0 (gV 6) gN0)))
  (dApp 3 (eOp dCat (eLst (aCons (eNeg (eVar 6)) aNil)) (eB1 dList (eVar 5)))))
  (dRetV 3)))))

def d_negative_row : DS :=
  (dSeq (dFor (srcR2 (eC (.int 1)) (eB1 dLen (eVar 0))) (gV 1)
  (dIf (asB (eOp dLt (eOp dIx (eOp dIx (eVar 0) (eVar 1)) (eC (.int 0))) (eC (.int 0))))
  (dRetV 1)
  dNext))
  (dRet (eC (.int 0))))

def d_comes_before : DS :=
  (dSeq (dFor (srcS false (eVar 0)) (gV 4)
  (dSeq (dAsgG (eOp dMul (eOp dIx (eVar 4) (eVar 2)) (eOp dIx (eOp dIx (eVar 0) (eVar 1)) (eVar 3))) (gV 5))
  (dSeq (dAsgG (eOp dMul (eOp dIx (eVar 4) (eVar 3)) (eOp dIx (eOp dIx (eVar 0) (eVar 1)) (eVar 2))) (gV 6))
  (dIf (asB (eOp (dEq true) (eVar 5) (eVar 6)))
  (dRet (eOp dLt (eVar 5) (eVar 6)))
  dNext))))
  (dRet (eC (.bl false))))

def d_entering_column : DS :=
  (dSeq (dAsgG (eC (.int 0)) (gV 2))
  (dSeq (dFor (srcR2 (eC (.int 1)) (eB1 dLen (eOp dIx (eVar 0) (eC (.int 0))))) (gV 3)
  (dIf (uAnd (asB (eOp dGt (eOp dIx (eOp dIx (eVar 0) (eVar 1)) (eVar 3)) (eC (.int 0)))) (uOr (asB (eOp (dEq false) (eVar 2) (eC (.int 0)))) (asB (eCall sp_comes_before [] (aCons (eVar 0) (aCons (eVar 1) (aCons (eVar 3) (aCons (eVar 2) aNil))))))))
  (dAsgG (eVar 3) (gV 2))
  dNext))
  (dRetV 2)))

def d_at_slacks : DS :=
  (dSeq (dAsg (eOp dRep (eLst (aCons (eC (.int 0)) aNil)) (eVar 3)) 4)
  (dSeq (dFor (srcE false (eVar 1)) (gT0 2 (gC0 (gV 5) (gC0 (gV 6) gN0)))
  (dIf (asB (eOp dGt (eVar 6) (eVar 2)))
  (dSet 4 (eOp dSub (eOp dSub (eVar 6) (eVar 2)) (eC (.int 1))) (eOp dIx (eVar 0) (eOp dAdd (eVar 5) (eC (.int 1)))))
  dNext))
  (dRetV 4)))

def d_ratio : DS :=
  (dSeq (dIf (asB (eOp (dEq false) (eVar 1) (eC (.int 0))))
  dNever
  dNext)
  (dSeq (dAsgG (eGcd (aCons (eVar 0) (aCons (eVar 1) aNil))) (gV 2))
  (dSeq (dIf (asB (eOp dLt (eVar 1) (eC (.int 0))))
  (dAsgG (eNeg (eVar 2)) (gV 2))
  dNext)
  (dRet (eTup (aCons (eOp dFdiv (eVar 0) (eVar 2)) (aCons (eOp dFdiv (eVar 1) (eVar 2)) aNil)))))))
def d_solve : DS :=
  (dSeq (dPar 2 3 (eB1 dLen (eVar 0)) (eB1 dLen (eVar 1)))
  (dSeq (dAsg (eCall sp_first_table [] (aCons (eVar 0) (aCons (eVar 1) aNil))) 4)
  (dSeq (dAsg (eListR2 (eC (.int 1)) (eOp dAdd (eVar 2) (eC (.int 1)))) 5)
  (dSeq (dAsgG (eC (.int 1)) (gV 6))
  (dSeq (dAsgG (eCallB sp_negative_row [] (aConsB (eVar 4) aNil)) (gV 7))
  (dSeq (dWhile (asB (eOp dGt (eVar 7) (eC (.int 0))))
  (dSeq (dAsgG (eCallB sp_entering_column [] (aConsB (eVar 4) (aConsB (eVar 7) aNil))) (gV 8))
  (dSeq (dIf (asB (eOp (dEq false) (eVar 8) (eC (.int 0))))
  (dFrz 5 (dSeq (dAsg (eCall sp_at_slacks [] (aCons (eLc (srcS true (eOp dIx (eVar 4) (eVar 7))) (gV 11) uYes (eNeg (eVar 11)) [11]) (aCons (eVar 5) (aCons (eVar 2) (aCons (eVar 3) aNil))))) 9)
  (dSeq (dIf (asB (eOp dGt (eVar 7) (eVar 2)))
  (dSet 9 (eOp dSub (eOp dSub (eVar 7) (eVar 2)) (eC (.int 1))) (eVar 6))
  dNext)
  (dFrz 9 (dRet (eTup (aCons (eC (.bl false)) (aCons (eVar 9) (aCons (eVar 6) aNil)))))))))
  dNext)
  (dSeq (dExC 4 6 7 8)
  (dSeq (dSet 5 (eOp dSub (eVar 8) (eC (.int 1))) (eVar 7))
  (dAsgG (eCallB sp_negative_row [] (aConsB (eVar 4) aNil)) (gV 7)))))))
  (dFrz 5 (dSeq (dAsgG (eLc (srcR2 (eC (.int 1)) (eOp dAdd (eVar 2) (eC (.int 1)))) (gV 12) uYes (eOp dIx (eOp dIx (eVar 4) (eVar 12)) (eC (.int 0))) [12]) (gV 10))
  (dRet (eTup (aCons (eC (.bl true)) (aCons (eOp dIx (eOp dIx (eVar 4) (eC (.int 0))) (eC (.int 0))) (aCons (eVar 10) (aCons (eCall sp_at_slacks [] (aCons (eOp dIx (eVar 4) (eC (.int 0))) (aCons (eVar 5) (aCons (eVar 2) (aCons (eVar 3) aNil))))) (aCons (eVar 6) aNil)))))))))))))))
end Dl

namespace Dl
open PySem PySem.Spec PyProof.Rows L2 Slv
abbrev RD (P : R → Prop) : DN := { nx := fun _ => P (.val .non), rt := P }
theorem le_line {n : Nat} (h : n ≤ 1000000) : n ≤ sizeLine := by
  rw [sizeLine_eq]; omega
theorem log2_of {a b : Nat} (h : a < 2 ^ b) : a.log2 < b ∨ a = 0 := by
  by_cases e : a = 0
  · exact .inr e
  · exact .inl ((Nat.log2_lt e).mpr h)
theorem gc_pos {a b : Int} (h : 0 < b) : 0 < gc a b := by
  unfold gc
  have : 0 < Nat.gcd a.natAbs b.natAbs := Nat.gcd_pos_of_pos_right _ (by omega)
  omega
theorem gc_le {a b : Int} (h : 0 < b) : gc a b ≤ b := by
  unfold gc
  have := Nat.gcd_le_right a.natAbs (show 0 < b.natAbs by omega)
  omega
theorem bt_le {n : Nat} {a b : Int} (h : Bt n b) (h0 : 0 ≤ a) (hb : a ≤ b) : Bt n a := by
  unfold Bt at *
  omega
theorem bt_log {n : Nat} {a : Int} (h : Bt n a) (hn : 0 < n) : a.natAbs.log2 < n := by
  rcases log2_of h with q | q
  · exact q
  · rw [q]; simpa using hn
theorem mulW {a b : Nat} {i j : Int} (hi : Bt a i) (hj : Bt b j) (ha : 0 < a) (hb : 0 < b) (h : a + b ≤ 1000000) : CMulW i j := by
  have h1 := bt_log hi ha
  have h2 := bt_log hj hb
  unfold CMulW
  omega
theorem pure_ratio (ds : List D) (P : R → Prop) (h : sp_ratio ds P) : d_ratio (RD P) (startD 3 ds) := by
  obtain ⟨a, b, rfl, hb, hz, q⟩ := h
  have g0 := gc_pos (a := a) hb
  have g1 : Bt 9000 (gc a b) := bt_le hz (by omega) (gc_le hb)
  have g2 := bt_log g1 (by omega)
  refine ⟨fun h => absurd (of_decide_eq_true h) (by omega), fun _ => ⟨_, rfl, _, rfl, _, rfl, ⟨fun h => absurd (of_decide_eq_true h) (by omega), fun _ => ?_⟩⟩⟩
  exact ⟨⟨g0, g2⟩, _, rfl, ⟨g0, g2⟩, _, rfl, le_line (by show 2 ≤ 1000000; decide), _, ⟨rfl, rfl⟩, q⟩
theorem pure_negative_row (ds : List D) (P : R → Prop) (h : sp_negative_row ds P) : d_negative_row (RD P) (startD 2 ds) := by
  obtain ⟨N, n, t, rfl, hN, hn, h1, q0, q1⟩ := h
  refine ⟨tab N n t, rfl, ⟨by decide, by decide, by rw [tab_len]; omega, by rw [tab_len]; omega⟩, ?_⟩
  refine ⟨fun i ds' => (∃ s, ds' = [.val (.lst (tab N n t)), s]) ∧ ∀ j, 1 ≤ j → j < i + 1 → 0 ≤ t j 0, ⟨⟨_, rfl⟩, fun j a b => by omega⟩, ?_, ?_⟩
  · rintro i d ds' hd ⟨⟨s, rfl⟩, hi⟩
    obtain ⟨hlt, rfl⟩ := rgD_some hd
    rw [tab_len] at hlt
    have e1 : atI (tab N n t) (1 + (i : Int)) = some (.lst (vec (n + 1) (t (i + 1)))) := atI_tab (by omega) (by omega)
    have e2 : atI (vec (n + 1) (t (i + 1))) 0 = some (.int (t (i + 1) 0)) := atI_vec (by omega) rfl
    refine ⟨_, e1, _, e2, fun h => ?_, fun h => ?_⟩
    · have := q1 (i + 1) (by omega) (by omega) (of_decide_eq_true h)
      rw [Int.natCast_add, Int.add_comm] at this
      exact this
    · refine ⟨⟨_, rfl⟩, fun j a b => ?_⟩
      have := of_decide_eq_false h
      by_cases z : j = i + 1
      · rw [z]; omega
      · exact hi j a (by omega)
  · rintro ds' ⟨⟨s, rfl⟩, hi⟩
    rw [rgD_len, tab_len] at hi
    exact ⟨_, ⟨rfl, rfl⟩, q0 fun i a b => hi i a (by omega)⟩
open Classical in
theorem pure_comes_before (ds : List D) (P : R → Prop) (h : sp_comes_before ds P) : d_comes_before (RD P) (startD 7 ds) := by
  obtain ⟨N, n, row, k, b, t, rfl, hN, hn, hr, hk, hb, hB, q⟩ := h
  refine ⟨tab N n t, rfl, fun i ds' => (∃ s1 s2 s3, ds' = [.val (.lst (tab N n t)), .val (.int row), .val (.int k), .val (.int b), s1, s2, s3]) ∧ ∀ j, j < i → t j b * t row k - t j k * t row b = 0, ⟨⟨_, _, _, rfl⟩, fun j a => by omega⟩, ?_, ?_⟩
  · rintro i d ds' hd ⟨⟨s1, s2, s3, rfl⟩, hi⟩
    obtain ⟨hlt, rfl⟩ := mp_some hd
    have r1 : atI (tab N n t) (row : Int) = some (.lst (vec (n + 1) (t row))) := atI_tab hr rfl
    have c1 : atI (vec (n + 1) (t i)) (k : Int) = some (.int (t i k)) := atI_vec (by omega) rfl
    have c2 : atI (vec (n + 1) (t i)) (b : Int) = some (.int (t i b)) := atI_vec (by omega) rfl
    have c3 : atI (vec (n + 1) (t row)) (b : Int) = some (.int (t row b)) := atI_vec (by omega) rfl
    have c4 : atI (vec (n + 1) (t row)) (k : Int) = some (.int (t row k)) := atI_vec (by omega) rfl
    refine ⟨_, c1, _, r1, _, c3, mulW (hB _ _ hlt hk) (hB _ _ hr hb) (by omega) (by omega) (by omega), _, rfl, _, c2, _, r1, _, c4, mulW (hB _ _ hlt hb) (hB _ _ hr hk) (by omega) (by omega) (by omega), _, rfl, fun h => ?_, fun h => ?_⟩
    · have h' : (!decide (t i k * t row b = t i b * t row k)) = true := h
      have hne : t i k * t row b ≠ t i b * t row k := by simpa using h'
      refine ⟨_, ⟨rfl, rfl⟩, q _ ⟨fun e => ⟨i, hlt, ?_, hi⟩, fun ⟨j, hj, hp, hz⟩ => ?_⟩⟩
      · have := of_decide_eq_true e
        show 0 < t i b * t row k - t i k * t row b
        omega
      · refine decide_eq_true ?_
        rcases Nat.lt_trichotomy j i with z | z | z
        · have := hi j z
          have hp' : 0 < t j b * t row k - t j k * t row b := hp
          omega
        · subst z
          have hp' : 0 < t j b * t row k - t j k * t row b := hp
          omega
        · have hz' : t i b * t row k - t i k * t row b = 0 := hz i z
          omega
    · have h' : (!decide (t i k * t row b = t i b * t row k)) = false := h
      have he : t i k * t row b = t i b * t row k := by simpa using h'
      refine ⟨⟨_, _, _, rfl⟩, fun j hj => ?_⟩
      by_cases z : j = i
      · subst z; omega
      · exact hi j (by omega)
  · rintro ds' ⟨⟨s1, s2, s3, rfl⟩, hi⟩
    rw [tab_len] at hi
    refine ⟨_, ⟨rfl, rfl⟩, q false ⟨fun e => (by cases e), fun ⟨j, hj, hp, hz⟩ => ?_⟩⟩
    have := hi j hj
    have hp' : 0 < t j b * t row k - t j k * t row b := hp
    omega
theorem pure_entering_column (ds : List D) (P : R → Prop) (h : sp_entering_column ds P) : d_entering_column (RD P) (startD 4 ds) := by
  obtain ⟨N, n, row, t, rfl, hN, hn, hr, hB, q⟩ := h
  have r0 : atI (tab N n t) 0 = some (.lst (vec (n + 1) (t 0))) := atI_tab (by omega) rfl
  refine ⟨_, rfl, _, r0, _, rfl, ⟨by decide, by decide, by rw [vec_len]; omega, by rw [vec_len]; omega⟩, ?_⟩
  refine ⟨fun i ds' => ∃ (b : Nat) (s : S), ds' = [.val (.lst (tab N n t)), .val (.int row), .val (.int b), s] ∧ BestTo N t row (i + 1) b, ⟨0, _, rfl, best_start⟩, ?_, ?_⟩
  · rintro i d ds' hd ⟨b, s, rfl, hb⟩
    obtain ⟨hlt, rfl⟩ := rgD_some hd
    rw [vec_len] at hlt
    have r1 : atI (tab N n t) (row : Int) = some (.lst (vec (n + 1) (t row))) := atI_tab hr rfl
    have c1 : atI (vec (n + 1) (t row)) (1 + (i : Int)) = some (.int (t row (i + 1))) := atI_vec (by omega) (by omega)
    have ei : (1 + (i : Int)) = ((i + 1 : Nat) : Int) := by omega
    have bn : b ≤ n := by
      rcases hb with ⟨e, _⟩ | ⟨_, h2, _⟩ <;> omega
    refine ⟨_, r1, _, c1, fun h => ⟨fun h2 => ⟨fun _ => ⟨_, rfl, i + 1, _, by rw [ei]; rfl, ?_⟩, fun z => (by cases z)⟩, fun h2 => ?_⟩, fun h => ⟨fun z => (by cases z), fun _ => ⟨b, _, rfl, ?_⟩⟩⟩
    · have e0 : b = 0 := by have := of_decide_eq_true h2; omega
      exact best_new hb (by omega) (of_decide_eq_true h) (.inl e0)
    · have e0 : b ≠ 0 := by have := of_decide_eq_false h2; omega
      refine ⟨_, rfl, _, rfl, _, rfl, _, rfl, N, n, row, i + 1, b, t, by rw [ei]; rfl, hN, hn, hr, by omega, bn, hB, fun x hx => ⟨fun h3 => ⟨_, rfl, i + 1, _, by rw [ei]; rfl, ?_⟩, fun h3 => ⟨b, _, rfl, ?_⟩⟩⟩
      · exact best_new hb (by omega) (of_decide_eq_true h) (.inr (hx.mp h3))
      · exact best_keep hb e0 fun w => by rw [hx.mpr w] at h3; cases h3
    · exact best_not hb (by have := of_decide_eq_false h; omega)
  · rintro ds' ⟨b, s, rfl, hb⟩
    rw [rgD_len, vec_len] at hb
    refine q b ?_
    have e : ((n + 1 : Nat) : Int) - 1 = (n : Int) := by omega
    rw [e, Int.toNat_natCast] at hb
    exact hb
open Classical in
theorem pure_at_slacks (ds : List D) (P : R → Prop) (h : sp_at_slacks ds P) : d_at_slacks (RD P) (startD 7 ds) := by
  obtain ⟨n, m, f, l, rfl, hl, hv, hi, hn, hm, q⟩ := h
  -- behind the first i places
  have e0 : (List.replicate (m : Int).toNat [D.int 0]).flatten = vec m fun _ => 0 := by
    rw [Int.toNat_natCast]
    clear q hv
    induction m with
    | zero => rfl
    | succ m ih =>
      rw [List.replicate_succ', List.flatten_append, ih (by omega)]
      unfold vec
      rw [mp_succ]; rfl
  refine ⟨_, rfl, le_line (by show 1 ≤ 1000000; decide), [.int 0], m, rfl, rfl, by omega, by omega, le_line (by show 1 * (m : Int).toNat ≤ 1000000; omega), _, rfl, ?_⟩
  rw [e0]
  refine ⟨_, rfl, fun i ds' => ∃ s1 s2, ds' = [.val (.lst (vec (n + 1) f)), .val (.lst (l.map fun v => D.int (v : Nat))), .val (.int n), .val (.int m), .own (vec m fun s => sm i fun j => if l.getD j 0 = n + 1 + s then f (j + 1) else 0), s1, s2], ⟨_, _, rfl⟩, ?_, ?_⟩
  · rintro i d ds' hd ⟨s1, s2, rfl⟩
    obtain ⟨x, hx, rfl⟩ := enumD_get hd
    rw [List.getElem?_map] at hx
    cases hx2 : l[i]? with
    | none => rw [hx2] at hx; cases hx
    | some v =>
      rw [hx2] at hx
      cases hx
      have hil : i < n := by rw [← hl]; exact (List.getElem?_eq_some_iff.mp hx2).1
      have hg : l.getD i 0 = v := by rw [List.getD_eq_getElem?_getD, hx2]; rfl
      have vb := hv v (List.mem_of_getElem? hx2)
      have step : ∀ s, sm (i + 1) (fun j => if l.getD j 0 = n + 1 + s then f (j + 1) else 0) = if v = n + 1 + s then f (i + 1) else sm i (fun j => if l.getD j 0 = n + 1 + s then f (j + 1) else 0) := fun s => by
        show sm i _ + (if l.getD i 0 = n + 1 + s then f (i + 1) else 0) = _
        rw [hg]
        by_cases z : v = n + 1 + s
        · rw [if_pos z, if_pos z, sm_zero, Int.zero_add]
          intro j hj
          rw [if_neg]
          intro w
          have := hi j i (by omega) hil (by rw [w, hg, z])
          omega
        · rw [if_neg z, if_neg z, Int.add_zero]
      refine ⟨_, rfl, ⟨_, rfl⟩, rfl, rfl, fun h => ?_, fun h => ?_⟩
      · have hv1 : (n : Int) < (v : Int) := of_decide_eq_true h
        have a1 : atI (vec (n + 1) f) ((i : Int) + 1) = some (.int (f (i + 1))) := atI_vec (by omega) (by omega)
        have a2 : ixN (vec m fun s => sm i fun j => if l.getD j 0 = n + 1 + s then f (j + 1) else 0).length ((v : Int) - n - 1) = some (v - n - 1) := by rw [vec_len]; exact ixN_nat (by omega) (by omega)
        have key : (vec m fun s => sm i fun j => if l.getD j 0 = n + 1 + s then f (j + 1) else 0).set (v - n - 1) (D.int (f (i + 1))) = vec m fun s => sm (i + 1) fun j => if l.getD j 0 = n + 1 + s then f (j + 1) else 0 := by
          rw [vec, mp_set]
          refine mp_congr fun s hs => ?_
          show _ = D.int (sm (i + 1) fun j => if l.getD j 0 = n + 1 + s then f (j + 1) else 0)
          rw [step]
          by_cases z : s = v - n - 1
          · rw [if_pos z, if_pos (by omega)]
          · rw [if_neg z, if_neg (by omega)]
        exact ⟨_, a1, _, _, _, rfl, rfl, a2, .val (.int i), .val (.int v), congrArg (fun z => [S.val (.lst (vec (n + 1) f)), .val (.lst (l.map fun v => D.int (v : Nat))), .val (.int n), .val (.int m), .own z, .val (.int i), .val (.int v)]) key⟩
      · have hv1 : ¬ (n : Int) < (v : Int) := of_decide_eq_false h
        refine ⟨.val (.int i), .val (.int v), congrArg (fun z => [S.val (.lst (vec (n + 1) f)), .val (.lst (l.map fun v => D.int (v : Nat))), .val (.int n), .val (.int m), .own z, .val (.int i), .val (.int v)]) (vec_congr fun s hs => ?_)⟩
        rw [step, if_neg (by omega)]
  · rintro ds' ⟨s1, s2, rfl⟩
    rw [enumD_len, List.length_map, hl]
    exact q
end Dl

namespace Dl
open PySem PySem.Spec PyProof.Rows L2 Slv
theorem fm_some {α : Type} {n : Nat} {g : Nat → α} : (List.range n).filterMap (fun i => some (g i)) = (List.range n).map g := by
  rw [← List.filterMap_eq_map]; rfl
theorem vec_cons {n : Nat} {f : Nat → Int} : vec (n + 1) f = [D.int (f 0)] ++ vec n fun i => f (i + 1) := mp_cons n _
theorem tab_succ {N n : Nat} {t : Nat → Nat → Int} : tab (N + 1) n t = tab N n t ++ [.lst (vec (n + 1) (t N))] := mp_succ N _
theorem pure_first_table (ds : List D) (P : R → Prop) (h : sp_first_table ds P) : d_first_table (RD P) (startD 8 ds) := by
  obtain ⟨n, m, goal, coef, bound, rfl, hn, hm, q⟩ := h
  have r0 : [D.int 0] ++ vec n goal = vec (n + 1) (VV n goal coef bound 0) := by
    rw [vec_cons]
    refine congr (congrArg _ (by rw [VV_goal0])) (vec_congr fun i _ => VV_goal.symm)
  refine ⟨_, rfl, _, rfl, _, rfl, le_line (by show 1 ≤ 1000000; decide), _, rfl, [.int 0], vec n goal, rfl, rfl, le_line (by show 1 + (vec n goal).length ≤ 1000000; rw [vec_len]; omega), _, rfl, le_line (by show 1 ≤ 1000000; decide), _, rfl, ?_⟩
  rw [vec_len]
  have t0 : [D.lst ([D.int 0] ++ vec n goal)] = tab 1 n (VV n goal coef bound) := by rw [r0]; rfl
  refine ⟨by omega, by omega, fun i ds' => ∃ s1 s2 s3 s4, ds' = [.val (.tup (vec n goal)), .val (.tup (rowsT m n coef bound)), .val (.int n), .own (tab (i + 1) n (VV n goal coef bound)), s1, s2, s3, s4],
    ⟨_, _, _, _, by rw [← t0]; rfl⟩, ?_, ?_⟩
  · rintro i d ds' hd ⟨s1, s2, s3, s4, rfl⟩
    obtain ⟨hlt, rfl⟩ := rgD_some hd
    rw [Int.toNat_natCast] at hlt
    refine ⟨_, rfl, le_line (by show 1 ≤ 1000000; decide), by omega, by omega, le_line (by rw [rgD_len]; omega), fun j => some (.int (if j = i then 1 else 0)), fun j d2 hd2 => ?_, ?_⟩
    · obtain ⟨hj, rfl⟩ := rgD_some hd2
      refine ⟨fun _ => ⟨.int (if j = i then 1 else 0), ?_, rfl⟩, fun z => (by cases z)⟩
      show some (D.int (if decide ((0 : Int) + i = 0 + j) = true then 1 else 0)) = _
      by_cases z : j = i
      · rw [if_pos z, if_pos (decide_eq_true (by omega))]
      · rw [if_neg z, if_neg (fun w => z (by have := of_decide_eq_true w; omega))]
    · rw [fm_some, rgD_len, Int.toNat_natCast]
      have e : [D.int 0] ++ (List.range n).map (fun j => D.int (if j = i then 1 else 0)) = vec (n + 1) (VV n goal coef bound (i + 1)) := by
        rw [vec_cons]
        refine congr (congrArg _ ?_) (mp_congr fun j hj => ?_)
        · rw [VV_unit (by omega) (by omega), if_neg (by omega)]
        · show _ = D.int (VV n goal coef bound (i + 1) (j + 1))
          rw [VV_unit (by omega) (by omega)]
          by_cases z : j = i
          · rw [if_pos z, if_pos (by omega)]
          · rw [if_neg z, if_neg (by omega)]
      refine ⟨[.int 0], _, rfl, rfl, le_line (by rw [mp_len]; show 1 + n ≤ 1000000; omega), _, rfl, ?_, ?_⟩
      · show (tab (i + 1) n (VV n goal coef bound)).length < sizeLine
        rw [tab_len, sizeLine_eq]; omega
      · exact ⟨_, _, _, _, by rw [e, tab_succ (N := i + 1)]; rfl⟩
  · rintro ds' ⟨s1, s2, s3, s4, rfl⟩
    rw [rgD_len, Int.toNat_natCast]
    refine ⟨_, rfl, fun i ds' => ∃ s1 s2 s3 s4, ds' = [.val (.tup (vec n goal)), .val (.tup (rowsT m n coef bound)), .val (.int n), .own (tab (n + 1 + i) n (VV n goal coef bound)), s1, s2, s3, s4], ⟨_, _, _, _, rfl⟩, ?_, ?_⟩
    · rintro i d ds' hd ⟨s1, s2, s3, s4, rfl⟩
      obtain ⟨hlt, rfl⟩ := mp_some hd
      have e : [D.int (-bound i)] ++ vec n (coef i) = vec (n + 1) (VV n goal coef bound (n + 1 + i)) := by
        rw [vec_cons]
        refine congr (congrArg _ ?_) (vec_congr fun j hj => ?_)
        · rw [VV_bound]
        · rw [VV_coef]
      refine ⟨_, rfl, ⟨_, rfl⟩, rfl, rfl, _, rfl, le_line (by show 1 ≤ 1000000; decide), _, rfl, [.int (-bound i)], vec n (coef i), rfl, rfl, le_line (by show 1 + (vec n (coef i)).length ≤ 1000000; rw [vec_len]; omega), _, rfl, ?_, ?_⟩
      · show (tab (n + 1 + i) n (VV n goal coef bound)).length < sizeLine
        rw [tab_len, sizeLine_eq]; omega
      · exact ⟨_, _, _, _, by rw [e, show n + 1 + (i + 1) = n + 1 + i + 1 by omega, tab_succ (N := n + 1 + i)]; rfl⟩
    · rintro ds' ⟨s1, s2, s3, s4, rfl⟩
      rw [rows_len]
      exact q
end Dl

namespace Dl
open PySem PySem.Spec PyProof.Rows L2 Slv
/-! ### exchange -/
def PX4 (X : Cx) (body : List Stmt) (t4 : TS) (d : DS) : Prop := ∃ t1 t2 t3, PSs X body (tSeq t1 (tSeq t2 (tSeq t3 t4))) ∧ SS X.K (tSeq t1 (tSeq t2 t3)) d
theorem px_4 {X : Cx} {s1 s2 s3 s4 : Stmt} {t1 t2 t3 t4 : TS} {d1 d2 d3 : DS} (h1 : PXS1 X s1 t1 d1) (h2 : PXS1 X s2 t2 d2) (h3 : PXS1 X s3 t3 d3) (h4 : PS X s4 t4) : PX4 X [s1, s2, s3, s4] t4 (dSeq d1 (dSeq d2 d3)) :=
  ⟨t1, t2, t3, pss_cons h1.p (pss_cons h2.p (pss_cons h3.p (pss_one h4))), ss_seq h1.s (ss_seq h2.s h3.s)⟩
def d_exchange3 : DS :=
  dSeq (dAsgG (eOp dIx (eVar 0) (eVar 2)) (gV 4)) (dSeq (dAsgG (eOp dIx (eVar 4) (eVar 3)) (gV 5)) (dFor (srcR1 (eB1 dLen (eVar 0))) (gV 6)
    (dSeq (dAsgG (eOp dIx (eVar 0) (eVar 6)) (gV 7)) (dSeq (dAsgG (eOp dIx (eVar 7) (eVar 3)) (gV 8))
    (dEx 0 6 3 8 (eLc (srcR1 (eB1 dLen (eVar 7))) (gV 9) uYes (eOp dFdiv (eOp dSub (eOp dMul (eOp dIx (eVar 7) (eVar 9)) (eVar 5)) (eOp dMul (eVar 8) (eOp dIx (eVar 4) (eVar 9)))) (eVar 1)) [9]))))))
theorem tab_congr {N n : Nat} {t u : Nat → Nat → Int} (h : ∀ i k, i < N → k ≤ n → t i k = u i k) : tab N n t = tab N n u := mp_congr fun i hi => by
  rw [vec_congr fun k hk => h i k hi (by omega)]
theorem pure_exchange3 {p : Addr} {N n : Nat} {sc : Int} {row col : Nat} {t : Nat → Nat → Int} {Q : List S → Prop} (h : ExP N n sc row col t)
    (q : ∀ s4 s6 s7 s8 s9, Q [.lat p (tab N n (exT sc row col t)), .val (.int sc), .val (.int row), .val (.int col), s4, .val (.int (t row col)), s6, s7, s8, s9]) :
    d_exchange3 { nx := Q, rt := fun _ => False } [.lat p (tab N n t), .val (.int sc), .val (.int row), .val (.int col), .no, .no, .no, .no, .no, .no] := by
  obtain ⟨hN, hn, hr, hc, h0, hs, hB⟩ := h
  have r1 : atI (tab N n t) (row : Int) = some (.lst (vec (n + 1) (t row))) := atI_tab hr rfl
  have r2 : atI (vec (n + 1) (t row)) (col : Int) = some (.int (t row col)) := atI_vec (by omega) rfl
  refine ⟨_, r1, _, rfl, _, r2, _, rfl, _, rfl, ?_⟩
  rw [tab_len]
  have start : (fun i k => if i < 0 then exT sc row col t i k else t i k) = t := by
    funext i k; rw [if_neg (by omega)]
  refine ⟨by omega, by omega, fun i ds' => ∃ s6 s7 s8 s9, ds' = [.lat p (tab N n fun j k => if j < i then exT sc row col t j k else t j k), .val (.int sc), .val (.int row), .val (.int col), .val (.lst (vec (n + 1) (t row))), .val (.int (t row col)), s6, s7, s8, s9],
    ⟨_, _, _, _, by rw [start]; rfl⟩, ?_, ?_⟩
  · rintro i d ds' hd ⟨s6, s7, s8, s9, rfl⟩
    obtain ⟨hlt, rfl⟩ := rgD_some hd
    rw [Int.toNat_natCast] at hlt
    have e1 : atI (tab N n fun j k => if j < i then exT sc row col t j k else t j k) (0 + (i : Int)) = some (.lst (vec (n + 1) (t i))) := by
      rw [atI_tab hlt (by omega)]
      refine congrArg (fun z => some (D.lst z)) (vec_congr fun k _ => if_neg (by omega))
    have e2 : atI (vec (n + 1) (t i)) (col : Int) = some (.int (t i col)) := atI_vec (by omega) rfl
    refine ⟨_, e1, _, rfl, _, e2, _, rfl, _, rfl, ?_⟩
    rw [vec_len]
    refine ⟨by omega, by omega, le_line (by rw [rgD_len]; omega), fun k => some (.int ((t i k * t row col - t i col * t row k) / sc)), fun k d2 hd2 => ?_, ?_⟩
    · obtain ⟨hk, rfl⟩ := rgD_some hd2
      rw [Int.toNat_natCast] at hk
      have a1 : atI (vec (n + 1) (t i)) (0 + (k : Int)) = some (.int (t i k)) := atI_vec hk (by omega)
      have a2 : atI (vec (n + 1) (t row)) (0 + (k : Int)) = some (.int (t row k)) := atI_vec hk (by omega)
      exact ⟨fun _ => ⟨_, a1, mulW (hB _ _ hlt (by omega)) (hB _ _ hr hc) (by omega) (by omega) (by omega), _, a2, mulW (hB _ _ hlt hc) (hB _ _ hr (by omega)) (by omega) (by omega) (by omega), ⟨h0, bt_log hs (by omega)⟩, _, rfl, rfl⟩, fun z => (by cases z)⟩
    · rw [fm_some, rgD_len, Int.toNat_natCast]
      refine ⟨p, _, _, (0 + (i : Int)), i, col, col, .int (t i col), rfl, rfl, rfl, ?_, rfl, ?_, rfl, ?_⟩
      · rw [tab_len]; exact ixN_nat hlt (by omega)
      · rw [mp_len]; exact ixN_nat (by omega) rfl
      · refine ⟨.val (.int (0 + (i : Int))), .val (.lst (vec (n + 1) (t i))), .val (.int (t i col)), s9, congrArg (fun z => [S.lat p z, .val (.int sc), .val (.int row), .val (.int col), .val (.lst (vec (n + 1) (t row))), .val (.int (t row col)), .val (.int (0 + (i : Int))), .val (.lst (vec (n + 1) (t i))), .val (.int (t i col)), s9]) ?_⟩
        rw [tab, mp_set, mp_set]
        refine mp_congr fun j hj => ?_
        by_cases z : j = i
        · subst z
          rw [if_pos rfl]
          refine congrArg D.lst (mp_congr fun k hk => ?_)
          have e3 : (if j < j + 1 then exT sc row col t j k else t j k) = exT sc row col t j k := if_pos (by omega)
          show _ = D.int (if j < j + 1 then exT sc row col t j k else t j k)
          rw [e3]
          show (if k = col then D.int (t j col) else D.int ((t j k * t row col - t j col * t row k) / sc)) = D.int (if k = col then t j col else (t j k * t row col - t j col * t row k) / sc)
          by_cases w : k = col
          · rw [if_pos w, if_pos w]
          · rw [if_neg w, if_neg w]
        · rw [if_neg z]
          refine congrArg D.lst (vec_congr fun k hk => ?_)
          show (if j < i then exT sc row col t j k else t j k) = (if j < i + 1 then exT sc row col t j k else t j k)
          by_cases w : j < i
          · rw [if_pos w, if_pos (by omega)]
          · rw [if_neg w, if_neg (by omega)]
  · rintro ds' ⟨s6, s7, s8, s9, rfl⟩
    rw [rgD_len, Int.toNat_natCast]
    rw [tab_congr (u := exT sc row col t) fun i k hi _ => if_pos hi]
    exact q _ _ _ _ _
theorem ok_exchange {P : Program} {w : World} {K : PySem.W.Frag} {mg : Str → Option Value} {base : Heap} {params : Arguments} {body : List Stmt} {scope : Scope} {f : Addr} {fd : FuncData} (F : FunD K "exchange" "exchange" params body scope [] [] f fd)
    (S : FnScope ["table", "scale", "row", "column", "pivot", "lead", "place", "line", "part", "k"] ["table", "scale", "row", "column"] scope)
    (hb : ∀ (cdv : Value) (A : Around) (outer : List Env) (s : Shared) (H : Hp) (E : XK), PX4 (cxOf CX0 P w K mg base ["table", "scale", "row", "column", "pivot", "lead", "place", "line", "part", "k"] "exchange" scope f cdv A outer s H E).nox body (tRet (tVar 5)) d_exchange3) :
    FnOk P w K mg base CX0 1 f fd ["table", "scale", "row", "column"] (spEx K) := by
  refine F.ok S (fun vs H Q E ⟨p, B, ws, N, n, sc, row, col, t, e, _⟩ => by rw [e]; rfl) fun cdv A outer s H vs Q E hr ⟨p, B, ws, N, n, sc, row, col, t, e, sm, hB, hH, rw', pre, q⟩ => ?_
  obtain ⟨t1, t2, t3, hp, hs⟩ := hb cdv A outer s H E
  refine ⟨_, PSs.nox hp, ?_⟩
  subst e
  have r : Reps K B [V.int sc, .int row, .int col] [.int sc, .int row, .int col] := .cons .int (.cons .int (.cons .int .nil))
  have go := hs.run (E := { nx := fun σ H => tRet (tVar 5) { nx := fun _ H' => Q .non H', rt := Q } σ H, rt := Q }) (Dn := { nx := fun ds' => ∃ s4 s6 s7 s8 s9, ds' = [.lat p (tab N n (exT sc row col t)), .val (.int sc), .val (.int row), .val (.int col), s4, .val (.int (t row col)), s6, s7, s8, s9], rt := fun _ => False })
    (sn_startL (M := "table") (N := ["scale", "row", "column", "pivot", "lead", "place", "line", "part", "k"]) sm r hB hH rw') (fun σ' H' B' ds' s' ⟨s4, s6, s7, s8, s9, e⟩ => ?_) (fun _ _ _ _ _ z => z.elim) (fun _ _ _ _ _ z => z.elim) (fun _ _ _ _ _ _ z => z.elim) (pure_exchange3 pre fun s4 s6 s7 s8 s9 => ⟨s4, s6, s7, s8, s9, rfl⟩)
  · exact go
  · subst e
    obtain ⟨vs', _, hB', hH', r'⟩ := s'.sl.lat 0 _ _ rfl
    obtain ⟨v5, e5, r5⟩ := s'.sl.val 5 _ rfl
    refine ⟨v5, e5, ?_⟩
    rw [rep_int r5]
    exact q H' B' vs' s'.gr hB' hH' r'
end Dl

namespace Dl
open PySem PySem.Spec PyProof.Rows L2 Slv
def outD (l : List Nat) : List D := l.map fun v => D.int (v : Nat)
theorem out_l0 (n : Nat) : rgD 1 n = outD (l0 n) := by
  unfold rgD outD l0
  rw [List.map_map]
  refine List.map_congr_left fun i _ => ?_
  show D.int (1 + (i : Int)) = D.int ((i + 1 : Nat) : Int)
  rw [Int.natCast_add, Int.add_comm]; rfl
theorem fact18 : ∀ n, n ≤ 19 → fact n ≤ 2 ^ 60 := by decide
theorem big_le {n b : Nat} (hn : n ≤ 18) (hb : b = 2 ^ 100) : fact (n + 1) * b ^ (n + 1) < 2 ^ 1970 := by
  have h1 := fact18 (n + 1) (by omega)
  have h2 : b ^ (n + 1) ≤ 2 ^ 1900 := by
    rw [hb, ← Nat.pow_mul]
    exact Nat.pow_le_pow_right (by decide) (by omega)
  calc fact (n + 1) * b ^ (n + 1) ≤ 2 ^ 60 * 2 ^ 1900 := Nat.mul_le_mul h1 h2
    _ = 2 ^ 1960 := by rw [← Nat.pow_add]
    _ < 2 ^ 1970 := Nat.pow_lt_pow_right (by decide) (by decide)
section
variable {n m : Nat} {goal : Nat → Int} {coef : Nat → Nat → Int} {bound : Nat → Int} {l : List Nat}
theorem ws_size (h : WsP n m goal coef bound) : ∀ i c, i < n + 1 + m → c ≤ n → (VV n goal coef bound i c).natAbs ≤ 2 ^ 100 := by
  obtain ⟨_, _, hg, hs⟩ := h
  refine VV_abs (by decide) (fun k hk => ?_) (fun s k h1 h2 => ?_) fun s h1 => ?_
  · exact Nat.le_of_lt (hg k hk).2
  · exact Nat.le_of_lt ((hs s h1).2 k h2)
  · exact Nat.le_of_lt (hs s h1).1
theorem bt_T (h : WsP n m goal coef bound) (G : Good n (n + 1 + m) (VV n goal coef bound) l) {i : Nat} (hi : i < n + 1 + m) (k : Nat) : Bt 1970 (T n (VV n goal coef bound) l i k) :=
  Nat.lt_of_le_of_lt (size_T (by decide) G (ws_size h) hi k) (big_le h.1 rfl)
theorem bt_D (h : WsP n m goal coef bound) (G : Good n (n + 1 + m) (VV n goal coef bound) l) : Bt 1970 (Slv.D n (VV n goal coef bound) l) :=
  Nat.lt_of_le_of_lt (size_D (by decide) G (ws_size h)) (big_le h.1 rfl)
theorem bt_up {a b : Nat} {x : Int} (h : Bt a x) (hab : a ≤ b) : Bt b x := Nat.lt_of_lt_of_le h (Nat.pow_le_pow_right (by decide) hab)
theorem bt_add {a : Nat} {x y : Int} (h : Bt a x) (h' : Bt a y) : Bt (a + 1) (x + y) := by
  unfold Bt at *
  rw [Nat.pow_succ]
  omega
theorem bt_zero {a : Nat} : Bt a 0 := Nat.two_pow_pos a
theorem bt_neg {a : Nat} {x : Int} (h : Bt a x) : Bt a (-x) := by unfold Bt at *; omega
theorem bt_wt {b : Nat} {f : Nat → Int} (G : Good n (n + 1 + m) (VV n goal coef bound) l) (hf : ∀ k, Bt b (f k)) (s : Nat) : Bt b (wt n l f s) := by
  unfold wt
  rcases sel G (n + 1 + s) fun j => f (j + 1) with ⟨j, _, _, e⟩ | ⟨_, e⟩
  · rw [e]; exact hf _
  · rw [e]; exact bt_zero
theorem ex_step (G : Good n (n + 1 + m) (VV n goal coef bound) l) {cc r : Nat} (h1 : 1 ≤ cc) (h2 : cc ≤ n) {i k : Nat} (hi : i < n + 1 + m) (hk : k ≤ n) :
    exT (Slv.D n (VV n goal coef bound) l) r cc (T n (VV n goal coef bound) l) i k = T n (VV n goal coef bound) (l.set (cc - 1) r) i k := by
  unfold exT
  by_cases w : k = cc
  · rw [if_pos w, w, T_set_cc G.len i h1 h2]
  · rw [if_neg w, ← T_set G.len G.cram h1 h2 hi hk w, Int.mul_ediv_cancel_left _ (by have := G.pos; omega)]
theorem wt_own (G : Good n (n + 1 + m) (VV n goal coef bound) l) {r s : Nat} (e : r = n + 1 + s) (h0 : T n (VV n goal coef bound) l r 0 < 0) (f : Nat → Int) : wt n l f s = 0 := by
  unfold wt
  rcases sel G (n + 1 + s) fun j => f (j + 1) with ⟨j, hj, ej, _⟩ | ⟨_, z⟩
  · have t := T_basis (n := n) (V := VV n goal coef bound) (l := l) (j := j + 1) (k := 0) (by omega) (by omega) (by omega)
    rw [Nat.add_sub_cancel, ej, if_neg (by omega), ← e] at t
    omega
  · exact z
theorem vec_ext {n : Nat} {f : Nat → Int} {xs : List D} (h : (List.range n).map (fun i => D.int (f i)) = xs) : vec n f = xs := h
/-- the slots of solve -/
def slv (n m : Nat) (goal : Nat → Int) (coef : Nat → Nat → Int) (bound : Nat → Int) (tb ot : List D) (sc : Int) (r : Nat) (s8 s9 s10 s11 s12 : S) : List S :=
  [.val (.tup (vec n goal)), .val (.tup (rowsT m n coef bound)), .val (.int n), .val (.int m), .own tb, .own ot, .val (.int sc), .val (.int r), s8, s9, s10, s11, s12]
def RowOk (n m : Nat) (goal : Nat → Int) (coef : Nat → Nat → Int) (bound : Nat → Int) (l : List Nat) (r : Nat) : Prop :=
  (r = 0 ∧ ∀ i, 1 ≤ i → i < n + 1 + m → 0 ≤ T n (VV n goal coef bound) l i 0) ∨ (1 ≤ r ∧ r < n + 1 + m ∧ T n (VV n goal coef bound) l r 0 < 0)
theorem call_neg {Q : D → Prop} (hn : n ≤ 18) (hm : m ≤ 40) (q : ∀ r, RowOk n m goal coef bound l r → Q (.int (r : Nat))) : sp_negative_row [.lst (tab (n + 1 + m) n (T n (VV n goal coef bound) l))] fun r => ∃ d, r = .val d ∧ nolst d = true ∧ Q d :=
  ⟨_, _, _, rfl, by omega, by omega, by omega, fun h => ⟨_, rfl, rfl, q 0 (.inl ⟨rfl, h⟩)⟩, fun r h1 h2 h3 => ⟨_, rfl, rfl, q r (.inr ⟨h1, h2, h3⟩)⟩⟩
theorem call_ent {Q : D → Prop} {row : Nat} (hn : n ≤ 18) (hm : m ≤ 40) (hr : row < n + 1 + m) (hb : ∀ i k, i < n + 1 + m → k ≤ n → Bt 9000 (T n (VV n goal coef bound) l i k))
    (q : ∀ b : Nat, BestTo (n + 1 + m) (T n (VV n goal coef bound) l) row (n + 1) b → Q (.int b)) : sp_entering_column [.lst (tab (n + 1 + m) n (T n (VV n goal coef bound) l)), .int row] fun r => ∃ d, r = .val d ∧ nolst d = true ∧ Q d :=
  ⟨_, _, _, _, rfl, by omega, by omega, hr, hb, fun b h => ⟨_, rfl, rfl, q b h⟩⟩
def Iv (n m : Nat) (goal : Nat → Int) (coef : Nat → Nat → Int) (bound : Nat → Int) (c : Nat) (ds : List S) : Prop :=
  ∃ (l : List Nat) (r : Nat) (tb ot : List D) (sc : Int) (s8 s9 s10 s11 s12 : S), Good n (n + 1 + m) (VV n goal coef bound) l ∧ mu n (n + 1 + m) (VV n goal coef bound) l = c ∧ tb = tab (n + 1 + m) n (T n (VV n goal coef bound) l) ∧ ot = outD l ∧ sc = Slv.D n (VV n goal coef bound) l ∧
    RowOk n m goal coef bound l r ∧ ds = slv n m goal coef bound tb ot sc r s8 s9 s10 s11 s12
theorem out_len : (outD l).length = l.length := List.length_map ..
theorem out_set {j r : Nat} : (outD l).set j (.int (r : Nat)) = outD (l.set j r) := (List.map_set ..).symm
theorem vec_get {n : Nat} {f : Nat → Int} {i : Nat} {d : D} (h : (vec n f)[i]? = some d) : i < n ∧ d = .int (f i) := mp_some h
theorem pure_solve (ds : List D) (P : R → Prop) (h : sp_solve ds P) : d_solve (RD P) (startD 13 ds) := by
  obtain ⟨n, m, goal, coef, bound, rfl, hW, qg, qr⟩ := h
  obtain ⟨hn, hm, hg, hs⟩ := id hW
  have PB := pb_of (m := m) (coef := coef) (bound := bound) fun k hk => (hg k hk).1
  refine ⟨_, rfl, _, rfl, _, _, rfl, rfl, ?_⟩
  rw [vec_len, rows_len]
  refine ⟨_, rfl, _, rfl, n, m, goal, coef, bound, rfl, by omega, by omega, _, rfl, by omega, by omega, by omega, by omega, _, rfl, _, rfl, ?_⟩
  have et : tab (n + 1 + m) n (VV n goal coef bound) = tab (n + 1 + m) n (T n (VV n goal coef bound) (l0 n)) := tab_congr fun i k hi hk => (T_l0 PB hk).symm
  have eo : rgD 1 ((n : Int) + 1 - 1).toNat = outD (l0 n) := by
    rw [show ((n : Int) + 1 - 1).toNat = n by omega]; exact out_l0 n
  rw [et, eo]
  refine call_neg (l := l0 n) hn hm fun r hr => ⟨_, rfl, ?_⟩
  refine ⟨Iv n m goal coef bound, ⟨_, l0 n, r, _, _, 1, _, _, _, _, _, good_l0 PB, rfl, rfl, rfl, (D_l0 PB).symm, hr, rfl⟩, ?_⟩
  rintro c ds' ⟨l, r, tb, ot, sc, s8, s9, s10, s11, s12, G, hc, rfl, rfl, rfl, hr, rfl⟩
  have hT : ∀ i k, i < n + 1 + m → Bt 1970 (T n (VV n goal coef bound) l i k) := fun i k hi => bt_T hW G hi k
  have hD := bt_D hW G
  have inj : ∀ i j, i < n → j < n → l.getD i 0 = l.getD j 0 → i = j := fun i j a b e => G.inj a b e
  refine ⟨fun hlt => ?_, fun hlt => ?_⟩
  · -- a row below zero
    have hr0 : 1 ≤ r := by have := of_decide_eq_true hlt; omega
    obtain ⟨_, hrN, hneg⟩ : 1 ≤ r ∧ r < n + 1 + m ∧ T n (VV n goal coef bound) l r 0 < 0 := by
      rcases hr with ⟨e, _⟩ | h
      · omega
      · exact h
    refine call_ent hn hm hrN (fun i k a _ => bt_up (hT i k a) (by omega)) fun b hb => ⟨_, rfl, ?_⟩
    refine ⟨fun hb0 => ?_, fun hb0 => ?_⟩
    · -- no column: refused
      have eb : b = 0 := by have := of_decide_eq_true hb0; omega
      have all : ∀ k, 1 ≤ k → k ≤ n → T n (VV n goal coef bound) l r k ≤ 0 := fun k h1 h2 => by
        rcases hb with ⟨_, h⟩ | ⟨h, _⟩
        · exact h k h1 (by omega)
        · omega
      have R' := refused_of G hr0 hrN hneg all
      have rr : atI (tab (n + 1 + m) n (T n (VV n goal coef bound) l)) (r : Int) = some (.lst (vec (n + 1) (T n (VV n goal coef bound) l r))) := atI_tab hrN rfl
      have f0 : ∀ k, Bt 1970 (-T n (VV n goal coef bound) l r k) := fun k => bt_neg (hT r k hrN)
      refine ⟨_, rr, _, rfl, le_line (by rw [vec_len]; omega), fun k => some (.int (-T n (VV n goal coef bound) l r k)), fun k d hd => ?_, ?_⟩
      · obtain ⟨hk, rfl⟩ := vec_get hd
        exact ⟨fun _ => ⟨_, rfl, rfl⟩, fun z => (by cases z)⟩
      · rw [fm_some, vec_len]
        refine ⟨_, rfl, _, rfl, _, rfl, _, rfl, n, m, fun k => -T n (VV n goal coef bound) l r k, l, rfl, G.len, fun v hv => G.top v hv, inj, by omega, by omega, _, rfl, ?_⟩
        refine ⟨fun hgt => ?_, fun hgt => ?_⟩
        · have hgt' : n < r := by have := of_decide_eq_true hgt; omega
          have ix : ixN (vec m (wt n l fun k => -T n (VV n goal coef bound) l r k)).length ((r : Int) - n - 1) = some (r - n - 1) := by rw [vec_len]; exact ixN_nat (by omega) (by omega)
          refine ⟨_, _, _, rfl, rfl, ix, ?_⟩
          have key : (vec m (wt n l fun k => -T n (VV n goal coef bound) l r k)).set (r - n - 1) (.int (Slv.D n (VV n goal coef bound) l)) = vec m fun s => wt n l (fun k => - T n (VV n goal coef bound) l r k) s + if r = n + 1 + s then Slv.D n (VV n goal coef bound) l else 0 := by
            rw [vec, mp_set]
            refine mp_congr fun s hs => ?_
            by_cases z : s = r - n - 1
            · rw [if_pos z]
              refine congrArg D.int ?_
              show _ = wt n l (fun k => - T n (VV n goal coef bound) l r k) s + (if r = n + 1 + s then Slv.D n (VV n goal coef bound) l else 0)
              rw [if_pos (by omega), wt_own G (by omega) hneg, Int.zero_add]
            · rw [if_neg z]
              refine congrArg D.int ?_
              show wt n l _ s = wt n l (fun k => - T n (VV n goal coef bound) l r k) s + (if r = n + 1 + s then Slv.D n (VV n goal coef bound) l else 0)
              rw [if_neg (by omega), Int.add_zero]
          refine ⟨_, rfl, _, rfl, _, rfl, le_line (by show 3 ≤ 1000000; decide), _, ⟨rfl, rfl⟩, ?_⟩
          show P (.val (.tup [.bl false, .lst ((vec m (wt n l fun k => -T n (VV n goal coef bound) l r k)).set (r - n - 1) (.int (Slv.D n (VV n goal coef bound) l))), .int (Slv.D n (VV n goal coef bound) l)]))
          rw [key]
          refine qr _ _ R' (bt_up hD (by omega)) fun s hs => bt_up (bt_add (bt_wt G f0 s) ?_) (show 1970 + 1 ≤ 2000 by omega)
          split
          · exact hD
          · exact bt_zero
        · have hgt' : ¬ n < r := by have := of_decide_eq_false hgt; omega
          have key : vec m (wt n l fun k => -T n (VV n goal coef bound) l r k) = vec m fun s => wt n l (fun k => - T n (VV n goal coef bound) l r k) s + if r = n + 1 + s then Slv.D n (VV n goal coef bound) l else 0 := vec_congr fun s hs => by
            rw [if_neg (by omega), Int.add_zero]
          refine ⟨_, rfl, _, rfl, _, rfl, le_line (by show 3 ≤ 1000000; decide), _, ⟨rfl, rfl⟩, ?_⟩
          show P (.val (.tup [.bl false, .lst (vec m (wt n l fun k => -T n (VV n goal coef bound) l r k)), .int (Slv.D n (VV n goal coef bound) l)]))
          rw [key]
          refine qr _ _ R' (bt_up hD (by omega)) fun s hs => bt_up (bt_add (bt_wt G f0 s) ?_) (show 1970 + 1 ≤ 2000 by omega)
          split
          · exact hD
          · exact bt_zero
    · -- an exchange
      have eb : b ≠ 0 := by have := of_decide_eq_false hb0; omega
      obtain ⟨b1, b2, b3, b4⟩ : 1 ≤ b ∧ b < n + 1 ∧ 0 < T n (VV n goal coef bound) l r b ∧ ∀ k, 1 ≤ k → k < n + 1 → 0 < T n (VV n goal coef bound) l r k → ¬ Bef (n + 1 + m) (T n (VV n goal coef bound) l) r k b := by
        rcases hb with ⟨e, _⟩ | h
        · exact absurd e eb
        · exact h
      have G' := G.step b1 (by omega) hr0 hrN b3 fun k h1 h2 h3 => b4 k h1 (by omega) h3
      have ls := less_step G b1 (by omega) hrN hneg
      have ms := mu_step G G' ls
      refine ⟨n + 1 + m, n, _, r, b, T n (VV n goal coef bound) l, rfl, rfl, rfl, rfl, ⟨by omega, by omega, hrN, by omega, G.pos, bt_up hD (by omega), fun i k a _ => bt_up (hT i k a) (by omega)⟩, ?_⟩
      have ix : ixN (outD l).length ((b : Int) - 1) = some (b - 1) := by rw [out_len, G.len]; exact ixN_nat (by omega) (by omega)
      refine ⟨_, _, _, rfl, rfl, ix, ?_⟩
      have et2 : tab (n + 1 + m) n (exT (Slv.D n (VV n goal coef bound) l) r b (T n (VV n goal coef bound) l)) = tab (n + 1 + m) n (T n (VV n goal coef bound) (l.set (b - 1) r)) := tab_congr fun i k hi hk => ex_step G b1 (by omega) hi hk
      rw [et2, out_set]
      refine call_neg (l := l.set (b - 1) r) hn hm fun r2 hr2 => ⟨_, rfl, ?_⟩
      exact ⟨_, by rw [← hc]; exact ms, l.set (b - 1) r, r2, _, _, _, _, _, _, _, _, G', rfl, rfl, rfl, (D_set G.len b1 (by omega)).symm, hr2, rfl⟩
  · -- granted
    have e0 : r = 0 := by have := of_decide_eq_false hlt; omega
    have nn : ∀ i, 1 ≤ i → i < n + 1 + m → 0 ≤ T n (VV n goal coef bound) l i 0 := by
      rcases hr with ⟨_, h⟩ | ⟨h, _⟩
      · exact h
      · omega
    have gr := granted_of (fun k hk => (hg k hk).1) G nn
    refine ⟨by omega, le_line (by rw [rgD_len]; omega), fun k => some (.int (T n (VV n goal coef bound) l (k + 1) 0)), fun k d hd => ?_, ?_⟩
    · obtain ⟨hk, rfl⟩ := rgD_some hd
      have a1 : atI (tab (n + 1 + m) n (T n (VV n goal coef bound) l)) (1 + (k : Int)) = some (.lst (vec (n + 1) (T n (VV n goal coef bound) l (k + 1)))) := atI_tab (by omega) (by omega)
      have a2 : atI (vec (n + 1) (T n (VV n goal coef bound) l (k + 1))) 0 = some (.int (T n (VV n goal coef bound) l (k + 1) 0)) := atI_vec (by omega) rfl
      exact ⟨fun _ => ⟨_, a1, _, a2, _, rfl, rfl⟩, fun z => (by cases z)⟩
    · rw [fm_some, rgD_len, show ((n : Int) + 1 - 1).toNat = n by omega]
      have a1 : atI (tab (n + 1 + m) n (T n (VV n goal coef bound) l)) 0 = some (.lst (vec (n + 1) (T n (VV n goal coef bound) l 0))) := atI_tab (by omega) (by omega)
      have a2 : atI (vec (n + 1) (T n (VV n goal coef bound) l 0)) 0 = some (.int (T n (VV n goal coef bound) l 0 0)) := atI_vec (by omega) rfl
      refine ⟨_, rfl, _, rfl, _, a1, _, a2, _, rfl, _, rfl, _, a1, _, rfl, _, rfl, _, rfl, _, rfl, n, m, T n (VV n goal coef bound) l 0, l, rfl, G.len, fun v hv => G.top v hv, inj, by omega, by omega, _, rfl, _, rfl, le_line (by show 5 ≤ 1000000; decide), _, ⟨rfl, rfl⟩, ?_⟩
      exact qg _ _ _ _ gr (bt_up hD (by omega)) (bt_up (hT _ _ (by omega)) (by omega)) (fun k hk => bt_up (hT _ _ (by omega)) (by omega)) fun s hs => bt_up (bt_wt G (fun k => hT 0 k (by omega)) s) (by omega)
end
end Dl

namespace Dl
open PySem PySem.Spec PyProof.Rows L2 Slv
/-- the addresses of the classes -/
structure Ad where
  Book : Addr
  Granted : Addr
  Kinds : Addr
  Pay : Addr
  Refused : Addr
  Wish : Addr
  ZERO : Addr
/-! ### tasks -/
structure Tk where
  n : Nat
  goal : Nat → Int
  rows : List ((Nat → Int) × Int)
  unit : Int
def Tk.m (T : Tk) : Nat := T.rows.length
def Tk.coef (T : Tk) (s : Nat) : Nat → Int := (T.rows.getD s (fun _ => 0, 0)).1
def Tk.bound (T : Tk) (s : Nat) : Int := (T.rows.getD s (fun _ => 0, 0)).2
def rowT (n : Nat) (r : (Nat → Int) × Int) : D := .tup [.tup (vec n r.1), .int r.2]
def wishT (c : Ad) (T : Tk) : D := .ins c.Wish [("goal", .tup (vec T.n T.goal)), ("rows", .tup (T.rows.map (rowT T.n))), ("unit", .int T.unit)]
theorem getD_map {α : Type} {β : Type} (l : List α) (d : α) (f : α → β) : (List.range l.length).map (fun s => f (l.getD s d)) = l.map f := by
  apply List.ext_getElem?
  intro i
  by_cases h : i < l.length
  · rw [mp_get h, List.getElem?_map, List.getElem?_eq_getElem h, List.getD_eq_getElem?_getD, List.getElem?_eq_getElem h]; rfl
  · rw [List.getElem?_eq_none (by rw [mp_len]; omega), List.getElem?_eq_none (by rw [List.length_map]; omega)]
theorem rows_eq (T : Tk) : T.rows.map (rowT T.n) = rowsT T.m T.n T.coef T.bound := (getD_map T.rows (fun _ => 0, 0) (rowT T.n)).symm
def WsT (T : Tk) : Prop := WsP T.n T.m T.goal T.coef T.bound ∧ 1 ≤ T.unit ∧ Bt 100 T.unit
def ratV (n : Nat) (f : Nat → Int) (d : Int) : List D := (List.range n).map fun k => rat (f k) d
def grantD (c : Ad) (T : Tk) (d v : Int) (x w : Nat → Int) : D := .ins c.Granted [("value", rat v (d * T.unit)), ("point", .tup (ratV T.n x d)), ("weights", .tup (ratV T.m w d))]
def refD (c : Ad) (T : Tk) (d : Int) (w : Nat → Int) : D := .ins c.Refused [("weights", .tup (ratV T.m w d))]
/-- granted so, refused so -/
def GrT (T : Tk) (d v : Int) (x w : Nat → Int) : Prop := Grt T.n T.m T.goal T.coef T.bound d v x w ∧ Bt 2000 d ∧ Bt 2000 v ∧ (∀ k, k < T.n → Bt 2000 (x k)) ∧ ∀ s, s < T.m → Bt 2000 (w s)
def RfT (T : Tk) (d : Int) (w : Nat → Int) : Prop := Rft T.n T.m T.coef T.bound d w ∧ Bt 2000 d ∧ ∀ s, s < T.m → Bt 2000 (w s)
def sp_ask (c : Ad) : DSp := fun ds P => ∃ T : Tk, ds = [wishT c T] ∧ WsT T ∧ (∀ d v x w, GrT T d v x w → P (.val (grantD c T d v x w))) ∧ ∀ d w, RfT T d w → P (.val (refD c T d w))
theorem sp_ask_m (c : Ad) : MSp (sp_ask c) := fun _ _ _ h ⟨T, e, p, q, q2⟩ => ⟨T, e, p, fun d v x w a => h _ (q d v x w a), fun d w a => h _ (q2 d w a)⟩
def sp_Granted_init : DIn := fun ds P => ∃ v p w ps ws, ds = [v, p, w] ∧ (R.val p).seq = some ps ∧ (R.val w).seq = some ws ∧ P [("value", v), ("point", .tup ps), ("weights", .tup ws)]
theorem sp_Granted_init_m : MIn sp_Granted_init := fun _ _ _ h ⟨v, p, w, ps, ws, e, a, b, q⟩ => ⟨v, p, w, ps, ws, e, a, b, h _ q⟩
def sp_Refused_init : DIn := fun ds P => ∃ w ws, ds = [w] ∧ (R.val w).seq = some ws ∧ P [("weights", .tup ws)]
theorem sp_Refused_init_m : MIn sp_Refused_init := fun _ _ _ h ⟨w, ws, e, a, q⟩ => ⟨w, ws, e, a, h _ q⟩
/-- a row of a wish as it is handed in -/
def IsRow (n : Nat) (r : (Nat → Int) × Int) (d : D) : Prop := ∃ x, d = .tup [x, .int r.2] ∧ (R.val x).seq = some (vec n r.1)
inductive All2 {α β : Type} (p : α → β → Prop) : List α → List β → Prop
  | nil : All2 p [] []
  | cons {a b as bs} : p a b → All2 p as bs → All2 p (a :: as) (b :: bs)
def sp_Wish_init : DIn := fun ds P => ∃ (T : Tk) (g rs : D) (xs : List D), ds = [g, rs, .int T.unit] ∧ (R.val g).seq = some (vec T.n T.goal) ∧ (R.val rs).seq = some xs ∧ All2 (IsRow T.n) T.rows xs ∧ 1 ≤ T.n ∧ T.n ≤ 18 ∧ T.m ≤ 40 ∧ (∀ k, k < T.n → 0 ≤ T.goal k) ∧ 1 ≤ T.unit ∧
  P [("goal", .tup (vec T.n T.goal)), ("rows", .tup (T.rows.map (rowT T.n))), ("unit", .int T.unit)]
theorem sp_Wish_init_m : MIn sp_Wish_init := fun _ _ _ h ⟨T, g, rs, xs, e, a, b, c, d, f, g', i, j, q⟩ => ⟨T, g, rs, xs, e, a, b, c, d, f, g', i, j, h _ q⟩
end Dl

namespace Dl
open PySem PySem.Spec PyProof.Rows L2 Slv
def d_ask (c : Ad) : DS :=
  (dSeq (dAsgG (eCall sp_solve [] (aCons (eFld "goal" (eVar 0)) (aCons (eFld "rows" (eVar 0)) aNil))) (gV 1))
  (dSeq (dAsgG (eOp dIx (eVar 1) (eNeg (eC (.int 1)))) (gV 2))
  (dSeq (dAsgG (eLc (srcS true (eOp dIx (eVar 1) (eNeg (eC (.int 2))))) (gV 5) uYes (eCall sp_ratio [] (aCons (eVar 5) (aCons (eVar 2) aNil))) [5]) (gV 3))
  (dSeq (dIf (uNot (asB (eOp dIx (eVar 1) (eC (.int 0)))))
  (dRet (eMake c.Refused sp_Refused_init [] (aCons (eVar 3) aNil)))
  dNext)
  (dSeq (dAsgG (eLc (srcS true (eOp dIx (eVar 1) (eC (.int 2)))) (gV 6) uYes (eCall sp_ratio [] (aCons (eVar 6) (aCons (eVar 2) aNil))) [6]) (gV 4))
  (dRet (eMake c.Granted sp_Granted_init [] (aCons (eCall sp_ratio [] (aCons (eOp dIx (eVar 1) (eC (.int 1))) (aCons (eOp dMul (eVar 2) (eFld "unit" (eVar 0))) aNil))) (aCons (eVar 4) (aCons (eVar 3) aNil))))))))))
def d_Granted_init (c : Ad) : DS :=
  (dSeq (dFld c.Granted "value" 0 (eVar 1))
  (dSeq (dFld c.Granted "point" 0 (eB1 dTup (eVar 2)))
  (dFld c.Granted "weights" 0 (eB1 dTup (eVar 3)))))
def d_Refused_init (c : Ad) : DS :=
  (dFld c.Refused "weights" 0 (eB1 dTup (eVar 1)))
def d_Wish_init (c : Ad) : DS :=
  (dSeq (dIf (asB (eOp dGt (eB1 dLen (eVar 1)) (eC (.int 18))))
  dNever
  dNext)
  (dSeq (dIf (asB (eOp dGt (eB1 dLen (eVar 2)) (eC (.int 40))))
  dNever
  dNext)
  (dSeq (dIf (uOr (asB (eOp (dEq false) (eB1 dLen (eVar 1)) (eC (.int 0)))) (asB (eOp dLt (eB1 dMin (eVar 1)) (eC (.int 0)))))
  dNever
  dNext)
  (dSeq (dIf (asB (eB1 dAny (eLc (srcS true (eVar 2)) (gV 4) uYes (eOp (dEq true) (eB1 dLen (eOp dIx (eVar 4) (eC (.int 0)))) (eB1 dLen (eVar 1))) [4])))
  dNever
  dNext)
  (dSeq (dIf (asB (eOp dLt (eVar 3) (eC (.int 1))))
  dNever
  dNext)
  (dSeq (dFld c.Wish "goal" 0 (eB1 dTup (eVar 1)))
  (dSeq (dFld c.Wish "rows" 0 (eB1 dTup (eLc (srcS true (eVar 2)) (gV 4) uYes (eTup (aCons (eB1 dTup (eOp dIx (eVar 4) (eC (.int 0)))) (aCons (eOp dIx (eVar 4) (eC (.int 1))) aNil))) [4])))
  (dFld c.Wish "unit" 0 (eVar 3)))))))))
end Dl

namespace Dl
open PySem PySem.Spec PyProof.Rows L2 Slv
abbrev ID (p C : Addr) (P : List (Str × D) → Prop) : DN := { nx := fun ds' => ∃ fs, ds'[0]? = some (.obj p C fs) ∧ P fs, rt := fun _ => False }
theorem ln0 : ([] : List (Str × D)).length ≤ 0 := Nat.le_refl _
theorem ln1 {f : Str} {d : D} {k : Nat} : ∀ {fs : List (Str × D)}, fs.length ≤ k → (putD f d fs).length ≤ k + 1
  | [], _ => by show 1 ≤ k + 1; omega
  | (g, x) :: r, h => by
    unfold putD
    split
    · show r.length + 1 ≤ k + 1
      have : r.length + 1 ≤ k := h
      omega
    · cases k with
      | zero => have : r.length + 1 ≤ 0 := h; omega
      | succ k =>
        have : r.length + 1 ≤ k + 1 := h
        have := ln1 (f := f) (d := d) (fs := r) (k := k) (by omega)
        show (putD f d r).length + 1 ≤ _
        omega
theorem l1k {fs : List (Str × D)} {k : Nat} (h : fs.length ≤ k) (hk : k < 1000 := by decide) : fs.length < 1000 := Nat.lt_of_le_of_lt h hk
theorem pure_Granted_init (c : Ad) (p : Addr) (ds : List D) (P : List (Str × D) → Prop) (h : sp_Granted_init ds P) : d_Granted_init c (ID p c.Granted P) (.obj p c.Granted [] :: startD 3 ds) := by
  obtain ⟨v, pt, w, ps, ws, rfl, a, b, q⟩ := h
  exact ⟨_, p, _, rfl, rfl, l1k ln0, _, a, _, p, _, rfl, rfl, l1k (ln1 ln0), _, b, _, p, _, rfl, rfl, l1k (ln1 (ln1 ln0)), _, rfl, q⟩
theorem pure_Refused_init (c : Ad) (p : Addr) (ds : List D) (P : List (Str × D) → Prop) (h : sp_Refused_init ds P) : d_Refused_init c (ID p c.Refused P) (.obj p c.Refused [] :: startD 1 ds) := by
  obtain ⟨w, ws, rfl, a, q⟩ := h
  exact ⟨_, a, _, p, _, rfl, rfl, l1k ln0, _, rfl, q⟩
theorem All2.len {α β : Type} {p : α → β → Prop} {as : List α} {bs : List β} (h : All2 p as bs) : as.length = bs.length := by
  induction h with
  | nil => rfl
  | cons _ _ ih => exact congrArg (· + 1) ih
theorem All2.get {α β : Type} {p : α → β → Prop} {as : List α} {bs : List β} (h : All2 p as bs) : ∀ {i : Nat} {b : β}, bs[i]? = some b → ∃ a, as[i]? = some a ∧ p a b := by
  induction h with
  | nil => intro i b h; simp at h
  | cons h _ ih =>
    intro i b e
    cases i with
    | zero => simp at e; subst e; exact ⟨_, rfl, h⟩
    | succ i => exact ih (by simpa using e)
/-- vec as a list of numbers -/
theorem vec_map {n : Nat} {f : Nat → Int} : vec n f = ((List.range n).map f).map D.int := by
  unfold vec; rw [List.map_map]; rfl
theorem mp_ne {α : Type} {n : Nat} {f : Nat → α} (h : 1 ≤ n) : (List.range n).map f ≠ [] := fun z => by
  have := congrArg List.length z
  rw [mp_len] at this
  simp at this; omega
theorem lmin_nonneg {n : Nat} {f : Nat → Int} (h1 : 1 ≤ n) (h : ∀ k, k < n → 0 ≤ f k) : 0 ≤ lmin ((List.range n).map f) := by
  obtain ⟨k, hk, e⟩ := List.mem_map.mp (lmin_mem (mp_ne (f := f) h1))
  rw [← e]; exact h k (List.mem_range.mp hk)
theorem pure_Wish_init (c : Ad) (p : Addr) (ds : List D) (P : List (Str × D) → Prop) (h : sp_Wish_init ds P) : d_Wish_init c (ID p c.Wish P) (.obj p c.Wish [] :: startD 4 ds) := by
  obtain ⟨T, g, rs, xs, rfl, hg, hr, ha, h1, hn, hm, h0, hu, q⟩ := h
  have hl : xs.length = T.m := ha.len.symm
  have mn := lmin_nonneg h1 h0
  refine ⟨_, hg, fun h => absurd (of_decide_eq_true h) (by rw [vec_len]; omega), fun _ => ?_⟩
  refine ⟨_, hr, fun h => absurd (of_decide_eq_true h) (by rw [hl]; omega), fun _ => ?_⟩
  refine ⟨_, hg, fun h => absurd (of_decide_eq_true h) (by rw [vec_len]; omega), fun _ => ⟨_, hg.trans (congrArg some vec_map), mp_ne h1, ⟨fun h => absurd (of_decide_eq_true h) (by omega), fun _ => ?_⟩⟩⟩
  refine ⟨_, hr, le_line (by omega), fun _ => some (.bl false), fun i d hd => ?_, ?_⟩
  · obtain ⟨r, hr2, x, rfl, hx⟩ := ha.get hd
    have hx0 : (R.val x).seq = some (vec T.n r.1) := hx
    have e : (!decide (((vec T.n r.1).length : Int) = ((vec T.n T.goal).length : Int))) = false := by rw [vec_len, vec_len]; simp
    exact ⟨fun _ => ⟨_, rfl, _, hx, _, hg, .bl false, congrArg (fun z => some (D.bl z)) e, rfl⟩, fun z => (by cases z)⟩
  · rw [fm_some]
    have eb : (List.range xs.length).map (fun _ => D.bl false) = ((List.range xs.length).map fun _ => false).map D.bl := by rw [List.map_map]; rfl
    have ea : ((List.range xs.length).map fun _ => false).any id = false := by
      rw [List.any_eq_false]
      intro y hy
      obtain ⟨_, _, rfl⟩ := List.mem_map.mp hy
      simp
    refine ⟨_, congrArg some eb, ⟨fun h => ?_, fun _ => ?_⟩⟩
    · rw [ea] at h; cases h
    refine ⟨fun h => absurd (of_decide_eq_true h) (by omega), fun _ => ?_⟩
    refine ⟨_, hg, _, p, _, rfl, rfl, l1k ln0, ?_⟩
    refine ⟨_, hr, le_line (by omega), fun i => some (rowT T.n (T.rows.getD i (fun _ => 0, 0))), fun i d hd => ?_, ?_⟩
    · obtain ⟨r, hr2, x, rfl, hx⟩ := ha.get hd
      have er : T.rows.getD i (fun _ => 0, 0) = r := by rw [List.getD_eq_getElem?_getD, hr2]; rfl
      have e2 : some (D.tup [.tup (vec T.n r.1), .int r.2]) = some (rowT T.n (T.rows.getD i (fun _ => 0, 0))) := by rw [er]; rfl
      exact ⟨fun _ => ⟨_, rfl, _, hx, _, rfl, _, rfl, _, rfl, le_line (by show 2 ≤ 1000000; decide), _, rfl, e2.symm⟩, fun z => (by cases z)⟩
    · rw [fm_some, hl]
      have e : (List.range T.m).map (fun i => rowT T.n (T.rows.getD i (fun _ => 0, 0))) = T.rows.map (rowT T.n) := getD_map T.rows (fun _ => 0, 0) (rowT T.n)
      rw [e]
      exact ⟨_, rfl, _, p, _, rfl, rfl, l1k (ln1 ln0), _, p, _, rfl, rfl, l1k (ln1 (ln1 ln0)), _, rfl, q⟩
theorem pure_ask (c : Ad) (ds : List D) (P : R → Prop) (h : sp_ask c ds P) : d_ask c (RD P) (startD 7 ds) := by
  obtain ⟨T, rfl, ⟨hW, hu, hub⟩, qg, qr⟩ := h
  obtain ⟨hn, hm, hg, hs⟩ := id hW
  have er : [D.tup (vec T.n T.goal), D.tup (T.rows.map (rowT T.n))] = [D.tup (vec T.n T.goal), D.tup (rowsT T.m T.n T.coef T.bound)] := by rw [← rows_eq]
  refine ⟨_, rfl, _, rfl, _, rfl, _, rfl, T.n, T.m, T.goal, T.coef, T.bound, er, hW, fun d v x w G bd bv bx bw => ?_, fun d w G bd bw => ?_⟩
  · have hd := G.pos
    have bd' := bt_up (b := 2100) bd (by omega)
    refine ⟨_, rfl, _, rfl, _, rfl, _, rfl, _, rfl, le_line (by rw [vec_len]; omega), fun s => some (rat (w s) d), fun s e he => ?_, ?_⟩
    · obtain ⟨hs', rfl⟩ := vec_get he
      exact ⟨fun _ => ⟨_, rfl, _, rfl, _, _, rfl, hd, bt_up bd' (by omega), _, rfl, rfl⟩, fun z => (by cases z)⟩
    · rw [fm_some, vec_len]
      refine ⟨_, rfl, _, rfl, ⟨fun h => (by cases h), fun _ => ?_⟩⟩
      refine ⟨_, rfl, _, rfl, le_line (by rw [vec_len]; omega), fun k => some (rat (x k) d), fun k e he => ?_, ?_⟩
      · obtain ⟨hk, rfl⟩ := vec_get he
        exact ⟨fun _ => ⟨_, rfl, _, rfl, _, _, rfl, hd, bt_up bd' (by omega), _, rfl, rfl⟩, fun z => (by cases z)⟩
      · rw [fm_some, vec_len]
        have hdu : 0 < d * T.unit := Int.mul_pos hd (by omega)
        have bdu : Bt 2100 (d * T.unit) := by
          unfold Bt at *
          rw [Int.natAbs_mul]
          calc d.natAbs * T.unit.natAbs < 2 ^ 2000 * 2 ^ 100 := Nat.mul_lt_mul'' bd hub
            _ = 2 ^ 2100 := by rw [← Nat.pow_add]
        refine ⟨_, rfl, _, rfl, _, rfl, _, rfl, mulW bd hub (by omega) (by omega) (by omega), _, rfl, _, _, rfl, hdu, bt_up bdu (by omega), _, rfl, _, rfl, _, rfl, ?_⟩
        exact ⟨_, _, _, _, _, rfl, rfl, rfl, _, ⟨rfl, rfl⟩, qg d v x w ⟨G, bd, bv, bx, bw⟩⟩
  · have hd := G.pos
    have bd' := bt_up (b := 2100) bd (by omega)
    refine ⟨_, rfl, _, rfl, _, rfl, _, rfl, _, rfl, le_line (by rw [vec_len]; omega), fun s => some (rat (w s) d), fun s e he => ?_, ?_⟩
    · obtain ⟨hs', rfl⟩ := vec_get he
      exact ⟨fun _ => ⟨_, rfl, _, rfl, _, _, rfl, hd, bt_up bd' (by omega), _, rfl, rfl⟩, fun z => (by cases z)⟩
    · rw [fm_some, vec_len]
      exact ⟨_, rfl, _, rfl, ⟨fun _ => ⟨_, rfl, _, _, rfl, rfl, _, ⟨rfl, rfl⟩, qr d w ⟨G, bd, bw⟩⟩, fun h => (by cases h)⟩⟩
end Dl

namespace Dl
open PySem PySem.Spec PyProof.Rows L2 Slv
/-! ### books -/
structure Bk where
  a : Nat
  g : Nat
  costs : Nat → Int
  rows : Nat → Nat → Int
  worths : Nat → Int
  wh : Int
def Bk.ok (B : Bk) : Prop := 1 ≤ B.a ∧ B.a ≤ 16 ∧ 1 ≤ B.g ∧ B.g ≤ 9 ∧ (∀ i, i < B.a → sm B.g (B.rows i) = B.wh ∧ ∀ s, s < B.g → 0 ≤ B.rows i s) ∧ 0 < B.wh ∧ (∀ i, i < B.a → 0 ≤ B.costs i) ∧ (∃ i, i < B.a ∧ B.costs i = 0) ∧ ∀ i, i < B.a → 0 ≤ B.worths i
def Bk.sz (B : Bk) : Prop := Bt 45 B.wh ∧ ∀ i, i < B.a → Bt 45 (B.costs i)
def bookF (B : Bk) : List (Str × D) := [("costs", .tup (vec B.a B.costs)), ("rows", .tup ((List.range B.a).map fun i => .tup (vec B.g (B.rows i)))), ("worths", .tup (vec B.a B.worths)), ("deeds", .int B.a), ("signs", .int B.g), ("whole", .int B.wh)]
def bookD (c : Ad) (B : Bk) : D := .ins c.Book (bookF B)
/-- rows as handed in -/
def IsRows (a g : Nat) (rows : Nat → Nat → Int) (xs : List D) : Prop := xs.length = a ∧ ∀ i x, xs[i]? = some x → (R.val x).seq = some (vec g (rows i))
def BkIn (B : Bk) (ds : List D) : Prop := ∃ cs rs ws xs, ds = [cs, rs, ws] ∧ (R.val cs).seq = some (vec B.a B.costs) ∧ (R.val rs).seq = some xs ∧ IsRows B.a B.g B.rows xs ∧ (R.val ws).seq = some (vec B.a B.worths) ∧ B.ok
def sp_first_fault_books : DSp := fun ds P => ∃ B : Bk, BkIn B ds ∧ P (.val .non)
theorem sp_first_fault_books_m : MSp sp_first_fault_books := fun _ _ _ h ⟨B, e, q⟩ => ⟨B, e, h _ q⟩
def sp_Book_init : DIn := fun ds P => ∃ B : Bk, BkIn B ds ∧ P (bookF B)
theorem sp_Book_init_m : MIn sp_Book_init := fun _ _ _ h ⟨B, e, q⟩ => ⟨B, e, h _ q⟩
def sp_check_deed (c : Ad) : DSp := fun ds P => ∃ (B : Bk) (i : Nat), ds = [bookD c B, .int i] ∧ i < B.a ∧ P (.val .non)
theorem sp_check_deed_m (c : Ad) : MSp (sp_check_deed c) := fun _ _ _ h ⟨B, i, e, p, q⟩ => ⟨B, i, e, p, h _ q⟩
/-- a row of a wish: this deed better than that -/
def rowF (B : Bk) (i j : Nat) : (Nat → Int) × Int := (fun s => B.rows i s - B.rows j s, B.wh * (B.costs i - B.costs j))
def rowL (n : Nat) (r : (Nat → Int) × Int) : D := .tup [.lst (vec n r.1), .int r.2]
theorem isRow_l {n : Nat} {r : (Nat → Int) × Int} : IsRow n r (rowL n r) := ⟨_, rfl, rfl⟩
theorem isRow_t {n : Nat} {r : (Nat → Int) × Int} : IsRow n r (rowT n r) := ⟨_, rfl, rfl⟩
def sp_deed_row (c : Ad) : DSp := fun ds P => ∃ (B : Bk) (i j : Nat), ds = [bookD c B, .int i, .int j] ∧ i < B.a ∧ j < B.a ∧ B.g ≤ 9 ∧ B.sz ∧ P (.val (rowL B.g (rowF B i j)))
theorem sp_deed_row_m (c : Ad) : MSp (sp_deed_row c) := fun _ _ _ h ⟨B, i, j, e, p, q, r, s, z⟩ => ⟨B, i, j, e, p, q, r, s, h _ z⟩
def others (a i : Nat) : List Nat := (List.range a).filter fun j => decide (j ≠ i)
def T_bring (B : Bk) (i : Nat) : Tk := ⟨B.g, B.rows i, (others B.a i).map (rowF B i), B.wh⟩
def sp_bring_wish (c : Ad) : DSp := fun ds P => ∃ (B : Bk) (i : Nat), ds = [bookD c B, .int i] ∧ i < B.a ∧ B.ok ∧ B.sz ∧ P (.val (wishT c (T_bring B i)))
theorem sp_bring_wish_m (c : Ad) : MSp (sp_bring_wish c) := fun _ _ _ h ⟨B, i, e, p, q, r, z⟩ => ⟨B, i, e, p, q, r, h _ z⟩
def natD (l : List Nat) : List D := l.map fun v => D.int (v : Nat)
/-- deeds in rising order -/
def Lot (a : Nat) (l : List Nat) : Prop := l ≠ [] ∧ l.Pairwise (· < ·) ∧ ∀ x ∈ l, x < a
def sp_check_together (c : Ad) : DSp := fun ds P => ∃ (B : Bk) (l : List Nat), ds = [bookD c B, .lst (natD l)] ∧ Lot B.a l ∧ l.length ≤ 1000 ∧ P (.val .non)
theorem sp_check_together_m (c : Ad) : MSp (sp_check_together c) := fun _ _ _ h ⟨B, l, e, p, q, z⟩ => ⟨B, l, e, p, q, h _ z⟩
def T_ties (B : Bk) (l : List Nat) : Tk := ⟨B.g, B.rows (l.headD 0), (others B.a (l.headD 0)).map (rowF B (l.headD 0)) ++ l.tail.map fun o => rowF B o (l.headD 0), B.wh⟩
def sp_ties_wish (c : Ad) : DSp := fun ds P => ∃ (B : Bk) (l : List Nat), ds = [bookD c B, .lst (natD l)] ∧ Lot B.a l ∧ l.length ≤ 16 ∧ B.ok ∧ B.sz ∧ P (.val (wishT c (T_ties B l)))
theorem sp_ties_wish_m (c : Ad) : MSp (sp_ties_wish c) := fun _ _ _ h ⟨B, l, e, p, q, r, s, z⟩ => ⟨B, l, e, p, q, r, s, h _ z⟩
def sp_ties (c : Ad) : DSp := fun ds P => ∃ (B : Bk) (l : List Nat), ds = [bookD c B, .lst (natD l)] ∧ Lot B.a l ∧ l.length ≤ 16 ∧ B.ok ∧ B.sz ∧ (∀ d v x w, GrT (T_ties B l) d v x w → P (.val (grantD c (T_ties B l) d v x w))) ∧ ∀ d w, RfT (T_ties B l) d w → P (.val (refD c (T_ties B l) d w))
theorem sp_ties_m (c : Ad) : MSp (sp_ties c) := fun _ _ _ h ⟨B, l, e, p, q, r, s, z, z2⟩ => ⟨B, l, e, p, q, r, s, fun d v x w a => h _ (z d v x w a), fun d w a => h _ (z2 d w a)⟩
end Dl

namespace Dl
open PySem PySem.Spec PyProof.Rows L2 Slv
def d_first_fault_books : DS :=
  (dSeq (dIf (uOr (asB (eOp (dEq false) (eB1 dLen (eVar 0)) (eC (.int 0)))) (uOr (asB (eOp (dEq true) (eB1 dLen (eVar 1)) (eB1 dLen (eVar 0)))) (asB (eOp (dEq true) (eB1 dLen (eVar 2)) (eB1 dLen (eVar 0))))))
  (dRet (eC (.str "deeds")))
  dNext)
  (dSeq (dIf (asB (eOp (dEq false) (eB1 dLen (eOp dIx (eVar 1) (eC (.int 0)))) (eC (.int 0))))
  (dRet (eC (.str "signs")))
  dNext)
  (dSeq (dIf (asB (eOp (dEq true) (eB1 dMin (eVar 0)) (eC (.int 0))))
  (dRet (eC (.str "costs")))
  dNext)
  (dSeq (dFor (srcS false (eVar 1)) (gV 3)
  (dIf (uOr (asB (eOp (dEq true) (eB1 dLen (eVar 3)) (eB1 dLen (eOp dIx (eVar 1) (eC (.int 0)))))) (uOr (asB (eOp dLt (eB1 dMin (eVar 3)) (eC (.int 0)))) (uOr (asB (eOp (dEq true) (eB1 dSum (eVar 3)) (eB1 dSum (eOp dIx (eVar 1) (eC (.int 0)))))) (asB (eOp (dEq false) (eB1 dSum (eVar 3)) (eC (.int 0)))))))
  (dRet (eC (.str "rows")))
  dNext))
  (dSeq (dIf (asB (eOp dLt (eB1 dMin (eVar 2)) (eC (.int 0))))
  (dRet (eC (.str "worths")))
  dNext)
  (dRet (eC .non)))))))
def d_Book_init (c : Ad) : DS :=
  (dSeq (dIf (asB (eOp dGt (eB1 dLen (eVar 1)) (eC (.int 16))))
  dNever
  dNext)
  (dSeq (dIf (asB (eOp dGt (eB1 dMax (eOp dCat (eLst (aCons (eC (.int 0)) aNil)) (eLc (srcS true (eVar 2)) (gV 5) uYes (eB1 dLen (eVar 5)) [5]))) (eC (.int 9))))
  dNever
  dNext)
  (dSeq (dAsgG (eCall sp_first_fault_books [] (aCons (eVar 1) (aCons (eVar 2) (aCons (eVar 3) aNil)))) (gV 4))
  (dSeq (dIf (asB (eOp (dIsN true) (eVar 4) (eC .non)))
  dNever
  dNext)
  (dSeq (dFld c.Book "costs" 0 (eB1 dTup (eVar 1)))
  (dSeq (dFld c.Book "rows" 0 (eB1 dTup (eLc (srcS true (eVar 2)) (gV 5) uYes (eB1 dTup (eVar 5)) [5])))
  (dSeq (dFld c.Book "worths" 0 (eB1 dTup (eVar 3)))
  (dSeq (dFld c.Book "deeds" 0 (eB1 dLen (eVar 1)))
  (dSeq (dFld c.Book "signs" 0 (eB1 dLen (eOp dIx (eVar 2) (eC (.int 0)))))
  (dFld c.Book "whole" 0 (eB1 dSum (eOp dIx (eVar 2) (eC (.int 0))))))))))))))
def d_check_deed : DS :=
  (dIf (uOr (asB (eOp dLt (eVar 1) (eC (.int 0)))) (asB (eOp dGe (eVar 1) (eFld "deeds" (eVar 0)))))
  dNever
  dNext)
def d_deed_row : DS :=
  (dSeq (dAsgG (eLc (srcZ true (eOp dIx (eFld "rows" (eVar 0)) (eVar 1)) (eOp dIx (eFld "rows" (eVar 0)) (eVar 2))) (gT0 2 (gC0 (gV 4) (gC0 (gV 5) gN0))) uYes (eOp dSub (eVar 4) (eVar 5)) [4, 5]) (gV 3))
  (dRet (eTup (aCons (eVar 3) (aCons (eOp dMul (eFld "whole" (eVar 0)) (eOp dSub (eOp dIx (eFld "costs" (eVar 0)) (eVar 1)) (eOp dIx (eFld "costs" (eVar 0)) (eVar 2)))) aNil)))))
def d_bring_wish (c : Ad) : DS :=
  (dSeq (dExprS (eCall (sp_check_deed c) [] (aCons (eVar 0) (aCons (eVar 1) aNil))))
  (dSeq (dAsgG (eLc (srcR1 (eFld "deeds" (eVar 0))) (gV 3) (asB (eOp (dEq true) (eVar 3) (eVar 1))) (eCall (sp_deed_row c) [] (aCons (eVar 0) (aCons (eVar 1) (aCons (eVar 3) aNil)))) [3]) (gV 2))
  (dRet (eMake c.Wish sp_Wish_init [] (aCons (eOp dIx (eFld "rows" (eVar 0)) (eVar 1)) (aCons (eVar 2) (aCons (eFld "whole" (eVar 0)) aNil)))))))
def d_check_together (c : Ad) : DS :=
  (dSeq (dIf (asB (eOp (dEq false) (eB1 dLen (eVar 1)) (eC (.int 0))))
  dNever
  dNext)
  (dSeq (dFor (srcS false (eVar 1)) (gV 2)
  (dExprS (eCall (sp_check_deed c) [] (aCons (eVar 0) (aCons (eVar 2) aNil)))))
  (dFor (srcR2 (eC (.int 1)) (eB1 dLen (eVar 1))) (gV 3)
  (dIf (asB (eOp dLe (eOp dIx (eVar 1) (eVar 3)) (eOp dIx (eVar 1) (eOp dSub (eVar 3) (eC (.int 1))))))
  dNever
  dNext))))
def d_ties_wish (c : Ad) : DS :=
  (dSeq (dExprS (eCall (sp_check_together c) [] (aCons (eVar 0) (aCons (eVar 1) aNil))))
  (dSeq (dAsgG (eOp dIx (eVar 1) (eC (.int 0))) (gV 2))
  (dSeq (dAsgG (eCall (sp_bring_wish c) [] (aCons (eVar 0) (aCons (eVar 2) aNil))) (gV 3))
  (dSeq (dAsgG (eLc (srcS true (eSl (eVar 1) (oSome (eC (.int 1))) oNone)) (gV 5) uYes (eCall (sp_deed_row c) [] (aCons (eVar 0) (aCons (eVar 5) (aCons (eVar 2) aNil)))) [5]) (gV 4))
  (dRet (eMake c.Wish sp_Wish_init [] (aCons (eFld "goal" (eVar 3)) (aCons (eOp dCatT (eFld "rows" (eVar 3)) (eB1 dTup (eVar 4))) (aCons (eFld "unit" (eVar 3)) aNil)))))))))
def d_ties (c : Ad) : DS :=
  (dRet (eCall (sp_ask c) [] (aCons (eCall (sp_ties_wish c) [] (aCons (eVar 0) (aCons (eVar 1) aNil))) aNil)))
end Dl

namespace Dl
open PySem PySem.Spec PyProof.Rows L2 Slv
theorem nd_f {a b : Int} (h : a = b) : ¬ (!decide (a = b)) = true := by rw [decide_eq_true h]; decide
theorem sum_sm (n : Nat) (f : Nat → Int) : ((List.range n).map f).sum = sm n f := by
  induction n with
  | zero => rfl
  | succ n ih =>
    rw [mp_succ, List.sum_append, ih]
    show sm n f + (f n + 0) = sm n f + f n
    omega
theorem lmin_zero {n : Nat} {f : Nat → Int} (h : ∀ k, k < n → 0 ≤ f k) (h0 : ∃ k, k < n ∧ f k = 0) : lmin ((List.range n).map f) = 0 := by
  obtain ⟨k, hk, e⟩ := h0
  have a := lmin_nonneg (n := n) (f := f) (by omega) h
  have b := lmin_le (ns := (List.range n).map f) (x := 0) (List.mem_map.mpr ⟨k, List.mem_range.mpr hk, e⟩)
  omega
theorem seq_vec {d : D} {n : Nat} {f : Nat → Int} (h : (R.val d).seq = some (vec n f)) : (R.val d).seq = some (((List.range n).map f).map D.int) := h.trans (congrArg some vec_map)
theorem IsRows.at {a g : Nat} {rows : Nat → Nat → Int} {xs : List D} (h : IsRows a g rows xs) {i : Nat} (hi : i < a) : ∃ x, xs[i]? = some x ∧ (R.val x).seq = some (vec g (rows i)) := by
  have hl : i < xs.length := by rw [h.1]; exact hi
  exact ⟨xs[i], List.getElem?_eq_getElem hl, h.2 i _ (List.getElem?_eq_getElem hl)⟩
theorem pure_first_fault_books (ds : List D) (P : R → Prop) (h : sp_first_fault_books ds P) : d_first_fault_books (RD P) (startD 4 ds) := by
  obtain ⟨B, ⟨cs, rs, ws, xs, rfl, hc, hr, hx, hw, a1, a2, g1, g2, hrow, hwh, hco, hc0, hwo⟩, q⟩ := h
  obtain ⟨x0, hx0, hs0⟩ := hx.at (i := 0) (by omega)
  have hx0' : atI xs 0 = some x0 := atI_nat (j := 0) hx0
  have m0 := lmin_zero hco hc0
  have mw := lmin_nonneg (by omega) hwo
  refine ⟨_, hc, fun h => absurd (of_decide_eq_true h) (by rw [vec_len]; omega), fun _ => ⟨_, hr, _, hc, fun h => absurd h (nd_f (by rw [vec_len, hx.1])), fun _ => ⟨_, hw, _, hc, fun h => absurd h (nd_f (by rw [vec_len, vec_len])), fun _ => ?_⟩⟩⟩
  refine ⟨_, (congrArg (fun z : Option (List D) => z.bind fun xs => atI xs 0) hr).trans hx0', _, hs0, fun h => absurd (of_decide_eq_true h) (by rw [vec_len]; omega), fun _ => ?_⟩
  refine ⟨_, seq_vec hc, mp_ne a1, fun h => absurd h (nd_f m0), fun _ => ?_⟩
  refine ⟨xs, hr, fun i ds' => ∃ s, ds' = [.val cs, .val rs, .val ws, s], ⟨_, rfl⟩, ?_, ?_⟩
  · rintro i d ds' hd ⟨s, rfl⟩
    have hi : i < B.a := by rw [← hx.1]; exact (List.getElem?_eq_some_iff.mp hd).1
    have hs := hx.2 i d hd
    have mr := lmin_nonneg g1 (hrow i hi).2
    have e0 : (R.val rs).seq.bind (fun xs => atI xs 0) = some x0 := (congrArg (fun z : Option (List D) => z.bind fun xs => atI xs 0) hr).trans hx0'
    have su : ∀ i, i < B.a → ((List.range B.g).map (B.rows i)).sum = B.wh := fun i hi => (sum_sm _ _).trans (hrow i hi).1
    refine ⟨_, hs, _, e0, _, hs0, fun h => absurd h (nd_f (by rw [vec_len, vec_len])), fun _ => ⟨_, seq_vec hs, mp_ne g1, fun h => absurd (of_decide_eq_true h) (by omega), fun _ => ⟨_, seq_vec hs, _, e0, _, seq_vec hs0, fun h => absurd h (nd_f (by rw [su i hi, su 0 (by omega)])), fun _ => ⟨_, seq_vec hs, fun h => absurd (of_decide_eq_true h) (by rw [su i hi]; omega), fun _ => ⟨_, rfl⟩⟩⟩⟩⟩
  · rintro ds' ⟨s, rfl⟩
    exact ⟨_, seq_vec hw, mp_ne a1, fun h => absurd (of_decide_eq_true h) (by omega), fun _ => ⟨_, ⟨rfl, rfl⟩, q⟩⟩
theorem pure_check_deed (c : Ad) (ds : List D) (P : R → Prop) (h : sp_check_deed c ds P) : d_check_deed (RD P) (startD 2 ds) := by
  obtain ⟨B, i, rfl, hi, q⟩ := h
  exact ⟨fun h => absurd (of_decide_eq_true h) (by omega), fun _ => ⟨_, rfl, fun h => absurd (of_decide_eq_true h) (by omega), fun _ => q⟩⟩
theorem lmax_le {ns : List Int} {b : Int} (h : ns ≠ []) (hb : ∀ x ∈ ns, x ≤ b) : lmax ns ≤ b := hb _ (lmax_mem h)
theorem pure_Book_init (c : Ad) (p : Addr) (ds : List D) (P : List (Str × D) → Prop) (h : sp_Book_init ds P) : d_Book_init c (ID p c.Book P) (.obj p c.Book [] :: startD 5 ds) := by
  obtain ⟨B, ⟨cs, rs, ws, xs, rfl, hc, hr, hx, hw, hok⟩, q⟩ := h
  obtain ⟨a1, a2, g1, g2, hrow, hwh, hco, hc0, hwo⟩ := id hok
  obtain ⟨x0, hx0, hs0⟩ := hx.at (i := 0) (by omega)
  have e0 : (R.val rs).seq.bind (fun xs => atI xs 0) = some x0 := (congrArg (fun z : Option (List D) => z.bind fun xs => atI xs 0) hr).trans (atI_nat (j := 0) hx0)
  have su : ((List.range B.g).map (B.rows 0)).sum = B.wh := (sum_sm _ _).trans (hrow 0 (by omega)).1
  refine ⟨_, hc, fun h => absurd (of_decide_eq_true h) (by rw [vec_len]; omega), fun _ => ?_⟩
  refine ⟨_, rfl, le_line (by show 1 ≤ 1000000; decide), _, hr, le_line (by rw [hx.1]; omega), fun _ => some (.int B.g), fun i d hd => ?_, ?_⟩
  · have hs := hx.2 i d hd
    exact ⟨fun _ => ⟨_, hs, .int B.g, congrArg (fun z : Nat => some (D.int z)) vec_len, rfl⟩, fun z => (by cases z)⟩
  · rw [fm_some]
    have em : [D.int 0] ++ (List.range xs.length).map (fun _ => D.int B.g) = ((0 : Int) :: (List.range xs.length).map fun _ => (B.g : Int)).map D.int := by rw [List.map_cons, List.map_map]; rfl
    have hm : lmax ((0 : Int) :: (List.range xs.length).map fun _ => (B.g : Int)) ≤ 9 := lmax_le (by simp) fun x hx => by
      rcases List.mem_cons.mp hx with e | e
      · omega
      · obtain ⟨_, _, e⟩ := List.mem_map.mp e
        omega
    refine ⟨_, _, rfl, rfl, le_line (by rw [mp_len, hx.1]; show 1 + B.a ≤ 1000000; omega), _, congrArg some em, by simp, fun h => absurd (of_decide_eq_true h) (by omega), fun _ => ?_⟩
    refine ⟨_, rfl, _, rfl, _, rfl, B, ⟨cs, rs, ws, xs, rfl, hc, hr, hx, hw, hok⟩, _, rfl, fun h => (by cases h), fun _ => ?_⟩
    refine ⟨_, hc, _, p, _, rfl, rfl, l1k ln0, _, hr, le_line (by rw [hx.1]; omega), fun i => some (.tup (vec B.g (B.rows i))), fun i d hd => ?_, ?_⟩
    · have hs := hx.2 i d hd
      exact ⟨fun _ => ⟨_, hs, _, rfl, rfl⟩, fun z => (by cases z)⟩
    · rw [fm_some, hx.1]
      refine ⟨_, rfl, _, p, _, rfl, rfl, l1k (ln1 ln0), _, hw, _, p, _, rfl, rfl, l1k (ln1 (ln1 ln0)), _, hc, _, p, _, rfl, rfl, l1k (ln1 (ln1 (ln1 ln0))), _, e0, _, hs0, _, p, _, rfl, rfl, l1k (ln1 (ln1 (ln1 (ln1 ln0)))), _, e0, _, seq_vec hs0, _, p, _, rfl, rfl, l1k (ln1 (ln1 (ln1 (ln1 (ln1 ln0))))), ?_⟩
      rw [vec_len, vec_len, su]
      exact ⟨_, rfl, q⟩
end Dl

namespace Dl
open PySem PySem.Spec PyProof.Rows L2 Slv
theorem bt_sub {a : Nat} {x y : Int} (h : Bt a x) (h' : Bt a y) : Bt (a + 1) (x - y) := by
  unfold Bt at *
  rw [Nat.pow_succ]
  omega
theorem zip_vec {n : Nat} {f g : Nat → Int} {i : Nat} {d : D} (h : (zipD (vec n f) (vec n g))[i]? = some d) : i < n ∧ d = .tup [.int (f i), .int (g i)] := by
  obtain ⟨x, y, hx, hy, rfl⟩ := zipD_get h
  obtain ⟨hi, rfl⟩ := vec_get hx
  obtain ⟨_, rfl⟩ := vec_get hy
  exact ⟨hi, rfl⟩
theorem zip_len {n : Nat} {f g : Nat → Int} : (zipD (vec n f) (vec n g)).length = n := by rw [zipD_len, vec_len, vec_len, Nat.min_self]
theorem atI_rows {B : Bk} {i : Nat} {z : Int} (h : i < B.a) (e : z = i) : atI ((List.range B.a).map fun i => D.tup (vec B.g (B.rows i))) z = some (.tup (vec B.g (B.rows i))) := atI_mp h e
theorem pure_deed_row (c : Ad) (ds : List D) (P : R → Prop) (h : sp_deed_row c ds P) : d_deed_row (RD P) (startD 6 ds) := by
  obtain ⟨B, i, j, rfl, hi, hj, hg, ⟨hw, hc⟩, q⟩ := h
  have a1 := atI_rows (B := B) hi rfl
  have a2 := atI_rows (B := B) hj rfl
  have c1 : atI (vec B.a B.costs) (i : Int) = some (.int (B.costs i)) := atI_vec hi rfl
  have c2 : atI (vec B.a B.costs) (j : Int) = some (.int (B.costs j)) := atI_vec hj rfl
  refine ⟨_, rfl, _, a1, _, rfl, _, a2, _, _, rfl, rfl, le_line (by rw [zip_len]; omega), fun s => some (.int (B.rows i s - B.rows j s)), fun s d hd => ?_, ?_⟩
  · obtain ⟨_, rfl⟩ := zip_vec hd
    exact ⟨_, rfl, ⟨_, rfl⟩, rfl, rfl, fun _ => ⟨_, rfl, rfl⟩, fun z => (by cases z)⟩
  · rw [fm_some, zip_len]
    exact ⟨_, rfl, _, rfl, _, rfl, _, rfl, _, c1, _, rfl, _, c2, mulW hw (bt_sub (hc i hi) (hc j hj)) (by omega) (by omega) (by omega), _, rfl, le_line (by show 2 ≤ 1000000; decide), _, ⟨rfl, rfl⟩, q⟩
theorem fm_if {α : Type} {p : Nat → Bool} {g : Nat → α} : ∀ l : List Nat, l.filterMap (fun i => if p i = true then some (g i) else none) = (l.filter p).map g
  | [] => rfl
  | x :: l => by
    by_cases h : p x = true
    · rw [List.filterMap_cons, if_pos h, List.filter_cons_of_pos h, List.map_cons, fm_if l]
    · rw [List.filterMap_cons, if_neg h, List.filter_cons_of_neg h, fm_if l]
theorem All2.map {α β γ : Type} {p : α → β → Prop} {f : γ → α} {g : γ → β} : ∀ {l : List γ}, (∀ x ∈ l, p (f x) (g x)) → All2 p (l.map f) (l.map g)
  | [], _ => .nil
  | x :: l, h => .cons (h x List.mem_cons_self) (All2.map fun y hy => h y (List.mem_cons_of_mem _ hy))
theorem All2.append {α β : Type} {p : α → β → Prop} {as cs : List α} {bs ds : List β} (h : All2 p as bs) (h' : All2 p cs ds) : All2 p (as ++ cs) (bs ++ ds) := by
  induction h with
  | nil => exact h'
  | cons a _ ih => exact .cons a ih
theorem others_len (a i : Nat) : (others a i).length ≤ a := by
  have := List.length_filter_le (fun j => decide (j ≠ i)) (List.range a)
  rw [List.length_range] at this
  exact this
theorem others_lt {a i j : Nat} (h : j ∈ others a i) : j < a := List.mem_range.mp (List.mem_filter.mp h).1
/-- the rows of the others, a comprehension -/
def othF (c : Ad) (B : Bk) (i : Nat) : Nat → Option D := fun j => if decide (j ≠ i) = true then some (rowL B.g (rowF B i j)) else none
theorem ne_nat {i j : Nat} : (!decide ((j : Int) = (i : Int))) = decide (j ≠ i) := by
  by_cases h : j = i
  · subst h; simp
  · rw [decide_eq_false (by omega), decide_eq_true h]; rfl
theorem pure_bring_wish (c : Ad) (ds : List D) (P : R → Prop) (h : sp_bring_wish c ds P) : d_bring_wish c (RD P) (startD 4 ds) := by
  obtain ⟨B, i, rfl, hi, hok, hsz, q⟩ := h
  obtain ⟨a1, a2, g1, g2, hrow, hwh, hco, hc0, hwo⟩ := id hok
  have r1 := atI_rows (B := B) hi rfl
  refine ⟨_, rfl, _, rfl, B, i, rfl, hi, ?_⟩
  refine ⟨_, rfl, by omega, by omega, le_line (by rw [rgD_len]; omega), othF c B i, fun j d hd => ?_, ?_⟩
  · obtain ⟨hj, rfl⟩ := rgD_some hd
    rw [Int.toNat_natCast] at hj
    have ez : ((0 : Int) + (j : Int)) = (j : Int) := by omega
    rw [ez]
    have en := ne_nat (i := i) (j := j)
    refine ⟨fun h => ⟨_, rfl, _, rfl, _, rfl, B, i, j, rfl, hi, hj, by omega, hsz, _, rfl, if_pos (en ▸ h)⟩, fun h => if_neg (fun w => ?_)⟩
    have h' : (!decide ((j : Int) = (i : Int))) = false := h
    rw [en, w] at h'; cases h'
  · rw [rgD_len, Int.toNat_natCast]
    have ef : (List.range B.a).filterMap (othF c B i) = (others B.a i).map fun j => rowL B.g (rowF B i j) := fm_if _
    rw [ef]
    refine ⟨_, rfl, _, rfl, _, r1, _, rfl, _, rfl, _, rfl, _, rfl, T_bring B i, .tup (vec B.g (B.rows i)), .lst ((others B.a i).map fun j => rowL B.g (rowF B i j)), _, rfl, rfl, rfl, All2.map fun j _ => isRow_l, g1, by show B.g ≤ 18; omega, ?_, (hrow i hi).2, by show 1 ≤ B.wh; omega, _, ⟨rfl, rfl⟩, q⟩
    show ((others B.a i).map (rowF B i)).length ≤ 40
    have := others_len B.a i
    rw [List.length_map]; omega
theorem natD_len {l : List Nat} : (natD l).length = l.length := List.length_map ..
theorem natD_get {l : List Nat} {i : Nat} {d : D} (h : (natD l)[i]? = some d) : ∃ v, l[i]? = some v ∧ d = .int (v : Nat) := by
  unfold natD at h
  rw [List.getElem?_map] at h
  cases w : l[i]? with
  | none => rw [w] at h; cases h
  | some v => rw [w] at h; cases h; exact ⟨v, rfl, rfl⟩
theorem atI_natD {l : List Nat} {i v : Nat} {z : Int} (h : l[i]? = some v) (e : z = i) : atI (natD l) z = some (.int (v : Nat)) := by
  subst e
  refine atI_nat ?_
  unfold natD
  rw [List.getElem?_map, h]; rfl
theorem pure_check_together (c : Ad) (ds : List D) (P : R → Prop) (h : sp_check_together c ds P) : d_check_together c (RD P) (startD 4 ds) := by
  obtain ⟨B, l, rfl, ⟨h0, hp, hl⟩, hlen, q⟩ := h
  have hl0 : 0 < l.length := List.length_pos_iff.mpr h0
  refine ⟨_, rfl, fun h => absurd (of_decide_eq_true h) (by rw [natD_len]; omega), fun _ => ?_⟩
  refine ⟨_, rfl, fun i ds' => ∃ s2 s3, ds' = [.val (bookD c B), .val (.lst (natD l)), s2, s3], ⟨_, _, rfl⟩, ?_, ?_⟩
  · rintro i d ds' hd ⟨s2, s3, rfl⟩
    obtain ⟨v, hv, rfl⟩ := natD_get hd
    exact ⟨_, rfl, _, rfl, B, v, rfl, hl v (List.mem_of_getElem? hv), ⟨_, _, rfl⟩⟩
  · rintro ds' ⟨s2, s3, rfl⟩
    refine ⟨_, rfl, ⟨by decide, by decide, by rw [natD_len]; omega, by rw [natD_len]; omega⟩, fun i ds' => ∃ s2 s3, ds' = [.val (bookD c B), .val (.lst (natD l)), s2, s3], ⟨_, _, rfl⟩, ?_, ?_⟩
    · rintro i d ds' hd ⟨s2, s3, rfl⟩
      obtain ⟨hi, rfl⟩ := rgD_some hd
      rw [natD_len] at hi
      have h1 : i + 1 < l.length := by omega
      have e1 : atI (natD l) (1 + (i : Int)) = some (.int (l[i + 1] : Nat)) := atI_natD (List.getElem?_eq_getElem h1) (by omega)
      have e2 : atI (natD l) (1 + (i : Int) - 1) = some (.int (l[i] : Nat)) := atI_natD (i := i) (List.getElem?_eq_getElem (by omega)) (by omega)
      have lt : l[i] < l[i + 1] := List.pairwise_iff_getElem.mp hp i (i + 1) (by omega) h1 (by omega)
      exact ⟨_, e1, _, e2, fun h => absurd (of_decide_eq_true h) (by omega), fun _ => ⟨_, _, rfl⟩⟩
    · rintro ds' ⟨s2, s3, rfl⟩
      exact q
theorem cut_tail {x : D} {xs : List D} : cutD (x :: xs) (some 1) none = xs := by
  unfold cutD
  have e1 : HT.sIx (x :: xs).length 0 (some 1) = 1 := by
    show (if (1 : Int) < 0 then ((1 : Int) + ((x :: xs).length : Int)).toNat else min (1 : Int).toNat (x :: xs).length) = 1
    rw [if_neg (by decide), List.length_cons]
    show min 1 (xs.length + 1) = 1
    omega
  have e2 : HT.sIx (x :: xs).length (x :: xs).length none = xs.length + 1 := rfl
  rw [e1, e2]
  show (xs.take (xs.length + 1 - 1)) = xs
  rw [Nat.add_sub_cancel, List.take_length]
theorem pure_ties_wish (c : Ad) (ds : List D) (P : R → Prop) (h : sp_ties_wish c ds P) : d_ties_wish c (RD P) (startD 6 ds) := by
  obtain ⟨B, l, rfl, hlot, hlen, hok, hsz, q⟩ := h
  obtain ⟨h0, hp, hl⟩ := id hlot
  obtain ⟨a1, a2, g1, g2, hrow, hwh, hco, hc0, hwo⟩ := id hok
  cases l with
  | nil => exact absurd rfl h0
  | cons f r =>
    have hf := hl f List.mem_cons_self
    have e0 : atI (natD (f :: r)) 0 = some (.int (f : Nat)) := atI_natD (i := 0) rfl rfl
    refine ⟨_, rfl, _, rfl, B, f :: r, rfl, hlot, by omega, _, e0, _, rfl, _, rfl, _, rfl, B, f, rfl, hf, hok, hsz, _, rfl, ?_⟩
    have ec : cutD (natD (f :: r)) (some 1) none = natD r := cut_tail
    refine ⟨_, rfl, natD r, congrArg some ec, le_line (by rw [natD_len]; have : r.length + 1 ≤ 16 := hlen; omega), fun i => some (rowL B.g (rowF B (r.getD i 0) f)), fun i d hd => ?_, ?_⟩
    · obtain ⟨v, hv, rfl⟩ := natD_get hd
      have ev : r.getD i 0 = v := by rw [List.getD_eq_getElem?_getD, hv]; rfl
      have vb := hl v (List.mem_cons_of_mem _ (List.mem_of_getElem? hv))
      refine ⟨fun _ => ⟨_, rfl, _, rfl, _, rfl, B, v, f, rfl, vb, hf, by omega, hsz, _, rfl, ?_⟩, fun z => (by cases z)⟩
      show some (rowL B.g (rowF B (r.getD i 0) f)) = _
      rw [ev]
    · rw [fm_some, natD_len]
      have em : (List.range r.length).map (fun i => rowL B.g (rowF B (r.getD i 0) f)) = r.map fun o => rowL B.g (rowF B o f) := getD_map r 0 fun o => rowL B.g (rowF B o f)
      rw [em]
      have lr : (r.map fun o => rowL B.g (rowF B o f)).length = r.length := List.length_map ..
      have lb : ((T_bring B f).rows.map (rowT B.g)).length ≤ B.a := by
        show (((others B.a f).map (rowF B f)).map (rowT B.g)).length ≤ B.a
        rw [List.length_map, List.length_map]; exact others_len _ _
      refine ⟨_, rfl, _, rfl, _, rfl, _, rfl, _, rfl, _, _, rfl, rfl, le_line (by rw [lr]; have : r.length + 1 ≤ 16 := hlen; have := lb; show ((T_bring B f).rows.map (rowT B.g)).length + r.length ≤ 1000000; omega), _, rfl, _, rfl, _, rfl, ?_⟩
      refine ⟨T_ties B (f :: r), .tup (vec B.g (B.rows f)), .tup ((T_bring B f).rows.map (rowT B.g) ++ r.map fun o => rowL B.g (rowF B o f)), _, rfl, rfl, rfl, ?_, g1, by show B.g ≤ 18; omega, ?_, (hrow f hf).2, by show 1 ≤ B.wh; omega, _, ⟨rfl, rfl⟩, q⟩
      · show All2 (IsRow B.g) ((others B.a f).map (rowF B f) ++ r.map fun o => rowF B o f) (((others B.a f).map (rowF B f)).map (rowT B.g) ++ r.map fun o => rowL B.g (rowF B o f))
        rw [List.map_map]
        exact (All2.map fun j _ => isRow_t).append (All2.map fun j _ => isRow_l)
      · show ((others B.a f).map (rowF B f) ++ r.map fun o => rowF B o f).length ≤ 40
        rw [List.length_append, List.length_map, List.length_map]
        have := others_len B.a f
        have : r.length + 1 ≤ 16 := hlen
        omega
/-! sizes of the tasks -/
theorem bt_mul {a b : Nat} {x y : Int} (h : Bt a x) (h' : Bt b y) : Bt (a + b) (x * y) := by
  unfold Bt at *
  rw [Int.natAbs_mul, Nat.pow_add]
  exact Nat.mul_lt_mul'' h h'
theorem sm_ge_one {n : Nat} {f : Nat → Int} (h : ∀ k, k < n → 0 ≤ f k) {i : Nat} (hi : i < n) : f i ≤ sm n f := by
  induction n with
  | zero => omega
  | succ n ih =>
    show f i ≤ sm n f + f n
    have h0 : 0 ≤ sm n f := sm_nonneg fun k hk => h k (by omega)
    by_cases e : i = n
    · subst e; omega
    · have := ih (fun k hk => h k (by omega)) (by omega)
      have := h n (by omega)
      omega
theorem Bk.row_le {B : Bk} (hok : B.ok) {i s : Nat} (hi : i < B.a) (hs : s < B.g) : 0 ≤ B.rows i s ∧ B.rows i s ≤ B.wh := by
  obtain ⟨a1, a2, g1, g2, hrow, hwh, hco, hc0, hwo⟩ := hok
  have h := hrow i hi
  refine ⟨h.2 s hs, ?_⟩
  rw [← h.1]
  exact sm_ge_one h.2 hs
theorem Bk.row_bt {B : Bk} (hok : B.ok) (hsz : B.sz) {i s : Nat} (hi : i < B.a) (hs : s < B.g) : Bt 45 (B.rows i s) := by
  obtain ⟨h1, h2⟩ := B.row_le hok hi hs
  exact bt_le hsz.1 h1 h2
theorem rowF_bt {B : Bk} (hok : B.ok) (hsz : B.sz) {i j : Nat} (hi : i < B.a) (hj : j < B.a) : Bt 100 (rowF B i j).2 ∧ ∀ s, s < B.g → Bt 100 ((rowF B i j).1 s) :=
  ⟨bt_up (bt_mul hsz.1 (bt_sub (hsz.2 i hi) (hsz.2 j hj))) (by omega), fun s hs => bt_up (bt_sub (B.row_bt hok hsz hi hs) (B.row_bt hok hsz hj hs)) (by omega)⟩
theorem Tk.rows_bt {T : Tk} {p : ((Nat → Int) × Int) → Prop} (h : ∀ r ∈ T.rows, p r) {s : Nat} (hs : s < T.m) : p (T.coef s, T.bound s) := by
  have hs' : s < T.rows.length := hs
  have e : T.rows.getD s (fun _ => 0, 0) = T.rows[s] := by rw [List.getD_eq_getElem?_getD, List.getElem?_eq_getElem hs']; rfl
  have := h _ (List.getElem_mem hs')
  show p ((T.rows.getD s (fun _ => 0, 0)).1, (T.rows.getD s (fun _ => 0, 0)).2)
  rw [e]
  exact this
theorem ws_ties {B : Bk} {l : List Nat} (hok : B.ok) (hsz : B.sz) (hlot : Lot B.a l) (hlen : l.length ≤ 16) : WsT (T_ties B l) := by
  obtain ⟨h0, hp, hl⟩ := id hlot
  obtain ⟨a1, a2, g1, g2, hrow, hwh, hco, hc0, hwo⟩ := id hok
  cases l with
  | nil => exact absurd rfl h0
  | cons f r =>
    have hf := hl f List.mem_cons_self
    refine ⟨⟨by show B.g ≤ 18; omega, ?_, fun k hk => ⟨(hrow f hf).2 k hk, bt_up (B.row_bt hok hsz hf hk) (by omega)⟩, fun s hs => Tk.rows_bt (p := fun r => Bt 100 r.2 ∧ ∀ k, k < B.g → Bt 100 (r.1 k)) (fun x hx => ?_) hs⟩, by show 1 ≤ B.wh; omega, bt_up hsz.1 (by omega)⟩
    · show ((others B.a f).map (rowF B f) ++ r.map fun o => rowF B o f).length ≤ 40
      rw [List.length_append, List.length_map, List.length_map]
      have := others_len B.a f
      have : r.length + 1 ≤ 16 := hlen
      omega
    · rcases List.mem_append.mp hx with h | h
      · obtain ⟨j, hj, rfl⟩ := List.mem_map.mp h
        exact rowF_bt hok hsz hf (others_lt hj)
      · obtain ⟨j, hj, rfl⟩ := List.mem_map.mp h
        exact rowF_bt hok hsz (hl j (List.mem_cons_of_mem _ hj)) hf
theorem pure_ties (c : Ad) (ds : List D) (P : R → Prop) (h : sp_ties c ds P) : d_ties c (RD P) (startD 2 ds) := by
  obtain ⟨B, l, rfl, hlot, hlen, hok, hsz, q1, q2⟩ := h
  exact ⟨_, rfl, _, rfl, B, l, rfl, hlot, hlen, hok, hsz, _, rfl, T_ties B l, rfl, ws_ties hok hsz hlot hlen, fun d v x w G => ⟨_, ⟨rfl, rfl⟩, q1 d v x w G⟩, fun d w G => ⟨_, ⟨rfl, rfl⟩, q2 d w G⟩⟩
end Dl

namespace Dl
open PySem PySem.Spec PyProof.Rows L2 Slv
/-! ### kinds -/
structure Kd where
  many : Nat
  a : Nat
  g : Nat
  wh : Int
  wt : Nat → Int
  costs : Nat → Nat → Int
  rows : Nat → Nat → Nat → Int
  worths : Nat → Nat → Int
def Kd.bk (K : Kd) (k : Nat) : Bk := ⟨K.a, K.g, K.costs k, K.rows k, K.worths k, K.wh⟩
structure Kd.Ok (K : Kd) : Prop where
  m1 : 1 ≤ K.many
  m3 : K.many ≤ 3
  a4 : K.a ≤ 4
  g4 : K.g ≤ 4
  wt1 : ∀ k, k < K.many → 1 ≤ K.wt k
  wtb : ∀ k, k < K.many → Bt 45 (K.wt k)
  ok : ∀ k, k < K.many → (K.bk k).ok
  sz : ∀ k, k < K.many → (K.bk k).sz
def booksD (c : Ad) (K : Kd) : List D := (List.range K.many).map fun k => bookD c (K.bk k)
def kindsF (c : Ad) (K : Kd) : List (Str × D) := [("weights", .tup (vec K.many K.wt)), ("books", .tup (booksD c K)), ("many", .int K.many), ("deeds", .int K.a), ("signs", .int K.g), ("whole", .int K.wh)]
def kindsD (c : Ad) (K : Kd) : D := .ins c.Kinds (kindsF c K)
def KdIn (c : Ad) (K : Kd) (ds : List D) : Prop := ∃ w bs, ds = [w, bs] ∧ (R.val w).seq = some (vec K.many K.wt) ∧ (R.val bs).seq = some (booksD c K) ∧ K.Ok
def sp_first_fault_kinds (c : Ad) : DSp := fun ds P => ∃ K : Kd, KdIn c K ds ∧ P (.val .non)
theorem sp_first_fault_kinds_m (c : Ad) : MSp (sp_first_fault_kinds c) := fun _ _ _ h ⟨K, e, q⟩ => ⟨K, e, h _ q⟩
def sp_Kinds_init (c : Ad) : DIn := fun ds P => ∃ K : Kd, KdIn c K ds ∧ P (kindsF c K)
theorem sp_Kinds_init_m (c : Ad) : MIn (sp_Kinds_init c) := fun _ _ _ h ⟨K, e, q⟩ => ⟨K, e, h _ q⟩
def sp_Kinds_total_weight (c : Ad) : DSp := fun ds P => ∃ K : Kd, ds = [kindsD c K] ∧ P (.val (.int (sm K.many K.wt)))
theorem sp_Kinds_total_weight_m (c : Ad) : MSp (sp_Kinds_total_weight c) := fun _ _ _ h ⟨K, e, q⟩ => ⟨K, e, h _ q⟩
def askD (K : Kd) (ask : Nat → Nat) : D := .lst (vec K.many fun k => (ask k : Nat))
def sp_check_asked (c : Ad) : DSp := fun ds P => ∃ (K : Kd) (ask : Nat → Nat), ds = [kindsD c K, askD K ask] ∧ K.Ok ∧ (∀ k, k < K.many → ask k < K.a) ∧ P (.val .non)
theorem sp_check_asked_m (c : Ad) : MSp (sp_check_asked c) := fun _ _ _ h ⟨K, e, a, b, d, q⟩ => ⟨K, e, a, b, d, h _ q⟩
def T_pooled (K : Kd) (ask : Nat → Nat) : Tk := ⟨K.g, fun s => sm K.many fun k => K.wt k * K.rows k (ask k) s, (List.range K.many).flatMap fun k => (others K.a (ask k)).map (rowF (K.bk k) (ask k)), K.wh * sm K.many K.wt⟩
def sp_pooled_wish (c : Ad) : DSp := fun ds P => ∃ (K : Kd) (ask : Nat → Nat), ds = [kindsD c K, askD K ask] ∧ K.Ok ∧ (∀ k, k < K.many → ask k < K.a) ∧ P (.val (wishT c (T_pooled K ask)))
theorem sp_pooled_wish_m (c : Ad) : MSp (sp_pooled_wish c) := fun _ _ _ h ⟨K, e, a, b, d, q⟩ => ⟨K, e, a, b, d, h _ q⟩
def sp_pooled (c : Ad) : DSp := fun ds P => ∃ (K : Kd) (ask : Nat → Nat), ds = [kindsD c K, askD K ask] ∧ K.Ok ∧ (∀ k, k < K.many → ask k < K.a) ∧ (∀ d v x w, GrT (T_pooled K ask) d v x w → P (.val (grantD c (T_pooled K ask) d v x w))) ∧ ∀ d w, RfT (T_pooled K ask) d w → P (.val (refD c (T_pooled K ask) d w))
theorem sp_pooled_m (c : Ad) : MSp (sp_pooled c) := fun _ _ _ h ⟨K, e, a, b, d, z, z2⟩ => ⟨K, e, a, b, d, fun d v x w a => h _ (z d v x w a), fun d w a => h _ (z2 d w a)⟩
def choiceF (K : Kd) (ask : Nat → Nat) (t : Nat × Nat × Nat) : (Nat → Int) × Int :=
  (fun i => (if i / K.g = t.1 then K.rows t.1 (ask t.1) (i % K.g) else 0) - (if i / K.g = t.2.1 then K.rows t.1 t.2.2 (i % K.g) else 0), K.wh * (K.costs t.1 (ask t.1) - K.costs t.1 t.2.2))
def sp_choice_row (c : Ad) : DSp := fun ds P => ∃ (K : Kd) (ask : Nat → Nat) (k o d : Nat), ds = [kindsD c K, askD K ask, .int k, .int o, .int d] ∧ K.Ok ∧ (∀ k, k < K.many → ask k < K.a) ∧ k < K.many ∧ o < K.many ∧ d < K.a ∧ P (.val (rowL (K.many * K.g) (choiceF K ask (k, o, d))))
theorem sp_choice_row_m (c : Ad) : MSp (sp_choice_row c) := fun _ _ _ h ⟨K, e, k, o, d, a, b, f, i, j, l, q⟩ => ⟨K, e, k, o, d, a, b, f, i, j, l, h _ q⟩
def offers (K : Kd) (ask : Nat → Nat) (k o : Nat) : List (Nat × Nat × Nat) := ((List.range K.a).filter fun d => decide (o ≠ k) || decide (d ≠ ask k)).map fun d => (k, o, d)
def T_menu (K : Kd) (ask : Nat → Nat) : Tk := ⟨K.many * K.g, fun i => K.wt (i / K.g) * K.rows (i / K.g) (ask (i / K.g)) (i % K.g), ((List.range K.many).flatMap fun k => (List.range K.many).flatMap fun o => offers K ask k o).map (choiceF K ask), K.wh * sm K.many K.wt⟩
def sp_menu_wish (c : Ad) : DSp := fun ds P => ∃ (K : Kd) (ask : Nat → Nat), ds = [kindsD c K, askD K ask] ∧ K.Ok ∧ (∀ k, k < K.many → ask k < K.a) ∧ P (.val (wishT c (T_menu K ask)))
theorem sp_menu_wish_m (c : Ad) : MSp (sp_menu_wish c) := fun _ _ _ h ⟨K, e, a, b, d, q⟩ => ⟨K, e, a, b, d, h _ q⟩
def sp_menu (c : Ad) : DSp := fun ds P => ∃ (K : Kd) (ask : Nat → Nat), ds = [kindsD c K, askD K ask] ∧ K.Ok ∧ (∀ k, k < K.many → ask k < K.a) ∧ (∀ d v x w, GrT (T_menu K ask) d v x w → P (.val (grantD c (T_menu K ask) d v x w))) ∧ ∀ d w, RfT (T_menu K ask) d w → P (.val (refD c (T_menu K ask) d w))
theorem sp_menu_m (c : Ad) : MSp (sp_menu c) := fun _ _ _ h ⟨K, e, a, b, d, z, z2⟩ => ⟨K, e, a, b, d, fun d v x w a => h _ (z d v x w a), fun d w a => h _ (z2 d w a)⟩
end Dl

namespace Dl
open PySem PySem.Spec PyProof.Rows L2 Slv
def d_first_fault_kinds : DS :=
  (dSeq (dIf (uOr (asB (eOp (dEq false) (eB1 dLen (eVar 1)) (eC (.int 0)))) (asB (eOp (dEq true) (eB1 dLen (eVar 0)) (eB1 dLen (eVar 1)))))
  (dRet (eC (.str "kinds")))
  dNext)
  (dSeq (dIf (asB (eOp dLt (eB1 dMin (eVar 0)) (eC (.int 1))))
  (dRet (eC (.str "weights")))
  dNext)
  (dSeq (dFor (srcS false (eVar 1)) (gV 2)
  (dIf (uOr (asB (eOp (dEq true) (eFld "deeds" (eVar 2)) (eFld "deeds" (eOp dIx (eVar 1) (eC (.int 0)))))) (uOr (asB (eOp (dEq true) (eFld "signs" (eVar 2)) (eFld "signs" (eOp dIx (eVar 1) (eC (.int 0)))))) (asB (eOp (dEq true) (eFld "whole" (eVar 2)) (eFld "whole" (eOp dIx (eVar 1) (eC (.int 0))))))))
  (dRet (eC (.str "books")))
  dNext))
  (dRet (eC .non)))))
def d_Kinds_init (c : Ad) : DS :=
  (dSeq (dIf (asB (eOp dGt (eB1 dLen (eVar 2)) (eC (.int 3))))
  dNever
  dNext)
  (dSeq (dAsgG (eCall (sp_first_fault_kinds c) [] (aCons (eVar 1) (aCons (eVar 2) aNil))) (gV 3))
  (dSeq (dIf (asB (eOp (dIsN true) (eVar 3) (eC .non)))
  dNever
  dNext)
  (dSeq (dIf (uOr (asB (eOp dGt (eFld "deeds" (eOp dIx (eVar 2) (eC (.int 0)))) (eC (.int 4)))) (asB (eOp dGt (eFld "signs" (eOp dIx (eVar 2) (eC (.int 0)))) (eC (.int 4)))))
  dNever
  dNext)
  (dSeq (dFld c.Kinds "weights" 0 (eB1 dTup (eVar 1)))
  (dSeq (dFld c.Kinds "books" 0 (eB1 dTup (eVar 2)))
  (dSeq (dFld c.Kinds "many" 0 (eB1 dLen (eVar 2)))
  (dSeq (dFld c.Kinds "deeds" 0 (eFld "deeds" (eOp dIx (eVar 2) (eC (.int 0)))))
  (dSeq (dFld c.Kinds "signs" 0 (eFld "signs" (eOp dIx (eVar 2) (eC (.int 0)))))
  (dFld c.Kinds "whole" 0 (eFld "whole" (eOp dIx (eVar 2) (eC (.int 0))))))))))))))
def d_Kinds_total_weight : DS :=
  (dRet (eB1 dSum (eFld "weights" (eVar 0))))
def d_check_asked (c : Ad) : DS :=
  (dSeq (dIf (asB (eOp (dEq true) (eB1 dLen (eVar 1)) (eFld "many" (eVar 0))))
  dNever
  dNext)
  (dFor (srcS false (eVar 1)) (gV 2)
  (dExprS (eCall (sp_check_deed c) [] (aCons (eOp dIx (eFld "books" (eVar 0)) (eC (.int 0))) (aCons (eVar 2) aNil))))))
def d_pooled_wish (c : Ad) : DS :=
  (dSeq (dExprS (eCall (sp_check_asked c) [] (aCons (eVar 0) (aCons (eVar 1) aNil))))
  (dSeq (dPar 2 3 (eOp dRep (eLst (aCons (eC (.int 0)) aNil)) (eFld "signs" (eVar 0))) (eLst aNil))
  (dSeq (dFor (srcE false (eFld "books" (eVar 0))) (gT0 2 (gC0 (gV 4) (gC0 (gV 5) gN0)))
  (dSeq (dAsgG (eOp dIx (eVar 1) (eVar 4)) (gV 6))
  (dSeq (dAsgG (eLc (srcZ true (eVar 2) (eOp dIx (eFld "rows" (eVar 5)) (eVar 6))) (gT0 2 (gC0 (gV 7) (gC0 (gV 8) gN0))) uYes (eOp dAdd (eVar 7) (eOp dMul (eOp dIx (eFld "weights" (eVar 0)) (eVar 4)) (eVar 8))) [7, 8]) (gV 2))
  (dExt 3 (eLc (srcR1 (eFld "deeds" (eVar 0))) (gV 9) (asB (eOp (dEq true) (eVar 9) (eVar 6))) (eCall (sp_deed_row c) [] (aCons (eVar 5) (aCons (eVar 6) (aCons (eVar 9) aNil)))) [9])))))
  (dFrz 3 (dRet (eMake c.Wish sp_Wish_init [] (aCons (eVar 2) (aCons (eVar 3) (aCons (eOp dMul (eFld "whole" (eVar 0)) (eProp c.Kinds (sp_Kinds_total_weight c) (eVar 0))) aNil)))))))))
def d_pooled (c : Ad) : DS :=
  (dRet (eCall (sp_ask c) [] (aCons (eCall (sp_pooled_wish c) [] (aCons (eVar 0) (aCons (eVar 1) aNil))) aNil)))
def d_choice_row : DS :=
  (dSeq (dAsgG (eOp dIx (eFld "books" (eVar 0)) (eVar 2)) (gV 5))
  (dSeq (dAsg (eOp dRep (eLst (aCons (eC (.int 0)) aNil)) (eOp dMul (eFld "many" (eVar 0)) (eFld "signs" (eVar 0)))) 6)
  (dSeq (dFor (srcR1 (eFld "signs" (eVar 0))) (gV 7)
  (dSeq (dAugI (fun a b => a + b) 6 (eOp dAdd (eOp dMul (eVar 2) (eFld "signs" (eVar 0))) (eVar 7)) (eOp dIx (eOp dIx (eFld "rows" (eVar 5)) (eOp dIx (eVar 1) (eVar 2))) (eVar 7)))
  (dAugI (fun a b => a - b) 6 (eOp dAdd (eOp dMul (eVar 3) (eFld "signs" (eVar 0))) (eVar 7)) (eOp dIx (eOp dIx (eFld "rows" (eVar 5)) (eVar 4)) (eVar 7)))))
  (dFrz 6 (dRet (eTup (aCons (eVar 6) (aCons (eOp dMul (eFld "whole" (eVar 5)) (eOp dSub (eOp dIx (eFld "costs" (eVar 5)) (eOp dIx (eVar 1) (eVar 2))) (eOp dIx (eFld "costs" (eVar 5)) (eVar 4)))) aNil))))))))
def d_menu_wish (c : Ad) : DS :=
  (dSeq (dExprS (eCall (sp_check_asked c) [] (aCons (eVar 0) (aCons (eVar 1) aNil))))
  (dSeq (dPar 2 3 (eLst aNil) (eLst aNil))
  (dSeq (dFor (srcE false (eFld "books" (eVar 0))) (gT0 2 (gC0 (gV 4) (gC0 (gV 5) gN0)))
  (dSeq (dExt 2 (eLc (srcS true (eOp dIx (eFld "rows" (eVar 5)) (eOp dIx (eVar 1) (eVar 4)))) (gV 8) uYes (eOp dMul (eOp dIx (eFld "weights" (eVar 0)) (eVar 4)) (eVar 8)) [8]))
  (dFor (srcR1 (eFld "many" (eVar 0))) (gV 6)
  (dFor (srcR1 (eFld "deeds" (eVar 0))) (gV 7)
  (dIf (uOr (asB (eOp (dEq true) (eVar 6) (eVar 4))) (asB (eOp (dEq true) (eVar 7) (eOp dIx (eVar 1) (eVar 4)))))
  (dApp 3 (eCall (sp_choice_row c) [] (aCons (eVar 0) (aCons (eVar 1) (aCons (eVar 4) (aCons (eVar 6) (aCons (eVar 7) aNil)))))))
  dNext)))))
  (dFrz 3 (dFrz 2 (dRet (eMake c.Wish sp_Wish_init [] (aCons (eVar 2) (aCons (eVar 3) (aCons (eOp dMul (eFld "whole" (eVar 0)) (eProp c.Kinds (sp_Kinds_total_weight c) (eVar 0))) aNil))))))))))
def d_menu (c : Ad) : DS :=
  (dRet (eCall (sp_ask c) [] (aCons (eCall (sp_menu_wish c) [] (aCons (eVar 0) (aCons (eVar 1) aNil))) aNil)))
end Dl

namespace Dl
open PySem PySem.Spec PyProof.Rows L2 Slv
theorem seq_at {r : R} {xs : List D} {z : Int} {d : D} (h : r.seq = some xs) (e : atI xs z = some d) : r.seq.bind (fun xs => atI xs z) = some d := (congrArg (fun z' : Option (List D) => z'.bind fun xs => atI xs z) h).trans e
theorem books_len {c : Ad} {K : Kd} : (booksD c K).length = K.many := mp_len
theorem atI_books {c : Ad} {K : Kd} {k : Nat} {z : Int} (h : k < K.many) (e : z = k) : atI (booksD c K) z = some (bookD c (K.bk k)) := atI_mp h e
theorem pure_first_fault_kinds (c : Ad) (ds : List D) (P : R → Prop) (h : sp_first_fault_kinds c ds P) : d_first_fault_kinds (RD P) (startD 3 ds) := by
  obtain ⟨K, ⟨w, bs, rfl, hw, hb, hok⟩, q⟩ := h
  have m1 := hok.m1
  have b0 : (R.val bs).seq.bind (fun xs => atI xs 0) = some (bookD c (K.bk 0)) := seq_at hb (atI_books (by omega) rfl)
  have mn : 1 ≤ lmin ((List.range K.many).map K.wt) := by
    obtain ⟨k, hk, e⟩ := List.mem_map.mp (lmin_mem (mp_ne (f := K.wt) m1))
    rw [← e]; exact hok.wt1 k (List.mem_range.mp hk)
  refine ⟨_, hb, fun h => absurd (of_decide_eq_true h) (by rw [books_len]; omega), fun _ => ⟨_, hw, _, hb, fun h => absurd h (nd_f (by rw [vec_len, books_len])), fun _ => ?_⟩⟩
  refine ⟨_, seq_vec hw, mp_ne m1, fun h => absurd (of_decide_eq_true h) (by omega), fun _ => ?_⟩
  refine ⟨_, hb, fun i ds' => ∃ s, ds' = [.val w, .val bs, s], ⟨_, rfl⟩, ?_, ?_⟩
  · rintro i d ds' hd ⟨s, rfl⟩
    obtain ⟨hi, rfl⟩ := mp_some hd
    exact ⟨_, rfl, _, b0, _, rfl, fun h => absurd h (nd_f rfl), fun _ => ⟨_, rfl, _, b0, _, rfl, fun h => absurd h (nd_f rfl), fun _ => ⟨_, rfl, _, b0, _, rfl, fun h => absurd h (nd_f rfl), fun _ => ⟨_, rfl⟩⟩⟩⟩
  · rintro ds' ⟨s, rfl⟩
    exact ⟨_, ⟨rfl, rfl⟩, q⟩
theorem pure_Kinds_init (c : Ad) (p : Addr) (ds : List D) (P : List (Str × D) → Prop) (h : sp_Kinds_init c ds P) : d_Kinds_init c (ID p c.Kinds P) (.obj p c.Kinds [] :: startD 3 ds) := by
  obtain ⟨K, ⟨w, bs, rfl, hw, hb, hok⟩, q⟩ := h
  have m1 := hok.m1
  have m3 := hok.m3
  have a4 := hok.a4
  have g4 := hok.g4
  have b0 : (R.val bs).seq.bind (fun xs => atI xs 0) = some (bookD c (K.bk 0)) := seq_at hb (atI_books (by omega) rfl)
  refine ⟨_, hb, fun h => absurd (of_decide_eq_true h) (by rw [books_len]; omega), fun _ => ?_⟩
  refine ⟨_, rfl, _, rfl, K, ⟨w, bs, rfl, hw, hb, hok⟩, _, rfl, fun h => (by cases h), fun _ => ?_⟩
  refine ⟨_, b0, _, rfl, fun h => absurd (of_decide_eq_true h) (by show ¬ (4 : Int) < (K.a : Int); omega), fun _ => ⟨_, b0, _, rfl, fun h => absurd (of_decide_eq_true h) (by show ¬ (4 : Int) < (K.g : Int); omega), fun _ => ?_⟩⟩
  refine ⟨_, hw, _, p, _, rfl, rfl, l1k ln0, _, hb, _, p, _, rfl, rfl, l1k (ln1 ln0), _, hb, _, p, _, rfl, rfl, l1k (ln1 (ln1 ln0)), _, b0, _, rfl, _, p, _, rfl, rfl, l1k (ln1 (ln1 (ln1 ln0))), _, b0, _, rfl, _, p, _, rfl, rfl, l1k (ln1 (ln1 (ln1 (ln1 ln0)))), _, b0, _, rfl, _, p, _, rfl, rfl, l1k (ln1 (ln1 (ln1 (ln1 (ln1 ln0))))), ?_⟩
  rw [books_len]
  exact ⟨_, rfl, q⟩
theorem pure_Kinds_total_weight (c : Ad) (ds : List D) (P : R → Prop) (h : sp_Kinds_total_weight c ds P) : d_Kinds_total_weight (RD P) (startD 1 ds) := by
  obtain ⟨K, rfl, q⟩ := h
  refine ⟨_, rfl, _, congrArg some vec_map, _, ⟨rfl, rfl⟩, ?_⟩
  rw [sum_sm]; exact q
theorem pure_check_asked (c : Ad) (ds : List D) (P : R → Prop) (h : sp_check_asked c ds P) : d_check_asked c (RD P) (startD 3 ds) := by
  obtain ⟨K, ask, rfl, hok, ha, q⟩ := h
  have m1 := hok.m1
  refine ⟨_, rfl, _, rfl, fun h => absurd h (nd_f (by rw [vec_len])), fun _ => ?_⟩
  refine ⟨_, rfl, fun i ds' => ∃ s, ds' = [.val (kindsD c K), .val (askD K ask), s], ⟨_, rfl⟩, ?_, ?_⟩
  · rintro i d ds' hd ⟨s, rfl⟩
    obtain ⟨hi, rfl⟩ := vec_get hd
    exact ⟨_, rfl, _, atI_books (k := 0) (by omega) rfl, _, rfl, _, rfl, K.bk 0, ask i, rfl, ha i hi, ⟨_, rfl⟩⟩
  · rintro ds' ⟨s, rfl⟩
    exact q
theorem rep0 (n : Nat) : (List.replicate n [D.int 0]).flatten = vec n fun _ => 0 := by
  induction n with
  | zero => rfl
  | succ n ih =>
    rw [List.replicate_succ', List.flatten_append, ih]
    unfold vec
    rw [mp_succ]; rfl
theorem fl_len {α : Type} {n b : Nat} {f : Nat → List α} (h : ∀ k, k < n → (f k).length ≤ b) : ((List.range n).flatMap f).length ≤ n * b := by
  induction n with
  | zero => simp
  | succ n ih =>
    rw [List.range_succ, List.flatMap_append, List.length_append]
    have h1 := ih fun k hk => h k (by omega)
    have h2 := h n (by omega)
    have e : ([n].flatMap f).length = (f n).length := by simp
    rw [e, Nat.succ_mul]; omega
theorem fl_succ {α : Type} (n : Nat) (f : Nat → List α) : (List.range (n + 1)).flatMap f = (List.range n).flatMap f ++ f n := by
  rw [List.range_succ, List.flatMap_append]; simp
theorem bt_sm {b n : Nat} {f : Nat → Int} (h : ∀ k, k < n → Bt b (f k)) : Bt (b + n) (sm n f) := by
  induction n with
  | zero => exact bt_zero
  | succ n ih =>
    have a : Bt (b + n) (sm n f) := ih fun k hk => h k (by omega)
    have c : Bt (b + n) (f n) := bt_up (h n (by omega)) (by omega)
    exact bt_add a c
theorem sm_pos {n : Nat} {f : Nat → Int} (h1 : 1 ≤ n) (h : ∀ k, k < n → 1 ≤ f k) : 1 ≤ sm n f := by
  have h0 : ∀ k, k < n → 0 ≤ f k := fun k hk => by have := h k hk; omega
  have := sm_ge_one h0 (show 0 < n by omega)
  have := h 0 (by omega)
  omega
theorem Kd.Ok.unit {K : Kd} (h : K.Ok) : 0 < K.wh ∧ 1 ≤ sm K.many K.wt ∧ Bt 48 (sm K.many K.wt) ∧ Bt 45 K.wh := by
  obtain ⟨_, _, _, _, _, hwh, _⟩ := h.ok 0 h.m1
  exact ⟨hwh, sm_pos h.m1 h.wt1, bt_up (bt_sm h.wtb) (by have := h.m3; omega), (h.sz 0 h.m1).1⟩
theorem All2.flat {α β : Type} {p : α → β → Prop} {f : Nat → List α} {g : Nat → List β} {n : Nat} (h : ∀ k, k < n → All2 p (f k) (g k)) : All2 p ((List.range n).flatMap f) ((List.range n).flatMap g) := by
  induction n with
  | zero => exact .nil
  | succ n ih => rw [fl_succ, fl_succ]; exact (ih fun k hk => h k (by omega)).append (h n (by omega))
theorem pure_pooled_wish (c : Ad) (ds : List D) (P : R → Prop) (h : sp_pooled_wish c ds P) : d_pooled_wish c (RD P) (startD 10 ds) := by
  obtain ⟨K, ask, rfl, hok, ha, q⟩ := h
  have m1 := hok.m1
  have m3 := hok.m3
  have a4 := hok.a4
  have g4 := hok.g4
  obtain ⟨u1, u2, u3, u4⟩ := hok.unit
  refine ⟨_, rfl, _, rfl, K, ask, rfl, hok, ha, ?_⟩
  refine ⟨_, rfl, le_line (by show 1 ≤ 1000000; decide), _, rfl, [.int 0], _, rfl, rfl, by omega, by omega, le_line (by show 1 * (K.g : Int).toNat ≤ 1000000; omega), le_line (by show 0 ≤ 1000000; decide), _, _, rfl, rfl, ?_⟩
  rw [Int.toNat_natCast, rep0]
  refine ⟨_, rfl, _, rfl, fun i ds' => ∃ s2 s4 s5 s6 s7 s8 s9, ds' = [.val (kindsD c K), .val (askD K ask), s2, .own ((List.range i).flatMap fun k => (others K.a (ask k)).map fun j => rowL K.g (rowF (K.bk k) (ask k) j)), s4, s5, s6, s7, s8, s9] ∧
    (s2 = .val (.lst (vec K.g fun s => sm i fun k => K.wt k * K.rows k (ask k) s)) ∨ (s2 = .own (vec K.g fun s => sm i fun k => K.wt k * K.rows k (ask k) s) ∧ i = 0)), ⟨_, _, _, _, _, _, _, rfl, .inr ⟨rfl, rfl⟩⟩, ?_, ?_⟩
  · rintro i d ds' hd ⟨s2, s4, s5, s6, s7, s8, s9, rfl, hs2⟩
    obtain ⟨x, hx, rfl⟩ := enumD_get hd
    obtain ⟨hi, rfl⟩ := mp_some hx
    have hai := ha i hi
    obtain ⟨a1, a2, g1, g2, hrow, hwh, hco, hc0, hwo⟩ := hok.ok i hi
    have e1 : atI (vec K.many fun k => (ask k : Nat)) (i : Int) = some (.int (ask i : Nat)) := atI_vec hi rfl
    have e2 : atI (vec K.many K.wt) (i : Int) = some (.int (K.wt i)) := atI_vec hi rfl
    have r1 := atI_rows (B := K.bk i) hai rfl
    have step : ∀ (r2 : R), r2.seq = some (vec K.g fun s => sm i fun k => K.wt k * K.rows k (ask k) s) → r2.sq true = some (vec K.g fun s => sm i fun k => K.wt k * K.rows k (ask k) s) := fun r2 h => h
    have rowb : ∀ s, s < K.g → CMulW (K.wt i) (K.rows i (ask i) s) := fun s hs => mulW (hok.wtb i hi) ((K.bk i).row_bt (hok.ok i hi) (hok.sz i hi) hai hs) (by omega) (by omega) (by omega)
    have key : ∀ s2 : S, (s2 = .val (.lst (vec K.g fun s => sm i fun k => K.wt k * K.rows k (ask k) s)) ∨ (s2 = .own (vec K.g fun s => sm i fun k => K.wt k * K.rows k (ask k) s) ∧ i = 0)) → True := fun _ _ => trivial
    rcases hs2 with rfl | ⟨rfl, _⟩
    all_goals
      refine ⟨_, rfl, ⟨_, rfl⟩, rfl, rfl, _, e1, _, rfl, _, rfl, _, r1, _, _, rfl, rfl, le_line (by show (zipD (vec K.g _) (vec K.g _)).length ≤ 1000000; rw [zip_len]; omega), fun s => some (.int (sm (i + 1) fun k => K.wt k * K.rows k (ask k) s)), fun s d hd => ?_, ?_⟩
      · obtain ⟨hs, rfl⟩ := zip_vec (n := K.g) hd
        exact ⟨_, rfl, ⟨_, rfl⟩, rfl, rfl, fun _ => ⟨_, rfl, _, e2, rowb s hs, _, rfl, rfl⟩, fun z => (by cases z)⟩
      · rw [fm_some]
        have zl : (zipD (vec K.g fun s => sm i fun k => K.wt k * K.rows k (ask k) s) (vec K.g (K.rows i (ask i)))).length = K.g := zip_len
        have zl' : (zipD (vec K.g fun s => sm i fun k => K.wt k * K.rows k (ask k) s) (vec (K.bk i).g ((K.bk i).rows (ask i)))).length = K.g := zl
        rw [zl']
        refine ⟨_, rfl, _, rfl, by omega, by omega, le_line (by rw [rgD_len]; omega), othF c (K.bk i) (ask i), fun j d hd => ?_, ?_⟩
        · obtain ⟨hj, rfl⟩ := rgD_some hd
          rw [Int.toNat_natCast] at hj
          have ez : ((0 : Int) + (j : Int)) = (j : Int) := by omega
          rw [ez]
          have en := ne_nat (i := ask i) (j := j)
          refine ⟨fun h => ⟨_, rfl, _, rfl, _, rfl, K.bk i, ask i, j, rfl, hai, hj, g2, hok.sz i hi, _, rfl, if_pos (en ▸ h)⟩, fun h => if_neg (fun w => ?_)⟩
          have h' : (!decide ((j : Int) = (ask i : Int))) = false := h
          rw [en, w] at h'; cases h'
        · rw [rgD_len, Int.toNat_natCast]
          have ef : (List.range K.a).filterMap (othF c (K.bk i) (ask i)) = (others K.a (ask i)).map fun j => rowL K.g (rowF (K.bk i) (ask i) j) := fm_if _
          rw [ef]
          have l1 : ((List.range i).flatMap fun k => (others K.a (ask k)).map fun j => rowL K.g (rowF (K.bk k) (ask k) j)).length ≤ i * 4 := fl_len fun k _ => by
            rw [List.length_map]; have := others_len K.a (ask k); omega
          have l2 := others_len K.a (ask i)
          refine ⟨_, rfl, le_line ?_, ?_⟩
          · rw [List.length_map]; omega
          · exact ⟨_, _, _, _, _, _, _, by rw [fl_succ]; rfl, .inl rfl⟩
  · rintro ds' ⟨s2, s4, s5, s6, s7, s8, s9, rfl, hs2⟩
    have el : (enumD (booksD c K)).length = K.many := by rw [enumD_len, books_len]
    have e2 : s2 = .val (.lst (vec K.g fun s => sm K.many fun k => K.wt k * K.rows k (ask k) s)) := by
      rw [el] at hs2
      rcases hs2 with h | ⟨_, h⟩
      · exact h
      · omega
    subst e2
    rw [el]
    refine ⟨_, rfl, _, rfl, _, rfl, rfl, K, rfl, mulW u4 u3 (by omega) (by omega) (by omega), _, rfl, ?_⟩
    refine ⟨T_pooled K ask, _, _, _, rfl, rfl, rfl, ?_, ?_, by show K.g ≤ 18; omega, ?_, fun s hs => sm_nonneg fun k hk => ?_, ?_, _, ⟨rfl, rfl⟩, q⟩
    · exact All2.flat fun k hk => All2.map fun j _ => isRow_l
    · obtain ⟨a1, a2, g1, _⟩ := hok.ok 0 (by omega)
      exact g1
    · have : ((List.range K.many).flatMap fun k => (others K.a (ask k)).map (rowF (K.bk k) (ask k))).length ≤ K.many * 4 := fl_len fun k _ => by
        rw [List.length_map]; have := others_len K.a (ask k); omega
      show ((List.range K.many).flatMap fun k => (others K.a (ask k)).map (rowF (K.bk k) (ask k))).length ≤ 40
      omega
    · have h1 := hok.wt1 k hk
      have h2 := ((K.bk k).row_le (hok.ok k hk) (ha k hk) hs).1
      exact Int.mul_nonneg (by omega) h2
    · show 1 ≤ K.wh * sm K.many K.wt
      have := Int.mul_pos u1 (show 0 < sm K.many K.wt by omega)
      omega
end Dl

namespace Dl
open PySem PySem.Spec PyProof.Rows L2 Slv
theorem ws_pooled {K : Kd} {ask : Nat → Nat} (hok : K.Ok) (ha : ∀ k, k < K.many → ask k < K.a) : WsT (T_pooled K ask) := by
  have m1 := hok.m1
  have m3 := hok.m3
  have a4 := hok.a4
  have g4 := hok.g4
  obtain ⟨u1, u2, u3, u4⟩ := hok.unit
  refine ⟨⟨by show K.g ≤ 18; omega, ?_, fun s hs => ⟨sm_nonneg fun k hk => ?_, ?_⟩, fun s hs => Tk.rows_bt (p := fun r => Bt 100 r.2 ∧ ∀ k, k < K.g → Bt 100 (r.1 k)) (fun x hx => ?_) hs⟩, ?_, bt_up (bt_mul u4 u3) (by omega)⟩
  · have : ((List.range K.many).flatMap fun k => (others K.a (ask k)).map (rowF (K.bk k) (ask k))).length ≤ K.many * 4 := fl_len fun k _ => by
      rw [List.length_map]; have := others_len K.a (ask k); omega
    show ((List.range K.many).flatMap fun k => (others K.a (ask k)).map (rowF (K.bk k) (ask k))).length ≤ 40
    omega
  · have h1 := hok.wt1 k hk
    have h2 := ((K.bk k).row_le (hok.ok k hk) (ha k hk) hs).1
    exact Int.mul_nonneg (by omega) h2
  · show Bt 100 (sm K.many fun k => K.wt k * K.rows k (ask k) s)
    have : Bt (90 + K.many) (sm K.many fun k => K.wt k * K.rows k (ask k) s) := bt_sm fun k hk => bt_mul (a := 45) (b := 45) (hok.wtb k hk) ((K.bk k).row_bt (hok.ok k hk) (hok.sz k hk) (ha k hk) hs)
    exact bt_up this (by omega)
  · obtain ⟨k, hk, hx⟩ := List.mem_flatMap.mp hx
    have hk' := List.mem_range.mp hk
    obtain ⟨j, hj, rfl⟩ := List.mem_map.mp hx
    exact rowF_bt (hok.ok k hk') (hok.sz k hk') (ha k hk') (others_lt hj)
  · show 1 ≤ K.wh * sm K.many K.wt
    have := Int.mul_pos u1 (show 0 < sm K.many K.wt by omega)
    omega
theorem pure_pooled (c : Ad) (ds : List D) (P : R → Prop) (h : sp_pooled c ds P) : d_pooled c (RD P) (startD 2 ds) := by
  obtain ⟨K, ask, rfl, hok, ha, q1, q2⟩ := h
  exact ⟨_, rfl, _, rfl, K, ask, rfl, hok, ha, _, rfl, T_pooled K ask, rfl, ws_pooled hok ha, fun d v x w G => ⟨_, ⟨rfl, rfl⟩, q1 d v x w G⟩, fun d w G => ⟨_, ⟨rfl, rfl⟩, q2 d w G⟩⟩
/-! places of a pay for each kind -/
theorem place {k g t i : Nat} (ht : t < g) : i = k * g + t ↔ i / g = k ∧ i % g = t := by
  constructor
  · intro e
    subst e
    rw [Nat.add_comm, Nat.add_mul_div_right _ _ (by omega), Nat.add_mul_mod_self_right, Nat.div_eq_of_lt ht, Nat.mod_eq_of_lt ht]
    omega
  · rintro ⟨e1, e2⟩
    have := Nat.div_add_mod i g
    rw [e1, e2, Nat.mul_comm] at this
    exact this.symm
def chT (K : Kd) (ask : Nat → Nat) (k o d t : Nat) : Nat → Int := fun i => (if i / K.g = k ∧ i % K.g < t then K.rows k (ask k) (i % K.g) else 0) - (if i / K.g = o ∧ i % K.g < t then K.rows k d (i % K.g) else 0)
theorem ch_step {K : Kd} {ask : Nat → Nat} {k o d t : Nat} (ht : t < K.g) (i : Nat) :
    chT K ask k o d (t + 1) i = if i = o * K.g + t then (if i = k * K.g + t then chT K ask k o d t i + K.rows k (ask k) t else chT K ask k o d t i) - K.rows k d t else (if i = k * K.g + t then chT K ask k o d t i + K.rows k (ask k) t else chT K ask k o d t i) := by
  simp only [place ht]
  unfold chT
  by_cases hr : i % K.g = t
  · have e1 : ¬ (i % K.g < t) := by omega
    have e2 : i % K.g < t + 1 := by omega
    simp only [hr, e1, e2, and_true, and_false, if_false]
    have e3 : t < t + 1 := by omega
    simp only [e3, and_true, Nat.lt_irrefl, and_false, if_false]
    by_cases a : i / K.g = k <;> by_cases b : i / K.g = o <;> simp [a, b] <;> omega
  · have e1 : (i % K.g < t + 1) ↔ (i % K.g < t) := by omega
    simp only [hr, e1, and_false, if_false]
theorem vec_set {n j : Nat} {f : Nat → Int} {x : Int} : (vec n f).set j (.int x) = vec n fun i => if i = j then x else f i := by
  rw [vec, mp_set]
  refine mp_congr fun i _ => ?_
  show (if i = j then D.int x else D.int (f i)) = D.int (if i = j then x else f i)
  by_cases h : i = j
  · rw [if_pos h, if_pos h]
  · rw [if_neg h, if_neg h]
theorem vec_at {n j : Nat} {f : Nat → Int} (h : j < n) : (vec n f)[j]? = some (.int (f j)) := mp_get h
theorem place_lt {k g t m : Nat} (hk : k < m) (ht : t < g) : k * g + t < m * g := by
  have : (k + 1) * g ≤ m * g := Nat.mul_le_mul_right g hk
  rw [Nat.succ_mul] at this
  omega
theorem pure_choice_row (c : Ad) (ds : List D) (P : R → Prop) (h : sp_choice_row c ds P) : d_choice_row (RD P) (startD 8 ds) := by
  obtain ⟨K, ask, k, o, d, rfl, hok, ha, hk, ho, hd, q⟩ := h
  have m3 := hok.m3
  have a4 := hok.a4
  have g4 := hok.g4
  have hak := ha k hk
  have hsz := hok.sz k hk
  have mg : K.many * K.g ≤ 12 := Nat.mul_le_mul m3 g4
  have r1 := atI_rows (B := K.bk k) hak rfl
  have r2 := atI_rows (B := K.bk k) hd rfl
  have e1 : atI (vec K.many fun k => (ask k : Nat)) (k : Int) = some (.int (ask k : Nat)) := atI_vec hk rfl
  have emg : ((K.many : Int) * (K.g : Int)).toNat = K.many * K.g := by rw [← Int.natCast_mul, Int.toNat_natCast]
  have bn : ∀ {n : Nat}, n ≤ 1000 → Bt 45 (n : Int) := fun {n} h => by
    unfold Bt
    have : (2 : Nat) ^ 10 ≤ 2 ^ 45 := Nat.pow_le_pow_right (by decide) (by decide)
    show ((n : Int)).natAbs < 2 ^ 45
    rw [Int.natAbs_natCast]
    omega
  have mk : CMulW (K.many : Int) (K.g : Int) := mulW (bn (by omega)) (bn (by omega)) (by omega) (by omega) (by omega)
  have mk1 : CMulW (k : Int) (K.g : Int) := mulW (bn (by omega)) (bn (by omega)) (by omega) (by omega) (by omega)
  have mk2 : CMulW (o : Int) (K.g : Int) := mulW (bn (by omega)) (bn (by omega)) (by omega) (by omega) (by omega)
  have pmg : (K.many : Int) * (K.g : Int) = ((K.many * K.g : Nat) : Int) := (Int.natCast_mul _ _).symm
  refine ⟨_, rfl, _, atI_books hk rfl, _, rfl, _, rfl, le_line (by show 1 ≤ 1000000; decide), _, rfl, _, rfl, mk, [.int 0], _, rfl, rfl, by rw [pmg]; omega, by rw [pmg]; omega, le_line (by rw [emg]; show 1 * (K.many * K.g) ≤ 1000000; omega), _, rfl, ?_⟩
  rw [emg, rep0]
  have z0 : (fun _ : Nat => (0 : Int)) = chT K ask k o d 0 := by
    funext i; unfold chT; simp
  rw [z0]
  refine ⟨_, rfl, by omega, by omega, fun t ds' => ∃ s7, ds' = [.val (kindsD c K), .val (askD K ask), .val (.int k), .val (.int o), .val (.int d), .val (bookD c (K.bk k)), .own (vec (K.many * K.g) (chT K ask k o d t)), s7], ⟨_, rfl⟩, ?_, ?_⟩
  · rintro t d2 ds' hd2 ⟨s7, rfl⟩
    obtain ⟨ht, rfl⟩ := rgD_some hd2
    rw [Int.toNat_natCast] at ht
    have c1 : atI (vec K.g (K.rows k (ask k))) (0 + (t : Int)) = some (.int (K.rows k (ask k) t)) := atI_vec ht (by omega)
    have c2 : atI (vec K.g (K.rows k d)) (0 + (t : Int)) = some (.int (K.rows k d t)) := atI_vec ht (by omega)
    have i1 : ∀ f, ixN (vec (K.many * K.g) f).length ((k : Int) * (K.g : Int) + (0 + (t : Int))) = some (k * K.g + t) := fun f => by
      rw [vec_len]; exact ixN_nat (place_lt hk ht) (by rw [Int.natCast_add, Int.natCast_mul]; omega)
    have i2 : ∀ f, ixN (vec (K.many * K.g) f).length ((o : Int) * (K.g : Int) + (0 + (t : Int))) = some (o * K.g + t) := fun f => by
      rw [vec_len]; exact ixN_nat (place_lt ho ht) (by rw [Int.natCast_add, Int.natCast_mul]; omega)
    refine ⟨_, rfl, mk1, _, _, _, rfl, i1 _, vec_at (place_lt hk ht), _, rfl, _, e1, _, r1, _, c1, _, rfl, ?_⟩
    rw [vec_set]
    refine ⟨_, rfl, mk2, _, _, _, rfl, i2 _, vec_at (place_lt ho ht), _, rfl, _, r2, _, c2, _, rfl, ?_⟩
    rw [vec_set]
    refine ⟨.val (.int (0 + (t : Int))), congrArg (fun z => [S.val (kindsD c K), .val (askD K ask), .val (.int k), .val (.int o), .val (.int d), .val (bookD c (K.bk k)), .own z, .val (.int (0 + (t : Int)))]) (vec_congr fun i _ => ?_)⟩
    rw [ch_step ht]
    by_cases w : i = o * K.g + t
    · rw [if_pos w, if_pos w, ← w]
      by_cases w2 : i = k * K.g + t
      · rw [if_pos w2, if_pos w2, ← w2]
      · rw [if_neg w2, if_neg w2]
    · rw [if_neg w, if_neg w]
      by_cases w2 : i = k * K.g + t
      · rw [if_pos w2, if_pos w2, ← w2]
      · rw [if_neg w2, if_neg w2]
  · rintro ds' ⟨s7, rfl⟩
    rw [rgD_len, Int.toNat_natCast]
    have c1 : atI (vec K.a (K.costs k)) ((ask k : Nat) : Int) = some (.int (K.costs k (ask k))) := atI_vec hak rfl
    have c2 : atI (vec K.a (K.costs k)) (d : Int) = some (.int (K.costs k d)) := atI_vec hd rfl
    refine ⟨_, rfl, _, rfl, _, rfl, _, e1, _, c1, _, rfl, _, c2, mulW hsz.1 (bt_sub (hsz.2 _ hak) (hsz.2 _ hd)) (by omega) (by omega) (by omega), _, rfl, le_line (by show 2 ≤ 1000000; decide), _, ⟨rfl, rfl⟩, ?_⟩
    have e : vec (K.many * K.g) (chT K ask k o d K.g) = vec (K.many * K.g) (choiceF K ask (k, o, d)).1 := vec_congr fun i hi => by
      have hg : 0 < K.g := by
        rcases Nat.eq_zero_or_pos K.g with z | z
        · rw [z, Nat.mul_zero] at hi; omega
        · exact z
      have hm : i % K.g < K.g := Nat.mod_lt _ hg
      unfold chT choiceF
      simp only [hm, and_true]
    show P (.val (.tup [.lst (vec (K.many * K.g) (chT K ask k o d K.g)), .int (K.wh * (K.costs k (ask k) - K.costs k d))]))
    rw [e]
    exact q
end Dl

namespace Dl
open PySem PySem.Spec PyProof.Rows L2 Slv
def rl (K : Kd) (ask : Nat → Nat) (L : List (Nat × Nat × Nat)) : List D := L.map fun t => rowL (K.many * K.g) (choiceF K ask t)
theorem rl_app {K : Kd} {ask : Nat → Nat} {L M : List (Nat × Nat × Nat)} : rl K ask (L ++ M) = rl K ask L ++ rl K ask M := List.map_append ..
theorem rl_len {K : Kd} {ask : Nat → Nat} {L : List (Nat × Nat × Nat)} : (rl K ask L).length = L.length := List.length_map ..
def offT (K : Kd) (ask : Nat → Nat) (k o t : Nat) : List (Nat × Nat × Nat) := ((List.range t).filter fun d => decide (o ≠ k) || decide (d ≠ ask k)).map fun d => (k, o, d)
theorem offT_succ {K : Kd} {ask : Nat → Nat} {k o t : Nat} : offT K ask k o (t + 1) = offT K ask k o t ++ (if (decide (o ≠ k) || decide (t ≠ ask k)) = true then [(k, o, t)] else []) := by
  unfold offT
  rw [List.range_succ, List.filter_append, List.map_append]
  refine congrArg _ ?_
  by_cases h : (decide (o ≠ k) || decide (t ≠ ask k)) = true
  · rw [if_pos h, List.filter_cons_of_pos (p := fun d => decide (o ≠ k) || decide (d ≠ ask k)) h]; rfl
  · rw [if_neg h, List.filter_cons_of_neg (p := fun d => decide (o ≠ k) || decide (d ≠ ask k)) h]; rfl
theorem offT_len {K : Kd} {ask : Nat → Nat} {k o t : Nat} : (offT K ask k o t).length ≤ t := by
  unfold offT
  rw [List.length_map]
  have := List.length_filter_le (fun d => decide (o ≠ k) || decide (d ≠ ask k)) (List.range t)
  rw [List.length_range] at this
  exact this
/-- the triples behind i kinds, j offers, t deeds -/
def L1 (K : Kd) (ask : Nat → Nat) (i : Nat) : List (Nat × Nat × Nat) := (List.range i).flatMap fun k => (List.range K.many).flatMap fun o => offers K ask k o
def L2' (K : Kd) (ask : Nat → Nat) (i j : Nat) : List (Nat × Nat × Nat) := L1 K ask i ++ (List.range j).flatMap fun o => offers K ask i o
theorem L1_len {K : Kd} {ask : Nat → Nat} {i : Nat} : (L1 K ask i).length ≤ i * (K.many * K.a) := fl_len fun k _ => fl_len fun o _ => offT_len (K := K) (ask := ask) (k := k) (o := o) (t := K.a)
theorem L2_len {K : Kd} {ask : Nat → Nat} {i j : Nat} : (L2' K ask i j).length ≤ i * (K.many * K.a) + j * K.a := by
  unfold L2'
  rw [List.length_append]
  have a := L1_len (K := K) (ask := ask) (i := i)
  have b : ((List.range j).flatMap fun o => offers K ask i o).length ≤ j * K.a := fl_len fun o _ => offT_len (K := K) (ask := ask) (k := i) (o := o) (t := K.a)
  omega
def gM (K : Kd) (ask : Nat → Nat) : Nat → Int := fun i => K.wt (i / K.g) * K.rows (i / K.g) (ask (i / K.g)) (i % K.g)
theorem gM_at {K : Kd} {ask : Nat → Nat} {k s : Nat} (hs : s < K.g) : gM K ask (k * K.g + s) = K.wt k * K.rows k (ask k) s := by
  obtain ⟨e1, e2⟩ := (place hs).mp (rfl : k * K.g + s = k * K.g + s)
  unfold gM
  rw [e1, e2]
theorem gM_app {K : Kd} {ask : Nat → Nat} {i : Nat} : vec (i * K.g) (gM K ask) ++ vec K.g (fun s => K.wt i * K.rows i (ask i) s) = vec ((i + 1) * K.g) (gM K ask) := by
  rw [Nat.succ_mul]
  have : vec (i * K.g + K.g) (gM K ask) = vec (i * K.g) (gM K ask) ++ vec K.g fun s => gM K ask (i * K.g + s) := mp_app _ _ _
  rw [this]
  exact congrArg _ (vec_congr fun s hs => (gM_at hs).symm)
theorem ne_int {a b : Nat} : (!decide ((a : Int) = (b : Int))) = decide (a ≠ b) := ne_nat
theorem pure_menu_wish (c : Ad) (ds : List D) (P : R → Prop) (h : sp_menu_wish c ds P) : d_menu_wish c (RD P) (startD 9 ds) := by
  obtain ⟨K, ask, rfl, hok, ha, q⟩ := h
  have m1 := hok.m1
  have m3 := hok.m3
  have a4 := hok.a4
  have g4 := hok.g4
  obtain ⟨u1, u2, u3, u4⟩ := hok.unit
  have ma : K.many * K.a ≤ 12 := Nat.mul_le_mul m3 a4
  have mg : K.many * K.g ≤ 12 := Nat.mul_le_mul m3 g4
  refine ⟨_, rfl, _, rfl, K, ask, rfl, hok, ha, ?_⟩
  refine ⟨le_line (by show 0 ≤ 1000000; decide), le_line (by show 0 ≤ 1000000; decide), _, _, rfl, rfl, ?_⟩
  have z0 : ([] : List D) = vec (0 * K.g) (gM K ask) := by rw [Nat.zero_mul]; rfl
  refine ⟨_, rfl, _, rfl, fun i ds' => ∃ s4 s5 s6 s7 s8, ds' = [.val (kindsD c K), .val (askD K ask), .own (vec (i * K.g) (gM K ask)), .own (rl K ask (L1 K ask i)), s4, s5, s6, s7, s8], ⟨_, _, _, _, _, by rw [← z0]; rfl⟩, ?_, ?_⟩
  · rintro i d ds' hd ⟨s4, s5, s6, s7, s8, rfl⟩
    obtain ⟨x, hx, rfl⟩ := enumD_get hd
    obtain ⟨hi, rfl⟩ := mp_some hx
    have hai := ha i hi
    have e1 : atI (vec K.many fun k => (ask k : Nat)) (i : Int) = some (.int (ask i : Nat)) := atI_vec hi rfl
    have e2 : atI (vec K.many K.wt) (i : Int) = some (.int (K.wt i)) := atI_vec hi rfl
    have r1 := atI_rows (B := K.bk i) hai rfl
    have i12 : i * K.g ≤ 12 := Nat.le_trans (Nat.mul_le_mul_right _ (Nat.le_of_lt hi)) mg
    refine ⟨_, rfl, ⟨_, rfl⟩, rfl, rfl, _, rfl, _, e1, _, r1, _, rfl, le_line (by show (vec K.g _).length ≤ 1000000; rw [vec_len]; omega), fun s => some (.int (K.wt i * K.rows i (ask i) s)), fun s d hd => ?_, ?_⟩
    · obtain ⟨hs, rfl⟩ := vec_get (n := K.g) hd
      exact ⟨fun _ => ⟨_, rfl, _, e2, mulW (hok.wtb i hi) ((K.bk i).row_bt (hok.ok i hi) (hok.sz i hi) hai hs) (by omega) (by omega) (by omega), _, rfl, rfl⟩, fun z => (by cases z)⟩
    · rw [fm_some]
      have vl : (vec (K.bk i).g ((K.bk i).rows (ask i))).length = K.g := vec_len
      rw [vl]
      have ea : vec (i * K.g) (gM K ask) ++ (List.range K.g).map (fun s => D.int (K.wt i * K.rows i (ask i) s)) = vec ((i + 1) * K.g) (gM K ask) := gM_app
      refine ⟨_, rfl, le_line (by rw [vec_len, mp_len]; omega), ?_⟩
      rw [ea]
      -- the offers
      refine ⟨_, rfl, by omega, by omega, fun j ds' => ∃ s6 s7 s8, ds' = [.val (kindsD c K), .val (askD K ask), .own (vec ((i + 1) * K.g) (gM K ask)), .own (rl K ask (L2' K ask i j)), .val (.int i), .val (bookD c (K.bk i)), s6, s7, s8], ⟨_, _, _, by
        have : L2' K ask i 0 = L1 K ask i := List.append_nil _
        rw [this]; rfl⟩, ?_, ?_⟩
      · rintro j d ds' hd ⟨s6, s7, s8, rfl⟩
        obtain ⟨hj, rfl⟩ := rgD_some hd
        rw [Int.toNat_natCast] at hj
        have ej : ((0 : Int) + (j : Int)) = (j : Int) := by omega
        rw [ej]
        refine ⟨_, rfl, by omega, by omega, fun t ds' => ∃ s7 s8, ds' = [.val (kindsD c K), .val (askD K ask), .own (vec ((i + 1) * K.g) (gM K ask)), .own (rl K ask (L2' K ask i j ++ offT K ask i j t)), .val (.int i), .val (bookD c (K.bk i)), .val (.int j), s7, s8], ⟨_, _, by
          have : L2' K ask i j ++ offT K ask i j 0 = L2' K ask i j := List.append_nil _
          rw [this]; rfl⟩, ?_, ?_⟩
        · rintro t d ds' hd ⟨s7, s8, rfl⟩
          obtain ⟨ht, rfl⟩ := rgD_some hd
          rw [Int.toNat_natCast] at ht
          have et : ((0 : Int) + (t : Int)) = (t : Int) := by omega
          rw [et]
          have n1 := ne_int (a := j) (b := i)
          have n2 := ne_int (a := t) (b := ask i)
          have ll : (rl K ask (L2' K ask i j ++ offT K ask i j t)).length < sizeLine := by
            rw [rl_len, List.length_append, sizeLine_eq]
            have a1 := L2_len (K := K) (ask := ask) (i := i) (j := j)
            have a2 := offT_len (K := K) (ask := ask) (k := i) (o := j) (t := t)
            have a3 : i * (K.many * K.a) ≤ 3 * 12 := Nat.mul_le_mul (by omega) ma
            have a5 : j * K.a ≤ 3 * 4 := Nat.mul_le_mul (by omega) a4
            omega
          have go : (decide (j ≠ i) || decide (t ≠ ask i)) = true → rl K ask (L2' K ask i j ++ offT K ask i j t) ++ [rowL (K.many * K.g) (choiceF K ask (i, j, t))] = rl K ask (L2' K ask i j ++ offT K ask i j (t + 1)) := fun h => by
            rw [offT_succ, if_pos h, ← List.append_assoc, rl_app (M := [(i, j, t)])]; rfl
          have no : ¬ (decide (j ≠ i) || decide (t ≠ ask i)) = true → offT K ask i j (t + 1) = offT K ask i j t := fun h => by
            rw [offT_succ, if_neg h, List.append_nil]
          have fin : ∀ X : List D, X = rl K ask (L2' K ask i j ++ offT K ask i j (t + 1)) → ∃ s7 s8', [S.val (kindsD c K), .val (askD K ask), .own (vec ((i + 1) * K.g) (gM K ask)), .own X, .val (.int i), .val (bookD c (K.bk i)), .val (.int j), .val (.int t), s8] = [S.val (kindsD c K), .val (askD K ask), .own (vec ((i + 1) * K.g) (gM K ask)), .own (rl K ask (L2' K ask i j ++ offT K ask i j (t + 1))), .val (.int i), .val (bookD c (K.bk i)), .val (.int j), s7, s8'] := fun X e => ⟨.val (.int t), s8, by rw [e]⟩
          refine ⟨fun h => ?_, fun h => ⟨_, e1, fun h2 => ?_, fun h2 => ?_⟩⟩
          · have h' : (decide (j ≠ i) || decide (t ≠ ask i)) = true := by
              have h0 : (!decide ((j : Int) = (i : Int))) = true := h
              rw [n1] at h0; rw [h0]; rfl
            exact ⟨fun _ => ⟨_, rfl, _, rfl, _, rfl, _, rfl, _, rfl, K, ask, i, j, t, rfl, hok, ha, hi, hj, ht, _, rfl, ll, fin _ (go h')⟩, fun z => (by cases z)⟩
          · have h' : (decide (j ≠ i) || decide (t ≠ ask i)) = true := by
              have h0 : (!decide ((t : Int) = (ask i : Int))) = true := h2
              rw [n2] at h0; rw [h0, Bool.or_true]
            exact ⟨_, rfl, _, rfl, _, rfl, _, rfl, _, rfl, K, ask, i, j, t, rfl, hok, ha, hi, hj, ht, _, rfl, ll, fin _ (go h')⟩
          · have h' : ¬ (decide (j ≠ i) || decide (t ≠ ask i)) = true := by
              have h0 : (!decide ((j : Int) = (i : Int))) = false := h
              have h1 : (!decide ((t : Int) = (ask i : Int))) = false := h2
              rw [n1] at h0; rw [n2] at h1; rw [h0, h1]; decide
            exact fin _ (by rw [no h'])
        · rintro ds' ⟨s7, s8, rfl⟩
          rw [rgD_len, Int.toNat_natCast]
          have e : L2' K ask i j ++ offT K ask i j K.a = L2' K ask i (j + 1) := by
            unfold L2'
            rw [fl_succ, List.append_assoc]; rfl
          rw [e]
          exact ⟨_, _, _, rfl⟩
      · rintro ds' ⟨s6, s7, s8, rfl⟩
        rw [rgD_len, Int.toNat_natCast]
        have e : L2' K ask i K.many = L1 K ask (i + 1) := by
          unfold L2' L1
          rw [fl_succ]
        rw [e]
        exact ⟨_, _, _, _, _, rfl⟩
  · rintro ds' ⟨s4, s5, s6, s7, s8, rfl⟩
    have el : (enumD (booksD c K)).length = K.many := by rw [enumD_len, books_len]
    rw [el]
    have hg1 : 1 ≤ K.g := (hok.ok 0 m1).2.2.1
    refine ⟨_, rfl, _, rfl, _, rfl, rfl, K, rfl, mulW u4 u3 (by omega) (by omega) (by omega), _, rfl, ?_⟩
    have ml : ((L1 K ask K.many).map (choiceF K ask)).length ≤ 40 := by
      rw [List.length_map]
      have a1 := L1_len (K := K) (ask := ask) (i := K.many)
      have a2 : K.many * (K.many * K.a) ≤ 3 * 12 := Nat.mul_le_mul m3 ma
      omega
    refine ⟨T_menu K ask, _, _, _, rfl, rfl, rfl, ?_, ?_, by show K.many * K.g ≤ 18; omega, ml, fun s hs => ?_, ?_, _, ⟨rfl, rfl⟩, q⟩
    · exact All2.map fun t _ => isRow_l
    · show 1 ≤ K.many * K.g
      exact Nat.mul_pos m1 hg1
    · have hk : s / K.g < K.many := Nat.div_lt_of_lt_mul (by rw [Nat.mul_comm]; exact hs)
      have h1 := hok.wt1 _ hk
      have h2 := ((K.bk (s / K.g)).row_le (hok.ok _ hk) (ha _ hk) (Nat.mod_lt s hg1)).1
      exact Int.mul_nonneg (by omega) h2
    · show 1 ≤ K.wh * sm K.many K.wt
      have := Int.mul_pos u1 (show 0 < sm K.many K.wt by omega)
      omega
theorem ws_menu {K : Kd} {ask : Nat → Nat} (hok : K.Ok) (ha : ∀ k, k < K.many → ask k < K.a) : WsT (T_menu K ask) := by
  have m1 := hok.m1
  have m3 := hok.m3
  have a4 := hok.a4
  have g4 := hok.g4
  have ma : K.many * K.a ≤ 12 := Nat.mul_le_mul m3 a4
  have mg : K.many * K.g ≤ 12 := Nat.mul_le_mul m3 g4
  have hg1 : 1 ≤ K.g := (hok.ok 0 m1).2.2.1
  obtain ⟨u1, u2, u3, u4⟩ := hok.unit
  have kd : ∀ s, s < K.many * K.g → s / K.g < K.many := fun s hs => Nat.div_lt_of_lt_mul (by rw [Nat.mul_comm]; exact hs)
  refine ⟨⟨by show K.many * K.g ≤ 18; omega, ?_, fun s hs => ⟨?_, ?_⟩, fun s hs => Tk.rows_bt (p := fun r => Bt 100 r.2 ∧ ∀ k, k < K.many * K.g → Bt 100 (r.1 k)) (fun x hx => ?_) hs⟩, ?_, bt_up (bt_mul u4 u3) (by omega)⟩
  · show ((L1 K ask K.many).map (choiceF K ask)).length ≤ 40
    rw [List.length_map]
    have a1 := L1_len (K := K) (ask := ask) (i := K.many)
    have a2 : K.many * (K.many * K.a) ≤ 3 * 12 := Nat.mul_le_mul m3 ma
    omega
  · have h1 := hok.wt1 _ (kd s hs)
    have h2 := ((K.bk (s / K.g)).row_le (hok.ok _ (kd s hs)) (ha _ (kd s hs)) (Nat.mod_lt s hg1)).1
    exact Int.mul_nonneg (by omega) h2
  · exact bt_up (bt_mul (a := 45) (b := 45) (hok.wtb _ (kd s hs)) ((K.bk (s / K.g)).row_bt (hok.ok _ (kd s hs)) (hok.sz _ (kd s hs)) (ha _ (kd s hs)) (Nat.mod_lt s hg1))) (by omega)
  · obtain ⟨t, ht, rfl⟩ := List.mem_map.mp hx
    obtain ⟨k, hk, ht⟩ := List.mem_flatMap.mp ht
    obtain ⟨o, ho, ht⟩ := List.mem_flatMap.mp ht
    obtain ⟨d, hd, rfl⟩ := List.mem_map.mp ht
    have hk' := List.mem_range.mp hk
    have hd' := List.mem_range.mp (List.mem_filter.mp hd).1
    refine ⟨bt_up (bt_mul (hok.sz k hk').1 (bt_sub ((hok.sz k hk').2 _ (ha k hk')) ((hok.sz k hk').2 _ hd'))) (by omega), fun i hi => ?_⟩
    have b1 := (K.bk k).row_bt (hok.ok k hk') (hok.sz k hk') (ha k hk') (Nat.mod_lt i hg1)
    have b2 := (K.bk k).row_bt (hok.ok k hk') (hok.sz k hk') hd' (Nat.mod_lt i hg1)
    refine bt_up (bt_sub (a := 45) ?_ ?_) (by omega)
    · split
      · exact b1
      · exact bt_zero
    · split
      · exact b2
      · exact bt_zero
  · show 1 ≤ K.wh * sm K.many K.wt
    have := Int.mul_pos u1 (show 0 < sm K.many K.wt by omega)
    omega
theorem pure_menu (c : Ad) (ds : List D) (P : R → Prop) (h : sp_menu c ds P) : d_menu c (RD P) (startD 2 ds) := by
  obtain ⟨K, ask, rfl, hok, ha, q1, q2⟩ := h
  exact ⟨_, rfl, _, rfl, K, ask, rfl, hok, ha, _, rfl, T_menu K ask, rfl, ws_menu hok ha, fun d v x w G => ⟨_, ⟨rfl, rfl⟩, q1 d v x w G⟩, fun d w G => ⟨_, ⟨rfl, rfl⟩, q2 d w G⟩⟩
end Dl

namespace Dl
open PySem PySem.Spec PyProof.Rows L2 Slv
/-! ### ratios -/
def pr (a b : Int) : D := .tup [.int a, .int b]
theorem gc_dvd_l {a b : Int} : gc a b ∣ a := by
  unfold gc
  exact Int.ofNat_dvd_left.mpr (Nat.gcd_dvd_left _ _)
theorem gc_dvd_r {a b : Int} : gc a b ∣ b := by
  unfold gc
  exact Int.ofNat_dvd_left.mpr (Nat.gcd_dvd_right _ _)
/-- lowest terms -/
theorem rat_pr {a b : Int} (hb : 0 < b) : ∃ p q : Int, rat a b = pr p q ∧ 0 < q ∧ q ≤ b ∧ p * b = a * q ∧ p.natAbs ≤ a.natAbs ∧ Nat.gcd p.natAbs q.natAbs = 1 ∧ (0 ≤ a → 0 ≤ p) := by
  have hg := gc_pos (a := a) hb
  obtain ⟨p, hp⟩ := gc_dvd_l (a := a) (b := b)
  obtain ⟨q, hq⟩ := gc_dvd_r (a := a) (b := b)
  have ep : a / gc a b = p := by
    have : gc a b * p / gc a b = p := Int.mul_ediv_cancel_left _ (by omega)
    rw [← hp] at this; exact this
  have eq : b / gc a b = q := by
    have : gc a b * q / gc a b = q := Int.mul_ediv_cancel_left _ (by omega)
    rw [← hq] at this; exact this
  have q0 : 0 < q := by
    rcases Decidable.em (0 < q) with h | h
    · exact h
    · have : gc a b * q ≤ 0 := Int.mul_nonpos_of_nonneg_of_nonpos (by omega) (by omega)
      omega
  have key : p * b = a * q := by
    have h1 : p * b = p * (gc a b * q) := congrArg (p * ·) hq
    have h2 : a * q = gc a b * p * q := congrArg (· * q) hp
    rw [h1, h2, ← Int.mul_assoc, Int.mul_comm p]
  refine ⟨p, q, by unfold rat pr; rw [ep, eq], q0, ?_, key, ?_, ?_, ?_⟩
  · have : 1 * q ≤ gc a b * q := Int.mul_le_mul_of_nonneg_right (by omega) (by omega)
    rw [Int.one_mul] at this
    omega
  · have : a.natAbs = (gc a b).natAbs * p.natAbs := by rw [← Int.natAbs_mul, ← hp]
    rw [this]
    exact Nat.le_mul_of_pos_left _ (by omega)
  · have e1 : a.natAbs = (gc a b).natAbs * p.natAbs := by rw [← Int.natAbs_mul, ← hp]
    have e2 : b.natAbs = (gc a b).natAbs * q.natAbs := by rw [← Int.natAbs_mul, ← hq]
    have e3 : Nat.gcd a.natAbs b.natAbs = (gc a b).natAbs * Nat.gcd p.natAbs q.natAbs := by rw [e1, e2, Nat.gcd_mul_left]
    have e4 : (gc a b).natAbs = Nat.gcd a.natAbs b.natAbs := by unfold gc; rfl
    have h0 : 0 < (gc a b).natAbs := by omega
    rw [← e4] at e3
    exact Nat.eq_of_mul_eq_mul_left h0 (by omega)
  · intro h
    rcases Decidable.em (p < 0) with h1 | h1
    · have : gc a b * p < 0 := Int.mul_neg_of_pos_of_neg hg h1
      omega
    · omega
theorem cross {p q p' q' a b a' b' : Int} (hb : 0 < b) (hb' : 0 < b') (h1 : p * b = a * q) (h2 : p' * b' = a' * q') : (p * q') * (b * b') = (a * b') * (q * q') ∧ (p' * q) * (b * b') = (a' * b) * (q * q') := by
  constructor
  · calc (p * q') * (b * b') = (p * b) * (q' * b') := by simp only [Int.mul_comm, Int.mul_left_comm]
      _ = (a * q) * (q' * b') := by rw [h1]
      _ = _ := by simp only [Int.mul_comm, Int.mul_left_comm]
  · calc (p' * q) * (b * b') = (p' * b') * (q * b) := by simp only [Int.mul_comm, Int.mul_left_comm]
      _ = (a' * q') * (q * b) := by rw [h2]
      _ = _ := by simp only [Int.mul_comm, Int.mul_left_comm]
theorem mul_lt_iff {a b c : Int} (h : 0 < c) : a * c < b * c ↔ a < b := ⟨fun w => Int.lt_of_mul_lt_mul_right w (by omega), fun w => Int.mul_lt_mul_of_pos_right w h⟩
/-- two ratios compared by their lowest terms -/
theorem cross_lt {p q p' q' a b a' b' : Int} (hb : 0 < b) (hb' : 0 < b') (hq : 0 < q) (hq' : 0 < q') (h1 : p * b = a * q) (h2 : p' * b' = a' * q') : (p * q' < p' * q ↔ a * b' < a' * b) := by
  obtain ⟨e1, e2⟩ := cross hb hb' h1 h2
  have c1 : 0 < b * b' := Int.mul_pos hb hb'
  have c2 : 0 < q * q' := Int.mul_pos hq hq'
  rw [← mul_lt_iff c1, e1, e2, mul_lt_iff c2]
theorem cross_eq {p q p' q' a b a' b' : Int} (hb : 0 < b) (hb' : 0 < b') (hq : 0 < q) (hq' : 0 < q') (h1 : p * b = a * q) (h2 : p' * b' = a' * q') : (p * q' = p' * q ↔ a * b' = a' * b) := by
  obtain ⟨e1, e2⟩ := cross hb hb' h1 h2
  have c1 : b * b' ≠ 0 := by have := Int.mul_pos hb hb'; omega
  have c2 : q * q' ≠ 0 := by have := Int.mul_pos hq hq'; omega
  constructor
  · intro h
    refine Int.eq_of_mul_eq_mul_right c2 ?_
    rw [← e1, ← e2, h]
  · intro h
    refine Int.eq_of_mul_eq_mul_right c1 ?_
    rw [e1, e2, h]
theorem low_eq {p q p' q' : Int} (hq : 0 < q) (hq' : 0 < q') (c : Nat.gcd p.natAbs q.natAbs = 1) (c' : Nat.gcd p'.natAbs q'.natAbs = 1) (h : p * q' = p' * q) : p = p' ∧ q = q' := by
  have hn : p.natAbs * q'.natAbs = p'.natAbs * q.natAbs := by rw [← Int.natAbs_mul, ← Int.natAbs_mul, h]
  have d1 : q.natAbs ∣ q'.natAbs := by
    refine Nat.Coprime.dvd_of_dvd_mul_left (k := q.natAbs) (m := p.natAbs) ?_ ⟨p'.natAbs, by rw [hn, Nat.mul_comm]⟩
    rw [Nat.coprime_comm]; exact c
  have d2 : q'.natAbs ∣ q.natAbs := by
    refine Nat.Coprime.dvd_of_dvd_mul_left (k := q'.natAbs) (m := p'.natAbs) ?_ ⟨p.natAbs, by rw [← hn, Nat.mul_comm]⟩
    rw [Nat.coprime_comm]; exact c'
  have e := Nat.dvd_antisymm d1 d2
  have eq : q = q' := by omega
  subst eq
  exact ⟨Int.eq_of_mul_eq_mul_right (by omega) h, rfl⟩
theorem rat_eq {a b a' b' : Int} (hb : 0 < b) (hb' : 0 < b') (h : a * b' = a' * b) : rat a b = rat a' b' := by
  obtain ⟨p, q, e1, q0, _, k1, _, g1, _⟩ := rat_pr (a := a) hb
  obtain ⟨p', q', e2, q0', _, k2, _, g2, _⟩ := rat_pr (a := a') hb'
  obtain ⟨ep, eq⟩ := low_eq q0 q0' g1 g2 ((cross_eq hb hb' q0 q0' k1 k2).mpr h)
  rw [e1, e2, ep, eq]
/-- a ratio that is in lowest terms stays -/
theorem rat_low {p q : Int} (hq : 0 < q) (c : Nat.gcd p.natAbs q.natAbs = 1) : rat p q = pr p q := by
  unfold rat pr gc
  rw [c]
  simp
/-! promises -/
def Q2 (a b a' b' : Int) : Prop := 0 < b ∧ 0 < b' ∧ Bt 4000 a ∧ Bt 4000 b ∧ Bt 4000 a' ∧ Bt 4000 b'
def sp_plus : DSp := fun ds P => ∃ a b a' b' : Int, ds = [pr a b, pr a' b'] ∧ Q2 a b a' b' ∧ P (.val (rat (a * b' + a' * b) (b * b')))
theorem sp_plus_m : MSp sp_plus := fun _ _ _ h ⟨a, b, a', b', e, p, q⟩ => ⟨a, b, a', b', e, p, h _ q⟩
def sp_minus : DSp := fun ds P => ∃ a b a' b' : Int, ds = [pr a b, pr a' b'] ∧ Q2 a b a' b' ∧ P (.val (rat (a * b' + -a' * b) (b * b')))
theorem sp_minus_m : MSp sp_minus := fun _ _ _ h ⟨a, b, a', b', e, p, q⟩ => ⟨a, b, a', b', e, p, h _ q⟩
def sp_compare : DSp := fun ds P => ∃ a b a' b' : Int, ds = [pr a b, pr a' b'] ∧ Q2 a b a' b' ∧ P (.val (.int (if a * b' < a' * b then -1 else if a' * b < a * b' then 1 else 0)))
theorem sp_compare_m : MSp sp_compare := fun _ _ _ h ⟨a, b, a', b', e, p, q⟩ => ⟨a, b, a', b', e, p, h _ q⟩
/-- amounts of a pay -/
def Am (n : Nat) (x : Nat → Int) (d : Int) : Prop := 1 ≤ n ∧ n ≤ 9 ∧ 0 < d ∧ Bt 2000 d ∧ ∀ k, k < n → 0 ≤ x k ∧ Bt 2000 (x k)
def sp_first_negative : DSp := fun ds P => ∃ (am : D) (n : Nat) (x : Nat → Int) (d : Int), ds = [am] ∧ (R.val am).seq = some (ratV n x d) ∧ Am n x d ∧ P (.val .non)
theorem sp_first_negative_m : MSp sp_first_negative := fun _ _ _ h ⟨a, b, c, d, e, p, r, q⟩ => ⟨a, b, c, d, e, p, r, h _ q⟩
def payF (n : Nat) (x : Nat → Int) (d : Int) : List (Str × D) := [("amounts", .tup (ratV n x d))]
def payD (c : Ad) (n : Nat) (x : Nat → Int) (d : Int) : D := .ins c.Pay (payF n x d)
def sp_Pay_init : DIn := fun ds P => ∃ (am : D) (n : Nat) (x : Nat → Int) (d : Int), ds = [am] ∧ (R.val am).seq = some (ratV n x d) ∧ Am n x d ∧ P (payF n x d)
theorem sp_Pay_init_m : MIn sp_Pay_init := fun _ _ _ h ⟨a, b, c, d, e, p, r, q⟩ => ⟨a, b, c, d, e, p, r, h _ q⟩
def sp_pay_of (c : Ad) : DSp := fun ds P => ∃ (T : Tk) (d v : Int) (x w : Nat → Int), ds = [grantD c T d v x w, .int T.n, .int 0] ∧ Am T.n x d ∧ P (.val (payD c T.n x d))
theorem sp_pay_of_m (c : Ad) : MSp (sp_pay_of c) := fun _ _ _ h ⟨a, b, c', d, e, p, r, q⟩ => ⟨a, b, c', d, e, p, r, h _ q⟩
def BP (c : Ad) (B : Bk) (x : Nat → Int) (d : Int) : Prop := B.ok ∧ B.sz ∧ Am B.g x d
def sp_check_pay (c : Ad) : DSp := fun ds P => ∃ (B : Bk) (x : Nat → Int) (d : Int), ds = [bookD c B, payD c B.g x d] ∧ P (.val .non)
theorem sp_check_pay_m (c : Ad) : MSp (sp_check_pay c) := fun _ _ _ h ⟨a, b, c', d, q⟩ => ⟨a, b, c', d, h _ q⟩
def sp_row_sum : DSp := fun ds P => ∃ (n : Nat) (r x : Nat → Int) (d : Int), ds = [.tup (vec n r), .tup (ratV n x d)] ∧ Am n x d ∧ (∀ k, k < n → Bt 45 (r k)) ∧ P (.val (rat (sm n fun s => r s * x s) d))
theorem sp_row_sum_m : MSp sp_row_sum := fun _ _ _ h ⟨a, b, c', d, e, p, r, q⟩ => ⟨a, b, c', d, e, p, r, h _ q⟩
def pay1 (B : Bk) (x : Nat → Int) (i : Nat) : Int := sm B.g fun s => B.rows i s * x s
def sp_mean_pay (c : Ad) : DSp := fun ds P => ∃ (B : Bk) (i : Nat) (x : Nat → Int) (d : Int), ds = [bookD c B, .int i, payD c B.g x d] ∧ i < B.a ∧ BP c B x d ∧ P (.val (rat (pay1 B x i) (d * B.wh)))
theorem sp_mean_pay_m (c : Ad) : MSp (sp_mean_pay c) := fun _ _ _ h ⟨a, b, c', d, e, p, r, q⟩ => ⟨a, b, c', d, e, p, r, h _ q⟩
/-- the gain, times d times whole -/
def gain1 (B : Bk) (x : Nat → Int) (d : Int) (i : Nat) : Int := pay1 B x i - B.costs i * (d * B.wh)
def sp_gain_of (c : Ad) : DSp := fun ds P => ∃ (B : Bk) (i : Nat) (x : Nat → Int) (d : Int), ds = [bookD c B, .int i, payD c B.g x d] ∧ i < B.a ∧ BP c B x d ∧ P (.val (rat (gain1 B x d i) (d * B.wh)))
theorem sp_gain_of_m (c : Ad) : MSp (sp_gain_of c) := fun _ _ _ h ⟨a, b, c', d, e, p, r, q⟩ => ⟨a, b, c', d, e, p, r, h _ q⟩
open Classical in
noncomputable def bestL (a : Nat) (G : Nat → Int) : List Nat := (List.range a).filter fun i => decide (∀ j, j < a → G j ≤ G i)
def sp_best_deeds (c : Ad) : DSp := fun ds P => ∃ (B : Bk) (x : Nat → Int) (d : Int), ds = [bookD c B, payD c B.g x d] ∧ BP c B x d ∧ P (.val (.tup (natD (bestL B.a (gain1 B x d)))))
theorem sp_best_deeds_m (c : Ad) : MSp (sp_best_deeds c) := fun _ _ _ h ⟨a, b, c', e, p, q⟩ => ⟨a, b, c', e, p, h _ q⟩
end Dl

namespace Dl
open PySem PySem.Spec PyProof.Rows L2 Slv
def d_plus : DS :=
  (dSeq (dIf (asB (eOp (dEq false) (eOp dIx (eVar 0) (eC (.int 1))) (eOp dIx (eVar 1) (eC (.int 1)))))
  (dRet (eCall sp_ratio [] (aCons (eOp dAdd (eOp dIx (eVar 0) (eC (.int 0))) (eOp dIx (eVar 1) (eC (.int 0)))) (aCons (eOp dIx (eVar 0) (eC (.int 1))) aNil))))
  dNext)
  (dRet (eCall sp_ratio [] (aCons (eOp dAdd (eOp dMul (eOp dIx (eVar 0) (eC (.int 0))) (eOp dIx (eVar 1) (eC (.int 1)))) (eOp dMul (eOp dIx (eVar 1) (eC (.int 0))) (eOp dIx (eVar 0) (eC (.int 1))))) (aCons (eOp dMul (eOp dIx (eVar 0) (eC (.int 1))) (eOp dIx (eVar 1) (eC (.int 1)))) aNil)))))
def d_minus : DS :=
  (dRet (eCall sp_plus [] (aCons (eVar 0) (aCons (eTup (aCons (eNeg (eOp dIx (eVar 1) (eC (.int 0)))) (aCons (eOp dIx (eVar 1) (eC (.int 1))) aNil))) aNil))))
def d_compare : DS :=
  (dSeq (dAsgG (eOp dSub (eOp dMul (eOp dIx (eVar 0) (eC (.int 0))) (eOp dIx (eVar 1) (eC (.int 1)))) (eOp dMul (eOp dIx (eVar 1) (eC (.int 0))) (eOp dIx (eVar 0) (eC (.int 1))))) (gV 2))
  (dSeq (dIf (asB (eOp dLt (eVar 2) (eC (.int 0))))
  (dRet (eNeg (eC (.int 1))))
  dNext)
  (dRet (eB1 dInt (eOp dGt (eVar 2) (eC (.int 0)))))))
def d_first_negative : DS :=
  (dSeq (dIf (asB (eOp (dEq false) (eB1 dLen (eVar 0)) (eC (.int 0))))
  (dRet (eNeg (eC (.int 1))))
  dNext)
  (dSeq (dFor (srcE false (eVar 0)) (gT0 2 (gC0 (gV 1) (gC0 (gV 2) gN0)))
  (dIf (asB (eOp dLt (eCall sp_compare [] (aCons (eVar 2) (aCons (eC (.tup [.int 0, .int 1])) aNil))) (eC (.int 0))))
  (dRetV 1)
  dNext))
  (dRet (eC .non))))
def d_Pay_init (c : Ad) : DS :=
  (dSeq (dIf (asB (eOp dGt (eB1 dLen (eVar 1)) (eC (.int 9))))
  dNever
  dNext)
  (dSeq (dAsgG (eCall sp_first_negative [] (aCons (eVar 1) aNil)) (gV 2))
  (dSeq (dIf (asB (eOp (dIsN true) (eVar 2) (eC .non)))
  dNever
  dNext)
  (dFld c.Pay "amounts" 0 (eB1 dTup (eVar 1))))))
def d_pay_of (c : Ad) : DS :=
  (dRet (eMake c.Pay sp_Pay_init [] (aCons (eSl (eFld "point" (eVar 0)) (oSome (eOp dMul (eVar 2) (eVar 1))) (oSome (eOp dMul (eOp dAdd (eVar 2) (eC (.int 1))) (eVar 1)))) aNil)))
def d_check_pay : DS :=
  (dIf (asB (eOp (dEq true) (eB1 dLen (eFld "amounts" (eVar 1))) (eFld "signs" (eVar 0))))
  dNever
  dNext)
def d_row_sum : DS :=
  (dSeq (dAsgG (eC (.tup [.int 0, .int 1])) (gV 2))
  (dSeq (dFor (srcZ false (eVar 0) (eVar 1)) (gT0 2 (gC0 (gV 3) (gC0 (gV 4) gN0)))
  (dAsgG (eCall sp_plus [] (aCons (eVar 2) (aCons (eTup (aCons (eOp dMul (eVar 3) (eOp dIx (eVar 4) (eC (.int 0)))) (aCons (eOp dIx (eVar 4) (eC (.int 1))) aNil))) aNil))) (gV 2)))
  (dRetV 2)))
def d_mean_pay (c : Ad) : DS :=
  (dSeq (dExprS (eCall (sp_check_deed c) [] (aCons (eVar 0) (aCons (eVar 1) aNil))))
  (dSeq (dExprS (eCall (sp_check_pay c) [] (aCons (eVar 0) (aCons (eVar 2) aNil))))
  (dSeq (dAsgG (eCall sp_row_sum [] (aCons (eOp dIx (eFld "rows" (eVar 0)) (eVar 1)) (aCons (eFld "amounts" (eVar 2)) aNil))) (gV 3))
  (dRet (eCall sp_ratio [] (aCons (eOp dIx (eVar 3) (eC (.int 0))) (aCons (eOp dMul (eOp dIx (eVar 3) (eC (.int 1))) (eFld "whole" (eVar 0))) aNil)))))))
def d_gain_of (c : Ad) : DS :=
  (dRet (eCall sp_minus [] (aCons (eCall (sp_mean_pay c) [] (aCons (eVar 0) (aCons (eVar 1) (aCons (eVar 2) aNil)))) (aCons (eTup (aCons (eOp dIx (eFld "costs" (eVar 0)) (eVar 1)) (aCons (eC (.int 1)) aNil))) aNil))))
def d_best_deeds (c : Ad) : DS :=
  (dSeq (dAsgG (eLc (srcR1 (eFld "deeds" (eVar 0))) (gV 5) uYes (eCall (sp_gain_of c) [] (aCons (eVar 0) (aCons (eVar 5) (aCons (eVar 1) aNil)))) [5]) (gV 2))
  (dSeq (dAsgG (eOp dIx (eVar 2) (eC (.int 0))) (gV 3))
  (dSeq (dFor (srcS false (eVar 2)) (gV 4)
  (dIf (asB (eOp dGt (eCall sp_compare [] (aCons (eVar 4) (aCons (eVar 3) aNil))) (eC (.int 0))))
  (dAsgG (eVar 4) (gV 3))
  dNext))
  (dRet (eB1 dTup (eLc (srcR1 (eFld "deeds" (eVar 0))) (gV 5) (asB (eOp (dEqP false) (eOp dIx (eVar 2) (eVar 5)) (eVar 3))) (eVar 5) [5]))))))
end Dl

namespace Dl
open PySem PySem.Spec PyProof.Rows L2 Slv
theorem pure_plus (ds : List D) (P : R → Prop) (h : sp_plus ds P) : d_plus (RD P) (startD 2 ds) := by
  obtain ⟨a, b, a', b', rfl, ⟨hb, hb', ba, bb, ba', bb'⟩, q⟩ := h
  refine ⟨_, rfl, _, rfl, fun h => ?_, fun h => ?_⟩
  · have e : b = b' := of_decide_eq_true h
    refine ⟨_, rfl, _, rfl, _, rfl, _, rfl, _, rfl, _, _, rfl, hb, bt_up bb (by omega), _, ⟨rfl, rfl⟩, ?_⟩
    have : rat (a + a') b = rat (a * b' + a' * b) (b * b') := rat_eq hb (Int.mul_pos hb hb') (by
      rw [← e, ← Int.add_mul, ← Int.mul_assoc])
    show P (.val (rat (a + a') b))
    rw [this]; exact q
  · exact ⟨_, rfl, _, rfl, mulW ba bb' (by omega) (by omega) (by omega), _, rfl, _, rfl, mulW ba' bb (by omega) (by omega) (by omega), _, rfl, _, rfl, _, rfl, mulW bb bb' (by omega) (by omega) (by omega), _, rfl, _, _, rfl, Int.mul_pos hb hb', bt_up (bt_mul bb bb') (by omega), _, ⟨rfl, rfl⟩, q⟩
theorem pure_minus (ds : List D) (P : R → Prop) (h : sp_minus ds P) : d_minus (RD P) (startD 2 ds) := by
  obtain ⟨a, b, a', b', rfl, ⟨hb, hb', ba, bb, ba', bb'⟩, q⟩ := h
  exact ⟨_, rfl, _, rfl, _, rfl, _, rfl, _, rfl, le_line (by show 2 ≤ 1000000; decide), _, rfl, a, b, -a', b', rfl, ⟨hb, hb', ba, bb, bt_neg ba', bb'⟩, _, ⟨rfl, rfl⟩, q⟩
theorem pure_compare (ds : List D) (P : R → Prop) (h : sp_compare ds P) : d_compare (RD P) (startD 3 ds) := by
  obtain ⟨a, b, a', b', rfl, ⟨hb, hb', ba, bb, ba', bb'⟩, q⟩ := h
  refine ⟨_, rfl, _, rfl, mulW ba bb' (by omega) (by omega) (by omega), _, rfl, _, rfl, mulW ba' bb (by omega) (by omega) (by omega), _, rfl, fun h => ?_, fun h => ?_⟩
  · have h' := of_decide_eq_true h
    rw [if_pos (by omega)] at q
    exact ⟨_, ⟨rfl, rfl⟩, q⟩
  · have h' := of_decide_eq_false h
    rw [if_neg (by omega)] at q
    refine ⟨_, ⟨rfl, rfl⟩, ?_⟩
    show P (.val (.int (if decide (0 < a * b' - a' * b) = true then 1 else 0)))
    by_cases w : a' * b < a * b'
    · rw [if_pos w] at q
      rw [if_pos (decide_eq_true (by omega))]; exact q
    · rw [if_neg w] at q
      rw [if_neg (fun z => w (by have := of_decide_eq_true z; omega))]; exact q
theorem ratV_len {n : Nat} {x : Nat → Int} {d : Int} : (ratV n x d).length = n := mp_len
theorem ratV_get {n i : Nat} {x : Nat → Int} {d : Int} {e : D} (h : (ratV n x d)[i]? = some e) : i < n ∧ e = rat (x i) d := mp_some h
/-- a ratio's lowest terms, with sizes -/
theorem rat_bt {m : Nat} {a b : Int} (hb : 0 < b) (ba : Bt m a) (bb : Bt m b) : ∃ p q : Int, rat a b = pr p q ∧ 0 < q ∧ p * b = a * q ∧ Bt m p ∧ Bt m q ∧ Nat.gcd p.natAbs q.natAbs = 1 ∧ (0 ≤ a → 0 ≤ p) := by
  obtain ⟨p, q, e, q0, ql, k, pl, g, n⟩ := rat_pr (a := a) hb
  exact ⟨p, q, e, q0, k, Nat.lt_of_le_of_lt pl ba, bt_le bb (by omega) ql, g, n⟩
theorem bt_one {m : Nat} (hm : 1 ≤ m := by omega) : Bt m 1 := by
  unfold Bt
  show 1 < 2 ^ m
  exact Nat.one_lt_two_pow (by omega)
theorem pure_first_negative (ds : List D) (P : R → Prop) (h : sp_first_negative ds P) : d_first_negative (RD P) (startD 3 ds) := by
  obtain ⟨am, n, x, d, rfl, ha, ⟨n1, n9, hd, bd, hx⟩, q⟩ := h
  refine ⟨_, ha, fun h => absurd (of_decide_eq_true h) (by rw [ratV_len]; omega), fun _ => ?_⟩
  refine ⟨_, ha, fun i ds' => ∃ s1 s2, ds' = [.val am, s1, s2], ⟨_, _, rfl⟩, ?_, ?_⟩
  · rintro i e ds' he ⟨s1, s2, rfl⟩
    obtain ⟨y, hy, rfl⟩ := enumD_get he
    obtain ⟨hi, rfl⟩ := ratV_get hy
    obtain ⟨p, r, e, r0, k, bp, br, g, nn⟩ := rat_bt hd (hx i hi).2 bd
    have p0 := nn (hx i hi).1
    refine ⟨_, rfl, ⟨_, rfl⟩, rfl, rfl, _, rfl, _, rfl, p, r, 0, 1, by rw [e]; rfl, ⟨r0, by decide, bt_up bp (by omega), bt_up br (by omega), bt_zero, bt_one⟩, fun h => ?_, fun _ => ⟨_, _, rfl⟩⟩
    have h' := of_decide_eq_true h
    rw [if_neg (by omega)] at h'
    split at h' <;> omega
  · rintro ds' ⟨s1, s2, rfl⟩
    exact ⟨_, ⟨rfl, rfl⟩, q⟩
theorem pure_Pay_init (c : Ad) (p : Addr) (ds : List D) (P : List (Str × D) → Prop) (h : sp_Pay_init ds P) : d_Pay_init c (ID p c.Pay P) (.obj p c.Pay [] :: startD 2 ds) := by
  obtain ⟨am, n, x, d, rfl, ha, hA, q⟩ := h
  obtain ⟨n1, n9, hd, bd, hx⟩ := id hA
  exact ⟨_, ha, fun h => absurd (of_decide_eq_true h) (by rw [ratV_len]; omega), fun _ => ⟨_, rfl, am, n, x, d, rfl, ha, hA, _, rfl, fun h => (by cases h), fun _ => ⟨_, ha, _, p, _, rfl, rfl, l1k ln0, _, rfl, q⟩⟩⟩
theorem cut_all {xs : List D} {n : Nat} (h : xs.length = n) : cutD xs (some 0) (some (n : Int)) = xs := by
  unfold cutD
  have e1 : HT.sIx xs.length 0 (some 0) = 0 := by
    show (if (0 : Int) < 0 then ((0 : Int) + (xs.length : Int)).toNat else min (0 : Int).toNat xs.length) = 0
    rw [if_neg (by decide)]; exact Nat.zero_min _
  have e2 : HT.sIx xs.length xs.length (some (n : Int)) = n := by
    show (if (n : Int) < 0 then ((n : Int) + (xs.length : Int)).toNat else min (n : Int).toNat xs.length) = n
    rw [if_neg (by omega), Int.toNat_natCast, h, Nat.min_self]
  rw [e1, e2, List.drop_zero, ← h, Nat.sub_zero, List.take_length]
theorem bt_nat {n : Nat} (h : n ≤ 1000) : Bt 45 (n : Int) := by
  unfold Bt
  have : (2 : Nat) ^ 10 ≤ 2 ^ 45 := Nat.pow_le_pow_right (by decide) (by decide)
  rw [Int.natAbs_natCast]
  omega
theorem pure_pay_of (c : Ad) (ds : List D) (P : R → Prop) (h : sp_pay_of c ds P) : d_pay_of c (RD P) (startD 3 ds) := by
  obtain ⟨T, d, v, x, w, rfl, hA, q⟩ := h
  obtain ⟨n1, n9, hd, bd, hx⟩ := id hA
  have ec : cutD (ratV T.n x d) (some (0 * (T.n : Int))) (some ((0 + 1) * (T.n : Int))) = ratV T.n x d := by
    rw [Int.zero_mul, Int.zero_add, Int.one_mul]
    exact cut_all ratV_len
  refine ⟨_, rfl, mulW (a := 1) bt_zero (bt_nat (by omega)) (by omega) (by omega) (by omega), mulW (a := 1) (show Bt 1 (0 + 1) from bt_one) (bt_nat (by omega)) (by omega) (by omega) (by omega), _, rfl, _, rfl, .tup (ratV T.n x d), T.n, x, d, congrArg (fun z => [D.tup z]) ec, rfl, hA, _, ⟨rfl, rfl⟩, q⟩
theorem pure_check_pay (c : Ad) (ds : List D) (P : R → Prop) (h : sp_check_pay c ds P) : d_check_pay (RD P) (startD 2 ds) := by
  obtain ⟨B, x, d, rfl, q⟩ := h
  exact ⟨_, rfl, _, rfl, _, rfl, fun h => absurd h (nd_f (by rw [ratV_len])), fun _ => q⟩
end Dl

namespace Dl
open PySem PySem.Spec PyProof.Rows L2 Slv
theorem rat_zero {d : Int} (hd : 0 < d) : rat 0 d = pr 0 1 := by
  rw [rat_eq hd (show (0 : Int) < 1 by decide) (show 0 * 1 = 0 * d by rw [Int.zero_mul, Int.zero_mul])]
  exact rat_low (by decide) rfl
theorem zipR {n i : Nat} {r x : Nat → Int} {d : Int} {e : D} (h : (zipD (vec n r) (ratV n x d))[i]? = some e) : i < n ∧ e = .tup [.int (r i), rat (x i) d] := by
  obtain ⟨u, v, hu, hv, rfl⟩ := zipD_get h
  obtain ⟨hi, rfl⟩ := vec_get hu
  obtain ⟨_, rfl⟩ := ratV_get hv
  exact ⟨hi, rfl⟩
theorem zipR_len {n : Nat} {r x : Nat → Int} {d : Int} : (zipD (vec n r) (ratV n x d)).length = n := by rw [zipD_len, vec_len, ratV_len, Nat.min_self]
theorem pure_row_sum (ds : List D) (P : R → Prop) (h : sp_row_sum ds P) : d_row_sum (RD P) (startD 5 ds) := by
  obtain ⟨n, r, x, d, rfl, ⟨n1, n9, hd, bd, hx⟩, hr, q⟩ := h
  have bN : ∀ t, t ≤ n → Bt 2100 (sm t fun s => r s * x s) := fun t ht => bt_up (bt_sm fun k hk => bt_mul (hr k (by omega)) (hx k (by omega)).2) (by omega)
  refine ⟨_, rfl, _, _, rfl, rfl, fun i ds' => ∃ s1 s2, ds' = [.val (.tup (vec n r)), .val (.tup (ratV n x d)), .val (rat (sm i fun s => r s * x s) d), s1, s2], ⟨_, _, by
    show _ = [S.val _, .val _, .val (rat 0 d), _, _]
    rw [rat_zero hd]; rfl⟩, ?_, ?_⟩
  · rintro i e ds' he ⟨s1, s2, rfl⟩
    obtain ⟨hi, rfl⟩ := zipR he
    obtain ⟨p, u, e1, u0, k1, bp, bu, g1, _⟩ := rat_bt hd (bN i (by omega)) (bt_up bd (by omega))
    obtain ⟨p', u', e2, u0', k2, bp', bu', g2, _⟩ := rat_bt (m := 2100) hd (bt_up (hx i hi).2 (by omega)) (bt_up bd (by omega))
    have er : rat (p * u' + r i * p' * u) (u * u') = rat (sm (i + 1) fun s => r s * x s) d := by
      refine rat_eq (Int.mul_pos u0 u0') hd ?_
      show (p * u' + r i * p' * u) * d = ((sm i fun s => r s * x s) + r i * x i) * (u * u')
      rw [Int.add_mul, Int.add_mul]
      have h1 : p * u' * d = (sm i fun s => r s * x s) * (u * u') := by
        calc p * u' * d = (p * d) * u' := by simp only [Int.mul_comm, Int.mul_left_comm]
          _ = ((sm i fun s => r s * x s) * u) * u' := by rw [k1]
          _ = _ := by rw [Int.mul_assoc]
      have h2 : r i * p' * u * d = r i * x i * (u * u') := by
        calc r i * p' * u * d = r i * u * (p' * d) := by simp only [Int.mul_comm, Int.mul_left_comm]
          _ = r i * u * (x i * u') := by rw [k2]
          _ = _ := by simp only [Int.mul_comm, Int.mul_left_comm]
      rw [h1, h2]
    have e2' : (R.val (rat (x i) d)).seq = some [.int p', .int u'] := by rw [e2]; rfl
    have a0 : (R.val (rat (x i) d)).seq.bind (fun xs => atI xs 0) = some (.int p') := seq_at e2' rfl
    have a1 : (R.val (rat (x i) d)).seq.bind (fun xs => atI xs 1) = some (.int u') := seq_at e2' rfl
    refine ⟨_, rfl, ⟨_, rfl⟩, rfl, rfl, _, rfl, _, a0, mulW (hr i hi) bp' (by omega) (by omega) (by omega), _, rfl, _, a1, _, rfl, le_line (by show 2 ≤ 1000000; decide), _, rfl, p, u, r i * p', u', by rw [e1]; rfl, ⟨u0, u0', bt_up bp (by omega), bt_up bu (by omega), bt_up (bt_mul (hr i hi) bp') (by omega), bt_up bu' (by omega)⟩, _, rfl, ?_⟩
    rw [er]
    exact ⟨_, _, rfl⟩
  · rintro ds' ⟨s1, s2, rfl⟩
    rw [zipR_len]
    exact q
theorem pure_mean_pay (c : Ad) (ds : List D) (P : R → Prop) (h : sp_mean_pay c ds P) : d_mean_pay c (RD P) (startD 4 ds) := by
  obtain ⟨B, i, x, d, rfl, hi, ⟨hok, hsz, hA⟩, q⟩ := h
  obtain ⟨n1, n9, hd, bd, hx⟩ := id hA
  obtain ⟨_, _, g1, g2, hrow, hwh, _⟩ := id hok
  have bN : Bt 2100 (pay1 B x i) := bt_up (bt_sm fun k hk => bt_mul (B.row_bt hok hsz hi hk) (hx k hk).2) (by omega)
  obtain ⟨p, u, e1, u0, k1, bp, bu, _, _⟩ := rat_bt hd bN (bt_up bd (by omega))
  have e1' : (R.val (rat (pay1 B x i) d)).seq = some [.int p, .int u] := by rw [e1]; rfl
  have a0 : (R.val (rat (pay1 B x i) d)).seq.bind (fun xs => atI xs 0) = some (.int p) := seq_at e1' rfl
  have a1 : (R.val (rat (pay1 B x i) d)).seq.bind (fun xs => atI xs 1) = some (.int u) := seq_at e1' rfl
  have er : rat p (u * B.wh) = rat (pay1 B x i) (d * B.wh) := rat_eq (Int.mul_pos u0 hwh) (Int.mul_pos hd hwh) (by
    calc p * (d * B.wh) = (p * d) * B.wh := by rw [Int.mul_assoc]
      _ = (pay1 B x i * u) * B.wh := by rw [k1]
      _ = _ := by rw [Int.mul_assoc])
  refine ⟨_, rfl, _, rfl, B, i, rfl, hi, _, rfl, _, rfl, B, x, d, rfl, _, rfl, _, atI_rows (B := B) hi rfl, _, rfl, _, rfl, _, rfl, B.g, B.rows i, x, d, rfl, hA, fun k hk => B.row_bt hok hsz hi hk, _, rfl, ?_⟩
  refine ⟨_, a0, _, rfl, _, a1, _, rfl, mulW bu hsz.1 (by omega) (by omega) (by omega), _, rfl, p, u * B.wh, rfl, Int.mul_pos u0 hwh, bt_up (bt_mul bu hsz.1) (by omega), _, ⟨rfl, rfl⟩, ?_⟩
  rw [er]; exact q
theorem pure_gain_of (c : Ad) (ds : List D) (P : R → Prop) (h : sp_gain_of c ds P) : d_gain_of c (RD P) (startD 3 ds) := by
  obtain ⟨B, i, x, d, rfl, hi, hBP, q⟩ := h
  obtain ⟨hok, hsz, hA⟩ := id hBP
  obtain ⟨n1, n9, hd, bd, hx⟩ := id hA
  obtain ⟨_, _, g1, g2, hrow, hwh, _⟩ := id hok
  have bN : Bt 2100 (pay1 B x i) := bt_up (bt_sm fun k hk => bt_mul (B.row_bt hok hsz hi hk) (hx k hk).2) (by omega)
  have hM : 0 < d * B.wh := Int.mul_pos hd hwh
  obtain ⟨p, u, e1, u0, k1, bp, bu, _, _⟩ := rat_bt hM bN (bt_up (bt_mul bd hsz.1) (by omega))
  have c1 : atI (vec B.a B.costs) (i : Int) = some (.int (B.costs i)) := atI_vec hi rfl
  have er : rat (p * 1 + -B.costs i * u) (u * 1) = rat (gain1 B x d i) (d * B.wh) := rat_eq (by omega) hM (by
    unfold gain1
    rw [Int.mul_one, Int.mul_one, Int.add_mul, k1, Int.sub_mul, Int.neg_mul, Int.neg_mul]
    have : B.costs i * u * (d * B.wh) = B.costs i * (d * B.wh) * u := by simp only [Int.mul_comm, Int.mul_left_comm]
    omega)
  refine ⟨_, rfl, _, rfl, _, rfl, B, i, x, d, rfl, hi, hBP, _, rfl, _, rfl, _, c1, _, rfl, _, rfl, le_line (by show 2 ≤ 1000000; decide), _, rfl, p, u, B.costs i, 1, by rw [e1]; rfl, ⟨u0, by decide, bt_up bp (by omega), bt_up bu (by omega), bt_up (hsz.2 i hi) (by omega), bt_one⟩, _, ⟨rfl, rfl⟩, ?_⟩
  rw [er]; exact q
theorem eqv_pr {p u p' u' : Int} : PyData.eqv (.tuple [.int p, .int u]) (.tuple [.int p', .int u']) = decide (p = p' ∧ u = u') := by
  simp [PyData.eqv, PyData.eqvAll]
  rfl
open Classical in
theorem pure_best_deeds (c : Ad) (ds : List D) (P : R → Prop) (h : sp_best_deeds c ds P) : d_best_deeds c (RD P) (startD 6 ds) := by
  obtain ⟨B, x, d, rfl, hBP, q⟩ := h
  obtain ⟨hok, hsz, hA⟩ := id hBP
  obtain ⟨n1, n9, hd, bd, hx⟩ := id hA
  obtain ⟨a1, a2, g1, g2, hrow, hwh, _⟩ := id hok
  have hM : 0 < d * B.wh := Int.mul_pos hd hwh
  have bM : Bt 2200 (d * B.wh) := bt_up (bt_mul bd hsz.1) (by omega)
  have bG : ∀ i, i < B.a → Bt 2200 (gain1 B x d i) := fun i hi => by
    have h1 : Bt 2100 (pay1 B x i) := bt_up (bt_sm fun k hk => bt_mul (B.row_bt hok hsz hi hk) (hx k hk).2) (by omega)
    have h2 : Bt 2100 (B.costs i * (d * B.wh)) := bt_up (bt_mul (hsz.2 i hi) (bt_mul bd hsz.1)) (by omega)
    exact bt_up (bt_sub h1 h2) (by omega)
  refine ⟨_, rfl, by omega, by omega, le_line (by rw [rgD_len]; omega), fun i => some (rat (gain1 B x d i) (d * B.wh)), fun i e he => ?_, ?_⟩
  · obtain ⟨hi, rfl⟩ := rgD_some he
    rw [Int.toNat_natCast] at hi
    have ez : ((0 : Int) + (i : Int)) = (i : Int) := by omega
    rw [ez]
    exact ⟨fun _ => ⟨_, rfl, _, rfl, _, rfl, B, i, x, d, rfl, hi, hBP, _, rfl, rfl⟩, fun z => (by cases z)⟩
  · rw [fm_some, rgD_len, Int.toNat_natCast]
    have er : (List.range B.a).map (fun i => rat (gain1 B x d i) (d * B.wh)) = ratV B.a (gain1 B x d) (d * B.wh) := rfl
    rw [er]
    have g0 : atI (ratV B.a (gain1 B x d) (d * B.wh)) 0 = some (rat (gain1 B x d 0) (d * B.wh)) := atI_mp (i := 0) (by omega) rfl
    refine ⟨_, rfl, _, g0, _, rfl, _, rfl, fun i ds' => ∃ (b : Nat) (s4 : S), b < B.a ∧ (∀ j, j < i → gain1 B x d j ≤ gain1 B x d b) ∧ ds' = [.val (bookD c B), .val (payD c B.g x d), .val (.lst (ratV B.a (gain1 B x d) (d * B.wh))), .val (rat (gain1 B x d b) (d * B.wh)), s4, .no],
      ⟨0, _, by omega, fun j hj => by omega, rfl⟩, ?_, ?_⟩
    · rintro i e ds' he ⟨b, s4, hb, hj, rfl⟩
      obtain ⟨hi, rfl⟩ := ratV_get he
      obtain ⟨p, u, e1, u0, k1, bp, bu, _, _⟩ := rat_bt hM (bG i hi) bM
      obtain ⟨p', u', e2, u0', k2, bp', bu', _, _⟩ := rat_bt hM (bG b hb) bM
      have cl := cross_lt hM hM u0' u0 k2 k1
      have cm : (p' * u < p * u' ↔ gain1 B x d b < gain1 B x d i) := by rw [cl, mul_lt_iff hM]
      refine ⟨_, rfl, _, rfl, p, u, p', u', by rw [e1, e2]; rfl, ⟨u0, u0', bt_up bp (by omega), bt_up bu (by omega), bt_up bp' (by omega), bt_up bu' (by omega)⟩, fun h => ?_, fun h => ?_⟩
      · have h' := of_decide_eq_true h
        have lt : gain1 B x d b < gain1 B x d i := by
          rw [← cm]
          split at h'
          · omega
          · split at h'
            · assumption
            · omega
        refine ⟨_, rfl, i, _, hi, fun j hj' => ?_, rfl⟩
        by_cases w : j = i
        · rw [w]; exact Int.le_refl _
        · have := hj j (by omega); omega
      · have h' := of_decide_eq_false h
        have le : ¬ gain1 B x d b < gain1 B x d i := by
          rw [← cm]
          intro w
          rw [if_neg (by omega), if_pos w] at h'
          omega
        refine ⟨b, _, hb, fun j hj' => ?_, rfl⟩
        by_cases w : j = i
        · rw [w]; omega
        · exact hj j (by omega)
    · rintro ds' ⟨b, s4, hb, hj, rfl⟩
      rw [ratV_len] at hj
      refine ⟨_, rfl, by omega, by omega, le_line (by rw [rgD_len]; omega), fun i => if decide (∀ j, j < B.a → gain1 B x d j ≤ gain1 B x d i) = true then some (.int (i : Nat)) else none, fun i e he => ?_, ?_⟩
      · obtain ⟨hi, rfl⟩ := rgD_some he
        rw [Int.toNat_natCast] at hi
        have ez : ((0 : Int) + (i : Int)) = (i : Int) := by omega
        rw [ez]
        obtain ⟨p, u, e1, u0, k1, bp, bu, gp, _⟩ := rat_bt hM (bG i hi) bM
        obtain ⟨p', u', e2, u0', k2, bp', bu', gp', _⟩ := rat_bt hM (bG b hb) bM
        have gi : atI (ratV B.a (gain1 B x d) (d * B.wh)) (i : Int) = some (rat (gain1 B x d i) (d * B.wh)) := atI_mp hi rfl
        have t1 : toP (rat (gain1 B x d i) (d * B.wh)) = some (.tuple [.int p, .int u]) := by rw [e1]; rfl
        have t2 : toP (rat (gain1 B x d b) (d * B.wh)) = some (.tuple [.int p', .int u']) := by rw [e2]; rfl
        have key : PyData.eqv (.tuple [.int p, .int u]) (.tuple [.int p', .int u']) = decide (∀ j, j < B.a → gain1 B x d j ≤ gain1 B x d i) := by
          rw [eqv_pr]
          have ce := cross_eq hM hM u0 u0' k1 k2
          refine decide_eq_decide.mpr ⟨fun ⟨w1, w2⟩ j hj' => ?_, fun w => ?_⟩
          · have : gain1 B x d i * (d * B.wh) = gain1 B x d b * (d * B.wh) := ce.mp (by rw [w1, w2])
            have := Int.eq_of_mul_eq_mul_right (by omega) this
            rw [this]; exact hj j hj'
          · have e : gain1 B x d i = gain1 B x d b := by
              have := w b hb
              have := hj i hi
              omega
            exact low_eq u0 u0' gp gp' (ce.mpr (by rw [e]))
        refine ⟨_, gi, _, _, _, _, rfl, rfl, t1, t2, rfl, rfl, fun h => ⟨_, rfl, ?_⟩, fun h => ?_⟩
        · have h' : PyData.eqv (.tuple [.int p, .int u]) (.tuple [.int p', .int u']) = true := h
          rw [key] at h'
          exact if_pos h'
        · have h' : PyData.eqv (.tuple [.int p, .int u]) (.tuple [.int p', .int u']) = false := h
          rw [key] at h'
          exact if_neg (by rw [h']; decide)
      · rw [rgD_len, Int.toNat_natCast]
        have ef : (List.range B.a).filterMap (fun i => if decide (∀ j, j < B.a → gain1 B x d j ≤ gain1 B x d i) = true then some (D.int (i : Nat)) else none) = natD (bestL B.a (gain1 B x d)) := fm_if _
        rw [ef]
        exact ⟨_, rfl, _, ⟨rfl, rfl⟩, q⟩
end Dl

namespace Dl
open PySem PySem.Spec PyProof.Rows L2
section
variable {K : PySem.W.Frag} {X : Cx}
/-! ### a comprehension whose items are only known to have a property -/
def eLcD (src : DSrc) (dg : DG) (de : DE) (vs : List Nat) : DE := fun ds P => src ds fun xs => xs.length ≤ sizeLine ∧ ∃ Rel : Nat → D → Prop,
  (∀ i d, xs[i]? = some d → dg d (wipeD ds vs) fun ds2 => de ds2 fun r => ∃ y, r.d = some y ∧ Rel i y) ∧ ∀ ys : List D, ys.length = xs.length → (∀ i y, ys[i]? = some y → Rel i y) → P (.own ys)
theorem se_lcD {wi : TI} {g : TG} {te : TE} {src : DSrc} {dg : DG} {de : DE} {vs : List Nat} (hi : SI K true wi src) (hg : SGc K vs g dg) (he : SE K te de) : SE K (tLc wi g tYes te vs) (eLcD src dg de vs) where
  mono := fun h q => hi.mono (fun xs ⟨hl, f, st, q⟩ => ⟨hl, f, st, fun ys a b => h _ (q ys a b)⟩) q
  run := fun {σ H B ds Q} s q => by
    refine hi.run s (hi.mono (fun xs ⟨hl, Rel, st, q⟩ J H1 B1 g1 yl A hA => ?_) q)
    refine ⟨fun i m H' => m = xs.length - i ∧ i ≤ xs.length ∧ ∃ B' acc ys, Gr H1 B1 H' B' ∧ B' A = none ∧ H' A = some (.lst acc) ∧ Reps K B' acc ys ∧ ys.length = i ∧ ∀ i y, ys[i]? = some y → Rel i y,
      ⟨xs.length, by simp, Nat.zero_le _, B1, [], [], gr_laid g1.bh hA, g1.bh.free hA, upd_same, .nil, rfl, fun i y h => by simp at h⟩, ?_⟩
    rintro i m H' ⟨rfl, hi', B', acc, ys, g', hB, hH, rs, yl', yr⟩
    obtain ⟨y1, y2⟩ := yl i H' B' (fun _ => g'.hh) g'.bb g'.bh
    by_cases hlt : i < xs.length
    · obtain ⟨go, yd⟩ := y1 xs[i] (List.getElem?_eq_getElem hlt)
      refine .inr ⟨go, fun H2 => ∃ B2 acc2 ys2, Gr H1 B1 H2 B2 ∧ B2 A = none ∧ H2 A = some (.lst acc2) ∧ Reps K B2 acc2 ys2 ∧ ys2.length = i + 1 ∧ ∀ i y, ys2[i]? = some y → Rel i y, fun H2 z => ⟨xs.length - (i + 1), by omega, rfl, hlt, z⟩, fun x H2 hy => ?_⟩
      obtain ⟨B2, g2, rx⟩ := yd x H2 hy
      have sw := (((s.grow g1).grow g').grow g2).wipe vs
      refine hg.run sw rx (hg.mono (fun ds2 q2 σ2 s2 w2 => ⟨by
        have ww : wipe (wipe σ vs) vs = wipe σ vs := wipe_sub vs σ fun u hu => hu
        rw [w2, ww], ?_⟩) (st i xs[i] (List.getElem?_eq_getElem hlt)))
      show te σ2 H2 _
      refine he.run s2 (he.mono (fun r ⟨y, ey, ef⟩ v H4 B4 g4 rr => ?_) q2)
      obtain ⟨B5, g5, s5, r5⟩ := rr.freeze g4 ey
      have g6 := g2.trans g5
      have hH4 := g6.hh _ _ hH
      have hB5 := g6.nw A (by rw [hH]; exact fun z => by cases z) hB
      refine ⟨acc, hH4, ?_, B5, acc ++ [v], ys ++ [y], ?_, hB5, upd_same, (rs.mono g6.bb).append (.cons r5 .nil), by rw [List.length_append, yl']; rfl, fun j z hz => ?_⟩
      · rw [rs.len]
        omega
      · have gt := g'.trans g6
        exact ⟨fun a o z => by rw [upd_ne (ne_of_none z hA)]; exact gt.hh _ _ z, gt.bb, fun a o z => by rw [upd_ne (ne_of_none z hB5)]; exact gt.bh _ _ z, gt.nw⟩
      · by_cases w : j < ys.length
        · rw [List.getElem?_append_left w] at hz; exact yr j z hz
        · rw [List.getElem?_append_right (by omega)] at hz
          have e0 : j - ys.length = 0 := by
            have := (List.getElem?_eq_some_iff.mp hz).1
            simp at this; omega
          rw [e0] at hz
          cases hz
          have : j = i := by omega
          rw [this]; exact ef
    · have e : i = xs.length := by omega
      subst e
      exact .inl ⟨y2 rfl, q ys yl' yr _ _ _ (g1.trans g') ⟨A, acc, rfl, g1.hh.free hA, hB, hH, rs⟩⟩
variable {elt tg iter : Expr} {scope : Scope} {own : List (Str × Nat)} {pos : Pos} {wi : TI} {g : TG} {te : TE} {src : DSrc} {dg : DG} {de : DE}
theorem px_lcD (hc : X.calm = true) (hN : X.N.Nodup) (hi : PXI X true tg iter wi src) (ok : BlkOk X.N X.env.scope scope own)
    (hg : ∀ (s : Shared) (H : Hp) (C : Addr) (cl : List (Str × Addr)) (fp : List Addr), PXGc (X.blk s H scope (compEnvC scope cl C X.env) fp) (own.map (·.2)) tg g dg) (he : ∀ (s : Shared) (H : Hp) (C : Addr) (cl : List (Str × Addr)) (fp : List Addr), PX (X.blk s H scope (compEnvC scope cl C X.env) fp) elt te de) (hs : ∀ x, foldedSetIterable iter X.env x = pure x := by intro _; rfl) :
    PX X (.ListComp elt [⟨tg, iter, [], 0⟩] scope pos) (tLc wi g tYes te (own.map (·.2))) (eLcD src dg de (own.map (·.2))) :=
  ⟨pe_lc hc hN hi.p ok (fun s H C cl fp => (hg s H C cl fp).p) (fun s H C cl fp => pts_nil) (fun s H C cl fp => (he s H C cl fp).p) hs, se_lcD hi.s (hg X.s_0 X.H_0 0 [] []).s (he X.s_0 X.H_0 0 [] []).s⟩
theorem px_setLcD {i : Nat} {y : Str} {py spos : Pos} (hc : X.calm = true) (hN : X.N.Nodup) (hi : PXI X true tg iter wi src) (ok : BlkOk X.N X.env.scope scope own)
    (hg : ∀ (s : Shared) (H : Hp) (C : Addr) (cl : List (Str × Addr)) (fp : List Addr), PXGc (X.blk s H scope (compEnvC scope cl C X.env) fp) (own.map (·.2)) tg g dg) (he : ∀ (s : Shared) (H : Hp) (C : Addr) (cl : List (Str × Addr)) (fp : List Addr), PX (X.blk s H scope (compEnvC scope cl C X.env) fp) elt te de)
    (hk : X.env.scope.kind = .function := by rfl) (hy : X.N[i]? = some y := by rfl) (hyl : X.env.scope.names.lookup y = some .local := by rfl) (hl : (py.line == pos.line) = true := by rfl)
    (ha : (scope.names.any fun (n, k) => n == y && (k == .local || k == .cell)) = false := by rfl) (hs : ∀ x, foldedSetIterable iter X.env x = pure x := by intro _; rfl) :
    PXS1 X (.Assign [.Name y py] (.ListComp elt [⟨tg, iter, [], 0⟩] scope pos) spos) (tAsg (tLc wi g tYes te (own.map (·.2))) (gName i)) (dAsg (eLcD src dg de (own.map (·.2))) i) :=
  ⟨ps_setLc hc hN hy hyl (sw_true hk hyl hl ha) hi.p ok (fun s H C cl fp => (hg s H C cl fp).p) (fun s H C cl fp => pts_nil) (fun s H C cl fp => (he s H C cl fp).p) hs, ss_asg (se_lcD hi.s (hg X.s_0 X.H_0 0 [] []).s (he X.s_0 X.H_0 0 [] []).s)⟩
theorem px_setLcGD {i : Nat} {y : Str} {py spos : Pos} (hc : X.calm = true) (hN : X.N.Nodup) (hi : PXI X true tg iter wi src) (ok : BlkOk X.N X.env.scope scope own)
    (hg : ∀ (s : Shared) (H : Hp) (C : Addr) (cl : List (Str × Addr)) (fp : List Addr), PXGc (X.blk s H scope (compEnvC scope cl C X.env) fp) (own.map (·.2)) tg g dg) (he : ∀ (s : Shared) (H : Hp) (C : Addr) (cl : List (Str × Addr)) (fp : List Addr), PX (X.blk s H scope (compEnvC scope cl C X.env) fp) elt te de)
    (hk : X.env.scope.kind = .function := by rfl) (hy : X.N[i]? = some y := by rfl) (hyl : X.env.scope.names.lookup y = some .local := by rfl) (hl : (py.line == pos.line) = true := by rfl)
    (ha : (scope.names.any fun (n, k) => n == y && (k == .local || k == .cell)) = false := by rfl) (hs : ∀ x, foldedSetIterable iter X.env x = pure x := by intro _; rfl) :
    PXS1 X (.Assign [.Name y py] (.ListComp elt [⟨tg, iter, [], 0⟩] scope pos) spos) (tAsg (tLc wi g tYes te (own.map (·.2))) (gName i)) (dAsgG (eLcD src dg de (own.map (·.2))) (gV i)) :=
  ⟨ps_setLc hc hN hy hyl (sw_true hk hyl hl ha) hi.p ok (fun s H C cl fp => (hg s H C cl fp).p) (fun s H C cl fp => pts_nil) (fun s H C cl fp => (he s H C cl fp).p) hs, ss_asgG (se_lcD hi.s (hg X.s_0 X.H_0 0 [] []).s (he X.s_0 X.H_0 0 [] []).s) sg_name⟩
end
end Dl

namespace Dl
open PySem PySem.Spec PyProof.Rows L2 Slv
/-! ### the law's own defs: promises -/
def sp__law_cell : DSp := fun ds P => ∃ (ns : List Int) (k : Nat), ds = [.slst (ns.map D.int), .int k] ∧ k ≤ 1000 ∧ ∀ z : Int, P (.val (.int z))
theorem sp__law_cell_m : MSp sp__law_cell := fun _ _ _ h ⟨ns, k, e, p, q⟩ => ⟨ns, k, e, p, fun z => h _ (q z)⟩
def sp__law_draws : DSp := fun ds P => ∃ (cell : Int) (n : Nat) (size : Int), ds = [.int cell, .int n, .int size] ∧ n ≤ 1000 ∧ 0 < size ∧ Bt 64 size ∧ ∀ f : Nat → Int, (∀ i, i < n → 0 ≤ f i ∧ f i < size) → P (.own (vec n f))
theorem sp__law_draws_m : MSp sp__law_draws := fun _ _ _ h ⟨c, n, s, e, p, z, w, q⟩ => ⟨c, n, s, e, p, z, w, fun f hf => h _ (q f hf)⟩
def sp__law_row : DSp := fun ds P => ∃ (cell : Int) (g : Nat) (wh : Int), ds = [.int cell, .int g, .int wh] ∧ 1 ≤ g ∧ g ≤ 50 ∧ 0 ≤ wh ∧ Bt 60 wh ∧ ∀ r : Nat → Int, (∀ s, s < g → 0 ≤ r s) → sm g r = wh → P (.own (vec g r))
theorem sp__law_row_m : MSp sp__law_row := fun _ _ _ h ⟨c, g, w, e, p, p2, z, b, q⟩ => ⟨c, g, w, e, p, p2, z, b, fun r h1 h2 => h _ (q r h1 h2)⟩
def sp__law_costs : DSp := fun ds P => ∃ (cell : Int) (n : Nat) (size : Int), ds = [.int cell, .int n, .int size] ∧ 1 ≤ n ∧ n ≤ 50 ∧ 0 < size ∧ Bt 64 size ∧ ∀ f : Nat → Int, (∀ i, i < n → 0 ≤ f i ∧ f i < size) → P (.own (vec n f))
theorem sp__law_costs_m : MSp sp__law_costs := fun _ _ _ h ⟨c, n, s, e, p, p2, z, w, q⟩ => ⟨c, n, s, e, p, p2, z, w, fun f hf => h _ (q f hf)⟩
def sp__law_shared : DSp := fun ds P => ∃ a b : Int, ds = [.int a, .int b] ∧ 0 < b ∧ Bt 9000 b ∧ P (.val (.int (gc a b)))
theorem sp__law_shared_m : MSp sp__law_shared := fun _ _ _ h ⟨a, b, e, p, z, q⟩ => ⟨a, b, e, p, z, h _ q⟩
def sp__law_low : DSp := fun ds P => ∃ a b : Int, ds = [.int a, .int b] ∧ 0 < b ∧ Bt 9000 b ∧ P (.val (rat a b))
theorem sp__law_low_m : MSp sp__law_low := fun _ _ _ h ⟨a, b, e, p, z, q⟩ => ⟨a, b, e, p, z, h _ q⟩
def sp__law_is_whole : DSp := fun ds P => ∃ a : Int, ds = [.int a] ∧ P (.val (.bl true))
theorem sp__law_is_whole_m : MSp sp__law_is_whole := fun _ _ _ h ⟨a, e, q⟩ => ⟨a, e, h _ q⟩
def sp__law_is_ratio : DSp := fun ds P => ∃ p q : Int, ds = [pr p q] ∧ 0 < q ∧ Bt 9000 q ∧ Nat.gcd p.natAbs q.natAbs = 1 ∧ P (.val (.bl true))
theorem sp__law_is_ratio_m : MSp sp__law_is_ratio := fun _ _ _ h ⟨p, q, e, a, b, c, z⟩ => ⟨p, q, e, a, b, c, h _ z⟩
/-- nonnegative ratios x / d -/
def Rs (n : Nat) (x : Nat → Int) (d : Int) : Prop := n ≤ 40 ∧ 0 < d ∧ Bt 2000 d ∧ ∀ k, k < n → 0 ≤ x k ∧ Bt 2000 (x k)
def sp__law_are_ratios : DSp := fun ds P => ∃ (n : Nat) (x : Nat → Int) (d : Int), ds = [.tup (ratV n x d), .int n] ∧ Rs n x d ∧ P (.val (.bl true))
theorem sp__law_are_ratios_m : MSp sp__law_are_ratios := fun _ _ _ h ⟨n, x, d, e, p, z⟩ => ⟨n, x, d, e, p, h _ z⟩
/-- equal to itself: a whole number (0), whole numbers in a tuple (1) -/
def sp__law_alike (dp : Nat) : DSp := fun ds P => (dp = 0 ∧ ∃ a : Int, ds = [.int a, .int a] ∧ P (.val (.bl true))) ∨ (dp = 1 ∧ ∃ l : List Int, ds = [.tup (l.map D.int), .tup (l.map D.int)] ∧ l.length ≤ 1000 ∧ P (.val (.bl true)))
theorem sp__law_alike_m (dp : Nat) : MSp (sp__law_alike dp) := fun _ _ _ h q => q.imp (fun ⟨e, a, e2, q⟩ => ⟨e, a, e2, h _ q⟩) fun ⟨e, a, e2, p, q⟩ => ⟨e, a, e2, p, h _ q⟩
/-- a fraction that is worth z / d -/
def Fr (z d : Int) (tp bt : Int) : Prop := 0 < bt ∧ tp * d = z * bt ∧ Bt 100000 tp ∧ Bt 100000 bt
def sp__law_sum : DSp := fun ds P => ∃ (n : Nat) (f x : Nat → Int) (d : Int), ds = [.lst (vec n f), .tup (ratV n x d)] ∧ n ≤ 40 ∧ 0 < d ∧ Bt 2000 d ∧ (∀ k, k < n → Bt 100 (f k)) ∧ (∀ k, k < n → Bt 2000 (x k)) ∧ ∀ tp bt, Fr (sm n fun k => f k * x k) d tp bt → P (.val (pr tp bt))
theorem sp__law_sum_m : MSp sp__law_sum := fun _ _ _ h ⟨n, f, x, d, e, a, b, c, p, r, q⟩ => ⟨n, f, x, d, e, a, b, c, p, r, fun t u w => h _ (q t u w)⟩
def QL (a b a' b' : Int) : Prop := Bt 200000 a ∧ Bt 200000 b ∧ Bt 200000 a' ∧ Bt 200000 b'
def sp__law_less : DSp := fun ds P => ∃ a b a' b' : Int, ds = [pr a b, pr a' b'] ∧ QL a b a' b' ∧ P (.val (.bl (decide (a * b' < a' * b))))
theorem sp__law_less_m : MSp sp__law_less := fun _ _ _ h ⟨a, b, a', b', e, p, q⟩ => ⟨a, b, a', b', e, p, h _ q⟩
def sp__law_same : DSp := fun ds P => ∃ a b a' b' : Int, ds = [pr a b, pr a' b'] ∧ QL a b a' b' ∧ P (.val (.bl (decide (a * b' = a' * b))))
theorem sp__law_same_m : MSp sp__law_same := fun _ _ _ h ⟨a, b, a', b', e, p, q⟩ => ⟨a, b, a', b', e, p, h _ q⟩
def above (n : Nat) (x : Nat → Int) : Int := sm n fun k => if 0 < x k then 1 else 0
def sp__law_above : DSp := fun ds P => ∃ (n : Nat) (x : Nat → Int) (d : Int), ds = [.tup (ratV n x d)] ∧ Rs n x d ∧ P (.val (.int (above n x)))
theorem sp__law_above_m : MSp sp__law_above := fun _ _ _ h ⟨n, x, d, e, p, z⟩ => ⟨n, x, d, e, p, h _ z⟩
/-! tasks -/
def costsL (B : Bk) : D := .lst (vec B.a B.costs)
def rowsL (B : Bk) : D := .lst ((List.range B.a).map fun i => .lst (vec B.g (B.rows i)))
def sp__law_bring_rows : DSp := fun ds P => ∃ (B : Bk) (i : Nat), ds = [costsL B, rowsL B, .int i, .int i] ∧ i < B.a ∧ B.ok ∧ B.sz ∧ P (.own ((others B.a i).map fun j => rowL B.g (rowF B i j)))
theorem sp__law_bring_rows_m : MSp sp__law_bring_rows := fun _ _ _ h ⟨B, i, e, a, b, c, q⟩ => ⟨B, i, e, a, b, c, h _ q⟩
def taskD (T : Tk) : D := .tup [.lst (vec T.n T.goal), .lst (T.rows.map (rowL T.n)), .int T.unit]
def sp__law_bring : DSp := fun ds P => ∃ (B : Bk) (i : Nat), ds = [costsL B, rowsL B, .int i] ∧ i < B.a ∧ B.ok ∧ B.sz ∧ P (.val (taskD (T_bring B i)))
theorem sp__law_bring_m : MSp sp__law_bring := fun _ _ _ h ⟨B, i, e, a, b, c, q⟩ => ⟨B, i, e, a, b, c, h _ q⟩
def sp__law_ties : DSp := fun ds P => ∃ (B : Bk) (l : List Nat), ds = [costsL B, rowsL B, .lst (natD l)] ∧ Lot B.a l ∧ l.length ≤ 16 ∧ B.ok ∧ B.sz ∧ P (.val (taskD (T_ties B l)))
theorem sp__law_ties_m : MSp sp__law_ties := fun _ _ _ h ⟨B, i, e, a, b, c, d, q⟩ => ⟨B, i, e, a, b, c, d, h _ q⟩
def KL (K : Kd) (ask : Nat → Nat) : List D := [.lst (vec K.many K.wt), .lst ((List.range K.many).map fun k => costsL (K.bk k)), .lst ((List.range K.many).map fun k => rowsL (K.bk k)), askD K ask]
def sp__law_pooled : DSp := fun ds P => ∃ (K : Kd) (ask : Nat → Nat), ds = KL K ask ∧ K.Ok ∧ (∀ k, k < K.many → ask k < K.a) ∧ P (.val (taskD (T_pooled K ask)))
theorem sp__law_pooled_m : MSp sp__law_pooled := fun _ _ _ h ⟨K, a, e, b, c, q⟩ => ⟨K, a, e, b, c, h _ q⟩
def sp__law_menu : DSp := fun ds P => ∃ (K : Kd) (ask : Nat → Nat), ds = KL K ask ∧ K.Ok ∧ (∀ k, k < K.many → ask k < K.a) ∧ P (.val (taskD (T_menu K ask)))
theorem sp__law_menu_m : MSp sp__law_menu := fun _ _ _ h ⟨K, a, e, b, c, q⟩ => ⟨K, a, e, b, c, h _ q⟩
/-! an answer judged -/
def colZ (T : Tk) (w : Nat → Int) (k : Nat) : Int := sm T.m fun s => T.coef s k * w s
def sp__law_columns : DSp := fun ds P => ∃ (T : Tk) (w : Nat → Int) (d : Int), ds = [.lst (T.rows.map (rowL T.n)), .tup (ratV T.m w d), .int T.n] ∧ WsT T ∧ 0 < d ∧ Bt 2000 d ∧ (∀ s, s < T.m → Bt 2000 (w s)) ∧
  ∀ tp bt : Nat → Int, (∀ k, k < T.n → Fr (colZ T w k) d (tp k) (bt k)) → P (.own ((List.range T.n).map fun k => pr (tp k) (bt k)))
theorem sp__law_columns_m : MSp sp__law_columns := fun _ _ _ h ⟨T, w, d, e, a, b, c, f, q⟩ => ⟨T, w, d, e, a, b, c, f, fun tp bt hf => h _ (q tp bt hf)⟩
def sp__law_right (c : Ad) : DSp := fun ds P => ∃ T : Tk, (WsT T ∧ c.Granted ≠ c.Refused) ∧ ((∃ d v x w, ds = [taskD T, grantD c T d v x w] ∧ GrT T d v x w) ∨ ∃ d w, ds = [taskD T, refD c T d w] ∧ RfT T d w) ∧ P (.val (.bl true))
theorem sp__law_right_m (c : Ad) : MSp (sp__law_right c) := fun _ _ _ h ⟨T, a, b, q⟩ => ⟨T, a, b, h _ q⟩
/-! gains -/
def AmL (B : Bk) (x : Nat → Int) (d : Int) : Prop := B.ok ∧ B.sz ∧ Am B.g x d
def sp__law_gain : DSp := fun ds P => ∃ (B : Bk) (i : Nat) (x : Nat → Int) (d : Int), ds = [costsL B, rowsL B, .int i, .tup (ratV B.g x d)] ∧ i < B.a ∧ AmL B x d ∧ ∀ tp bt, 0 < bt → tp * (d * B.wh) = gain1 B x d i * bt → Bt 200000 tp → Bt 200000 bt → P (.val (pr tp bt))
theorem sp__law_gain_m : MSp sp__law_gain := fun _ _ _ h ⟨B, i, x, d, e, a, b, q⟩ => ⟨B, i, x, d, e, a, b, fun tp bt h1 h2 h3 h4 => h _ (q tp bt h1 h2 h3 h4)⟩
def sp__law_best : DSp := fun ds P => ∃ (B : Bk) (x : Nat → Int) (d : Int), ds = [costsL B, rowsL B, .tup (ratV B.g x d)] ∧ AmL B x d ∧ P (.own (natD (bestL B.a (gain1 B x d))))
theorem sp__law_best_m : MSp sp__law_best := fun _ _ _ h ⟨B, x, d, e, a, q⟩ => ⟨B, x, d, e, a, h _ q⟩
end Dl

namespace Dl
open PySem PySem.Spec PyProof.Rows L2 Slv
def d__law_cell : DS :=
  (dSeq (dIf (asB (eOp dLt (eVar 1) (eB1 dLen (eVar 0))))
  (dRet (eB1 dInt (eOp dIx (eVar 0) (eVar 1))))
  dNext)
  (dSeq (dIf (asB (eOp (dEq false) (eB1 dLen (eVar 0)) (eC (.int 0))))
  (dRet (eOp dAdd (eOp dMulA (eC (.int 11)) (eVar 1)) (eC (.int 4))))
  dNext)
  (dRet (eOp dAdd (eOp dAdd (eOp dMulA (eB1 dInt (eOp dIx (eVar 0) (eOp dMod (eVar 1) (eB1 dLen (eVar 0))))) (eOp dAdd (eVar 1) (eC (.int 1)))) (eOp dMulA (eC (.int 11)) (eVar 1))) (eC (.int 4))))))
def d__law_draws : DS :=
  (dSeq (dAsg (eLst aNil) 3)
  (dSeq (dAsgG (eB1 dAbs (eVar 0)) (gV 4))
  (dSeq (dAsgG (eOp dGe (eVar 4) (eOp dPow (eC (.int 10)) (eC (.int 18)))) (gV 5))
  (dSeq (dFor (srcR1 (eVar 1)) (gV 6)
  (dIf (uAnd (asB (eVar 5)) (asB (eOp dGt (eVar 4) (eC (.int 0)))))
  (dSeq (dApp 3 (eOp dMod (eB1 dInt (eVar 4)) (eVar 2)))
  (dAsgG (eOp dFdiv (eVar 4) (eVar 2)) (gV 4)))
  (dSeq (dAsgG (eOp dMod (eB1 dInt (eOp dAdd (eOp dMulA (eVar 0) (eC (.int 48271))) (eOp dMulA (eOp dAdd (eVar 6) (eC (.int 1))) (eC (.int 69621))))) (eC (.int 2147483647))) (gV 7))
  (dSeq (dAsgG (eOp dMod (eB1 dInt (eOp dAdd (eOp dMulA (eVar 0) (eC (.int 16807))) (eOp dMulA (eOp dAdd (eVar 6) (eC (.int 1))) (eC (.int 40692))))) (eC (.int 2147483399))) (gV 8))
  (dApp 3 (eOp dMod (eB1 dInt (eOp dFdiv (eOp dMulA (eVar 7) (eVar 8)) (eC (.int 1009)))) (eVar 2)))))))
  (dRetV 3)))))
def d__law_row : DS :=
  (dSeq (dAsgG (eOp dCat (eOp dCat (eLst (aCons (eC (.int 0)) aNil)) (eB1 dSorted (eCall sp__law_draws [] (aCons (eVar 0) (aCons (eOp dSub (eVar 1) (eC (.int 1))) (aCons (eOp dAdd (eVar 2) (eC (.int 1))) aNil)))))) (eLst (aCons (eVar 2) aNil))) (gV 3))
  (dRet (eLc (srcR1 (eVar 1)) (gV 4) uYes (eOp dSub (eOp dIx (eVar 3) (eOp dAdd (eVar 4) (eC (.int 1)))) (eOp dIx (eVar 3) (eVar 4))) [4])))
def d__law_costs : DS :=
  (dSeq (dAsgG (eCall sp__law_draws [] (aCons (eVar 0) (aCons (eOp dAdd (eVar 1) (eC (.int 1))) (aCons (eVar 2) aNil)))) (gV 3))
  (dSeq (dAsgG (eOp dMod (eB1 dInt (eOp dIx (eVar 3) (eVar 1))) (eVar 1)) (gV 4))
  (dRet (eOp dCat (eOp dCat (eSl (eVar 3) oNone (oSome (eVar 4))) (eLst (aCons (eC (.int 0)) aNil))) (eSl (eVar 3) (oSome (eOp dAdd (eVar 4) (eC (.int 1)))) (oSome (eVar 1)))))))
def d__law_shared : DS :=
  (dSeq (dAsgG (eB1 dAbs (eVar 0)) (gV 0))
  (dSeq (dFor (srcR1 (eOp dAdd (eOp dMul (eC (.int 2)) (eBits (eB1 dAbs (eVar 1)))) (eC (.int 4)))) (gV 2)
  (dSeq (dIf (asB (eOp (dEq false) (eVar 1) (eC (.int 0))))
  (dRetV 0)
  dNext)
  (dSeq (dAsgG (eOp dMod (eB1 dInt (eVar 0)) (eVar 1)) (gV 3))
  (dSeq (dAsgG (eVar 1) (gV 0))
  (dAsgG (eVar 3) (gV 1))))))
  (dRet (eC (.int 0)))))
def d__law_low : DS :=
  (dSeq (dAsgG (eCall sp__law_shared [] (aCons (eVar 0) (aCons (eVar 1) aNil))) (gV 2))
  (dRet (eTup (aCons (eOp dFdiv (eVar 0) (eVar 2)) (aCons (eOp dFdiv (eVar 1) (eVar 2)) aNil)))))
def d__law_is_whole : DS :=
  (dRet (eAndV (eIsi "int" (eVar 0)) (eNotV (eIsi "bool" (eVar 0)))))
def d__law_is_ratio : DS :=
  (dSeq (dIf (uOr (uNot (asB (eIsi "tuple" (eVar 0)))) (asB (eOp (dEq true) (eB1 dLen (eVar 0)) (eC (.int 2)))))
  (dRet (eC (.bl false)))
  dNext)
  (dSeq (dIf (uOr (uNot (asB (eCall sp__law_is_whole [] (aCons (eOp dIx (eVar 0) (eC (.int 0))) aNil)))) (uOr (uNot (asB (eCall sp__law_is_whole [] (aCons (eOp dIx (eVar 0) (eC (.int 1))) aNil)))) (asB (eOp dLt (eOp dIx (eVar 0) (eC (.int 1))) (eC (.int 1))))))
  (dRet (eC (.bl false)))
  dNext)
  (dRet (eOp (dEq false) (eCall sp__law_shared [] (aCons (eOp dIx (eVar 0) (eC (.int 0))) (aCons (eOp dIx (eVar 0) (eC (.int 1))) aNil))) (eC (.int 1))))))
def d__law_are_ratios : DS :=
  (dSeq (dIf (uOr (uNot (asB (eIsi "tuple" (eVar 0)))) (asB (eOp (dEq true) (eB1 dLen (eVar 0)) (eVar 1))))
  (dRet (eC (.bl false)))
  dNext)
  (dSeq (dFor (srcS false (eVar 0)) (gV 2)
  (dIf (uOr (uNot (asB (eCall sp__law_is_ratio [] (aCons (eVar 2) aNil)))) (asB (eOp dLt (eOp dIx (eVar 2) (eC (.int 0))) (eC (.int 0)))))
  (dRet (eC (.bl false)))
  dNext))
  (dRet (eC (.bl true)))))
def d__law_alike (dp : Nat) : DS :=
  (dSeq (dIf (asB (eOp (dIsN false) (eVar 1) (eC .non)))
  (dRet (eOp (dIsN false) (eVar 0) (eC .non)))
  dNext)
  (dSeq (dIf (asB (eOp dIsTF (eVar 1) (eC (.bl true))))
  (dRet (eOp dIsTF (eVar 0) (eC (.bl true))))
  dNext)
  (dSeq (dIf (asB (eOp dIsTF (eVar 1) (eC (.bl false))))
  (dRet (eOp dIsTF (eVar 0) (eC (.bl false))))
  dNext)
  (dSeq (dIf (asB (eIsi "int" (eVar 1)))
  (dRet (eAndV (eCall sp__law_is_whole [] (aCons (eVar 0) aNil)) (eOp (dEq false) (eVar 0) (eVar 1))))
  dNext)
  (dSeq (dIf (asB (eIsi "str" (eVar 1)))
  (dRet (eAndV (eIsi "str" (eVar 0)) (eOp (dEq false) (eVar 0) (eVar 1))))
  dNext)
  (dSeq (dIf (uOr (uNot (asB (eIsi "tuple" (eVar 0)))) (asB (eOp (dEq true) (eB1 dLen (eVar 0)) (eB1 dLen (eVar 1)))))
  (dRet (eC (.bl false)))
  dNext)
  (dSeq (dFor (srcR1 (eB1 dLen (eVar 1))) (gV 2)
  (dIf (uNot (asB (eCall (sp__law_alike dp) [] (aCons (eOp dIx (eVar 0) (eVar 2)) (aCons (eOp dIx (eVar 1) (eVar 2)) aNil)))))
  (dRet (eC (.bl false)))
  dNext))
  (dRet (eC (.bl true))))))))))
def d__law_sum : DS :=
  (dSeq (dAsgG (eC (.int 0)) (gV 2))
  (dSeq (dAsgG (eC (.int 1)) (gV 3))
  (dSeq (dFor (srcR1 (eB1 dLen (eVar 0))) (gV 4)
  (dSeq (dAsgG (eOp dAdd (eOp dMul (eVar 2) (eOp dIx (eOp dIx (eVar 1) (eVar 4)) (eC (.int 1)))) (eOp dMul (eOp dMul (eOp dIx (eVar 0) (eVar 4)) (eOp dIx (eOp dIx (eVar 1) (eVar 4)) (eC (.int 0)))) (eVar 3))) (gV 2))
  (dAsgG (eOp dMul (eVar 3) (eOp dIx (eOp dIx (eVar 1) (eVar 4)) (eC (.int 1)))) (gV 3))))
  (dRet (eTup (aCons (eVar 2) (aCons (eVar 3) aNil)))))))
def d__law_less : DS :=
  (dRet (eOp dLt (eOp dMul (eOp dIx (eVar 0) (eC (.int 0))) (eOp dIx (eVar 1) (eC (.int 1)))) (eOp dMul (eOp dIx (eVar 1) (eC (.int 0))) (eOp dIx (eVar 0) (eC (.int 1))))))
def d__law_same : DS :=
  (dRet (eOp (dEq false) (eOp dMul (eOp dIx (eVar 0) (eC (.int 0))) (eOp dIx (eVar 1) (eC (.int 1)))) (eOp dMul (eOp dIx (eVar 1) (eC (.int 0))) (eOp dIx (eVar 0) (eC (.int 1))))))
def d__law_above : DS :=
  (dRet (eB1 dLen (eLc (srcS true (eVar 0)) (gV 1) (asB (eOp dGt (eOp dIx (eVar 1) (eC (.int 0))) (eC (.int 0)))) (eVar 1) [1])))
def d__law_bring_rows : DS :=
  (dSeq (dAsgG (eB1 dSum (eOp dIx (eVar 1) (eC (.int 0)))) (gV 4))
  (dSeq (dAsg (eLst aNil) 5)
  (dSeq (dFor (srcR1 (eB1 dLen (eVar 1))) (gV 6)
  (dIf (uAnd (asB (eOp (dEq true) (eVar 6) (eVar 2))) (asB (eOp (dEq true) (eVar 6) (eVar 3))))
  (dSeq (dAsgG (eLc (srcR1 (eB1 dLen (eOp dIx (eVar 1) (eC (.int 0))))) (gV 8) uYes (eOp dSub (eOp dIx (eOp dIx (eVar 1) (eVar 2)) (eVar 8)) (eOp dIx (eOp dIx (eVar 1) (eVar 6)) (eVar 8))) [8]) (gV 7))
  (dApp 5 (eTup (aCons (eVar 7) (aCons (eOp dMul (eVar 4) (eOp dSub (eOp dIx (eVar 0) (eVar 2)) (eOp dIx (eVar 0) (eVar 6)))) aNil)))))
  dNext))
  (dRetV 5))))
def d__law_columns : DS :=
  (dRet (eLcD (srcR1 (eVar 2)) (gV 3) (eCall sp__law_sum [] (aCons (eLc (srcS true (eVar 0)) (gV 4) uYes (eOp dIx (eOp dIx (eVar 4) (eC (.int 0))) (eVar 3)) [4]) (aCons (eVar 1) aNil))) [3]))
def d__law_right (c : Ad) : DS :=
  (dSeq (dAsgG (eVar 0) (gT0 3 (gC0 (gV 2) (gC0 (gV 3) (gC0 (gV 4) gN0)))))
  (dSeq (dIf (uAnd (uNot (asB (eIsiO [c.Granted, c.Refused] c.Granted (eVar 1)))) (uNot (asB (eIsiO [c.Granted, c.Refused] c.Refused (eVar 1)))))
  (dRet (eC (.bl false)))
  dNext)
  (dSeq (dIf (uNot (asB (eCall sp__law_are_ratios [] (aCons (eFld "weights" (eVar 1)) (aCons (eB1 dLen (eVar 3)) aNil)))))
  (dRet (eC (.bl false)))
  dNext)
  (dSeq (dAsgG (eCall sp__law_columns [] (aCons (eVar 3) (aCons (eFld "weights" (eVar 1)) (aCons (eB1 dLen (eVar 2)) aNil)))) (gV 5))
  (dSeq (dAsgG (eCall sp__law_sum [] (aCons (eLc (srcS true (eVar 3)) (gV 12) uYes (eOp dIx (eVar 12) (eC (.int 1))) [12]) (aCons (eFld "weights" (eVar 1)) aNil))) (gV 6))
  (dSeq (dIf (asB (eIsiO [c.Granted, c.Refused] c.Refused (eVar 1)))
  (dSeq (dIf (asB (eOp dGt (eB1 dLen (eLc (srcS true (eVar 5)) (gV 13) (asB (eOp dGt (eOp dIx (eVar 13) (eC (.int 0))) (eC (.int 0)))) (eVar 13) [13])) (eC (.int 0))))
  (dRet (eC (.bl false)))
  dNext)
  (dRet (eAndV (eOp dGt (eOp dIx (eVar 6) (eC (.int 0))) (eC (.int 0))) (eOp dLe (eCall sp__law_above [] (aCons (eFld "weights" (eVar 1)) aNil)) (eOp dAdd (eB1 dLen (eVar 2)) (eC (.int 1)))))))
  dNext)
  (dSeq (dIf (uOr (uNot (asB (eCall sp__law_are_ratios [] (aCons (eFld "point" (eVar 1)) (aCons (eB1 dLen (eVar 2)) aNil))))) (uNot (asB (eCall sp__law_is_ratio [] (aCons (eFld "value" (eVar 1)) aNil)))))
  (dRet (eC (.bl false)))
  dNext)
  (dSeq (dFor (srcS false (eVar 3)) (gT0 2 (gC0 (gV 7) (gC0 (gV 8) gN0)))
  (dSeq (dAsgG (eCall sp__law_sum [] (aCons (eVar 7) (aCons (eFld "point" (eVar 1)) aNil))) (gV 9))
  (dIf (asB (eOp dLt (eOp dIx (eVar 9) (eC (.int 0))) (eOp dMul (eVar 8) (eOp dIx (eVar 9) (eC (.int 1))))))
  (dRet (eC (.bl false)))
  dNext)))
  (dSeq (dFor (srcR1 (eB1 dLen (eVar 2))) (gV 10)
  (dIf (asB (eOp dGt (eOp dIx (eOp dIx (eVar 5) (eVar 10)) (eC (.int 0))) (eOp dMul (eOp dIx (eVar 2) (eVar 10)) (eOp dIx (eOp dIx (eVar 5) (eVar 10)) (eC (.int 1))))))
  (dRet (eC (.bl false)))
  dNext))
  (dSeq (dAsgG (eTup (aCons (eOp dMul (eOp dIx (eFld "value" (eVar 1)) (eC (.int 0))) (eVar 4)) (aCons (eOp dIx (eFld "value" (eVar 1)) (eC (.int 1))) aNil))) (gV 11))
  (dSeq (dIf (uOr (uNot (asB (eCall sp__law_same [] (aCons (eVar 6) (aCons (eVar 11) aNil))))) (uNot (asB (eCall sp__law_same [] (aCons (eCall sp__law_sum [] (aCons (eVar 2) (aCons (eFld "point" (eVar 1)) aNil))) (aCons (eVar 11) aNil))))))
  (dRet (eC (.bl false)))
  dNext)
  (dRet (eAndV (eOp dLe (eCall sp__law_above [] (aCons (eFld "point" (eVar 1)) aNil)) (eB1 dLen (eVar 3))) (eOp dLe (eCall sp__law_above [] (aCons (eFld "weights" (eVar 1)) aNil)) (eB1 dLen (eVar 2))))))))))))))))
def d__law_gain : DS :=
  (dSeq (dAsgG (eCall sp__law_sum [] (aCons (eOp dIx (eVar 1) (eVar 2)) (aCons (eVar 3) aNil))) (gV 4))
  (dSeq (dAsgG (eB1 dSum (eOp dIx (eVar 1) (eC (.int 0)))) (gV 5))
  (dRet (eTup (aCons (eOp dSub (eOp dIx (eVar 4) (eC (.int 0))) (eOp dMul (eOp dMul (eVar 5) (eOp dIx (eVar 0) (eVar 2))) (eOp dIx (eVar 4) (eC (.int 1))))) (aCons (eOp dMul (eVar 5) (eOp dIx (eVar 4) (eC (.int 1)))) aNil))))))
def d__law_best : DS :=
  (dSeq (dAsgG (eLcD (srcR1 (eB1 dLen (eVar 1))) (gV 6) (eCall sp__law_gain [] (aCons (eVar 0) (aCons (eVar 1) (aCons (eVar 6) (aCons (eVar 2) aNil))))) [6]) (gV 3))
  (dSeq (dAsgG (eOp dIx (eVar 3) (eC (.int 0))) (gV 4))
  (dSeq (dFor (srcS false (eVar 3)) (gV 5)
  (dIf (asB (eCall sp__law_less [] (aCons (eVar 4) (aCons (eVar 5) aNil))))
  (dAsgG (eVar 5) (gV 4))
  dNext))
  (dRet (eLc (srcR1 (eB1 dLen (eVar 1))) (gV 6) (asB (eCall sp__law_same [] (aCons (eOp dIx (eVar 3) (eVar 6)) (aCons (eVar 4) aNil)))) (eVar 6) [6])))))
def d__law_menu : DS :=
  (dSeq (dAsgG (eB1 dLen (eOp dIx (eOp dIx (eVar 2) (eC (.int 0))) (eC (.int 0)))) (gV 4))
  (dSeq (dAsgG (eLst aNil) (gV 5))
  (dSeq (dAsg (eLst aNil) 6)
  (dSeq (dFor (srcR1 (eB1 dLen (eVar 0))) (gV 7)
  (dSeq (dAsgG (eOp dCat (eVar 5) (eLc (srcS true (eOp dIx (eOp dIx (eVar 2) (eVar 7)) (eOp dIx (eVar 3) (eVar 7)))) (gV 12) uYes (eOp dMul (eOp dIx (eVar 0) (eVar 7)) (eVar 12)) [12])) (gV 5))
  (dFor (srcR1 (eB1 dLen (eVar 0))) (gV 8)
  (dFor (srcR1 (eB1 dLen (eOp dIx (eVar 1) (eVar 7)))) (gV 9)
  (dIf (uOr (asB (eOp (dEq true) (eVar 8) (eVar 7))) (asB (eOp (dEq true) (eVar 9) (eOp dIx (eVar 3) (eVar 7)))))
  (dSeq (dAsg (eOp dRep (eLst (aCons (eC (.int 0)) aNil)) (eOp dMul (eB1 dLen (eVar 0)) (eVar 4))) 10)
  (dSeq (dFor (srcR1 (eVar 4)) (gV 11)
  (dSeq (dSet 10 (eOp dAdd (eOp dMul (eVar 7) (eVar 4)) (eVar 11)) (eOp dAdd (eOp dIx (eVar 10) (eOp dAdd (eOp dMul (eVar 7) (eVar 4)) (eVar 11))) (eOp dIx (eOp dIx (eOp dIx (eVar 2) (eVar 7)) (eOp dIx (eVar 3) (eVar 7))) (eVar 11))))
  (dSet 10 (eOp dAdd (eOp dMul (eVar 8) (eVar 4)) (eVar 11)) (eOp dSub (eOp dIx (eVar 10) (eOp dAdd (eOp dMul (eVar 8) (eVar 4)) (eVar 11))) (eOp dIx (eOp dIx (eOp dIx (eVar 2) (eVar 7)) (eVar 9)) (eVar 11))))))
  (dFrz 10 (dApp 6 (eTup (aCons (eVar 10) (aCons (eOp dMul (eB1 dSum (eOp dIx (eOp dIx (eVar 2) (eVar 7)) (eVar 9))) (eOp dSub (eOp dIx (eOp dIx (eVar 1) (eVar 7)) (eOp dIx (eVar 3) (eVar 7))) (eOp dIx (eOp dIx (eVar 1) (eVar 7)) (eVar 9)))) aNil)))))))
  dNext)))))
  (dFrz 6 (dRet (eTup (aCons (eVar 5) (aCons (eVar 6) (aCons (eOp dMul (eB1 dSum (eOp dIx (eOp dIx (eVar 2) (eC (.int 0))) (eC (.int 0)))) (eB1 dSum (eVar 0))) aNil))))))))))
def d__law_pooled : DS :=
  (dSeq (dAsgG (eOp dRep (eLst (aCons (eC (.int 0)) aNil)) (eB1 dLen (eOp dIx (eOp dIx (eVar 2) (eC (.int 0))) (eC (.int 0))))) (gV 4))
  (dSeq (dAsgG (eLst aNil) (gV 5))
  (dSeq (dFor (srcR1 (eB1 dLen (eVar 0))) (gV 6)
  (dSeq (dAsgG (eLc (srcR1 (eB1 dLen (eVar 4))) (gV 7) uYes (eOp dAdd (eOp dIx (eVar 4) (eVar 7)) (eOp dMul (eOp dIx (eVar 0) (eVar 6)) (eOp dIx (eOp dIx (eOp dIx (eVar 2) (eVar 6)) (eOp dIx (eVar 3) (eVar 6))) (eVar 7)))) [7]) (gV 4))
  (dAsgG (eOp dCat (eVar 5) (eCall sp__law_bring_rows [] (aCons (eOp dIx (eVar 1) (eVar 6)) (aCons (eOp dIx (eVar 2) (eVar 6)) (aCons (eOp dIx (eVar 3) (eVar 6)) (aCons (eOp dIx (eVar 3) (eVar 6)) aNil)))))) (gV 5))))
  (dRet (eTup (aCons (eVar 4) (aCons (eVar 5) (aCons (eOp dMul (eB1 dSum (eOp dIx (eOp dIx (eVar 2) (eC (.int 0))) (eC (.int 0)))) (eB1 dSum (eVar 0))) aNil))))))))
end Dl

namespace Dl
open PySem PySem.Spec PyProof.Rows L2 Slv
theorem mA_r {i j : Int} (h1 : -(2 ^ 64) < j) (h2 : j < 2 ^ 64) : CMulA i j := .inl (.inr ⟨h1, h2⟩)
theorem mA_l {i j : Int} (h1 : -(2 ^ 64) < i) (h2 : i < 2 ^ 64) : CMulA i j := .inl (.inl ⟨h1, h2⟩)
theorem atI_ints {l : List Int} {k : Nat} {z : Int} (h : k < l.length) (e : z = k) : atI (l.map D.int) z = some (.int l[k]) := by
  subst e
  refine atI_nat ?_
  rw [List.getElem?_map, List.getElem?_eq_getElem h]; rfl
theorem pure__law_cell (ds : List D) (P : R → Prop) (h : sp__law_cell ds P) : d__law_cell (RD P) (startD 2 ds) := by
  obtain ⟨ns, k, rfl, hk, q⟩ := h
  refine ⟨_, rfl, fun h => ?_, fun h => ?_⟩
  · have h' := of_decide_eq_true h
    rw [List.length_map] at h'
    exact ⟨_, atI_ints (k := k) (by omega) rfl, _, ⟨rfl, rfl⟩, q _⟩
  · refine ⟨_, rfl, fun h0 => ?_, fun h0 => ?_⟩
    · exact ⟨mA_l (by decide) (by decide), _, ⟨rfl, rfl⟩, q _⟩
    · have h0' := of_decide_eq_false h0
      rw [List.length_map] at h0'
      have hl : 0 < ns.length := by omega
      refine ⟨_, rfl, ?_⟩
      rw [List.length_map]
      refine ⟨by omega, _, atI_ints (k := k % ns.length) (Nat.mod_lt _ hl) (Int.natCast_emod k ns.length).symm, mA_r (by omega) (by omega), mA_l (by decide) (by decide), _, ⟨rfl, rfl⟩, q _⟩
theorem vec_snoc {i : Nat} {f : Nat → Int} {v : Int} : vec i f ++ [.int v] = vec (i + 1) fun j => if j = i then v else f j := by
  have : vec (i + 1) (fun j => if j = i then v else f j) = vec i (fun j => if j = i then v else f j) ++ [.int (if i = i then v else f i)] := mp_succ _ _
  rw [this, if_pos rfl]
  congr 1
  exact vec_congr fun j hj => (if_neg (by omega)).symm
theorem mod_rng {a b : Int} (h : 0 < b) : 0 ≤ a % b ∧ a % b < b := ⟨Int.emod_nonneg _ (by omega), Int.emod_lt_of_pos _ h⟩
theorem pure__law_draws (ds : List D) (P : R → Prop) (h : sp__law_draws ds P) : d__law_draws (RD P) (startD 9 ds) := by
  obtain ⟨cell, n, size, rfl, hn, hs, bs, q⟩ := h
  have ls := bt_log bs (by omega)
  refine ⟨le_line (by show 0 ≤ 1000000; decide), _, rfl, _, rfl, ⟨by decide, by decide, by decide⟩, _, rfl, by omega, by omega, ?_⟩
  refine ⟨fun i ds' => ∃ (f : Nat → Int) (left : Int) (wide : Bool) (s6 s7 s8 : S), (∀ j, j < i → 0 ≤ f j ∧ f j < size) ∧ ds' = [.val (.int cell), .val (.int n), .val (.int size), .own (vec i f), .val (.int left), .val (.bl wide), s6, s7, s8], ⟨fun _ => 0, _, _, _, _, _, fun j hj => by omega, rfl⟩, ?_, ?_⟩
  · rintro i d ds' hd ⟨f, left, wide, s6, s7, s8, hf, rfl⟩
    obtain ⟨hi, rfl⟩ := rgD_some hd
    rw [Int.toNat_natCast] at hi
    have ll : (vec i f).length < sizeLine := by rw [vec_len, sizeLine_eq]; omega
    have nx : ∀ v : Int, 0 ≤ v ∧ v < size → ∀ j, j < i + 1 → 0 ≤ (if j = i then v else f j) ∧ (if j = i then v else f j) < size := fun v hv j hj => by
      by_cases w : j = i
      · rw [if_pos w]; exact hv
      · rw [if_neg w]; exact hf j (by omega)
    refine ⟨fun hw => ⟨fun hg => ?_, fun hg => ?_⟩, fun hw => ⟨fun z => (by cases z), fun _ => ?_⟩⟩
    · refine ⟨hs, _, rfl, ll, ?_⟩
      rw [vec_snoc]
      exact ⟨⟨hs, by omega⟩, _, rfl, _, _, _, _, _, _, nx _ (mod_rng hs), rfl⟩
    all_goals
      refine ⟨mA_r (by decide) (by decide), mA_r (by decide) (by decide), (show (0 : Int) < 2147483647 by decide), _, rfl, mA_r (by decide) (by decide), mA_r (by decide) (by decide), (show (0 : Int) < 2147483399 by decide), _, rfl, ?_⟩
      have b1 := mod_rng (a := cell * 48271 + (0 + (i : Int) + 1) * 69621) (b := 2147483647) (by decide)
      refine ⟨mA_l (by omega) (by omega), ⟨by decide, by decide⟩, hs, _, rfl, ll, ?_⟩
      rw [vec_snoc]
      exact ⟨_, _, _, _, _, _, nx _ (mod_rng hs), rfl⟩
  · rintro ds' ⟨f, left, wide, s6, s7, s8, hf, rfl⟩
    rw [rgD_len, Int.toNat_natCast] at hf ⊢
    exact q f hf
theorem sm_tel (F : Nat → Int) : ∀ n, sm n (fun s => F (s + 1) - F s) = F n - F 0
  | 0 => by show (0 : Int) = F 0 - F 0; omega
  | n + 1 => by
    show sm n _ + (F (n + 1) - F n) = _
    rw [sm_tel F n]; omega
theorem pure__law_row (ds : List D) (P : R → Prop) (h : sp__law_row ds P) : d__law_row (RD P) (startD 5 ds) := by
  obtain ⟨cell, g, wh, rfl, hg, hg2, hw, bw, q⟩ := h
  have eg : (g : Int) - 1 = ((g - 1 : Nat) : Int) := by omega
  refine ⟨_, rfl, le_line (by show 1 ≤ 1000000; decide), _, rfl, _, rfl, _, rfl, cell, g - 1, wh + 1, congrArg (fun z => [D.int cell, .int z, .int (wh + 1)]) eg, by omega, by omega, bt_up (bt_add bw bt_one) (by omega), fun f hf => ?_⟩
  refine ⟨_, congrArg some vec_map, by rw [mp_len]; omega, fun ms hp hs => ?_⟩
  have ml : ms.length = g - 1 := by rw [hp.length_eq, mp_len]
  have mb : ∀ x ∈ ms, 0 ≤ x ∧ x ≤ wh := fun x hx => by
    obtain ⟨k, hk, e⟩ := List.mem_map.mp (hp.mem_iff.mp hx)
    have := hf k (List.mem_range.mp hk)
    omega
  have lm : (ms.map D.int).length = g - 1 := by rw [List.length_map, ml]
  refine ⟨[.int 0], _, rfl, rfl, le_line (by rw [lm]; show 1 + (g - 1) ≤ 1000000; omega), _, rfl, le_line (by show 1 ≤ 1000000; decide), _, _, rfl, rfl, le_line (by rw [List.length_append, lm]; show 1 + (g - 1) + 1 ≤ 1000000; omega), _, rfl, ?_⟩
  have eL : [D.int 0] ++ ms.map D.int ++ [D.int wh] = (0 :: (ms ++ [wh])).map D.int := by
    rw [List.map_cons, List.map_append]; rfl
  rw [eL]
  have lL : (0 :: (ms ++ [wh])).length = g + 1 := by rw [List.length_cons, List.length_append, ml]; show g - 1 + 1 + 1 = _; omega
  have at_ : ∀ {k : Nat} {z : Int}, k < g + 1 → z = k → atI ((0 :: (ms ++ [wh])).map D.int) z = some (.int ((0 :: (ms ++ [wh])).getD k 0)) := fun {k z} hk e => by
    rw [atI_ints (k := k) (by rw [lL]; exact hk) e, List.getD_eq_getElem?_getD, List.getElem?_eq_getElem (by rw [lL]; exact hk)]; rfl
  refine ⟨by omega, by omega, le_line (by rw [rgD_len]; omega), fun s => some (.int ((0 :: (ms ++ [wh])).getD (s + 1) 0 - (0 :: (ms ++ [wh])).getD s 0)), fun s d hd => ?_, ?_⟩
  · obtain ⟨hs', rfl⟩ := rgD_some hd
    rw [Int.toNat_natCast] at hs'
    exact ⟨fun _ => ⟨_, at_ (k := s + 1) (by omega) (by omega), _, at_ (k := s) (by omega) (by omega), _, rfl, rfl⟩, fun z => (by cases z)⟩
  · rw [fm_some, rgD_len, Int.toNat_natCast]
    have pw : (0 :: (ms ++ [wh])).Pairwise (· ≤ ·) := by
      rw [List.pairwise_cons, List.pairwise_append]
      refine ⟨fun x hx => ?_, hs, List.pairwise_singleton _ _, fun x hx y hy => ?_⟩
      · rcases List.mem_append.mp hx with h | h
        · exact (mb x h).1
        · rw [List.mem_singleton.mp h]; exact hw
      · rw [List.mem_singleton.mp hy]; exact (mb x hx).2
    refine ⟨_, ⟨rfl, rfl⟩, q (fun s => (0 :: (ms ++ [wh])).getD (s + 1) 0 - (0 :: (ms ++ [wh])).getD s 0) (fun s hs' => ?_) ?_⟩
    · have := List.pairwise_iff_getElem.mp pw s (s + 1) (by rw [lL]; omega) (by rw [lL]; omega) (by omega)
      show 0 ≤ (0 :: (ms ++ [wh])).getD (s + 1) 0 - (0 :: (ms ++ [wh])).getD s 0
      rw [List.getD_eq_getElem?_getD, List.getD_eq_getElem?_getD, List.getElem?_eq_getElem (show s + 1 < _ by rw [lL]; omega), List.getElem?_eq_getElem (show s < _ by rw [lL]; omega)]
      show 0 ≤ (0 :: (ms ++ [wh]))[s + 1] - (0 :: (ms ++ [wh]))[s]
      omega
    · rw [sm_tel (fun s => (0 :: (ms ++ [wh])).getD s 0) g]
      have e1 : (0 :: (ms ++ [wh])).getD g 0 = wh := by
        obtain ⟨g', rfl⟩ : ∃ g', g = g' + 1 := ⟨g - 1, by omega⟩
        rw [List.getD_eq_getElem?_getD, List.getElem?_cons_succ, List.getElem?_append_right (by omega), ml]
        have : g' - (g' + 1 - 1) = 0 := by omega
        rw [this]; rfl
      rw [e1]
      show wh - 0 = wh
      omega
end Dl

namespace Dl
open PySem PySem.Spec PyProof.Rows L2 Slv
theorem vec_take {n k : Nat} {f : Nat → Int} (h : k ≤ n) : (vec n f).take k = vec k f := by
  obtain ⟨m, rfl⟩ : ∃ m, n = k + m := ⟨n - k, by omega⟩
  have : vec (k + m) f = vec k f ++ vec m fun i => f (k + i) := mp_app _ _ _
  rw [this, List.take_left' vec_len]
theorem vec_drop {n k : Nat} {f : Nat → Int} (h : k ≤ n) : (vec n f).drop k = vec (n - k) fun i => f (k + i) := by
  obtain ⟨m, rfl⟩ : ∃ m, n = k + m := ⟨n - k, by omega⟩
  have : vec (k + m) f = vec k f ++ vec m fun i => f (k + i) := mp_app _ _ _
  rw [this, List.drop_left' vec_len, Nat.add_sub_cancel_left]
theorem sIx_at {n d k : Nat} {z : Int} (e : z = k) : HT.sIx n d (some z) = min k n := by
  subst e
  show (if (k : Int) < 0 then ((k : Int) + (n : Int)).toNat else min (k : Int).toNat n) = _
  rw [if_neg (by omega), Int.toNat_natCast]
theorem cut_vec {n a b : Nat} {f : Nat → Int} {x y : Int} (h : a ≤ b) (hb : b ≤ n) (ea : x = a) (eb : y = b) : cutD (vec n f) (some x) (some y) = vec (b - a) fun i => f (a + i) := by
  unfold cutD
  rw [vec_len, sIx_at ea, sIx_at eb, Nat.min_eq_left (show a ≤ n by omega), Nat.min_eq_left hb, vec_drop (by omega), vec_take (by omega)]
theorem cut_vec0 {n b : Nat} {f : Nat → Int} {y : Int} (hb : b ≤ n) (eb : y = b) : cutD (vec n f) none (some y) = vec b f := by
  unfold cutD
  have e0 : HT.sIx (vec n f).length 0 none = 0 := rfl
  rw [e0, vec_len, sIx_at eb, Nat.min_eq_left hb, List.drop_zero, Nat.sub_zero, vec_take hb]
theorem pure__law_costs (ds : List D) (P : R → Prop) (h : sp__law_costs ds P) : d__law_costs (RD P) (startD 5 ds) := by
  obtain ⟨cell, n, size, rfl, hn, hn2, hs, bs, q⟩ := h
  have en : (n : Int) + 1 = ((n + 1 : Nat) : Int) := by omega
  refine ⟨_, rfl, _, rfl, _, rfl, cell, n + 1, size, congrArg (fun z => [D.int cell, .int z, .int size]) en, by omega, hs, bs, fun f hf => ?_⟩
  have a1 : atI (vec (n + 1) f) (n : Int) = some (.int (f n)) := atI_vec (by omega) rfl
  have r := mod_rng (a := f n) (b := n) (by omega)
  obtain ⟨k, hk⟩ : ∃ k : Nat, f n % (n : Int) = k := ⟨(f n % (n : Int)).toNat, by omega⟩
  have hkn : k < n := by omega
  have c1 : cutD (vec (n + 1) f) none (some (f n % (n : Int))) = vec k f := cut_vec0 (by omega) hk
  have c2 : cutD (vec (n + 1) f) (some (f n % (n : Int) + 1)) (some (n : Int)) = vec (n - (k + 1)) fun i => f (k + 1 + i) := cut_vec (by omega) (by omega) (by omega) rfl
  have ef : vec k f ++ [D.int 0] ++ (vec (n - (k + 1)) fun i => f (k + 1 + i)) = vec n fun i => if i = k then 0 else f i := by
    have e1 : vec (k + 1 + (n - (k + 1))) (fun i => if i = k then 0 else f i) = vec (k + 1) (fun i => if i = k then 0 else f i) ++ vec (n - (k + 1)) fun i => if k + 1 + i = k then 0 else f (k + 1 + i) := mp_app _ _ _
    have e2 : k + 1 + (n - (k + 1)) = n := by omega
    rw [e2] at e1
    rw [e1, vec_snoc]
    congr 1
    exact vec_congr fun i _ => by rw [if_neg (by omega)]
  refine ⟨_, rfl, _, a1, ⟨by omega, _, rfl, _, rfl, _, rfl, le_line (by show 1 ≤ 1000000; decide), vec k f, [.int 0], congrArg some c1, rfl, le_line (by rw [vec_len]; show k + 1 ≤ 1000000; omega), _, rfl, vec k f ++ [.int 0], _, rfl, congrArg some c2, le_line (by rw [List.length_append, vec_len, vec_len]; show k + 1 + _ ≤ 1000000; omega), ?_⟩⟩
  rw [ef]
  refine ⟨_, ⟨rfl, rfl⟩, q _ fun i hi => ?_⟩
  by_cases w : i = k
  · rw [if_pos w]; omega
  · rw [if_neg w]; exact hf i (by omega)
theorem bits_lt {b : Int} (hb : 0 < b) : b.natAbs < 2 ^ (Builtin.Int.intBits b) := by
  unfold Builtin.Int.intBits
  rw [if_neg (by simp; omega)]
  exact Nat.lt_log2_self
theorem bits_le {b : Int} {m : Nat} (h : Bt m b) (hm : 0 < m) : Builtin.Int.intBits b ≤ m := by
  unfold Builtin.Int.intBits
  split
  · omega
  · have := bt_log h hm; omega
theorem gc_abs {a b : Int} : gc (if a < 0 then -a else a) b = gc a b := by
  unfold gc
  have : (if a < 0 then -a else a).natAbs = a.natAbs := by split <;> omega
  rw [this]
theorem gc_mod {a b : Int} (hb : 0 < b) (ha : 0 ≤ a) : gc b (a % b) = gc a b := by
  unfold gc
  have e : (a % b).natAbs = a.natAbs % b.natAbs := by
    obtain ⟨m, rfl⟩ : ∃ m : Nat, a = m := ⟨a.toNat, by omega⟩
    obtain ⟨n, rfl⟩ : ∃ n : Nat, b = n := ⟨b.toNat, by omega⟩
    rw [← Int.natCast_emod, Int.natAbs_natCast, Int.natAbs_natCast, Int.natAbs_natCast]
  rw [e, Nat.gcd_comm a.natAbs, Nat.gcd_rec b.natAbs a.natAbs, Nat.gcd_comm]
theorem pure__law_shared (ds : List D) (P : R → Prop) (h : sp__law_shared ds P) : d__law_shared (RD P) (startD 4 ds) := by
  obtain ⟨a, b, rfl, hb, bb, q⟩ := h
  have L := bits_lt hb
  have Lm := bits_le bb (by omega)
  have eb : (if b < 0 then -b else b) = b := if_neg (by omega)
  have emul : CMulW 2 (Builtin.Int.intBits (if b < 0 then -b else b) : Nat) := by
    refine mulW (a := 2) (b := 45) (show (2 : Int).natAbs < 2 ^ 2 by decide) ?_ (by omega) (by omega) (by omega)
    rw [eb]
    unfold Bt
    rw [Int.natAbs_natCast]
    have : (2 : Nat) ^ 14 ≤ 2 ^ 45 := Nat.pow_le_pow_right (by decide) (by decide)
    omega
  refine ⟨_, rfl, emul, ?_⟩
  rw [eb]
  generalize hL : Builtin.Int.intBits b = l at L Lm ⊢
  have ha : 0 ≤ (if a < 0 then -a else a) := by split <;> omega
  refine ⟨by omega, by omega, fun i ds' => ∃ (f s : Int) (s2 s3 : S), ds' = [.val (.int f), .val (.int s), s2, s3] ∧ gc f s = gc a b ∧ 0 ≤ f ∧ 0 ≤ s ∧ i ≤ 2 * l ∧ (1 ≤ i → s < f ∧ f * 2 ^ ((i - 1) / 2) < 2 ^ l) ∧ s * 2 ^ (i / 2) < 2 ^ l, ⟨_, b, _, _, rfl, gc_abs, ha, by omega, by omega, fun z => by omega, ?_⟩, ?_, ?_⟩
  · rw [Nat.zero_div, Int.pow_zero, Int.mul_one]
    have : (b.natAbs : Int) < ((2 ^ l : Nat) : Int) := Int.ofNat_lt.mpr L
    rw [Int.natCast_pow] at this
    have e : (b.natAbs : Int) = b := by omega
    rw [e] at this
    exact this
  · rintro i d ds' hd ⟨f, s, s2, s3, rfl, hg, hf, hs, hi, h1, h2⟩
    obtain ⟨_, rfl⟩ := rgD_some hd
    refine ⟨fun h0 => ?_, fun h0 => ?_⟩
    · have e0 : s = 0 := of_decide_eq_true h0
      subst e0
      have : gc f 0 = f := by unfold gc; rw [Int.natAbs_zero, Nat.gcd_zero_right]; omega
      rw [this] at hg
      show P (.val (.int f))
      rw [hg]; exact q
    · have e0 : s ≠ 0 := of_decide_eq_false h0
      have sp : 0 < s := by omega
      have r := mod_rng (a := f) (b := s) sp
      have ip : ∀ k : Nat, (0 : Int) < 2 ^ k := fun k => Int.pow_pos (by decide)
      have ilt : i < 2 * l := by
        rcases Nat.lt_or_ge i (2 * l) with z | z
        · exact z
        · have e : i / 2 = l := by omega
          rw [e] at h2
          have : 1 * (2 : Int) ^ l ≤ s * 2 ^ l := Int.mul_le_mul_of_nonneg_right (by omega) (Int.le_of_lt (ip l))
          rw [Int.one_mul] at this
          omega
      refine ⟨sp, _, rfl, _, rfl, _, rfl, s, f % s, _, _, rfl, ?_, hs, r.1, by omega, fun _ => ⟨r.2, ?_⟩, ?_⟩
      · rw [gc_mod sp hf, hg]
      · show s * 2 ^ ((i + 1 - 1) / 2) < 2 ^ l
        rw [Nat.add_sub_cancel]; exact h2
      · show f % s * 2 ^ ((i + 1) / 2) < 2 ^ l
        by_cases odd : i % 2 = 1
        · obtain ⟨w1, w2⟩ := h1 (by omega)
          have e : (i + 1) / 2 = (i - 1) / 2 + 1 := by omega
          have dbl : f % s * 2 ≤ f := by
            have h3 := Int.emod_add_mul_ediv f s
            have h4 : 1 ≤ f / s := by
              have : 1 * s ≤ f := by omega
              exact (Int.le_ediv_iff_mul_le sp).mpr this
            have h5 : s * 1 ≤ s * (f / s) := Int.mul_le_mul_of_nonneg_left h4 (by omega)
            omega
          rw [e, Int.pow_succ, Int.mul_comm (2 ^ _) 2, ← Int.mul_assoc]
          refine Int.lt_of_le_of_lt (Int.mul_le_mul_of_nonneg_right dbl (Int.le_of_lt (ip _))) w2
        · have e : (i + 1) / 2 = i / 2 := by omega
          rw [e]
          exact Int.lt_trans (Int.mul_lt_mul_of_pos_right r.2 (ip _)) h2
  · rintro ds' ⟨f, s, s2, s3, rfl, hg, hf, hs, hi, h1, h2⟩
    rw [rgD_len] at hi
    omega
theorem pure__law_low (ds : List D) (P : R → Prop) (h : sp__law_low ds P) : d__law_low (RD P) (startD 3 ds) := by
  obtain ⟨a, b, rfl, hb, bb, q⟩ := h
  have g0 := gc_pos (a := a) hb
  have g2 := bt_log (bt_le bb (by omega) (gc_le (a := a) hb)) (by omega)
  exact ⟨_, rfl, _, rfl, a, b, rfl, hb, bb, _, rfl, ⟨g0, g2⟩, _, rfl, ⟨g0, g2⟩, _, rfl, le_line (by show 2 ≤ 1000000; decide), _, ⟨rfl, rfl⟩, q⟩
end Dl

namespace Dl
open PySem PySem.Spec PyProof.Rows L2 Slv
theorem ff {p : Prop} (h : false = true) : p := by cases h
theorem tf {p : Prop} (h : true = false) : p := by cases h
theorem kII : kitB "int" "int" = some true := by decide +kernel
theorem kIB : kitB "int" "bool" = some false := by decide +kernel
theorem kTT : kitB "tuple" "tuple" = some true := by decide +kernel
theorem kTI : kitB "tuple" "int" = some false := by decide +kernel
theorem kTS : kitB "tuple" "str" = some false := by decide +kernel
theorem pure__law_is_whole (ds : List D) (P : R → Prop) (h : sp__law_is_whole ds P) : d__law_is_whole (RD P) (startD 1 ds) := by
  obtain ⟨a, rfl, q⟩ := h
  exact ⟨_, _, _, rfl, rfl, kII, fun _ => ⟨_, _, _, rfl, rfl, kIB, _, ⟨rfl, rfl⟩, q⟩, fun h => tf h⟩
theorem pure__law_is_ratio (ds : List D) (P : R → Prop) (h : sp__law_is_ratio ds P) : d__law_is_ratio (RD P) (startD 1 ds) := by
  obtain ⟨p, u, rfl, hu, bu, hg, q⟩ := h
  refine ⟨_, _, _, rfl, rfl, kTT, fun h => ff h, fun _ => ⟨_, rfl, fun h => absurd h (nd_f (show ((2 : Nat) : Int) = 2 from rfl)), fun _ => ?_⟩⟩
  refine ⟨_, rfl, _, rfl, _, rfl, fun h => ff h, fun _ => ⟨_, rfl, _, rfl, _, rfl, fun h => ff h, fun _ => ⟨_, rfl, fun h => absurd (of_decide_eq_true h) (by omega), fun _ => ?_⟩⟩⟩
  refine ⟨_, rfl, _, rfl, _, rfl, _, rfl, p, u, rfl, hu, bu, _, ⟨rfl, rfl⟩, ?_⟩
  have e : gc p u = 1 := by unfold gc; rw [hg]; rfl
  show P (.val (.bl (decide (gc p u = 1))))
  rw [e]; exact q
theorem pure__law_are_ratios (ds : List D) (P : R → Prop) (h : sp__law_are_ratios ds P) : d__law_are_ratios (RD P) (startD 3 ds) := by
  obtain ⟨n, x, d, rfl, ⟨hn, hd, bd, hx⟩, q⟩ := h
  refine ⟨_, _, _, rfl, rfl, kTT, fun h => ff h, fun _ => ⟨_, rfl, fun h => absurd h (nd_f (by rw [ratV_len])), fun _ => ?_⟩⟩
  refine ⟨_, rfl, fun i ds' => ∃ s, ds' = [.val (.tup (ratV n x d)), .val (.int n), s], ⟨_, rfl⟩, ?_, ?_⟩
  · rintro i e ds' he ⟨s, rfl⟩
    obtain ⟨hi, rfl⟩ := ratV_get he
    obtain ⟨p, u, e1, u0, k1, bp, bu, g, nn⟩ := rat_bt hd (hx i hi).2 bd
    have p0 := nn (hx i hi).1
    have e2 : (R.val (rat (x i) d)).seq = some [.int p, .int u] := by rw [e1]; rfl
    refine ⟨_, rfl, p, u, by rw [e1]; rfl, u0, bt_up bu (by omega), g, fun h => ff h, fun _ => ⟨_, seq_at e2 rfl, fun h => absurd (of_decide_eq_true h) (by omega), fun _ => ⟨_, rfl⟩⟩⟩
  · rintro ds' ⟨s, rfl⟩
    exact ⟨_, ⟨rfl, rfl⟩, q⟩
theorem pure__law_alike (dp : Nat) (ds : List D) (P : R → Prop) (h : sp__law_alike dp ds P) : d__law_alike (dp - 1) (RD P) (startD 3 ds) := by
  rcases h with ⟨e, a, rfl, q⟩ | ⟨e, l, rfl, hl, q⟩
  · refine ⟨fun h => ff h, fun _ => ⟨fun h => ff h, fun _ => ⟨fun h => ff h, fun _ => ⟨_, _, _, rfl, rfl, kII, fun _ => ?_, fun h => tf h⟩⟩⟩⟩
    refine ⟨_, rfl, a, rfl, fun _ => ⟨_, ⟨rfl, rfl⟩, ?_⟩, fun h => tf h⟩
    show P (.val (.bl (decide (a = a))))
    rw [decide_eq_true rfl]; exact q
  · refine ⟨fun h => ff h, fun _ => ⟨fun h => ff h, fun _ => ⟨fun h => ff h, fun _ => ⟨_, _, _, rfl, rfl, kTI, fun h => ff h, fun _ => ⟨_, _, _, rfl, rfl, kTS, fun h => ff h, fun _ => ?_⟩⟩⟩⟩⟩
    refine ⟨_, _, _, rfl, rfl, kTT, fun h => ff h, fun _ => ⟨_, rfl, _, rfl, fun h => absurd h (nd_f rfl), fun _ => ?_⟩⟩
    refine ⟨_, rfl, by omega, by rw [List.length_map]; omega, fun i ds' => ∃ s, ds' = [.val (.tup (l.map D.int)), .val (.tup (l.map D.int)), s], ⟨_, rfl⟩, ?_, ?_⟩
    · rintro i d ds' hd ⟨s, rfl⟩
      obtain ⟨hi, rfl⟩ := rgD_some hd
      rw [List.length_map, Int.toNat_natCast] at hi
      have a1 : atI (l.map D.int) (0 + (i : Int)) = some (.int l[i]) := atI_ints hi (by omega)
      exact ⟨_, a1, _, rfl, _, a1, _, rfl, .inl ⟨by omega, l[i], rfl, fun h => ff h, fun _ => ⟨_, rfl⟩⟩⟩
    · rintro ds' ⟨s, rfl⟩
      exact ⟨_, ⟨rfl, rfl⟩, q⟩
theorem pure__law_sum (ds : List D) (P : R → Prop) (h : sp__law_sum ds P) : d__law_sum (RD P) (startD 5 ds) := by
  obtain ⟨n, f, x, d, rfl, hn, hd, bd, hf, hx, q⟩ := h
  refine ⟨_, rfl, _, rfl, _, rfl, ?_⟩
  rw [vec_len]
  refine ⟨by omega, by omega, fun i ds' => ∃ (tp bt : Int) (s : S), ds' = [.val (.lst (vec n f)), .val (.tup (ratV n x d)), .val (.int tp), .val (.int bt), s] ∧ 0 < bt ∧ tp * d = (sm i fun k => f k * x k) * bt ∧ Bt (2300 * i + 10) tp ∧ Bt (2100 * i + 1) bt, ⟨0, 1, _, rfl, by decide, (by show 0 * d = 0 * 1; rw [Int.zero_mul, Int.zero_mul]), bt_zero, bt_one⟩, ?_, ?_⟩
  · rintro i e ds' he ⟨tp, bt, s, rfl, h0, hv, b1, b2⟩
    obtain ⟨hi, rfl⟩ := rgD_some he
    rw [Int.toNat_natCast] at hi
    obtain ⟨p, u, e1, u0, k1, bp, bu, g, _⟩ := rat_bt hd (hx i hi) bd
    have e2 : (R.val (rat (x i) d)).seq = some [.int p, .int u] := by rw [e1]; rfl
    have a1 : atI (ratV n x d) (0 + (i : Int)) = some (rat (x i) d) := atI_mp hi (by omega)
    have a2 : atI (vec n f) (0 + (i : Int)) = some (.int (f i)) := atI_vec hi (by omega)
    refine ⟨_, a1, _, seq_at e2 rfl, mulW b1 bu (by omega) (by omega) (by omega), _, a2, _, a1, _, seq_at e2 rfl, mulW (hf i hi) bp (by omega) (by omega) (by omega), mulW (bt_mul (hf i hi) bp) b2 (by omega) (by omega) (by omega), _, rfl, _, a1, _, seq_at e2 rfl, mulW b2 bu (by omega) (by omega) (by omega), _, rfl, _, _, _, rfl, Int.mul_pos h0 u0, ?_, ?_, ?_⟩
    · show (tp * u + f i * p * bt) * d = ((sm i fun k => f k * x k) + f i * x i) * (bt * u)
      rw [Int.add_mul, Int.add_mul]
      have h1 : tp * u * d = (sm i fun k => f k * x k) * (bt * u) := by
        calc tp * u * d = (tp * d) * u := by simp only [Int.mul_comm, Int.mul_left_comm]
          _ = ((sm i fun k => f k * x k) * bt) * u := by rw [hv]
          _ = _ := by rw [Int.mul_assoc]
      have h2 : f i * p * bt * d = f i * x i * (bt * u) := by
        calc f i * p * bt * d = f i * bt * (p * d) := by simp only [Int.mul_comm, Int.mul_left_comm]
          _ = f i * bt * (x i * u) := by rw [k1]
          _ = _ := by simp only [Int.mul_comm, Int.mul_left_comm]
      rw [h1, h2]
    · have c1 : Bt (2300 * i + 2200) (tp * u) := bt_up (bt_mul b1 bu) (by omega)
      have c2 : Bt (2300 * i + 2200) (f i * p * bt) := bt_up (bt_mul (bt_mul (hf i hi) bp) b2) (by omega)
      exact bt_up (bt_add c1 c2) (by omega)
    · exact bt_up (bt_mul b2 bu) (by omega)
  · rintro ds' ⟨tp, bt, s, rfl, h0, hv, b1, b2⟩
    rw [rgD_len, Int.toNat_natCast] at hv b1 b2
    exact ⟨_, rfl, _, rfl, le_line (by show 2 ≤ 1000000; decide), _, ⟨rfl, rfl⟩, q tp bt ⟨h0, hv, bt_up b1 (by omega), bt_up b2 (by omega)⟩⟩
theorem pure__law_less (ds : List D) (P : R → Prop) (h : sp__law_less ds P) : d__law_less (RD P) (startD 2 ds) := by
  obtain ⟨a, b, a', b', rfl, ⟨b1, b2, b3, b4⟩, q⟩ := h
  exact ⟨_, rfl, _, rfl, mulW b1 b4 (by omega) (by omega) (by omega), _, rfl, _, rfl, mulW b3 b2 (by omega) (by omega) (by omega), _, ⟨rfl, rfl⟩, q⟩
theorem pure__law_same (ds : List D) (P : R → Prop) (h : sp__law_same ds P) : d__law_same (RD P) (startD 2 ds) := by
  obtain ⟨a, b, a', b', rfl, ⟨b1, b2, b3, b4⟩, q⟩ := h
  exact ⟨_, rfl, _, rfl, mulW b1 b4 (by omega) (by omega) (by omega), _, rfl, _, rfl, mulW b3 b2 (by omega) (by omega) (by omega), _, ⟨rfl, rfl⟩, q⟩
theorem fm_count {α : Type} {p : Nat → Prop} [DecidablePred p] {g : Nat → α} : ∀ n : Nat, (((List.range n).filterMap fun i => if decide (p i) = true then some (g i) else none).length : Int) = sm n fun k => if p k then 1 else 0
  | 0 => rfl
  | n + 1 => by
    show _ = sm n _ + (if p n then 1 else 0)
    rw [← fm_count (g := g) n, fm_succ]
    by_cases h : p n
    · rw [if_pos (decide_eq_true h), if_pos h, List.length_append]
      show (((_ : Nat) + 1 : Nat) : Int) = _
      omega
    · rw [if_neg (fun z => h (of_decide_eq_true z)), if_neg h, List.append_nil]
      omega
theorem rat_pos {a b p u : Int} (hb : 0 < b) (hu : 0 < u) (k : p * b = a * u) : 0 < p ↔ 0 < a := by
  constructor
  · intro h
    have : 0 < p * b := Int.mul_pos h hb
    rw [k] at this
    exact Int.pos_of_mul_pos_left this hu
  · intro h
    have : 0 < a * u := Int.mul_pos h hu
    rw [← k] at this
    exact Int.pos_of_mul_pos_left this hb
theorem pure__law_above (ds : List D) (P : R → Prop) (h : sp__law_above ds P) : d__law_above (RD P) (startD 2 ds) := by
  obtain ⟨n, x, d, rfl, ⟨hn, hd, bd, hx⟩, q⟩ := h
  refine ⟨_, rfl, le_line (by rw [ratV_len]; omega), fun i => if decide (0 < x i) = true then some (rat (x i) d) else none, fun i e he => ?_, ?_⟩
  · obtain ⟨hi, rfl⟩ := ratV_get he
    obtain ⟨p, u, e1, u0, k1, bp, bu, g, nn⟩ := rat_bt hd (hx i hi).2 bd
    have e2 : (R.val (rat (x i) d)).seq = some [.int p, .int u] := by rw [e1]; rfl
    have key : decide (0 < p) = decide (0 < x i) := decide_eq_decide.mpr (rat_pos hd u0 k1)
    refine ⟨_, seq_at e2 rfl, fun h => ⟨_, rfl, ?_⟩, fun h => ?_⟩
    · have h' : decide (0 < p) = true := h
      rw [key] at h'
      exact if_pos h'
    · have h' : decide (0 < p) = false := h
      rw [key] at h'
      exact if_neg (by rw [h']; decide)
  · rw [ratV_len]
    refine ⟨_, rfl, _, ⟨rfl, rfl⟩, ?_⟩
    rw [fm_count n]
    exact q
end Dl

namespace Dl
open PySem PySem.Spec PyProof.Rows L2 Slv
/-! _law_bring: its rows are a list that the caller changes -/
def briL (B : Bk) (i : Nat) : List D := (others B.a i).map fun j => rowL B.g (rowF B i j)
def BriP (B : Bk) (i : Nat) : Prop := i < B.a ∧ B.ok ∧ B.sz
def spBr (K : PySem.W.Frag) : Sp := fun vs H Q _ => ∃ (B0 : Hp) (B : Bk) (i : Nat), Same B0 H ∧ Reps K B0 vs [costsL B, rowsL B, .int i] ∧ BriP B i ∧
  ∀ T p gv H' B' tvs, Gr H B0 H' B' → H' T = some (.tup [gv, .ref p, .int B.wh]) → H p = none → B' p = none → H' p = some (.lst tvs) → Rep K B' gv (.lst (vec B.g (B.rows i))) → Reps K B' tvs (briL B i) → Q (.ref T) H'
section
variable {K : PySem.W.Frag} {X : Cx}
def PXR3 (X : Cx) (body : List Stmt) (d1 d2 d3 : DE) : Prop := ∃ t1 t2 t3, PSs X body (tRet (tTup (tCons t1 (tCons t2 (tCons t3 tNil))))) ∧ SE X.K t1 d1 ∧ SE X.K t2 d2 ∧ SE X.K t3 d3
theorem px_r3 {e1 e2 e3 : Expr} {t1 t2 t3 : TE} {d1 d2 d3 : DE} {x1} {p q : Pos} (h1 : PX X e1 t1 d1) (h2 : PX X e2 t2 d2) (h3 : PX X e3 t3 d3)
    (s1 : starEach [e1, e2, e3] X.env = (false, eval e1 X.env) :: starEach [e2, e3] X.env := by rfl) (s2 : starEach [e2, e3] X.env = (false, eval e2 X.env) :: starEach [e3] X.env := by rfl) (s3 : starEach [e3] X.env = (false, eval e3 X.env) :: starEach [] X.env := by rfl) :
    PXR3 X [.Return (some (.Tuple [e1, e2, e3] x1 p)) q] d1 d2 d3 := ⟨t1, t2, t3, pss_one (ps_ret (pe_tup (pa_cons h1.p (pa_cons h2.p (pa_cons h3.p pa_nil s3) s2) s1))), h1.s, h2.s, h3.s⟩
theorem ok_bring {P : Program} {w : World} {mg : Str → Option Value} {base : Heap} {params : Arguments} {body : List Stmt} {scope : Scope} {f : Addr} {fd : FuncData} (F : FunD K "_law_bring" "_law_bring" params body scope [] [] f fd)
    (S : FnScope ["costs", "rows", "deed"] ["costs", "rows", "deed"] scope)
    (hb : ∀ (cdv : Value) (A : Around) (outer : List Env) (s : Shared) (H : Hp) (E : XK), Room 1 (A.deeper (envOfC "_law_bring" scope s.heap.objs.size f cdv)) → PXR3 (cxOf CX0 P w K mg base ["costs", "rows", "deed"] "_law_bring" scope f cdv A outer s H E).nox body
      (eB1 dList (eOp dIx (eVar 1) (eVar 2))) (eCall sp__law_bring_rows [] (aCons (eVar 0) (aCons (eVar 1) (aCons (eVar 2) (aCons (eVar 2) aNil))))) (eB1 dSum (eOp dIx (eVar 1) (eC (.int 0))))) :
    FnOk P w K mg base CX0 2 f fd ["costs", "rows", "deed"] (spBr K) := by
  refine F.ok S (fun vs H Q E ⟨B0, B, i, _, r, _⟩ => by rw [r.len]; rfl) fun cdv A outer s H vs Q E hr ⟨B0, B, i, sm0, rs, ⟨hi, hok, hsz⟩, q⟩ => ?_
  obtain ⟨t1, t2, t3, hp, s1, s2, s3⟩ := hb cdv A outer s H E hr
  refine ⟨_, PSs.nox hp, ?_⟩
  have sl : Sl K H B0 (L2.start ["costs", "rows", "deed"] vs) (startD 3 [costsL B, rowsL B, .int i]) := sl_start (N := ["costs", "rows", "deed"]) sm0 rs
  obtain ⟨a1, a2, g1, g2, hrow, hwh, _⟩ := id hok
  have r1 : atI ((List.range B.a).map fun i => D.lst (vec B.g (B.rows i))) (i : Int) = some (.lst (vec B.g (B.rows i))) := atI_mp hi rfl
  have r0 : atI ((List.range B.a).map fun i => D.lst (vec B.g (B.rows i))) 0 = some (.lst (vec B.g (B.rows 0))) := atI_mp (i := 0) (by omega) rfl
  refine s1.run sl ⟨_, r1, _, rfl, fun v1 H1 B1 g1 rr1 => ?_⟩
  obtain ⟨B2, gg2, ss2, rep1⟩ := rr1.freeze g1 rfl
  refine s2.run (sl.grow gg2) ⟨_, rfl, _, rfl, _, rfl, _, rfl, B, i, rfl, hi, hok, hsz, fun v2 H3 B3 g3 rr2 => ?_⟩
  obtain ⟨p, tvs, rfl, hp1, hp2, hp3, rr⟩ := rr2
  refine s3.run ((sl.grow gg2).grow g3) ⟨_, r0, _, congrArg some vec_map, fun v3 H4 B4 g4 rr3 => ?_⟩
  have e3 := rep_int rr3
  rw [sum_sm, (hrow 0 (by omega)).1] at e3
  subst e3
  refine ⟨le_line (by show 3 ≤ 1000000; decide), fun T hT => ?_⟩
  have g5 := gr_laid (o := HO.tup [v1, .ref p, .int B.wh]) g4.bh hT
  have gall := ((gg2.trans g3).trans g4).trans g5
  have hpn : H3 p ≠ none := by rw [hp3]; exact fun z => by cases z
  exact q T p v1 _ B4 tvs gall upd_same (gg2.hh.free hp1) (g4.nw p hpn hp2) (g5.hh _ _ (g4.hh _ _ hp3)) ((rep1.mono g3.bb).mono g4.bb) (rr.mono g4.bb)
structure KnBr (P : Program) (w : World) (K : PySem.W.Frag) (mg : Str → Option Value) (base : Heap) (k : Nat) : Prop where
  ex : ∃ (f : Addr) (fd : FuncData), FnOk P w K mg base CX0 k f fd ["costs", "rows", "deed"] (spBr K) ∧ mg "_law_bring" = some (.ref f) ∧ PySem.W.keepIn K (.ref f) = true ∧ Binds K fd ["costs", "rows", "deed"] []
/-- a, b, c = _law_bring(..) -/
def dBr (i j k : Nat) (da : DA) : DS := fun Dn ds => da ds fun xs => ∃ (B : Bk) (n : Nat), xs = [costsL B, rowsL B, .int n] ∧ BriP B n ∧ Dn.nx (((ds.set i (.val (.lst (vec B.g (B.rows n))))).set j (.own (briL B n))).set k (.val (.int B.wh)))
theorem ss_br {i j k : Nat} {t : TA} {da : DA} (hij : i ≠ j) (ha : SA K t da) : SS K (tAsg (tCall (spBr K) [] E0 t) (gTup K 3 (gCons (gName i) (gCons (gName j) (gCons (gName k) gNil))))) (dBr i j k da) := ⟨fun {H0 B0 σ H B ds Dn E} s hn _ _ _ q => by
  refine ha.run s.sl (ha.mono (fun xs ⟨Bb, n, e, pre, q⟩ vs H1 B1 g1 rs => ?_) q)
  subst e
  refine ⟨B1, Bb, n, g1.bh, by rw [List.append_nil]; exact rs, pre, fun T p gv H' B' tvs g2 hT hp hB' hH' rg rt => ?_⟩
  have g := g1.trans g2
  have s1 := (s.grow g).setV (i := i) rg
  have s2 := s1.setOwn (i := j) (s.gr.hh.free (g1.hh.free hp)) hB' hH' rt fun m hm ho w => by
    by_cases e : m = i
    · subst e
      by_cases l : m < ds.length
      · rw [List.getElem?_set_self l] at ho; cases ho
      · rw [List.getElem?_eq_none (by rw [List.length_set]; omega)] at ho; cases ho
    · rw [List.getElem?_set_ne (Ne.symm e)] at ho w
      exact (s.sl.ownp ho w).2 (g1.hh.free hp)
  have s3 := s2.setV (i := k) (d := .int Bb.wh) (v := .int Bb.wh) Rep.int
  refine ⟨T, _, rfl, sq_tup hT, rfl, _, _, rfl, _, _, rfl, _, _, rfl, rfl, ?_⟩
  exact hn _ _ _ _ s3 q⟩
theorem px_br {i j k lv lw : Nat} {x y z : Str} {e : Expr} {es : List Expr} {t : TA} {da : DA} {p pos px py pz pt spos : Pos} {kt : Nat} (h : KnBr X.prog X.w X.K X.mg X.base lv) (hr : Room lw X.A) (hj : lv ≤ lw) (hg : Gl X "_law_bring") (hc : X.calm = true) (hN : X.N.Nodup) (hij : i ≠ j)
    (hi : X.N[i]? = some x) (hx : Loc X.env.scope x) (hjn : X.N[j]? = some y) (hy : Loc X.env.scope y) (hk : X.N[k]? = some z) (hz : Loc X.env.scope z) (ha : PXA X (e :: es) t da)
    (he : starEach (e :: es) X.env = (false, eval e X.env) :: starEach es X.env := by rfl) (hpl : (backTo pos (starEach es X.env)).any (·.1) = false := by rfl)
    (hs : swapsWithSole [.Tuple [.Name x px, .Name y py, .Name z pz] kt pt] (.Call (.Name "_law_bring" p) (e :: es) [] pos) spos.line X.env = pure false := by rfl) (hw : swappedStores [.Tuple [.Name x px, .Name y py, .Name z pz] kt pt] (.Call (.Name "_law_bring" p) (e :: es) [] pos) X.env = pure none := by rfl)
    (h1 : (assignEach [.Tuple [.Name x px, .Name y py, .Name z pz] kt pt] X.env).map (·.2) = [assign (.Tuple [.Name x px, .Name y py, .Name z pz] kt pt) X.env] := by rfl)
    (f1 : X.fn x = true ∨ X.env.scope.names.lookup x = some .local := by first | exact .inl rfl | exact .inr rfl) (f2 : X.fn y = true ∨ X.env.scope.names.lookup y = some .local := by first | exact .inl rfl | exact .inr rfl) (f3 : X.fn z = true ∨ X.env.scope.names.lookup z = some .local := by first | exact .inl rfl | exact .inr rfl)
    (a1 : (assignEach [.Name x px, .Name y py, .Name z pz] X.env).map (·.2) = assign (.Name x px) X.env :: (assignEach [.Name y py, .Name z pz] X.env).map (·.2) := by rfl) (a2 : (assignEach [.Name y py, .Name z pz] X.env).map (·.2) = assign (.Name y py) X.env :: (assignEach [.Name z pz] X.env).map (·.2) := by rfl) (a3 : (assignEach [.Name z pz] X.env).map (·.2) = assign (.Name z pz) X.env :: (assignEach [] X.env).map (·.2) := by rfl)
    (n3 : (assignEach [.Name x px, .Name y py, .Name z pz] X.env).length = 3 := by rfl) (n4 : (assignEach [.Name x px, .Name y py, .Name z pz] X.env).findIdx? (·.1) = none := by rfl) :
    PXS1 X (.Assign [.Tuple [.Name x px, .Name y py, .Name z pz] kt pt] (.Call (.Name "_law_bring" p) (e :: es) [] pos) spos) (tAsg (tCall (spBr X.K) [] E0 t) (gTup X.K 3 (gCons (gName i) (gCons (gName j) (gCons (gName k) gNil))))) (dBr i j k da) := by
  obtain ⟨f, fd, F, hm, hk2, hb⟩ := h.ex
  exact ⟨ps_asg (pe_call F (hr.mono hj) hg hm hk2 hb .nil pass0 ha.p (by decide) he hpl) (pg_tup hc (pgs_cons (pg_name hN hi hx f1) (pgs_cons (pg_name hN hjn hy f2) (pgs_cons (pg_name hN hk hz f3) pgs_nil a3) a2) a1) n3 n4) hs hw h1, ss_br hij ha.s⟩
end
end Dl

namespace Dl
open PySem PySem.Spec PyProof.Rows L2 Slv
def d__law_ties : DS :=
  (dSeq (dBr 3 4 5 (aCons (eVar 0) (aCons (eVar 1) (aCons (eOp dIx (eVar 2) (eC (.int 0))) aNil))))
  (dSeq (dFor (srcS false (eSl (eVar 2) (oSome (eC (.int 1))) oNone)) (gV 6)
  (dSeq (dAsgG (eLc (srcR1 (eB1 dLen (eVar 3))) (gV 8) uYes (eOp dSub (eOp dIx (eOp dIx (eVar 1) (eVar 6)) (eVar 8)) (eOp dIx (eOp dIx (eVar 1) (eOp dIx (eVar 2) (eC (.int 0)))) (eVar 8))) [8]) (gV 7))
  (dApp 4 (eTup (aCons (eVar 7) (aCons (eOp dMul (eVar 5) (eOp dSub (eOp dIx (eVar 0) (eVar 6)) (eOp dIx (eVar 0) (eOp dIx (eVar 2) (eC (.int 0)))))) aNil))))))
  (dFrz 4 (dRet (eTup (aCons (eVar 3) (aCons (eVar 4) (aCons (eVar 5) aNil))))))))
end Dl

namespace Dl
open PySem PySem.Spec PyProof.Rows L2 Slv
theorem atI_costs {B : Bk} {i : Nat} {z : Int} (h : i < B.a) (e : z = i) : atI (vec B.a B.costs) z = some (.int (B.costs i)) := atI_vec h e
theorem atI_rl {B : Bk} {i : Nat} {z : Int} (h : i < B.a) (e : z = i) : atI ((List.range B.a).map fun i => D.lst (vec B.g (B.rows i))) z = some (.lst (vec B.g (B.rows i))) := atI_mp h e
theorem row_sum0 {B : Bk} (hok : B.ok) {i : Nat} (hi : i < B.a) : ((List.range B.g).map (B.rows i)).sum = B.wh := (sum_sm _ _).trans (hok.2.2.2.2.1 i hi).1
def othT (t i : Nat) : List Nat := (List.range t).filter fun j => decide (j ≠ i)
theorem othT_succ {t i : Nat} : othT (t + 1) i = othT t i ++ (if decide (t ≠ i) = true then [t] else []) := by
  unfold othT
  rw [List.range_succ, List.filter_append]
  refine congrArg _ ?_
  by_cases h : decide (t ≠ i) = true
  · rw [if_pos h, List.filter_cons_of_pos (p := fun j => decide (j ≠ i)) h]; rfl
  · rw [if_neg h, List.filter_cons_of_neg (p := fun j => decide (j ≠ i)) h]; rfl
theorem pure__law_bring_rows (ds : List D) (P : R → Prop) (h : sp__law_bring_rows ds P) : d__law_bring_rows (RD P) (startD 9 ds) := by
  obtain ⟨B, i, rfl, hi, hok, hsz, q⟩ := h
  obtain ⟨a1, a2, g1, g2, hrow, hwh, _⟩ := id hok
  have r0 := atI_rl (B := B) (i := 0) (z := 0) (by omega) rfl
  have ri := atI_rl (B := B) hi rfl
  have ci := atI_costs (B := B) hi rfl
  refine ⟨_, r0, _, congrArg some vec_map, _, rfl, le_line (by show 0 ≤ 1000000; decide), _, rfl, _, rfl, ?_⟩
  rw [row_sum0 hok (by omega)]
  have la : ((List.range B.a).map fun i => D.lst (vec B.g (B.rows i))).length = B.a := mp_len
  rw [la]
  refine ⟨by omega, by omega, fun t ds' => ∃ s6 s7 s8, ds' = [.val (costsL B), .val (rowsL B), .val (.int i), .val (.int i), .val (.int B.wh), .own ((othT t i).map fun j => rowL B.g (rowF B i j)), s6, s7, s8], ⟨_, _, _, rfl⟩, ?_, ?_⟩
  · rintro t d ds' hd ⟨s6, s7, s8, rfl⟩
    obtain ⟨ht, rfl⟩ := rgD_some hd
    rw [Int.toNat_natCast] at ht
    have et : ((0 : Int) + (t : Int)) = (t : Int) := by omega
    rw [et]
    have rt := atI_rl (B := B) ht rfl
    have ct := atI_costs (B := B) ht rfl
    have en := ne_nat (i := i) (j := t)
    have len : ((othT t i).map fun j => rowL B.g (rowF B i j)).length < sizeLine := by
      rw [List.length_map, sizeLine_eq]
      have := others_len t i
      have e : (othT t i).length = (others t i).length := rfl
      omega
    refine ⟨fun h => ⟨fun _ => ?_, fun h2 => ?_⟩, fun h => ⟨fun z => ff z, fun _ => ?_⟩⟩
    · have hd : decide (t ≠ i) = true := en ▸ h
      refine ⟨_, r0, _, rfl, ?_⟩
      rw [vec_len]
      refine ⟨by omega, by omega, le_line (by rw [rgD_len]; omega), fun s => some (.int (B.rows i s - B.rows t s)), fun s d hd => ?_, ?_⟩
      · obtain ⟨hs, rfl⟩ := rgD_some hd
        rw [Int.toNat_natCast] at hs
        have v1 : atI (vec B.g (B.rows i)) (0 + (s : Int)) = some (.int (B.rows i s)) := atI_vec hs (by omega)
        have v2 : atI (vec B.g (B.rows t)) (0 + (s : Int)) = some (.int (B.rows t s)) := atI_vec hs (by omega)
        exact ⟨fun _ => ⟨_, ri, _, v1, _, rt, _, v2, _, rfl, rfl⟩, fun z => tf z⟩
      · rw [fm_some, rgD_len, Int.toNat_natCast]
        refine ⟨_, rfl, _, rfl, _, ci, _, ct, mulW hsz.1 (bt_sub (hsz.2 i hi) (hsz.2 t ht)) (by omega) (by omega) (by omega), _, rfl, le_line (by show 2 ≤ 1000000; decide), _, rfl, len, ?_⟩
        exact ⟨_, _, _, by rw [othT_succ, if_pos hd, List.map_append]; rfl⟩
    · have hd : decide (t ≠ i) = true := en ▸ h
      have h2' : (!decide ((t : Int) = (i : Int))) = false := h2
      rw [en, hd] at h2'; cases h2'
    · have hd : ¬ decide (t ≠ i) = true := fun w => by
        have h' : (!decide ((t : Int) = (i : Int))) = false := h
        rw [en, w] at h'; cases h'
      exact ⟨_, _, _, by rw [othT_succ, if_neg hd, List.append_nil]; rfl⟩
  · rintro ds' ⟨s6, s7, s8, rfl⟩
    rw [rgD_len, Int.toNat_natCast]
    exact q
theorem tied {B : Bk} {f : Nat} {r : List Nat} : taskD (T_ties B (f :: r)) = .tup [.lst (vec B.g (B.rows f)), .lst (briL B f ++ r.map fun o => rowL B.g (rowF B o f)), .int B.wh] := by
  unfold taskD T_ties briL
  show D.tup [_, .lst (((others B.a f).map (rowF B f) ++ r.map fun o => rowF B o f).map (rowL B.g)), _] = _
  rw [List.map_append, List.map_map, List.map_map]; rfl
theorem pure__law_ties (ds : List D) (P : R → Prop) (h : sp__law_ties ds P) : d__law_ties (RD P) (startD 9 ds) := by
  obtain ⟨B, l, rfl, hlot, hlen, hok, hsz, q⟩ := h
  obtain ⟨h0, hp, hl⟩ := id hlot
  obtain ⟨a1, a2, g1, g2, hrow, hwh, _⟩ := id hok
  cases l with
  | nil => exact absurd rfl h0
  | cons f r =>
    have hf := hl f List.mem_cons_self
    have hr : r.length ≤ 15 := by have : r.length + 1 ≤ 16 := hlen; omega
    have e0 : atI (natD (f :: r)) 0 = some (.int (f : Nat)) := atI_natD (i := 0) rfl rfl
    have rf := atI_rl (B := B) hf rfl
    have cf := atI_costs (B := B) hf rfl
    have ec : cutD (natD (f :: r)) (some 1) none = natD r := cut_tail
    have sk : (R.own (cutD (natD (f :: r)) (some 1) none)).sq false = some (natD r) := congrArg some ec
    refine ⟨_, rfl, _, rfl, _, e0, _, rfl, B, f, rfl, ⟨hf, hok, hsz⟩, ?_⟩
    refine ⟨_, rfl, _, sk, fun t ds' => ∃ s6 s7 s8, ds' = [.val (costsL B), .val (rowsL B), .val (.lst (natD (f :: r))), .val (.lst (vec B.g (B.rows f))), .own (briL B f ++ (r.take t).map fun o => rowL B.g (rowF B o f)), .val (.int B.wh), s6, s7, s8], ⟨_, _, _, by rw [List.take_zero, List.map_nil, List.append_nil]; rfl⟩, ?_, ?_⟩
    · rintro t d ds' hd ⟨s6, s7, s8, rfl⟩
      obtain ⟨v, hv, rfl⟩ := natD_get hd
      have vb := hl v (List.mem_cons_of_mem _ (List.mem_of_getElem? hv))
      have rv := atI_rl (B := B) vb rfl
      have cv := atI_costs (B := B) vb rfl
      refine ⟨_, rfl, ?_⟩
      rw [vec_len]
      refine ⟨by omega, by omega, le_line (by rw [rgD_len]; omega), fun s => some (.int (B.rows v s - B.rows f s)), fun s d hd => ?_, ?_⟩
      · obtain ⟨hs, rfl⟩ := rgD_some hd
        rw [Int.toNat_natCast] at hs
        have v1 : atI (vec B.g (B.rows v)) (0 + (s : Int)) = some (.int (B.rows v s)) := atI_vec hs (by omega)
        have v2 : atI (vec B.g (B.rows f)) (0 + (s : Int)) = some (.int (B.rows f s)) := atI_vec hs (by omega)
        exact ⟨fun _ => ⟨_, rv, _, v1, _, e0, _, rf, _, v2, _, rfl, rfl⟩, fun z => tf z⟩
      · rw [fm_some, rgD_len, Int.toNat_natCast]
        have len : (briL B f ++ (r.take t).map fun o => rowL B.g (rowF B o f)).length < sizeLine := by
          unfold briL
          rw [List.length_append, List.length_map, List.length_map, List.length_take, sizeLine_eq]
          have := others_len B.a f
          omega
        refine ⟨_, rfl, _, rfl, _, cv, _, e0, _, cf, mulW hsz.1 (bt_sub (hsz.2 v vb) (hsz.2 f hf)) (by omega) (by omega) (by omega), _, rfl, le_line (by show 2 ≤ 1000000; decide), _, rfl, len, ?_⟩
        exact ⟨_, _, _, by rw [List.take_succ, hv, List.map_append, ← List.append_assoc]; rfl⟩
    · rintro ds' ⟨s6, s7, s8, rfl⟩
      rw [natD_len, List.take_length]
      refine ⟨_, rfl, _, rfl, _, rfl, le_line (by show 3 ≤ 1000000; decide), _, ⟨rfl, rfl⟩, ?_⟩
      rw [tied] at q
      exact q
end Dl

namespace Dl
open PySem PySem.Spec PyProof.Rows L2 Slv
theorem task_pooled {K : Kd} {ask : Nat → Nat} : taskD (T_pooled K ask) = .tup [.lst (vec K.g fun s => sm K.many fun k => K.wt k * K.rows k (ask k) s), .lst ((List.range K.many).flatMap fun k => (others K.a (ask k)).map fun j => rowL K.g (rowF (K.bk k) (ask k) j)), .int (K.wh * sm K.many K.wt)] := by
  have e : (T_pooled K ask).rows.map (rowL K.g) = (List.range K.many).flatMap fun k => (others K.a (ask k)).map fun j => rowL K.g (rowF (K.bk k) (ask k) j) := by
    show ((List.range K.many).flatMap fun k => (others K.a (ask k)).map (rowF (K.bk k) (ask k))).map (rowL K.g) = _
    rw [List.map_flatMap]
    refine congrArg (fun f => (List.range K.many).flatMap f) ?_
    funext k
    rw [List.map_map]; rfl
  show D.tup [.lst (vec K.g _), .lst ((T_pooled K ask).rows.map (rowL K.g)), .int _] = _
  rw [e]; rfl
theorem pure__law_pooled (ds : List D) (P : R → Prop) (h : sp__law_pooled ds P) : d__law_pooled (RD P) (startD 8 ds) := by
  obtain ⟨K, ask, rfl, hok, ha, q⟩ := h
  have m1 := hok.m1
  have m3 := hok.m3
  have a4 := hok.a4
  have g4 := hok.g4
  obtain ⟨u1, u2, u3, u4⟩ := hok.unit
  obtain ⟨a1, _⟩ := hok.ok 0 m1
  have R0 : atI ((List.range K.many).map fun k => rowsL (K.bk k)) 0 = some (rowsL (K.bk 0)) := atI_mp (i := 0) (by omega) rfl
  have r0 := atI_rl (B := K.bk 0) (i := 0) (z := 0) (by omega) rfl
  refine ⟨_, rfl, le_line (by show 1 ≤ 1000000; decide), _, R0, _, r0, _, rfl, [.int 0], _, rfl, congrArg (fun z : Nat => R.val (.int z)) vec_len, by show -(2 ^ 63) ≤ ((K.g : Nat) : Int); omega, by show ((K.g : Nat) : Int) < 2 ^ 63; omega, le_line (by show 1 * ((K.g : Nat) : Int).toNat ≤ 1000000; omega), ?_⟩
  have er : (List.replicate ((K.bk 0).g : Int).toNat [D.int 0]).flatten = vec K.g fun _ => 0 := by
    rw [Int.toNat_natCast]; exact rep0 _
  rw [er]
  refine ⟨_, rfl, le_line (by show 0 ≤ 1000000; decide), _, rfl, _, rfl, ?_⟩
  rw [vec_len]
  refine ⟨by omega, by omega, fun i ds' => ∃ s6 s7, ds' = [.val (.lst (vec K.many K.wt)), .val (.lst ((List.range K.many).map fun k => costsL (K.bk k))), .val (.lst ((List.range K.many).map fun k => rowsL (K.bk k))), .val (askD K ask), .val (.lst (vec K.g fun s => sm i fun k => K.wt k * K.rows k (ask k) s)), .val (.lst ((List.range i).flatMap fun k => (others K.a (ask k)).map fun j => rowL K.g (rowF (K.bk k) (ask k) j))), s6, s7], ⟨_, _, rfl⟩, ?_, ?_⟩
  · rintro i d ds' hd ⟨s6, s7, rfl⟩
    obtain ⟨hi, rfl⟩ := rgD_some hd
    rw [Int.toNat_natCast] at hi
    have ei : ((0 : Int) + (i : Int)) = (i : Int) := by omega
    rw [ei]
    have hai := ha i hi
    have e1 : atI (vec K.many fun k => (ask k : Nat)) (i : Int) = some (.int (ask i : Nat)) := atI_vec hi rfl
    have e2 : atI (vec K.many K.wt) (i : Int) = some (.int (K.wt i)) := atI_vec hi rfl
    have Ri : atI ((List.range K.many).map fun k => rowsL (K.bk k)) (i : Int) = some (rowsL (K.bk i)) := atI_mp hi rfl
    have Ci : atI ((List.range K.many).map fun k => costsL (K.bk k)) (i : Int) = some (costsL (K.bk i)) := atI_mp hi rfl
    have ri := atI_rl (B := K.bk i) hai rfl
    refine ⟨_, rfl, ?_⟩
    rw [vec_len]
    refine ⟨by omega, by omega, le_line (by rw [rgD_len]; omega), fun s => some (.int (sm (i + 1) fun k => K.wt k * K.rows k (ask k) s)), fun s d hd => ?_, ?_⟩
    · obtain ⟨hs, rfl⟩ := rgD_some hd
      rw [Int.toNat_natCast] at hs
      have v1 : atI (vec K.g fun s => sm i fun k => K.wt k * K.rows k (ask k) s) (0 + (s : Int)) = some (.int (sm i fun k => K.wt k * K.rows k (ask k) s)) := atI_vec hs (by omega)
      have v2 : atI (vec (K.bk i).g ((K.bk i).rows (ask i))) (0 + (s : Int)) = some (.int (K.rows i (ask i) s)) := atI_vec (n := K.g) hs (by omega)
      exact ⟨fun _ => ⟨_, v1, _, e2, _, Ri, _, e1, _, ri, _, v2, mulW (hok.wtb i hi) ((K.bk i).row_bt (hok.ok i hi) (hok.sz i hi) hai hs) (by omega) (by omega) (by omega), _, rfl, rfl⟩, fun z => tf z⟩
    · rw [fm_some, rgD_len, Int.toNat_natCast]
      have l1 : ((List.range i).flatMap fun k => (others K.a (ask k)).map fun j => rowL K.g (rowF (K.bk k) (ask k) j)).length ≤ i * 4 := fl_len fun k _ => by
        rw [List.length_map]; have := others_len K.a (ask k); omega
      have l2 := others_len K.a (ask i)
      refine ⟨_, rfl, _, Ci, _, rfl, _, Ri, _, rfl, _, e1, _, rfl, _, e1, _, rfl, K.bk i, ask i, rfl, hai, hok.ok i hi, hok.sz i hi, _, _, rfl, rfl, le_line ?_, ?_⟩
      · show _ + ((others K.a (ask i)).map _).length ≤ _
        rw [List.length_map]; omega
      · exact ⟨_, rfl, _, _, by rw [fl_succ]; rfl⟩
  · rintro ds' ⟨s6, s7, rfl⟩
    rw [rgD_len, Int.toNat_natCast]
    have su : ((List.range (K.bk 0).g).map ((K.bk 0).rows 0)).sum = K.wh := row_sum0 (hok.ok 0 m1) a1
    refine ⟨_, rfl, _, rfl, _, R0, _, r0, _, congrArg some vec_map, _, congrArg some vec_map, ?_⟩
    rw [su, sum_sm]
    refine ⟨mulW u4 u3 (by omega) (by omega) (by omega), _, rfl, le_line (by show 3 ≤ 1000000; decide), _, ⟨rfl, rfl⟩, ?_⟩
    rw [task_pooled] at q
    exact q
end Dl

namespace Dl
open PySem PySem.Spec PyProof.Rows L2 Slv
theorem task_menu {K : Kd} {ask : Nat → Nat} : taskD (T_menu K ask) = .tup [.lst (vec (K.many * K.g) (gM K ask)), .lst (rl K ask (L1 K ask K.many)), .int (K.wh * sm K.many K.wt)] := by
  have e : (T_menu K ask).rows.map (rowL (K.many * K.g)) = rl K ask (L1 K ask K.many) := by
    show (((L1 K ask K.many)).map (choiceF K ask)).map (rowL (K.many * K.g)) = _
    rw [List.map_map]; rfl
  show D.tup [.lst (vec (K.many * K.g) _), .lst ((T_menu K ask).rows.map (rowL (K.many * K.g))), .int _] = _
  rw [e]; rfl
theorem ch_full {K : Kd} {ask : Nat → Nat} {k o d : Nat} : vec (K.many * K.g) (chT K ask k o d K.g) = vec (K.many * K.g) (choiceF K ask (k, o, d)).1 := vec_congr fun i hi => by
  have hg : 0 < K.g := by
    rcases Nat.eq_zero_or_pos K.g with z | z
    · rw [z, Nat.mul_zero] at hi; omega
    · exact z
  have hm : i % K.g < K.g := Nat.mod_lt _ hg
  unfold chT choiceF
  simp only [hm, and_true]
theorem ch_two {K : Kd} {ask : Nat → Nat} {k o d t n : Nat} (ht : t < K.g) :
    (vec n fun i => if i = o * K.g + t then (if o * K.g + t = k * K.g + t then chT K ask k o d t (k * K.g + t) + K.rows k (ask k) t else chT K ask k o d t (o * K.g + t)) - K.rows k d t else (if i = k * K.g + t then chT K ask k o d t (k * K.g + t) + K.rows k (ask k) t else chT K ask k o d t i)) = vec n (chT K ask k o d (t + 1)) := vec_congr fun i _ => by
  rw [ch_step ht]
  by_cases w : i = o * K.g + t
  · rw [if_pos w, if_pos w, ← w]
    by_cases w2 : i = k * K.g + t
    · rw [if_pos w2, if_pos w2, ← w2]
    · rw [if_neg w2, if_neg w2]
  · rw [if_neg w, if_neg w]
    by_cases w2 : i = k * K.g + t
    · rw [if_pos w2, if_pos w2, ← w2]
    · rw [if_neg w2, if_neg w2]
theorem pure__law_menu (ds : List D) (P : R → Prop) (h : sp__law_menu ds P) : d__law_menu (RD P) (startD 13 ds) := by
  obtain ⟨K, ask, rfl, hok, ha, q⟩ := h
  have m1 := hok.m1
  have m3 := hok.m3
  have a4 := hok.a4
  have g4 := hok.g4
  obtain ⟨u1, u2, u3, u4⟩ := hok.unit
  obtain ⟨a1, _⟩ := hok.ok 0 m1
  have ma : K.many * K.a ≤ 12 := Nat.mul_le_mul m3 a4
  have mg : K.many * K.g ≤ 12 := Nat.mul_le_mul m3 g4
  have R0 : atI ((List.range K.many).map fun k => rowsL (K.bk k)) 0 = some (rowsL (K.bk 0)) := atI_mp (i := 0) (by omega) rfl
  have r0 := atI_rl (B := K.bk 0) (i := 0) (z := 0) (by omega) rfl
  refine ⟨_, R0, _, r0, _, rfl, _, rfl, ?_⟩
  have eg : ((vec (K.bk 0).g ((K.bk 0).rows 0)).length : Int) = (K.g : Int) := congrArg (fun z : Nat => (z : Int)) vec_len
  rw [eg]
  refine ⟨le_line (by show 0 ≤ 1000000; decide), _, rfl, le_line (by show 0 ≤ 1000000; decide), _, rfl, _, rfl, ?_⟩
  rw [vec_len]
  have z0 : ([] : List D) = vec (0 * K.g) (gM K ask) := by rw [Nat.zero_mul]; rfl
  refine ⟨by omega, by omega, fun i ds' => ∃ s7 s8 s9 s10 s11 s12, ds' = [.val (.lst (vec K.many K.wt)), .val (.lst ((List.range K.many).map fun k => costsL (K.bk k))), .val (.lst ((List.range K.many).map fun k => rowsL (K.bk k))), .val (askD K ask), .val (.int K.g), .val (.lst (vec (i * K.g) (gM K ask))), .own (rl K ask (L1 K ask i)), s7, s8, s9, s10, s11, s12], ⟨_, _, _, _, _, _, by rw [← z0]; rfl⟩, ?_, ?_⟩
  · rintro i d ds' hd ⟨s7, s8, s9, s10, s11, s12, rfl⟩
    obtain ⟨hi, rfl⟩ := rgD_some hd
    rw [Int.toNat_natCast] at hi
    have ei : ((0 : Int) + (i : Int)) = (i : Int) := by omega
    rw [ei]
    have hai := ha i hi
    have e1 : atI (vec K.many fun k => (ask k : Nat)) (i : Int) = some (.int (ask i : Nat)) := atI_vec hi rfl
    have e2 : atI (vec K.many K.wt) (i : Int) = some (.int (K.wt i)) := atI_vec hi rfl
    have Ri : atI ((List.range K.many).map fun k => rowsL (K.bk k)) (i : Int) = some (rowsL (K.bk i)) := atI_mp hi rfl
    have Ci : atI ((List.range K.many).map fun k => costsL (K.bk k)) (i : Int) = some (costsL (K.bk i)) := atI_mp hi rfl
    have ri := atI_rl (B := K.bk i) hai rfl
    have ca := atI_costs (B := K.bk i) hai rfl
    have i12 : i * K.g ≤ 12 := Nat.le_trans (Nat.mul_le_mul_right _ (Nat.le_of_lt hi)) mg
    refine ⟨_, Ri, _, e1, _, ri, _, rfl, le_line (by show (vec K.g _).length ≤ 1000000; rw [vec_len]; omega), fun s => some (.int (K.wt i * K.rows i (ask i) s)), fun s d hd => ?_, ?_⟩
    · obtain ⟨hs, rfl⟩ := vec_get (n := K.g) hd
      exact ⟨fun _ => ⟨_, e2, mulW (hok.wtb i hi) ((K.bk i).row_bt (hok.ok i hi) (hok.sz i hi) hai hs) (by omega) (by omega) (by omega), _, rfl, rfl⟩, fun z => tf z⟩
    · rw [fm_some]
      have vl : (vec (K.bk i).g ((K.bk i).rows (ask i))).length = K.g := vec_len
      rw [vl]
      have ea : vec (i * K.g) (gM K ask) ++ (List.range K.g).map (fun s => D.int (K.wt i * K.rows i (ask i) s)) = vec ((i + 1) * K.g) (gM K ask) := gM_app
      refine ⟨_, _, rfl, rfl, le_line (by rw [vec_len, mp_len]; omega), _, rfl, _, rfl, ?_⟩
      rw [ea, vec_len]
      refine ⟨by omega, by omega, fun j ds' => ∃ s8 s9 s10 s11 s12, ds' = [.val (.lst (vec K.many K.wt)), .val (.lst ((List.range K.many).map fun k => costsL (K.bk k))), .val (.lst ((List.range K.many).map fun k => rowsL (K.bk k))), .val (askD K ask), .val (.int K.g), .val (.lst (vec ((i + 1) * K.g) (gM K ask))), .own (rl K ask (L2' K ask i j)), .val (.int i), s8, s9, s10, s11, s12], ⟨_, _, _, _, _, by
        have : L2' K ask i 0 = L1 K ask i := List.append_nil _
        rw [this]; rfl⟩, ?_, ?_⟩
      · rintro j d ds' hd ⟨s8, s9, s10, s11, s12, rfl⟩
        obtain ⟨hj, rfl⟩ := rgD_some hd
        rw [Int.toNat_natCast] at hj
        have ej : ((0 : Int) + (j : Int)) = (j : Int) := by omega
        rw [ej]
        refine ⟨_, Ci, _, rfl, ?_⟩
        have ecl : ((vec (K.bk i).a (K.bk i).costs).length : Int) = (K.a : Int) := congrArg (fun z : Nat => (z : Int)) vec_len
        rw [ecl]
        refine ⟨by omega, by omega, fun t ds' => ∃ s9 s10 s11 s12, ds' = [.val (.lst (vec K.many K.wt)), .val (.lst ((List.range K.many).map fun k => costsL (K.bk k))), .val (.lst ((List.range K.many).map fun k => rowsL (K.bk k))), .val (askD K ask), .val (.int K.g), .val (.lst (vec ((i + 1) * K.g) (gM K ask))), .own (rl K ask (L2' K ask i j ++ offT K ask i j t)), .val (.int i), .val (.int j), s9, s10, s11, s12], ⟨_, _, _, _, by
          have : L2' K ask i j ++ offT K ask i j 0 = L2' K ask i j := List.append_nil _
          rw [this]; rfl⟩, ?_, ?_⟩
        · rintro t d ds' hd ⟨s9, s10, s11, s12, rfl⟩
          obtain ⟨ht, rfl⟩ := rgD_some hd
          rw [Int.toNat_natCast] at ht
          have et : ((0 : Int) + (t : Int)) = (t : Int) := by omega
          rw [et]
          have n1 := ne_int (a := j) (b := i)
          have n2 := ne_int (a := t) (b := ask i)
          have rt := atI_rl (B := K.bk i) ht rfl
          have ct := atI_costs (B := K.bk i) ht rfl
          have ll : (rl K ask (L2' K ask i j ++ offT K ask i j t)).length < sizeLine := by
            rw [rl_len, List.length_append, sizeLine_eq]
            have a1 := L2_len (K := K) (ask := ask) (i := i) (j := j)
            have a2 := offT_len (K := K) (ask := ask) (k := i) (o := j) (t := t)
            have a3 : i * (K.many * K.a) ≤ 3 * 12 := Nat.mul_le_mul (by omega) ma
            have a5 : j * K.a ≤ 3 * 4 := Nat.mul_le_mul (by omega) a4
            omega
          have go : (decide (j ≠ i) || decide (t ≠ ask i)) = true → rl K ask (L2' K ask i j ++ offT K ask i j t) ++ [rowL (K.many * K.g) (choiceF K ask (i, j, t))] = rl K ask (L2' K ask i j ++ offT K ask i j (t + 1)) := fun h => by
            rw [offT_succ, if_pos h, ← List.append_assoc, rl_app (M := [(i, j, t)])]; rfl
          have no : ¬ (decide (j ≠ i) || decide (t ≠ ask i)) = true → offT K ask i j (t + 1) = offT K ask i j t := fun h => by
            rw [offT_succ, if_neg h, List.append_nil]
          have mk : CMulW (K.many : Int) (K.g : Int) := mulW (bt_nat (by omega)) (bt_nat (by omega)) (by omega) (by omega) (by omega)
          have mk1 : CMulW (i : Int) (K.g : Int) := mulW (bt_nat (by omega)) (bt_nat (by omega)) (by omega) (by omega) (by omega)
          have mk2 : CMulW (j : Int) (K.g : Int) := mulW (bt_nat (by omega)) (bt_nat (by omega)) (by omega) (by omega) (by omega)
          have pmg : (K.many : Int) * (K.g : Int) = ((K.many * K.g : Nat) : Int) := (Int.natCast_mul _ _).symm
          have body : (decide (j ≠ i) || decide (t ≠ ask i)) = true → ∀ Dn : DN, (∀ s9 s10 s11 s12, Dn.nx [.val (.lst (vec K.many K.wt)), .val (.lst ((List.range K.many).map fun k => costsL (K.bk k))), .val (.lst ((List.range K.many).map fun k => rowsL (K.bk k))), .val (askD K ask), .val (.int K.g), .val (.lst (vec ((i + 1) * K.g) (gM K ask))), .own (rl K ask (L2' K ask i j ++ offT K ask i j (t + 1))), .val (.int i), .val (.int j), s9, s10, s11, s12]) →
              (dSeq (dAsg (eOp dRep (eLst (aCons (eC (.int 0)) aNil)) (eOp dMul (eB1 dLen (eVar 0)) (eVar 4))) 10)
              (dSeq (dFor (srcR1 (eVar 4)) (gV 11)
              (dSeq (dSet 10 (eOp dAdd (eOp dMul (eVar 7) (eVar 4)) (eVar 11)) (eOp dAdd (eOp dIx (eVar 10) (eOp dAdd (eOp dMul (eVar 7) (eVar 4)) (eVar 11))) (eOp dIx (eOp dIx (eOp dIx (eVar 2) (eVar 7)) (eOp dIx (eVar 3) (eVar 7))) (eVar 11))))
              (dSet 10 (eOp dAdd (eOp dMul (eVar 8) (eVar 4)) (eVar 11)) (eOp dSub (eOp dIx (eVar 10) (eOp dAdd (eOp dMul (eVar 8) (eVar 4)) (eVar 11))) (eOp dIx (eOp dIx (eOp dIx (eVar 2) (eVar 7)) (eVar 9)) (eVar 11))))))
              (dFrz 10 (dApp 6 (eTup (aCons (eVar 10) (aCons (eOp dMul (eB1 dSum (eOp dIx (eOp dIx (eVar 2) (eVar 7)) (eVar 9))) (eOp dSub (eOp dIx (eOp dIx (eVar 1) (eVar 7)) (eOp dIx (eVar 3) (eVar 7))) (eOp dIx (eOp dIx (eVar 1) (eVar 7)) (eVar 9)))) aNil))))))) Dn
              [.val (.lst (vec K.many K.wt)), .val (.lst ((List.range K.many).map fun k => costsL (K.bk k))), .val (.lst ((List.range K.many).map fun k => rowsL (K.bk k))), .val (askD K ask), .val (.int K.g), .val (.lst (vec ((i + 1) * K.g) (gM K ask))), .own (rl K ask (L2' K ask i j ++ offT K ask i j t)), .val (.int i), .val (.int j), .val (.int t), s10, s11, s12] := fun hne Dn fin => by
            have emg : (((vec K.many K.wt).length : Int) * (K.g : Int)).toNat = K.many * K.g := by rw [vec_len, ← Int.natCast_mul, Int.toNat_natCast]
            refine ⟨_, rfl, le_line (by show 1 ≤ 1000000; decide), _, rfl, by rw [vec_len]; exact mk, [.int 0], _, rfl, rfl, by rw [vec_len, pmg]; omega, by rw [vec_len, pmg]; omega, le_line (by rw [emg]; show 1 * (K.many * K.g) ≤ 1000000; omega), _, rfl, ?_⟩
            rw [emg, rep0]
            have zz : (fun _ : Nat => (0 : Int)) = chT K ask i j t 0 := by
              funext x; unfold chT; simp
            rw [zz]
            refine ⟨by omega, by omega, fun u ds' => ∃ s11, ds' = [.val (.lst (vec K.many K.wt)), .val (.lst ((List.range K.many).map fun k => costsL (K.bk k))), .val (.lst ((List.range K.many).map fun k => rowsL (K.bk k))), .val (askD K ask), .val (.int K.g), .val (.lst (vec ((i + 1) * K.g) (gM K ask))), .own (rl K ask (L2' K ask i j ++ offT K ask i j t)), .val (.int i), .val (.int j), .val (.int t), .own (vec (K.many * K.g) (chT K ask i j t u)), s11, s12], ⟨_, rfl⟩, ?_, ?_⟩
            · rintro u d ds' hd ⟨s11, rfl⟩
              obtain ⟨hu, rfl⟩ := rgD_some hd
              rw [Int.toNat_natCast] at hu
              have c1 : atI (vec K.g (K.rows i (ask i))) (0 + (u : Int)) = some (.int (K.rows i (ask i) u)) := atI_vec hu (by omega)
              have c2 : atI (vec K.g (K.rows i t)) (0 + (u : Int)) = some (.int (K.rows i t u)) := atI_vec hu (by omega)
              have ix1 : (i : Int) * (K.g : Int) + (0 + (u : Int)) = ((i * K.g + u : Nat) : Int) := by rw [Int.natCast_add, Int.natCast_mul]; omega
              have ix2 : (j : Int) * (K.g : Int) + (0 + (u : Int)) = ((j * K.g + u : Nat) : Int) := by rw [Int.natCast_add, Int.natCast_mul]; omega
              have l1 := place_lt (g := K.g) hi hu
              have l2 := place_lt (g := K.g) hj hu
              have i1 : ∀ f, ixN (vec (K.many * K.g) f).length ((i : Int) * (K.g : Int) + (0 + (u : Int))) = some (i * K.g + u) := fun f => by rw [vec_len]; exact ixN_nat l1 ix1
              have i2 : ∀ f, ixN (vec (K.many * K.g) f).length ((j : Int) * (K.g : Int) + (0 + (u : Int))) = some (j * K.g + u) := fun f => by rw [vec_len]; exact ixN_nat l2 ix2
              refine ⟨mk1, _, atI_vec l1 ix1, _, Ri, _, e1, _, ri, _, c1, mk1, _, _, _, rfl, rfl, i1 _, ?_⟩
              rw [vec_set]
              refine ⟨mk2, _, atI_vec l2 ix2, _, Ri, _, rt, _, c2, mk2, _, _, _, rfl, rfl, i2 _, ?_⟩
              rw [vec_set, ch_two hu]
              exact ⟨_, rfl⟩
            · rintro ds' ⟨s11, rfl⟩
              rw [rgD_len, Int.toNat_natCast]
              have su : ((List.range (K.bk i).g).map ((K.bk i).rows t)).sum = K.wh := row_sum0 (hok.ok i hi) ht
              refine ⟨_, rfl, _, Ri, _, rt, _, congrArg some vec_map, _, Ci, _, e1, _, ca, _, Ci, _, ct, ?_⟩
              rw [su]
              refine ⟨mulW u4 (bt_sub ((hok.sz i hi).2 _ hai) ((hok.sz i hi).2 _ ht)) (by omega) (by omega) (by omega), _, rfl, le_line (by show 2 ≤ 1000000; decide), _, rfl, ll, ?_⟩
              have er : rl K ask (L2' K ask i j ++ offT K ask i j t) ++ [D.tup [.lst (vec (K.many * K.g) (chT K ask i j t K.g)), .int (K.wh * (K.costs i (ask i) - K.costs i t))]] = rl K ask (L2' K ask i j ++ offT K ask i j (t + 1)) := by
                rw [← go hne, ch_full]; rfl
              have f2 := fin (.val (.int t)) (.val (.lst (vec (K.many * K.g) (chT K ask i j t K.g)))) s11 s12
              rw [← er] at f2
              exact f2
          refine ⟨fun h => ?_, fun h => ⟨_, e1, fun h2 => ?_, fun h2 => ?_⟩⟩
          · have h' : (decide (j ≠ i) || decide (t ≠ ask i)) = true := by
              have h0 : (!decide ((j : Int) = (i : Int))) = true := h
              rw [n1] at h0; rw [h0]; rfl
            exact ⟨fun _ => body h' _ fun s9 s10 s11 s12 => ⟨s9, s10, s11, s12, rfl⟩, fun z => tf z⟩
          · have h' : (decide (j ≠ i) || decide (t ≠ ask i)) = true := by
              have h0 : (!decide ((t : Int) = (ask i : Int))) = true := h2
              rw [n2] at h0; rw [h0, Bool.or_true]
            exact body h' _ fun s9 s10 s11 s12 => ⟨s9, s10, s11, s12, rfl⟩
          · have h' : ¬ (decide (j ≠ i) || decide (t ≠ ask i)) = true := by
              have h0 : (!decide ((j : Int) = (i : Int))) = false := h
              have h1 : (!decide ((t : Int) = (ask i : Int))) = false := h2
              rw [n1] at h0; rw [n2] at h1; rw [h0, h1]; decide
            exact ⟨_, _, _, _, by rw [no h']; rfl⟩
        · rintro ds' ⟨s9, s10, s11, s12, rfl⟩
          rw [rgD_len, Int.toNat_natCast]
          have e : L2' K ask i j ++ offT K ask i j K.a = L2' K ask i (j + 1) := by
            unfold L2'
            rw [fl_succ, List.append_assoc]; rfl
          rw [e]
          exact ⟨_, _, _, _, _, rfl⟩
      · rintro ds' ⟨s8, s9, s10, s11, s12, rfl⟩
        rw [rgD_len, Int.toNat_natCast]
        have e : L2' K ask i K.many = L1 K ask (i + 1) := by
          unfold L2' L1
          rw [fl_succ]
        rw [e]
        exact ⟨_, _, _, _, _, _, rfl⟩
  · rintro ds' ⟨s7, s8, s9, s10, s11, s12, rfl⟩
    rw [rgD_len, Int.toNat_natCast]
    have su : ((List.range (K.bk 0).g).map ((K.bk 0).rows 0)).sum = K.wh := row_sum0 (hok.ok 0 m1) a1
    refine ⟨_, rfl, _, rfl, _, R0, _, r0, _, congrArg some vec_map, _, congrArg some vec_map, ?_⟩
    rw [su, sum_sm]
    refine ⟨mulW u4 u3 (by omega) (by omega) (by omega), _, rfl, le_line (by show 3 ≤ 1000000; decide), _, ⟨rfl, rfl⟩, ?_⟩
    rw [task_menu] at q
    exact q
end Dl

namespace Dl
open PySem PySem.Spec PyProof.Rows L2 Slv
theorem rows_get {T : Tk} {i : Nat} {d : D} (h : (T.rows.map (rowL T.n))[i]? = some d) : i < T.m ∧ d = rowL T.n (T.coef i, T.bound i) := by
  rw [List.getElem?_map] at h
  cases w : T.rows[i]? with
  | none => rw [w] at h; cases h
  | some r =>
    rw [w] at h; cases h
    have hi : i < T.m := (List.getElem?_eq_some_iff.mp w).1
    refine ⟨hi, ?_⟩
    have e : T.rows.getD i (fun _ => 0, 0) = r := by rw [List.getD_eq_getElem?_getD, w]; rfl
    unfold Tk.coef Tk.bound
    rw [e]
theorem rows_ll {T : Tk} : (T.rows.map (rowL T.n)).length = T.m := List.length_map ..
/-- items known to have a property, as a function -/
theorem pick {ys : List D} {n : Nat} {Rel : Nat → Int → Int → Prop} (hl : ys.length = n) (h : ∀ i y, ys[i]? = some y → ∃ a b, y = pr a b ∧ Rel i a b) : ∃ tp bt : Nat → Int, ys = (List.range n).map (fun k => pr (tp k) (bt k)) ∧ ∀ k, k < n → Rel k (tp k) (bt k) := by
  have : ∀ k, ∃ t : Int × Int, k < n → ys[k]? = some (pr t.1 t.2) ∧ Rel k t.1 t.2 := fun k => by
    by_cases hk : k < n
    · have hk' : k < ys.length := by omega
      obtain ⟨a, b, e, r⟩ := h k ys[k] (List.getElem?_eq_getElem hk')
      exact ⟨(a, b), fun _ => ⟨by rw [List.getElem?_eq_getElem hk', e], r⟩⟩
    · exact ⟨(0, 0), fun z => absurd z hk⟩
  obtain ⟨t, ht⟩ := Classical.axiomOfChoice this
  refine ⟨fun k => (t k).1, fun k => (t k).2, ?_, fun k hk => (ht k hk).2⟩
  apply List.ext_getElem?
  intro k
  by_cases hk : k < n
  · rw [mp_get hk, (ht k hk).1]
  · rw [List.getElem?_eq_none (by omega), List.getElem?_eq_none (by rw [mp_len]; omega)]
theorem pure__law_columns (ds : List D) (P : R → Prop) (h : sp__law_columns ds P) : d__law_columns (RD P) (startD 5 ds) := by
  obtain ⟨T, w, d, rfl, hW, hd, bd, bw, q⟩ := h
  obtain ⟨⟨hn, hm, hg, hs⟩, hu, hub⟩ := hW
  refine ⟨by omega, by omega, le_line (by rw [rgD_len]; omega), fun k y => ∃ a b, y = pr a b ∧ Fr (colZ T w k) d a b, fun k e he => ?_, fun ys hl hr => ?_⟩
  · obtain ⟨hk, rfl⟩ := rgD_some he
    rw [Int.toNat_natCast] at hk
    refine ⟨_, rfl, le_line (by rw [rows_ll]; omega), fun s => some (.int (T.coef s k)), fun s e he => ?_, ?_⟩
    · obtain ⟨hs', rfl⟩ := rows_get he
      have a1 : atI (vec T.n (T.coef s)) (0 + (k : Int)) = some (.int (T.coef s k)) := atI_vec hk (by omega)
      exact ⟨fun _ => ⟨_, rfl, _, a1, _, rfl, rfl⟩, fun z => tf z⟩
    · rw [fm_some, rows_ll]
      exact ⟨_, rfl, _, rfl, T.m, fun s => T.coef s k, w, d, rfl, hm, hd, bd, fun s hs' => (hs s hs').2 k hk, bw, fun tp bt F => ⟨_, rfl, tp, bt, rfl, F⟩⟩
  · rw [rgD_len, Int.toNat_natCast] at hl
    obtain ⟨tp, bt, e, F⟩ := pick hl hr
    subst e
    exact ⟨_, ⟨rfl, rfl⟩, q tp bt F⟩
theorem pure__law_gain (ds : List D) (P : R → Prop) (h : sp__law_gain ds P) : d__law_gain (RD P) (startD 6 ds) := by
  obtain ⟨B, i, x, d, rfl, hi, ⟨hok, hsz, hA⟩, q⟩ := h
  obtain ⟨n1, n9, hd, bd, hx⟩ := id hA
  obtain ⟨a1, a2, g1, g2, hrow, hwh, _⟩ := id hok
  have ri := atI_rl (B := B) hi rfl
  have r0 := atI_rl (B := B) (i := 0) (z := 0) (by omega) rfl
  have ci := atI_costs (B := B) hi rfl
  refine ⟨_, ri, _, rfl, _, rfl, B.g, B.rows i, x, d, rfl, by omega, hd, bd, fun k hk => bt_up (B.row_bt hok hsz hi hk) (by omega), fun k hk => (hx k hk).2, fun tp bt ⟨b0, hv, btp, bbt⟩ => ⟨_, rfl, _, r0, _, congrArg some vec_map, ?_⟩⟩
  rw [row_sum0 hok (by omega)]
  refine ⟨_, rfl, _, rfl, _, ci, mulW hsz.1 (hsz.2 i hi) (by omega) (by omega) (by omega), _, rfl, mulW (bt_mul hsz.1 (hsz.2 i hi)) bbt (by omega) (by omega) (by omega), _, rfl, _, rfl, mulW hsz.1 bbt (by omega) (by omega) (by omega), _, rfl, le_line (by show 2 ≤ 1000000; decide), _, ⟨rfl, rfl⟩, ?_⟩
  refine q (tp - B.wh * B.costs i * bt) (B.wh * bt) (Int.mul_pos hwh b0) ?_ ?_ (bt_up (bt_mul hsz.1 bbt) (by omega))
  · have hv' : tp * d = pay1 B x i * bt := hv
    unfold gain1
    rw [Int.sub_mul, Int.sub_mul]
    have h1 : tp * (d * B.wh) = pay1 B x i * (B.wh * bt) := by
      calc tp * (d * B.wh) = (tp * d) * B.wh := by rw [Int.mul_assoc]
        _ = (pay1 B x i * bt) * B.wh := by rw [hv']
        _ = _ := by simp only [Int.mul_comm, Int.mul_left_comm]
    have h2 : B.wh * B.costs i * bt * (d * B.wh) = B.costs i * (d * B.wh) * (B.wh * bt) := by ac_rfl
    rw [h1, h2]
  · have c1 : Bt 150000 tp := bt_up btp (by omega)
    have c2 : Bt 150000 (B.wh * B.costs i * bt) := bt_up (bt_mul (bt_mul hsz.1 (hsz.2 i hi)) bbt) (by omega)
    exact bt_up (bt_sub c1 c2) (by omega)
open Classical in
theorem pure__law_best (ds : List D) (P : R → Prop) (h : sp__law_best ds P) : d__law_best (RD P) (startD 7 ds) := by
  obtain ⟨B, x, d, rfl, hA, q⟩ := h
  obtain ⟨hok, hsz, hAm⟩ := id hA
  obtain ⟨n1, n9, hd, bd, hx⟩ := id hAm
  obtain ⟨a1, a2, g1, g2, hrow, hwh, _⟩ := id hok
  have hM : 0 < d * B.wh := Int.mul_pos hd hwh
  have la : ((List.range B.a).map fun i => D.lst (vec B.g (B.rows i))).length = B.a := mp_len
  refine ⟨_, rfl, ?_⟩
  rw [la]
  refine ⟨by omega, by omega, le_line (by rw [rgD_len]; omega), fun i y => ∃ a b, y = pr a b ∧ (0 < b ∧ a * (d * B.wh) = gain1 B x d i * b ∧ Bt 200000 a ∧ Bt 200000 b), fun i e he => ?_, fun ys hl hr => ?_⟩
  · obtain ⟨hi, rfl⟩ := rgD_some he
    rw [Int.toNat_natCast] at hi
    have ez : ((0 : Int) + (i : Int)) = (i : Int) := by omega
    rw [ez]
    exact ⟨_, rfl, _, rfl, _, rfl, _, rfl, B, i, x, d, rfl, hi, hA, fun tp bt h1 h2 h3 h4 => ⟨_, rfl, tp, bt, rfl, h1, h2, h3, h4⟩⟩
  · rw [rgD_len, Int.toNat_natCast] at hl
    obtain ⟨tp, bt, e, F⟩ := pick hl hr
    subst e
    have gi : ∀ {i : Nat} {z : Int}, i < B.a → z = i → atI ((List.range B.a).map fun k => pr (tp k) (bt k)) z = some (pr (tp i) (bt i)) := fun hi e => atI_mp hi e
    refine ⟨_, rfl, _, gi (i := 0) (by omega) rfl, _, rfl, _, rfl, fun i ds' => ∃ (b : Nat) (s5 : S), b < B.a ∧ (∀ j, j < i → gain1 B x d j ≤ gain1 B x d b) ∧ ds' = [.val (costsL B), .val (rowsL B), .val (.tup (ratV B.g x d)), .val (.lst ((List.range B.a).map fun k => pr (tp k) (bt k))), .val (pr (tp b) (bt b)), s5, .no], ⟨0, _, by omega, fun j hj => by omega, rfl⟩, ?_, ?_⟩
    · rintro i e ds' he ⟨b, s5, hb, hj, rfl⟩
      obtain ⟨hi, rfl⟩ := mp_some he
      obtain ⟨b1, b2, b3, b4⟩ := F i hi
      obtain ⟨c1, c2, c3, c4⟩ := F b hb
      have cl : (tp b * bt i < tp i * bt b ↔ gain1 B x d b < gain1 B x d i) := by rw [cross_lt hM hM c1 b1 c2 b2, mul_lt_iff hM]
      refine ⟨_, rfl, _, rfl, _, _, _, _, rfl, ⟨c3, c4, b3, b4⟩, fun h => ?_, fun h => ?_⟩
      · have lt := cl.mp (of_decide_eq_true h)
        refine ⟨_, rfl, i, _, hi, fun j hj' => ?_, rfl⟩
        by_cases w : j = i
        · rw [w]; exact Int.le_refl _
        · have := hj j (by omega); omega
      · have le : ¬ gain1 B x d b < gain1 B x d i := fun w => (of_decide_eq_false h) (cl.mpr w)
        refine ⟨b, _, hb, fun j hj' => ?_, rfl⟩
        by_cases w : j = i
        · rw [w]; omega
        · exact hj j (by omega)
    · rintro ds' ⟨b, s5, hb, hj, rfl⟩
      rw [mp_len] at hj
      refine ⟨_, rfl, ?_⟩
      rw [la]
      refine ⟨by omega, by omega, le_line (by rw [rgD_len]; omega), fun i => if decide (∀ j, j < B.a → gain1 B x d j ≤ gain1 B x d i) = true then some (.int (i : Nat)) else none, fun i e he => ?_, ?_⟩
      · obtain ⟨hi, rfl⟩ := rgD_some he
        rw [Int.toNat_natCast] at hi
        have ez : ((0 : Int) + (i : Int)) = (i : Int) := by omega
        rw [ez]
        obtain ⟨b1, b2, b3, b4⟩ := F i hi
        obtain ⟨c1, c2, c3, c4⟩ := F b hb
        have ce := cross_eq hM hM b1 c1 b2 c2
        have key : decide (tp i * bt b = tp b * bt i) = decide (∀ j, j < B.a → gain1 B x d j ≤ gain1 B x d i) := by
          refine decide_eq_decide.mpr ⟨fun w j hj' => ?_, fun w => ?_⟩
          · have := Int.eq_of_mul_eq_mul_right (by omega) (ce.mp w)
            rw [this]; exact hj j hj'
          · have e : gain1 B x d i = gain1 B x d b := by
              have := w b hb
              have := hj i hi
              omega
            exact ce.mpr (by rw [e])
        refine ⟨_, gi hi rfl, _, rfl, _, rfl, _, _, _, _, rfl, ⟨b3, b4, c3, c4⟩, fun h => ⟨_, rfl, ?_⟩, fun h => ?_⟩
        · have h' : decide (tp i * bt b = tp b * bt i) = true := h
          rw [key] at h'
          exact if_pos h'
        · have h' : decide (tp i * bt b = tp b * bt i) = false := h
          rw [key] at h'
          exact if_neg (by rw [h']; decide)
      · rw [rgD_len, Int.toNat_natCast]
        have ef : (List.range B.a).filterMap (fun i => if decide (∀ j, j < B.a → gain1 B x d j ≤ gain1 B x d i) = true then some (D.int (i : Nat)) else none) = natD (bestL B.a (gain1 B x d)) := fm_if _
        rw [ef]
        exact ⟨_, ⟨rfl, rfl⟩, q⟩
end Dl

namespace Dl
open PySem PySem.Spec PyProof.Rows L2 Slv
theorem col_eq {T : Tk} {w : Nat → Int} {k : Nat} : colZ T w k = sm T.m fun s => w s * T.coef s k := sm_congr fun s _ => Int.mul_comm _ _
/-- a fraction against a bound -/
theorem fr_le {z d tp bt c : Int} (hd : 0 < d) (h : Fr z d tp bt) (hz : z ≤ c * d) : tp ≤ c * bt := by
  obtain ⟨b0, e, _, _⟩ := h
  have h1 : tp * d ≤ (c * bt) * d := by
    rw [e]
    have h2 : z * bt ≤ (c * d) * bt := Int.mul_le_mul_of_nonneg_right hz (by omega)
    have h3 : (c * d) * bt = (c * bt) * d := by ac_rfl
    rw [← h3]; exact h2
  exact Int.le_of_mul_le_mul_right h1 hd
theorem fr_ge {z d tp bt c : Int} (hd : 0 < d) (h : Fr z d tp bt) (hz : c * d ≤ z) : c * bt ≤ tp := by
  obtain ⟨b0, e, _, _⟩ := h
  have h1 : (c * bt) * d ≤ tp * d := by
    rw [e]
    have h2 : (c * d) * bt ≤ z * bt := Int.mul_le_mul_of_nonneg_right hz (by omega)
    have h3 : (c * d) * bt = (c * bt) * d := by ac_rfl
    rw [← h3]; exact h2
  exact Int.le_of_mul_le_mul_right h1 hd
theorem fr_pos {z d tp bt : Int} (hd : 0 < d) (h : Fr z d tp bt) (hz : 0 < z) : 0 < tp := by
  obtain ⟨b0, e, _, _⟩ := h
  have : 0 < tp * d := by rw [e]; exact Int.mul_pos hz b0
  exact Int.pos_of_mul_pos_left this hd
/-- a fraction worth v / d is the value -/
theorem fr_same {v d u tp bt p q : Int} (hd : 0 < d) (h : Fr v d tp bt) (k : p * (d * u) = v * q) : tp * q = (p * u) * bt := by
  obtain ⟨b0, e, _, _⟩ := h
  refine Int.eq_of_mul_eq_mul_right (show d ≠ 0 by omega) ?_
  calc tp * q * d = (tp * d) * q := by ac_rfl
    _ = (v * bt) * q := by rw [e]
    _ = (v * q) * bt := by ac_rfl
    _ = (p * (d * u)) * bt := by rw [k]
    _ = _ := by ac_rfl
theorem sm_comm (n : Nat) (f g : Nat → Int) : sm n (fun k => f k * g k) = sm n fun k => g k * f k := sm_congr fun _ _ => Int.mul_comm _ _
theorem pure__law_right (c : Ad) (ds : List D) (P : R → Prop) (h : sp__law_right c ds P) : d__law_right c (RD P) (startD 14 ds) := by
  obtain ⟨T, ⟨hW, hne⟩, hans, q⟩ := h
  obtain ⟨⟨hn, hm, hg, hs⟩, hu, hub⟩ := id hW
  rcases hans with ⟨d, v, x, w, rfl, G, bd, bv, bx, bw⟩ | ⟨d, w, rfl, G, bd, bw⟩
  · have hd := G.pos
    have rw_ : Rs T.m w d := ⟨hm, hd, bd, fun k hk => ⟨G.w0 k hk, bw k hk⟩⟩
    have rx : Rs T.n x d := ⟨by omega, hd, bd, fun k hk => ⟨G.x0 k hk, bx k hk⟩⟩
    have hdu : 0 < d * T.unit := Int.mul_pos hd (by omega)
    obtain ⟨p, u, ep, u0, kp, bp, bu, gp, _⟩ := rat_bt (m := 2100) hdu (bt_up bv (by omega)) (bt_up (bt_mul bd hub) (by omega))
    have ev : (R.val (rat v (d * T.unit))).seq = some [.int p, .int u] := by rw [ep]; rfl
    refine ⟨_, rfl, _, rfl, ⟨_, rfl⟩, rfl, rfl, ?_⟩
    refine ⟨List.mem_cons_self, fun h => ?_, fun _ => ⟨fun z => ff z, fun _ => ?_⟩⟩
    · have h' : (!decide (c.Granted = c.Granted)) = true := h
      rw [decide_eq_true rfl] at h'; exact ff h'
    refine ⟨_, rfl, _, rfl, _, rfl, _, rfl, T.m, w, d, by rw [rows_ll]; rfl, rw_, fun z => ff z, fun _ => ?_⟩
    refine ⟨_, rfl, _, rfl, _, rfl, _, rfl, _, rfl, T, w, d, by rw [vec_len]; rfl, hW, hd, bd, bw, fun tp bt F => ⟨_, rfl, ?_⟩⟩
    refine ⟨_, rfl, le_line (by rw [rows_ll]; omega), fun s => some (.int (T.bound s)), fun s e he => ?_, ?_⟩
    · obtain ⟨_, rfl⟩ := rows_get he
      exact ⟨fun _ => ⟨_, rfl, _, rfl, rfl⟩, fun z => tf z⟩
    rw [fm_some, rows_ll]
    refine ⟨_, rfl, _, rfl, _, rfl, T.m, T.bound, w, d, rfl, hm, hd, bd, fun s hs' => (hs s hs').1, bw, fun tb bb Fb => ⟨_, rfl, ?_⟩⟩
    refine ⟨List.mem_cons_self, fun h => ?_, fun _ => ?_⟩
    · have h' : decide (c.Granted = c.Refused) = true := h
      exact absurd (of_decide_eq_true h') hne
    refine ⟨_, rfl, _, rfl, _, rfl, _, rfl, T.n, x, d, by rw [vec_len]; rfl, rx, fun z => ff z, fun _ => ?_⟩
    refine ⟨_, rfl, _, rfl, p, u, by rw [ep]; rfl, u0, bt_up bu (by omega), gp, fun z => ff z, fun _ => ?_⟩
    refine ⟨_, rfl, fun i ds' => ∃ s7 s8 s9, ds' = [.val (taskD T), .val (grantD c T d v x w), .val (.lst (vec T.n T.goal)), .val (.lst (T.rows.map (rowL T.n))), .val (.int T.unit), .val (.lst ((List.range T.n).map fun k => pr (tp k) (bt k))), .val (pr tb bb), s7, s8, s9, .no, .no, .no, .no], ⟨_, _, _, rfl⟩, ?_, ?_⟩
    · rintro i e ds' he ⟨s7, s8, s9, rfl⟩
      obtain ⟨hi, rfl⟩ := rows_get he
      refine ⟨_, rfl, ⟨_, rfl⟩, rfl, rfl, _, rfl, _, rfl, _, rfl, T.n, T.coef i, x, d, rfl, by omega, hd, bd, (hs i hi).2, bx, fun r0 r1 Fr0 => ⟨_, rfl, _, rfl, _, rfl, mulW (hs i hi).1 Fr0.2.2.2 (by omega) (by omega) (by omega), fun h => ?_, fun _ => ⟨_, _, _, rfl⟩⟩⟩
      have h' : r0 < T.bound i * r1 := of_decide_eq_true h
      have := fr_ge hd Fr0 (G.rows i hi)
      omega
    rintro ds' ⟨s7, s8, s9, rfl⟩
    refine ⟨_, rfl, ?_⟩
    rw [vec_len]
    refine ⟨by omega, by omega, fun i ds' => ∃ s10, ds' = [.val (taskD T), .val (grantD c T d v x w), .val (.lst (vec T.n T.goal)), .val (.lst (T.rows.map (rowL T.n))), .val (.int T.unit), .val (.lst ((List.range T.n).map fun k => pr (tp k) (bt k))), .val (pr tb bb), s7, s8, s9, s10, .no, .no, .no], ⟨_, rfl⟩, ?_, ?_⟩
    · rintro i e ds' he ⟨s10, rfl⟩
      obtain ⟨hi, rfl⟩ := rgD_some he
      rw [Int.toNat_natCast] at hi
      have c1 : atI ((List.range T.n).map fun k => pr (tp k) (bt k)) (0 + (i : Int)) = some (pr (tp i) (bt i)) := atI_mp hi (by omega)
      have c2 : atI (vec T.n T.goal) (0 + (i : Int)) = some (.int (T.goal i)) := atI_vec hi (by omega)
      refine ⟨_, c1, _, rfl, _, c2, _, c1, _, rfl, mulW (hg i hi).2 (F i hi).2.2.2 (by omega) (by omega) (by omega), fun h => ?_, fun _ => ⟨_, rfl⟩⟩
      have h' := of_decide_eq_true h
      have := fr_le hd (F i hi) (by rw [col_eq]; exact G.cols i hi)
      omega
    rintro ds' ⟨s10, rfl⟩
    refine ⟨_, rfl, _, seq_at ev rfl, mulW bp hub (by omega) (by omega) (by omega), _, rfl, _, rfl, _, seq_at ev rfl, _, rfl, le_line (by show 2 ≤ 1000000; decide), _, rfl, ?_⟩
    have e1 : tb * u = p * T.unit * bb := fr_same hd (by
      have := Fb
      rw [sm_comm] at this
      rw [G.vb] at this; exact this) kp
    have bpu : Bt 200000 (p * T.unit) := bt_up (bt_mul bp hub) (by omega)
    refine ⟨_, rfl, _, rfl, tb, bb, p * T.unit, u, rfl, ⟨bt_up Fb.2.2.1 (by omega), bt_up Fb.2.2.2 (by omega), bpu, bt_up bu (by omega)⟩, fun h => ?_, fun _ => ?_⟩
    · have h' : (!decide (tb * u = p * T.unit * bb)) = true := h
      rw [decide_eq_true e1] at h'; exact ff h'
    refine ⟨_, rfl, _, rfl, _, rfl, T.n, T.goal, x, d, rfl, by omega, hd, bd, fun k hk => (hg k hk).2, bx, fun r0 r1 Fr0 => ⟨_, rfl, _, rfl, r0, r1, p * T.unit, u, rfl, ⟨bt_up Fr0.2.2.1 (by omega), bt_up Fr0.2.2.2 (by omega), bpu, bt_up bu (by omega)⟩, fun h => ?_, fun _ => ?_⟩⟩
    · have h' : (!decide (r0 * u = p * T.unit * r1)) = true := h
      have e2 : r0 * u = p * T.unit * r1 := fr_same hd (by
        have := Fr0
        rw [G.vg] at this; exact this) kp
      rw [decide_eq_true e2] at h'; exact ff h'
    have cx : above T.n x ≤ ((T.rows.map (rowL T.n)).length : Int) := by rw [rows_ll]; exact G.cx
    have cw : above T.m w ≤ ((vec T.n T.goal).length : Int) := by rw [vec_len]; exact G.cw
    refine ⟨_, rfl, _, rfl, T.n, x, d, rfl, rx, _, rfl, fun _ => ⟨_, rfl, _, rfl, T.m, w, d, rfl, rw_, _, rfl, _, ⟨rfl, rfl⟩, ?_⟩, fun h => ?_⟩
    · show P (.val (.bl (decide (above T.m w ≤ ((vec T.n T.goal).length : Int)))))
      rw [decide_eq_true cw]; exact q
    · have h' : decide (above T.n x ≤ ((T.rows.map (rowL T.n)).length : Int)) = false := h
      exact absurd cx (of_decide_eq_false h')
  · have hd := G.pos
    have rw_ : Rs T.m w d := ⟨hm, hd, bd, fun k hk => ⟨G.w0 k hk, bw k hk⟩⟩
    refine ⟨_, rfl, _, rfl, ⟨_, rfl⟩, rfl, rfl, ?_⟩
    refine ⟨List.mem_cons_of_mem _ List.mem_cons_self, fun _ => ⟨List.mem_cons_of_mem _ List.mem_cons_self, fun h => ?_, fun _ => ?_⟩, fun h => ?_⟩
    · have h' : (!decide (c.Refused = c.Refused)) = true := h
      rw [decide_eq_true rfl] at h'; exact ff h'
    rotate_left
    · have h' : (!decide (c.Refused = c.Granted)) = false := h
      rw [decide_eq_false (fun z => hne z.symm)] at h'; exact tf h'
    refine ⟨_, rfl, _, rfl, _, rfl, _, rfl, T.m, w, d, by rw [rows_ll]; rfl, rw_, fun z => ff z, fun _ => ?_⟩
    refine ⟨_, rfl, _, rfl, _, rfl, _, rfl, _, rfl, T, w, d, by rw [vec_len]; rfl, hW, hd, bd, bw, fun tp bt F => ⟨_, rfl, ?_⟩⟩
    refine ⟨_, rfl, le_line (by rw [rows_ll]; omega), fun s => some (.int (T.bound s)), fun s e he => ?_, ?_⟩
    · obtain ⟨_, rfl⟩ := rows_get he
      exact ⟨fun _ => ⟨_, rfl, _, rfl, rfl⟩, fun z => tf z⟩
    rw [fm_some, rows_ll]
    refine ⟨_, rfl, _, rfl, _, rfl, T.m, T.bound, w, d, rfl, hm, hd, bd, fun s hs' => (hs s hs').1, bw, fun tb bb Fb => ⟨_, rfl, ?_⟩⟩
    refine ⟨List.mem_cons_of_mem _ List.mem_cons_self, fun _ => ?_, fun h => ?_⟩
    rotate_left
    · have h' : decide (c.Refused = c.Refused) = false := h
      exact absurd rfl (of_decide_eq_false h')
    refine ⟨_, rfl, le_line (by rw [mp_len]; omega), fun _ => none, fun k e he => ?_, ?_⟩
    · obtain ⟨hk, rfl⟩ := mp_some he
      refine ⟨_, rfl, fun h => ?_, fun _ => rfl⟩
      have h' : 0 < tp k := of_decide_eq_true h
      have := fr_le hd (c := 0) (F k hk) (by rw [Int.zero_mul, col_eq]; exact G.cols k hk)
      rw [Int.zero_mul] at this
      omega
    have en : (List.range ((List.range T.n).map fun k => pr (tp k) (bt k)).length).filterMap (fun _ => (none : Option D)) = [] := by
      rw [List.filterMap_eq_nil_iff]; intro _ _; rfl
    rw [en]
    refine ⟨_, rfl, fun h => ff h, fun _ => ?_⟩
    have tb0 : 0 < tb := fr_pos hd Fb (by rw [sm_comm]; exact G.vb)
    have cw : above T.m w ≤ ((vec T.n T.goal).length : Int) + 1 := by rw [vec_len]; exact G.cw
    refine ⟨_, rfl, fun _ => ⟨_, rfl, _, rfl, T.m, w, d, rfl, rw_, _, rfl, _, ⟨rfl, rfl⟩, ?_⟩, fun h => ?_⟩
    · show P (.val (.bl (decide (above T.m w ≤ ((vec T.n T.goal).length : Int) + 1))))
      rw [decide_eq_true cw]; exact q
    · exact absurd tb0 (of_decide_eq_false h)
end Dl

namespace Dl
open PySem PySem.Spec PyProof.Rows L2 Slv
/-! ### weak duality -/
section
variable {n m : Nat} {goal : Nat → Int} {coef : Nat → Nat → Int} {bound : Nat → Int}
theorem sm_pull (n m : Nat) (w : Nat → Int) (coef : Nat → Nat → Int) (y : Nat → Int) : sm m (fun s => w s * sm n fun k => coef s k * y k) = sm n fun k => (sm m fun s => w s * coef s k) * y k := by
  rw [sm_congr (g := fun s => sm n fun k => w s * coef s k * y k) fun s _ => ?_, sm_swap (fun s k => w s * coef s k * y k)]
  · exact sm_congr fun k _ => sm_mulr (y k) (fun s => w s * coef s k) m
  · show w s * sm n (fun k => coef s k * y k) = _
    rw [← sm_mul]
    exact sm_congr fun k _ => by rw [Int.mul_assoc]
theorem dual_le {w y : Nat → Int} {e : Int} (hw : ∀ s, s < m → 0 ≤ w s) (hr : ∀ s, s < m → bound s * e ≤ sm n fun k => coef s k * y k) : (sm m fun s => w s * bound s) * e ≤ sm n fun k => (sm m fun s => w s * coef s k) * y k := by
  rw [← sm_pull, ← sm_mulr]
  refine sm_le fun s hs => ?_
  rw [Int.mul_assoc]
  exact Int.mul_le_mul_of_nonneg_left (hr s hs) (hw s hs)
theorem weak {d v : Int} {x w y : Nat → Int} {e : Int} (G : Grt n m goal coef bound d v x w) (hy : ∀ k, k < n → 0 ≤ y k) (hr : ∀ s, s < m → bound s * e ≤ sm n fun k => coef s k * y k) : v * e ≤ d * sm n fun k => goal k * y k := by
  have h1 := dual_le (y := y) (e := e) G.w0 hr
  rw [G.vb] at h1
  refine Int.le_trans h1 ?_
  rw [← sm_mul]
  refine sm_le fun k hk => ?_
  have h2 := Int.mul_le_mul_of_nonneg_right (G.cols k hk) (hy k hk)
  have h3 : goal k * d * y k = d * (goal k * y k) := by ac_rfl
  rw [← h3]; exact h2
theorem no_feas {d : Int} {w y : Nat → Int} {e : Int} (G : Rft n m coef bound d w) (he : 0 < e) (hy : ∀ k, k < n → 0 ≤ y k) (hr : ∀ s, s < m → bound s * e ≤ sm n fun k => coef s k * y k) : False := by
  have h1 := dual_le (y := y) (e := e) G.w0 hr
  have h2 := Int.mul_pos G.vb he
  have h3 : (sm n fun k => (sm m fun s => w s * coef s k) * y k) ≤ 0 := by
    have z : sm n (fun _ => (0 : Int)) = 0 := sm_zero fun _ _ => rfl
    rw [← z]
    refine sm_le fun k hk => ?_
    have := Int.mul_le_mul_of_nonneg_right (G.cols k hk) (hy k hk)
    rw [Int.zero_mul] at this
    exact this
  omega
end
/-! ### feasible points of tasks -/
def Feas (T : Tk) (y : Nat → Int) (e : Int) : Prop := (∀ k, k < T.n → 0 ≤ y k) ∧ ∀ r ∈ T.rows, r.2 * e ≤ sm T.n fun k => r.1 k * y k
theorem Feas.rows {T : Tk} {y : Nat → Int} {e : Int} (h : Feas T y e) : ∀ s, s < T.m → T.bound s * e ≤ sm T.n fun k => T.coef s k * y k := fun s hs =>
  Tk.rows_bt (p := fun r => r.2 * e ≤ sm T.n fun k => r.1 k * y k) h.2 hs
theorem feas_of {T : Tk} {y : Nat → Int} {e : Int} (h0 : ∀ k, k < T.n → 0 ≤ y k) (h : ∀ s, s < T.m → T.bound s * e ≤ sm T.n fun k => T.coef s k * y k) : Feas T y e := by
  refine ⟨h0, fun r hr => ?_⟩
  obtain ⟨s, hs, e2⟩ := List.mem_iff_getElem.mp hr
  have q := h s hs
  have e3 : T.rows.getD s (fun _ => 0, 0) = r := by rw [List.getD_eq_getElem?_getD, List.getElem?_eq_getElem hs, e2]; rfl
  unfold Tk.bound Tk.coef at q
  rw [e3] at q
  exact q
theorem GrT.feas {T : Tk} {d v : Int} {x w : Nat → Int} (G : GrT T d v x w) : Feas T x d := feas_of G.1.x0 G.1.rows
/-- a row of a wish says: not a worse gain -/
theorem row_gain {B : Bk} {i j : Nat} {y : Nat → Int} {e : Int} : ((rowF B i j).2 * e ≤ sm B.g fun s => (rowF B i j).1 s * y s) ↔ gain1 B y e j ≤ gain1 B y e i := by
  have h1 : (sm B.g fun s => (rowF B i j).1 s * y s) = pay1 B y i - pay1 B y j := by
    show (sm B.g fun s => (B.rows i s - B.rows j s) * y s) = _
    unfold pay1
    rw [← sm_sub]
    exact sm_congr fun s _ => Int.sub_mul ..
  have h2 : (rowF B i j).2 * e = B.costs i * (e * B.wh) - B.costs j * (e * B.wh) := by
    show B.wh * (B.costs i - B.costs j) * e = _
    rw [← Int.sub_mul]; ac_rfl
  rw [h1, h2]
  unfold gain1
  constructor <;> intro h <;> omega
theorem mem_others {a i j : Nat} : j ∈ others a i ↔ j < a ∧ j ≠ i := by
  unfold others
  rw [List.mem_filter, List.mem_range, decide_eq_true_iff]
theorem feas_ties {B : Bk} {f : Nat} {r : List Nat} {y : Nat → Int} {e : Int} (h0 : ∀ k, k < B.g → 0 ≤ y k) : Feas (T_ties B (f :: r)) y e ↔ (∀ j, j < B.a → gain1 B y e j ≤ gain1 B y e f) ∧ ∀ o ∈ r, gain1 B y e f ≤ gain1 B y e o := by
  constructor
  · rintro ⟨_, h⟩
    refine ⟨fun j hj => ?_, fun o ho => ?_⟩
    · by_cases w : j = f
      · rw [w]; exact Int.le_refl _
      · exact row_gain.mp (h _ (List.mem_append_left _ (List.mem_map.mpr ⟨j, mem_others.mpr ⟨hj, w⟩, rfl⟩)))
    · exact row_gain.mp (h _ (List.mem_append_right _ (List.mem_map.mpr ⟨o, ho, rfl⟩)))
  · rintro ⟨h1, h2⟩
    refine ⟨h0, fun x hx => ?_⟩
    rcases List.mem_append.mp hx with q | q
    · obtain ⟨j, hj, rfl⟩ := List.mem_map.mp q
      exact row_gain.mpr (h1 j (others_lt hj))
    · obtain ⟨o, ho, rfl⟩ := List.mem_map.mp q
      exact row_gain.mpr (h2 o ho)
theorem feas_pooled {K : Kd} {ask : Nat → Nat} {y : Nat → Int} {e : Int} (h0 : ∀ k, k < K.g → 0 ≤ y k) : Feas (T_pooled K ask) y e ↔ ∀ k, k < K.many → ∀ j, j < K.a → gain1 (K.bk k) y e j ≤ gain1 (K.bk k) y e (ask k) := by
  constructor
  · rintro ⟨_, h⟩ k hk j hj
    by_cases w : j = ask k
    · rw [w]; exact Int.le_refl _
    · exact row_gain.mp (h _ (List.mem_flatMap.mpr ⟨k, List.mem_range.mpr hk, List.mem_map.mpr ⟨j, mem_others.mpr ⟨hj, w⟩, rfl⟩⟩))
  · intro h
    refine ⟨h0, fun x hx => ?_⟩
    obtain ⟨k, hk, hx⟩ := List.mem_flatMap.mp hx
    obtain ⟨j, hj, rfl⟩ := List.mem_map.mp hx
    exact row_gain.mpr (h k (List.mem_range.mp hk) j (others_lt hj))
end Dl

namespace Dl
open PySem PySem.Spec PyProof.Rows L2 Slv
theorem sm_blocks {g : Nat} (F : Nat → Nat → Int) : ∀ m : Nat, sm (m * g) (fun i => F (i / g) (i % g)) = sm m fun q => sm g (F q)
  | 0 => by rw [Nat.zero_mul]; rfl
  | m + 1 => by
    rw [Nat.succ_mul, sm_split, sm_blocks F m]
    show _ = sm m _ + sm g (F m)
    refine congrArg _ (sm_congr fun s hs => ?_)
    obtain ⟨e1, e2⟩ := (place hs).mp (rfl : m * g + s = m * g + s)
    rw [e1, e2]
/-- a point for each kind -/
def dup (g : Nat) (y : Nat → Int) : Nat → Int := fun i => y (i % g)
theorem menu_row {K : Kd} {ask : Nat → Nat} {k o d : Nat} {y : Nat → Int} (hk : k < K.many) (ho : o < K.many) : (sm (K.many * K.g) fun i => (choiceF K ask (k, o, d)).1 i * dup K.g y i) = pay1 (K.bk k) y (ask k) - pay1 (K.bk k) y d := by
  have e : (sm (K.many * K.g) fun i => (choiceF K ask (k, o, d)).1 i * dup K.g y i) = sm K.many fun q => sm K.g fun s => ((if q = k then K.rows k (ask k) s else 0) - (if q = o then K.rows k d s else 0)) * y s :=
    sm_blocks (fun q s => ((if q = k then K.rows k (ask k) s else 0) - (if q = o then K.rows k d s else 0)) * y s) K.many
  rw [e]
  have e2 : (sm K.many fun q => sm K.g fun s => ((if q = k then K.rows k (ask k) s else 0) - (if q = o then K.rows k d s else 0)) * y s) = sm K.many (fun q => if q = k then pay1 (K.bk k) y (ask k) else 0) - sm K.many (fun q => if q = o then pay1 (K.bk k) y d else 0) := by
    rw [← sm_sub]
    refine sm_congr fun q _ => ?_
    have h1 : (if q = k then pay1 (K.bk k) y (ask k) else 0) = sm K.g fun s => (if q = k then K.rows k (ask k) s else 0) * y s := by
      by_cases w : q = k
      · rw [if_pos w]
        exact sm_congr fun s _ => by rw [if_pos w]; rfl
      · rw [if_neg w, sm_zero]
        intro s _
        rw [if_neg w, Int.zero_mul]
    have h2 : (if q = o then pay1 (K.bk k) y d else 0) = sm K.g fun s => (if q = o then K.rows k d s else 0) * y s := by
      by_cases w : q = o
      · rw [if_pos w]
        exact sm_congr fun s _ => by rw [if_pos w]; rfl
      · rw [if_neg w, sm_zero]
        intro s _
        rw [if_neg w, Int.zero_mul]
    rw [h1, h2, ← sm_sub]
    exact sm_congr fun s _ => Int.sub_mul ..
  rw [e2, sm_one (k := k) hk fun i _ w => if_neg w, sm_one (k := o) ho fun i _ w => if_neg w, if_pos rfl, if_pos rfl]
theorem feas_menu {K : Kd} {ask : Nat → Nat} {y : Nat → Int} {e : Int} (hg : 1 ≤ K.g) (h0 : ∀ k, k < K.g → 0 ≤ y k) (h : ∀ k, k < K.many → ∀ j, j < K.a → gain1 (K.bk k) y e j ≤ gain1 (K.bk k) y e (ask k)) : Feas (T_menu K ask) (dup K.g y) e := by
  refine ⟨fun i _ => h0 _ (Nat.mod_lt i hg), fun x hx => ?_⟩
  obtain ⟨t, ht, rfl⟩ := List.mem_map.mp hx
  obtain ⟨k, hk, ht⟩ := List.mem_flatMap.mp ht
  obtain ⟨o, ho, ht⟩ := List.mem_flatMap.mp ht
  obtain ⟨d, hd, rfl⟩ := List.mem_map.mp ht
  have hk' := List.mem_range.mp hk
  have ho' := List.mem_range.mp ho
  have hd' := List.mem_range.mp (List.mem_filter.mp hd).1
  have r := row_gain.mpr (h k hk' d hd')
  have e1 : (sm (K.bk k).g fun s => (rowF (K.bk k) (ask k) d).1 s * y s) = pay1 (K.bk k) y (ask k) - pay1 (K.bk k) y d := by
    unfold pay1
    rw [← sm_sub]
    exact sm_congr fun s _ => Int.sub_mul ..
  rw [e1] at r
  show (choiceF K ask (k, o, d)).2 * e ≤ sm (K.many * K.g) fun i => (choiceF K ask (k, o, d)).1 i * dup K.g y i
  rw [menu_row hk' ho']
  exact r
/-- the objectives -/
theorem obj_pooled {K : Kd} {ask : Nat → Nat} {y : Nat → Int} : (sm (T_pooled K ask).n fun s => (T_pooled K ask).goal s * y s) = sm K.many fun k => K.wt k * pay1 (K.bk k) y (ask k) :=
  (sm_pull K.g K.many K.wt (fun k s => K.rows k (ask k) s) y).symm
theorem obj_menu {K : Kd} {ask : Nat → Nat} {y : Nat → Int} : (sm (T_menu K ask).n fun i => (T_menu K ask).goal i * dup K.g y i) = sm K.many fun k => K.wt k * pay1 (K.bk k) y (ask k) := by
  have e : (sm (K.many * K.g) fun i => gM K ask i * dup K.g y i) = sm K.many fun q => sm K.g fun s => K.wt q * K.rows q (ask q) s * y s :=
    sm_blocks (fun q s => K.wt q * K.rows q (ask q) s * y s) K.many
  show (sm (K.many * K.g) fun i => gM K ask i * dup K.g y i) = _
  rw [e]
  refine sm_congr fun k _ => ?_
  unfold pay1
  rw [← sm_mul]
  exact sm_congr fun s _ => by rw [Int.mul_assoc]; rfl
end Dl

namespace Dl
open PySem PySem.Spec PyProof.Rows L2 Slv
section
variable {K : Kd} {B : Bk} {ask : Nat → Nat} {f : Nat} {r : List Nat}
/-- the same book for all kinds, the lot of the asked deeds -/
structure Same1 (K : Kd) (B : Bk) (ask : Nat → Nat) (f : Nat) (r : List Nat) : Prop where
  m1 : 1 ≤ K.many
  bk : ∀ k, k < K.many → K.bk k = B
  a : K.a = B.a
  g : K.g = B.g
  wh : K.wh = B.wh
  wt : ∀ k, k < K.many → 1 ≤ K.wt k
  wp : 0 < B.wh
  asked : ∀ k, k < K.many → ask k < B.a ∧ ask k ∈ f :: r
  lot : ∀ o ∈ f :: r, ∃ k, k < K.many ∧ ask k = o
theorem same_feas (S : Same1 K B ask f r) {y : Nat → Int} {e : Int} (h0 : ∀ k, k < B.g → 0 ≤ y k) : Feas (T_pooled K ask) y e ↔ Feas (T_ties B (f :: r)) y e := by
  rw [feas_ties h0, feas_pooled (by rw [S.g]; exact h0)]
  constructor
  · intro h
    have best : ∀ o ∈ f :: r, ∀ j, j < B.a → gain1 B y e j ≤ gain1 B y e o := fun o ho j hj => by
      obtain ⟨k, hk, e1⟩ := S.lot o ho
      have := h k hk j (by rw [S.a]; exact hj)
      rw [S.bk k hk, e1] at this
      exact this
    refine ⟨best f List.mem_cons_self, fun o ho => best o (List.mem_cons_of_mem _ ho) f ?_⟩
    obtain ⟨k, hk, e1⟩ := S.lot f List.mem_cons_self
    rw [← e1]; exact (S.asked k hk).1
  · rintro ⟨h1, h2⟩ k hk j hj
    rw [S.bk k hk]
    have b := h1 j (by rw [← S.a]; exact hj)
    rcases List.mem_cons.mp (S.asked k hk).2 with q | q
    · rw [q]; exact b
    · exact Int.le_trans b (h2 _ q)
def more (K : Kd) (B : Bk) (ask : Nat → Nat) (f : Nat) : Int := sm K.many fun k => K.wt k * (B.costs (ask k) - B.costs f)
theorem obj_same (S : Same1 K B ask f r) {y : Nat → Int} {e : Int} (h0 : ∀ k, k < B.g → 0 ≤ y k) (F : Feas (T_ties B (f :: r)) y e) : (sm K.many fun k => K.wt k * pay1 (K.bk k) y (ask k)) = sm K.many K.wt * pay1 B y f + more K B ask f * (e * B.wh) := by
  obtain ⟨h1, h2⟩ := (feas_ties h0).mp F
  unfold more
  rw [← sm_mulr, ← sm_mulr, ← sm_add]
  refine sm_congr fun k hk => ?_
  rw [S.bk k hk]
  have eq : gain1 B y e (ask k) = gain1 B y e f := by
    have b := h1 (ask k) (S.asked k hk).1
    rcases List.mem_cons.mp (S.asked k hk).2 with q | q
    · rw [q]
    · have := h2 _ q; omega
  unfold gain1 at eq
  have e1 : pay1 B y (ask k) = pay1 B y f + (B.costs (ask k) - B.costs f) * (e * B.wh) := by
    rw [Int.sub_mul]; omega
  rw [e1, Int.mul_add, Int.mul_assoc]
theorem obj_ties {y : Nat → Int} : (sm (T_ties B (f :: r)).n fun s => (T_ties B (f :: r)).goal s * y s) = pay1 B y f := rfl
/-- the values -/
theorem val_eq (S : Same1 K B ask f r) {d1 v1 d2 v2 : Int} {x1 w1 x2 w2 : Nat → Int} (G1 : GrT (T_pooled K ask) d1 v1 x1 w1) (G2 : GrT (T_ties B (f :: r)) d2 v2 x2 w2) :
    v1 * d2 = d1 * (sm K.many K.wt * v2 + more K B ask f * (d2 * B.wh)) := by
  have p1 : ∀ k, k < B.g → 0 ≤ x1 k := fun k hk => G1.1.x0 k (by show k < K.g; rw [S.g]; exact hk)
  have p2 : ∀ k, k < B.g → 0 ≤ x2 k := G2.1.x0
  have F1 : Feas (T_ties B (f :: r)) x1 d1 := (same_feas S p1).mp G1.feas
  have F2 : Feas (T_pooled K ask) x2 d2 := (same_feas S p2).mpr G2.feas
  have o1 : v1 = sm K.many K.wt * pay1 B x1 f + more K B ask f * (d1 * B.wh) := by
    rw [← obj_same S p1 F1, ← obj_pooled]; exact G1.1.vg.symm
  have o2 : v2 = pay1 B x2 f := G2.1.vg.symm
  have h1 := weak G1.1 (y := x2) (e := d2) F2.1 F2.rows
  rw [obj_pooled, obj_same S p2 G2.feas, ← o2] at h1
  have h2 := weak G2.1 (y := x1) (e := d1) F1.1 F1.rows
  rw [obj_ties] at h2
  refine Int.le_antisymm h1 ?_
  have ht : 0 ≤ sm K.many K.wt := by have := sm_pos S.m1 S.wt; omega
  have h3 := Int.mul_le_mul_of_nonneg_left h2 ht
  have e1 : d1 * (sm K.many K.wt * v2 + more K B ask f * (d2 * B.wh)) = sm K.many K.wt * (v2 * d1) + d1 * (more K B ask f * (d2 * B.wh)) := by
    rw [Int.mul_add]
    have : d1 * (sm K.many K.wt * v2) = sm K.many K.wt * (v2 * d1) := by ac_rfl
    rw [this]
  have e2 : v1 * d2 = sm K.many K.wt * (d2 * pay1 B x1 f) + d1 * (more K B ask f * (d2 * B.wh)) := by
    rw [o1, Int.add_mul]
    have a1 : sm K.many K.wt * pay1 B x1 f * d2 = sm K.many K.wt * (d2 * pay1 B x1 f) := by ac_rfl
    have a2 : more K B ask f * (d1 * B.wh) * d2 = d1 * (more K B ask f * (d2 * B.wh)) := by ac_rfl
    rw [a1, a2]
  rw [e1, e2]
  omega
theorem value_due (S : Same1 K B ask f r) {d1 v1 d2 v2 p q : Int} {x1 w1 x2 w2 : Nat → Int} (G1 : GrT (T_pooled K ask) d1 v1 x1 w1) (G2 : GrT (T_ties B (f :: r)) d2 v2 x2 w2) (hq : 0 < q) (k : p * (d2 * B.wh) = v2 * q) :
    rat v1 (d1 * (T_pooled K ask).unit) = rat (p * sm K.many K.wt + more K B ask f * q) (q * sm K.many K.wt) := by
  have ht := sm_pos S.m1 S.wt
  have d1p := G1.1.pos
  have d2p := G2.1.pos
  have eu : (T_pooled K ask).unit = B.wh * sm K.many K.wt := by
    show K.wh * sm K.many K.wt = _
    rw [S.wh]
  rw [eu]
  refine rat_eq (Int.mul_pos d1p (Int.mul_pos S.wp (by omega))) (Int.mul_pos hq (by omega)) ?_
  refine Int.eq_of_mul_eq_mul_right (show d2 ≠ 0 by omega) ?_
  generalize hT : sm K.many K.wt = t at *
  generalize hM : more K B ask f = m at *
  have V := val_eq S G1 G2
  rw [hT, hM] at V
  calc v1 * (q * t) * d2 = (v1 * d2) * (q * t) := by ac_rfl
    _ = (d1 * (t * v2 + m * (d2 * B.wh))) * (q * t) := by rw [V]
    _ = d1 * t * (t * (v2 * q) + m * (d2 * B.wh) * q) := by
      rw [show t * (v2 * q) + m * (d2 * B.wh) * q = (t * v2 + m * (d2 * B.wh)) * q by rw [Int.add_mul]; ac_rfl]
      ac_rfl
    _ = d1 * t * (t * (p * (d2 * B.wh)) + m * (d2 * B.wh) * q) := by rw [k]
    _ = (p * t + m * q) * (d2 * B.wh) * (d1 * t) := by
      rw [show (p * t + m * q) * (d2 * B.wh) = t * (p * (d2 * B.wh)) + m * (d2 * B.wh) * q by rw [Int.add_mul]; ac_rfl]
      ac_rfl
    _ = (p * t + m * q) * (d1 * (B.wh * t)) * d2 := by ac_rfl
end
end Dl

namespace Dl
open PySem PySem.Spec PyProof.Rows L2 Slv
/-- what the law draws -/
structure Wd (tn : Nat → Int) (B : Bk) (many : Nat) (wt : Nat → Int) (ask : Nat → Nat) : Prop where
  m1 : 1 ≤ many
  m3 : many ≤ 3
  a2 : 2 ≤ B.a
  a4 : B.a ≤ 4
  g4 : B.g ≤ 4
  wts : ∀ k, k < many → 1 ≤ wt k ∧ Bt 45 (wt k)
  ok : B.ok
  sz : B.sz
  wo : B.worths = fun _ => 0
  asked : ∀ k, k < many → ask k < B.a
  t0 : tn 6 % 3 = 0 → ∃ pay : Nat → Int, (∀ s, s < B.g → 0 ≤ pay s) ∧ ∀ k j, k < many → j < B.a → B.costs (ask k) - B.costs j ≤ pay1 B pay (ask k) - pay1 B pay j
  t1 : tn 6 % 3 = 1 → 1 < many → (∀ s, s < B.g → B.rows (ask 1) s = B.rows (ask 0) s) ∧ B.costs (ask 0) < B.costs (ask 1)
def sp__law_world : DSp := fun ds P => ∃ (ns : List Int) (tn : Nat → Int), ds = [.slst (ns.map D.int), .lst (vec 10 tn)] ∧ (∀ i, i < 10 → 0 ≤ tn i ∧ tn i < 720720) ∧ ∀ (B : Bk) (many : Nat) (wt : Nat → Int) (ask : Nat → Nat), Wd tn B many wt ask → P (.val (.tup [.lst (vec many wt), costsL B, rowsL B, .lst (vec many fun k => (ask k : Nat))]))
theorem sp__law_world_m : MSp sp__law_world := fun _ _ _ h ⟨ns, tn, e, p, q⟩ => ⟨ns, tn, e, p, fun B m w a hW => h _ (q B m w a hW)⟩
def sp_law : DSp := fun ds P => ∃ ns : List Int, ds = [.slst (ns.map D.int)] ∧ P (.val (.bl true))
theorem sp_law_m : MSp sp_law := fun _ _ _ h ⟨ns, e, q⟩ => ⟨ns, e, h _ q⟩
end Dl

namespace Dl
open PySem PySem.Spec PyProof.Rows L2 Slv
def d__law_world : DS :=
  (dSeq (dAsgG (eOp dAdd (eC (.int 2)) (eOp dMod (eB1 dInt (eOp dIx (eVar 1) (eC (.int 0)))) (eC (.int 3)))) (gV 2))
  (dSeq (dAsgG (eOp dAdd (eC (.int 1)) (eOp dMod (eB1 dInt (eOp dIx (eVar 1) (eC (.int 1)))) (eC (.int 4)))) (gV 3))
  (dSeq (dAsgG (eOp dIx (eLst (aCons (eC (.int 1)) (aCons (eC (.int 2)) (aCons (eC (.int 2)) (aCons (eC (.int 2)) (aCons (eC (.int 3)) (aCons (eC (.int 3)) aNil))))))) (eOp dMod (eB1 dInt (eOp dIx (eVar 1) (eC (.int 2)))) (eC (.int 6)))) (gV 4))
  (dSeq (dAsgG (eOp dAdd (eC (.int 2)) (eOp dMod (eB1 dInt (eOp dIx (eVar 1) (eC (.int 3)))) (eC (.int 12)))) (gV 5))
  (dSeq (dAsgG (eC (.int 5)) (gV 6))
  (dSeq (dIf (asB (eOp (dEq false) (eOp dMod (eB1 dInt (eOp dIx (eVar 1) (eC (.int 4)))) (eC (.int 8))) (eC (.int 1))))
  (dSeq (dAsgG (eOp dAdd (eC (.int 2)) (eB1 dInt (eOp dIx (eVar 1) (eC (.int 3))))) (gV 5))
  (dAsgG (eOp dPow (eC (.int 10)) (eC (.int 6))) (gV 6)))
  dNext)
  (dSeq (dAsg (eLcD (srcR1 (eVar 2)) (gV 14) (eCall sp__law_row [] (aCons (eCall sp__law_cell [] (aCons (eVar 0) (aCons (eOp dAdd (eC (.int 4)) (eVar 14)) aNil))) (aCons (eVar 3) (aCons (eVar 5) aNil)))) [14]) 7)
  (dSeq (dAsg (eCall sp__law_draws [] (aCons (eCall sp__law_cell [] (aCons (eVar 0) (aCons (eC (.int 2)) aNil))) (aCons (eVar 4) (aCons (eVar 2) aNil)))) 8)
  (dSeq (dIf (asB (eOp (dEq false) (eOp dMod (eB1 dInt (eOp dIx (eVar 1) (eC (.int 5)))) (eC (.int 4))) (eC (.int 0))))
  (dAsg (eOp dRep (eLst (aCons (eOp dIx (eVar 8) (eC (.int 0))) aNil)) (eVar 4)) 8)
  dNext)
  (dSeq (dAsg (eCall sp__law_costs [] (aCons (eCall sp__law_cell [] (aCons (eVar 0) (aCons (eC (.int 8)) aNil))) (aCons (eVar 2) (aCons (eC (.int 10)) aNil)))) 9)
  (dSeq (dIf (asB (eOp (dEq false) (eOp dMod (eB1 dInt (eOp dIx (eVar 1) (eC (.int 6)))) (eC (.int 3))) (eC (.int 0))))
  (dSeq (dAsgG (eCall sp__law_draws [] (aCons (eCall sp__law_cell [] (aCons (eVar 0) (aCons (eC (.int 3)) aNil))) (aCons (eVar 3) (aCons (eC (.int 13)) aNil)))) (gV 10))
  (dSeq (dAsgG (eCall sp__law_draws [] (aCons (eCall sp__law_cell [] (aCons (eVar 0) (aCons (eC (.int 8)) aNil))) (aCons (eVar 2) (aCons (eC (.int 4)) aNil)))) (gV 11))
  (dSeq (dAsgG (eLc (srcS true (eVar 7)) (gV 15) uYes (eB1 dSum (eLc (srcR1 (eVar 3)) (gV 16) uYes (eOp dMul (eOp dIx (eVar 15) (eVar 16)) (eOp dIx (eVar 10) (eVar 16))) [16])) [15]) (gV 12))
  (dAsg (eLc (srcR1 (eVar 2)) (gV 14) uYes (eOp dAdd (eOp dIx (eVar 12) (eVar 14)) (eOp dMul (eOp dIx (eVar 11) (eVar 14)) (eB1 dInt (eOp (dIn true) (eVar 14) (eVar 8))))) [14]) 9))))
  dNext)
  (dSeq (dIf (uAnd (asB (eOp (dEq false) (eOp dMod (eB1 dInt (eOp dIx (eVar 1) (eC (.int 6)))) (eC (.int 3))) (eC (.int 1)))) (asB (eOp dGt (eVar 4) (eC (.int 1)))))
  (dSeq (dSet 8 (eC (.int 1)) (eOp dMod (eB1 dInt (eOp dAdd (eOp dIx (eVar 8) (eC (.int 0))) (eC (.int 1)))) (eVar 2)))
  (dSeq (dSet 7 (eOp dIx (eVar 8) (eC (.int 1))) (eB1 dList (eOp dIx (eVar 7) (eOp dIx (eVar 8) (eC (.int 0))))))
  (dSet 9 (eOp dIx (eVar 8) (eC (.int 1))) (eOp dAdd (eOp dAdd (eOp dIx (eVar 9) (eOp dIx (eVar 8) (eC (.int 0)))) (eC (.int 1))) (eOp dMod (eB1 dInt (eOp dIx (eVar 1) (eC (.int 7)))) (eC (.int 3)))))))
  dNext)
  (dFrz 8 (dFrz 7 (dSeq (dAsg (eLc (srcS true (eVar 9)) (gV 17) uYes (eOp dSub (eVar 17) (eB1 dMin (eVar 9))) [17]) 9)
  (dFrz 9 (dSeq (dAsgG (eLc (srcS true (eCall sp__law_draws [] (aCons (eCall sp__law_cell [] (aCons (eVar 0) (aCons (eC (.int 1)) aNil))) (aCons (eVar 4) (aCons (eVar 6) aNil))))) (gV 18) uYes (eOp dAdd (eC (.int 1)) (eVar 18)) [18]) (gV 13))
  (dRet (eTup (aCons (eVar 13) (aCons (eVar 9) (aCons (eVar 7) (aCons (eVar 8) aNil)))))))))))))))))))))))
def d_law (c : Ad) : DS :=
  (dSeq (dAsgG (eCall sp__law_draws [] (aCons (eCall sp__law_cell [] (aCons (eVar 0) (aCons (eC (.int 0)) aNil))) (aCons (eC (.int 10)) (aCons (eC (.int 720720)) aNil)))) (gV 1))
  (dSeq (dAsgG (eCall sp__law_world [] (aCons (eVar 0) (aCons (eVar 1) aNil))) (gT0 4 (gC0 (gV 2) (gC0 (gV 3) (gC0 (gV 4) (gC0 (gV 5) gN0))))))
  (dSeq (dAsgG (eB1 dLen (eVar 2)) (gV 6))
  (dSeq (dAsgG (eMake c.Book sp_Book_init [] (aCons (eB1 dList (eVar 3)) (aCons (eLc (srcS true (eVar 4)) (gV 21) uYes (eB1 dList (eVar 21)) [21]) (aCons (eOp dRep (eLst (aCons (eC (.int 0)) aNil)) (eB1 dLen (eVar 4))) aNil)))) (gV 7))
  (dSeq (dAsg (eOp dRep (eLst (aCons (eVar 7) aNil)) (eVar 6)) 8)
  (dSeq (dIf (asB (eOp (dEq false) (eOp dMod (eB1 dInt (eOp dIx (eVar 1) (eC (.int 8)))) (eC (.int 2))) (eC (.int 0))))
  (dAsg (eLc (srcR1 (eVar 6)) (gV 22) uYes (eMake c.Book sp_Book_init [] (aCons (eB1 dList (eVar 3)) (aCons (eLc (srcS true (eVar 4)) (gV 21) uYes (eB1 dList (eVar 21)) [21]) (aCons (eOp dRep (eLst (aCons (eC (.int 0)) aNil)) (eB1 dLen (eVar 4))) aNil)))) [22]) 8)
  dNext)
  (dSeq (dAsgG (eMakeB c.Kinds (sp_Kinds_init c) [] (aConsB (eB1 dList (eVar 2)) (aConsB (eVar 8) aNil))) (gV 9))
  (dSeq (dSet 8 (eC (.int 0)) (eMake c.Book sp_Book_init [] (aCons (eLst (aCons (eC (.int 0)) aNil)) (aCons (eLst (aCons (eLst (aCons (eC (.int 1)) aNil)) aNil)) (aCons (eLst (aCons (eC (.int 0)) aNil)) aNil)))))
  (dSeq (dAsgG (eLc (srcR1 (eB1 dLen (eVar 4))) (gV 23) (asB (eOp (dIn false) (eVar 23) (eVar 5))) (eVar 23) [23]) (gV 10))
  (dSeq (dAsgG (eCall (sp_pooled c) [] (aCons (eVar 9) (aCons (eB1 dList (eVar 5)) aNil))) (gV 11))
  (dSeq (dAsgG (eCall (sp_ties c) [] (aCons (eVar 7) (aCons (eB1 dList (eVar 10)) aNil))) (gV 12))
  (dSeq (dAsgG (eCall (sp_menu c) [] (aCons (eVar 9) (aCons (eB1 dList (eVar 5)) aNil))) (gV 13))
  (dSeq (dAsgG (eOp dRep (eLst (aCons (eVar 3) aNil)) (eVar 6)) (gV 14))
  (dSeq (dAsgG (eOp dRep (eLst (aCons (eVar 4) aNil)) (eVar 6)) (gV 15))
  (dSeq (dIf (uNot (asB (eCall (sp__law_right c) [] (aCons (eCall sp__law_pooled [] (aCons (eVar 2) (aCons (eVar 14) (aCons (eVar 15) (aCons (eVar 5) aNil))))) (aCons (eVar 11) aNil)))))
  (dRet (eC (.bl false)))
  dNext)
  (dSeq (dIf (uNot (asB (eCall (sp__law_right c) [] (aCons (eCall sp__law_ties [] (aCons (eVar 3) (aCons (eVar 4) (aCons (eVar 10) aNil)))) (aCons (eVar 12) aNil)))))
  (dRet (eC (.bl false)))
  dNext)
  (dSeq (dIf (uNot (asB (eCall (sp__law_right c) [] (aCons (eCall sp__law_menu [] (aCons (eVar 2) (aCons (eVar 14) (aCons (eVar 15) (aCons (eVar 5) aNil))))) (aCons (eVar 13) aNil)))))
  (dRet (eC (.bl false)))
  dNext)
  (dSeq (dIf (asB (eOp (dEq true) (eIsiO [c.Granted, c.Refused] c.Granted (eVar 11)) (eIsiO [c.Granted, c.Refused] c.Granted (eVar 12))))
  (dRet (eC (.bl false)))
  dNext)
  (dSeq (dIf (uAnd (asB (eOp (dEq false) (eOp dMod (eB1 dInt (eOp dIx (eVar 1) (eC (.int 6)))) (eC (.int 3))) (eC (.int 0)))) (asB (eIsiO [c.Granted, c.Refused] c.Refused (eVar 12))))
  (dRet (eC (.bl false)))
  dNext)
  (dSeq (dIf (asB (eIsiO [c.Granted, c.Refused] c.Refused (eVar 12)))
  (dRet (eC (.bl true)))
  dNext)
  (dSeq (dIf (uAnd (asB (eOp (dEq false) (eOp dMod (eB1 dInt (eOp dIx (eVar 1) (eC (.int 6)))) (eC (.int 3))) (eC (.int 1)))) (asB (eOp dGt (eVar 6) (eC (.int 1)))))
  (dRet (eC (.bl false)))
  dNext)
  (dSeq (dAsgG (eB1 dSum (eLc (srcR1 (eVar 6)) (gV 22) uYes (eOp dMul (eOp dIx (eVar 2) (eVar 22)) (eOp dSub (eOp dIx (eVar 3) (eOp dIx (eVar 5) (eVar 22))) (eOp dIx (eVar 3) (eOp dIx (eVar 10) (eC (.int 0)))))) [22])) (gV 16))
  (dSeq (dAsgG (eB1 dSum (eVar 2)) (gV 17))
  (dSeq (dAsgG (eCall sp__law_low [] (aCons (eOp dAdd (eOp dMul (eOp dIx (eFld "value" (eVar 12)) (eC (.int 0))) (eVar 17)) (eOp dMul (eVar 16) (eOp dIx (eFld "value" (eVar 12)) (eC (.int 1))))) (aCons (eOp dMul (eOp dIx (eFld "value" (eVar 12)) (eC (.int 1))) (eVar 17)) aNil))) (gV 18))
  (dSeq (dIf (uOr (uNot (asB (eCall (sp__law_alike 1) [] (aCons (eFld "value" (eVar 11)) (aCons (eVar 18) aNil))))) (uOr (asB (eIsiO [c.Granted, c.Refused] c.Refused (eVar 13))) (asB (eCall sp__law_less [] (aCons (eFld "value" (eVar 11)) (aCons (eFld "value" (eVar 13)) aNil))))))
  (dRet (eC (.bl false)))
  dNext)
  (dSeq (dAsgG (eCall (sp_pay_of c) [.int 0] (aCons (eVar 11) (aCons (eB1 dLen (eOp dIx (eVar 4) (eC (.int 0)))) aNil))) (gV 19))
  (dSeq (dAsgG (eCall sp__law_best [] (aCons (eVar 3) (aCons (eVar 4) (aCons (eFld "point" (eVar 11)) aNil)))) (gV 20))
  (dSeq (dIf (asB (eOp dGt (eB1 dLen (eLc (srcS true (eVar 10)) (gV 23) (asB (eOp (dIn true) (eVar 23) (eVar 20))) (eVar 23) [23])) (eC (.int 0))))
  (dRet (eC (.bl false)))
  dNext)
  (dRet (eCall (sp__law_alike 1) [] (aCons (eCall (sp_best_deeds c) [] (aCons (eVar 7) (aCons (eVar 19) aNil))) (aCons (eB1 dTup (eVar 20)) aNil))))))))))))))))))))))))))))))))
end Dl

namespace Dl
open PySem PySem.Spec PyProof.Rows L2 Slv
def d_law2 (c : Ad) : DS := (dSeq (dAsgG (eMakeB c.Kinds (sp_Kinds_init c) [] (aConsB (eB1 dList (eVar 2)) (aConsB (eVar 8) aNil))) (gV 9))
  (dSeq (dSet 8 (eC (.int 0)) (eMake c.Book sp_Book_init [] (aCons (eLst (aCons (eC (.int 0)) aNil)) (aCons (eLst (aCons (eLst (aCons (eC (.int 1)) aNil)) aNil)) (aCons (eLst (aCons (eC (.int 0)) aNil)) aNil)))))
  (dSeq (dAsgG (eLc (srcR1 (eB1 dLen (eVar 4))) (gV 23) (asB (eOp (dIn false) (eVar 23) (eVar 5))) (eVar 23) [23]) (gV 10))
  (dSeq (dAsgG (eCall (sp_pooled c) [] (aCons (eVar 9) (aCons (eB1 dList (eVar 5)) aNil))) (gV 11))
  (dSeq (dAsgG (eCall (sp_ties c) [] (aCons (eVar 7) (aCons (eB1 dList (eVar 10)) aNil))) (gV 12))
  (dSeq (dAsgG (eCall (sp_menu c) [] (aCons (eVar 9) (aCons (eB1 dList (eVar 5)) aNil))) (gV 13))
  (dSeq (dAsgG (eOp dRep (eLst (aCons (eVar 3) aNil)) (eVar 6)) (gV 14))
  (dSeq (dAsgG (eOp dRep (eLst (aCons (eVar 4) aNil)) (eVar 6)) (gV 15))
  (dSeq (dIf (uNot (asB (eCall (sp__law_right c) [] (aCons (eCall sp__law_pooled [] (aCons (eVar 2) (aCons (eVar 14) (aCons (eVar 15) (aCons (eVar 5) aNil))))) (aCons (eVar 11) aNil)))))
  (dRet (eC (.bl false)))
  dNext)
  (dSeq (dIf (uNot (asB (eCall (sp__law_right c) [] (aCons (eCall sp__law_ties [] (aCons (eVar 3) (aCons (eVar 4) (aCons (eVar 10) aNil)))) (aCons (eVar 12) aNil)))))
  (dRet (eC (.bl false)))
  dNext)
  (dSeq (dIf (uNot (asB (eCall (sp__law_right c) [] (aCons (eCall sp__law_menu [] (aCons (eVar 2) (aCons (eVar 14) (aCons (eVar 15) (aCons (eVar 5) aNil))))) (aCons (eVar 13) aNil)))))
  (dRet (eC (.bl false)))
  dNext)
  (dSeq (dIf (asB (eOp (dEq true) (eIsiO [c.Granted, c.Refused] c.Granted (eVar 11)) (eIsiO [c.Granted, c.Refused] c.Granted (eVar 12))))
  (dRet (eC (.bl false)))
  dNext)
  (dSeq (dIf (uAnd (asB (eOp (dEq false) (eOp dMod (eB1 dInt (eOp dIx (eVar 1) (eC (.int 6)))) (eC (.int 3))) (eC (.int 0)))) (asB (eIsiO [c.Granted, c.Refused] c.Refused (eVar 12))))
  (dRet (eC (.bl false)))
  dNext)
  (dSeq (dIf (asB (eIsiO [c.Granted, c.Refused] c.Refused (eVar 12)))
  (dRet (eC (.bl true)))
  dNext)
  (dSeq (dIf (uAnd (asB (eOp (dEq false) (eOp dMod (eB1 dInt (eOp dIx (eVar 1) (eC (.int 6)))) (eC (.int 3))) (eC (.int 1)))) (asB (eOp dGt (eVar 6) (eC (.int 1)))))
  (dRet (eC (.bl false)))
  dNext)
  (dSeq (dAsgG (eB1 dSum (eLc (srcR1 (eVar 6)) (gV 22) uYes (eOp dMul (eOp dIx (eVar 2) (eVar 22)) (eOp dSub (eOp dIx (eVar 3) (eOp dIx (eVar 5) (eVar 22))) (eOp dIx (eVar 3) (eOp dIx (eVar 10) (eC (.int 0)))))) [22])) (gV 16))
  (dSeq (dAsgG (eB1 dSum (eVar 2)) (gV 17))
  (dSeq (dAsgG (eCall sp__law_low [] (aCons (eOp dAdd (eOp dMul (eOp dIx (eFld "value" (eVar 12)) (eC (.int 0))) (eVar 17)) (eOp dMul (eVar 16) (eOp dIx (eFld "value" (eVar 12)) (eC (.int 1))))) (aCons (eOp dMul (eOp dIx (eFld "value" (eVar 12)) (eC (.int 1))) (eVar 17)) aNil))) (gV 18))
  (dSeq (dIf (uOr (uNot (asB (eCall (sp__law_alike 1) [] (aCons (eFld "value" (eVar 11)) (aCons (eVar 18) aNil))))) (uOr (asB (eIsiO [c.Granted, c.Refused] c.Refused (eVar 13))) (asB (eCall sp__law_less [] (aCons (eFld "value" (eVar 11)) (aCons (eFld "value" (eVar 13)) aNil))))))
  (dRet (eC (.bl false)))
  dNext)
  (dSeq (dAsgG (eCall (sp_pay_of c) [.int 0] (aCons (eVar 11) (aCons (eB1 dLen (eOp dIx (eVar 4) (eC (.int 0)))) aNil))) (gV 19))
  (dSeq (dAsgG (eCall sp__law_best [] (aCons (eVar 3) (aCons (eVar 4) (aCons (eFld "point" (eVar 11)) aNil)))) (gV 20))
  (dSeq (dIf (asB (eOp dGt (eB1 dLen (eLc (srcS true (eVar 10)) (gV 23) (asB (eOp (dIn true) (eVar 23) (eVar 20))) (eVar 23) [23])) (eC (.int 0))))
  (dRet (eC (.bl false)))
  dNext)
  (dRet (eCall (sp__law_alike 1) [] (aCons (eCall (sp_best_deeds c) [] (aCons (eVar 7) (aCons (eVar 19) aNil))) (aCons (eB1 dTup (eVar 20)) aNil))))))))))))))))))))))))))
def d_law3 (c : Ad) : DS := (dSeq (dAsgG (eOp dRep (eLst (aCons (eVar 3) aNil)) (eVar 6)) (gV 14))
  (dSeq (dAsgG (eOp dRep (eLst (aCons (eVar 4) aNil)) (eVar 6)) (gV 15))
  (dSeq (dIf (uNot (asB (eCall (sp__law_right c) [] (aCons (eCall sp__law_pooled [] (aCons (eVar 2) (aCons (eVar 14) (aCons (eVar 15) (aCons (eVar 5) aNil))))) (aCons (eVar 11) aNil)))))
  (dRet (eC (.bl false)))
  dNext)
  (dSeq (dIf (uNot (asB (eCall (sp__law_right c) [] (aCons (eCall sp__law_ties [] (aCons (eVar 3) (aCons (eVar 4) (aCons (eVar 10) aNil)))) (aCons (eVar 12) aNil)))))
  (dRet (eC (.bl false)))
  dNext)
  (dSeq (dIf (uNot (asB (eCall (sp__law_right c) [] (aCons (eCall sp__law_menu [] (aCons (eVar 2) (aCons (eVar 14) (aCons (eVar 15) (aCons (eVar 5) aNil))))) (aCons (eVar 13) aNil)))))
  (dRet (eC (.bl false)))
  dNext)
  (dSeq (dIf (asB (eOp (dEq true) (eIsiO [c.Granted, c.Refused] c.Granted (eVar 11)) (eIsiO [c.Granted, c.Refused] c.Granted (eVar 12))))
  (dRet (eC (.bl false)))
  dNext)
  (dSeq (dIf (uAnd (asB (eOp (dEq false) (eOp dMod (eB1 dInt (eOp dIx (eVar 1) (eC (.int 6)))) (eC (.int 3))) (eC (.int 0)))) (asB (eIsiO [c.Granted, c.Refused] c.Refused (eVar 12))))
  (dRet (eC (.bl false)))
  dNext)
  (dSeq (dIf (asB (eIsiO [c.Granted, c.Refused] c.Refused (eVar 12)))
  (dRet (eC (.bl true)))
  dNext)
  (dSeq (dIf (uAnd (asB (eOp (dEq false) (eOp dMod (eB1 dInt (eOp dIx (eVar 1) (eC (.int 6)))) (eC (.int 3))) (eC (.int 1)))) (asB (eOp dGt (eVar 6) (eC (.int 1)))))
  (dRet (eC (.bl false)))
  dNext)
  (dSeq (dAsgG (eB1 dSum (eLc (srcR1 (eVar 6)) (gV 22) uYes (eOp dMul (eOp dIx (eVar 2) (eVar 22)) (eOp dSub (eOp dIx (eVar 3) (eOp dIx (eVar 5) (eVar 22))) (eOp dIx (eVar 3) (eOp dIx (eVar 10) (eC (.int 0)))))) [22])) (gV 16))
  (dSeq (dAsgG (eB1 dSum (eVar 2)) (gV 17))
  (dSeq (dAsgG (eCall sp__law_low [] (aCons (eOp dAdd (eOp dMul (eOp dIx (eFld "value" (eVar 12)) (eC (.int 0))) (eVar 17)) (eOp dMul (eVar 16) (eOp dIx (eFld "value" (eVar 12)) (eC (.int 1))))) (aCons (eOp dMul (eOp dIx (eFld "value" (eVar 12)) (eC (.int 1))) (eVar 17)) aNil))) (gV 18))
  (dSeq (dIf (uOr (uNot (asB (eCall (sp__law_alike 1) [] (aCons (eFld "value" (eVar 11)) (aCons (eVar 18) aNil))))) (uOr (asB (eIsiO [c.Granted, c.Refused] c.Refused (eVar 13))) (asB (eCall sp__law_less [] (aCons (eFld "value" (eVar 11)) (aCons (eFld "value" (eVar 13)) aNil))))))
  (dRet (eC (.bl false)))
  dNext)
  (dSeq (dAsgG (eCall (sp_pay_of c) [.int 0] (aCons (eVar 11) (aCons (eB1 dLen (eOp dIx (eVar 4) (eC (.int 0)))) aNil))) (gV 19))
  (dSeq (dAsgG (eCall sp__law_best [] (aCons (eVar 3) (aCons (eVar 4) (aCons (eFld "point" (eVar 11)) aNil)))) (gV 20))
  (dSeq (dIf (asB (eOp dGt (eB1 dLen (eLc (srcS true (eVar 10)) (gV 23) (asB (eOp (dIn true) (eVar 23) (eVar 20))) (eVar 23) [23])) (eC (.int 0))))
  (dRet (eC (.bl false)))
  dNext)
  (dRet (eCall (sp__law_alike 1) [] (aCons (eCall (sp_best_deeds c) [] (aCons (eVar 7) (aCons (eVar 19) aNil))) (aCons (eB1 dTup (eVar 20)) aNil))))))))))))))))))))
def d_law4 (c : Ad) : DS := (dSeq (dIf (asB (eOp (dEq true) (eIsiO [c.Granted, c.Refused] c.Granted (eVar 11)) (eIsiO [c.Granted, c.Refused] c.Granted (eVar 12))))
  (dRet (eC (.bl false)))
  dNext)
  (dSeq (dIf (uAnd (asB (eOp (dEq false) (eOp dMod (eB1 dInt (eOp dIx (eVar 1) (eC (.int 6)))) (eC (.int 3))) (eC (.int 0)))) (asB (eIsiO [c.Granted, c.Refused] c.Refused (eVar 12))))
  (dRet (eC (.bl false)))
  dNext)
  (dSeq (dIf (asB (eIsiO [c.Granted, c.Refused] c.Refused (eVar 12)))
  (dRet (eC (.bl true)))
  dNext)
  (dSeq (dIf (uAnd (asB (eOp (dEq false) (eOp dMod (eB1 dInt (eOp dIx (eVar 1) (eC (.int 6)))) (eC (.int 3))) (eC (.int 1)))) (asB (eOp dGt (eVar 6) (eC (.int 1)))))
  (dRet (eC (.bl false)))
  dNext)
  (dSeq (dAsgG (eB1 dSum (eLc (srcR1 (eVar 6)) (gV 22) uYes (eOp dMul (eOp dIx (eVar 2) (eVar 22)) (eOp dSub (eOp dIx (eVar 3) (eOp dIx (eVar 5) (eVar 22))) (eOp dIx (eVar 3) (eOp dIx (eVar 10) (eC (.int 0)))))) [22])) (gV 16))
  (dSeq (dAsgG (eB1 dSum (eVar 2)) (gV 17))
  (dSeq (dAsgG (eCall sp__law_low [] (aCons (eOp dAdd (eOp dMul (eOp dIx (eFld "value" (eVar 12)) (eC (.int 0))) (eVar 17)) (eOp dMul (eVar 16) (eOp dIx (eFld "value" (eVar 12)) (eC (.int 1))))) (aCons (eOp dMul (eOp dIx (eFld "value" (eVar 12)) (eC (.int 1))) (eVar 17)) aNil))) (gV 18))
  (dSeq (dIf (uOr (uNot (asB (eCall (sp__law_alike 1) [] (aCons (eFld "value" (eVar 11)) (aCons (eVar 18) aNil))))) (uOr (asB (eIsiO [c.Granted, c.Refused] c.Refused (eVar 13))) (asB (eCall sp__law_less [] (aCons (eFld "value" (eVar 11)) (aCons (eFld "value" (eVar 13)) aNil))))))
  (dRet (eC (.bl false)))
  dNext)
  (dSeq (dAsgG (eCall (sp_pay_of c) [.int 0] (aCons (eVar 11) (aCons (eB1 dLen (eOp dIx (eVar 4) (eC (.int 0)))) aNil))) (gV 19))
  (dSeq (dAsgG (eCall sp__law_best [] (aCons (eVar 3) (aCons (eVar 4) (aCons (eFld "point" (eVar 11)) aNil)))) (gV 20))
  (dSeq (dIf (asB (eOp dGt (eB1 dLen (eLc (srcS true (eVar 10)) (gV 23) (asB (eOp (dIn true) (eVar 23) (eVar 20))) (eVar 23) [23])) (eC (.int 0))))
  (dRet (eC (.bl false)))
  dNext)
  (dRet (eCall (sp__law_alike 1) [] (aCons (eCall (sp_best_deeds c) [] (aCons (eVar 7) (aCons (eVar 19) aNil))) (aCons (eB1 dTup (eVar 20)) aNil)))))))))))))))
def d_law5 (c : Ad) : DS := (dSeq (dIf (asB (eIsiO [c.Granted, c.Refused] c.Refused (eVar 12)))
  (dRet (eC (.bl true)))
  dNext)
  (dSeq (dIf (uAnd (asB (eOp (dEq false) (eOp dMod (eB1 dInt (eOp dIx (eVar 1) (eC (.int 6)))) (eC (.int 3))) (eC (.int 1)))) (asB (eOp dGt (eVar 6) (eC (.int 1)))))
  (dRet (eC (.bl false)))
  dNext)
  (dSeq (dAsgG (eB1 dSum (eLc (srcR1 (eVar 6)) (gV 22) uYes (eOp dMul (eOp dIx (eVar 2) (eVar 22)) (eOp dSub (eOp dIx (eVar 3) (eOp dIx (eVar 5) (eVar 22))) (eOp dIx (eVar 3) (eOp dIx (eVar 10) (eC (.int 0)))))) [22])) (gV 16))
  (dSeq (dAsgG (eB1 dSum (eVar 2)) (gV 17))
  (dSeq (dAsgG (eCall sp__law_low [] (aCons (eOp dAdd (eOp dMul (eOp dIx (eFld "value" (eVar 12)) (eC (.int 0))) (eVar 17)) (eOp dMul (eVar 16) (eOp dIx (eFld "value" (eVar 12)) (eC (.int 1))))) (aCons (eOp dMul (eOp dIx (eFld "value" (eVar 12)) (eC (.int 1))) (eVar 17)) aNil))) (gV 18))
  (dSeq (dIf (uOr (uNot (asB (eCall (sp__law_alike 1) [] (aCons (eFld "value" (eVar 11)) (aCons (eVar 18) aNil))))) (uOr (asB (eIsiO [c.Granted, c.Refused] c.Refused (eVar 13))) (asB (eCall sp__law_less [] (aCons (eFld "value" (eVar 11)) (aCons (eFld "value" (eVar 13)) aNil))))))
  (dRet (eC (.bl false)))
  dNext)
  (dSeq (dAsgG (eCall (sp_pay_of c) [.int 0] (aCons (eVar 11) (aCons (eB1 dLen (eOp dIx (eVar 4) (eC (.int 0)))) aNil))) (gV 19))
  (dSeq (dAsgG (eCall sp__law_best [] (aCons (eVar 3) (aCons (eVar 4) (aCons (eFld "point" (eVar 11)) aNil)))) (gV 20))
  (dSeq (dIf (asB (eOp dGt (eB1 dLen (eLc (srcS true (eVar 10)) (gV 23) (asB (eOp (dIn true) (eVar 23) (eVar 20))) (eVar 23) [23])) (eC (.int 0))))
  (dRet (eC (.bl false)))
  dNext)
  (dRet (eCall (sp__law_alike 1) [] (aCons (eCall (sp_best_deeds c) [] (aCons (eVar 7) (aCons (eVar 19) aNil))) (aCons (eB1 dTup (eVar 20)) aNil)))))))))))))
def d_law6 (c : Ad) : DS := (dSeq (dAsgG (eB1 dSum (eLc (srcR1 (eVar 6)) (gV 22) uYes (eOp dMul (eOp dIx (eVar 2) (eVar 22)) (eOp dSub (eOp dIx (eVar 3) (eOp dIx (eVar 5) (eVar 22))) (eOp dIx (eVar 3) (eOp dIx (eVar 10) (eC (.int 0)))))) [22])) (gV 16))
  (dSeq (dAsgG (eB1 dSum (eVar 2)) (gV 17))
  (dSeq (dAsgG (eCall sp__law_low [] (aCons (eOp dAdd (eOp dMul (eOp dIx (eFld "value" (eVar 12)) (eC (.int 0))) (eVar 17)) (eOp dMul (eVar 16) (eOp dIx (eFld "value" (eVar 12)) (eC (.int 1))))) (aCons (eOp dMul (eOp dIx (eFld "value" (eVar 12)) (eC (.int 1))) (eVar 17)) aNil))) (gV 18))
  (dSeq (dIf (uOr (uNot (asB (eCall (sp__law_alike 1) [] (aCons (eFld "value" (eVar 11)) (aCons (eVar 18) aNil))))) (uOr (asB (eIsiO [c.Granted, c.Refused] c.Refused (eVar 13))) (asB (eCall sp__law_less [] (aCons (eFld "value" (eVar 11)) (aCons (eFld "value" (eVar 13)) aNil))))))
  (dRet (eC (.bl false)))
  dNext)
  (dSeq (dAsgG (eCall (sp_pay_of c) [.int 0] (aCons (eVar 11) (aCons (eB1 dLen (eOp dIx (eVar 4) (eC (.int 0)))) aNil))) (gV 19))
  (dSeq (dAsgG (eCall sp__law_best [] (aCons (eVar 3) (aCons (eVar 4) (aCons (eFld "point" (eVar 11)) aNil)))) (gV 20))
  (dSeq (dIf (asB (eOp dGt (eB1 dLen (eLc (srcS true (eVar 10)) (gV 23) (asB (eOp (dIn true) (eVar 23) (eVar 20))) (eVar 23) [23])) (eC (.int 0))))
  (dRet (eC (.bl false)))
  dNext)
  (dRet (eCall (sp__law_alike 1) [] (aCons (eCall (sp_best_deeds c) [] (aCons (eVar 7) (aCons (eVar 19) aNil))) (aCons (eB1 dTup (eVar 20)) aNil)))))))))))
def d_law7 (c : Ad) : DS := (dSeq (dAsgG (eCall (sp_pay_of c) [.int 0] (aCons (eVar 11) (aCons (eB1 dLen (eOp dIx (eVar 4) (eC (.int 0)))) aNil))) (gV 19))
  (dSeq (dAsgG (eCall sp__law_best [] (aCons (eVar 3) (aCons (eVar 4) (aCons (eFld "point" (eVar 11)) aNil)))) (gV 20))
  (dSeq (dIf (asB (eOp dGt (eB1 dLen (eLc (srcS true (eVar 10)) (gV 23) (asB (eOp (dIn true) (eVar 23) (eVar 20))) (eVar 23) [23])) (eC (.int 0))))
  (dRet (eC (.bl false)))
  dNext)
  (dRet (eCall (sp__law_alike 1) [] (aCons (eCall (sp_best_deeds c) [] (aCons (eVar 7) (aCons (eVar 19) aNil))) (aCons (eB1 dTup (eVar 20)) aNil)))))))
end Dl

namespace Dl
open PySem PySem.Spec PyProof.Rows L2 Slv
def kdOf (B : Bk) (many : Nat) (wt : Nat → Int) : Kd := ⟨many, B.a, B.g, B.wh, wt, fun _ => B.costs, fun _ => B.rows, fun _ => B.worths⟩
theorem kd_ok {tn : Nat → Int} {B : Bk} {many : Nat} {wt : Nat → Int} {ask : Nat → Nat} (W : Wd tn B many wt ask) : (kdOf B many wt).Ok where
  m1 := W.m1
  m3 := W.m3
  a4 := W.a4
  g4 := W.g4
  wt1 := fun k hk => (W.wts k hk).1
  wtb := fun k hk => (W.wts k hk).2
  ok := fun _ _ => W.ok
  sz := fun _ _ => W.sz
theorem nolsts_app : ∀ {l : List D} {x : D}, nolsts l = true → nolst x = true → nolsts (l ++ [x]) = true
  | [], x, _, h2 => by show (nolst x && nolsts []) = true; rw [h2]; rfl
  | y :: l, x, h1, h2 => by
    have h1' := Bool.and_eq_true_iff.mp (show (nolst y && nolsts l) = true from h1)
    show (nolst y && nolsts (l ++ [x])) = true
    rw [h1'.1, nolsts_app h1'.2 h2]; rfl
theorem nolsts_mp {f : Nat → D} (h : ∀ i, nolst (f i) = true) : ∀ n : Nat, nolsts ((List.range n).map f) = true
  | 0 => rfl
  | n + 1 => by rw [mp_succ]; exact nolsts_app (nolsts_mp h n) (h n)
theorem nolst_book {c : Ad} {B : Bk} : nolst (bookD c B) = true := by
  have hv : ∀ (n : Nat) (f : Nat → Int), nolsts (vec n f) = true := fun n f => nolsts_mp (fun _ => rfl) n
  show (nolsts (vec B.a B.costs) && (nolsts ((List.range B.a).map fun i => D.tup (vec B.g (B.rows i))) && (nolsts (vec B.a B.worths) && (true && (true && (true && true)))))) = true
  have hr : nolsts ((List.range B.a).map fun i => D.tup (vec B.g (B.rows i))) = true := nolsts_mp (fun i => (show nolst (.tup (vec B.g (B.rows i))) = true from hv _ _)) B.a
  rw [hv, hr, hv]; rfl
theorem nolst_kinds {c : Ad} {K : Kd} : nolstF (kindsF c K) = true := by
  have hv : ∀ (n : Nat) (f : Nat → Int), nolsts (vec n f) = true := fun n f => nolsts_mp (fun _ => rfl) n
  show (nolsts (vec K.many K.wt) && (nolsts (booksD c K) && (true && (true && (true && (true && true)))))) = true
  rw [hv, show nolsts (booksD c K) = true from nolsts_mp (fun k => nolst_book) _]; rfl
theorem rep1 (n : Nat) (d : D) : (List.replicate n [d]).flatten = (List.range n).map fun _ => d := by
  induction n with
  | zero => rfl
  | succ n ih =>
    rw [List.replicate_succ', List.flatten_append, ih, mp_succ]; rfl
/-- the asked deeds, each once, in rising order -/
def lotL (a many : Nat) (ask : Nat → Nat) : List Nat := (List.range a).filter fun i => decide (∃ k, k < many ∧ ask k = i)
theorem mem_lot {a many : Nat} {ask : Nat → Nat} {i : Nat} : i ∈ lotL a many ask ↔ i < a ∧ ∃ k, k < many ∧ ask k = i := by
  unfold lotL
  rw [List.mem_filter, List.mem_range, decide_eq_true_iff]
theorem lot_ok {tn : Nat → Int} {B : Bk} {many : Nat} {wt : Nat → Int} {ask : Nat → Nat} (W : Wd tn B many wt ask) : Lot B.a (lotL B.a many ask) ∧ (lotL B.a many ask).length ≤ 16 := by
  refine ⟨⟨fun z => ?_, ?_, fun x hx => (mem_lot.mp hx).1⟩, ?_⟩
  · have : ask 0 ∈ lotL B.a many ask := mem_lot.mpr ⟨W.asked 0 (by have := W.m1; omega), 0, by have := W.m1; omega, rfl⟩
    rw [z] at this; cases this
  · exact List.Pairwise.filter _ List.pairwise_lt_range
  · have := List.length_filter_le (fun i => decide (∃ k, k < many ∧ ask k = i)) (List.range B.a)
    rw [List.length_range] at this
    have h : (lotL B.a many ask).length ≤ B.a := this
    have := W.a4
    omega
theorem same1 {tn : Nat → Int} {B : Bk} {many : Nat} {wt : Nat → Int} {ask : Nat → Nat} (W : Wd tn B many wt ask) {f : Nat} {r : List Nat} (e : lotL B.a many ask = f :: r) : Same1 (kdOf B many wt) B ask f r where
  m1 := W.m1
  bk := fun _ _ => rfl
  a := rfl
  g := rfl
  wh := rfl
  wt := fun k hk => (W.wts k hk).1
  wp := W.ok.2.2.2.2.2.1
  asked := fun k hk => ⟨W.asked k hk, by rw [← e]; exact mem_lot.mpr ⟨W.asked k hk, k, hk, rfl⟩⟩
  lot := fun o ho => by rw [← e] at ho; exact (mem_lot.mp ho).2
/-- drawn so that the lot is granted -/
theorem t0_feas {tn : Nat → Int} {B : Bk} {many : Nat} {wt : Nat → Int} {ask : Nat → Nat} (W : Wd tn B many wt ask) {f : Nat} {r : List Nat} (e : lotL B.a many ask = f :: r) (h : tn 6 % 3 = 0) : ∃ y : Nat → Int, Feas (T_ties B (f :: r)) y 1 := by
  obtain ⟨pay, hp, hb⟩ := W.t0 h
  have wp : 0 < B.wh := W.ok.2.2.2.2.2.1
  have S := same1 W e
  have hy : ∀ k, k < B.g → 0 ≤ B.wh * pay k := fun k hk => Int.mul_nonneg (by omega) (hp k hk)
  refine ⟨fun s => B.wh * pay s, (same_feas S hy).mp ((feas_pooled hy).mpr fun k hk j hj => ?_)⟩
  have b := hb k j hk hj
  have pe : ∀ i, pay1 B (fun s => B.wh * pay s) i = B.wh * pay1 B pay i := fun i => by
    unfold pay1
    rw [← sm_mul]
    exact sm_congr fun s _ => (show B.rows i s * (B.wh * pay s) = B.wh * (B.rows i s * pay s) by ac_rfl)
  show pay1 B (fun s => B.wh * pay s) j - B.costs j * (1 * B.wh) ≤ pay1 B (fun s => B.wh * pay s) (ask k) - B.costs (ask k) * (1 * B.wh)
  rw [pe, pe, Int.one_mul]
  have c := Int.mul_le_mul_of_nonneg_left b (show 0 ≤ B.wh by omega)
  rw [Int.mul_sub, Int.mul_sub, Int.mul_comm B.wh (B.costs (ask k)), Int.mul_comm B.wh (B.costs j)] at c
  omega
/-- drawn so that the lot is refused -/
theorem t1_ref {tn : Nat → Int} {B : Bk} {many : Nat} {wt : Nat → Int} {ask : Nat → Nat} (W : Wd tn B many wt ask) {f : Nat} {r : List Nat} (e : lotL B.a many ask = f :: r) (h : tn 6 % 3 = 1) (hm : 1 < many) {y : Nat → Int} {d : Int} (hd : 0 < d) (F : Feas (T_ties B (f :: r)) y d) : False := by
  obtain ⟨h1, h2⟩ := W.t1 h hm
  have wp : 0 < B.wh := W.ok.2.2.2.2.2.1
  have S := same1 W e
  have P := (feas_pooled (K := kdOf B many wt) (ask := ask) F.1).mp ((same_feas S F.1).mpr F)
  have g1 : gain1 B y d (ask 0) ≤ gain1 B y d (ask 1) := P 1 hm (ask 0) (W.asked 0 (by omega))
  have pe : pay1 B y (ask 1) = pay1 B y (ask 0) := sm_congr fun s hs => by rw [h1 s hs]
  unfold gain1 at g1
  rw [pe] at g1
  have := Int.mul_lt_mul_of_pos_right h2 (Int.mul_pos hd wp)
  omega
end Dl

namespace Dl
open PySem PySem.Spec PyProof.Rows L2 Slv
def AnsT (c : Ad) (T : Tk) (a : D) : Prop := (∃ d v x w, a = grantD c T d v x w ∧ GrT T d v x w) ∨ ∃ d w, a = refD c T d w ∧ RfT T d w
def lawS4 (c : Ad) (ns : List Int) (tn : Nat → Int) (B : Bk) (many : Nat) (wt : Nat → Int) (ask : Nat → Nat) (s8 : S) (one two three : D) (s14 s15 s16 s17 s18 s19 s20 s22 s23 : S) : List S :=
  [.val (.slst (ns.map D.int)), .val (.lst (vec 10 tn)), .val (.lst (vec many wt)), .val (costsL B), .val (rowsL B), .val (.lst (vec many fun k => (ask k : Nat))), .val (.int many), .val (bookD c B), s8, .val (kindsD c (kdOf B many wt)), .val (.lst (natD (lotL B.a many ask))), .val one, .val two, .val three, s14, s15, s16, s17, s18, s19, s20, .no, s22, s23]
theorem natD_ints (l : List Nat) : natD l = (l.map fun v : Nat => (v : Int)).map D.int := by
  unfold natD; rw [List.map_map]; rfl
theorem fm_none {α : Type} (n : Nat) : (List.range n).filterMap (fun _ => (none : Option α)) = [] := by
  induction n with
  | zero => rfl
  | succ n ih => rw [fm_succ, ih]; rfl
theorem atI_head {α : Type} {x : α} {xs : List α} : atI (x :: xs) 0 = some x := atI_nat (j := 0) rfl
section
variable {c : Ad} {ns : List Int} {tn : Nat → Int} {B : Bk} {many : Nat} {wt : Nat → Int} {ask : Nat → Nat} {s8 : S} {one two three : D} {s14 s15 s16 s17 s18 s19 s20 s22 s23 : S}
theorem pooled_best (W : Wd tn B many wt ask) {d1 v1 : Int} {x1 w1 : Nat → Int} (G1 : GrT (T_pooled (kdOf B many wt) ask) d1 v1 x1 w1) {i : Nat} (hi : i ∈ lotL B.a many ask) : i ∈ bestL B.a (gain1 B x1 d1) := by
  obtain ⟨h1, k, hk, rfl⟩ := mem_lot.mp hi
  unfold bestL
  rw [List.mem_filter, List.mem_range, decide_eq_true_iff]
  exact ⟨h1, fun j hj => (feas_pooled (K := kdOf B many wt) (ask := ask) G1.1.x0).mp G1.feas k hk j hj⟩
theorem pure_law7 (W : Wd tn B many wt ask) {d1 v1 : Int} {x1 w1 : Nat → Int} (G1 : GrT (T_pooled (kdOf B many wt) ask) d1 v1 x1 w1) (e1 : one = grantD c (T_pooled (kdOf B many wt) ask) d1 v1 x1 w1) (P : R → Prop) (q : P (.val (.bl true))) :
    d_law7 c (RD P) (lawS4 c ns tn B many wt ask s8 one two three s14 s15 s16 s17 s18 s19 s20 s22 s23) := by
  subst e1
  have hok := W.ok
  have hsz := W.sz
  obtain ⟨a1, a2, g1, g9, _⟩ := id hok
  obtain ⟨Gr, bd, bv, bx, bw⟩ := id G1
  have hA : Am B.g x1 d1 := ⟨g1, g9, Gr.pos, bd, fun k hk => ⟨Gr.x0 k hk, bx k hk⟩⟩
  have i0 : atI ((List.range B.a).map fun i => D.lst (vec B.g (B.rows i))) 0 = some (.lst (vec B.g (B.rows 0))) := atI_rl (i := 0) (by omega) rfl
  refine ⟨_, rfl, _, i0, _, rfl, _, rfl, T_pooled (kdOf B many wt) ask, d1, v1, x1, w1, by rw [vec_len]; rfl, hA, _, rfl, ?_⟩
  refine ⟨_, rfl, _, rfl, _, rfl, _, rfl, B, x1, d1, rfl, ⟨hok, hsz, hA⟩, _, rfl, ?_⟩
  refine ⟨_, rfl, le_line (by rw [natD_len]; have := (lot_ok W).2; omega), fun _ => none, fun i e he => ?_, ?_⟩
  · obtain ⟨v, hv, rfl⟩ := natD_get he
    refine ⟨_, _, rfl, congrArg some (natD_ints _), fun h => ?_, fun _ => rfl⟩
    have hm : ((v : Nat) : Int) ∈ (bestL B.a (gain1 B x1 d1)).map fun v : Nat => (v : Int) := List.mem_map.mpr ⟨v, pooled_best W G1 (List.mem_of_getElem? hv), rfl⟩
    have h' : (!decide (((v : Nat) : Int) ∈ (bestL B.a (gain1 B x1 d1)).map fun v : Nat => (v : Int))) = true := h
    rw [decide_eq_true hm] at h'; exact ff h'
  rw [fm_none]
  refine ⟨_, rfl, fun h => ff h, fun _ => ?_⟩
  refine ⟨_, rfl, _, rfl, B, x1, d1, rfl, ⟨hok, hsz, hA⟩, _, rfl, _, rfl, _, rfl, .inr ⟨rfl, (bestL B.a (gain1 B x1 d1)).map fun v : Nat => (v : Int), by rw [← natD_ints]; rfl, ?_, _, ⟨rfl, rfl⟩, q⟩⟩
  rw [List.length_map]
  have := List.length_filter_le (fun i => decide (∀ j, j < B.a → gain1 B x1 d1 j ≤ gain1 B x1 d1 i)) (List.range B.a)
  rw [List.length_range] at this
  unfold bestL
  omega
theorem menu_feas (W : Wd tn B many wt ask) {d1 v1 : Int} {x1 w1 : Nat → Int} (G1 : GrT (T_pooled (kdOf B many wt) ask) d1 v1 x1 w1) : Feas (T_menu (kdOf B many wt) ask) (dup B.g x1) d1 :=
  feas_menu (K := kdOf B many wt) W.ok.2.2.1 G1.1.x0 ((feas_pooled (K := kdOf B many wt) (ask := ask) G1.1.x0).mp G1.feas)
theorem menu_less (W : Wd tn B many wt ask) {d1 v1 d3 v3 : Int} {x1 w1 x3 w3 : Nat → Int} (G1 : GrT (T_pooled (kdOf B many wt) ask) d1 v1 x1 w1) (G3 : GrT (T_menu (kdOf B many wt) ask) d3 v3 x3 w3) : v3 * d1 ≤ v1 * d3 := by
  have F := menu_feas W G1
  have h := weak G3.1 (y := dup B.g x1) (e := d1) F.1 F.rows
  have e : (sm (T_menu (kdOf B many wt) ask).n fun i => (T_menu (kdOf B many wt) ask).goal i * dup B.g x1 i) = v1 := by
    rw [← G1.1.vg]
    exact (obj_menu (K := kdOf B many wt)).trans (obj_pooled (K := kdOf B many wt)).symm
  rw [e, Int.mul_comm d3] at h
  exact h
theorem pure_law6 (hne : c.Granted ≠ c.Refused) (W : Wd tn B many wt ask) {f : Nat} {r : List Nat} (el : lotL B.a many ask = f :: r) {d1 v1 d2 v2 : Int} {x1 w1 x2 w2 : Nat → Int} (G1 : GrT (T_pooled (kdOf B many wt) ask) d1 v1 x1 w1) (e1 : one = grantD c (T_pooled (kdOf B many wt) ask) d1 v1 x1 w1)
    (G2 : GrT (T_ties B (f :: r)) d2 v2 x2 w2) (e2 : two = grantD c (T_ties B (f :: r)) d2 v2 x2 w2) (h3 : AnsT c (T_menu (kdOf B many wt) ask) three) (P : R → Prop) (q : P (.val (.bl true))) :
    d_law6 c (RD P) (lawS4 c ns tn B many wt ask s8 one two three s14 s15 s16 s17 s18 s19 s20 s22 s23) := by
  have hok := W.ok
  have hsz := W.sz
  have m3 := W.m3
  have hK := kd_ok W
  have S := same1 W el
  have hf : f < B.a := (mem_lot.mp (show f ∈ lotL B.a many ask by rw [el]; exact List.mem_cons_self)).1
  have U1 := ws_pooled hK W.asked
  have U3 := ws_menu hK W.asked
  obtain ⟨lo, ll⟩ := lot_ok W
  have U2 : WsT (T_ties B (f :: r)) := by rw [← el]; exact ws_ties hok hsz lo ll
  obtain ⟨p2, q2, ep2, q20, k2, bp2, bq2, _, _⟩ := rat_bt (m := 2100) (a := v2) (b := d2 * (T_ties B (f :: r)).unit) (Int.mul_pos G2.1.pos (by have := U2.2.1; omega)) (bt_up G2.2.2.1 (by omega)) (bt_up (bt_mul G2.2.1 U2.2.2) (by omega))
  obtain ⟨p1, q1, ep1, q10, k1, bp1, bq1, _, _⟩ := rat_bt (m := 2100) (a := v1) (b := d1 * (T_pooled (kdOf B many wt) ask).unit) (Int.mul_pos G1.1.pos (by have := U1.2.1; omega)) (bt_up G1.2.2.1 (by omega)) (bt_up (bt_mul G1.2.1 U1.2.2) (by omega))
  have vd := value_due S G1 G2 q20 k2
  have bs : ∀ k, k < many → Bt 46 (B.costs (ask k) - B.costs f) := fun k hk => bt_up (bt_sub (hsz.2 _ (W.asked k hk)) (hsz.2 f hf)) (by omega)
  have bm : Bt 100 (more (kdOf B many wt) B ask f) := bt_up (bt_sm (n := many) fun k hk => bt_mul (W.wts k hk).2 (bs k hk)) (by omega)
  have bt : Bt 100 (sm many wt) := bt_up hK.unit.2.2.1 (by omega)
  have t0 : 1 ≤ sm many wt := hK.unit.2.1
  subst e1
  subst e2
  refine ⟨by omega, by omega, le_line (by rw [rgD_len]; omega), fun k => some (.int (wt k * (B.costs (ask k) - B.costs f))), fun k e he => ?_, ?_⟩
  · obtain ⟨hk, rfl⟩ := rgD_some he
    rw [Int.toNat_natCast] at hk
    have ez : ((0 : Int) + (k : Int)) = (k : Int) := by omega
    rw [ez]
    have a1 : atI (vec many wt) (k : Int) = some (.int (wt k)) := atI_vec hk rfl
    have a2 : atI (vec many fun k => ((ask k : Nat) : Int)) (k : Int) = some (.int (ask k : Nat)) := atI_vec hk rfl
    have a3 : atI (vec B.a B.costs) ((ask k : Nat) : Int) = some (.int (B.costs (ask k))) := atI_costs (W.asked k hk) rfl
    have a4 : atI (natD (lotL B.a many ask)) 0 = some (.int (f : Nat)) := by rw [el]; exact atI_head
    have a5 : atI (vec B.a B.costs) ((f : Nat) : Int) = some (.int (B.costs f)) := atI_costs hf rfl
    exact ⟨fun _ => ⟨_, a1, _, a2, _, a3, _, a4, _, a5, mulW (W.wts k hk).2 (bs k hk) (by omega) (by omega) (by omega), _, rfl, rfl⟩, fun z => tf z⟩
  rw [fm_some, rgD_len, Int.toNat_natCast]
  have s1 : ((List.range many).map fun k => wt k * (B.costs (ask k) - B.costs f)).sum = more (kdOf B many wt) B ask f := sum_sm _ _
  have s2 : ((List.range many).map wt).sum = sm many wt := sum_sm _ _
  refine ⟨(List.range many).map fun k => wt k * (B.costs (ask k) - B.costs f), congrArg some vec_map, _, rfl, ?_⟩
  rw [s1]
  refine ⟨(List.range many).map wt, congrArg some vec_map, _, rfl, ?_⟩
  rw [s2]
  have v0 : (R.val (rat v2 (d2 * (T_ties B (f :: r)).unit))).seq.bind (fun xs => atI xs 0) = some (.int p2) := by rw [ep2]; rfl
  have v1' : (R.val (rat v2 (d2 * (T_ties B (f :: r)).unit))).seq.bind (fun xs => atI xs 1) = some (.int q2) := by rw [ep2]; rfl
  refine ⟨_, rfl, _, v0, mulW bp2 bt (by omega) (by omega) (by omega), _, rfl, _, v1', mulW bm bq2 (by omega) (by omega) (by omega), _, rfl, _, rfl, _, v1', mulW bq2 bt (by omega) (by omega) (by omega), _, rfl, _, _, rfl, Int.mul_pos q20 (by omega), bt_up (bt_mul bq2 bt) (by omega), _, rfl, ?_⟩
  have al : [rat v1 (d1 * (T_pooled (kdOf B many wt) ask).unit), rat (p2 * sm many wt + more (kdOf B many wt) B ask f * q2) (q2 * sm many wt)] = [D.tup ([p1, q1].map D.int), D.tup ([p1, q1].map D.int)] := by
    rw [← show rat v1 (d1 * (T_pooled (kdOf B many wt) ask).unit) = rat (p2 * sm many wt + more (kdOf B many wt) B ask f * q2) (q2 * sm many wt) from vd, ep1]; rfl
  refine ⟨_, rfl, _, rfl, _, rfl, .inr ⟨rfl, [p1, q1], al, by show 2 ≤ 1000; decide, fun z => ff z, fun _ => ?_⟩⟩
  rcases h3 with ⟨d3, v3, x3, w3, e3, G3⟩ | ⟨d3, w3, e3, G3⟩
  · subst e3
    refine ⟨List.mem_cons_self, fun z => absurd (of_decide_eq_true z) hne, fun _ => ?_⟩
    obtain ⟨p3, q3, ep3, q30, k3, bp3, bq3, _, _⟩ := rat_bt (m := 2100) (a := v3) (b := d3 * (T_menu (kdOf B many wt) ask).unit) (Int.mul_pos G3.1.pos (by have := U3.2.1; omega)) (bt_up G3.2.2.1 (by omega)) (bt_up (bt_mul G3.2.1 U3.2.2) (by omega))
    have ls : [rat v1 (d1 * (T_pooled (kdOf B many wt) ask).unit), rat v3 (d3 * (T_menu (kdOf B many wt) ask).unit)] = [pr p1 q1, pr p3 q3] := by rw [ep1, ep3]
    refine ⟨_, rfl, _, rfl, _, rfl, _, rfl, p1, q1, p3, q3, ls, ⟨bt_up bp1 (by omega), bt_up bq1 (by omega), bt_up bp3 (by omega), bt_up bq3 (by omega)⟩, fun z => ?_, fun _ => pure_law7 W G1 rfl P q⟩
    have z' : p1 * q3 < p3 * q1 := of_decide_eq_true z
    have z2 := (cross_lt (Int.mul_pos G1.1.pos (by have := U1.2.1; omega)) (Int.mul_pos G3.1.pos (by have := U3.2.1; omega)) q10 q30 k1 k3).mp z'
    have m := menu_less W G1 G3
    have eu : (T_menu (kdOf B many wt) ask).unit = (T_pooled (kdOf B many wt) ask).unit := rfl
    rw [eu, ← Int.mul_assoc, ← Int.mul_assoc] at z2
    have := Int.mul_le_mul_of_nonneg_right m (show 0 ≤ (T_pooled (kdOf B many wt) ask).unit by have := U1.2.1; omega)
    omega
  · exact (no_feas G3.1 G1.1.pos (menu_feas W G1).1 (menu_feas W G1).rows).elim
theorem dec_self (p : Prop) [Decidable p] : (!decide ((decide p) = (decide p))) = false := by rw [decide_eq_true rfl]; rfl
theorem pure_law5 (hne : c.Granted ≠ c.Refused) (W : Wd tn B many wt ask) {f : Nat} {r : List Nat} (el : lotL B.a many ask = f :: r) {d1 v1 d2 v2 : Int} {x1 w1 x2 w2 : Nat → Int} (G1 : GrT (T_pooled (kdOf B many wt) ask) d1 v1 x1 w1) (e1 : one = grantD c (T_pooled (kdOf B many wt) ask) d1 v1 x1 w1)
    (G2 : GrT (T_ties B (f :: r)) d2 v2 x2 w2) (e2 : two = grantD c (T_ties B (f :: r)) d2 v2 x2 w2) (h3 : AnsT c (T_menu (kdOf B many wt) ask) three) (P : R → Prop) (q : P (.val (.bl true))) :
    d_law5 c (RD P) (lawS4 c ns tn B many wt ask s8 one two three s14 s15 s16 s17 s18 s19 s20 s22 s23) := by
  have L6 := pure_law6 (c := c) (ns := ns) (s8 := s8) (s14 := s14) (s15 := s15) (s16 := s16) (s17 := s17) (s18 := s18) (s19 := s19) (s20 := s20) (s22 := s22) (s23 := s23) hne W el G1 e1 G2 e2 h3 P q
  have e2' := e2
  have t6 : atI (vec 10 tn) 6 = some (.int (tn 6)) := atI_vec (i := 6) (by omega) rfl
  subst e2
  refine ⟨List.mem_cons_self, fun z => absurd (of_decide_eq_true z) hne, fun _ => ?_⟩
  refine ⟨_, t6, (show (0 : Int) < 3 by decide), fun h6 => ⟨fun hm => ?_, fun _ => L6⟩, fun _ => ⟨fun z => ff z, fun _ => L6⟩⟩
  have hm' : (1 : Int) < (many : Int) := of_decide_eq_true hm
  exact (t1_ref W el (of_decide_eq_true h6) (by omega) G2.1.pos G2.feas).elim
theorem pure_law4 (hne : c.Granted ≠ c.Refused) (W : Wd tn B many wt ask) {f : Nat} {r : List Nat} (el : lotL B.a many ask = f :: r) (h1 : AnsT c (T_pooled (kdOf B many wt) ask) one) (h2 : AnsT c (T_ties B (f :: r)) two) (h3 : AnsT c (T_menu (kdOf B many wt) ask) three) (P : R → Prop) (q : P (.val (.bl true))) :
    d_law4 c (RD P) (lawS4 c ns tn B many wt ask s8 one two three s14 s15 s16 s17 s18 s19 s20 s22 s23) := by
  have t6 : atI (vec 10 tn) 6 = some (.int (tn 6)) := atI_vec (i := 6) (by omega) rfl
  have S := same1 W el
  rcases h1 with ⟨d1, v1, x1, w1, e1, G1⟩ | ⟨d1, w1, e1, G1⟩ <;> rcases h2 with ⟨d2, v2, x2, w2, e2, G2⟩ | ⟨d2, w2, e2, G2⟩
  · have L5 := pure_law5 (c := c) (ns := ns) (s8 := s8) (s14 := s14) (s15 := s15) (s16 := s16) (s17 := s17) (s18 := s18) (s19 := s19) (s20 := s20) (s22 := s22) (s23 := s23) hne W el G1 e1 G2 e2 h3 P q
    subst e1
    subst e2
    refine ⟨List.mem_cons_self, List.mem_cons_self, fun z => ?_, fun _ => ?_⟩
    · exact ff ((dec_self (c.Granted = c.Granted)).symm.trans z)
    refine ⟨_, t6, (show (0 : Int) < 3 by decide), fun _ => ⟨List.mem_cons_self, fun z => absurd (of_decide_eq_true z) hne, fun _ => L5⟩, fun _ => ⟨fun z => ff z, fun _ => L5⟩⟩
  · have F := (same_feas S (y := x1) (e := d1) G1.1.x0).mp G1.feas
    exact (no_feas G2.1 G1.1.pos F.1 F.rows).elim
  · have F := (same_feas S (y := x2) (e := d2) G2.1.x0).mpr G2.feas
    exact (no_feas G1.1 G2.1.pos F.1 F.rows).elim
  · subst e1
    subst e2
    have m2 : c.Refused ∈ [c.Granted, c.Refused] := List.mem_cons_of_mem _ List.mem_cons_self
    refine ⟨m2, m2, fun z => ?_, fun _ => ?_⟩
    · exact ff ((dec_self (c.Refused = c.Granted)).symm.trans z)
    refine ⟨_, t6, (show (0 : Int) < 3 by decide), fun h6 => ?_, fun _ => ⟨fun z => ff z, fun _ => ⟨m2, fun _ => ⟨_, ⟨rfl, rfl⟩, q⟩, fun z => ?_⟩⟩⟩
    · obtain ⟨y, F⟩ := t0_feas W el (of_decide_eq_true h6)
      exact (no_feas G2.1 (show (0 : Int) < 1 by decide) F.1 F.rows).elim
    · have z' : decide (c.Refused = c.Refused) = false := z
      rw [decide_eq_true rfl] at z'; exact tf z'
end
end Dl

namespace Dl
open PySem PySem.Spec PyProof.Rows L2 Slv
theorem bk_in {B : Bk} {xs : List D} (hok : B.ok) (hw : B.worths = fun _ => 0) (hx : IsRows B.a B.g B.rows xs) : BkIn B [.lst (vec B.a B.costs), .lst xs, .lst (vec B.a fun _ => 0)] :=
  ⟨_, _, _, xs, rfl, rfl, rfl, hx, by rw [hw]; rfl, hok⟩
theorem isRows_l {B : Bk} : IsRows B.a B.g B.rows ((List.range B.a).map fun i => .lst (vec B.g (B.rows i))) :=
  ⟨mp_len, fun i x h => by obtain ⟨_, rfl⟩ := mp_some h; rfl⟩
def one1 : Bk := ⟨1, 1, fun _ => 0, fun _ _ => 1, fun _ => 0, 1⟩
theorem one1_ok : one1.ok := ⟨by decide, by decide, by decide, by decide, fun i _ => ⟨rfl, fun s _ => by show (0 : Int) ≤ 1; decide⟩, by decide, fun i _ => Int.le_refl _, ⟨0, by decide, rfl⟩, fun i _ => Int.le_refl _⟩
/-- behind the drawing of the world -/
def lawS (c : Ad) (ns : List Int) (tn : Nat → Int) (B : Bk) (many : Nat) (wt : Nat → Int) (ask : Nat → Nat) : List S :=
  [.val (.slst (ns.map D.int)), .val (.lst (vec 10 tn)), .val (.lst (vec many wt)), .val (costsL B), .val (rowsL B), .val (.lst (vec many fun k => (ask k : Nat))), .val (.int many), .val (bookD c B), .own (booksD c (kdOf B many wt)), .no, .no, .no, .no, .no, .no, .no, .no, .no, .no, .no, .no, .no, .no, .no]
def lawS3 (c : Ad) (ns : List Int) (tn : Nat → Int) (B : Bk) (many : Nat) (wt : Nat → Int) (ask : Nat → Nat) (s8 s23 : S) (one two three : D) : List S :=
  [.val (.slst (ns.map D.int)), .val (.lst (vec 10 tn)), .val (.lst (vec many wt)), .val (costsL B), .val (rowsL B), .val (.lst (vec many fun k => (ask k : Nat))), .val (.int many), .val (bookD c B), s8, .val (kindsD c (kdOf B many wt)), .val (.lst (natD (lotL B.a many ask))), .val one, .val two, .val three, .no, .no, .no, .no, .no, .no, .no, .no, .no, s23]
theorem ans_ds {c : Ad} {T : Tk} {a : D} (h : AnsT c T a) : (∃ d v x w, [taskD T, a] = [taskD T, grantD c T d v x w] ∧ GrT T d v x w) ∨ ∃ d w, [taskD T, a] = [taskD T, refD c T d w] ∧ RfT T d w := by
  rcases h with ⟨d, v, x, w, e, G⟩ | ⟨d, w, e, G⟩
  · exact .inl ⟨d, v, x, w, by rw [e], G⟩
  · exact .inr ⟨d, w, by rw [e], G⟩
theorem pure_law3 (c : Ad) (hne : c.Granted ≠ c.Refused) {ns : List Int} {tn : Nat → Int} {B : Bk} {many : Nat} {wt : Nat → Int} {ask : Nat → Nat} {s8 s23 : S} {one two three : D} (W : Wd tn B many wt ask) (htn : ∀ i, i < 10 → 0 ≤ tn i ∧ tn i < 720720)
    (h1 : AnsT c (T_pooled (kdOf B many wt) ask) one) (h2 : AnsT c (T_ties B (lotL B.a many ask)) two) (h3 : AnsT c (T_menu (kdOf B many wt) ask) three) (P : R → Prop) (q : P (.val (.bl true))) : d_law3 c (RD P) (lawS3 c ns tn B many wt ask s8 s23 one two three) := by
  have m3 := W.m3
  have m1 := W.m1
  have a4 := W.a4
  have a2 := W.a2
  have hK := kd_ok W
  obtain ⟨lo, ll⟩ := lot_ok W
  refine ⟨_, rfl, le_line (by show 1 ≤ 1000000; decide), [costsL B], many, rfl, rfl, by omega, by omega, le_line (by show 1 * (many : Int).toNat ≤ 1000000; omega), _, rfl, ?_⟩
  rw [Int.toNat_natCast, rep1]
  refine ⟨_, rfl, le_line (by show 1 ≤ 1000000; decide), [rowsL B], many, rfl, rfl, by omega, by omega, le_line (by show 1 * (many : Int).toNat ≤ 1000000; omega), _, rfl, ?_⟩
  rw [Int.toNat_natCast, rep1]
  refine ⟨_, rfl, _, rfl, _, rfl, _, rfl, kdOf B many wt, ask, rfl, hK, W.asked, _, rfl, _, rfl, T_pooled (kdOf B many wt) ask, ⟨ws_pooled hK W.asked, hne⟩, ans_ds h1, fun z => ff z, fun _ => ?_⟩
  refine ⟨_, rfl, _, rfl, _, rfl, B, lotL B.a many ask, rfl, lo, ll, W.ok, W.sz, _, rfl, _, rfl, T_ties B (lotL B.a many ask), ⟨ws_ties W.ok W.sz lo ll, hne⟩, ans_ds h2, fun z => ff z, fun _ => ?_⟩
  refine ⟨_, rfl, _, rfl, _, rfl, _, rfl, kdOf B many wt, ask, rfl, hK, W.asked, _, rfl, _, rfl, T_menu (kdOf B many wt) ask, ⟨ws_menu hK W.asked, hne⟩, ans_ds h3, fun z => ff z, fun _ => ?_⟩
  cases el : lotL B.a many ask with
  | nil => exact absurd el (lot_ok W).1.1
  | cons f r =>
    have h2' : AnsT c (T_ties B (f :: r)) two := by rw [← el]; exact h2
    exact pure_law4 hne W el h1 h2' h3 P q
set_option maxHeartbeats 0 in
theorem pure_law2 (c : Ad) (hne : c.Granted ≠ c.Refused) {ns : List Int} {tn : Nat → Int} {B : Bk} {many : Nat} {wt : Nat → Int} {ask : Nat → Nat} (W : Wd tn B many wt ask) (htn : ∀ i, i < 10 → 0 ≤ tn i ∧ tn i < 720720) (P : R → Prop) (q : P (.val (.bl true))) : d_law2 c (RD P) (lawS c ns tn B many wt ask) := by
  have m3 := W.m3
  have m1 := W.m1
  have a4 := W.a4
  have a2 := W.a2
  have hK := kd_ok W
  have la : ((List.range B.a).map fun i => D.lst (vec B.g (B.rows i))).length = B.a := mp_len
  refine ⟨_, rfl, kdOf B many wt, ⟨_, _, rfl, rfl, rfl, hK⟩, nolst_kinds, _, rfl, ?_⟩
  have ix : ixN (booksD c (kdOf B many wt)).length 0 = some 0 := by rw [books_len]; exact ixN_nat (i := 0) m1 rfl
  refine ⟨_, rfl, le_line (by show 1 ≤ 1000000; decide), _, rfl, _, rfl, le_line (by show 1 ≤ 1000000; decide), _, rfl, le_line (by show 1 ≤ 1000000; decide), _, rfl, _, rfl, le_line (by show 1 ≤ 1000000; decide), _, rfl, one1, ⟨_, _, _, [.lst [.int 1]], rfl, rfl, rfl, ⟨rfl, fun i x h => ?_⟩, rfl, one1_ok⟩, _, _, _, rfl, rfl, ix, ?_⟩
  · cases i with
    | zero => cases h; rfl
    | succ i => cases h
  refine ⟨_, rfl, ?_⟩
  rw [la]
  refine ⟨by omega, by omega, le_line (by rw [rgD_len]; omega), fun i => if decide (∃ k, k < many ∧ ask k = i) = true then some (.int (i : Nat)) else none, fun i e he => ?_, ?_⟩
  · obtain ⟨hi, rfl⟩ := rgD_some he
    have ez : ((0 : Int) + (i : Int)) = (i : Int) := by omega
    rw [ez]
    have key : decide ((i : Int) ∈ (List.range many).map fun k => ((ask k : Nat) : Int)) = decide (∃ k, k < many ∧ ask k = i) := by
      refine decide_eq_decide.mpr ?_
      rw [List.mem_map]
      constructor
      · rintro ⟨k, hk, e⟩
        exact ⟨k, List.mem_range.mp hk, by omega⟩
      · rintro ⟨k, hk, e⟩
        exact ⟨k, List.mem_range.mpr hk, by rw [e]⟩
    refine ⟨_, _, rfl, congrArg some vec_map, fun h => ⟨_, rfl, if_pos (key ▸ h)⟩, fun h => if_neg fun w => ?_⟩
    have h' : decide ((i : Int) ∈ (List.range many).map fun k => ((ask k : Nat) : Int)) = false := h
    rw [key, w] at h'; cases h'
  rw [rgD_len, Int.toNat_natCast]
  have ef : (List.range B.a).filterMap (fun i => if decide (∃ k, k < many ∧ ask k = i) = true then some (D.int (i : Nat)) else none) = natD (lotL B.a many ask) := fm_if _
  rw [ef]
  refine ⟨_, rfl, ?_⟩
  obtain ⟨lo, ll⟩ := lot_ok W
  have go : ∀ s8 s23 one two three, AnsT c (T_pooled (kdOf B many wt) ask) one → AnsT c (T_ties B (lotL B.a many ask)) two → AnsT c (T_menu (kdOf B many wt) ask) three → d_law3 c (RD P) (lawS3 c ns tn B many wt ask s8 s23 one two three) := fun s8 s23 one two three h1 h2 h3 => pure_law3 c hne W htn h1 h2 h3 P q
  refine ⟨_, rfl, _, rfl, _, rfl, kdOf B many wt, ask, rfl, hK, W.asked, fun d1 v1 x1 w1 G1 => ⟨_, rfl, ?_⟩, fun d1 w1 G1 => ⟨_, rfl, ?_⟩⟩
  all_goals refine ⟨_, rfl, _, rfl, _, rfl, B, lotL B.a many ask, rfl, lo, ll, W.ok, W.sz, fun d2 v2 x2 w2 G2 => ⟨_, rfl, ?_⟩, fun d2 w2 G2 => ⟨_, rfl, ?_⟩⟩
  all_goals refine ⟨_, rfl, _, rfl, _, rfl, kdOf B many wt, ask, rfl, hK, W.asked, fun d3 v3 x3 w3 G3 => ⟨_, rfl, ?_⟩, fun d3 w3 G3 => ⟨_, rfl, ?_⟩⟩
  · exact go _ _ _ _ _ (.inl ⟨_, _, _, _, rfl, G1⟩) (.inl ⟨_, _, _, _, rfl, G2⟩) (.inl ⟨_, _, _, _, rfl, G3⟩)
  · exact go _ _ _ _ _ (.inl ⟨_, _, _, _, rfl, G1⟩) (.inl ⟨_, _, _, _, rfl, G2⟩) (.inr ⟨_, _, rfl, G3⟩)
  · exact go _ _ _ _ _ (.inl ⟨_, _, _, _, rfl, G1⟩) (.inr ⟨_, _, rfl, G2⟩) (.inl ⟨_, _, _, _, rfl, G3⟩)
  · exact go _ _ _ _ _ (.inl ⟨_, _, _, _, rfl, G1⟩) (.inr ⟨_, _, rfl, G2⟩) (.inr ⟨_, _, rfl, G3⟩)
  · exact go _ _ _ _ _ (.inr ⟨_, _, rfl, G1⟩) (.inl ⟨_, _, _, _, rfl, G2⟩) (.inl ⟨_, _, _, _, rfl, G3⟩)
  · exact go _ _ _ _ _ (.inr ⟨_, _, rfl, G1⟩) (.inl ⟨_, _, _, _, rfl, G2⟩) (.inr ⟨_, _, rfl, G3⟩)
  · exact go _ _ _ _ _ (.inr ⟨_, _, rfl, G1⟩) (.inr ⟨_, _, rfl, G2⟩) (.inl ⟨_, _, _, _, rfl, G3⟩)
  · exact go _ _ _ _ _ (.inr ⟨_, _, rfl, G1⟩) (.inr ⟨_, _, rfl, G2⟩) (.inr ⟨_, _, rfl, G3⟩)
end Dl

namespace Dl
open PySem PySem.Spec PyProof.Rows L2 Slv
theorem pure_law (c : Ad) (hne : c.Granted ≠ c.Refused) (ds : List D) (P : R → Prop) (h : sp_law ds P) : d_law c (RD P) (startD 24 ds) := by
  obtain ⟨ns, rfl, q⟩ := h
  refine ⟨_, rfl, _, rfl, ns, 0, rfl, by omega, fun z => ⟨_, rfl, _, rfl, _, rfl, z, 10, 720720, rfl, by omega, by decide, (show (720720 : Int).natAbs < 2 ^ 64 by decide), fun tn htn => ⟨_, rfl, ?_⟩⟩⟩
  refine ⟨_, rfl, _, rfl, ns, tn, rfl, htn, fun B many wt ask W => ⟨_, rfl, _, rfl, ⟨_, rfl⟩, rfl, rfl, ?_⟩⟩
  refine ⟨_, rfl, _, rfl, ?_⟩
  rw [vec_len]
  have m3 := W.m3
  have m1 := W.m1
  have a4 := W.a4
  have a2 := W.a2
  have hK := kd_ok W
  have la : ((List.range B.a).map fun i => D.lst (vec B.g (B.rows i))).length = B.a := mp_len
  -- the book
  refine ⟨_, rfl, _, rfl, _, rfl, le_line (by rw [la]; omega), fun i => some (.lst (vec B.g (B.rows i))), fun i e he => ?_, ?_⟩
  · obtain ⟨_, rfl⟩ := mp_some he
    exact ⟨fun _ => ⟨_, rfl, _, rfl, rfl⟩, fun z => tf z⟩
  rw [fm_some, la]
  refine ⟨_, rfl, _, rfl, le_line (by show 1 ≤ 1000000; decide), _, rfl, [.int 0], _, rfl, rfl, by rw [la]; omega, by rw [la]; omega, le_line (by rw [la]; show 1 * (B.a : Int).toNat ≤ 1000000; omega), _, rfl, ?_⟩
  rw [la, Int.toNat_natCast, rep0]
  refine ⟨B, bk_in W.ok W.wo isRows_l, _, rfl, ?_⟩
  refine ⟨_, rfl, le_line (by show 1 ≤ 1000000; decide), [bookD c B], many, rfl, rfl, by omega, by omega, le_line (by show 1 * (many : Int).toNat ≤ 1000000; omega), _, rfl, ?_⟩
  rw [Int.toNat_natCast, rep1]
  have t8 : atI (vec 10 tn) 8 = some (.int (tn 8)) := atI_vec (i := 8) (by omega) rfl
  refine ⟨_, t8, (show (0 : Int) < 2 by decide), fun _ => ?_, fun _ => pure_law2 c hne W htn P q⟩
  refine ⟨by omega, by omega, le_line (by rw [rgD_len]; omega), fun k => some (bookD c B), fun k e he => ?_, ?_⟩
  · obtain ⟨hk, rfl⟩ := rgD_some he
    refine ⟨fun _ => ⟨_, rfl, _, rfl, _, rfl, le_line (by rw [la]; omega), fun i => some (.lst (vec B.g (B.rows i))), fun i e he => ?_, ?_⟩, fun z => tf z⟩
    · obtain ⟨_, rfl⟩ := mp_some he
      exact ⟨fun _ => ⟨_, rfl, _, rfl, rfl⟩, fun z => tf z⟩
    rw [fm_some, la]
    refine ⟨_, rfl, _, rfl, le_line (by show 1 ≤ 1000000; decide), _, rfl, [.int 0], _, rfl, rfl, by rw [la]; omega, by rw [la]; omega, le_line (by rw [la]; show 1 * (B.a : Int).toNat ≤ 1000000; omega), _, rfl, ?_⟩
    rw [la, Int.toNat_natCast, rep0]
    exact ⟨B, bk_in W.ok W.wo isRows_l, _, rfl, rfl⟩
  · rw [fm_some, rgD_len, Int.toNat_natCast]
    exact ⟨_, rfl, pure_law2 c hne W htn P q⟩
end Dl

namespace Dl
open PySem PySem.Spec PyProof.Rows L2 Slv
def d_lw1 : DS := (dSeq (dIf (asB (eOp (dEq false) (eOp dMod (eB1 dInt (eOp dIx (eVar 1) (eC (.int 4)))) (eC (.int 8))) (eC (.int 1))))
  (dSeq (dAsgG (eOp dAdd (eC (.int 2)) (eB1 dInt (eOp dIx (eVar 1) (eC (.int 3))))) (gV 5))
  (dAsgG (eOp dPow (eC (.int 10)) (eC (.int 6))) (gV 6)))
  dNext)
  (dSeq (dAsg (eLcD (srcR1 (eVar 2)) (gV 14) (eCall sp__law_row [] (aCons (eCall sp__law_cell [] (aCons (eVar 0) (aCons (eOp dAdd (eC (.int 4)) (eVar 14)) aNil))) (aCons (eVar 3) (aCons (eVar 5) aNil)))) [14]) 7)
  (dSeq (dAsg (eCall sp__law_draws [] (aCons (eCall sp__law_cell [] (aCons (eVar 0) (aCons (eC (.int 2)) aNil))) (aCons (eVar 4) (aCons (eVar 2) aNil)))) 8)
  (dSeq (dIf (asB (eOp (dEq false) (eOp dMod (eB1 dInt (eOp dIx (eVar 1) (eC (.int 5)))) (eC (.int 4))) (eC (.int 0))))
  (dAsg (eOp dRep (eLst (aCons (eOp dIx (eVar 8) (eC (.int 0))) aNil)) (eVar 4)) 8)
  dNext)
  (dSeq (dAsg (eCall sp__law_costs [] (aCons (eCall sp__law_cell [] (aCons (eVar 0) (aCons (eC (.int 8)) aNil))) (aCons (eVar 2) (aCons (eC (.int 10)) aNil)))) 9)
  (dSeq (dIf (asB (eOp (dEq false) (eOp dMod (eB1 dInt (eOp dIx (eVar 1) (eC (.int 6)))) (eC (.int 3))) (eC (.int 0))))
  (dSeq (dAsgG (eCall sp__law_draws [] (aCons (eCall sp__law_cell [] (aCons (eVar 0) (aCons (eC (.int 3)) aNil))) (aCons (eVar 3) (aCons (eC (.int 13)) aNil)))) (gV 10))
  (dSeq (dAsgG (eCall sp__law_draws [] (aCons (eCall sp__law_cell [] (aCons (eVar 0) (aCons (eC (.int 8)) aNil))) (aCons (eVar 2) (aCons (eC (.int 4)) aNil)))) (gV 11))
  (dSeq (dAsgG (eLc (srcS true (eVar 7)) (gV 15) uYes (eB1 dSum (eLc (srcR1 (eVar 3)) (gV 16) uYes (eOp dMul (eOp dIx (eVar 15) (eVar 16)) (eOp dIx (eVar 10) (eVar 16))) [16])) [15]) (gV 12))
  (dAsg (eLc (srcR1 (eVar 2)) (gV 14) uYes (eOp dAdd (eOp dIx (eVar 12) (eVar 14)) (eOp dMul (eOp dIx (eVar 11) (eVar 14)) (eB1 dInt (eOp (dIn true) (eVar 14) (eVar 8))))) [14]) 9))))
  dNext)
  (dSeq (dIf (uAnd (asB (eOp (dEq false) (eOp dMod (eB1 dInt (eOp dIx (eVar 1) (eC (.int 6)))) (eC (.int 3))) (eC (.int 1)))) (asB (eOp dGt (eVar 4) (eC (.int 1)))))
  (dSeq (dSet 8 (eC (.int 1)) (eOp dMod (eB1 dInt (eOp dAdd (eOp dIx (eVar 8) (eC (.int 0))) (eC (.int 1)))) (eVar 2)))
  (dSeq (dSet 7 (eOp dIx (eVar 8) (eC (.int 1))) (eB1 dList (eOp dIx (eVar 7) (eOp dIx (eVar 8) (eC (.int 0))))))
  (dSet 9 (eOp dIx (eVar 8) (eC (.int 1))) (eOp dAdd (eOp dAdd (eOp dIx (eVar 9) (eOp dIx (eVar 8) (eC (.int 0)))) (eC (.int 1))) (eOp dMod (eB1 dInt (eOp dIx (eVar 1) (eC (.int 7)))) (eC (.int 3)))))))
  dNext)
  (dFrz 8 (dFrz 7 (dSeq (dAsg (eLc (srcS true (eVar 9)) (gV 17) uYes (eOp dSub (eVar 17) (eB1 dMin (eVar 9))) [17]) 9)
  (dFrz 9 (dSeq (dAsgG (eLc (srcS true (eCall sp__law_draws [] (aCons (eCall sp__law_cell [] (aCons (eVar 0) (aCons (eC (.int 1)) aNil))) (aCons (eVar 4) (aCons (eVar 6) aNil))))) (gV 18) uYes (eOp dAdd (eC (.int 1)) (eVar 18)) [18]) (gV 13))
  (dRet (eTup (aCons (eVar 13) (aCons (eVar 9) (aCons (eVar 7) (aCons (eVar 8) aNil))))))))))))))))))
def d_lw2 : DS := (dSeq (dAsg (eLcD (srcR1 (eVar 2)) (gV 14) (eCall sp__law_row [] (aCons (eCall sp__law_cell [] (aCons (eVar 0) (aCons (eOp dAdd (eC (.int 4)) (eVar 14)) aNil))) (aCons (eVar 3) (aCons (eVar 5) aNil)))) [14]) 7)
  (dSeq (dAsg (eCall sp__law_draws [] (aCons (eCall sp__law_cell [] (aCons (eVar 0) (aCons (eC (.int 2)) aNil))) (aCons (eVar 4) (aCons (eVar 2) aNil)))) 8)
  (dSeq (dIf (asB (eOp (dEq false) (eOp dMod (eB1 dInt (eOp dIx (eVar 1) (eC (.int 5)))) (eC (.int 4))) (eC (.int 0))))
  (dAsg (eOp dRep (eLst (aCons (eOp dIx (eVar 8) (eC (.int 0))) aNil)) (eVar 4)) 8)
  dNext)
  (dSeq (dAsg (eCall sp__law_costs [] (aCons (eCall sp__law_cell [] (aCons (eVar 0) (aCons (eC (.int 8)) aNil))) (aCons (eVar 2) (aCons (eC (.int 10)) aNil)))) 9)
  (dSeq (dIf (asB (eOp (dEq false) (eOp dMod (eB1 dInt (eOp dIx (eVar 1) (eC (.int 6)))) (eC (.int 3))) (eC (.int 0))))
  (dSeq (dAsgG (eCall sp__law_draws [] (aCons (eCall sp__law_cell [] (aCons (eVar 0) (aCons (eC (.int 3)) aNil))) (aCons (eVar 3) (aCons (eC (.int 13)) aNil)))) (gV 10))
  (dSeq (dAsgG (eCall sp__law_draws [] (aCons (eCall sp__law_cell [] (aCons (eVar 0) (aCons (eC (.int 8)) aNil))) (aCons (eVar 2) (aCons (eC (.int 4)) aNil)))) (gV 11))
  (dSeq (dAsgG (eLc (srcS true (eVar 7)) (gV 15) uYes (eB1 dSum (eLc (srcR1 (eVar 3)) (gV 16) uYes (eOp dMul (eOp dIx (eVar 15) (eVar 16)) (eOp dIx (eVar 10) (eVar 16))) [16])) [15]) (gV 12))
  (dAsg (eLc (srcR1 (eVar 2)) (gV 14) uYes (eOp dAdd (eOp dIx (eVar 12) (eVar 14)) (eOp dMul (eOp dIx (eVar 11) (eVar 14)) (eB1 dInt (eOp (dIn true) (eVar 14) (eVar 8))))) [14]) 9))))
  dNext)
  (dSeq (dIf (uAnd (asB (eOp (dEq false) (eOp dMod (eB1 dInt (eOp dIx (eVar 1) (eC (.int 6)))) (eC (.int 3))) (eC (.int 1)))) (asB (eOp dGt (eVar 4) (eC (.int 1)))))
  (dSeq (dSet 8 (eC (.int 1)) (eOp dMod (eB1 dInt (eOp dAdd (eOp dIx (eVar 8) (eC (.int 0))) (eC (.int 1)))) (eVar 2)))
  (dSeq (dSet 7 (eOp dIx (eVar 8) (eC (.int 1))) (eB1 dList (eOp dIx (eVar 7) (eOp dIx (eVar 8) (eC (.int 0))))))
  (dSet 9 (eOp dIx (eVar 8) (eC (.int 1))) (eOp dAdd (eOp dAdd (eOp dIx (eVar 9) (eOp dIx (eVar 8) (eC (.int 0)))) (eC (.int 1))) (eOp dMod (eB1 dInt (eOp dIx (eVar 1) (eC (.int 7)))) (eC (.int 3)))))))
  dNext)
  (dFrz 8 (dFrz 7 (dSeq (dAsg (eLc (srcS true (eVar 9)) (gV 17) uYes (eOp dSub (eVar 17) (eB1 dMin (eVar 9))) [17]) 9)
  (dFrz 9 (dSeq (dAsgG (eLc (srcS true (eCall sp__law_draws [] (aCons (eCall sp__law_cell [] (aCons (eVar 0) (aCons (eC (.int 1)) aNil))) (aCons (eVar 4) (aCons (eVar 6) aNil))))) (gV 18) uYes (eOp dAdd (eC (.int 1)) (eVar 18)) [18]) (gV 13))
  (dRet (eTup (aCons (eVar 13) (aCons (eVar 9) (aCons (eVar 7) (aCons (eVar 8) aNil)))))))))))))))))
def d_lw3 : DS := (dSeq (dAsg (eCall sp__law_costs [] (aCons (eCall sp__law_cell [] (aCons (eVar 0) (aCons (eC (.int 8)) aNil))) (aCons (eVar 2) (aCons (eC (.int 10)) aNil)))) 9)
  (dSeq (dIf (asB (eOp (dEq false) (eOp dMod (eB1 dInt (eOp dIx (eVar 1) (eC (.int 6)))) (eC (.int 3))) (eC (.int 0))))
  (dSeq (dAsgG (eCall sp__law_draws [] (aCons (eCall sp__law_cell [] (aCons (eVar 0) (aCons (eC (.int 3)) aNil))) (aCons (eVar 3) (aCons (eC (.int 13)) aNil)))) (gV 10))
  (dSeq (dAsgG (eCall sp__law_draws [] (aCons (eCall sp__law_cell [] (aCons (eVar 0) (aCons (eC (.int 8)) aNil))) (aCons (eVar 2) (aCons (eC (.int 4)) aNil)))) (gV 11))
  (dSeq (dAsgG (eLc (srcS true (eVar 7)) (gV 15) uYes (eB1 dSum (eLc (srcR1 (eVar 3)) (gV 16) uYes (eOp dMul (eOp dIx (eVar 15) (eVar 16)) (eOp dIx (eVar 10) (eVar 16))) [16])) [15]) (gV 12))
  (dAsg (eLc (srcR1 (eVar 2)) (gV 14) uYes (eOp dAdd (eOp dIx (eVar 12) (eVar 14)) (eOp dMul (eOp dIx (eVar 11) (eVar 14)) (eB1 dInt (eOp (dIn true) (eVar 14) (eVar 8))))) [14]) 9))))
  dNext)
  (dSeq (dIf (uAnd (asB (eOp (dEq false) (eOp dMod (eB1 dInt (eOp dIx (eVar 1) (eC (.int 6)))) (eC (.int 3))) (eC (.int 1)))) (asB (eOp dGt (eVar 4) (eC (.int 1)))))
  (dSeq (dSet 8 (eC (.int 1)) (eOp dMod (eB1 dInt (eOp dAdd (eOp dIx (eVar 8) (eC (.int 0))) (eC (.int 1)))) (eVar 2)))
  (dSeq (dSet 7 (eOp dIx (eVar 8) (eC (.int 1))) (eB1 dList (eOp dIx (eVar 7) (eOp dIx (eVar 8) (eC (.int 0))))))
  (dSet 9 (eOp dIx (eVar 8) (eC (.int 1))) (eOp dAdd (eOp dAdd (eOp dIx (eVar 9) (eOp dIx (eVar 8) (eC (.int 0)))) (eC (.int 1))) (eOp dMod (eB1 dInt (eOp dIx (eVar 1) (eC (.int 7)))) (eC (.int 3)))))))
  dNext)
  (dFrz 8 (dFrz 7 (dSeq (dAsg (eLc (srcS true (eVar 9)) (gV 17) uYes (eOp dSub (eVar 17) (eB1 dMin (eVar 9))) [17]) 9)
  (dFrz 9 (dSeq (dAsgG (eLc (srcS true (eCall sp__law_draws [] (aCons (eCall sp__law_cell [] (aCons (eVar 0) (aCons (eC (.int 1)) aNil))) (aCons (eVar 4) (aCons (eVar 6) aNil))))) (gV 18) uYes (eOp dAdd (eC (.int 1)) (eVar 18)) [18]) (gV 13))
  (dRet (eTup (aCons (eVar 13) (aCons (eVar 9) (aCons (eVar 7) (aCons (eVar 8) aNil))))))))))))))
def d_lw4 : DS := (dSeq (dIf (uAnd (asB (eOp (dEq false) (eOp dMod (eB1 dInt (eOp dIx (eVar 1) (eC (.int 6)))) (eC (.int 3))) (eC (.int 1)))) (asB (eOp dGt (eVar 4) (eC (.int 1)))))
  (dSeq (dSet 8 (eC (.int 1)) (eOp dMod (eB1 dInt (eOp dAdd (eOp dIx (eVar 8) (eC (.int 0))) (eC (.int 1)))) (eVar 2)))
  (dSeq (dSet 7 (eOp dIx (eVar 8) (eC (.int 1))) (eB1 dList (eOp dIx (eVar 7) (eOp dIx (eVar 8) (eC (.int 0))))))
  (dSet 9 (eOp dIx (eVar 8) (eC (.int 1))) (eOp dAdd (eOp dAdd (eOp dIx (eVar 9) (eOp dIx (eVar 8) (eC (.int 0)))) (eC (.int 1))) (eOp dMod (eB1 dInt (eOp dIx (eVar 1) (eC (.int 7)))) (eC (.int 3)))))))
  dNext)
  (dFrz 8 (dFrz 7 (dSeq (dAsg (eLc (srcS true (eVar 9)) (gV 17) uYes (eOp dSub (eVar 17) (eB1 dMin (eVar 9))) [17]) 9)
  (dFrz 9 (dSeq (dAsgG (eLc (srcS true (eCall sp__law_draws [] (aCons (eCall sp__law_cell [] (aCons (eVar 0) (aCons (eC (.int 1)) aNil))) (aCons (eVar 4) (aCons (eVar 6) aNil))))) (gV 18) uYes (eOp dAdd (eC (.int 1)) (eVar 18)) [18]) (gV 13))
  (dRet (eTup (aCons (eVar 13) (aCons (eVar 9) (aCons (eVar 7) (aCons (eVar 8) aNil))))))))))))
def d_lw5 : DS := (dFrz 8 (dFrz 7 (dSeq (dAsg (eLc (srcS true (eVar 9)) (gV 17) uYes (eOp dSub (eVar 17) (eB1 dMin (eVar 9))) [17]) 9)
  (dFrz 9 (dSeq (dAsgG (eLc (srcS true (eCall sp__law_draws [] (aCons (eCall sp__law_cell [] (aCons (eVar 0) (aCons (eC (.int 1)) aNil))) (aCons (eVar 4) (aCons (eVar 6) aNil))))) (gV 18) uYes (eOp dAdd (eC (.int 1)) (eVar 18)) [18]) (gV 13))
  (dRet (eTup (aCons (eVar 13) (aCons (eVar 9) (aCons (eVar 7) (aCons (eVar 8) aNil)))))))))))
end Dl

namespace Dl
open PySem PySem.Spec PyProof.Rows L2 Slv
def rowsX (a g : Nat) (rows : Nat → Nat → Int) : List D := (List.range a).map fun i => .lst (vec g (rows i))
def lwS (ns : List Int) (tn : Nat → Int) (a g many : Nat) (wh size : Int) (s7 s8 s9 s10 s11 s12 s14 s15 s16 s17 s18 : S) : List S :=
  [.val (.slst (ns.map D.int)), .val (.lst (vec 10 tn)), .val (.int a), .val (.int g), .val (.int many), .val (.int wh), .val (.int size), s7, s8, s9, s10, s11, s12, .no, s14, s15, s16, s17, s18]
structure Wp (a g many : Nat) (wh size : Int) : Prop where
  a2 : 2 ≤ a
  a4 : a ≤ 4
  g1 : 1 ≤ g
  g4 : g ≤ 4
  m1 : 1 ≤ many
  m3 : many ≤ 3
  w1 : 0 < wh
  wb : Bt 40 wh
  wb' : Bt 31 wh
  s1 : 0 < size
  sb : Bt 40 size
structure Wr (a g many : Nat) (wh : Int) (rows : Nat → Nat → Int) (ask : Nat → Nat) : Prop where
  rw : ∀ i, i < a → sm g (rows i) = wh ∧ ∀ s, s < g → 0 ≤ rows i s
  ak : ∀ k, k < many → ask k < a
def payR (g : Nat) (rows : Nat → Nat → Int) (x : Nat → Int) (i : Nat) : Int := sm g fun s => rows i s * x s
abbrev LW (tn : Nat → Int) (P : R → Prop) : Prop := ∀ (B : Bk) (many : Nat) (wt : Nat → Int) (ask : Nat → Nat), Wd tn B many wt ask → P (.val (.tup [.lst (vec many wt), costsL B, rowsL B, .lst (vec many fun k => (ask k : Nat))]))
section
variable {ns : List Int} {tn : Nat → Int} {a g many : Nat} {wh size : Int} {s7 s8 s9 s10 s11 s12 s14 s15 s16 s17 s18 : S} {rows : Nat → Nat → Int} {ask : Nat → Nat} {costs : Nat → Int} {P : R → Prop}
theorem pure_lw5 (hP : LW tn P) (W : Wp a g many wh size) (Rr : Wr a g many wh rows ask) (cb : ∀ i, i < a → Bt 43 (costs i))
    (t0 : tn 6 % 3 = 0 → ∃ pay : Nat → Int, (∀ s, s < g → 0 ≤ pay s) ∧ ∀ k j, k < many → j < a → costs (ask k) - costs j ≤ payR g rows pay (ask k) - payR g rows pay j)
    (t1 : tn 6 % 3 = 1 → 1 < many → (∀ s, s < g → rows (ask 1) s = rows (ask 0) s) ∧ costs (ask 0) < costs (ask 1))
    {xs7 xs8 xs9 : List D} (h7 : xs7 = rowsX a g rows) (h8 : xs8 = vec many fun k => (ask k : Nat)) (h9 : xs9 = vec a costs) :
    d_lw5 (RD P) (lwS ns tn a g many wh size (.own xs7) (.own xs8) (.own xs9) s10 s11 s12 s14 s15 s16 s17 s18) := by
  subst h7 h8 h9
  have a2 := W.a2
  have a4 := W.a4
  have m3 := W.m3
  refine ⟨_, rfl, le_line (by rw [vec_len]; omega), fun i => some (.int (costs i - lmin ((List.range a).map costs))), fun i e he => ?_, ?_⟩
  · obtain ⟨hi, rfl⟩ := mp_some he
    exact ⟨fun _ => ⟨(List.range a).map costs, congrArg some vec_map, mp_ne (by omega), _, rfl, rfl⟩, fun z => tf z⟩
  rw [fm_some, vec_len]
  refine ⟨_, rfl, ?_⟩
  refine ⟨_, rfl, _, rfl, ns, 1, rfl, by omega, fun z => ⟨_, rfl, _, rfl, _, rfl, z, many, size, rfl, by omega, W.s1, bt_up W.sb (by omega), fun f hf => ⟨_, rfl, le_line (by rw [vec_len]; omega), fun i => some (.int (1 + f i)), fun i e he => ?_, ?_⟩⟩⟩
  · obtain ⟨hi, rfl⟩ := mp_some he
    exact ⟨fun _ => ⟨_, rfl, rfl⟩, fun z => tf z⟩
  rw [fm_some, vec_len]
  refine ⟨_, rfl, _, rfl, _, rfl, _, rfl, _, rfl, le_line (by show 4 ≤ 1000000; decide), _, ⟨rfl, rfl⟩, ?_⟩
  have ne : (List.range a).map costs ≠ [] := mp_ne (by omega)
  have lm := lmin_mem ne
  obtain ⟨i0, hi0, e0⟩ := List.mem_map.mp lm
  have i0a := List.mem_range.mp hi0
  have ml : ∀ i, i < a → lmin ((List.range a).map costs) ≤ costs i := fun i hi => lmin_le (List.mem_map.mpr ⟨i, List.mem_range.mpr hi, rfl⟩)
  refine hP ⟨a, g, fun i => costs i - lmin ((List.range a).map costs), rows, fun _ => 0, wh⟩ many (fun i => 1 + f i) ask {
    m1 := W.m1
    m3 := W.m3
    a2 := W.a2
    a4 := W.a4
    g4 := W.g4
    wts := fun k hk => ⟨by have := (hf k hk).1; show 1 ≤ 1 + f k; omega, ?_⟩
    ok := ⟨by show 1 ≤ a; omega, by show a ≤ 16; omega, W.g1, by have := W.g4; show g ≤ 9; omega, Rr.rw, W.w1, fun i hi => ?_, ⟨i0, i0a, ?_⟩, fun i _ => Int.le_refl _⟩
    sz := ⟨bt_up W.wb (by omega), fun i hi => ?_⟩
    wo := rfl
    asked := Rr.ak
    t0 := fun h => ?_
    t1 := fun h hm => ?_ }
  · have h1 : Bt 41 (1 + f k) := bt_add bt_one (bt_le W.sb (hf k hk).1 (by have := (hf k hk).2; omega))
    exact bt_up h1 (by omega)
  · show 0 ≤ costs i - _
    have := ml i hi
    omega
  · show costs i0 - _ = 0
    omega
  · show Bt 45 (costs i - lmin ((List.range a).map costs))
    rw [← e0]
    exact bt_up (bt_sub (cb i hi) (cb i0 i0a)) (by omega)
  · obtain ⟨pay, p0, pq⟩ := t0 h
    refine ⟨pay, p0, fun k j hk hj => ?_⟩
    show costs (ask k) - _ - (costs j - _) ≤ payR g rows pay (ask k) - payR g rows pay j
    have := pq k j hk hj
    omega
  · obtain ⟨q1, q2⟩ := t1 h hm
    refine ⟨q1, ?_⟩
    show costs (ask 0) - _ < costs (ask 1) - _
    omega
theorem pure_lw4 (hP : LW tn P) (ht : ∀ i, i < 10 → 0 ≤ tn i ∧ tn i < 720720) (W : Wp a g many wh size) (Rr : Wr a g many wh rows ask) (cb : ∀ i, i < a → Bt 42 (costs i))
    (t0 : tn 6 % 3 = 0 → ∃ pay : Nat → Int, (∀ s, s < g → 0 ≤ pay s) ∧ ∀ k j, k < many → j < a → costs (ask k) - costs j ≤ payR g rows pay (ask k) - payR g rows pay j)
    {xs7 xs8 xs9 : List D} (h7 : xs7 = rowsX a g rows) (h8 : xs8 = vec many fun k => (ask k : Nat)) (h9 : xs9 = vec a costs) :
    d_lw4 (RD P) (lwS ns tn a g many wh size (.own xs7) (.own xs8) (.own xs9) s10 s11 s12 s14 s15 s16 s17 s18) := by
  have a2 := W.a2
  have a4 := W.a4
  have m3 := W.m3
  have m1 := W.m1
  have t6 : atI (vec 10 tn) 6 = some (.int (tn 6)) := atI_vec (i := 6) (by omega) rfl
  have t7 : atI (vec 10 tn) 7 = some (.int (tn 7)) := atI_vec (i := 7) (by omega) rfl
  have cb' : ∀ i, i < a → Bt 43 (costs i) := fun i hi => bt_up (cb i hi) (by omega)
  refine ⟨_, t6, (show (0 : Int) < 3 by decide), fun h6 => ⟨fun hm => ?_, fun hm => ?_⟩, fun h6 => ⟨fun z => ff z, fun _ => ?_⟩⟩
  · have h6' := of_decide_eq_true h6
    have hm' : (1 : Int) < (many : Int) := of_decide_eq_true hm
    subst h7 h8 h9
    have m2 : 1 < many := by omega
    have k0 := Rr.ak 0 (by omega)
    have nx : ((ask 0 + 1) % a) < a := Nat.mod_lt _ (by omega)
    have nn : (ask 0 + 1) % a ≠ ask 0 := by
      intro z
      rcases Nat.lt_or_ge (ask 0 + 1) a with h | h
      · rw [Nat.mod_eq_of_lt h] at z; omega
      · have e : ask 0 + 1 = a := by omega
        rw [e, Nat.mod_self] at z; omega
    obtain ⟨b, hb⟩ : ∃ b : Nat, (ask 0 + 1) % a = b := ⟨_, rfl⟩
    rw [hb] at nx nn
    have hbi : (((ask 0 : Nat) : Int) + 1) % (a : Int) = ((b : Nat) : Int) := by
      rw [← hb, Int.natCast_emod, Int.natCast_add]; rfl
    have i8 : ixN (vec many fun k => ((ask k : Nat) : Int)).length 1 = some 1 := by rw [vec_len]; exact ixN_nat (i := 1) m2 rfl
    have b0 : atI (vec many fun k => ((ask k : Nat) : Int)) 0 = some (.int (ask 0 : Nat)) := atI_vec (i := 0) (by omega) rfl
    have e8 : (vec many fun k => ((ask k : Nat) : Int)).set 1 (.int ((((ask 0 : Nat) : Int) + 1) % (a : Int))) = vec many fun k => (((fun k => if k = 1 then b else ask k) k : Nat) : Int) := by
      rw [vec_set, hbi]
      exact vec_congr fun k _ => by
        show (if k = 1 then ((b : Nat) : Int) else _) = (((if k = 1 then b else ask k) : Nat) : Int)
        by_cases w : k = 1
        · rw [if_pos w, if_pos w]
        · rw [if_neg w, if_neg w]
    refine ⟨_, b0, (show (0 : Int) < (a : Int) by omega), _, _, _, rfl, rfl, i8, ?_⟩
    rw [e8]
    have c0 : atI (vec many fun k => (((fun k => if k = 1 then b else ask k) k : Nat) : Int)) 0 = some (.int (ask 0 : Nat)) := atI_vec (i := 0) (by omega) rfl
    have c1 : atI (vec many fun k => (((fun k => if k = 1 then b else ask k) k : Nat) : Int)) 1 = some (.int (b : Nat)) := atI_vec (i := 1) (by omega) rfl
    have r0 : atI (rowsX a g rows) ((ask 0 : Nat) : Int) = some (.lst (vec g (rows (ask 0)))) := atI_mp k0 rfl
    have i7 : ixN (rowsX a g rows).length ((b : Nat) : Int) = some b := by unfold rowsX; rw [mp_len]; exact ixN_nat nx rfl
    refine ⟨_, c0, _, r0, _, rfl, _, c1, _, _, _, rfl, rfl, i7, ?_⟩
    have d0 : atI (vec a costs) ((ask 0 : Nat) : Int) = some (.int (costs (ask 0))) := atI_vec k0 rfl
    have i9 : ixN (vec a costs).length ((b : Nat) : Int) = some b := by rw [vec_len]; exact ixN_nat nx rfl
    refine ⟨_, c0, _, d0, _, t7, (show (0 : Int) < 3 by decide), _, c1, _, _, _, rfl, rfl, i9, ?_⟩
    have t7b := (ht 7 (by omega)).1
    have t73 := mod_rng (a := tn 7) (b := 3) (by decide)
    refine pure_lw5 (rows := fun i => if i = b then rows (ask 0) else rows i) (ask := fun k => if k = 1 then b else ask k) (costs := fun i => if i = b then costs (ask 0) + 1 + tn 7 % 3 else costs i) hP W ⟨fun i hi => ?_, fun k hk => ?_⟩ (fun i hi => ?_) (fun h => ?_) (fun h hm => ?_) ?_ rfl ?_
    · show sm g (if i = b then rows (ask 0) else rows i) = wh ∧ ∀ s, s < g → 0 ≤ (if i = b then rows (ask 0) else rows i) s
      by_cases w : i = b
      · rw [if_pos w]; exact Rr.rw _ k0
      · rw [if_neg w]; exact Rr.rw _ hi
    · show (if k = 1 then b else ask k) < a
      by_cases w : k = 1
      · rw [if_pos w]; exact nx
      · rw [if_neg w]; exact Rr.ak k hk
    · show Bt 43 (if i = b then costs (ask 0) + 1 + tn 7 % 3 else costs i)
      by_cases w : i = b
      · rw [if_pos w]
        have h1 := cb _ k0
        unfold Bt at h1 ⊢
        have : (2 : Nat) ^ 43 = 2 * 2 ^ 42 := by rw [Nat.pow_succ, Nat.mul_comm]
        have : (4 : Nat) ≤ 2 ^ 42 := (Nat.pow_le_pow_right (by decide) (by decide) : (2 : Nat) ^ 2 ≤ 2 ^ 42)
        omega
      · rw [if_neg w]; exact cb' i hi
    · omega
    · refine ⟨fun s _ => ?_, ?_⟩
      · show (if (if 1 = 1 then b else ask 1) = b then rows (ask 0) else rows (if 1 = 1 then b else ask 1)) s = (if (if 0 = 1 then b else ask 0) = b then rows (ask 0) else rows (if 0 = 1 then b else ask 0)) s
        rw [if_pos rfl, if_neg (show ¬ 0 = 1 by decide), if_pos rfl, if_neg (show ¬ ask 0 = b from fun z => nn z.symm)]
      · show (if (if 0 = 1 then b else ask 0) = b then costs (ask 0) + 1 + tn 7 % 3 else costs (if 0 = 1 then b else ask 0)) < (if (if 1 = 1 then b else ask 1) = b then costs (ask 0) + 1 + tn 7 % 3 else costs (if 1 = 1 then b else ask 1))
        rw [if_pos rfl, if_neg (show ¬ 0 = 1 by decide), if_pos rfl, if_neg (show ¬ ask 0 = b from fun z => nn z.symm)]
        omega
    · unfold rowsX
      rw [mp_set]
      exact mp_congr fun i _ => by
        show (if i = b then D.lst (vec g (rows (ask 0))) else D.lst (vec g (rows i))) = D.lst (vec g (if i = b then rows (ask 0) else rows i))
        by_cases w : i = b
        · rw [if_pos w, if_pos w]
        · rw [if_neg w, if_neg w]
    · exact vec_set
  · refine pure_lw5 hP W Rr cb' t0 (fun _ z => ?_) h7 h8 h9
    have := of_decide_eq_false hm
    omega
  · refine pure_lw5 hP W Rr cb' t0 (fun z _ => ?_) h7 h8 h9
    exact absurd z (of_decide_eq_false h6)
theorem pure_lw3 (hP : LW tn P) (ht : ∀ i, i < 10 → 0 ≤ tn i ∧ tn i < 720720) (W : Wp a g many wh size) (Rr : Wr a g many wh rows ask)
    {xs7 xs8 : List D} (h7 : xs7 = rowsX a g rows) (h8 : xs8 = vec many fun k => (ask k : Nat)) :
    d_lw3 (RD P) (lwS ns tn a g many wh size (.own xs7) (.own xs8) s9 s10 s11 s12 s14 s15 s16 s17 s18) := by
  have a2 := W.a2
  have a4 := W.a4
  have m3 := W.m3
  have m1 := W.m1
  have g1 := W.g1
  have g4 := W.g4
  have t6 : atI (vec 10 tn) 6 = some (.int (tn 6)) := atI_vec (i := 6) (by omega) rfl
  refine ⟨_, rfl, _, rfl, ns, 8, rfl, by omega, fun z => ⟨_, rfl, _, rfl, _, rfl, z, a, 10, rfl, by omega, by omega, by decide, (show (10 : Int).natAbs < 2 ^ 64 by decide), fun cs hcs => ⟨_, rfl, ?_⟩⟩⟩
  refine ⟨_, t6, (show (0 : Int) < 3 by decide), fun h6 => ?_, fun h6 => ?_⟩
  · have h6' := of_decide_eq_true h6
    refine ⟨_, rfl, _, rfl, ns, 3, rfl, by omega, fun z => ⟨_, rfl, _, rfl, _, rfl, z, g, 13, rfl, by omega, by decide, (show (13 : Int).natAbs < 2 ^ 64 by decide), fun pay hpay => ⟨_, rfl, ?_⟩⟩⟩
    refine ⟨_, rfl, _, rfl, ns, 8, rfl, by omega, fun z => ⟨_, rfl, _, rfl, _, rfl, z, a, 4, rfl, by omega, by decide, (show (4 : Int).natAbs < 2 ^ 64 by decide), fun sl hsl => ⟨_, rfl, ?_⟩⟩⟩
    subst h7 h8
    have pb : ∀ s, s < g → Bt 4 (pay s) := fun s hs => by
      have := hpay s hs
      unfold Bt
      have : (2 : Nat) ^ 4 = 16 := rfl
      omega
    have rb : ∀ i s, i < a → s < g → Bt 31 (rows i s) := fun i s hi hs => by
      have h1 := Rr.rw i hi
      have h2 := sm_ge_one (n := g) (f := rows i) h1.2 hs
      rw [h1.1] at h2
      have h3 := W.wb
      have h4 := W.w1
      exact bt_le W.wb' (h1.2 s hs) h2
    have pmb : ∀ i, i < a → Bt 40 (payR g rows pay i) := fun i hi => bt_up (bt_sm (n := g) fun s hs => bt_mul (rb i s hi hs) (pb s hs)) (by omega)
    refine ⟨_, rfl, le_line (by unfold rowsX; rw [mp_len]; omega), fun i => some (.int (payR g rows pay i)), fun i e he => ?_, ?_⟩
    · obtain ⟨hi, rfl⟩ := mp_some he
      refine ⟨fun _ => ⟨by omega, by omega, le_line (by rw [rgD_len]; omega), fun s => some (.int (rows i s * pay s)), fun s e hse => ?_, ?_⟩, fun z => tf z⟩
      · obtain ⟨hs, rfl⟩ := rgD_some hse
        rw [Int.toNat_natCast] at hs
        have ez : ((0 : Int) + (s : Int)) = (s : Int) := by omega
        rw [ez]
        have x1 : atI (vec g (rows i)) (s : Int) = some (.int (rows i s)) := atI_vec hs rfl
        have x2 : atI (vec g pay) (s : Int) = some (.int (pay s)) := atI_vec hs rfl
        exact ⟨fun _ => ⟨_, x1, _, x2, mulW (rb i s hi hs) (pb s hs) (by omega) (by omega) (by omega), _, rfl, rfl⟩, fun z => tf z⟩
      · rw [fm_some, rgD_len, Int.toNat_natCast]
        refine ⟨(List.range g).map fun s => rows i s * pay s, congrArg some vec_map, _, rfl, ?_⟩
        rw [sum_sm]; rfl
    rw [fm_some, show (rowsX a g rows).length = a from mp_len]
    refine ⟨_, rfl, ?_⟩
    refine ⟨by omega, by omega, le_line (by rw [rgD_len]; omega), fun i => some (.int (payR g rows pay i + sl i * (if decide (∃ k, k < many ∧ ask k = i) then 0 else 1))), fun i e he => ?_, ?_⟩
    · obtain ⟨hi, rfl⟩ := rgD_some he
      rw [Int.toNat_natCast] at hi
      have ez : ((0 : Int) + (i : Int)) = (i : Int) := by omega
      rw [ez]
      have x1 : atI ((List.range a).map fun i => D.int (payR g rows pay i)) (i : Int) = some (.int (payR g rows pay i)) := atI_mp hi rfl
      have x2 : atI (vec a sl) (i : Int) = some (.int (sl i)) := atI_vec hi rfl
      have key : decide ((i : Int) ∈ (List.range many).map fun k => ((ask k : Nat) : Int)) = decide (∃ k, k < many ∧ ask k = i) := by
        refine decide_eq_decide.mpr ?_
        rw [List.mem_map]
        constructor
        · rintro ⟨k, hk, e⟩
          exact ⟨k, List.mem_range.mp hk, by omega⟩
        · rintro ⟨k, hk, e⟩
          exact ⟨k, List.mem_range.mpr hk, by rw [e]⟩
      have sb := hsl i hi
      refine ⟨fun _ => ⟨_, x1, _, x2, _, _, rfl, congrArg some vec_map, ?_⟩, fun z => tf z⟩
      show CMulW (sl i) (if (!decide ((i : Int) ∈ (List.range many).map fun k => ((ask k : Nat) : Int))) = true then 1 else 0) ∧ ∃ y, some (D.int (payR g rows pay i + sl i * (if (!decide ((i : Int) ∈ (List.range many).map fun k => ((ask k : Nat) : Int))) = true then 1 else 0))) = some y ∧ some (D.int (payR g rows pay i + sl i * (if decide (∃ k, k < many ∧ ask k = i) = true then 0 else 1))) = some y
      rw [key]
      have sB : Bt 4 (sl i) := by
        unfold Bt
        have : (2 : Nat) ^ 4 = 16 := rfl
        omega
      cases decide (∃ k, k < many ∧ ask k = i) with
      | true => exact ⟨mulW (b := 1) sB bt_zero (by omega) (by omega) (by omega), _, rfl, rfl⟩
      | false => exact ⟨mulW (b := 1) sB bt_one (by omega) (by omega) (by omega), _, rfl, rfl⟩
    rw [fm_some, rgD_len, Int.toNat_natCast]
    refine ⟨_, rfl, ?_⟩
    refine pure_lw4 (costs := fun i => payR g rows pay i + sl i * (if decide (∃ k, k < many ∧ ask k = i) then 0 else 1)) hP ht W Rr (fun i hi => ?_) (fun _ => ⟨pay, fun s hs => (hpay s hs).1, fun k j hk hj => ?_⟩) rfl rfl rfl
    · have sb := hsl i hi
      have : Bt 40 (sl i * (if decide (∃ k, k < many ∧ ask k = i) then 0 else 1)) := by
        have p40 : (16 : Nat) ≤ 2 ^ 40 := (Nat.pow_le_pow_right (by decide) (by decide) : (2 : Nat) ^ 4 ≤ 2 ^ 40)
        unfold Bt
        split
        · rw [Int.mul_zero]; omega
        · rw [Int.mul_one]; omega
      exact bt_up (bt_add (pmb i hi) this) (by omega)
    · show payR g rows pay (ask k) + sl (ask k) * (if decide (∃ k', k' < many ∧ ask k' = ask k) = true then 0 else 1) - (payR g rows pay j + sl j * (if decide (∃ k, k < many ∧ ask k = j) = true then 0 else 1)) ≤ _
      rw [if_pos (decide_eq_true ⟨k, hk, rfl⟩), Int.mul_zero]
      have sb := hsl j hj
      have : 0 ≤ sl j * (if decide (∃ k, k < many ∧ ask k = j) = true then 0 else 1) := by
        split
        · rw [Int.mul_zero]; omega
        · rw [Int.mul_one]; omega
      omega
  · refine pure_lw4 hP ht W Rr (fun i hi => ?_) (fun z => absurd z (of_decide_eq_false h6)) h7 h8 rfl
    have := hcs i hi
    have p40 : (16 : Nat) ≤ 2 ^ 42 := (Nat.pow_le_pow_right (by decide) (by decide) : (2 : Nat) ^ 4 ≤ 2 ^ 42)
    unfold Bt
    omega
theorem pick_row {ys : List D} {a g : Nat} {wh : Int} (hl : ys.length = a) (h : ∀ (i : Nat) (y : D), ys[i]? = some y → ∃ r : Nat → Int, y = D.lst (vec g r) ∧ (∀ s, s < g → 0 ≤ r s) ∧ sm g r = wh) : ∃ rows : Nat → Nat → Int, ys = rowsX a g rows ∧ ∀ i, i < a → sm g (rows i) = wh ∧ ∀ s, s < g → 0 ≤ rows i s := by
  have : ∀ k, ∃ r : Nat → Int, k < a → ys[k]? = some (D.lst (vec g r)) ∧ sm g r = wh ∧ ∀ s, s < g → 0 ≤ r s := fun k => by
    by_cases hk : k < a
    · have hk' : k < ys.length := by omega
      obtain ⟨r, e, h1, h2⟩ := h k ys[k] (List.getElem?_eq_getElem hk')
      exact ⟨r, fun _ => ⟨by rw [List.getElem?_eq_getElem hk', e], h2, h1⟩⟩
    · exact ⟨fun _ => 0, fun z => absurd z hk⟩
  obtain ⟨t, ht⟩ := Classical.axiomOfChoice this
  refine ⟨t, ?_, fun i hi => (ht i hi).2⟩
  apply List.ext_getElem?
  intro k
  unfold rowsX
  by_cases hk : k < a
  · rw [mp_get hk, (ht k hk).1]
  · rw [List.getElem?_eq_none (by omega), List.getElem?_eq_none (by rw [mp_len]; omega)]
theorem pure_lw2 (hP : LW tn P) (ht : ∀ i, i < 10 → 0 ≤ tn i ∧ tn i < 720720) (W : Wp a g many wh size) :
    d_lw2 (RD P) (lwS ns tn a g many wh size s7 s8 s9 s10 s11 s12 s14 s15 s16 s17 s18) := by
  have a2 := W.a2
  have a4 := W.a4
  have m3 := W.m3
  have m1 := W.m1
  have g1 := W.g1
  have g4 := W.g4
  have w1 := W.w1
  have t5 : atI (vec 10 tn) 5 = some (.int (tn 5)) := atI_vec (i := 5) (by omega) rfl
  refine ⟨by omega, by omega, le_line (by rw [rgD_len]; omega), fun _ y => ∃ r : Nat → Int, y = .lst (vec g r) ∧ (∀ s, s < g → 0 ≤ r s) ∧ sm g r = wh, fun i e he => ?_, fun ys hl hy => ?_⟩
  · obtain ⟨hi, rfl⟩ := rgD_some he
    rw [Int.toNat_natCast] at hi
    have ez : (4 : Int) + ((0 : Int) + (i : Int)) = ((4 + i : Nat) : Int) := by omega
    exact ⟨_, rfl, _, rfl, ns, 4 + i, by rw [← ez]; rfl, by omega, fun z => ⟨_, rfl, _, rfl, _, rfl, z, g, wh, rfl, g1, by omega, by omega, bt_up W.wb (by omega), fun r h1 h2 => ⟨_, rfl, r, rfl, h1, h2⟩⟩⟩
  rw [rgD_len, Int.toNat_natCast] at hl
  obtain ⟨rows, rfl, hrw⟩ := pick_row hl hy
  refine ⟨_, rfl, ?_⟩
  refine ⟨_, rfl, _, rfl, ns, 2, rfl, by omega, fun z => ⟨_, rfl, _, rfl, _, rfl, z, many, (a : Int), rfl, by omega, by omega, bt_up (bt_nat (n := a) (by omega)) (by omega), fun f hf => ⟨_, rfl, ?_⟩⟩⟩
  have ef : vec many f = vec many fun k => (((f k).toNat : Nat) : Int) := vec_congr fun k hk => by have := hf k hk; omega
  have fa : ∀ k, k < many → (f k).toNat < a := fun k hk => by have := hf k hk; omega
  rw [ef]
  refine ⟨_, t5, (show (0 : Int) < 4 by decide), fun h5 => ?_, fun h5 => ?_⟩
  · have b0 : atI (vec many fun k => (((f k).toNat : Nat) : Int)) 0 = some (.int ((f 0).toNat : Nat)) := atI_vec (i := 0) (by omega) rfl
    refine ⟨_, b0, _, rfl, le_line (by show 1 ≤ 1000000; decide), [D.int ((f 0).toNat : Nat)], many, rfl, rfl, by omega, by omega, le_line (by show 1 * (many : Int).toNat ≤ 1000000; omega), _, rfl, ?_⟩
    exact pure_lw3 (rows := rows) (ask := fun _ => (f 0).toNat) hP ht W ⟨hrw, fun k hk => fa 0 (by omega)⟩ rfl (by rw [Int.toNat_natCast, rep1]; rfl)
  · exact pure_lw3 (rows := rows) (ask := fun k => (f k).toNat) hP ht W ⟨hrw, fa⟩ rfl rfl
theorem pure_lw1 (hP : LW tn P) (ht : ∀ i, i < 10 → 0 ≤ tn i ∧ tn i < 720720) (a2 : 2 ≤ a) (a4 : a ≤ 4) (g1 : 1 ≤ g) (g4 : g ≤ 4) (m1 : 1 ≤ many) (m3 : many ≤ 3) :
    d_lw1 (RD P) (lwS ns tn a g many (2 + tn 3 % 12) 5 s7 s8 s9 s10 s11 s12 s14 s15 s16 s17 s18) := by
  have t3 : atI (vec 10 tn) 3 = some (.int (tn 3)) := atI_vec (i := 3) (by omega) rfl
  have t4 : atI (vec 10 tn) 4 = some (.int (tn 4)) := atI_vec (i := 4) (by omega) rfl
  have h3 := ht 3 (by omega)
  have p31 : (1000000 : Nat) ≤ 2 ^ 31 := by decide
  have m12 := mod_rng (a := tn 3) (b := 12) (by decide)
  refine ⟨_, t4, (show (0 : Int) < 8 by decide), fun _ => ?_, fun _ => ?_⟩
  · refine ⟨_, t3, _, rfl, ⟨by decide, by decide, by decide⟩, _, rfl, ?_⟩
    refine pure_lw2 (wh := 2 + tn 3) (size := 10 ^ 6) hP ht { a2 := a2, a4 := a4, g1 := g1, g4 := g4, m1 := m1, m3 := m3, w1 := by omega, wb := bt_up (a := 31) ?_ (by omega), wb' := ?_, s1 := by decide, sb := ?_ }
    · unfold Bt; omega
    · unfold Bt; omega
    · unfold Bt; decide
  · refine pure_lw2 (wh := 2 + tn 3 % 12) (size := 5) hP ht { a2 := a2, a4 := a4, g1 := g1, g4 := g4, m1 := m1, m3 := m3, w1 := by omega, wb := bt_up (a := 31) ?_ (by omega), wb' := ?_, s1 := by decide, sb := ?_ }
    · unfold Bt; omega
    · unfold Bt; omega
    · unfold Bt; decide
end
theorem pure__law_world (ds : List D) (P : R → Prop) (h : sp__law_world ds P) : d__law_world (RD P) (startD 19 ds) := by
  obtain ⟨ns, tn, rfl, ht, hP⟩ := h
  have t0 : atI (vec 10 tn) 0 = some (.int (tn 0)) := atI_vec (i := 0) (by omega) rfl
  have t1 : atI (vec 10 tn) 1 = some (.int (tn 1)) := atI_vec (i := 1) (by omega) rfl
  have t2 : atI (vec 10 tn) 2 = some (.int (tn 2)) := atI_vec (i := 2) (by omega) rfl
  have t3 : atI (vec 10 tn) 3 = some (.int (tn 3)) := atI_vec (i := 3) (by omega) rfl
  have m0 := mod_rng (a := tn 0) (b := 3) (by decide)
  have m1 := mod_rng (a := tn 1) (b := 4) (by decide)
  have m2 := mod_rng (a := tn 2) (b := 6) (by decide)
  obtain ⟨a, ea⟩ : ∃ a : Nat, 2 + tn 0 % 3 = (a : Int) := ⟨(2 + tn 0 % 3).toNat, by omega⟩
  obtain ⟨g, eg⟩ : ∃ g : Nat, 1 + tn 1 % 4 = (g : Int) := ⟨(1 + tn 1 % 4).toNat, by omega⟩
  obtain ⟨many, em, k1, k3⟩ : ∃ many : Nat, atI [D.int 1, .int 2, .int 2, .int 2, .int 3, .int 3] (tn 2 % 6) = some (.int many) ∧ 1 ≤ many ∧ many ≤ 3 := by
    have : tn 2 % 6 = 0 ∨ tn 2 % 6 = 1 ∨ tn 2 % 6 = 2 ∨ tn 2 % 6 = 3 ∨ tn 2 % 6 = 4 ∨ tn 2 % 6 = 5 := by omega
    rcases this with h | h | h | h | h | h <;> rw [h]
    · exact ⟨1, rfl, by decide, by decide⟩
    · exact ⟨2, rfl, by decide, by decide⟩
    · exact ⟨2, rfl, by decide, by decide⟩
    · exact ⟨2, rfl, by decide, by decide⟩
    · exact ⟨3, rfl, by decide, by decide⟩
    · exact ⟨3, rfl, by decide, by decide⟩
  refine ⟨_, t0, (show (0 : Int) < 3 by decide), _, rfl, ?_⟩
  refine ⟨_, t1, (show (0 : Int) < 4 by decide), _, rfl, ?_⟩
  refine ⟨_, rfl, _, rfl, _, rfl, _, rfl, _, rfl, _, rfl, le_line (by show 6 ≤ 1000000; decide), _, t2, (show (0 : Int) < 6 by decide), _, em, _, rfl, ?_⟩
  refine ⟨_, t3, (show (0 : Int) < 12 by decide), _, rfl, ?_⟩
  refine ⟨_, rfl, ?_⟩
  have L := pure_lw1 (ns := ns) (a := a) (g := g) (many := many) (s7 := .no) (s8 := .no) (s9 := .no) (s10 := .no) (s11 := .no) (s12 := .no) (s14 := .no) (s15 := .no) (s16 := .no) (s17 := .no) (s18 := .no) hP ht (by omega) (by omega) (by omega) (by omega) k1 k3
  unfold lwS at L
  rw [← ea, ← eg] at L
  exact L
end Dl

namespace Dl
open PySem PySem.Spec PyProof.Rows L2 Slv
theorem pure__law_alike0 (dp : Nat) (ds : List D) (P : R → Prop) (h : sp__law_alike 0 ds P) : d__law_alike dp (RD P) (startD 3 ds) := by
  rcases h with ⟨e, a, rfl, q⟩ | ⟨e, _⟩
  · refine ⟨fun h => ff h, fun _ => ⟨fun h => ff h, fun _ => ⟨fun h => ff h, fun _ => ⟨_, _, _, rfl, rfl, kII, fun _ => ?_, fun h => tf h⟩⟩⟩⟩
    refine ⟨_, rfl, a, rfl, fun _ => ⟨_, ⟨rfl, rfl⟩, ?_⟩, fun h => tf h⟩
    show P (.val (.bl (decide (a = a))))
    rw [decide_eq_true rfl]; exact q
  · cases e
end Dl

namespace Dl
open PySem PySem.Spec PyProof.Rows L2 Slv
def top (i : Nat) : Stmt := PySem.Challenge.pw_paidforsigns_k78_whole_pooled_is_ties.main.body.getD i (.Pass ⟨0, 0, 0, 0⟩)
def meth (i j : Nat) : Stmt := methOf (top i) j
theorem sc__law_draws : FnScope ["cell", "many", "size", "drawn", "left", "wide", "k", "one", "two"] ["cell", "many", "size"] (defScope (top 73)) := ⟨rfl, rfl, rfl, by decide +kernel, rfl, by decide +kernel, by decide +kernel⟩
theorem b__law_draws {P : Program} {w : World} {K : PySem.W.Frag} {mg : Str → Option Value} {base : Heap} (m_range : mg "range" = none) (m_int : mg "int" = none) (m_abs : mg "abs" = none)
  (f : Addr) (cdv : Value) (A : Around) (outer : List Env) (s : Shared) (H : Hp) (E : XK) (hr : Room 0 (A.deeper (envOfC "_law_draws" (defScope (top 73)) s.heap.objs.size f cdv))) :
  ∃ t, PXS (cxOf CX0 P w K mg base ["cell", "many", "size", "drawn", "left", "wide", "k", "one", "two"] "_law_draws" (defScope (top 73)) f cdv A outer s H E).nox (defBody (top 73)) t (d__law_draws) :=
  ⟨_, (pxs_cons (px_set (i := 3) sc__law_draws.nd rfl (by first | exact .inl rfl | exact .inr rfl) (px_lst pxa_nil))
  (pxs_cons (px_asg (px_abs (by rfl) m_abs (pxv 0)) (pxg_name (i := 4) sc__law_draws.nd rfl (by first | exact .inl rfl | exact .inr rfl)))
  (pxs_cons (px_asg (px_cmp cx_ge (pxv 4) (px_pow px_int px_int)) (pxg_name (i := 5) sc__law_draws.nd rfl (by first | exact .inl rfl | exact .inr rfl)))
  (pxs_cons (px_for PassesOwn.never rfl (px_range1 (by rfl) m_range (pxv 1)) (pxg_name sc__law_draws.nd rfl (by first | exact .inl rfl | exact .inr rfl))
  (pxs_one (px_if (pxt_w (pxw_and (pxt_val (pxv 5)) (pxw_and1 (pxt_cmp cx_gt (pxv 4) px_int))))
  (pxs_cons (px_app (pxv 3) (px_mod (px_intOf (by rfl) m_int (pxv 4)) (pxv 2)) (pe_bm PySem.F.plainAttrs_list PySem.F.slot_list_append PySem.F.type_list_append mt_append (pxv 3).p (pa_cons (px_mod (px_intOf (by rfl) m_int (pxv 4)) (pxv 2)).p pa_nil)))
  (pxs_one (px_asg (px_fdiv (pxv 4) (pxv 2)) (pxg_name (i := 4) sc__law_draws.nd rfl (by first | exact .inl rfl | exact .inr rfl)))))
  (pxs_cons (px_asg (px_mod (px_intOf (by rfl) m_int (px_add (px_mulA (pxv 0) px_int) (px_mulA (px_add (pxv 6) px_int) px_int))) px_int) (pxg_name (i := 7) sc__law_draws.nd rfl (by first | exact .inl rfl | exact .inr rfl)))
  (pxs_cons (px_asg (px_mod (px_intOf (by rfl) m_int (px_add (px_mulA (pxv 0) px_int) (px_mulA (px_add (pxv 6) px_int) px_int))) px_int) (pxg_name (i := 8) sc__law_draws.nd rfl (by first | exact .inl rfl | exact .inr rfl)))
  (pxs_one (px_app (pxv 3) (px_mod (px_intOf (by rfl) m_int (px_fdiv (px_mulA (pxv 7) (pxv 8)) px_int)) (pxv 2)) (pe_bm PySem.F.plainAttrs_list PySem.F.slot_list_append PySem.F.type_list_append mt_append (pxv 3).p (pa_cons (px_mod (px_intOf (by rfl) m_int (px_fdiv (px_mulA (pxv 7) (pxv 8)) px_int)) (pxv 2)).p pa_nil)))))))))
  (pxs_one (px_retV 3 (pxv 3)))))))⟩
theorem sc__law_costs : FnScope ["cell", "many", "size", "costs", "free"] ["cell", "many", "size"] (defScope (top 75)) := ⟨rfl, rfl, rfl, by decide +kernel, rfl, by decide +kernel, by decide +kernel⟩
theorem b__law_costs {P : Program} {w : World} {K : PySem.W.Frag} {mg : Str → Option Value} {base : Heap} (m_int : mg "int" = none) (k__law_draws : Kn P w K mg base "_law_draws" ["cell", "many", "size"] 1 sp__law_draws [])
  (f : Addr) (cdv : Value) (A : Around) (outer : List Env) (s : Shared) (H : Hp) (E : XK) (hr : Room 1 (A.deeper (envOfC "_law_costs" (defScope (top 75)) s.heap.objs.size f cdv))) :
  ∃ t, PXS (cxOf CX0 P w K mg base ["cell", "many", "size", "costs", "free"] "_law_costs" (defScope (top 75)) f cdv A outer s H E).nox (defBody (top 75)) t (d__law_costs) :=
  ⟨_, (pxs_cons (px_asg (px_k k__law_draws sp__law_draws_m hr (by decide) (by rfl) (fun _ => .nil) (pxa_cons (pxv 0) (pxa_cons (px_add (pxv 1) px_int) (pxa_cons (pxv 2) pxa_nil)))) (pxg_name (i := 3) sc__law_costs.nd rfl (by first | exact .inl rfl | exact .inr rfl)))
  (pxs_cons (px_asg (px_mod (px_intOf (by rfl) m_int (px_ix (pxv 3) (pxv 1))) (pxv 1)) (pxg_name (i := 4) sc__law_costs.nd rfl (by first | exact .inl rfl | exact .inr rfl)))
  (pxs_one (px_ret (px_cat (px_cat (px_sl (pxv 3) pxo_none (pxo_some (pxv 4))) (px_lst (pxa_cons px_int pxa_nil))) (px_sl (pxv 3) (pxo_some (px_add (pxv 4) px_int)) (pxo_some (pxv 1))))))))⟩
theorem sc__law_row : FnScope ["cell", "signs", "whole", "cuts", "k"] ["cell", "signs", "whole"] (defScope (top 74)) := ⟨rfl, rfl, rfl, by decide +kernel, rfl, by decide +kernel, by decide +kernel⟩
theorem b__law_row {P : Program} {w : World} {K : PySem.W.Frag} {mg : Str → Option Value} {base : Heap} (m_range : mg "range" = none) (m_sorted : mg "sorted" = none) (k__law_draws : Kn P w K mg base "_law_draws" ["cell", "many", "size"] 1 sp__law_draws [])
  (f : Addr) (cdv : Value) (A : Around) (outer : List Env) (s : Shared) (H : Hp) (E : XK) (hr : Room 1 (A.deeper (envOfC "_law_row" (defScope (top 74)) s.heap.objs.size f cdv))) :
  ∃ t, PXS (cxOf CX0 P w K mg base ["cell", "signs", "whole", "cuts", "k"] "_law_row" (defScope (top 74)) f cdv A outer s H E).nox (defBody (top 74)) t (d__law_row) :=
  ⟨_, (pxs_cons (px_asg (px_cat (px_cat (px_lst (pxa_cons px_int pxa_nil)) (px_sorted (by rfl) m_sorted (px_k k__law_draws sp__law_draws_m hr (by decide) (by rfl) (fun _ => .nil) (pxa_cons (pxv 0) (pxa_cons (px_sub (pxv 1) px_int) (pxa_cons (px_add (pxv 2) px_int) pxa_nil)))))) (px_lst (pxa_cons (pxv 2) pxa_nil))) (pxg_name (i := 3) sc__law_row.nd rfl (by first | exact .inl rfl | exact .inr rfl)))
  (pxs_one (px_ret (px_lc (own := [("k", 4)]) (g := (gName 4)) (tt := tYes) (te := (tOp (rI0 fun i j => .int (i - j)) (tOp (rIx K) (tVar 3) (tOp (rI0 fun i j => .int (i + j)) (tVar 4) (tC (.int 1)))) (tOp (rIx K) (tVar 3) (tVar 4)))) rfl sc__law_row.nd (px_range1 (by rfl) m_range (pxv 1)) (blkOk_by (N := ["cell", "signs", "whole", "cuts", "k"]) (sc := defScope (top 74)) (by decide +kernel)) (fun _ _ _ _ _ => (pxgc_name sc__law_row.nd)) (fun _ _ _ _ _ => pxts_nil) (fun _ _ _ _ _ => (px_sub (px_ix (pxv 3) (px_add (pxv 4) px_int)) (px_ix (pxv 3) (pxv 4))))))))⟩
theorem sc__law_cell : FnScope ["script", "k"] ["script", "k"] (defScope (top 72)) := ⟨rfl, rfl, rfl, by decide +kernel, rfl, by decide +kernel, by decide +kernel⟩
theorem b__law_cell {P : Program} {w : World} {K : PySem.W.Frag} {mg : Str → Option Value} {base : Heap} (m_int : mg "int" = none) (m_len : mg "len" = none)
  (f : Addr) (cdv : Value) (A : Around) (outer : List Env) (s : Shared) (H : Hp) (E : XK) (hr : Room 0 (A.deeper (envOfC "_law_cell" (defScope (top 72)) s.heap.objs.size f cdv))) :
  ∃ t, PXS (cxOf CX0 P w K mg base ["script", "k"] "_law_cell" (defScope (top 72)) f cdv A outer s H E).nox (defBody (top 72)) t (d__law_cell) :=
  ⟨_, (pxs_cons (px_if (pxt_cmp cx_lt (pxv 1) (px_len (by rfl) m_len (pxv 0)))
  (pxs_one (px_ret (px_intOf (by rfl) m_int (px_ix (pxv 0) (pxv 1)))))
  pxs_nil)
  (pxs_cons (px_if (pxt_cmp cx_eq (px_len (by rfl) m_len (pxv 0)) px_int)
  (pxs_one (px_ret (px_add (px_mulA px_int (pxv 1)) px_int)))
  pxs_nil)
  (pxs_one (px_ret (px_add (px_add (px_mulA (px_intOf (by rfl) m_int (px_ix (pxv 0) (px_mod (pxv 1) (px_len (by rfl) m_len (pxv 0))))) (px_add (pxv 1) px_int)) (px_mulA px_int (pxv 1))) px_int)))))⟩
theorem sc__law_world : FnScope ["script", "turns", "deeds", "signs", "many", "whole", "size", "rows", "asked", "costs", "pay", "slacks", "means", "weights", "k", "row", "s", "each", "digit"] ["script", "turns"] (defScope (top 95)) := ⟨rfl, rfl, rfl, by decide +kernel, rfl, by decide +kernel, by decide +kernel⟩
theorem b__law_world {P : Program} {w : World} {K : PySem.W.Frag} {mg : Str → Option Value} {base : Heap} (k__law_draws : Kn P w K mg base "_law_draws" ["cell", "many", "size"] 1 sp__law_draws []) (k__law_cell : Kn P w K mg base "_law_cell" ["script", "k"] 1 sp__law_cell []) (m_min : mg "min" = none) (m_int : mg "int" = none) (m_list : mg "list" = none) (m_range : mg "range" = none) (m_sum : mg "sum" = none) (k__law_costs : Kn P w K mg base "_law_costs" ["cell", "many", "size"] 2 sp__law_costs []) (k__law_row : Kn P w K mg base "_law_row" ["cell", "signs", "whole"] 2 sp__law_row [])
  (f : Addr) (cdv : Value) (A : Around) (outer : List Env) (s : Shared) (H : Hp) (E : XK) (hr : Room 2 (A.deeper (envOfC "_law_world" (defScope (top 95)) s.heap.objs.size f cdv))) :
  ∃ t, PXS (cxOf CX0 P w K mg base ["script", "turns", "deeds", "signs", "many", "whole", "size", "rows", "asked", "costs", "pay", "slacks", "means", "weights", "k", "row", "s", "each", "digit"] "_law_world" (defScope (top 95)) f cdv A outer s H E).nox (defBody (top 95)) t (d__law_world) :=
  ⟨_, (pxs_cons (px_asg (px_add px_int (px_mod (px_intOf (by rfl) m_int (px_ix (pxv 1) px_int)) px_int)) (pxg_name (i := 2) sc__law_world.nd rfl (by first | exact .inl rfl | exact .inr rfl)))
  (pxs_cons (px_asg (px_add px_int (px_mod (px_intOf (by rfl) m_int (px_ix (pxv 1) px_int)) px_int)) (pxg_name (i := 3) sc__law_world.nd rfl (by first | exact .inl rfl | exact .inr rfl)))
  (pxs_cons (px_asg (px_ix (px_lst (pxa_cons px_int (pxa_cons px_int (pxa_cons px_int (pxa_cons px_int (pxa_cons px_int (pxa_cons px_int pxa_nil))))))) (px_mod (px_intOf (by rfl) m_int (px_ix (pxv 1) px_int)) px_int)) (pxg_name (i := 4) sc__law_world.nd rfl (by first | exact .inl rfl | exact .inr rfl)))
  (pxs_cons (px_asg (px_add px_int (px_mod (px_intOf (by rfl) m_int (px_ix (pxv 1) px_int)) px_int)) (pxg_name (i := 5) sc__law_world.nd rfl (by first | exact .inl rfl | exact .inr rfl)))
  (pxs_cons (px_asg px_int (pxg_name (i := 6) sc__law_world.nd rfl (by first | exact .inl rfl | exact .inr rfl)))
  (pxs_cons (px_if (pxt_cmp cx_eq (px_mod (px_intOf (by rfl) m_int (px_ix (pxv 1) px_int)) px_int) px_int)
  (pxs_cons (px_asg (px_add px_int (px_intOf (by rfl) m_int (px_ix (pxv 1) px_int))) (pxg_name (i := 5) sc__law_world.nd rfl (by first | exact .inl rfl | exact .inr rfl)))
  (pxs_one (px_asg (px_pow px_int px_int) (pxg_name (i := 6) sc__law_world.nd rfl (by first | exact .inl rfl | exact .inr rfl)))))
  pxs_nil)
  (pxs_cons (px_setLcD (i := 7) (own := [("k", 14)]) (g := (gName 14)) (te := (tCall (liftSp K sp__law_row) [] E0 (tCons (tCall (liftSp K sp__law_cell) [] E0 (tCons (tVar 0) (tCons (tOp (rI0 fun i j => .int (i + j)) (tC (.int 4)) (tVar 14)) tNil))) (tCons (tVar 3) (tCons (tVar 5) tNil))))) rfl sc__law_world.nd (px_range1 (by rfl) m_range (pxv 2)) (blkOk_by (N := ["script", "turns", "deeds", "signs", "many", "whole", "size", "rows", "asked", "costs", "pay", "slacks", "means", "weights", "k", "row", "s", "each", "digit"]) (sc := defScope (top 95)) (by decide +kernel)) (fun _ _ _ _ _ => (pxgc_name sc__law_world.nd)) (fun _ _ _ _ _ => (px_k k__law_row sp__law_row_m hr (by decide) (by rfl) (fun _ => .nil) (pxa_cons (px_k k__law_cell sp__law_cell_m hr (by decide) (by rfl) (fun _ => .nil) (pxa_cons (pxv 0) (pxa_cons (px_add px_int (pxv 14)) pxa_nil))) (pxa_cons (pxv 3) (pxa_cons (pxv 5) pxa_nil))))))
  (pxs_cons (px_set (i := 8) sc__law_world.nd rfl (by first | exact .inl rfl | exact .inr rfl) (px_k k__law_draws sp__law_draws_m hr (by decide) (by rfl) (fun _ => .nil) (pxa_cons (px_k k__law_cell sp__law_cell_m hr (by decide) (by rfl) (fun _ => .nil) (pxa_cons (pxv 0) (pxa_cons px_int pxa_nil))) (pxa_cons (pxv 4) (pxa_cons (pxv 2) pxa_nil)))))
  (pxs_cons (px_if (pxt_cmp cx_eq (px_mod (px_intOf (by rfl) m_int (px_ix (pxv 1) px_int)) px_int) px_int)
  (pxs_one (px_set (i := 8) sc__law_world.nd rfl (by first | exact .inl rfl | exact .inr rfl) (px_rep (px_lst (pxa_cons (px_ix (pxv 8) px_int) pxa_nil)) (pxv 4))))
  pxs_nil)
  (pxs_cons (px_set (i := 9) sc__law_world.nd rfl (by first | exact .inl rfl | exact .inr rfl) (px_k k__law_costs sp__law_costs_m hr (by decide) (by rfl) (fun _ => .nil) (pxa_cons (px_k k__law_cell sp__law_cell_m hr (by decide) (by rfl) (fun _ => .nil) (pxa_cons (pxv 0) (pxa_cons px_int pxa_nil))) (pxa_cons (pxv 2) (pxa_cons px_int pxa_nil)))))
  (pxs_cons (px_if (pxt_cmp cx_eq (px_mod (px_intOf (by rfl) m_int (px_ix (pxv 1) px_int)) px_int) px_int)
  (pxs_cons (px_asg (px_k k__law_draws sp__law_draws_m hr (by decide) (by rfl) (fun _ => .nil) (pxa_cons (px_k k__law_cell sp__law_cell_m hr (by decide) (by rfl) (fun _ => .nil) (pxa_cons (pxv 0) (pxa_cons px_int pxa_nil))) (pxa_cons (pxv 3) (pxa_cons px_int pxa_nil)))) (pxg_name (i := 10) sc__law_world.nd rfl (by first | exact .inl rfl | exact .inr rfl)))
  (pxs_cons (px_asg (px_k k__law_draws sp__law_draws_m hr (by decide) (by rfl) (fun _ => .nil) (pxa_cons (px_k k__law_cell sp__law_cell_m hr (by decide) (by rfl) (fun _ => .nil) (pxa_cons (pxv 0) (pxa_cons px_int pxa_nil))) (pxa_cons (pxv 2) (pxa_cons px_int pxa_nil)))) (pxg_name (i := 11) sc__law_world.nd rfl (by first | exact .inl rfl | exact .inr rfl)))
  (pxs_cons (px_asg (px_lc (own := [("row", 15)]) (g := (gName 15)) (tt := tYes) (te := (tCB (rSumA K) (tCons (tLc (iRng1 (tCons (tVar 3) tNil)) (gName 16) tYes (tOp (rI CMulW fun i j => .int (i * j)) (tOp (rIx K) (tVar 15) (tVar 16)) (tOp (rIx K) (tVar 10) (tVar 16))) [16]) tNil))) rfl sc__law_world.nd (px_iter (pxv 7)) (blkOk_by (N := ["script", "turns", "deeds", "signs", "many", "whole", "size", "rows", "asked", "costs", "pay", "slacks", "means", "weights", "k", "row", "s", "each", "digit"]) (sc := defScope (top 95)) (by decide +kernel)) (fun _ _ _ _ _ => (pxgc_name sc__law_world.nd)) (fun _ _ _ _ _ => pxts_nil) (fun _ _ _ _ _ => (px_sum rfl (by rfl) m_sum (px_lc (own := [("s", 16)]) (g := (gName 16)) (tt := tYes) (te := (tOp (rI CMulW fun i j => .int (i * j)) (tOp (rIx K) (tVar 15) (tVar 16)) (tOp (rIx K) (tVar 10) (tVar 16)))) rfl sc__law_world.nd (px_range1 (by rfl) m_range (pxv 3)) (blkOk_by (by kernel_rfl)) (fun _ _ _ _ _ => (pxgc_name sc__law_world.nd)) (fun _ _ _ _ _ => pxts_nil) (fun _ _ _ _ _ => (px_mul (px_ix (pxv 15) (pxv 16)) (px_ix (pxv 10) (pxv 16)))))))) (pxg_name (i := 12) sc__law_world.nd rfl (by first | exact .inl rfl | exact .inr rfl)))
  (pxs_one (px_set (i := 9) sc__law_world.nd rfl (by first | exact .inl rfl | exact .inr rfl) (px_lc (own := [("k", 14)]) (g := (gName 14)) (tt := tYes) (te := (tOp (rI0 fun i j => .int (i + j)) (tOp (rIx K) (tVar 12) (tVar 14)) (tOp (rI CMulW fun i j => .int (i * j)) (tOp (rIx K) (tVar 11) (tVar 14)) (tCB rInt1 (tCons (tOp (rIn K true) (tVar 14) (tVar 8)) tNil))))) rfl sc__law_world.nd (px_range1 (by rfl) m_range (pxv 2)) (blkOk_by (N := ["script", "turns", "deeds", "signs", "many", "whole", "size", "rows", "asked", "costs", "pay", "slacks", "means", "weights", "k", "row", "s", "each", "digit"]) (sc := defScope (top 95)) (by decide +kernel)) (fun _ _ _ _ _ => (pxgc_name sc__law_world.nd)) (fun _ _ _ _ _ => pxts_nil) (fun _ _ _ _ _ => (px_add (px_ix (pxv 12) (pxv 14)) (px_mul (px_ix (pxv 11) (pxv 14)) (px_intOf (by rfl) m_int (px_notin (pxv 14) (pxv 8))))))))))))
  pxs_nil)
  (pxs_cons (px_if (pxt_w (pxw_and (pxt_cmp cx_eq (px_mod (px_intOf (by rfl) m_int (px_ix (pxv 1) px_int)) px_int) px_int) (pxw_and1 (pxt_cmp cx_gt (pxv 4) px_int))))
  (pxs_cons (px_setI (pxv 8) px_int (px_mod (px_intOf (by rfl) m_int (px_add (px_ix (pxv 8) px_int) px_int)) (pxv 2)))
  (pxs_cons (px_setI (pxv 7) (px_ix (pxv 8) px_int) (px_list (by rfl) m_list (px_ix (pxv 7) (px_ix (pxv 8) px_int))))
  (pxs_one (px_setI (pxv 9) (px_ix (pxv 8) px_int) (px_add (px_add (px_ix (pxv 9) (px_ix (pxv 8) px_int)) px_int) (px_mod (px_intOf (by rfl) m_int (px_ix (pxv 1) px_int)) px_int))))))
  pxs_nil)
  (pxs_frz 8 (pxs_frz 7 (pxs_cons (px_set (i := 9) sc__law_world.nd rfl (by first | exact .inl rfl | exact .inr rfl) (px_lc (own := [("each", 17)]) (g := (gName 17)) (tt := tYes) (te := (tOp (rI0 fun i j => .int (i - j)) (tVar 17) (tCB (rMinA K) (tCons (tVar 9) tNil)))) rfl sc__law_world.nd (px_iter (pxv 9)) (blkOk_by (N := ["script", "turns", "deeds", "signs", "many", "whole", "size", "rows", "asked", "costs", "pay", "slacks", "means", "weights", "k", "row", "s", "each", "digit"]) (sc := defScope (top 95)) (by decide +kernel)) (fun _ _ _ _ _ => (pxgc_name sc__law_world.nd)) (fun _ _ _ _ _ => pxts_nil) (fun _ _ _ _ _ => (px_sub (pxv 17) (px_min rfl (by rfl) m_min (pxv 9))))))
  (pxs_frz 9 (pxs_cons (px_setLcG (i := 13) (own := [("digit", 18)]) (g := (gName 18)) (tt := tYes) (te := (tOp (rI0 fun i j => .int (i + j)) (tC (.int 1)) (tVar 18))) rfl sc__law_world.nd (px_iter (px_k k__law_draws sp__law_draws_m hr (by decide) (by rfl) (fun _ => .nil) (pxa_cons (px_k k__law_cell sp__law_cell_m hr (by decide) (by rfl) (fun _ => .nil) (pxa_cons (pxv 0) (pxa_cons px_int pxa_nil))) (pxa_cons (pxv 4) (pxa_cons (pxv 6) pxa_nil))))) (blkOk_by (N := ["script", "turns", "deeds", "signs", "many", "whole", "size", "rows", "asked", "costs", "pay", "slacks", "means", "weights", "k", "row", "s", "each", "digit"]) (sc := defScope (top 95)) (by decide +kernel)) (fun _ _ _ _ _ => (pxgc_name sc__law_world.nd)) (fun _ _ _ _ _ => pxts_nil) (fun _ _ _ _ _ => (px_add px_int (pxv 18))))
  (pxs_one (px_ret (px_tup (pxa_cons (pxv 13) (pxa_cons (pxv 9) (pxa_cons (pxv 7) (pxa_cons (pxv 8) pxa_nil))))))))))))))))))))))))⟩
theorem sc_first_fault_books : FnScope ["costs", "rows", "worths", "row"] ["costs", "rows", "worths"] (defScope (top 16)) := ⟨rfl, rfl, rfl, by decide +kernel, rfl, by decide +kernel, by decide +kernel⟩
theorem b_first_fault_books {P : Program} {w : World} {K : PySem.W.Frag} {mg : Str → Option Value} {base : Heap} (m_min : mg "min" = none) (m_sum : mg "sum" = none) (m_len : mg "len" = none)
  (f : Addr) (cdv : Value) (A : Around) (outer : List Env) (s : Shared) (H : Hp) (E : XK) (hr : Room 0 (A.deeper (envOfC "first_fault" (defScope (top 16)) s.heap.objs.size f cdv))) :
  ∃ t, PXS (cxOf CX0 P w K mg base ["costs", "rows", "worths", "row"] "first_fault" (defScope (top 16)) f cdv A outer s H E).nox (defBody (top 16)) t (d_first_fault_books) :=
  ⟨_, (pxs_cons (px_if (pxt_w (pxw_or (pxt_cmp cx_eq (px_len (by rfl) m_len (pxv 0)) px_int) (pxw_or (pxt_cmp cx_ne (px_len (by rfl) m_len (pxv 1)) (px_len (by rfl) m_len (pxv 0))) (pxw_or1 (pxt_cmp cx_ne (px_len (by rfl) m_len (pxv 2)) (px_len (by rfl) m_len (pxv 0)))))))
  (pxs_one (px_ret px_str))
  pxs_nil)
  (pxs_cons (px_if (pxt_cmp cx_eq (px_len (by rfl) m_len (px_ix (pxv 1) px_int)) px_int)
  (pxs_one (px_ret px_str))
  pxs_nil)
  (pxs_cons (px_if (pxt_cmp cx_ne (px_min rfl (by rfl) m_min (pxv 0)) px_int)
  (pxs_one (px_ret px_str))
  pxs_nil)
  (pxs_cons (px_for PassesOwn.never rfl (px_iter (pxv 1)) (pxg_name sc_first_fault_books.nd rfl (by first | exact .inl rfl | exact .inr rfl))
  (pxs_one (px_if (pxt_w (pxw_or (pxt_cmp cx_ne (px_len (by rfl) m_len (pxv 3)) (px_len (by rfl) m_len (px_ix (pxv 1) px_int))) (pxw_or (pxt_cmp cx_lt (px_min rfl (by rfl) m_min (pxv 3)) px_int) (pxw_or (pxt_cmp cx_ne (px_sum rfl (by rfl) m_sum (pxv 3)) (px_sum rfl (by rfl) m_sum (px_ix (pxv 1) px_int))) (pxw_or1 (pxt_cmp cx_eq (px_sum rfl (by rfl) m_sum (pxv 3)) px_int))))))
  (pxs_one (px_ret px_str))
  pxs_nil)))
  (pxs_cons (px_if (pxt_cmp cx_lt (px_min rfl (by rfl) m_min (pxv 2)) px_int)
  (pxs_one (px_ret px_str))
  pxs_nil)
  (pxs_one (px_ret px_non)))))))⟩
theorem sc_Book_init : FnScope ["self", "costs", "rows", "worths", "fault", "row"] ["self", "costs", "rows", "worths"] (defScope (meth 19 0)) := ⟨rfl, rfl, rfl, by decide +kernel, rfl, by decide +kernel, by decide +kernel⟩
theorem b_Book_init {P : Program} {w : World} {K : PySem.W.Frag} {mg : Str → Option Value} {base : Heap} {c : Ad} (m_sum : mg "sum" = none) (cls_Book : Cls K c.Book) (na_Book_whole : NoAttr K c.Book "whole") (m_len : mg "len" = none) (na_Book_signs : NoAttr K c.Book "signs") (na_Book_deeds : NoAttr K c.Book "deeds") (m_tuple : mg "tuple" = none) (na_Book_worths : NoAttr K c.Book "worths") (na_Book_rows : NoAttr K c.Book "rows") (na_Book_costs : NoAttr K c.Book "costs") (k_first_fault_books : Kn P w K mg base "first_fault_books" ["costs", "rows", "worths"] 1 sp_first_fault_books []) (m_max : mg "max" = none) (i_SIGNS : ∃ t, mg "SIGNS" = some (.int 9 t)) (i_DEEDS : ∃ t, mg "DEEDS" = some (.int 16 t))
  (f : Addr) (cdv : Value) (A : Around) (outer : List Env) (s : Shared) (H : Hp) (E : XK) (hr : Room 1 (A.deeper (envOfC "Book.__init__" (defScope (meth 19 0)) s.heap.objs.size f cdv))) :
  ∃ t, PXS (cxOf CX0 P w K mg base ["self", "costs", "rows", "worths", "fault", "row"] "Book.__init__" (defScope (meth 19 0)) f cdv A outer s H E).nox (defBody (meth 19 0)) t (d_Book_init c) :=
  ⟨_, (pxs_cons (px_if (pxt_cmp cx_gt (px_len (by rfl) m_len (pxv 1)) (px_gintE (by rfl) i_DEEDS))
  (pxs_one px_never)
  pxs_nil)
  (pxs_cons (px_if (pxt_cmp cx_gt (px_max rfl (by rfl) m_max (px_cat (px_lst (pxa_cons px_int pxa_nil)) (px_lc (own := [("row", 5)]) (g := (gName 5)) (tt := tYes) (te := (tCB (rLenQ K) (tCons (tVar 5) tNil))) rfl sc_Book_init.nd (px_iter (pxv 2)) (blkOk_by (N := ["self", "costs", "rows", "worths", "fault", "row"]) (sc := defScope (meth 19 0)) (by decide +kernel)) (fun _ _ _ _ _ => (pxgc_name sc_Book_init.nd)) (fun _ _ _ _ _ => pxts_nil) (fun _ _ _ _ _ => (px_len (by rfl) m_len (pxv 5)))))) (px_gintE (by rfl) i_SIGNS))
  (pxs_one px_never)
  pxs_nil)
  (pxs_cons (px_asg (px_k k_first_fault_books sp_first_fault_books_m hr (by decide) (by rfl) (fun _ => .nil) (pxa_cons (pxv 1) (pxa_cons (pxv 2) (pxa_cons (pxv 3) pxa_nil)))) (pxg_name (i := 4) sc_Book_init.nd rfl (by first | exact .inl rfl | exact .inr rfl)))
  (pxs_cons (px_if (pxt_cmp cx_notN (pxv 4) px_non)
  (pxs_one px_never)
  pxs_nil)
  (pxs_cons (px_fldSet cls_Book na_Book_costs (pxv 0) (px_tupleOf (by rfl) m_tuple (pxv 1)))
  (pxs_cons (px_fldSet cls_Book na_Book_rows (pxv 0) (px_tupleOf (by rfl) m_tuple (px_lc (own := [("row", 5)]) (g := (gName 5)) (tt := tYes) (te := (tCB (rTupQ K) (tCons (tVar 5) tNil))) rfl sc_Book_init.nd (px_iter (pxv 2)) (blkOk_by (N := ["self", "costs", "rows", "worths", "fault", "row"]) (sc := defScope (meth 19 0)) (by decide +kernel)) (fun _ _ _ _ _ => (pxgc_name sc_Book_init.nd)) (fun _ _ _ _ _ => pxts_nil) (fun _ _ _ _ _ => (px_tupleOf (by rfl) m_tuple (pxv 5))))))
  (pxs_cons (px_fldSet cls_Book na_Book_worths (pxv 0) (px_tupleOf (by rfl) m_tuple (pxv 3)))
  (pxs_cons (px_fldSet cls_Book na_Book_deeds (pxv 0) (px_len (by rfl) m_len (pxv 1)))
  (pxs_cons (px_fldSet cls_Book na_Book_signs (pxv 0) (px_len (by rfl) m_len (px_ix (pxv 2) px_int)))
  (pxs_one (px_fldSet cls_Book na_Book_whole (pxv 0) (px_sum rfl (by rfl) m_sum (px_ix (pxv 2) px_int)))))))))))))⟩
theorem sc_first_fault_kinds : FnScope ["weights", "books", "book"] ["weights", "books"] (defScope (top 64)) := ⟨rfl, rfl, rfl, by decide +kernel, rfl, by decide +kernel, by decide +kernel⟩
theorem b_first_fault_kinds {P : Program} {w : World} {K : PySem.W.Frag} {mg : Str → Option Value} {base : Heap} (m_min : mg "min" = none) (m_len : mg "len" = none)
  (f : Addr) (cdv : Value) (A : Around) (outer : List Env) (s : Shared) (H : Hp) (E : XK) (hr : Room 0 (A.deeper (envOfC "first_fault" (defScope (top 64)) s.heap.objs.size f cdv))) :
  ∃ t, PXS (cxOf CX0 P w K mg base ["weights", "books", "book"] "first_fault" (defScope (top 64)) f cdv A outer s H E).nox (defBody (top 64)) t (d_first_fault_kinds) :=
  ⟨_, (pxs_cons (px_if (pxt_w (pxw_or (pxt_cmp cx_eq (px_len (by rfl) m_len (pxv 1)) px_int) (pxw_or1 (pxt_cmp cx_ne (px_len (by rfl) m_len (pxv 0)) (px_len (by rfl) m_len (pxv 1))))))
  (pxs_one (px_ret px_str))
  pxs_nil)
  (pxs_cons (px_if (pxt_cmp cx_lt (px_min rfl (by rfl) m_min (pxv 0)) px_int)
  (pxs_one (px_ret px_str))
  pxs_nil)
  (pxs_cons (px_for PassesOwn.never rfl (px_iter (pxv 1)) (pxg_name sc_first_fault_kinds.nd rfl (by first | exact .inl rfl | exact .inr rfl))
  (pxs_one (px_if (pxt_w (pxw_or (pxt_cmp cx_ne (px_fld (pxv 2)) (px_fld (px_ix (pxv 1) px_int))) (pxw_or (pxt_cmp cx_ne (px_fld (pxv 2)) (px_fld (px_ix (pxv 1) px_int))) (pxw_or1 (pxt_cmp cx_ne (px_fld (pxv 2)) (px_fld (px_ix (pxv 1) px_int)))))))
  (pxs_one (px_ret px_str))
  pxs_nil)))
  (pxs_one (px_ret px_non)))))⟩
theorem sc_Kinds_init : FnScope ["self", "weights", "books", "fault"] ["self", "weights", "books"] (defScope (meth 66 0)) := ⟨rfl, rfl, rfl, by decide +kernel, rfl, by decide +kernel, by decide +kernel⟩
theorem b_Kinds_init {P : Program} {w : World} {K : PySem.W.Frag} {mg : Str → Option Value} {base : Heap} {c : Ad} (cls_Kinds : Cls K c.Kinds) (na_Kinds_whole : NoAttr K c.Kinds "whole") (na_Kinds_signs : NoAttr K c.Kinds "signs") (na_Kinds_deeds : NoAttr K c.Kinds "deeds") (m_len : mg "len" = none) (na_Kinds_many : NoAttr K c.Kinds "many") (m_tuple : mg "tuple" = none) (na_Kinds_books : NoAttr K c.Kinds "books") (na_Kinds_weights : NoAttr K c.Kinds "weights") (i_SIDE : ∃ t, mg "SIDE" = some (.int 4 t)) (k_first_fault_kinds : Kn P w K mg base "first_fault_kinds" ["weights", "books"] 1 (sp_first_fault_kinds c) []) (i_KINDS : ∃ t, mg "KINDS" = some (.int 3 t))
  (f : Addr) (cdv : Value) (A : Around) (outer : List Env) (s : Shared) (H : Hp) (E : XK) (hr : Room 1 (A.deeper (envOfC "Kinds.__init__" (defScope (meth 66 0)) s.heap.objs.size f cdv))) :
  ∃ t, PXS (cxOf CX0 P w K mg base ["self", "weights", "books", "fault"] "Kinds.__init__" (defScope (meth 66 0)) f cdv A outer s H E).nox (defBody (meth 66 0)) t (d_Kinds_init c) :=
  ⟨_, (pxs_cons (px_if (pxt_cmp cx_gt (px_len (by rfl) m_len (pxv 2)) (px_gintE (by rfl) i_KINDS))
  (pxs_one px_never)
  pxs_nil)
  (pxs_cons (px_asg (px_k k_first_fault_kinds (sp_first_fault_kinds_m c) hr (by decide) (by rfl) (fun _ => .nil) (pxa_cons (pxv 1) (pxa_cons (pxv 2) pxa_nil))) (pxg_name (i := 3) sc_Kinds_init.nd rfl (by first | exact .inl rfl | exact .inr rfl)))
  (pxs_cons (px_if (pxt_cmp cx_notN (pxv 3) px_non)
  (pxs_one px_never)
  pxs_nil)
  (pxs_cons (px_if (pxt_w (pxw_or (pxt_cmp cx_gt (px_fld (px_ix (pxv 2) px_int)) (px_gintE (by rfl) i_SIDE)) (pxw_or1 (pxt_cmp cx_gt (px_fld (px_ix (pxv 2) px_int)) (px_gintE (by rfl) i_SIDE)))))
  (pxs_one px_never)
  pxs_nil)
  (pxs_cons (px_fldSet cls_Kinds na_Kinds_weights (pxv 0) (px_tupleOf (by rfl) m_tuple (pxv 1)))
  (pxs_cons (px_fldSet cls_Kinds na_Kinds_books (pxv 0) (px_tupleOf (by rfl) m_tuple (pxv 2)))
  (pxs_cons (px_fldSet cls_Kinds na_Kinds_many (pxv 0) (px_len (by rfl) m_len (pxv 2)))
  (pxs_cons (px_fldSet cls_Kinds na_Kinds_deeds (pxv 0) (px_fld (px_ix (pxv 2) px_int)))
  (pxs_cons (px_fldSet cls_Kinds na_Kinds_signs (pxv 0) (px_fld (px_ix (pxv 2) px_int)))
  (pxs_one (px_fldSet cls_Kinds na_Kinds_whole (pxv 0) (px_fld (px_ix (pxv 2) px_int)))))))))))))⟩
theorem sc_first_table : FnScope ["goal", "rows", "size", "table", "k", "coefficients", "bound", "j"] ["goal", "rows"] (defScope (top 36)) := ⟨rfl, rfl, rfl, by decide +kernel, rfl, by decide +kernel, by decide +kernel⟩
theorem b_first_table {P : Program} {w : World} {K : PySem.W.Frag} {mg : Str → Option Value} {base : Heap} (m_list : mg "list" = none) (m_range : mg "range" = none) (m_int : mg "int" = none) (m_len : mg "len" = none)
  (f : Addr) (cdv : Value) (A : Around) (outer : List Env) (s : Shared) (H : Hp) (E : XK) (hr : Room 0 (A.deeper (envOfC "first_table" (defScope (top 36)) s.heap.objs.size f cdv))) :
  ∃ t, PXS (cxOf CX0 P w K mg base ["goal", "rows", "size", "table", "k", "coefficients", "bound", "j"] "first_table" (defScope (top 36)) f cdv A outer s H E).nox (defBody (top 36)) t (d_first_table) :=
  ⟨_, (pxs_cons (px_asg (px_len (by rfl) m_len (pxv 0)) (pxg_name (i := 2) sc_first_table.nd rfl (by first | exact .inl rfl | exact .inr rfl)))
  (pxs_cons (px_set (i := 3) sc_first_table.nd rfl (by first | exact .inl rfl | exact .inr rfl) (px_lst (pxa_cons (px_cat (px_lst (pxa_cons px_int pxa_nil)) (px_list (by rfl) m_list (pxv 0))) pxa_nil)))
  (pxs_cons (px_for PassesOwn.never rfl (px_range1 (by rfl) m_range (pxv 2)) (pxg_name sc_first_table.nd rfl (by first | exact .inl rfl | exact .inr rfl))
  (pxs_one (px_app (pxv 3) (px_cat (px_lst (pxa_cons px_int pxa_nil)) (px_lc (own := [("j", 7)]) (g := (gName 7)) (tt := tYes) (te := (tCB rInt1 (tCons (tOp rEq (tVar 4) (tVar 7)) tNil))) rfl sc_first_table.nd (px_range1 (by rfl) m_range (pxv 2)) (blkOk_by (N := ["goal", "rows", "size", "table", "k", "coefficients", "bound", "j"]) (sc := defScope (top 36)) (by decide +kernel)) (fun _ _ _ _ _ => (pxgc_name sc_first_table.nd)) (fun _ _ _ _ _ => pxts_nil) (fun _ _ _ _ _ => (px_intOf (by rfl) m_int (px_cmp cx_eq (pxv 4) (pxv 7)))))) (pe_bm PySem.F.plainAttrs_list PySem.F.slot_list_append PySem.F.type_list_append mt_append (pxv 3).p (pa_cons (px_cat (px_lst (pxa_cons px_int pxa_nil)) (px_lc (own := [("j", 7)]) (g := (gName 7)) (tt := tYes) (te := (tCB rInt1 (tCons (tOp rEq (tVar 4) (tVar 7)) tNil))) rfl sc_first_table.nd (px_range1 (by rfl) m_range (pxv 2)) (blkOk_by (N := ["goal", "rows", "size", "table", "k", "coefficients", "bound", "j"]) (sc := defScope (top 36)) (by decide +kernel)) (fun _ _ _ _ _ => (pxgc_name sc_first_table.nd)) (fun _ _ _ _ _ => pxts_nil) (fun _ _ _ _ _ => (px_intOf (by rfl) m_int (px_cmp cx_eq (pxv 4) (pxv 7)))))).p pa_nil)))))
  (pxs_cons (px_for PassesOwn.never rfl (px_iter (pxv 1)) (pxg_tup rfl (pxgs_cons (pxg_name sc_first_table.nd rfl (by first | exact .inl rfl | exact .inr rfl)) (pxgs_cons (pxg_name sc_first_table.nd rfl (by first | exact .inl rfl | exact .inr rfl)) pxgs_nil)))
  (pxs_one (px_app (pxv 3) (px_cat (px_lst (pxa_cons (px_neg (pxv 6)) pxa_nil)) (px_list (by rfl) m_list (pxv 5))) (pe_bm PySem.F.plainAttrs_list PySem.F.slot_list_append PySem.F.type_list_append mt_append (pxv 3).p (pa_cons (px_cat (px_lst (pxa_cons (px_neg (pxv 6)) pxa_nil)) (px_list (by rfl) m_list (pxv 5))).p pa_nil)))))
  (pxs_one (px_retV 3 (pxv 3)))))))⟩
theorem sc_negative_row : FnScope ["table", "place"] ["table"] (defScope (top 37)) := ⟨rfl, rfl, rfl, by decide +kernel, rfl, by decide +kernel, by decide +kernel⟩
theorem b_negative_row {P : Program} {w : World} {K : PySem.W.Frag} {mg : Str → Option Value} {base : Heap} (m_range : mg "range" = none) (m_len : mg "len" = none)
  (f : Addr) (cdv : Value) (A : Around) (outer : List Env) (s : Shared) (H : Hp) (E : XK) (hr : Room 0 (A.deeper (envOfC "negative_row" (defScope (top 37)) s.heap.objs.size f cdv))) :
  ∃ t, PXS (cxOf CX0 P w K mg base ["table", "place"] "negative_row" (defScope (top 37)) f cdv A outer s H E).nox (defBody (top 37)) t (d_negative_row) :=
  ⟨_, (pxs_cons (px_for PassesOwn.never rfl (px_range2 (by rfl) m_range px_int (px_len (by rfl) m_len (pxv 0))) (pxg_name sc_negative_row.nd rfl (by first | exact .inl rfl | exact .inr rfl))
  (pxs_one (px_if (pxt_cmp cx_lt (px_ix (px_ix (pxv 0) (pxv 1)) px_int) px_int)
  (pxs_one (px_retV 1 (pxv 1)))
  pxs_nil)))
  (pxs_one (px_ret px_int)))⟩
theorem sc_comes_before : FnScope ["table", "row", "column", "other", "line", "left", "right"] ["table", "row", "column", "other"] (defScope (top 38)) := ⟨rfl, rfl, rfl, by decide +kernel, rfl, by decide +kernel, by decide +kernel⟩
theorem b_comes_before {P : Program} {w : World} {K : PySem.W.Frag} {mg : Str → Option Value} {base : Heap} 
  (f : Addr) (cdv : Value) (A : Around) (outer : List Env) (s : Shared) (H : Hp) (E : XK) (hr : Room 0 (A.deeper (envOfC "comes_before" (defScope (top 38)) s.heap.objs.size f cdv))) :
  ∃ t, PXS (cxOf CX0 P w K mg base ["table", "row", "column", "other", "line", "left", "right"] "comes_before" (defScope (top 38)) f cdv A outer s H E).nox (defBody (top 38)) t (d_comes_before) :=
  ⟨_, (pxs_cons (px_for PassesOwn.never rfl (px_iter (pxv 0)) (pxg_name sc_comes_before.nd rfl (by first | exact .inl rfl | exact .inr rfl))
  (pxs_cons (px_asg (px_mul (px_ix (pxv 4) (pxv 2)) (px_ix (px_ix (pxv 0) (pxv 1)) (pxv 3))) (pxg_name (i := 5) sc_comes_before.nd rfl (by first | exact .inl rfl | exact .inr rfl)))
  (pxs_cons (px_asg (px_mul (px_ix (pxv 4) (pxv 3)) (px_ix (px_ix (pxv 0) (pxv 1)) (pxv 2))) (pxg_name (i := 6) sc_comes_before.nd rfl (by first | exact .inl rfl | exact .inr rfl)))
  (pxs_one (px_if (pxt_cmp cx_ne (pxv 5) (pxv 6))
  (pxs_one (px_ret (px_cmp cx_lt (pxv 5) (pxv 6))))
  pxs_nil)))))
  (pxs_one (px_ret px_bl)))⟩
theorem sc_entering_column : FnScope ["table", "row", "best", "column"] ["table", "row"] (defScope (top 39)) := ⟨rfl, rfl, rfl, by decide +kernel, rfl, by decide +kernel, by decide +kernel⟩
theorem b_entering_column {P : Program} {w : World} {K : PySem.W.Frag} {mg : Str → Option Value} {base : Heap} (m_range : mg "range" = none) (m_len : mg "len" = none) (k_comes_before : Kn P w K mg base "comes_before" ["table", "row", "column", "other"] 1 sp_comes_before [])
  (f : Addr) (cdv : Value) (A : Around) (outer : List Env) (s : Shared) (H : Hp) (E : XK) (hr : Room 1 (A.deeper (envOfC "entering_column" (defScope (top 39)) s.heap.objs.size f cdv))) :
  ∃ t, PXS (cxOf CX0 P w K mg base ["table", "row", "best", "column"] "entering_column" (defScope (top 39)) f cdv A outer s H E).nox (defBody (top 39)) t (d_entering_column) :=
  ⟨_, (pxs_cons (px_asg px_int (pxg_name (i := 2) sc_entering_column.nd rfl (by first | exact .inl rfl | exact .inr rfl)))
  (pxs_cons (px_for PassesOwn.never rfl (px_range2 (by rfl) m_range px_int (px_len (by rfl) m_len (px_ix (pxv 0) px_int))) (pxg_name sc_entering_column.nd rfl (by first | exact .inl rfl | exact .inr rfl))
  (pxs_one (px_if (pxt_w (pxw_and (pxt_cmp cx_gt (px_ix (px_ix (pxv 0) (pxv 1)) (pxv 3)) px_int) (pxw_and1 (pxt_w (pxw_or (pxt_cmp cx_eq (pxv 2) px_int) (pxw_or1 (pxt_val (px_k k_comes_before sp_comes_before_m hr (by decide) (by rfl) (fun _ => .nil) (pxa_cons (pxv 0) (pxa_cons (pxv 1) (pxa_cons (pxv 3) (pxa_cons (pxv 2) pxa_nil))))))))))))
  (pxs_one (px_asg (pxv 3) (pxg_name (i := 2) sc_entering_column.nd rfl (by first | exact .inl rfl | exact .inr rfl))))
  pxs_nil)))
  (pxs_one (px_retV 2 (pxv 2)))))⟩
theorem sc_exchange : FnScope ["table", "scale", "row", "column", "pivot", "lead", "place", "line", "part", "k"] ["table", "scale", "row", "column"] (defScope (top 40)) := ⟨rfl, rfl, rfl, by decide +kernel, rfl, by decide +kernel, by decide +kernel⟩
theorem b_exchange {P : Program} {w : World} {K : PySem.W.Frag} {mg : Str → Option Value} {base : Heap} (m_range : mg "range" = none) (m_len : mg "len" = none) (f : Addr) (cdv : Value) (A : Around) (outer : List Env) (s : Shared) (H : Hp) (E : XK) :
  PX4 (cxOf CX0 P w K mg base ["table", "scale", "row", "column", "pivot", "lead", "place", "line", "part", "k"] "exchange" (defScope (top 40)) f cdv A outer s H E).nox (defBody (top 40)) (tRet (tVar 5)) d_exchange3 :=
  px_4 (px_asg (px_ix (pxv 0) (pxv 2)) (pxg_name (i := 4) sc_exchange.nd rfl (by first | exact .inl rfl | exact .inr rfl)))
  (px_asg (px_ix (pxv 4) (pxv 3)) (pxg_name (i := 5) sc_exchange.nd rfl (by first | exact .inl rfl | exact .inr rfl)))
  (px_for PassesOwn.never rfl (px_range1 (by rfl) m_range (px_len (by rfl) m_len (pxv 0))) (pxg_name sc_exchange.nd rfl (by first | exact .inl rfl | exact .inr rfl))
  (pxs_cons (px_asg (px_ix (pxv 0) (pxv 6)) (pxg_name (i := 7) sc_exchange.nd rfl (by first | exact .inl rfl | exact .inr rfl)))
  (pxs_cons (px_asg (px_ix (pxv 7) (pxv 3)) (pxg_name (i := 8) sc_exchange.nd rfl (by first | exact .inl rfl | exact .inr rfl)))
  (pxs_ex (px_lc (own := [("k", 9)]) (g := (gName 9)) (tt := tYes) (te := (tOp (rI CDivW fun i j => .int (i / j)) (tOp (rI0 fun i j => .int (i - j)) (tOp (rI CMulW fun i j => .int (i * j)) (tOp (rIx K) (tVar 7) (tVar 9)) (tVar 5)) (tOp (rI CMulW fun i j => .int (i * j)) (tVar 8) (tOp (rIx K) (tVar 4) (tVar 9)))) (tVar 1))) rfl sc_exchange.nd (px_range1 (by rfl) m_range (px_len (by rfl) m_len (pxv 7))) (blkOk_by (N := ["table", "scale", "row", "column", "pivot", "lead", "place", "line", "part", "k"]) (sc := defScope (top 40)) (by decide +kernel)) (fun _ _ _ _ _ => (pxgc_name sc_exchange.nd)) (fun _ _ _ _ _ => pxts_nil) (fun _ _ _ _ _ => (px_fdiv (px_sub (px_mul (px_ix (pxv 7) (pxv 9)) (pxv 5)) (px_mul (pxv 8) (px_ix (pxv 4) (pxv 9)))) (pxv 1)))) (pxv 0) (pxv 6) (pxv 0) (pxv 6) (pxv 3) (pxv 8)))))
  (ps_ret (pxv 5).p)
theorem sc_at_slacks : FnScope ["numbers", "outer", "size", "many", "found", "place", "variable"] ["numbers", "outer", "size", "many"] (defScope (top 41)) := ⟨rfl, rfl, rfl, by decide +kernel, rfl, by decide +kernel, by decide +kernel⟩
theorem b_at_slacks {P : Program} {w : World} {K : PySem.W.Frag} {mg : Str → Option Value} {base : Heap} (m_enumerate : mg "enumerate" = none)
  (f : Addr) (cdv : Value) (A : Around) (outer : List Env) (s : Shared) (H : Hp) (E : XK) (hr : Room 0 (A.deeper (envOfC "at_slacks" (defScope (top 41)) s.heap.objs.size f cdv))) :
  ∃ t, PXS (cxOf CX0 P w K mg base ["numbers", "outer", "size", "many", "found", "place", "variable"] "at_slacks" (defScope (top 41)) f cdv A outer s H E).nox (defBody (top 41)) t (d_at_slacks) :=
  ⟨_, (pxs_cons (px_set (i := 4) sc_at_slacks.nd rfl (by first | exact .inl rfl | exact .inr rfl) (px_rep (px_lst (pxa_cons px_int pxa_nil)) (pxv 3)))
  (pxs_cons (px_for PassesOwn.never rfl (px_enum (by rfl) m_enumerate (pxv 1)) (pxg_tup rfl (pxgs_cons (pxg_name sc_at_slacks.nd rfl (by first | exact .inl rfl | exact .inr rfl)) (pxgs_cons (pxg_name sc_at_slacks.nd rfl (by first | exact .inl rfl | exact .inr rfl)) pxgs_nil)))
  (pxs_one (px_if (pxt_cmp cx_gt (pxv 6) (pxv 2))
  (pxs_one (px_setI (pxv 4) (px_sub (px_sub (pxv 6) (pxv 2)) px_int) (px_ix (pxv 0) (px_add (pxv 5) px_int))))
  pxs_nil)))
  (pxs_one (px_retV 4 (pxv 4)))))⟩
theorem sc_solve : FnScope ["goal", "rows", "size", "many", "table", "outer", "scale", "row", "column", "weights", "point", "number", "k"] ["goal", "rows"] (defScope (top 42)) := ⟨rfl, rfl, rfl, by decide +kernel, rfl, by decide +kernel, by decide +kernel⟩
theorem b_solve {P : Program} {w : World} {K : PySem.W.Frag} {mg : Str → Option Value} {base : Heap} (k_at_slacks : Kn P w K mg base "at_slacks" ["numbers", "outer", "size", "many"] 1 sp_at_slacks []) (m_range : mg "range" = none) (k_negative_row : Kn P w K mg base "negative_row" ["table"] 1 sp_negative_row []) (k_exchange : KnEx P w K mg base 1) (k_entering_column : Kn P w K mg base "entering_column" ["table", "row"] 2 sp_entering_column []) (m_list : mg "list" = none) (k_first_table : Kn P w K mg base "first_table" ["goal", "rows"] 1 sp_first_table []) (m_len : mg "len" = none)
  (f : Addr) (cdv : Value) (A : Around) (outer : List Env) (s : Shared) (H : Hp) (E : XK) (hr : Room 2 (A.deeper (envOfC "solve" (defScope (top 42)) s.heap.objs.size f cdv))) :
  ∃ t, PXS (cxOf CX0 P w K mg base ["goal", "rows", "size", "many", "table", "outer", "scale", "row", "column", "weights", "point", "number", "k"] "solve" (defScope (top 42)) f cdv A outer s H E).nox (defBody (top 42)) t (d_solve) :=
  ⟨_, (pxs_cons (px_par (i := 2) (j := 3) rfl sc_solve.nd rfl rfl (by decide) rfl rfl (px_len (by rfl) m_len (pxv 0)) (px_len (by rfl) m_len (pxv 1)))
  (pxs_cons (px_set (i := 4) sc_solve.nd rfl (by first | exact .inl rfl | exact .inr rfl) (px_k k_first_table sp_first_table_m hr (by decide) (by rfl) (fun _ => .nil) (pxa_cons (pxv 0) (pxa_cons (pxv 1) pxa_nil))))
  (pxs_cons (px_set (i := 5) sc_solve.nd rfl (by first | exact .inl rfl | exact .inr rfl) (px_listR2 (by rfl) m_list (by rfl) m_range rfl px_int (px_add (pxv 2) px_int)))
  (pxs_cons (px_asg px_int (pxg_name (i := 6) sc_solve.nd rfl (by first | exact .inl rfl | exact .inr rfl)))
  (pxs_cons (px_asg (px_kB k_negative_row sp_negative_row_m hr (by decide) (by rfl) (fun _ => .nil) (pxab_cons (pxv 4) pxab_nil)) (pxg_name (i := 7) sc_solve.nd rfl (by first | exact .inl rfl | exact .inr rfl)))
  (pxs_cons (px_while PassesOwn.never (pxt_cmp cx_gt (pxv 7) px_int)
  (pxs_cons (px_asg (px_kB k_entering_column sp_entering_column_m hr (by decide) (by rfl) (fun _ => .nil) (pxab_cons (pxv 4) (pxab_cons (pxv 7) pxab_nil))) (pxg_name (i := 8) sc_solve.nd rfl (by first | exact .inl rfl | exact .inr rfl)))
  (pxs_cons (px_if (pxt_cmp cx_eq (pxv 8) px_int)
  (pxs_frz 5 (pxs_cons (px_set (i := 9) sc_solve.nd rfl (by first | exact .inl rfl | exact .inr rfl) (px_k k_at_slacks sp_at_slacks_m hr (by decide) (by rfl) (fun _ => .nil) (pxa_cons (px_lc (own := [("number", 11)]) (g := (gName 11)) (tt := tYes) (te := (tUn (rU fun i => .int (-i)) (tVar 11))) rfl sc_solve.nd (px_iter (px_ix (pxv 4) (pxv 7))) (blkOk_by (N := ["goal", "rows", "size", "many", "table", "outer", "scale", "row", "column", "weights", "point", "number", "k"]) (sc := defScope (top 42)) (by decide +kernel)) (fun _ _ _ _ _ => (pxgc_name sc_solve.nd)) (fun _ _ _ _ _ => pxts_nil) (fun _ _ _ _ _ => (px_neg (pxv 11)))) (pxa_cons (pxv 5) (pxa_cons (pxv 2) (pxa_cons (pxv 3) pxa_nil))))))
  (pxs_cons (px_if (pxt_cmp cx_gt (pxv 7) (pxv 2))
  (pxs_one (px_setI (pxv 9) (px_sub (px_sub (pxv 7) (pxv 2)) px_int) (pxv 6)))
  pxs_nil)
  (pxs_frz 9 (pxs_one (px_ret (px_tup (pxa_cons px_bl (pxa_cons (pxv 9) (pxa_cons (pxv 6) pxa_nil))))))))))
  pxs_nil)
  (pxs_cons (px_exC k_exchange hr (by decide) (by rfl) sc_solve.nd rfl (by first | exact .inl rfl | exact .inr rfl) (pxv 4) (pxv 6) (pxv 7) (pxv 8))
  (pxs_cons (px_setI (pxv 5) (px_sub (pxv 8) px_int) (pxv 7))
  (pxs_one (px_asg (px_kB k_negative_row sp_negative_row_m hr (by decide) (by rfl) (fun _ => .nil) (pxab_cons (pxv 4) pxab_nil)) (pxg_name (i := 7) sc_solve.nd rfl (by first | exact .inl rfl | exact .inr rfl)))))))))
  (pxs_frz 5 (pxs_cons (px_setLcG (i := 10) (own := [("k", 12)]) (g := (gName 12)) (tt := tYes) (te := (tOp (rIx K) (tOp (rIx K) (tVar 4) (tVar 12)) (tC (.int 0)))) rfl sc_solve.nd (px_range2 (by rfl) m_range px_int (px_add (pxv 2) px_int)) (blkOk_by (N := ["goal", "rows", "size", "many", "table", "outer", "scale", "row", "column", "weights", "point", "number", "k"]) (sc := defScope (top 42)) (by decide +kernel)) (fun _ _ _ _ _ => (pxgc_name sc_solve.nd)) (fun _ _ _ _ _ => pxts_nil) (fun _ _ _ _ _ => (px_ix (px_ix (pxv 4) (pxv 12)) px_int)))
  (pxs_one (px_ret (px_tup (pxa_cons px_bl (pxa_cons (px_ix (px_ix (pxv 4) px_int) px_int) (pxa_cons (pxv 10) (pxa_cons (px_k k_at_slacks sp_at_slacks_m hr (by decide) (by rfl) (fun _ => .nil) (pxa_cons (px_ix (pxv 4) px_int) (pxa_cons (pxv 5) (pxa_cons (pxv 2) (pxa_cons (pxv 3) pxa_nil))))) (pxa_cons (pxv 6) pxa_nil))))))))))))))))⟩
theorem sc_Granted_init : FnScope ["self", "value", "point", "weights"] ["self", "value", "point", "weights"] (defScope (meth 47 0)) := ⟨rfl, rfl, rfl, by decide +kernel, rfl, by decide +kernel, by decide +kernel⟩
theorem b_Granted_init {P : Program} {w : World} {K : PySem.W.Frag} {mg : Str → Option Value} {base : Heap} {c : Ad} (m_tuple : mg "tuple" = none) (cls_Granted : Cls K c.Granted) (na_Granted_weights : NoAttr K c.Granted "weights") (na_Granted_point : NoAttr K c.Granted "point") (na_Granted_value : NoAttr K c.Granted "value")
  (f : Addr) (cdv : Value) (A : Around) (outer : List Env) (s : Shared) (H : Hp) (E : XK) (hr : Room 0 (A.deeper (envOfC "Granted.__init__" (defScope (meth 47 0)) s.heap.objs.size f cdv))) :
  ∃ t, PXS (cxOf CX0 P w K mg base ["self", "value", "point", "weights"] "Granted.__init__" (defScope (meth 47 0)) f cdv A outer s H E).nox (defBody (meth 47 0)) t (d_Granted_init c) :=
  ⟨_, (pxs_cons (px_fldSet cls_Granted na_Granted_value (pxv 0) (pxv 1))
  (pxs_cons (px_fldSet cls_Granted na_Granted_point (pxv 0) (px_tupleOf (by rfl) m_tuple (pxv 2)))
  (pxs_one (px_fldSet cls_Granted na_Granted_weights (pxv 0) (px_tupleOf (by rfl) m_tuple (pxv 3))))))⟩
theorem sc_ratio : FnScope ["top", "bottom", "shared"] ["top", "bottom"] (defScope (top 22)) := ⟨rfl, rfl, rfl, by decide +kernel, rfl, by decide +kernel, by decide +kernel⟩
theorem b_ratio {P : Program} {w : World} {K : PySem.W.Frag} {mg : Str → Option Value} {base : Heap} (m_gcd : mg "gcd" = some (.builtin "math.gcd"))
  (f : Addr) (cdv : Value) (A : Around) (outer : List Env) (s : Shared) (H : Hp) (E : XK) (hr : Room 0 (A.deeper (envOfC "ratio" (defScope (top 22)) s.heap.objs.size f cdv))) :
  ∃ t, PXS (cxOf CX0 P w K mg base ["top", "bottom", "shared"] "ratio" (defScope (top 22)) f cdv A outer s H E).nox (defBody (top 22)) t (d_ratio) :=
  ⟨_, (pxs_cons (px_if (pxt_cmp cx_eq (pxv 1) px_int)
  (pxs_one px_never)
  pxs_nil)
  (pxs_cons (px_asg (px_gcd (by rfl) m_gcd (pxa_cons (pxv 0) (pxa_cons (pxv 1) pxa_nil))) (pxg_name (i := 2) sc_ratio.nd rfl (by first | exact .inl rfl | exact .inr rfl)))
  (pxs_cons (px_if (pxt_cmp cx_lt (pxv 1) px_int)
  (pxs_one (px_asg (px_neg (pxv 2)) (pxg_name (i := 2) sc_ratio.nd rfl (by first | exact .inl rfl | exact .inr rfl))))
  pxs_nil)
  (pxs_one (px_ret (px_tup (pxa_cons (px_fdiv (pxv 0) (pxv 2)) (pxa_cons (px_fdiv (pxv 1) (pxv 2)) pxa_nil))))))))⟩
theorem sc_Refused_init : FnScope ["self", "weights"] ["self", "weights"] (defScope (meth 48 0)) := ⟨rfl, rfl, rfl, by decide +kernel, rfl, by decide +kernel, by decide +kernel⟩
theorem b_Refused_init {P : Program} {w : World} {K : PySem.W.Frag} {mg : Str → Option Value} {base : Heap} {c : Ad} (m_tuple : mg "tuple" = none) (cls_Refused : Cls K c.Refused) (na_Refused_weights : NoAttr K c.Refused "weights")
  (f : Addr) (cdv : Value) (A : Around) (outer : List Env) (s : Shared) (H : Hp) (E : XK) (hr : Room 0 (A.deeper (envOfC "Refused.__init__" (defScope (meth 48 0)) s.heap.objs.size f cdv))) :
  ∃ t, PXS (cxOf CX0 P w K mg base ["self", "weights"] "Refused.__init__" (defScope (meth 48 0)) f cdv A outer s H E).nox (defBody (meth 48 0)) t (d_Refused_init c) :=
  ⟨_, (pxs_one (px_fldSet cls_Refused na_Refused_weights (pxv 0) (px_tupleOf (by rfl) m_tuple (pxv 1))))⟩
theorem sc_ask : FnScope ["wish", "answer", "scale", "weights", "point", "weight", "number"] ["wish"] (defScope (top 49)) := ⟨rfl, rfl, rfl, by decide +kernel, rfl, by decide +kernel, by decide +kernel⟩
theorem b_ask {P : Program} {w : World} {K : PySem.W.Frag} {mg : Str → Option Value} {base : Heap} {c : Ad} (c_Granted : Kc P w K mg base "Granted" c.Granted ["self", "value", "point", "weights"] 1 sp_Granted_init []) (o_Granted : ∀ xs Q, sp_Granted_init xs Q → sp_Granted_init xs (fun fs => Q fs ∧ InsOk K c.Granted fs)) (k_ratio : Kn P w K mg base "ratio" ["top", "bottom"] 1 sp_ratio []) (c_Refused : Kc P w K mg base "Refused" c.Refused ["self", "weights"] 1 sp_Refused_init []) (o_Refused : ∀ xs Q, sp_Refused_init xs Q → sp_Refused_init xs (fun fs => Q fs ∧ InsOk K c.Refused fs)) (k_solve : Kn P w K mg base "solve" ["goal", "rows"] 3 sp_solve [])
  (f : Addr) (cdv : Value) (A : Around) (outer : List Env) (s : Shared) (H : Hp) (E : XK) (hr : Room 3 (A.deeper (envOfC "ask" (defScope (top 49)) s.heap.objs.size f cdv))) :
  ∃ t, PXS (cxOf CX0 P w K mg base ["wish", "answer", "scale", "weights", "point", "weight", "number"] "ask" (defScope (top 49)) f cdv A outer s H E).nox (defBody (top 49)) t (d_ask c) :=
  ⟨_, (pxs_cons (px_asg (px_k k_solve sp_solve_m hr (by decide) (by rfl) (fun _ => .nil) (pxa_cons (px_fld (pxv 0)) (pxa_cons (px_fld (pxv 0)) pxa_nil))) (pxg_name (i := 1) sc_ask.nd rfl (by first | exact .inl rfl | exact .inr rfl)))
  (pxs_cons (px_asg (px_ix (pxv 1) (px_neg px_int)) (pxg_name (i := 2) sc_ask.nd rfl (by first | exact .inl rfl | exact .inr rfl)))
  (pxs_cons (px_setLcG (i := 3) (own := [("weight", 5)]) (g := (gName 5)) (tt := tYes) (te := (tCall (liftSp K sp_ratio) [] E0 (tCons (tVar 5) (tCons (tVar 2) tNil)))) rfl sc_ask.nd (px_iter (px_ix (pxv 1) (px_neg px_int))) (blkOk_by (N := ["wish", "answer", "scale", "weights", "point", "weight", "number"]) (sc := defScope (top 49)) (by decide +kernel)) (fun _ _ _ _ _ => (pxgc_name sc_ask.nd)) (fun _ _ _ _ _ => pxts_nil) (fun _ _ _ _ _ => (px_k k_ratio sp_ratio_m hr (by decide) (by rfl) (fun _ => .nil) (pxa_cons (pxv 5) (pxa_cons (pxv 2) pxa_nil)))))
  (pxs_cons (px_if (pxt_not (pxt_val (px_ix (pxv 1) px_int)))
  (pxs_one (px_ret (px_c c_Refused sp_Refused_init_m o_Refused hr (by decide) (by rfl) (fun _ => .nil) (pxa_cons (pxv 3) pxa_nil))))
  pxs_nil)
  (pxs_cons (px_setLcG (i := 4) (own := [("number", 6)]) (g := (gName 6)) (tt := tYes) (te := (tCall (liftSp K sp_ratio) [] E0 (tCons (tVar 6) (tCons (tVar 2) tNil)))) rfl sc_ask.nd (px_iter (px_ix (pxv 1) px_int)) (blkOk_by (N := ["wish", "answer", "scale", "weights", "point", "weight", "number"]) (sc := defScope (top 49)) (by decide +kernel)) (fun _ _ _ _ _ => (pxgc_name sc_ask.nd)) (fun _ _ _ _ _ => pxts_nil) (fun _ _ _ _ _ => (px_k k_ratio sp_ratio_m hr (by decide) (by rfl) (fun _ => .nil) (pxa_cons (pxv 6) (pxa_cons (pxv 2) pxa_nil)))))
  (pxs_one (px_ret (px_c c_Granted sp_Granted_init_m o_Granted hr (by decide) (by rfl) (fun _ => .nil) (pxa_cons (px_k k_ratio sp_ratio_m hr (by decide) (by rfl) (fun _ => .nil) (pxa_cons (px_ix (pxv 1) px_int) (pxa_cons (px_mul (pxv 2) (px_fld (pxv 0))) pxa_nil))) (pxa_cons (pxv 4) (pxa_cons (pxv 3) pxa_nil)))))))))))⟩
theorem sc_check_deed : FnScope ["book", "deed"] ["book", "deed"] (defScope (top 18)) := ⟨rfl, rfl, rfl, by decide +kernel, rfl, by decide +kernel, by decide +kernel⟩
theorem b_check_deed {P : Program} {w : World} {K : PySem.W.Frag} {mg : Str → Option Value} {base : Heap} 
  (f : Addr) (cdv : Value) (A : Around) (outer : List Env) (s : Shared) (H : Hp) (E : XK) (hr : Room 0 (A.deeper (envOfC "check_deed" (defScope (top 18)) s.heap.objs.size f cdv))) :
  ∃ t, PXS (cxOf CX0 P w K mg base ["book", "deed"] "check_deed" (defScope (top 18)) f cdv A outer s H E).nox (defBody (top 18)) t (d_check_deed) :=
  ⟨_, (pxs_one (px_if (pxt_w (pxw_or (pxt_cmp cx_lt (pxv 1) px_int) (pxw_or1 (pxt_cmp cx_ge (pxv 1) (px_fld (pxv 0))))))
  (pxs_one px_never)
  pxs_nil))⟩
theorem sc_check_asked : FnScope ["kinds", "asked", "deed"] ["kinds", "asked"] (defScope (top 55)) := ⟨rfl, rfl, rfl, by decide +kernel, rfl, by decide +kernel, by decide +kernel⟩
theorem b_check_asked {P : Program} {w : World} {K : PySem.W.Frag} {mg : Str → Option Value} {base : Heap} {c : Ad} (k_check_deed : Kn P w K mg base "check_deed" ["book", "deed"] 1 (sp_check_deed c) []) (m_len : mg "len" = none)
  (f : Addr) (cdv : Value) (A : Around) (outer : List Env) (s : Shared) (H : Hp) (E : XK) (hr : Room 1 (A.deeper (envOfC "check_asked" (defScope (top 55)) s.heap.objs.size f cdv))) :
  ∃ t, PXS (cxOf CX0 P w K mg base ["kinds", "asked", "deed"] "check_asked" (defScope (top 55)) f cdv A outer s H E).nox (defBody (top 55)) t (d_check_asked c) :=
  ⟨_, (pxs_cons (px_if (pxt_cmp cx_ne (px_len (by rfl) m_len (pxv 1)) (px_fld (pxv 0)))
  (pxs_one px_never)
  pxs_nil)
  (pxs_one (px_for PassesOwn.never rfl (px_iter (pxv 1)) (pxg_name sc_check_asked.nd rfl (by first | exact .inl rfl | exact .inr rfl))
  (pxs_one (px_exprS (px_k k_check_deed (sp_check_deed_m c) hr (by decide) (by rfl) (fun _ => .nil) (pxa_cons (px_ix (px_fld (pxv 0)) px_int) (pxa_cons (pxv 2) pxa_nil))))))))⟩
theorem sc_Wish_init : FnScope ["self", "goal", "rows", "unit", "row"] ["self", "goal", "rows", "unit"] (defScope (meth 46 0)) := ⟨rfl, rfl, rfl, by decide +kernel, rfl, by decide +kernel, by decide +kernel⟩
theorem b_Wish_init {P : Program} {w : World} {K : PySem.W.Frag} {mg : Str → Option Value} {base : Heap} {c : Ad} (cls_Wish : Cls K c.Wish) (na_Wish_unit : NoAttr K c.Wish "unit") (m_tuple : mg "tuple" = none) (na_Wish_rows : NoAttr K c.Wish "rows") (na_Wish_goal : NoAttr K c.Wish "goal") (m_any : mg "any" = none) (m_len : mg "len" = none) (m_min : mg "min" = none) (i_ROWS : ∃ t, mg "ROWS" = some (.int 40 t)) (i_UNKNOWNS : ∃ t, mg "UNKNOWNS" = some (.int 18 t))
  (f : Addr) (cdv : Value) (A : Around) (outer : List Env) (s : Shared) (H : Hp) (E : XK) (hr : Room 0 (A.deeper (envOfC "Wish.__init__" (defScope (meth 46 0)) s.heap.objs.size f cdv))) :
  ∃ t, PXS (cxOf CX0 P w K mg base ["self", "goal", "rows", "unit", "row"] "Wish.__init__" (defScope (meth 46 0)) f cdv A outer s H E).nox (defBody (meth 46 0)) t (d_Wish_init c) :=
  ⟨_, (pxs_cons (px_if (pxt_cmp cx_gt (px_len (by rfl) m_len (pxv 1)) (px_gintE (by rfl) i_UNKNOWNS))
  (pxs_one px_never)
  pxs_nil)
  (pxs_cons (px_if (pxt_cmp cx_gt (px_len (by rfl) m_len (pxv 2)) (px_gintE (by rfl) i_ROWS))
  (pxs_one px_never)
  pxs_nil)
  (pxs_cons (px_if (pxt_w (pxw_or (pxt_cmp cx_eq (px_len (by rfl) m_len (pxv 1)) px_int) (pxw_or1 (pxt_cmp cx_lt (px_min rfl (by rfl) m_min (pxv 1)) px_int))))
  (pxs_one px_never)
  pxs_nil)
  (pxs_cons (px_if (pxt_val (px_any rfl (by rfl) m_any (px_lc (own := [("row", 4)]) (g := (gName 4)) (tt := tYes) (te := (tOp rNe (tCB (rLenQ K) (tCons (tOp (rIx K) (tVar 4) (tC (.int 0))) tNil)) (tCB (rLenQ K) (tCons (tVar 1) tNil)))) rfl sc_Wish_init.nd (px_iter (pxv 2)) (blkOk_by (N := ["self", "goal", "rows", "unit", "row"]) (sc := defScope (meth 46 0)) (by decide +kernel)) (fun _ _ _ _ _ => (pxgc_name sc_Wish_init.nd)) (fun _ _ _ _ _ => pxts_nil) (fun _ _ _ _ _ => (px_cmp cx_ne (px_len (by rfl) m_len (px_ix (pxv 4) px_int)) (px_len (by rfl) m_len (pxv 1)))))))
  (pxs_one px_never)
  pxs_nil)
  (pxs_cons (px_if (pxt_cmp cx_lt (pxv 3) px_int)
  (pxs_one px_never)
  pxs_nil)
  (pxs_cons (px_fldSet cls_Wish na_Wish_goal (pxv 0) (px_tupleOf (by rfl) m_tuple (pxv 1)))
  (pxs_cons (px_fldSet cls_Wish na_Wish_rows (pxv 0) (px_tupleOf (by rfl) m_tuple (px_lc (own := [("row", 4)]) (g := (gName 4)) (tt := tYes) (te := (tTup (tCons (tCB (rTupQ K) (tCons (tOp (rIx K) (tVar 4) (tC (.int 0))) tNil)) (tCons (tOp (rIx K) (tVar 4) (tC (.int 1))) tNil)))) rfl sc_Wish_init.nd (px_iter (pxv 2)) (blkOk_by (N := ["self", "goal", "rows", "unit", "row"]) (sc := defScope (meth 46 0)) (by decide +kernel)) (fun _ _ _ _ _ => (pxgc_name sc_Wish_init.nd)) (fun _ _ _ _ _ => pxts_nil) (fun _ _ _ _ _ => (px_tup (pxa_cons (px_tupleOf (by rfl) m_tuple (px_ix (pxv 4) px_int)) (pxa_cons (px_ix (pxv 4) px_int) pxa_nil)))))))
  (pxs_one (px_fldSet cls_Wish na_Wish_unit (pxv 0) (pxv 3))))))))))⟩
theorem sc_deed_row : FnScope ["book", "deed", "other", "parts", "mine", "theirs"] ["book", "deed", "other"] (defScope (top 52)) := ⟨rfl, rfl, rfl, by decide +kernel, rfl, by decide +kernel, by decide +kernel⟩
theorem b_deed_row {P : Program} {w : World} {K : PySem.W.Frag} {mg : Str → Option Value} {base : Heap} (m_zip : mg "zip" = none)
  (f : Addr) (cdv : Value) (A : Around) (outer : List Env) (s : Shared) (H : Hp) (E : XK) (hr : Room 0 (A.deeper (envOfC "deed_row" (defScope (top 52)) s.heap.objs.size f cdv))) :
  ∃ t, PXS (cxOf CX0 P w K mg base ["book", "deed", "other", "parts", "mine", "theirs"] "deed_row" (defScope (top 52)) f cdv A outer s H E).nox (defBody (top 52)) t (d_deed_row) :=
  ⟨_, (pxs_cons (px_setLcG (i := 3) (own := [("mine", 4), ("theirs", 5)]) (g := (gTup K 2 (gCons (gName 4) (gCons (gName 5) gNil)))) (tt := tYes) (te := (tOp (rI0 fun i j => .int (i - j)) (tVar 4) (tVar 5))) rfl sc_deed_row.nd (px_zip (by rfl) m_zip (px_ix (px_fld (pxv 0)) (pxv 1)) (px_ix (px_fld (pxv 0)) (pxv 2))) (blkOk_by (N := ["book", "deed", "other", "parts", "mine", "theirs"]) (sc := defScope (top 52)) (by decide +kernel)) (fun _ _ _ _ _ => (pxgc_tup rfl (pxgsc_cons (pxgc_name sc_deed_row.nd) (pxgsc_cons (pxgc_name sc_deed_row.nd) pxgsc_nil)))) (fun _ _ _ _ _ => pxts_nil) (fun _ _ _ _ _ => (px_sub (pxv 4) (pxv 5))))
  (pxs_one (px_ret (px_tup (pxa_cons (pxv 3) (pxa_cons (px_mul (px_fld (pxv 0)) (px_sub (px_ix (px_fld (pxv 0)) (pxv 1)) (px_ix (px_fld (pxv 0)) (pxv 2)))) pxa_nil))))))⟩
theorem sc_Kinds_total_weight : FnScope ["self"] ["self"] (defScope (meth 66 2)) := ⟨rfl, rfl, rfl, by decide +kernel, rfl, by decide +kernel, by decide +kernel⟩
theorem b_Kinds_total_weight {P : Program} {w : World} {K : PySem.W.Frag} {mg : Str → Option Value} {base : Heap} (m_sum : mg "sum" = none)
  (f : Addr) (cdv : Value) (A : Around) (outer : List Env) (s : Shared) (H : Hp) (E : XK) (hr : Room 0 (A.deeper (envOfC "Kinds.total_weight" (defScope (meth 66 2)) s.heap.objs.size f cdv))) :
  ∃ t, PXS (cxOf CX0 P w K mg base ["self"] "Kinds.total_weight" (defScope (meth 66 2)) f cdv A outer s H E).nox (defBody (meth 66 2)) t (d_Kinds_total_weight) :=
  ⟨_, (pxs_one (px_ret (px_sum rfl (by rfl) m_sum (px_fld (pxv 0)))))⟩
theorem sc_pooled_wish : FnScope ["kinds", "asked", "goal", "rows", "kind", "book", "deed", "number", "part", "other"] ["kinds", "asked"] (defScope (top 59)) := ⟨rfl, rfl, rfl, by decide +kernel, rfl, by decide +kernel, by decide +kernel⟩
theorem b_pooled_wish {P : Program} {w : World} {K : PySem.W.Frag} {mg : Str → Option Value} {base : Heap} {c : Ad} (c_Wish : Kc P w K mg base "Wish" c.Wish ["self", "goal", "rows", "unit"] 1 sp_Wish_init []) (o_Wish : ∀ xs Q, sp_Wish_init xs Q → sp_Wish_init xs (fun fs => Q fs ∧ InsOk K c.Wish fs)) (p_Kinds_total_weight : Kp P w K mg base c.Kinds "total_weight" 1 (sp_Kinds_total_weight c)) (m_enumerate : mg "enumerate" = none) (m_range : mg "range" = none) (k_deed_row : Kn P w K mg base "deed_row" ["book", "deed", "other"] 1 (sp_deed_row c) []) (m_zip : mg "zip" = none) (k_check_asked : Kn P w K mg base "check_asked" ["kinds", "asked"] 2 (sp_check_asked c) [])
  (f : Addr) (cdv : Value) (A : Around) (outer : List Env) (s : Shared) (H : Hp) (E : XK) (hr : Room 2 (A.deeper (envOfC "pooled_wish" (defScope (top 59)) s.heap.objs.size f cdv))) :
  ∃ t, PXS (cxOf CX0 P w K mg base ["kinds", "asked", "goal", "rows", "kind", "book", "deed", "number", "part", "other"] "pooled_wish" (defScope (top 59)) f cdv A outer s H E).nox (defBody (top 59)) t (d_pooled_wish c) :=
  ⟨_, (pxs_cons (px_exprS (px_k k_check_asked (sp_check_asked_m c) hr (by decide) (by rfl) (fun _ => .nil) (pxa_cons (pxv 0) (pxa_cons (pxv 1) pxa_nil))))
  (pxs_cons (px_par (i := 2) (j := 3) rfl sc_pooled_wish.nd rfl rfl (by decide) rfl rfl (px_rep (px_lst (pxa_cons px_int pxa_nil)) (px_fld (pxv 0))) (px_lst pxa_nil))
  (pxs_cons (px_for PassesOwn.never rfl (px_enum (by rfl) m_enumerate (px_fld (pxv 0))) (pxg_tup rfl (pxgs_cons (pxg_name sc_pooled_wish.nd rfl (by first | exact .inl rfl | exact .inr rfl)) (pxgs_cons (pxg_name sc_pooled_wish.nd rfl (by first | exact .inl rfl | exact .inr rfl)) pxgs_nil)))
  (pxs_cons (px_asg (px_ix (pxv 1) (pxv 4)) (pxg_name (i := 6) sc_pooled_wish.nd rfl (by first | exact .inl rfl | exact .inr rfl)))
  (pxs_cons (px_setLcG (i := 2) (own := [("number", 7), ("part", 8)]) (g := (gTup K 2 (gCons (gName 7) (gCons (gName 8) gNil)))) (tt := tYes) (te := (tOp (rI0 fun i j => .int (i + j)) (tVar 7) (tOp (rI CMulW fun i j => .int (i * j)) (tOp (rIx K) (tFld K (tVar 0) "weights") (tVar 4)) (tVar 8)))) rfl sc_pooled_wish.nd (px_zip (by rfl) m_zip (pxv 2) (px_ix (px_fld (pxv 5)) (pxv 6))) (blkOk_by (N := ["kinds", "asked", "goal", "rows", "kind", "book", "deed", "number", "part", "other"]) (sc := defScope (top 59)) (by decide +kernel)) (fun _ _ _ _ _ => (pxgc_tup rfl (pxgsc_cons (pxgc_name sc_pooled_wish.nd) (pxgsc_cons (pxgc_name sc_pooled_wish.nd) pxgsc_nil)))) (fun _ _ _ _ _ => pxts_nil) (fun _ _ _ _ _ => (px_add (pxv 7) (px_mul (px_ix (px_fld (pxv 0)) (pxv 4)) (pxv 8)))))
  (pxs_one (px_ext (pxv 3) (px_lc (own := [("other", 9)]) (g := (gName 9)) (tt := (tTest (tOp rNe (tVar 9) (tVar 6)))) (te := (tCall (liftSp K (sp_deed_row c)) [] E0 (tCons (tVar 5) (tCons (tVar 6) (tCons (tVar 9) tNil))))) rfl sc_pooled_wish.nd (px_range1 (by rfl) m_range (px_fld (pxv 0))) (blkOk_by (N := ["kinds", "asked", "goal", "rows", "kind", "book", "deed", "number", "part", "other"]) (sc := defScope (top 59)) (by decide +kernel)) (fun _ _ _ _ _ => (pxgc_name sc_pooled_wish.nd)) (fun _ _ _ _ _ => (pxts_one (pxt_cmp cx_ne (pxv 9) (pxv 6)))) (fun _ _ _ _ _ => (px_k k_deed_row (sp_deed_row_m c) hr (by decide) (by rfl) (fun _ => .nil) (pxa_cons (pxv 5) (pxa_cons (pxv 6) (pxa_cons (pxv 9) pxa_nil)))))) (pe_bm PySem.F.plainAttrs_list PySem.F.slot_list_extend PySem.F.type_list_extend mt_extend (pxv 3).p (pa_cons (px_lc (own := [("other", 9)]) (g := (gName 9)) (tt := (tTest (tOp rNe (tVar 9) (tVar 6)))) (te := (tCall (liftSp K (sp_deed_row c)) [] E0 (tCons (tVar 5) (tCons (tVar 6) (tCons (tVar 9) tNil))))) rfl sc_pooled_wish.nd (px_range1 (by rfl) m_range (px_fld (pxv 0))) (blkOk_by (N := ["kinds", "asked", "goal", "rows", "kind", "book", "deed", "number", "part", "other"]) (sc := defScope (top 59)) (by decide +kernel)) (fun _ _ _ _ _ => (pxgc_name sc_pooled_wish.nd)) (fun _ _ _ _ _ => (pxts_one (pxt_cmp cx_ne (pxv 9) (pxv 6)))) (fun _ _ _ _ _ => (px_k k_deed_row (sp_deed_row_m c) hr (by decide) (by rfl) (fun _ => .nil) (pxa_cons (pxv 5) (pxa_cons (pxv 6) (pxa_cons (pxv 9) pxa_nil)))))).p pa_nil)))))))
  (pxs_frz 3 (pxs_one (px_ret (px_c c_Wish sp_Wish_init_m o_Wish hr (by decide) (by rfl) (fun _ => .nil) (pxa_cons (pxv 2) (pxa_cons (pxv 3) (pxa_cons (px_mul (px_fld (pxv 0)) (px_prop p_Kinds_total_weight (sp_Kinds_total_weight_m c) hr (by decide) (pxv 0))) pxa_nil))))))))))⟩
theorem sc_pooled : FnScope ["kinds", "asked"] ["kinds", "asked"] (defScope (top 60)) := ⟨rfl, rfl, rfl, by decide +kernel, rfl, by decide +kernel, by decide +kernel⟩
theorem b_pooled {P : Program} {w : World} {K : PySem.W.Frag} {mg : Str → Option Value} {base : Heap} {c : Ad} (k_ask : Kn P w K mg base "ask" ["wish"] 4 (sp_ask c) []) (k_pooled_wish : Kn P w K mg base "pooled_wish" ["kinds", "asked"] 3 (sp_pooled_wish c) [])
  (f : Addr) (cdv : Value) (A : Around) (outer : List Env) (s : Shared) (H : Hp) (E : XK) (hr : Room 4 (A.deeper (envOfC "pooled" (defScope (top 60)) s.heap.objs.size f cdv))) :
  ∃ t, PXS (cxOf CX0 P w K mg base ["kinds", "asked"] "pooled" (defScope (top 60)) f cdv A outer s H E).nox (defBody (top 60)) t (d_pooled c) :=
  ⟨_, (pxs_one (px_ret (px_k k_ask (sp_ask_m c) hr (by decide) (by rfl) (fun _ => .nil) (pxa_cons (px_k k_pooled_wish (sp_pooled_wish_m c) hr (by decide) (by rfl) (fun _ => .nil) (pxa_cons (pxv 0) (pxa_cons (pxv 1) pxa_nil))) pxa_nil))))⟩
theorem sc_check_together : FnScope ["book", "deeds", "deed", "place"] ["book", "deeds"] (defScope (top 68)) := ⟨rfl, rfl, rfl, by decide +kernel, rfl, by decide +kernel, by decide +kernel⟩
theorem b_check_together {P : Program} {w : World} {K : PySem.W.Frag} {mg : Str → Option Value} {base : Heap} {c : Ad} (m_range : mg "range" = none) (m_len : mg "len" = none) (k_check_deed : Kn P w K mg base "check_deed" ["book", "deed"] 1 (sp_check_deed c) [])
  (f : Addr) (cdv : Value) (A : Around) (outer : List Env) (s : Shared) (H : Hp) (E : XK) (hr : Room 1 (A.deeper (envOfC "check_together" (defScope (top 68)) s.heap.objs.size f cdv))) :
  ∃ t, PXS (cxOf CX0 P w K mg base ["book", "deeds", "deed", "place"] "check_together" (defScope (top 68)) f cdv A outer s H E).nox (defBody (top 68)) t (d_check_together c) :=
  ⟨_, (pxs_cons (px_if (pxt_cmp cx_eq (px_len (by rfl) m_len (pxv 1)) px_int)
  (pxs_one px_never)
  pxs_nil)
  (pxs_cons (px_for PassesOwn.never rfl (px_iter (pxv 1)) (pxg_name sc_check_together.nd rfl (by first | exact .inl rfl | exact .inr rfl))
  (pxs_one (px_exprS (px_k k_check_deed (sp_check_deed_m c) hr (by decide) (by rfl) (fun _ => .nil) (pxa_cons (pxv 0) (pxa_cons (pxv 2) pxa_nil))))))
  (pxs_one (px_for PassesOwn.never rfl (px_range2 (by rfl) m_range px_int (px_len (by rfl) m_len (pxv 1))) (pxg_name sc_check_together.nd rfl (by first | exact .inl rfl | exact .inr rfl))
  (pxs_one (px_if (pxt_cmp cx_le (px_ix (pxv 1) (pxv 3)) (px_ix (pxv 1) (px_sub (pxv 3) px_int)))
  (pxs_one px_never)
  pxs_nil))))))⟩
theorem sc_bring_wish : FnScope ["book", "deed", "rows", "other"] ["book", "deed"] (defScope (top 53)) := ⟨rfl, rfl, rfl, by decide +kernel, rfl, by decide +kernel, by decide +kernel⟩
theorem b_bring_wish {P : Program} {w : World} {K : PySem.W.Frag} {mg : Str → Option Value} {base : Heap} {c : Ad} (c_Wish : Kc P w K mg base "Wish" c.Wish ["self", "goal", "rows", "unit"] 1 sp_Wish_init []) (o_Wish : ∀ xs Q, sp_Wish_init xs Q → sp_Wish_init xs (fun fs => Q fs ∧ InsOk K c.Wish fs)) (m_range : mg "range" = none) (k_deed_row : Kn P w K mg base "deed_row" ["book", "deed", "other"] 1 (sp_deed_row c) []) (k_check_deed : Kn P w K mg base "check_deed" ["book", "deed"] 1 (sp_check_deed c) [])
  (f : Addr) (cdv : Value) (A : Around) (outer : List Env) (s : Shared) (H : Hp) (E : XK) (hr : Room 2 (A.deeper (envOfC "bring_wish" (defScope (top 53)) s.heap.objs.size f cdv))) :
  ∃ t, PXS (cxOf CX0 P w K mg base ["book", "deed", "rows", "other"] "bring_wish" (defScope (top 53)) f cdv A outer s H E).nox (defBody (top 53)) t (d_bring_wish c) :=
  ⟨_, (pxs_cons (px_exprS (px_k k_check_deed (sp_check_deed_m c) hr (by decide) (by rfl) (fun _ => .nil) (pxa_cons (pxv 0) (pxa_cons (pxv 1) pxa_nil))))
  (pxs_cons (px_setLcG (i := 2) (own := [("other", 3)]) (g := (gName 3)) (tt := (tTest (tOp rNe (tVar 3) (tVar 1)))) (te := (tCall (liftSp K (sp_deed_row c)) [] E0 (tCons (tVar 0) (tCons (tVar 1) (tCons (tVar 3) tNil))))) rfl sc_bring_wish.nd (px_range1 (by rfl) m_range (px_fld (pxv 0))) (blkOk_by (N := ["book", "deed", "rows", "other"]) (sc := defScope (top 53)) (by decide +kernel)) (fun _ _ _ _ _ => (pxgc_name sc_bring_wish.nd)) (fun _ _ _ _ _ => (pxts_one (pxt_cmp cx_ne (pxv 3) (pxv 1)))) (fun _ _ _ _ _ => (px_k k_deed_row (sp_deed_row_m c) hr (by decide) (by rfl) (fun _ => .nil) (pxa_cons (pxv 0) (pxa_cons (pxv 1) (pxa_cons (pxv 3) pxa_nil))))))
  (pxs_one (px_ret (px_c c_Wish sp_Wish_init_m o_Wish hr (by decide) (by rfl) (fun _ => .nil) (pxa_cons (px_ix (px_fld (pxv 0)) (pxv 1)) (pxa_cons (pxv 2) (pxa_cons (px_fld (pxv 0)) pxa_nil))))))))⟩
theorem sc_ties_wish : FnScope ["book", "deeds", "first", "own", "further", "other"] ["book", "deeds"] (defScope (top 69)) := ⟨rfl, rfl, rfl, by decide +kernel, rfl, by decide +kernel, by decide +kernel⟩
theorem b_ties_wish {P : Program} {w : World} {K : PySem.W.Frag} {mg : Str → Option Value} {base : Heap} {c : Ad} (c_Wish : Kc P w K mg base "Wish" c.Wish ["self", "goal", "rows", "unit"] 1 sp_Wish_init []) (o_Wish : ∀ xs Q, sp_Wish_init xs Q → sp_Wish_init xs (fun fs => Q fs ∧ InsOk K c.Wish fs)) (m_tuple : mg "tuple" = none) (k_deed_row : Kn P w K mg base "deed_row" ["book", "deed", "other"] 1 (sp_deed_row c) []) (k_bring_wish : Kn P w K mg base "bring_wish" ["book", "deed"] 3 (sp_bring_wish c) []) (k_check_together : Kn P w K mg base "check_together" ["book", "deeds"] 2 (sp_check_together c) [])
  (f : Addr) (cdv : Value) (A : Around) (outer : List Env) (s : Shared) (H : Hp) (E : XK) (hr : Room 3 (A.deeper (envOfC "ties_wish" (defScope (top 69)) s.heap.objs.size f cdv))) :
  ∃ t, PXS (cxOf CX0 P w K mg base ["book", "deeds", "first", "own", "further", "other"] "ties_wish" (defScope (top 69)) f cdv A outer s H E).nox (defBody (top 69)) t (d_ties_wish c) :=
  ⟨_, (pxs_cons (px_exprS (px_k k_check_together (sp_check_together_m c) hr (by decide) (by rfl) (fun _ => .nil) (pxa_cons (pxv 0) (pxa_cons (pxv 1) pxa_nil))))
  (pxs_cons (px_asg (px_ix (pxv 1) px_int) (pxg_name (i := 2) sc_ties_wish.nd rfl (by first | exact .inl rfl | exact .inr rfl)))
  (pxs_cons (px_asg (px_k k_bring_wish (sp_bring_wish_m c) hr (by decide) (by rfl) (fun _ => .nil) (pxa_cons (pxv 0) (pxa_cons (pxv 2) pxa_nil))) (pxg_name (i := 3) sc_ties_wish.nd rfl (by first | exact .inl rfl | exact .inr rfl)))
  (pxs_cons (px_setLcG (i := 4) (own := [("other", 5)]) (g := (gName 5)) (tt := tYes) (te := (tCall (liftSp K (sp_deed_row c)) [] E0 (tCons (tVar 0) (tCons (tVar 5) (tCons (tVar 2) tNil))))) rfl sc_ties_wish.nd (px_iter (px_sl (pxv 1) (pxo_some px_int) pxo_none)) (blkOk_by (N := ["book", "deeds", "first", "own", "further", "other"]) (sc := defScope (top 69)) (by decide +kernel)) (fun _ _ _ _ _ => (pxgc_name sc_ties_wish.nd)) (fun _ _ _ _ _ => pxts_nil) (fun _ _ _ _ _ => (px_k k_deed_row (sp_deed_row_m c) hr (by decide) (by rfl) (fun _ => .nil) (pxa_cons (pxv 0) (pxa_cons (pxv 5) (pxa_cons (pxv 2) pxa_nil))))))
  (pxs_one (px_ret (px_c c_Wish sp_Wish_init_m o_Wish hr (by decide) (by rfl) (fun _ => .nil) (pxa_cons (px_fld (pxv 3)) (pxa_cons (px_catT (px_fld (pxv 3)) (px_tupleOf (by rfl) m_tuple (pxv 4))) (pxa_cons (px_fld (pxv 3)) pxa_nil))))))))))⟩
theorem sc_ties : FnScope ["book", "deeds"] ["book", "deeds"] (defScope (top 70)) := ⟨rfl, rfl, rfl, by decide +kernel, rfl, by decide +kernel, by decide +kernel⟩
theorem b_ties {P : Program} {w : World} {K : PySem.W.Frag} {mg : Str → Option Value} {base : Heap} {c : Ad} (k_ask : Kn P w K mg base "ask" ["wish"] 4 (sp_ask c) []) (k_ties_wish : Kn P w K mg base "ties_wish" ["book", "deeds"] 4 (sp_ties_wish c) [])
  (f : Addr) (cdv : Value) (A : Around) (outer : List Env) (s : Shared) (H : Hp) (E : XK) (hr : Room 4 (A.deeper (envOfC "ties" (defScope (top 70)) s.heap.objs.size f cdv))) :
  ∃ t, PXS (cxOf CX0 P w K mg base ["book", "deeds"] "ties" (defScope (top 70)) f cdv A outer s H E).nox (defBody (top 70)) t (d_ties c) :=
  ⟨_, (pxs_one (px_ret (px_k k_ask (sp_ask_m c) hr (by decide) (by rfl) (fun _ => .nil) (pxa_cons (px_k k_ties_wish (sp_ties_wish_m c) hr (by decide) (by rfl) (fun _ => .nil) (pxa_cons (pxv 0) (pxa_cons (pxv 1) pxa_nil))) pxa_nil))))⟩
theorem sc_choice_row : FnScope ["kinds", "asked", "kind", "offer", "deed", "book", "numbers", "sign"] ["kinds", "asked", "kind", "offer", "deed"] (defScope (top 56)) := ⟨rfl, rfl, rfl, by decide +kernel, rfl, by decide +kernel, by decide +kernel⟩
theorem b_choice_row {P : Program} {w : World} {K : PySem.W.Frag} {mg : Str → Option Value} {base : Heap} (m_range : mg "range" = none)
  (f : Addr) (cdv : Value) (A : Around) (outer : List Env) (s : Shared) (H : Hp) (E : XK) (hr : Room 0 (A.deeper (envOfC "choice_row" (defScope (top 56)) s.heap.objs.size f cdv))) :
  ∃ t, PXS (cxOf CX0 P w K mg base ["kinds", "asked", "kind", "offer", "deed", "book", "numbers", "sign"] "choice_row" (defScope (top 56)) f cdv A outer s H E).nox (defBody (top 56)) t (d_choice_row) :=
  ⟨_, (pxs_cons (px_asg (px_ix (px_fld (pxv 0)) (pxv 2)) (pxg_name (i := 5) sc_choice_row.nd rfl (by first | exact .inl rfl | exact .inr rfl)))
  (pxs_cons (px_set (i := 6) sc_choice_row.nd rfl (by first | exact .inl rfl | exact .inr rfl) (px_rep (px_lst (pxa_cons px_int pxa_nil)) (px_mul (px_fld (pxv 0)) (px_fld (pxv 0)))))
  (pxs_cons (px_for PassesOwn.never rfl (px_range1 (by rfl) m_range (px_fld (pxv 0))) (pxg_name sc_choice_row.nd rfl (by first | exact .inl rfl | exact .inr rfl))
  (pxs_cons (px_augIAdd (pxv 6) (px_add (px_mul (pxv 2) (px_fld (pxv 0))) (pxv 7)) (px_ix (px_ix (px_fld (pxv 5)) (px_ix (pxv 1) (pxv 2))) (pxv 7)))
  (pxs_one (px_augISub (pxv 6) (px_add (px_mul (pxv 3) (px_fld (pxv 0))) (pxv 7)) (px_ix (px_ix (px_fld (pxv 5)) (pxv 4)) (pxv 7))))))
  (pxs_frz 6 (pxs_one (px_ret (px_tup (pxa_cons (pxv 6) (pxa_cons (px_mul (px_fld (pxv 5)) (px_sub (px_ix (px_fld (pxv 5)) (px_ix (pxv 1) (pxv 2))) (px_ix (px_fld (pxv 5)) (pxv 4)))) pxa_nil)))))))))⟩
theorem sc_menu_wish : FnScope ["kinds", "asked", "goal", "rows", "kind", "book", "offer", "deed", "part"] ["kinds", "asked"] (defScope (top 57)) := ⟨rfl, rfl, rfl, by decide +kernel, rfl, by decide +kernel, by decide +kernel⟩
theorem b_menu_wish {P : Program} {w : World} {K : PySem.W.Frag} {mg : Str → Option Value} {base : Heap} {c : Ad} (c_Wish : Kc P w K mg base "Wish" c.Wish ["self", "goal", "rows", "unit"] 1 sp_Wish_init []) (o_Wish : ∀ xs Q, sp_Wish_init xs Q → sp_Wish_init xs (fun fs => Q fs ∧ InsOk K c.Wish fs)) (p_Kinds_total_weight : Kp P w K mg base c.Kinds "total_weight" 1 (sp_Kinds_total_weight c)) (m_enumerate : mg "enumerate" = none) (m_range : mg "range" = none) (k_choice_row : Kn P w K mg base "choice_row" ["kinds", "asked", "kind", "offer", "deed"] 1 (sp_choice_row c) []) (k_check_asked : Kn P w K mg base "check_asked" ["kinds", "asked"] 2 (sp_check_asked c) [])
  (f : Addr) (cdv : Value) (A : Around) (outer : List Env) (s : Shared) (H : Hp) (E : XK) (hr : Room 2 (A.deeper (envOfC "menu_wish" (defScope (top 57)) s.heap.objs.size f cdv))) :
  ∃ t, PXS (cxOf CX0 P w K mg base ["kinds", "asked", "goal", "rows", "kind", "book", "offer", "deed", "part"] "menu_wish" (defScope (top 57)) f cdv A outer s H E).nox (defBody (top 57)) t (d_menu_wish c) :=
  ⟨_, (pxs_cons (px_exprS (px_k k_check_asked (sp_check_asked_m c) hr (by decide) (by rfl) (fun _ => .nil) (pxa_cons (pxv 0) (pxa_cons (pxv 1) pxa_nil))))
  (pxs_cons (px_par (i := 2) (j := 3) rfl sc_menu_wish.nd rfl rfl (by decide) rfl rfl (px_lst pxa_nil) (px_lst pxa_nil))
  (pxs_cons (px_for PassesOwn.never rfl (px_enum (by rfl) m_enumerate (px_fld (pxv 0))) (pxg_tup rfl (pxgs_cons (pxg_name sc_menu_wish.nd rfl (by first | exact .inl rfl | exact .inr rfl)) (pxgs_cons (pxg_name sc_menu_wish.nd rfl (by first | exact .inl rfl | exact .inr rfl)) pxgs_nil)))
  (pxs_cons (px_ext (pxv 2) (px_lc (own := [("part", 8)]) (g := (gName 8)) (tt := tYes) (te := (tOp (rI CMulW fun i j => .int (i * j)) (tOp (rIx K) (tFld K (tVar 0) "weights") (tVar 4)) (tVar 8))) rfl sc_menu_wish.nd (px_iter (px_ix (px_fld (pxv 5)) (px_ix (pxv 1) (pxv 4)))) (blkOk_by (N := ["kinds", "asked", "goal", "rows", "kind", "book", "offer", "deed", "part"]) (sc := defScope (top 57)) (by decide +kernel)) (fun _ _ _ _ _ => (pxgc_name sc_menu_wish.nd)) (fun _ _ _ _ _ => pxts_nil) (fun _ _ _ _ _ => (px_mul (px_ix (px_fld (pxv 0)) (pxv 4)) (pxv 8)))) (pe_bm PySem.F.plainAttrs_list PySem.F.slot_list_extend PySem.F.type_list_extend mt_extend (pxv 2).p (pa_cons (px_lc (own := [("part", 8)]) (g := (gName 8)) (tt := tYes) (te := (tOp (rI CMulW fun i j => .int (i * j)) (tOp (rIx K) (tFld K (tVar 0) "weights") (tVar 4)) (tVar 8))) rfl sc_menu_wish.nd (px_iter (px_ix (px_fld (pxv 5)) (px_ix (pxv 1) (pxv 4)))) (blkOk_by (N := ["kinds", "asked", "goal", "rows", "kind", "book", "offer", "deed", "part"]) (sc := defScope (top 57)) (by decide +kernel)) (fun _ _ _ _ _ => (pxgc_name sc_menu_wish.nd)) (fun _ _ _ _ _ => pxts_nil) (fun _ _ _ _ _ => (px_mul (px_ix (px_fld (pxv 0)) (pxv 4)) (pxv 8)))).p pa_nil)))
  (pxs_one (px_for PassesOwn.never rfl (px_range1 (by rfl) m_range (px_fld (pxv 0))) (pxg_name sc_menu_wish.nd rfl (by first | exact .inl rfl | exact .inr rfl))
  (pxs_one (px_for PassesOwn.never rfl (px_range1 (by rfl) m_range (px_fld (pxv 0))) (pxg_name sc_menu_wish.nd rfl (by first | exact .inl rfl | exact .inr rfl))
  (pxs_one (px_if (pxt_w (pxw_or (pxt_cmp cx_ne (pxv 6) (pxv 4)) (pxw_or1 (pxt_cmp cx_ne (pxv 7) (px_ix (pxv 1) (pxv 4))))))
  (pxs_one (px_app (pxv 3) (px_k k_choice_row (sp_choice_row_m c) hr (by decide) (by rfl) (fun _ => .nil) (pxa_cons (pxv 0) (pxa_cons (pxv 1) (pxa_cons (pxv 4) (pxa_cons (pxv 6) (pxa_cons (pxv 7) pxa_nil)))))) (pe_bm PySem.F.plainAttrs_list PySem.F.slot_list_append PySem.F.type_list_append mt_append (pxv 3).p (pa_cons (px_k k_choice_row (sp_choice_row_m c) hr (by decide) (by rfl) (fun _ => .nil) (pxa_cons (pxv 0) (pxa_cons (pxv 1) (pxa_cons (pxv 4) (pxa_cons (pxv 6) (pxa_cons (pxv 7) pxa_nil)))))).p pa_nil))))
  pxs_nil))))))))
  (pxs_frz 3 (pxs_frz 2 (pxs_one (px_ret (px_c c_Wish sp_Wish_init_m o_Wish hr (by decide) (by rfl) (fun _ => .nil) (pxa_cons (pxv 2) (pxa_cons (pxv 3) (pxa_cons (px_mul (px_fld (pxv 0)) (px_prop p_Kinds_total_weight (sp_Kinds_total_weight_m c) hr (by decide) (pxv 0))) pxa_nil)))))))))))⟩
theorem sc_menu : FnScope ["kinds", "asked"] ["kinds", "asked"] (defScope (top 58)) := ⟨rfl, rfl, rfl, by decide +kernel, rfl, by decide +kernel, by decide +kernel⟩
theorem b_menu {P : Program} {w : World} {K : PySem.W.Frag} {mg : Str → Option Value} {base : Heap} {c : Ad} (k_ask : Kn P w K mg base "ask" ["wish"] 4 (sp_ask c) []) (k_menu_wish : Kn P w K mg base "menu_wish" ["kinds", "asked"] 3 (sp_menu_wish c) [])
  (f : Addr) (cdv : Value) (A : Around) (outer : List Env) (s : Shared) (H : Hp) (E : XK) (hr : Room 4 (A.deeper (envOfC "menu" (defScope (top 58)) s.heap.objs.size f cdv))) :
  ∃ t, PXS (cxOf CX0 P w K mg base ["kinds", "asked"] "menu" (defScope (top 58)) f cdv A outer s H E).nox (defBody (top 58)) t (d_menu c) :=
  ⟨_, (pxs_one (px_ret (px_k k_ask (sp_ask_m c) hr (by decide) (by rfl) (fun _ => .nil) (pxa_cons (px_k k_menu_wish (sp_menu_wish_m c) hr (by decide) (by rfl) (fun _ => .nil) (pxa_cons (pxv 0) (pxa_cons (pxv 1) pxa_nil))) pxa_nil))))⟩
theorem sc__law_shared : FnScope ["first", "second", "k", "rest"] ["first", "second"] (defScope (top 76)) := ⟨rfl, rfl, rfl, by decide +kernel, rfl, by decide +kernel, by decide +kernel⟩
theorem b__law_shared {P : Program} {w : World} {K : PySem.W.Frag} {mg : Str → Option Value} {base : Heap} (m_range : mg "range" = none) (m_abs : mg "abs" = none) (m_int : mg "int" = none)
  (f : Addr) (cdv : Value) (A : Around) (outer : List Env) (s : Shared) (H : Hp) (E : XK) (hr : Room 0 (A.deeper (envOfC "_law_shared" (defScope (top 76)) s.heap.objs.size f cdv))) :
  ∃ t, PXS (cxOf CX0 P w K mg base ["first", "second", "k", "rest"] "_law_shared" (defScope (top 76)) f cdv A outer s H E).nox (defBody (top 76)) t (d__law_shared) :=
  ⟨_, (pxs_cons (px_asg (px_abs (by rfl) m_abs (pxv 0)) (pxg_name (i := 0) sc__law_shared.nd rfl (by first | exact .inl rfl | exact .inr rfl)))
  (pxs_cons (px_for PassesOwn.never rfl (px_range1 (by rfl) m_range (px_add (px_mul px_int (px_bits (px_abs (by rfl) m_abs (pxv 1)))) px_int)) (pxg_name sc__law_shared.nd rfl (by first | exact .inl rfl | exact .inr rfl))
  (pxs_cons (px_if (pxt_cmp cx_eq (pxv 1) px_int)
  (pxs_one (px_retV 0 (pxv 0)))
  pxs_nil)
  (pxs_cons (px_asg (px_mod (px_intOf (by rfl) m_int (pxv 0)) (pxv 1)) (pxg_name (i := 3) sc__law_shared.nd rfl (by first | exact .inl rfl | exact .inr rfl)))
  (pxs_cons (px_asg (pxv 1) (pxg_name (i := 0) sc__law_shared.nd rfl (by first | exact .inl rfl | exact .inr rfl)))
  (pxs_one (px_asg (pxv 3) (pxg_name (i := 1) sc__law_shared.nd rfl (by first | exact .inl rfl | exact .inr rfl))))))))
  (pxs_one (px_ret px_int))))⟩
theorem sc__law_low : FnScope ["top", "bottom", "shared"] ["top", "bottom"] (defScope (top 77)) := ⟨rfl, rfl, rfl, by decide +kernel, rfl, by decide +kernel, by decide +kernel⟩
theorem b__law_low {P : Program} {w : World} {K : PySem.W.Frag} {mg : Str → Option Value} {base : Heap} (k__law_shared : Kn P w K mg base "_law_shared" ["first", "second"] 1 sp__law_shared [])
  (f : Addr) (cdv : Value) (A : Around) (outer : List Env) (s : Shared) (H : Hp) (E : XK) (hr : Room 1 (A.deeper (envOfC "_law_low" (defScope (top 77)) s.heap.objs.size f cdv))) :
  ∃ t, PXS (cxOf CX0 P w K mg base ["top", "bottom", "shared"] "_law_low" (defScope (top 77)) f cdv A outer s H E).nox (defBody (top 77)) t (d__law_low) :=
  ⟨_, (pxs_cons (px_asg (px_k k__law_shared sp__law_shared_m hr (by decide) (by rfl) (fun _ => .nil) (pxa_cons (pxv 0) (pxa_cons (pxv 1) pxa_nil))) (pxg_name (i := 2) sc__law_low.nd rfl (by first | exact .inl rfl | exact .inr rfl)))
  (pxs_one (px_ret (px_tup (pxa_cons (px_fdiv (pxv 0) (pxv 2)) (pxa_cons (px_fdiv (pxv 1) (pxv 2)) pxa_nil))))))⟩
theorem sc_compare : FnScope ["first", "second", "difference"] ["first", "second"] (defScope (top 26)) := ⟨rfl, rfl, rfl, by decide +kernel, rfl, by decide +kernel, by decide +kernel⟩
theorem b_compare {P : Program} {w : World} {K : PySem.W.Frag} {mg : Str → Option Value} {base : Heap} (m_int : mg "int" = none)
  (f : Addr) (cdv : Value) (A : Around) (outer : List Env) (s : Shared) (H : Hp) (E : XK) (hr : Room 0 (A.deeper (envOfC "compare" (defScope (top 26)) s.heap.objs.size f cdv))) :
  ∃ t, PXS (cxOf CX0 P w K mg base ["first", "second", "difference"] "compare" (defScope (top 26)) f cdv A outer s H E).nox (defBody (top 26)) t (d_compare) :=
  ⟨_, (pxs_cons (px_asg (px_sub (px_mul (px_ix (pxv 0) px_int) (px_ix (pxv 1) px_int)) (px_mul (px_ix (pxv 1) px_int) (px_ix (pxv 0) px_int))) (pxg_name (i := 2) sc_compare.nd rfl (by first | exact .inl rfl | exact .inr rfl)))
  (pxs_cons (px_if (pxt_cmp cx_lt (pxv 2) px_int)
  (pxs_one (px_ret (px_neg px_int)))
  pxs_nil)
  (pxs_one (px_ret (px_intOf (by rfl) m_int (px_cmp cx_gt (pxv 2) px_int))))))⟩
theorem sc_first_negative : FnScope ["amounts", "place", "amount"] ["amounts"] (defScope (top 28)) := ⟨rfl, rfl, rfl, by decide +kernel, rfl, by decide +kernel, by decide +kernel⟩
theorem b_first_negative {P : Program} {w : World} {K : PySem.W.Frag} {mg : Str → Option Value} {base : Heap} {c : Ad} (m_enumerate : mg "enumerate" = none) (k_compare : Kn P w K mg base "compare" ["first", "second"] 1 sp_compare []) (t_ZERO : mg "ZERO" = some (.ref c.ZERO)) (q_ZERO : ∀ H, SqT K H c.ZERO [V.int 0, V.int 1]) (m_len : mg "len" = none)
  (f : Addr) (cdv : Value) (A : Around) (outer : List Env) (s : Shared) (H : Hp) (E : XK) (hr : Room 1 (A.deeper (envOfC "first_negative" (defScope (top 28)) s.heap.objs.size f cdv))) :
  ∃ t, PXS (cxOf CX0 P w K mg base ["amounts", "place", "amount"] "first_negative" (defScope (top 28)) f cdv A outer s H E).nox (defBody (top 28)) t (d_first_negative) :=
  ⟨_, (pxs_cons (px_if (pxt_cmp cx_eq (px_len (by rfl) m_len (pxv 0)) px_int)
  (pxs_one (px_ret (px_neg px_int)))
  pxs_nil)
  (pxs_cons (px_for PassesOwn.never rfl (px_enum (by rfl) m_enumerate (pxv 0)) (pxg_tup rfl (pxgs_cons (pxg_name sc_first_negative.nd rfl (by first | exact .inl rfl | exact .inr rfl)) (pxgs_cons (pxg_name sc_first_negative.nd rfl (by first | exact .inl rfl | exact .inr rfl)) pxgs_nil)))
  (pxs_one (px_if (pxt_cmp cx_lt (px_k k_compare sp_compare_m hr (by decide) (by rfl) (fun _ => .nil) (pxa_cons (pxv 2) (pxa_cons (px_gtupE (ns := [0, 1]) (by rfl) t_ZERO q_ZERO) pxa_nil))) px_int)
  (pxs_one (px_retV 1 (pxv 1)))
  pxs_nil)))
  (pxs_one (px_ret px_non))))⟩
theorem sc_Pay_init : FnScope ["self", "amounts", "fault"] ["self", "amounts"] (defScope (meth 29 0)) := ⟨rfl, rfl, rfl, by decide +kernel, rfl, by decide +kernel, by decide +kernel⟩
theorem b_Pay_init {P : Program} {w : World} {K : PySem.W.Frag} {mg : Str → Option Value} {base : Heap} {c : Ad} (m_tuple : mg "tuple" = none) (cls_Pay : Cls K c.Pay) (na_Pay_amounts : NoAttr K c.Pay "amounts") (k_first_negative : Kn P w K mg base "first_negative" ["amounts"] 2 sp_first_negative []) (m_len : mg "len" = none) (i_SIGNS : ∃ t, mg "SIGNS" = some (.int 9 t))
  (f : Addr) (cdv : Value) (A : Around) (outer : List Env) (s : Shared) (H : Hp) (E : XK) (hr : Room 2 (A.deeper (envOfC "Pay.__init__" (defScope (meth 29 0)) s.heap.objs.size f cdv))) :
  ∃ t, PXS (cxOf CX0 P w K mg base ["self", "amounts", "fault"] "Pay.__init__" (defScope (meth 29 0)) f cdv A outer s H E).nox (defBody (meth 29 0)) t (d_Pay_init c) :=
  ⟨_, (pxs_cons (px_if (pxt_cmp cx_gt (px_len (by rfl) m_len (pxv 1)) (px_gintE (by rfl) i_SIGNS))
  (pxs_one px_never)
  pxs_nil)
  (pxs_cons (px_asg (px_k k_first_negative sp_first_negative_m hr (by decide) (by rfl) (fun _ => .nil) (pxa_cons (pxv 1) pxa_nil)) (pxg_name (i := 2) sc_Pay_init.nd rfl (by first | exact .inl rfl | exact .inr rfl)))
  (pxs_cons (px_if (pxt_cmp cx_notN (pxv 2) px_non)
  (pxs_one px_never)
  pxs_nil)
  (pxs_one (px_fldSet cls_Pay na_Pay_amounts (pxv 0) (px_tupleOf (by rfl) m_tuple (pxv 1)))))))⟩
theorem sc_pay_of : FnScope ["granted", "signs", "place"] ["granted", "signs", "place"] (defScope (top 50)) := ⟨rfl, rfl, rfl, by decide +kernel, rfl, by decide +kernel, by decide +kernel⟩
theorem b_pay_of {P : Program} {w : World} {K : PySem.W.Frag} {mg : Str → Option Value} {base : Heap} {c : Ad} (c_Pay : Kc P w K mg base "Pay" c.Pay ["self", "amounts"] 3 sp_Pay_init []) (o_Pay : ∀ xs Q, sp_Pay_init xs Q → sp_Pay_init xs (fun fs => Q fs ∧ InsOk K c.Pay fs))
  (f : Addr) (cdv : Value) (A : Around) (outer : List Env) (s : Shared) (H : Hp) (E : XK) (hr : Room 4 (A.deeper (envOfC "pay_of" (defScope (top 50)) s.heap.objs.size f cdv))) :
  ∃ t, PXS (cxOf CX0 P w K mg base ["granted", "signs", "place"] "pay_of" (defScope (top 50)) f cdv A outer s H E).nox (defBody (top 50)) t (d_pay_of c) :=
  ⟨_, (pxs_one (px_ret (px_c c_Pay sp_Pay_init_m o_Pay hr (by decide) (by rfl) (fun _ => .nil) (pxa_cons (px_sl (px_fld (pxv 0)) (pxo_some (px_mul (pxv 2) (pxv 1))) (pxo_some (px_mul (px_add (pxv 2) px_int) (pxv 1)))) pxa_nil))))⟩
theorem sc__law_sum : FnScope ["numbers", "ratios", "top", "bottom", "k"] ["numbers", "ratios"] (defScope (top 82)) := ⟨rfl, rfl, rfl, by decide +kernel, rfl, by decide +kernel, by decide +kernel⟩
theorem b__law_sum {P : Program} {w : World} {K : PySem.W.Frag} {mg : Str → Option Value} {base : Heap} (m_range : mg "range" = none) (m_len : mg "len" = none)
  (f : Addr) (cdv : Value) (A : Around) (outer : List Env) (s : Shared) (H : Hp) (E : XK) (hr : Room 0 (A.deeper (envOfC "_law_sum" (defScope (top 82)) s.heap.objs.size f cdv))) :
  ∃ t, PXS (cxOf CX0 P w K mg base ["numbers", "ratios", "top", "bottom", "k"] "_law_sum" (defScope (top 82)) f cdv A outer s H E).nox (defBody (top 82)) t (d__law_sum) :=
  ⟨_, (pxs_cons (px_asg px_int (pxg_name (i := 2) sc__law_sum.nd rfl (by first | exact .inl rfl | exact .inr rfl)))
  (pxs_cons (px_asg px_int (pxg_name (i := 3) sc__law_sum.nd rfl (by first | exact .inl rfl | exact .inr rfl)))
  (pxs_cons (px_for PassesOwn.never rfl (px_range1 (by rfl) m_range (px_len (by rfl) m_len (pxv 0))) (pxg_name sc__law_sum.nd rfl (by first | exact .inl rfl | exact .inr rfl))
  (pxs_cons (px_asg (px_add (px_mul (pxv 2) (px_ix (px_ix (pxv 1) (pxv 4)) px_int)) (px_mul (px_mul (px_ix (pxv 0) (pxv 4)) (px_ix (px_ix (pxv 1) (pxv 4)) px_int)) (pxv 3))) (pxg_name (i := 2) sc__law_sum.nd rfl (by first | exact .inl rfl | exact .inr rfl)))
  (pxs_one (px_asg (px_mul (pxv 3) (px_ix (px_ix (pxv 1) (pxv 4)) px_int)) (pxg_name (i := 3) sc__law_sum.nd rfl (by first | exact .inl rfl | exact .inr rfl))))))
  (pxs_one (px_ret (px_tup (pxa_cons (pxv 2) (pxa_cons (pxv 3) pxa_nil))))))))⟩
theorem sc__law_gain : FnScope ["costs", "rows", "deed", "amounts", "pay", "whole"] ["costs", "rows", "deed", "amounts"] (defScope (top 90)) := ⟨rfl, rfl, rfl, by decide +kernel, rfl, by decide +kernel, by decide +kernel⟩
theorem b__law_gain {P : Program} {w : World} {K : PySem.W.Frag} {mg : Str → Option Value} {base : Heap} (m_sum : mg "sum" = none) (k__law_sum : Kn P w K mg base "_law_sum" ["numbers", "ratios"] 1 sp__law_sum [])
  (f : Addr) (cdv : Value) (A : Around) (outer : List Env) (s : Shared) (H : Hp) (E : XK) (hr : Room 1 (A.deeper (envOfC "_law_gain" (defScope (top 90)) s.heap.objs.size f cdv))) :
  ∃ t, PXS (cxOf CX0 P w K mg base ["costs", "rows", "deed", "amounts", "pay", "whole"] "_law_gain" (defScope (top 90)) f cdv A outer s H E).nox (defBody (top 90)) t (d__law_gain) :=
  ⟨_, (pxs_cons (px_asg (px_k k__law_sum sp__law_sum_m hr (by decide) (by rfl) (fun _ => .nil) (pxa_cons (px_ix (pxv 1) (pxv 2)) (pxa_cons (pxv 3) pxa_nil))) (pxg_name (i := 4) sc__law_gain.nd rfl (by first | exact .inl rfl | exact .inr rfl)))
  (pxs_cons (px_asg (px_sum rfl (by rfl) m_sum (px_ix (pxv 1) px_int)) (pxg_name (i := 5) sc__law_gain.nd rfl (by first | exact .inl rfl | exact .inr rfl)))
  (pxs_one (px_ret (px_tup (pxa_cons (px_sub (px_ix (pxv 4) px_int) (px_mul (px_mul (pxv 5) (px_ix (pxv 0) (pxv 2))) (px_ix (pxv 4) px_int))) (pxa_cons (px_mul (pxv 5) (px_ix (pxv 4) px_int)) pxa_nil)))))))⟩
theorem sc__law_less : FnScope ["one", "two"] ["one", "two"] (defScope (top 83)) := ⟨rfl, rfl, rfl, by decide +kernel, rfl, by decide +kernel, by decide +kernel⟩
theorem b__law_less {P : Program} {w : World} {K : PySem.W.Frag} {mg : Str → Option Value} {base : Heap} 
  (f : Addr) (cdv : Value) (A : Around) (outer : List Env) (s : Shared) (H : Hp) (E : XK) (hr : Room 0 (A.deeper (envOfC "_law_less" (defScope (top 83)) s.heap.objs.size f cdv))) :
  ∃ t, PXS (cxOf CX0 P w K mg base ["one", "two"] "_law_less" (defScope (top 83)) f cdv A outer s H E).nox (defBody (top 83)) t (d__law_less) :=
  ⟨_, (pxs_one (px_ret (px_cmp cx_lt (px_mul (px_ix (pxv 0) px_int) (px_ix (pxv 1) px_int)) (px_mul (px_ix (pxv 1) px_int) (px_ix (pxv 0) px_int)))))⟩
theorem sc__law_same : FnScope ["one", "two"] ["one", "two"] (defScope (top 84)) := ⟨rfl, rfl, rfl, by decide +kernel, rfl, by decide +kernel, by decide +kernel⟩
theorem b__law_same {P : Program} {w : World} {K : PySem.W.Frag} {mg : Str → Option Value} {base : Heap} 
  (f : Addr) (cdv : Value) (A : Around) (outer : List Env) (s : Shared) (H : Hp) (E : XK) (hr : Room 0 (A.deeper (envOfC "_law_same" (defScope (top 84)) s.heap.objs.size f cdv))) :
  ∃ t, PXS (cxOf CX0 P w K mg base ["one", "two"] "_law_same" (defScope (top 84)) f cdv A outer s H E).nox (defBody (top 84)) t (d__law_same) :=
  ⟨_, (pxs_one (px_ret (px_cmp cx_eq (px_mul (px_ix (pxv 0) px_int) (px_ix (pxv 1) px_int)) (px_mul (px_ix (pxv 1) px_int) (px_ix (pxv 0) px_int)))))⟩
theorem sc__law_best : FnScope ["costs", "rows", "amounts", "gains", "best", "gain", "deed"] ["costs", "rows", "amounts"] (defScope (top 91)) := ⟨rfl, rfl, rfl, by decide +kernel, rfl, by decide +kernel, by decide +kernel⟩
theorem b__law_best {P : Program} {w : World} {K : PySem.W.Frag} {mg : Str → Option Value} {base : Heap} (m_range : mg "range" = none) (m_len : mg "len" = none) (k__law_same : Kn P w K mg base "_law_same" ["one", "two"] 1 sp__law_same []) (k__law_less : Kn P w K mg base "_law_less" ["one", "two"] 1 sp__law_less []) (k__law_gain : Kn P w K mg base "_law_gain" ["costs", "rows", "deed", "amounts"] 2 sp__law_gain [])
  (f : Addr) (cdv : Value) (A : Around) (outer : List Env) (s : Shared) (H : Hp) (E : XK) (hr : Room 2 (A.deeper (envOfC "_law_best" (defScope (top 91)) s.heap.objs.size f cdv))) :
  ∃ t, PXS (cxOf CX0 P w K mg base ["costs", "rows", "amounts", "gains", "best", "gain", "deed"] "_law_best" (defScope (top 91)) f cdv A outer s H E).nox (defBody (top 91)) t (d__law_best) :=
  ⟨_, (pxs_cons (px_asg (px_lcD (own := [("deed", 6)]) (g := (gName 6)) (te := (tCall (liftSp K sp__law_gain) [] E0 (tCons (tVar 0) (tCons (tVar 1) (tCons (tVar 6) (tCons (tVar 2) tNil)))))) rfl sc__law_best.nd (px_range1 (by rfl) m_range (px_len (by rfl) m_len (pxv 1))) (blkOk_by (N := ["costs", "rows", "amounts", "gains", "best", "gain", "deed"]) (sc := defScope (top 91)) (by decide +kernel)) (fun _ _ _ _ _ => (pxgc_name sc__law_best.nd)) (fun _ _ _ _ _ => (px_k k__law_gain sp__law_gain_m hr (by decide) (by rfl) (fun _ => .nil) (pxa_cons (pxv 0) (pxa_cons (pxv 1) (pxa_cons (pxv 6) (pxa_cons (pxv 2) pxa_nil))))))) (pxg_name (i := 3) sc__law_best.nd rfl (by first | exact .inl rfl | exact .inr rfl)))
  (pxs_cons (px_asg (px_ix (pxv 3) px_int) (pxg_name (i := 4) sc__law_best.nd rfl (by first | exact .inl rfl | exact .inr rfl)))
  (pxs_cons (px_for PassesOwn.never rfl (px_iter (pxv 3)) (pxg_name sc__law_best.nd rfl (by first | exact .inl rfl | exact .inr rfl))
  (pxs_one (px_if (pxt_val (px_k k__law_less sp__law_less_m hr (by decide) (by rfl) (fun _ => .nil) (pxa_cons (pxv 4) (pxa_cons (pxv 5) pxa_nil))))
  (pxs_one (px_asg (pxv 5) (pxg_name (i := 4) sc__law_best.nd rfl (by first | exact .inl rfl | exact .inr rfl))))
  pxs_nil)))
  (pxs_one (px_ret (px_lc (own := [("deed", 6)]) (g := (gName 6)) (tt := (tB (tCall (liftSp K sp__law_same) [] E0 (tCons (tOp (rIx K) (tVar 3) (tVar 6)) (tCons (tVar 4) tNil))))) (te := (tVar 6)) rfl sc__law_best.nd (px_range1 (by rfl) m_range (px_len (by rfl) m_len (pxv 1))) (blkOk_by (N := ["costs", "rows", "amounts", "gains", "best", "gain", "deed"]) (sc := defScope (top 91)) (by decide +kernel)) (fun _ _ _ _ _ => (pxgc_name sc__law_best.nd)) (fun _ _ _ _ _ => (pxts_one (pxt_val (px_k k__law_same sp__law_same_m hr (by decide) (by rfl) (fun _ => .nil) (pxa_cons (px_ix (pxv 3) (pxv 6)) (pxa_cons (pxv 4) pxa_nil)))))) (fun _ _ _ _ _ => (pxv 6))))))))⟩
theorem sc__law_is_whole : FnScope ["told"] ["told"] (defScope (top 78)) := ⟨rfl, rfl, rfl, by decide +kernel, rfl, by decide +kernel, by decide +kernel⟩
theorem b__law_is_whole {P : Program} {w : World} {K : PySem.W.Frag} {mg : Str → Option Value} {base : Heap} (m_isinstance : mg "isinstance" = none) (m_bool : mg "bool" = none) (m_int : mg "int" = none)
  (f : Addr) (cdv : Value) (A : Around) (outer : List Env) (s : Shared) (H : Hp) (E : XK) (hr : Room 0 (A.deeper (envOfC "_law_is_whole" (defScope (top 78)) s.heap.objs.size f cdv))) :
  ∃ t, PXS (cxOf CX0 P w K mg base ["told"] "_law_is_whole" (defScope (top 78)) f cdv A outer s H E).nox (defBody (top 78)) t (d__law_is_whole) :=
  ⟨_, (pxs_one (px_ret (px_and (px_isi (T := "int") (by rfl) m_isinstance (by rfl) m_int (by decide +kernel) (pxv 0)) (px_one (px_not (px_isi (T := "bool") (by rfl) m_isinstance (by rfl) m_bool (by decide +kernel) (pxv 0)))))))⟩
theorem sc__law_alike : FnScope ["told", "due", "k"] ["told", "due"] (defScope (top 81)) := ⟨rfl, rfl, rfl, by decide +kernel, rfl, by decide +kernel, by decide +kernel⟩
theorem b__law_alike {P : Program} {w : World} {K : PySem.W.Frag} {mg : Str → Option Value} {base : Heap} {dp lv lw : Nat} (hlv : lv ≤ lw) (hbs : 1 ≤ lw) (m_range : mg "range" = none) (m_len : mg "len" = none) (ih : Kn P w K mg base "_law_alike" ["told", "due"] lv (sp__law_alike dp) []) (m_isinstance : mg "isinstance" = none) (m_tuple : mg "tuple" = none) (m_str : mg "str" = none) (m_int : mg "int" = none) (k__law_is_whole : Kn P w K mg base "_law_is_whole" ["told"] 1 sp__law_is_whole [])
  (f : Addr) (cdv : Value) (A : Around) (outer : List Env) (s : Shared) (H : Hp) (E : XK) (hr : Room lw (A.deeper (envOfC "_law_alike" (defScope (top 81)) s.heap.objs.size f cdv))) :
  ∃ t, PXS (cxOf CX0 P w K mg base ["told", "due", "k"] "_law_alike" (defScope (top 81)) f cdv A outer s H E).nox (defBody (top 81)) t (d__law_alike dp) :=
  ⟨_, (pxs_cons (px_if (pxt_cmp cx_isN (pxv 1) px_non)
  (pxs_one (px_ret (px_cmp cx_isN (pxv 0) px_non)))
  pxs_nil)
  (pxs_cons (px_if (pxt_cmp cx_isTF (pxv 1) px_bl)
  (pxs_one (px_ret (px_cmp cx_isTF (pxv 0) px_bl)))
  pxs_nil)
  (pxs_cons (px_if (pxt_cmp cx_isTF (pxv 1) px_bl)
  (pxs_one (px_ret (px_cmp cx_isTF (pxv 0) px_bl)))
  pxs_nil)
  (pxs_cons (px_if (pxt_val (px_isi (T := "int") (by rfl) m_isinstance (by rfl) m_int (by decide +kernel) (pxv 1)))
  (pxs_one (px_ret (px_and (px_k k__law_is_whole sp__law_is_whole_m hr (Nat.le_trans (by decide) hbs) (by rfl) (fun _ => .nil) (pxa_cons (pxv 0) pxa_nil)) (px_one (px_cmp cx_eq (pxv 0) (pxv 1))))))
  pxs_nil)
  (pxs_cons (px_if (pxt_val (px_isi (T := "str") (by rfl) m_isinstance (by rfl) m_str (by decide +kernel) (pxv 1)))
  (pxs_one (px_ret (px_and (px_isi (T := "str") (by rfl) m_isinstance (by rfl) m_str (by decide +kernel) (pxv 0)) (px_one (px_cmp cx_eq (pxv 0) (pxv 1))))))
  pxs_nil)
  (pxs_cons (px_if (pxt_w (pxw_or (pxt_not (pxt_val (px_isi (T := "tuple") (by rfl) m_isinstance (by rfl) m_tuple (by decide +kernel) (pxv 0)))) (pxw_or1 (pxt_cmp cx_ne (px_len (by rfl) m_len (pxv 0)) (px_len (by rfl) m_len (pxv 1))))))
  (pxs_one (px_ret px_bl))
  pxs_nil)
  (pxs_cons (px_for PassesOwn.never rfl (px_range1 (by rfl) m_range (px_len (by rfl) m_len (pxv 1))) (pxg_name sc__law_alike.nd rfl (by first | exact .inl rfl | exact .inr rfl))
  (pxs_one (px_if (pxt_not (pxt_val (px_k ih (sp__law_alike_m dp) hr hlv (by rfl) (fun _ => .nil) (pxa_cons (px_ix (pxv 0) (pxv 2)) (pxa_cons (px_ix (pxv 1) (pxv 2)) pxa_nil)))))
  (pxs_one (px_ret px_bl))
  pxs_nil)))
  (pxs_one (px_ret px_bl)))))))))⟩
theorem sc__law_columns : FnScope ["rows", "weights", "many", "k", "row"] ["rows", "weights", "many"] (defScope (top 88)) := ⟨rfl, rfl, rfl, by decide +kernel, rfl, by decide +kernel, by decide +kernel⟩
theorem b__law_columns {P : Program} {w : World} {K : PySem.W.Frag} {mg : Str → Option Value} {base : Heap} (m_range : mg "range" = none) (k__law_sum : Kn P w K mg base "_law_sum" ["numbers", "ratios"] 1 sp__law_sum [])
  (f : Addr) (cdv : Value) (A : Around) (outer : List Env) (s : Shared) (H : Hp) (E : XK) (hr : Room 1 (A.deeper (envOfC "_law_columns" (defScope (top 88)) s.heap.objs.size f cdv))) :
  ∃ t, PXS (cxOf CX0 P w K mg base ["rows", "weights", "many", "k", "row"] "_law_columns" (defScope (top 88)) f cdv A outer s H E).nox (defBody (top 88)) t (d__law_columns) :=
  ⟨_, (pxs_one (px_ret (px_lcD (own := [("k", 3)]) (g := (gName 3)) (te := (tCall (liftSp K sp__law_sum) [] E0 (tCons (tLc (iSeq K (tVar 0)) (gName 4) tYes (tOp (rIx K) (tOp (rIx K) (tVar 4) (tC (.int 0))) (tVar 3)) [4]) (tCons (tVar 1) tNil)))) rfl sc__law_columns.nd (px_range1 (by rfl) m_range (pxv 2)) (blkOk_by (N := ["rows", "weights", "many", "k", "row"]) (sc := defScope (top 88)) (by decide +kernel)) (fun _ _ _ _ _ => (pxgc_name sc__law_columns.nd)) (fun _ _ _ _ _ => (px_k k__law_sum sp__law_sum_m hr (by decide) (by rfl) (fun _ => .nil) (pxa_cons (px_lc (own := [("row", 4)]) (g := (gName 4)) (tt := tYes) (te := (tOp (rIx K) (tOp (rIx K) (tVar 4) (tC (.int 0))) (tVar 3))) rfl sc__law_columns.nd (px_iter (pxv 0)) (blkOk_by (by kernel_rfl)) (fun _ _ _ _ _ => (pxgc_name sc__law_columns.nd)) (fun _ _ _ _ _ => pxts_nil) (fun _ _ _ _ _ => (px_ix (px_ix (pxv 4) px_int) (pxv 3)))) (pxa_cons (pxv 1) pxa_nil)))))))⟩
theorem sc__law_is_ratio : FnScope ["told"] ["told"] (defScope (top 79)) := ⟨rfl, rfl, rfl, by decide +kernel, rfl, by decide +kernel, by decide +kernel⟩
theorem b__law_is_ratio {P : Program} {w : World} {K : PySem.W.Frag} {mg : Str → Option Value} {base : Heap} (k__law_shared : Kn P w K mg base "_law_shared" ["first", "second"] 1 sp__law_shared []) (k__law_is_whole : Kn P w K mg base "_law_is_whole" ["told"] 1 sp__law_is_whole []) (m_len : mg "len" = none) (m_isinstance : mg "isinstance" = none) (m_tuple : mg "tuple" = none)
  (f : Addr) (cdv : Value) (A : Around) (outer : List Env) (s : Shared) (H : Hp) (E : XK) (hr : Room 1 (A.deeper (envOfC "_law_is_ratio" (defScope (top 79)) s.heap.objs.size f cdv))) :
  ∃ t, PXS (cxOf CX0 P w K mg base ["told"] "_law_is_ratio" (defScope (top 79)) f cdv A outer s H E).nox (defBody (top 79)) t (d__law_is_ratio) :=
  ⟨_, (pxs_cons (px_if (pxt_w (pxw_or (pxt_not (pxt_val (px_isi (T := "tuple") (by rfl) m_isinstance (by rfl) m_tuple (by decide +kernel) (pxv 0)))) (pxw_or1 (pxt_cmp cx_ne (px_len (by rfl) m_len (pxv 0)) px_int))))
  (pxs_one (px_ret px_bl))
  pxs_nil)
  (pxs_cons (px_if (pxt_w (pxw_or (pxt_not (pxt_val (px_k k__law_is_whole sp__law_is_whole_m hr (by decide) (by rfl) (fun _ => .nil) (pxa_cons (px_ix (pxv 0) px_int) pxa_nil)))) (pxw_or (pxt_not (pxt_val (px_k k__law_is_whole sp__law_is_whole_m hr (by decide) (by rfl) (fun _ => .nil) (pxa_cons (px_ix (pxv 0) px_int) pxa_nil)))) (pxw_or1 (pxt_cmp cx_lt (px_ix (pxv 0) px_int) px_int)))))
  (pxs_one (px_ret px_bl))
  pxs_nil)
  (pxs_one (px_ret (px_cmp cx_eq (px_k k__law_shared sp__law_shared_m hr (by decide) (by rfl) (fun _ => .nil) (pxa_cons (px_ix (pxv 0) px_int) (pxa_cons (px_ix (pxv 0) px_int) pxa_nil))) px_int)))))⟩
theorem sc__law_are_ratios : FnScope ["told", "many", "each"] ["told", "many"] (defScope (top 80)) := ⟨rfl, rfl, rfl, by decide +kernel, rfl, by decide +kernel, by decide +kernel⟩
theorem b__law_are_ratios {P : Program} {w : World} {K : PySem.W.Frag} {mg : Str → Option Value} {base : Heap} (k__law_is_ratio : Kn P w K mg base "_law_is_ratio" ["told"] 2 sp__law_is_ratio []) (m_len : mg "len" = none) (m_isinstance : mg "isinstance" = none) (m_tuple : mg "tuple" = none)
  (f : Addr) (cdv : Value) (A : Around) (outer : List Env) (s : Shared) (H : Hp) (E : XK) (hr : Room 2 (A.deeper (envOfC "_law_are_ratios" (defScope (top 80)) s.heap.objs.size f cdv))) :
  ∃ t, PXS (cxOf CX0 P w K mg base ["told", "many", "each"] "_law_are_ratios" (defScope (top 80)) f cdv A outer s H E).nox (defBody (top 80)) t (d__law_are_ratios) :=
  ⟨_, (pxs_cons (px_if (pxt_w (pxw_or (pxt_not (pxt_val (px_isi (T := "tuple") (by rfl) m_isinstance (by rfl) m_tuple (by decide +kernel) (pxv 0)))) (pxw_or1 (pxt_cmp cx_ne (px_len (by rfl) m_len (pxv 0)) (pxv 1)))))
  (pxs_one (px_ret px_bl))
  pxs_nil)
  (pxs_cons (px_for PassesOwn.never rfl (px_iter (pxv 0)) (pxg_name sc__law_are_ratios.nd rfl (by first | exact .inl rfl | exact .inr rfl))
  (pxs_one (px_if (pxt_w (pxw_or (pxt_not (pxt_val (px_k k__law_is_ratio sp__law_is_ratio_m hr (by decide) (by rfl) (fun _ => .nil) (pxa_cons (pxv 2) pxa_nil)))) (pxw_or1 (pxt_cmp cx_lt (px_ix (pxv 2) px_int) px_int))))
  (pxs_one (px_ret px_bl))
  pxs_nil)))
  (pxs_one (px_ret px_bl))))⟩
theorem sc__law_above : FnScope ["ratios", "each"] ["ratios"] (defScope (top 85)) := ⟨rfl, rfl, rfl, by decide +kernel, rfl, by decide +kernel, by decide +kernel⟩
theorem b__law_above {P : Program} {w : World} {K : PySem.W.Frag} {mg : Str → Option Value} {base : Heap} (m_len : mg "len" = none)
  (f : Addr) (cdv : Value) (A : Around) (outer : List Env) (s : Shared) (H : Hp) (E : XK) (hr : Room 0 (A.deeper (envOfC "_law_above" (defScope (top 85)) s.heap.objs.size f cdv))) :
  ∃ t, PXS (cxOf CX0 P w K mg base ["ratios", "each"] "_law_above" (defScope (top 85)) f cdv A outer s H E).nox (defBody (top 85)) t (d__law_above) :=
  ⟨_, (pxs_one (px_ret (px_len (by rfl) m_len (px_lc (own := [("each", 1)]) (g := (gName 1)) (tt := (tTest (tOp (rI0 fun i j => .bl (decide (j < i))) (tOp (rIx K) (tVar 1) (tC (.int 0))) (tC (.int 0))))) (te := (tVar 1)) rfl sc__law_above.nd (px_iter (pxv 0)) (blkOk_by (N := ["ratios", "each"]) (sc := defScope (top 85)) (by decide +kernel)) (fun _ _ _ _ _ => (pxgc_name sc__law_above.nd)) (fun _ _ _ _ _ => (pxts_one (pxt_cmp cx_gt (px_ix (pxv 1) px_int) px_int))) (fun _ _ _ _ _ => (pxv 1))))))⟩
theorem sc__law_right : FnScope ["task", "answer", "goal", "rows", "unit", "columns", "bound", "coefficients", "least", "reached", "k", "value", "row", "each"] ["task", "answer"] (defScope (top 89)) := ⟨rfl, rfl, rfl, by decide +kernel, rfl, by decide +kernel, by decide +kernel⟩
theorem b__law_right {P : Program} {w : World} {K : PySem.W.Frag} {mg : Str → Option Value} {base : Heap} {c : Ad} (k__law_above : Kn P w K mg base "_law_above" ["ratios"] 1 sp__law_above []) (m_len : mg "len" = none) (k__law_same : Kn P w K mg base "_law_same" ["one", "two"] 1 sp__law_same []) (k__law_sum : Kn P w K mg base "_law_sum" ["numbers", "ratios"] 1 sp__law_sum []) (m_range : mg "range" = none) (k__law_is_ratio : Kn P w K mg base "_law_is_ratio" ["told"] 2 sp__law_is_ratio []) (k__law_are_ratios : Kn P w K mg base "_law_are_ratios" ["told", "many"] 3 sp__law_are_ratios []) (m_isinstance : mg "isinstance" = none) (isiF : IsiF K [c.Granted, c.Refused]) (g_Refused : mg "Refused" = some (.ref c.Refused)) (k__law_columns : Kn P w K mg base "_law_columns" ["rows", "weights", "many"] 2 sp__law_columns []) (g_Granted : mg "Granted" = some (.ref c.Granted))
  (f : Addr) (cdv : Value) (A : Around) (outer : List Env) (s : Shared) (H : Hp) (E : XK) (hr : Room 3 (A.deeper (envOfC "_law_right" (defScope (top 89)) s.heap.objs.size f cdv))) :
  ∃ t, PXS (cxOf CX0 P w K mg base ["task", "answer", "goal", "rows", "unit", "columns", "bound", "coefficients", "least", "reached", "k", "value", "row", "each"] "_law_right" (defScope (top 89)) f cdv A outer s H E).nox (defBody (top 89)) t (d__law_right c) :=
  ⟨_, (pxs_cons (px_asg (pxv 0) (pxg_tup rfl (pxgs_cons (pxg_name sc__law_right.nd rfl (by first | exact .inl rfl | exact .inr rfl)) (pxgs_cons (pxg_name sc__law_right.nd rfl (by first | exact .inl rfl | exact .inr rfl)) (pxgs_cons (pxg_name sc__law_right.nd rfl (by first | exact .inl rfl | exact .inr rfl)) pxgs_nil)))))
  (pxs_cons (px_if (pxt_w (pxw_and (pxt_not (pxt_val (px_isiO isiF (by simp) (by rfl) m_isinstance (by rfl) g_Granted (pxv 1)))) (pxw_and1 (pxt_not (pxt_val (px_isiO isiF (by simp) (by rfl) m_isinstance (by rfl) g_Refused (pxv 1)))))))
  (pxs_one (px_ret px_bl))
  pxs_nil)
  (pxs_cons (px_if (pxt_not (pxt_val (px_k k__law_are_ratios sp__law_are_ratios_m hr (by decide) (by rfl) (fun _ => .nil) (pxa_cons (px_fld (pxv 1)) (pxa_cons (px_len (by rfl) m_len (pxv 3)) pxa_nil)))))
  (pxs_one (px_ret px_bl))
  pxs_nil)
  (pxs_cons (px_asg (px_k k__law_columns sp__law_columns_m hr (by decide) (by rfl) (fun _ => .nil) (pxa_cons (pxv 3) (pxa_cons (px_fld (pxv 1)) (pxa_cons (px_len (by rfl) m_len (pxv 2)) pxa_nil)))) (pxg_name (i := 5) sc__law_right.nd rfl (by first | exact .inl rfl | exact .inr rfl)))
  (pxs_cons (px_asg (px_k k__law_sum sp__law_sum_m hr (by decide) (by rfl) (fun _ => .nil) (pxa_cons (px_lc (own := [("row", 12)]) (g := (gName 12)) (tt := tYes) (te := (tOp (rIx K) (tVar 12) (tC (.int 1)))) rfl sc__law_right.nd (px_iter (pxv 3)) (blkOk_by (N := ["task", "answer", "goal", "rows", "unit", "columns", "bound", "coefficients", "least", "reached", "k", "value", "row", "each"]) (sc := defScope (top 89)) (by decide +kernel)) (fun _ _ _ _ _ => (pxgc_name sc__law_right.nd)) (fun _ _ _ _ _ => pxts_nil) (fun _ _ _ _ _ => (px_ix (pxv 12) px_int))) (pxa_cons (px_fld (pxv 1)) pxa_nil))) (pxg_name (i := 6) sc__law_right.nd rfl (by first | exact .inl rfl | exact .inr rfl)))
  (pxs_cons (px_if (pxt_val (px_isiO isiF (by simp) (by rfl) m_isinstance (by rfl) g_Refused (pxv 1)))
  (pxs_cons (px_if (pxt_cmp cx_gt (px_len (by rfl) m_len (px_lc (own := [("each", 13)]) (g := (gName 13)) (tt := (tTest (tOp (rI0 fun i j => .bl (decide (j < i))) (tOp (rIx K) (tVar 13) (tC (.int 0))) (tC (.int 0))))) (te := (tVar 13)) rfl sc__law_right.nd (px_iter (pxv 5)) (blkOk_by (N := ["task", "answer", "goal", "rows", "unit", "columns", "bound", "coefficients", "least", "reached", "k", "value", "row", "each"]) (sc := defScope (top 89)) (by decide +kernel)) (fun _ _ _ _ _ => (pxgc_name sc__law_right.nd)) (fun _ _ _ _ _ => (pxts_one (pxt_cmp cx_gt (px_ix (pxv 13) px_int) px_int))) (fun _ _ _ _ _ => (pxv 13)))) px_int)
  (pxs_one (px_ret px_bl))
  pxs_nil)
  (pxs_one (px_ret (px_and (px_cmp cx_gt (px_ix (pxv 6) px_int) px_int) (px_one (px_cmp cx_le (px_k k__law_above sp__law_above_m hr (by decide) (by rfl) (fun _ => .nil) (pxa_cons (px_fld (pxv 1)) pxa_nil)) (px_add (px_len (by rfl) m_len (pxv 2)) px_int)))))))
  pxs_nil)
  (pxs_cons (px_if (pxt_w (pxw_or (pxt_not (pxt_val (px_k k__law_are_ratios sp__law_are_ratios_m hr (by decide) (by rfl) (fun _ => .nil) (pxa_cons (px_fld (pxv 1)) (pxa_cons (px_len (by rfl) m_len (pxv 2)) pxa_nil))))) (pxw_or1 (pxt_not (pxt_val (px_k k__law_is_ratio sp__law_is_ratio_m hr (by decide) (by rfl) (fun _ => .nil) (pxa_cons (px_fld (pxv 1)) pxa_nil)))))))
  (pxs_one (px_ret px_bl))
  pxs_nil)
  (pxs_cons (px_for PassesOwn.never rfl (px_iter (pxv 3)) (pxg_tup rfl (pxgs_cons (pxg_name sc__law_right.nd rfl (by first | exact .inl rfl | exact .inr rfl)) (pxgs_cons (pxg_name sc__law_right.nd rfl (by first | exact .inl rfl | exact .inr rfl)) pxgs_nil)))
  (pxs_cons (px_asg (px_k k__law_sum sp__law_sum_m hr (by decide) (by rfl) (fun _ => .nil) (pxa_cons (pxv 7) (pxa_cons (px_fld (pxv 1)) pxa_nil))) (pxg_name (i := 9) sc__law_right.nd rfl (by first | exact .inl rfl | exact .inr rfl)))
  (pxs_one (px_if (pxt_cmp cx_lt (px_ix (pxv 9) px_int) (px_mul (pxv 8) (px_ix (pxv 9) px_int)))
  (pxs_one (px_ret px_bl))
  pxs_nil))))
  (pxs_cons (px_for PassesOwn.never rfl (px_range1 (by rfl) m_range (px_len (by rfl) m_len (pxv 2))) (pxg_name sc__law_right.nd rfl (by first | exact .inl rfl | exact .inr rfl))
  (pxs_one (px_if (pxt_cmp cx_gt (px_ix (px_ix (pxv 5) (pxv 10)) px_int) (px_mul (px_ix (pxv 2) (pxv 10)) (px_ix (px_ix (pxv 5) (pxv 10)) px_int)))
  (pxs_one (px_ret px_bl))
  pxs_nil)))
  (pxs_cons (px_asg (px_tup (pxa_cons (px_mul (px_ix (px_fld (pxv 1)) px_int) (pxv 4)) (pxa_cons (px_ix (px_fld (pxv 1)) px_int) pxa_nil))) (pxg_name (i := 11) sc__law_right.nd rfl (by first | exact .inl rfl | exact .inr rfl)))
  (pxs_cons (px_if (pxt_w (pxw_or (pxt_not (pxt_val (px_k k__law_same sp__law_same_m hr (by decide) (by rfl) (fun _ => .nil) (pxa_cons (pxv 6) (pxa_cons (pxv 11) pxa_nil))))) (pxw_or1 (pxt_not (pxt_val (px_k k__law_same sp__law_same_m hr (by decide) (by rfl) (fun _ => .nil) (pxa_cons (px_k k__law_sum sp__law_sum_m hr (by decide) (by rfl) (fun _ => .nil) (pxa_cons (pxv 2) (pxa_cons (px_fld (pxv 1)) pxa_nil))) (pxa_cons (pxv 11) pxa_nil))))))))
  (pxs_one (px_ret px_bl))
  pxs_nil)
  (pxs_one (px_ret (px_and (px_cmp cx_le (px_k k__law_above sp__law_above_m hr (by decide) (by rfl) (fun _ => .nil) (pxa_cons (px_fld (pxv 1)) pxa_nil)) (px_len (by rfl) m_len (pxv 3))) (px_one (px_cmp cx_le (px_k k__law_above sp__law_above_m hr (by decide) (by rfl) (fun _ => .nil) (pxa_cons (px_fld (pxv 1)) pxa_nil)) (px_len (by rfl) m_len (pxv 2))))))))))))))))))⟩
theorem sc_plus : FnScope ["first", "second"] ["first", "second"] (defScope (top 23)) := ⟨rfl, rfl, rfl, by decide +kernel, rfl, by decide +kernel, by decide +kernel⟩
theorem b_plus {P : Program} {w : World} {K : PySem.W.Frag} {mg : Str → Option Value} {base : Heap} (k_ratio : Kn P w K mg base "ratio" ["top", "bottom"] 1 sp_ratio [])
  (f : Addr) (cdv : Value) (A : Around) (outer : List Env) (s : Shared) (H : Hp) (E : XK) (hr : Room 1 (A.deeper (envOfC "plus" (defScope (top 23)) s.heap.objs.size f cdv))) :
  ∃ t, PXS (cxOf CX0 P w K mg base ["first", "second"] "plus" (defScope (top 23)) f cdv A outer s H E).nox (defBody (top 23)) t (d_plus) :=
  ⟨_, (pxs_cons (px_if (pxt_cmp cx_eq (px_ix (pxv 0) px_int) (px_ix (pxv 1) px_int))
  (pxs_one (px_ret (px_k k_ratio sp_ratio_m hr (by decide) (by rfl) (fun _ => .nil) (pxa_cons (px_add (px_ix (pxv 0) px_int) (px_ix (pxv 1) px_int)) (pxa_cons (px_ix (pxv 0) px_int) pxa_nil)))))
  pxs_nil)
  (pxs_one (px_ret (px_k k_ratio sp_ratio_m hr (by decide) (by rfl) (fun _ => .nil) (pxa_cons (px_add (px_mul (px_ix (pxv 0) px_int) (px_ix (pxv 1) px_int)) (px_mul (px_ix (pxv 1) px_int) (px_ix (pxv 0) px_int))) (pxa_cons (px_mul (px_ix (pxv 0) px_int) (px_ix (pxv 1) px_int)) pxa_nil))))))⟩
theorem sc_minus : FnScope ["first", "second"] ["first", "second"] (defScope (top 24)) := ⟨rfl, rfl, rfl, by decide +kernel, rfl, by decide +kernel, by decide +kernel⟩
theorem b_minus {P : Program} {w : World} {K : PySem.W.Frag} {mg : Str → Option Value} {base : Heap} (k_plus : Kn P w K mg base "plus" ["first", "second"] 2 sp_plus [])
  (f : Addr) (cdv : Value) (A : Around) (outer : List Env) (s : Shared) (H : Hp) (E : XK) (hr : Room 2 (A.deeper (envOfC "minus" (defScope (top 24)) s.heap.objs.size f cdv))) :
  ∃ t, PXS (cxOf CX0 P w K mg base ["first", "second"] "minus" (defScope (top 24)) f cdv A outer s H E).nox (defBody (top 24)) t (d_minus) :=
  ⟨_, (pxs_one (px_ret (px_k k_plus sp_plus_m hr (by decide) (by rfl) (fun _ => .nil) (pxa_cons (pxv 0) (pxa_cons (px_tup (pxa_cons (px_neg (px_ix (pxv 1) px_int)) (pxa_cons (px_ix (pxv 1) px_int) pxa_nil))) pxa_nil)))))⟩
theorem sc_check_pay : FnScope ["book", "pay"] ["book", "pay"] (defScope (top 30)) := ⟨rfl, rfl, rfl, by decide +kernel, rfl, by decide +kernel, by decide +kernel⟩
theorem b_check_pay {P : Program} {w : World} {K : PySem.W.Frag} {mg : Str → Option Value} {base : Heap} (m_len : mg "len" = none)
  (f : Addr) (cdv : Value) (A : Around) (outer : List Env) (s : Shared) (H : Hp) (E : XK) (hr : Room 0 (A.deeper (envOfC "check_pay" (defScope (top 30)) s.heap.objs.size f cdv))) :
  ∃ t, PXS (cxOf CX0 P w K mg base ["book", "pay"] "check_pay" (defScope (top 30)) f cdv A outer s H E).nox (defBody (top 30)) t (d_check_pay) :=
  ⟨_, (pxs_one (px_if (pxt_cmp cx_ne (px_len (by rfl) m_len (px_fld (pxv 1))) (px_fld (pxv 0)))
  (pxs_one px_never)
  pxs_nil))⟩
theorem sc_row_sum : FnScope ["row", "amounts", "found", "part", "amount"] ["row", "amounts"] (defScope (top 31)) := ⟨rfl, rfl, rfl, by decide +kernel, rfl, by decide +kernel, by decide +kernel⟩
theorem b_row_sum {P : Program} {w : World} {K : PySem.W.Frag} {mg : Str → Option Value} {base : Heap} {c : Ad} (m_zip : mg "zip" = none) (k_plus : Kn P w K mg base "plus" ["first", "second"] 2 sp_plus []) (t_ZERO : mg "ZERO" = some (.ref c.ZERO)) (q_ZERO : ∀ H, SqT K H c.ZERO [V.int 0, V.int 1])
  (f : Addr) (cdv : Value) (A : Around) (outer : List Env) (s : Shared) (H : Hp) (E : XK) (hr : Room 2 (A.deeper (envOfC "row_sum" (defScope (top 31)) s.heap.objs.size f cdv))) :
  ∃ t, PXS (cxOf CX0 P w K mg base ["row", "amounts", "found", "part", "amount"] "row_sum" (defScope (top 31)) f cdv A outer s H E).nox (defBody (top 31)) t (d_row_sum) :=
  ⟨_, (pxs_cons (px_asg (px_gtupE (ns := [0, 1]) (by rfl) t_ZERO q_ZERO) (pxg_name (i := 2) sc_row_sum.nd rfl (by first | exact .inl rfl | exact .inr rfl)))
  (pxs_cons (px_for PassesOwn.never rfl (px_zip (by rfl) m_zip (pxv 0) (pxv 1)) (pxg_tup rfl (pxgs_cons (pxg_name sc_row_sum.nd rfl (by first | exact .inl rfl | exact .inr rfl)) (pxgs_cons (pxg_name sc_row_sum.nd rfl (by first | exact .inl rfl | exact .inr rfl)) pxgs_nil)))
  (pxs_one (px_asg (px_k k_plus sp_plus_m hr (by decide) (by rfl) (fun _ => .nil) (pxa_cons (pxv 2) (pxa_cons (px_tup (pxa_cons (px_mul (pxv 3) (px_ix (pxv 4) px_int)) (pxa_cons (px_ix (pxv 4) px_int) pxa_nil))) pxa_nil))) (pxg_name (i := 2) sc_row_sum.nd rfl (by first | exact .inl rfl | exact .inr rfl)))))
  (pxs_one (px_retV 2 (pxv 2)))))⟩
theorem sc_mean_pay : FnScope ["book", "deed", "pay", "found"] ["book", "deed", "pay"] (defScope (top 32)) := ⟨rfl, rfl, rfl, by decide +kernel, rfl, by decide +kernel, by decide +kernel⟩
theorem b_mean_pay {P : Program} {w : World} {K : PySem.W.Frag} {mg : Str → Option Value} {base : Heap} {c : Ad} (k_ratio : Kn P w K mg base "ratio" ["top", "bottom"] 1 sp_ratio []) (k_row_sum : Kn P w K mg base "row_sum" ["row", "amounts"] 3 sp_row_sum []) (k_check_pay : Kn P w K mg base "check_pay" ["book", "pay"] 1 (sp_check_pay c) []) (k_check_deed : Kn P w K mg base "check_deed" ["book", "deed"] 1 (sp_check_deed c) [])
  (f : Addr) (cdv : Value) (A : Around) (outer : List Env) (s : Shared) (H : Hp) (E : XK) (hr : Room 3 (A.deeper (envOfC "mean_pay" (defScope (top 32)) s.heap.objs.size f cdv))) :
  ∃ t, PXS (cxOf CX0 P w K mg base ["book", "deed", "pay", "found"] "mean_pay" (defScope (top 32)) f cdv A outer s H E).nox (defBody (top 32)) t (d_mean_pay c) :=
  ⟨_, (pxs_cons (px_exprS (px_k k_check_deed (sp_check_deed_m c) hr (by decide) (by rfl) (fun _ => .nil) (pxa_cons (pxv 0) (pxa_cons (pxv 1) pxa_nil))))
  (pxs_cons (px_exprS (px_k k_check_pay (sp_check_pay_m c) hr (by decide) (by rfl) (fun _ => .nil) (pxa_cons (pxv 0) (pxa_cons (pxv 2) pxa_nil))))
  (pxs_cons (px_asg (px_k k_row_sum sp_row_sum_m hr (by decide) (by rfl) (fun _ => .nil) (pxa_cons (px_ix (px_fld (pxv 0)) (pxv 1)) (pxa_cons (px_fld (pxv 2)) pxa_nil))) (pxg_name (i := 3) sc_mean_pay.nd rfl (by first | exact .inl rfl | exact .inr rfl)))
  (pxs_one (px_ret (px_k k_ratio sp_ratio_m hr (by decide) (by rfl) (fun _ => .nil) (pxa_cons (px_ix (pxv 3) px_int) (pxa_cons (px_mul (px_ix (pxv 3) px_int) (px_fld (pxv 0))) pxa_nil))))))))⟩
theorem sc_gain_of : FnScope ["book", "deed", "pay"] ["book", "deed", "pay"] (defScope (top 33)) := ⟨rfl, rfl, rfl, by decide +kernel, rfl, by decide +kernel, by decide +kernel⟩
theorem b_gain_of {P : Program} {w : World} {K : PySem.W.Frag} {mg : Str → Option Value} {base : Heap} {c : Ad} (k_minus : Kn P w K mg base "minus" ["first", "second"] 3 sp_minus []) (k_mean_pay : Kn P w K mg base "mean_pay" ["book", "deed", "pay"] 4 (sp_mean_pay c) [])
  (f : Addr) (cdv : Value) (A : Around) (outer : List Env) (s : Shared) (H : Hp) (E : XK) (hr : Room 4 (A.deeper (envOfC "gain_of" (defScope (top 33)) s.heap.objs.size f cdv))) :
  ∃ t, PXS (cxOf CX0 P w K mg base ["book", "deed", "pay"] "gain_of" (defScope (top 33)) f cdv A outer s H E).nox (defBody (top 33)) t (d_gain_of c) :=
  ⟨_, (pxs_one (px_ret (px_k k_minus sp_minus_m hr (by decide) (by rfl) (fun _ => .nil) (pxa_cons (px_k k_mean_pay (sp_mean_pay_m c) hr (by decide) (by rfl) (fun _ => .nil) (pxa_cons (pxv 0) (pxa_cons (pxv 1) (pxa_cons (pxv 2) pxa_nil)))) (pxa_cons (px_tup (pxa_cons (px_ix (px_fld (pxv 0)) (pxv 1)) (pxa_cons px_int pxa_nil))) pxa_nil)))))⟩
theorem sc_best_deeds : FnScope ["book", "pay", "gains", "best", "each", "deed"] ["book", "pay"] (defScope (top 34)) := ⟨rfl, rfl, rfl, by decide +kernel, rfl, by decide +kernel, by decide +kernel⟩
theorem b_best_deeds {P : Program} {w : World} {K : PySem.W.Frag} {mg : Str → Option Value} {base : Heap} {c : Ad} (m_tuple : mg "tuple" = none) (m_range : mg "range" = none) (k_compare : Kn P w K mg base "compare" ["first", "second"] 1 sp_compare []) (k_gain_of : Kn P w K mg base "gain_of" ["book", "deed", "pay"] 5 (sp_gain_of c) [])
  (f : Addr) (cdv : Value) (A : Around) (outer : List Env) (s : Shared) (H : Hp) (E : XK) (hr : Room 5 (A.deeper (envOfC "best_deeds" (defScope (top 34)) s.heap.objs.size f cdv))) :
  ∃ t, PXS (cxOf CX0 P w K mg base ["book", "pay", "gains", "best", "each", "deed"] "best_deeds" (defScope (top 34)) f cdv A outer s H E).nox (defBody (top 34)) t (d_best_deeds c) :=
  ⟨_, (pxs_cons (px_asg (px_lc (own := [("deed", 5)]) (g := (gName 5)) (tt := tYes) (te := (tCall (liftSp K (sp_gain_of c)) [] E0 (tCons (tVar 0) (tCons (tVar 5) (tCons (tVar 1) tNil))))) rfl sc_best_deeds.nd (px_range1 (by rfl) m_range (px_fld (pxv 0))) (blkOk_by (N := ["book", "pay", "gains", "best", "each", "deed"]) (sc := defScope (top 34)) (by decide +kernel)) (fun _ _ _ _ _ => (pxgc_name sc_best_deeds.nd)) (fun _ _ _ _ _ => pxts_nil) (fun _ _ _ _ _ => (px_k k_gain_of (sp_gain_of_m c) hr (by decide) (by rfl) (fun _ => .nil) (pxa_cons (pxv 0) (pxa_cons (pxv 5) (pxa_cons (pxv 1) pxa_nil)))))) (pxg_name (i := 2) sc_best_deeds.nd rfl (by first | exact .inl rfl | exact .inr rfl)))
  (pxs_cons (px_asg (px_ix (pxv 2) px_int) (pxg_name (i := 3) sc_best_deeds.nd rfl (by first | exact .inl rfl | exact .inr rfl)))
  (pxs_cons (px_for PassesOwn.never rfl (px_iter (pxv 2)) (pxg_name sc_best_deeds.nd rfl (by first | exact .inl rfl | exact .inr rfl))
  (pxs_one (px_if (pxt_cmp cx_gt (px_k k_compare sp_compare_m hr (by decide) (by rfl) (fun _ => .nil) (pxa_cons (pxv 4) (pxa_cons (pxv 3) pxa_nil))) px_int)
  (pxs_one (px_asg (pxv 4) (pxg_name (i := 3) sc_best_deeds.nd rfl (by first | exact .inl rfl | exact .inr rfl))))
  pxs_nil)))
  (pxs_one (px_ret (px_tupleOf (by rfl) m_tuple (px_lc (own := [("deed", 5)]) (g := (gName 5)) (tt := (tTest (tOp (rEqD K) (tOp (rIx K) (tVar 2) (tVar 5)) (tVar 3)))) (te := (tVar 5)) rfl sc_best_deeds.nd (px_range1 (by rfl) m_range (px_fld (pxv 0))) (blkOk_by (N := ["book", "pay", "gains", "best", "each", "deed"]) (sc := defScope (top 34)) (by decide +kernel)) (fun _ _ _ _ _ => (pxgc_name sc_best_deeds.nd)) (fun _ _ _ _ _ => (pxts_one (pxt_cmp (cx_eqP hr.units) (px_ix (pxv 2) (pxv 5)) (pxv 3)))) (fun _ _ _ _ _ => (pxv 5)))))))))⟩
theorem sc__law_bring_rows : FnScope ["costs", "rows", "deed", "first", "whole", "task", "other", "parts", "s"] ["costs", "rows", "deed", "first"] (defScope (top 86)) := ⟨rfl, rfl, rfl, by decide +kernel, rfl, by decide +kernel, by decide +kernel⟩
theorem b__law_bring_rows {P : Program} {w : World} {K : PySem.W.Frag} {mg : Str → Option Value} {base : Heap} (m_range : mg "range" = none) (m_len : mg "len" = none) (m_sum : mg "sum" = none)
  (f : Addr) (cdv : Value) (A : Around) (outer : List Env) (s : Shared) (H : Hp) (E : XK) (hr : Room 0 (A.deeper (envOfC "_law_bring_rows" (defScope (top 86)) s.heap.objs.size f cdv))) :
  ∃ t, PXS (cxOf CX0 P w K mg base ["costs", "rows", "deed", "first", "whole", "task", "other", "parts", "s"] "_law_bring_rows" (defScope (top 86)) f cdv A outer s H E).nox (defBody (top 86)) t (d__law_bring_rows) :=
  ⟨_, (pxs_cons (px_asg (px_sum rfl (by rfl) m_sum (px_ix (pxv 1) px_int)) (pxg_name (i := 4) sc__law_bring_rows.nd rfl (by first | exact .inl rfl | exact .inr rfl)))
  (pxs_cons (px_set (i := 5) sc__law_bring_rows.nd rfl (by first | exact .inl rfl | exact .inr rfl) (px_lst pxa_nil))
  (pxs_cons (px_for PassesOwn.never rfl (px_range1 (by rfl) m_range (px_len (by rfl) m_len (pxv 1))) (pxg_name sc__law_bring_rows.nd rfl (by first | exact .inl rfl | exact .inr rfl))
  (pxs_one (px_if (pxt_w (pxw_and (pxt_cmp cx_ne (pxv 6) (pxv 2)) (pxw_and1 (pxt_cmp cx_ne (pxv 6) (pxv 3)))))
  (pxs_cons (px_setLcG (i := 7) (own := [("s", 8)]) (g := (gName 8)) (tt := tYes) (te := (tOp (rI0 fun i j => .int (i - j)) (tOp (rIx K) (tOp (rIx K) (tVar 1) (tVar 2)) (tVar 8)) (tOp (rIx K) (tOp (rIx K) (tVar 1) (tVar 6)) (tVar 8)))) rfl sc__law_bring_rows.nd (px_range1 (by rfl) m_range (px_len (by rfl) m_len (px_ix (pxv 1) px_int))) (blkOk_by (N := ["costs", "rows", "deed", "first", "whole", "task", "other", "parts", "s"]) (sc := defScope (top 86)) (by decide +kernel)) (fun _ _ _ _ _ => (pxgc_name sc__law_bring_rows.nd)) (fun _ _ _ _ _ => pxts_nil) (fun _ _ _ _ _ => (px_sub (px_ix (px_ix (pxv 1) (pxv 2)) (pxv 8)) (px_ix (px_ix (pxv 1) (pxv 6)) (pxv 8)))))
  (pxs_one (px_app (pxv 5) (px_tup (pxa_cons (pxv 7) (pxa_cons (px_mul (pxv 4) (px_sub (px_ix (pxv 0) (pxv 2)) (px_ix (pxv 0) (pxv 6)))) pxa_nil))) (pe_bm PySem.F.plainAttrs_list PySem.F.slot_list_append PySem.F.type_list_append mt_append (pxv 5).p (pa_cons (px_tup (pxa_cons (pxv 7) (pxa_cons (px_mul (pxv 4) (px_sub (px_ix (pxv 0) (pxv 2)) (px_ix (pxv 0) (pxv 6)))) pxa_nil))).p pa_nil)))))
  pxs_nil)))
  (pxs_one (px_retV 5 (pxv 5))))))⟩
theorem sc__law_pooled : FnScope ["weights", "costs", "rows", "asked", "goal", "task", "k", "s"] ["weights", "costs", "rows", "asked"] (defScope (top 93)) := ⟨rfl, rfl, rfl, by decide +kernel, rfl, by decide +kernel, by decide +kernel⟩
theorem b__law_pooled {P : Program} {w : World} {K : PySem.W.Frag} {mg : Str → Option Value} {base : Heap} (m_sum : mg "sum" = none) (m_range : mg "range" = none) (m_len : mg "len" = none) (k__law_bring_rows : Kn P w K mg base "_law_bring_rows" ["costs", "rows", "deed", "first"] 1 sp__law_bring_rows [])
  (f : Addr) (cdv : Value) (A : Around) (outer : List Env) (s : Shared) (H : Hp) (E : XK) (hr : Room 1 (A.deeper (envOfC "_law_pooled" (defScope (top 93)) s.heap.objs.size f cdv))) :
  ∃ t, PXS (cxOf CX0 P w K mg base ["weights", "costs", "rows", "asked", "goal", "task", "k", "s"] "_law_pooled" (defScope (top 93)) f cdv A outer s H E).nox (defBody (top 93)) t (d__law_pooled) :=
  ⟨_, (pxs_cons (px_asg (px_rep (px_lst (pxa_cons px_int pxa_nil)) (px_len (by rfl) m_len (px_ix (px_ix (pxv 2) px_int) px_int))) (pxg_name (i := 4) sc__law_pooled.nd rfl (by first | exact .inl rfl | exact .inr rfl)))
  (pxs_cons (px_asg (px_lst pxa_nil) (pxg_name (i := 5) sc__law_pooled.nd rfl (by first | exact .inl rfl | exact .inr rfl)))
  (pxs_cons (px_for PassesOwn.never rfl (px_range1 (by rfl) m_range (px_len (by rfl) m_len (pxv 0))) (pxg_name sc__law_pooled.nd rfl (by first | exact .inl rfl | exact .inr rfl))
  (pxs_cons (px_asg (px_lc (own := [("s", 7)]) (g := (gName 7)) (tt := tYes) (te := (tOp (rI0 fun i j => .int (i + j)) (tOp (rIx K) (tVar 4) (tVar 7)) (tOp (rI CMulW fun i j => .int (i * j)) (tOp (rIx K) (tVar 0) (tVar 6)) (tOp (rIx K) (tOp (rIx K) (tOp (rIx K) (tVar 2) (tVar 6)) (tOp (rIx K) (tVar 3) (tVar 6))) (tVar 7))))) rfl sc__law_pooled.nd (px_range1 (by rfl) m_range (px_len (by rfl) m_len (pxv 4))) (blkOk_by (N := ["weights", "costs", "rows", "asked", "goal", "task", "k", "s"]) (sc := defScope (top 93)) (by decide +kernel)) (fun _ _ _ _ _ => (pxgc_name sc__law_pooled.nd)) (fun _ _ _ _ _ => pxts_nil) (fun _ _ _ _ _ => (px_add (px_ix (pxv 4) (pxv 7)) (px_mul (px_ix (pxv 0) (pxv 6)) (px_ix (px_ix (px_ix (pxv 2) (pxv 6)) (px_ix (pxv 3) (pxv 6))) (pxv 7)))))) (pxg_name (i := 4) sc__law_pooled.nd rfl (by first | exact .inl rfl | exact .inr rfl)))
  (pxs_one (px_asg (px_cat (pxv 5) (px_k k__law_bring_rows sp__law_bring_rows_m hr (by decide) (by rfl) (fun _ => .nil) (pxa_cons (px_ix (pxv 1) (pxv 6)) (pxa_cons (px_ix (pxv 2) (pxv 6)) (pxa_cons (px_ix (pxv 3) (pxv 6)) (pxa_cons (px_ix (pxv 3) (pxv 6)) pxa_nil)))))) (pxg_name (i := 5) sc__law_pooled.nd rfl (by first | exact .inl rfl | exact .inr rfl))))))
  (pxs_one (px_ret (px_tup (pxa_cons (pxv 4) (pxa_cons (pxv 5) (pxa_cons (px_mul (px_sum rfl (by rfl) m_sum (px_ix (px_ix (pxv 2) px_int) px_int)) (px_sum rfl (by rfl) m_sum (pxv 0))) pxa_nil)))))))))⟩
theorem sc__law_bring : FnScope ["costs", "rows", "deed"] ["costs", "rows", "deed"] (defScope (top 87)) := ⟨rfl, rfl, rfl, by decide +kernel, rfl, by decide +kernel, by decide +kernel⟩
theorem b__law_bring {P : Program} {w : World} {K : PySem.W.Frag} {mg : Str → Option Value} {base : Heap} (m_list : mg "list" = none) (k__law_bring_rows : Kn P w K mg base "_law_bring_rows" ["costs", "rows", "deed", "first"] 1 sp__law_bring_rows []) (m_sum : mg "sum" = none) (f : Addr) (cdv : Value) (A : Around) (outer : List Env) (s : Shared) (H : Hp) (E : XK) (hr : Room 1 (A.deeper (envOfC "_law_bring" (defScope (top 87)) s.heap.objs.size f cdv))) :
  PXR3 (cxOf CX0 P w K mg base ["costs", "rows", "deed"] "_law_bring" (defScope (top 87)) f cdv A outer s H E).nox (defBody (top 87)) (eB1 dList (eOp dIx (eVar 1) (eVar 2))) (eCall sp__law_bring_rows [] (aCons (eVar 0) (aCons (eVar 1) (aCons (eVar 2) (aCons (eVar 2) aNil))))) (eB1 dSum (eOp dIx (eVar 1) (eC (.int 0)))) :=
  px_r3 (px_list (by rfl) m_list (px_ix (pxv 1) (pxv 2))) (px_k k__law_bring_rows sp__law_bring_rows_m hr (by decide) (by rfl) (fun _ => .nil) (pxa_cons (pxv 0) (pxa_cons (pxv 1) (pxa_cons (pxv 2) (pxa_cons (pxv 2) pxa_nil))))) (px_sum rfl (by rfl) m_sum (px_ix (pxv 1) px_int))
theorem sc__law_ties : FnScope ["costs", "rows", "lot", "goal", "task", "unit", "deed", "parts", "s"] ["costs", "rows", "lot"] (defScope (top 94)) := ⟨rfl, rfl, rfl, by decide +kernel, rfl, by decide +kernel, by decide +kernel⟩
theorem b__law_ties {P : Program} {w : World} {K : PySem.W.Frag} {mg : Str → Option Value} {base : Heap} (m_range : mg "range" = none) (m_len : mg "len" = none) (k__law_bring : KnBr P w K mg base 2)
  (f : Addr) (cdv : Value) (A : Around) (outer : List Env) (s : Shared) (H : Hp) (E : XK) (hr : Room 2 (A.deeper (envOfC "_law_ties" (defScope (top 94)) s.heap.objs.size f cdv))) :
  ∃ t, PXS (cxOf CX0 P w K mg base ["costs", "rows", "lot", "goal", "task", "unit", "deed", "parts", "s"] "_law_ties" (defScope (top 94)) f cdv A outer s H E).nox (defBody (top 94)) t (d__law_ties) :=
  ⟨_, (pxs_cons (px_br k__law_bring hr (by decide) (by rfl) rfl sc__law_ties.nd (by decide) rfl (by first | exact .inl rfl | exact .inr rfl) rfl (by first | exact .inl rfl | exact .inr rfl) rfl (by first | exact .inl rfl | exact .inr rfl) (pxa_cons (pxv 0) (pxa_cons (pxv 1) (pxa_cons (px_ix (pxv 2) px_int) pxa_nil))))
  (pxs_cons (px_for PassesOwn.never rfl (px_iter (px_sl (pxv 2) (pxo_some px_int) pxo_none)) (pxg_name sc__law_ties.nd rfl (by first | exact .inl rfl | exact .inr rfl))
  (pxs_cons (px_setLcG (i := 7) (own := [("s", 8)]) (g := (gName 8)) (tt := tYes) (te := (tOp (rI0 fun i j => .int (i - j)) (tOp (rIx K) (tOp (rIx K) (tVar 1) (tVar 6)) (tVar 8)) (tOp (rIx K) (tOp (rIx K) (tVar 1) (tOp (rIx K) (tVar 2) (tC (.int 0)))) (tVar 8)))) rfl sc__law_ties.nd (px_range1 (by rfl) m_range (px_len (by rfl) m_len (pxv 3))) (blkOk_by (N := ["costs", "rows", "lot", "goal", "task", "unit", "deed", "parts", "s"]) (sc := defScope (top 94)) (by decide +kernel)) (fun _ _ _ _ _ => (pxgc_name sc__law_ties.nd)) (fun _ _ _ _ _ => pxts_nil) (fun _ _ _ _ _ => (px_sub (px_ix (px_ix (pxv 1) (pxv 6)) (pxv 8)) (px_ix (px_ix (pxv 1) (px_ix (pxv 2) px_int)) (pxv 8)))))
  (pxs_one (px_app (pxv 4) (px_tup (pxa_cons (pxv 7) (pxa_cons (px_mul (pxv 5) (px_sub (px_ix (pxv 0) (pxv 6)) (px_ix (pxv 0) (px_ix (pxv 2) px_int)))) pxa_nil))) (pe_bm PySem.F.plainAttrs_list PySem.F.slot_list_append PySem.F.type_list_append mt_append (pxv 4).p (pa_cons (px_tup (pxa_cons (pxv 7) (pxa_cons (px_mul (pxv 5) (px_sub (px_ix (pxv 0) (pxv 6)) (px_ix (pxv 0) (px_ix (pxv 2) px_int)))) pxa_nil))).p pa_nil))))))
  (pxs_frz 4 (pxs_one (px_ret (px_tup (pxa_cons (pxv 3) (pxa_cons (pxv 4) (pxa_cons (pxv 5) pxa_nil)))))))))⟩
theorem sc__law_menu : FnScope ["weights", "costs", "rows", "asked", "signs", "goal", "task", "k", "j", "b", "line", "s", "part"] ["weights", "costs", "rows", "asked"] (defScope (top 92)) := ⟨rfl, rfl, rfl, by decide +kernel, rfl, by decide +kernel, by decide +kernel⟩
theorem b__law_menu {P : Program} {w : World} {K : PySem.W.Frag} {mg : Str → Option Value} {base : Heap} (m_sum : mg "sum" = none) (m_range : mg "range" = none) (m_len : mg "len" = none)
  (f : Addr) (cdv : Value) (A : Around) (outer : List Env) (s : Shared) (H : Hp) (E : XK) (hr : Room 0 (A.deeper (envOfC "_law_menu" (defScope (top 92)) s.heap.objs.size f cdv))) :
  ∃ t, PXS (cxOf CX0 P w K mg base ["weights", "costs", "rows", "asked", "signs", "goal", "task", "k", "j", "b", "line", "s", "part"] "_law_menu" (defScope (top 92)) f cdv A outer s H E).nox (defBody (top 92)) t (d__law_menu) :=
  ⟨_, (pxs_cons (px_asg (px_len (by rfl) m_len (px_ix (px_ix (pxv 2) px_int) px_int)) (pxg_name (i := 4) sc__law_menu.nd rfl (by first | exact .inl rfl | exact .inr rfl)))
  (pxs_cons (px_asg (px_lst pxa_nil) (pxg_name (i := 5) sc__law_menu.nd rfl (by first | exact .inl rfl | exact .inr rfl)))
  (pxs_cons (px_set (i := 6) sc__law_menu.nd rfl (by first | exact .inl rfl | exact .inr rfl) (px_lst pxa_nil))
  (pxs_cons (px_for PassesOwn.never rfl (px_range1 (by rfl) m_range (px_len (by rfl) m_len (pxv 0))) (pxg_name sc__law_menu.nd rfl (by first | exact .inl rfl | exact .inr rfl))
  (pxs_cons (px_asg (px_cat (pxv 5) (px_lc (own := [("part", 12)]) (g := (gName 12)) (tt := tYes) (te := (tOp (rI CMulW fun i j => .int (i * j)) (tOp (rIx K) (tVar 0) (tVar 7)) (tVar 12))) rfl sc__law_menu.nd (px_iter (px_ix (px_ix (pxv 2) (pxv 7)) (px_ix (pxv 3) (pxv 7)))) (blkOk_by (N := ["weights", "costs", "rows", "asked", "signs", "goal", "task", "k", "j", "b", "line", "s", "part"]) (sc := defScope (top 92)) (by decide +kernel)) (fun _ _ _ _ _ => (pxgc_name sc__law_menu.nd)) (fun _ _ _ _ _ => pxts_nil) (fun _ _ _ _ _ => (px_mul (px_ix (pxv 0) (pxv 7)) (pxv 12))))) (pxg_name (i := 5) sc__law_menu.nd rfl (by first | exact .inl rfl | exact .inr rfl)))
  (pxs_one (px_for PassesOwn.never rfl (px_range1 (by rfl) m_range (px_len (by rfl) m_len (pxv 0))) (pxg_name sc__law_menu.nd rfl (by first | exact .inl rfl | exact .inr rfl))
  (pxs_one (px_for PassesOwn.never rfl (px_range1 (by rfl) m_range (px_len (by rfl) m_len (px_ix (pxv 1) (pxv 7)))) (pxg_name sc__law_menu.nd rfl (by first | exact .inl rfl | exact .inr rfl))
  (pxs_one (px_if (pxt_w (pxw_or (pxt_cmp cx_ne (pxv 8) (pxv 7)) (pxw_or1 (pxt_cmp cx_ne (pxv 9) (px_ix (pxv 3) (pxv 7))))))
  (pxs_cons (px_set (i := 10) sc__law_menu.nd rfl (by first | exact .inl rfl | exact .inr rfl) (px_rep (px_lst (pxa_cons px_int pxa_nil)) (px_mul (px_len (by rfl) m_len (pxv 0)) (pxv 4))))
  (pxs_cons (px_for PassesOwn.never rfl (px_range1 (by rfl) m_range (pxv 4)) (pxg_name sc__law_menu.nd rfl (by first | exact .inl rfl | exact .inr rfl))
  (pxs_cons (px_setI (pxv 10) (px_add (px_mul (pxv 7) (pxv 4)) (pxv 11)) (px_add (px_ix (pxv 10) (px_add (px_mul (pxv 7) (pxv 4)) (pxv 11))) (px_ix (px_ix (px_ix (pxv 2) (pxv 7)) (px_ix (pxv 3) (pxv 7))) (pxv 11))))
  (pxs_one (px_setI (pxv 10) (px_add (px_mul (pxv 8) (pxv 4)) (pxv 11)) (px_sub (px_ix (pxv 10) (px_add (px_mul (pxv 8) (pxv 4)) (pxv 11))) (px_ix (px_ix (px_ix (pxv 2) (pxv 7)) (pxv 9)) (pxv 11)))))))
  (pxs_frz 10 (pxs_one (px_app (pxv 6) (px_tup (pxa_cons (pxv 10) (pxa_cons (px_mul (px_sum rfl (by rfl) m_sum (px_ix (px_ix (pxv 2) (pxv 7)) (pxv 9))) (px_sub (px_ix (px_ix (pxv 1) (pxv 7)) (px_ix (pxv 3) (pxv 7))) (px_ix (px_ix (pxv 1) (pxv 7)) (pxv 9)))) pxa_nil))) (pe_bm PySem.F.plainAttrs_list PySem.F.slot_list_append PySem.F.type_list_append mt_append (pxv 6).p (pa_cons (px_tup (pxa_cons (pxv 10) (pxa_cons (px_mul (px_sum rfl (by rfl) m_sum (px_ix (px_ix (pxv 2) (pxv 7)) (pxv 9))) (px_sub (px_ix (px_ix (pxv 1) (pxv 7)) (px_ix (pxv 3) (pxv 7))) (px_ix (px_ix (pxv 1) (pxv 7)) (pxv 9)))) pxa_nil))).p pa_nil)))))))
  pxs_nil))))))))
  (pxs_frz 6 (pxs_one (px_ret (px_tup (pxa_cons (pxv 5) (pxa_cons (pxv 6) (pxa_cons (px_mul (px_sum rfl (by rfl) m_sum (px_ix (px_ix (pxv 2) px_int) px_int)) (px_sum rfl (by rfl) m_sum (pxv 0))) pxa_nil)))))))))))⟩
theorem sc_law : FnScope ["script", "turns", "weights", "costs", "rows", "asked", "many", "book", "books", "kinds", "lot", "one", "two", "three", "costs_of", "rows_of", "more", "total", "due", "pay", "best", "row", "k", "deed"] ["script"] (defScope (top 96)) := ⟨rfl, rfl, rfl, by decide +kernel, rfl, by decide +kernel, by decide +kernel⟩
theorem b_law {P : Program} {w : World} {K : PySem.W.Frag} {mg : Str → Option Value} {base : Heap} {c : Ad} (k__law_alike : Kn P w K mg base "_law_alike" ["told", "due"] 3 (sp__law_alike 1) []) (m_tuple : mg "tuple" = none) (k_best_deeds : Kn P w K mg base "best_deeds" ["book", "pay"] 6 (sp_best_deeds c) []) (m_len : mg "len" = none) (k__law_best : Kn P w K mg base "_law_best" ["costs", "rows", "amounts"] 3 sp__law_best []) (k_pay_of_d1 : Kn P w K mg base "pay_of" ["granted", "signs", "place"] 5 (sp_pay_of c) [V.int 0]) (k__law_less : Kn P w K mg base "_law_less" ["one", "two"] 1 sp__law_less []) (m_isinstance : mg "isinstance" = none) (isiF : IsiF K [c.Granted, c.Refused]) (g_Refused : mg "Refused" = some (.ref c.Refused)) (k__law_low : Kn P w K mg base "_law_low" ["top", "bottom"] 2 sp__law_low []) (m_sum : mg "sum" = none) (m_range : mg "range" = none) (m_int : mg "int" = none) (g_Granted : mg "Granted" = some (.ref c.Granted)) (k__law_right : Kn P w K mg base "_law_right" ["task", "answer"] 4 (sp__law_right c) []) (k__law_menu : Kn P w K mg base "_law_menu" ["weights", "costs", "rows", "asked"] 1 sp__law_menu []) (k__law_ties : Kn P w K mg base "_law_ties" ["costs", "rows", "lot"] 3 sp__law_ties []) (k__law_pooled : Kn P w K mg base "_law_pooled" ["weights", "costs", "rows", "asked"] 2 sp__law_pooled []) (k_menu : Kn P w K mg base "menu" ["kinds", "asked"] 5 (sp_menu c) []) (m_list : mg "list" = none) (k_ties : Kn P w K mg base "ties" ["book", "deeds"] 5 (sp_ties c) []) (k_pooled : Kn P w K mg base "pooled" ["kinds", "asked"] 5 (sp_pooled c) []) (c_Book : Kc P w K mg base "Book" c.Book ["self", "costs", "rows", "worths"] 2 sp_Book_init []) (o_Book : ∀ xs Q, sp_Book_init xs Q → sp_Book_init xs (fun fs => Q fs ∧ InsOk K c.Book fs)) (c_Kinds : Kc P w K mg base "Kinds" c.Kinds ["self", "weights", "books"] 2 (sp_Kinds_init c) []) (o_Kinds : ∀ xs Q, (sp_Kinds_init c) xs Q → (sp_Kinds_init c) xs (fun fs => Q fs ∧ InsOk K c.Kinds fs)) (k__law_world : Kn P w K mg base "_law_world" ["script", "turns"] 3 sp__law_world []) (k__law_draws : Kn P w K mg base "_law_draws" ["cell", "many", "size"] 1 sp__law_draws []) (k__law_cell : Kn P w K mg base "_law_cell" ["script", "k"] 1 sp__law_cell [])
  (f : Addr) (cdv : Value) (A : Around) (outer : List Env) (s : Shared) (H : Hp) (E : XK) (hr : Room 6 (A.deeper (envOfC "law" (defScope (top 96)) s.heap.objs.size f cdv))) :
  ∃ t, PXS (cxOf CX0 P w K mg base ["script", "turns", "weights", "costs", "rows", "asked", "many", "book", "books", "kinds", "lot", "one", "two", "three", "costs_of", "rows_of", "more", "total", "due", "pay", "best", "row", "k", "deed"] "law" (defScope (top 96)) f cdv A outer s H E).nox (defBody (top 96)) t (d_law c) :=
  ⟨_, (pxs_cons (px_asg (px_k k__law_draws sp__law_draws_m hr (by decide) (by rfl) (fun _ => .nil) (pxa_cons (px_k k__law_cell sp__law_cell_m hr (by decide) (by rfl) (fun _ => .nil) (pxa_cons (pxv 0) (pxa_cons px_int pxa_nil))) (pxa_cons px_int (pxa_cons px_int pxa_nil)))) (pxg_name (i := 1) sc_law.nd rfl (by first | exact .inl rfl | exact .inr rfl)))
  (pxs_cons (px_asg (px_k k__law_world sp__law_world_m hr (by decide) (by rfl) (fun _ => .nil) (pxa_cons (pxv 0) (pxa_cons (pxv 1) pxa_nil))) (pxg_tup rfl (pxgs_cons (pxg_name sc_law.nd rfl (by first | exact .inl rfl | exact .inr rfl)) (pxgs_cons (pxg_name sc_law.nd rfl (by first | exact .inl rfl | exact .inr rfl)) (pxgs_cons (pxg_name sc_law.nd rfl (by first | exact .inl rfl | exact .inr rfl)) (pxgs_cons (pxg_name sc_law.nd rfl (by first | exact .inl rfl | exact .inr rfl)) pxgs_nil))))))
  (pxs_cons (px_asg (px_len (by rfl) m_len (pxv 2)) (pxg_name (i := 6) sc_law.nd rfl (by first | exact .inl rfl | exact .inr rfl)))
  (pxs_cons (px_asg (px_c c_Book sp_Book_init_m o_Book hr (by decide) (by rfl) (fun _ => .nil) (pxa_cons (px_list (by rfl) m_list (pxv 3)) (pxa_cons (px_lc (own := [("row", 21)]) (g := (gName 21)) (tt := tYes) (te := (tCB (rListQ K) (tCons (tVar 21) tNil))) rfl sc_law.nd (px_iter (pxv 4)) (blkOk_by (N := ["script", "turns", "weights", "costs", "rows", "asked", "many", "book", "books", "kinds", "lot", "one", "two", "three", "costs_of", "rows_of", "more", "total", "due", "pay", "best", "row", "k", "deed"]) (sc := defScope (top 96)) (by decide +kernel)) (fun _ _ _ _ _ => (pxgc_name sc_law.nd)) (fun _ _ _ _ _ => pxts_nil) (fun _ _ _ _ _ => (px_list (by rfl) m_list (pxv 21)))) (pxa_cons (px_rep (px_lst (pxa_cons px_int pxa_nil)) (px_len (by rfl) m_len (pxv 4))) pxa_nil)))) (pxg_name (i := 7) sc_law.nd rfl (by first | exact .inl rfl | exact .inr rfl)))
  (pxs_cons (px_set (i := 8) sc_law.nd rfl (by first | exact .inl rfl | exact .inr rfl) (px_rep (px_lst (pxa_cons (pxv 7) pxa_nil)) (pxv 6)))
  (pxs_cons (px_if (pxt_cmp cx_eq (px_mod (px_intOf (by rfl) m_int (px_ix (pxv 1) px_int)) px_int) px_int)
  (pxs_one (px_setLc (i := 8) (own := [("k", 22)]) (g := (gName 22)) (tt := tYes) (te := (tMake c.Book (liftIn K c.Book sp_Book_init) [] E0 (tCons (tCB (rListQ K) (tCons (tVar 3) tNil)) (tCons (tLc (iSeq K (tVar 4)) (gName 21) tYes (tCB (rListQ K) (tCons (tVar 21) tNil)) [21]) (tCons (tOp rRep (tLst (tCons (tC (.int 0)) tNil)) (tCB (rLenQ K) (tCons (tVar 4) tNil))) tNil))))) rfl sc_law.nd (px_range1 (by rfl) m_range (pxv 6)) (blkOk_by (N := ["script", "turns", "weights", "costs", "rows", "asked", "many", "book", "books", "kinds", "lot", "one", "two", "three", "costs_of", "rows_of", "more", "total", "due", "pay", "best", "row", "k", "deed"]) (sc := defScope (top 96)) (by decide +kernel)) (fun _ _ _ _ _ => (pxgc_name sc_law.nd)) (fun _ _ _ _ _ => pxts_nil) (fun _ _ _ _ _ => (px_c c_Book sp_Book_init_m o_Book hr (by decide) (by rfl) (fun _ => .nil) (pxa_cons (px_list (by rfl) m_list (pxv 3)) (pxa_cons (px_lc (own := [("row", 21)]) (g := (gName 21)) (tt := tYes) (te := (tCB (rListQ K) (tCons (tVar 21) tNil))) rfl sc_law.nd (px_iter (pxv 4)) (blkOk_by (by kernel_rfl)) (fun _ _ _ _ _ => (pxgc_name sc_law.nd)) (fun _ _ _ _ _ => pxts_nil) (fun _ _ _ _ _ => (px_list (by rfl) m_list (pxv 21)))) (pxa_cons (px_rep (px_lst (pxa_cons px_int pxa_nil)) (px_len (by rfl) m_len (pxv 4))) pxa_nil)))))))
  pxs_nil)
  (pxs_cons (px_asg (px_cB c_Kinds (sp_Kinds_init_m c) o_Kinds hr (by decide) (by rfl) (fun _ => .nil) (pxab_cons (px_list (by rfl) m_list (pxv 2)) (pxab_cons (pxv 8) pxab_nil))) (pxg_name (i := 9) sc_law.nd rfl (by first | exact .inl rfl | exact .inr rfl)))
  (pxs_cons (px_setI (pxv 8) px_int (px_c c_Book sp_Book_init_m o_Book hr (by decide) (by rfl) (fun _ => .nil) (pxa_cons (px_lst (pxa_cons px_int pxa_nil)) (pxa_cons (px_lst (pxa_cons (px_lst (pxa_cons px_int pxa_nil)) pxa_nil)) (pxa_cons (px_lst (pxa_cons px_int pxa_nil)) pxa_nil)))))
  (pxs_cons (px_asg (px_lc (own := [("deed", 23)]) (g := (gName 23)) (tt := (tTest (tOp (rIn K false) (tVar 23) (tVar 5)))) (te := (tVar 23)) rfl sc_law.nd (px_range1 (by rfl) m_range (px_len (by rfl) m_len (pxv 4))) (blkOk_by (N := ["script", "turns", "weights", "costs", "rows", "asked", "many", "book", "books", "kinds", "lot", "one", "two", "three", "costs_of", "rows_of", "more", "total", "due", "pay", "best", "row", "k", "deed"]) (sc := defScope (top 96)) (by decide +kernel)) (fun _ _ _ _ _ => (pxgc_name sc_law.nd)) (fun _ _ _ _ _ => (pxts_one (pxt_in (pxv 23) (pxv 5)))) (fun _ _ _ _ _ => (pxv 23))) (pxg_name (i := 10) sc_law.nd rfl (by first | exact .inl rfl | exact .inr rfl)))
  (pxs_cons (px_asg (px_k k_pooled (sp_pooled_m c) hr (by decide) (by rfl) (fun _ => .nil) (pxa_cons (pxv 9) (pxa_cons (px_list (by rfl) m_list (pxv 5)) pxa_nil))) (pxg_name (i := 11) sc_law.nd rfl (by first | exact .inl rfl | exact .inr rfl)))
  (pxs_cons (px_asg (px_k k_ties (sp_ties_m c) hr (by decide) (by rfl) (fun _ => .nil) (pxa_cons (pxv 7) (pxa_cons (px_list (by rfl) m_list (pxv 10)) pxa_nil))) (pxg_name (i := 12) sc_law.nd rfl (by first | exact .inl rfl | exact .inr rfl)))
  (pxs_cons (px_asg (px_k k_menu (sp_menu_m c) hr (by decide) (by rfl) (fun _ => .nil) (pxa_cons (pxv 9) (pxa_cons (px_list (by rfl) m_list (pxv 5)) pxa_nil))) (pxg_name (i := 13) sc_law.nd rfl (by first | exact .inl rfl | exact .inr rfl)))
  (pxs_cons (px_asg (px_rep (px_lst (pxa_cons (pxv 3) pxa_nil)) (pxv 6)) (pxg_name (i := 14) sc_law.nd rfl (by first | exact .inl rfl | exact .inr rfl)))
  (pxs_cons (px_asg (px_rep (px_lst (pxa_cons (pxv 4) pxa_nil)) (pxv 6)) (pxg_name (i := 15) sc_law.nd rfl (by first | exact .inl rfl | exact .inr rfl)))
  (pxs_cons (px_if (pxt_not (pxt_val (px_k k__law_right (sp__law_right_m c) hr (by decide) (by rfl) (fun _ => .nil) (pxa_cons (px_k k__law_pooled sp__law_pooled_m hr (by decide) (by rfl) (fun _ => .nil) (pxa_cons (pxv 2) (pxa_cons (pxv 14) (pxa_cons (pxv 15) (pxa_cons (pxv 5) pxa_nil))))) (pxa_cons (pxv 11) pxa_nil)))))
  (pxs_one (px_ret px_bl))
  pxs_nil)
  (pxs_cons (px_if (pxt_not (pxt_val (px_k k__law_right (sp__law_right_m c) hr (by decide) (by rfl) (fun _ => .nil) (pxa_cons (px_k k__law_ties sp__law_ties_m hr (by decide) (by rfl) (fun _ => .nil) (pxa_cons (pxv 3) (pxa_cons (pxv 4) (pxa_cons (pxv 10) pxa_nil)))) (pxa_cons (pxv 12) pxa_nil)))))
  (pxs_one (px_ret px_bl))
  pxs_nil)
  (pxs_cons (px_if (pxt_not (pxt_val (px_k k__law_right (sp__law_right_m c) hr (by decide) (by rfl) (fun _ => .nil) (pxa_cons (px_k k__law_menu sp__law_menu_m hr (by decide) (by rfl) (fun _ => .nil) (pxa_cons (pxv 2) (pxa_cons (pxv 14) (pxa_cons (pxv 15) (pxa_cons (pxv 5) pxa_nil))))) (pxa_cons (pxv 13) pxa_nil)))))
  (pxs_one (px_ret px_bl))
  pxs_nil)
  (pxs_cons (px_if (pxt_cmp cx_ne (px_isiO isiF (by simp) (by rfl) m_isinstance (by rfl) g_Granted (pxv 11)) (px_isiO isiF (by simp) (by rfl) m_isinstance (by rfl) g_Granted (pxv 12)))
  (pxs_one (px_ret px_bl))
  pxs_nil)
  (pxs_cons (px_if (pxt_w (pxw_and (pxt_cmp cx_eq (px_mod (px_intOf (by rfl) m_int (px_ix (pxv 1) px_int)) px_int) px_int) (pxw_and1 (pxt_val (px_isiO isiF (by simp) (by rfl) m_isinstance (by rfl) g_Refused (pxv 12))))))
  (pxs_one (px_ret px_bl))
  pxs_nil)
  (pxs_cons (px_if (pxt_val (px_isiO isiF (by simp) (by rfl) m_isinstance (by rfl) g_Refused (pxv 12)))
  (pxs_one (px_ret px_bl))
  pxs_nil)
  (pxs_cons (px_if (pxt_w (pxw_and (pxt_cmp cx_eq (px_mod (px_intOf (by rfl) m_int (px_ix (pxv 1) px_int)) px_int) px_int) (pxw_and1 (pxt_cmp cx_gt (pxv 6) px_int))))
  (pxs_one (px_ret px_bl))
  pxs_nil)
  (pxs_cons (px_asg (px_sum rfl (by rfl) m_sum (px_lc (own := [("k", 22)]) (g := (gName 22)) (tt := tYes) (te := (tOp (rI CMulW fun i j => .int (i * j)) (tOp (rIx K) (tVar 2) (tVar 22)) (tOp (rI0 fun i j => .int (i - j)) (tOp (rIx K) (tVar 3) (tOp (rIx K) (tVar 5) (tVar 22))) (tOp (rIx K) (tVar 3) (tOp (rIx K) (tVar 10) (tC (.int 0))))))) rfl sc_law.nd (px_range1 (by rfl) m_range (pxv 6)) (blkOk_by (N := ["script", "turns", "weights", "costs", "rows", "asked", "many", "book", "books", "kinds", "lot", "one", "two", "three", "costs_of", "rows_of", "more", "total", "due", "pay", "best", "row", "k", "deed"]) (sc := defScope (top 96)) (by decide +kernel)) (fun _ _ _ _ _ => (pxgc_name sc_law.nd)) (fun _ _ _ _ _ => pxts_nil) (fun _ _ _ _ _ => (px_mul (px_ix (pxv 2) (pxv 22)) (px_sub (px_ix (pxv 3) (px_ix (pxv 5) (pxv 22))) (px_ix (pxv 3) (px_ix (pxv 10) px_int))))))) (pxg_name (i := 16) sc_law.nd rfl (by first | exact .inl rfl | exact .inr rfl)))
  (pxs_cons (px_asg (px_sum rfl (by rfl) m_sum (pxv 2)) (pxg_name (i := 17) sc_law.nd rfl (by first | exact .inl rfl | exact .inr rfl)))
  (pxs_cons (px_asg (px_k k__law_low sp__law_low_m hr (by decide) (by rfl) (fun _ => .nil) (pxa_cons (px_add (px_mul (px_ix (px_fld (pxv 12)) px_int) (pxv 17)) (px_mul (pxv 16) (px_ix (px_fld (pxv 12)) px_int))) (pxa_cons (px_mul (px_ix (px_fld (pxv 12)) px_int) (pxv 17)) pxa_nil))) (pxg_name (i := 18) sc_law.nd rfl (by first | exact .inl rfl | exact .inr rfl)))
  (pxs_cons (px_if (pxt_w (pxw_or (pxt_not (pxt_val (px_k k__law_alike (sp__law_alike_m 1) hr (by decide) (by rfl) (fun _ => .nil) (pxa_cons (px_fld (pxv 11)) (pxa_cons (pxv 18) pxa_nil))))) (pxw_or (pxt_val (px_isiO isiF (by simp) (by rfl) m_isinstance (by rfl) g_Refused (pxv 13))) (pxw_or1 (pxt_val (px_k k__law_less sp__law_less_m hr (by decide) (by rfl) (fun _ => .nil) (pxa_cons (px_fld (pxv 11)) (pxa_cons (px_fld (pxv 13)) pxa_nil))))))))
  (pxs_one (px_ret px_bl))
  pxs_nil)
  (pxs_cons (px_asg (px_k k_pay_of_d1 (sp_pay_of_m c) hr (by decide) (by rfl) (fun _ => .cons .int (.nil)) (pxa_cons (pxv 11) (pxa_cons (px_len (by rfl) m_len (px_ix (pxv 4) px_int)) pxa_nil))) (pxg_name (i := 19) sc_law.nd rfl (by first | exact .inl rfl | exact .inr rfl)))
  (pxs_cons (px_asg (px_k k__law_best sp__law_best_m hr (by decide) (by rfl) (fun _ => .nil) (pxa_cons (pxv 3) (pxa_cons (pxv 4) (pxa_cons (px_fld (pxv 11)) pxa_nil)))) (pxg_name (i := 20) sc_law.nd rfl (by first | exact .inl rfl | exact .inr rfl)))
  (pxs_cons (px_if (pxt_cmp cx_gt (px_len (by rfl) m_len (px_lc (own := [("deed", 23)]) (g := (gName 23)) (tt := (tTest (tOp (rIn K true) (tVar 23) (tVar 20)))) (te := (tVar 23)) rfl sc_law.nd (px_iter (pxv 10)) (blkOk_by (N := ["script", "turns", "weights", "costs", "rows", "asked", "many", "book", "books", "kinds", "lot", "one", "two", "three", "costs_of", "rows_of", "more", "total", "due", "pay", "best", "row", "k", "deed"]) (sc := defScope (top 96)) (by decide +kernel)) (fun _ _ _ _ _ => (pxgc_name sc_law.nd)) (fun _ _ _ _ _ => (pxts_one (pxt_notin (pxv 23) (pxv 20)))) (fun _ _ _ _ _ => (pxv 23)))) px_int)
  (pxs_one (px_ret px_bl))
  pxs_nil)
  (pxs_one (px_ret (px_k k__law_alike (sp__law_alike_m 1) hr (by decide) (by rfl) (fun _ => .nil) (pxa_cons (px_k k_best_deeds (sp_best_deeds_m c) hr (by decide) (by rfl) (fun _ => .nil) (pxa_cons (pxv 7) (pxa_cons (pxv 19) pxa_nil))) (pxa_cons (px_tupleOf (by rfl) m_tuple (pxv 20)) pxa_nil)))))))))))))))))))))))))))))))))⟩
end Dl

namespace HdT
open PySem PySem.Spec PyProof.Rows L2
def D__law_draws : He.DefD := ⟨("_law_draws", none), "_law_draws", "_law_draws", defArgs (Dl.top 73), defBody (Dl.top 73), defScope (Dl.top 73), [], []⟩
def D__law_costs : He.DefD := ⟨("_law_costs", none), "_law_costs", "_law_costs", defArgs (Dl.top 75), defBody (Dl.top 75), defScope (Dl.top 75), [], []⟩
def D__law_row : He.DefD := ⟨("_law_row", none), "_law_row", "_law_row", defArgs (Dl.top 74), defBody (Dl.top 74), defScope (Dl.top 74), [], []⟩
def D__law_cell : He.DefD := ⟨("_law_cell", none), "_law_cell", "_law_cell", defArgs (Dl.top 72), defBody (Dl.top 72), defScope (Dl.top 72), [], []⟩
def D__law_world : He.DefD := ⟨("_law_world", none), "_law_world", "_law_world", defArgs (Dl.top 95), defBody (Dl.top 95), defScope (Dl.top 95), [], []⟩
def D_first_fault_books : He.DefD := ⟨("first_fault_books", none), "first_fault", "first_fault", defArgs (Dl.top 16), defBody (Dl.top 16), defScope (Dl.top 16), [], []⟩
def D_Book_init : He.DefD := ⟨("Book", some "__init__"), "__init__", "Book.__init__", defArgs (Dl.meth 19 0), defBody (Dl.meth 19 0), defScope (Dl.meth 19 0), [], []⟩
def D_first_fault_kinds : He.DefD := ⟨("first_fault_kinds", none), "first_fault", "first_fault", defArgs (Dl.top 64), defBody (Dl.top 64), defScope (Dl.top 64), [], []⟩
def D_Kinds_init : He.DefD := ⟨("Kinds", some "__init__"), "__init__", "Kinds.__init__", defArgs (Dl.meth 66 0), defBody (Dl.meth 66 0), defScope (Dl.meth 66 0), [], []⟩
def D_first_table : He.DefD := ⟨("first_table", none), "first_table", "first_table", defArgs (Dl.top 36), defBody (Dl.top 36), defScope (Dl.top 36), [], []⟩
def D_negative_row : He.DefD := ⟨("negative_row", none), "negative_row", "negative_row", defArgs (Dl.top 37), defBody (Dl.top 37), defScope (Dl.top 37), [], []⟩
def D_comes_before : He.DefD := ⟨("comes_before", none), "comes_before", "comes_before", defArgs (Dl.top 38), defBody (Dl.top 38), defScope (Dl.top 38), [], []⟩
def D_entering_column : He.DefD := ⟨("entering_column", none), "entering_column", "entering_column", defArgs (Dl.top 39), defBody (Dl.top 39), defScope (Dl.top 39), [], []⟩
def D_exchange : He.DefD := ⟨("exchange", none), "exchange", "exchange", defArgs (Dl.top 40), defBody (Dl.top 40), defScope (Dl.top 40), [], []⟩
def D_at_slacks : He.DefD := ⟨("at_slacks", none), "at_slacks", "at_slacks", defArgs (Dl.top 41), defBody (Dl.top 41), defScope (Dl.top 41), [], []⟩
def D_solve : He.DefD := ⟨("solve", none), "solve", "solve", defArgs (Dl.top 42), defBody (Dl.top 42), defScope (Dl.top 42), [], []⟩
def D_Granted_init : He.DefD := ⟨("Granted", some "__init__"), "__init__", "Granted.__init__", defArgs (Dl.meth 47 0), defBody (Dl.meth 47 0), defScope (Dl.meth 47 0), [], []⟩
def D_ratio : He.DefD := ⟨("ratio", none), "ratio", "ratio", defArgs (Dl.top 22), defBody (Dl.top 22), defScope (Dl.top 22), [.int 1], []⟩
def D_Refused_init : He.DefD := ⟨("Refused", some "__init__"), "__init__", "Refused.__init__", defArgs (Dl.meth 48 0), defBody (Dl.meth 48 0), defScope (Dl.meth 48 0), [], []⟩
def D_ask : He.DefD := ⟨("ask", none), "ask", "ask", defArgs (Dl.top 49), defBody (Dl.top 49), defScope (Dl.top 49), [], []⟩
def D_check_deed : He.DefD := ⟨("check_deed", none), "check_deed", "check_deed", defArgs (Dl.top 18), defBody (Dl.top 18), defScope (Dl.top 18), [], []⟩
def D_check_asked : He.DefD := ⟨("check_asked", none), "check_asked", "check_asked", defArgs (Dl.top 55), defBody (Dl.top 55), defScope (Dl.top 55), [], []⟩
def D_Wish_init : He.DefD := ⟨("Wish", some "__init__"), "__init__", "Wish.__init__", defArgs (Dl.meth 46 0), defBody (Dl.meth 46 0), defScope (Dl.meth 46 0), [.int 1], []⟩
def D_deed_row : He.DefD := ⟨("deed_row", none), "deed_row", "deed_row", defArgs (Dl.top 52), defBody (Dl.top 52), defScope (Dl.top 52), [], []⟩
def D_pooled_wish : He.DefD := ⟨("pooled_wish", none), "pooled_wish", "pooled_wish", defArgs (Dl.top 59), defBody (Dl.top 59), defScope (Dl.top 59), [], []⟩
def D_pooled : He.DefD := ⟨("pooled", none), "pooled", "pooled", defArgs (Dl.top 60), defBody (Dl.top 60), defScope (Dl.top 60), [], []⟩
def D_check_together : He.DefD := ⟨("check_together", none), "check_together", "check_together", defArgs (Dl.top 68), defBody (Dl.top 68), defScope (Dl.top 68), [], []⟩
def D_bring_wish : He.DefD := ⟨("bring_wish", none), "bring_wish", "bring_wish", defArgs (Dl.top 53), defBody (Dl.top 53), defScope (Dl.top 53), [], []⟩
def D_ties_wish : He.DefD := ⟨("ties_wish", none), "ties_wish", "ties_wish", defArgs (Dl.top 69), defBody (Dl.top 69), defScope (Dl.top 69), [], []⟩
def D_ties : He.DefD := ⟨("ties", none), "ties", "ties", defArgs (Dl.top 70), defBody (Dl.top 70), defScope (Dl.top 70), [], []⟩
def D_choice_row : He.DefD := ⟨("choice_row", none), "choice_row", "choice_row", defArgs (Dl.top 56), defBody (Dl.top 56), defScope (Dl.top 56), [], []⟩
def D_menu_wish : He.DefD := ⟨("menu_wish", none), "menu_wish", "menu_wish", defArgs (Dl.top 57), defBody (Dl.top 57), defScope (Dl.top 57), [], []⟩
def D_menu : He.DefD := ⟨("menu", none), "menu", "menu", defArgs (Dl.top 58), defBody (Dl.top 58), defScope (Dl.top 58), [], []⟩
def D__law_shared : He.DefD := ⟨("_law_shared", none), "_law_shared", "_law_shared", defArgs (Dl.top 76), defBody (Dl.top 76), defScope (Dl.top 76), [], []⟩
def D__law_low : He.DefD := ⟨("_law_low", none), "_law_low", "_law_low", defArgs (Dl.top 77), defBody (Dl.top 77), defScope (Dl.top 77), [], []⟩
def D_compare : He.DefD := ⟨("compare", none), "compare", "compare", defArgs (Dl.top 26), defBody (Dl.top 26), defScope (Dl.top 26), [], []⟩
def D_first_negative : He.DefD := ⟨("first_negative", none), "first_negative", "first_negative", defArgs (Dl.top 28), defBody (Dl.top 28), defScope (Dl.top 28), [], []⟩
def D_Pay_init : He.DefD := ⟨("Pay", some "__init__"), "__init__", "Pay.__init__", defArgs (Dl.meth 29 0), defBody (Dl.meth 29 0), defScope (Dl.meth 29 0), [], []⟩
def D_pay_of : He.DefD := ⟨("pay_of", none), "pay_of", "pay_of", defArgs (Dl.top 50), defBody (Dl.top 50), defScope (Dl.top 50), [.int 0], []⟩
def D__law_sum : He.DefD := ⟨("_law_sum", none), "_law_sum", "_law_sum", defArgs (Dl.top 82), defBody (Dl.top 82), defScope (Dl.top 82), [], []⟩
def D__law_gain : He.DefD := ⟨("_law_gain", none), "_law_gain", "_law_gain", defArgs (Dl.top 90), defBody (Dl.top 90), defScope (Dl.top 90), [], []⟩
def D__law_less : He.DefD := ⟨("_law_less", none), "_law_less", "_law_less", defArgs (Dl.top 83), defBody (Dl.top 83), defScope (Dl.top 83), [], []⟩
def D__law_same : He.DefD := ⟨("_law_same", none), "_law_same", "_law_same", defArgs (Dl.top 84), defBody (Dl.top 84), defScope (Dl.top 84), [], []⟩
def D__law_best : He.DefD := ⟨("_law_best", none), "_law_best", "_law_best", defArgs (Dl.top 91), defBody (Dl.top 91), defScope (Dl.top 91), [], []⟩
def D__law_is_whole : He.DefD := ⟨("_law_is_whole", none), "_law_is_whole", "_law_is_whole", defArgs (Dl.top 78), defBody (Dl.top 78), defScope (Dl.top 78), [], []⟩
def D__law_alike : He.DefD := ⟨("_law_alike", none), "_law_alike", "_law_alike", defArgs (Dl.top 81), defBody (Dl.top 81), defScope (Dl.top 81), [], []⟩
def D__law_columns : He.DefD := ⟨("_law_columns", none), "_law_columns", "_law_columns", defArgs (Dl.top 88), defBody (Dl.top 88), defScope (Dl.top 88), [], []⟩
def D__law_is_ratio : He.DefD := ⟨("_law_is_ratio", none), "_law_is_ratio", "_law_is_ratio", defArgs (Dl.top 79), defBody (Dl.top 79), defScope (Dl.top 79), [], []⟩
def D__law_are_ratios : He.DefD := ⟨("_law_are_ratios", none), "_law_are_ratios", "_law_are_ratios", defArgs (Dl.top 80), defBody (Dl.top 80), defScope (Dl.top 80), [], []⟩
def D__law_above : He.DefD := ⟨("_law_above", none), "_law_above", "_law_above", defArgs (Dl.top 85), defBody (Dl.top 85), defScope (Dl.top 85), [], []⟩
def D__law_right : He.DefD := ⟨("_law_right", none), "_law_right", "_law_right", defArgs (Dl.top 89), defBody (Dl.top 89), defScope (Dl.top 89), [], []⟩
def D_plus : He.DefD := ⟨("plus", none), "plus", "plus", defArgs (Dl.top 23), defBody (Dl.top 23), defScope (Dl.top 23), [], []⟩
def D_minus : He.DefD := ⟨("minus", none), "minus", "minus", defArgs (Dl.top 24), defBody (Dl.top 24), defScope (Dl.top 24), [], []⟩
def D_check_pay : He.DefD := ⟨("check_pay", none), "check_pay", "check_pay", defArgs (Dl.top 30), defBody (Dl.top 30), defScope (Dl.top 30), [], []⟩
def D_row_sum : He.DefD := ⟨("row_sum", none), "row_sum", "row_sum", defArgs (Dl.top 31), defBody (Dl.top 31), defScope (Dl.top 31), [], []⟩
def D_mean_pay : He.DefD := ⟨("mean_pay", none), "mean_pay", "mean_pay", defArgs (Dl.top 32), defBody (Dl.top 32), defScope (Dl.top 32), [], []⟩
def D_gain_of : He.DefD := ⟨("gain_of", none), "gain_of", "gain_of", defArgs (Dl.top 33), defBody (Dl.top 33), defScope (Dl.top 33), [], []⟩
def D_best_deeds : He.DefD := ⟨("best_deeds", none), "best_deeds", "best_deeds", defArgs (Dl.top 34), defBody (Dl.top 34), defScope (Dl.top 34), [], []⟩
def D__law_bring_rows : He.DefD := ⟨("_law_bring_rows", none), "_law_bring_rows", "_law_bring_rows", defArgs (Dl.top 86), defBody (Dl.top 86), defScope (Dl.top 86), [], []⟩
def D__law_pooled : He.DefD := ⟨("_law_pooled", none), "_law_pooled", "_law_pooled", defArgs (Dl.top 93), defBody (Dl.top 93), defScope (Dl.top 93), [], []⟩
def D__law_bring : He.DefD := ⟨("_law_bring", none), "_law_bring", "_law_bring", defArgs (Dl.top 87), defBody (Dl.top 87), defScope (Dl.top 87), [], []⟩
def D__law_ties : He.DefD := ⟨("_law_ties", none), "_law_ties", "_law_ties", defArgs (Dl.top 94), defBody (Dl.top 94), defScope (Dl.top 94), [], []⟩
def D__law_menu : He.DefD := ⟨("_law_menu", none), "_law_menu", "_law_menu", defArgs (Dl.top 92), defBody (Dl.top 92), defScope (Dl.top 92), [], []⟩
def D_law : He.DefD := ⟨("law", none), "law", "law", defArgs (Dl.top 96), defBody (Dl.top 96), defScope (Dl.top 96), [], []⟩
def fn0 : List He.DefD := [D__law_draws, D__law_costs, D__law_row, D__law_cell, D__law_world, D_first_fault_books, D_Book_init, D_first_fault_kinds, D_Kinds_init, D_first_table, D_negative_row, D_comes_before]
def fn1 : List He.DefD := [D_entering_column, D_exchange, D_at_slacks, D_solve, D_Granted_init, D_ratio, D_Refused_init, D_ask, D_check_deed, D_check_asked, D_Wish_init, D_deed_row]
def fn2 : List He.DefD := [D_pooled_wish, D_pooled, D_check_together, D_bring_wish, D_ties_wish, D_ties, D_choice_row, D_menu_wish, D_menu, D__law_shared, D__law_low, D_compare]
def fn3 : List He.DefD := [D_first_negative, D_Pay_init, D_pay_of, D__law_sum, D__law_gain, D__law_less, D__law_same, D__law_best, D__law_is_whole, D__law_alike, D__law_columns, D__law_is_ratio]
def fn4 : List He.DefD := [D__law_are_ratios, D__law_above, D__law_right, D_plus, D_minus, D_check_pay, D_row_sum, D_mean_pay, D_gain_of, D_best_deeds, D__law_bring_rows, D__law_pooled]
def fn5 : List He.DefD := [D__law_bring, D__law_ties, D__law_menu, D_law]
def fn : List He.DefD := fn0 ++ (fn1 ++ (fn2 ++ (fn3 ++ (fn4 ++ (fn5)))))
def fa0 : List He.Fa := [.glo "_law_draws", .glo "_law_costs", .glo "_law_row", .glo "_law_cell", .glo "_law_world", .glo "first_fault_books", .glo "first_fault_kinds", .glo "first_table", .glo "negative_row", .glo "comes_before", .glo "entering_column", .glo "exchange"]
def fa1 : List He.Fa := [.glo "at_slacks", .glo "solve", .glo "ratio", .glo "ask", .glo "check_deed", .glo "check_asked", .glo "deed_row", .glo "pooled_wish", .glo "pooled", .glo "check_together", .glo "bring_wish", .glo "ties_wish"]
def fa2 : List He.Fa := [.glo "ties", .glo "choice_row", .glo "menu_wish", .glo "menu", .glo "_law_shared", .glo "_law_low", .glo "compare", .glo "first_negative", .glo "pay_of", .glo "_law_sum", .glo "_law_gain", .glo "_law_less"]
def fa3 : List He.Fa := [.glo "_law_same", .glo "_law_best", .glo "_law_is_whole", .glo "_law_alike", .glo "_law_columns", .glo "_law_is_ratio", .glo "_law_are_ratios", .glo "_law_above", .glo "_law_right", .glo "plus", .glo "minus", .glo "check_pay"]
def fa4 : List He.Fa := [.glo "row_sum", .glo "mean_pay", .glo "gain_of", .glo "best_deeds", .glo "_law_bring_rows", .glo "_law_pooled", .glo "_law_bring", .glo "_law_ties", .glo "_law_menu", .glo "law", .free "range", .free "int"]
def fa5 : List He.Fa := [.free "abs", .free "sorted", .free "len", .free "min", .free "list", .free "sum", .cls "Book", .noat "Book" "whole", .noat "Book" "signs", .noat "Book" "deeds", .free "tuple", .noat "Book" "worths"]
def fa6 : List He.Fa := [.noat "Book" "rows", .noat "Book" "costs", .free "max", .int "SIGNS" 9, .int "DEEDS" 16, .cls "Kinds", .noat "Kinds" "whole", .noat "Kinds" "signs", .noat "Kinds" "deeds", .noat "Kinds" "many", .noat "Kinds" "books", .noat "Kinds" "weights"]
def fa7 : List He.Fa := [.int "SIDE" 4, .int "KINDS" 3, .free "enumerate", .cls "Granted", .noat "Granted" "weights", .noat "Granted" "point", .noat "Granted" "value", .cls "Refused", .noat "Refused" "weights", .mkr "Granted", .glo "Granted", .mkr "Refused"]
def fa8 : List He.Fa := [.glo "Refused", .cls "Wish", .noat "Wish" "unit", .noat "Wish" "rows", .noat "Wish" "goal", .free "any", .int "ROWS" 40, .int "UNKNOWNS" 18, .free "zip", .mkr "Wish", .glo "Wish", .glo "ZERO"]
def fa9 : List He.Fa := [.cls "Pay", .noat "Pay" "amounts", .mkr "Pay", .glo "Pay", .free "isinstance", .free "bool", .free "str", .mkr "Book", .glo "Book", .mkr "Kinds", .glo "Kinds"]
def fa : List He.Fa := fa0 ++ (fa1 ++ (fa2 ++ (fa3 ++ (fa4 ++ (fa5 ++ (fa6 ++ (fa7 ++ (fa8 ++ (fa9)))))))))
abbrev R : PySem.W.OpenRow := PySem.W.OpenLaw.row PySem.Challenge.rw_paidforsigns_k78_whole_pooled_is_ties
/-! the parts of the heap that the names reach, by a bit mask of what is seen -/
def addA : List Addr → Nat → List Addr → (Nat → List Addr → List Addr) → List Addr
  | [], m, acc, k => k m acc
  | a :: r, m, acc, k => match Nat.beq (Nat.land (Nat.shiftRight m a) 1) 1 with
    | true => addA r m acc k
    | false => addA r (Nat.lor m (Nat.shiftLeft 1 a)) (a :: acc) k
def levA (g : Addr → Option Obj) : List Addr → Nat → List Addr → (Nat → List Addr → List Addr) → List Addr
  | [], m, acc, k => k m acc
  | a :: r, m, acc, k => match g a with
    | some o => addA (He.refsD o) m acc fun m' acc' => levA g r m' acc' k
    | none => levA g r m acc k
def asU (g : Addr → Option Obj) : Nat → List Addr → Nat → List Addr
  | 0, fr, _ => fr
  | n + 1, fr, m => levA g fr m [] fun m' fr' => fr ++ asU g n fr' m'
abbrev KU (g : Addr → Option Obj) : PySem.W.Frag := He.frG g (asU g 7 [mainGlobals] (Nat.shiftLeft 1 mainGlobals))
/-! further facts: a property's getter, classes that isinstance asks of, a built-in's name -/
def gOf (K : PySem.W.Frag) (C f : Str) : Addr := match PySem.W.recIn K (He.ma K (He.ga K C) f) "property" with
  | some (.ref g :: _) => g
  | _ => 0
def fnAt (K : PySem.W.Frag) (a : Addr) : He.FnW := match K.lookup a with
  | some ⟨_, _, .func z, _⟩ => some (z.name, z.qualname, z.params, z.body, z.scope, z.globals, z.closure, z.builtins)
  | _ => none
def fnAtB (K : PySem.W.Frag) (a : Addr) (q : Str) : Bool := PySem.W.keepIn K (.ref a) && (match K.lookup a with
  | some ⟨_, _, .func z, _⟩ => PySem.W.codeIn K z.code q && He.dflB K z.defaults []
  | _ => false)
def proB (K : PySem.W.Frag) (C f : Str) : Bool := He.eqO (PySem.W.findIn K (.ref (He.ga K C)) f) (some (some (.ref (He.ma K (He.ga K C) f)))) && (He.eqO (PySem.W.specialIn K (.ref (He.ma K (He.ga K C) f)) "__get__") (some (some (.builtin "property.__get__"))) && (decide (PySem.W.takesIn K (.ref (He.ma K (He.ga K C) f)) = some true) && (match PySem.W.recIn K (He.ma K (He.ga K C) f) "property" with
  | some (.ref _ :: _) => true
  | _ => false)))
def isi1B (K : PySem.W.Frag) (C : Addr) : Bool := He.eqO (PySem.W.findIn K (.ref C) "__class__") (some (some (.builtin "object.__class__"))) && (He.eqO (PySem.W.specialIn K (.builtin "object.__class__") "__get__") (some (some (.builtin "getset_descriptor.__get__"))) && (decide (PySem.W.takesIn K (.builtin "object.__class__") = some true) && decide (PySem.W.mroIn K C (.type "object") = some true)))
def isiB (K : PySem.W.Frag) (cs : List Addr) : Bool := (cs.all fun C => isi1B K C) && cs.all fun C => cs.all fun D => decide (PySem.W.kitOne K (.ref C) (.ref D) = some (decide (C = D)))
theorem isi_ok {K : PySem.W.Frag} {cs : List Addr} (h : isiB K cs = true) : Dl.IsiF K cs := by
  obtain ⟨h1, h2⟩ := He.ba h
  refine ⟨fun C hC => ?_, fun C hC D hD => ?_⟩
  · obtain ⟨a, b⟩ := He.ba (List.all_eq_true.mp h1 C hC)
    obtain ⟨b1, b2⟩ := He.ba b
    obtain ⟨b3, b4⟩ := He.ba b2
    exact ⟨He.eqO_ok a, He.eqO_ok b1, of_decide_eq_true b3, of_decide_eq_true b4⟩
  · exact of_decide_eq_true (List.all_eq_true.mp (List.all_eq_true.mp h2 C hC) D hD)
theorem pro_ok {K : PySem.W.Frag} {C f : Str} (h : proB K C f = true) : PropOf K (He.ga K C) f (He.ma K (He.ga K C) f) (gOf K C f) := by
  obtain ⟨a, b⟩ := He.ba h
  obtain ⟨b1, b2⟩ := He.ba b
  obtain ⟨b3, b4⟩ := He.ba b2
  refine ⟨He.eqO_ok a, He.eqO_ok b1, of_decide_eq_true b3, ?_⟩
  unfold gOf
  cases e : PySem.W.recIn K (He.ma K (He.ga K C) f) "property" with
  | none => rw [e] at b4; cases b4
  | some l =>
    rw [e] at b4
    cases l with
    | nil => cases b4
    | cons x r =>
      cases x with
      | ref g => exact ⟨r, rfl⟩
      | _ => cases b4
theorem fnAt_ok {K : PySem.W.Frag} {a : Addr} {name qual : Str} {params : Arguments} {bd : List Stmt} {sc : Scope} (e : fnAt K a = some (name, qual, params, .stmts bd, sc, mainGlobals, [], builtinsNs)) (h : fnAtB K a qual = true) : ∃ fd, FunD K name qual params bd sc [] [] a fd := by
  obtain ⟨kp, h2⟩ := He.ba h
  unfold fnAt at e
  cases q : K.lookup a with
  | none => rw [q] at e; cases e
  | some o =>
    obtain ⟨oc, od, dt, osl⟩ := o
    rw [q] at e h2
    cases dt with
    | func z =>
      obtain ⟨n1, n2, n3, n4, n5, n6, n7, n8, n9, n10, n11, n12, n13, n14, n15⟩ := z
      have e2 : (some (n1, n2, n3, n4, n5, n6, n7, n15) : He.FnW) = some (name, qual, params, .stmts bd, sc, mainGlobals, [], builtinsNs) := e
      simp only [Option.some.injEq, Prod.mk.injEq] at e2
      obtain ⟨rfl, rfl, rfl, rfl, rfl, rfl, rfl, rfl⟩ := e2
      obtain ⟨h3, h4⟩ := He.ba (show (PySem.W.codeIn K n13 n2 && He.dflB K n8 []) = true from h2)
      exact ⟨_, ⟨oc, od, n8, n9, n10, n11, n12, n13, n14, osl, rfl, q, h3, He.dflB_ok h4, .inl rfl⟩, kp⟩
    | _ => cases e
abbrev Alx : Type := He.AlD × Bool × List He.FnW
def obsK (fa : List He.Fa) (fn : List He.DefD) (ex : PySem.W.Frag → Bool) (gs : PySem.W.Frag → List He.FnW) (K : PySem.W.Frag) : Alx := (He.obsD fa fn K, ex K, gs K)
def hookU (fa : List He.Fa) (fn : List He.DefD) (ex : PySem.W.Frag → Bool) (gs : PySem.W.Frag → List He.FnW) (gv : List He.FnW) : PySem.W.Hook where
  α := Alx
  obs := fun s => obsK fa fn ex gs (KU s.heap.get?)
  val := fun _ => (He.valD fn, true, gv)
  says := fun _ h => ∃ K : PySem.W.Frag, K.In h ∧ obsK fa fn ex gs K = (He.valD fn, true, gv)
  of := fun _ _ e => ⟨_, He.frG_in, e⟩
  keeps := fun _ _ _ ⟨K, hK, c⟩ k => ⟨K, PySem.W.Frag.In.keeps hK k, c⟩
theorem obsU_eq {fa : List He.Fa} {fn : List He.DefD} {ex : PySem.W.Frag → Bool} {gs : PySem.W.Frag → List He.FnW} {gv : List He.FnW} {g : Addr → Option Obj} {s : Shared} (h : ∀ a, g a = s.heap.get? a) : obsK fa fn ex gs (KU g) = (hookU fa fn ex gs gv).obs s := by
  have hh : g = s.heap.get? := funext h
  rw [hh] <;> rfl
def ex (K : PySem.W.Frag) : Bool := He.tupB K "ZERO" [.int 0, .int 1] && (isiB K [He.ga K "Granted", He.ga K "Refused"] && (!(decide (He.ga K "Granted" = He.ga K "Refused")) && (He.eqO (PySem.W.nsIn K mainGlobals "gcd") (some (some (.builtin "math.gcd"))) && (proB K "Kinds" "total_weight" && (fnAtB K (gOf K "Kinds" "total_weight") "Kinds.total_weight")))))
def gs (K : PySem.W.Frag) : List He.FnW := [fnAt K (gOf K "Kinds" "total_weight")]
def gv : List He.FnW := [some ("total_weight", "Kinds.total_weight", defArgs (Dl.meth 66 2), .stmts (defBody (Dl.meth 66 2)), defScope (Dl.meth 66 2), mainGlobals, [], builtinsNs)]
abbrev hk : PySem.W.Hook := hookU fa fn ex gs gv
def ob (s : PySem.W.SharedT) : Alx := obsK fa fn ex gs (KU (HandSHeadRun.getT s))
theorem ob_eq (s : PySem.W.SharedT) : ob s = hk.obs s.abs := obsU_eq (HandSHeadRun.getT_eq s)
def loose0 : List PySem.Str := ["_wall", "SignsError", "BadRatio", "TooMany", "BadBook", "BadDeed", "BadSign", "BadPay", "BadTable", "BadWish", "BadKinds", "DEEDS"]
def loose1 : List PySem.Str := ["SIGNS", "first_fault", "first_fault_books", "check_deed", "Book", "ZERO", "ratio", "plus", "minus", "times", "compare", "first_negative"]
def loose2 : List PySem.Str := ["Pay", "check_pay", "row_sum", "mean_pay", "gain_of", "best_deeds", "first_table", "negative_row", "comes_before", "entering_column", "exchange", "at_slacks"]
def loose3 : List PySem.Str := ["solve", "UNKNOWNS", "ROWS", "Wish", "Granted", "Refused", "ask", "pay_of", "deed_row", "bring_wish", "check_asked", "choice_row"]
def loose4 : List PySem.Str := ["menu_wish", "menu", "pooled_wish", "pooled", "KINDS", "SIDE", "first_fault_kinds", "Kinds", "check_together", "ties_wish", "ties", "_law_cell"]
def loose5 : List PySem.Str := ["_law_draws", "_law_row", "_law_costs", "_law_shared", "_law_low", "_law_is_whole", "_law_is_ratio", "_law_are_ratios", "_law_alike", "_law_sum", "_law_less", "_law_same"]
def loose6 : List PySem.Str := ["_law_above", "_law_bring_rows", "_law_bring", "_law_columns", "_law_right", "_law_gain", "_law_best", "_law_menu", "_law_pooled", "_law_ties", "_law_world"]
abbrev loose : List PySem.Str := loose0 ++ (loose1 ++ (loose2 ++ (loose3 ++ (loose4 ++ (loose5 ++ (loose6))))))
end HdT

namespace HdT
open PySem PySem.Spec PyProof.Rows L2
theorem run (w : World) : HandSHeadRun.RunEqI R (PySem.W.view R.prog [0, 96]) hk ob 20000 loose w := by
  unfold HandSHeadRun.RunEqI
  kernel_rfl
end HdT

namespace Dl
open PySem PySem.Spec PyProof.Rows L2 Slv
theorem insOk {K : PySem.W.Frag} {C : Addr} {fs : List (Str × D)} {ns : List Str} (hC : Cls K C) (e : fs.map (·.1) = ns) (h : ∀ f ∈ ns, NoAttr K C f) : InsOk K C fs := ⟨hC, fun p hp => h _ (e ▸ List.mem_map.mpr ⟨p, hp, rfl⟩)⟩
theorem kn_no {P : Program} {w : World} {K : PySem.W.Frag} {mg : Str → Option Value} {base : Heap} {f : Addr} {fd : FuncData} {ps : List Str} {k : Nat} {dsp : DSp} (h : ∀ ds Q, ¬ dsp ds Q) : FnOk P w K mg base CX0 k f fd ps (liftSp K dsp) :=
  ⟨fun vs H Q E ⟨B, ds, _, _, z⟩ => (h _ _ z).elim, fun A outer s H args us vs Q E _ _ _ _ ⟨B, ds, _, _, z⟩ => (h _ _ z).elim⟩
def adOf (K : PySem.W.Frag) : Ad := ⟨He.ga K "Book", He.ga K "Granted", He.ga K "Kinds", He.ga K "Pay", He.ga K "Refused", He.ga K "Wish", He.ga K "ZERO"⟩
def spLaw (K : PySem.W.Frag) : Sp := liftSp K sp_law
section
variable {P : Program} {w : World} {K : PySem.W.Frag} {h : Heap} {mg : Str → Option Value}
theorem facts (X : K.In h) (G : h.Ns mainGlobals mg) (hfa : ∃ fa, mg ("law" : Str) = some (.ref fa)) (cs : He.SaysD HdT.fa HdT.fn K) (hx : HdT.ex K = true) (hg : HdT.gs K = HdT.gv) :
    ∃ fd : FuncData, (∀ (s : Shared) (v : Value), BindsTo s fd ⟨[v], []⟩ [("script", v)]) ∧ ∀ base : Heap, K.In base → base.Ns mainGlobals mg → FnOk P w K mg base CX0 7 (He.ga K "law") fd ["script"] (spLaw K) := by
  obtain ⟨hx0, hx⟩ := He.ba hx
  obtain ⟨hx1, hx⟩ := He.ba hx
  obtain ⟨hx2, hx⟩ := He.ba hx
  obtain ⟨hx3, hx⟩ := He.ba hx
  obtain ⟨hx4, hx⟩ := He.ba hx
  have hx5 := hx
  have isiF : IsiF K [(adOf K).Granted, (adOf K).Refused] := HdT.isi_ok hx1
  have hne : (adOf K).Granted ≠ (adOf K).Refused := fun z => by
    have y : decide (He.ga K "Granted" = He.ga K "Refused") = true := decide_eq_true z
    have x := hx2
    rw [y] at x; cases x
  have m_gcd : mg "gcd" = some (.builtin "math.gcd") := PySem.W.mg_of X G (He.eqO_ok hx3)
  have m_range : mg "range" = none := He.free_ok X G (cs.fact 58 rfl)
  have m_int : mg "int" = none := He.free_ok X G (cs.fact 59 rfl)
  have m_abs : mg "abs" = none := He.free_ok X G (cs.fact 60 rfl)
  have m_sorted : mg "sorted" = none := He.free_ok X G (cs.fact 61 rfl)
  have m_len : mg "len" = none := He.free_ok X G (cs.fact 62 rfl)
  have m_min : mg "min" = none := He.free_ok X G (cs.fact 63 rfl)
  have m_list : mg "list" = none := He.free_ok X G (cs.fact 64 rfl)
  have m_sum : mg "sum" = none := He.free_ok X G (cs.fact 65 rfl)
  have cls_Book : Cls K (adOf K).Book := He.cls_ok (cs.fact 66 rfl)
  have na_Book_whole : NoAttr K (adOf K).Book "whole" := He.noat_ok (cs.fact 67 rfl)
  have na_Book_signs : NoAttr K (adOf K).Book "signs" := He.noat_ok (cs.fact 68 rfl)
  have na_Book_deeds : NoAttr K (adOf K).Book "deeds" := He.noat_ok (cs.fact 69 rfl)
  have m_tuple : mg "tuple" = none := He.free_ok X G (cs.fact 70 rfl)
  have na_Book_worths : NoAttr K (adOf K).Book "worths" := He.noat_ok (cs.fact 71 rfl)
  have na_Book_rows : NoAttr K (adOf K).Book "rows" := He.noat_ok (cs.fact 72 rfl)
  have na_Book_costs : NoAttr K (adOf K).Book "costs" := He.noat_ok (cs.fact 73 rfl)
  have m_max : mg "max" = none := He.free_ok X G (cs.fact 74 rfl)
  have i_SIGNS : ∃ t, mg "SIGNS" = some (.int 9 t) := He.int_ok X G (cs.fact 75 rfl)
  have i_DEEDS : ∃ t, mg "DEEDS" = some (.int 16 t) := He.int_ok X G (cs.fact 76 rfl)
  have cls_Kinds : Cls K (adOf K).Kinds := He.cls_ok (cs.fact 77 rfl)
  have na_Kinds_whole : NoAttr K (adOf K).Kinds "whole" := He.noat_ok (cs.fact 78 rfl)
  have na_Kinds_signs : NoAttr K (adOf K).Kinds "signs" := He.noat_ok (cs.fact 79 rfl)
  have na_Kinds_deeds : NoAttr K (adOf K).Kinds "deeds" := He.noat_ok (cs.fact 80 rfl)
  have na_Kinds_many : NoAttr K (adOf K).Kinds "many" := He.noat_ok (cs.fact 81 rfl)
  have na_Kinds_books : NoAttr K (adOf K).Kinds "books" := He.noat_ok (cs.fact 82 rfl)
  have na_Kinds_weights : NoAttr K (adOf K).Kinds "weights" := He.noat_ok (cs.fact 83 rfl)
  have i_SIDE : ∃ t, mg "SIDE" = some (.int 4 t) := He.int_ok X G (cs.fact 84 rfl)
  have i_KINDS : ∃ t, mg "KINDS" = some (.int 3 t) := He.int_ok X G (cs.fact 85 rfl)
  have m_enumerate : mg "enumerate" = none := He.free_ok X G (cs.fact 86 rfl)
  have cls_Granted : Cls K (adOf K).Granted := He.cls_ok (cs.fact 87 rfl)
  have na_Granted_weights : NoAttr K (adOf K).Granted "weights" := He.noat_ok (cs.fact 88 rfl)
  have na_Granted_point : NoAttr K (adOf K).Granted "point" := He.noat_ok (cs.fact 89 rfl)
  have na_Granted_value : NoAttr K (adOf K).Granted "value" := He.noat_ok (cs.fact 90 rfl)
  have cls_Refused : Cls K (adOf K).Refused := He.cls_ok (cs.fact 91 rfl)
  have na_Refused_weights : NoAttr K (adOf K).Refused "weights" := He.noat_ok (cs.fact 92 rfl)
  have o_Granted : ∀ xs Q, sp_Granted_init xs Q → sp_Granted_init xs (fun fs => Q fs ∧ InsOk K (adOf K).Granted fs) := fun xs Q ⟨v, p, w, ps, ws, e, a, b, q⟩ => ⟨v, p, w, ps, ws, e, a, b, q, insOk (ns := ["value", "point", "weights"]) cls_Granted rfl (by intro f hf; simp only [List.mem_cons, List.not_mem_nil, or_false] at hf; rcases hf with rfl | rfl | rfl <;> assumption)⟩
  have o_Refused : ∀ xs Q, sp_Refused_init xs Q → sp_Refused_init xs (fun fs => Q fs ∧ InsOk K (adOf K).Refused fs) := fun xs Q ⟨w, ws, e, a, q⟩ => ⟨w, ws, e, a, q, insOk (ns := ["weights"]) cls_Refused rfl (by intro f hf; simp only [List.mem_cons, List.not_mem_nil, or_false] at hf; rcases hf with rfl <;> assumption)⟩
  have cls_Wish : Cls K (adOf K).Wish := He.cls_ok (cs.fact 97 rfl)
  have na_Wish_unit : NoAttr K (adOf K).Wish "unit" := He.noat_ok (cs.fact 98 rfl)
  have na_Wish_rows : NoAttr K (adOf K).Wish "rows" := He.noat_ok (cs.fact 99 rfl)
  have na_Wish_goal : NoAttr K (adOf K).Wish "goal" := He.noat_ok (cs.fact 100 rfl)
  have m_any : mg "any" = none := He.free_ok X G (cs.fact 101 rfl)
  have i_ROWS : ∃ t, mg "ROWS" = some (.int 40 t) := He.int_ok X G (cs.fact 102 rfl)
  have i_UNKNOWNS : ∃ t, mg "UNKNOWNS" = some (.int 18 t) := He.int_ok X G (cs.fact 103 rfl)
  have m_zip : mg "zip" = none := He.free_ok X G (cs.fact 104 rfl)
  have o_Wish : ∀ xs Q, sp_Wish_init xs Q → sp_Wish_init xs (fun fs => Q fs ∧ InsOk K (adOf K).Wish fs) := fun xs Q ⟨T, g, rs, xs, e, a1, a2, a3, a4, a5, a6, a7, a8, q⟩ => ⟨T, g, rs, xs, e, a1, a2, a3, a4, a5, a6, a7, a8, q, insOk (ns := ["goal", "rows", "unit"]) cls_Wish rfl (by intro f hf; simp only [List.mem_cons, List.not_mem_nil, or_false] at hf; rcases hf with rfl | rfl | rfl <;> assumption)⟩
  have t_ZERO : mg "ZERO" = some (.ref (adOf K).ZERO) := He.glo_ok X G (cs.fact 107 rfl)
  have q_ZERO : ∀ H, SqT K H (adOf K).ZERO [V.int 0, V.int 1] := fun H => He.tupB_ok hx0 H
  have cls_Pay : Cls K (adOf K).Pay := He.cls_ok (cs.fact 108 rfl)
  have na_Pay_amounts : NoAttr K (adOf K).Pay "amounts" := He.noat_ok (cs.fact 109 rfl)
  have o_Pay : ∀ xs Q, sp_Pay_init xs Q → sp_Pay_init xs (fun fs => Q fs ∧ InsOk K (adOf K).Pay fs) := fun xs Q ⟨am, n, x, d, e, a, b, q⟩ => ⟨am, n, x, d, e, a, b, q, insOk (ns := ["amounts"]) cls_Pay rfl (by intro f hf; simp only [List.mem_cons, List.not_mem_nil, or_false] at hf; rcases hf with rfl <;> assumption)⟩
  have m_isinstance : mg "isinstance" = none := He.free_ok X G (cs.fact 112 rfl)
  have m_bool : mg "bool" = none := He.free_ok X G (cs.fact 113 rfl)
  have m_str : mg "str" = none := He.free_ok X G (cs.fact 114 rfl)
  have g_Refused : mg "Refused" = some (.ref (adOf K).Refused) := He.glo_ok X G (cs.fact 96 rfl)
  have g_Granted : mg "Granted" = some (.ref (adOf K).Granted) := He.glo_ok X G (cs.fact 94 rfl)
  have o_Book : ∀ xs Q, sp_Book_init xs Q → sp_Book_init xs (fun fs => Q fs ∧ InsOk K (adOf K).Book fs) := fun xs Q ⟨B, e, q⟩ => ⟨B, e, q, insOk (ns := ["costs", "rows", "worths", "deeds", "signs", "whole"]) cls_Book rfl (by intro f hf; simp only [List.mem_cons, List.not_mem_nil, or_false] at hf; rcases hf with rfl | rfl | rfl | rfl | rfl | rfl <;> assumption)⟩
  have o_Kinds : ∀ xs Q, (sp_Kinds_init (adOf K)) xs Q → (sp_Kinds_init (adOf K)) xs (fun fs => Q fs ∧ InsOk K (adOf K).Kinds fs) := fun xs Q ⟨B, e, q⟩ => ⟨B, e, q, insOk (ns := ["weights", "books", "many", "deeds", "signs", "whole"]) cls_Kinds rfl (by intro f hf; simp only [List.mem_cons, List.not_mem_nil, or_false] at hf; rcases hf with rfl | rfl | rfl | rfl | rfl | rfl <;> assumption)⟩
  obtain ⟨fd_law, F_law⟩ := cs.def_ 63 (d := HdT.D_law) rfl
  have bl := FunD.bindsA (ps := ["script"]) F_law fun _ _ _ _ _ _ us hl => match us, hl with | [_], _ => rfl
  refine ⟨fd_law, fun s v => bl s [v] rfl, fun base _ _ => ?_⟩
  obtain ⟨fd__law_draws, F__law_draws⟩ := cs.def_ 0 (d := HdT.D__law_draws) rfl
  have o__law_draws : FnOk P w K mg base CX0 1 _ fd__law_draws ["cell", "many", "size"] (liftSp K sp__law_draws) := fnD_ok (k := 0) (N := ["cell", "many", "size", "drawn", "left", "wide", "k", "one", "two"]) F__law_draws sc__law_draws (fun ds Q h => by obtain ⟨_, _, _, rfl, _⟩ := h; rfl) (fun cdv A outer s H E hr => b__law_draws (m_range := m_range) (m_int := m_int) (m_abs := m_abs) _ cdv A outer s H E hr) (fun ds Q => pure__law_draws ds Q)
  have k__law_draws : Kn P w K mg base "_law_draws" ["cell", "many", "size"] 1 sp__law_draws [] := ⟨_, fd__law_draws, [], o__law_draws, (He.glo_ok X G (cs.fact 0 rfl)), F__law_draws.kp, FunD.bindsN F__law_draws fun _ _ _ _ _ _ us hl => match us, hl with | [_, _, _], _ => rfl, .nil⟩
  obtain ⟨fd__law_costs, F__law_costs⟩ := cs.def_ 1 (d := HdT.D__law_costs) rfl
  have o__law_costs : FnOk P w K mg base CX0 2 _ fd__law_costs ["cell", "many", "size"] (liftSp K sp__law_costs) := fnD_ok (k := 1) (N := ["cell", "many", "size", "costs", "free"]) F__law_costs sc__law_costs (fun ds Q h => by obtain ⟨_, _, _, rfl, _⟩ := h; rfl) (fun cdv A outer s H E hr => b__law_costs (m_int := m_int) (k__law_draws := k__law_draws) _ cdv A outer s H E hr) (fun ds Q => pure__law_costs ds Q)
  have k__law_costs : Kn P w K mg base "_law_costs" ["cell", "many", "size"] 2 sp__law_costs [] := ⟨_, fd__law_costs, [], o__law_costs, (He.glo_ok X G (cs.fact 1 rfl)), F__law_costs.kp, FunD.bindsN F__law_costs fun _ _ _ _ _ _ us hl => match us, hl with | [_, _, _], _ => rfl, .nil⟩
  obtain ⟨fd__law_row, F__law_row⟩ := cs.def_ 2 (d := HdT.D__law_row) rfl
  have o__law_row : FnOk P w K mg base CX0 2 _ fd__law_row ["cell", "signs", "whole"] (liftSp K sp__law_row) := fnD_ok (k := 1) (N := ["cell", "signs", "whole", "cuts", "k"]) F__law_row sc__law_row (fun ds Q h => by obtain ⟨_, _, _, rfl, _⟩ := h; rfl) (fun cdv A outer s H E hr => b__law_row (m_range := m_range) (m_sorted := m_sorted) (k__law_draws := k__law_draws) _ cdv A outer s H E hr) (fun ds Q => pure__law_row ds Q)
  have k__law_row : Kn P w K mg base "_law_row" ["cell", "signs", "whole"] 2 sp__law_row [] := ⟨_, fd__law_row, [], o__law_row, (He.glo_ok X G (cs.fact 2 rfl)), F__law_row.kp, FunD.bindsN F__law_row fun _ _ _ _ _ _ us hl => match us, hl with | [_, _, _], _ => rfl, .nil⟩
  obtain ⟨fd__law_cell, F__law_cell⟩ := cs.def_ 3 (d := HdT.D__law_cell) rfl
  have o__law_cell : FnOk P w K mg base CX0 1 _ fd__law_cell ["script", "k"] (liftSp K sp__law_cell) := fnD_ok (k := 0) (N := ["script", "k"]) F__law_cell sc__law_cell (fun ds Q h => by obtain ⟨_, _, rfl, _⟩ := h; rfl) (fun cdv A outer s H E hr => b__law_cell (m_int := m_int) (m_len := m_len) _ cdv A outer s H E hr) (fun ds Q => pure__law_cell ds Q)
  have k__law_cell : Kn P w K mg base "_law_cell" ["script", "k"] 1 sp__law_cell [] := ⟨_, fd__law_cell, [], o__law_cell, (He.glo_ok X G (cs.fact 3 rfl)), F__law_cell.kp, FunD.bindsN F__law_cell fun _ _ _ _ _ _ us hl => match us, hl with | [_, _], _ => rfl, .nil⟩
  obtain ⟨fd__law_world, F__law_world⟩ := cs.def_ 4 (d := HdT.D__law_world) rfl
  have o__law_world : FnOk P w K mg base CX0 3 _ fd__law_world ["script", "turns"] (liftSp K sp__law_world) := fnD_ok (k := 2) (N := ["script", "turns", "deeds", "signs", "many", "whole", "size", "rows", "asked", "costs", "pay", "slacks", "means", "weights", "k", "row", "s", "each", "digit"]) F__law_world sc__law_world (fun ds Q h => by obtain ⟨_, _, rfl, _⟩ := h; rfl) (fun cdv A outer s H E hr => b__law_world (k__law_draws := k__law_draws) (k__law_cell := k__law_cell) (m_min := m_min) (m_int := m_int) (m_list := m_list) (m_range := m_range) (m_sum := m_sum) (k__law_costs := k__law_costs) (k__law_row := k__law_row) _ cdv A outer s H E hr) (fun ds Q => pure__law_world ds Q)
  have k__law_world : Kn P w K mg base "_law_world" ["script", "turns"] 3 sp__law_world [] := ⟨_, fd__law_world, [], o__law_world, (He.glo_ok X G (cs.fact 4 rfl)), F__law_world.kp, FunD.bindsN F__law_world fun _ _ _ _ _ _ us hl => match us, hl with | [_, _], _ => rfl, .nil⟩
  obtain ⟨fd_first_fault_books, F_first_fault_books⟩ := cs.def_ 5 (d := HdT.D_first_fault_books) rfl
  have o_first_fault_books : FnOk P w K mg base CX0 1 _ fd_first_fault_books ["costs", "rows", "worths"] (liftSp K sp_first_fault_books) := fnD_ok (k := 0) (N := ["costs", "rows", "worths", "row"]) F_first_fault_books sc_first_fault_books (fun ds Q h => by obtain ⟨B, ⟨cs, rs, ws, xs, rfl, _⟩, _⟩ := h; rfl) (fun cdv A outer s H E hr => b_first_fault_books (m_min := m_min) (m_sum := m_sum) (m_len := m_len) _ cdv A outer s H E hr) (fun ds Q => pure_first_fault_books ds Q)
  have k_first_fault_books : Kn P w K mg base "first_fault_books" ["costs", "rows", "worths"] 1 sp_first_fault_books [] := ⟨_, fd_first_fault_books, [], o_first_fault_books, (He.glo_ok X G (cs.fact 5 rfl)), F_first_fault_books.kp, FunD.bindsN F_first_fault_books fun _ _ _ _ _ _ us hl => match us, hl with | [_, _, _], _ => rfl, .nil⟩
  obtain ⟨fd_Book_init, F_Book_init⟩ := cs.def_ 6 (d := HdT.D_Book_init) rfl
  have o_Book_init : FnOk P w K mg base CX0 2 _ fd_Book_init ["self", "costs", "rows", "worths"] (liftIn K (adOf K).Book sp_Book_init) := initD_ok (k := 1) (M := "self") (N := ["costs", "rows", "worths", "fault", "row"]) F_Book_init sc_Book_init (fun ds Q h => by obtain ⟨B, ⟨cs, rs, ws, xs, rfl, _⟩, _⟩ := h; rfl) (fun cdv A outer s H E hr => b_Book_init (c := adOf K) (m_sum := m_sum) (cls_Book := cls_Book) (na_Book_whole := na_Book_whole) (m_len := m_len) (na_Book_signs := na_Book_signs) (na_Book_deeds := na_Book_deeds) (m_tuple := m_tuple) (na_Book_worths := na_Book_worths) (na_Book_rows := na_Book_rows) (na_Book_costs := na_Book_costs) (k_first_fault_books := k_first_fault_books) (m_max := m_max) (i_SIGNS := i_SIGNS) (i_DEEDS := i_DEEDS) _ cdv A outer s H E hr) (fun p ds Q => pure_Book_init (adOf K) p ds Q)
  have c_Book : Kc P w K mg base "Book" (adOf K).Book ["self", "costs", "rows", "worths"] 2 sp_Book_init [] := ⟨_, fd_Book_init, [], He.mkr_ok (cs.fact 115 rfl), o_Book_init, He.glo_ok X G (cs.fact 116 rfl), FunD.bindsN F_Book_init fun _ _ _ _ _ _ us hl => match us, hl with | [_, _, _, _], _ => rfl, .nil⟩
  obtain ⟨fd_first_fault_kinds, F_first_fault_kinds⟩ := cs.def_ 7 (d := HdT.D_first_fault_kinds) rfl
  have o_first_fault_kinds : FnOk P w K mg base CX0 1 _ fd_first_fault_kinds ["weights", "books"] (liftSp K (sp_first_fault_kinds (adOf K))) := fnD_ok (k := 0) (N := ["weights", "books", "book"]) F_first_fault_kinds sc_first_fault_kinds (fun ds Q h => by obtain ⟨B, ⟨ws, bs, rfl, _⟩, _⟩ := h; rfl) (fun cdv A outer s H E hr => b_first_fault_kinds (m_min := m_min) (m_len := m_len) _ cdv A outer s H E hr) (fun ds Q => pure_first_fault_kinds (adOf K) ds Q)
  have k_first_fault_kinds : Kn P w K mg base "first_fault_kinds" ["weights", "books"] 1 (sp_first_fault_kinds (adOf K)) [] := ⟨_, fd_first_fault_kinds, [], o_first_fault_kinds, (He.glo_ok X G (cs.fact 6 rfl)), F_first_fault_kinds.kp, FunD.bindsN F_first_fault_kinds fun _ _ _ _ _ _ us hl => match us, hl with | [_, _], _ => rfl, .nil⟩
  obtain ⟨fd_Kinds_init, F_Kinds_init⟩ := cs.def_ 8 (d := HdT.D_Kinds_init) rfl
  have o_Kinds_init : FnOk P w K mg base CX0 2 _ fd_Kinds_init ["self", "weights", "books"] (liftIn K (adOf K).Kinds (sp_Kinds_init (adOf K))) := initD_ok (k := 1) (M := "self") (N := ["weights", "books", "fault"]) F_Kinds_init sc_Kinds_init (fun ds Q h => by obtain ⟨B, ⟨ws, bs, rfl, _⟩, _⟩ := h; rfl) (fun cdv A outer s H E hr => b_Kinds_init (c := adOf K) (cls_Kinds := cls_Kinds) (na_Kinds_whole := na_Kinds_whole) (na_Kinds_signs := na_Kinds_signs) (na_Kinds_deeds := na_Kinds_deeds) (m_len := m_len) (na_Kinds_many := na_Kinds_many) (m_tuple := m_tuple) (na_Kinds_books := na_Kinds_books) (na_Kinds_weights := na_Kinds_weights) (i_SIDE := i_SIDE) (k_first_fault_kinds := k_first_fault_kinds) (i_KINDS := i_KINDS) _ cdv A outer s H E hr) (fun p ds Q => pure_Kinds_init (adOf K) p ds Q)
  have c_Kinds : Kc P w K mg base "Kinds" (adOf K).Kinds ["self", "weights", "books"] 2 (sp_Kinds_init (adOf K)) [] := ⟨_, fd_Kinds_init, [], He.mkr_ok (cs.fact 117 rfl), o_Kinds_init, He.glo_ok X G (cs.fact 118 rfl), FunD.bindsN F_Kinds_init fun _ _ _ _ _ _ us hl => match us, hl with | [_, _, _], _ => rfl, .nil⟩
  obtain ⟨fd_first_table, F_first_table⟩ := cs.def_ 9 (d := HdT.D_first_table) rfl
  have o_first_table : FnOk P w K mg base CX0 1 _ fd_first_table ["goal", "rows"] (liftSp K sp_first_table) := fnD_ok (k := 0) (N := ["goal", "rows", "size", "table", "k", "coefficients", "bound", "j"]) F_first_table sc_first_table (fun ds Q h => by obtain ⟨_, _, _, _, _, rfl, _⟩ := h; rfl) (fun cdv A outer s H E hr => b_first_table (m_list := m_list) (m_range := m_range) (m_int := m_int) (m_len := m_len) _ cdv A outer s H E hr) (fun ds Q => pure_first_table ds Q)
  have k_first_table : Kn P w K mg base "first_table" ["goal", "rows"] 1 sp_first_table [] := ⟨_, fd_first_table, [], o_first_table, (He.glo_ok X G (cs.fact 7 rfl)), F_first_table.kp, FunD.bindsN F_first_table fun _ _ _ _ _ _ us hl => match us, hl with | [_, _], _ => rfl, .nil⟩
  obtain ⟨fd_negative_row, F_negative_row⟩ := cs.def_ 10 (d := HdT.D_negative_row) rfl
  have o_negative_row : FnOk P w K mg base CX0 1 _ fd_negative_row ["table"] (liftSp K sp_negative_row) := fnD_ok (k := 0) (N := ["table", "place"]) F_negative_row sc_negative_row (fun ds Q h => by obtain ⟨_, _, _, rfl, _⟩ := h; rfl) (fun cdv A outer s H E hr => b_negative_row (m_range := m_range) (m_len := m_len) _ cdv A outer s H E hr) (fun ds Q => pure_negative_row ds Q)
  have k_negative_row : Kn P w K mg base "negative_row" ["table"] 1 sp_negative_row [] := ⟨_, fd_negative_row, [], o_negative_row, (He.glo_ok X G (cs.fact 8 rfl)), F_negative_row.kp, FunD.bindsN F_negative_row fun _ _ _ _ _ _ us hl => match us, hl with | [_], _ => rfl, .nil⟩
  obtain ⟨fd_comes_before, F_comes_before⟩ := cs.def_ 11 (d := HdT.D_comes_before) rfl
  have o_comes_before : FnOk P w K mg base CX0 1 _ fd_comes_before ["table", "row", "column", "other"] (liftSp K sp_comes_before) := fnD_ok (k := 0) (N := ["table", "row", "column", "other", "line", "left", "right"]) F_comes_before sc_comes_before (fun ds Q h => by obtain ⟨_, _, _, _, _, _, rfl, _⟩ := h; rfl) (fun cdv A outer s H E hr => b_comes_before  _ cdv A outer s H E hr) (fun ds Q => pure_comes_before ds Q)
  have k_comes_before : Kn P w K mg base "comes_before" ["table", "row", "column", "other"] 1 sp_comes_before [] := ⟨_, fd_comes_before, [], o_comes_before, (He.glo_ok X G (cs.fact 9 rfl)), F_comes_before.kp, FunD.bindsN F_comes_before fun _ _ _ _ _ _ us hl => match us, hl with | [_, _, _, _], _ => rfl, .nil⟩
  obtain ⟨fd_entering_column, F_entering_column⟩ := cs.def_ 12 (d := HdT.D_entering_column) rfl
  have o_entering_column : FnOk P w K mg base CX0 2 _ fd_entering_column ["table", "row"] (liftSp K sp_entering_column) := fnD_ok (k := 1) (N := ["table", "row", "best", "column"]) F_entering_column sc_entering_column (fun ds Q h => by obtain ⟨_, _, _, _, rfl, _⟩ := h; rfl) (fun cdv A outer s H E hr => b_entering_column (m_range := m_range) (m_len := m_len) (k_comes_before := k_comes_before) _ cdv A outer s H E hr) (fun ds Q => pure_entering_column ds Q)
  have k_entering_column : Kn P w K mg base "entering_column" ["table", "row"] 2 sp_entering_column [] := ⟨_, fd_entering_column, [], o_entering_column, (He.glo_ok X G (cs.fact 10 rfl)), F_entering_column.kp, FunD.bindsN F_entering_column fun _ _ _ _ _ _ us hl => match us, hl with | [_, _], _ => rfl, .nil⟩
  obtain ⟨fd_exchange, F_exchange⟩ := cs.def_ 13 (d := HdT.D_exchange) rfl
  have k_exchange : KnEx P w K mg base 1 := ⟨_, fd_exchange, ok_exchange F_exchange sc_exchange (fun cdv A outer s H E => b_exchange (m_range := m_range) (m_len := m_len) _ cdv A outer s H E), (He.glo_ok X G (cs.fact 11 rfl)), F_exchange.kp, FunD.bindsN F_exchange fun _ _ _ _ _ _ us hl => match us, hl with | [_, _, _, _], _ => rfl⟩
  obtain ⟨fd_at_slacks, F_at_slacks⟩ := cs.def_ 14 (d := HdT.D_at_slacks) rfl
  have o_at_slacks : FnOk P w K mg base CX0 1 _ fd_at_slacks ["numbers", "outer", "size", "many"] (liftSp K sp_at_slacks) := fnD_ok (k := 0) (N := ["numbers", "outer", "size", "many", "found", "place", "variable"]) F_at_slacks sc_at_slacks (fun ds Q h => by obtain ⟨_, _, _, _, rfl, _⟩ := h; rfl) (fun cdv A outer s H E hr => b_at_slacks (m_enumerate := m_enumerate) _ cdv A outer s H E hr) (fun ds Q => pure_at_slacks ds Q)
  have k_at_slacks : Kn P w K mg base "at_slacks" ["numbers", "outer", "size", "many"] 1 sp_at_slacks [] := ⟨_, fd_at_slacks, [], o_at_slacks, (He.glo_ok X G (cs.fact 12 rfl)), F_at_slacks.kp, FunD.bindsN F_at_slacks fun _ _ _ _ _ _ us hl => match us, hl with | [_, _, _, _], _ => rfl, .nil⟩
  obtain ⟨fd_solve, F_solve⟩ := cs.def_ 15 (d := HdT.D_solve) rfl
  have o_solve : FnOk P w K mg base CX0 3 _ fd_solve ["goal", "rows"] (liftSp K sp_solve) := fnD_ok (k := 2) (N := ["goal", "rows", "size", "many", "table", "outer", "scale", "row", "column", "weights", "point", "number", "k"]) F_solve sc_solve (fun ds Q h => by obtain ⟨_, _, _, _, _, rfl, _⟩ := h; rfl) (fun cdv A outer s H E hr => b_solve (k_at_slacks := k_at_slacks) (m_range := m_range) (k_negative_row := k_negative_row) (k_exchange := k_exchange) (k_entering_column := k_entering_column) (m_list := m_list) (k_first_table := k_first_table) (m_len := m_len) _ cdv A outer s H E hr) (fun ds Q => pure_solve ds Q)
  have k_solve : Kn P w K mg base "solve" ["goal", "rows"] 3 sp_solve [] := ⟨_, fd_solve, [], o_solve, (He.glo_ok X G (cs.fact 13 rfl)), F_solve.kp, FunD.bindsN F_solve fun _ _ _ _ _ _ us hl => match us, hl with | [_, _], _ => rfl, .nil⟩
  obtain ⟨fd_Granted_init, F_Granted_init⟩ := cs.def_ 16 (d := HdT.D_Granted_init) rfl
  have o_Granted_init : FnOk P w K mg base CX0 1 _ fd_Granted_init ["self", "value", "point", "weights"] (liftIn K (adOf K).Granted sp_Granted_init) := initD_ok (k := 0) (M := "self") (N := ["value", "point", "weights"]) F_Granted_init sc_Granted_init (fun ds Q h => by obtain ⟨_, _, _, _, _, rfl, _⟩ := h; rfl) (fun cdv A outer s H E hr => b_Granted_init (c := adOf K) (m_tuple := m_tuple) (cls_Granted := cls_Granted) (na_Granted_weights := na_Granted_weights) (na_Granted_point := na_Granted_point) (na_Granted_value := na_Granted_value) _ cdv A outer s H E hr) (fun p ds Q => pure_Granted_init (adOf K) p ds Q)
  have c_Granted : Kc P w K mg base "Granted" (adOf K).Granted ["self", "value", "point", "weights"] 1 sp_Granted_init [] := ⟨_, fd_Granted_init, [], He.mkr_ok (cs.fact 93 rfl), o_Granted_init, He.glo_ok X G (cs.fact 94 rfl), FunD.bindsN F_Granted_init fun _ _ _ _ _ _ us hl => match us, hl with | [_, _, _, _], _ => rfl, .nil⟩
  obtain ⟨fd_ratio, F_ratio⟩ := cs.def_ 17 (d := HdT.D_ratio) rfl
  have o_ratio : FnOk P w K mg base CX0 1 _ fd_ratio ["top", "bottom"] (liftSp K sp_ratio) := fnD_ok (k := 0) (N := ["top", "bottom", "shared"]) F_ratio sc_ratio (fun ds Q h => by obtain ⟨_, _, rfl, _⟩ := h; rfl) (fun cdv A outer s H E hr => b_ratio (m_gcd := m_gcd) _ cdv A outer s H E hr) (fun ds Q => pure_ratio ds Q)
  obtain ⟨dv_k_ratio, vd_k_ratio, bi_k_ratio⟩ := FunD.binds1 (ps := ["top", "bottom"]) F_ratio 2 1 (List.cons_ne_nil _ _) rfl fun _ _ _ _ _ _ _ us its hl hl2 => match us, its, hl, hl2 with | [_, _], [_], _, _ => ⟨_, rfl, rfl⟩
  have k_ratio : Kn P w K mg base "ratio" ["top", "bottom"] 1 sp_ratio [] := ⟨_, fd_ratio, dv_k_ratio, o_ratio, (He.glo_ok X G (cs.fact 14 rfl)), F_ratio.kp, bi_k_ratio, vd_k_ratio⟩
  obtain ⟨fd_Refused_init, F_Refused_init⟩ := cs.def_ 18 (d := HdT.D_Refused_init) rfl
  have o_Refused_init : FnOk P w K mg base CX0 1 _ fd_Refused_init ["self", "weights"] (liftIn K (adOf K).Refused sp_Refused_init) := initD_ok (k := 0) (M := "self") (N := ["weights"]) F_Refused_init sc_Refused_init (fun ds Q h => by obtain ⟨_, _, rfl, _⟩ := h; rfl) (fun cdv A outer s H E hr => b_Refused_init (c := adOf K) (m_tuple := m_tuple) (cls_Refused := cls_Refused) (na_Refused_weights := na_Refused_weights) _ cdv A outer s H E hr) (fun p ds Q => pure_Refused_init (adOf K) p ds Q)
  have c_Refused : Kc P w K mg base "Refused" (adOf K).Refused ["self", "weights"] 1 sp_Refused_init [] := ⟨_, fd_Refused_init, [], He.mkr_ok (cs.fact 95 rfl), o_Refused_init, He.glo_ok X G (cs.fact 96 rfl), FunD.bindsN F_Refused_init fun _ _ _ _ _ _ us hl => match us, hl with | [_, _], _ => rfl, .nil⟩
  obtain ⟨fd_ask, F_ask⟩ := cs.def_ 19 (d := HdT.D_ask) rfl
  have o_ask : FnOk P w K mg base CX0 4 _ fd_ask ["wish"] (liftSp K (sp_ask (adOf K))) := fnD_ok (k := 3) (N := ["wish", "answer", "scale", "weights", "point", "weight", "number"]) F_ask sc_ask (fun ds Q h => by obtain ⟨_, rfl, _⟩ := h; rfl) (fun cdv A outer s H E hr => b_ask (c := adOf K) (c_Granted := c_Granted) (o_Granted := o_Granted) (k_ratio := k_ratio) (c_Refused := c_Refused) (o_Refused := o_Refused) (k_solve := k_solve) _ cdv A outer s H E hr) (fun ds Q => pure_ask (adOf K) ds Q)
  have k_ask : Kn P w K mg base "ask" ["wish"] 4 (sp_ask (adOf K)) [] := ⟨_, fd_ask, [], o_ask, (He.glo_ok X G (cs.fact 15 rfl)), F_ask.kp, FunD.bindsN F_ask fun _ _ _ _ _ _ us hl => match us, hl with | [_], _ => rfl, .nil⟩
  obtain ⟨fd_check_deed, F_check_deed⟩ := cs.def_ 20 (d := HdT.D_check_deed) rfl
  have o_check_deed : FnOk P w K mg base CX0 1 _ fd_check_deed ["book", "deed"] (liftSp K (sp_check_deed (adOf K))) := fnD_ok (k := 0) (N := ["book", "deed"]) F_check_deed sc_check_deed (fun ds Q h => by obtain ⟨_, _, rfl, _⟩ := h; rfl) (fun cdv A outer s H E hr => b_check_deed  _ cdv A outer s H E hr) (fun ds Q => pure_check_deed (adOf K) ds Q)
  have k_check_deed : Kn P w K mg base "check_deed" ["book", "deed"] 1 (sp_check_deed (adOf K)) [] := ⟨_, fd_check_deed, [], o_check_deed, (He.glo_ok X G (cs.fact 16 rfl)), F_check_deed.kp, FunD.bindsN F_check_deed fun _ _ _ _ _ _ us hl => match us, hl with | [_, _], _ => rfl, .nil⟩
  obtain ⟨fd_check_asked, F_check_asked⟩ := cs.def_ 21 (d := HdT.D_check_asked) rfl
  have o_check_asked : FnOk P w K mg base CX0 2 _ fd_check_asked ["kinds", "asked"] (liftSp K (sp_check_asked (adOf K))) := fnD_ok (k := 1) (N := ["kinds", "asked", "deed"]) F_check_asked sc_check_asked (fun ds Q h => by obtain ⟨_, _, rfl, _⟩ := h; rfl) (fun cdv A outer s H E hr => b_check_asked (c := adOf K) (k_check_deed := k_check_deed) (m_len := m_len) _ cdv A outer s H E hr) (fun ds Q => pure_check_asked (adOf K) ds Q)
  have k_check_asked : Kn P w K mg base "check_asked" ["kinds", "asked"] 2 (sp_check_asked (adOf K)) [] := ⟨_, fd_check_asked, [], o_check_asked, (He.glo_ok X G (cs.fact 17 rfl)), F_check_asked.kp, FunD.bindsN F_check_asked fun _ _ _ _ _ _ us hl => match us, hl with | [_, _], _ => rfl, .nil⟩
  obtain ⟨fd_Wish_init, F_Wish_init⟩ := cs.def_ 22 (d := HdT.D_Wish_init) rfl
  have o_Wish_init : FnOk P w K mg base CX0 1 _ fd_Wish_init ["self", "goal", "rows", "unit"] (liftIn K (adOf K).Wish sp_Wish_init) := initD_ok (k := 0) (M := "self") (N := ["goal", "rows", "unit", "row"]) F_Wish_init sc_Wish_init (fun ds Q h => by obtain ⟨_, _, _, _, rfl, _⟩ := h; rfl) (fun cdv A outer s H E hr => b_Wish_init (c := adOf K) (cls_Wish := cls_Wish) (na_Wish_unit := na_Wish_unit) (m_tuple := m_tuple) (na_Wish_rows := na_Wish_rows) (na_Wish_goal := na_Wish_goal) (m_any := m_any) (m_len := m_len) (m_min := m_min) (i_ROWS := i_ROWS) (i_UNKNOWNS := i_UNKNOWNS) _ cdv A outer s H E hr) (fun p ds Q => pure_Wish_init (adOf K) p ds Q)
  obtain ⟨dv_c_Wish, vd_c_Wish, bi_c_Wish⟩ := FunD.binds1 (ps := ["self", "goal", "rows", "unit"]) F_Wish_init 4 1 (List.cons_ne_nil _ _) rfl fun _ _ _ _ _ _ _ us its hl hl2 => match us, its, hl, hl2 with | [_, _, _, _], [_], _, _ => ⟨_, rfl, rfl⟩
  have c_Wish : Kc P w K mg base "Wish" (adOf K).Wish ["self", "goal", "rows", "unit"] 1 sp_Wish_init [] := ⟨_, fd_Wish_init, dv_c_Wish, He.mkr_ok (cs.fact 105 rfl), o_Wish_init, He.glo_ok X G (cs.fact 106 rfl), bi_c_Wish, vd_c_Wish⟩
  obtain ⟨fd_deed_row, F_deed_row⟩ := cs.def_ 23 (d := HdT.D_deed_row) rfl
  have o_deed_row : FnOk P w K mg base CX0 1 _ fd_deed_row ["book", "deed", "other"] (liftSp K (sp_deed_row (adOf K))) := fnD_ok (k := 0) (N := ["book", "deed", "other", "parts", "mine", "theirs"]) F_deed_row sc_deed_row (fun ds Q h => by obtain ⟨_, _, _, rfl, _⟩ := h; rfl) (fun cdv A outer s H E hr => b_deed_row (m_zip := m_zip) _ cdv A outer s H E hr) (fun ds Q => pure_deed_row (adOf K) ds Q)
  have k_deed_row : Kn P w K mg base "deed_row" ["book", "deed", "other"] 1 (sp_deed_row (adOf K)) [] := ⟨_, fd_deed_row, [], o_deed_row, (He.glo_ok X G (cs.fact 18 rfl)), F_deed_row.kp, FunD.bindsN F_deed_row fun _ _ _ _ _ _ us hl => match us, hl with | [_, _, _], _ => rfl, .nil⟩
  obtain ⟨fd_Kinds_total_weight, F_Kinds_total_weight⟩ := HdT.fnAt_ok (List.cons.inj hg).1 hx5
  have hg := (List.cons.inj hg).2
  have p_Kinds_total_weight : Kp P w K mg base (adOf K).Kinds "total_weight" 1 (sp_Kinds_total_weight (adOf K)) := ⟨_, _, fd_Kinds_total_weight, ["self"], cls_Kinds, HdT.pro_ok hx4, fnD_ok (k := 0) (N := ["self"]) F_Kinds_total_weight sc_Kinds_total_weight (fun ds Q h => by obtain ⟨_, rfl, _⟩ := h; rfl) (fun cdv A outer s H E hr => b_Kinds_total_weight (m_sum := m_sum) _ cdv A outer s H E hr) (fun ds Q => pure_Kinds_total_weight (adOf K) ds Q), FunD.bindsN F_Kinds_total_weight fun _ _ _ _ _ _ us hl => match us, hl with | [_], _ => rfl⟩
  obtain ⟨fd_pooled_wish, F_pooled_wish⟩ := cs.def_ 24 (d := HdT.D_pooled_wish) rfl
  have o_pooled_wish : FnOk P w K mg base CX0 3 _ fd_pooled_wish ["kinds", "asked"] (liftSp K (sp_pooled_wish (adOf K))) := fnD_ok (k := 2) (N := ["kinds", "asked", "goal", "rows", "kind", "book", "deed", "number", "part", "other"]) F_pooled_wish sc_pooled_wish (fun ds Q h => by obtain ⟨_, _, rfl, _⟩ := h; rfl) (fun cdv A outer s H E hr => b_pooled_wish (c := adOf K) (c_Wish := c_Wish) (o_Wish := o_Wish) (p_Kinds_total_weight := p_Kinds_total_weight) (m_enumerate := m_enumerate) (m_range := m_range) (k_deed_row := k_deed_row) (m_zip := m_zip) (k_check_asked := k_check_asked) _ cdv A outer s H E hr) (fun ds Q => pure_pooled_wish (adOf K) ds Q)
  have k_pooled_wish : Kn P w K mg base "pooled_wish" ["kinds", "asked"] 3 (sp_pooled_wish (adOf K)) [] := ⟨_, fd_pooled_wish, [], o_pooled_wish, (He.glo_ok X G (cs.fact 19 rfl)), F_pooled_wish.kp, FunD.bindsN F_pooled_wish fun _ _ _ _ _ _ us hl => match us, hl with | [_, _], _ => rfl, .nil⟩
  obtain ⟨fd_pooled, F_pooled⟩ := cs.def_ 25 (d := HdT.D_pooled) rfl
  have o_pooled : FnOk P w K mg base CX0 5 _ fd_pooled ["kinds", "asked"] (liftSp K (sp_pooled (adOf K))) := fnD_ok (k := 4) (N := ["kinds", "asked"]) F_pooled sc_pooled (fun ds Q h => by obtain ⟨_, _, rfl, _⟩ := h; rfl) (fun cdv A outer s H E hr => b_pooled (c := adOf K) (k_ask := k_ask) (k_pooled_wish := k_pooled_wish) _ cdv A outer s H E hr) (fun ds Q => pure_pooled (adOf K) ds Q)
  have k_pooled : Kn P w K mg base "pooled" ["kinds", "asked"] 5 (sp_pooled (adOf K)) [] := ⟨_, fd_pooled, [], o_pooled, (He.glo_ok X G (cs.fact 20 rfl)), F_pooled.kp, FunD.bindsN F_pooled fun _ _ _ _ _ _ us hl => match us, hl with | [_, _], _ => rfl, .nil⟩
  obtain ⟨fd_check_together, F_check_together⟩ := cs.def_ 26 (d := HdT.D_check_together) rfl
  have o_check_together : FnOk P w K mg base CX0 2 _ fd_check_together ["book", "deeds"] (liftSp K (sp_check_together (adOf K))) := fnD_ok (k := 1) (N := ["book", "deeds", "deed", "place"]) F_check_together sc_check_together (fun ds Q h => by obtain ⟨_, _, rfl, _⟩ := h; rfl) (fun cdv A outer s H E hr => b_check_together (c := adOf K) (m_range := m_range) (m_len := m_len) (k_check_deed := k_check_deed) _ cdv A outer s H E hr) (fun ds Q => pure_check_together (adOf K) ds Q)
  have k_check_together : Kn P w K mg base "check_together" ["book", "deeds"] 2 (sp_check_together (adOf K)) [] := ⟨_, fd_check_together, [], o_check_together, (He.glo_ok X G (cs.fact 21 rfl)), F_check_together.kp, FunD.bindsN F_check_together fun _ _ _ _ _ _ us hl => match us, hl with | [_, _], _ => rfl, .nil⟩
  obtain ⟨fd_bring_wish, F_bring_wish⟩ := cs.def_ 27 (d := HdT.D_bring_wish) rfl
  have o_bring_wish : FnOk P w K mg base CX0 3 _ fd_bring_wish ["book", "deed"] (liftSp K (sp_bring_wish (adOf K))) := fnD_ok (k := 2) (N := ["book", "deed", "rows", "other"]) F_bring_wish sc_bring_wish (fun ds Q h => by obtain ⟨_, _, rfl, _⟩ := h; rfl) (fun cdv A outer s H E hr => b_bring_wish (c := adOf K) (c_Wish := c_Wish) (o_Wish := o_Wish) (m_range := m_range) (k_deed_row := k_deed_row) (k_check_deed := k_check_deed) _ cdv A outer s H E hr) (fun ds Q => pure_bring_wish (adOf K) ds Q)
  have k_bring_wish : Kn P w K mg base "bring_wish" ["book", "deed"] 3 (sp_bring_wish (adOf K)) [] := ⟨_, fd_bring_wish, [], o_bring_wish, (He.glo_ok X G (cs.fact 22 rfl)), F_bring_wish.kp, FunD.bindsN F_bring_wish fun _ _ _ _ _ _ us hl => match us, hl with | [_, _], _ => rfl, .nil⟩
  obtain ⟨fd_ties_wish, F_ties_wish⟩ := cs.def_ 28 (d := HdT.D_ties_wish) rfl
  have o_ties_wish : FnOk P w K mg base CX0 4 _ fd_ties_wish ["book", "deeds"] (liftSp K (sp_ties_wish (adOf K))) := fnD_ok (k := 3) (N := ["book", "deeds", "first", "own", "further", "other"]) F_ties_wish sc_ties_wish (fun ds Q h => by obtain ⟨_, _, rfl, _⟩ := h; rfl) (fun cdv A outer s H E hr => b_ties_wish (c := adOf K) (c_Wish := c_Wish) (o_Wish := o_Wish) (m_tuple := m_tuple) (k_deed_row := k_deed_row) (k_bring_wish := k_bring_wish) (k_check_together := k_check_together) _ cdv A outer s H E hr) (fun ds Q => pure_ties_wish (adOf K) ds Q)
  have k_ties_wish : Kn P w K mg base "ties_wish" ["book", "deeds"] 4 (sp_ties_wish (adOf K)) [] := ⟨_, fd_ties_wish, [], o_ties_wish, (He.glo_ok X G (cs.fact 23 rfl)), F_ties_wish.kp, FunD.bindsN F_ties_wish fun _ _ _ _ _ _ us hl => match us, hl with | [_, _], _ => rfl, .nil⟩
  obtain ⟨fd_ties, F_ties⟩ := cs.def_ 29 (d := HdT.D_ties) rfl
  have o_ties : FnOk P w K mg base CX0 5 _ fd_ties ["book", "deeds"] (liftSp K (sp_ties (adOf K))) := fnD_ok (k := 4) (N := ["book", "deeds"]) F_ties sc_ties (fun ds Q h => by obtain ⟨_, _, rfl, _⟩ := h; rfl) (fun cdv A outer s H E hr => b_ties (c := adOf K) (k_ask := k_ask) (k_ties_wish := k_ties_wish) _ cdv A outer s H E hr) (fun ds Q => pure_ties (adOf K) ds Q)
  have k_ties : Kn P w K mg base "ties" ["book", "deeds"] 5 (sp_ties (adOf K)) [] := ⟨_, fd_ties, [], o_ties, (He.glo_ok X G (cs.fact 24 rfl)), F_ties.kp, FunD.bindsN F_ties fun _ _ _ _ _ _ us hl => match us, hl with | [_, _], _ => rfl, .nil⟩
  obtain ⟨fd_choice_row, F_choice_row⟩ := cs.def_ 30 (d := HdT.D_choice_row) rfl
  have o_choice_row : FnOk P w K mg base CX0 1 _ fd_choice_row ["kinds", "asked", "kind", "offer", "deed"] (liftSp K (sp_choice_row (adOf K))) := fnD_ok (k := 0) (N := ["kinds", "asked", "kind", "offer", "deed", "book", "numbers", "sign"]) F_choice_row sc_choice_row (fun ds Q h => by obtain ⟨_, _, _, _, _, rfl, _⟩ := h; rfl) (fun cdv A outer s H E hr => b_choice_row (m_range := m_range) _ cdv A outer s H E hr) (fun ds Q => pure_choice_row (adOf K) ds Q)
  have k_choice_row : Kn P w K mg base "choice_row" ["kinds", "asked", "kind", "offer", "deed"] 1 (sp_choice_row (adOf K)) [] := ⟨_, fd_choice_row, [], o_choice_row, (He.glo_ok X G (cs.fact 25 rfl)), F_choice_row.kp, FunD.bindsN F_choice_row fun _ _ _ _ _ _ us hl => match us, hl with | [_, _, _, _, _], _ => rfl, .nil⟩
  obtain ⟨fd_menu_wish, F_menu_wish⟩ := cs.def_ 31 (d := HdT.D_menu_wish) rfl
  have o_menu_wish : FnOk P w K mg base CX0 3 _ fd_menu_wish ["kinds", "asked"] (liftSp K (sp_menu_wish (adOf K))) := fnD_ok (k := 2) (N := ["kinds", "asked", "goal", "rows", "kind", "book", "offer", "deed", "part"]) F_menu_wish sc_menu_wish (fun ds Q h => by obtain ⟨_, _, rfl, _⟩ := h; rfl) (fun cdv A outer s H E hr => b_menu_wish (c := adOf K) (c_Wish := c_Wish) (o_Wish := o_Wish) (p_Kinds_total_weight := p_Kinds_total_weight) (m_enumerate := m_enumerate) (m_range := m_range) (k_choice_row := k_choice_row) (k_check_asked := k_check_asked) _ cdv A outer s H E hr) (fun ds Q => pure_menu_wish (adOf K) ds Q)
  have k_menu_wish : Kn P w K mg base "menu_wish" ["kinds", "asked"] 3 (sp_menu_wish (adOf K)) [] := ⟨_, fd_menu_wish, [], o_menu_wish, (He.glo_ok X G (cs.fact 26 rfl)), F_menu_wish.kp, FunD.bindsN F_menu_wish fun _ _ _ _ _ _ us hl => match us, hl with | [_, _], _ => rfl, .nil⟩
  obtain ⟨fd_menu, F_menu⟩ := cs.def_ 32 (d := HdT.D_menu) rfl
  have o_menu : FnOk P w K mg base CX0 5 _ fd_menu ["kinds", "asked"] (liftSp K (sp_menu (adOf K))) := fnD_ok (k := 4) (N := ["kinds", "asked"]) F_menu sc_menu (fun ds Q h => by obtain ⟨_, _, rfl, _⟩ := h; rfl) (fun cdv A outer s H E hr => b_menu (c := adOf K) (k_ask := k_ask) (k_menu_wish := k_menu_wish) _ cdv A outer s H E hr) (fun ds Q => pure_menu (adOf K) ds Q)
  have k_menu : Kn P w K mg base "menu" ["kinds", "asked"] 5 (sp_menu (adOf K)) [] := ⟨_, fd_menu, [], o_menu, (He.glo_ok X G (cs.fact 27 rfl)), F_menu.kp, FunD.bindsN F_menu fun _ _ _ _ _ _ us hl => match us, hl with | [_, _], _ => rfl, .nil⟩
  obtain ⟨fd__law_shared, F__law_shared⟩ := cs.def_ 33 (d := HdT.D__law_shared) rfl
  have o__law_shared : FnOk P w K mg base CX0 1 _ fd__law_shared ["first", "second"] (liftSp K sp__law_shared) := fnD_ok (k := 0) (N := ["first", "second", "k", "rest"]) F__law_shared sc__law_shared (fun ds Q h => by obtain ⟨_, _, rfl, _⟩ := h; rfl) (fun cdv A outer s H E hr => b__law_shared (m_range := m_range) (m_abs := m_abs) (m_int := m_int) _ cdv A outer s H E hr) (fun ds Q => pure__law_shared ds Q)
  have k__law_shared : Kn P w K mg base "_law_shared" ["first", "second"] 1 sp__law_shared [] := ⟨_, fd__law_shared, [], o__law_shared, (He.glo_ok X G (cs.fact 28 rfl)), F__law_shared.kp, FunD.bindsN F__law_shared fun _ _ _ _ _ _ us hl => match us, hl with | [_, _], _ => rfl, .nil⟩
  obtain ⟨fd__law_low, F__law_low⟩ := cs.def_ 34 (d := HdT.D__law_low) rfl
  have o__law_low : FnOk P w K mg base CX0 2 _ fd__law_low ["top", "bottom"] (liftSp K sp__law_low) := fnD_ok (k := 1) (N := ["top", "bottom", "shared"]) F__law_low sc__law_low (fun ds Q h => by obtain ⟨_, _, rfl, _⟩ := h; rfl) (fun cdv A outer s H E hr => b__law_low (k__law_shared := k__law_shared) _ cdv A outer s H E hr) (fun ds Q => pure__law_low ds Q)
  have k__law_low : Kn P w K mg base "_law_low" ["top", "bottom"] 2 sp__law_low [] := ⟨_, fd__law_low, [], o__law_low, (He.glo_ok X G (cs.fact 29 rfl)), F__law_low.kp, FunD.bindsN F__law_low fun _ _ _ _ _ _ us hl => match us, hl with | [_, _], _ => rfl, .nil⟩
  obtain ⟨fd_compare, F_compare⟩ := cs.def_ 35 (d := HdT.D_compare) rfl
  have o_compare : FnOk P w K mg base CX0 1 _ fd_compare ["first", "second"] (liftSp K sp_compare) := fnD_ok (k := 0) (N := ["first", "second", "difference"]) F_compare sc_compare (fun ds Q h => by obtain ⟨_, _, _, _, rfl, _⟩ := h; rfl) (fun cdv A outer s H E hr => b_compare (m_int := m_int) _ cdv A outer s H E hr) (fun ds Q => pure_compare ds Q)
  have k_compare : Kn P w K mg base "compare" ["first", "second"] 1 sp_compare [] := ⟨_, fd_compare, [], o_compare, (He.glo_ok X G (cs.fact 30 rfl)), F_compare.kp, FunD.bindsN F_compare fun _ _ _ _ _ _ us hl => match us, hl with | [_, _], _ => rfl, .nil⟩
  obtain ⟨fd_first_negative, F_first_negative⟩ := cs.def_ 36 (d := HdT.D_first_negative) rfl
  have o_first_negative : FnOk P w K mg base CX0 2 _ fd_first_negative ["amounts"] (liftSp K sp_first_negative) := fnD_ok (k := 1) (N := ["amounts", "place", "amount"]) F_first_negative sc_first_negative (fun ds Q h => by obtain ⟨_, _, _, _, rfl, _⟩ := h; rfl) (fun cdv A outer s H E hr => b_first_negative (c := adOf K) (m_enumerate := m_enumerate) (k_compare := k_compare) (t_ZERO := t_ZERO) (q_ZERO := q_ZERO) (m_len := m_len) _ cdv A outer s H E hr) (fun ds Q => pure_first_negative ds Q)
  have k_first_negative : Kn P w K mg base "first_negative" ["amounts"] 2 sp_first_negative [] := ⟨_, fd_first_negative, [], o_first_negative, (He.glo_ok X G (cs.fact 31 rfl)), F_first_negative.kp, FunD.bindsN F_first_negative fun _ _ _ _ _ _ us hl => match us, hl with | [_], _ => rfl, .nil⟩
  obtain ⟨fd_Pay_init, F_Pay_init⟩ := cs.def_ 37 (d := HdT.D_Pay_init) rfl
  have o_Pay_init : FnOk P w K mg base CX0 3 _ fd_Pay_init ["self", "amounts"] (liftIn K (adOf K).Pay sp_Pay_init) := initD_ok (k := 2) (M := "self") (N := ["amounts", "fault"]) F_Pay_init sc_Pay_init (fun ds Q h => by obtain ⟨_, _, _, _, rfl, _⟩ := h; rfl) (fun cdv A outer s H E hr => b_Pay_init (c := adOf K) (m_tuple := m_tuple) (cls_Pay := cls_Pay) (na_Pay_amounts := na_Pay_amounts) (k_first_negative := k_first_negative) (m_len := m_len) (i_SIGNS := i_SIGNS) _ cdv A outer s H E hr) (fun p ds Q => pure_Pay_init (adOf K) p ds Q)
  have c_Pay : Kc P w K mg base "Pay" (adOf K).Pay ["self", "amounts"] 3 sp_Pay_init [] := ⟨_, fd_Pay_init, [], He.mkr_ok (cs.fact 110 rfl), o_Pay_init, He.glo_ok X G (cs.fact 111 rfl), FunD.bindsN F_Pay_init fun _ _ _ _ _ _ us hl => match us, hl with | [_, _], _ => rfl, .nil⟩
  obtain ⟨fd_pay_of, F_pay_of⟩ := cs.def_ 38 (d := HdT.D_pay_of) rfl
  have o_pay_of : FnOk P w K mg base CX0 5 _ fd_pay_of ["granted", "signs", "place"] (liftSp K (sp_pay_of (adOf K))) := fnD_ok (k := 4) (N := ["granted", "signs", "place"]) F_pay_of sc_pay_of (fun ds Q h => by obtain ⟨_, _, _, _, _, rfl, _⟩ := h; rfl) (fun cdv A outer s H E hr => b_pay_of (c := adOf K) (c_Pay := c_Pay) (o_Pay := o_Pay) _ cdv A outer s H E hr) (fun ds Q => pure_pay_of (adOf K) ds Q)
  obtain ⟨dv_k_pay_of_d1, vd_k_pay_of_d1, bi_k_pay_of_d1⟩ := FunD.binds1 (ps := ["granted", "signs", "place"]) F_pay_of 2 0 (List.cons_ne_nil _ _) rfl fun _ _ _ _ _ _ _ us its hl hl2 => match us, its, hl, hl2 with | [_, _], [_], _, _ => ⟨_, rfl, rfl⟩
  have k_pay_of_d1 : Kn P w K mg base "pay_of" ["granted", "signs", "place"] 5 (sp_pay_of (adOf K)) [V.int 0] := ⟨_, fd_pay_of, dv_k_pay_of_d1, o_pay_of, (He.glo_ok X G (cs.fact 32 rfl)), F_pay_of.kp, bi_k_pay_of_d1, vd_k_pay_of_d1⟩
  obtain ⟨fd__law_sum, F__law_sum⟩ := cs.def_ 39 (d := HdT.D__law_sum) rfl
  have o__law_sum : FnOk P w K mg base CX0 1 _ fd__law_sum ["numbers", "ratios"] (liftSp K sp__law_sum) := fnD_ok (k := 0) (N := ["numbers", "ratios", "top", "bottom", "k"]) F__law_sum sc__law_sum (fun ds Q h => by obtain ⟨_, _, _, _, rfl, _⟩ := h; rfl) (fun cdv A outer s H E hr => b__law_sum (m_range := m_range) (m_len := m_len) _ cdv A outer s H E hr) (fun ds Q => pure__law_sum ds Q)
  have k__law_sum : Kn P w K mg base "_law_sum" ["numbers", "ratios"] 1 sp__law_sum [] := ⟨_, fd__law_sum, [], o__law_sum, (He.glo_ok X G (cs.fact 33 rfl)), F__law_sum.kp, FunD.bindsN F__law_sum fun _ _ _ _ _ _ us hl => match us, hl with | [_, _], _ => rfl, .nil⟩
  obtain ⟨fd__law_gain, F__law_gain⟩ := cs.def_ 40 (d := HdT.D__law_gain) rfl
  have o__law_gain : FnOk P w K mg base CX0 2 _ fd__law_gain ["costs", "rows", "deed", "amounts"] (liftSp K sp__law_gain) := fnD_ok (k := 1) (N := ["costs", "rows", "deed", "amounts", "pay", "whole"]) F__law_gain sc__law_gain (fun ds Q h => by obtain ⟨_, _, _, _, rfl, _⟩ := h; rfl) (fun cdv A outer s H E hr => b__law_gain (m_sum := m_sum) (k__law_sum := k__law_sum) _ cdv A outer s H E hr) (fun ds Q => pure__law_gain ds Q)
  have k__law_gain : Kn P w K mg base "_law_gain" ["costs", "rows", "deed", "amounts"] 2 sp__law_gain [] := ⟨_, fd__law_gain, [], o__law_gain, (He.glo_ok X G (cs.fact 34 rfl)), F__law_gain.kp, FunD.bindsN F__law_gain fun _ _ _ _ _ _ us hl => match us, hl with | [_, _, _, _], _ => rfl, .nil⟩
  obtain ⟨fd__law_less, F__law_less⟩ := cs.def_ 41 (d := HdT.D__law_less) rfl
  have o__law_less : FnOk P w K mg base CX0 1 _ fd__law_less ["one", "two"] (liftSp K sp__law_less) := fnD_ok (k := 0) (N := ["one", "two"]) F__law_less sc__law_less (fun ds Q h => by obtain ⟨_, _, _, _, rfl, _⟩ := h; rfl) (fun cdv A outer s H E hr => b__law_less  _ cdv A outer s H E hr) (fun ds Q => pure__law_less ds Q)
  have k__law_less : Kn P w K mg base "_law_less" ["one", "two"] 1 sp__law_less [] := ⟨_, fd__law_less, [], o__law_less, (He.glo_ok X G (cs.fact 35 rfl)), F__law_less.kp, FunD.bindsN F__law_less fun _ _ _ _ _ _ us hl => match us, hl with | [_, _], _ => rfl, .nil⟩
  obtain ⟨fd__law_same, F__law_same⟩ := cs.def_ 42 (d := HdT.D__law_same) rfl
  have o__law_same : FnOk P w K mg base CX0 1 _ fd__law_same ["one", "two"] (liftSp K sp__law_same) := fnD_ok (k := 0) (N := ["one", "two"]) F__law_same sc__law_same (fun ds Q h => by obtain ⟨_, _, _, _, rfl, _⟩ := h; rfl) (fun cdv A outer s H E hr => b__law_same  _ cdv A outer s H E hr) (fun ds Q => pure__law_same ds Q)
  have k__law_same : Kn P w K mg base "_law_same" ["one", "two"] 1 sp__law_same [] := ⟨_, fd__law_same, [], o__law_same, (He.glo_ok X G (cs.fact 36 rfl)), F__law_same.kp, FunD.bindsN F__law_same fun _ _ _ _ _ _ us hl => match us, hl with | [_, _], _ => rfl, .nil⟩
  obtain ⟨fd__law_best, F__law_best⟩ := cs.def_ 43 (d := HdT.D__law_best) rfl
  have o__law_best : FnOk P w K mg base CX0 3 _ fd__law_best ["costs", "rows", "amounts"] (liftSp K sp__law_best) := fnD_ok (k := 2) (N := ["costs", "rows", "amounts", "gains", "best", "gain", "deed"]) F__law_best sc__law_best (fun ds Q h => by obtain ⟨_, _, _, rfl, _⟩ := h; rfl) (fun cdv A outer s H E hr => b__law_best (m_range := m_range) (m_len := m_len) (k__law_same := k__law_same) (k__law_less := k__law_less) (k__law_gain := k__law_gain) _ cdv A outer s H E hr) (fun ds Q => pure__law_best ds Q)
  have k__law_best : Kn P w K mg base "_law_best" ["costs", "rows", "amounts"] 3 sp__law_best [] := ⟨_, fd__law_best, [], o__law_best, (He.glo_ok X G (cs.fact 37 rfl)), F__law_best.kp, FunD.bindsN F__law_best fun _ _ _ _ _ _ us hl => match us, hl with | [_, _, _], _ => rfl, .nil⟩
  obtain ⟨fd__law_is_whole, F__law_is_whole⟩ := cs.def_ 44 (d := HdT.D__law_is_whole) rfl
  have o__law_is_whole : FnOk P w K mg base CX0 1 _ fd__law_is_whole ["told"] (liftSp K sp__law_is_whole) := fnD_ok (k := 0) (N := ["told"]) F__law_is_whole sc__law_is_whole (fun ds Q h => by obtain ⟨_, rfl, _⟩ := h; rfl) (fun cdv A outer s H E hr => b__law_is_whole (m_isinstance := m_isinstance) (m_bool := m_bool) (m_int := m_int) _ cdv A outer s H E hr) (fun ds Q => pure__law_is_whole ds Q)
  have k__law_is_whole : Kn P w K mg base "_law_is_whole" ["told"] 1 sp__law_is_whole [] := ⟨_, fd__law_is_whole, [], o__law_is_whole, (He.glo_ok X G (cs.fact 38 rfl)), F__law_is_whole.kp, FunD.bindsN F__law_is_whole fun _ _ _ _ _ _ us hl => match us, hl with | [_], _ => rfl, .nil⟩
  obtain ⟨fd__law_alike, F__law_alike⟩ := cs.def_ 45 (d := HdT.D__law_alike) rfl
  have al2 : ∀ ds Q, ¬ sp__law_alike 2 ds Q := fun ds Q z => by rcases z with ⟨e, _⟩ | ⟨e, _⟩ <;> cases e
  have len_al : ∀ (dp : Nat) (ds : List D) (Q : R → Prop), sp__law_alike dp ds Q → ds.length = 2 := fun dp ds Q z => by rcases z with ⟨_, _, rfl, _⟩ | ⟨_, _, rfl, _⟩ <;> rfl
  have ka : Kn P w K mg base "_law_alike" ["told", "due"] 1 (sp__law_alike 2) [] := ⟨_, fd__law_alike, [], kn_no al2, (He.glo_ok X G (cs.fact 39 rfl)), F__law_alike.kp, FunD.bindsN F__law_alike fun _ _ _ _ _ _ us hl => match us, hl with | [_, _], _ => rfl, .nil⟩
  have kb : Kn P w K mg base "_law_alike" ["told", "due"] 2 (sp__law_alike 0) [] := ⟨_, fd__law_alike, [], fnD_ok (k := 1) (N := ["told", "due", "k"]) F__law_alike sc__law_alike (len_al 0) (fun cdv A outer s H E hr => b__law_alike (dp := 2) (lv := 1) (lw := 1) (hlv := by decide) (hbs := by decide) (ih := ka) (m_range := m_range) (m_len := m_len) (m_isinstance := m_isinstance) (m_tuple := m_tuple) (m_str := m_str) (m_int := m_int) (k__law_is_whole := k__law_is_whole) _ cdv A outer s H E hr) (fun ds Q z => pure__law_alike0 2 ds Q z), (He.glo_ok X G (cs.fact 39 rfl)), F__law_alike.kp, FunD.bindsN F__law_alike fun _ _ _ _ _ _ us hl => match us, hl with | [_, _], _ => rfl, .nil⟩
  have k__law_alike : Kn P w K mg base "_law_alike" ["told", "due"] 3 (sp__law_alike 1) [] := ⟨_, fd__law_alike, [], fnD_ok (k := 2) (N := ["told", "due", "k"]) F__law_alike sc__law_alike (len_al 1) (fun cdv A outer s H E hr => b__law_alike (dp := 0) (lv := 2) (lw := 2) (hlv := by decide) (hbs := by decide) (ih := kb) (m_range := m_range) (m_len := m_len) (m_isinstance := m_isinstance) (m_tuple := m_tuple) (m_str := m_str) (m_int := m_int) (k__law_is_whole := k__law_is_whole) _ cdv A outer s H E hr) (fun ds Q z => pure__law_alike 1 ds Q z), (He.glo_ok X G (cs.fact 39 rfl)), F__law_alike.kp, FunD.bindsN F__law_alike fun _ _ _ _ _ _ us hl => match us, hl with | [_, _], _ => rfl, .nil⟩
  obtain ⟨fd__law_columns, F__law_columns⟩ := cs.def_ 46 (d := HdT.D__law_columns) rfl
  have o__law_columns : FnOk P w K mg base CX0 2 _ fd__law_columns ["rows", "weights", "many"] (liftSp K sp__law_columns) := fnD_ok (k := 1) (N := ["rows", "weights", "many", "k", "row"]) F__law_columns sc__law_columns (fun ds Q h => by obtain ⟨_, _, _, rfl, _⟩ := h; rfl) (fun cdv A outer s H E hr => b__law_columns (m_range := m_range) (k__law_sum := k__law_sum) _ cdv A outer s H E hr) (fun ds Q => pure__law_columns ds Q)
  have k__law_columns : Kn P w K mg base "_law_columns" ["rows", "weights", "many"] 2 sp__law_columns [] := ⟨_, fd__law_columns, [], o__law_columns, (He.glo_ok X G (cs.fact 40 rfl)), F__law_columns.kp, FunD.bindsN F__law_columns fun _ _ _ _ _ _ us hl => match us, hl with | [_, _, _], _ => rfl, .nil⟩
  obtain ⟨fd__law_is_ratio, F__law_is_ratio⟩ := cs.def_ 47 (d := HdT.D__law_is_ratio) rfl
  have o__law_is_ratio : FnOk P w K mg base CX0 2 _ fd__law_is_ratio ["told"] (liftSp K sp__law_is_ratio) := fnD_ok (k := 1) (N := ["told"]) F__law_is_ratio sc__law_is_ratio (fun ds Q h => by obtain ⟨_, _, rfl, _⟩ := h; rfl) (fun cdv A outer s H E hr => b__law_is_ratio (k__law_shared := k__law_shared) (k__law_is_whole := k__law_is_whole) (m_len := m_len) (m_isinstance := m_isinstance) (m_tuple := m_tuple) _ cdv A outer s H E hr) (fun ds Q => pure__law_is_ratio ds Q)
  have k__law_is_ratio : Kn P w K mg base "_law_is_ratio" ["told"] 2 sp__law_is_ratio [] := ⟨_, fd__law_is_ratio, [], o__law_is_ratio, (He.glo_ok X G (cs.fact 41 rfl)), F__law_is_ratio.kp, FunD.bindsN F__law_is_ratio fun _ _ _ _ _ _ us hl => match us, hl with | [_], _ => rfl, .nil⟩
  obtain ⟨fd__law_are_ratios, F__law_are_ratios⟩ := cs.def_ 48 (d := HdT.D__law_are_ratios) rfl
  have o__law_are_ratios : FnOk P w K mg base CX0 3 _ fd__law_are_ratios ["told", "many"] (liftSp K sp__law_are_ratios) := fnD_ok (k := 2) (N := ["told", "many", "each"]) F__law_are_ratios sc__law_are_ratios (fun ds Q h => by obtain ⟨_, _, _, rfl, _⟩ := h; rfl) (fun cdv A outer s H E hr => b__law_are_ratios (k__law_is_ratio := k__law_is_ratio) (m_len := m_len) (m_isinstance := m_isinstance) (m_tuple := m_tuple) _ cdv A outer s H E hr) (fun ds Q => pure__law_are_ratios ds Q)
  have k__law_are_ratios : Kn P w K mg base "_law_are_ratios" ["told", "many"] 3 sp__law_are_ratios [] := ⟨_, fd__law_are_ratios, [], o__law_are_ratios, (He.glo_ok X G (cs.fact 42 rfl)), F__law_are_ratios.kp, FunD.bindsN F__law_are_ratios fun _ _ _ _ _ _ us hl => match us, hl with | [_, _], _ => rfl, .nil⟩
  obtain ⟨fd__law_above, F__law_above⟩ := cs.def_ 49 (d := HdT.D__law_above) rfl
  have o__law_above : FnOk P w K mg base CX0 1 _ fd__law_above ["ratios"] (liftSp K sp__law_above) := fnD_ok (k := 0) (N := ["ratios", "each"]) F__law_above sc__law_above (fun ds Q h => by obtain ⟨_, _, _, rfl, _⟩ := h; rfl) (fun cdv A outer s H E hr => b__law_above (m_len := m_len) _ cdv A outer s H E hr) (fun ds Q => pure__law_above ds Q)
  have k__law_above : Kn P w K mg base "_law_above" ["ratios"] 1 sp__law_above [] := ⟨_, fd__law_above, [], o__law_above, (He.glo_ok X G (cs.fact 43 rfl)), F__law_above.kp, FunD.bindsN F__law_above fun _ _ _ _ _ _ us hl => match us, hl with | [_], _ => rfl, .nil⟩
  obtain ⟨fd__law_right, F__law_right⟩ := cs.def_ 50 (d := HdT.D__law_right) rfl
  have o__law_right : FnOk P w K mg base CX0 4 _ fd__law_right ["task", "answer"] (liftSp K (sp__law_right (adOf K))) := fnD_ok (k := 3) (N := ["task", "answer", "goal", "rows", "unit", "columns", "bound", "coefficients", "least", "reached", "k", "value", "row", "each"]) F__law_right sc__law_right (fun ds Q h => by rcases h with ⟨T, _, ⟨_, _, _, _, rfl, _⟩ | ⟨_, _, rfl, _⟩, _⟩ <;> rfl) (fun cdv A outer s H E hr => b__law_right (c := adOf K) (k__law_above := k__law_above) (m_len := m_len) (k__law_same := k__law_same) (k__law_sum := k__law_sum) (m_range := m_range) (k__law_is_ratio := k__law_is_ratio) (k__law_are_ratios := k__law_are_ratios) (m_isinstance := m_isinstance) (isiF := isiF) (g_Refused := g_Refused) (k__law_columns := k__law_columns) (g_Granted := g_Granted) _ cdv A outer s H E hr) (fun ds Q => pure__law_right (adOf K) ds Q)
  have k__law_right : Kn P w K mg base "_law_right" ["task", "answer"] 4 (sp__law_right (adOf K)) [] := ⟨_, fd__law_right, [], o__law_right, (He.glo_ok X G (cs.fact 44 rfl)), F__law_right.kp, FunD.bindsN F__law_right fun _ _ _ _ _ _ us hl => match us, hl with | [_, _], _ => rfl, .nil⟩
  obtain ⟨fd_plus, F_plus⟩ := cs.def_ 51 (d := HdT.D_plus) rfl
  have o_plus : FnOk P w K mg base CX0 2 _ fd_plus ["first", "second"] (liftSp K sp_plus) := fnD_ok (k := 1) (N := ["first", "second"]) F_plus sc_plus (fun ds Q h => by obtain ⟨_, _, _, _, rfl, _⟩ := h; rfl) (fun cdv A outer s H E hr => b_plus (k_ratio := k_ratio) _ cdv A outer s H E hr) (fun ds Q => pure_plus ds Q)
  have k_plus : Kn P w K mg base "plus" ["first", "second"] 2 sp_plus [] := ⟨_, fd_plus, [], o_plus, (He.glo_ok X G (cs.fact 45 rfl)), F_plus.kp, FunD.bindsN F_plus fun _ _ _ _ _ _ us hl => match us, hl with | [_, _], _ => rfl, .nil⟩
  obtain ⟨fd_minus, F_minus⟩ := cs.def_ 52 (d := HdT.D_minus) rfl
  have o_minus : FnOk P w K mg base CX0 3 _ fd_minus ["first", "second"] (liftSp K sp_minus) := fnD_ok (k := 2) (N := ["first", "second"]) F_minus sc_minus (fun ds Q h => by obtain ⟨_, _, _, _, rfl, _⟩ := h; rfl) (fun cdv A outer s H E hr => b_minus (k_plus := k_plus) _ cdv A outer s H E hr) (fun ds Q => pure_minus ds Q)
  have k_minus : Kn P w K mg base "minus" ["first", "second"] 3 sp_minus [] := ⟨_, fd_minus, [], o_minus, (He.glo_ok X G (cs.fact 46 rfl)), F_minus.kp, FunD.bindsN F_minus fun _ _ _ _ _ _ us hl => match us, hl with | [_, _], _ => rfl, .nil⟩
  obtain ⟨fd_check_pay, F_check_pay⟩ := cs.def_ 53 (d := HdT.D_check_pay) rfl
  have o_check_pay : FnOk P w K mg base CX0 1 _ fd_check_pay ["book", "pay"] (liftSp K (sp_check_pay (adOf K))) := fnD_ok (k := 0) (N := ["book", "pay"]) F_check_pay sc_check_pay (fun ds Q h => by obtain ⟨_, _, _, rfl, _⟩ := h; rfl) (fun cdv A outer s H E hr => b_check_pay (m_len := m_len) _ cdv A outer s H E hr) (fun ds Q => pure_check_pay (adOf K) ds Q)
  have k_check_pay : Kn P w K mg base "check_pay" ["book", "pay"] 1 (sp_check_pay (adOf K)) [] := ⟨_, fd_check_pay, [], o_check_pay, (He.glo_ok X G (cs.fact 47 rfl)), F_check_pay.kp, FunD.bindsN F_check_pay fun _ _ _ _ _ _ us hl => match us, hl with | [_, _], _ => rfl, .nil⟩
  obtain ⟨fd_row_sum, F_row_sum⟩ := cs.def_ 54 (d := HdT.D_row_sum) rfl
  have o_row_sum : FnOk P w K mg base CX0 3 _ fd_row_sum ["row", "amounts"] (liftSp K sp_row_sum) := fnD_ok (k := 2) (N := ["row", "amounts", "found", "part", "amount"]) F_row_sum sc_row_sum (fun ds Q h => by obtain ⟨_, _, _, _, rfl, _⟩ := h; rfl) (fun cdv A outer s H E hr => b_row_sum (c := adOf K) (m_zip := m_zip) (k_plus := k_plus) (t_ZERO := t_ZERO) (q_ZERO := q_ZERO) _ cdv A outer s H E hr) (fun ds Q => pure_row_sum ds Q)
  have k_row_sum : Kn P w K mg base "row_sum" ["row", "amounts"] 3 sp_row_sum [] := ⟨_, fd_row_sum, [], o_row_sum, (He.glo_ok X G (cs.fact 48 rfl)), F_row_sum.kp, FunD.bindsN F_row_sum fun _ _ _ _ _ _ us hl => match us, hl with | [_, _], _ => rfl, .nil⟩
  obtain ⟨fd_mean_pay, F_mean_pay⟩ := cs.def_ 55 (d := HdT.D_mean_pay) rfl
  have o_mean_pay : FnOk P w K mg base CX0 4 _ fd_mean_pay ["book", "deed", "pay"] (liftSp K (sp_mean_pay (adOf K))) := fnD_ok (k := 3) (N := ["book", "deed", "pay", "found"]) F_mean_pay sc_mean_pay (fun ds Q h => by obtain ⟨_, _, _, _, rfl, _⟩ := h; rfl) (fun cdv A outer s H E hr => b_mean_pay (c := adOf K) (k_ratio := k_ratio) (k_row_sum := k_row_sum) (k_check_pay := k_check_pay) (k_check_deed := k_check_deed) _ cdv A outer s H E hr) (fun ds Q => pure_mean_pay (adOf K) ds Q)
  have k_mean_pay : Kn P w K mg base "mean_pay" ["book", "deed", "pay"] 4 (sp_mean_pay (adOf K)) [] := ⟨_, fd_mean_pay, [], o_mean_pay, (He.glo_ok X G (cs.fact 49 rfl)), F_mean_pay.kp, FunD.bindsN F_mean_pay fun _ _ _ _ _ _ us hl => match us, hl with | [_, _, _], _ => rfl, .nil⟩
  obtain ⟨fd_gain_of, F_gain_of⟩ := cs.def_ 56 (d := HdT.D_gain_of) rfl
  have o_gain_of : FnOk P w K mg base CX0 5 _ fd_gain_of ["book", "deed", "pay"] (liftSp K (sp_gain_of (adOf K))) := fnD_ok (k := 4) (N := ["book", "deed", "pay"]) F_gain_of sc_gain_of (fun ds Q h => by obtain ⟨_, _, _, _, rfl, _⟩ := h; rfl) (fun cdv A outer s H E hr => b_gain_of (c := adOf K) (k_minus := k_minus) (k_mean_pay := k_mean_pay) _ cdv A outer s H E hr) (fun ds Q => pure_gain_of (adOf K) ds Q)
  have k_gain_of : Kn P w K mg base "gain_of" ["book", "deed", "pay"] 5 (sp_gain_of (adOf K)) [] := ⟨_, fd_gain_of, [], o_gain_of, (He.glo_ok X G (cs.fact 50 rfl)), F_gain_of.kp, FunD.bindsN F_gain_of fun _ _ _ _ _ _ us hl => match us, hl with | [_, _, _], _ => rfl, .nil⟩
  obtain ⟨fd_best_deeds, F_best_deeds⟩ := cs.def_ 57 (d := HdT.D_best_deeds) rfl
  have o_best_deeds : FnOk P w K mg base CX0 6 _ fd_best_deeds ["book", "pay"] (liftSp K (sp_best_deeds (adOf K))) := fnD_ok (k := 5) (N := ["book", "pay", "gains", "best", "each", "deed"]) F_best_deeds sc_best_deeds (fun ds Q h => by obtain ⟨_, _, _, rfl, _⟩ := h; rfl) (fun cdv A outer s H E hr => b_best_deeds (c := adOf K) (m_tuple := m_tuple) (m_range := m_range) (k_compare := k_compare) (k_gain_of := k_gain_of) _ cdv A outer s H E hr) (fun ds Q => pure_best_deeds (adOf K) ds Q)
  have k_best_deeds : Kn P w K mg base "best_deeds" ["book", "pay"] 6 (sp_best_deeds (adOf K)) [] := ⟨_, fd_best_deeds, [], o_best_deeds, (He.glo_ok X G (cs.fact 51 rfl)), F_best_deeds.kp, FunD.bindsN F_best_deeds fun _ _ _ _ _ _ us hl => match us, hl with | [_, _], _ => rfl, .nil⟩
  obtain ⟨fd__law_bring_rows, F__law_bring_rows⟩ := cs.def_ 58 (d := HdT.D__law_bring_rows) rfl
  have o__law_bring_rows : FnOk P w K mg base CX0 1 _ fd__law_bring_rows ["costs", "rows", "deed", "first"] (liftSp K sp__law_bring_rows) := fnD_ok (k := 0) (N := ["costs", "rows", "deed", "first", "whole", "task", "other", "parts", "s"]) F__law_bring_rows sc__law_bring_rows (fun ds Q h => by obtain ⟨_, _, rfl, _⟩ := h; rfl) (fun cdv A outer s H E hr => b__law_bring_rows (m_range := m_range) (m_len := m_len) (m_sum := m_sum) _ cdv A outer s H E hr) (fun ds Q => pure__law_bring_rows ds Q)
  have k__law_bring_rows : Kn P w K mg base "_law_bring_rows" ["costs", "rows", "deed", "first"] 1 sp__law_bring_rows [] := ⟨_, fd__law_bring_rows, [], o__law_bring_rows, (He.glo_ok X G (cs.fact 52 rfl)), F__law_bring_rows.kp, FunD.bindsN F__law_bring_rows fun _ _ _ _ _ _ us hl => match us, hl with | [_, _, _, _], _ => rfl, .nil⟩
  obtain ⟨fd__law_pooled, F__law_pooled⟩ := cs.def_ 59 (d := HdT.D__law_pooled) rfl
  have o__law_pooled : FnOk P w K mg base CX0 2 _ fd__law_pooled ["weights", "costs", "rows", "asked"] (liftSp K sp__law_pooled) := fnD_ok (k := 1) (N := ["weights", "costs", "rows", "asked", "goal", "task", "k", "s"]) F__law_pooled sc__law_pooled (fun ds Q h => by obtain ⟨_, _, rfl, _⟩ := h; rfl) (fun cdv A outer s H E hr => b__law_pooled (m_sum := m_sum) (m_range := m_range) (m_len := m_len) (k__law_bring_rows := k__law_bring_rows) _ cdv A outer s H E hr) (fun ds Q => pure__law_pooled ds Q)
  have k__law_pooled : Kn P w K mg base "_law_pooled" ["weights", "costs", "rows", "asked"] 2 sp__law_pooled [] := ⟨_, fd__law_pooled, [], o__law_pooled, (He.glo_ok X G (cs.fact 53 rfl)), F__law_pooled.kp, FunD.bindsN F__law_pooled fun _ _ _ _ _ _ us hl => match us, hl with | [_, _, _, _], _ => rfl, .nil⟩
  obtain ⟨fd__law_bring, F__law_bring⟩ := cs.def_ 60 (d := HdT.D__law_bring) rfl
  have k__law_bring : KnBr P w K mg base 2 := ⟨_, fd__law_bring, ok_bring F__law_bring sc__law_bring (fun cdv A outer s H E hr => b__law_bring (m_list := m_list) (k__law_bring_rows := k__law_bring_rows) (m_sum := m_sum) _ cdv A outer s H E hr), (He.glo_ok X G (cs.fact 54 rfl)), F__law_bring.kp, FunD.bindsN F__law_bring fun _ _ _ _ _ _ us hl => match us, hl with | [_, _, _], _ => rfl⟩
  obtain ⟨fd__law_ties, F__law_ties⟩ := cs.def_ 61 (d := HdT.D__law_ties) rfl
  have o__law_ties : FnOk P w K mg base CX0 3 _ fd__law_ties ["costs", "rows", "lot"] (liftSp K sp__law_ties) := fnD_ok (k := 2) (N := ["costs", "rows", "lot", "goal", "task", "unit", "deed", "parts", "s"]) F__law_ties sc__law_ties (fun ds Q h => by obtain ⟨_, _, rfl, _⟩ := h; rfl) (fun cdv A outer s H E hr => b__law_ties (m_range := m_range) (m_len := m_len) (k__law_bring := k__law_bring) _ cdv A outer s H E hr) (fun ds Q => pure__law_ties ds Q)
  have k__law_ties : Kn P w K mg base "_law_ties" ["costs", "rows", "lot"] 3 sp__law_ties [] := ⟨_, fd__law_ties, [], o__law_ties, (He.glo_ok X G (cs.fact 55 rfl)), F__law_ties.kp, FunD.bindsN F__law_ties fun _ _ _ _ _ _ us hl => match us, hl with | [_, _, _], _ => rfl, .nil⟩
  obtain ⟨fd__law_menu, F__law_menu⟩ := cs.def_ 62 (d := HdT.D__law_menu) rfl
  have o__law_menu : FnOk P w K mg base CX0 1 _ fd__law_menu ["weights", "costs", "rows", "asked"] (liftSp K sp__law_menu) := fnD_ok (k := 0) (N := ["weights", "costs", "rows", "asked", "signs", "goal", "task", "k", "j", "b", "line", "s", "part"]) F__law_menu sc__law_menu (fun ds Q h => by obtain ⟨_, _, rfl, _⟩ := h; rfl) (fun cdv A outer s H E hr => b__law_menu (m_sum := m_sum) (m_range := m_range) (m_len := m_len) _ cdv A outer s H E hr) (fun ds Q => pure__law_menu ds Q)
  have k__law_menu : Kn P w K mg base "_law_menu" ["weights", "costs", "rows", "asked"] 1 sp__law_menu [] := ⟨_, fd__law_menu, [], o__law_menu, (He.glo_ok X G (cs.fact 56 rfl)), F__law_menu.kp, FunD.bindsN F__law_menu fun _ _ _ _ _ _ us hl => match us, hl with | [_, _, _, _], _ => rfl, .nil⟩
  exact fnD_ok (K := K) (k := 6) (N := ["script", "turns", "weights", "costs", "rows", "asked", "many", "book", "books", "kinds", "lot", "one", "two", "three", "costs_of", "rows_of", "more", "total", "due", "pay", "best", "row", "k", "deed"]) (dsp := sp_law) F_law sc_law (fun ds Q h => by obtain ⟨_, rfl, _⟩ := h; rfl) (fun cdv A outer s H E hr => b_law (c := adOf K) (k__law_alike := k__law_alike) (m_tuple := m_tuple) (k_best_deeds := k_best_deeds) (m_len := m_len) (k__law_best := k__law_best) (k_pay_of_d1 := k_pay_of_d1) (k__law_less := k__law_less) (m_isinstance := m_isinstance) (isiF := isiF) (g_Refused := g_Refused) (k__law_low := k__law_low) (m_sum := m_sum) (m_range := m_range) (m_int := m_int) (g_Granted := g_Granted) (k__law_right := k__law_right) (k__law_menu := k__law_menu) (k__law_ties := k__law_ties) (k__law_pooled := k__law_pooled) (k_menu := k_menu) (m_list := m_list) (k_ties := k_ties) (k_pooled := k_pooled) (c_Book := c_Book) (o_Book := o_Book) (c_Kinds := c_Kinds) (o_Kinds := o_Kinds) (k__law_world := k__law_world) (k__law_draws := k__law_draws) (k__law_cell := k__law_cell) _ cdv A outer s H E hr) (fun ds Q => pure_law (adOf K) hne ds Q)
end
end Dl
open PySem PySem.W PySem.Calls PyProof.Rows
theorem PySem.Challenge.cw_paidforsigns_k78_whole_pooled_is_ties_holds : PySem.Challenge.rw_paidforsigns_k78_whole_pooled_is_ties.Holds := by
  w_on; o_law
  refine HandSHeadRun.head_imp (r := OpenLaw.row PySem.Challenge.rw_paidforsigns_k78_whole_pooled_is_ties) (q := view (OpenLaw.row PySem.Challenge.rw_paidforsigns_k78_whole_pooled_is_ties).prog [0, 96]) (H := HdT.hk) (ob := HdT.ob) (M := 20000) (loose := HdT.loose) (d := HandSHeadRun.topDef (OpenLaw.row PySem.Challenge.rw_paidforsigns_k78_whole_pooled_is_ties).prog 96) (kwd := []) HdT.ob_eq HdT.run (by kernel_rfl) (by kernel_rfl) (by kernel_rfl) (by rfl) (by first | assumption | decide +kernel) (by decide +kernel) ⟨rfl, rfl, rfl, rfl, rfl, by decide +kernel⟩ ?hw ?hc
  case hw => w_witness2
  case hc =>
    refine L2.walk_ofE (l := PySem.Challenge.rw_paidforsigns_k78_whole_pooled_is_ties) (n := 63) (k := 7) (x := "script") (CX := L2.CX0) rfl (by decide) (by kernel_rfl) ⟨rfl, by decide, by decide⟩ ?F (fun _ _ _ _ z => z)
    intro w mg fa h Y G hmg0
    obtain ⟨K, KX, c⟩ := Y
    have c1 : He.SaysD HdT.fa HdT.fn K := congrArg (fun z : HdT.Alx => z.1) c
    have c2 : HdT.ex K = true := congrArg (fun z : HdT.Alx => z.2.1) c
    have c3 : HdT.gs K = HdT.gv := congrArg (fun z : HdT.Alx => z.2.2) c
    have hmg : mg ("law" : PySem.Str) = some (.ref fa) := by
      have e : (HandSHeadRun.topDef (OpenLaw.row PySem.Challenge.rw_paidforsigns_k78_whole_pooled_is_ties).prog 96).name = ("law" : PySem.Str) := by kernel_rfl
      rw [← e]
      exact hmg0
    have e := hmg.symm.trans (He.glo_ok KX G (c1.fact 57 (f := .glo "law") rfl))
    cases e
    obtain ⟨fd, hb, hF⟩ := Dl.facts (P := (PySem.Challenge.rw_paidforsigns_k78_whole_pooled_is_ties).prog) (w := w) KX G ⟨_, hmg⟩ c1 c2 c3
    refine ⟨K, fd, Dl.spLaw K, KX, hb, fun H a ns hl _ hS => ?_, hF⟩
    exact ⟨H, [.slst (ns.map Dl.D.int)], L2.Same.refl _, .cons (.slst hS (Dl.reps_ints ns)) .nil, ns, rfl, fun v H' B' _ r => Dl.rep_bl r⟩
