import PyProof.Rows.All
import Wide.All
import OpenK.AllK
import Wide.FinOn
import HandS.ForMost
import HandS.Wide
import HandS.Gcd
import HandS.IsInst
import HandS.Defaults
import HandS.OwnEq
import HandS.SlotsOwn
import HandS.Walk
import KE.KOpsOwn
import PySem.Challenge.RW_dearestshelf_k53_whole_game
set_option Elab.async false
set_option linter.all false
set_option maxRecDepth 100000
set_option maxHeartbeats 4000000
set_option exponentiation.threshold 20000
namespace Gm
/-! sums over 0 .. k-1 -/
def sm : Nat → (Nat → Int) → Int
  | 0, _ => 0
  | k + 1, f => sm k f + f k
theorem sm_congr {f g : Nat → Int} : ∀ {k : Nat}, (∀ i, i < k → f i = g i) → sm k f = sm k g
  | 0, _ => rfl
  | k + 1, h => by
    show sm k f + f k = sm k g + g k
    rw [sm_congr fun i hi => h i (by omega), h k (by omega)]
theorem sm_zero {f : Nat → Int} : ∀ {k : Nat}, (∀ i, i < k → f i = 0) → sm k f = 0
  | 0, _ => rfl
  | k + 1, h => by
    show sm k f + f k = 0
    rw [sm_zero fun i hi => h i (by omega), h k (by omega)]
    rfl
theorem sm_add (f g : Nat → Int) : ∀ k, sm k (fun i => f i + g i) = sm k f + sm k g
  | 0 => rfl
  | k + 1 => by
    show sm k (fun i => f i + g i) + (f k + g k) = (sm k f + f k) + (sm k g + g k)
    rw [sm_add f g k]
    omega
theorem sm_mul (c : Int) (f : Nat → Int) : ∀ k, sm k (fun i => c * f i) = c * sm k f
  | 0 => by show 0 = c * 0; omega
  | k + 1 => by
    show sm k (fun i => c * f i) + c * f k = c * (sm k f + f k)
    rw [sm_mul c f k, Int.mul_add]
theorem sm_mul' (c : Int) (f : Nat → Int) (k : Nat) : sm k (fun i => f i * c) = sm k f * c := by
  rw [Int.mul_comm, ← sm_mul]
  exact sm_congr fun i _ => Int.mul_comm _ _
theorem sm_sub (f g : Nat → Int) (k : Nat) : sm k (fun i => f i - g i) = sm k f - sm k g := by
  have h : sm k (fun i => f i - g i) = sm k (fun i => f i + (-1) * g i) := sm_congr fun i _ => by omega
  rw [h, sm_add f (fun i => (-1) * g i), sm_mul]
  omega
theorem sm_one {f : Nat → Int} {i : Nat} : ∀ {k : Nat}, i < k → (∀ a, a < k → a ≠ i → f a = 0) → sm k f = f i
  | 0, h, _ => absurd h (Nat.not_lt_zero _)
  | k + 1, h, z => by
    show sm k f + f k = f i
    rcases Nat.lt_or_ge i k with h1 | h1
    · rw [sm_one h1 fun a ha => z a (by omega), z k (by omega) (by omega)]
      omega
    · have e : i = k := by omega
      subst e
      rw [sm_zero fun a ha => z a (by omega) (by omega)]
      omega
theorem sm_two {f : Nat → Int} {i j : Nat} (hij : i < j) : ∀ {k : Nat}, j < k → (∀ a, a < k → a ≠ i → a ≠ j → f a = 0) → sm k f = f i + f j
  | 0, h, _ => absurd h (Nat.not_lt_zero _)
  | k + 1, h, z => by
    show sm k f + f k = f i + f j
    rcases Nat.lt_or_ge j k with h1 | h1
    · rw [sm_two hij h1 fun a ha => z a (by omega), z k (by omega) (by omega) (by omega)]
      omega
    · have e : j = k := by omega
      subst e
      rw [sm_one hij fun a ha ne => z a (by omega) ne (by omega)]
theorem sm_comm (f : Nat → Nat → Int) (l : Nat) : ∀ k, sm k (fun i => sm l (fun j => f i j)) = sm l (fun j => sm k (fun i => f i j))
  | 0 => (sm_zero fun _ _ => rfl).symm
  | k + 1 => by
    show sm k (fun i => sm l (fun j => f i j)) + sm l (fun j => f k j) = sm l (fun j => sm k (fun i => f i j) + f k j)
    rw [sm_comm f l k, sm_add (fun j => sm k (fun i => f i j)) (fun j => f k j)]
theorem sm_le {f g : Nat → Int} : ∀ {k : Nat}, (∀ i, i < k → f i ≤ g i) → sm k f ≤ sm k g
  | 0, _ => Int.le_refl _
  | k + 1, h => Int.add_le_add (sm_le fun i hi => h i (by omega)) (h k (by omega))
theorem sm_nonneg {f : Nat → Int} {k : Nat} (h : ∀ i, i < k → 0 ≤ f i) : 0 ≤ sm k f := by
  have := sm_le (f := fun _ => 0) (g := f) h
  rw [sm_zero fun _ _ => rfl] at this
  exact this
theorem sm_ge_one {f : Nat → Int} {i : Nat} : ∀ {k : Nat}, i < k → (∀ a, a < k → 0 ≤ f a) → f i ≤ sm k f
  | 0, h, _ => absurd h (Nat.not_lt_zero _)
  | k + 1, h, z => by
    show f i ≤ sm k f + f k
    rcases Nat.lt_or_ge i k with h1 | h1
    · have a := sm_ge_one (f := f) h1 fun a ha => z a (by omega)
      have b := z k (by omega)
      omega
    · have e : i = k := by omega
      subst e
      have a : 0 ≤ sm i f := sm_nonneg fun a ha => z a (by omega)
      omega
theorem sm_pos_of {f : Nat → Int} : ∀ {k : Nat}, 0 < sm k f → ∃ i, i < k ∧ 0 < f i
  | 0, h => absurd h (Int.lt_irrefl _)
  | k + 1, h => by
    have h' : 0 < sm k f + f k := h
    rcases (show 0 < f k ∨ f k ≤ 0 by omega) with a | a
    · exact ⟨k, by omega, a⟩
    · obtain ⟨i, hi, q⟩ := sm_pos_of (f := f) (k := k) (by omega)
      exact ⟨i, by omega, q⟩
theorem sm_first (f : Nat → Int) : ∀ k, sm (k + 1) f = f 0 + sm k (fun i => f (i + 1))
  | 0 => by show 0 + f 0 = f 0 + 0; omega
  | k + 1 => by
    show sm (k + 1) f + f (k + 1) = f 0 + (sm k (fun i => f (i + 1)) + f (k + 1))
    rw [sm_first f k]
    omega
theorem sm_append (f : Nat → Int) (a : Nat) : ∀ b, sm (a + b) f = sm a f + sm b (fun i => f (a + i))
  | 0 => by show sm a f = sm a f + 0; omega
  | b + 1 => by
    show sm (a + b) f + f (a + b) = sm a f + (sm b (fun i => f (a + i)) + f (a + b))
    rw [sm_append f a b]
    omega
theorem sm_natAbs {f : Nat → Int} {c : Nat} : ∀ {k : Nat}, (∀ i, i < k → (f i).natAbs ≤ c) → (sm k f).natAbs ≤ k * c
  | 0, _ => by show 0 ≤ 0 * c; omega
  | k + 1, h => by
    show (sm k f + f k).natAbs ≤ (k + 1) * c
    have a := sm_natAbs (f := f) (c := c) (k := k) fun i hi => h i (by omega)
    have b := h k (by omega)
    have e : (k + 1) * c = k * c + c := Nat.succ_mul k c
    have t := Int.natAbs_add_le (sm k f) (f k)
    omega
/-! the determinant -/
def skp (i a : Nat) : Nat := if a < i then a else a + 1
def sgn (i : Nat) : Int := if i % 2 = 0 then 1 else -1
theorem sgn_succ (i : Nat) : sgn (i + 1) = - sgn i := by
  unfold sgn
  split <;> split <;> omega
theorem skp_lt {i a k : Nat} (hi : i < k + 1) (ha : a < k) : skp i a < k + 1 := by
  unfold skp; split <;> omega
theorem skp_ne (i a : Nat) : skp i a ≠ i := by
  unfold skp; split <;> omega
def det : Nat → (Nat → Nat → Int) → Int
  | 0, _ => 1
  | k + 1, M => sm (k + 1) (fun i => sgn i * M i 0 * det k (fun a b => M (skp i a) (b + 1)))
theorem det_congr : ∀ {k : Nat} {M M' : Nat → Nat → Int}, (∀ a b, a < k → b < k → M a b = M' a b) → det k M = det k M'
  | 0, _, _, _ => rfl
  | k + 1, M, M', h => sm_congr fun i hi => by
    rw [h i 0 hi (by omega), det_congr fun a b ha hb => h (skp i a) (b + 1) (skp_lt hi ha) (by omega)]
def setc (M : Nat → Nat → Int) (r : Nat) (u : Nat → Int) : Nat → Nat → Int := fun a b => if a = r then u b else M a b
theorem setc_same (M : Nat → Nat → Int) (r : Nat) (u : Nat → Int) : setc M r u r = u := by
  funext b; unfold setc; rw [if_pos rfl]
theorem setc_ne {M : Nat → Nat → Int} {r a : Nat} {u : Nat → Int} (h : a ≠ r) : setc M r u a = M a := by
  funext b; unfold setc; rw [if_neg h]
theorem setc_self (M : Nat → Nat → Int) (r : Nat) : setc M r (M r) = M := by
  funext a b; unfold setc; split
  · rename_i h; rw [h]
  · rfl
theorem setc_setc (M : Nat → Nat → Int) (r : Nat) (u v : Nat → Int) : setc (setc M r u) r v = setc M r v := by
  funext a b; unfold setc; split <;> rfl
theorem setc_comm (M : Nat → Nat → Int) {r q : Nat} (u v : Nat → Int) (h : r ≠ q) : setc (setc M r u) q v = setc (setc M q v) r u := by
  funext a b; unfold setc
  by_cases h1 : a = q
  · subst h1
    rw [if_pos rfl, if_neg (Ne.symm h), if_pos rfl]
  · rw [if_neg h1]
    by_cases h2 : a = r
    · subst h2
      rw [if_pos rfl, if_pos rfl]
    · rw [if_neg h2, if_neg h2, if_neg h1]
/-- the place of vector r when vector i is left out -/
def dwn (i r : Nat) : Nat := if i < r then r - 1 else r
theorem minor_setc (M : Nat → Nat → Int) {i r : Nat} (u : Nat → Int) (h : r ≠ i) :
    (fun a b => setc M r u (skp i a) (b + 1)) = setc (fun a b => M (skp i a) (b + 1)) (dwn i r) (fun b => u (b + 1)) := by
  funext a b
  show (if skp i a = r then u (b + 1) else M (skp i a) (b + 1)) = (if a = dwn i r then u (b + 1) else M (skp i a) (b + 1))
  have e : (skp i a = r) = (a = dwn i r) := by
    unfold skp dwn
    apply propext
    split <;> split <;> omega
  by_cases h1 : a = dwn i r
  · rw [if_pos h1, if_pos (e ▸ h1)]
  · rw [if_neg h1, if_neg (e ▸ h1)]
theorem minor_self (M : Nat → Nat → Int) (r : Nat) (u : Nat → Int) : (fun a b => setc M r u (skp r a) (b + 1)) = (fun a b => M (skp r a) (b + 1)) := by
  funext a b
  unfold setc
  rw [if_neg (skp_ne r a)]
theorem dwn_lt {i r k : Nat} (hi : i < k + 1) (hr : r < k + 1) (h : r ≠ i) : dwn i r < k := by
  unfold dwn; split <;> omega
/-- linear in each vector -/
theorem det_lin (x y : Int) : ∀ {k : Nat} (M : Nat → Nat → Int) {r : Nat} (u v : Nat → Int), r < k →
    det k (setc M r (fun b => x * u b + y * v b)) = x * det k (setc M r u) + y * det k (setc M r v)
  | 0, _, _, _, _, h => absurd h (Nat.not_lt_zero _)
  | k + 1, M, r, u, v, h => by
    show sm (k + 1) _ = x * sm (k + 1) _ + y * sm (k + 1) _
    rw [← sm_mul, ← sm_mul, ← sm_add]
    refine sm_congr fun i hi => ?_
    by_cases e : i = r
    · subst e
      rw [minor_self, minor_self, minor_self, setc_same, setc_same, setc_same]
      generalize det k _ = d
      generalize sgn i = s
      grind
    · rw [minor_setc _ _ (Ne.symm e), minor_setc _ _ (Ne.symm e), minor_setc _ _ (Ne.symm e), setc_ne e, setc_ne e, setc_ne e,
        det_lin x y _ (fun b => u (b + 1)) (fun b => v (b + 1)) (dwn_lt hi h (Ne.symm e))]
      generalize det k _ = d
      generalize det k _ = d'
      generalize sgn i = s
      generalize M i 0 = m
      grind
theorem det_adj : ∀ {k : Nat} (M : Nat → Nat → Int) {r : Nat}, r + 1 < k → (∀ b, b < k → M r b = M (r + 1) b) → det k M = 0
  | 0, _, _, h, _ => absurd h (Nat.not_lt_zero _)
  | k + 1, M, r, h, e => by
    show sm (k + 1) _ = 0
    rw [sm_two (i := r) (j := r + 1) (by omega) h ?_]
    · have e1 : det k (fun a b => M (skp r a) (b + 1)) = det k (fun a b => M (skp (r + 1) a) (b + 1)) := det_congr fun a b ha hb => by
        unfold skp
        by_cases h1 : a < r
        · rw [if_pos h1, if_pos (by omega)]
        · rw [if_neg h1]
          by_cases h2 : a < r + 1
          · have e2 : a = r := by omega
            subst e2
            rw [if_pos h2]
            exact (e _ (by omega)).symm
          · rw [if_neg h2]
      rw [e1, e 0 (by omega), sgn_succ]
      generalize det k _ = d
      generalize sgn r = s
      grind
    · intro a ha h1 h2
      have z : det k (fun c b => M (skp a c) (b + 1)) = 0 := by
        by_cases h3 : a < r
        · refine det_adj (r := r - 1) _ (by omega) fun b hb => ?_
          show M (skp a (r - 1)) (b + 1) = M (skp a (r - 1 + 1)) (b + 1)
          unfold skp
          rw [if_neg (by omega), if_neg (by omega), show r - 1 + 1 = r by omega]
          exact e _ (by omega)
        · refine det_adj (r := r) _ (by omega) fun b hb => ?_
          show M (skp a r) (b + 1) = M (skp a (r + 1)) (b + 1)
          unfold skp
          rw [if_pos (by omega), if_pos (by omega)]
          exact e _ (by omega)
      show sgn a * M a 0 * det k _ = 0
      rw [z, Int.mul_zero]
theorem det_swap_adj {k : Nat} (M : Nat → Nat → Int) {r : Nat} (u v : Nat → Int) (h : r + 1 < k) :
    det k (setc (setc M r u) (r + 1) v) = - det k (setc (setc M r v) (r + 1) u) := by
  have hne : r ≠ r + 1 := by omega
  have z : ∀ t : Nat → Int, det k (setc (setc M r t) (r + 1) t) = 0 := fun t => det_adj _ h fun b _ => by
    rw [setc_same, setc_ne hne, setc_same]
  have L1 : ∀ t w z' : Nat → Int, det k (setc (setc M r (fun b => 1 * t b + 1 * w b)) (r + 1) z') = 1 * det k (setc (setc M r t) (r + 1) z') + 1 * det k (setc (setc M r w) (r + 1) z') := fun t w z' => by
    rw [setc_comm M _ _ hne, setc_comm M _ _ hne, setc_comm M _ _ hne, det_lin 1 1 _ _ _ (by omega)]
  have L2 : ∀ t w z' : Nat → Int, det k (setc (setc M r z') (r + 1) (fun b => 1 * t b + 1 * w b)) = 1 * det k (setc (setc M r z') (r + 1) t) + 1 * det k (setc (setc M r z') (r + 1) w) := fun t w z' => det_lin 1 1 _ _ _ h
  have q := z (fun b => 1 * u b + 1 * v b)
  rw [L1, L2, L2, z, z] at q
  omega
theorem det_alt {k : Nat} : ∀ (d : Nat) (M : Nat → Nat → Int) {r : Nat}, r + d + 1 < k → (∀ b, b < k → M r b = M (r + d + 1) b) → det k M = 0
  | 0, M, r, h, e => det_adj M h e
  | d + 1, M, r, h, e => by
    -- swap r + d + 1 and r + d + 2
    have s := det_swap_adj M (r := r + d + 1) (M (r + d + 1)) (M (r + d + 1 + 1)) (by omega)
    rw [setc_self, setc_self] at s
    rw [s]
    have z : det k (setc (setc M (r + d + 1) (M (r + d + 1 + 1))) (r + d + 1 + 1) (M (r + d + 1))) = 0 := det_alt d _ (r := r) (by omega) fun b hb => by
      rw [setc_ne (by omega), setc_ne (by omega), setc_ne (by omega), setc_same]
      exact e b hb
    rw [z]
    rfl
theorem det_eq {k : Nat} (M : Nat → Nat → Int) {r q : Nat} (hr : r < k) (hq : q < k) (ne : r ≠ q) (e : ∀ b, b < k → M r b = M q b) : det k M = 0 := by
  rcases Nat.lt_or_gt_of_ne ne with h | h
  · have e1 : q = r + (q - r - 1) + 1 := by omega
    exact det_alt (q - r - 1) M (r := r) (by omega) (by rw [← e1]; exact e)
  · have e1 : r = q + (r - q - 1) + 1 := by omega
    exact det_alt (r - q - 1) M (r := q) (by omega) (by rw [← e1]; exact fun b hb => (e b hb).symm)
theorem det_swap {k : Nat} (M : Nat → Nat → Int) {r q : Nat} (u v : Nat → Int) (hr : r < k) (hq : q < k) (hne : r ≠ q) :
    det k (setc (setc M r u) q v) = - det k (setc (setc M r v) q u) := by
  have z : ∀ t : Nat → Int, det k (setc (setc M r t) q t) = 0 := fun t => det_eq _ hr hq hne fun b _ => by
    rw [setc_same, setc_ne hne, setc_same]
  have L1 : ∀ t w z' : Nat → Int, det k (setc (setc M r (fun b => 1 * t b + 1 * w b)) q z') = 1 * det k (setc (setc M r t) q z') + 1 * det k (setc (setc M r w) q z') := fun t w z' => by
    rw [setc_comm M _ _ hne, setc_comm M _ _ hne, setc_comm M _ _ hne, det_lin 1 1 _ _ _ hr]
  have L2 : ∀ t w z' : Nat → Int, det k (setc (setc M r z') q (fun b => 1 * t b + 1 * w b)) = 1 * det k (setc (setc M r z') q t) + 1 * det k (setc (setc M r z') q w) := fun t w z' => det_lin 1 1 _ _ _ hq
  have qq := z (fun b => 1 * u b + 1 * v b)
  rw [L1, L2, L2, z, z] at qq
  omega
theorem det_smul {k : Nat} (M : Nat → Nat → Int) {r : Nat} (x : Int) (u : Nat → Int) (h : r < k) : det k (setc M r (fun b => x * u b)) = x * det k (setc M r u) := by
  have e : (fun b => x * u b) = (fun b => x * u b + 0 * u b) := by funext b; omega
  rw [e, det_lin x 0 M u u h]
  omega
theorem det_zero {k : Nat} (M : Nat → Nat → Int) {r : Nat} (h : r < k) : det k (setc M r (fun _ => 0)) = 0 := by
  have e : (fun _ : Nat => (0 : Int)) = (fun b => 0 * (fun _ : Nat => (0 : Int)) b) := by funext b; rfl
  rw [e, det_smul M 0 _ h]
  omega
theorem det_sum {k : Nat} (M : Nat → Nat → Int) {r : Nat} (h : r < k) (a : Nat → Int) (W : Nat → Nat → Int) : ∀ l : Nat,
    det k (setc M r (fun b => sm l (fun t => a t * W t b))) = sm l (fun t => a t * det k (setc M r (W t)))
  | 0 => det_zero M h
  | l + 1 => by
    show det k (setc M r (fun b => sm l (fun t => a t * W t b) + a l * W l b)) = sm l _ + a l * _
    rw [← det_sum M h a W l]
    have e : (fun b => sm l (fun t => a t * W t b) + a l * W l b) = (fun b => 1 * (fun b => sm l (fun t => a t * W t b)) b + a l * W l b) := by
      funext b; dsimp only; omega
    rw [e, det_lin 1 (a l) M _ _ h]
    omega
theorem det_one : ∀ {k : Nat} {M : Nat → Nat → Int}, (∀ a b, a < k → b < k → M a b = if a = b then 1 else 0) → det k M = 1
  | 0, _, _ => rfl
  | k + 1, M, h => by
    show sm (k + 1) _ = 1
    rw [sm_one (i := 0) (by omega) fun a ha ne => by rw [h a 0 ha (by omega), if_neg ne]; simp]
    rw [h 0 0 (by omega) (by omega), if_pos rfl, det_one fun a b ha hb => ?_]
    · rfl
    · rw [show skp 0 a = a + 1 from rfl, h (a + 1) (b + 1) (by omega) (by omega)]
      by_cases e : a = b
      · rw [if_pos e, if_pos (by omega)]
      · rw [if_neg e, if_neg (by omega)]
def fct : Nat → Nat
  | 0 => 1
  | k + 1 => (k + 1) * fct k
theorem sgn_abs (i : Nat) : (sgn i).natAbs = 1 := by unfold sgn; split <;> rfl
theorem det_bound {c : Nat} : ∀ {k : Nat} {M : Nat → Nat → Int}, (∀ a b, a < k → b < k → (M a b).natAbs ≤ c) → (det k M).natAbs ≤ fct k * c ^ k
  | 0, _, _ => Nat.le_refl 1
  | k + 1, M, h => by
    have e : fct (k + 1) * c ^ (k + 1) = (k + 1) * (c * (fct k * c ^ k)) := by
      show ((k + 1) * fct k) * (c ^ k * c) = _
      rw [Nat.mul_assoc, Nat.mul_comm (c ^ k) c, Nat.mul_left_comm (fct k) c]
    rw [e]
    refine sm_natAbs fun i hi => ?_
    rw [Int.natAbs_mul, Int.natAbs_mul, sgn_abs, Nat.one_mul]
    exact Nat.mul_le_mul (h i 0 hi (by omega)) (det_bound fun a b ha hb => h _ _ (skp_lt hi ha) (by omega))
end Gm
namespace Gm
theorem sm_two' {f : Nat → Int} {i j k : Nat} (hij : i ≠ j) (hi : i < k) (hj : j < k) (z : ∀ a, a < k → a ≠ i → a ≠ j → f a = 0) : sm k f = f i + f j := by
  rcases Nat.lt_or_gt_of_ne hij with h | h
  · exact sm_two h hj z
  · rw [sm_two h hi fun a ha h1 h2 => z a ha h2 h1, Int.add_comm]
theorem mul_pos' {a b : Int} (h : 0 < a) (h' : 0 < b) : 0 < a * b := Int.mul_pos h h'
/-- one pivot -/
def piv (T : Nat → Nat → Int) (r c : Nat) (s : Int) : Nat → Nat → Int := fun i j => if i = r then T r j else (T i j * T r c - T i c * T r j) / s
/-- the unit vector -/
def ev (q : Nat) : Nat → Int := fun p => if p = q then 1 else 0
/-- the basis' vectors: the columns b, and the last unit vector -/
def Bof (m : Nat) (V : Nat → Nat → Int) (b : Nat → Nat) : Nat → Nat → Int := fun k => if k < m then V (b k) else ev m
def upb (b : Nat → Nat) (r c : Nat) : Nat → Nat := fun k => if k = r then c else b k
theorem Bof_upb {m : Nat} {V : Nat → Nat → Int} {b : Nat → Nat} {r c : Nat} (hr : r < m) : Bof m V (upb b r c) = setc (Bof m V b) r (V c) := by
  funext k p
  show (if k < m then V (if k = r then c else b k) else ev m) p = if k = r then V c p else Bof m V b k p
  by_cases h : k = r
  · subst h
    rw [if_pos hr, if_pos rfl, if_pos rfl]
  · rw [if_neg h, if_neg h]
    rfl
theorem Bof_lt {m : Nat} {V : Nat → Nat → Int} {b : Nat → Nat} {k : Nat} (h : k < m) : Bof m V b k = V (b k) := if_pos h
theorem Bof_m {m : Nat} {V : Nat → Nat → Int} {b : Nat → Nat} : Bof m V b m = ev m := if_neg (Nat.lt_irrefl m)
/-- what holds between two pivots -/
structure Inv (m n : Nat) (V : Nat → Nat → Int) (b : Nat → Nat) (T : Nat → Nat → Int) (s : Int) : Prop where
  pos : 0 < s
  sd : s = det (m + 1) (Bof m V b)
  ent : ∀ i j, i < m + 1 → j < n + m + 1 → T i j = det (m + 1) (setc (Bof m V b) i (V j))
  sol : ∀ j p, j < n + m + 1 → p < m + 1 → s * V j p = sm (m + 1) (fun k => T k j * Bof m V b k p)
  bl : ∀ k, k < m → b k < n + m
  feas : ∀ i, i < m → 0 ≤ T i (n + m)
section
variable {m n : Nat} {V : Nat → Nat → Int} {b : Nat → Nat} {T : Nat → Nat → Int} {s : Int}
theorem Inv.exact (I : Inv m n V b T s) {r c i j : Nat} (hr : r < m) (hc : c < n + m + 1) (hi : i < m + 1) (hj : j < n + m + 1) (ne : i ≠ r) :
    T i j * T r c - T i c * T r j = s * det (m + 1) (setc (setc (Bof m V b) r (V c)) i (V j)) := by
  have hr1 : r < m + 1 := by omega
  rw [← det_smul _ _ _ hi]
  have e1 : det (m + 1) (setc (setc (Bof m V b) r (V c)) i (fun p => s * V j p)) = det (m + 1) (setc (setc (Bof m V b) r (V c)) i (fun p => sm (m + 1) (fun k => T k j * Bof m V b k p))) := det_congr fun a p _ hp => by
    unfold setc
    by_cases h : a = i
    · rw [if_pos h, if_pos h]
      exact I.sol j p hj hp
    · rw [if_neg h, if_neg h]
  rw [e1, det_sum _ hi, sm_two' ne hi hr1 fun k hk h1 h2 => ?_]
  · have e2 : det (m + 1) (setc (setc (Bof m V b) r (V c)) i (Bof m V b i)) = T r c := by
      rw [setc_comm _ _ _ (Ne.symm ne), setc_self, I.ent r c hr1 hc]
    have e3 : det (m + 1) (setc (setc (Bof m V b) r (V c)) i (Bof m V b r)) = - T i c := by
      rw [det_swap _ _ _ hr1 hi (Ne.symm ne), setc_self, I.ent i c hi hc]
    rw [e2, e3]
    grind
  · have e4 : det (m + 1) (setc (setc (Bof m V b) r (V c)) i (Bof m V b k)) = 0 := det_eq _ hk hi h1 fun p _ => by
      rw [setc_same, setc_ne h1, setc_ne h2]
    rw [e4, Int.mul_zero]
theorem Inv.piv_at (I : Inv m n V b T s) {r c i j : Nat} (hr : r < m) (hc : c < n + m + 1) (hi : i < m + 1) (hj : j < n + m + 1) :
    piv T r c s i j = det (m + 1) (setc (Bof m V (upb b r c)) i (V j)) := by
  rw [Bof_upb hr]
  unfold piv
  by_cases h : i = r
  · subst h
    rw [if_pos rfl, setc_setc, I.ent i j hi hj]
  · rw [if_neg h, I.exact hr hc hi hj h, Int.mul_ediv_cancel_left _ (by have := I.pos; omega)]
theorem Inv.piv_mul (I : Inv m n V b T s) {r c i j : Nat} (hr : r < m) (hc : c < n + m + 1) (hi : i < m + 1) (hj : j < n + m + 1) (ne : i ≠ r) :
    s * piv T r c s i j = T i j * T r c - T i c * T r j := by
  rw [I.piv_at hr hc hi hj, Bof_upb hr, ← I.exact hr hc hi hj ne]
/-- the basis' own columns -/
theorem Inv.own (I : Inv m n V b T s) {i k : Nat} (hi : i < m + 1) (hk : k < m) : T i (b k) = if i = k then s else 0 := by
  have hb := I.bl k hk
  rw [I.ent i (b k) hi (by omega)]
  by_cases h : i = k
  · subst h
    rw [if_pos rfl, I.sd]
    exact congrArg _ (by rw [← Bof_lt (V := V) (b := b) hk, setc_self])
  · rw [if_neg h]
    exact det_eq _ hi (show k < m + 1 by omega) h fun p _ => by rw [setc_same, setc_ne (Ne.symm h), Bof_lt hk]
theorem Inv.inj (I : Inv m n V b T s) {i k : Nat} (hi : i < m) (hk : k < m) (e : b i = b k) : i = k := by
  have h1 := I.own (show i < m + 1 by omega) hi
  have h2 := I.own (show i < m + 1 by omega) hk
  rw [if_pos rfl, e] at h1
  rw [h1] at h2
  have := I.pos
  by_cases h : i = k
  · exact h
  · rw [if_neg h] at h2
    omega
/-- what the ratio test asks of the row r -/
structure Ratio (m n : Nat) (b : Nat → Nat) (T : Nat → Nat → Int) (c r : Nat) : Prop where
  lt : r < m
  pos : 0 < T r c
  le : ∀ i, i < m → 0 < T i c → T r (n + m) * T i c ≤ T i (n + m) * T r c
  tie : ∀ i, i < m → 0 < T i c → T r (n + m) * T i c = T i (n + m) * T r c → b r ≤ b i
theorem Inv.pivot (I : Inv m n V b T s) {c r : Nat} (hc : c < n + m) (R : Ratio m n b T c r) {T' : Nat → Nat → Int} (hT : ∀ i j, i < m + 1 → j < n + m + 1 → T' i j = piv T r c s i j) :
    Inv m n V (upb b r c) T' (T r c) := by
  have hr := R.lt
  have hr1 : r < m + 1 := by omega
  have hc1 : c < n + m + 1 := by omega
  have sp := I.pos
  refine ⟨R.pos, ?_, fun i j hi hj => (hT i j hi hj).trans (I.piv_at hr hc1 hi hj), fun j p hj hp => ?_, fun k hk => ?_, fun i hi => ?_⟩
  · rw [Bof_upb hr, I.ent r c hr1 hc1]
  · -- multiplied by s
    have s0 : s ≠ 0 := by omega
    refine Int.eq_of_mul_eq_mul_left s0 ?_
    rw [Bof_upb hr, ← sm_mul]
    have e1 : s * (T r c * V j p) = sm (m + 1) (fun k => T r c * (T k j * Bof m V b k p)) := by
      rw [sm_mul, ← I.sol j p hj hp]
      grind
    have ec := I.sol c p hc1 hp
    -- both sides: over all k but r, and r
    have e2 : sm (m + 1) (fun k => s * (T' k j * setc (Bof m V b) r (V c) k p)) = sm (m + 1) (fun k => (T r c * (T k j * Bof m V b k p)) - T r j * (T k c * Bof m V b k p) + (if k = r then T r j * (s * V c p) else 0)) := sm_congr fun k hk => by
      rw [hT k j hk hj]
      by_cases h : k = r
      · subst h
        rw [setc_same, if_pos rfl]
        unfold piv
        rw [if_pos rfl]
        grind
      · rw [setc_ne h, if_neg h]
        have q := I.piv_mul hr hc1 hk hj h
        rw [show s * (piv T r c s k j * Bof m V b k p) = (s * piv T r c s k j) * Bof m V b k p by grind, q]
        grind
    rw [e1, e2, sm_add, sm_sub, sm_mul (T r j), ← ec, sm_one hr1 fun a _ h => if_neg h, if_pos rfl]
    omega
  · unfold upb
    split
    · exact hc
    · exact I.bl k hk
  · rw [hT i (n + m) (by omega) (by omega)]
    unfold piv
    by_cases h : i = r
    · subst h
      rw [if_pos rfl]
      exact I.feas i hi
    · rw [if_neg h]
      refine Int.ediv_nonneg ?_ (by omega)
      have f1 := I.feas i hi
      have f2 := I.feas r hr
      have pp := R.pos
      by_cases hp : 0 < T i c
      · have q := R.le i hi hp
        have : T i c * T r (n + m) = T r (n + m) * T i c := Int.mul_comm _ _
        omega
      · have a1 : 0 ≤ T i (n + m) * T r c := Int.mul_nonneg f1 (by omega)
        have a2 : T i c * T r (n + m) ≤ 0 := Int.mul_nonpos_of_nonpos_of_nonneg (by omega) f2
        omega
/-- a row over the given columns -/
theorem Inv.row (I : Inv m n V b T s) {i j : Nat} (hi : i < m + 1) (hj : j < n + m + 1) : T i j = sm (m + 1) (fun p => V j p * det (m + 1) (setc (Bof m V b) i (ev p))) := by
  rw [I.ent i j hi hj, ← det_sum _ hi]
  refine det_congr fun a p _ hp => ?_
  unfold setc
  by_cases h : a = i
  · rw [if_pos h, if_pos h]
    show V j p = sm (m + 1) fun t => V j t * ev t p
    rw [sm_one hp fun t _ ne => ?_]
    · unfold ev
      rw [if_pos rfl, Int.mul_one]
    · unfold ev
      rw [if_neg (Ne.symm ne), Int.mul_zero]
  · rw [if_neg h, if_neg h]
theorem Inv.ym (I : Inv m n V b T s) : det (m + 1) (setc (Bof m V b) m (ev m)) = s := by
  rw [← Bof_m (V := V) (b := b), setc_self, I.sd]
end
/-- the columns of a game's first table -/
structure Cols (m n : Nat) (A : Nat → Nat → Int) (V : Nat → Nat → Int) : Prop where
  mp : 0 < m
  np : 0 < n
  ap : ∀ i j, i < m → j < n → 1 ≤ A i j
  c1 : ∀ j p, j < n → p < m → V j p = A p j
  c1m : ∀ j, j < n → V j m = -1
  c2 : ∀ i, i < m → ∀ p, p < m + 1 → V (n + i) p = ev i p
  c3 : ∀ p, p < m → V (n + m) p = 1
  c3m : V (n + m) m = 0
section
variable {m n : Nat} {A V : Nat → Nat → Int} {b : Nat → Nat} {T : Nat → Nat → Int} {s : Int}
theorem Cols.nonneg (C : Cols m n A V) {j p : Nat} (hj : j < n + m) (hp : p < m) : 0 ≤ V j p := by
  by_cases h : j < n
  · rw [C.c1 j p h hp]
    have := C.ap p j hp h
    omega
  · have e : j = n + (j - n) := by omega
    rw [e, C.c2 (j - n) (by omega) p (by omega)]
    unfold ev
    split <;> omega
theorem Cols.some_pos (C : Cols m n A V) {j : Nat} (hj : j < n + m) : ∃ p, p < m ∧ 0 < V j p := by
  by_cases h : j < n
  · refine ⟨0, C.mp, ?_⟩
    rw [C.c1 j 0 h C.mp]
    have := C.ap 0 j C.mp h
    omega
  · have e : j = n + (j - n) := by omega
    refine ⟨j - n, by omega, ?_⟩
    rw [e, C.c2 (j - n) (by omega) _ (by omega)]
    unfold ev
    rw [if_pos (by omega)]
    omega
/-- some row bounds each column -/
theorem Inv.bounded (I : Inv m n V b T s) (C : Cols m n A V) {c : Nat} (hc : c < n + m) : ∃ r, r < m ∧ 0 < T r c := by
  obtain ⟨p, hp, vp⟩ := C.some_pos hc
  have e := I.sol c p (by omega) (by omega)
  have sp := I.pos
  have l : 0 < s * V c p := Int.mul_pos sp vp
  rw [e] at l
  have e2 : sm (m + 1) (fun k => T k c * Bof m V b k p) = sm m (fun k => T k c * V (b k) p) := by
    show sm m (fun k => T k c * Bof m V b k p) + T m c * Bof m V b m p = _
    rw [Bof_m, show ev m p = 0 from if_neg (by omega), Int.mul_zero, Int.add_zero]
    exact sm_congr fun k hk => by rw [Bof_lt hk]
  rw [e2] at l
  obtain ⟨k, hk, q⟩ := sm_pos_of l
  refine ⟨k, hk, ?_⟩
  have v0 := C.nonneg (I.bl k hk) hp
  rcases (show 0 < T k c ∨ T k c ≤ 0 by omega) with h | h
  · exact h
  · have := Int.mul_nonpos_of_nonpos_of_nonneg h v0
    omega
/-- the first table -/
theorem Cols.start (C : Cols m n A V) {T : Nat → Nat → Int} (hT : ∀ i j, i < m + 1 → j < n + m + 1 → T i j = V j i) : Inv m n V (fun k => n + k) T 1 := by
  have hB : ∀ k p, k < m + 1 → p < m + 1 → Bof m V (fun k => n + k) k p = ev k p := fun k p hk hp => by
    by_cases h : k < m
    · rw [Bof_lt h]
      exact C.c2 k h p hp
    · have e : k = m := by omega
      subst e
      rw [Bof_m]
  refine ⟨by omega, (det_one fun a p ha hp => ?_).symm, fun i j hi hj => ?_, fun j p hj hp => ?_, fun k hk => (by show n + k < n + m; omega), fun i hi => ?_⟩
  · rw [hB a p ha hp]
    unfold ev
    by_cases h : a = p
    · rw [if_pos h, if_pos h.symm]
    · rw [if_neg h, if_neg (Ne.symm h)]
  · rw [hT i j hi hj]
    have e : det (m + 1) (setc (Bof m V fun k => n + k) i (V j)) = det (m + 1) (setc (fun k => ev k) i (fun p => sm (m + 1) (fun t => V j t * ev t p))) := det_congr fun a p ha hp => by
      unfold setc
      by_cases h : a = i
      · rw [if_pos h, if_pos h]
        show V j p = sm (m + 1) fun t => V j t * ev t p
        rw [sm_one hp fun t _ ne => ?_]
        · unfold ev
          rw [if_pos rfl, Int.mul_one]
        · unfold ev
          rw [if_neg (Ne.symm ne), Int.mul_zero]
      · rw [if_neg h, if_neg h, hB a p ha hp]
    rw [e, det_sum _ hi, sm_one hi fun t ht ne => ?_]
    · have e1 : setc (fun k => ev k) i (ev i) = fun k => ev k := setc_self (fun k => ev k) i
      rw [e1, det_one fun a p _ _ => ?_, Int.mul_one]
      unfold ev
      by_cases h : a = p
      · rw [if_pos h, if_pos h.symm]
      · rw [if_neg h, if_neg (Ne.symm h)]
    · rw [det_eq _ hi ht (Ne.symm ne) fun p _ => by rw [setc_same, setc_ne ne], Int.mul_zero]
  · rw [sm_one hp fun t ht ne => ?_]
    · rw [hB p p hp hp, hT p j hp hj]
      unfold ev
      rw [if_pos rfl]
      omega
    · rw [hB t p ht hp]
      unfold ev
      rw [if_neg (Ne.symm ne), Int.mul_zero]
  · rw [hT i (n + m) (by omega) (by omega), C.c3 i hi]
    omega
end
end Gm
namespace Gm
/-- one step of the method with Bland's choices -/
structure Step (m n : Nat) (b : Nat → Nat) (T : Nat → Nat → Int) (c r : Nat) : Prop where
  cl : c < n + m
  neg : T m c < 0
  low : ∀ j, j < c → 0 ≤ T m j
  rat : Ratio m n b T c r
structure Run (m n : Nat) (V : Nat → Nat → Int) where
  b : Nat → Nat → Nat
  T : Nat → Nat → Nat → Int
  s : Nat → Int
  c : Nat → Nat
  r : Nat → Nat
  start : Inv m n V (b 0) (T 0) (s 0)
  step : ∀ t, Step m n (b t) (T t) (c t) (r t)
  nb : ∀ t, b (t + 1) = upb (b t) (r t) (c t)
  nT : ∀ t i j, i < m + 1 → j < n + m + 1 → T (t + 1) i j = piv (T t) (r t) (c t) (s t) i j
  ns : ∀ t, s (t + 1) = T t (r t) (c t)
section
variable {m n : Nat} {V : Nat → Nat → Int} (R : Run m n V)
theorem Run.inv : ∀ t, Inv m n V (R.b t) (R.T t) (R.s t)
  | 0 => R.start
  | t + 1 => by
    rw [R.nb, R.ns]
    exact (Run.inv t).pivot (R.step t).cl (R.step t).rat (R.nT t)
def Run.basic (t j : Nat) : Prop := ∃ k, k < m ∧ R.b t k = j
theorem Run.basic_zero {t j : Nat} (h : R.basic t j) : R.T t m j = 0 := by
  obtain ⟨k, hk, rfl⟩ := h
  rw [(R.inv t).own (by omega) hk, if_neg (by omega)]
theorem Run.enter_not (t : Nat) : ¬ R.basic t (R.c t) := fun h => by
  have := R.basic_zero h
  have := (R.step t).neg
  omega
theorem Run.enter_in (t : Nat) : R.basic (t + 1) (R.c t) := by
  refine ⟨R.r t, (R.step t).rat.lt, ?_⟩
  rw [R.nb]
  unfold upb
  rw [if_pos rfl]
theorem Run.entered {t j : Nat} (h : ¬ R.basic t j) (h' : R.basic (t + 1) j) : j = R.c t := by
  obtain ⟨k, hk, e⟩ := h'
  rw [R.nb] at e
  unfold upb at e
  split at e
  · exact e.symm
  · exact absurd ⟨k, hk, e⟩ h
theorem Run.left {t j : Nat} (h : R.basic t j) (h' : ¬ R.basic (t + 1) j) : j = R.b t (R.r t) := by
  obtain ⟨k, hk, e⟩ := h
  by_cases q : k = R.r t
  · rw [← q, e]
  · refine absurd ⟨k, hk, ?_⟩ h'
    rw [R.nb]
    unfold upb
    rw [if_neg q, e]
/-- the objective -/
def Run.o (t : Nat) : Int := R.T t m (n + m)
theorem Run.o_step (t : Nat) : R.o (t + 1) * R.s t = R.o t * R.s (t + 1) - R.T t m (R.c t) * R.T t (R.r t) (n + m) := by
  have h := (R.step t)
  have e := (R.inv t).piv_mul (r := R.r t) (c := R.c t) (i := m) (j := n + m) h.rat.lt (by have := h.cl; omega) (by omega) (by omega) (by have := h.rat.lt; omega)
  unfold Run.o
  rw [R.nT t m (n + m) (by omega) (by omega), R.ns, Int.mul_comm, e]
theorem mul_le_cancel {a b c : Int} (hc : 0 < c) (h : a * c ≤ b * c) : a ≤ b := Int.le_of_mul_le_mul_right h hc
theorem Run.o_mono (t : Nat) : ∀ d, R.o t * R.s (t + d) ≤ R.o (t + d) * R.s t
  | 0 => Int.le_refl _
  | d + 1 => by
    have ih := Run.o_mono t d
    have e := R.o_step (t + d)
    have st := R.step (t + d)
    have f := (R.inv (t + d)).feas (R.r (t + d)) st.rat.lt
    have g : R.T (t + d) m (R.c (t + d)) * R.T (t + d) (R.r (t + d)) (n + m) ≤ 0 := Int.mul_nonpos_of_nonpos_of_nonneg (Int.le_of_lt st.neg) f
    have p0 := (R.inv t).pos
    have p1 := (R.inv (t + d)).pos
    have p2 := (R.inv (t + d + 1)).pos
    show R.o t * R.s (t + d + 1) ≤ R.o (t + d + 1) * R.s t
    refine mul_le_cancel p1 ?_
    have a1 : R.o t * R.s (t + d) * R.s (t + d + 1) ≤ R.o (t + d) * R.s t * R.s (t + d + 1) := Int.mul_le_mul_of_nonneg_right ih (by omega)
    have a2 : (R.o (t + d) * R.s (t + d + 1)) * R.s t ≤ (R.o (t + d + 1) * R.s (t + d)) * R.s t := Int.mul_le_mul_of_nonneg_right (by omega) (by omega)
    grind
/-- a cycle -/
structure Run.Cyc (a e : Nat) : Prop where
  lt : a < e
  same : ∀ k, k < m → R.b a k = R.b e k
variable {a e : Nat}
theorem Run.Cyc.bof {R : Run m n V} (C : R.Cyc a e) : Bof m V (R.b a) = Bof m V (R.b e) := by
  funext k p
  unfold Bof
  by_cases h : k < m
  · rw [if_pos h, if_pos h, C.same k h]
  · rw [if_neg h, if_neg h]
theorem Run.Cyc.s {R : Run m n V} (C : R.Cyc a e) : R.s a = R.s e := by rw [(R.inv a).sd, (R.inv e).sd, C.bof]
theorem Run.Cyc.o {R : Run m n V} (C : R.Cyc a e) : R.o a = R.o e := by
  unfold Run.o
  rw [(R.inv a).ent _ _ (by omega) (by omega), (R.inv e).ent _ _ (by omega) (by omega), C.bof]
theorem Run.Cyc.basic {R : Run m n V} (C : R.Cyc a e) (j : Nat) : R.basic a j ↔ R.basic e j := by
  constructor
  · rintro ⟨k, hk, q⟩
    exact ⟨k, hk, by rw [← C.same k hk]; exact q⟩
  · rintro ⟨k, hk, q⟩
    exact ⟨k, hk, by rw [C.same k hk]; exact q⟩
/-- within a cycle every pivot is degenerate -/
theorem Run.Cyc.deg {R : Run m n V} (C : R.Cyc a e) {t : Nat} (h1 : a ≤ t) (h2 : t < e) : R.T t (R.r t) (n + m) = 0 := by
  have f := (R.inv t).feas (R.r t) (R.step t).rat.lt
  have u1 := R.o_mono a (t - a)
  have u2 := R.o_mono (t + 1) (e - (t + 1))
  rw [show a + (t - a) = t by omega] at u1
  rw [show t + 1 + (e - (t + 1)) = e by omega, ← C.s, ← C.o] at u2
  have e1 := R.o_step t
  have pa := (R.inv a).pos
  have pt := (R.inv t).pos
  have pn := (R.inv (t + 1)).pos
  have ng := (R.step t).neg
  -- o (t+1) * s t ≤ o t * s (t+1)
  have k1 : R.o (t + 1) * R.s t ≤ R.o t * R.s (t + 1) := by
    refine mul_le_cancel pa ?_
    have a1 : R.o (t + 1) * R.s a * R.s t ≤ R.o a * R.s (t + 1) * R.s t := Int.mul_le_mul_of_nonneg_right u2 (by omega)
    have a2 : R.o a * R.s t * R.s (t + 1) ≤ R.o t * R.s a * R.s (t + 1) := Int.mul_le_mul_of_nonneg_right u1 (by omega)
    grind
  rw [e1] at k1
  rcases (show R.T t (R.r t) (n + m) = 0 ∨ 0 < R.T t (R.r t) (n + m) by omega) with h | h
  · exact h
  · have : R.T t m (R.c t) * R.T t (R.r t) (n + m) < 0 := Int.mul_neg_of_neg_of_pos ng h
    omega
/-- the value of variable j -/
def Run.x (t j : Nat) : Int := sm m (fun k => if R.b t k = j then R.T t k (n + m) else 0)
theorem Run.x_step {t : Nat} (h : R.T t (R.r t) (n + m) = 0) (j : Nat) : R.x (t + 1) j * R.s t = R.x t j * R.s (t + 1) := by
  unfold Run.x
  rw [← sm_mul', ← sm_mul']
  refine sm_congr fun k hk => ?_
  have st := R.step t
  rw [R.nT t k (n + m) (by omega) (by omega), R.nb]
  unfold upb
  by_cases q : k = R.r t
  · rw [if_pos q, q]
    unfold piv
    rw [if_pos rfl, h]
    split <;> split <;> omega
  · rw [if_neg q]
    have e := (R.inv t).piv_mul (r := R.r t) (c := R.c t) (i := k) (j := n + m) st.rat.lt (by have := st.cl; omega) (by omega) (by omega) q
    rw [h, Int.mul_zero, Int.sub_zero] at e
    by_cases g : R.b t k = j
    · rw [if_pos g, if_pos g, R.ns, Int.mul_comm, e]
    · rw [if_neg g, if_neg g]
      omega
theorem Run.Cyc.x_zero {R : Run m n V} (C : R.Cyc a e) {j : Nat} {u v : Nat} (hu : a ≤ u) (hue : u ≤ e) (hv : a ≤ v) (hve : v ≤ e) (h : R.x u j = 0) : R.x v j = 0 := by
  have st : ∀ t, a ≤ t → t < e → (R.x t j = 0 ↔ R.x (t + 1) j = 0) := fun t h1 h2 => by
    have q := R.x_step (C.deg h1 h2) j
    have p1 := (R.inv t).pos
    have p2 := (R.inv (t + 1)).pos
    constructor
    · intro z
      rw [z, Int.zero_mul] at q
      rcases Int.mul_eq_zero.mp q with w | w <;> omega
    · intro z
      rw [z, Int.zero_mul] at q
      rcases Int.mul_eq_zero.mp q.symm with w | w <;> omega
  have all : ∀ d, a + d ≤ e → (R.x a j = 0 ↔ R.x (a + d) j = 0) := fun d => by
    induction d with
    | zero => intro _; exact Iff.rfl
    | succ d ih => intro hd; exact (ih (by omega)).trans (st (a + d) (by omega) (by omega))
  have e1 := all (u - a) (by omega)
  have e2 := all (v - a) (by omega)
  rw [show a + (u - a) = u by omega] at e1
  rw [show a + (v - a) = v by omega] at e2
  exact e2.mp (e1.mpr h)
theorem Run.x_not {t j : Nat} (h : ¬ R.basic t j) : R.x t j = 0 := sm_zero fun k hk => if_neg fun q => h ⟨k, hk, q⟩
theorem Run.x_row {t k : Nat} (hk : k < m) (h : R.x t (R.b t k) = 0) : R.T t k (n + m) = 0 := by
  have f := (R.inv t).feas k hk
  have g := sm_ge_one (f := fun i => if R.b t i = R.b t k then R.T t i (n + m) else 0) hk fun i hi => by
    try dsimp only
    split
    · exact (R.inv t).feas i hi
    · exact Int.le_refl _
  try dsimp only at g
  rw [if_pos rfl] at g
  have : R.T t k (n + m) ≤ R.x t (R.b t k) := g
  omega
theorem change {P : Nat → Prop} {u : Nat} : ∀ d, P u → ¬ P (u + d) → ∃ t, u ≤ t ∧ t < u + d ∧ P t ∧ ¬ P (t + 1)
  | 0, h, h' => absurd h h'
  | d + 1, h, h' => by
    by_cases q : P (u + d)
    · exact ⟨u + d, by omega, by omega, q, h'⟩
    · obtain ⟨t, h1, h2, h3, h4⟩ := change d h q
      exact ⟨t, h1, by omega, h3, h4⟩
theorem around {P : Nat → Prop} {a e u v : Nat} (hc : P a ↔ P e) (hu : a ≤ u) (hue : u ≤ e) (hv : a ≤ v) (hve : v ≤ e) (pu : P u) (pv : ¬ P v) : ∃ t, a ≤ t ∧ t < e ∧ P t ∧ ¬ P (t + 1) := by
  by_cases pa : P a
  · obtain ⟨t, h1, h2, h3⟩ := change (P := P) (u := a) (v - a) pa (by rw [show a + (v - a) = v by omega]; exact pv)
    exact ⟨t, h1, by omega, h3⟩
  · have pe : ¬ P e := fun q => pa (hc.mpr q)
    obtain ⟨t, h1, h2, h3⟩ := change (P := P) (u := u) (e - u) pu (by rw [show u + (e - u) = e by omega]; exact pe)
    exact ⟨t, by omega, by omega, h3⟩
def Run.fick (a e j : Nat) : Prop := (∃ u, a ≤ u ∧ u ≤ e ∧ R.basic u j) ∧ ∃ v, a ≤ v ∧ v ≤ e ∧ ¬ R.basic v j
theorem greatest {P : Nat → Prop} {j : Nat} (hj : P j) : ∀ d, (∀ i, P i → i < j + d + 1) → ∃ q, P q ∧ ∀ i, P i → i ≤ q
  | 0, h => ⟨j, hj, fun i hi => by have := h i hi; omega⟩
  | d + 1, h => by
    by_cases q : P (j + d + 1)
    · exact ⟨_, q, fun i hi => by have := h i hi; omega⟩
    · refine greatest hj d fun i hi => ?_
      have h1 := h i hi
      rcases (show i = j + d + 1 ∨ i < j + d + 1 by omega) with w | w
      · rw [w] at hi
        exact absurd hi q
      · exact w
theorem Run.basic_lt {t j : Nat} (h : R.basic t j) : j < n + m := by
  obtain ⟨k, hk, rfl⟩ := h
  exact (R.inv t).bl k hk
/-- Bland: no basis comes again -/
theorem Run.no_cyc (C : R.Cyc a e) : False := by
  have lt := C.lt
  -- some variable is fickle
  have f0 : R.fick a e (R.c a) := ⟨⟨a + 1, by omega, by omega, R.enter_in a⟩, ⟨a, by omega, by omega, R.enter_not a⟩⟩
  have fl : ∀ j, R.fick a e j → j < n + m := fun j h => by
    obtain ⟨⟨u, _, _, hb⟩, _⟩ := h
    exact R.basic_lt hb
  obtain ⟨q, fq, top⟩ := greatest (P := R.fick a e) f0 (n + m) fun i hi => by have := fl i hi; omega
  obtain ⟨⟨u, u1, u2, ub⟩, ⟨v, v1, v2, vb⟩⟩ := fq
  obtain ⟨t1, a1, b1, q1, q1'⟩ := around (P := fun t => R.basic t q) (C.basic q) u1 u2 v1 v2 ub vb
  obtain ⟨t2, a2, b2, q2, q2'⟩ := around (P := fun t => ¬ R.basic t q) (not_congr (C.basic q)) v1 v2 u1 u2 vb (fun w => w ub)
  have q2n : R.basic (t2 + 1) q := Classical.not_not.mp q2'
  have e2 : q = R.c t2 := R.entered q2 q2n
  have e1 : q = R.b t1 (R.r t1) := R.left q1 q1'
  have s1 := R.step t1
  have s2 := R.step t2
  have i1 := R.inv t1
  have i2 := R.inv t2
  have rlt := s1.rat.lt
  -- the entering variable at t1
  have fc : R.fick a e (R.c t1) := ⟨⟨t1 + 1, by omega, by omega, R.enter_in t1⟩, ⟨t1, by omega, by omega, R.enter_not t1⟩⟩
  have cq : R.c t1 < q := by
    have h1 := top _ fc
    have h2 : R.c t1 ≠ q := fun w => R.enter_not t1 (by rw [w]; exact q1)
    omega
  have pc : 0 ≤ R.T t2 m (R.c t1) := s2.low _ (by omega)
  have cl := s1.cl
  -- the last row at t2 along the direction at t1
  have key : R.s t1 * R.T t2 m (R.c t1) = sm m (fun k => R.T t1 k (R.c t1) * R.T t2 m (R.b t1 k)) + R.T t1 m (R.c t1) * R.s t2 := by
    rw [i2.row (show m < m + 1 by omega) (show R.c t1 < n + m + 1 by omega), ← sm_mul]
    have z1 : sm (m + 1) (fun p => R.s t1 * (V (R.c t1) p * det (m + 1) (setc (Bof m V (R.b t2)) m (ev p)))) = sm (m + 1) (fun p => sm (m + 1) (fun k => R.T t1 k (R.c t1) * (Bof m V (R.b t1) k p * det (m + 1) (setc (Bof m V (R.b t2)) m (ev p))))) := sm_congr fun p hp => by
      rw [← Int.mul_assoc, i1.sol (R.c t1) p (by omega) hp, ← sm_mul']
      exact sm_congr fun k _ => Int.mul_assoc _ _ _
    rw [z1, sm_comm]
    show sm m _ + _ = _
    dsimp only
    have z2 : sm (m + 1) (fun p => R.T t1 m (R.c t1) * (Bof m V (R.b t1) m p * det (m + 1) (setc (Bof m V (R.b t2)) m (ev p)))) = R.T t1 m (R.c t1) * R.s t2 := by
      rw [sm_mul, sm_one (show m < m + 1 by omega) fun p _ ne => ?_]
      · rw [Bof_m, i2.ym, show ev m m = 1 from if_pos rfl, Int.one_mul]
      · rw [Bof_m, show ev m p = 0 from if_neg ne, Int.zero_mul]
    rw [z2]
    congr 1
    refine sm_congr fun k hk => ?_
    have bl := i1.bl k hk
    rw [sm_mul, i2.row (show m < m + 1 by omega) (show R.b t1 k < n + m + 1 by omega), Bof_lt hk]
  have l1 : 0 ≤ R.s t1 * R.T t2 m (R.c t1) := Int.mul_nonneg (Int.le_of_lt i1.pos) pc
  have l2 : R.T t1 m (R.c t1) * R.s t2 < 0 := Int.mul_neg_of_neg_of_pos s1.neg i2.pos
  obtain ⟨i, hi, pi⟩ := sm_pos_of (show 0 < sm m (fun k => R.T t1 k (R.c t1) * R.T t2 m (R.b t1 k)) by omega)
  -- that variable is fickle
  have nz : R.T t2 m (R.b t1 i) ≠ 0 := fun w => by
    rw [w, Int.mul_zero] at pi
    exact absurd pi (Int.lt_irrefl _)
  have fi : R.fick a e (R.b t1 i) := ⟨⟨t1, by omega, by omega, ⟨i, hi, rfl⟩⟩, ⟨t2, by omega, by omega, fun w => nz (R.basic_zero w)⟩⟩
  have le := top _ fi
  have lq : R.b t1 i < q := by
    rcases (show R.b t1 i < q ∨ R.b t1 i = q by omega) with w | w
    · exact w
    · exfalso
      have er : i = R.r t1 := i1.inj hi rlt (by rw [w, e1])
      rw [w, er, e2] at pi
      have := Int.mul_neg_of_pos_of_neg s1.rat.pos s2.neg
      omega
  have pn : 0 ≤ R.T t2 m (R.b t1 i) := s2.low _ (by omega)
  have pT : 0 < R.T t1 i (R.c t1) := by
    rcases (show 0 < R.T t1 i (R.c t1) ∨ R.T t1 i (R.c t1) ≤ 0 by omega) with w | w
    · exact w
    · have := Int.mul_nonpos_of_nonpos_of_nonneg w pn
      omega
  have xi : R.T t1 i (n + m) = 0 := by
    refine R.x_row hi (C.x_zero (u := t2) (by omega) (by omega) (by omega) (by omega) (R.x_not fun w => nz (R.basic_zero w)))
  have xr : R.T t1 (R.r t1) (n + m) = 0 := C.deg a1 b1
  have := s1.rat.tie i hi pT (by rw [xi, xr]; omega)
  omega
end
/-! pigeons -/
theorem pigeon : ∀ (K : Nat) (f : Nat → Nat), (∀ i, i ≤ K → f i < K) → ∃ i j, i < j ∧ j ≤ K ∧ f i = f j
  | 0, f, h => absurd (h 0 (Nat.le_refl _)) (Nat.not_lt_zero _)
  | K + 1, f, h => by
    by_cases q : ∃ i, i ≤ K ∧ f i = f (K + 1)
    · obtain ⟨i, hi, e⟩ := q
      exact ⟨i, K + 1, by omega, by omega, e⟩
    · -- move the value K to f (K + 1)
      have ne : ∀ i, i ≤ K → f i ≠ f (K + 1) := fun i hi e => q ⟨i, hi, e⟩
      obtain ⟨i, j, h1, h2, e⟩ := pigeon K (fun i => if f i = K then f (K + 1) else f i) fun i hi => by
        have a := h i (by omega)
        have b := h (K + 1) (by omega)
        have c := ne i hi
        try dsimp only
        split <;> omega
      refine ⟨i, j, h1, by omega, ?_⟩
      have c1 := ne i (by omega)
      have c2 := ne j (by omega)
      try dsimp only at e
      split at e <;> split at e <;> omega
def code (D : Nat) (b : Nat → Nat) : Nat → Nat
  | 0 => 0
  | k + 1 => code D b k * D + b k
theorem code_lt {D : Nat} {b : Nat → Nat} : ∀ {k : Nat}, (∀ i, i < k → b i < D) → code D b k < D ^ k
  | 0, _ => by show 0 < 1; omega
  | k + 1, h => by
    have ih := code_lt (D := D) (b := b) (k := k) fun i hi => h i (by omega)
    have hk := h k (by omega)
    show code D b k * D + b k < D ^ k * D
    have : (code D b k + 1) * D ≤ D ^ k * D := Nat.mul_le_mul_right D ih
    rw [Nat.succ_mul] at this
    omega
theorem code_inj {D : Nat} {b b' : Nat → Nat} : ∀ {k : Nat}, (∀ i, i < k → b i < D) → (∀ i, i < k → b' i < D) → code D b k = code D b' k → ∀ i, i < k → b i = b' i
  | 0, _, _, _, i, hi => absurd hi (Nat.not_lt_zero _)
  | k + 1, h, h', e, i, hi => by
    have hk := h k (by omega)
    have hk' := h' k (by omega)
    have e' : code D b k * D + b k = code D b' k * D + b' k := e
    have e1 : b k = b' k := by
      have h1 : ∀ x y : Nat, y < D → (x * D + y) % D = y := fun x y hy => by
        rw [Nat.add_comm, Nat.add_mul_mod_self_right, Nat.mod_eq_of_lt hy]
      have h2 := congrArg (· % D) e'
      try dsimp only at h2
      rw [h1 _ _ hk, h1 _ _ hk'] at h2
      exact h2
    have e2 : code D b k = code D b' k := by
      rw [e1] at e'
      have : code D b k * D = code D b' k * D := by omega
      exact Nat.eq_of_mul_eq_mul_right (by omega) this
    rcases Nat.lt_or_ge i k with w | w
    · exact code_inj (fun i hi => h i (by omega)) (fun i hi => h' i (by omega)) e2 i w
    · rw [show i = k by omega, e1]
/-- the method ends -/
theorem Run.none {m n : Nat} {V : Nat → Nat → Int} (R : Run m n V) : False := by
  obtain ⟨i, j, h1, _, e⟩ := pigeon ((n + m) ^ m) (fun t => code (n + m) (R.b t) m) fun t _ => code_lt fun k hk => (R.inv t).bl k hk
  exact R.no_cyc ⟨h1, code_inj (fun k hk => (R.inv i).bl k hk) (fun k hk => (R.inv j).bl k hk) e⟩
end Gm
namespace Gm
/-! the ratio test, row by row -/
def BestTo (n m : Nat) (b : Nat → Nat) (T : Nat → Nat → Int) (c i : Nat) : Option Nat → Prop
  | none => ∀ k, k < i → T k c ≤ 0
  | some r => r < i ∧ 0 < T r c ∧ ∀ k, k < i → 0 < T k c → T r (n + m) * T k c ≤ T k (n + m) * T r c ∧ (T r (n + m) * T k c = T k (n + m) * T r c → b r ≤ b k)
section
variable {n m : Nat} {b : Nat → Nat} {T : Nat → Nat → Int} {c i : Nat}
theorem best_skip {o : Option Nat} (h : BestTo n m b T c i o) (e : T i c ≤ 0) : BestTo n m b T c (i + 1) o := by
  cases o with
  | none =>
      intro k hk
      rcases Nat.lt_or_ge k i with q | q
      · exact h k q
      · rw [show k = i by omega]; exact e
  | some r =>
    obtain ⟨h1, h2, h3⟩ := h
    refine ⟨by omega, h2, fun k hk hp => ?_⟩
    rcases Nat.lt_or_ge k i with q | q
    · exact h3 k q hp
    · rw [show k = i by omega] at hp
      omega
theorem best_first (h : BestTo n m b T c i none) (e : 0 < T i c) : BestTo n m b T c (i + 1) (some i) := by
  refine ⟨by omega, e, fun k hk hp => ?_⟩
  rcases Nat.lt_or_ge k i with q | q
  · have := h k q
    omega
  · rw [show k = i by omega]
    exact ⟨Int.le_refl _, fun _ => Nat.le_refl _⟩
theorem best_new {r : Nat} (h : BestTo n m b T c i (some r)) (e : 0 < T i c) (w : T i (n + m) * T r c < T r (n + m) * T i c ∨ T i (n + m) * T r c = T r (n + m) * T i c ∧ b i < b r) : BestTo n m b T c (i + 1) (some i) := by
  obtain ⟨h1, h2, h3⟩ := h
  refine ⟨by omega, e, fun k hk hp => ?_⟩
  rcases Nat.lt_or_ge k i with q | q
  · obtain ⟨a1, a2⟩ := h3 k q hp
    have w1 : T i (n + m) * T r c ≤ T r (n + m) * T i c := by omega
    have b1 : T i (n + m) * T r c * T k c ≤ T r (n + m) * T i c * T k c := Int.mul_le_mul_of_nonneg_right w1 (by omega)
    have b2 : T r (n + m) * T k c * T i c ≤ T k (n + m) * T r c * T i c := Int.mul_le_mul_of_nonneg_right a1 (by omega)
    have c1 : T i (n + m) * T r c * T k c = (T i (n + m) * T k c) * T r c := by grind
    have c2 : T r (n + m) * T i c * T k c = T r (n + m) * T k c * T i c := by grind
    have c3 : T k (n + m) * T r c * T i c = (T k (n + m) * T i c) * T r c := by grind
    refine ⟨mul_le_cancel h2 (by omega), fun eq => ?_⟩
    rw [c1, eq] at b1
    have d1 : T r (n + m) * T k c * T i c = T k (n + m) * T r c * T i c := by omega
    have d2 : T i (n + m) * T r c * T k c = T r (n + m) * T i c * T k c := by rw [c1, eq]; omega
    have e1 : T r (n + m) * T k c = T k (n + m) * T r c := Int.eq_of_mul_eq_mul_right (by omega) d1
    have e2 : T i (n + m) * T r c = T r (n + m) * T i c := Int.eq_of_mul_eq_mul_right (by omega) d2
    have := a2 e1
    omega
  · rw [show k = i by omega]
    exact ⟨Int.le_refl _, fun _ => Nat.le_refl _⟩
theorem best_keep {r : Nat} (h : BestTo n m b T c i (some r)) (w : ¬ (T i (n + m) * T r c < T r (n + m) * T i c ∨ T i (n + m) * T r c = T r (n + m) * T i c ∧ b i < b r)) : BestTo n m b T c (i + 1) (some r) := by
  obtain ⟨h1, h2, h3⟩ := h
  refine ⟨by omega, h2, fun k hk hp => ?_⟩
  rcases Nat.lt_or_ge k i with q | q
  · exact h3 k q hp
  · rw [show k = i by omega]
    refine ⟨by omega, fun e => ?_⟩
    rcases (show b r ≤ b i ∨ b i < b r by omega) with z | z
    · exact z
    · exact absurd (.inr ⟨e.symm, z⟩) w
theorem best_end {o : Option Nat} (h : BestTo n m b T c m o) (he : ∃ r, r < m ∧ 0 < T r c) : ∃ r, o = some r ∧ Ratio m n b T c r := by
  cases o with
  | none =>
    obtain ⟨r, h1, h2⟩ := he
    have := h r h1
    omega
  | some r =>
    obtain ⟨h1, h2, h3⟩ := h
    exact ⟨r, rfl, h1, h2, fun k hk hp => (h3 k hk hp).1, fun k hk hp => (h3 k hk hp).2⟩
end
end Gm
namespace Gm
structure Sta where
  b : Nat → Nat
  T : Nat → Nat → Int
  s : Int
def adv (x : Sta) (c r : Nat) : Sta := ⟨upb x.b r c, piv x.T r c x.s, x.T r c⟩
def Go (m n : Nat) (x : Sta) : Prop := ∃ p : Nat × Nat, Step m n x.b x.T p.1 p.2
open Classical in
noncomputable def nxt (m n : Nat) (x : Sta) : Sta := if h : Go m n x then adv x (choose h).1 (choose h).2 else x
section
variable {m n : Nat} {V : Nat → Nat → Int} {x : Sta}
theorem step_one (I : Inv m n V x.b x.T x.s) {c r c' r' : Nat} (S : Step m n x.b x.T c r) (S' : Step m n x.b x.T c' r') : c = c' ∧ r = r' := by
  have e : c = c' := by
    have h1 := S.neg
    have h2 := S'.neg
    rcases Nat.lt_trichotomy c c' with h | h | h
    · have := S'.low c h
      omega
    · exact h
    · have := S.low c' h
      omega
  subst e
  refine ⟨rfl, ?_⟩
  have a1 := S.rat.le r' S'.rat.lt S'.rat.pos
  have a2 := S'.rat.le r S.rat.lt S.rat.pos
  have b1 := S.rat.tie r' S'.rat.lt S'.rat.pos (by omega)
  have b2 := S'.rat.tie r S.rat.lt S.rat.pos (by omega)
  exact I.inj S.rat.lt S'.rat.lt (by omega)
theorem nxt_eq (I : Inv m n V x.b x.T x.s) {c r : Nat} (S : Step m n x.b x.T c r) : nxt m n x = adv x c r := by
  have h : Go m n x := ⟨(c, r), S⟩
  unfold nxt
  rw [dif_pos h]
  obtain ⟨e1, e2⟩ := step_one I (Classical.choose_spec h) S
  rw [e1, e2]
theorem nxt_inv (I : Inv m n V x.b x.T x.s) : Inv m n V (nxt m n x).b (nxt m n x).T (nxt m n x).s := by
  by_cases h : Go m n x
  · obtain ⟨⟨c, r⟩, S⟩ := id h
    rw [nxt_eq I S]
    exact I.pivot S.cl S.rat fun _ _ _ _ => rfl
  · unfold nxt
    rw [dif_neg h]
    exact I
/-- the run -/
noncomputable def tra (m n : Nat) (x : Sta) : Nat → Sta
  | 0 => x
  | t + 1 => nxt m n (tra m n x t)
theorem tra_inv (I : Inv m n V x.b x.T x.s) : ∀ t, Inv m n V (tra m n x t).b (tra m n x t).T (tra m n x t).s
  | 0 => I
  | t + 1 => nxt_inv (tra_inv I t)
theorem tra_end (I : Inv m n V x.b x.T x.s) : ∃ t, ¬ Go m n (tra m n x t) := by
  refine Classical.byContradiction fun h => ?_
  have all : ∀ t, Go m n (tra m n x t) := fun t => Classical.byContradiction fun q => h ⟨t, q⟩
  have ch : ∀ t, ∃ p : Nat × Nat, Step m n (tra m n x t).b (tra m n x t).T p.1 p.2 := all
  refine Run.none (m := m) (n := n) (V := V) ⟨fun t => (tra m n x t).b, fun t => (tra m n x t).T, fun t => (tra m n x t).s, fun t => (Classical.choose (ch t)).1, fun t => (Classical.choose (ch t)).2, I, fun t => Classical.choose_spec (ch t), fun t => ?_, fun t i j _ _ => ?_, fun t => ?_⟩
  all_goals
    have e : tra m n x (t + 1) = adv (tra m n x t) (Classical.choose (ch t)).1 (Classical.choose (ch t)).2 := nxt_eq (tra_inv I t) (Classical.choose_spec (ch t))
    try dsimp only
    rw [e]
    rfl
theorem tra_stay {t : Nat} (h : ¬ Go m n (tra m n x t)) : ∀ d, tra m n x (t + d) = tra m n x t
  | 0 => rfl
  | d + 1 => by
    show nxt m n (tra m n x (t + d)) = _
    rw [tra_stay h d]
    unfold nxt
    rw [dif_neg h]
/-- a step is taken ahead of the end alone -/
theorem tra_lt {t u : Nat} (h : ¬ Go m n (tra m n x t)) (g : Go m n (tra m n x u)) : u < t := by
  rcases Nat.lt_or_ge u t with q | q
  · exact q
  · have e := tra_stay h (u - t)
    rw [show t + (u - t) = u by omega] at e
    rw [e] at g
    exact absurd g h
end
/-! the game -/
structure Sol (m n : Nat) (A : Nat → Nat → Int) (L v : Int) (c d : Nat → Int) : Prop where
  Lp : 0 < L
  cn : ∀ i, i < m → 0 ≤ c i
  cs : sm m c = L
  dn : ∀ j, j < n → 0 ≤ d j
  ds : sm n d = L
  row : ∀ j, j < n → v ≤ sm m (fun i => c i * A i j)
  col : ∀ i, i < m → sm n (fun j => d j * A i j) ≤ v
theorem sm_mul_le {k : Nat} {f g : Nat → Int} {u : Int} (hf : ∀ i, i < k → 0 ≤ f i) (hg : ∀ i, i < k → u ≤ g i) : u * sm k f ≤ sm k (fun i => f i * g i) := by
  rw [← sm_mul]
  refine sm_le fun i hi => ?_
  rw [Int.mul_comm]
  exact Int.mul_le_mul_of_nonneg_left (hg i hi) (hf i hi)
theorem sm_mul_ge {k : Nat} {f g : Nat → Int} {u : Int} (hf : ∀ i, i < k → 0 ≤ f i) (hg : ∀ i, i < k → g i ≤ u) : sm k (fun i => f i * g i) ≤ u * sm k f := by
  rw [← sm_mul]
  refine sm_le fun i hi => ?_
  rw [Int.mul_comm u]
  exact Int.mul_le_mul_of_nonneg_left (hg i hi) (hf i hi)
theorem sm_swap (m n : Nat) (a b : Nat → Int) (A : Nat → Nat → Int) : sm n (fun j => b j * sm m (fun i => a i * A i j)) = sm m (fun i => a i * sm n (fun j => b j * A i j)) := by
  have e1 : sm n (fun j => b j * sm m (fun i => a i * A i j)) = sm n (fun j => sm m (fun i => a i * (b j * A i j))) := sm_congr fun j _ => by
    rw [← sm_mul]
    exact sm_congr fun i _ => by rw [Int.mul_left_comm]
  have e2 : sm m (fun i => a i * sm n (fun j => b j * A i j)) = sm m (fun i => sm n (fun j => a i * (b j * A i j))) := sm_congr fun i _ => by
    rw [← sm_mul]
  rw [e1, e2, sm_comm]
theorem sm_neg (f : Nat → Int) (k : Nat) : sm k (fun i => - f i) = - sm k f := by
  have e : sm k (fun i => - f i) = sm k (fun i => (-1) * f i) := sm_congr fun i _ => by omega
  rw [e, sm_mul]
  omega
/-- the value of a game turned over -/
theorem Sol.turned {m n : Nat} {A : Nat → Nat → Int} {L v L' v' : Int} {c d c' d' : Nat → Int} (S : Sol m n A L v c d) (S' : Sol n m (fun j i => - A i j) L' v' c' d') : v' * L = - v * L' := by
  have neg : ∀ (k : Nat) (f g : Nat → Int), sm k (fun i => f i * - g i) = - sm k (fun i => f i * g i) := fun k f g => by
    rw [← sm_neg]
    exact sm_congr fun i _ => by rw [Int.mul_neg]
  have a1 : v * L' ≤ sm n (fun j => c' j * sm m (fun i => c i * A i j)) := by rw [← S'.cs]; exact sm_mul_le S'.cn S.row
  have a2 : sm m (fun i => c i * sm n (fun j => c' j * A i j)) ≤ (- v') * L := by
    rw [← S.cs]
    refine sm_mul_ge S.cn fun i hi => ?_
    have := S'.row i hi
    rw [neg] at this
    omega
  rw [sm_swap] at a1
  have b1 : sm m (fun i => d' i * sm n (fun j => d j * A i j)) ≤ v * L' := by rw [← S'.ds]; exact sm_mul_ge S'.dn S.col
  have b2 : (- v') * L ≤ sm n (fun j => d j * sm m (fun i => d' i * A i j)) := by
    rw [← S.ds]
    refine sm_mul_le S.dn fun j hj => ?_
    have := S'.col j hj
    rw [neg] at this
    omega
  rw [sm_swap] at b2
  have e1 : (- v') * L = - (v' * L) := Int.neg_mul _ _
  have e2 : (- v) * L' = - (v * L') := Int.neg_mul _ _
  omega
/-- the amounts of the columns, after k rows -/
def dv (n m : Nat) (b : Nat → Nat) (T : Nat → Nat → Int) (k j : Nat) : Int := sm k (fun i => if b i = j then T i (n + m) else 0)
section
variable {m n : Nat} {A V : Nat → Nat → Int} {b : Nat → Nat} {T : Nat → Nat → Int} {s : Int}
theorem Inv.dv_new (I : Inv m n V b T s) {k : Nat} (hk : k < m) : dv n m b T (k + 1) (b k) = T k (n + m) := by
  show sm k _ + (if b k = b k then T k (n + m) else 0) = _
  rw [if_pos rfl, sm_zero fun i hi => if_neg fun e => ?_, Int.zero_add]
  have := I.inj (by omega) hk e
  omega
theorem dv_old {k j : Nat} (h : b k ≠ j) : dv n m b T (k + 1) j = dv n m b T k j := by
  show sm k _ + (if b k = j then T k (n + m) else 0) = _
  rw [if_neg h, Int.add_zero]
  rfl
theorem Inv.dv_nonneg (I : Inv m n V b T s) (j : Nat) : 0 ≤ dv n m b T m j := sm_nonneg fun i hi => by
  split
  · exact I.feas i hi
  · exact Int.le_refl _
/-- sums over the columns are sums over the rows whose head is a column -/
theorem dv_sum (g : Nat → Int) : sm n (fun j => dv n m b T m j * g j) = sm m (fun k => if b k < n then T k (n + m) * g (b k) else 0) := by
  have e1 : sm n (fun j => dv n m b T m j * g j) = sm n (fun j => sm m (fun k => (if b k = j then T k (n + m) else 0) * g j)) := sm_congr fun j _ => by
    unfold dv
    rw [← sm_mul']
  rw [e1, sm_comm]
  refine sm_congr fun k hk => ?_
  by_cases h : b k < n
  · rw [if_pos h, sm_one h fun j _ ne => by rw [if_neg (Ne.symm ne), Int.zero_mul], if_pos rfl]
  · rw [if_neg h]
    exact sm_zero fun j hj => by rw [if_neg (by omega), Int.zero_mul]
/-- at the end -/
theorem Inv.sol_of (I : Inv m n V b T s) (C : Cols m n A V) (opt : ∀ j, j < n + m → 0 ≤ T m j) :
    Sol m n A (T m (n + m)) s (fun i => T m (n + i)) (fun j => dv n m b T m j) := by
  have sp := I.pos
  -- the last row by its slack columns
  have ycol : ∀ p, p < m → det (m + 1) (setc (Bof m V b) m (ev p)) = T m (n + p) := fun p hp => by
    rw [I.ent m (n + p) (by omega) (by omega)]
    refine det_congr fun a q _ hq => ?_
    unfold setc
    by_cases h : a = m
    · rw [if_pos h, if_pos h, C.c2 p hp q hq]
    · rw [if_neg h, if_neg h]
  have row : ∀ j, j < n + m + 1 → T m j = sm m (fun p => V j p * T m (n + p)) + V j m * s := fun j hj => by
    rw [I.row (show m < m + 1 by omega) hj]
    show sm m _ + V j m * det (m + 1) (setc (Bof m V b) m (ev m)) = _
    rw [I.ym]
    congr 1
    exact sm_congr fun p hp => by rw [ycol p hp]
  have L1 : T m (n + m) = sm m (fun i => T m (n + i)) := by
    rw [row (n + m) (by omega), C.c3m, Int.zero_mul, Int.add_zero]
    exact sm_congr fun p hp => by rw [C.c3 p hp, Int.one_mul]
  have hrow : ∀ j, j < n → s ≤ sm m (fun i => T m (n + i) * A i j) := fun j hj => by
    have h := opt j (by omega)
    rw [row j (by omega), C.c1m j hj] at h
    have e : sm m (fun p => V j p * T m (n + p)) = sm m (fun i => T m (n + i) * A i j) := sm_congr fun p hp => by rw [C.c1 j p hj hp, Int.mul_comm]
    rw [e] at h
    omega
  -- the last column by the basis
  have colp : ∀ p, p < m → s = sm m (fun k => T k (n + m) * V (b k) p) := fun p hp => by
    have h := I.sol (n + m) p (by omega) (by omega)
    rw [C.c3 p hp, Int.mul_one] at h
    rw [h]
    show sm m _ + T m (n + m) * Bof m V b m p = _
    rw [Bof_m, show ev m p = 0 from if_neg (by omega), Int.mul_zero, Int.add_zero]
    exact sm_congr fun k hk => by rw [Bof_lt hk]
  have colm : T m (n + m) = sm m (fun k => if b k < n then T k (n + m) * 1 else 0) := by
    have h := I.sol (n + m) m (by omega) (by omega)
    rw [C.c3m, Int.mul_zero] at h
    have h2 : (0 : Int) = sm m (fun k => T k (n + m) * Bof m V b k m) + T m (n + m) * Bof m V b m m := h
    rw [Bof_m, show ev m m = 1 from if_pos rfl, Int.mul_one] at h2
    have e : sm m (fun k => T k (n + m) * Bof m V b k m) = - sm m (fun k => if b k < n then T k (n + m) * 1 else 0) := by
      rw [← sm_neg]
      refine sm_congr fun k hk => ?_
      rw [Bof_lt hk]
      by_cases q : b k < n
      · rw [if_pos q, C.c1m _ q]
        omega
      · have bl := I.bl k hk
        rw [if_neg q, show b k = n + (b k - n) by omega, C.c2 (b k - n) (by omega) m (by omega), show ev (b k - n) m = 0 from if_neg (by omega)]
        omega
    omega
  have dsum : sm n (fun j => dv n m b T m j) = T m (n + m) := by
    rw [colm, ← dv_sum (fun _ => 1)]
    exact sm_congr fun j _ => (Int.mul_one _).symm
  have cn : ∀ i, i < m → 0 ≤ T m (n + i) := fun i hi => opt _ (by omega)
  have Lp : 0 < T m (n + m) := by
    have h0 : 0 ≤ T m (n + m) := by rw [L1]; exact sm_nonneg cn
    rcases (show T m (n + m) = 0 ∨ 0 < T m (n + m) by omega) with z | z
    · exfalso
      have h := hrow 0 C.np
      have e : sm m (fun i => T m (n + i) * A i 0) = 0 := sm_zero fun i hi => by
        have g := sm_ge_one (f := fun i => T m (n + i)) hi cn
        have c0 := cn i hi
        try dsimp only at g
        rw [← L1, z] at g
        rw [show T m (n + i) = 0 by omega, Int.zero_mul]
      omega
    · exact z
  refine ⟨Lp, cn, L1.symm, fun j _ => I.dv_nonneg j, dsum, hrow, fun i hi => ?_⟩
  rw [colp i hi, dv_sum]
  refine sm_le fun k hk => ?_
  by_cases q : b k < n
  · rw [if_pos q, C.c1 _ i q hi]
    exact Int.le_refl _
  · rw [if_neg q]
    exact Int.mul_nonneg (I.feas k hk) (C.nonneg (I.bl k hk) hi)
/-- the numbers stay small -/
theorem Inv.small (I : Inv m n V b T s) {c : Nat} (hV : ∀ j p, j < n + m + 1 → p < m + 1 → (V j p).natAbs ≤ c) (hc : 1 ≤ c) {i j : Nat} (hi : i < m + 1) (hj : j < n + m + 1) : (T i j).natAbs ≤ fct (m + 1) * c ^ (m + 1) := by
  rw [I.ent i j hi hj]
  refine det_bound fun a p ha hp => ?_
  unfold setc
  by_cases h : a = i
  · rw [if_pos h]
    exact hV j p hj hp
  · rw [if_neg h]
    unfold Bof
    by_cases q : a < m
    · rw [if_pos q]
      have := I.bl a q
      exact hV _ p (by omega) hp
    · rw [if_neg q]
      unfold ev
      split <;> omega
theorem Inv.small_s (I : Inv m n V b T s) {c : Nat} (hV : ∀ j p, j < n + m + 1 → p < m + 1 → (V j p).natAbs ≤ c) (hc : 1 ≤ c) : s.natAbs ≤ fct (m + 1) * c ^ (m + 1) := by
  rw [I.sd]
  refine det_bound fun a p ha hp => ?_
  unfold Bof
  by_cases q : a < m
  · rw [if_pos q]
    have := I.bl a q
    exact hV _ p (by omega) hp
  · rw [if_neg q]
    unfold ev
    split <;> omega
end
/-- a solution of the lifted game is one of the game -/
theorem Sol.lower {m n : Nat} {A : Nat → Nat → Int} {L v lift : Int} {c d : Nat → Int} (S : Sol m n (fun i j => A i j + lift) L v c d) : Sol m n A L (v - lift * L) c d := by
  have e : ∀ (k : Nat) (f g : Nat → Int), sm k (fun i => f i * (g i + lift)) = sm k (fun i => f i * g i) + lift * sm k f := fun k f g => by
    rw [← sm_mul, ← sm_add]
    exact sm_congr fun i _ => by rw [Int.mul_add, Int.mul_comm lift]
  refine ⟨S.Lp, S.cn, S.cs, S.dn, S.ds, fun j hj => ?_, fun i hi => ?_⟩
  · have h := S.row j hj
    rw [e m c (fun i => A i j), S.cs] at h
    omega
  · have h := S.col i hi
    rw [e n d (fun j => A i j), S.ds] at h
    omega
end Gm
namespace K53
open PySem PySem.Spec PyProof.Rows L2
/-! ### the text by places -/
def top (i : Nat) : Stmt := PySem.Challenge.pw_dearestshelf_k53_whole_game.main.body.getD i (.Pass ⟨0, 0, 0, 0⟩)
abbrev sRInit : Stmt := inClass (top 9) 0
abbrev sRSub : Stmt := inClass (top 9) 3
abbrev sPivoted : Stmt := top 11
abbrev sCheck : Stmt := top 13
abbrev sEnter : Stmt := top 14
abbrev sLeave : Stmt := top 15
abbrev sSolve : Stmt := top 16
abbrev sCell : Stmt := top 18
abbrev sDraws : Stmt := top 19
abbrev sGame : Stmt := top 20
abbrev sIsInt : Stmt := top 21
abbrev sIsRatio : Stmt := top 22
abbrev sSame : Stmt := top 23
abbrev sPlus : Stmt := top 24
abbrev sBelow : Stmt := top 25
abbrev sIsMix : Stmt := top 26
abbrev sAlike : Stmt := top 27
abbrev sMean : Stmt := top 28
abbrev sLaw : Stmt := top 29
/-! ### a def of the text -/
abbrev FnP (K : PySem.W.Frag) (x : Str) (st : Stmt) (f : Addr) (fd : FuncData) : Prop := FunD K x x (defArgs st) (defBody st) (defScope st) [] [] f fd
/-! ### a Ratio -/
theorem tb_ne : ¬ (("top" : Str) = "bottom") := by decide +kernel
def rf (t b : Int) : List (Str × V) := putF "bottom" (.int b) (putF "top" (.int t) [])
theorem rf_eq (t b : Int) : rf t b = ([("top", V.int t), ("bottom", V.int b)] : List (Str × V)) := by
  show (if ("top" : Str) = "bottom" then [(("top" : Str), V.int b)] else (("top" : Str), V.int t) :: putF "bottom" (V.int b) []) = ([("top", V.int t), ("bottom", V.int b)] : List (Str × V))
  rw [if_neg tb_ne]
  all_goals rfl
theorem rf_top (t b : Int) : (rf t b).lookup ("top" : Str) = some (.int t) := by
  unfold rf
  rw [lookup_putF, if_neg tb_ne, lookup_putF, if_pos rfl]
theorem rf_bottom (t b : Int) : (rf t b).lookup ("bottom" : Str) = some (.int b) := by
  unfold rf
  rw [lookup_putF, if_pos rfl]
/-- a Ratio stands at p -/
def RatAt (C : Addr) (H : Hp) (p : Addr) (t b : Int) : Prop := ∃ dx, H p = some (.ins C dx (rf t b))
def gcdI (t b : Int) : Int := ((Nat.gcd t.natAbs b.natAbs : Nat) : Int)
/-- what the walk asks of the module as the top has made it -/
structure Txt (K : PySem.W.Frag) (mg : Str → Option Value) (C fI fS : Addr) : Prop where
  cl : Cls K C
  nT : NoAttr K C "top"
  nB : NoAttr K C "bottom"
  mgC : mg "Ratio" = some (.ref C)
  mkr : Mk K C fI
  gcd : mg "gcd" = some (.builtin "math.gcd")
  len : mg "len" = none
  int : mg "int" = none
  range : mg "range" = none
  enum : mg "enumerate" = none
  zip : mg "zip" = none
  min : mg "min" = none
  list : mg "list" = none
  isi : mg "isinstance" = none
  bool : mg "bool" = none
  tuple : mg "tuple" = none
  sub : PySem.W.findIn K (.ref C) "__sub__" = some (some (.ref fS))
  subF : PySem.W.isFn K (.ref fS) = true
  rsub : ∃ g : Addr, PySem.W.findIn K (.ref C) "__rsub__" = some (some (.ref g))
  isub : ∃ fo, PySem.W.findIn K (.type "int") "__sub__" = some fo
  irsub : ∃ ro, PySem.W.findIn K (.type "int") "__rsub__" = some ro
  isu : PySem.W.subIn K (.type "int") (.ref C) = some false
  first : PySem.W.selfFirst K C = true
  ca : PySem.W.findIn K (.ref C) "__class__" = some (some (.builtin "object.__class__"))
  cn : PySem.W.specialIn K (.builtin "object.__class__") "__get__" = some (some (.builtin "getset_descriptor.__get__"))
  ct : PySem.W.takesIn K (.builtin "object.__class__") = some true
  cm : PySem.W.mroIn K C (.type "object") = some true
  kC : PySem.W.kitOne K (.ref C) (.ref C) = some true
section
variable {P : Program} {w : World} {K : PySem.W.Frag} {mg : Str → Option Value} {base : Heap} {C fI fS : Addr}
def spRInit (C : Addr) : Sp := fun vs H Q _ => ∃ (p dx : Addr) (t b : Int), vs = [.ref p, .int t, .int b] ∧ H p = some (.ins C dx []) ∧ 0 < b ∧ b.natAbs < 2 ^ 8000 ∧
  Q .non (upd H p (.ins C dx (rf (t / gcdI t b) (b / gcdI t b))))
theorem scRI : FnScope ["self", "top", "bottom", "shared"] ["self", "top", "bottom"] (defScope sRInit) := ⟨rfl, rfl, rfl, by decide +kernel, rfl, by decide +kernel, by decide +kernel⟩
theorem gcd_pos {t b : Int} (h : 0 < b) : 0 < gcdI t b := by
  have : 0 < Nat.gcd t.natAbs b.natAbs := Nat.gcd_pos_of_pos_right _ (by omega)
  unfold gcdI
  omega
theorem gcd_le {t b : Int} (h : 0 < b) : (gcdI t b).natAbs ≤ b.natAbs := by
  have : Nat.gcd t.natAbs b.natAbs ≤ b.natAbs := Nat.gcd_le_right _ (by omega)
  unfold gcdI
  omega
abbrev FnRI (K : PySem.W.Frag) (f : Addr) (fd : FuncData) : Prop := FunD K "__init__" "Ratio.__init__" (defArgs sRInit) (defBody sRInit) (defScope sRInit) [.int 1] [] f fd
theorem ok_rinit {f : Addr} {fd : FuncData} (F : FnRI K f fd) (T : Txt K mg C fI fS) : FnOk P w K mg base CX0 1 f fd ["self", "top", "bottom"] (spRInit C) := by
  refine F.ok scRI (fun vs H Q E h => ?_) (fun cdv A outer s H vs Q E hr h => ?_)
  · obtain ⟨p, dx, t, b, rfl, _⟩ := h
    rfl
  · obtain ⟨p, dx, t, b, rfl, hp, hb, hl, k⟩ := h
    refine ⟨_, PSs.nox (pss_cons (ps_if (pt_cmpR op_eq (pv 2) pe_int (nomark _)) (pss_one ps_never) pss_nil)
      (pss_cons (ps_if (pt_cmpR op_lt (pv 2) pe_int (nomark _)) (pss_one ps_never) pss_nil)
      (pss_cons (ps_set (i := 3) scRI.nd rfl (.inl rfl) (pe_callBfun cr_gcd (by rfl) T.gcd (pa_cons (pv 1) (pa_cons (pv 2) pa_nil))))
      (pss_cons (ps_fld (pv 0) (pe_op op_fdivW (pv 1) (pv 3)) rfl)
      (pss_one (ps_fld (pv 0) (pe_op op_fdivW (pv 2) (pv 3)) rfl)))))), ?_⟩
    have g0 := gcd_pos (t := t) hb
    have gl : (gcdI t b).natAbs < 2 ^ 8000 := Nat.lt_of_le_of_lt (gcd_le hb) hl
    have cd : ∀ i : Int, CDivW i (gcdI t b) := fun i => wide_div g0 gl (by decide) (by decide)
    refine ⟨_, rfl, rfl, _, rfl, ?_⟩
    rw [show decide (V.int b = V.int 0) = false from decide_eq_false (by intro e; injection e with e; omega)]
    refine iteF ⟨_, rfl, _, _, rfl, rfl, _, rfl, ?_⟩
    rw [show decide (b < 0) = false from decide_eq_false (by omega)]
    refine iteF ⟨_, rfl, _, rfl, t, b, rfl, ?_⟩
    refine ⟨_, rfl, _, rfl, _, _, rfl, rfl, cd t, _, rfl, p, C, dx, _, rfl, hp, T.cl, T.nT, (by show 0 < 1000; decide), ?_⟩
    refine ⟨_, rfl, _, rfl, _, _, rfl, rfl, cd b, _, rfl, p, C, dx, _, rfl, upd_same, T.cl, T.nB, (by show 1 < 1000; decide), ?_⟩
    rw [upd_upd]
    exact k
end
end K53
namespace K53
open PySem PySem.Spec PyProof.Rows L2
/-! ### x - i, x an instance with its own __sub__, i an int -/
def rSubOwn (C : Addr) (sp : Sp) (E : XK) : R2 := fun x y H Q => ∃ a dx fs i, x = .ref a ∧ y = .int i ∧ H a = some (.ins C dx fs) ∧ sp [.ref a, .int i] H Q E
section
variable {X : Cx} {CX : CXT} {C f : Addr} {fd : FuncData} {ps : List Str} {sp : Sp} {E : XK} {n : Nat} {fo ro : Option Value}
theorem op_subOwn (F : FnOk X.prog X.w X.K X.mg X.base CX n f fd ps sp) (hr : Room n X.A) (hb : Binds X.K fd ps []) (hx : Passes CX X E)
    (hc : PySem.W.selfFirst X.K C = true) (hs : PySem.W.findIn X.K (.ref C) "__sub__" = some (some (.ref f))) (hf : PySem.W.isFn X.K (.ref f) = true) (hrs : ∃ g : Addr, PySem.W.findIn X.K (.ref C) "__rsub__" = some (some (.ref g)))
    (h1 : PySem.W.findIn X.K (.type "int") "__sub__" = some fo) (h2 : PySem.W.findIn X.K (.type "int") "__rsub__" = some ro) (hsub : PySem.W.subIn X.K (.type "int") (.ref C) = some false) :
    OpR X (binaryOp .Sub) (rSubOwn C sp E) := by
  intro pins s σ H x y v u Q I rx ry h
  obtain ⟨a, dx, fs, i, rfl, rfl, ha, q⟩ := h
  cases (show v = Value.ref a from rx)
  obtain ⟨t, e⟩ := (show ∃ t, u = Value.int i t from ry)
  cases e
  obtain ⟨mA, J, _⟩ := ins_get I.hok ha
  obtain ⟨od, J, _⟩ := J.look
  obtain ⟨m, hF⟩ := I.fr
  obtain ⟨g, hg⟩ := hrs
  refine PySem.W.ksp_binT (T := "int") (op := .Sub) hF I.ok.mod.kin J rfl hc hs hf hg (.inr ⟨g, rfl⟩) h1 h2 hsub ?_
  refine wpAny_mono (run_fn (us := [.ref a, .int i t]) (vs := [.ref a, .int i]) (dvs := []) (ds := []) F hr hb .nil hx I (.cons rfl (.cons ⟨t, rfl⟩ .nil)) q) (fun w s' z => ?_) fun _ _ x => x
  obtain ⟨z', H', I', rz, qz⟩ := z
  exact SlX.cmpback rz ⟨z', H', I', rz, qz⟩
end
theorem same_upd {H : Hp} {p : Addr} {o : HO} (h : H p = none) : Same H (upd H p o) := fun b x e => by
  rw [upd_ne (ne_of_none e h)]
  exact e
section
variable {P : Program} {w : World} {K : PySem.W.Frag} {mg : Str → Option Value} {base : Heap} {C fI fS : Addr}
/-- Ratio(t, b) as a new object -/
theorem mk_rat {H : Hp} {Q : VK} {E : XK} {t b : Int} (hb : 0 < b) (hl : b.natAbs < 2 ^ 8000) (k : ∀ q H', Same H H' → H q = none → RatAt C H' q (t / gcdI t b) (b / gcdI t b) → Q (.ref q) H') :
    ∀ x dx, H x = none → H dx = none → dx ≠ x → spRInit C [.ref x, .int t, .int b] (upd (upd H dx (.own x)) x (.ins C dx [])) (fun v H2 => v = .non ∧ Q (.ref x) H2) E := by
  intro x dx nx ndx nex
  refine ⟨x, dx, t, b, rfl, upd_same, hb, hl, rfl, ?_⟩
  rw [upd_upd]
  refine k x _ (fun c o e => ?_) nx ⟨dx, upd_same⟩
  rw [upd_ne (ne_of_none e nx), upd_ne (ne_of_none e ndx)]
  exact e
def spRSub (C : Addr) : Sp := fun vs H Q _ => ∃ (p : Addr) (t b i : Int), vs = [.ref p, .int i] ∧ RatAt C H p t b ∧ 0 < b ∧ b.natAbs < 2 ^ 8000 ∧ i.natAbs < 2 ^ 8000 ∧
  ∀ q H', Same H H' → H q = none → RatAt C H' q ((t - i * b) / gcdI (t - i * b) b) (b / gcdI (t - i * b) b) → Q (.ref q) H'
theorem scRS : FnScope ["self", "other"] ["self", "other"] (defScope sRSub) := ⟨rfl, rfl, rfl, by decide +kernel, rfl, by decide +kernel, by decide +kernel⟩
abbrev FnRS (K : PySem.W.Frag) (f : Addr) (fd : FuncData) : Prop := FunD K "__sub__" "Ratio.__sub__" (defArgs sRSub) (defBody sRSub) (defScope sRSub) [] [] f fd
theorem bI3 {fd : FuncData} (F : FnRI K fI fd) : ∃ ds, Vals ([] : List V) ds ∧ Binds K fd ["self", "top", "bottom"] ds :=
  FunD.binds1 F 3 1 (List.cons_ne_nil _ _) rfl fun T kV doc pm an cdv ct us its hl hi => match us, hl, its, hi with | [_, _, _], _, [_], _ => ⟨_, rfl, rfl⟩
theorem bI2 {fd : FuncData} (F : FnRI K fI fd) : ∃ ds, Vals [V.int 1] ds ∧ Binds K fd ["self", "top", "bottom"] ds :=
  FunD.binds1 F 2 0 (List.cons_ne_nil _ _) rfl fun T kV doc pm an cdv ct us its hl hi => match us, hl, its, hi with | [_, _], _, [_], _ => ⟨_, rfl, rfl⟩
theorem kit_int_int : PySem.W.kitOne K (.type "int") (.type "int") = some true := by rfl
theorem ok_rsub {f fi : Addr} {fd fdI : FuncData} (F : FnRS K f fd) (T : Txt K mg C fI fS) (FI : FnRI K fI fdI) : FnOk P w K mg base CX0 3 f fd ["self", "other"] (spRSub C) := by
  have GI : FnOk P w K mg base CX0 1 fI fdI ["self", "top", "bottom"] (spRInit C) := ok_rinit FI T
  refine F.ok scRS (fun vs H Q E h => ?_) (fun cdv A outer s H vs Q E hr h => ?_)
  · obtain ⟨p, t, b, i, rfl, _⟩ := h
    rfl
  · obtain ⟨p, t, b, i, rfl, ⟨dx, hp⟩, hb, hl, hil, k⟩ := h
    obtain ⟨ds3, hd3, hb3⟩ := bI3 FI
    refine ⟨_, PSs.nox (pss_cons (ps_if (pt_val (pe_callB call_isi (by rfl) T.isi (by decide +kernel) (pa_cons (pv 1) (pa_cons (pe_bltn (v := .ty "int") (by rfl) T.int (by decide +kernel) rfl) pa_nil))))
        (pss_one (ps_ret (pe_make T.mkr GI hr rfl T.mgC hb3 hd3 pass0 (pa_cons (pe_op op_sub (pe_fld (pv 0) rfl) (pe_op op_mulW (pv 1) (pe_fld (pv 0) rfl))) (pa_cons (pe_fld (pv 0) rfl) pa_nil))))) pss_nil)
      (pss_cons ps_never (pss_one ps_never))), ?_⟩
    refine ⟨_, rfl, _, _, _, _, true, rfl, .ty _, .base (.int _), kit_int_int, true, rfl, iteT ?_⟩
    refine ⟨_, rfl, p, C, dx, _, _, rfl, hp, T.cl, T.nT, rf_top _ _, _, rfl, _, rfl, p, C, dx, _, _, rfl, hp, T.cl, T.nB, rf_bottom _ _, _, _, rfl, rfl, wide_mul hil hl (by decide) (by decide) (by decide), _, _, rfl, rfl, ?_⟩
    refine ⟨_, rfl, p, C, dx, _, _, rfl, hp, T.cl, T.nB, rf_bottom _ _, ?_⟩
    exact mk_rat hb hl k
end
end K53
namespace K53
open PySem PySem.Spec PyProof.Rows L2
/-! ### lists by a function -/
def rl (n : Nat) (f : Nat → V) : List V := (List.range n).map f
theorem rl_len (n : Nat) (f : Nat → V) : (rl n f).length = n := by unfold rl; simp
theorem rl_get {n i : Nat} {f : Nat → V} (h : i < n) : (rl n f)[i]? = some (f i) := by unfold rl; simp [h]
theorem rl_none {n i : Nat} {f : Nat → V} (h : n ≤ i) : (rl n f)[i]? = none := by unfold rl; simp [h]
theorem rl_zero (f : Nat → V) : rl 0 f = [] := rfl
theorem rl_succ (n : Nat) (f : Nat → V) : rl (n + 1) f = rl n f ++ [f n] := by unfold rl; rw [List.range_succ, List.map_append]; rfl
theorem rl_congr {n : Nat} {f g : Nat → V} (h : ∀ i, i < n → f i = g i) : rl n f = rl n g := by
  unfold rl
  refine List.map_congr_left fun i hi => h i (List.mem_range.mp hi)
theorem rl_ext {n : Nat} {f : Nat → V} {xs : List V} (hl : xs.length = n) (h : ∀ i, i < n → xs[i]? = some (f i)) : xs = rl n f := by
  refine List.ext_getElem? fun i => ?_
  by_cases hi : i < n
  · rw [h i hi, rl_get hi]
  · rw [rl_none (by omega), List.getElem?_eq_none (by omega)]
theorem rl_app (a b : Nat) (f g : Nat → V) : rl a f ++ rl b g = rl (a + b) (fun j => if j < a then f j else g (j - a)) := by
  refine rl_ext (by rw [List.length_append, rl_len, rl_len]) fun i hi => ?_
  by_cases h : i < a
  · rw [List.getElem?_append_left (by rw [rl_len]; exact h), rl_get h, if_pos h]
  · rw [List.getElem?_append_right (by rw [rl_len]; omega), rl_len, rl_get (by omega), if_neg h]
theorem rl_set (n j : Nat) (f : Nat → V) (v : V) : (rl n f).set j v = rl n (fun i => if i = j then v else f i) := by
  refine rl_ext (by rw [List.length_set, rl_len]) fun i hi => ?_
  by_cases h : i = j
  · subst h
    rw [if_pos rfl, List.getElem?_set_self (by rw [rl_len]; exact hi)]
  · rw [if_neg h, List.getElem?_set_ne (Ne.symm h), rl_get hi]
theorem rl_one (v : V) : ([v] : List V) = rl 1 (fun _ => v) := rfl
theorem atI_rl {n i : Nat} {f : Nat → V} (h : i < n) : atI (rl n f) (i : Int) = some (f i) := atI_nat (rl_get h)
theorem atI_rlI {n : Nat} {k : Int} {f : Nat → V} (h0 : 0 ≤ k) (h : k < n) : atI (rl n f) k = some (f k.toNat) := by
  have e : k = (k.toNat : Int) := by omega
  rw [e]
  exact atI_rl (by omega)
theorem atI_rl_last (n : Nat) (f : Nat → V) : atI (rl (n + 1) f) (-1) = some (f n) := by
  rw [rl_succ]
  exact atI_last _ _
theorem ixN_nat {n j : Nat} (h : j < n) : ixN n (j : Int) = some j := by
  unfold ixN
  rw [if_pos (by omega), if_pos (by omega), Int.toNat_natCast]
theorem ixN_int {n : Nat} {k : Int} (h0 : 0 ≤ k) (h : k < n) : ixN n k = some k.toNat := by
  unfold ixN
  rw [if_pos h0, if_pos h]
theorem sIx_m1 (n d : Nat) : HT.sIx (n + 1) d (some (-1)) = n := by
  unfold HT.sIx
  simp
  omega
theorem cut_init (n : Nat) (f : Nat → V) : cutV (rl (n + 1) f) none (some (-1)) = rl n f := by
  unfold cutV
  rw [rl_len, sIx_m1, HT.sIx_none]
  refine rl_ext (by rw [List.length_take, List.length_drop, rl_len]; omega) fun i hi => ?_
  rw [List.getElem?_take, if_pos (by omega), List.getElem?_drop, rl_get (by omega), Nat.zero_add]
theorem cut_mid (a n : Nat) (f : Nat → V) : cutV (rl (a + n + 1) f) (some (a : Int)) (some (-1)) = rl n (fun i => f (a + i)) := by
  unfold cutV
  rw [rl_len, sIx_m1, HT.sIx_nat]
  refine rl_ext (by rw [List.length_take, List.length_drop, rl_len]; omega) fun i hi => ?_
  rw [List.getElem?_take, if_pos (by omega), List.getElem?_drop, rl_get (by omega)]
  congr 2
  omega
/-! ### the heap -/
def FL (H : Hp) (a : Addr) (n : Nat) (f : Nat → Int) : Prop := H a = some (.lst (rl n fun j => .int (f j)))
/-- a list of lists -/
structure FM (H : Hp) (a : Addr) (as : Nat → Addr) (N C : Nat) (T : Nat → Nat → Int) : Prop where
  top : H a = some (.lst (rl N fun i => .ref (as i)))
  row : ∀ i, i < N → FL H (as i) C (T i)
theorem FL.same {H H' : Hp} {a : Addr} {n : Nat} {f : Nat → Int} (h : FL H a n f) (s : Same H H') : FL H' a n f := s _ _ h
theorem FL.congr {H : Hp} {a : Addr} {n : Nat} {f g : Nat → Int} (h : FL H a n f) (e : ∀ i, i < n → f i = g i) : FL H a n g := by
  unfold FL at h ⊢
  rw [h, rl_congr fun i hi => by rw [e i hi]]
theorem FM.same {H H' : Hp} {a : Addr} {as : Nat → Addr} {N C : Nat} {T : Nat → Nat → Int} (h : FM H a as N C T) (s : Same H H') : FM H' a as N C T := ⟨s _ _ h.top, fun i hi => (h.row i hi).same s⟩
/-- all but the thing at D stands -/
def But (D : Addr) (H H' : Hp) : Prop := ∀ b o, b ≠ D → H b = some o → H' b = some o
theorem FL.but {D : Addr} {H H' : Hp} {a : Addr} {n : Nat} {f : Nat → Int} (h : FL H a n f) (s : But D H H') (ne : a ≠ D) : FL H' a n f := s _ _ ne h
theorem Same.but {D : Addr} {H H' : Hp} (s : Same H H') : But D H H' := fun b o _ e => s b o e
/-- a comprehension that only makes things: Elt i y H is known of its i-th element -/
theorem lc_gen {J : It} {n : Nat} {G : Hp → Prop} {Y : Nat → Hp → V → Hp → Prop} (w : Walk J n G Y) {g : TG} {tt : TT} {te : TE} {vs : List Nat} {σ : L2.St} {H1 : Hp} {D : Addr} {Qd : Hp → Prop} (Elt : Nat → V → Hp → Prop)
    (hD : H1 D = none) (hn : n ≤ sizeLine) (hm : ∀ j y H H', Elt j y H → But D H H' → Elt j y H') (hG : ∀ H, Same H1 H → G H)
    (hs : ∀ i x H H', i < n → Same H1 H → Y i H x H' → H D ≠ none → ∀ (R : V → Hp → Prop) (Rf : Hp → Prop), (∀ y H4, Elt i y H4 → Same H H4 → R y H4) → g x (wipe σ vs) H' fun σ2 H2 => wipe σ2 vs = wipe σ vs ∧ tt σ2 H2 fun b H3 => if b = true then te σ2 H3 R else Rf H3)
    (hd : ∀ H f, Same H1 H → H D = some (.lst (rl n f)) → (∀ j, j < n → Elt j (f j) H) → Qd H) :
    ∃ W : Nat → Nat → Hp → Prop, (∃ m, W 0 m (upd H1 D (.lst []))) ∧ ∀ i m H, W i m H →
      (J.stop i H ∧ Qd H) ∨ (J.go i H ∧ ∃ Nx : Hp → Prop, (∀ H', Nx H' → ∃ m', m' < m ∧ W (i + 1) m' H') ∧ ∀ x H', J.yld i H x H' → g x (wipe σ vs) H' fun σ2 H2 => wipe σ2 vs = wipe σ vs ∧ tt σ2 H2 fun b H3 =>
        if b = true then te σ2 H3 fun y H4 => ∃ acc, H4 D = some (.lst acc) ∧ acc.length < sizeLine ∧ Nx (upd H4 D (.lst (acc ++ [y]))) else Nx H3) := by
  refine lc_it w (fun i H => Same H1 H ∧ ∃ f, H D = some (.lst (rl i f)) ∧ ∀ j, j < i → Elt j (f j) H) ⟨same_upd hD, fun _ => .non, upd_same, fun j hj => absurd hj (Nat.not_lt_zero _)⟩ (fun i H _ h => hG H h.1) ?_ ?_
  · rintro i x H H' hi ⟨s1, f, hf, he⟩ hy
    refine hs i x H H' hi s1 hy (by rw [hf]; exact fun e => by cases e) _ _ fun y H4 ey s4 => ?_
    refine ⟨rl i f, s4 _ _ hf, by rw [rl_len]; omega, ?_⟩
    have bt : But D H4 (upd H4 D (.lst (rl i f ++ [y]))) := fun b o ne e => by rw [upd_ne ne]; exact e
    refine ⟨fun b o e => ?_, fun j => if j = i then y else f j, ?_, fun j hj => ?_⟩
    · rw [upd_ne (ne_of_none e hD)]
      exact s4 _ _ (s1 _ _ e)
    · rw [upd_same, rl_succ, if_pos rfl, rl_congr fun j hj => if_neg (Nat.ne_of_lt hj)]
    · show Elt j (if j = i then y else f j) _
      by_cases e : j = i
      · rw [if_pos e, e]
        exact hm _ _ _ _ ey bt
      · rw [if_neg e]
        exact hm _ _ _ _ (hm _ _ _ _ (he j (by omega)) (Same.but s4)) bt
  · rintro H ⟨s1, f, hf, he⟩
    exact hd H f s1 hf he
/-- its elements are the values f i -/
theorem lc_val {J : It} {n : Nat} {G : Hp → Prop} {Y : Nat → Hp → V → Hp → Prop} (w : Walk J n G Y) {g : TG} {tt : TT} {te : TE} {vs : List Nat} {σ : L2.St} {H1 : Hp} {D : Addr} {Qd : Hp → Prop} (f : Nat → V)
    (hD : H1 D = none) (hn : n ≤ sizeLine) (hG : ∀ H, Same H1 H → G H)
    (hs : ∀ i x H H', i < n → Same H1 H → Y i H x H' → ∀ (R : V → Hp → Prop) (Rf : Hp → Prop), (∀ H4, Same H H4 → R (f i) H4) → g x (wipe σ vs) H' fun σ2 H2 => wipe σ2 vs = wipe σ vs ∧ tt σ2 H2 fun b H3 => if b = true then te σ2 H3 R else Rf H3)
    (hd : ∀ H, Same H1 H → H D = some (.lst (rl n f)) → Qd H) :
    ∃ W : Nat → Nat → Hp → Prop, (∃ m, W 0 m (upd H1 D (.lst []))) ∧ ∀ i m H, W i m H →
      (J.stop i H ∧ Qd H) ∨ (J.go i H ∧ ∃ Nx : Hp → Prop, (∀ H', Nx H' → ∃ m', m' < m ∧ W (i + 1) m' H') ∧ ∀ x H', J.yld i H x H' → g x (wipe σ vs) H' fun σ2 H2 => wipe σ2 vs = wipe σ vs ∧ tt σ2 H2 fun b H3 =>
        if b = true then te σ2 H3 fun y H4 => ∃ acc, H4 D = some (.lst acc) ∧ acc.length < sizeLine ∧ Nx (upd H4 D (.lst (acc ++ [y]))) else Nx H3) := by
  refine lc_gen w (fun i y _ => y = f i) hD hn (fun _ _ _ _ h _ => h) hG (fun i x H H' hi s1 hy _ R Rf k => hs i x H H' hi s1 hy R Rf fun H4 s4 => k _ _ rfl s4) fun H f' s1 hf he => hd H s1 ?_
  rw [hf, rl_congr he]
end K53
namespace K53
open PySem PySem.Spec PyProof.Rows L2
theorem dI_ne {i j : Int} (h : i ≠ j) : decide (V.int i = V.int j) = false := decide_eq_false (by intro e; injection e with e; exact h e)
theorem dI_eq {i j : Int} (h : i = j) : decide (V.int i = V.int j) = true := decide_eq_true (by rw [h])
theorem rl_at {n i : Nat} {f : Nat → V} {v : V} (e : (rl n f)[i]? = some v) (hi : i < n) : v = f i := Option.some.inj (e.symm.trans (rl_get hi))
theorem len_rl {n : Nat} {f : Nat → V} : ((rl n f).length : Int) = (n : Int) := by rw [rl_len]
section
variable {P : Program} {w : World} {K : PySem.W.Frag} {mg : Str → Option Value} {base : Heap} {C fI fS : Addr}
/-! ### check_game -/
def spCheck : Sp := fun vs H Q _ => ∃ (a : Addr) (as : Nat → Addr) (m n : Nat) (A : Nat → Nat → Int), vs = [.ref a] ∧ FM H a as m n A ∧ 0 < m ∧ 0 < n ∧ m ≤ 1000 ∧ n ≤ 1000 ∧ ∀ H', Same H H' → Q .non H'
theorem scC : FnScope ["rows", "at", "row"] ["rows"] (defScope sCheck) := ⟨rfl, rfl, rfl, by decide +kernel, rfl, by decide +kernel, by decide +kernel⟩
theorem ok_check {f : Addr} {fd : FuncData} (F : FnP K "check_game" sCheck f fd) (T : Txt K mg C fI fS) : FnOk P w K mg base CX0 1 f fd ["rows"] spCheck := by
  refine F.ok scC (fun vs H Q E h => ?_) (fun cdv A outer s H vs Q E hr h => ?_)
  · obtain ⟨a, as, m, n, A, rfl, _⟩ := h
    rfl
  · obtain ⟨a, as, m, n, G, rfl, M, hm, hn, hm2, hn2, k⟩ := h
    refine ⟨_, PSs.nox (pss_cons (ps_if (PW.pt (pw_or (pt_cmpR op_eq (pe_callB call_len_seq (by rfl) T.len PySem.boot_len (pa_cons (pv 0) pa_nil)) pe_int (nomark _))
          (pw_or1 (pt_cmpR op_eq (pe_callB call_len_seq (by rfl) T.len PySem.boot_len (pa_cons (pe_ix ix_list (pv 0) pe_int (fun _ _ => rfl)) pa_nil)) pe_int (nomark _))))) (pss_one ps_never) pss_nil)
      (pss_one (ps_for PassesOwn.never rfl (pi_enum (by rfl) T.enum (pa_cons (pv 0) pa_nil)) (pg_tup rfl (pgs_cons (pg_name (i := 1) scC.nd rfl (.inl rfl)) (pgs_cons (pg_name (i := 2) scC.nd rfl (.inl rfl)) pgs_nil)))
        (pss_one (ps_if (pt_cmpR op_ne (pe_callB call_len_seq (by rfl) T.len PySem.boot_len (pa_cons (pv 2) pa_nil)) (pe_callB call_len_seq (by rfl) T.len PySem.boot_len (pa_cons (pe_ix ix_list (pv 0) pe_int (fun _ _ => rfl)) pa_nil)) (nomark _)) (pss_one ps_never) pss_nil))))), ?_⟩
    refine ⟨.ref a, rfl, a, _, rfl, .inl (SqL.of M.top), rfl, _, rfl, ?_⟩
    rw [len_rl, dI_ne (by omega)]
    refine iteF ⟨.ref a, rfl, a, _, 0, _, rfl, rfl, SqL.of M.top, atI_rl (i := 0) hm, as 0, _, rfl, .inl (SqL.of (M.row 0 hm)), rfl, _, rfl, ?_⟩
    rw [len_rl, dI_ne (by omega)]
    refine iteF ⟨.ref a, rfl, a, _, rfl, SqL.of M.top, ?_⟩
    refine for_it (walk_enum (K := K) (a := a) (xs := rl m fun i => .ref (as i))) (fun i σ H' => ∃ x y, σ = [some (.ref a), x, y] ∧ Same H H') ⟨none, none, rfl, Same.refl _⟩
      (fun i σ H' _ ⟨_, _, _, s⟩ => SqL.of (s _ _ M.top)) ?_ ?_
    · rintro i x σ H1 H2 hi ⟨x1, x2, rfl, s1⟩ ⟨p, u, v, rfl, np, rfl, e1, e2⟩
      rw [rl_len] at hi
      cases Option.some.inj e1
      obtain rfl := rl_at e2 hi
      have s2 : Same H (upd H1 p (.tup [.int (i : Nat), .ref (as i)])) := s1.trans (same_upd np)
      refine ⟨p, _, rfl, SqT.of upd_same, rfl, _, _, rfl, _, _, rfl, rfl, ?_⟩
      refine ⟨_, rfl, as i, _, rfl, .inl (SqL.of (s2 _ _ (M.row i hi))), .ref a, rfl, a, _, 0, _, rfl, rfl, SqL.of (s2 _ _ M.top), atI_rl (i := 0) hm, as 0, _, rfl, .inl (SqL.of (s2 _ _ (M.row 0 hm))), rfl, _, rfl, ?_⟩
      rw [len_rl, len_rl, dI_eq rfl]
      exact iteF ⟨_, _, rfl, s2⟩
    · rintro σ H1 ⟨_, _, rfl, s1⟩
      exact k H1 s1
/-! ### entering_column -/
def ColE (N D : Nat) (T : Nat → Nat → Int) (v : V) : Prop := (v = .non ∧ ∀ j, j < D → 0 ≤ T N j) ∨ ∃ c : Nat, v = .int (c : Int) ∧ c < D ∧ T N c < 0 ∧ ∀ j, j < c → 0 ≤ T N j
def spEnter : Sp := fun vs H Q _ => ∃ (a : Addr) (as : Nat → Addr) (N D : Nat) (T : Nat → Nat → Int), vs = [.ref a] ∧ FM H a as (N + 1) (D + 1) T ∧ D ≤ 1000 ∧
  ∀ H' v, Same H H' → ColE N D T v → Q v H'
theorem scE : FnScope ["table", "column", "number"] ["table"] (defScope sEnter) := ⟨rfl, rfl, rfl, by decide +kernel, rfl, by decide +kernel, by decide +kernel⟩
theorem ok_enter {f : Addr} {fd : FuncData} (F : FnP K "entering_column" sEnter f fd) (T : Txt K mg C fI fS) : FnOk P w K mg base CX0 1 f fd ["table"] spEnter := by
  refine F.ok scE (fun vs H Q E h => ?_) (fun cdv A outer s H vs Q E hr h => ?_)
  · obtain ⟨a, as, N, D, G, rfl, _⟩ := h
    rfl
  · obtain ⟨a, as, N, D, G, rfl, M, hD, k⟩ := h
    refine ⟨_, PSs.nox (pss_cons (ps_for PassesOwn.never rfl (pi_enum (by rfl) T.enum (pa_cons (pe_slice sl_list (pe_ix ix_list (pv 0) (pe_un un_neg pe_int) (fun _ _ => rfl)) po_none (po_some (pe_un un_neg pe_int))) pa_nil))
        (pg_tup rfl (pgs_cons (pg_name (i := 1) scE.nd rfl (.inl rfl)) (pgs_cons (pg_name (i := 2) scE.nd rfl (.inl rfl)) pgs_nil)))
        (pss_one (ps_if (pt_cmpR op_lt (pv 2) pe_int (nomark _)) (pss_one (ps_ret (pv 1))) pss_nil)))
      (pss_one (ps_ret pe_non))), ?_⟩
    refine ⟨.ref a, rfl, 1, rfl, a, _, -1, _, rfl, rfl, SqL.of M.top, atI_rl_last N _, 1, rfl, -1, rfl, as N, _, rfl, SqL.of (M.row N (by omega)), fun p np => ?_⟩
    have ep : cutV (rl (D + 1) fun j => V.int (G N j)) none (some (-1)) = rl D fun j => V.int (G N j) := cut_init D _
    rw [ep]
    refine ⟨p, _, rfl, SqL.of upd_same, ?_⟩
    have s0 : Same H (upd H p (.lst (rl D fun j => V.int (G N j)))) := same_upd np
    refine for_it (walk_enum (K := K) (a := p) (xs := rl D fun j => V.int (G N j))) (fun i σ H' => ∃ x y, σ = [some (.ref a), x, y] ∧ Same H H' ∧ H' p = some (.lst (rl D fun j => V.int (G N j))) ∧ ∀ j, j < i → 0 ≤ G N j)
      ⟨none, none, rfl, s0, upd_same, fun j hj => absurd hj (Nat.not_lt_zero _)⟩ (fun i σ H' _ ⟨_, _, _, _, e, _⟩ => SqL.of e) ?_ ?_
    · rintro i x σ H1 H2 hi ⟨x1, x2, rfl, s1, ep1, h1⟩ ⟨q, u, v, rfl, nq, rfl, e1, e2⟩
      rw [rl_len] at hi
      cases Option.some.inj e1
      obtain rfl := rl_at e2 hi
      have s2 : Same H1 (upd H1 q (.tup [.int (i : Nat), .int (G N i)])) := same_upd nq
      refine ⟨q, _, rfl, SqT.of upd_same, rfl, _, _, rfl, _, _, rfl, rfl, ?_⟩
      refine ⟨_, rfl, _, _, rfl, rfl, _, rfl, ite2 (fun h => ?_) (fun h => ?_)⟩
      · exact ⟨_, rfl, k _ _ (s1.trans s2) (.inr ⟨i, rfl, hi, of_decide_eq_true h, h1⟩)⟩
      · have h0 : 0 ≤ G N i := by
          rcases (show G N i < 0 ∨ 0 ≤ G N i by omega) with z | z
          · exact absurd (decide_eq_true z) h
          · exact z
        refine ⟨_, _, rfl, s1.trans s2, s2 _ _ ep1, fun j hj => ?_⟩
        by_cases e : j = i
        · rw [e]; exact h0
        · exact h1 j (by omega)
    · rintro σ H1 ⟨_, _, rfl, s1, _, h1⟩
      rw [rl_len] at h1
      exact k H1 _ s1 (.inl ⟨rfl, h1⟩)
end
end K53
namespace K53
open PySem PySem.Spec PyProof.Rows L2
section
variable {P : Program} {w : World} {K : PySem.W.Frag} {mg : Str → Option Value} {base : Heap} {C fI fS : Addr}
def bv : Option Nat → V
  | none => .non
  | some r => .int (r : Int)
/-! ### leaving_row -/
def spLeave : Sp := fun vs H Q _ => ∃ (a bs : Addr) (as : Nat → Addr) (m n c : Nat) (b : Nat → Nat) (T : Nat → Nat → Int), vs = [.ref a, .ref bs, .int (c : Int)] ∧ FM H a as (m + 1) (n + m + 1) T ∧ FL H bs m (fun k => (b k : Int)) ∧ c < n + m ∧
  (∀ i j, i < m + 1 → j < n + m + 1 → (T i j).natAbs < 2 ^ 4000) ∧ (∃ r, r < m ∧ 0 < T r c) ∧ ∀ H' (r : Nat), Same H H' → Gm.Ratio m n b T c r → Q (.int (r : Int)) H'
theorem scV : FnScope ["table", "basis", "column", "best", "row", "head", "entry", "here", "there"] ["table", "basis", "column"] (defScope sLeave) := ⟨rfl, rfl, rfl, by decide +kernel, rfl, by decide +kernel, by decide +kernel⟩
theorem ok_leave {f : Addr} {fd : FuncData} (F : FnP K "leaving_row" sLeave f fd) (T : Txt K mg C fI fS) : FnOk P w K mg base CX0 1 f fd ["table", "basis", "column"] spLeave := by
  refine F.ok scV (fun vs H Q E h => ?_) (fun cdv A outer s H vs Q E hr h => ?_)
  · obtain ⟨a, bs, as, m, n, c, b, G, rfl, _⟩ := h
    rfl
  · obtain ⟨a, bs, as, m, n, c, b, G, rfl, M, B, hc, hG, hx, k⟩ := h
    refine ⟨_, PSs.nox (pss_cons (ps_set (i := 3) scV.nd rfl (.inl rfl) pe_non)
      (pss_cons (ps_for PassesOwn.never rfl (pi_enum (by rfl) T.enum (pa_cons (pv 1) pa_nil)) (pg_tup rfl (pgs_cons (pg_name (i := 4) scV.nd rfl (.inl rfl)) (pgs_cons (pg_name (i := 5) scV.nd rfl (.inl rfl)) pgs_nil)))
        (pss_cons (ps_set (i := 6) scV.nd rfl (.inl rfl) (pe_ix ix_list (pe_ix ix_list (pv 0) (pv 4) (fun _ _ => rfl)) (pv 2) (fun _ _ => rfl)))
        (pss_one (ps_if (PW.pt (pw_and (pt_cmpR op_gt (pv 6) pe_int (nomark _)) (pw_and1 (pt_cmpR op_isN (pv 3) pe_non (nomark _)))))
          (pss_one (ps_set (i := 3) scV.nd rfl (.inl rfl) (pv 4)))
          (pss_one (ps_if (pt_cmpR op_gt (pv 6) pe_int (nomark _))
            (pss_cons (ps_set (i := 7) scV.nd rfl (.inl rfl) (pe_op op_mulW (pe_ix ix_list (pe_ix ix_list (pv 0) (pv 4) (fun _ _ => rfl)) (pe_un un_neg pe_int) (fun _ _ => rfl)) (pe_ix ix_list (pe_ix ix_list (pv 0) (pv 3) (fun _ _ => rfl)) (pv 2) (fun _ _ => rfl))))
            (pss_cons (ps_set (i := 8) scV.nd rfl (.inl rfl) (pe_op op_mulW (pe_ix ix_list (pe_ix ix_list (pv 0) (pv 3) (fun _ _ => rfl)) (pe_un un_neg pe_int) (fun _ _ => rfl)) (pv 6)))
            (pss_one (ps_if (PW.pt (pw_or (pt_cmpR op_lt (pv 7) (pv 8) (nomark _)) (pw_or1 (PW.pt (pw_and (pt_cmpR op_eq (pv 7) (pv 8) (nomark _)) (pw_and1 (pt_cmpR op_lt (pv 5) (pe_ix ix_list (pv 1) (pv 3) (fun _ _ => rfl)) (nomark _))))))))
              (pss_one (ps_set (i := 3) scV.nd rfl (.inl rfl) (pv 4))) pss_nil))))
            pss_nil))))))
      (pss_one (ps_ret (pv 3))))), ?_⟩
    refine ⟨.ref bs, rfl, bs, _, rfl, SqL.of B, ?_⟩
    refine for_it (walk_enum (K := K) (a := bs) (xs := rl m fun k => V.int (b k : Int))) (fun i σ H' => ∃ (o : Option Nat) (x4 x5 x6 x7 x8 : Option V), σ = [some (.ref a), some (.ref bs), some (.int (c : Int)), some (bv o), x4, x5, x6, x7, x8] ∧ Same H H' ∧ Gm.BestTo n m b G c i o)
      ⟨none, _, _, _, _, _, rfl, Same.refl _, fun j hj => absurd hj (Nat.not_lt_zero _)⟩ (fun i σ H' _ ⟨_, _, _, _, _, _, _, s, _⟩ => SqL.of (s _ _ B)) ?_ ?_
    · rintro i x σ H1 H2 hi ⟨o, x4, x5, x6, x7, x8, rfl, s1, hb⟩ ⟨q, u, v, rfl, nq, rfl, e1, e2⟩
      rw [rl_len] at hi
      cases Option.some.inj e1
      obtain rfl := rl_at e2 hi
      have s2 : Same H (upd H1 q (.tup [.int (i : Nat), .int (b i : Int)])) := s1.trans (same_upd nq)
      generalize hH2 : upd H1 q (.tup [.int (i : Nat), .int (b i : Int)]) = H2 at s2
      have eq2 : H2 q = some (.tup [.int (i : Nat), .int (b i : Int)]) := by rw [← hH2]; exact upd_same
      have R : ∀ i, i < m + 1 → H2 (as i) = some (.lst (rl (n + m + 1) fun j => .int (G i j))) := fun i hi => s2 _ _ (M.row i hi)
      have Tp := s2 _ _ M.top
      have Bp : H2 bs = some (.lst (rl m fun k => V.int (b k : Int))) := s2 _ _ B
      refine ⟨q, _, rfl, SqT.of eq2, rfl, _, _, rfl, _, _, rfl, rfl, ?_⟩
      -- entry = table[row][column]
      refine ⟨.ref a, rfl, .int (i : Int), rfl, a, _, _, _, rfl, rfl, SqL.of Tp, atI_rl (show i < m + 1 by omega), .int (c : Int), rfl, as i, _, _, _, rfl, rfl, SqL.of (R i (by omega)), atI_rl (show c < n + m + 1 by omega), ?_⟩
      refine ⟨_, rfl, _, _, rfl, rfl, _, rfl, ite2 (fun h => ?_) (fun h => ?_)⟩
      · have hp : 0 < G i c := of_decide_eq_true h
        cases o with
        | none =>
          refine ⟨_, rfl, rfl, _, rfl, ?_⟩
          refine iteT ⟨_, rfl, some i, _, _, _, _, _, rfl, s2, Gm.best_first hb hp⟩
        | some r =>
          have hrm : r < m := Nat.lt_of_lt_of_le hb.1 (Nat.le_of_lt hi)
          refine ⟨_, rfl, rfl, _, rfl, ?_⟩
          refine iteF ⟨_, rfl, _, _, rfl, rfl, _, rfl, ?_⟩
          rw [decide_eq_true hp]
          refine iteT ⟨.ref a, rfl, .int (i : Int), rfl, a, _, _, _, rfl, rfl, SqL.of Tp, atI_rl (show i < m + 1 by omega), 1, rfl, as i, _, -1, _, rfl, rfl, SqL.of (R i (by omega)), atI_rl_last _ _,
            .ref a, rfl, .int (r : Int), rfl, a, _, _, _, rfl, rfl, SqL.of Tp, atI_rl (show r < m + 1 by omega), .int (c : Int), rfl, as r, _, _, _, rfl, rfl, SqL.of (R r (by omega)), atI_rl (show c < n + m + 1 by omega), _, _, rfl, rfl,
            wide_mul (hG i _ (by omega) (by omega)) (hG r _ (by omega) (by omega)) (by decide) (by decide) (by decide), ?_⟩
          refine ⟨.ref a, rfl, .int (r : Int), rfl, a, _, _, _, rfl, rfl, SqL.of Tp, atI_rl (show r < m + 1 by omega), 1, rfl, as r, _, -1, _, rfl, rfl, SqL.of (R r (by omega)), atI_rl_last _ _,
            _, rfl, _, _, rfl, rfl, wide_mul (hG r _ (by omega) (by omega)) (hG i _ (by omega) (by omega)) (by decide) (by decide) (by decide), ?_⟩
          refine ⟨_, rfl, _, rfl, _, _, rfl, rfl, _, rfl, ite2 (fun h1 => ?_) (fun h1 => ?_)⟩
          · have w1 : G i (n + m) * G r c < G r (n + m) * G i c := of_decide_eq_true h1
            exact iteT ⟨_, rfl, some i, _, _, _, _, _, rfl, s2, Gm.best_new hb hp (.inl w1)⟩
          · have w1 : ¬ G i (n + m) * G r c < G r (n + m) * G i c := fun z => h1 (decide_eq_true z)
            refine ⟨_, rfl, _, rfl, rfl, _, rfl, ite2 (fun h2 => ?_) (fun h2 => ?_)⟩
            · have w2 : G i (n + m) * G r c = G r (n + m) * G i c := V.int.inj (of_decide_eq_true h2)
              refine ⟨_, rfl, .ref bs, rfl, .int (r : Int), rfl, bs, _, _, _, rfl, rfl, SqL.of Bp, atI_rl hrm, _, _, rfl, rfl, _, rfl, ite2 (fun h3 => ?_) (fun h3 => ?_)⟩
              · have w3 : (b i : Int) < (b r : Int) := of_decide_eq_true h3
                exact ⟨_, rfl, some i, _, _, _, _, _, rfl, s2, Gm.best_new hb hp (.inr ⟨w2, by omega⟩)⟩
              · have w3 : ¬ (b i : Int) < (b r : Int) := fun z => h3 (decide_eq_true z)
                exact ⟨some r, _, _, _, _, _, rfl, s2, Gm.best_keep hb (by omega)⟩
            · have w2 : ¬ G i (n + m) * G r c = G r (n + m) * G i c := fun z => h2 (decide_eq_true (congrArg V.int z))
              refine iteF ⟨some r, _, _, _, _, _, rfl, s2, Gm.best_keep hb (by omega)⟩
      · have hp : G i c ≤ 0 := by
          rcases (show 0 < G i c ∨ G i c ≤ 0 by omega) with z | z
          · exact absurd (decide_eq_true z) h
          · exact z
        refine iteF ⟨_, rfl, _, _, rfl, rfl, _, rfl, ?_⟩
        rw [show decide (0 < G i c) = false from decide_eq_false (by omega)]
        exact iteF ⟨o, _, _, _, _, _, rfl, s2, Gm.best_skip hb hp⟩
    · rintro σ H1 ⟨o, _, _, _, _, _, rfl, s1, hb⟩
      rw [rl_len] at hb
      obtain ⟨r, rfl, hR⟩ := Gm.best_end hb hx
      exact ⟨_, rfl, k H1 r s1 hR⟩
end
end K53
namespace K53
open PySem PySem.Spec PyProof.Rows L2
/-- a new list of lists -/
structure NM (H H' : Hp) (q : Addr) (qs : Nat → Addr) (N D : Nat) (T : Nat → Nat → Int) : Prop where
  same : Same H H'
  mat : FM H' q qs N D T
  new : H q = none
  news : ∀ i, i < N → H (qs i) = none
theorem yes {σ : L2.St} {H : Hp} {A B : Hp → Prop} (h : A H) : tYes σ H fun b H3 => if b = true then A H3 else B H3 := by
  show (if true = true then A H else B H)
  rw [if_pos rfl]
  exact h
theorem rl_snoc_ref (i : Nat) (qs : Nat → Addr) (l : Addr) : rl i (fun k => .ref (qs k)) ++ [.ref l] = rl (i + 1) fun k => .ref (if k = i then l else qs k) := by
  rw [rl_succ, if_pos rfl]
  congr 1
  refine rl_congr fun j hj => ?_
  rw [if_neg (Nat.ne_of_lt hj)]
/-- a list of new lists that grows at o -/
structure Acc (H H' : Hp) (o : Addr) (i : Nat) (qs : Nat → Addr) (D : Nat) (T : Nat → Nat → Int) : Prop where
  same : Same H H'
  top : H' o = some (.lst (rl i fun k => .ref (qs k)))
  row : ∀ k, k < i → H (qs k) = none ∧ qs k ≠ o ∧ FL H' (qs k) D (T k)
theorem Acc.start {H : Hp} {o : Addr} {D : Nat} {T : Nat → Nat → Int} (no : H o = none) : Acc H (upd H o (.lst [])) o 0 (fun _ => 0) D T := ⟨same_upd no, upd_same, fun _ hj => absurd hj (Nat.not_lt_zero _)⟩
theorem Acc.go {H H1 H2 : Hp} {o : Addr} {i : Nat} {qs : Nat → Addr} {D : Nat} {T : Nat → Nat → Int} (A : Acc H H1 o i qs D T) (s : Same H1 H2) : Acc H H2 o i qs D T :=
  ⟨A.same.trans s, s _ _ A.top, fun k hk => let ⟨h1, h2, h3⟩ := A.row k hk; ⟨h1, h2, h3.same s⟩⟩
theorem Acc.push {H H2 H3 : Hp} {o l : Addr} {i : Nat} {qs : Nat → Addr} {D : Nat} {T : Nat → Nat → Int} (no : H o = none) (A : Acc H H2 o i qs D T) (s3 : Same H2 H3) (nl : H2 l = none) (hl : FL H3 l D (T i)) :
    Acc H (upd H3 o (.lst ((rl i fun k => .ref (qs k)) ++ [.ref l]))) o (i + 1) (fun k => if k = i then l else qs k) D T := by
  have nlo : l ≠ o := fun e => by rw [e, A.top] at nl; cases nl
  have bt : But o H3 (upd H3 o (.lst ((rl i fun k => .ref (qs k)) ++ [.ref l]))) := fun b z ne e => by rw [upd_ne ne]; exact e
  refine ⟨fun b z e => ?_, by rw [upd_same, rl_snoc_ref], fun j hj => ?_⟩
  · rw [upd_ne (ne_of_none e no)]
    exact s3 _ _ (A.same _ _ e)
  · by_cases e : j = i
    · subst e
      rw [if_pos rfl]
      exact ⟨A.same.free nl, nlo, hl.but bt nlo⟩
    · rw [if_neg e]
      obtain ⟨h1, h2, h3⟩ := A.row j (by omega)
      exact ⟨h1, h2, (h3.same s3).but bt h2⟩
theorem Acc.done {H H' : Hp} {o : Addr} {N : Nat} {qs : Nat → Addr} {D : Nat} {T : Nat → Nat → Int} (no : H o = none) (A : Acc H H' o N qs D T) : NM H H' o qs N D T :=
  ⟨A.same, ⟨A.top, fun i hi => (A.row i hi).2.2⟩, no, fun i hi => (A.row i hi).1⟩
section
variable {P : Program} {w : World} {K : PySem.W.Frag} {mg : Str → Option Value} {base : Heap} {C fI fS : Addr}
/-! ### pivoted -/
def spPivoted : Sp := fun vs H Q _ => ∃ (a : Addr) (as : Nat → Addr) (N D r c : Nat) (s : Int) (T : Nat → Nat → Int), vs = [.ref a, .int (r : Int), .int (c : Int), .int s] ∧ FM H a as N D T ∧ r < N ∧ c < D ∧ N ≤ 1000 ∧ D ≤ 1000 ∧ 0 < s ∧ s.natAbs < 2 ^ 8000 ∧
  (∀ i j, i < N → j < D → (T i j).natAbs < 2 ^ 4000) ∧ ∀ H' q qs, NM H H' q qs N D (Gm.piv T r c s) → Q (.ref q) H'
theorem scP : FnScope ["rows", "row", "column", "scale", "chosen", "pivot", "after", "at", "line", "factor", "x", "y"] ["rows", "row", "column", "scale"] (defScope sPivoted) := ⟨rfl, rfl, rfl, by decide +kernel, rfl, by decide +kernel, by decide +kernel⟩
theorem small_le {n : Nat} (h : n ≤ 1000) : n ≤ sizeLine := Nat.le_trans h (by decide)
theorem ok_pivoted {f : Addr} {fd : FuncData} (F : FnP K "pivoted" sPivoted f fd) (T : Txt K mg C fI fS) : FnOk P w K mg base CX0 1 f fd ["rows", "row", "column", "scale"] spPivoted := by
  refine F.ok scP (fun vs H Q E h => ?_) (fun cdv A outer s H vs Q E hr h => ?_)
  · obtain ⟨a, as, N, D, r, c, s, G, rfl, _⟩ := h
    rfl
  · obtain ⟨a, as, N, D, r, c, sc, G, rfl, M, hrN, hcD, hN, hD, hs, hsl, hG, k⟩ := h
    refine ⟨_, PSs.nox (pss_cons (ps_set (i := 4) scP.nd rfl (.inl rfl) (pe_ix ix_list (pv 0) (pv 1) (fun _ _ => rfl)))
      (pss_cons (ps_set (i := 5) scP.nd rfl (.inr rfl) (pe_ix ix_list (pv 4) (pv 2) (fun _ _ => rfl)))
      (pss_cons (ps_set (i := 6) scP.nd rfl (.inl rfl) (pe_lst pa_nil))
      (pss_cons (ps_for PassesOwn.never rfl (pi_enum (by rfl) T.enum (pa_cons (pv 0) pa_nil)) (pg_tup rfl (pgs_cons (pg_name (i := 7) scP.nd rfl (.inl rfl)) (pgs_cons (pg_name (i := 8) scP.nd rfl (.inl rfl)) pgs_nil)))
        (pss_one (ps_if (pt_cmpR op_eq (pv 7) (pv 1) (nomark _))
          (pss_one (ps_expr (pe_bm PySem.F.plainAttrs_list PySem.F.slot_list_append PySem.F.type_list_append mt_append (pv 6) (pa_cons (pe_callTy call_list_of (by rfl) T.list (by decide +kernel) (pa_cons (pv 8) pa_nil)) pa_nil))))
          (pss_cons (ps_set (i := 9) scP.nd rfl (.inr rfl) (pe_ix ix_list (pv 8) (pv 2) (fun _ _ => rfl)))
          (pss_one (ps_expr (pe_bm PySem.F.plainAttrs_list PySem.F.slot_list_append PySem.F.type_list_append mt_append (pv 6) (pa_cons
            (pe_lc (own := [("x", 10), ("y", 11)]) (g := gTup K 2 (gCons (gName 10) (gCons (gName 11) gNil))) (tt := tYes) rfl scP.nd (pi_zip (by rfl) T.zip (pa_cons (pv 8) (pa_cons (pv 4) pa_nil)))
              (blkOk_by (N := ["rows", "row", "column", "scale", "chosen", "pivot", "after", "at", "line", "factor", "x", "y"]) (sc := defScope sPivoted) (by decide +kernel))
              (fun _ _ _ _ _ => pg_tup rfl (pgs_cons (pg_name (i := 10) scP.nd rfl (.inl rfl) (.inr rfl)) (pgs_cons (pg_name (i := 11) scP.nd rfl (.inl rfl) (.inr rfl)) pgs_nil))) (fun _ _ _ _ _ => pts_nil)
              (fun _ _ _ _ _ => pe_op op_fdivW (pe_op op_sub (pe_op op_mulW (pv 10) (pv 5)) (pe_op op_mulW (pv 9) (pv 11))) (pv 3))) pa_nil))))))))
      (pss_one (ps_ret (pv 6))))))), ?_⟩
    refine ⟨.ref a, rfl, .int (r : Int), rfl, a, _, _, _, rfl, rfl, SqL.of M.top, atI_rl hrN, ?_⟩
    refine ⟨.ref (as r), rfl, .int (c : Int), rfl, as r, _, _, _, rfl, rfl, SqL.of (M.row r hrN), atI_rl hcD, ?_⟩
    refine ⟨Nat.zero_le _, fun o no => ?_⟩
    have s0 : Same H (upd H o (.lst [])) := same_upd no
    refine ⟨.ref a, rfl, a, _, rfl, SqL.of (s0 _ _ M.top), ?_⟩
    refine for_it (walk_enum (K := K) (a := a) (xs := rl N fun i => .ref (as i)))
      (fun i σ H' => ∃ (qs : Nat → Addr) (x7 x8 x9 x10 x11 : Option V), σ = [some (.ref a), some (.int (r : Int)), some (.int (c : Int)), some (.int sc), some (.ref (as r)), some (.int (G r c)), some (.ref o), x7, x8, x9, x10, x11] ∧ Acc H H' o i qs D (Gm.piv G r c sc))
      ⟨fun _ => 0, _, _, _, _, _, rfl, Acc.start no⟩ (fun i σ H' _ ⟨_, _, _, _, _, _, _, A⟩ => SqL.of (A.same _ _ M.top)) ?_ ?_
    · rintro i x σ H1 H2 hi ⟨qs, x7, x8, x9, x10, x11, rfl, A1⟩ ⟨q, u, v, rfl, nq, rfl, e1, e2⟩
      rw [rl_len] at hi
      cases Option.some.inj e1
      obtain rfl := rl_at e2 hi
      have s12 : Same H1 (upd H1 q (.tup [.int (i : Nat), .ref (as i)])) := same_upd nq
      generalize hH2 : upd H1 q (.tup [.int (i : Nat), .ref (as i)]) = H2 at s12
      have eq2 : H2 q = some (.tup [.int (i : Nat), .ref (as i)]) := by rw [← hH2]; exact upd_same
      have A2 := A1.go s12
      have s2 := A2.same
      have R : ∀ i, i < N → H2 (as i) = some (.lst (rl D fun j => .int (G i j))) := fun i hi => s2 _ _ (M.row i hi)
      have eo2 := A2.top
      refine ⟨q, _, rfl, SqT.of eq2, rfl, _, _, rfl, _, _, rfl, rfl, ?_⟩
      refine ⟨_, rfl, _, rfl, rfl, _, rfl, ite2 (fun h => ?_) (fun h => ?_)⟩
      · -- after.append(list(line))
        have hir : i = r := by
          have z := V.int.inj (of_decide_eq_true h)
          omega
        refine ⟨.ref o, rfl, .inl ⟨rfl, _, SqL.of eo2⟩, .ref (as i), rfl, as i, _, rfl, .inl (SqL.of (R i hi)), fun l nl => ?_⟩
        have s3 : Same H2 (upd H2 l (.lst (rl D fun j => .int (G i j)))) := same_upd nl
        refine ⟨o, _, _, rfl, rfl, s3 _ _ eo2, by rw [rl_len]; exact Nat.lt_of_lt_of_le hi (small_le hN), ?_⟩
        exact ⟨_, _, _, _, _, _, rfl, A2.push no s3 nl (by
          refine FL.congr (f := G i) upd_same fun j _ => ?_
          unfold Gm.piv
          rw [if_pos hir, hir])⟩
      · -- after.append([..])
        have hir : i ≠ r := fun z => h (decide_eq_true (by rw [z]))
        refine ⟨.ref (as i), rfl, .int (c : Int), rfl, as i, _, _, _, rfl, rfl, SqL.of (R i hi), atI_rl hcD, ?_⟩
        refine ⟨.ref o, rfl, .inl ⟨rfl, _, SqL.of eo2⟩, .ref (as i), rfl, .ref (as r), rfl, as i, as r, _, _, rfl, SqL.of (R i hi), SqL.of (R r hrN), fun l nl => ?_⟩
        refine lc_val (walk_zip (K := K) (a := as i) (b := as r) (xs := rl D fun j => .int (G i j)) (ys := rl D fun j => .int (G r j)) (n := D) (by rw [rl_len, rl_len]; omega)) (fun j => .int (Gm.piv G r c sc i j)) nl (small_le hD)
          (fun H3 s3 => ⟨SqL.of (s3 _ _ (R i hi)), SqL.of (s3 _ _ (R r hrN))⟩) ?_ ?_
        · rintro j x H3 H4 hj s3 ⟨t, u, v, rfl, nt, rfl, g1, g2⟩ RR Rf kk
          obtain rfl := rl_at g1 hj
          obtain rfl := rl_at g2 hj
          refine ⟨t, _, rfl, SqT.of upd_same, rfl, _, _, rfl, _, _, rfl, rfl, rfl, yes ?_⟩
          refine ⟨_, rfl, _, rfl, _, _, rfl, rfl, wide_mul (hG i j hi hj) (hG r c hrN hcD) (by decide) (by decide) (by decide), _, rfl, _, rfl, _, _, rfl, rfl, wide_mul (hG i c hi hcD) (hG r j hrN hj) (by decide) (by decide) (by decide), _, _, rfl, rfl, _, rfl, _, _, rfl, rfl, wide_div hs hsl (by decide) (by decide), ?_⟩
          have e : Gm.piv G r c sc i j = (G i j * G r c - G i c * G r j) / sc := by
            unfold Gm.piv
            rw [if_neg hir]
          show RR (V.int ((G i j * G r c - G i c * G r j) / sc)) _
          rw [← e]
          exact kk _ (same_upd nt)
        · intro H3 s3 el
          refine ⟨o, _, _, rfl, rfl, s3 _ _ eo2, by rw [rl_len]; exact Nat.lt_of_lt_of_le hi (small_le hN), ?_⟩
          exact ⟨_, _, _, _, _, _, rfl, A2.push no s3 nl el⟩
    · rintro σ H1 ⟨qs, _, _, _, _, _, rfl, A⟩
      rw [rl_len] at A
      exact ⟨_, rfl, k H1 o qs (A.done no)⟩
end
end K53
namespace K53
open PySem PySem.Spec PyProof.Rows L2
/-! ### plain facts -/
theorem gcd_dvd (t b : Int) : gcdI t b ∣ t ∧ gcdI t b ∣ b := by
  unfold gcdI
  exact ⟨Int.ofNat_dvd_left.mpr (Nat.gcd_dvd_left _ _), Int.ofNat_dvd_left.mpr (Nat.gcd_dvd_right _ _)⟩
theorem norm_eq (t b : Int) (hb : 0 < b) : (t / gcdI t b) * b = t * (b / gcdI t b) := by
  obtain ⟨⟨x, hx⟩, ⟨y, hy⟩⟩ := gcd_dvd t b
  have g0 := gcd_pos (t := t) hb
  generalize gcdI t b = g at hx hy g0
  have gn : g ≠ 0 := by omega
  subst hx hy
  rw [Int.mul_ediv_cancel_left _ gn, Int.mul_ediv_cancel_left _ gn]
  grind
theorem norm_pos (t b : Int) (hb : 0 < b) : 0 < b / gcdI t b := by
  have g0 := gcd_pos (t := t) hb
  obtain ⟨_, ⟨y, hy⟩⟩ := gcd_dvd t b
  generalize gcdI t b = g at hy g0
  subst hy
  rw [Int.mul_ediv_cancel_left _ (by omega)]
  rcases (show 0 < y ∨ y ≤ 0 by omega) with h | h
  · exact h
  · have := Int.mul_nonpos_of_nonneg_of_nonpos (Int.le_of_lt g0) h
    omega
theorem div_le_natAbs (t g : Int) (hg : 0 < g) : (t / g).natAbs ≤ t.natAbs := by
  have h := Int.ediv_mul_add_emod t g
  have h1 := Int.emod_nonneg t (show g ≠ 0 by omega)
  have h2 := Int.emod_lt_of_pos t hg
  rcases (show 0 ≤ t ∨ t < 0 by omega) with h3 | h3
  · have h4 : 0 ≤ t / g := Int.ediv_nonneg h3 (by omega)
    have h5 : t / g ≤ t := Int.ediv_le_self _ h3
    omega
  · have h4 : t / g < 0 := Int.ediv_neg_of_neg_of_pos h3 hg
    have h5 : (t / g) * g ≤ (t / g) * 1 := Int.mul_le_mul_of_nonpos_left (by omega) (by omega)
    -- t = q g + r, q <= -1
    have h6 : t ≤ t / g := by
      rcases (show t ≤ t / g ∨ t / g < t by omega) with z | z
      · exact z
      · exfalso
        -- q < t < 0 and t < (q + 1) g <= q + 1
        have a1 : t < (t / g + 1) * g := by rw [Int.add_mul]; omega
        have a2 : (t / g + 1) * g ≤ (t / g + 1) * 1 := Int.mul_le_mul_of_nonpos_left (by omega) (by omega)
        omega
    omega
/-- a Ratio worth v over L stands at p -/
def RatOK (C : Addr) (H : Hp) (p : Addr) (v L : Int) : Prop := ∃ t b, RatAt C H p t b ∧ 0 < b ∧ b.natAbs < 2 ^ 1800 ∧ t.natAbs < 2 ^ 1800 ∧ t * L = v * b
theorem RatOK.same {C : Addr} {H H' : Hp} {p : Addr} {v L : Int} (h : RatOK C H p v L) (s : Same H H') : RatOK C H' p v L := by
  obtain ⟨t, b, ⟨dx, e⟩, r⟩ := h
  exact ⟨t, b, ⟨dx, s _ _ e⟩, r⟩
theorem RatOK.but {C D : Addr} {H H' : Hp} {p : Addr} {v L : Int} (h : RatOK C H p v L) (s : But D H H') (ne : p ≠ D) : RatOK C H' p v L := by
  obtain ⟨t, b, ⟨dx, e⟩, r⟩ := h
  exact ⟨t, b, ⟨dx, s _ _ ne e⟩, r⟩
theorem ratOK_mk {C : Addr} {H : Hp} {p : Addr} {t b : Int} (h : RatAt C H p (t / gcdI t b) (b / gcdI t b)) (hb : 0 < b) (h1 : b.natAbs < 2 ^ 1800) (h2 : t.natAbs < 2 ^ 1800) : RatOK C H p t b := by
  have g0 := gcd_pos (t := t) hb
  exact ⟨_, _, h, norm_pos t b hb, Nat.lt_of_le_of_lt (div_le_natAbs _ _ g0) h1, Nat.lt_of_le_of_lt (div_le_natAbs _ _ g0) h2, norm_eq t b hb⟩
theorem ratOK_sub {C : Addr} {H : Hp} {p : Addr} {s L lift t b : Int} (h : RatAt C H p ((t - lift * b) / gcdI (t - lift * b) b) (b / gcdI (t - lift * b) b)) (hb : 0 < b) (e : t * L = s * b) (h1 : b.natAbs < 2 ^ 1500) (h2 : t.natAbs < 2 ^ 1500) (h3 : lift.natAbs < 2 ^ 206) :
    RatOK C H p (s - lift * L) L := by
  have g0 := gcd_pos (t := t - lift * b) hb
  have hm : (lift * b).natAbs < 2 ^ (206 + 1500) := wide_lt h3 h1
  have hb1 : b.natAbs < 2 ^ 1800 := Nat.lt_of_lt_of_le h1 (Nat.pow_le_pow_right (by decide) (by decide))
  have ht : (t - lift * b).natAbs < 2 ^ 1800 := by
    have a1 : (t - lift * b).natAbs ≤ t.natAbs + (lift * b).natAbs := Int.natAbs_sub_le _ _
    have a2 : (2 : Nat) ^ 1500 + 2 ^ (206 + 1500) ≤ 2 ^ 1800 := by decide +kernel
    omega
  refine ⟨_, _, h, norm_pos _ b hb, Nat.lt_of_le_of_lt (div_le_natAbs _ _ g0) hb1, Nat.lt_of_le_of_lt (div_le_natAbs _ _ g0) ht, ?_⟩
  have n1 := norm_eq (t - lift * b) b hb
  generalize (t - lift * b) / gcdI (t - lift * b) b = x at n1
  generalize b / gcdI (t - lift * b) b = y at n1
  have b0 : b ≠ 0 := by omega
  refine Int.eq_of_mul_eq_mul_right b0 ?_
  have c1 : x * L * b = (x * b) * L := by grind
  rw [c1, n1]
  have c2 : (t - lift * b) * y * L = (t * L) * y - lift * L * b * y := by grind
  rw [c2, e]
  grind
theorem ratOK_zero {C : Addr} {H : Hp} {p : Addr} {L : Int} (h : RatAt C H p (0 / gcdI 0 1) (1 / gcdI 0 1)) : RatOK C H p 0 L := by
  rw [show (0 : Int) / gcdI 0 1 = 0 by decide, show (1 : Int) / gcdI 0 1 = 1 by decide] at h
  exact ⟨0, 1, h, by decide, by decide +kernel, by decide +kernel, by omega⟩
/-- a Ratio that was just made -/
theorem made {C : Addr} {H : Hp} {x dx : Addr} {fs : List (Str × V)} {t b : Int} (nx : H x = none) (ndx : H dx = none) :
    Same H (upd (upd (upd H dx (.own x)) x (.ins C dx fs)) x (.ins C dx (rf t b))) ∧ RatAt C (upd (upd (upd H dx (.own x)) x (.ins C dx fs)) x (.ins C dx (rf t b))) x t b := by
  rw [upd_upd]
  refine ⟨fun c o e => ?_, dx, upd_same⟩
  rw [upd_ne (ne_of_none e nx), upd_ne (ne_of_none e ndx)]
  exact e
def refA : V → Addr
  | .ref a => a
  | _ => 0
/-! ### the first table -/
def T0 (m n : Nat) (A : Nat → Nat → Int) (lift : Int) : Nat → Nat → Int := fun i j => if i < m then (if j < n then A i j + lift else if j < n + m then (if i = j - n then 1 else 0) else 1) else (if j < n then -1 else 0)
theorem cols0 {m n : Nat} {A : Nat → Nat → Int} {lift : Int} (hm : 0 < m) (hn : 0 < n) (h : ∀ i j, i < m → j < n → 1 ≤ A i j + lift) : Gm.Cols m n (fun i j => A i j + lift) (fun j p => T0 m n A lift p j) where
  mp := hm
  np := hn
  ap := h
  c1 := fun j p hj hp => by unfold T0; rw [if_pos hp, if_pos hj]
  c1m := fun j hj => by unfold T0; rw [if_neg (by omega), if_pos hj]
  c2 := fun i hi p hp => by
    unfold T0 Gm.ev
    by_cases h : p < m
    · rw [if_pos h, if_neg (by omega), if_pos (by omega)]
      by_cases e : p = i
      · rw [if_pos (by omega), if_pos e]
      · rw [if_neg (by omega), if_neg e]
    · rw [if_neg h, if_neg (by omega), if_neg (by omega)]
  c3 := fun p hp => by unfold T0; rw [if_pos hp, if_neg (by omega), if_neg (by omega)]
  c3m := by unfold T0; rw [if_neg (by omega), if_neg (by omega)]
def big : Nat := 2 ^ 210
theorem small6 {m : Nat} (h : m ≤ 6) : Gm.fct (m + 1) * big ^ (m + 1) < 2 ^ 1500 := by
  have : m = 0 ∨ m = 1 ∨ m = 2 ∨ m = 3 ∨ m = 4 ∨ m = 5 ∨ m = 6 := by omega
  rcases this with rfl | rfl | rfl | rfl | rfl | rfl | rfl <;> decide +kernel
theorem T0_small {m n : Nat} {A : Nat → Nat → Int} {lift : Int} (h : ∀ i j, i < m → j < n → (A i j + lift).natAbs ≤ big) (p j : Nat) (hj : j < n + m + 1) (hp : p < m + 1) : (T0 m n A lift p j).natAbs ≤ big := by
  have b1 : 1 ≤ big := by decide +kernel
  unfold T0
  split
  · split
    · exact h _ _ (by assumption) (by assumption)
    · split
      · split <;> omega
      · omega
  · split <;> omega
/-- all that the loop needs of a state of the run -/
structure Good (m n : Nat) (A : Nat → Nat → Int) (lift : Int) (x : Gm.Sta) : Prop where
  inv : Gm.Inv m n (fun j p => T0 m n A lift p j) x.b x.T x.s
  sm : ∀ i j, i < m + 1 → j < n + m + 1 → (x.T i j).natAbs < 2 ^ 1500
  ss : x.s.natAbs < 2 ^ 1500
theorem good_of {m n : Nat} {A : Nat → Nat → Int} {lift : Int} {x : Gm.Sta} (hm6 : m ≤ 6) (h : ∀ i j, i < m → j < n → (A i j + lift).natAbs ≤ big) (I : Gm.Inv m n (fun j p => T0 m n A lift p j) x.b x.T x.s) : Good m n A lift x :=
  ⟨I, fun i j hi hj => Nat.lt_of_le_of_lt (I.small (c := big) (fun j p hj hp => T0_small h p j hj hp) (by decide +kernel) hi hj) (small6 hm6), Nat.lt_of_le_of_lt (I.small_s (c := big) (fun j p hj hp => T0_small h p j hj hp) (by decide +kernel)) (small6 hm6)⟩
def sta0 (m n : Nat) (A : Nat → Nat → Int) (lift : Int) : Gm.Sta := ⟨fun k => n + k, T0 m n A lift, 1⟩
/-! ### all numbers of a table, one after the other -/
def fl (n : Nat) (A : Nat → Nat → Int) : Nat → List Int
  | 0 => []
  | i + 1 => fl n A i ++ (List.range n).map (A i)
theorem fl_mem {n : Nat} {A : Nat → Nat → Int} {y : Int} : ∀ {i : Nat}, y ∈ fl n A i ↔ ∃ a, a < i ∧ ∃ b, b < n ∧ A a b = y
  | 0 => by
    constructor
    · intro h
      cases h
    · rintro ⟨_, h, _⟩
      exact absurd h (Nat.not_lt_zero _)
  | i + 1 => by
    show y ∈ fl n A i ++ (List.range n).map (A i) ↔ _
    rw [List.mem_append, fl_mem, List.mem_map]
    constructor
    · rintro (⟨a, ha, b, hb, e⟩ | ⟨b, hb, e⟩)
      · exact ⟨a, by omega, b, hb, e⟩
      · exact ⟨i, by omega, b, List.mem_range.mp hb, e⟩
    · rintro ⟨a, ha, b, hb, e⟩
      by_cases h : a = i
      · subst h
        exact .inr ⟨b, List.mem_range.mpr hb, e⟩
      · exact .inl ⟨a, by omega, b, hb, e⟩
theorem fl_len (n : Nat) (A : Nat → Nat → Int) : ∀ i, (fl n A i).length = i * n
  | 0 => by show 0 = 0 * n; omega
  | i + 1 => by
    show (fl n A i ++ (List.range n).map (A i)).length = (i + 1) * n
    rw [List.length_append, fl_len n A i, List.length_map, List.length_range, Nat.succ_mul]
end K53
namespace K53
open PySem PySem.Spec PyProof.Rows L2
section
variable {P : Program} {w : World} {K : PySem.W.Frag} {mg : Str → Option Value} {base : Heap} {C fI fS : Addr}
/-- the functions that solve_game calls -/
structure SolveFns (K : PySem.W.Frag) (mg : Str → Option Value) (fI fS fC fE fV fP : Addr) (fdI fdS fdC fdE fdV fdP : FuncData) : Prop where
  I : FnRI K fI fdI
  S : FnRS K fS fdS
  C : FnP K "check_game" sCheck fC fdC
  E : FnP K "entering_column" sEnter fE fdE
  V : FnP K "leaving_row" sLeave fV fdV
  P : FnP K "pivoted" sPivoted fP fdP
  gC : mg "check_game" = some (.ref fC)
  gE : mg "entering_column" = some (.ref fE)
  gV : mg "leaving_row" = some (.ref fV)
  gP : mg "pivoted" = some (.ref fP)
/-- what solve_game gives back -/
structure Told (C : Addr) (H' : Hp) (u : Addr) (m n : Nat) (A : Nat → Nat → Int) (v rm cm : Addr) (rs cs : Nat → Addr) (L vn : Int) (c d : Nat → Int) : Prop where
  tup : H' u = some (.tup [.ref v, .ref rm, .ref cm])
  val : RatOK C H' v vn L
  rl : H' rm = some (.lst (rl m fun i => .ref (rs i)))
  cl : H' cm = some (.lst (K53.rl n fun j => .ref (cs j)))
  rr : ∀ i, i < m → RatOK C H' (rs i) (c i) L
  cr : ∀ j, j < n → RatOK C H' (cs j) (d j) L
  sol : Gm.Sol m n A L vn c d
def spSolve (C : Addr) : Sp := fun vs H Q _ => ∃ (a : Addr) (as : Nat → Addr) (m n : Nat) (A : Nat → Nat → Int), vs = [.ref a] ∧ FM H a as m n A ∧ 0 < m ∧ 0 < n ∧ m ≤ 6 ∧ n ≤ 6 ∧ (∀ i j, i < m → j < n → (A i j).natAbs < 2 ^ 205) ∧
  ∀ H' u v rm cm rs cs L vn c d, Same H H' → Told C H' u m n A v rm cm rs cs L vn c d → Q (.ref u) H'
theorem itl_go {K : PySem.W.Frag} {H : Hp} {a : Addr} {n i : Nat} {f : Nat → V} (h : H a = some (.lst (rl n f))) (hi : i < n) : (Itl K a).go i H := ⟨_, _, SqL.of h, rl_get hi⟩
theorem itl_stop {K : PySem.W.Frag} {H : Hp} {a : Addr} {n : Nat} {f : Nat → V} (h : H a = some (.lst (rl n f))) : (Itl K a).stop n H := ⟨_, SqL.of h, by rw [rl_len]; exact Nat.le_refl _⟩
theorem row_is {m n i : Nat} {A : Nat → Nat → Int} {lift : Int} (hi : i < m) : (rl n (fun j => .int (A i j + lift)) ++ rl m (fun o => .int (if i = o then 1 else 0))) ++ [.int 1] = rl (n + m + 1) (fun j => .int (T0 m n A lift i j)) := by
  rw [rl_app, rl_one, rl_app]
  refine rl_congr fun j hj => ?_
  unfold T0
  rw [if_pos hi]
  by_cases h1 : j < n
  · rw [if_pos (by omega), if_pos h1, if_pos h1]
  · by_cases h2 : j < n + m
    · rw [if_pos h2, if_neg h1, if_neg h1, if_pos h2]
    · rw [if_neg h2, if_neg h1, if_neg h2]
theorem last_is {m n : Nat} {A : Nat → Nat → Int} {lift : Int} : (rl n (fun _ => .int (-1)) ++ rl m (fun _ => .int 0)) ++ [.int 0] = rl (n + m + 1) (fun j => .int (T0 m n A lift m j)) := by
  rw [rl_app, rl_one, rl_app]
  refine rl_congr fun j hj => ?_
  unfold T0
  rw [if_neg (Nat.lt_irrefl m)]
  by_cases h1 : j < n
  · rw [if_pos (by omega), if_pos h1, if_pos h1]
  · rw [if_neg h1]
    split <;> first | rfl | (split <;> first | rfl | omega)
/-- between two pivots -/
structure Mid (H H' : Hp) (a bs : Addr) (m n : Nat) (lift : Int) (X : Gm.Sta) (σ : L2.St) (x2 x5 x6 : Option V) (col : V) (tb : Addr) (qs : Nat → Addr) : Prop where
  sl : σ = [some (.ref a), some (.int (n : Int)), x2, some (.int lift), some (.ref tb), x5, x6, some (.ref bs), some (.int X.s), some col, none, none, none, none, none, none, none]
  same : Same H H'
  mat : FM H' tb qs (m + 1) (n + m + 1) X.T
  bas : FL H' bs m (fun k => (X.b k : Int))
  n1 : tb ≠ bs
  n2 : ∀ u, u < m + 1 → qs u ≠ bs
  col : ColE m (n + m) X.T col
abbrev nS : List Str := ["rows", "wide", "row", "lift", "table", "at", "slack", "basis", "scale", "column", "last", "column_mix", "head", "row_mix", "other", "number", "_"]
theorem scS : FnScope nS ["rows"] (defScope sSolve) := ⟨rfl, rfl, rfl, by decide +kernel, rfl, by decide +kernel, by decide +kernel⟩
theorem ok_solve {f fC fE fV fP : Addr} {fd fdI fdS fdC fdE fdV fdP : FuncData} (F : FnP K "solve_game" sSolve f fd) (T : Txt K mg C fI fS) (G : SolveFns K mg fI fS fC fE fV fP fdI fdS fdC fdE fdV fdP) : FnOk P w K mg base CX0 4 f fd ["rows"] (spSolve C) := by
  have GI : FnOk P w K mg base CX0 1 fI fdI ["self", "top", "bottom"] (spRInit C) := ok_rinit G.I T
  have GS : FnOk P w K mg base CX0 3 fS fdS ["self", "other"] (spRSub C) := ok_rsub (fi := fI) G.S T G.I
  have GC : FnOk P w K mg base CX0 1 fC fdC ["rows"] spCheck := ok_check G.C T
  have GE : FnOk P w K mg base CX0 1 fE fdE ["table"] spEnter := ok_enter G.E T
  have GV : FnOk P w K mg base CX0 1 fV fdV ["table", "basis", "column"] spLeave := ok_leave G.V T
  have GP : FnOk P w K mg base CX0 1 fP fdP ["rows", "row", "column", "scale"] spPivoted := ok_pivoted G.P T
  have bC : Binds K fdC ["rows"] [] := G.C.bindsN fun _ _ _ _ _ _ us hl => match us, hl with | [_], _ => rfl
  have bE : Binds K fdE ["table"] [] := G.E.bindsN fun _ _ _ _ _ _ us hl => match us, hl with | [_], _ => rfl
  have bV : Binds K fdV ["table", "basis", "column"] [] := G.V.bindsN fun _ _ _ _ _ _ us hl => match us, hl with | [_, _, _], _ => rfl
  have bP : Binds K fdP ["rows", "row", "column", "scale"] [] := G.P.bindsN fun _ _ _ _ _ _ us hl => match us, hl with | [_, _, _, _], _ => rfl
  have bS : Binds K fdS ["self", "other"] [] := G.S.bindsN fun _ _ _ _ _ _ us hl => match us, hl with | [_, _], _ => rfl
  obtain ⟨ds3, hd3, hb3⟩ := bI3 G.I
  obtain ⟨ds2, hd2, hb2⟩ := bI2 G.I
  refine F.ok scS (fun vs H Q E h => ?_) (fun cdv A outer s H vs Q E hr h => ?_)
  · obtain ⟨a, as, m, n, G, rfl, _⟩ := h
    rfl
  · have hr1 : Room 1 _ := hr.mono (by decide)
    have hr2 : Room 2 _ := hr.mono (by decide)
    obtain ⟨a, as, m, n, A0, rfl, M, hm, hn, hm6, hn6, hA, k⟩ := h
    obtain ⟨ro, hro⟩ := T.irsub
    obtain ⟨fo, hfo⟩ := T.isub
    refine ⟨_, PSs.nox (
      -- check_game(rows); wide = len(rows[0]); lift = 1 - min([..])
      pss_cons (ps_expr (pe_call GC hr1 rfl G.gC G.C.kp bC .nil pass0 (pa_cons (pv 0) pa_nil)))
      (pss_cons (ps_set (i := 1) scS.nd rfl (.inr rfl) (pe_callB call_len_seq (by rfl) T.len PySem.boot_len (pa_cons (pe_ix ix_list (pv 0) pe_int (fun _ _ => rfl)) pa_nil)))
      (pss_cons (ps_set (i := 3) scS.nd rfl (.inr rfl) (pe_op op_sub pe_int (pe_callB (cr_min rfl) (by rfl) T.min (by decide +kernel) (pa_cons
        (pe_lc2 (own := [("row", 2), ("number", 15)]) (vs1 := [15]) (tt := tYes) (tt1 := tYes) (wi1 := iList K (tVar 2)) rfl scS.nd (pi_list (pv 0)) (blkOk_by (N := nS) (sc := defScope sSolve) (by decide +kernel)) (by decide)
          (fun _ _ _ _ _ => pg_name (i := 2) scS.nd rfl (.inl rfl) (.inr rfl)) (fun _ _ _ _ _ => pts_nil) (fun _ _ _ _ _ => pi_list (pv 2)) (fun _ _ _ _ _ => pg_name (i := 15) scS.nd rfl (.inl rfl) (.inr rfl)) (fun _ _ _ _ _ => pts_nil)
          (fun _ _ _ _ _ => pe_callTy call_int1 (by rfl) T.int (by decide +kernel) (pa_cons (pv 15) pa_nil))) pa_nil))))
      -- table = []; the rows
      (pss_cons (ps_set (i := 4) scS.nd rfl (.inl rfl) (pe_lst pa_nil))
      (pss_cons (ps_for PassesOwn.never rfl (pi_enum (by rfl) T.enum (pa_cons (pv 0) pa_nil)) (pg_tup rfl (pgs_cons (pg_name (i := 5) scS.nd rfl (.inr rfl)) (pgs_cons (pg_name (i := 2) scS.nd rfl (.inl rfl)) pgs_nil)))
        (pss_cons (ps_setLc (i := 6) (own := [("other", 14)]) (g := gName 14) (tt := tYes) rfl scS.nd rfl rfl (sw_true rfl rfl rfl (by decide +kernel)) (pi_range1 (by rfl) T.range (pa_cons (pe_callB call_len_seq (by rfl) T.len PySem.boot_len (pa_cons (pv 0) pa_nil)) pa_nil))
            (blkOk_by (N := nS) (sc := defScope sSolve) (by decide +kernel)) (fun _ _ _ _ _ => pg_name (i := 14) scS.nd rfl (.inl rfl) (.inr rfl)) (fun _ _ _ _ _ => pts_nil)
            (fun _ _ _ _ _ => pe_callTy call_int1 (by rfl) T.int (by decide +kernel) (pa_cons (pe_cmpR op_eq (pv 5) (pv 14) (nomark _)) pa_nil)))
        (pss_one (ps_expr (pe_bm PySem.F.plainAttrs_list PySem.F.slot_list_append PySem.F.type_list_append mt_append (pv 4) (pa_cons
          (pe_op op_cat (pe_op op_cat (pe_lc (own := [("number", 15)]) (g := gName 15) (tt := tYes) rfl scS.nd (pi_list (pv 2)) (blkOk_by (N := nS) (sc := defScope sSolve) (by decide +kernel))
              (fun _ _ _ _ _ => pg_name (i := 15) scS.nd rfl (.inl rfl) (.inr rfl)) (fun _ _ _ _ _ => pts_nil) (fun _ _ _ _ _ => pe_op op_add (pv 15) (pv 3)))
            (pv 6)) (pe_lst (pa_cons pe_int pa_nil))) pa_nil))))))
      (pss_cons (ps_expr (pe_bm PySem.F.plainAttrs_list PySem.F.slot_list_append PySem.F.type_list_append mt_append (pv 4) (pa_cons
          (pe_op op_cat (pe_op op_cat
            (pe_lc (own := [("_", 16)]) (g := gName 16) (tt := tYes) rfl scS.nd (pi_range1 (by rfl) T.range (pa_cons (pv 1) pa_nil)) (blkOk_by (N := nS) (sc := defScope sSolve) (by decide +kernel))
              (fun _ _ _ _ _ => pg_name (i := 16) scS.nd rfl (.inl rfl) (.inr rfl)) (fun _ _ _ _ _ => pts_nil) (fun _ _ _ _ _ => pe_un un_neg pe_int))
            (pe_lc (own := [("_", 16)]) (g := gName 16) (tt := tYes) rfl scS.nd (pi_list (pv 0)) (blkOk_by (N := nS) (sc := defScope sSolve) (by decide +kernel))
              (fun _ _ _ _ _ => pg_name (i := 16) scS.nd rfl (.inl rfl) (.inr rfl)) (fun _ _ _ _ _ => pts_nil) (fun _ _ _ _ _ => pe_int)))
            (pe_lst (pa_cons pe_int pa_nil))) pa_nil)))
      -- basis, scale, column
      (pss_cons (ps_setLc (i := 7) (own := [("at", 5)]) (g := gName 5) (tt := tYes) rfl scS.nd rfl rfl (sw_true rfl rfl rfl (by decide +kernel)) (pi_range1 (by rfl) T.range (pa_cons (pe_callB call_len_seq (by rfl) T.len PySem.boot_len (pa_cons (pv 0) pa_nil)) pa_nil))
            (blkOk_by (N := nS) (sc := defScope sSolve) (by decide +kernel)) (fun _ _ _ _ _ => pg_name (i := 5) scS.nd rfl (.inl rfl) (.inr rfl)) (fun _ _ _ _ _ => pts_nil)
            (fun _ _ _ _ _ => pe_op op_add (pv 1) (pv 5)))
      (pss_cons (ps_set (i := 8) scS.nd rfl (.inl rfl) pe_int)
      (pss_cons (ps_set (i := 9) scS.nd rfl (.inl rfl) (pe_call GE hr1 rfl G.gE G.E.kp bE .nil pass0 (pa_cons (pv 4) pa_nil)))
      -- the loop
      (pss_cons (ps_while PassesOwn.never (pt_cmpR op_notN (pv 9) pe_non (nomark _))
        (pss_cons (ps_set (i := 2) scS.nd rfl (.inl rfl) (pe_call GV hr1 rfl G.gV G.V.kp bV .nil pass0 (pa_cons (pv 4) (pa_cons (pv 7) (pa_cons (pv 9) pa_nil)))))
        (pss_cons (ps_set (i := 4) scS.nd rfl (.inl rfl) (pe_call GP hr1 rfl G.gP G.P.kp bP .nil pass0 (pa_cons (pv 4) (pa_cons (pv 2) (pa_cons (pv 9) (pa_cons (pv 8) pa_nil))))))
        (pss_cons (ps_set (i := 8) scS.nd rfl (.inl rfl) (pe_ix ix_list (pe_ix ix_list (pv 4) (pv 2) (fun _ _ => rfl)) (pv 9) (fun _ _ => rfl)))
        (pss_cons (ps_asg (pv 9) (pg_sub (pv 7) (pv 2) set_list))
        (pss_one (ps_set (i := 9) scS.nd rfl (.inl rfl) (pe_call GE hr1 rfl G.gE G.E.kp bE .nil pass0 (pa_cons (pv 4) pa_nil)))))))))
      -- last, column_mix
      (pss_cons (ps_set (i := 10) scS.nd rfl (.inr rfl) (pe_ix ix_list (pv 4) (pe_un un_neg pe_int) (fun _ _ => rfl)))
      (pss_cons (ps_setLc (i := 11) (own := [("_", 16)]) (g := gName 16) (tt := tYes) (te := tMake C (spRInit C) [.int 1] E0 (tCons (tC (.int 0)) tNil)) rfl scS.nd rfl rfl (sw_true rfl rfl rfl (by decide +kernel)) (pi_range1 (by rfl) T.range (pa_cons (pv 1) pa_nil))
            (blkOk_by (N := nS) (sc := defScope sSolve) (by decide +kernel)) (fun _ _ _ _ _ => pg_name (i := 16) scS.nd rfl (.inl rfl) (.inr rfl)) (fun _ _ _ _ _ => pts_nil)
            (fun _ _ _ _ _ => pe_make T.mkr GI hr2 rfl T.mgC hb2 hd2 pass0 (pa_cons pe_int pa_nil)))
      (pss_cons (ps_for PassesOwn.never rfl (pi_enum (by rfl) T.enum (pa_cons (pv 7) pa_nil)) (pg_tup rfl (pgs_cons (pg_name (i := 2) scS.nd rfl (.inl rfl)) (pgs_cons (pg_name (i := 12) scS.nd rfl (.inl rfl)) pgs_nil)))
        (pss_one (ps_if (pt_cmpR op_lt (pv 12) (pv 1) (nomark _))
          (pss_one (ps_asg (pe_make T.mkr GI hr2 rfl T.mgC hb3 hd3 pass0 (pa_cons (pe_ix ix_list (pe_ix ix_list (pv 4) (pv 2) (fun _ _ => rfl)) (pe_un un_neg pe_int) (fun _ _ => rfl)) (pa_cons (pe_ix ix_list (pv 10) (pe_un un_neg pe_int) (fun _ _ => rfl)) pa_nil)))
            (pg_sub (pv 11) (pv 12) set_list))) pss_nil)))
      (pss_cons (ps_setLc (i := 13) (own := [("number", 15)]) (g := gName 15) (tt := tYes) (te := tMake C (spRInit C) [] E0 (tCons (tVar 15) (tCons (tOp (rIxL K) (tVar 10) (tUn (rU fun i => .int (-i)) (tC (.int 1)))) tNil))) rfl scS.nd rfl rfl (sw_true rfl rfl rfl (by decide +kernel))
            (pi_list (pe_slice sl_list (pv 10) (po_some (pv 1)) (po_some (pe_un un_neg pe_int))))
            (blkOk_by (N := nS) (sc := defScope sSolve) (by decide +kernel)) (fun _ _ _ _ _ => pg_name (i := 15) scS.nd rfl (.inl rfl) (.inr rfl)) (fun _ _ _ _ _ => pts_nil)
            (fun _ _ _ _ _ => pe_make T.mkr GI hr2 rfl T.mgC hb3 hd3 pass0 (pa_cons (pv 15) (pa_cons (pe_ix ix_list (pv 10) (pe_un un_neg pe_int) (fun _ _ => rfl)) pa_nil))))
      (pss_one (ps_ret (pe_tup (pa_cons (pe_op (op_subOwn GS hr bS pass0 T.first T.sub T.subF T.rsub hfo hro T.isu) (pe_make T.mkr GI hr2 rfl T.mgC hb3 hd3 pass0 (pa_cons (pv 8) (pa_cons (pe_ix ix_list (pv 10) (pe_un un_neg pe_int) (fun _ _ => rfl)) pa_nil))) (pv 3))
        (pa_cons (pv 13) (pa_cons (pv 11) pa_nil)))))))))))))))))))), ?_⟩
    -- check_game(rows); wide
    refine ⟨.ref a, rfl, a, as, m, n, A0, rfl, M, hm, hn, by omega, by omega, fun H1 s1 => ?_⟩
    have M1 := M.same s1
    refine ⟨.ref a, rfl, a, _, 0, _, rfl, rfl, SqL.of M1.top, atI_rl (i := 0) hm, as 0, _, rfl, .inl (SqL.of (M1.row 0 hm)), ?_⟩
    rw [len_rl]
    -- lift
    refine ⟨.ref a, rfl, a, rfl, ⟨_, SqL.of M1.top⟩, fun D nD => ?_⟩
    refine ⟨fun i q H2 => q = m - i ∧ i ≤ m ∧ Same H1 H2 ∧ H2 D = some (.lst ((fl n A0 i).map V.int)), ⟨m, rfl, Nat.zero_le _, same_upd nD, upd_same⟩, ?_⟩
    rintro i q H2 ⟨rfl, hi, s2, e2⟩
    have s02 := s1.trans s2
    have M2 := M.same s02
    have small : ∀ i j, i ≤ m → j ≤ n → (((fl n A0 i ++ (List.range j).map (A0 i)).map V.int).length) < sizeLine := fun i j hi hj => by
      rw [List.length_map, List.length_append, fl_len, List.length_map, List.length_range]
      have : i * n ≤ 6 * 6 := Nat.mul_le_mul (by omega) hn6
      exact small1000 (by omega)
    by_cases hlt : i < m
    · refine .inr ⟨itl_go M2.top hlt, fun H' => Same H1 H' ∧ H' D = some (.lst ((fl n A0 (i + 1)).map V.int)), fun H' h' => ⟨m - (i + 1), by omega, rfl, hlt, h'⟩, ?_⟩
      rintro x H' ⟨rfl, hx⟩
      obtain rfl := rl_at (hx _ (SqL.of M2.top)) hlt
      refine ⟨rfl, yes ⟨_, rfl, as i, rfl, ⟨_, SqL.of (M2.row i hlt)⟩, ?_⟩⟩
      refine ⟨fun j q H3 => q = n - j ∧ j ≤ n ∧ Same H1 H3 ∧ H3 D = some (.lst ((fl n A0 i ++ (List.range j).map (A0 i)).map V.int)), ⟨n, rfl, Nat.zero_le _, s2, by rw [List.range_zero, List.map_nil, List.append_nil]; exact e2⟩, ?_⟩
      rintro j q H3 ⟨rfl, hj, s3, e3⟩
      have M3 := M.same (s1.trans s3)
      by_cases hjn : j < n
      · refine .inr ⟨itl_go (M3.row i hlt) hjn, fun H' => Same H1 H' ∧ H' D = some (.lst ((fl n A0 i ++ (List.range (j + 1)).map (A0 i)).map V.int)), fun H' h' => ⟨n - (j + 1), by omega, rfl, hjn, h'⟩, ?_⟩
        rintro x H' ⟨rfl, hx⟩
        obtain rfl := rl_at (hx _ (SqL.of (M3.row i hlt))) hjn
        refine ⟨rfl, yes ⟨_, rfl, .inl ⟨_, rfl, _, e3, small i j (by omega) hj, fun b o e => ?_, ?_⟩⟩⟩
        · rw [upd_ne (ne_of_none e nD)]
          exact s3 _ _ e
        · rw [upd_same, List.range_succ]
          simp
      · have ej : j = n := by omega
        subst ej
        exact .inl ⟨itl_stop (M3.row i hlt), s3, e3⟩
    have ei : i = m := by omega
    subst ei
    refine .inl ⟨itl_stop M2.top, D, fl n A0 i, rfl, SqL.of e2, by rw [fl_len]; exact Nat.mul_pos hm hn, fun mn hmem hle => ⟨1, mn, rfl, rfl, ?_⟩⟩
    obtain ⟨pa, hpa, pb, hpb, pe⟩ := fl_mem.mp hmem
    have h1A : ∀ u j, u < i → j < n → 1 ≤ A0 u j + (1 - mn) := fun u j hu hj => by
      have := hle (A0 u j) (fl_mem.mpr ⟨u, hu, j, hj, rfl⟩)
      omega
    have hlA : (1 - mn).natAbs < 2 ^ 206 := by
      have := hA pa pb hpa hpb
      rw [pe] at this
      have e : (2 : Nat) ^ 206 = 2 ^ 205 + 2 ^ 205 := by decide +kernel
      have e2 : 2 ≤ (2 : Nat) ^ 205 := by decide +kernel
      omega
    have hbA : ∀ u j, u < i → j < n → (A0 u j + (1 - mn)).natAbs ≤ big := fun u j hu hj => by
      have := hA u j hu hj
      have e : big = 2 ^ 205 * 32 := by decide +kernel
      have e2 : (2 : Nat) ^ 206 = 2 ^ 205 * 2 := by decide +kernel
      omega
    show gName 3 (V.int (1 - mn)) _ _ _
    generalize (1 - mn) = lift at h1A hlA hbA ⊢
    clear hmem hle pe small hlt hi
    -- table = []; the rows
    refine ⟨Nat.zero_le _, fun tb ntb => ?_⟩
    have s3 : Same H2 (upd H2 tb (.lst [])) := same_upd ntb
    refine ⟨.ref a, rfl, a, _, rfl, SqL.of (s3 _ _ M2.top), ?_⟩
    refine for_it (walk_enum (K := K) (a := a) (xs := rl i fun i => .ref (as i)))
      (fun u σ H' => ∃ (qs : Nat → Addr) (x2 x5 x6 : Option V), σ = [some (.ref a), some (.int (n : Int)), x2, some (.int lift), some (.ref tb), x5, x6, none, none, none, none, none, none, none, none, none, none] ∧ Acc H2 H' tb u qs (n + i + 1) (T0 i n A0 lift))
      ⟨fun _ => 0, _, _, _, rfl, Acc.start ntb⟩ (fun u σ H' _ ⟨_, _, _, _, _, A⟩ => SqL.of (A.same _ _ M2.top)) ?_ ?_
    · rintro u x σ H3 H4 hu ⟨qs, x2, x5, x6, rfl, A3⟩ ⟨q, z, v, rfl, nq, rfl, e1, e3⟩
      rw [rl_len] at hu
      cases Option.some.inj e1
      obtain rfl := rl_at e3 hu
      have s34 : Same H3 (upd H3 q (.tup [.int (u : Nat), .ref (as u)])) := same_upd nq
      generalize hH4 : upd H3 q (.tup [.int (u : Nat), .ref (as u)]) = H4 at s34
      have eq4 : H4 q = some (.tup [.int (u : Nat), .ref (as u)]) := by rw [← hH4]; exact upd_same
      have A4 := A3.go s34
      have M4 := M2.same A4.same
      refine ⟨q, _, rfl, SqT.of eq4, rfl, _, _, rfl, _, _, rfl, rfl, ?_⟩
      -- slack
      refine ⟨.ref a, rfl, a, _, rfl, .inl (SqL.of M4.top), (i : Int), by rw [len_rl], by omega, by omega, fun sl nsl => ?_⟩
      refine lc_val (walk_range (lo := 0) (n := i)) (fun o => .int (if u = o then 1 else 0)) nsl (small_le (by omega)) (fun _ _ => trivial) ?_ ?_
      · rintro j x H5 H6 hj s5 ⟨rfl, rfl⟩ RR Rf kk
        refine ⟨rfl, yes ⟨_, rfl, _, rfl, rfl, .inr ⟨_, rfl, ?_⟩⟩⟩
        have e : (if decide (V.int (u : Int) = V.int (0 + (j : Int))) = true then (1 : Int) else 0) = if u = j then 1 else 0 := by
          by_cases h : u = j
          · rw [if_pos h, dI_eq (by omega), if_pos rfl]
          · rw [if_neg h, dI_ne (by omega), if_neg Bool.false_ne_true]
        rw [e]
        exact kk _ (Same.refl _)
      intro H5 s45 esl
      have A5 := A4.go s45
      have M5 := M2.same A5.same
      -- table.append(..)
      refine ⟨.ref tb, rfl, .inl ⟨rfl, _, SqL.of A5.top⟩, .ref (as u), rfl, as u, rfl, ⟨_, SqL.of (M5.row u hu)⟩, fun p1 np1 => ?_⟩
      refine lc_val (walk_list (K := K) (a := as u) (xs := rl n fun j => .int (A0 u j))) (fun j => .int (A0 u j + lift)) np1 (by rw [rl_len]; exact small_le (by omega)) (fun H6 s6 => SqL.of (s6 _ _ (M5.row u hu))) ?_ ?_
      · rintro j x H6 H7 hj s6 ⟨rfl, ex⟩ RR Rf kk
        rw [rl_len] at hj
        obtain rfl := rl_at ex hj
        exact ⟨rfl, yes ⟨_, rfl, _, rfl, _, _, rfl, rfl, kk _ (Same.refl _)⟩⟩
      intro H6 s56 ep1
      rw [rl_len] at ep1
      refine ⟨.ref sl, rfl, p1, sl, _, _, rfl, rfl, ep1, s56 _ _ esl, by rw [rl_len, rl_len]; exact small_le (by omega), fun p2 np2 => ?_⟩
      have s67 : Same H6 (upd H6 p2 (.lst (rl n (fun j => .int (A0 u j + lift)) ++ rl i (fun o => .int (if u = o then 1 else 0))))) := same_upd np2
      refine ⟨by decide, fun p3 np3 => ?_⟩
      have s78 := same_upd (o := .lst [.int 1]) np3
      refine ⟨p2, p3, _, _, rfl, rfl, s78 _ _ upd_same, upd_same, by rw [List.length_append, rl_len, rl_len]; exact small_le (by show n + i + 1 ≤ 1000; omega), fun p4 np4 => ?_⟩
      rw [row_is hu]
      have s89 := same_upd (o := .lst (rl (n + i + 1) fun j => .int (T0 i n A0 lift u j))) np4
      have sall := ((s56.trans s67).trans s78)
      refine ⟨tb, _, _, rfl, rfl, s89 _ _ (sall _ _ A5.top), by rw [rl_len]; exact small1000 (by omega), ?_⟩
      exact ⟨_, _, _, _, rfl, A5.push ntb (sall.trans s89) (sall.free np4) upd_same⟩
    rintro σ H3 ⟨qs, x2, x5, x6, rfl, A3⟩
    rw [rl_len] at A3
    -- table.append(..): the last row
    have M3 := M2.same A3.same
    refine ⟨.ref tb, rfl, .inl ⟨rfl, _, SqL.of A3.top⟩, .int (n : Int), rfl, (n : Int), rfl, by omega, by omega, fun p1 np1 => ?_⟩
    refine lc_val (walk_range (lo := 0) (n := n)) (fun _ => .int (-1)) np1 (small_le (by omega)) (fun _ _ => trivial) ?_ ?_
    · rintro j x H5 H6 hj s5 ⟨rfl, rfl⟩ RR Rf kk
      exact ⟨rfl, yes ⟨1, rfl, kk _ (Same.refl _)⟩⟩
    intro H4 s34 ep1
    have M4 := M3.same s34
    refine ⟨.ref a, rfl, a, rfl, ⟨_, SqL.of M4.top⟩, fun p2 np2 => ?_⟩
    refine lc_val (walk_list (K := K) (a := a) (xs := rl i fun i => .ref (as i))) (fun _ => .int 0) np2 (by rw [rl_len]; exact small_le (by omega)) (fun H5 s5 => SqL.of (s5 _ _ M4.top)) ?_ ?_
    · rintro j x H5 H6 hj s5 ⟨rfl, ex⟩ RR Rf kk
      exact ⟨rfl, yes (kk _ (Same.refl _))⟩
    intro H5 s45 ep2
    rw [rl_len] at ep2
    refine ⟨p1, p2, _, _, rfl, rfl, s45 _ _ ep1, ep2, by rw [rl_len, rl_len]; exact small_le (by omega), fun p3 np3 => ?_⟩
    have s56 := same_upd (o := .lst (rl n (fun _ => .int (-1)) ++ rl i (fun _ => .int 0))) np3
    refine ⟨by decide, fun p4 np4 => ?_⟩
    have s67 := same_upd (o := .lst [.int 0]) np4
    refine ⟨p3, p4, _, _, rfl, rfl, s67 _ _ upd_same, upd_same, by rw [List.length_append, rl_len, rl_len]; exact small_le (by show n + i + 1 ≤ 1000; omega), fun p5 np5 => ?_⟩
    rw [last_is (A := A0) (lift := lift)]
    have s78 := same_upd (o := .lst (rl (n + i + 1) fun j => .int (T0 i n A0 lift i j))) np5
    have s37 := ((s34.trans s45).trans s56).trans s67
    refine ⟨tb, _, _, rfl, rfl, s78 _ _ (s37 _ _ A3.top), by rw [rl_len]; exact small1000 (by omega), ?_⟩
    have NT := (A3.push ntb (s37.trans s78) (s37.free np5) upd_same).done ntb
    generalize hH8 : upd (upd _ p5 _) tb _ = H8 at NT ⊢
    generalize (fun k => if k = i then p5 else qs k) = qs0 at NT
    have s08 := s02.trans NT.same
    have M8 := M.same s08
    clear hH8 s78 s37 s67 s56 ep1 ep2 np5 np4 np3 np2 np1 s45 s34 M3 M4 A3 qs
    -- basis
    refine ⟨.ref a, rfl, a, _, rfl, .inl (SqL.of M8.top), (i : Int), by rw [len_rl], by omega, by omega, fun bs nbs => ?_⟩
    refine lc_val (walk_range (lo := 0) (n := i)) (fun o => .int ((n + o : Nat) : Int)) nbs (small_le (by omega)) (fun _ _ => trivial) ?_ ?_
    · rintro j x H5 H6 hj s5 ⟨rfl, rfl⟩ RR Rf kk
      refine ⟨rfl, yes ⟨_, rfl, _, rfl, _, _, rfl, rfl, ?_⟩⟩
      show RR (.int ((n : Int) + (0 + (j : Int)))) _
      rw [show (n : Int) + (0 + (j : Int)) = ((n + j : Nat) : Int) by omega]
      exact kk _ (Same.refl _)
    intro H9 s89 ebs
    have M9 := NT.mat.same s89
    have s09 := s08.trans s89
    -- scale, column
    refine ⟨.ref tb, rfl, tb, qs0, i, n + i, _, rfl, M9, by omega, fun H10 col s910 hcol => ?_⟩
    have nbs0 : H bs = none := s08.free nbs
    have C0 := cols0 (A := A0) (lift := lift) hm hn h1A
    have I0 : Gm.Inv i n (fun j p => T0 i n A0 lift p j) (sta0 i n A0 lift).b (sta0 i n A0 lift).T (sta0 i n A0 lift).s := C0.start fun _ _ _ _ => rfl
    obtain ⟨tend, hend⟩ := Gm.tra_end I0
    have good : ∀ t, Good i n A0 lift (Gm.tra i n (sta0 i n A0 lift) t) := fun t => good_of hm6 hbA (Gm.tra_inv I0 t)
    have mid0 : Mid H H10 a bs i n lift (Gm.tra i n (sta0 i n A0 lift) 0) [some (.ref a), some (.int (n : Int)), x2, some (.int lift), some (.ref tb), x5, x6, some (.ref bs), some (.int 1), some col, none, none, none, none, none, none, none] x2 x5 x6 col tb qs0 :=
      ⟨rfl, s09.trans s910, M9.same s910, s910 _ _ ebs, fun e => (by rw [← e, NT.mat.top] at nbs; cases nbs), fun u hu e => (by rw [← e, NT.mat.row u hu] at nbs; cases nbs), hcol⟩
    refine ⟨fun q σ H' => ∃ t x2 x5 x6 col tb qs, q = tend - t ∧ t ≤ tend ∧ Mid H H' a bs i n lift (Gm.tra i n (sta0 i n A0 lift) t) σ x2 x5 x6 col tb qs, ⟨_, 0, _, _, _, _, _, _, rfl, Nat.zero_le _, mid0⟩, ?_⟩
    clear mid0 hcol s910 H10 col s09 M9 ebs s89 H9 nbs M8 s08 NT qs0 H8 ntb s3 tb x2 x5 x6
    rintro q σ H3 ⟨t, x2, x5, x6, col, tb, qs, rfl, ht, D3⟩
    obtain ⟨rfl, s3, M3, B3, n1, n2, hcol⟩ := D3
    have gd := good t
    refine ⟨_, rfl, rfl, _, rfl, ?_⟩
    rcases hcol with ⟨rfl, hopt⟩ | ⟨c, rfl, hc, hneg, hlow⟩
    rotate_left
    · -- a pivot
      refine iteT ⟨fun σ' H' => ∃ q', q' < tend - t ∧ ∃ t x2 x5 x6 col tb qs, q' = tend - t ∧ t ≤ tend ∧ Mid H H' a bs i n lift (Gm.tra i n (sta0 i n A0 lift) t) σ' x2 x5 x6 col tb qs, fun _ _ h => h, ?_⟩
      have b4 : (2 : Nat) ^ 1500 ≤ 2 ^ 4000 := Nat.pow_le_pow_right (by decide) (by decide)
      have b8 : (2 : Nat) ^ 1500 ≤ 2 ^ 8000 := Nat.pow_le_pow_right (by decide) (by decide)
      have sm4 : ∀ u j, u < i + 1 → j < n + i + 1 → ((Gm.tra i n (sta0 i n A0 lift) t).T u j).natAbs < 2 ^ 4000 := fun u j hu hj => Nat.lt_of_lt_of_le (gd.sm u j hu hj) b4
      refine ⟨.ref tb, rfl, .ref bs, rfl, .int (c : Int), rfl, tb, bs, qs, i, n, c, _, _, rfl, M3, B3, hc, sm4, gd.inv.bounded C0 hc, fun H4 r s34 R => ?_⟩
      have M4 := M3.same s34
      have B4 := B3.same s34
      have S : Gm.Step i n (Gm.tra i n (sta0 i n A0 lift) t).b (Gm.tra i n (sta0 i n A0 lift) t).T c r := ⟨hc, hneg, hlow, R⟩
      have tlt : t < tend := Gm.tra_lt hend ⟨(c, r), S⟩
      have enx : Gm.tra i n (sta0 i n A0 lift) (t + 1) = Gm.adv (Gm.tra i n (sta0 i n A0 lift) t) c r := Gm.nxt_eq gd.inv S
      have rlt := R.lt
      generalize Gm.tra i n (sta0 i n A0 lift) t = X at *
      refine ⟨.ref tb, rfl, .int (r : Int), rfl, .int (c : Int), rfl, .int X.s, rfl, tb, qs, i + 1, n + i + 1, r, c, X.s, X.T, rfl, M4, by omega, by omega, by omega, by omega, gd.inv.pos, Nat.lt_of_lt_of_le gd.ss b8, sm4, fun H5 tb' qs' N5 => ?_⟩
      have B5 := B4.same N5.same
      refine ⟨.ref tb', rfl, .int (r : Int), rfl, tb', _, _, _, rfl, rfl, SqL.of N5.mat.top, atI_rl (show r < i + 1 by omega), .int (c : Int), rfl, qs' r, _, _, _, rfl, rfl, SqL.of (N5.mat.row r (by omega)), atI_rl (show c < n + i + 1 by omega), ?_⟩
      rw [show Gm.piv X.T r c X.s r c = X.T r c from if_pos rfl]
      refine ⟨.int (c : Int), rfl, .ref bs, rfl, .int (r : Int), rfl, bs, _, _, r, rfl, rfl, B5, by rw [rl_len]; exact ixN_nat rlt, ?_⟩
      rw [rl_set]
      have m1 : tb' ≠ bs := fun e => by have z := N5.new; rw [e, B4] at z; cases z
      have m2 : ∀ u, u < i + 1 → qs' u ≠ bs := fun u hu e => by have z := N5.news u hu; rw [e, B4] at z; cases z
      have bt : But bs H5 (upd H5 bs (.lst (rl i fun k => if k = r then .int (c : Int) else .int (X.b k : Int)))) := fun b o ne e => by rw [upd_ne ne]; exact e
      have M6 : FM (upd H5 bs (.lst (rl i fun k => if k = r then .int (c : Int) else .int (X.b k : Int)))) tb' qs' (i + 1) (n + i + 1) (Gm.piv X.T r c X.s) := ⟨bt _ _ m1 N5.mat.top, fun u hu => (N5.mat.row u hu).but bt (m2 u hu)⟩
      have B6 : FL (upd H5 bs (.lst (rl i fun k => if k = r then .int (c : Int) else .int (X.b k : Int)))) bs i (fun k => (Gm.upb X.b r c k : Int)) := by
        unfold FL
        rw [upd_same, rl_congr fun k hk => ?_]
        show (if k = r then V.int (c : Int) else V.int (X.b k : Int)) = V.int (((if k = r then c else X.b k) : Nat) : Int)
        by_cases h : k = r
        · rw [if_pos h, if_pos h]
        · rw [if_neg h, if_neg h]
      have s6 : Same H (upd H5 bs (.lst (rl i fun k => if k = r then .int (c : Int) else .int (X.b k : Int)))) := fun b o e => bt _ _ (ne_of_none e nbs0) (N5.same _ _ (s34 _ _ (s3 _ _ e)))
      generalize upd H5 bs (.lst (rl i fun k => if k = r then .int (c : Int) else .int (X.b k : Int))) = H6 at M6 B6 s6 ⊢
      refine ⟨.ref tb', rfl, tb', qs', i, n + i, _, rfl, M6, by omega, fun H7 col' s67 hcol' => ?_⟩
      refine ⟨tend - (t + 1), by omega, t + 1, some (.int (r : Int)), x5, x6, col', tb', qs', rfl, tlt, ?_⟩
      rw [enx]
      exact ⟨rfl, s6.trans s67, M6.same s67, B6.same s67, m1, m2, hcol'⟩
    -- the end
    refine iteF ?_
    have hsol := (gd.inv.sol_of C0 hopt).lower
    have hdv := fun (u : Nat) (hu : u < i) => gd.inv.dv_new hu
    generalize Gm.tra i n (sta0 i n A0 lift) t = X at *
    have b18 : (2 : Nat) ^ 1500 ≤ 2 ^ 1800 := Nat.pow_le_pow_right (by decide) (by decide)
    have b80 : (2 : Nat) ^ 1500 ≤ 2 ^ 8000 := Nat.pow_le_pow_right (by decide) (by decide)
    have Lp : 0 < X.T i (n + i) := hsol.Lp
    have Ls : (X.T i (n + i)).natAbs < 2 ^ 1500 := gd.sm i (n + i) (by omega) (by omega)
    have L18 := Nat.lt_of_lt_of_le Ls b18
    have L80 := Nat.lt_of_lt_of_le Ls b80
    generalize hL : X.T i (n + i) = L at Lp Ls L18 L80 hsol
    -- last
    refine ⟨.ref tb, rfl, 1, rfl, tb, _, -1, _, rfl, rfl, SqL.of M3.top, atI_rl_last _ _, ?_⟩
    have R3 := fun u hu => M3.row u hu
    have La : H3 (qs i) = some (.lst (rl (n + i + 1) fun j => .int (X.T i j))) := M3.row i (by omega)
    -- column_mix
    refine ⟨.int (n : Int), rfl, (n : Int), rfl, by omega, by omega, fun cm ncm => ?_⟩
    refine lc_gen (walk_range (lo := 0) (n := n)) (fun j y H' => ∃ q, y = .ref q ∧ q ≠ cm ∧ RatOK C H' q 0 L) ncm (small_le (by omega)) ?_ (fun _ _ => trivial) ?_ ?_
    · rintro j y H4 H5 ⟨q, rfl, ne, h⟩ bt
      exact ⟨q, rfl, ne, h.but bt ne⟩
    · rintro j x H4 H5 hj s4 ⟨rfl, rfl⟩ hD RR Rf kk
      refine ⟨rfl, yes (mk_rat (t := 0) (b := 1) (by decide) (by decide +kernel) fun q H' s nq hq => kk _ _ ⟨q, rfl, fun e => ?_, ratOK_zero hq⟩ s)⟩
      rw [e] at nq
      exact hD nq
    intro H4 g s34 ecm hg
    have hcs : ∃ cs : Nat → Addr, ∀ j, j < n → g j = .ref (cs j) ∧ cs j ≠ cm ∧ RatOK C H4 (cs j) 0 L := by
      refine ⟨fun j => refA (g j), fun j hj => ?_⟩
      obtain ⟨q, e, h⟩ := hg j hj
      show g j = .ref (refA (g j)) ∧ refA (g j) ≠ cm ∧ RatOK C H4 (refA (g j)) 0 L
      rw [e]
      exact ⟨rfl, h⟩
    obtain ⟨cs, hcs⟩ := hcs
    rw [rl_congr fun j hj => (hcs j hj).1] at ecm
    -- the amounts
    have B4 := B3.same s34
    refine ⟨.ref bs, rfl, bs, _, rfl, SqL.of B4, ?_⟩
    refine for_it (walk_enum (K := K) (a := bs) (xs := rl i fun k => V.int (X.b k : Int)))
      (fun u σ H' => ∃ (cs : Nat → Addr) (x2 x12 : Option V), σ = [some (.ref a), some (.int (n : Int)), x2, some (.int lift), some (.ref tb), x5, x6, some (.ref bs), some (.int X.s), some .non, some (.ref (qs i)), some (.ref cm), x12, none, none, none, none] ∧
        Same H3 H' ∧ H' cm = some (.lst (rl n fun j => .ref (cs j))) ∧ ∀ j, j < n → cs j ≠ cm ∧ RatOK C H' (cs j) (Gm.dv n i X.b X.T u j) L)
      ⟨cs, _, _, rfl, s34, ecm, fun j hj => ⟨(hcs j hj).2.1, (hcs j hj).2.2⟩⟩ (fun u σ H' _ ⟨_, _, _, _, s, _⟩ => SqL.of (s _ _ B3)) ?_ ?_
    · rintro u x σ H5 H6 hu ⟨cs, x2, x12, rfl, s5, ecm, hcs⟩ ⟨q, z, v, rfl, nq, rfl, e1, e2⟩
      rw [rl_len] at hu
      cases Option.some.inj e1
      obtain rfl := rl_at e2 hu
      have s56 : Same H5 (upd H5 q (.tup [.int (u : Nat), .int (X.b u : Int)])) := same_upd nq
      generalize hH6 : upd H5 q (.tup [.int (u : Nat), .int (X.b u : Int)]) = H6 at s56
      have eq6 : H6 q = some (.tup [.int (u : Nat), .int (X.b u : Int)]) := by rw [← hH6]; exact upd_same
      have s6 := s5.trans s56
      refine ⟨q, _, rfl, SqT.of eq6, rfl, _, _, rfl, _, _, rfl, rfl, ?_⟩
      refine ⟨_, rfl, _, rfl, _, _, rfl, rfl, _, rfl, ite2 (fun h => ?_) (fun h => ?_)⟩
      · have hbn : X.b u < n := by
          have z : (X.b u : Int) < (n : Int) := of_decide_eq_true h
          omega
        refine ⟨.ref tb, rfl, .int (u : Int), rfl, tb, _, _, _, rfl, rfl, SqL.of (s6 _ _ M3.top), atI_rl (show u < i + 1 by omega), 1, rfl, qs u, _, -1, _, rfl, rfl, SqL.of (s6 _ _ (M3.row u (by omega))), atI_rl_last _ _,
          .ref (qs i), rfl, 1, rfl, qs i, _, -1, _, rfl, rfl, SqL.of (s6 _ _ La), atI_rl_last _ _, ?_⟩
        rw [hL]
        intro p dp np ndp nep
        refine ⟨p, dp, X.T u (n + i), L, rfl, upd_same, Lp, L80, rfl, ?_⟩
        obtain ⟨s67, hp⟩ := made (C := C) (fs := []) (t := X.T u (n + i) / gcdI (X.T u (n + i)) L) (b := L / gcdI (X.T u (n + i)) L) np ndp
        generalize upd (upd (upd H6 dp _) p _) p _ = H7 at s67 hp ⊢
        refine ⟨.ref cm, rfl, .int (X.b u : Int), rfl, cm, _, _, X.b u, rfl, rfl, s67 _ _ (s56 _ _ ecm), by rw [rl_len]; exact ixN_nat hbn, ?_⟩
        rw [rl_set]
        have npc : p ≠ cm := fun e => by rw [e, s56 _ _ ecm] at np; cases np
        have bt : ∀ o, But cm H7 (upd H7 cm o) := fun o b z ne e => by rw [upd_ne ne]; exact e
        refine ⟨fun j => if j = X.b u then p else cs j, _, _, rfl, fun b o e => bt _ _ _ (ne_of_none e ncm) (s67 _ _ (s6 _ _ e)), ?_, fun j hj => ?_⟩
        · rw [upd_same, rl_congr fun j hj => ?_]
          show (if j = X.b u then V.ref p else V.ref (cs j)) = V.ref (if j = X.b u then p else cs j)
          by_cases e : j = X.b u
          · rw [if_pos e, if_pos e]
          · rw [if_neg e, if_neg e]
        · show (if j = X.b u then p else cs j) ≠ cm ∧ RatOK C _ (if j = X.b u then p else cs j) _ L
          by_cases e : j = X.b u
          · rw [if_pos e, e, hdv u hu]
            exact ⟨npc, (ratOK_mk hp Lp L18 (Nat.lt_of_lt_of_le (gd.sm u (n + i) (by omega) (by omega)) b18)).but (bt _) npc⟩
          · rw [if_neg e, Gm.dv_old (Ne.symm e)]
            obtain ⟨h1, h2⟩ := hcs j hj
            exact ⟨h1, ((h2.same s56).same s67).but (bt _) h1⟩
      · have hbn : ¬ X.b u < n := fun z => h (decide_eq_true (show (X.b u : Int) < (n : Int) by omega))
        refine ⟨cs, _, _, rfl, s6, s56 _ _ ecm, fun j hj => ?_⟩
        obtain ⟨h1, h2⟩ := hcs j hj
        rw [Gm.dv_old (show X.b u ≠ j by omega)]
        exact ⟨h1, h2.same s56⟩
    rintro σ H5 ⟨cs, x2, x12, rfl, s5, ecm, hcs⟩
    rw [rl_len] at hcs
    -- row_mix
    refine ⟨.ref (qs i), rfl, .int (n : Int), rfl, (n : Int), rfl, 1, rfl, -1, rfl, qs i, _, rfl, SqL.of (s5 _ _ La), fun sp nsp => ?_⟩
    rw [cut_mid]
    refine ⟨sp, rfl, ⟨_, SqL.of upd_same⟩, fun rm nrm => ?_⟩
    have s56 := same_upd (o := .lst (rl i fun k => .int (X.T i (n + k)))) nsp
    have esp : (upd H5 sp (.lst (rl i fun k => .int (X.T i (n + k))))) sp = some (.lst (rl i fun k => .int (X.T i (n + k)))) := upd_same
    generalize upd H5 sp (.lst (rl i fun k => .int (X.T i (n + k)))) = H6 at s56 esp nrm ⊢
    refine lc_gen (walk_list (K := K) (a := sp) (xs := rl i fun k => .int (X.T i (n + k)))) (fun j y H' => ∃ q, y = .ref q ∧ q ≠ rm ∧ RatOK C H' q (X.T i (n + j)) L) nrm (by rw [rl_len]; exact small_le (by omega)) ?_ (fun H7 s7 => SqL.of (s7 _ _ esp)) ?_ ?_
    · rintro j y H7 H8 ⟨q, rfl, ne, h⟩ bt
      exact ⟨q, rfl, ne, h.but bt ne⟩
    · rintro j x H7 H8 hj s7 ⟨rfl, ex⟩ hD RR Rf kk
      rw [rl_len] at hj
      obtain rfl := rl_at ex hj
      refine ⟨rfl, yes ⟨.int (X.T i (n + j)), rfl, .ref (qs i), rfl, 1, rfl, qs i, _, -1, _, rfl, rfl, SqL.of (s7 _ _ (s56 _ _ (s5 _ _ La))), atI_rl_last _ _, ?_⟩⟩
      rw [hL]
      refine mk_rat (t := X.T i (n + j)) (b := L) Lp L80 fun q H' s nq hq => kk _ _ ⟨q, rfl, fun e => ?_, ratOK_mk hq Lp L18 (Nat.lt_of_lt_of_le (gd.sm i (n + j) (by omega) (by omega)) b18)⟩ s
      rw [e] at nq
      exact hD nq
    intro H7 g2 s67 erm hg2
    rw [rl_len] at erm hg2
    have hrs : ∃ rs : Nat → Addr, ∀ j, j < i → g2 j = .ref (rs j) ∧ RatOK C H7 (rs j) (X.T i (n + j)) L := by
      refine ⟨fun j => refA (g2 j), fun j hj => ?_⟩
      obtain ⟨q, e, _, h⟩ := hg2 j hj
      show g2 j = .ref (refA (g2 j)) ∧ RatOK C H7 (refA (g2 j)) _ L
      rw [e]
      exact ⟨rfl, h⟩
    obtain ⟨rs, hrs⟩ := hrs
    rw [rl_congr fun j hj => (hrs j hj).1] at erm
    have s57 := s56.trans s67
    -- the answer
    refine ⟨.int X.s, rfl, .ref (qs i), rfl, 1, rfl, qs i, _, -1, _, rfl, rfl, SqL.of (s57 _ _ (s5 _ _ La)), atI_rl_last _ _, ?_⟩
    rw [hL]
    intro v0 dv0 nv0 ndv0 nev0
    refine ⟨v0, dv0, X.s, L, rfl, upd_same, Lp, L80, rfl, ?_⟩
    obtain ⟨s78, hv0⟩ := made (C := C) (fs := []) (t := X.s / gcdI X.s L) (b := L / gcdI X.s L) nv0 ndv0
    generalize upd (upd (upd H7 dv0 _) v0 _) v0 _ = H8 at s78 hv0 ⊢
    have hg0 := gcd_pos (t := X.s) Lp
    have hb0 := norm_pos X.s L Lp
    have hbs : (L / gcdI X.s L).natAbs < 2 ^ 1500 := Nat.lt_of_le_of_lt (div_le_natAbs _ _ hg0) Ls
    have hts : (X.s / gcdI X.s L).natAbs < 2 ^ 1500 := Nat.lt_of_le_of_lt (div_le_natAbs _ _ hg0) gd.ss
    have hne := norm_eq X.s L Lp
    generalize L / gcdI X.s L = b0 at hv0 hb0 hbs hne
    generalize X.s / gcdI X.s L = t0 at hv0 hts hne
    have hv1 := hv0
    obtain ⟨dx, ev0⟩ := hv1
    refine ⟨.int lift, rfl, v0, dx, _, lift, rfl, rfl, ev0, v0, t0, b0, lift, rfl, ⟨dx, ev0⟩, hb0, Nat.lt_of_lt_of_le hbs b80, Nat.lt_of_lt_of_le hlA (Nat.pow_le_pow_right (by decide) (by decide)), fun v H9 s89 nv hv => ?_⟩
    refine ⟨.ref rm, rfl, .ref cm, rfl, (by show 3 ≤ sizeLine; decide), fun u nu => ?_⟩
    have s90 := same_upd (o := .tup [.ref v, .ref rm, .ref cm]) nu
    have s70 := (s78.trans s89).trans s90
    have s50 := s57.trans s70
    exact k _ u v rm cm rs cs L _ _ _ ((s3.trans s5).trans s50) ⟨upd_same, (ratOK_sub hv hb0 hne hbs hts hlA).same s90, s70 _ _ erm, s50 _ _ ecm, fun j hj => (hrs j hj).2.same s70, fun j hj => (hcs j hj).2.same s50, hsol⟩
end
end K53
namespace K53
open PySem PySem.Spec PyProof.Rows L2
section
variable {P : Program} {w : World} {K : PySem.W.Frag} {mg : Str → Option Value} {base : Heap} {C fI fS : Addr}
/-! ### _law_cell -/
def spCell (K : PySem.W.Frag) : Sp := fun vs H Q _ => ∃ (a : Addr) (ns : List Int) (p : Nat), vs = [.ref a, .int (p : Int)] ∧ SqL K H a (ns.map V.int) ∧ ∀ z : Int, Q (.int z) H
theorem scCell : FnScope ["_law_script", "_law_place"] ["_law_script", "_law_place"] (defScope sCell) := ⟨rfl, rfl, rfl, by decide +kernel, rfl, by decide +kernel, by decide +kernel⟩
theorem ok_cell {f : Addr} {fd : FuncData} (F : FnP K "_law_cell" sCell f fd) (T : Txt K mg C fI fS) : FnOk P w K mg base CX0 1 f fd ["_law_script", "_law_place"] (spCell K) := by
  refine F.ok scCell (fun vs H Q E h => ?_) (fun cdv A outer s H vs Q E hr h => ?_)
  · obtain ⟨a, ns, p, rfl, _⟩ := h
    rfl
  · obtain ⟨a, ns, p, rfl, S, k⟩ := h
    refine ⟨_, PSs.nox (pss_cons (ps_if (pt_cmpR op_lt (pv 1) (pe_callB call_len_seq (by rfl) T.len PySem.boot_len (pa_cons (pv 0) pa_nil)) (nomark _))
        (pss_one (ps_ret (pe_callTy call_int1 (by rfl) T.int (by decide +kernel) (pa_cons (pe_ix ix_list (pv 0) (pv 1) (fun _ _ => rfl)) pa_nil)))) pss_nil)
      (pss_one (ps_ret pe_int))), ?_⟩
    refine ⟨_, rfl, .ref a, rfl, a, _, rfl, .inl S, _, _, rfl, rfl, _, rfl, ite2 (fun h => ?_) (fun h => k 0)⟩
    have hp : p < ns.length := by
      have z : (p : Int) < ((ns.map V.int).length : Int) := of_decide_eq_true h
      rw [List.length_map] at z
      omega
    exact ⟨.ref a, rfl, _, rfl, a, _, _, .int ns[p], rfl, rfl, S, atI_nat (by rw [List.getElem?_map, List.getElem?_eq_getElem hp]; rfl), .inl ⟨_, rfl, k _⟩⟩
/-! ### _law_is_int -/
def spIsInt : Sp := fun vs H Q _ => ∃ i : Int, vs = [.int i] ∧ Q (.bl true) H
theorem scIsInt : FnScope ["_law_x"] ["_law_x"] (defScope sIsInt) := ⟨rfl, rfl, rfl, by decide +kernel, rfl, by decide +kernel, by decide +kernel⟩
theorem ok_isint {f : Addr} {fd : FuncData} (F : FnP K "_law_is_int" sIsInt f fd) (T : Txt K mg C fI fS) : FnOk P w K mg base CX0 1 f fd ["_law_x"] spIsInt := by
  refine F.ok scIsInt (fun vs H Q E h => ?_) (fun cdv A outer s H vs Q E hr h => ?_)
  · obtain ⟨i, rfl, _⟩ := h
    rfl
  · obtain ⟨i, rfl, k⟩ := h
    refine ⟨_, PSs.nox (pss_one (ps_ret (pe_and (pe_callB call_isi (by rfl) T.isi (by decide +kernel) (pa_cons (pv 0) (pa_cons (pe_bltn (v := .ty "int") (by rfl) T.int (by decide +kernel) rfl) pa_nil)))
      (pe_one (pe_not (pe_callB call_isi (by rfl) T.isi (by decide +kernel) (pa_cons (pv 0) (pa_cons (pe_bltn (v := .ty "bool") (by rfl) T.bool (by decide +kernel) rfl) pa_nil)))))))), ?_⟩
    refine ⟨_, rfl, _, _, _, _, true, rfl, .ty _, .base (.int _), by rfl, true, rfl, iteT ?_⟩
    exact ⟨_, rfl, _, _, _, _, false, rfl, .ty _, .base (.int _), by rfl, false, rfl, k⟩
theorem RatAt.is {H : Hp} {p : Addr} {t b : Int} (T : Txt K mg C fI fS) (h : RatAt C H p t b) : TyX K H (.ref p) (.ref C) := by
  obtain ⟨dx, e⟩ := h
  exact .base (.ins e T.cl T.ca T.cn T.ct T.cm)
/-! ### _law_is_ratio -/
def spIsRatio (C : Addr) : Sp := fun vs H Q _ => ∃ (p : Addr) (t b : Int), vs = [.ref p] ∧ RatAt C H p t b ∧ 0 < b ∧ Q (.bl true) H
theorem scIsRatio : FnScope ["_law_x"] ["_law_x"] (defScope sIsRatio) := ⟨rfl, rfl, rfl, by decide +kernel, rfl, by decide +kernel, by decide +kernel⟩
theorem ok_isratio {f fN : Addr} {fd fdN : FuncData} (F : FnP K "_law_is_ratio" sIsRatio f fd) (T : Txt K mg C fI fS) (FN : FnP K "_law_is_int" sIsInt fN fdN) (gN : mg "_law_is_int" = some (.ref fN)) : FnOk P w K mg base CX0 2 f fd ["_law_x"] (spIsRatio C) := by
  have GN : FnOk P w K mg base CX0 1 fN fdN ["_law_x"] spIsInt := ok_isint FN T
  have bN : Binds K fdN ["_law_x"] [] := FN.bindsN fun _ _ _ _ _ _ us hl => match us, hl with | [_], _ => rfl
  refine F.ok scIsRatio (fun vs H Q E h => ?_) (fun cdv A outer s H vs Q E hr h => ?_)
  · obtain ⟨p, t, b, rfl, _⟩ := h
    rfl
  · obtain ⟨p, t, b, rfl, hp, hb, k⟩ := h
    obtain ⟨dx, e⟩ := id hp
    refine ⟨_, PSs.nox (pss_cons (ps_if (pt_not (pt_val (pe_callB call_isi (by rfl) T.isi (by decide +kernel) (pa_cons (pv 0) (pa_cons (pe_glob (v := .ref C) (by rfl) T.mgC rfl) pa_nil))))) (pss_one (ps_ret pe_bl)) pss_nil)
      (pss_one (ps_ret (pe_and (pe_call GN hr rfl gN FN.kp bN .nil pass0 (pa_cons (pe_fld (pv 0) rfl) pa_nil)) (pe_and (pe_call GN hr rfl gN FN.kp bN .nil pass0 (pa_cons (pe_fld (pv 0) rfl) pa_nil)) (pe_one (pe_cmpR op_ge (pe_fld (pv 0) rfl) pe_int (nomark _)))))))), ?_⟩
    refine ⟨_, rfl, _, _, _, _, true, rfl, .own _, hp.is T, T.kC, true, rfl, iteF ?_⟩
    refine ⟨_, rfl, p, C, dx, _, _, rfl, e, T.cl, T.nT, rf_top _ _, t, rfl, true, rfl, iteT ?_⟩
    refine ⟨_, rfl, p, C, dx, _, _, rfl, e, T.cl, T.nB, rf_bottom _ _, b, rfl, true, rfl, iteT ?_⟩
    refine ⟨_, rfl, p, C, dx, _, _, rfl, e, T.cl, T.nB, rf_bottom _ _, b, 1, rfl, rfl, ?_⟩
    show Q (.bl (decide (1 ≤ b))) H
    rw [decide_eq_true (by omega)]
    exact k
/-! ### _law_same -/
def spSame (C : Addr) : Sp := fun vs H Q _ => ∃ (p : Addr) (t b u v : Int), vs = [.ref p, .int u, .int v] ∧ RatAt C H p t b ∧ 0 < b ∧ t.natAbs < 2 ^ 1800 ∧ b.natAbs < 2 ^ 1800 ∧ u.natAbs < 2 ^ 1800 ∧ v.natAbs < 2 ^ 1800 ∧ t * v = u * b ∧ Q (.bl true) H
theorem scSame : FnScope ["_law_x", "_law_top", "_law_bottom"] ["_law_x", "_law_top", "_law_bottom"] (defScope sSame) := ⟨rfl, rfl, rfl, by decide +kernel, rfl, by decide +kernel, by decide +kernel⟩
theorem ok_same {f fN : Addr} {fd fdN : FuncData} (F : FnP K "_law_same" sSame f fd) (T : Txt K mg C fI fS) (FN : FnP K "_law_is_int" sIsInt fN fdN) (gN : mg "_law_is_int" = some (.ref fN)) : FnOk P w K mg base CX0 2 f fd ["_law_x", "_law_top", "_law_bottom"] (spSame C) := by
  have GN : FnOk P w K mg base CX0 1 fN fdN ["_law_x"] spIsInt := ok_isint FN T
  have bN : Binds K fdN ["_law_x"] [] := FN.bindsN fun _ _ _ _ _ _ us hl => match us, hl with | [_], _ => rfl
  refine F.ok scSame (fun vs H Q E h => ?_) (fun cdv A outer s H vs Q E hr h => ?_)
  · obtain ⟨p, t, b, u, v, rfl, _⟩ := h
    rfl
  · obtain ⟨p, t, b, u, v, rfl, hp, hb, ht, hbl, hu, hv, heq, k⟩ := h
    obtain ⟨dx, e⟩ := id hp
    refine ⟨_, PSs.nox (pss_cons (ps_if (pt_not (pt_val (pe_callB call_isi (by rfl) T.isi (by decide +kernel) (pa_cons (pv 0) (pa_cons (pe_glob (v := .ref C) (by rfl) T.mgC rfl) pa_nil))))) (pss_one (ps_ret pe_bl)) pss_nil)
      (pss_cons (ps_if (PW.pt (pw_or (pt_not (pt_val (pe_call GN hr rfl gN FN.kp bN .nil pass0 (pa_cons (pe_fld (pv 0) rfl) pa_nil)))) (pw_or (pt_not (pt_val (pe_call GN hr rfl gN FN.kp bN .nil pass0 (pa_cons (pe_fld (pv 0) rfl) pa_nil)))) (pw_or1 (pt_cmpR op_lt (pe_fld (pv 0) rfl) pe_int (nomark _)))))) (pss_one (ps_ret pe_bl)) pss_nil)
      (pss_one (ps_ret (pe_cmpR op_eq (pe_op op_mulW (pe_fld (pv 0) rfl) (pv 2)) (pe_op op_mulW (pv 1) (pe_fld (pv 0) rfl)) (nomark _)))))), ?_⟩
    refine ⟨_, rfl, _, _, _, _, true, rfl, .own _, hp.is T, T.kC, true, rfl, iteF ?_⟩
    refine ⟨_, rfl, p, C, dx, _, _, rfl, e, T.cl, T.nT, rf_top _ _, t, rfl, true, rfl, iteF ?_⟩
    refine ⟨_, rfl, p, C, dx, _, _, rfl, e, T.cl, T.nB, rf_bottom _ _, b, rfl, true, rfl, iteF ?_⟩
    refine ⟨_, rfl, p, C, dx, _, _, rfl, e, T.cl, T.nB, rf_bottom _ _, b, 1, rfl, rfl, _, rfl, ?_⟩
    rw [show decide (b < 1) = false from decide_eq_false (by omega)]
    refine iteF ⟨_, rfl, p, C, dx, _, _, rfl, e, T.cl, T.nT, rf_top _ _, _, rfl, _, _, rfl, rfl, wide_mul ht hv (by decide) (by decide) (by decide), _, rfl, _, rfl, p, C, dx, _, _, rfl, e, T.cl, T.nB, rf_bottom _ _, _, _, rfl, rfl, wide_mul hu hbl (by decide) (by decide) (by decide), rfl, ?_⟩
    show Q (.bl (decide (V.int (t * v) = V.int (u * b)))) H
    rw [dI_eq heq]
    exact k
/-! ### _law_plus, _law_below -/
def spPlus : Sp := fun vs H Q _ => ∃ (a b : Addr) (x y u v : Int), vs = [.ref a, .ref b] ∧ H a = some (.tup [.int x, .int y]) ∧ H b = some (.tup [.int u, .int v]) ∧ x.natAbs < 2 ^ 20000 ∧ y.natAbs < 2 ^ 20000 ∧ u.natAbs < 2 ^ 20000 ∧ v.natAbs < 2 ^ 20000 ∧
  ∀ q H', Same H H' → H' q = some (.tup [.int (x * v + u * y), .int (y * v)]) → Q (.ref q) H'
theorem scPlus : FnScope ["_law_a", "_law_b"] ["_law_a", "_law_b"] (defScope sPlus) := ⟨rfl, rfl, rfl, by decide +kernel, rfl, by decide +kernel, by decide +kernel⟩
theorem two0 (x y : V) : atI [x, y] 0 = some x := rfl
theorem two1 (x y : V) : atI [x, y] 1 = some y := rfl
theorem ok_plus {f : Addr} {fd : FuncData} (F : FnP K "_law_plus" sPlus f fd) : FnOk P w K mg base CX0 1 f fd ["_law_a", "_law_b"] spPlus := by
  refine F.ok scPlus (fun vs H Q E h => ?_) (fun cdv A outer s H vs Q E hr h => ?_)
  · obtain ⟨a, b, x, y, u, v, rfl, _⟩ := h
    rfl
  · obtain ⟨a, b, x, y, u, v, rfl, ha, hb, hx, hy, hu, hv, k⟩ := h
    refine ⟨_, PSs.nox (pss_one (ps_ret (pe_tup (pa_cons (pe_op op_add (pe_op op_mulW (pe_ix ix_tup (pv 0) pe_int (fun _ _ => rfl)) (pe_ix ix_tup (pv 1) pe_int (fun _ _ => rfl))) (pe_op op_mulW (pe_ix ix_tup (pv 1) pe_int (fun _ _ => rfl)) (pe_ix ix_tup (pv 0) pe_int (fun _ _ => rfl))))
      (pa_cons (pe_op op_mulW (pe_ix ix_tup (pv 0) pe_int (fun _ _ => rfl)) (pe_ix ix_tup (pv 1) pe_int (fun _ _ => rfl))) pa_nil))))), ?_⟩
    refine ⟨_, rfl, a, _, 0, _, rfl, rfl, SqT.of ha, two0 _ _, _, rfl, b, _, 1, _, rfl, rfl, SqT.of hb, two1 _ _, _, _, rfl, rfl, wide_mul hx hv (by decide) (by decide) (by decide),
      _, rfl, b, _, 0, _, rfl, rfl, SqT.of hb, two0 _ _, _, rfl, a, _, 1, _, rfl, rfl, SqT.of ha, two1 _ _, _, _, rfl, rfl, wide_mul hu hy (by decide) (by decide) (by decide), _, _, rfl, rfl,
      _, rfl, a, _, 1, _, rfl, rfl, SqT.of ha, two1 _ _, _, rfl, b, _, 1, _, rfl, rfl, SqT.of hb, two1 _ _, _, _, rfl, rfl, wide_mul hy hv (by decide) (by decide) (by decide), (by show 2 ≤ sizeLine; decide), fun q nq => ?_⟩
    exact k q _ (same_upd nq) upd_same
def spBelow : Sp := fun vs H Q _ => ∃ (a b : Addr) (x y u v : Int), vs = [.ref a, .ref b] ∧ H a = some (.tup [.int x, .int y]) ∧ H b = some (.tup [.int u, .int v]) ∧ x.natAbs < 2 ^ 20000 ∧ y.natAbs < 2 ^ 20000 ∧ u.natAbs < 2 ^ 20000 ∧ v.natAbs < 2 ^ 20000 ∧
  Q (.bl (decide (x * v < u * y))) H
theorem scBelow : FnScope ["_law_a", "_law_b"] ["_law_a", "_law_b"] (defScope sBelow) := ⟨rfl, rfl, rfl, by decide +kernel, rfl, by decide +kernel, by decide +kernel⟩
theorem ok_below {f : Addr} {fd : FuncData} (F : FnP K "_law_below" sBelow f fd) : FnOk P w K mg base CX0 1 f fd ["_law_a", "_law_b"] spBelow := by
  refine F.ok scBelow (fun vs H Q E h => ?_) (fun cdv A outer s H vs Q E hr h => ?_)
  · obtain ⟨a, b, x, y, u, v, rfl, _⟩ := h
    rfl
  · obtain ⟨a, b, x, y, u, v, rfl, ha, hb, hx, hy, hu, hv, k⟩ := h
    refine ⟨_, PSs.nox (pss_one (ps_ret (pe_cmpR op_lt (pe_op op_mulW (pe_ix ix_tup (pv 0) pe_int (fun _ _ => rfl)) (pe_ix ix_tup (pv 1) pe_int (fun _ _ => rfl))) (pe_op op_mulW (pe_ix ix_tup (pv 1) pe_int (fun _ _ => rfl)) (pe_ix ix_tup (pv 0) pe_int (fun _ _ => rfl))) (nomark _)))), ?_⟩
    exact ⟨_, rfl, a, _, 0, _, rfl, rfl, SqT.of ha, two0 _ _, _, rfl, b, _, 1, _, rfl, rfl, SqT.of hb, two1 _ _, _, _, rfl, rfl, wide_mul hx hv (by decide) (by decide) (by decide),
      _, rfl, b, _, 0, _, rfl, rfl, SqT.of hb, two0 _ _, _, rfl, a, _, 1, _, rfl, rfl, SqT.of ha, two1 _ _, _, _, rfl, rfl, wide_mul hu hy (by decide) (by decide) (by decide), _, _, rfl, rfl, k⟩
end
end K53
namespace K53
open PySem PySem.Spec PyProof.Rows L2
theorem rl_snoc_int (n : Nat) (f : Nat → Int) (v : Int) : (rl n fun j => .int (f j)) ++ [.int v] = rl (n + 1) fun j => .int (if j = n then v else f j) := by
  rw [rl_succ, if_pos rfl]
  congr 1
  refine rl_congr fun j hj => ?_
  rw [if_neg (Nat.ne_of_lt hj)]
/-- a list of ints that grows at o, each below its size -/
def Gro (H H' : Hp) (o : Addr) (i : Nat) (sz : Nat → Int) : Prop := Same H H' ∧ ∃ f : Nat → Int, FL H' o i f ∧ ∀ j, j < i → 0 ≤ f j ∧ f j < sz j
theorem Gro.start {H : Hp} {o : Addr} {sz : Nat → Int} (no : H o = none) : Gro H (upd H o (.lst [])) o 0 sz := ⟨same_upd no, fun _ => 0, upd_same, fun j hj => absurd hj (Nat.not_lt_zero _)⟩
section
variable {P : Program} {w : World} {K : PySem.W.Frag} {mg : Str → Option Value} {base : Heap} {C fI fS : Addr}
/-! ### _law_draws -/
def spDraws : Sp := fun vs H Q _ => ∃ (c : Int) (a : Addr) (n : Nat) (sz : Nat → Int), vs = [.int c, .ref a] ∧ FL H a n sz ∧ n ≤ 1000 ∧ (∀ j, j < n → 0 < sz j ∧ (sz j).natAbs < 2 ^ 8000) ∧
  ∀ H' q f, Same H H' → FL H' q n f → (∀ j, j < n → 0 ≤ f j ∧ f j < sz j) → Q (.ref q) H'
abbrev nD : List Str := ["_law_cell_here", "_law_sizes", "_law_size", "_law_left", "_law_found", "_law_k", "_law_low", "_law_high"]
theorem scDraws : FnScope nD ["_law_cell_here", "_law_sizes"] (defScope sDraws) := ⟨rfl, rfl, rfl, by decide +kernel, rfl, by decide +kernel, by decide +kernel⟩
theorem cmul_r (i j : Int) (h : -(2 ^ 64) < j ∧ j < 2 ^ 64) : CMul i j := .inr h
theorem ok_draws {f : Addr} {fd : FuncData} (F : FnP K "_law_draws" sDraws f fd) (T : Txt K mg C fI fS) : FnOk P w K mg base CX0 1 f fd ["_law_cell_here", "_law_sizes"] spDraws := by
  refine F.ok scDraws (fun vs H Q E h => ?_) (fun cdv A outer s H vs Q E hr h => ?_)
  · obtain ⟨c, a, n, sz, rfl, _⟩ := h
    rfl
  · obtain ⟨c, a, n, sz, rfl, S, hn, hsz, k⟩ := h
    refine ⟨_, PSs.nox (pss_cons (ps_if (pt_cmpR op_eq (pv 0) pe_int (nomark _))
        (pss_one (ps_ret (pe_lc (own := [("_law_size", 2)]) (g := gName 2) (tt := tYes) rfl scDraws.nd (pi_list (pv 1)) (blkOk_by (N := nD) (sc := defScope sDraws) (by decide +kernel))
          (fun _ _ _ _ _ => pg_name (i := 2) scDraws.nd rfl (.inl rfl) (.inr rfl)) (fun _ _ _ _ _ => pts_nil) (fun _ _ _ _ _ => pe_int)))) pss_nil)
      (pss_cons (ps_if (pt_cmpR op_ge (pv 0) (pe_op op_pow pe_int pe_int) (nomark _))
        (pss_cons (ps_set (i := 3) scDraws.nd rfl (.inl rfl) (pe_op op_sub (pv 0) (pe_op op_pow pe_int pe_int)))
        (pss_cons (ps_set (i := 4) scDraws.nd rfl (.inl rfl) (pe_lst pa_nil))
        (pss_cons (ps_for PassesOwn.never rfl (pi_list (pv 1)) (pg_name (i := 2) scDraws.nd rfl (.inl rfl))
          (pss_cons (ps_expr (pe_bm PySem.F.plainAttrs_list PySem.F.slot_list_append PySem.F.type_list_append mt_append (pv 4) (pa_cons (pe_op op_mod (pe_callTy call_int1 (by rfl) T.int (by decide +kernel) (pa_cons (pv 3) pa_nil)) (pv 2)) pa_nil)))
          (pss_one (ps_set (i := 3) scDraws.nd rfl (.inl rfl) (pe_op op_fdivW (pv 3) (pv 2))))))
        (pss_one (ps_ret (pv 4)))))) pss_nil)
      (pss_cons (ps_set (i := 4) scDraws.nd rfl (.inl rfl) (pe_lst pa_nil))
      (pss_cons (ps_for PassesOwn.never rfl (pi_range1 (by rfl) T.range (pa_cons (pe_callB call_len_seq (by rfl) T.len PySem.boot_len (pa_cons (pv 1) pa_nil)) pa_nil)) (pg_name (i := 5) scDraws.nd rfl (.inl rfl))
        (pss_cons (ps_set (i := 6) scDraws.nd rfl (.inl rfl) (pe_op op_mod (pe_callTy call_int1 (by rfl) T.int (by decide +kernel) (pa_cons (pe_op op_add (pe_op op_mul (pv 0) pe_int) (pe_op op_mul (pe_op op_add (pv 5) pe_int) pe_int)) pa_nil)) pe_int))
        (pss_cons (ps_set (i := 6) scDraws.nd rfl (.inl rfl) (pe_op op_mod (pe_callTy call_int1 (by rfl) T.int (by decide +kernel) (pa_cons (pe_op op_add (pe_op op_mul (pv 6) pe_int) (pe_op op_mul (pe_op op_add (pv 5) pe_int) pe_int)) pa_nil)) pe_int))
        (pss_cons (ps_set (i := 7) scDraws.nd rfl (.inl rfl) (pe_op op_mod (pe_callTy call_int1 (by rfl) T.int (by decide +kernel) (pa_cons (pe_op op_add (pe_op op_mul (pv 0) pe_int) (pe_op op_mul (pe_op op_add (pv 5) pe_int) pe_int)) pa_nil)) pe_int))
        (pss_cons (ps_set (i := 7) scDraws.nd rfl (.inl rfl) (pe_op op_mod (pe_callTy call_int1 (by rfl) T.int (by decide +kernel) (pa_cons (pe_op op_add (pe_op op_mul (pv 7) pe_int) (pv 6)) pa_nil)) pe_int))
        (pss_one (ps_expr (pe_bm PySem.F.plainAttrs_list PySem.F.slot_list_append PySem.F.type_list_append mt_append (pv 4) (pa_cons (pe_op op_mod (pe_callTy call_int1 (by rfl) T.int (by decide +kernel) (pa_cons (pe_op op_add (pe_op op_mul (pv 7) pe_int) (pv 6)) pa_nil)) (pe_ix ix_list (pv 1) (pv 5) (fun _ _ => rfl))) pa_nil)))))))))
      (pss_one (ps_ret (pv 4))))))), ?_⟩
    have small : ∀ i, i < n → i < sizeLine := fun i hi => small1000 (by omega)
    have push : ∀ {H1 : Hp} {o : Addr} {i : Nat} {v : Int} {g : Nat → Int}, H o = none → Same H H1 → FL H1 o i g → (∀ j, j < i → 0 ≤ g j ∧ g j < sz j) → 0 ≤ v → v < sz i → Gro H (upd H1 o (.lst ((rl i fun j => .int (g j)) ++ [.int v]))) o (i + 1) sz := fun {H1 o i v g} no s1 hg hb h0 h1 => by
      refine ⟨fun b z e => by rw [upd_ne (ne_of_none e no)]; exact s1 _ _ e, fun j => if j = i then v else g j, by rw [rl_snoc_int]; exact upd_same, fun j hj => ?_⟩
      show 0 ≤ (if j = i then v else g j) ∧ (if j = i then v else g j) < sz j
      by_cases e : j = i
      · rw [if_pos e, e]; exact ⟨h0, h1⟩
      · rw [if_neg e]; exact hb j (by omega)
    refine ⟨_, rfl, rfl, _, rfl, ite2 (fun h => ?_) (fun h => ?_)⟩
    · -- all 0
      refine ⟨.ref a, rfl, a, rfl, ⟨_, SqL.of S⟩, fun D nD => ?_⟩
      refine lc_val (walk_list (K := K) (a := a) (xs := rl n fun j => .int (sz j))) (fun _ => .int 0) nD (by rw [rl_len]; exact small_le hn) (fun H1 s1 => SqL.of (s1 _ _ S)) ?_ ?_
      · rintro j x H1 H2 hj s1 ⟨rfl, ex⟩ RR Rf kk
        exact ⟨rfl, yes (kk _ (Same.refl _))⟩
      · intro H1 s1 e1
        rw [rl_len] at e1
        exact k H1 D (fun _ => 0) s1 e1 fun j hj => ⟨Int.le_refl _, (hsz j hj).1⟩
    refine ⟨_, rfl, _, _, rfl, rfl, ⟨by decide, by decide, by decide⟩, _, _, rfl, rfl, _, rfl, ite2 (fun h => ?_) (fun h => ?_)⟩
    · -- digit by digit
      refine ⟨_, rfl, _, _, rfl, rfl, ⟨by decide, by decide, by decide⟩, _, _, rfl, rfl, Nat.zero_le _, fun o no => ?_⟩
      have s0 := same_upd (o := .lst []) no
      refine ⟨.ref a, rfl, a, rfl, ⟨_, SqL.of (s0 _ _ S)⟩, ?_⟩
      refine for_it (walk_list (K := K) (a := a) (xs := rl n fun j => .int (sz j))) (fun i σ H' => ∃ (x2 : Option V) (l : Int), σ = [some (.int c), some (.ref a), x2, some (.int l), some (.ref o), none, none, none] ∧ Gro H H' o i sz)
        ⟨_, _, rfl, Gro.start no⟩ (fun i σ H' _ ⟨_, _, _, G⟩ => SqL.of (G.1 _ _ S)) ?_ ?_
      · rintro i x σ H1 H2 hi ⟨x2, l, rfl, s1, g, hg, hb⟩ ⟨rfl, ex⟩
        rw [rl_len] at hi
        obtain rfl := rl_at ex hi
        obtain ⟨z1, z2⟩ := hsz i hi
        refine ⟨.ref o, rfl, .inl ⟨rfl, _, SqL.of hg⟩, _, rfl, .inl ⟨_, rfl, _, rfl, _, _, rfl, rfl, z1, o, _, _, rfl, rfl, hg, by rw [rl_len]; exact small i hi, ?_⟩⟩
        refine ⟨_, rfl, _, rfl, _, _, rfl, rfl, wide_div z1 z2 (by decide) (by decide), ?_⟩
        exact ⟨_, _, rfl, push no s1 hg hb (Int.emod_nonneg _ (by omega)) (Int.emod_lt_of_pos _ z1)⟩
      · rintro σ H1 ⟨x2, l, rfl, s1, g, hg, hb⟩
        rw [rl_len] at hg hb
        exact ⟨_, rfl, k H1 o g s1 hg hb⟩
    -- mixed
    refine ⟨Nat.zero_le _, fun o no => ?_⟩
    have s0 := same_upd (o := .lst []) no
    refine ⟨.ref a, rfl, a, _, rfl, .inl (SqL.of (s0 _ _ S)), (n : Int), by rw [len_rl], by omega, by omega, ?_⟩
    refine for_it (walk_range (lo := 0) (n := n)) (fun i σ H' => ∃ (x5 x6 x7 : Option V), σ = [some (.int c), some (.ref a), none, none, some (.ref o), x5, x6, x7] ∧ Gro H H' o i sz)
      ⟨_, _, _, rfl, Gro.start no⟩ (fun _ _ _ _ _ => trivial) ?_ ?_
    · rintro i x σ H1 H2 hi ⟨x5, x6, x7, rfl, s1, g, hg, hb⟩ ⟨rfl, rfl⟩
      obtain ⟨z1, z2⟩ := hsz i hi
      refine ⟨_, rfl, _, _, rfl, rfl, cmul_r _ _ (by decide), _, rfl, _, _, rfl, rfl, _, _, rfl, rfl, cmul_r _ _ (by decide), _, _, rfl, rfl, .inl ⟨_, rfl, _, _, rfl, rfl, (by show (0 : Int) < 2147483647; decide), ?_⟩⟩
      refine ⟨_, rfl, _, _, rfl, rfl, cmul_r _ _ (by decide), _, rfl, _, _, rfl, rfl, _, _, rfl, rfl, cmul_r _ _ (by decide), _, _, rfl, rfl, .inl ⟨_, rfl, _, _, rfl, rfl, (by show (0 : Int) < 2147483399; decide), ?_⟩⟩
      refine ⟨_, rfl, _, _, rfl, rfl, cmul_r _ _ (by decide), _, rfl, _, _, rfl, rfl, _, _, rfl, rfl, cmul_r _ _ (by decide), _, _, rfl, rfl, .inl ⟨_, rfl, _, _, rfl, rfl, (by show (0 : Int) < 2147483563; decide), ?_⟩⟩
      refine ⟨_, rfl, _, _, rfl, rfl, cmul_r _ _ (by decide), _, rfl, _, _, rfl, rfl, .inl ⟨_, rfl, _, _, rfl, rfl, (by show (0 : Int) < 2147483587; decide), ?_⟩⟩
      refine ⟨.ref o, rfl, .inl ⟨rfl, _, SqL.of hg⟩, _, rfl, _, _, rfl, rfl, cmul_r _ _ (by decide), _, rfl, _, _, rfl, rfl, .inl ⟨_, rfl, .ref a, rfl, _, rfl, a, _, _, _, rfl, rfl, SqL.of (s1 _ _ S), atI_rlI (show (0 : Int) ≤ 0 + (i : Int) by omega) (by omega), _, _, rfl, rfl, ?_, o, _, _, rfl, rfl, hg, by rw [rl_len]; exact small i hi, ?_⟩⟩
      · show 0 < sz (0 + (i : Int)).toNat
        rw [show (0 + (i : Int)).toNat = i by omega]
        exact z1
      · refine ⟨_, _, _, rfl, push no s1 hg hb ?_ ?_⟩
        · exact Int.emod_nonneg _ (by rw [show (0 + (i : Int)).toNat = i by omega]; omega)
        · rw [show (0 + (i : Int)).toNat = i by omega]
          exact Int.emod_lt_of_pos _ z1
    · rintro σ H1 ⟨x5, x6, x7, rfl, s1, g, hg, hb⟩
      exact ⟨_, rfl, k H1 o g s1 hg hb⟩
end
end K53
namespace K53
open PySem PySem.Spec PyProof.Rows L2
theorem cut_seg {N a b : Nat} {f : Nat → V} (h1 : a ≤ b) (h2 : b ≤ N) : cutV (rl N f) (some (a : Int)) (some (b : Int)) = rl (b - a) (fun j => f (a + j)) := by
  unfold cutV
  rw [rl_len, HT.sIx_nat, HT.sIx_nat, Nat.min_eq_left (show a ≤ N by omega), Nat.min_eq_left h2]
  refine rl_ext (by rw [List.length_take, List.length_drop, rl_len]; omega) fun i hi => ?_
  rw [List.getElem?_take, if_pos hi, List.getElem?_drop, rl_get (by omega)]
theorem five {x0 x1 x2 x3 x4 : Int} {d : Int} (h0 : 0 ≤ d) (h : d < 5) : ∃ v, atI [V.int x0, .int x1, .int x2, .int x3, .int x4] d = some (.int v) ∧ (v = x0 ∨ v = x1 ∨ v = x2 ∨ v = x3 ∨ v = x4) := by
  have : d = 0 ∨ d = 1 ∨ d = 2 ∨ d = 3 ∨ d = 4 := by omega
  rcases this with rfl | rfl | rfl | rfl | rfl
  · exact ⟨x0, rfl, .inl rfl⟩
  · exact ⟨x1, rfl, .inr (.inl rfl)⟩
  · exact ⟨x2, rfl, .inr (.inr (.inl rfl))⟩
  · exact ⟨x3, rfl, .inr (.inr (.inr (.inl rfl)))⟩
  · exact ⟨x4, rfl, .inr (.inr (.inr (.inr rfl)))⟩
/-- a comprehension whose elements are new lists of ints -/
theorem lc_rows {J : It} {n : Nat} {G : Hp → Prop} {Y : Nat → Hp → V → Hp → Prop} (w : Walk J n G Y) {g : TG} {tt : TT} {te : TE} {vs : List Nat} {σ : L2.St} {H1 : Hp} {D : Addr} {Qd : Hp → Prop} (c : Nat) (T : Nat → Nat → Int)
    (hD : H1 D = none) (hn : n ≤ sizeLine) (hG : ∀ H, Same H1 H → G H)
    (hs : ∀ i x H H', i < n → Same H1 H → Y i H x H' → ∀ (R : V → Hp → Prop) (Rf : Hp → Prop), (∀ q H4, H q = none → Same H H4 → FL H4 q c (T i) → R (.ref q) H4) → g x (wipe σ vs) H' fun σ2 H2 => wipe σ2 vs = wipe σ vs ∧ tt σ2 H2 fun b H3 => if b = true then te σ2 H3 R else Rf H3)
    (hd : ∀ H qs, NM H1 H D qs n c T → (∀ i j, i < n → j < n → qs i = qs j → i = j) → (∀ i, i < n → qs i ≠ D) → Qd H) :
    ∃ W : Nat → Nat → Hp → Prop, (∃ m, W 0 m (upd H1 D (.lst []))) ∧ ∀ i m H, W i m H →
      (J.stop i H ∧ Qd H) ∨ (J.go i H ∧ ∃ Nx : Hp → Prop, (∀ H', Nx H' → ∃ m', m' < m ∧ W (i + 1) m' H') ∧ ∀ x H', J.yld i H x H' → g x (wipe σ vs) H' fun σ2 H2 => wipe σ2 vs = wipe σ vs ∧ tt σ2 H2 fun b H3 =>
        if b = true then te σ2 H3 fun y H4 => ∃ acc, H4 D = some (.lst acc) ∧ acc.length < sizeLine ∧ Nx (upd H4 D (.lst (acc ++ [y]))) else Nx H3) := by
  refine lc_it w (fun i H => ∃ qs, Acc H1 H D i qs c T ∧ ∀ a b, a < i → b < i → qs a = qs b → a = b) ⟨fun _ => 0, Acc.start hD, fun a b ha => absurd ha (Nat.not_lt_zero _)⟩ (fun i H _ ⟨_, A, _⟩ => hG H A.same) ?_ ?_
  · rintro i x H H' hi ⟨qs, A, inj⟩ hy
    refine hs i x H H' hi A.same hy _ _ fun q H4 nq s4 hq => ?_
    refine ⟨_, s4 _ _ A.top, by rw [rl_len]; omega, fun k => if k = i then q else qs k, A.push hD s4 nq hq, fun a b ha hb e => ?_⟩
    have old : ∀ k, k < i → qs k ≠ q := fun k hk z => by
      obtain ⟨_, _, h3⟩ := A.row k hk
      rw [z] at h3
      unfold FL at h3
      rw [nq] at h3
      cases h3
    have e : (if a = i then q else qs a) = (if b = i then q else qs b) := e
    by_cases h1 : a = i
    · by_cases h2 : b = i
      · omega
      · rw [if_pos h1, if_neg h2] at e
        exact absurd e.symm (old b (by omega))
    · by_cases h2 : b = i
      · rw [if_neg h1, if_pos h2] at e
        exact absurd e (old a (by omega))
      · rw [if_neg h1, if_neg h2] at e
        exact inj a b (by omega) (by omega) e
  · rintro H ⟨qs, A, inj⟩
    exact hd H qs (A.done hD) inj fun i hi => (A.row i hi).2.1
section
variable {P : Program} {w : World} {K : PySem.W.Frag} {mg : Str → Option Value} {base : Heap} {C fI fS : Addr}
/-! ### _law_game -/
def spGame : Sp := fun vs H Q _ => ∃ (c : Int) (m n : Nat), vs = [.int c, .int (m : Int), .int (n : Int)] ∧ 0 < m ∧ 0 < n ∧ m ≤ 6 ∧ n ≤ 6 ∧
  ∀ H' q qs A, NM H H' q qs m n A → (∀ i j, i < m → j < n → (A i j).natAbs < 2 ^ 205) → Q (.ref q) H'
abbrev nG : List Str := ["_law_cell_here", "_law_many", "_law_wide", "_law_k", "_law_drawn", "_law_bound", "_law_least", "_law_rows", "_law_number"]
theorem scGame : FnScope nG ["_law_cell_here", "_law_many", "_law_wide"] (defScope sGame) := ⟨rfl, rfl, rfl, by decide +kernel, rfl, by decide +kernel, by decide +kernel⟩
theorem ok_game {f fD : Addr} {fd fdD : FuncData} (F : FnP K "_law_game" sGame f fd) (T : Txt K mg C fI fS) (FD : FnP K "_law_draws" sDraws fD fdD) (gD : mg "_law_draws" = some (.ref fD)) : FnOk P w K mg base CX0 2 f fd ["_law_cell_here", "_law_many", "_law_wide"] spGame := by
  have GD : FnOk P w K mg base CX0 1 fD fdD ["_law_cell_here", "_law_sizes"] spDraws := ok_draws FD T
  have bD : Binds K fdD ["_law_cell_here", "_law_sizes"] [] := FD.bindsN fun _ _ _ _ _ _ us hl => match us, hl with | [_, _], _ => rfl
  refine F.ok scGame (fun vs H Q E h => ?_) (fun cdv A outer s H vs Q E hr h => ?_)
  · obtain ⟨c, m, n, rfl, _⟩ := h
    rfl
  · obtain ⟨c, m, n, rfl, hm, hn, hm6, hn6, k⟩ := h
    refine ⟨_, PSs.nox (pss_cons (ps_set (i := 4) scGame.nd rfl (.inl rfl) (pe_call GD hr rfl gD FD.kp bD .nil pass0 (pa_cons (pv 0) (pa_cons (pe_op op_cat (pe_lst (pa_cons pe_int pa_nil))
        (pe_lc (own := [("_law_k", 3)]) (g := gName 3) (tt := tYes) rfl scGame.nd (pi_range1 (by rfl) T.range (pa_cons (pe_op op_mul (pv 1) (pv 2)) pa_nil)) (blkOk_by (N := nG) (sc := defScope sGame) (by decide +kernel))
          (fun _ _ _ _ _ => pg_name (i := 3) scGame.nd rfl (.inl rfl) (.inr rfl)) (fun _ _ _ _ _ => pts_nil) (fun _ _ _ _ _ => pe_op op_sub (pe_op op_mul pe_int (pe_op op_pow pe_int pe_int)) pe_int))) pa_nil))))
      (pss_cons (ps_set (i := 5) scGame.nd rfl (.inr rfl) (pe_ix ix_list (pe_lst (pa_cons pe_int (pa_cons pe_int (pa_cons (pe_op op_add (pe_op op_pow pe_int pe_int) pe_int) (pa_cons (pe_op op_sub (pe_op op_mul pe_int (pe_op op_pow pe_int pe_int)) pe_int) (pa_cons (pe_op op_sub (pe_op op_mul pe_int (pe_op op_pow pe_int pe_int)) pe_int) pa_nil)))))) (pe_ix ix_list (pv 4) pe_int (fun _ _ => rfl)) (fun _ _ => rfl)))
      (pss_cons (ps_set (i := 6) scGame.nd rfl (.inr rfl) (pe_ix ix_list (pe_lst (pa_cons pe_int (pa_cons pe_int (pa_cons pe_int (pa_cons (pe_op op_sub (pe_op op_pow pe_int pe_int) pe_int) (pa_cons (pe_op op_sub (pe_op op_pow pe_int pe_int) pe_int) pa_nil)))))) (pe_ix ix_list (pv 4) pe_int (fun _ _ => rfl)) (fun _ _ => rfl)))
      (pss_cons (ps_set (i := 7) scGame.nd rfl (.inl rfl) (pe_lst pa_nil))
      (pss_cons (ps_for PassesOwn.never rfl (pi_range1 (by rfl) T.range (pa_cons (pv 1) pa_nil)) (pg_name (i := 3) scGame.nd rfl (.inl rfl))
        (pss_one (ps_expr (pe_bm PySem.F.plainAttrs_list PySem.F.slot_list_append PySem.F.type_list_append mt_append (pv 7) (pa_cons
          (pe_lc (own := [("_law_number", 8)]) (g := gName 8) (tt := tYes) rfl scGame.nd (pi_list (pe_slice sl_list (pv 4) (po_some (pe_op op_add pe_int (pe_op op_mul (pv 3) (pv 2)))) (po_some (pe_op op_add pe_int (pe_op op_mul (pe_op op_add (pv 3) pe_int) (pv 2))))))
            (blkOk_by (N := nG) (sc := defScope sGame) (by decide +kernel)) (fun _ _ _ _ _ => pg_name (i := 8) scGame.nd rfl (.inl rfl) (.inr rfl)) (fun _ _ _ _ _ => pts_nil)
            (fun _ _ _ _ _ => pe_op op_sub (pe_op op_mod (pe_callTy call_int1 (by rfl) T.int (by decide +kernel) (pa_cons (pv 8) pa_nil)) (pv 5)) (pv 6))) pa_nil)))))
      (pss_one (ps_ret (pv 7)))))))), ?_⟩
    have hmn : m * n ≤ 6 * 6 := Nat.mul_le_mul hm6 hn6
    refine ⟨_, rfl, by decide, fun p0 np0 => ?_⟩
    have s0 := same_upd (o := .lst [.int 5]) np0
    refine ⟨_, rfl, _, rfl, _, _, rfl, rfl, .inl (by constructor <;> omega), ((m * n : Nat) : Int), by rw [Int.natCast_mul], by omega, by omega, fun p1 np1 => ?_⟩
    refine lc_val (walk_range (lo := 0) (n := m * n)) (fun _ => .int (2 * 10 ^ 60 - 1)) np1 (small_le (by omega)) (fun _ _ => trivial) ?_ ?_
    · rintro j x H1 H2 hj s1 ⟨rfl, rfl⟩ RR Rf kk
      exact ⟨rfl, yes ⟨_, _, rfl, rfl, ⟨by decide, by decide, by decide⟩, _, _, rfl, rfl, .inl (by decide), _, _, rfl, rfl, kk _ (Same.refl _)⟩⟩
    intro H1 s01 e1
    have e0 := s01 _ _ (upd_same (H := H) (a := p0) (o := .lst [.int 5]))
    refine ⟨p0, p1, _, _, rfl, rfl, e0, e1, by rw [rl_len]; exact small_le (by show 1 + m * n ≤ 1000; omega), fun p2 np2 => ?_⟩
    have ecat : ([.int 5] : List V) ++ rl (m * n) (fun _ => .int (2 * 10 ^ 60 - 1)) = rl (1 + m * n) (fun j => .int (if j < 1 then 5 else 2 * 10 ^ 60 - 1)) := by
      rw [rl_one, rl_app]
      refine rl_congr fun j hj => ?_
      by_cases h : j < 1
      · rw [if_pos h, if_pos h]
      · rw [if_neg h, if_neg h]
    rw [ecat]
    have s12 := same_upd (o := .lst (rl (1 + m * n) (fun j => .int (if j < 1 then 5 else 2 * 10 ^ 60 - 1)))) np2
    refine ⟨c, p2, 1 + m * n, fun j => if j < 1 then 5 else 2 * 10 ^ 60 - 1, rfl, upd_same, by omega, fun j hj => ?_, fun H3 dq g s23 hg hgb => ?_⟩
    · show 0 < (if j < 1 then (5 : Int) else 2 * 10 ^ 60 - 1) ∧ (if j < 1 then (5 : Int) else 2 * 10 ^ 60 - 1).natAbs < 2 ^ 8000
      split
      · exact ⟨by decide, by decide +kernel⟩
      · exact ⟨by decide +kernel, by decide +kernel⟩
    have s03 : Same H H3 := ((s0.trans s01).trans s12).trans s23
    have g0 := hgb 0 (by omega)
    have g5 : g 0 < 5 := g0.2
    obtain ⟨bd, hbd, cbd⟩ := five (x0 := 5) (x1 := 19) (x2 := 10 ^ 6 + 1) (x3 := 2 * 10 ^ 18 - 1) (x4 := 2 * 10 ^ 60 - 1) g0.1 g5
    obtain ⟨ls, hls, cls⟩ := five (x0 := 2) (x1 := 9) (x2 := 0) (x3 := 10 ^ 18 - 1) (x4 := 10 ^ 60 - 1) g0.1 g5
    have b0 : 0 < bd ∧ bd ≤ 2 * 10 ^ 60 := by rcases cbd with rfl | rfl | rfl | rfl | rfl <;> exact ⟨by decide, by decide⟩
    have l0 : 0 ≤ ls ∧ ls ≤ 10 ^ 60 := by rcases cls with rfl | rfl | rfl | rfl | rfl <;> exact ⟨by decide, by decide⟩
    -- bound, least
    refine ⟨_, _, rfl, rfl, ⟨by decide, by decide, by decide⟩, _, _, rfl, rfl, _, _, rfl, rfl, ⟨by decide, by decide, by decide⟩, _, _, rfl, rfl, .inl (by decide), _, _, rfl, rfl, _, _, rfl, rfl, ⟨by decide, by decide, by decide⟩, _, _, rfl, rfl, .inl (by decide), _, _, rfl, rfl, (by show 5 ≤ sizeLine; decide), fun t1 nt1 => ?_⟩
    have s34 := same_upd (o := .lst [.int 5, .int 19, .int (10 ^ 6 + 1), .int (2 * 10 ^ 18 - 1), .int (2 * 10 ^ 60 - 1)]) nt1
    refine ⟨.ref dq, rfl, dq, _, 0, _, rfl, rfl, SqL.of (s34 _ _ hg), atI_rl (i := 0) (by omega), t1, _, _, .int bd, rfl, rfl, SqL.of upd_same, hbd, ?_⟩
    refine ⟨_, _, rfl, rfl, ⟨by decide, by decide, by decide⟩, _, _, rfl, rfl, _, _, rfl, rfl, ⟨by decide, by decide, by decide⟩, _, _, rfl, rfl, (by show 5 ≤ sizeLine; decide), fun t2 nt2 => ?_⟩
    have s45 := same_upd (o := .lst [.int 2, .int 9, .int 0, .int (10 ^ 18 - 1), .int (10 ^ 60 - 1)]) nt2
    refine ⟨.ref dq, rfl, dq, _, 0, _, rfl, rfl, SqL.of (s45 _ _ (s34 _ _ hg)), atI_rl (i := 0) (by omega), t2, _, _, .int ls, rfl, rfl, SqL.of upd_same, hls, ?_⟩
    have s35 := s34.trans s45
    have s05 := s03.trans s35
    have hg5 := hg.same s35
    generalize hH5 : upd (upd H3 t1 _) t2 _ = H5
    replace s05 : Same H H5 := by rw [← hH5]; exact s05
    replace hg5 : FL H5 dq (1 + m * n) g := by rw [← hH5]; exact hg5
    clear hH5 s35 s45 s34
    -- rows
    refine ⟨Nat.zero_le _, fun o no => ?_⟩
    refine ⟨.int (m : Int), rfl, (m : Int), rfl, by omega, by omega, ?_⟩
    refine for_it (walk_range (lo := 0) (n := m)) (fun i σ H' => ∃ (qs : Nat → Addr) (x3 x8 : Option V), σ = [some (.int c), some (.int (m : Int)), some (.int (n : Int)), x3, some (.ref dq), some (.int bd), some (.int ls), some (.ref o), x8] ∧ Acc H5 H' o i qs n (fun i j => g (1 + i * n + j) % bd - ls))
      ⟨fun _ => 0, _, _, rfl, Acc.start no⟩ (fun _ _ _ _ _ => trivial) ?_ ?_
    · rintro i x σ H7 H6 hi ⟨qs, x3, x8, rfl, A6⟩ ⟨rfl, rfl⟩
      have hin : 1 + (i + 1) * n ≤ 1 + m * n := by
        have := Nat.mul_le_mul_right n (show i + 1 ≤ m by omega)
        omega
      have hle : 1 + i * n ≤ 1 + (i + 1) * n := by rw [Nat.succ_mul]; omega
      have ed : 1 + (i + 1) * n - (1 + i * n) = n := by rw [Nat.succ_mul]; omega
      refine ⟨.ref o, rfl, .inl ⟨rfl, _, SqL.of A6.top⟩, .ref dq, rfl, _, rfl, _, rfl, _, _, rfl, rfl, .inl (by constructor <;> omega), _, _, rfl, rfl, _, rfl, _, rfl, _, _, rfl, rfl, _, rfl, _, _, rfl, rfl, .inl (by constructor <;> omega), _, _, rfl, rfl, _, rfl, dq, _, rfl, SqL.of (A6.same _ _ hg5), fun sp nsp => ?_⟩
      have ea : (1 : Int) + (0 + (i : Int)) * (n : Int) = ((1 + i * n : Nat) : Int) := by rw [Int.zero_add, Int.natCast_add, Int.natCast_mul]; rfl
      have eb : (1 : Int) + (0 + (i : Int) + 1) * (n : Int) = ((1 + (i + 1) * n : Nat) : Int) := by rw [Int.natCast_add, Int.natCast_mul, Int.natCast_add, Int.zero_add]; rfl
      rw [ea, eb, cut_seg hle hin, ed]
      refine ⟨sp, rfl, ⟨_, SqL.of upd_same⟩, fun D nD => ?_⟩
      have s67 := same_upd (o := .lst (rl n fun j => .int (g (1 + i * n + j)))) nsp
      have esp : (upd H6 sp (.lst (rl n fun j => .int (g (1 + i * n + j))))) sp = some (.lst (rl n fun j => .int (g (1 + i * n + j)))) := upd_same
      generalize upd H6 sp (.lst (rl n fun j => .int (g (1 + i * n + j)))) = H7 at s67 esp nD ⊢
      refine lc_val (walk_list (K := K) (a := sp) (xs := rl n fun j => .int (g (1 + i * n + j)))) (fun j => .int (g (1 + i * n + j) % bd - ls)) nD (by rw [rl_len]; exact small_le (by omega)) (fun H8 s8 => SqL.of (s8 _ _ esp)) ?_ ?_
      · rintro j x H8 H9 hj s8 ⟨rfl, ex⟩ RR Rf kk
        rw [rl_len] at hj
        obtain rfl := rl_at ex hj
        exact ⟨rfl, yes ⟨_, rfl, .inl ⟨_, rfl, _, rfl, _, _, rfl, rfl, b0.1, _, rfl, _, _, rfl, rfl, kk _ (Same.refl _)⟩⟩⟩
      · intro H8 s78 eD
        rw [rl_len] at eD
        refine ⟨o, _, _, rfl, rfl, s78 _ _ (s67 _ _ A6.top), by rw [rl_len]; exact small1000 (by omega), ?_⟩
        exact ⟨_, _, _, rfl, A6.push no (s67.trans s78) (s67.free nD) eD⟩
    · rintro σ H6 ⟨qs, x3, x8, rfl, A6⟩
      have N := A6.done no
      refine ⟨_, rfl, k H6 o qs _ ⟨s05.trans N.same, N.mat, s05.free N.new, fun i hi => s05.free (N.news i hi)⟩ fun i j hi hj => ?_⟩
      show (g (1 + i * n + j) % bd - ls).natAbs < 2 ^ 205
      have h1 := Int.emod_nonneg (g (1 + i * n + j)) (show bd ≠ 0 by omega)
      have h2 := Int.emod_lt_of_pos (g (1 + i * n + j)) b0.1
      have h3 : (2 * 10 ^ 60 : Int) < 2 ^ 205 := by decide +kernel
      have h4 : (10 ^ 60 : Int) < 2 ^ 205 := by decide +kernel
      have h5 : ((2 ^ 205 : Nat) : Int) = (2 : Int) ^ 205 := by decide +kernel
      omega
end
end K53
namespace K53
open PySem PySem.Spec PyProof.Rows L2
section
variable {P : Program} {w : World} {K : PySem.W.Frag} {mg : Str → Option Value} {base : Heap} {C fI fS : Addr}
/-! ### _law_alike -/
def spAlike : Sp := fun vs H Q _ => ∃ (a : Addr) (as : Nat → Addr) (m n : Nat) (A : Nat → Nat → Int) (way one other : Int), vs = [.ref a, .int way, .int one, .int other] ∧ FM H a as m n A ∧ 0 < m ∧ 0 < n ∧ m ≤ 6 ∧ n ≤ 6 ∧ (∀ i j, i < m → j < n → (A i j).natAbs < 2 ^ 205) ∧
  ∀ H' q qs A', NM H H' q qs m n A' → (∀ i j, i < m → j < n → (A' i j).natAbs < 2 ^ 205) → Q (.ref q) H'
abbrev nA : List Str := ["_law_rows", "_law_way", "_law_one", "_law_other", "_law_row", "_law_changed", "_law_wide"]
theorem scAlike : FnScope nA ["_law_rows", "_law_way", "_law_one", "_law_other"] (defScope sAlike) := ⟨rfl, rfl, rfl, by decide +kernel, rfl, by decide +kernel, by decide +kernel⟩
theorem ok_alike {f : Addr} {fd : FuncData} (F : FnP K "_law_alike" sAlike f fd) (T : Txt K mg C fI fS) : FnOk P w K mg base CX0 1 f fd ["_law_rows", "_law_way", "_law_one", "_law_other"] spAlike := by
  refine F.ok scAlike (fun vs H Q E h => ?_) (fun cdv A outer s H vs Q E hr h => ?_)
  · obtain ⟨a, as, m, n, A, way, one, other, rfl, _⟩ := h
    rfl
  · obtain ⟨a, as, m, n, A, way, one, other, rfl, M, hm, hn, hm6, hn6, hA, k⟩ := h
    refine ⟨_, PSs.nox (pss_cons (ps_setLc (i := 5) (own := [("_law_row", 4)]) (g := gName 4) (tt := tYes) (te := tCB (fun xs H Q => ∃ p ys, xs = [V.ref p] ∧ (SqL K H p ys ∨ SqT K H p ys) ∧ ∀ q, H q = none → Q (.ref q) (upd H q (.lst ys))) (tCons (tVar 4) tNil)) rfl scAlike.nd rfl rfl (sw_true rfl rfl rfl (by decide +kernel)) (pi_list (pv 0))
          (blkOk_by (N := nA) (sc := defScope sAlike) (by decide +kernel)) (fun _ _ _ _ _ => pg_name (i := 4) scAlike.nd rfl (.inl rfl) (.inr rfl)) (fun _ _ _ _ _ => pts_nil)
          (fun _ _ _ _ _ => pe_callTy call_list_of (by rfl) T.list (by decide +kernel) (pa_cons (pv 4) pa_nil)))
      (pss_cons (ps_set (i := 6) scAlike.nd rfl (.inl rfl) (pe_callB call_len_seq (by rfl) T.len PySem.boot_len (pa_cons (pe_ix ix_list (pv 0) pe_int (fun _ _ => rfl)) pa_nil)))
      (pss_cons (ps_if (pt_cmpR op_eq (pv 1) pe_int (nomark _))
        (pss_one (ps_asg (pe_callTy call_list_of (by rfl) T.list (by decide +kernel) (pa_cons (pe_ix ix_list (pv 0) (pe_op op_mod (pe_callTy call_int1 (by rfl) T.int (by decide +kernel) (pa_cons (pv 3) pa_nil)) (pe_callB call_len_seq (by rfl) T.len PySem.boot_len (pa_cons (pv 0) pa_nil))) (fun _ _ => rfl)) pa_nil))
          (pg_sub (pv 5) (pe_op op_mod (pe_callTy call_int1 (by rfl) T.int (by decide +kernel) (pa_cons (pv 2) pa_nil)) (pe_callB call_len_seq (by rfl) T.len PySem.boot_len (pa_cons (pv 0) pa_nil))) set_list))) pss_nil)
      (pss_cons (ps_if (pt_cmpR op_eq (pv 1) pe_int (nomark _))
        (pss_one (ps_for PassesOwn.never rfl (pi_list (pv 5)) (pg_name (i := 4) scAlike.nd rfl (.inl rfl))
          (pss_one (ps_asg (pe_ix ix_list (pv 4) (pe_op op_mod (pe_callTy call_int1 (by rfl) T.int (by decide +kernel) (pa_cons (pv 3) pa_nil)) (pv 6)) (fun _ _ => rfl))
            (pg_sub (pv 4) (pe_op op_mod (pe_callTy call_int1 (by rfl) T.int (by decide +kernel) (pa_cons (pv 2) pa_nil)) (pv 6)) set_list))))) pss_nil)
      (pss_one (ps_ret (pv 5))))))), ?_⟩
    refine ⟨.ref a, rfl, a, rfl, ⟨_, SqL.of M.top⟩, fun D nD => ?_⟩
    refine lc_rows (walk_list (K := K) (a := a) (xs := rl m fun i => .ref (as i))) n A nD (by rw [rl_len]; exact small_le (by omega)) (fun H1 s1 => SqL.of (s1 _ _ M.top)) ?_ ?_
    · rintro i x H2 H1 hi s1 ⟨rfl, ex⟩ RR Rf kk
      rw [rl_len] at hi
      obtain rfl := rl_at ex hi
      exact ⟨rfl, yes ⟨_, rfl, as i, _, rfl, .inl (SqL.of (s1 _ _ (M.row i hi))), fun q nq => kk q _ nq (same_upd nq) upd_same⟩⟩
    intro H1 cs N inj ncs
    rw [rl_len] at N inj ncs
    have M1 := M.same N.same
    refine ⟨.ref a, rfl, a, _, 0, _, rfl, rfl, SqL.of M1.top, atI_rl (i := 0) hm, as 0, _, rfl, .inl (SqL.of (M1.row 0 hm)), ?_⟩
    rw [len_rl]
    have hmI : (0 : Int) < (m : Int) := by omega
    have hnI : (0 : Int) < (n : Int) := by omega
    have u1 := Int.emod_nonneg one (show (m : Int) ≠ 0 by omega)
    have u2 := Int.emod_lt_of_pos one hmI
    have v1 := Int.emod_nonneg other (show (m : Int) ≠ 0 by omega)
    have v2 := Int.emod_lt_of_pos other hmI
    have p1 := Int.emod_nonneg one (show (n : Int) ≠ 0 by omega)
    have p2 := Int.emod_lt_of_pos one hnI
    have q1 := Int.emod_nonneg other (show (n : Int) ≠ 0 by omega)
    have q2 := Int.emod_lt_of_pos other hnI
    refine ⟨_, rfl, rfl, _, rfl, ite2 (fun h => ?_) (fun h => ?_)⟩
    · -- a row as another
      have hw : way = 1 := V.int.inj (of_decide_eq_true h)
      subst hw
      refine ⟨.ref a, rfl, _, rfl, .inl ⟨_, rfl, .ref a, rfl, a, _, rfl, .inl (SqL.of M1.top), _, _, rfl, rfl, ?_⟩⟩
      rw [len_rl]
      refine ⟨hmI, a, _, _, _, rfl, rfl, SqL.of M1.top, atI_rlI v1 v2, as (other % (m : Int)).toNat, _, rfl, .inl (SqL.of (M1.row _ (by omega))), fun l nl => ?_⟩
      have s12 := same_upd (o := .lst (rl n fun j => .int (A (other % (m : Int)).toNat j))) nl
      have M2 := M1.same s12
      refine ⟨.ref D, rfl, _, rfl, .inl ⟨_, rfl, .ref a, rfl, a, _, rfl, .inl (SqL.of M2.top), _, _, rfl, rfl, ?_⟩⟩
      rw [len_rl]
      refine ⟨hmI, D, _, _, (one % (m : Int)).toNat, rfl, rfl, s12 _ _ N.mat.top, by rw [rl_len]; exact ixN_int u1 u2, ?_⟩
      rw [rl_set]
      refine ⟨_, rfl, rfl, _, rfl, iteF ⟨_, rfl, ?_⟩⟩
      have nlD : l ≠ D := fun e => by rw [e, N.mat.top] at nl; cases nl
      have bt : ∀ o, But D (upd H1 l (.lst (rl n fun j => .int (A (other % (m : Int)).toNat j)))) (upd (upd H1 l (.lst (rl n fun j => .int (A (other % (m : Int)).toNat j)))) D o) := fun o b z ne e => by rw [upd_ne ne]; exact e
      refine k _ D (fun j => if j = (one % (m : Int)).toNat then l else cs j) (fun i j => if i = (one % (m : Int)).toNat then A (other % (m : Int)).toNat j else A i j) ⟨fun b z e => bt _ _ _ (ne_of_none e nD) (s12 _ _ (N.same _ _ e)), ⟨?_, fun i hi => ?_⟩, nD, fun i hi => ?_⟩ (fun i j hi hj => ?_)
      · rw [upd_same, rl_congr fun j hj => ?_]
        show (if j = (one % (m : Int)).toNat then V.ref l else V.ref (cs j)) = V.ref (if j = (one % (m : Int)).toNat then l else cs j)
        split <;> rfl
      · show FL _ (if i = (one % (m : Int)).toNat then l else cs i) n (fun j => if i = (one % (m : Int)).toNat then A (other % (m : Int)).toNat j else A i j)
        by_cases e : i = (one % (m : Int)).toNat
        · rw [if_pos e]
          exact FL.congr (FL.but (f := A (other % (m : Int)).toNat) upd_same (bt _) nlD) fun j hj => by rw [if_pos e]
        · rw [if_neg e]
          exact FL.congr (((N.mat.row i hi).same s12).but (bt _) (ncs i hi)) fun j hj => by rw [if_neg e]
      · show H (if i = (one % (m : Int)).toNat then l else cs i) = none
        split
        · exact N.same.free nl
        · exact N.news i hi
      · show (if i = (one % (m : Int)).toNat then A (other % (m : Int)).toNat j else A i j).natAbs < 2 ^ 205
        split
        · exact hA _ _ (by omega) hj
        · exact hA _ _ hi hj
    · refine ⟨_, rfl, rfl, _, rfl, ite2 (fun h2 => ?_) (fun h2 => ?_)⟩
      · -- a column as another
        refine ⟨.ref D, rfl, D, rfl, ⟨_, SqL.of N.mat.top⟩, ?_⟩
        refine for_it (walk_list (K := K) (a := D) (xs := rl m fun i => .ref (cs i)))
          (fun u σ H' => ∃ x4, σ = [some (.ref a), some (.int way), some (.int one), some (.int other), x4, some (.ref D), some (.int (n : Int))] ∧ Same H H' ∧ H' D = some (.lst (rl m fun i => .ref (cs i))) ∧
            ∀ i, i < m → FL H' (cs i) n (fun j => if i < u ∧ j = (one % (n : Int)).toNat then A i (other % (n : Int)).toNat else A i j))
          ⟨_, rfl, N.same, N.mat.top, fun i hi => FL.congr (N.mat.row i hi) fun j hj => by rw [if_neg (by omega)]⟩ (fun u σ H' _ ⟨_, _, _, e, _⟩ => SqL.of e) ?_ ?_
        · rintro u x σ H3 H2 hu ⟨x4, rfl, s2, eD, hR⟩ ⟨rfl, ex⟩
          rw [rl_len] at hu
          obtain rfl := rl_at ex hu
          have R := hR u hu
          refine ⟨.ref (cs u), rfl, _, rfl, .inl ⟨_, rfl, _, rfl, _, _, rfl, rfl, hnI, cs u, _, _, _, rfl, rfl, SqL.of R, atI_rlI q1 q2, ?_⟩⟩
          refine ⟨.ref (cs u), rfl, _, rfl, .inl ⟨_, rfl, _, rfl, _, _, rfl, rfl, hnI, cs u, _, _, (one % (n : Int)).toNat, rfl, rfl, R, by rw [rl_len]; exact ixN_int p1 p2, ?_⟩⟩
          rw [rl_set]
          refine ⟨_, rfl, fun b z e => ?_, ?_, fun i hi => ?_⟩
          · rw [upd_ne (ne_of_none e (N.news u hu))]
            exact s2 _ _ e
          · rw [upd_ne (Ne.symm (ncs u hu))]
            exact eD
          · by_cases e : i = u
            · subst e
              unfold FL
              rw [upd_same, rl_congr fun j hj => ?_]
              show (if j = (one % (n : Int)).toNat then V.int (if i < i ∧ (other % (n : Int)).toNat = (one % (n : Int)).toNat then A i (other % (n : Int)).toNat else A i (other % (n : Int)).toNat) else V.int (if i < i ∧ j = (one % (n : Int)).toNat then A i (other % (n : Int)).toNat else A i j)) = V.int (if i < i + 1 ∧ j = (one % (n : Int)).toNat then A i (other % (n : Int)).toNat else A i j)
              by_cases z : j = (one % (n : Int)).toNat
              · rw [if_pos z, if_neg (by omega), if_pos ⟨by omega, z⟩]
              · rw [if_neg z, if_neg (by omega), if_neg (by omega)]
            · have ne : cs i ≠ cs u := fun z => e (inj i u hi hu z)
              unfold FL
              rw [upd_ne ne]
              refine FL.congr (hR i hi) fun j hj => ?_
              by_cases z : i < u ∧ j = (one % (n : Int)).toNat
              · rw [if_pos z, if_pos ⟨by omega, z.2⟩]
              · rw [if_neg z, if_neg (by omega)]
        · rintro σ H2 ⟨x4, rfl, s2, eD, hR⟩
          rw [rl_len] at hR
          refine ⟨_, rfl, k H2 D cs _ ⟨s2, ⟨eD, hR⟩, nD, N.news⟩ fun i j hi hj => ?_⟩
          show (if i < m ∧ j = (one % (n : Int)).toNat then A i (other % (n : Int)).toNat else A i j).natAbs < 2 ^ 205
          split
          · exact hA _ _ hi (by omega)
          · exact hA _ _ hi hj
      · exact ⟨_, rfl, k H1 D cs A N hA⟩
end
end K53
namespace K53
open PySem PySem.Spec PyProof.Rows L2
theorem frac_step {num den u b L S v : Int} {e : Nat} (he : 0 < e) (hb : 0 < b) (hd : 0 < den) (h1 : num.natAbs < 2 ^ e) (h2 : den.natAbs < 2 ^ e) (hu : u.natAbs < 2 ^ 2100) (hbl : b.natAbs < 2 ^ 2100) (hn : num * L = S * den) (hv : u * L = v * b) :
    0 < den * b ∧ (num * b + u * den).natAbs < 2 ^ (e + 2500) ∧ (den * b).natAbs < 2 ^ (e + 2500) ∧ (num * b + u * den) * L = (S + v) * (den * b) := by
  have a1 : (num * b).natAbs < 2 ^ (e + 2100) := wide_lt h1 hbl
  have a2 : (u * den).natAbs < 2 ^ (2100 + e) := wide_lt hu h2
  have a3 : (den * b).natAbs < 2 ^ (e + 2100) := wide_lt h2 hbl
  have a4 : (num * b + u * den).natAbs ≤ (num * b).natAbs + (u * den).natAbs := Int.natAbs_add_le _ _
  rw [Nat.add_comm 2100 e] at a2
  have a5 : 2 ^ (e + 2100) + 2 ^ (e + 2100) ≤ 2 ^ (e + 2500) := by
    rw [← Nat.mul_two, ← Nat.pow_succ]
    exact Nat.pow_le_pow_right (by decide) (by omega)
  refine ⟨Int.mul_pos hd hb, by omega, by omega, ?_⟩
  have c1 : (num * b + u * den) * L = (num * L) * b + (u * L) * den := by grind
  rw [c1, hn, hv]
  grind
/-- a running sum of fractions -/
structure Frac (H : Hp) (u : Addr) (e : Nat) (L S num den : Int) : Prop where
  at_ : H u = some (.tup [.int num, .int den])
  pos : 0 < den
  n1 : num.natAbs < 2 ^ e
  n2 : den.natAbs < 2 ^ e
  eq : num * L = S * den
section
variable {P : Program} {w : World} {K : PySem.W.Frag} {mg : Str → Option Value} {base : Heap} {C fI fS : Addr}
theorem pow_le20 {e : Nat} (h : e ≤ 20000) {x : Int} (hx : x.natAbs < 2 ^ e) : x.natAbs < 2 ^ 20000 := Nat.lt_of_lt_of_le hx (Nat.pow_le_pow_right (by decide) h)
theorem lt2100 {x : Int} {e : Nat} (he : e ≤ 2100) (h : x.natAbs < 2 ^ e) : x.natAbs < 2 ^ 2100 := Nat.lt_of_lt_of_le h (Nat.pow_le_pow_right (by decide) he)
/-! ### _law_is_mix -/
def spMix (C : Addr) : Sp := fun vs H Q _ => ∃ (q : Addr) (rs : Nat → Addr) (m : Nat) (c : Nat → Int) (L : Int), vs = [.ref q, .int (m : Int)] ∧ H q = some (.lst (rl m fun i => .ref (rs i))) ∧ m ≤ 6 ∧ 0 < L ∧ (∀ i, i < m → RatOK C H (rs i) (c i) L ∧ 0 ≤ c i) ∧ Gm.sm m c = L ∧
  ∀ H', Same H H' → Q (.bl true) H'
theorem scMix : FnScope ["_law_x", "_law_many", "_law_total", "_law_item"] ["_law_x", "_law_many"] (defScope sIsMix) := ⟨rfl, rfl, rfl, by decide +kernel, rfl, by decide +kernel, by decide +kernel⟩
theorem ok_mix {f fN fR fP : Addr} {fd fdN fdR fdP : FuncData} (F : FnP K "_law_is_mix" sIsMix f fd) (T : Txt K mg C fI fS) (FN : FnP K "_law_is_int" sIsInt fN fdN) (gN : mg "_law_is_int" = some (.ref fN))
    (FR : FnP K "_law_is_ratio" sIsRatio fR fdR) (gR : mg "_law_is_ratio" = some (.ref fR)) (FP : FnP K "_law_plus" sPlus fP fdP) (gP : mg "_law_plus" = some (.ref fP)) : FnOk P w K mg base CX0 3 f fd ["_law_x", "_law_many"] (spMix C) := by
  have GR : FnOk P w K mg base CX0 2 fR fdR ["_law_x"] (spIsRatio C) := ok_isratio FR T FN gN
  have GP : FnOk P w K mg base CX0 1 fP fdP ["_law_a", "_law_b"] spPlus := ok_plus FP
  have bR : Binds K fdR ["_law_x"] [] := FR.bindsN fun _ _ _ _ _ _ us hl => match us, hl with | [_], _ => rfl
  have bP : Binds K fdP ["_law_a", "_law_b"] [] := FP.bindsN fun _ _ _ _ _ _ us hl => match us, hl with | [_, _], _ => rfl
  refine F.ok scMix (fun vs H Q E h => ?_) (fun cdv A outer s H vs Q E hr h => ?_)
  · obtain ⟨q, rs, m, c, L, rfl, _⟩ := h
    rfl
  · obtain ⟨q, rs, m, c, L, rfl, hq, hm6, Lp, hR, hsum, k⟩ := h
    have hr1 : Room 1 _ := hr.mono (by decide)
    refine ⟨_, PSs.nox (pss_cons (ps_if (PW.pt (pw_or (pt_not (pt_val (pe_callB call_isi (by rfl) T.isi (by decide +kernel) (pa_cons (pv 0) (pa_cons (pe_bltn (v := .ty "list") (by rfl) T.list (by decide +kernel) rfl) pa_nil)))))
          (pw_or1 (pt_cmpR op_ne (pe_callB call_len_seq (by rfl) T.len PySem.boot_len (pa_cons (pv 0) pa_nil)) (pv 1) (nomark _))))) (pss_one (ps_ret pe_bl)) pss_nil)
      (pss_cons (ps_set (i := 2) scMix.nd rfl (.inl rfl) (pe_tup (pa_cons pe_int (pa_cons pe_int pa_nil))))
      (pss_cons (ps_for PassesOwn.never rfl (pi_list (pv 0)) (pg_name (i := 3) scMix.nd rfl (.inl rfl))
        (pss_cons (ps_if (PW.pt (pw_or (pt_not (pt_val (pe_call GR hr rfl gR FR.kp bR .nil pass0 (pa_cons (pv 3) pa_nil)))) (pw_or1 (pt_cmpR op_lt (pe_fld (pv 3) rfl) pe_int (nomark _))))) (pss_one (ps_ret pe_bl)) pss_nil)
        (pss_one (ps_set (i := 2) scMix.nd rfl (.inl rfl) (pe_call GP hr1 rfl gP FP.kp bP .nil pass0 (pa_cons (pv 2) (pa_cons (pe_tup (pa_cons (pe_fld (pv 3) rfl) (pa_cons (pe_fld (pv 3) rfl) pa_nil))) pa_nil)))))))
      (pss_one (ps_ret (pe_cmpR op_eq (pe_ix ix_tup (pv 2) pe_int (fun _ _ => rfl)) (pe_ix ix_tup (pv 2) pe_int (fun _ _ => rfl)) (nomark _))))))), ?_⟩
    refine ⟨_, rfl, _, _, _, _, true, rfl, .ty _, .base (.lst hq), by rfl, true, rfl, iteF ?_⟩
    refine ⟨.ref q, rfl, q, _, rfl, .inl (SqL.of hq), _, rfl, rfl, _, rfl, ?_⟩
    rw [len_rl, dI_eq rfl]
    refine iteF ⟨by decide, fun u0 nu0 => ?_⟩
    have s0 := same_upd (o := .tup [.int 0, .int 1]) nu0
    refine ⟨.ref q, rfl, q, rfl, ⟨_, SqL.of (s0 _ _ hq)⟩, ?_⟩
    refine for_it (walk_list (K := K) (a := q) (xs := rl m fun i => .ref (rs i))) (fun i σ H' => ∃ (u : Addr) (x3 : Option V) (num den : Int), σ = [some (.ref q), some (.int (m : Int)), some (.ref u), x3] ∧ Same H H' ∧ Frac H' u (2500 * (i + 1)) L (Gm.sm i c) num den)
      ⟨u0, _, 0, 1, rfl, s0, upd_same, by decide, by decide +kernel, by decide +kernel, by show (0 : Int) * L = 0 * 1; omega⟩ (fun i σ H' _ ⟨_, _, _, _, _, s, _⟩ => SqL.of (s _ _ hq)) ?_ ?_
    · rintro i x σ H2 H1 hi ⟨u, x3, num, den, rfl, s1, Fr⟩ ⟨rfl, ex⟩
      rw [rl_len] at hi
      obtain rfl := rl_at ex hi
      obtain ⟨hRi, hc⟩ := hR i hi
      obtain ⟨t, b, hp, hb, hbl, htl, htb⟩ := hRi.same s1
      obtain ⟨dx, e⟩ := id hp
      have ht0 : 0 ≤ t := by
        rcases (show 0 ≤ t ∨ t < 0 by omega) with z | z
        · exact z
        · have a1 : t * L < 0 := Int.mul_neg_of_neg_of_pos z Lp
          have a2 : 0 ≤ c i * b := Int.mul_nonneg hc (by omega)
          omega
      refine ⟨.ref (rs i), rfl, rs i, t, b, rfl, hp, hb, true, rfl, iteF ?_⟩
      refine ⟨.ref (rs i), rfl, rs i, C, dx, _, _, rfl, e, T.cl, T.nT, rf_top _ _, t, 0, rfl, rfl, _, rfl, ?_⟩
      rw [show decide (t < 0) = false from decide_eq_false (by omega)]
      refine iteF ⟨.ref u, rfl, .ref (rs i), rfl, rs i, C, dx, _, _, rfl, e, T.cl, T.nT, rf_top _ _, .ref (rs i), rfl, rs i, C, dx, _, _, rfl, e, T.cl, T.nB, rf_bottom _ _, (by show 2 ≤ sizeLine; decide), fun v nv => ?_⟩
      have s12 := same_upd (o := .tup [.int t, .int b]) nv
      have he : 2500 * (i + 1) ≤ 20000 := by omega
      refine ⟨u, v, num, den, t, b, rfl, s12 _ _ Fr.at_, upd_same, pow_le20 he Fr.n1, pow_le20 he Fr.n2, pow_le20 (show 1800 ≤ 20000 by omega) htl, pow_le20 (show 1800 ≤ 20000 by omega) hbl, fun u' H3 s23 eu' => ?_⟩
      obtain ⟨f1, f2, f3, f4⟩ := frac_step (by omega) hb Fr.pos Fr.n1 Fr.n2 (lt2100 (by decide) htl) (lt2100 (by decide) hbl) Fr.eq htb
      exact ⟨u', _, _, _, rfl, (s1.trans s12).trans s23, eu', f1, f2, f3, f4⟩
    · rintro σ H1 ⟨u, x3, num, den, rfl, s1, Fr⟩
      rw [rl_len] at Fr
      have e : num = den := by
        have h := Fr.eq
        rw [hsum, Int.mul_comm L den] at h
        exact Int.eq_of_mul_eq_mul_right (by omega) h
      refine ⟨.ref u, rfl, u, _, 0, _, rfl, rfl, SqT.of Fr.at_, two0 _ _, .ref u, rfl, u, _, 1, _, rfl, rfl, SqT.of Fr.at_, two1 _ _, rfl, ?_⟩
      show Q (.bl (decide (V.int num = V.int den))) H1
      rw [dI_eq e]
      exact k H1 s1
/-! ### _law_mean -/
def spMean (C : Addr) : Sp := fun vs H Q _ => ∃ (q r : Addr) (rs : Nat → Addr) (n : Nat) (c x : Nat → Int) (L : Int), vs = [.ref q, .ref r] ∧ H q = some (.lst (rl n fun i => .ref (rs i))) ∧ FL H r n x ∧ n ≤ 6 ∧ (∀ i, i < n → RatOK C H (rs i) (c i) L) ∧ (∀ i, i < n → (x i).natAbs < 2 ^ 205) ∧
  ∀ H' u num den, Same H H' → Frac H' u 20000 L (Gm.sm n (fun i => c i * x i)) num den → Q (.ref u) H'
theorem scMean : FnScope ["_law_mix", "_law_numbers", "_law_total", "_law_k"] ["_law_mix", "_law_numbers"] (defScope sMean) := ⟨rfl, rfl, rfl, by decide +kernel, rfl, by decide +kernel, by decide +kernel⟩
theorem ok_mean {f fP : Addr} {fd fdP : FuncData} (F : FnP K "_law_mean" sMean f fd) (T : Txt K mg C fI fS) (FP : FnP K "_law_plus" sPlus fP fdP) (gP : mg "_law_plus" = some (.ref fP)) : FnOk P w K mg base CX0 2 f fd ["_law_mix", "_law_numbers"] (spMean C) := by
  have GP : FnOk P w K mg base CX0 1 fP fdP ["_law_a", "_law_b"] spPlus := ok_plus FP
  have bP : Binds K fdP ["_law_a", "_law_b"] [] := FP.bindsN fun _ _ _ _ _ _ us hl => match us, hl with | [_, _], _ => rfl
  refine F.ok scMean (fun vs H Q E h => ?_) (fun cdv A outer s H vs Q E hr h => ?_)
  · obtain ⟨q, r, rs, n, c, x, L, rfl, _⟩ := h
    rfl
  · obtain ⟨q, r, rs, n, c, x, L, rfl, hq, hx, hn6, hR, hxs, k⟩ := h
    refine ⟨_, PSs.nox (pss_cons (ps_set (i := 2) scMean.nd rfl (.inl rfl) (pe_tup (pa_cons pe_int (pa_cons pe_int pa_nil))))
      (pss_cons (ps_for PassesOwn.never rfl (pi_range1 (by rfl) T.range (pa_cons (pe_callB call_len_seq (by rfl) T.len PySem.boot_len (pa_cons (pv 1) pa_nil)) pa_nil)) (pg_name (i := 3) scMean.nd rfl (.inl rfl))
        (pss_one (ps_set (i := 2) scMean.nd rfl (.inl rfl) (pe_call GP hr rfl gP FP.kp bP .nil pass0 (pa_cons (pv 2) (pa_cons (pe_tup (pa_cons (pe_op op_mulW (pe_fld (pe_ix ix_list (pv 0) (pv 3) (fun _ _ => rfl)) rfl) (pe_ix ix_list (pv 1) (pv 3) (fun _ _ => rfl)))
          (pa_cons (pe_fld (pe_ix ix_list (pv 0) (pv 3) (fun _ _ => rfl)) rfl) pa_nil))) pa_nil))))))
      (pss_one (ps_ret (pv 2))))), ?_⟩
    refine ⟨by decide, fun u0 nu0 => ?_⟩
    have s0 := same_upd (o := .tup [.int 0, .int 1]) nu0
    refine ⟨.ref r, rfl, r, _, rfl, .inl (SqL.of (s0 _ _ hx)), (n : Int), by rw [len_rl], by omega, by omega, ?_⟩
    refine for_it (walk_range (lo := 0) (n := n)) (fun i σ H' => ∃ (u : Addr) (x3 : Option V) (num den : Int), σ = [some (.ref q), some (.ref r), some (.ref u), x3] ∧ Same H H' ∧ Frac H' u (2500 * (i + 1)) L (Gm.sm i fun i => c i * x i) num den)
      ⟨u0, _, 0, 1, rfl, s0, upd_same, by decide, by decide +kernel, by decide +kernel, by show (0 : Int) * L = 0 * 1; omega⟩ (fun _ _ _ _ _ => trivial) ?_ ?_
    · rintro i z σ H2 H1 hi ⟨u, x3, num, den, rfl, s1, Fr⟩ ⟨rfl, rfl⟩
      have ei : (0 : Int) + (i : Int) = (i : Int) := by omega
      show gName 3 (V.int ((0 : Int) + (i : Int))) _ _ _
      rw [ei]
      obtain ⟨t, b, hp, hb, hbl, htl, htb⟩ := (hR i hi).same s1
      obtain ⟨dx, e⟩ := id hp
      have hxi := hxs i hi
      refine ⟨.ref u, rfl, .ref q, rfl, .int (i : Int), rfl, q, _, _, _, rfl, rfl, SqL.of (s1 _ _ hq), atI_rl hi, rs i, C, dx, _, _, rfl, e, T.cl, T.nT, rf_top _ _, .ref r, rfl, .int (i : Int), rfl, r, _, _, _, rfl, rfl, SqL.of (s1 _ _ hx), atI_rl hi, t, x i, rfl, rfl, wide_mul htl hxi (by decide) (by decide) (by decide),
        .ref q, rfl, .int (i : Int), rfl, q, _, _, _, rfl, rfl, SqL.of (s1 _ _ hq), atI_rl hi, rs i, C, dx, _, _, rfl, e, T.cl, T.nB, rf_bottom _ _, (by show 2 ≤ sizeLine; decide), fun v nv => ?_⟩
      have s12 := same_upd (o := .tup [.int (t * x i), .int b]) nv
      have he : 2500 * (i + 1) ≤ 20000 := by omega
      have hm : (t * x i).natAbs < 2 ^ (1800 + 205) := wide_lt htl hxi
      have htb' : (t * x i) * L = (c i * x i) * b := by
        have : (t * x i) * L = (t * L) * x i := by grind
        rw [this, htb]
        grind
      refine ⟨u, v, num, den, t * x i, b, rfl, s12 _ _ Fr.at_, upd_same, pow_le20 he Fr.n1, pow_le20 he Fr.n2, pow_le20 (show 1800 + 205 ≤ 20000 by omega) hm, pow_le20 (show 1800 ≤ 20000 by omega) hbl, fun u' H3 s23 eu' => ?_⟩
      obtain ⟨f1, f2, f3, f4⟩ := frac_step (by omega) hb Fr.pos Fr.n1 Fr.n2 (lt2100 (by decide) hm) (lt2100 (by decide) hbl) Fr.eq htb'
      exact ⟨u', _, _, _, rfl, (s1.trans s12).trans s23, eu', f1, f2, f3, f4⟩
    · rintro σ H1 ⟨u, x3, num, den, rfl, s1, Fr⟩
      exact ⟨_, rfl, k H1 u num den s1 ⟨Fr.at_, Fr.pos, pow_le20 (by omega) Fr.n1, pow_le20 (by omega) Fr.n2, Fr.eq⟩⟩
end
end K53
namespace K53
open PySem PySem.Spec PyProof.Rows L2
/-! ### two tables are equal -/
def dRow (n : Nat) (f : Nat → Int) : PyData := .list ((List.range n).map fun j => .int (f j))
def dTab (m n : Nat) (A : Nat → Nat → Int) : PyData := .list ((List.range m).map fun i => dRow n (A i))
theorem dpAll {K : PySem.W.Frag} {H : Hp} {f : Nat → V} {g : Nat → PyData} : ∀ {l : List Nat}, (∀ i, i ∈ l → Dp K H (f i) (g i)) → DpAll K H (l.map f) (l.map g)
  | [], _ => .nil
  | a :: r, h => .cons (h a List.mem_cons_self) (dpAll fun i hi => h i (List.mem_cons_of_mem _ hi))
theorem dp_row {K : PySem.W.Frag} {H : Hp} {a : Addr} {n : Nat} {f : Nat → Int} (h : FL H a n f) : Dp K H (.ref a) (dRow n f) := .lst (SqL.of h) (dpAll fun i _ => .int (f i))
theorem dp_tab {K : PySem.W.Frag} {H : Hp} {a : Addr} {as : Nat → Addr} {m n : Nat} {A : Nat → Nat → Int} (h : FM H a as m n A) : Dp K H (.ref a) (dTab m n A) := .lst (SqL.of h.top) (dpAll fun i hi => dp_row (h.row i (List.mem_range.mp hi)))
theorem layAll {g : Nat → PyData} (h : ∀ i, (g i).canLay0 = true) : ∀ l : List Nat, PyData.canLayAll0 (l.map g) = true
  | [] => rfl
  | a :: r => by
    show ((g a).canLay0 && PyData.canLayAll0 (r.map g)) = true
    rw [h a, layAll h r]
    rfl
theorem depAll {g : Nat → PyData} {k : Nat} (h : ∀ i, (g i).depth ≤ k) : ∀ l : List Nat, PyData.depthAll (l.map g) ≤ k
  | [] => Nat.zero_le _
  | a :: r => by
    show max (g a).depth (PyData.depthAll (r.map g)) ≤ k
    exact Nat.max_le.mpr ⟨h a, depAll h r⟩
theorem tab_lay (m n : Nat) (A : Nat → Nat → Int) : (dTab m n A).canLay0 = true := by
  show PyData.canLayAll0 _ = true
  exact layAll (fun i => by show PyData.canLayAll0 _ = true; exact layAll (fun _ => rfl) _) _
theorem tab_dep (m n : Nat) (A : Nat → Nat → Int) : (dTab m n A).depth ≤ 2 := by
  show PyData.depthAll _ + 1 ≤ 2
  have h1 : ∀ i, (dRow n (A i)).depth ≤ 1 := fun i => by
    show PyData.depthAll _ + 1 ≤ 1
    have := depAll (g := fun j => PyData.int (A i j)) (k := 0) (fun _ => Nat.le_refl 0) (List.range n)
    omega
  have := depAll h1 (List.range m)
  omega
theorem tab_shaped (m n : Nat) (A : Nat → Nat → Int) : SeqAt.shaped (dTab m n A) = true := by
  unfold SeqAt.shaped
  rw [tab_lay, decide_eq_true (Nat.le_trans (tab_dep m n A) (by decide))]
  rfl
theorem tab_eqv (m n : Nat) (A : Nat → Nat → Int) : PyData.eqv (dTab m n A) (dTab m n A) = true := SeqAt.eqv_refl _ (tab_lay m n A)
/-! ### the ends of the law's sums -/
theorem not_below {num den vt vb L S vn : Int} (Lp : 0 < L) (hd : 0 < den) (hb : 0 < vb) (h1 : num * L = S * den) (h2 : vt * L = vn * vb) (h : vn ≤ S) : decide (num * vb < vt * den) = false := by
  refine decide_eq_false ?_
  have a1 : vn * (vb * den) ≤ S * (vb * den) := Int.mul_le_mul_of_nonneg_right h (Int.le_of_lt (Int.mul_pos hb hd))
  have c1 : (vt * den) * L = vn * (vb * den) := by
    have : (vt * den) * L = (vt * L) * den := by grind
    rw [this, h2]; grind
  have c2 : (num * vb) * L = S * (vb * den) := by
    have : (num * vb) * L = (num * L) * vb := by grind
    rw [this, h1]; grind
  have := Int.le_of_mul_le_mul_right (show (vt * den) * L ≤ (num * vb) * L by omega) Lp
  omega
theorem not_above {num den vt vb L S vn : Int} (Lp : 0 < L) (hd : 0 < den) (hb : 0 < vb) (h1 : num * L = S * den) (h2 : vt * L = vn * vb) (h : S ≤ vn) : decide (vt * den < num * vb) = false := by
  refine decide_eq_false ?_
  have a1 : S * (vb * den) ≤ vn * (vb * den) := Int.mul_le_mul_of_nonneg_right h (Int.le_of_lt (Int.mul_pos hb hd))
  have c1 : (vt * den) * L = vn * (vb * den) := by
    have : (vt * den) * L = (vt * L) * den := by grind
    rw [this, h2]; grind
  have c2 : (num * vb) * L = S * (vb * den) := by
    have : (num * vb) * L = (num * L) * vb := by grind
    rw [this, h1]; grind
  have := Int.le_of_mul_le_mul_right (show (num * vb) * L ≤ (vt * den) * L by omega) Lp
  omega
theorem turn_eq {t b t' b' L L' v v' : Int} (Lp : 0 < L) (Lp' : 0 < L') (h : t * L = v * b) (h' : t' * L' = v' * b') (e : v' * L = - v * L') : t' * b = (- t) * b' := by
  have LL : L * L' ≠ 0 := Int.ne_of_gt (Int.mul_pos Lp Lp')
  refine Int.eq_of_mul_eq_mul_right LL ?_
  have c1 : (t' * b) * (L * L') = (t' * L') * b * L := by grind
  have c2 : v' * b' * b * L = (v' * L) * b' * b := by grind
  have c3 : ((- t) * b') * (L * L') = - ((t * L) * b' * L') := by grind
  rw [c1, h', c2, e, c3, h]
  grind
/-- the argument of a call that is assigned, its scope if it is a comprehension -/
def argOf : Stmt → Expr
  | .Assign _ (.Call _ (e :: _) _ _) _ => e
  | _ => .Constant .none 0 ⟨0, 0, 0, 0⟩
def lcSc : Expr → Scope
  | .ListComp _ _ sc _ => sc
  | _ => { kind := .function, names := [], isGenerator := false, isCoroutine := false }
abbrev scTurn : Scope := lcSc (argOf ((defBody sLaw).getD 11 (.Pass ⟨0, 0, 0, 0⟩)))
section
variable {P : Program} {w : World} {K : PySem.W.Frag} {mg : Str → Option Value} {base : Heap} {C fI fS : Addr}
def spLaw (K : PySem.W.Frag) : Sp := fun vs H Q _ => ∃ (a : Addr) (ns : List Int), vs = [.ref a] ∧ SqL K H a (ns.map V.int) ∧ ns.length ≤ 63 ∧ ∀ H', Q (.bl true) H'
abbrev nL : List Str := ["_law_script", "_law_d", "_law_many", "_law_wide", "_law_rows", "_law_row", "_law_passed", "_law_told", "_law_value", "_law_j", "_law_turned", "_law_line"]
theorem scL : FnScope nL ["_law_script"] (defScope sLaw) := ⟨rfl, rfl, rfl, by decide +kernel, rfl, by decide +kernel, by decide +kernel⟩
/-- a def with its promise, as a caller takes it -/
structure Callee (P : Program) (w : World) (K : PySem.W.Frag) (mg : Str → Option Value) (base : Heap) (x : Str) (k : Nat) (f : Addr) (fd : FuncData) (ps : List Str) (sp : Sp) : Prop where
  ok : FnOk P w K mg base CX0 k f fd ps sp
  gl : mg x = some (.ref f)
  kp : PySem.W.keepIn K (.ref f) = true
  bd : Binds K fd ps []
structure LawFns (P : Program) (w : World) (K : PySem.W.Frag) (mg : Str → Option Value) (base : Heap) (C : Addr) (fCe fDr fGa fAl fSo fRa fMi fBe fMe fSa : Addr) (dCe dDr dGa dAl dSo dRa dMi dBe dMe dSa : FuncData) : Prop where
  ce : Callee P w K mg base "_law_cell" 1 fCe dCe ["_law_script", "_law_place"] (spCell K)
  dr : Callee P w K mg base "_law_draws" 1 fDr dDr ["_law_cell_here", "_law_sizes"] spDraws
  ga : Callee P w K mg base "_law_game" 2 fGa dGa ["_law_cell_here", "_law_many", "_law_wide"] spGame
  al : Callee P w K mg base "_law_alike" 1 fAl dAl ["_law_rows", "_law_way", "_law_one", "_law_other"] spAlike
  so : Callee P w K mg base "solve_game" 4 fSo dSo ["rows"] (spSolve C)
  ra : Callee P w K mg base "_law_is_ratio" 2 fRa dRa ["_law_x"] (spIsRatio C)
  mi : Callee P w K mg base "_law_is_mix" 3 fMi dMi ["_law_x", "_law_many"] (spMix C)
  be : Callee P w K mg base "_law_below" 1 fBe dBe ["_law_a", "_law_b"] spBelow
  me : Callee P w K mg base "_law_mean" 2 fMe dMe ["_law_mix", "_law_numbers"] (spMean C)
  sa : Callee P w K mg base "_law_same" 2 fSa dSa ["_law_x", "_law_top", "_law_bottom"] (spSame C)
theorem three0 (x y z : V) : atI [x, y, z] 0 = some x := rfl
theorem three1 (x y z : V) : atI [x, y, z] 1 = some y := rfl
theorem three2 (x y z : V) : atI [x, y, z] 2 = some z := rfl
theorem ok_law {f fCe fDr fGa fAl fSo fRa fMi fBe fMe fSa : Addr} {fd dCe dDr dGa dAl dSo dRa dMi dBe dMe dSa : FuncData} (F : FnP K "law" sLaw f fd) (T : Txt K mg C fI fS)
    (G : LawFns P w K mg base C fCe fDr fGa fAl fSo fRa fMi fBe fMe fSa dCe dDr dGa dAl dSo dRa dMi dBe dMe dSa) : FnOk P w K mg base CX0 5 f fd ["_law_script"] (spLaw K) := by
  refine F.ok scL (fun vs H Q E h => ?_) (fun cdv A outer s H vs Q E hr h => ?_)
  · obtain ⟨a, ns, rfl, _⟩ := h
    rfl
  · have hr1 : Room 1 _ := hr.mono (by decide)
    have hr2 : Room 2 _ := hr.mono (by decide)
    have hr3 : Room 3 _ := hr.mono (by decide)
    obtain ⟨a, ns, rfl, hS, hlen, k⟩ := h
    refine ⟨_, PSs.nox (
      pss_cons (ps_set (i := 1) scL.nd rfl (.inl rfl) (pe_call G.dr.ok hr1 rfl G.dr.gl G.dr.kp G.dr.bd .nil pass0 (pa_cons (pe_call G.ce.ok hr1 rfl G.ce.gl G.ce.kp G.ce.bd .nil pass0 (pa_cons (pv 0) (pa_cons pe_int pa_nil)))
        (pa_cons (pe_lst (pa_cons pe_int (pa_cons pe_int (pa_cons pe_int (pa_cons pe_int (pa_cons pe_int pa_nil)))))) pa_nil))))
      (pss_cons (ps_set (i := 2) scL.nd rfl (.inl rfl) (pe_op op_add pe_int (pe_ix ix_list (pv 1) pe_int (fun _ _ => rfl))))
      (pss_cons (ps_set (i := 3) scL.nd rfl (.inl rfl) (pe_op op_add pe_int (pe_ix ix_list (pv 1) pe_int (fun _ _ => rfl))))
      (pss_cons (ps_set (i := 4) scL.nd rfl (.inr rfl) (pe_call G.al.ok hr1 rfl G.al.gl G.al.kp G.al.bd .nil pass0 (pa_cons (pe_call G.ga.ok hr2 rfl G.ga.gl G.ga.kp G.ga.bd .nil pass0 (pa_cons (pe_call G.ce.ok hr1 rfl G.ce.gl G.ce.kp G.ce.bd .nil pass0 (pa_cons (pv 0) (pa_cons pe_int pa_nil))) (pa_cons (pv 2) (pa_cons (pv 3) pa_nil))))
        (pa_cons (pe_ix ix_list (pv 1) pe_int (fun _ _ => rfl)) (pa_cons (pe_ix ix_list (pv 1) pe_int (fun _ _ => rfl)) (pa_cons (pe_ix ix_list (pv 1) pe_int (fun _ _ => rfl)) pa_nil))))))
      (pss_cons (ps_setLc (i := 6) (own := [("_law_row", 5)]) (g := gName 5) (tt := tYes) (te := tCB (fun xs H Q => ∃ p ys, xs = [V.ref p] ∧ (SqL K H p ys ∨ SqT K H p ys) ∧ ∀ q, H q = none → Q (.ref q) (upd H q (.lst ys))) (tCons (tVar 5) tNil)) rfl scL.nd rfl rfl (sw_true rfl rfl rfl (by decide +kernel)) (pi_list (pv 4))
          (blkOk_by (N := nL) (sc := defScope sLaw) (by decide +kernel)) (fun _ _ _ _ _ => pg_name (i := 5) scL.nd rfl (.inl rfl) (.inr rfl)) (fun _ _ _ _ _ => pts_nil)
          (fun _ _ _ _ _ => pe_callTy call_list_of (by rfl) T.list (by decide +kernel) (pa_cons (pv 5) pa_nil)))
      (pss_cons (ps_set (i := 7) scL.nd rfl (.inl rfl) (pe_call G.so.ok hr rfl G.so.gl G.so.kp G.so.bd .nil pass0 (pa_cons (pv 6) pa_nil)))
      (pss_cons (ps_if (PW.pt (pw_or (pt_cmpR (op_neD hr.units) (pv 6) (pv 4) (nomark _))
          (pw_or (pt_not (pt_val (pe_callB call_isi (by rfl) T.isi (by decide +kernel) (pa_cons (pv 7) (pa_cons (pe_bltn (v := .ty "tuple") (by rfl) T.tuple (by decide +kernel) rfl) pa_nil)))))
          (pw_or (pt_cmpR op_ne (pe_callB call_len_seq (by rfl) T.len PySem.boot_len (pa_cons (pv 7) pa_nil)) pe_int (nomark _))
          (pw_or1 (pt_not (pt_val (pe_call G.ra.ok hr2 rfl G.ra.gl G.ra.kp G.ra.bd .nil pass0 (pa_cons (pe_ix ix_tup (pv 7) pe_int (fun _ _ => rfl)) pa_nil)))))))))
        (pss_one (ps_ret pe_bl)) pss_nil)
      (pss_cons (ps_if (PW.pt (pw_or (pt_not (pt_val (pe_call G.mi.ok hr3 rfl G.mi.gl G.mi.kp G.mi.bd .nil pass0 (pa_cons (pe_ix ix_tup (pv 7) pe_int (fun _ _ => rfl)) (pa_cons (pv 2) pa_nil)))))
          (pw_or1 (pt_not (pt_val (pe_call G.mi.ok hr3 rfl G.mi.gl G.mi.kp G.mi.bd .nil pass0 (pa_cons (pe_ix ix_tup (pv 7) pe_int (fun _ _ => rfl)) (pa_cons (pv 3) pa_nil))))))))
        (pss_one (ps_ret pe_bl)) pss_nil)
      (pss_cons (ps_set (i := 8) scL.nd rfl (.inl rfl) (pe_tup (pa_cons (pe_fld (pe_ix ix_tup (pv 7) pe_int (fun _ _ => rfl)) rfl) (pa_cons (pe_fld (pe_ix ix_tup (pv 7) pe_int (fun _ _ => rfl)) rfl) pa_nil))))
      (pss_cons (ps_for PassesOwn.never rfl (pi_range1 (by rfl) T.range (pa_cons (pv 3) pa_nil)) (pg_name (i := 9) scL.nd rfl (.inr rfl))
        (pss_one (ps_if (pt_val (pe_call G.be.ok hr1 rfl G.be.gl G.be.kp G.be.bd .nil pass0 (pa_cons (pe_call G.me.ok hr2 rfl G.me.gl G.me.kp G.me.bd .nil pass0 (pa_cons (pe_ix ix_tup (pv 7) pe_int (fun _ _ => rfl))
            (pa_cons (pe_lc (own := [("_law_row", 5)]) (g := gName 5) (tt := tYes) (te := tOp (rIxL K) (tVar 5) (tVar 9)) rfl scL.nd (pi_list (pv 4)) (blkOk_by (N := nL) (sc := defScope sLaw) (by decide +kernel))
              (fun _ _ _ _ _ => pg_name (i := 5) scL.nd rfl (.inl rfl) (.inr rfl)) (fun _ _ _ _ _ => pts_nil) (fun _ _ _ _ _ => pe_ix ix_list (pv 5) (pv 9) (fun _ _ => rfl))) pa_nil))) (pa_cons (pv 8) pa_nil))))
          (pss_one (ps_ret pe_bl)) pss_nil)))
      (pss_cons (ps_for PassesOwn.never rfl (pi_list (pv 4)) (pg_name (i := 5) scL.nd rfl (.inl rfl))
        (pss_one (ps_if (pt_val (pe_call G.be.ok hr1 rfl G.be.gl G.be.kp G.be.bd .nil pass0 (pa_cons (pv 8) (pa_cons (pe_call G.me.ok hr2 rfl G.me.gl G.me.kp G.me.bd .nil pass0 (pa_cons (pe_ix ix_tup (pv 7) pe_int (fun _ _ => rfl)) (pa_cons (pv 5) pa_nil))) pa_nil))))
          (pss_one (ps_ret pe_bl)) pss_nil)))
      (pss_cons (ps_set (i := 10) scL.nd rfl (.inl rfl) (pe_call G.so.ok hr rfl G.so.gl G.so.kp G.so.bd .nil pass0 (pa_cons
          (pe_lc (own := [("_law_j", 9)]) (g := gName 9) (tt := tYes) (te := tLc (iList K (tVar 4)) (gName 11) tYes (tUn (rU fun i => .int (-i)) (tOp (rIxL K) (tVar 11) (tVar 9))) [11]) rfl scL.nd (pi_range1 (by rfl) T.range (pa_cons (pv 3) pa_nil))
            (blkOk_by (N := nL) (sc := defScope sLaw) (by decide +kernel)) (fun _ _ _ _ _ => pg_name (i := 9) scL.nd rfl (.inr rfl) (.inl rfl)) (fun _ _ _ _ _ => pts_nil)
            (fun _ _ _ _ _ => pe_lc (own := [("_law_line", 11)]) (g := gName 11) (tt := tYes) (te := tUn (rU fun i => .int (-i)) (tOp (rIxL K) (tVar 11) (tVar 9))) rfl scL.nd (pi_list (pv 4)) (blkOk_by (N := nL) (sc := relS scTurn (defScope sLaw)) (by decide +kernel))
              (fun _ _ _ _ _ => pg_name (i := 11) scL.nd rfl (.inl rfl) (.inr rfl)) (fun _ _ _ _ _ => pts_nil) (fun _ _ _ _ _ => pe_un un_neg (pe_ix ix_list (pv 11) (pv 9) (fun _ _ => rfl))))) pa_nil)))
      (pss_cons (ps_if (PW.pt (pw_or (pt_not (pt_val (pe_callB call_isi (by rfl) T.isi (by decide +kernel) (pa_cons (pv 10) (pa_cons (pe_bltn (v := .ty "tuple") (by rfl) T.tuple (by decide +kernel) rfl) pa_nil)))))
          (pw_or1 (pt_cmpR op_ne (pe_callB call_len_seq (by rfl) T.len PySem.boot_len (pa_cons (pv 10) pa_nil)) pe_int (nomark _))))) (pss_one (ps_ret pe_bl)) pss_nil)
      (pss_one (ps_ret (pe_call G.sa.ok hr2 rfl G.sa.gl G.sa.kp G.sa.bd .nil pass0 (pa_cons (pe_ix ix_tup (pv 10) pe_int (fun _ _ => rfl)) (pa_cons (pe_un un_neg (pe_ix ix_tup (pv 8) pe_int (fun _ _ => rfl))) (pa_cons (pe_ix ix_tup (pv 8) pe_int (fun _ _ => rfl)) pa_nil))))))))))))))))))), ?_⟩
    -- the draws
    refine ⟨.ref a, rfl, a, ns, 0, rfl, hS, fun z0 => ⟨by decide, fun p np => ?_⟩⟩
    have s0 := same_upd (o := .lst [.int 6, .int 6, .int 3, .int 6, .int 6]) np
    refine ⟨z0, p, 5, fun j => if j = 2 then 3 else 6, rfl, upd_same, by decide, fun j hj => ?_, fun H1 dq d s01 hd hdb => ?_⟩
    · show 0 < (if j = 2 then (3 : Int) else 6) ∧ (if j = 2 then (3 : Int) else 6).natAbs < 2 ^ 8000
      split
      · exact ⟨by decide, by decide +kernel⟩
      · exact ⟨by decide, by decide +kernel⟩
    have s1 := s0.trans s01
    have hd0 : 0 ≤ d 0 ∧ d 0 < 6 := hdb 0 (by decide)
    have hd1 : 0 ≤ d 1 ∧ d 1 < 6 := hdb 1 (by decide)
    obtain ⟨m, hmE⟩ : ∃ m : Nat, 1 + d 0 = (m : Int) := ⟨(1 + d 0).toNat, by omega⟩
    obtain ⟨n, hnE⟩ : ∃ n : Nat, 1 + d 1 = (n : Int) := ⟨(1 + d 1).toNat, by omega⟩
    have hm : 0 < m := by omega
    have hm6 : m ≤ 6 := by omega
    have hn : 0 < n := by omega
    have hn6 : n ≤ 6 := by omega
    refine ⟨.ref dq, rfl, dq, _, 0, _, rfl, rfl, SqL.of hd, atI_rl (i := 0) (by decide), 1, d 0, rfl, rfl, ?_⟩
    show gName 2 (V.int (1 + d 0)) _ _ _
    rw [hmE]
    refine ⟨.ref dq, rfl, dq, _, 1, _, rfl, rfl, SqL.of hd, atI_rl (i := 1) (by decide), 1, d 1, rfl, rfl, ?_⟩
    show gName 3 (V.int (1 + d 1)) _ _ _
    rw [hnE]
    -- the rows
    refine ⟨.ref a, rfl, a, ns, 1, rfl, s1.seq hS, fun z1 => ⟨.int (m : Int), rfl, .int (n : Int), rfl, z1, m, n, rfl, hm, hn, hm6, hn6, fun H2 q2 qs2 A0 N2 hb2 => ?_⟩⟩
    have hd2 : FL H2 dq 5 d := hd.same N2.same
    refine ⟨.ref dq, rfl, dq, _, 2, _, rfl, rfl, SqL.of hd2, atI_rl (i := 2) (by decide), .ref dq, rfl, dq, _, 3, _, rfl, rfl, SqL.of hd2, atI_rl (i := 3) (by decide), .ref dq, rfl, dq, _, 4, _, rfl, rfl, SqL.of hd2, atI_rl (i := 4) (by decide),
      q2, qs2, m, n, A0, d 2, d 3, d 4, rfl, N2.mat, hm, hn, hm6, hn6, hb2, fun H3 q qs A N3 hA => ?_⟩
    have M3 := N3.mat
    clear hb2 N2 hd2 hd0 hd1 hmE hnE
    -- passed
    refine ⟨.ref q, rfl, q, rfl, ⟨_, SqL.of M3.top⟩, fun D nD => ?_⟩
    refine lc_rows (walk_list (K := K) (a := q) (xs := rl m fun i => .ref (qs i))) n A nD (by rw [rl_len]; exact small_le (by omega)) (fun H1 s1 => SqL.of (s1 _ _ M3.top)) ?_ ?_
    · rintro i x H5 H4 hi s4 ⟨rfl, ex⟩ RR Rf kk
      rw [rl_len] at hi
      obtain rfl := rl_at ex hi
      exact ⟨rfl, yes ⟨_, rfl, qs i, _, rfl, .inl (SqL.of (s4 _ _ (M3.row i hi))), fun q nq => kk q _ nq (same_upd nq) upd_same⟩⟩
    intro H4 ps N4 _ _
    rw [rl_len] at N4
    -- told
    refine ⟨.ref D, rfl, D, ps, m, n, A, rfl, N4.mat, hm, hn, hm6, hn6, hA, fun H5 u v rm cm rs cs L vn c dd s45 TD => ?_⟩
    have M5 := (M3.same N4.same).same s45
    refine ⟨.ref D, rfl, .ref q, rfl, dTab m n A, dTab m n A, dp_tab (N4.mat.same s45), dp_tab M5, tab_shaped m n A, tab_shaped m n A, _, rfl, ?_⟩
    rw [tab_eqv]
    obtain ⟨t, b, hv, hb, hbl, htl, htb⟩ := TD.val
    obtain ⟨dx, ev⟩ := id hv
    have Lp := TD.sol.Lp
    refine iteF ⟨_, rfl, _, _, _, _, true, rfl, .ty _, .base (.tup TD.tup), by rfl, true, rfl, iteF ?_⟩
    refine ⟨.ref u, rfl, u, _, rfl, .inr (SqT.of TD.tup), rfl, _, rfl, iteNS rfl ?_⟩
    refine ⟨.ref u, rfl, u, _, 0, _, rfl, rfl, SqT.of TD.tup, three0 _ _ _, v, t, b, rfl, hv, hb, true, rfl, iteF ?_⟩
    -- the mixes
    refine ⟨.ref u, rfl, u, _, 1, _, rfl, rfl, SqT.of TD.tup, three1 _ _ _, .int (m : Int), rfl, rm, rs, m, c, L, rfl, TD.rl, hm6, Lp, fun i hi => ⟨TD.rr i hi, TD.sol.cn i hi⟩, TD.sol.cs, fun H6 s56 => ⟨true, rfl, iteF ?_⟩⟩
    refine ⟨.ref u, rfl, u, _, 2, _, rfl, rfl, SqT.of (s56 _ _ TD.tup), three2 _ _ _, .int (n : Int), rfl, cm, cs, n, dd, L, rfl, s56 _ _ TD.cl, hn6, Lp, fun i hi => ⟨(TD.cr i hi).same s56, TD.sol.dn i hi⟩, TD.sol.ds, fun H7 s67 => ⟨true, rfl, iteF ?_⟩⟩
    have s57 := s56.trans s67
    -- value
    refine ⟨.ref u, rfl, u, _, 0, _, rfl, rfl, SqT.of (s57 _ _ TD.tup), three0 _ _ _, v, C, dx, _, _, rfl, s57 _ _ ev, T.cl, T.nT, rf_top _ _, .ref u, rfl, u, _, 0, _, rfl, rfl, SqT.of (s57 _ _ TD.tup), three0 _ _ _, v, C, dx, _, _, rfl, s57 _ _ ev, T.cl, T.nB, rf_bottom _ _, (by show 2 ≤ sizeLine; decide), fun val nval => ?_⟩
    have s78 := same_upd (o := .tup [.int t, .int b]) nval
    have ewal : (upd H7 val (.tup [.int t, .int b])) val = some (.tup [.int t, .int b]) := upd_same
    generalize upd H7 val (.tup [.int t, .int b]) = H8 at s78 ewal ⊢
    have s58 := s57.trans s78
    have M8 := M5.same s58
    have t20 := pow_le20 (show 1800 ≤ 20000 by omega) htl
    have b20 := pow_le20 (show 1800 ≤ 20000 by omega) hbl
    -- against every column
    refine ⟨.int (n : Int), rfl, (n : Int), rfl, by omega, by omega, ?_⟩
    refine for_it (walk_range (lo := 0) (n := n)) (fun j σ H' => ∃ x5 x9 : Option V, σ = [some (.ref a), some (.ref dq), some (.int (m : Int)), some (.int (n : Int)), some (.ref q), x5, some (.ref D), some (.ref u), some (.ref val), x9, none, none] ∧ Same H8 H')
      ⟨_, _, rfl, Same.refl _⟩ (fun _ _ _ _ _ => trivial) ?_ ?_
    · rintro j z σ Hb Ha hj ⟨x5, x9, rfl, sa⟩ ⟨rfl, rfl⟩
      have ej : (0 : Int) + (j : Int) = (j : Int) := by omega
      show gName 9 (V.int ((0 : Int) + (j : Int))) _ _ _
      rw [ej]
      have s5a := s58.trans sa
      have Ma := M8.same sa
      refine ⟨.ref u, rfl, u, _, 1, _, rfl, rfl, SqT.of (s5a _ _ TD.tup), three1 _ _ _, .ref q, rfl, q, rfl, ⟨_, SqL.of Ma.top⟩, fun r nr => ?_⟩
      refine lc_val (walk_list (K := K) (a := q) (xs := rl m fun i => .ref (qs i))) (fun i => .int (A i j)) nr (by rw [rl_len]; exact small_le (by omega)) (fun Hc sc => SqL.of (sc _ _ Ma.top)) ?_ ?_
      · rintro i x Hd Hc hi sc ⟨rfl, ex⟩ RR Rf kk
        rw [rl_len] at hi
        obtain rfl := rl_at ex hi
        exact ⟨rfl, yes ⟨.ref (qs i), rfl, .int (j : Int), rfl, qs i, _, _, _, rfl, rfl, SqL.of (sc _ _ (Ma.row i hi)), atI_rl hj, kk _ (Same.refl _)⟩⟩
      intro Hc sac er
      rw [rl_len] at er
      have s5c := s5a.trans sac
      refine ⟨rm, r, rs, m, c, fun i => A i j, L, rfl, s5c _ _ TD.rl, er, hm6, fun i hi => (TD.rr i hi).same s5c, fun i hi => hA i j hi hj, fun Hd w num den scd Fr => ?_⟩
      refine ⟨.ref val, rfl, w, val, num, den, t, b, rfl, Fr.at_, scd _ _ (sac _ _ (sa _ _ ewal)), Fr.n1, Fr.n2, t20, b20, _, rfl, ?_⟩
      rw [not_below Lp Fr.pos hb Fr.eq htb (TD.sol.row j hj)]
      exact iteF ⟨_, _, rfl, (sa.trans sac).trans scd⟩
    rintro σ H9 ⟨x5, x9, rfl, s89⟩
    -- against every row
    have M9 := M8.same s89
    refine ⟨.ref q, rfl, q, rfl, ⟨_, SqL.of M9.top⟩, ?_⟩
    refine for_it (walk_list (K := K) (a := q) (xs := rl m fun i => .ref (qs i))) (fun i σ H' => ∃ x5 : Option V, σ = [some (.ref a), some (.ref dq), some (.int (m : Int)), some (.int (n : Int)), some (.ref q), x5, some (.ref D), some (.ref u), some (.ref val), x9, none, none] ∧ Same H8 H')
      ⟨_, rfl, s89⟩ (fun i σ H' _ ⟨_, _, s⟩ => SqL.of (s _ _ M8.top)) ?_ ?_
    · rintro i x σ Hb Ha hi ⟨x5, rfl, sa⟩ ⟨rfl, ex⟩
      rw [rl_len] at hi
      obtain rfl := rl_at ex hi
      have s5a := s58.trans sa
      have Ma := M8.same sa
      refine ⟨.ref val, rfl, .ref u, rfl, u, _, 2, _, rfl, rfl, SqT.of (s5a _ _ TD.tup), three2 _ _ _, .ref (qs i), rfl, cm, qs i, cs, n, dd, A i, L, rfl, s5a _ _ TD.cl, Ma.row i hi, hn6, fun j hj => (TD.cr j hj).same s5a, fun j hj => hA i j hi hj, fun Hd w num den scd Fr => ?_⟩
      refine ⟨val, w, t, b, num, den, rfl, scd _ _ (sa _ _ ewal), Fr.at_, t20, b20, Fr.n1, Fr.n2, _, rfl, ?_⟩
      rw [not_above Lp Fr.pos hb Fr.eq htb (TD.sol.col i hi)]
      exact iteF ⟨_, rfl, sa.trans scd⟩
    rintro σ HA ⟨x5', rfl, s8A⟩
    have MA := M8.same s8A
    -- turned over
    refine ⟨.int (n : Int), rfl, (n : Int), rfl, by omega, by omega, fun D2 nD2 => ?_⟩
    refine lc_rows (walk_range (lo := 0) (n := n)) m (fun j i => - A i j) nD2 (small_le (by omega)) (fun _ _ => trivial) ?_ ?_
    · rintro j x Hc Hb hj sb ⟨rfl, rfl⟩ RR Rf kk
      have ej : (0 : Int) + (j : Int) = (j : Int) := by omega
      have Mb := MA.same sb
      show gName 9 (V.int ((0 : Int) + (j : Int))) _ _ _
      rw [ej]
      refine ⟨rfl, yes ⟨.ref q, rfl, q, rfl, ⟨_, SqL.of Mb.top⟩, fun r nr => ?_⟩⟩
      refine lc_val (walk_list (K := K) (a := q) (xs := rl m fun i => .ref (qs i))) (fun i => .int (- A i j)) nr (by rw [rl_len]; exact small_le (by omega)) (fun Hc sc => SqL.of (sc _ _ Mb.top)) ?_ ?_
      · rintro i x Hd Hc hi sc ⟨rfl, ex⟩ RR Rf kk
        rw [rl_len] at hi
        obtain rfl := rl_at ex hi
        exact ⟨rfl, yes ⟨.ref (qs i), rfl, .int (j : Int), rfl, qs i, _, _, _, rfl, rfl, SqL.of (sc _ _ (Mb.row i hi)), atI_rl hj, A i j, rfl, kk _ (Same.refl _)⟩⟩
      intro Hc sbc er
      rw [rl_len] at er
      exact kk r Hc nr sbc er
    intro HB ts NB _ _
    refine ⟨D2, ts, n, m, fun j i => - A i j, rfl, NB.mat, hn, hm, hn6, hm6, fun j i hj hi => (by show (- A i j).natAbs < 2 ^ 205; rw [Int.natAbs_neg]; exact hA i j hi hj), fun HC u' v' rm' cm' rs' cs' L' vn' c' d' sBC TD' => ?_⟩
    obtain ⟨t', b', hv', hb', hbl', htl', htb'⟩ := TD'.val
    have s8C := (s8A.trans NB.same).trans sBC
    have ew := s8C _ _ ewal
    refine ⟨_, rfl, _, _, _, _, true, rfl, .ty _, .base (.tup TD'.tup), by rfl, true, rfl, iteF ?_⟩
    refine ⟨.ref u', rfl, u', _, rfl, .inr (SqT.of TD'.tup), rfl, _, rfl, iteNS rfl ?_⟩
    refine ⟨.ref u', rfl, u', _, 0, _, rfl, rfl, SqT.of TD'.tup, three0 _ _ _, .ref val, rfl, val, _, 0, _, rfl, rfl, SqT.of ew, two0 _ _, t, rfl, .ref val, rfl, val, _, 1, _, rfl, rfl, SqT.of ew, two1 _ _,
      v', t', b', -t, b, rfl, hv', hb', htl', hbl', (by rw [Int.natAbs_neg]; exact htl), hbl, turn_eq Lp TD'.sol.Lp htb htb' (TD.sol.turned TD'.sol), k _⟩
end
end K53
namespace K53
open PySem PySem.Spec PyProof.Rows L2
/-- a def as k_is finds it -/
structure Found (K : PySem.W.Frag) (x : Str) (st : Stmt) (f : Addr) (oc kV dc pm cd ct : Value) (od an : Option Addr) (sl : Array (Option Value)) : Prop where
  l : K.lookup f = some ⟨oc, od, .func (PySem.W.fnOf x x (defArgs st) (defBody st) (defScope st) .none kV dc pm an cd ct), sl⟩
  c : PySem.W.codeIn K cd x = true
  k : PySem.W.keepIn K (.ref f) = true
theorem Found.fn {K : PySem.W.Frag} {x : Str} {st : Stmt} {f : Addr} {oc kV dc pm cd ct : Value} {od an : Option Addr} {sl : Array (Option Value)} (h : Found K x st f oc kV dc pm cd ct od an sl) :
    FnP K x st f (PySem.W.fnOf x x (defArgs st) (defBody st) (defScope st) .none kV dc pm an cd ct) :=
  ⟨⟨oc, od, .none, kV, dc, pm, an, cd, ct, sl, rfl, h.l, h.c, .inl ⟨rfl, rfl⟩, .inl rfl⟩, h.k⟩
theorem kit_self {K : PySem.W.Frag} (t : Value) : PySem.W.kitOne K t t = some true := by
  unfold PySem.W.kitOne
  rw [if_pos (beq_self_eq_true t)]

theorem all_mk {l : PySem.W.OpenLaw} {w : World} {K : PySem.W.Frag} {h : Heap} {mg : Str → Option Value} {fa C f1 fS fR T : Addr} {fo ro : Option Value} (X : K.In h) (G : h.Ns mainGlobals mg) (hfa : mg "law" = some (.ref fa))
    {od1 an1 odS anS odT : Option Addr} {sl1 slS slT : Array (Option Value)} {oc1 kV1 dc1 pm1 cd1 ct1 ocS kVS dcS pmS cdS ctS ocT : Value} {nT : Nat} {tT : Tok}
    {fCh : Addr} {ocCh kVCh dcCh pmCh cdCh ctCh : Value} {odCh anCh : Option Addr} {slCh : Array (Option Value)}
    {fEn : Addr} {ocEn kVEn dcEn pmEn cdEn ctEn : Value} {odEn anEn : Option Addr} {slEn : Array (Option Value)}
    {fLe : Addr} {ocLe kVLe dcLe pmLe cdLe ctLe : Value} {odLe anLe : Option Addr} {slLe : Array (Option Value)}
    {fPi : Addr} {ocPi kVPi dcPi pmPi cdPi ctPi : Value} {odPi anPi : Option Addr} {slPi : Array (Option Value)}
    {fSo : Addr} {ocSo kVSo dcSo pmSo cdSo ctSo : Value} {odSo anSo : Option Addr} {slSo : Array (Option Value)}
    {fCe : Addr} {ocCe kVCe dcCe pmCe cdCe ctCe : Value} {odCe anCe : Option Addr} {slCe : Array (Option Value)}
    {fDr : Addr} {ocDr kVDr dcDr pmDr cdDr ctDr : Value} {odDr anDr : Option Addr} {slDr : Array (Option Value)}
    {fGa : Addr} {ocGa kVGa dcGa pmGa cdGa ctGa : Value} {odGa anGa : Option Addr} {slGa : Array (Option Value)}
    {fIi : Addr} {ocIi kVIi dcIi pmIi cdIi ctIi : Value} {odIi anIi : Option Addr} {slIi : Array (Option Value)}
    {fRa : Addr} {ocRa kVRa dcRa pmRa cdRa ctRa : Value} {odRa anRa : Option Addr} {slRa : Array (Option Value)}
    {fSa : Addr} {ocSa kVSa dcSa pmSa cdSa ctSa : Value} {odSa anSa : Option Addr} {slSa : Array (Option Value)}
    {fPl : Addr} {ocPl kVPl dcPl pmPl cdPl ctPl : Value} {odPl anPl : Option Addr} {slPl : Array (Option Value)}
    {fBe : Addr} {ocBe kVBe dcBe pmBe cdBe ctBe : Value} {odBe anBe : Option Addr} {slBe : Array (Option Value)}
    {fMi : Addr} {ocMi kVMi dcMi pmMi cdMi ctMi : Value} {odMi anMi : Option Addr} {slMi : Array (Option Value)}
    {fAl : Addr} {ocAl kVAl dcAl pmAl cdAl ctAl : Value} {odAl anAl : Option Addr} {slAl : Array (Option Value)}
    {fMe : Addr} {ocMe kVMe dcMe pmMe cdMe ctMe : Value} {odMe anMe : Option Addr} {slMe : Array (Option Value)}
    {fLa : Addr} {ocLa kVLa dcLa pmLa cdLa ctLa : Value} {odLa anLa : Option Addr} {slLa : Array (Option Value)}
    (aC : PySem.W.nsIn K mainGlobals "Ratio" = some (some (.ref C)))
    (a1 : PySem.W.findIn K (.ref C) "__init__" = some (some (.ref f1))) (i1 : PySem.W.isFn K (.ref f1) = true) (l1 : K.lookup f1 = some ⟨oc1, od1, .func (PySem.W.fnOf "__init__" "Ratio.__init__" (defArgs sRInit) (defBody sRInit) (defScope sRInit) (.ref T) kV1 dc1 pm1 an1 cd1 ct1), sl1⟩) (c1 : PySem.W.codeIn K cd1 "Ratio.__init__" = true) (k1 : PySem.W.keepIn K (.ref f1) = true)
    (lT : K.lookup T = some ⟨ocT, odT, .seq #[.int 1 tT] nT, slT⟩)
    (aS : PySem.W.findIn K (.ref C) "__sub__" = some (some (.ref fS))) (iS : PySem.W.isFn K (.ref fS) = true) (lS : K.lookup fS = some ⟨ocS, odS, .func (PySem.W.fnOf "__sub__" "Ratio.__sub__" (defArgs sRSub) (defBody sRSub) (defScope sRSub) .none kVS dcS pmS anS cdS ctS), slS⟩) (cS : PySem.W.codeIn K cdS "Ratio.__sub__" = true) (kS : PySem.W.keepIn K (.ref fS) = true)
    (aR : PySem.W.findIn K (.ref C) "__rsub__" = some (some (.ref fR)))
    (pg : PySem.W.plainGet K C Str.empty = true) (hd : PySem.W.hasDictIn K C = true) (po : PySem.W.plainOver K C = true) (sa : PySem.W.findIn K (.ref C) "__setattr__" = some (some (.builtin "object.__setattr__"))) (mk : PySem.W.makesIn K C = true) (kc : PySem.W.keepIn K (.ref C) = true)
    (nT : PySem.W.findIn K (.ref C) "top" = some none) (nB : PySem.W.findIn K (.ref C) "bottom" = some none)
    (gcd : PySem.W.nsIn K mainGlobals "gcd" = some (some (.builtin "math.gcd")))
    (isb : PySem.W.findIn K (.type "int") "__sub__" = some fo) (irs : PySem.W.findIn K (.type "int") "__rsub__" = some ro) (isu : PySem.W.subIn K (.type "int") (.ref C) = some false) (fst : PySem.W.selfFirst K C = true)
    (ca : PySem.W.findIn K (.ref C) "__class__" = some (some (.builtin "object.__class__"))) (cn : PySem.W.specialIn K (.builtin "object.__class__") "__get__" = some (some (.builtin "getset_descriptor.__get__"))) (ct : PySem.W.takesIn K (.builtin "object.__class__") = some true) (cm : PySem.W.mroIn K C (.type "object") = some true)
    (z_len : PySem.W.nsIn K mainGlobals "len" = some none)
    (z_int : PySem.W.nsIn K mainGlobals "int" = some none)
    (z_range : PySem.W.nsIn K mainGlobals "range" = some none)
    (z_enumerate : PySem.W.nsIn K mainGlobals "enumerate" = some none)
    (z_zip : PySem.W.nsIn K mainGlobals "zip" = some none)
    (z_min : PySem.W.nsIn K mainGlobals "min" = some none)
    (z_list : PySem.W.nsIn K mainGlobals "list" = some none)
    (z_isinstance : PySem.W.nsIn K mainGlobals "isinstance" = some none)
    (z_bool : PySem.W.nsIn K mainGlobals "bool" = some none)
    (z_tuple : PySem.W.nsIn K mainGlobals "tuple" = some none)
    (aCh : PySem.W.nsIn K mainGlobals "check_game" = some (some (.ref fCh)))
    (lCh : K.lookup fCh = some ⟨ocCh, odCh, .func (PySem.W.fnOf "check_game" "check_game" (defArgs sCheck) (defBody sCheck) (defScope sCheck) .none kVCh dcCh pmCh anCh cdCh ctCh), slCh⟩)
    (cCh : PySem.W.codeIn K cdCh "check_game" = true) (kCh : PySem.W.keepIn K (.ref fCh) = true)
    (aEn : PySem.W.nsIn K mainGlobals "entering_column" = some (some (.ref fEn)))
    (lEn : K.lookup fEn = some ⟨ocEn, odEn, .func (PySem.W.fnOf "entering_column" "entering_column" (defArgs sEnter) (defBody sEnter) (defScope sEnter) .none kVEn dcEn pmEn anEn cdEn ctEn), slEn⟩)
    (cEn : PySem.W.codeIn K cdEn "entering_column" = true) (kEn : PySem.W.keepIn K (.ref fEn) = true)
    (aLe : PySem.W.nsIn K mainGlobals "leaving_row" = some (some (.ref fLe)))
    (lLe : K.lookup fLe = some ⟨ocLe, odLe, .func (PySem.W.fnOf "leaving_row" "leaving_row" (defArgs sLeave) (defBody sLeave) (defScope sLeave) .none kVLe dcLe pmLe anLe cdLe ctLe), slLe⟩)
    (cLe : PySem.W.codeIn K cdLe "leaving_row" = true) (kLe : PySem.W.keepIn K (.ref fLe) = true)
    (aPi : PySem.W.nsIn K mainGlobals "pivoted" = some (some (.ref fPi)))
    (lPi : K.lookup fPi = some ⟨ocPi, odPi, .func (PySem.W.fnOf "pivoted" "pivoted" (defArgs sPivoted) (defBody sPivoted) (defScope sPivoted) .none kVPi dcPi pmPi anPi cdPi ctPi), slPi⟩)
    (cPi : PySem.W.codeIn K cdPi "pivoted" = true) (kPi : PySem.W.keepIn K (.ref fPi) = true)
    (aSo : PySem.W.nsIn K mainGlobals "solve_game" = some (some (.ref fSo)))
    (lSo : K.lookup fSo = some ⟨ocSo, odSo, .func (PySem.W.fnOf "solve_game" "solve_game" (defArgs sSolve) (defBody sSolve) (defScope sSolve) .none kVSo dcSo pmSo anSo cdSo ctSo), slSo⟩)
    (cSo : PySem.W.codeIn K cdSo "solve_game" = true) (kSo : PySem.W.keepIn K (.ref fSo) = true)
    (aCe : PySem.W.nsIn K mainGlobals "_law_cell" = some (some (.ref fCe)))
    (lCe : K.lookup fCe = some ⟨ocCe, odCe, .func (PySem.W.fnOf "_law_cell" "_law_cell" (defArgs sCell) (defBody sCell) (defScope sCell) .none kVCe dcCe pmCe anCe cdCe ctCe), slCe⟩)
    (cCe : PySem.W.codeIn K cdCe "_law_cell" = true) (kCe : PySem.W.keepIn K (.ref fCe) = true)
    (aDr : PySem.W.nsIn K mainGlobals "_law_draws" = some (some (.ref fDr)))
    (lDr : K.lookup fDr = some ⟨ocDr, odDr, .func (PySem.W.fnOf "_law_draws" "_law_draws" (defArgs sDraws) (defBody sDraws) (defScope sDraws) .none kVDr dcDr pmDr anDr cdDr ctDr), slDr⟩)
    (cDr : PySem.W.codeIn K cdDr "_law_draws" = true) (kDr : PySem.W.keepIn K (.ref fDr) = true)
    (aGa : PySem.W.nsIn K mainGlobals "_law_game" = some (some (.ref fGa)))
    (lGa : K.lookup fGa = some ⟨ocGa, odGa, .func (PySem.W.fnOf "_law_game" "_law_game" (defArgs sGame) (defBody sGame) (defScope sGame) .none kVGa dcGa pmGa anGa cdGa ctGa), slGa⟩)
    (cGa : PySem.W.codeIn K cdGa "_law_game" = true) (kGa : PySem.W.keepIn K (.ref fGa) = true)
    (aIi : PySem.W.nsIn K mainGlobals "_law_is_int" = some (some (.ref fIi)))
    (lIi : K.lookup fIi = some ⟨ocIi, odIi, .func (PySem.W.fnOf "_law_is_int" "_law_is_int" (defArgs sIsInt) (defBody sIsInt) (defScope sIsInt) .none kVIi dcIi pmIi anIi cdIi ctIi), slIi⟩)
    (cIi : PySem.W.codeIn K cdIi "_law_is_int" = true) (kIi : PySem.W.keepIn K (.ref fIi) = true)
    (aRa : PySem.W.nsIn K mainGlobals "_law_is_ratio" = some (some (.ref fRa)))
    (lRa : K.lookup fRa = some ⟨ocRa, odRa, .func (PySem.W.fnOf "_law_is_ratio" "_law_is_ratio" (defArgs sIsRatio) (defBody sIsRatio) (defScope sIsRatio) .none kVRa dcRa pmRa anRa cdRa ctRa), slRa⟩)
    (cRa : PySem.W.codeIn K cdRa "_law_is_ratio" = true) (kRa : PySem.W.keepIn K (.ref fRa) = true)
    (aSa : PySem.W.nsIn K mainGlobals "_law_same" = some (some (.ref fSa)))
    (lSa : K.lookup fSa = some ⟨ocSa, odSa, .func (PySem.W.fnOf "_law_same" "_law_same" (defArgs sSame) (defBody sSame) (defScope sSame) .none kVSa dcSa pmSa anSa cdSa ctSa), slSa⟩)
    (cSa : PySem.W.codeIn K cdSa "_law_same" = true) (kSa : PySem.W.keepIn K (.ref fSa) = true)
    (aPl : PySem.W.nsIn K mainGlobals "_law_plus" = some (some (.ref fPl)))
    (lPl : K.lookup fPl = some ⟨ocPl, odPl, .func (PySem.W.fnOf "_law_plus" "_law_plus" (defArgs sPlus) (defBody sPlus) (defScope sPlus) .none kVPl dcPl pmPl anPl cdPl ctPl), slPl⟩)
    (cPl : PySem.W.codeIn K cdPl "_law_plus" = true) (kPl : PySem.W.keepIn K (.ref fPl) = true)
    (aBe : PySem.W.nsIn K mainGlobals "_law_below" = some (some (.ref fBe)))
    (lBe : K.lookup fBe = some ⟨ocBe, odBe, .func (PySem.W.fnOf "_law_below" "_law_below" (defArgs sBelow) (defBody sBelow) (defScope sBelow) .none kVBe dcBe pmBe anBe cdBe ctBe), slBe⟩)
    (cBe : PySem.W.codeIn K cdBe "_law_below" = true) (kBe : PySem.W.keepIn K (.ref fBe) = true)
    (aMi : PySem.W.nsIn K mainGlobals "_law_is_mix" = some (some (.ref fMi)))
    (lMi : K.lookup fMi = some ⟨ocMi, odMi, .func (PySem.W.fnOf "_law_is_mix" "_law_is_mix" (defArgs sIsMix) (defBody sIsMix) (defScope sIsMix) .none kVMi dcMi pmMi anMi cdMi ctMi), slMi⟩)
    (cMi : PySem.W.codeIn K cdMi "_law_is_mix" = true) (kMi : PySem.W.keepIn K (.ref fMi) = true)
    (aAl : PySem.W.nsIn K mainGlobals "_law_alike" = some (some (.ref fAl)))
    (lAl : K.lookup fAl = some ⟨ocAl, odAl, .func (PySem.W.fnOf "_law_alike" "_law_alike" (defArgs sAlike) (defBody sAlike) (defScope sAlike) .none kVAl dcAl pmAl anAl cdAl ctAl), slAl⟩)
    (cAl : PySem.W.codeIn K cdAl "_law_alike" = true) (kAl : PySem.W.keepIn K (.ref fAl) = true)
    (aMe : PySem.W.nsIn K mainGlobals "_law_mean" = some (some (.ref fMe)))
    (lMe : K.lookup fMe = some ⟨ocMe, odMe, .func (PySem.W.fnOf "_law_mean" "_law_mean" (defArgs sMean) (defBody sMean) (defScope sMean) .none kVMe dcMe pmMe anMe cdMe ctMe), slMe⟩)
    (cMe : PySem.W.codeIn K cdMe "_law_mean" = true) (kMe : PySem.W.keepIn K (.ref fMe) = true)
    (aLa : PySem.W.nsIn K mainGlobals "law" = some (some (.ref fLa)))
    (lLa : K.lookup fLa = some ⟨ocLa, odLa, .func (PySem.W.fnOf "law" "law" (defArgs sLaw) (defBody sLaw) (defScope sLaw) .none kVLa dcLa pmLa anLa cdLa ctLa), slLa⟩)
    (cLa : PySem.W.codeIn K cdLa "law" = true) (kLa : PySem.W.keepIn K (.ref fLa) = true)
    : ∃ fd : FuncData, (∀ (s : Shared) (v : Value), BindsTo s fd ⟨[v], []⟩ [("_law_script", v)]) ∧ ∀ base : Heap, K.In base → base.Ns mainGlobals mg → FnOk l.prog w K mg base CX0 5 fa fd ["_law_script"] (spLaw K) := by
  have e := hfa.symm.trans (PySem.W.mg_of X G aLa)
  cases e
  have T0 : Txt K mg C f1 fS := ⟨⟨pg, hd, po, sa⟩, nT, nB, PySem.W.mg_of X G aC, ⟨mk, a1, i1, kc⟩, PySem.W.mg_of X G gcd, PySem.W.mg_none_of X G z_len, PySem.W.mg_none_of X G z_int, PySem.W.mg_none_of X G z_range, PySem.W.mg_none_of X G z_enumerate, PySem.W.mg_none_of X G z_zip, PySem.W.mg_none_of X G z_min, PySem.W.mg_none_of X G z_list, PySem.W.mg_none_of X G z_isinstance, PySem.W.mg_none_of X G z_bool, PySem.W.mg_none_of X G z_tuple, aS, iS, ⟨fR, aR⟩, ⟨fo, isb⟩, ⟨ro, irs⟩, isu, fst, ca, cn, ct, cm, kit_self _⟩
  have FI : FnRI K f1 _ := ⟨⟨oc1, od1, .ref T, kV1, dc1, pm1, an1, cd1, ct1, sl1, rfl, l1, c1, .inr ⟨List.cons_ne_nil _ _, T, _, [.int 1 tT], _, rfl, lT, rfl, .cons ⟨_, rfl⟩ .nil⟩, .inl rfl⟩, k1⟩
  have FS : FnRS K fS _ := ⟨⟨ocS, odS, .none, kVS, dcS, pmS, anS, cdS, ctS, slS, rfl, lS, cS, .inl ⟨rfl, rfl⟩, .inl rfl⟩, kS⟩
  have FCh := (Found.mk lCh cCh kCh).fn
  have FEn := (Found.mk lEn cEn kEn).fn
  have FLe := (Found.mk lLe cLe kLe).fn
  have FPi := (Found.mk lPi cPi kPi).fn
  have FSo := (Found.mk lSo cSo kSo).fn
  have FCe := (Found.mk lCe cCe kCe).fn
  have FDr := (Found.mk lDr cDr kDr).fn
  have FGa := (Found.mk lGa cGa kGa).fn
  have FIi := (Found.mk lIi cIi kIi).fn
  have FRa := (Found.mk lRa cRa kRa).fn
  have FSa := (Found.mk lSa cSa kSa).fn
  have FPl := (Found.mk lPl cPl kPl).fn
  have FBe := (Found.mk lBe cBe kBe).fn
  have FMi := (Found.mk lMi cMi kMi).fn
  have FAl := (Found.mk lAl cAl kAl).fn
  have FMe := (Found.mk lMe cMe kMe).fn
  have FLa := (Found.mk lLa cLa kLa).fn
  have gCh := PySem.W.mg_of X G aCh
  have gEn := PySem.W.mg_of X G aEn
  have gLe := PySem.W.mg_of X G aLe
  have gPi := PySem.W.mg_of X G aPi
  have gSo := PySem.W.mg_of X G aSo
  have gCe := PySem.W.mg_of X G aCe
  have gDr := PySem.W.mg_of X G aDr
  have gGa := PySem.W.mg_of X G aGa
  have gIi := PySem.W.mg_of X G aIi
  have gRa := PySem.W.mg_of X G aRa
  have gSa := PySem.W.mg_of X G aSa
  have gPl := PySem.W.mg_of X G aPl
  have gBe := PySem.W.mg_of X G aBe
  have gMi := PySem.W.mg_of X G aMi
  have gAl := PySem.W.mg_of X G aAl
  have gMe := PySem.W.mg_of X G aMe
  have gLa := PySem.W.mg_of X G aLa
  have bSo := FSo.bindsN (ps := ["rows"]) fun _ _ _ _ _ _ us hl => match us, hl with | [_], _ => rfl
  have bCe := FCe.bindsN (ps := ["_law_script", "_law_place"]) fun _ _ _ _ _ _ us hl => match us, hl with | [_, _], _ => rfl
  have bDr := FDr.bindsN (ps := ["_law_cell_here", "_law_sizes"]) fun _ _ _ _ _ _ us hl => match us, hl with | [_, _], _ => rfl
  have bGa := FGa.bindsN (ps := ["_law_cell_here", "_law_many", "_law_wide"]) fun _ _ _ _ _ _ us hl => match us, hl with | [_, _, _], _ => rfl
  have bAl := FAl.bindsN (ps := ["_law_rows", "_law_way", "_law_one", "_law_other"]) fun _ _ _ _ _ _ us hl => match us, hl with | [_, _, _, _], _ => rfl
  have bRa := FRa.bindsN (ps := ["_law_x"]) fun _ _ _ _ _ _ us hl => match us, hl with | [_], _ => rfl
  have bMi := FMi.bindsN (ps := ["_law_x", "_law_many"]) fun _ _ _ _ _ _ us hl => match us, hl with | [_, _], _ => rfl
  have bBe := FBe.bindsN (ps := ["_law_a", "_law_b"]) fun _ _ _ _ _ _ us hl => match us, hl with | [_, _], _ => rfl
  have bMe := FMe.bindsN (ps := ["_law_mix", "_law_numbers"]) fun _ _ _ _ _ _ us hl => match us, hl with | [_, _], _ => rfl
  have bSa := FSa.bindsN (ps := ["_law_x", "_law_top", "_law_bottom"]) fun _ _ _ _ _ _ us hl => match us, hl with | [_, _, _], _ => rfl
  have SF : SolveFns K mg f1 fS fCh fEn fLe fPi _ _ _ _ _ _ := ⟨FI, FS, FCh, FEn, FLe, FPi, gCh, gEn, gLe, gPi⟩
  refine ⟨_, fun s v => FunD.bindsA (ps := ["_law_script"]) FLa (fun _ _ _ _ _ _ us hl => match us, hl with | [_], _ => rfl) s [v] rfl, fun base _ _ => ?_⟩
  exact ok_law FLa T0 ⟨⟨ok_cell FCe T0, gCe, kCe, bCe⟩, ⟨ok_draws FDr T0, gDr, kDr, bDr⟩, ⟨ok_game FGa T0 FDr gDr, gGa, kGa, bGa⟩, ⟨ok_alike FAl T0, gAl, kAl, bAl⟩, ⟨ok_solve FSo T0 SF, gSo, kSo, bSo⟩, ⟨ok_isratio FRa T0 FIi gIi, gRa, kRa, bRa⟩,
    ⟨ok_mix FMi T0 FIi gIi FRa gRa FPl gPl, gMi, kMi, bMi⟩, ⟨ok_below FBe, gBe, kBe, bBe⟩, ⟨ok_mean FMe T0 FPl gPl, gMe, kMe, bMe⟩, ⟨ok_same FSa T0 FIi gIi, gSa, kSa, bSa⟩⟩
theorem walk {l : PySem.W.OpenLaw} {q : Program} {loose : List Str} {XP : (Str → Option Value) → Heap → Prop} {YP : World → Heap → Prop} {d : DefRec} {K : Params → PySem.W.Frag} (hn : l.most = some 63) (hdf : d.params.defaults = [])
    (hY : ∀ (w : World) (h : Heap), YP w h → (K w.params).In h)
    (F : ∀ (w : World) (mg : Str → Option Value) (fa : Addr) (h : Heap), (K w.params).In h → h.Ns mainGlobals mg → mg d.name = some (.ref fa) →
      ∃ fd : FuncData, (∀ (s : Shared) (u : Value), BindsTo s fd ⟨[u], []⟩ [("_law_script", u)]) ∧ ∀ base : Heap, (K w.params).In base → base.Ns mainGlobals mg → FnOk l.prog w (K w.params) mg base CX0 5 fa fd ["_law_script"] (spLaw (K w.params))) :
    PySem.W.WalkO q loose XP YP l.row.toRowW d [] (fun f vs => PySem.call f vs) :=
  L2.walk_of (n := 63) (k := 5) (x := "_law_script") (CX := fun _ => CX0) (sp := fun w => spLaw (K w.params)) hn (by decide) hdf ⟨rfl, by decide, by decide⟩ hY F (fun _ _ a ns hl _ hS => ⟨a, ns, rfl, hS, hl, fun _ => rfl⟩) fun _ _ _ _ _ z => z
end K53
open PySem PySem.W PyProof.Rows
set_option maxRecDepth 100000 in
set_option maxHeartbeats 0 in
theorem PySem.Challenge.cw_dearestshelf_k53_whole_game_holds : PySem.Challenge.rw_dearestshelf_k53_whole_game.Holds := by
  w_on; o_law; k_head; (case hw => w_witness2)
  k_fill
  refine K53.walk (l := PySem.Challenge.rw_dearestshelf_k53_whole_game) rfl rfl (fun w h Y => PySem.W.kIn_of Y) ?F
  case F =>
    intro w mg fa h KX G hmg
    refine' K53.all_mk KX G hmg ?aC ?a1 ?i1 ?l1 ?c1 ?k1 ?lT ?aS ?iS ?lS ?cS ?kS ?aR ?pg ?hd ?po ?sa ?mk ?kc ?nT ?nB ?gcd ?isb ?irs ?isu ?fst ?ca ?cn ?ct ?cm ?z_len ?z_int ?z_range ?z_enumerate ?z_zip ?z_min ?z_list ?z_isinstance ?z_bool ?z_tuple ?aCh ?lCh ?cCh ?kCh ?aEn ?lEn ?cEn ?kEn ?aLe ?lLe ?cLe ?kLe ?aPi ?lPi ?cPi ?kPi ?aSo ?lSo ?cSo ?kSo ?aCe ?lCe ?cCe ?kCe ?aDr ?lDr ?cDr ?kDr ?aGa ?lGa ?cGa ?kGa ?aIi ?lIi ?cIi ?kIi ?aRa ?lRa ?cRa ?kRa ?aSa ?lSa ?cSa ?kSa ?aPl ?lPl ?cPl ?kPl ?aBe ?lBe ?cBe ?kBe ?aMi ?lMi ?cMi ?kMi ?aAl ?lAl ?cAl ?kAl ?aMe ?lMe ?cMe ?kMe ?aLa ?lLa ?cLa ?kLa
    (case aC => k_is)
    (case a1 => k_is)
    (case i1 => k_is)
    (case l1 => k_is)
    (case c1 => k_is)
    (case k1 => k_is)
    (case lT => k_is)
    (case aS => k_is)
    (case iS => k_is)
    (case lS => k_is)
    (case cS => k_is)
    (case kS => k_is)
    (case aR => k_is)
    (case pg => k_is)
    (case hd => k_is)
    (case po => k_is)
    (case sa => k_is)
    (case mk => k_is)
    (case kc => k_is)
    (case nT => k_is)
    (case nB => k_is)
    (case gcd => k_is)
    (case isb => k_is)
    (case irs => k_is)
    (case isu => k_is)
    (case fst => k_is)
    (case ca => k_is)
    (case cn => k_is)
    (case ct => k_is)
    (case cm => k_is)
    (case z_len => k_is)
    (case z_int => k_is)
    (case z_range => k_is)
    (case z_enumerate => k_is)
    (case z_zip => k_is)
    (case z_min => k_is)
    (case z_list => k_is)
    (case z_isinstance => k_is)
    (case z_bool => k_is)
    (case z_tuple => k_is)
    (case aCh => k_is)
    (case lCh => k_is)
    (case cCh => k_is)
    (case kCh => k_is)
    (case aEn => k_is)
    (case lEn => k_is)
    (case cEn => k_is)
    (case kEn => k_is)
    (case aLe => k_is)
    (case lLe => k_is)
    (case cLe => k_is)
    (case kLe => k_is)
    (case aPi => k_is)
    (case lPi => k_is)
    (case cPi => k_is)
    (case kPi => k_is)
    (case aSo => k_is)
    (case lSo => k_is)
    (case cSo => k_is)
    (case kSo => k_is)
    (case aCe => k_is)
    (case lCe => k_is)
    (case cCe => k_is)
    (case kCe => k_is)
    (case aDr => k_is)
    (case lDr => k_is)
    (case cDr => k_is)
    (case kDr => k_is)
    (case aGa => k_is)
    (case lGa => k_is)
    (case cGa => k_is)
    (case kGa => k_is)
    (case aIi => k_is)
    (case lIi => k_is)
    (case cIi => k_is)
    (case kIi => k_is)
    (case aRa => k_is)
    (case lRa => k_is)
    (case cRa => k_is)
    (case kRa => k_is)
    (case aSa => k_is)
    (case lSa => k_is)
    (case cSa => k_is)
    (case kSa => k_is)
    (case aPl => k_is)
    (case lPl => k_is)
    (case cPl => k_is)
    (case kPl => k_is)
    (case aBe => k_is)
    (case lBe => k_is)
    (case cBe => k_is)
    (case kBe => k_is)
    (case aMi => k_is)
    (case lMi => k_is)
    (case cMi => k_is)
    (case kMi => k_is)
    (case aAl => k_is)
    (case lAl => k_is)
    (case cAl => k_is)
    (case kAl => k_is)
    (case aMe => k_is)
    (case lMe => k_is)
    (case cMe => k_is)
    (case kMe => k_is)
    (case aLa => k_is)
    (case lLa => k_is)
    (case cLa => k_is)
    (case kLa => k_is)
