import PyProof.Rows.All
import Wide.All
import OpenK.AllK
import Wide.FinOn
import HandS.ForMost
import HandS.ForExc
import HandS.EndBits
import HandS.IsInst
import HandS.Conv
import HandS.WideBits
import HandS.RevRange
import HandS.Walk
import HandS.Style
import HandS.StrMore
import HandS.Codes
import HandS.TupLe
import KE.IntBitsLaws
import KE.DatumOrd
import KE.KDictKeyed
import KE.KDictLaw
import HandS.ExcIs
import HandS.HotCalls
import PySem.Challenge.RW_foldcurve_k04_whole_turns
set_option Elab.async false
set_option linter.all false

set_option linter.all false
/-! Foldcurve: the mathematics, in plain Lean. -/
namespace Fc
/-! ### parts and creases -/
/-- how often 2 goes into n (0 for 0) -/
def pt (n : Nat) : Nat := if h : n % 2 = 0 ∧ n ≠ 0 then pt (n / 2) + 1 else 0
termination_by n
decreasing_by omega

theorem pt_odd {n : Nat} (h : n % 2 = 1) : pt n = 0 := by
  unfold pt
  rw [dif_neg (by omega)]
theorem pt_half {n : Nat} (h : n % 2 = 0) (h0 : 0 < n) : pt n = pt (n / 2) + 1 := by
  rw [pt]
  rw [dif_pos ⟨h, by omega⟩]
theorem pt_even {n : Nat} (h0 : 0 < n) : pt (2 * n) = pt n + 1 := by
  rw [pt_half (by omega) (by omega)]
  rw [show 2 * n / 2 = n by omega]
/-- whether a crease goes its fold's way -/
def al (n : Nat) : Bool := decide (n / 2 ^ pt n % 4 = 1)
theorem al_odd (n : Nat) : al (2 * n + 1) = decide (n % 2 = 0) := by
  unfold al
  rw [pt_odd (by omega), Nat.pow_zero, Nat.div_one]
  by_cases c : n % 2 = 0
  · rw [decide_eq_true c, decide_eq_true (by omega)]
  · rw [decide_eq_false c, decide_eq_false (by omega)]
theorem al_even {n : Nat} (h0 : 0 < n) : al (2 * n) = al n := by
  unfold al
  rw [pt_even h0, Nat.pow_succ, Nat.mul_comm (2 ^ pt n) 2, Nat.mul_div_mul_left _ _ (by omega)]
def cr (f : Nat → Bool) (n : Nat) : Bool := if al n = true then f (pt n) else !f (pt n)
theorem cr_even (f : Nat → Bool) {n : Nat} (h0 : 0 < n) : cr f (2 * n) = cr (fun i => f (i + 1)) n := by
  unfold cr
  rw [al_even h0, pt_even h0]
theorem cr_odd (f : Nat → Bool) (n : Nat) : cr f (2 * n + 1) = if n % 2 = 0 then f 0 else !f 0 := by
  unfold cr
  rw [al_odd, pt_odd (by omega)]
  by_cases c : n % 2 = 0
  · rw [decide_eq_true c, if_pos rfl, if_pos c]
  · rw [decide_eq_false c, if_neg c]
    rfl
/-- induction over a count's halves -/
theorem half_ind {P : Nat → Prop} (h1 : ∀ n, P (2 * n + 1)) (h2 : ∀ n, 0 < n → P n → P (2 * n)) : ∀ n, 0 < n → P n := by
  refine fun n => Nat.strongRecOn n fun n ih h0 => ?_
  by_cases c : n % 2 = 0
  · have e := h2 (n / 2) (by omega) (ih (n / 2) (by omega) (by omega))
    rw [show 2 * (n / 2) = n by omega] at e
    exact e
  · have e := h1 (n / 2)
    rw [show 2 * (n / 2) + 1 = n by omega] at e
    exact e
theorem pt_pow : ∀ n, 0 < n → n = n / 2 ^ pt n * 2 ^ pt n ∧ n / 2 ^ pt n % 2 = 1 := by
  apply half_ind
  · intro n
    rw [pt_odd (by omega), Nat.pow_zero, Nat.div_one, Nat.mul_one]
    omega
  · intro n h0 ⟨e1, e2⟩
    have e3 : 2 * n / 2 ^ pt (2 * n) = n / 2 ^ pt n := by
      rw [pt_even h0, Nat.pow_succ, Nat.mul_comm (2 ^ pt n) 2, Nat.mul_div_mul_left _ _ (by omega)]
    rw [e3]
    refine ⟨?_, e2⟩
    rw [pt_even h0, Nat.pow_succ, ← Nat.mul_assoc, ← e1]
    omega
theorem pt_lt {n k : Nat} (h0 : 0 < n) (h : n < 2 ^ k) : pt n < k := by
  obtain ⟨e1, e2⟩ := pt_pow n h0
  have p : 2 ^ pt n ≤ n := by
    have z : 1 ≤ n / 2 ^ pt n := by
      generalize n / 2 ^ pt n = q at e2
      omega
    calc 2 ^ pt n = 1 * 2 ^ pt n := by omega
      _ ≤ n / 2 ^ pt n * 2 ^ pt n := Nat.mul_le_mul_right _ z
      _ = n := e1.symm
  exact (Nat.pow_lt_pow_iff_right (by omega : 1 < 2)).mp (Nat.lt_of_le_of_lt p h)
theorem cr_congr {f g : Nat → Bool} {n : Nat} (h : f (pt n) = g (pt n)) : cr f n = cr g n := by
  unfold cr
  rw [h]
theorem cr_not (f : Nat → Bool) (n : Nat) : cr (fun i => !f i) n = !cr f n := by
  unfold cr
  cases al n <;> simp
/-! ### folds as a list -/
def fb (bs : List Bool) (i : Nat) : Bool := bs.getD i true
theorem fb_tail (b : Bool) (bs : List Bool) : (fun i => fb (b :: bs) (i + 1)) = fb bs := rfl
theorem fb_at {bs : List Bool} {i : Nat} (h : i < bs.length) : fb bs i = bs[i] := by
  unfold fb
  rw [List.getD_eq_getElem?_getD, List.getElem?_eq_getElem h]
  rfl
/-! ### how many go left -/
def lt1 (b : Bool) (m : Nat) : Nat := if b = true then ((m + 1) / 2 + 1) / 2 else (m + 1) / 2 - ((m + 1) / 2 + 1) / 2
def lf : List Bool → Nat → Nat
  | [], _ => 0
  | b :: bs, m => lt1 b m + lf bs (m / 2)
theorem lf_snoc (b : Bool) : ∀ (as : List Bool) (m : Nat), lf (as ++ [b]) m = lf as m + lt1 b (m / 2 ^ as.length)
  | [], m => by
    show lt1 b m + 0 = 0 + lt1 b (m / 2 ^ 0)
    rw [Nat.pow_zero]
    rw [Nat.div_one]
    omega
  | a :: as, m => by
    show lt1 a m + lf (as ++ [b]) (m / 2) = lt1 a m + lf as (m / 2) + lt1 b (m / 2 ^ (as.length + 1))
    rw [lf_snoc b as (m / 2), Nat.div_div_eq_div_mul, Nat.pow_succ, Nat.mul_comm 2]
    omega
theorem lf_take {bs : List Bool} {i : Nat} (h : i < bs.length) (m : Nat) : lf (bs.take (i + 1)) m = lf (bs.take i) m + lt1 bs[i] (m / 2 ^ i) := by
  have e : bs.take (i + 1) = bs.take i ++ [bs[i]] := by
    rw [List.take_add_one, List.getElem?_eq_getElem h]
    rfl
  rw [e, lf_snoc, List.length_take, Nat.min_eq_left (by omega)]
theorem lf_zero : ∀ bs : List Bool, lf bs 0 = 0
  | [] => rfl
  | b :: bs => by
    show lt1 b 0 + lf bs 0 = 0
    rw [lf_zero bs]
    cases b <;> rfl
theorem lf_step : ∀ (bs : List Bool) (c : Nat), 0 < c → c < 2 ^ bs.length → lf bs c = lf bs (c - 1) + (if cr (fb bs) c = true then 1 else 0)
  | [], c, h0, h1 => by
    simp at h1
    omega
  | b :: bs, c, h0, h1 => by
    have h1' : c < 2 ^ bs.length * 2 := h1
    show lt1 b c + lf bs (c / 2) = lt1 b (c - 1) + lf bs ((c - 1) / 2) + _
    by_cases e : c % 2 = 0
    · obtain ⟨n, rfl⟩ : ∃ n, c = 2 * n := ⟨c / 2, by omega⟩
      have ih := lf_step bs n (by omega) (by omega)
      rw [cr_even _ (by omega), fb_tail, show 2 * n / 2 = n by omega, show (2 * n - 1) / 2 = n - 1 by omega, ih]
      have e1 : lt1 b (2 * n) = lt1 b (2 * n - 1) := by
        unfold lt1
        rw [show (2 * n - 1 + 1) / 2 = n by omega, show (2 * n + 1) / 2 = n by omega]
      omega
    · obtain ⟨n, rfl⟩ : ∃ n, c = 2 * n + 1 := ⟨c / 2, by omega⟩
      rw [cr_odd, show (2 * n + 1) / 2 = n by omega, show (2 * n + 1 - 1) / 2 = n by omega]
      have e0 : fb (b :: bs) 0 = b := rfl
      rw [e0]
      unfold lt1
      rw [show (2 * n + 1 - 1 + 1) / 2 = n by omega, show (2 * n + 1 + 1) / 2 = n + 1 by omega]
      by_cases z : n % 2 = 0
      · rw [if_pos z]
        cases b
        · rw [if_neg (by decide), if_neg (by decide), if_neg (by decide)]
          omega
        · rw [if_pos rfl, if_pos rfl, if_pos rfl]
          omega
      · rw [if_neg z]
        cases b
        · rw [if_neg (by decide), if_neg (by decide), if_pos (by decide)]
          omega
        · rw [if_pos rfl, if_pos rfl, if_neg (by decide)]
          omega
/-! ### turns and places -/
def rot (q : Int) (p : Int × Int) : Int × Int :=
  if q % 4 = 0 then p else if q % 4 = 1 then (-p.2, p.1) else if q % 4 = 2 then (-p.1, -p.2) else (p.2, -p.1)
def ad (p q : Int × Int) : Int × Int := (p.1 + q.1, p.2 + q.2)
theorem rot0 {q : Int} (h : q % 4 = 0) (p : Int × Int) : rot q p = p := by
  unfold rot
  rw [if_pos h]
theorem rot1 {q : Int} (h : q % 4 = 1) (p : Int × Int) : rot q p = (-p.2, p.1) := by
  unfold rot
  rw [if_neg (by omega), if_pos h]
theorem rot2 {q : Int} (h : q % 4 = 2) (p : Int × Int) : rot q p = (-p.1, -p.2) := by
  unfold rot
  rw [if_neg (by omega), if_neg (by omega), if_pos h]
theorem rot3 {q : Int} (h : q % 4 = 3) (p : Int × Int) : rot q p = (p.2, -p.1) := by
  unfold rot
  rw [if_neg (by omega), if_neg (by omega), if_neg (by omega)]
theorem mod4 (q : Int) : q % 4 = 0 ∨ q % 4 = 1 ∨ q % 4 = 2 ∨ q % 4 = 3 := by omega
theorem rot_mod {a b : Int} (h : a % 4 = b % 4) (p : Int × Int) : rot a p = rot b p := by
  unfold rot
  rw [h]
theorem rot_succ (q : Int) (p : Int × Int) : rot (q + 1) p = (-(rot q p).2, (rot q p).1) := by
  rcases mod4 q with h | h | h | h
  · rw [rot0 h, rot1 (by omega)]
  · rw [rot1 h, rot2 (by omega)]
  · rw [rot2 h, rot3 (by omega)]
    simp
  · rw [rot3 h, rot0 (by omega)]
    simp
theorem rot_rot (a b : Int) (p : Int × Int) : rot (a + b) p = rot a (rot b p) := by
  rcases mod4 a with h | h | h | h
  · rw [rot0 h, rot_mod (a := a + b) (b := b) (by omega)]
  · rw [rot1 h, rot_mod (a := a + b) (b := b + 1) (by omega), rot_succ]
  · rw [rot2 h, rot_mod (a := a + b) (b := b + 1 + 1) (by omega), rot_succ, rot_succ]
  · rw [rot3 h, rot_mod (a := a + b) (b := b + 1 + 1 + 1) (by omega), rot_succ, rot_succ, rot_succ]
    simp
theorem rot_ad (a : Int) (p q : Int × Int) : rot a (ad p q) = ad (rot a p) (rot a q) := by
  unfold ad
  rcases mod4 a with h | h | h | h
  · rw [rot0 h, rot0 h, rot0 h]
  · rw [rot1 h, rot1 h, rot1 h]
    simp
    omega
  · rw [rot2 h, rot2 h, rot2 h]
    simp
    omega
  · rw [rot3 h, rot3 h, rot3 h]
    simp
    omega
theorem ad_assoc (p q r : Int × Int) : ad (ad p q) r = ad p (ad q r) := by
  unfold ad
  simp
  omega
theorem rot_zero (q : Int) : rot q (0, 0) = (0, 0) := by
  rcases mod4 q with h | h | h | h
  · rw [rot0 h]
  · rw [rot1 h]; simp
  · rw [rot2 h]; simp
  · rw [rot3 h]; simp
def sg (b : Bool) : Int := if b = true then 1 else -1
theorem sg_not (b : Bool) : sg (!b) = -sg b := by cases b <;> rfl
/-- the heading's quarters, not reduced -/
def hd (f : Nat → Bool) : Nat → Int
  | 0 => 0
  | n + 1 => hd f n + sg (cr f (n + 1))
/-- where the way is -/
def W (f : Nat → Bool) : Nat → Int × Int
  | 0 => (0, 0)
  | n + 1 => ad (W f n) (rot (hd f n) (1, 0))
theorem hd_lf (bs : List Bool) : ∀ n : Nat, n < 2 ^ bs.length → 2 * (lf bs n : Int) - n = hd (fb bs) n
  | 0, _ => by
    rw [lf_zero]
    rfl
  | n + 1, h => by
    have ih := hd_lf bs n (by omega)
    have e := lf_step bs (n + 1) (by omega) h
    show _ = hd (fb bs) n + sg (cr (fb bs) (n + 1))
    rw [← ih, e, show n + 1 - 1 = n by omega]
    unfold sg
    by_cases c : cr (fb bs) (n + 1) = true
    · rw [if_pos c, if_pos c]
      omega
    · rw [if_neg c, if_neg c]
      omega
theorem split {f g : Nat → Bool} (m : Nat) : ∀ k : Nat, (∀ i, 0 < i → i < k → cr f (m + i) = cr g i) → (∀ i, i < k → hd f (m + i) = hd f m + hd g i) ∧ W f (m + k) = ad (W f m) (rot (hd f m) (W g k))
  | 0, _ => by
    refine ⟨fun i hi => absurd hi (by omega), ?_⟩
    show W f m = ad (W f m) (rot (hd f m) (0, 0))
    rw [rot_zero]
    unfold ad
    simp
  | k + 1, h => by
    obtain ⟨h1, h2⟩ := split m k (fun i a b => h i a (by omega))
    have hk : hd f (m + k) = hd f m + hd g k := by
      cases k with
      | zero =>
        show hd f m = hd f m + 0
        omega
      | succ j =>
        show hd f (m + j) + sg (cr f (m + j + 1)) = hd f m + (hd g j + sg (cr g (j + 1)))
        rw [h1 j (by omega), show m + j + 1 = m + (j + 1) by omega, h (j + 1) (by omega) (by omega)]
        omega
    refine ⟨fun i hi => ?_, ?_⟩
    · by_cases e : i = k
      · rw [e]
        exact hk
      · exact h1 i (by omega)
    · show ad (W f (m + k)) (rot (hd f (m + k)) (1, 0)) = ad (W f m) (rot (hd f m) (ad (W g k) (rot (hd g k) (1, 0))))
      rw [h2, hk, rot_ad, rot_rot, ad_assoc]
theorem W_congr {f g : Nat → Bool} {n : Nat} (h : ∀ i, 0 < i → i < n → cr f i = cr g i) : W f n = W g n := by
  have e := (split (f := f) (g := g) 0 n (fun i a b => by rw [Nat.zero_add]; exact h i a b)).2
  rw [Nat.zero_add] at e
  rw [e]
  show ad (0, 0) (rot 0 (W g n)) = W g n
  rw [rot0 (by omega)]
  unfold ad
  simp
theorem hd_congr {f g : Nat → Bool} {n : Nat} (h : ∀ i, 0 < i → i ≤ n → cr f i = cr g i) : hd f n = hd g n := by
  have e := (split (f := f) (g := g) 0 (n + 1) (fun i a b => by rw [Nat.zero_add]; exact h i a (by omega))).1 n (by omega)
  rw [Nat.zero_add] at e
  rw [e]
  show 0 + hd g n = hd g n
  omega
/-! ### whole ways -/
def sw (f : Nat → Bool) (j : Nat) : Nat → Bool := fun i => if i = j then !f i else f i
theorem sw_succ (f : Nat → Bool) (j : Nat) : (fun i => sw f (j + 1) (i + 1)) = sw (fun i => f (i + 1)) j := by
  funext i
  unfold sw
  by_cases e : i = j
  · rw [if_pos (by omega), if_pos e]
  · rw [if_neg (by omega), if_neg e]
theorem cr_mult : ∀ (k : Nat) (f : Nat → Bool) (q i : Nat), 0 < i → i < 2 ^ k → cr f (2 ^ (k + 1) * q + i) = cr f i
  | 0, _, _, i, h0, h1 => by
    rw [Nat.pow_zero] at h1
    omega
  | k + 1, f, q, i, h0, h1 => by
    have e : 2 ^ (k + 1 + 1) * q = 2 * (2 ^ (k + 1) * q) := by
      rw [Nat.pow_succ 2 (k + 1), Nat.mul_comm _ 2, Nat.mul_assoc]
    have e2 : 2 ^ (k + 1) * q = 2 * (2 ^ k * q) := by
      rw [Nat.pow_succ 2 k, Nat.mul_comm _ 2, Nat.mul_assoc]
    rw [Nat.pow_succ] at h1
    by_cases c : i % 2 = 0
    · obtain ⟨j, rfl⟩ : ∃ j, i = 2 * j := ⟨i / 2, by omega⟩
      rw [e, show 2 * (2 ^ (k + 1) * q) + 2 * j = 2 * (2 ^ (k + 1) * q + j) by omega, cr_even _ (by omega), cr_even _ (by omega)]
      exact cr_mult k _ q j (by omega) (by omega)
    · obtain ⟨j, rfl⟩ : ∃ j, i = 2 * j + 1 := ⟨i / 2, by omega⟩
      rw [e, show 2 * (2 ^ (k + 1) * q) + (2 * j + 1) = 2 * (2 ^ (k + 1) * q + j) + 1 by omega, cr_odd, cr_odd]
      rw [show (2 ^ (k + 1) * q + j) % 2 = j % 2 by omega]
theorem cr_half : ∀ (k : Nat) (f : Nat → Bool) (i : Nat), 0 < i → i < 2 ^ k → cr f (2 ^ k + i) = cr (sw f (k - 1)) i
  | 0, _, i, h0, h1 => by
    rw [Nat.pow_zero] at h1
    omega
  | k + 1, f, i, h0, h1 => by
    rw [Nat.pow_succ] at h1
    rw [show k + 1 - 1 = k by omega]
    by_cases c : i % 2 = 0
    · obtain ⟨j, rfl⟩ : ∃ j, i = 2 * j := ⟨i / 2, by omega⟩
      rw [Nat.pow_succ, show 2 ^ k * 2 + 2 * j = 2 * (2 ^ k + j) by omega, cr_even _ (by omega), cr_even _ (by omega)]
      have hk : 0 < k := by
        cases k with
        | zero =>
          rw [Nat.pow_zero] at h1
          omega
        | succ k => omega
      obtain ⟨l, rfl⟩ : ∃ l, k = l + 1 := ⟨k - 1, by omega⟩
      rw [sw_succ]
      have ih := cr_half (l + 1) (fun i => f (i + 1)) j (by omega) (by omega)
      rw [show l + 1 - 1 = l by omega] at ih
      exact ih
    · obtain ⟨j, rfl⟩ : ∃ j, i = 2 * j + 1 := ⟨i / 2, by omega⟩
      rw [Nat.pow_succ, show 2 ^ k * 2 + (2 * j + 1) = 2 * (2 ^ k + j) + 1 by omega, cr_odd, cr_odd]
      cases k with
      | zero =>
        have hj : j = 0 := by omega
        subst hj
        rw [if_neg (by decide), if_pos (by decide)]
        unfold sw
        rw [if_pos rfl]
      | succ k =>
        have e0 : sw f (k + 1) 0 = f 0 := by
          unfold sw
          rw [if_neg (by omega)]
        rw [e0, show (2 ^ (k + 1) + j) % 2 = j % 2 by rw [Nat.pow_succ]; omega]
theorem cr_pow : ∀ (k : Nat) (f : Nat → Bool), cr f (2 ^ k) = f k
  | 0, f => by
    rw [Nat.pow_zero, show 1 = 2 * 0 + 1 by omega, cr_odd, if_pos (by omega)]
  | k + 1, f => by
    have p : 0 < 2 ^ k := Nat.pow_pos (by omega)
    rw [Nat.pow_succ, Nat.mul_comm, cr_even _ p, cr_pow k]
def inner (f : Nat → Bool) (k : Nat) : Int := if k = 0 then 0 else sg (f (k - 1))
theorem hd_pow : ∀ (k : Nat) (f : Nat → Bool), hd f (2 ^ k - 1) = inner f k
  | 0, f => rfl
  | k + 1, f => by
    have p : 0 < 2 ^ k := Nat.pow_pos (by omega)
    have ih1 := hd_pow k f
    have ih2 := hd_pow k (sw f (k - 1))
    have e := (split (f := f) (g := sw f (k - 1)) (2 ^ k) (2 ^ k) (fun i a b => cr_half k f i a b)).1 (2 ^ k - 1) (by omega)
    have e3 : hd f (2 ^ k) = hd f (2 ^ k - 1) + sg (f k) := by
      obtain ⟨m, hm⟩ : ∃ m, 2 ^ k = m + 1 := ⟨2 ^ k - 1, by omega⟩
      have c := cr_pow k f
      rw [hm] at c ⊢
      show hd f m + sg (cr f (m + 1)) = _
      rw [c]
      rfl
    rw [show 2 ^ (k + 1) - 1 = 2 ^ k + (2 ^ k - 1) by rw [Nat.pow_succ]; omega, e, ih2, e3, ih1]
    unfold inner
    rw [if_neg (show ¬ k + 1 = 0 by omega), show k + 1 - 1 = k by omega]
    by_cases c : k = 0
    · rw [if_pos c, if_pos c]
      omega
    · rw [if_neg c, if_neg c]
      have e4 : sw f (k - 1) (k - 1) = !f (k - 1) := by
        unfold sw
        rw [if_pos rfl]
      rw [e4, sg_not]
      omega
theorem hd_two (k : Nat) (f : Nat → Bool) : hd f (2 ^ k) = inner f k + sg (f k) := by
  have p : 0 < 2 ^ k := Nat.pow_pos (by omega)
  have e := hd_pow k f
  have c := cr_pow k f
  obtain ⟨m, hm⟩ : ∃ m, 2 ^ k = m + 1 := ⟨2 ^ k - 1, by omega⟩
  rw [hm] at c e ⊢
  show hd f m + sg (cr f (m + 1)) = _
  rw [c, show m + 1 - 1 = m by omega] at *
  rw [e]
theorem W_pow (k : Nat) (f : Nat → Bool) : W f (2 ^ (k + 1)) = ad (W f (2 ^ k)) (rot (inner f k + sg (f k)) (W (sw f (k - 1)) (2 ^ k))) := by
  have e := (split (f := f) (g := sw f (k - 1)) (2 ^ k) (2 ^ k) (fun i a b => cr_half k f i a b)).2
  rw [show 2 ^ (k + 1) = 2 ^ k + 2 ^ k by rw [Nat.pow_succ]; omega, e, hd_two]
theorem W_low {f g : Nat → Bool} {k : Nat} (h : ∀ i, i < k → f i = g i) : W f (2 ^ k) = W g (2 ^ k) :=
  W_congr fun i a b => cr_congr (h _ (pt_lt a b))
theorem inner_low {f g : Nat → Bool} {k : Nat} (h : ∀ i, i < k → f i = g i) : inner f k = inner g k := by
  unfold inner
  by_cases c : k = 0
  · rw [if_pos c, if_pos c]
  · rw [if_neg c, if_neg c, h (k - 1) (by omega)]
theorem W_pow_sw (k : Nat) (f : Nat → Bool) : W (sw f k) (2 ^ (k + 1)) = ad (W f (2 ^ k)) (rot (inner f k - sg (f k)) (W (sw f (k - 1)) (2 ^ k))) := by
  have low : ∀ i, i < k → sw f k i = f i := fun i hi => by
    unfold sw
    rw [if_neg (by omega)]
  rw [W_pow, W_low low, inner_low low]
  have e1 : sw f k k = !f k := by
    unfold sw
    rw [if_pos rfl]
  have e2 : W (sw (sw f k) (k - 1)) (2 ^ k) = W (sw f (k - 1)) (2 ^ k) := W_low fun i hi => by
    unfold sw
    rw [if_neg (show ¬ i = k by omega)]
  rw [e1, sg_not, e2, show inner f k + -sg (f k) = inner f k - sg (f k) by omega]
/-- one whole way more -/
theorem W_more (f : Nat → Bool) (k q : Nat) : W f (2 ^ (k + 1) * q + 2 ^ k) = ad (W f (2 ^ (k + 1) * q)) (rot (hd f (2 ^ (k + 1) * q)) (W f (2 ^ k))) :=
  (split (2 ^ (k + 1) * q) (2 ^ k) (fun i a b => cr_mult k f q i a b)).2
theorem hd_more (f : Nat → Bool) (k q : Nat) : hd f (2 ^ (k + 1) * q + 2 ^ k) = hd f (2 ^ (k + 1) * q) + inner f k + sg (cr f (2 ^ (k + 1) * q + 2 ^ k)) := by
  have p : 0 < 2 ^ k := Nat.pow_pos (by omega)
  have e := (split (f := f) (g := f) (2 ^ (k + 1) * q) (2 ^ k) (fun i a b => cr_mult k f q i a b)).1 (2 ^ k - 1) (by omega)
  rw [hd_pow] at e
  obtain ⟨m, hm⟩ : ∃ m, 2 ^ k = m + 1 := ⟨2 ^ k - 1, by omega⟩
  generalize 2 ^ (k + 1) * q = z at e ⊢
  rw [hm] at e ⊢
  show hd f (z + m) + sg (cr f (z + m + 1)) = _
  rw [show m + 1 - 1 = m by omega] at e
  rw [e]
  rfl
/-! ### quarters as the program has them -/
def qu (b : Bool) : Int := if b = true then 1 else 3
def innerq (f : Nat → Bool) (k : Nat) : Int := if k = 0 then 0 else qu (f (k - 1))
theorem qu_sg (b : Bool) : qu b % 4 = sg b % 4 := by cases b <;> rfl
theorem innerq_mod (f : Nat → Bool) (k : Nat) : innerq f k % 4 = inner f k % 4 := by
  unfold innerq inner
  by_cases c : k = 0
  · rw [if_pos c, if_pos c]
  · rw [if_neg c, if_neg c, qu_sg]
/-- what spans holds at k -/
def spA (f : Nat → Bool) (k : Nat) : Int × Int := W f (2 ^ k)
def spB (f : Nat → Bool) (k : Nat) : Int × Int := W (sw f (k - 1)) (2 ^ k)
theorem spA_zero (f : Nat → Bool) : spA f 0 = (1, 0) := rfl
theorem spB_zero (f : Nat → Bool) : spB f 0 = (1, 0) := rfl
theorem spA_succ (f : Nat → Bool) (k : Nat) : spA f (k + 1) = ad (spA f k) (rot (innerq f k + qu (f k)) (spB f k)) := by
  have e1 := innerq_mod f k
  have e2 := qu_sg (f k)
  rw [rot_mod (b := inner f k + sg (f k)) (by omega)]
  exact W_pow k f
theorem spB_succ (f : Nat → Bool) (k : Nat) : spB f (k + 1) = ad (spA f k) (rot (innerq f k - qu (f k)) (spB f k)) := by
  have e1 := innerq_mod f k
  have e2 := qu_sg (f k)
  rw [rot_mod (b := inner f k - sg (f k)) (by omega)]
  exact W_pow_sw k f
/-! ### exchanged, backwards -/
theorem hd_not (f : Nat → Bool) : ∀ n, hd (fun i => !f i) n = -hd f n
  | 0 => rfl
  | n + 1 => by
    show hd (fun i => !f i) n + sg (cr (fun i => !f i) (n + 1)) = -(hd f n + sg (cr f (n + 1)))
    rw [hd_not f n, cr_not, sg_not]
    omega
theorem rot_neg (q : Int) (x y : Int) : rot (-q) (x, -y) = ((rot q (x, y)).1, -(rot q (x, y)).2) := by
  rcases mod4 q with h | h | h | h
  · rw [rot0 h, rot0 (by omega)]
  · rw [rot1 h, rot3 (by omega)]
  · rw [rot2 h, rot2 (by omega)]
  · rw [rot3 h, rot1 (by omega)]
    simp
theorem W_not (f : Nat → Bool) : ∀ n, W (fun i => !f i) n = ((W f n).1, -(W f n).2)
  | 0 => rfl
  | n + 1 => by
    show ad (W (fun i => !f i) n) (rot (hd (fun i => !f i) n) (1, 0)) = ((ad (W f n) (rot (hd f n) (1, 0))).1, -(ad (W f n) (rot (hd f n) (1, 0))).2)
    rw [W_not f n, hd_not]
    have e := rot_neg (hd f n) 1 0
    rw [show (-(0 : Int)) = 0 from rfl] at e
    rw [e]
    unfold ad
    simp
    omega
theorem cr_back : ∀ (k : Nat) (f : Nat → Bool) (i : Nat), 0 < i → i < 2 ^ (k + 1) → cr (sw f k) i = !cr f (2 ^ (k + 1) - i)
  | 0, f, i, h0, h1 => by
    have e : i = 1 := by
      rw [show 2 ^ (0 + 1) = 2 from rfl] at h1
      omega
    subst e
    rw [show 2 ^ (0 + 1) - 1 = 2 * 0 + 1 from rfl, show (1 : Nat) = 2 * 0 + 1 from rfl, cr_odd, cr_odd, if_pos (by omega), if_pos (by omega)]
    unfold sw
    rw [if_pos rfl]
  | k + 1, f, i, h0, h1 => by
    rw [Nat.pow_succ] at h1 ⊢
    by_cases c : i % 2 = 0
    · obtain ⟨j, rfl⟩ : ∃ j, i = 2 * j := ⟨i / 2, by omega⟩
      rw [show 2 ^ (k + 1) * 2 - 2 * j = 2 * (2 ^ (k + 1) - j) by omega, cr_even _ (by omega), cr_even _ (by omega), sw_succ]
      exact cr_back k _ j (by omega) (by omega)
    · obtain ⟨j, rfl⟩ : ∃ j, i = 2 * j + 1 := ⟨i / 2, by omega⟩
      rw [show 2 ^ (k + 1) * 2 - (2 * j + 1) = 2 * (2 ^ (k + 1) - j - 1) + 1 by omega, cr_odd, cr_odd]
      have e0 : sw f (k + 1) 0 = f 0 := by
        unfold sw
        rw [if_neg (by omega)]
      have p : 2 ^ (k + 1) % 2 = 0 := by
        rw [Nat.pow_succ]
        omega
      rw [e0]
      by_cases z : j % 2 = 0
      · rw [if_pos z, if_neg (by omega)]
        simp
      · rw [if_neg z, if_pos (by omega)]
theorem hd_back {f g : Nat → Bool} {N : Nat} (h : ∀ i, 0 < i → i < N → cr g i = !cr f (N - i)) : ∀ j, j < N → hd g j = hd f (N - 1 - j) - hd f (N - 1)
  | 0, _ => by
    show (0 : Int) = _
    rw [show N - 1 - 0 = N - 1 by omega]
    omega
  | j + 1, hj => by
    have ih := hd_back h j (by omega)
    show hd g j + sg (cr g (j + 1)) = _
    rw [ih, h (j + 1) (by omega) hj, sg_not]
    obtain ⟨m, hm⟩ : ∃ m, N - 1 - j = m + 1 := ⟨N - 1 - j - 1, by omega⟩
    rw [show N - (j + 1) = m + 1 by omega, show N - 1 - (j + 1) = m by omega, hm]
    show hd f m + sg (cr f (m + 1)) - hd f (N - 1) + -sg (cr f (m + 1)) = _
    omega
def ng (p : Int × Int) : Int × Int := (-p.1, -p.2)
theorem W_back {f g : Nat → Bool} {N : Nat} (h : ∀ i, 0 < i → i < N → cr g i = !cr f (N - i)) : ∀ j, j ≤ N → W g j = rot (2 - hd f (N - 1)) (ad (W f (N - j)) (ng (W f N)))
  | 0, _ => by
    show (0, 0) = _
    rw [Nat.sub_zero, show ad (W f N) (ng (W f N)) = (0, 0) by unfold ad ng; simp; omega, rot_zero]
  | j + 1, hj => by
    have ih := W_back h j (by omega)
    have eh := hd_back h j (by omega)
    obtain ⟨m, hm⟩ : ∃ m, N - j = m + 1 := ⟨N - j - 1, by omega⟩
    rw [hm] at ih
    rw [show N - 1 - j = m by omega] at eh
    rw [show N - (j + 1) = m by omega]
    show ad (W g j) (rot (hd g j) (1, 0)) = _
    rw [ih, eh]
    show ad (rot (2 - hd f (N - 1)) (ad (ad (W f m) (rot (hd f m) (1, 0))) (ng (W f N)))) (rot (hd f m - hd f (N - 1)) (1, 0)) = _
    have e1 : rot (hd f m - hd f (N - 1)) (1, 0) = rot (2 - hd f (N - 1)) (ng (rot (hd f m) (1, 0))) := by
      have e2 : ng (rot (hd f m) (1, 0)) = rot (2 + hd f m) (1, 0) := by
        rw [rot_rot, rot2 (q := 2) (by decide)]
        rfl
      rw [e2, ← rot_rot]
      refine rot_mod ?_ _
      omega
    rw [e1, ← rot_ad]
    congr 1
    unfold ad ng
    simp
    omega
/-! ### no step twice -/
theorem hd_par (f : Nat → Bool) : ∀ n : Nat, hd f n % 2 = (n : Int) % 2
  | 0 => rfl
  | n + 1 => by
    have ih := hd_par f n
    show (hd f n + sg (cr f (n + 1))) % 2 = _
    unfold sg
    by_cases c : cr f (n + 1) = true
    · rw [if_pos c]
      omega
    · rw [if_neg c]
      omega
theorem W_par (f : Nat → Bool) : ∀ n : Nat, ((W f n).1 + (W f n).2) % 2 = (n : Int) % 2
  | 0 => rfl
  | n + 1 => by
    have ih := W_par f n
    show ((W f n).1 + (rot (hd f n) (1, 0)).1 + ((W f n).2 + (rot (hd f n) (1, 0)).2)) % 2 = _
    rcases mod4 (hd f n) with h | h | h | h
    · rw [rot0 h]; simp only; omega
    · rw [rot1 h]; simp only; omega
    · rw [rot2 h]; simp only; omega
    · rw [rot3 h]; simp only; omega
def tl (f : Nat → Bool) : Nat → Bool := fun i => f (i + 1)
theorem hd_two_n (f : Nat → Bool) : ∀ n : Nat, hd f (2 * n) = hd (tl f) n + (if n % 2 = 0 then 0 else sg (f 0))
  | 0 => rfl
  | n + 1 => by
    have ih := hd_two_n f n
    show hd f (2 * n) + sg (cr f (2 * n + 1)) + sg (cr f (2 * (n + 1))) = hd (tl f) n + sg (cr (tl f) (n + 1)) + _
    rw [ih, cr_odd, cr_even f (by omega)]
    show _ + _ + sg (cr (tl f) (n + 1)) = _
    by_cases c : n % 2 = 0
    · rw [if_pos c, if_pos c, if_neg (by omega)]
      omega
    · rw [if_neg c, if_neg c, if_pos (by omega), sg_not]
      omega
/-- a coarse place on the plane -/
def dg (s : Int) (p : Int × Int) : Int × Int := (p.1 - s * p.2, s * p.1 + p.2)
theorem sg_cases (b : Bool) : sg b = 1 ∨ sg b = -1 := by cases b <;> simp [sg]
theorem W_two_n (f : Nat → Bool) : ∀ n : Nat, W f (2 * n) = dg (sg (f 0)) (W (tl f) n)
  | 0 => by
    show (0, 0) = dg _ (0, 0)
    unfold dg
    simp
  | n + 1 => by
    have ih := W_two_n f n
    have eh := hd_two_n f n
    show ad (ad (W f (2 * n)) (rot (hd f (2 * n)) (1, 0))) (rot (hd f (2 * n) + sg (cr f (2 * n + 1))) (1, 0)) = dg _ (ad (W (tl f) n) (rot (hd (tl f) n) (1, 0)))
    rw [ih, eh, cr_odd]
    have key : ad (rot (hd (tl f) n) (1, 0)) (rot (hd (tl f) n + sg (f 0)) (1, 0)) = dg (sg (f 0)) (rot (hd (tl f) n) (1, 0)) := by
      unfold ad dg
      rcases sg_cases (f 0) with e | e <;> rw [e] <;> rcases mod4 (hd (tl f) n) with h | h | h | h
      · rw [rot0 h, rot1 (by omega)]; simp
      · rw [rot1 h, rot2 (by omega)]; simp
      · rw [rot2 h, rot3 (by omega)]; simp
      · rw [rot3 h, rot0 (by omega)]; simp
      · rw [rot0 h, rot3 (by omega)]; simp
      · rw [rot1 h, rot0 (by omega)]; simp
      · rw [rot2 h, rot1 (by omega)]; simp
      · rw [rot3 h, rot2 (by omega)]; simp
    have lin : ∀ p q : Int × Int, dg (sg (f 0)) (ad p q) = ad (dg (sg (f 0)) p) (dg (sg (f 0)) q) := by
      intro p q
      unfold dg ad
      rcases sg_cases (f 0) with e | e <;> rw [e] <;> simp <;> omega
    rw [lin, ← key, ad_assoc]
    congr 1
    by_cases c : n % 2 = 0
    · rw [if_pos c, if_pos c, Int.add_zero]
    · rw [if_neg c, if_neg c, sg_not, show hd (tl f) n + sg (f 0) + -sg (f 0) = hd (tl f) n by omega]
      unfold ad
      simp
      omega
theorem dg_inj {s : Int} (hs : s = 1 ∨ s = -1) {p q : Int × Int} (h : dg s p = dg s q) : p = q := by
  obtain ⟨p1, p2⟩ := p
  obtain ⟨q1, q2⟩ := q
  unfold dg at h
  rw [Prod.mk.injEq] at h ⊢
  rcases hs with e | e <;> rw [e] at h <;> simp only at h <;> omega
theorem ad_cancel {p q r : Int × Int} (h : ad p r = ad q r) : p = q := by
  obtain ⟨p1, p2⟩ := p
  obtain ⟨q1, q2⟩ := q
  unfold ad at h
  rw [Prod.mk.injEq] at h ⊢
  simp only at h
  omega
/-- no place is met twice with one heading -/
theorem state_once : ∀ (N : Nat) (f : Nat → Bool) (i j : Nat), i + j ≤ N → W f i = W f j → hd f i % 4 = hd f j % 4 → i = j
  | 0, f, i, j, h, _, _ => by omega
  | N + 1, f, i, j, h, e1, e2 => by
    have p1 := hd_par f i
    have p2 := hd_par f j
    by_cases z : i + j = 0
    · omega
    have hs := sg_cases (f 0)
    by_cases c : i % 2 = 0
    · obtain ⟨a, rfl⟩ : ∃ a, i = 2 * a := ⟨i / 2, by omega⟩
      obtain ⟨b, rfl⟩ : ∃ b, j = 2 * b := ⟨j / 2, by omega⟩
      rw [W_two_n, W_two_n] at e1
      have e3 := dg_inj hs e1
      have q1 := W_par (tl f) a
      have q2 := W_par (tl f) b
      rw [e3] at q1
      rw [hd_two_n, hd_two_n] at e2
      rw [show a % 2 = b % 2 by omega] at e2
      have ih := state_once N (tl f) a b (by omega) e3 (by omega)
      omega
    · obtain ⟨a, rfl⟩ : ∃ a, i = 2 * a + 1 := ⟨i / 2, by omega⟩
      obtain ⟨b, rfl⟩ : ∃ b, j = 2 * b + 1 := ⟨j / 2, by omega⟩
      have e4 : W f (2 * (a + 1)) = W f (2 * (b + 1)) := by
        show ad (W f (2 * a + 1)) (rot (hd f (2 * a + 1)) (1, 0)) = ad (W f (2 * b + 1)) (rot (hd f (2 * b + 1)) (1, 0))
        rw [e1, rot_mod e2]
      rw [W_two_n, W_two_n] at e4
      have e3 := dg_inj hs e4
      have q1 := W_par (tl f) (a + 1)
      have q2 := W_par (tl f) (b + 1)
      rw [e3] at q1
      have ab : a % 2 = b % 2 := by omega
      have e5 : hd f (2 * a + 1) = hd f (2 * a) + sg (cr f (2 * a + 1)) := rfl
      have e6 : hd f (2 * b + 1) = hd f (2 * b) + sg (cr f (2 * b + 1)) := rfl
      rw [e5, e6, cr_odd, cr_odd, hd_two_n, hd_two_n, ab] at e2
      have e7 : hd (tl f) a % 4 = hd (tl f) b % 4 := by omega
      have e8 : W (tl f) a = W (tl f) b := by
        have e9 : ad (W (tl f) a) (rot (hd (tl f) a) (1, 0)) = ad (W (tl f) b) (rot (hd (tl f) b) (1, 0)) := e3
        rw [rot_mod e7] at e9
        exact ad_cancel e9
      have ih := state_once N (tl f) a b (by omega) e8 e7
      omega
theorem step_once (f : Nat → Bool) (i j : Nat) (h : (W f i = W f j ∧ W f (i + 1) = W f (j + 1)) ∨ (W f i = W f (j + 1) ∧ W f (i + 1) = W f j)) : i = j := by
  have s1 : W f (i + 1) = ad (W f i) (rot (hd f i) (1, 0)) := rfl
  have s2 : W f (j + 1) = ad (W f j) (rot (hd f j) (1, 0)) := rfl
  have p1 := hd_par f i
  have p2 := hd_par f j
  have w1 := W_par f i
  have w2 := W_par f (j + 1)
  obtain ⟨h1, h2⟩ | ⟨h1, h2⟩ := h
  · rw [s1, s2, h1] at h2
    refine state_once _ f i j (Nat.le_refl _) h1 ?_
    unfold ad at h2
    rw [Prod.mk.injEq] at h2
    rcases mod4 (hd f i) with e | e | e | e <;> rcases mod4 (hd f j) with e' | e' | e' | e' <;> first
      | omega
      | (exfalso
         revert h2
         first | rw [rot0 e] | rw [rot1 e] | rw [rot2 e] | rw [rot3 e]
         first | rw [rot0 e'] | rw [rot1 e'] | rw [rot2 e'] | rw [rot3 e']
         intro h2
         simp only at h2
         omega)
  · exfalso
    rw [s1] at h2
    rw [h1, s2] at h2
    rw [h1] at w1
    unfold ad at h2
    have h3 := congrArg Prod.fst h2
    have h4 := congrArg Prod.snd h2
    rcases mod4 (hd f i) with e | e | e | e <;> rcases mod4 (hd f j) with e' | e' | e' | e' <;> (
         first | rw [rot0 e] at h3 h4 | rw [rot1 e] at h3 h4 | rw [rot2 e] at h3 h4 | rw [rot3 e] at h3 h4
         first | rw [rot0 e'] at h3 h4 | rw [rot1 e'] at h3 h4 | rw [rot2 e'] at h3 h4 | rw [rot3 e'] at h3 h4
         simp only at h3 h4
         omega)
/-! ### exchanged and backwards, by the list -/
def ex (bs : List Bool) : List Bool := bs.map fun b => !b
theorem ex_len (bs : List Bool) : (ex bs).length = bs.length := List.length_map ..
theorem ex_ex (bs : List Bool) : ex (ex bs) = bs := by
  unfold ex
  rw [List.map_map]
  induction bs with
  | nil => rfl
  | cons b r ih =>
    rw [List.map_cons, ih]
    show (!(!b)) :: r = b :: r
    rw [Bool.not_not]
theorem fb_ex {bs : List Bool} {i : Nat} (h : i < bs.length) : fb (ex bs) i = !fb bs i := by
  rw [fb_at (show i < (ex bs).length by rw [ex_len]; exact h), fb_at h]
  unfold ex
  rw [List.getElem_map]
theorem cr_ex {bs : List Bool} {n : Nat} (h0 : 0 < n) (h1 : n < 2 ^ bs.length) : cr (fb (ex bs)) n = !cr (fb bs) n := by
  rw [← cr_not]
  exact cr_congr (fb_ex (pt_lt h0 h1))
theorem lf_ex (bs : List Bool) : ∀ n : Nat, n < 2 ^ bs.length → lf (ex bs) n + lf bs n = n
  | 0, _ => by rw [lf_zero, lf_zero]
  | n + 1, h => by
    have ih := lf_ex bs n (by omega)
    have e1 := lf_step bs (n + 1) (by omega) h
    have e2 := lf_step (ex bs) (n + 1) (by omega) (by rw [ex_len]; exact h)
    rw [cr_ex (by omega) h] at e2
    rw [show n + 1 - 1 = n by omega] at e1 e2
    rw [e1, e2]
    cases cr (fb bs) (n + 1)
    · rw [if_pos (show (!false) = true from rfl), if_neg (show ¬ false = true from Bool.false_ne_true)]
      omega
    · rw [if_neg (show ¬ (!true) = true from Bool.false_ne_true), if_pos rfl]
      omega
theorem W_ex {bs : List Bool} {n : Nat} (h : n ≤ 2 ^ bs.length) : W (fb (ex bs)) n = ((W (fb bs) n).1, -(W (fb bs) n).2) := by
  rw [← W_not]
  exact W_congr fun i h0 h1 => cr_congr (fb_ex (pt_lt h0 (by omega)))
def bk : List Bool → List Bool
  | [] => []
  | [b] => [!b]
  | b :: c :: r => b :: bk (c :: r)
theorem bk_len : ∀ bs : List Bool, (bk bs).length = bs.length
  | [] => rfl
  | [_] => rfl
  | b :: c :: r => by
    show (bk (c :: r)).length + 1 = _
    rw [bk_len (c :: r)]
    rfl
theorem bk_bk : ∀ bs : List Bool, bk (bk bs) = bs
  | [] => rfl
  | [b] => by
    show [!(!b)] = [b]
    rw [Bool.not_not]
  | b :: c :: r => by
    have ih := bk_bk (c :: r)
    have l := bk_len (c :: r)
    show bk (b :: bk (c :: r)) = _
    cases e : bk (c :: r) with
    | nil =>
      rw [e] at l
      cases l
    | cons d s =>
      rw [e] at ih
      show b :: bk (d :: s) = _
      rw [ih]
theorem bk_last : ∀ (as : List Bool) (b : Bool), bk (as ++ [b]) = as ++ [!b]
  | [], _ => rfl
  | [a], b => rfl
  | a :: c :: r, b => by
    show a :: bk ((c :: r) ++ [b]) = _
    rw [bk_last (c :: r) b]
    rfl
theorem fb_bk {bs : List Bool} {i : Nat} (h : i < bs.length) : fb (bk bs) i = sw (fb bs) (bs.length - 1) i := by
  obtain ⟨as, b, rfl⟩ : ∃ as b, bs = as ++ [b] := ⟨bs.dropLast, bs.getLast (by intro z; rw [z] at h; cases h), (List.dropLast_concat_getLast _).symm⟩
  rw [List.length_append, List.length_singleton] at h ⊢
  rw [bk_last, show as.length + 1 - 1 = as.length by omega]
  unfold sw
  by_cases e : i = as.length
  · rw [if_pos e, fb_at (by rw [List.length_append, List.length_singleton]; omega), fb_at (by rw [List.length_append, List.length_singleton]; omega)]
    subst e
    simp
  · rw [if_neg e, fb_at (by rw [List.length_append, List.length_singleton]; omega), fb_at (by rw [List.length_append, List.length_singleton]; omega)]
    rw [List.getElem_append_left (by omega), List.getElem_append_left (by omega)]
theorem cr_bk {bs : List Bool} {n : Nat} (h0 : 0 < n) (h1 : n < 2 ^ bs.length) : cr (fb (bk bs)) n = !cr (fb bs) (2 ^ bs.length - n) := by
  have hl : 0 < bs.length := by
    cases bs with
    | nil =>
      rw [List.length_nil, Nat.pow_zero] at h1
      omega
    | cons b r => exact Nat.succ_pos _
  obtain ⟨k, hk⟩ : ∃ k, bs.length = k + 1 := ⟨bs.length - 1, by omega⟩
  have e := cr_back k (fb bs) n h0 (by rw [← hk]; exact h1)
  rw [← hk] at e
  rw [← e]
  refine cr_congr ?_
  rw [fb_bk (pt_lt h0 h1), hk]
  rfl
theorem W_bk {bs : List Bool} {n : Nat} (h : n ≤ 2 ^ bs.length) : W (fb (bk bs)) (2 ^ bs.length - n) = rot (2 - hd (fb bs) (2 ^ bs.length - 1)) (ad (W (fb bs) n) (ng (W (fb bs) (2 ^ bs.length)))) := by
  have e := W_back (f := fb bs) (g := fb (bk bs)) (N := 2 ^ bs.length) (fun i h0 h1 => cr_bk h0 h1) (2 ^ bs.length - n) (by omega)
  rw [show 2 ^ bs.length - (2 ^ bs.length - n) = n by omega] at e
  exact e
theorem W_bk_all (bs : List Bool) : W (fb (bk bs)) (2 ^ bs.length) = rot (2 - hd (fb bs) (2 ^ bs.length - 1)) (ng (W (fb bs) (2 ^ bs.length))) := by
  have e := W_bk (bs := bs) (Nat.zero_le _)
  rw [Nat.sub_zero] at e
  rw [e]
  congr 1
  show (0 + _, 0 + _) = _
  rw [Int.zero_add, Int.zero_add]
end Fc

set_option maxRecDepth 100000
namespace Fw
open PySem PySem.Spec PyProof.Rows L2 Fc
/-! ### a def of the text, its promise -/
structure Df (K : PySem.W.Frag) (mg : Str → Option Value) (x : Str) (st : Stmt) (ps : List Str) : Prop where
  ex : ∃ f fd, Fun K x x st f fd ∧ mg x = some (.ref f) ∧ Binds K fd ps []
structure Ok (P : Program) (w : World) (K : PySem.W.Frag) (mg : Str → Option Value) (base : Heap) (CX : CXT) (k : Nat) (x : Str) (ps : List Str) (sp : Sp) : Prop where
  ex : ∃ f fd, FnOk P w K mg base CX k f fd ps sp ∧ mg x = some (.ref f) ∧ PySem.W.keepIn K (.ref f) = true ∧ Binds K fd ps [] ∧ ∃ oc od osl, K.lookup f = some ⟨oc, od, .func fd, osl⟩
theorem Df.ok {P : Program} {w : World} {K : PySem.W.Frag} {mg : Str → Option Value} {base : Heap} {x : Str} {st : Stmt} {N ps : List Str} {k : Nat} {sp : Sp} (D : Df K mg x st ps) (S : FnScope N ps (defScope st)) (len : ∀ vs H Q E, sp vs H Q E → vs.length = ps.length)
    (hbody : ∀ (f : Addr) (cdv : Value) (A : Around) (outer : List Env) (s : Shared) (H : Hp) (vs : List V) (Q : VK) (E : XK), Room k (A.deeper (envOfC x (defScope st) s.heap.objs.size f cdv)) → sp vs H Q E →
      ∃ t, PSs (cxOf CX0 P w K mg base N x (defScope st) f cdv A outer s H E).nox (defBody st) t ∧ t { nx := fun _ H' => Q .non H', rt := Q } (start N vs) H) : Ok P w K mg base CX0 (k + 1) x ps sp := by
  obtain ⟨f, fd, F, g, b⟩ := D.ex
  obtain ⟨oc, od, _, _, _, _, _, _, osl, _, lk, _⟩ := F.ex
  exact ⟨f, fd, F.ok S len (hbody f), g, F.kp, b, oc, od, osl, lk⟩
/-- at the address and the function object that are known -/
theorem Ok.at_ {P : Program} {w : World} {K : PySem.W.Frag} {mg : Str → Option Value} {base : Heap} {CX : CXT} {k : Nat} {x : Str} {ps : List Str} {sp : Sp} (O : Ok P w K mg base CX k x ps sp) {f : Addr} {fd : FuncData} {oc : Value} {od : Option Addr} {osl : Array (Option Value)}
    (hm : mg x = some (.ref f)) (hl : K.lookup f = some ⟨oc, od, .func fd, osl⟩) : FnOk P w K mg base CX k f fd ps sp := by
  obtain ⟨f', fd', F, g, _, _, oc', od', osl', hl'⟩ := O.ex
  rw [hm] at g
  cases g
  rw [hl] at hl'
  cases hl'
  exact F
def tFn (sp : Sp) (t : TA) : TE := fun σ H Q => t σ H fun vs H1 => sp vs H1 Q E0
theorem pe_c {X : Cx} {k : Nat} {x : Str} {ps : List Str} {sp : Sp} {p pos : Pos} {e : Expr} {es : List Expr} {t : TA} (F : Ok X.prog X.w X.K X.mg X.base CX0 k x ps sp) (hr : Room k X.A) (ha : PA X (e :: es) t) (hg : Gl X x := by rfl) (hdb : (x == ("__debug__" : Str)) = false := by decide) (he : starEach (e :: es) X.env = (false, eval e X.env) :: starEach es X.env := by rfl) (hpl : (backTo pos (starEach es X.env)).any (·.1) = false := by rfl) :
    PE X (.Call (.Name x p) (e :: es) [] pos) (tFn sp t) := by
  obtain ⟨f, fd, G, g, kp, b, _⟩ := F.ex
  refine ⟨fun pins s σ H Q I h => ?_⟩
  refine wpAny_Call_Name_kw (ld_glob I hg g ?_ hdb)
  refine PySem.W.callWith_K (h₀ := X.base) I.ok.mod.kin kp (thn (ha.run pos pins s σ H _ I h) fun us s1 ⟨vs, H1, I1, r, q⟩ => ⟨I1.kIn, ?_⟩) he hpl
  exact run_fn (dvs := []) (ds := []) (E := E0) G hr b .nil pass0 I1 r (by rw [List.append_nil]; exact q)
/-- an item, its side condition left to the end -/
theorem pe_at {X : Cx} {r : R2} {a b : Expr} {ta tb : TE} {pos : Pos} (hr : IxR X r) (ha : PE X a ta) (hb : PE X b tb) (hs : PlainIx b := by exact fun _ _ => rfl) : PE X (.Subscript a b pos) (tOp r ta tb) := pe_ix hr ha hb hs
/-! ### texts -/
def cd (b : Bool) : Nat := if b = true then 108 else 114
def tx (bs : List Bool) : Str := ⟨(bs.map cd).toArray⟩
theorem cd_inj {a b : Bool} (h : cd a = cd b) : a = b := by
  cases a <;> cases b <;> first | rfl | (exfalso; revert h; decide)
theorem map_cd_inj : ∀ {a b : List Bool}, a.map cd = b.map cd → a = b
  | [], [], _ => rfl
  | [], y :: b, h => by rw [List.map_nil, List.map_cons] at h; cases h
  | x :: a, [], h => by rw [List.map_nil, List.map_cons] at h; cases h
  | x :: a, y :: b, h => by
    rw [List.map_cons, List.map_cons, List.cons.injEq] at h
    rw [cd_inj h.1, map_cd_inj h.2]
theorem tx_cps (bs : List Bool) : (tx bs).cps.toList = bs.map cd := rfl
theorem tx_inj {a b : List Bool} (h : tx a = tx b) : a = b := map_cd_inj (congrArg (fun z : Str => z.cps.toList) h)
theorem tx_len (bs : List Bool) : (tx bs).length = bs.length := by
  show ((bs.map cd).toArray).size = bs.length
  simp
theorem tx_append (a b : List Bool) : tx a ++ tx b = tx (a ++ b) := by
  refine TL.ext_tl ?_
  rw [TL.tl_append]
  show a.map cd ++ b.map cd = (a ++ b).map cd
  rw [List.map_append]
theorem tx_at {bs : List Bool} {i : Nat} (h : i < bs.length) : (tx bs).cps.toList[i]? = some (cd bs[i]) := by
  rw [tx_cps, List.getElem?_map, List.getElem?_eq_getElem h]
  rfl
theorem tx_one (b : Bool) : tx [b] = ⟨#[cd b]⟩ := rfl
theorem tx_l : tx [true] = (("l" : String) : Str) := by decide +kernel
theorem tx_r : tx [false] = (("r" : String) : Str) := by decide +kernel
theorem tx_nil : tx [] = (("" : String) : Str) := by decide +kernel
theorem tx_l_iff (b : Bool) : decide (V.str (tx [b]) = V.str (("l" : String) : Str)) = b := by
  cases b <;> decide +kernel
theorem tx_r_iff (b : Bool) : decide (V.str (tx [b]) = V.str (("r" : String) : Str)) = !b := by
  cases b <;> decide +kernel
theorem sg_l_iff (b : Bool) : decide (V.str ⟨#[cd b]⟩ = V.str (("l" : String) : Str)) = b := tx_l_iff b
theorem iteB {c b : Bool} {A B : Prop} (e : c = b) (h1 : b = true → A) (h2 : b = false → B) : if c = true then A else B := by
  rw [e]
  cases b with
  | true => exact iteT (h1 rfl)
  | false => exact iteF (h2 rfl)
theorem vtx_iff (a b : List Bool) : decide (V.str (tx a) = V.str (tx b)) = decide (a = b) := by
  by_cases h : a = b
  · rw [h, decide_eq_true rfl, decide_eq_true rfl]
  · rw [decide_eq_false h, decide_eq_false fun z => h (tx_inj (V.str.inj z))]
/-- all signs are letters -/
def lets (z : Str) : Bool := z.cps.toList.all fun c => decide (c ∈ ((("lr" : String) : Str)).cps.toList)
theorem lr_list : ((("lr" : String) : Str)).cps.toList = [108, 114] := by decide +kernel
theorem lets_tx (bs : List Bool) : lets (tx bs) = true := by
  unfold lets
  rw [lr_list, tx_cps, List.all_map, List.all_eq_true]
  intro b _
  cases b <;> rfl
theorem lets_ex {z : Str} (h : lets z = true) : ∃ bs, z = tx bs := by
  unfold lets at h
  rw [lr_list, List.all_eq_true] at h
  have key : ∀ l : List Nat, (∀ c ∈ l, decide (c ∈ [108, 114]) = true) → ∃ bs : List Bool, l = bs.map cd := by
    intro l
    induction l with
    | nil => exact fun _ => ⟨[], rfl⟩
    | cons c r ih =>
      intro h
      obtain ⟨bs, e⟩ := ih fun x hx => h x (List.mem_cons_of_mem _ hx)
      have hc := of_decide_eq_true (h c List.mem_cons_self)
      rcases List.mem_cons.mp hc with e1 | e1
      · exact ⟨true :: bs, by rw [e, e1]; rfl⟩
      · rcases List.mem_cons.mp e1 with e2 | e2
        · exact ⟨false :: bs, by rw [e, e2]; rfl⟩
        · cases e2
  obtain ⟨bs, e⟩ := key _ h
  exact ⟨bs, TL.ext_tl e⟩
theorem cast_pow (k : Nat) : ((2 ^ k : Nat) : Int) = 2 ^ k := by
  induction k with
  | zero => rfl
  | succ k ih => rw [Nat.pow_succ, Int.pow_succ, ← ih, Int.natCast_mul]; rfl
theorem le_line {n : Nat} (h : n ≤ 100000) : n ≤ sizeLine := Nat.le_trans h (by decide)
theorem lt_line {n : Nat} (h : n ≤ 100000) : n < sizeLine := Nat.lt_of_le_of_lt h (by decide)
theorem kit_int {K : PySem.W.Frag} {H : Hp} (i : Int) : TyX K H (.int i) (.type "int") := .base (.int i)
theorem kit_str {K : PySem.W.Frag} {H : Hp} (z : Str) : TyX K H (.str z) (.type "str") := .base (.str z)
theorem same_upd {H : Hp} {p : Addr} {o : HO} (h : H p = none) : Same H (upd H p o) := fun b x e => by
  rw [upd_ne (ne_of_none e h)]
  exact e
theorem _root_.L2.Same.seqT {K : PySem.W.Frag} {H H' : Hp} {a : Addr} {xs : List V} (e : Same H H') (h : SqT K H a xs) : SqT K H' a xs := by
  exact h.imp_left fun z => z.imp (e _ _) fun y => y.elim fun o y => ⟨o, e _ _ y⟩
theorem sign_at {bs : List Bool} {i c : Nat} (h : (tx bs).cps[i]? = some c) : ∃ hi : i < bs.length, (⟨#[c]⟩ : Str) = tx [bs[i]] := by
  have h2 : (bs.map cd)[i]? = some c := by
    rw [← tx_cps, Array.getElem?_toList]
    exact h
  have hi : i < bs.length := by
    have := (List.getElem?_eq_some_iff.mp h2).1
    rw [List.length_map] at this
    exact this
  rw [List.getElem?_map, List.getElem?_eq_getElem hi] at h2
  refine ⟨hi, ?_⟩
  have e : cd bs[i] = c := Option.some.inj h2
  rw [← e]
  rfl
theorem op_oneShlN {X : Cx} : OpR X (binaryOp .LShift) (fun x y H Q => ∃ k : Nat, x = .int 1 ∧ y = .int (k : Int) ∧ k ≤ 134217727 ∧ Q (.int ((2 ^ k : Nat) : Int)) H) := by
  rintro pins s σ H x y v u Q I rx ry ⟨k, ex, ey, hk, q⟩
  exact op_oneShl pins s σ H x y v u Q I rx ry ⟨k, ex, ey, hk, by rw [← cast_pow]; exact q⟩
theorem rgV_map (a b : Int) : ∃ cs : List Int, rgV a b = cs.map V.int := ⟨(List.range (b - a).toNat).map fun i => a + (i : Nat), by rw [List.map_map]; rfl⟩
theorem ne_int_self (i : Int) : (!decide (V.int i = V.int i)) = false := by rw [decide_eq_true rfl]; rfl
theorem ne_int_eq {i j : Int} (h : i = j) : (!decide (V.int i = V.int j)) = false := by rw [h]; exact ne_int_self j
theorem ne_str_eq {i j : Str} (h : i = j) : (!decide (V.str i = V.str j)) = false := by rw [h, decide_eq_true rfl]; rfl
theorem map_int_at {cs : List Int} {i : Nat} {x : V} (h : (cs.map V.int)[i]? = some x) : ∃ c, x = V.int c := by
  rcases Option.map_eq_some_iff.mp ((List.getElem?_map ..).symm.trans h) with ⟨c, _, e⟩
  exact ⟨c, e.symm⟩
/-! ### for i, c in enumerate(a text) -/
def Ites (x : Str) : It :=
  ⟨fun i _ => i < x.cps.size, fun i H v H' => ∃ T c, x.cps[i]? = some c ∧ v = .ref T ∧ H T = none ∧ H' = upd H T (.tup [.int (i : Nat), .str ⟨#[c]⟩]), fun i _ => i = x.cps.size⟩
theorem draws_str {prog : Program} {w : World} {A : Around} (hh : A.handled = none) (it : Addr) (x : Str) (t : Tok) (ty : String) (hty : ty = "str_ascii_iterator" ∨ ty = "str_iterator") :
    Draws prog w A it [it] x.cps.size (fun i v => ∃ c u, x.cps[i]? = some c ∧ v = .str ⟨#[c]⟩ u) (fun i h => h.IsStrIter it ty x t i) := by
  rcases hty with e | e
  · rw [e]; exact Draws.strAscii hh it x t
  · rw [e]; exact Draws.strWide hh it x t
/-- one of the two cells of the iterator -/
theorem two_of {b m g : Addr} (hb : b ∈ [m, g]) : b = m ∨ b = g := by simpa using hb
theorem turn_enumS {P : Program} {w : World} {K : PySem.W.Frag} {elts : List Expr} {kk : Nat} {tpos : Pos} (m g : Addr) (x : Str) (t : Tok) (ty : String) (hty : ty = "str_ascii_iterator" ∨ ty = "str_iterator") :
    Turn P w K (.Tuple elts kk tpos) (Ites x) [m, g] m (fun i h => (∃ last, IsEnum h m g ((i : Nat) : Int) last) ∧ h.IsStrIter g ty x t i ∧ m ≠ g) where
  mem := List.mem_cons_self
  obj := fun i h st b hb => by
    rcases st with ⟨⟨last, hm⟩, ⟨og, hg, cg, dg⟩, _⟩
    rcases two_of hb with y | y
    · subst y
      exact ⟨_, hm, fun v z => nomatch z⟩
    · subst y
      exact ⟨og, hg, fun v z => by rw [dg] at z; cases z⟩
  keep := fun i h h' st k => by
    rcases st with ⟨⟨last, hm⟩, ⟨og, hg, rest⟩, apart⟩
    exact ⟨⟨last, k m List.mem_cons_self _ hm⟩, ⟨og, k g (List.mem_cons_of_mem _ List.mem_cons_self) og hg, rest⟩, apart⟩
  item := by
    intro X eP ew eK calm i pins s σ H E I cells st go
    subst eP ew eK
    rcases st with ⟨⟨last, hm⟩, hg, apart⟩
    have ltm : m < s.heap.objs.size := Heap.lt_size hm
    have ltg : g < s.heap.objs.size := by
      rcases hg with ⟨_, y, _⟩
      exact Heap.lt_size y
    have D := draws_str (prog := X.prog) (w := X.w) (A := X.A.in1) (show X.A.in1.handled = none from I.ok.hd calm) g x t ty hty
    refine wpAny_pyNext_enum_itemD D hm hg go apart (by simp [apart]) fun v h1 tk hv out hg1 tup _ kept => ?_
    rcases hv with ⟨c, u, at_c, rfl⟩
    refine ⟨_, rfl, wpAny_letOwnedTupleGo_enum (s := { s with heap := h1, toks := tk + 1 }) out fun h2 hm2 but => ?_⟩
    have tup2 : h2.get? s.heap.objs.size = some { cls := .type "tuple", data := .seq #[.int i tk, .str ⟨#[c]⟩ u] } := (but.2 _ (Nat.ne_of_gt ltm)).trans tup
    have fresh : ObjOk X.prog X.w (upd H s.heap.objs.size (.tup [.int (i : Nat), .str ⟨#[c]⟩])) h2 s.heap.objs.size (.tup [.int (i : Nat), .str ⟨#[c]⟩]) :=
      ⟨by show 2 ≤ sizeLine; decide, [.int i tk, .str ⟨#[c]⟩ u], .cons ⟨_, rfl⟩ (.cons ⟨_, rfl⟩ .nil), ⟨_, tup2, rfl, _, rfl⟩⟩
    have all : ∀ b ob, b ∉ [m, g] → s.heap.get? b = some ob → h2.get? b = some ob := fun b ob hb y =>
      (but.2 b fun z => hb (z ▸ List.mem_cons_self)).trans (kept b ob (fun z => hb (z ▸ List.mem_cons_self)) (fun z => hb (z ▸ List.mem_cons_of_mem _ List.mem_cons_self)) y)
    have J : Inv X pins σ (upd H s.heap.objs.size (.tup [.int (i : Nat), .str ⟨#[c]⟩])) { s with heap := h2, toks := tk + 1 } := I.turnedNew (ch := [m, g]) all cells (Nat.le_refl _) fresh
    refine ⟨.ref s.heap.objs.size, _, J, rfl, ⟨_, c, at_c, rfl, I.hok.fresh (Nat.le_refl _), rfl⟩, ⟨⟨.str ⟨#[c]⟩ u, ?_⟩, ?_, apart⟩, fun b hb => ?_⟩
    · rw [show ((i + 1 : Nat) : Int) = (i : Int) + 1 from Int.natCast_succ i]
      exact hm2
    · rcases hg1 with ⟨o, y, rest⟩
      exact ⟨o, (but.2 g (Ne.symm apart)).trans y, rest⟩
    · have low : b < s.heap.objs.size := (two_of hb).elim (fun z => z ▸ ltm) (fun z => z ▸ ltg)
      rw [upd_ne (show b ≠ _ from Nat.ne_of_lt low)]
      exact (cells b hb).1
  done := by
    intro X eP ew eK calm i pins s σ H E I cells st go
    subst eP ew eK
    rcases st with ⟨⟨last, hm⟩, hg, apart⟩
    rcases cells g (List.mem_cons_of_mem _ List.mem_cons_self) with ⟨c0, c1, c2, c3, c4, c5⟩
    have D := draws_str (prog := X.prog) (w := X.w) (A := X.A.in1) (show X.A.in1.handled = none from I.ok.hd calm) g x t ty hty
    have at_end : i = x.cps.size := go
    rw [at_end] at hg hm
    exact wpAny_pyNext_enum_endD D hm hg fun h1 but => ⟨rfl, I.turned (t' := s.toks) (fun b o y z => but b o y z) c0 c1 c3 c4 c5⟩
  self := by
    intro A i s Q E st h
    rcases st with ⟨⟨_, hm⟩, _⟩
    exact wpAny_pyIter_enum hm h
def iEnumS (ta : TA) : TI := fun σ H R => ta σ H fun vs H1 => ∃ x, vs = [.str x] ∧ R (Ites x) H1
theorem pi_enumS {X : Cx} {e : Expr} {ta : TA} {p pos tpos : Pos} {elts : List Expr} {kk : Nat} (hg : Gl X "enumerate") (hm : X.mg "enumerate" = none) (ha : PA X [e] ta) (one : starEach [e] X.env = [(false, eval e X.env)] := by rfl) :
    PI X (.Tuple elts kk tpos) (.Call (.Name "enumerate" p) [e] [] pos) (iEnumS ta) := by
  constructor
  intro pins s σ H R I h
  have args := ha.run pos pins s σ H _ I h
  refine Call_ (ld_blt I hg hm boot_enumerate ?_)
  refine PyProof.Rows.callWith_type1 (thn args fun us s1 got => ?_) one rfl
  rcases got with ⟨vs, H1, J, rel, x, rfl, q⟩
  obtain ⟨t, rfl⟩ : ∃ t, us = [Value.str x t] := by
    cases rel with
    | cons r none_left =>
      cases none_left
      rcases r with ⟨t, rfl⟩
      exact ⟨t, rfl⟩
  have hty : PySem.strIterType x = "str_ascii_iterator" ∨ PySem.strIterType x = "str_iterator" := by
    unfold PySem.strIterType
    split
    · exact .inl rfl
    · exact .inr rfl
  refine call_enumerate_str fun h1 hm1 hg1 _ kept => wpAny_pyIter_enum hm1 ?_
  have J2 : Inv X pins σ H1 { s1 with heap := h1 } := J.kept (t' := s1.toks) kept
  refine ⟨s1.heap.objs.size + 1, [s1.heap.objs.size + 1, s1.heap.objs.size], _, _, H1, rfl, J2, turn_enumS (s1.heap.objs.size + 1) s1.heap.objs.size x t _ hty, ⟨⟨.none, hm1⟩, hg1, Nat.succ_ne_self _⟩, fun b hb => ?_, q⟩
  have high : s1.heap.objs.size ≤ b := (two_of hb).elim (fun z => z ▸ Nat.le_succ _) (fun z => z ▸ Nat.le_refl _)
  exact J.fpOk high (J.hok.fresh high)
theorem walk_enumS {x : Str} : Walk (Ites x) x.cps.size (fun _ => True) (fun i H v H' => ∃ T c, x.cps[i]? = some c ∧ v = .ref T ∧ H T = none ∧ H' = upd H T (.tup [.int (i : Nat), .str ⟨#[c]⟩])) :=
  ⟨fun i H hi _ => hi, fun H _ => rfl, fun i H x H' _ _ h => h⟩
end Fw

namespace Fw
open PySem PySem.Spec PyProof.Rows L2 Fc
/-! ### further rules -/
/-- two derivations of one expression -/
theorem pe_or2 {X : Cx} {e : Expr} {t1 t2 : TE} (h1 : PE X e t1) (h2 : PE X e t2) : PE X e (fun σ H Q => t1 σ H Q ∨ t2 σ H Q) :=
  ⟨fun pins s σ H Q I h => h.elim (fun z => h1.run pins s σ H Q I z) fun z => h2.run pins s σ H Q I z⟩
/-- a op1 b op2 c op3 d -/
def tChain3 (r r' r'' : R2) (ta tb tc td : TE) : TE := fun σ H Q => ta σ H fun x H1 => tb σ H1 fun y H2 => r x y H2 fun z H3 => ∃ k, z = .bl k ∧
  (if k = true then tc σ H3 fun v H4 => r' y v H4 fun z2 H5 => ∃ k2, z2 = .bl k2 ∧ (if k2 = true then td σ H5 fun v2 H6 => r'' v v2 H6 Q else Q (.bl false) H5) else Q (.bl false) H3)
section
variable {X : Cx} {a b c d : Expr} {ta tb tc td : TE} {pos : Pos} {op op' op'' : CmpOp} {r r' r'' : R2}
theorem pe_chain3 (o1 : OpR X (compareOp op) r) (o2 : OpR X (compareOp op') r') (o3 : OpR X (compareOp op'') r'') (ha : PE X a ta) (hb : PE X b tb) (hc : PE X c tc) (hd : PE X d td)
    (hm : lastMarks [op, op', op''] [b, c, d] = false := by with_unfolding_all rfl) : PE X (.Compare a [op, op', op''] [b, c, d] pos) (tChain3 r r' r'' ta tb tc td) := by
  constructor
  intro pins s σ H Q I h
  refine Compare_chain (thn (ha.run pins s σ H _ I h) fun v s1 k1 => ?_) hm
  rcases k1 with ⟨x, H1, I1, r1, q1⟩
  refine chain_link (thn (hb.run pins s1 σ H1 _ I1 q1) fun u s2 k2 => ?_)
  rcases k2 with ⟨y, H2, I2, r2, q2⟩
  refine thn (o1 pins s2 σ H2 x y v u _ I2 r1 r2 q2) fun e s3 k3 => ?_
  rcases k3 with ⟨z, H3, I3, r3, k, rfl, q3⟩
  cases r3
  refine wpAny_truthy_bool ?_
  cases k with
  | false => exact ite_ff ⟨V.bl false, H3, I3, rfl, q3⟩
  | true =>
    refine ite_tt (chain_link (thn (hc.run pins s3 σ H3 _ I3 q3) fun w4 s4 k4 => ?_))
    rcases k4 with ⟨y4, H4, I4, r4, q4⟩
    refine thn (o2 pins s4 σ H4 y y4 u w4 _ I4 r2 r4 q4) fun e5 s5 k5 => ?_
    rcases k5 with ⟨z5, H5, I5, r5, kk, rfl, q5⟩
    cases r5
    refine wpAny_truthy_bool ?_
    cases kk with
    | false => exact ite_ff ⟨.bl false, H5, I5, rfl, q5⟩
    | true =>
      refine ite_tt (chain_last (thn (hd.run pins s5 σ H5 _ I5 q5) fun w6 s6 k6 => ?_))
      rcases k6 with ⟨y6, H6, I6, r6, q6⟩
      exact o3 pins s6 σ H6 y4 y6 w4 w6 Q I6 r4 r6 q6
theorem pt_chain3 (o1 : OpR X (compareOp op) r) (o2 : OpR X (compareOp op') r') (o3 : OpR X (compareOp op'') r'') (ha : PE X a ta) (hb : PE X b tb) (hc : PE X c tc) (hd : PE X d td)
    (hm : lastMarks [op, op', op''] [b, c, d] = false := by with_unfolding_all rfl) : PT X (.Compare a [op, op', op''] [b, c, d] pos) (tTest (tChain3 r r' r'' ta tb tc td)) := by
  constructor
  intro pins s σ H Q I h
  refine isTrue_chain (thn (ha.run pins s σ H _ I h) fun v s1 k1 => ?_) hm
  rcases k1 with ⟨x, H1, I1, r1, q1⟩
  refine test_link (thn (hb.run pins s1 σ H1 _ I1 q1) fun u s2 k2 => ?_)
  rcases k2 with ⟨y, H2, I2, r2, q2⟩
  refine thn (o1 pins s2 σ H2 x y v u _ I2 r1 r2 q2) fun e s3 k3 => ?_
  rcases k3 with ⟨z, H3, I3, r3, k, rfl, q3⟩
  cases r3
  refine wpAny_truthy_bool ?_
  cases k with
  | false =>
    rcases q3 with ⟨k', e', q'⟩
    cases e'
    exact ite_ff ⟨H3, I3, q'⟩
  | true =>
    refine ite_tt (test_link (thn (hc.run pins s3 σ H3 _ I3 q3) fun w4 s4 k4 => ?_))
    rcases k4 with ⟨y4, H4, I4, r4, q4⟩
    refine thn (o2 pins s4 σ H4 y y4 u w4 _ I4 r2 r4 q4) fun e5 s5 k5 => ?_
    rcases k5 with ⟨z5, H5, I5, r5, kk, rfl, q5⟩
    cases r5
    refine wpAny_truthy_bool ?_
    cases kk with
    | false =>
      rcases q5 with ⟨k', e', q'⟩
      cases e'
      exact ite_ff ⟨H5, I5, q'⟩
    | true =>
      refine ite_tt (test_last (thn (hd.run pins s5 σ H5 _ I5 q5) fun w6 s6 k6 => ?_))
      rcases k6 with ⟨y6, H6, I6, r6, q6⟩
      refine thn (o3 pins s6 σ H6 y4 y6 w4 w6 _ I6 r4 r6 q6) fun e7 s7 k7 => ?_
      rcases k7 with ⟨z7, H7, I7, r7, k8, rfl, q7⟩
      cases r7
      exact wpAny_truthy_bool ⟨H7, I7, q7⟩
/-- a text, backwards -/
def rvS (z : Str) : Str := ⟨z.cps.toList.reverse.toArray⟩
theorem rvS_tx (bs : List Bool) : rvS (tx bs) = tx bs.reverse := by
  refine TL.ext_tl ?_
  show (bs.map cd).reverse = bs.reverse.map cd
  rw [List.map_reverse]
theorem rv_indices (n : Nat) : Builtin.Str.strSliceIndices none none (-1) n = (List.range n).reverse := by
  rw [← PySem.W.krv_range, ← PySem.W.krv_sliceRange]
  rfl
def tRevS (te : TE) : TE := fun σ H Q => te σ H fun x H1 => ∃ z, x = .str z ∧ z.length ≤ sizeLine ∧ Q (.str (rvS z)) H1
/-- what such a slice makes of a text -/
theorem made_back (z : Str) (t w : Tok) : sliceMade z t none none (some (-1, w)) = Made.str (rvS z) := by
  have picked : slicePicked z none none (some (-1, w)) = (List.range z.cps.size).reverse := rv_indices z.length
  have all : ((List.range z.cps.size).reverse.filterMap (z.cps[·]?)).toArray = (rvS z).cps := by
    rw [List.filterMap_reverse, PySem.W.krv_all]
    rfl
  unfold sliceMade
  rw [picked, all]
  exact if_neg (by intro no; cases no)
/-- the slice's own object: neither bound is told, the step is -1 -/
theorem laid_back {pins : List (Addr × Obj)} {σ : L2.St} {H : Hp} {s : Shared} {R : Value → Shared → Prop} {k : Nat} {p1 p2 p3 : Pos} (I : Inv X pins σ H s)
    (next : ∀ (s' : Shared) (c : Addr) (w : Tok), Inv X pins σ H s' → s'.heap.IsSlice c none none (some (-1, w)) → R (.ref c) s') : wpAny (model X.prog X.w) X.A (eval (.Slice none none (some (.UnaryOp .USub (.Constant (.int 1) k p1) p2)) p3) X.env) R X.xe s := by
  have minus : PE X (.UnaryOp .USub (.Constant (.int 1) k p1) p2) (tUn (rU fun i => .int (-i)) (tC (.int 1))) := pe_un un_neg pe_int
  refine wpAny_Slice (wpAny_evalPart_none (wpAny_evalPart_none (wpAny_evalPart_some ?_)))
  refine thn (minus.run pins s σ H (fun v H' => v = .int (-1) ∧ H = H') I ⟨1, rfl, rfl, rfl⟩) fun u s1 got => ?_
  rcases got with ⟨_, _, I1, is_u, rfl, rfl⟩
  rcases is_u with ⟨w, rfl⟩
  exact next _ _ w (I1.kept (t' := s1.toks) fun _ _ z => Heap.get?_push_of_some _ z) ⟨_, Heap.get?_push_size _ rfl, rfl, rfl⟩
theorem pe_revS {e : Expr} {te : TE} {k : Nat} {p1 p2 p3 : Pos} (he : PE X e te) : PE X (.Subscript e (.Slice none none (some (.UnaryOp .USub (.Constant (.int 1) k p1) p2)) p3) pos) (tRevS te) := by
  constructor
  intro pins s σ H Q I wish
  refine Subscript_ (thn (he.run pins s σ H _ I wish) fun v s1 got => ?_)
  rcases got with ⟨_, H1, I1, is_v, z, rfl, size_, q⟩
  rcases is_v with ⟨t, rfl⟩
  refine laid_back I1 fun s2 c w I2 laid => tail_any (ops := [.str z t, .ref c]) (typeIs_str _ z t) PySem.F.slot_str_getitem.lookup (wpAny_getItem_str_slice laid rfl ?_) (by with_unfolding_all rfl)
  rw [made_back]
  refine ⟨?_, .str (rvS z), H1, I2.tok _, ⟨_, rfl⟩, q⟩
  show (z.cps.toList.reverse.toArray).size ≤ sizeLine
  rw [List.size_toArray, List.length_reverse, Array.length_toList]
  exact size_
end
/-- nothing is left of a text of letters alone, and of no other -/
theorem strip_lr (z : Str) : decide (V.str (Txt.stripChars z (("lr" : String) : Str)) = V.str (("" : String) : Str)) = lets z := by
  have goes : ∀ c : Nat, (("lr" : String) : Str).cps.contains c = decide (c ∈ [108, 114]) := by
    intro c
    rw [← lr_list, Bool.eq_iff_iff, Array.contains_iff, decide_eq_true_iff, Array.mem_toList_iff]
  have l0 : ((("" : String) : Str)).length = 0 := by decide +kernel
  have lz : lets z = z.cps.toList.all fun c => decide (c ∈ [108, 114]) := by
    unfold lets
    rw [lr_list]
  unfold Txt.stripChars
  rw [PyProof.Rows.stripBy_eq]
  obtain ⟨a1, a2, a3⟩ := lo_facts (("lr" : String) : Str).cps.contains z
  obtain ⟨b1, b2, b3, b4⟩ := hi_facts (("lr" : String) : Str).cps.contains z _ a1
  generalize PySem.stripLo (("lr" : String) : Str).cps.contains true z = lo at *
  generalize PySem.stripHi (("lr" : String) : Str).cps.contains true z lo = hi at *
  have hn : z.cps.toList.length = z.length := by simp [Str.length]
  have at_k : ∀ k, k < z.length → z.cps.getD k 0 ∈ z.cps.toList := fun k hk => by
    rw [← getD_list, List.getD_eq_getElem?_getD, List.getElem?_eq_getElem (by omega)]
    exact List.getElem_mem _
  have ls : (Builtin.Str.strSub z lo hi).length = hi - lo := by
    show (z.cps.extract lo hi).size = hi - lo
    rw [Array.size_extract]
    have : z.length = z.cps.size := rfl
    omega
  cases h : lets z with
  | true =>
    rw [lz, List.all_eq_true] at h
    have e : lo = z.length := by
      by_cases c : lo = z.length
      · exact c
      · have y := a3.resolve_left c
        have g := h _ (at_k lo (by omega))
        rw [← goes] at g
        rw [g] at y
        cases y
    refine decide_eq_true (congrArg V.str (TL.ext_tl ?_))
    have e0 : (Builtin.Str.strSub z lo hi).cps.toList.length = 0 := by
      rw [Array.length_toList]
      show (Builtin.Str.strSub z lo hi).length = 0
      omega
    have e1 : ((("" : String) : Str)).cps.toList.length = 0 := by
      rw [Array.length_toList]
      exact l0
    show (Builtin.Str.strSub z lo hi).cps.toList = ((("" : String) : Str)).cps.toList
    rw [List.length_eq_zero_iff.mp e0, List.length_eq_zero_iff.mp e1]
  | false =>
    refine decide_eq_false fun y => ?_
    have y2 := congrArg Str.length (V.str.inj y)
    rw [ls, l0] at y2
    have : lets z = true := by
      rw [lz, List.all_eq_true]
      intro c hc
      obtain ⟨k, hk, e⟩ := List.getElem_of_mem hc
      have e2 : z.cps.getD k 0 = c := by
        rw [← getD_list, List.getD_eq_getElem?_getD, List.getElem?_eq_getElem hk]
        exact e
      rw [← goes, ← e2]
      by_cases ck : k < lo
      · exact a2 k ck
      · exact b3 k (by omega) (by omega)
    rw [h] at this
    cases this
/-- slices of letters -/
theorem cut_to (ts : List Bool) (k : Nat) : cutS (tx ts) none (some (k : Int)) = tx (ts.take k) := by
  refine TL.ext_tl ?_
  show (((tx ts).cps.toList.drop (HT.sIx (tx ts).length 0 none)).take (HT.sIx (tx ts).length (tx ts).length (some (k : Int)) - HT.sIx (tx ts).length 0 none)) = (tx (ts.take k)).cps.toList
  rw [HT.sIx_none, HT.sIx_nat, List.drop_zero, Nat.sub_zero, tx_cps, tx_cps, tx_len, List.map_take]
  by_cases h : k ≤ ts.length
  · rw [Nat.min_eq_left h]
  · rw [Nat.min_eq_right (by omega), List.take_of_length_le (by rw [List.length_map]; omega), List.take_of_length_le (by rw [List.length_map]; omega)]
theorem cut_from (ts : List Bool) (k : Nat) : cutS (tx ts) (some (k : Int)) none = tx (ts.drop k) := by
  refine TL.ext_tl ?_
  show (((tx ts).cps.toList.drop (HT.sIx (tx ts).length 0 (some (k : Int)))).take (HT.sIx (tx ts).length (tx ts).length none - HT.sIx (tx ts).length 0 (some (k : Int)))) = (tx (ts.drop k)).cps.toList
  rw [HT.sIx_none, HT.sIx_nat, tx_cps, tx_cps, tx_len, List.map_drop]
  by_cases h : k ≤ ts.length
  · rw [Nat.min_eq_left h, List.take_of_length_le (by rw [List.length_drop, List.length_map]; omega)]
  · rw [Nat.min_eq_right (by omega), Nat.sub_self, List.take_zero, List.drop_of_length_le (by rw [List.length_map]; omega)]
end Fw

namespace Fw
open PySem PySem.Spec PyProof.Rows L2 Fc
/-! ### the text by places -/
def topS (i : Nat) : Stmt := PySem.Challenge.pw_foldcurve_k04_whole_turns.main.body.getD i (.Pass ⟨0, 0, 0, 0⟩)
abbrev s_is_whole : Stmt := topS 7
abbrev N_is_whole : List Str := ["thing"]
theorem sc_is_whole : FnScope N_is_whole ["thing"] (defScope s_is_whole) := ⟨rfl, rfl, rfl, by decide +kernel, rfl, by decide +kernel, by decide +kernel⟩
abbrev s_are_letters : Stmt := topS 8
abbrev N_are_letters : List Str := ["thing", "sign"]
theorem sc_are_letters : FnScope N_are_letters ["thing"] (defScope s_are_letters) := ⟨rfl, rfl, rfl, by decide +kernel, rfl, by decide +kernel, by decide +kernel⟩
abbrev s_check_folds : Stmt := topS 9
abbrev N_check_folds : List Str := ["folds"]
theorem sc_check_folds : FnScope N_check_folds ["folds"] (defScope s_check_folds) := ⟨rfl, rfl, rfl, by decide +kernel, rfl, by decide +kernel, by decide +kernel⟩
abbrev s_opposite : Stmt := topS 10
abbrev N_opposite : List Str := ["letter"]
theorem sc_opposite : FnScope N_opposite ["letter"] (defScope s_opposite) := ⟨rfl, rfl, rfl, by decide +kernel, rfl, by decide +kernel, by decide +kernel⟩
abbrev s_part_of : Stmt := topS 11
abbrev N_part_of : List Str := ["count", "found"]
theorem sc_part_of : FnScope N_part_of ["count"] (defScope s_part_of) := ⟨rfl, rfl, rfl, by decide +kernel, rfl, by decide +kernel, by decide +kernel⟩
abbrev s_is_along : Stmt := topS 12
abbrev N_is_along : List Str := ["count", "part"]
theorem sc_is_along : FnScope N_is_along ["count", "part"] (defScope s_is_along) := ⟨rfl, rfl, rfl, by decide +kernel, rfl, by decide +kernel, by decide +kernel⟩
abbrev s_way_of : Stmt := topS 13
abbrev N_way_of : List Str := ["folds", "count", "part"]
theorem sc_way_of : FnScope N_way_of ["folds", "count"] (defScope s_way_of) := ⟨rfl, rfl, rfl, by decide +kernel, rfl, by decide +kernel, by decide +kernel⟩
abbrev s_steps_of : Stmt := topS 14
abbrev N_steps_of : List Str := ["folds"]
theorem sc_steps_of : FnScope N_steps_of ["folds"] (defScope s_steps_of) := ⟨rfl, rfl, rfl, by decide +kernel, rfl, by decide +kernel, by decide +kernel⟩
abbrev s_creases : Stmt := topS 15
abbrev N_creases : List Str := ["folds", "first", "many", "k"]
theorem sc_creases : FnScope N_creases ["folds", "first", "many"] (defScope s_creases) := ⟨rfl, rfl, rfl, by decide +kernel, rfl, by decide +kernel, by decide +kernel⟩
abbrev s_Folds___init__ : Stmt := inClass (topS 18) 0
abbrev N_Folds___init__ : List Str := ["self", "folds"]
theorem sc_Folds___init__ : FnScope N_Folds___init__ ["self", "folds"] (defScope s_Folds___init__) := ⟨rfl, rfl, rfl, by decide +kernel, rfl, by decide +kernel, by decide +kernel⟩
abbrev s_Folds_shows : Stmt := inClass (topS 18) 1
abbrev N_Folds_shows : List Str := ["self", "turns", "first", "k"]
theorem sc_Folds_shows : FnScope N_Folds_shows ["self", "turns", "first"] (defScope s_Folds_shows) := ⟨rfl, rfl, rfl, by decide +kernel, rfl, by decide +kernel, by decide +kernel⟩
abbrev s_Unlike___init__ : Stmt := inClass (topS 19) 0
abbrev N_Unlike___init__ : List Str := ["self", "one", "other"]
theorem sc_Unlike___init__ : FnScope N_Unlike___init__ ["self", "one", "other"] (defScope s_Unlike___init__) := ⟨rfl, rfl, rfl, by decide +kernel, rfl, by decide +kernel, by decide +kernel⟩
abbrev s_Unlike_shows : Stmt := inClass (topS 19) 1
abbrev N_Unlike_shows : List Str := ["self", "turns", "first", "here", "there", "part"]
theorem sc_Unlike_shows : FnScope N_Unlike_shows ["self", "turns", "first"] (defScope s_Unlike_shows) := ⟨rfl, rfl, rfl, by decide +kernel, rfl, by decide +kernel, by decide +kernel⟩
abbrev s_told : Stmt := topS 21
abbrev N_told : List Str := ["turns", "first", "met", "place", "letter", "part", "made", "folds"]
theorem sc_told : FnScope N_told ["turns", "first"] (defScope s_told) := ⟨rfl, rfl, rfl, by decide +kernel, rfl, by decide +kernel, by decide +kernel⟩
abbrev s__law_cell_at : Stmt := topS 23
abbrev N__law_cell_at : List Str := ["_law_script", "_law_k"]
theorem sc__law_cell_at : FnScope N__law_cell_at ["_law_script", "_law_k"] (defScope s__law_cell_at) := ⟨rfl, rfl, rfl, by decide +kernel, rfl, by decide +kernel, by decide +kernel⟩
abbrev s__law_draw : Stmt := topS 24
abbrev N__law_draw : List Str := ["_law_cell", "_law_k", "_law_many", "_law_primes"]
theorem sc__law_draw : FnScope N__law_draw ["_law_cell", "_law_k", "_law_many"] (defScope s__law_draw) := ⟨rfl, rfl, rfl, by decide +kernel, rfl, by decide +kernel, by decide +kernel⟩
abbrev s__law_folds : Stmt := topS 25
abbrev N__law_folds : List Str := ["_law_script", "_law_by", "_law_kind", "_law_found", "_law_k", "_law_letter"]
theorem sc__law_folds : FnScope N__law_folds ["_law_script", "_law_by"] (defScope s__law_folds) := ⟨rfl, rfl, rfl, by decide +kernel, rfl, by decide +kernel, by decide +kernel⟩
abbrev s__law_far : Stmt := topS 26
abbrev N__law_far : List Str := ["_law_script", "_law_by", "_law_most", "_law_found", "_law_k"]
theorem sc__law_far : FnScope N__law_far ["_law_script", "_law_by", "_law_most"] (defScope s__law_far) := ⟨rfl, rfl, rfl, by decide +kernel, rfl, by decide +kernel, by decide +kernel⟩
abbrev s__law_other : Stmt := topS 27
abbrev N__law_other : List Str := ["_law_letter"]
theorem sc__law_other : FnScope N__law_other ["_law_letter"] (defScope s__law_other) := ⟨rfl, rfl, rfl, by decide +kernel, rfl, by decide +kernel, by decide +kernel⟩
abbrev s__law_crease : Stmt := topS 28
abbrev N__law_crease : List Str := ["_law_folds_here", "_law_count", "_law_part_here"]
theorem sc__law_crease : FnScope N__law_crease ["_law_folds_here", "_law_count"] (defScope s__law_crease) := ⟨rfl, rfl, rfl, by decide +kernel, rfl, by decide +kernel, by decide +kernel⟩
abbrev s__law_whole : Stmt := topS 29
abbrev N__law_whole : List Str := ["_law_number"]
theorem sc__law_whole : FnScope N__law_whole ["_law_number"] (defScope s__law_whole) := ⟨rfl, rfl, rfl, by decide +kernel, rfl, by decide +kernel, by decide +kernel⟩
abbrev s__law_part : Stmt := topS 30
abbrev N__law_part : List Str := ["_law_count", "_law_part_here"]
theorem sc__law_part : FnScope N__law_part ["_law_count"] (defScope s__law_part) := ⟨rfl, rfl, rfl, by decide +kernel, rfl, by decide +kernel, by decide +kernel⟩
abbrev s__law_due : Stmt := topS 31
abbrev N__law_due : List Str := ["_law_turns", "_law_first", "_law_found", "_law_folds_here", "_law_part_here", "_law_here", "_law_there", "_law_alike", "_law_k"]
theorem sc__law_due : FnScope N__law_due ["_law_turns", "_law_first", "_law_found"] (defScope s__law_due) := ⟨rfl, rfl, rfl, by decide +kernel, rfl, by decide +kernel, by decide +kernel⟩
abbrev s__law_right : Stmt := topS 32
abbrev N__law_right : List Str := ["_law_turns", "_law_first", "_law_found", "_law_one"]
theorem sc__law_right : FnScope N__law_right ["_law_turns", "_law_first"] (defScope s__law_right) := ⟨rfl, rfl, rfl, by decide +kernel, rfl, by decide +kernel, by decide +kernel⟩
abbrev s_law : Stmt := topS 33
abbrev N_law : List Str := ["_law_script", "_law_folds_here", "_law_whole_here", "_law_first", "_law_many", "_law_turns", "_law_at", "_law_bent", "_law_some", "_law_far_here", "_law_one", "_law_k"]
theorem sc_law : FnScope N_law ["_law_script"] (defScope s_law) := ⟨rfl, rfl, rfl, by decide +kernel, rfl, by decide +kernel, by decide +kernel⟩
/-- the built-in names that the text uses, and its constants -/
structure Txt (mg : Str → Option Value) : Prop where
  b_len : mg "len" = none
  b_isinstance : mg "isinstance" = none
  b_int : mg "int" = none
  b_bool : mg "bool" = none
  b_str : mg "str" = none
  b_all : mg "all" = none
  b_enumerate : mg "enumerate" = none
  b_range : mg "range" = none
  b_list : mg "list" = none
  b_min : mg "min" = none
  b_max : mg "max" = none
  b_reversed : mg "reversed" = none
  b_tuple : mg "tuple" = none
  g_LETTERS : ∃ t, mg "LETTERS" = some (.str (("lr" : String) : Str) t)
section
variable {P : Program} {w : World} {K : PySem.W.Frag} {mg : Str → Option Value} {base : Heap}
/-! ### the program's defs -/
/-- is_whole(thing): by its type -/
def sp_is_whole (K : PySem.W.Frag) : Sp := fun vs H Q _ => ∃ (x : V) (t : Value) (b1 b2 : Bool), vs = [x] ∧ TyX K H x t ∧ PySem.W.kitOne K t (.type "int") = some b1 ∧ PySem.W.kitOne K t (.type "bool") = some b2 ∧ Q (.bl (b1 && !b2)) H
theorem ok_is_whole (D : Df K mg "is_whole" s_is_whole ["thing"]) (T : Txt mg) : Ok P w K mg base CX0 1 "is_whole" ["thing"] (sp_is_whole K) := by
  refine D.ok sc_is_whole (fun vs H Q E h => ?_) (fun f cdv A outer s H vs Q E hr h => ?_)
  · obtain ⟨x, t, b1, b2, rfl, _⟩ := h
    rfl
  · obtain ⟨x, t, b1, b2, rfl, ty, k1, k2, q⟩ := h
    refine ⟨_, (pss_one (ps_ret (pe_and (pe_callB call_isi (by rfl) T.b_isinstance (by decide +kernel) (pa_cons (pv 0) (pa_cons (pe_bltn (v := .ty "int") (by rfl) T.b_int (by decide +kernel) rfl) pa_nil))) (pe_one (pe_not (pe_callB call_isi (by rfl) T.b_isinstance (by decide +kernel) (pa_cons (pv 0) (pa_cons (pe_bltn (v := .ty "bool") (by rfl) T.b_bool (by decide +kernel) rfl) pa_nil)))))))), ?_⟩
    refine ⟨_, rfl, x, .ty "int", t, _, b1, rfl, .ty "int", ty, k1, b1, rfl, ?_⟩
    cases b1 with
    | false => exact iteF q
    | true => exact iteT ⟨_, rfl, x, .ty "bool", t, _, b2, rfl, .ty "bool", ty, k2, b2, rfl, q⟩
theorem whole_int {H : Hp} {Q : VK} {E : XK} (i : Int) (q : Q (.bl true) H) : sp_is_whole K [.int i] H Q E :=
  ⟨.int i, _, true, false, rfl, kit_int i, kit_ty (by decide +kernel), kit_ty (by decide +kernel), q⟩
/-- part_of(count) -/
def sp_part_of : Sp := fun vs H Q _ => ∃ n : Nat, vs = [.int (n : Int)] ∧ 0 < n ∧ Q (.int ((pt n : Nat) : Int)) H
theorem ok_part_of (D : Df K mg "part_of" s_part_of ["count"]) : Ok P w K mg base CX0 1 "part_of" ["count"] sp_part_of := by
  refine D.ok sc_part_of (fun vs H Q E h => ?_) (fun f cdv A outer s H vs Q E hr h => ?_)
  · obtain ⟨n, rfl, _⟩ := h
    rfl
  · obtain ⟨n, rfl, n0, q⟩ := h
    refine ⟨_, (pss_cons (ps_set (i := 1) sc_part_of.nd rfl (Or.inl rfl) pe_int)
      (pss_cons (ps_while PassesOwn.never (pt_cmpR op_eq (pe_op op_mod (pv 0) pe_int) pe_int (nomark _)) (pss_cons (ps_set (i := 0) sc_part_of.nd rfl (Or.inl rfl) (pe_op op_fdiv (pv 0) pe_int))
      (pss_one (ps_aug (i := 1) sc_part_of.nd rfl (Or.inl rfl) pe_int ip_add))))
      (pss_one (ps_ret (pv 1))))), ?_⟩
    refine ⟨fun m σ H' => ∃ c d : Nat, σ = [some (.int (c : Int)), some (.int (d : Int))] ∧ H' = H ∧ 0 < c ∧ d + pt c = pt n ∧ m = c, ⟨n, n, 0, rfl, rfl, n0, Nat.zero_add _, rfl⟩, fun m σ H' hW => ?_⟩
    obtain ⟨c, d, rfl, rfl, c0, e, em⟩ := hW
    refine ⟨_, rfl, _, _, rfl, rfl, (by show (0 : Int) < 2; decide), rfl, _, rfl, ite2 (fun h2 => ?_) (fun h2 => ?_)⟩
    · have h3 : (c : Int) % 2 = 0 := V.int.inj (of_decide_eq_true h2)
      refine ⟨fun σ' H'' => ∃ c' d' : Nat, σ' = [some (.int (c' : Int)), some (.int (d' : Int))] ∧ H'' = H' ∧ 0 < c' ∧ d' + pt c' = pt n ∧ c' < m, fun σ' H' hN => ?_, ?_⟩
      · obtain ⟨c', d', e1, e2, e3, e4, e5⟩ := hN
        exact ⟨c', e5, c', d', e1, e2, e3, e4, rfl⟩
      · refine ⟨_, rfl, _, _, rfl, rfl, ⟨by decide, by decide⟩, ?_⟩
        refine ⟨_, rfl, _, _, rfl, rfl, ?_⟩
        refine ⟨c / 2, d + 1, rfl, rfl, by omega, ?_, by omega⟩
        have e6 := pt_half (n := c) (by omega) c0
        omega
    · have h3 : ¬ (c : Int) % 2 = 0 := fun z => h2 (decide_eq_true (congrArg V.int z))
      have e6 := pt_odd (n := c) (by omega)
      refine ⟨_, rfl, ?_⟩
      have e7 : d = pt n := by omega
      rw [e7]
      exact q
/-- opposite(letter) -/
def sp_opposite : Sp := fun vs H Q _ => ∃ b : Bool, vs = [.str (tx [b])] ∧ Q (.str (tx [!b])) H
theorem ok_opposite (D : Df K mg "opposite" s_opposite ["letter"]) : Ok P w K mg base CX0 1 "opposite" ["letter"] sp_opposite := by
  refine D.ok sc_opposite (fun vs H Q E h => ?_) (fun f cdv A outer s H vs Q E hr h => ?_)
  · obtain ⟨b, rfl, _⟩ := h
    rfl
  · obtain ⟨b, rfl, q⟩ := h
    refine ⟨_, (pss_one (ps_ret (pe_ifExp (pt_cmpR op_eq (pv 0) pe_str (nomark _)) pe_str pe_str))), ?_⟩
    refine ⟨_, rfl, rfl, _, rfl, ?_⟩
    rw [tx_l_iff]
    cases b with
    | true => exact iteT (tx_r ▸ q)
    | false => exact iteF (tx_l ▸ q)
/-- is_along(count, part) -/
def sp_is_along : Sp := fun vs H Q _ => ∃ n p : Nat, vs = [.int (n : Int), .int (p : Int)] ∧ Q (.bl (decide (n / 2 ^ p % 4 = 1))) H
theorem and3 (i : Int) (h : 0 ≤ i) : Builtin.bitAnd i 3 = i % 4 := Bits.bitAnd_mask 2 h
theorem ok_is_along (D : Df K mg "is_along" s_is_along ["count", "part"]) : Ok P w K mg base CX0 1 "is_along" ["count", "part"] sp_is_along := by
  refine D.ok sc_is_along (fun vs H Q E h => ?_) (fun f cdv A outer s H vs Q E hr h => ?_)
  · obtain ⟨n, p, rfl, _⟩ := h
    rfl
  · obtain ⟨n, p, rfl, q⟩ := h
    refine ⟨_, (pss_one (ps_ret (pe_cmpR op_eq (pe_op op_andM (pe_op op_shrN (pv 0) (pv 1)) pe_int) pe_int (nomark _)))), ?_⟩
    refine ⟨_, rfl, _, rfl, _, _, rfl, rfl, ?_⟩
    refine ⟨_, 2, rfl, rfl, rfl, ?_⟩
    have e : decide (V.int ((n : Int) / 2 ^ p % 2 ^ 2) = V.int 1) = decide (n / 2 ^ p % 4 = 1) := by
      rw [← cast_pow p]
      by_cases c : n / 2 ^ p % 4 = 1
      · rw [decide_eq_true c, decide_eq_true]
        rw [show (n : Int) / ((2 ^ p : Nat) : Int) = ((n / 2 ^ p : Nat) : Int) from rfl]
        generalize n / 2 ^ p = z at c
        exact congrArg V.int (by omega)
      · rw [decide_eq_false c, decide_eq_false]
        rw [show (n : Int) / ((2 ^ p : Nat) : Int) = ((n / 2 ^ p : Nat) : Int) from rfl]
        generalize n / 2 ^ p = z at c
        exact fun h => c (by have h2 := V.int.inj h; omega)
    show Q (V.bl (decide (V.int ((n : Int) / 2 ^ p % 2 ^ 2) = V.int 1))) H
    rw [e]
    exact q
/-- are_letters(thing) -/
def sp_are_letters (K : PySem.W.Frag) : Sp := fun vs H Q _ =>
  (∃ z : Str, vs = [.str z] ∧ z.length ≤ 10000 ∧ ∀ H', Same H H' → Q (.bl (lets z)) H') ∨ (∃ (x : V) (t : Value), vs = [x] ∧ TyX K H x t ∧ PySem.W.kitOne K t (.type "str") = some false ∧ Q (.bl false) H)
theorem ok_are_letters (D : Df K mg "are_letters" s_are_letters ["thing"]) (T : Txt mg) : Ok P w K mg base CX0 1 "are_letters" ["thing"] (sp_are_letters K) := by
  refine D.ok sc_are_letters (fun vs H Q E h => ?_) (fun f cdv A outer s H vs Q E hr h => ?_)
  · rcases h with ⟨z, rfl, _⟩ | ⟨x, t, rfl, _⟩ <;> rfl
  · have hd : ∃ (x : V) (t : Value) (b : Bool), vs = [x] ∧ TyX K H x t ∧ PySem.W.kitOne K t (.type "str") = some b ∧ ((b = true ∧ ∃ z : Str, x = .str z ∧ z.length ≤ 10000 ∧ ∀ H', Same H H' → Q (.bl (lets z)) H') ∨ (b = false ∧ Q (.bl false) H)) := by
      rcases h with ⟨z, rfl, hz, q⟩ | ⟨x, t, rfl, ty, k, q⟩
      · exact ⟨_, _, true, rfl, kit_str z, kit_ty (by decide +kernel), .inl ⟨rfl, z, rfl, hz, q⟩⟩
      · exact ⟨x, t, false, rfl, ty, k, .inr ⟨rfl, q⟩⟩
    obtain ⟨x, t, b, rfl, ty, k, hq⟩ := hd
    refine ⟨_, (pss_one (ps_ret (pe_and (pe_callB call_isi (by rfl) T.b_isinstance (by decide +kernel) (pa_cons (pv 0) (pa_cons (pe_bltn (v := .ty "str") (by rfl) T.b_str (by decide +kernel) rfl) pa_nil))) (pe_one (pe_callB (cr_all rfl) (by rfl) T.b_all (by decide +kernel) (pa_cons (pe_lc (own := [("sign", 1)]) (g := gName 1) (by rfl) sc_are_letters.nd (pi_str (pv 0)) (blkOk_by (own := [("sign", 1)]) (N := N_are_letters) (sc := defScope s_are_letters) (by decide +kernel)) (fun _ _ _ _ _ => pg_name (i := 1) sc_are_letters.nd rfl (Or.inl rfl)) (fun _ _ _ _ _ => pts_nil) (fun _ _ _ _ _ => (pe_cmpR op_in_sign (pv 1) (pe_glob (v := .str (("lr" : String) : Str)) (by rfl) T.g_LETTERS.choose_spec ⟨_, rfl⟩) rfl))) pa_nil)))))), ?_⟩
    refine ⟨_, rfl, x, .ty "str", t, _, b, rfl, .ty "str", ty, k, b, rfl, ?_⟩
    rcases hq with ⟨rfl, z, rfl, hz, q⟩ | ⟨rfl, q⟩
    · refine iteT ?_
      refine ⟨_, rfl, z, rfl, fun L nL => ?_⟩
      refine lc_it walk_str (fun i H' => Same H H' ∧ H' L = some (.lst (((z.cps.toList.take i).map fun c => decide (c ∈ ((("lr" : String) : Str)).cps.toList)).map V.bl))) ⟨same_upd nL, upd_same⟩ (fun _ _ _ _ => True.intro) ?_ ?_
      · rintro i v H1 H2 hi ⟨sm, hL⟩ ⟨rfl, c, hc, rfl⟩
        refine ⟨rfl, ?_⟩
        refine ⟨_, rfl, c, _, rfl, rfl, _, hL, ?_, fun b' o e => ?_, ?_⟩
        · rw [List.length_map, List.length_map, List.length_take]
          have : z.cps.toList.length = z.length := by simp [Str.length]
          exact lt_line (by omega)
        · rw [upd_ne (ne_of_none e nL)]
          exact sm _ _ e
        · have hc' : z.cps.toList[i]? = some c := by
            rw [Array.getElem?_toList]
            exact hc
          rw [upd_same, List.take_add_one, hc']
          simp
      · rintro H2 ⟨sm, hL⟩
        refine ⟨L, _, rfl, .inl (.inl hL), ?_⟩
        have e : List.take z.cps.size z.cps.toList = z.cps.toList := by
          rw [← Array.length_toList]
          exact List.take_length
        rw [e, List.all_map]
        exact q _ sm
    · exact iteF q
theorem lets_yes {H : Hp} {Q : VK} {E : XK} {bs : List Bool} (hl : bs.length ≤ 10000) (q : ∀ H', Same H H' → Q (.bl true) H') : sp_are_letters K [.str (tx bs)] H Q E :=
  .inl ⟨tx bs, rfl, by rw [tx_len]; exact hl, fun H' sm => by rw [lets_tx]; exact q H' sm⟩
/-- check_folds(folds), folds indeed -/
def sp_check_folds : Sp := fun vs H Q _ => ∃ bs : List Bool, vs = [.str (tx bs)] ∧ bs.length ≤ 10000 ∧ ∀ H', Same H H' → Q .non H'
theorem ok_check_folds (D : Df K mg "check_folds" s_check_folds ["folds"]) (G_are_letters : Ok P w K mg base CX0 1 "are_letters" ["thing"] (sp_are_letters K)) : Ok P w K mg base CX0 2 "check_folds" ["folds"] sp_check_folds := by
  refine D.ok sc_check_folds (fun vs H Q E h => ?_) (fun f cdv A outer s H vs Q E hr h => ?_)
  · obtain ⟨bs, rfl, _⟩ := h
    rfl
  · obtain ⟨bs, rfl, hl, q⟩ := h
    refine ⟨_, (pss_one (ps_if (pt_not (pt_val (pe_c G_are_letters (hr.mono (by decide)) (pa_cons (pv 0) pa_nil))))
      (pss_one ps_never)
      pss_nil)), ?_⟩
    refine ⟨_, rfl, ?_⟩
    dsimp only [tCons, tNil, tFn]
    exact lets_yes hl fun H' sm => ⟨true, rfl, iteF (q _ sm)⟩
/-- way_of(folds, count) -/
def sp_way_of : Sp := fun vs H Q _ => ∃ (bs : List Bool) (n : Nat), vs = [.str (tx bs), .int (n : Int)] ∧ 0 < n ∧ pt n < bs.length ∧ bs.length ≤ 10000 ∧ Q (.str (tx [cr (fb bs) n])) H
theorem ok_way_of (D : Df K mg "way_of" s_way_of ["folds", "count"]) (G_part_of : Ok P w K mg base CX0 1 "part_of" ["count"] sp_part_of) (G_is_along : Ok P w K mg base CX0 1 "is_along" ["count", "part"] sp_is_along)
    (G_opposite : Ok P w K mg base CX0 1 "opposite" ["letter"] sp_opposite) : Ok P w K mg base CX0 2 "way_of" ["folds", "count"] sp_way_of := by
  refine D.ok sc_way_of (fun vs H Q E h => ?_) (fun f cdv A outer s H vs Q E hr h => ?_)
  · obtain ⟨bs, n, rfl, _⟩ := h
    rfl
  · obtain ⟨bs, n, rfl, n0, hp, hl, q⟩ := h
    refine ⟨_, (pss_cons (ps_set (i := 2) sc_way_of.nd rfl (Or.inl rfl) (pe_c G_part_of (hr.mono (by decide)) (pa_cons (pv 1) pa_nil)))
      (pss_cons (ps_if (pt_val (pe_c G_is_along (hr.mono (by decide)) (pa_cons (pv 1) (pa_cons (pv 2) pa_nil))))
      (pss_one (ps_ret (pe_at ix_str (pv 0) (pv 2))))
      pss_nil)
      (pss_one (ps_ret (pe_c G_opposite (hr.mono (by decide)) (pa_cons (pe_at ix_str (pv 0) (pv 2)) pa_nil)))))), ?_⟩
    refine ⟨_, rfl, n, rfl, n0, ?_⟩
    have ea : atI (tx bs).cps.toList ((pt n : Nat) : Int) = some (cd bs[pt n]) := atI_nat (tx_at hp)
    have hz : (tx bs).length ≤ sizeLine := by rw [tx_len]; exact le_line (by omega)
    have ec : cr (fb bs) n = if al n = true then bs[pt n] else !bs[pt n] := by
      unfold cr
      rw [fb_at hp]
    refine ⟨_, rfl, _, rfl, n, pt n, rfl, _, rfl, ?_⟩
    rw [show decide (n / 2 ^ pt n % 4 = 1) = al n from rfl]
    cases ha : al n with
    | true =>
      rw [ha, if_pos rfl] at ec
      refine iteT ⟨_, rfl, _, rfl, tx bs, _, _, rfl, rfl, hz, ea, ?_⟩
      rw [ec] at q
      exact q
    | false =>
      rw [ha, if_neg (by decide)] at ec
      refine iteF ⟨_, rfl, _, rfl, tx bs, _, _, rfl, rfl, hz, ea, bs[pt n], rfl, ?_⟩
      rw [ec] at q
      exact q
/-- steps_of(folds) -/
def sp_steps_of : Sp := fun vs H Q _ => ∃ (z : Str), vs = [.str z] ∧ z.length ≤ 10000 ∧ Q (.int ((2 ^ z.length : Nat) : Int)) H
theorem ok_steps_of (D : Df K mg "steps_of" s_steps_of ["folds"]) (T : Txt mg) : Ok P w K mg base CX0 1 "steps_of" ["folds"] sp_steps_of := by
  refine D.ok sc_steps_of (fun vs H Q E h => ?_) (fun f cdv A outer s H vs Q E hr h => ?_)
  · obtain ⟨z, rfl, _⟩ := h
    rfl
  · obtain ⟨z, rfl, hl, q⟩ := h
    refine ⟨_, (pss_one (ps_ret (pe_op op_oneShl pe_int (pe_callB call_len_str (by rfl) T.b_len (by decide +kernel) (pa_cons (pv 0) pa_nil))))), ?_⟩
    refine ⟨_, rfl, _, rfl, le_line (by omega), _, rfl, rfl, by omega, ?_⟩
    rw [cast_pow] at q
    exact q
theorem steps_tx {H : Hp} {Q : VK} {E : XK} {bs : List Bool} (hl : bs.length ≤ 10000) (q : Q (.int ((2 ^ bs.length : Nat) : Int)) H) : sp_steps_of [.str (tx bs)] H Q E :=
  ⟨tx bs, rfl, by rw [tx_len]; exact hl, by rw [tx_len]; exact q⟩
/-- lefts_of(folds, many) -/
def sp_lefts_of : Sp := fun vs H Q _ => ∃ (bs : List Bool) (n : Nat), vs = [.str (tx bs), .int (n : Int)] ∧ ∀ H', Same H H' → Q (.int ((lf bs n : Nat) : Int)) H'
/-- steps(folds) -/
def sp_steps : Sp := fun vs H Q _ => ∃ bs : List Bool, vs = [.str (tx bs)] ∧ bs.length ≤ 10000 ∧ ∀ H', Same H H' → Q (.int ((2 ^ bs.length : Nat) : Int)) H'
/-- crease(folds, count) -/
def sp_crease : Sp := fun vs H Q _ => ∃ (bs : List Bool) (n : Nat), vs = [.str (tx bs), .int (n : Int)] ∧ bs.length ≤ 10000 ∧ 0 < n ∧ n < 2 ^ bs.length ∧ ∀ H', Same H H' → Q (.str (tx [cr (fb bs) n])) H'
/-- lefts(folds, many) -/
def sp_lefts : Sp := fun vs H Q _ => ∃ (bs : List Bool) (n : Nat), vs = [.str (tx bs), .int (n : Int)] ∧ bs.length ≤ 10000 ∧ n < 2 ^ bs.length ∧ ∀ H', Same H H' → Q (.int ((lf bs n : Nat) : Int)) H'
/-- creases(folds, first, many) -/
def row (f : Nat → Bool) (a m : Nat) : List Bool := (List.range m).map fun k => cr f (a + k)
theorem row_len (f : Nat → Bool) (a m : Nat) : (row f a m).length = m := by
  exact (List.length_map ..).trans List.length_range
theorem row_succ (f : Nat → Bool) (a m : Nat) : row f a (m + 1) = row f a m ++ [cr f (a + m)] := by
  unfold row
  rw [List.range_succ, List.map_append]
  rfl
/-- a list of letters, joined -/
theorem join_tx : ∀ bs : List Bool, Txt.join (("" : String) : Str) (bs.map fun b => tx [b]) = tx bs := by
  intro bs
  rw [TL.join_eq]
  refine TL.ext_tl ?_
  rw [TL.tl_join, List.map_map]
  have e0 : TL.tl (("" : String) : Str) = [] := by decide +kernel
  rw [e0]
  show TL.joinL [] (bs.map fun b => [cd b]) = bs.map cd
  induction bs with
  | nil => rfl
  | cons b r ih =>
    cases r with
    | nil => rfl
    | cons c r =>
      show [cd b] ++ [] ++ TL.joinL [] ((c :: r).map fun b => [cd b]) = _
      rw [ih]
      rfl
theorem join_size : ∀ bs : List Bool, ((bs.map fun b => tx [b]).map (·.length)).sum = bs.length
  | [] => rfl
  | b :: r => by
    rw [List.map_cons, List.map_cons, List.sum_cons, join_size r, List.length_cons, tx_len]
    show 1 + r.length = _
    omega
theorem join_fits {bs : List Bool} (h : bs.length ≤ 10000) : ((bs.map fun b => tx [b]).map (·.length)).sum + (bs.map fun b => tx [b]).length * ((("" : String) : Str)).length ≤ 16777216 := by
  rw [join_size, show ((("" : String) : Str)).length = 0 by decide +kernel]
  omega
def sp_creases : Sp := fun vs H Q _ => ∃ (bs : List Bool) (a m : Nat), vs = [.str (tx bs), .int (a : Int), .int (m : Int)] ∧ bs.length ≤ 10000 ∧ 0 < a ∧ a + m ≤ 2 ^ bs.length ∧ m ≤ 10000 ∧ ∀ H', Same H H' → Q (.str (tx (row (fb bs) a m))) H'
theorem ok_creases (D : Df K mg "creases" s_creases ["folds", "first", "many"]) (T : Txt mg) (G_check_folds : Ok P w K mg base CX0 2 "check_folds" ["folds"] sp_check_folds) (G_is_whole : Ok P w K mg base CX0 1 "is_whole" ["thing"] (sp_is_whole K))
    (G_steps_of : Ok P w K mg base CX0 1 "steps_of" ["folds"] sp_steps_of) (G_way_of : Ok P w K mg base CX0 2 "way_of" ["folds", "count"] sp_way_of) : Ok P w K mg base CX0 3 "creases" ["folds", "first", "many"] sp_creases := by
  refine D.ok sc_creases (fun vs H Q E h => ?_) (fun f cdv A outer s H vs Q E hr h => ?_)
  · obtain ⟨bs, a, m, rfl, _⟩ := h
    rfl
  · obtain ⟨bs, a, m, rfl, hl, a0, am, hm, q⟩ := h
    refine ⟨_, (pss_cons (ps_expr (pe_c G_check_folds (hr.mono (by decide)) (pa_cons (pv 0) pa_nil)))
      (pss_cons (ps_if (PW.pt (pw_or (pt_not (pt_val (pe_c G_is_whole (hr.mono (by decide)) (pa_cons (pv 1) pa_nil)))) (pw_or (pt_not (pt_val (pe_c G_is_whole (hr.mono (by decide)) (pa_cons (pv 2) pa_nil)))) (pw_or (pt_cmpR op_lt (pv 1) pe_int (nomark _)) (pw_or (pt_cmpR op_lt (pv 2) pe_int (nomark _)) (pw_or1 (pt_cmpR op_gt (pe_op op_add (pv 1) (pv 2)) (pe_c G_steps_of (hr.mono (by decide)) (pa_cons (pv 0) pa_nil)) (nomark _))))))))
      (pss_one ps_never)
      pss_nil)
      (pss_one (ps_ret (pe_join pe_str (pe_lc (own := [("k", 3)]) (g := gName 3) (by rfl) sc_creases.nd (pi_range1 (by rfl) T.b_range (pa_cons (pv 2) pa_nil)) (blkOk_by (own := [("k", 3)]) (N := N_creases) (sc := defScope s_creases) (by decide +kernel)) (fun _ _ _ _ _ => pg_name (i := 3) sc_creases.nd rfl (Or.inl rfl)) (fun _ _ _ _ _ => pts_nil) (fun _ _ _ _ _ => (pe_c G_way_of (hr.mono (by decide)) (pa_cons (pv 0) (pa_cons (pe_op op_add (pv 1) (pv 3)) pa_nil)))))))))), ?_⟩
    refine ⟨_, rfl, bs, rfl, hl, fun H1 s1 => ?_⟩
    refine ⟨_, rfl, ?_⟩
    dsimp only [tCons, tNil, tFn]
    refine whole_int _ ⟨true, rfl, iteF ?_⟩
    refine ⟨_, rfl, ?_⟩
    dsimp only [tCons, tNil, tFn]
    refine whole_int _ ⟨true, rfl, iteF ?_⟩
    have c1 : decide ((a : Int) < 1) = false := decide_eq_false (by omega)
    have c2 : decide ((m : Int) < 0) = false := decide_eq_false (by omega)
    refine ⟨_, rfl, _, _, rfl, rfl, _, rfl, iteB c1 (fun z => nomatch z) (fun _ => ?_)⟩
    refine ⟨_, rfl, _, _, rfl, rfl, _, rfl, iteB c2 (fun z => nomatch z) (fun _ => ?_)⟩
    refine ⟨_, rfl, _, rfl, _, _, rfl, rfl, _, rfl, ?_⟩
    dsimp only [tCons, tNil, tFn]
    refine steps_tx hl ?_
    have c3 : decide (((2 ^ bs.length : Nat) : Int) < (a : Int) + (m : Int)) = false := decide_eq_false (by omega)
    refine ⟨_, _, rfl, rfl, _, rfl, iteB c3 (fun z => nomatch z) (fun _ => ?_)⟩
    refine ⟨⟨_, rfl⟩, _, rfl, (m : Int), rfl, by omega, by omega, fun L nL => ?_⟩
    refine lc_range (lo := 0) (n := (m : Int).toNat) (fun i H' => Same H1 H' ∧ H' L = some (.lst (((row (fb bs) a i).map fun b => tx [b]).map V.str))) ⟨same_upd nL, upd_same⟩ ?_ ?_
    · rintro i H2 hi ⟨sm, hL⟩
      refine ⟨rfl, ?_⟩
      have hi' : i < m := by omega
      have e1 : (a : Int) + (0 + (i : Int)) = ((a + i : Nat) : Int) := by omega
      have e2 : a + i < 2 ^ bs.length := by omega
      refine ⟨_, rfl, _, rfl, _, rfl, _, _, rfl, rfl, bs, a + i, congrArg (fun z => [V.str (tx bs), V.int z]) e1, by omega, pt_lt (by omega) e2, hl, _, hL, ?_, fun b' o e => ?_, ?_⟩
      · rw [List.length_map, List.length_map, row_len]
        exact lt_line (by omega)
      · rw [upd_ne (ne_of_none e nL)]
        exact sm _ _ e
      · rw [upd_same, row_succ, List.map_append, List.map_append]
        rfl
    · rintro H2 ⟨sm, hL⟩
      have em : (m : Int).toNat = m := by omega
      rw [em] at hL
      refine ⟨_, L, _, rfl, rfl, .inl (.inl (.inl hL)), join_fits (by rw [row_len]; exact hm), ?_⟩
      rw [join_tx]
      exact q _ (s1.trans sm)
end
end Fw

namespace Fw
open PySem PySem.Spec PyProof.Rows L2 Fc
section
variable {P : Program} {w : World} {K : PySem.W.Frag} {mg : Str → Option Value} {base : Heap}
/-! ### the law's defs -/
/-- the script at a: its ints, their sizes -/
structure Scr (K : PySem.W.Frag) (H : Hp) (a : Addr) (ns : List Int) : Prop where
  at_ : SqL K H a (ns.map V.int)
  len : ns.length ≤ 63
  bits : ∀ z ∈ ns, Builtin.Int.intBits z ≤ 1048576
theorem Scr.mono {H H' : Hp} {a : Addr} {ns : List Int} (S : Scr K H a ns) (s : Same H H') : Scr K H' a ns := ⟨s.seq S.at_, S.len, S.bits⟩
theorem Scr.get {H : Hp} {a : Addr} {ns : List Int} (S : Scr K H a ns) {k : Nat} (hk : k < ns.length) : atI (ns.map V.int) ((k : Nat) : Int) = some (.int ns[k]) :=
  atI_nat (by rw [List.getElem?_map, List.getElem?_eq_getElem hk]; rfl)
theorem Scr.size {H : Hp} {a : Addr} {ns : List Int} (S : Scr K H a ns) {k : Nat} (hk : k < ns.length) : Builtin.Int.intBits ns[k] ≤ 1048576 := S.bits _ (List.getElem_mem hk)
/-- _law_cell_at(script, k) -/
def sp_cell_at (K : PySem.W.Frag) : Sp := fun vs H Q _ => ∃ (a : Addr) (ns : List Int) (k : Nat), vs = [.ref a, .int (k : Int)] ∧ Scr K H a ns ∧ ∀ z, Builtin.Int.intBits z ≤ 1048576 → Q (.int z) H
theorem ok_cell_at (D : Df K mg "_law_cell_at" s__law_cell_at ["_law_script", "_law_k"]) (T : Txt mg) : Ok P w K mg base CX0 1 "_law_cell_at" ["_law_script", "_law_k"] (sp_cell_at K) := by
  refine D.ok sc__law_cell_at (fun vs H Q E h => ?_) (fun f cdv A outer s H vs Q E hr h => ?_)
  · obtain ⟨a, ns, k, rfl, _⟩ := h
    rfl
  · obtain ⟨a, ns, k, rfl, S, q⟩ := h
    refine ⟨_, (pss_cons (ps_if (pt_cmpR op_lt (pv 1) (pe_callB call_len_seq (by rfl) T.b_len (by decide +kernel) (pa_cons (pv 0) pa_nil)) (nomark _))
      (pss_one (ps_ret (pe_at ix_list (pv 0) (pv 1))))
      pss_nil)
      (pss_one (ps_ret pe_int))), ?_⟩
    refine ⟨_, rfl, _, rfl, a, _, rfl, .inl S.at_, _, _, rfl, rfl, _, rfl, ite2 (fun c => ?_) (fun c => ?_)⟩
    · have hk : k < ns.length := by
        have c2 := of_decide_eq_true c
        rw [List.length_map] at c2
        omega
      exact ⟨_, rfl, _, rfl, a, _, _, _, rfl, rfl, S.at_, S.get hk, q _ (S.size hk)⟩
    · exact q 0 (by decide)
/-- _law_draw(cell, k, many): some number below many -/
def sp_draw : Sp := fun vs H Q _ => ∃ (c : Int) (k : Nat) (m : Int), vs = [.int c, .int (k : Int), .int m] ∧ Builtin.Int.intBits c ≤ 1048576 ∧ k ≤ 100000 ∧ 0 < m ∧ ∀ H' r, Same H H' → 0 ≤ r → r < m → Q (.int r) H'
def primes : List V := [.int 1000003, .int 1000033, .int 1000037, .int 1000039, .int 1000081, .int 1000099, .int 1000117, .int 1000121, .int 1000133, .int 1000151, .int 1000159, .int 1000171, .int 1000183, .int 1000187, .int 1000193, .int 1000199]
theorem primes_at {j : Nat} (h : j < 16) : ∃ p : Int, 0 < p ∧ primes[j]? = some (.int p) := by
  have key : (primes.all fun v => match v with | .int p => decide (0 < p) | _ => false) = true := by decide
  have hj : j < primes.length := h
  have e := List.all_eq_true.mp key _ (List.getElem_mem hj)
  rw [List.getElem?_eq_getElem hj]
  revert e
  generalize primes[j] = v
  intro e
  cases v with
  | int p => exact ⟨p, of_decide_eq_true e, rfl⟩
  | _ => exact Bool.noConfusion e
theorem mulx_cell {c : Int} (h : Builtin.Int.intBits c ≤ 1048576) : CMulX c 48271 := by
  have e : Builtin.Int.intBits 48271 = 16 := by decide +kernel
  show (Builtin.Int.intBits c : Int) + (Builtin.Int.intBits 48271 : Int) ≤ 134217728
  rw [e]
  omega
theorem ok_draw (D : Df K mg "_law_draw" s__law_draw ["_law_cell", "_law_k", "_law_many"]) : Ok P w K mg base CX0 1 "_law_draw" ["_law_cell", "_law_k", "_law_many"] sp_draw := by
  refine D.ok sc__law_draw (fun vs H Q E h => ?_) (fun f cdv A outer s H vs Q E hr h => ?_)
  · obtain ⟨c, k, m, rfl, _⟩ := h
    rfl
  · obtain ⟨c, k, m, rfl, hc, hk, hm, q⟩ := h
    refine ⟨_, (pss_cons (ps_set (i := 3) sc__law_draw.nd rfl (Or.inl rfl) (pe_tup (pa_cons pe_int (pa_cons pe_int (pa_cons pe_int (pa_cons pe_int (pa_cons pe_int (pa_cons pe_int (pa_cons pe_int (pa_cons pe_int (pa_cons pe_int (pa_cons pe_int (pa_cons pe_int (pa_cons pe_int (pa_cons pe_int (pa_cons pe_int (pa_cons pe_int (pa_cons pe_int pa_nil))))))))))))))))))
      (pss_one (ps_ret (pe_op op_mod (pe_op op_mod (pe_op op_add (pe_op op_mulX (pv 0) pe_int) (pe_op op_mul (pv 1) pe_int)) (pe_at ix_tup (pv 3) (pe_op op_mod (pv 1) pe_int))) (pv 2))))), ?_⟩
    refine ⟨by show 16 ≤ sizeLine; decide, fun p np => ?_⟩
    obtain ⟨pr, p0, hp⟩ := primes_at (j := k % 16) (by omega)
    refine ⟨_, rfl, _, _, rfl, rfl, mulx_cell hc, _, rfl, _, _, rfl, rfl, .inr ⟨by decide, by decide⟩, _, _, rfl, rfl, ?_⟩
    refine ⟨_, rfl, _, rfl, _, _, rfl, rfl, (by show (0 : Int) < 16; decide), p, primes, _, .int pr, rfl, rfl, .inl (.inl upd_same), ?_, _, _, rfl, rfl, p0, _, rfl, _, _, rfl, rfl, hm, ?_⟩
    · have e : (k : Int) % 16 = ((k % 16 : Nat) : Int) := by omega
      show atI primes ((k : Int) % 16) = some (.int pr)
      rw [e]
      exact atI_nat hp
    · exact q _ _ (same_upd np) (Int.emod_nonneg _ (by omega)) (Int.emod_lt_of_pos _ hm)
/-- _law_folds(script, by): some folds, one for each number -/
def sp_folds (K : PySem.W.Frag) : Sp := fun vs H Q _ => ∃ (a : Addr) (ns : List Int) (b : Nat), vs = [.ref a, .int (b : Int)] ∧ Scr K H a ns ∧ b ≤ 1000 ∧ ∀ H' bs, Same H H' → bs.length = ns.length → Q (.str (tx bs)) H'
theorem lr_at {r : Int} (h0 : 0 ≤ r) (h1 : r < 2) : ∃ b : Bool, atI ((("lr" : String) : Str)).cps.toList r = some (cd b) := by
  rw [lr_list]
  have e : r = 0 ∨ r = 1 := by omega
  rcases e with e | e
  · exact ⟨true, by rw [e]; decide⟩
  · exact ⟨false, by rw [e]; decide⟩
theorem lr_len : ((("lr" : String) : Str)).length ≤ sizeLine := by
  have e : ((("lr" : String) : Str)).length = 2 := by decide +kernel
  rw [e]
  decide
theorem ok_folds (D : Df K mg "_law_folds" s__law_folds ["_law_script", "_law_by"]) (T : Txt mg) (G__law_cell_at : Ok P w K mg base CX0 1 "_law_cell_at" ["_law_script", "_law_k"] (sp_cell_at K)) (G__law_draw : Ok P w K mg base CX0 1 "_law_draw" ["_law_cell", "_law_k", "_law_many"] sp_draw) :
    Ok P w K mg base CX0 2 "_law_folds" ["_law_script", "_law_by"] (sp_folds K) := by
  refine D.ok sc__law_folds (fun vs H Q E h => ?_) (fun f cdv A outer s H vs Q E hr h => ?_)
  · obtain ⟨a, ns, b, rfl, _⟩ := h
    rfl
  · obtain ⟨a, ns, b, rfl, S, hb, q⟩ := h
    refine ⟨_, (pss_cons (ps_set (i := 2) sc__law_folds.nd rfl (Or.inl rfl) (pe_c G__law_draw (hr.mono (by decide)) (pa_cons (pe_c G__law_cell_at (hr.mono (by decide)) (pa_cons (pv 0) (pa_cons pe_int pa_nil))) (pa_cons pe_int (pa_cons pe_int pa_nil)))))
      (pss_cons (ps_set (i := 3) sc__law_folds.nd rfl (Or.inl rfl) pe_str)
      (pss_cons (ps_for PassesOwn.never rfl (pi_range1 (by rfl) T.b_range (pa_cons (pe_callB call_len_seq (by rfl) T.b_len (by decide +kernel) (pa_cons (pv 0) pa_nil)) pa_nil)) (pg_name (i := 4) sc__law_folds.nd rfl (Or.inl rfl))
      (C8.pss_cut (ps_set (i := 5) sc__law_folds.nd rfl (Or.inl rfl) (pe_at ix_str pe_str (pe_c G__law_draw (hr.mono (by decide)) (pa_cons (pe_at ix_list (pv 0) (pv 4)) (pa_cons (pe_op op_add (pe_op op_mod (pv 4) pe_int) (pv 1)) (pa_cons pe_int pa_nil))))))
      (C8.pss_cut (ps_if (pt_cmpR op_eq (pv 2) pe_int (nomark _))
      (pss_one (ps_set (i := 5) sc__law_folds.nd rfl (Or.inl rfl) (pe_at ix_str pe_str (pe_c G__law_draw (hr.mono (by decide)) (pa_cons (pe_at ix_list (pv 0) pe_int) (pa_cons (pv 1) (pa_cons pe_int pa_nil)))))))
      pss_nil)
      (C8.pss_cut (ps_if (pt_cmpR op_eq (pv 2) pe_int (nomark _))
      (pss_one (ps_set (i := 5) sc__law_folds.nd rfl (Or.inl rfl) (pe_at ix_str pe_str (pe_op op_mod (pe_op op_add (pv 4) (pe_c G__law_draw (hr.mono (by decide)) (pa_cons (pe_at ix_list (pv 0) pe_int) (pa_cons (pv 1) (pa_cons pe_int pa_nil))))) pe_int))))
      pss_nil)
      (pss_one (ps_set (i := 3) sc__law_folds.nd rfl (Or.inl rfl) (pe_op op_add_str (pv 3) (pv 5))))))))
      (pss_one (ps_ret (pv 3)))))), ?_⟩
    refine ⟨_, rfl, a, ns, 0, rfl, S, fun z hz => ?_⟩
    refine ⟨z, 6, 4, rfl, hz, by decide, by decide, fun H1 kd s1 k0 k1 => ?_⟩
    have S1 := S.mono s1
    refine ⟨_, rfl, a, _, rfl, .inl S1.at_, _, rfl, ?_, ?_, ?_⟩
    · rw [List.length_map]; omega
    · rw [List.length_map]; have := S.len; omega
    rw [List.length_map]
    refine for_range (lo := 0) (n := ((ns.length : Nat) : Int).toNat) (fun i σ H' => ∃ (bs : List Bool) (x y : Option V), σ = [some (.ref a), some (.int (b : Int)), some (.int kd), some (.str (tx bs)), x, y] ∧ Same H H' ∧ bs.length = i)
      ⟨[], none, none, congrArg (fun z => [some (V.ref a), some (V.int b), some (V.int kd), some (V.str z), none, none]) tx_nil.symm, s1, rfl⟩ ?_ ?_
    · rintro i σ H2 hi ⟨bs, x, y, rfl, s2, hl⟩
      have hi' : i < ns.length := by omega
      have h0 : 0 < ns.length := by omega
      have S2 := S.mono s2
      -- the draws
      have draw : ∀ (H3 : Hp) (c : Int) (j : Nat) (R : VK), Builtin.Int.intBits c ≤ 1048576 → j ≤ 100000 → (∀ H4 u, Same H3 H4 → 0 ≤ u → u < 2 → R (.int u) H4) → sp_draw [.int c, .int (j : Int), .int 2] H3 R E0 :=
        fun H3 c j R h1 h2 h3 => ⟨c, j, 2, rfl, h1, h2, by decide, fun H4 r s a b => h3 H4 r s a b⟩
      have ei : (0 : Int) + (i : Int) = ((i : Nat) : Int) := by omega
      have ej : (0 + (i : Int)) % 5 + (b : Int) = ((i % 5 + b : Nat) : Int) := by omega
      let Mid : L2.St → Hp → Prop := fun σ H' => ∃ l : Bool, σ = [some (.ref a), some (.int (b : Int)), some (.int kd), some (.str (tx bs)), some (.int (0 + (i : Int))), some (.str (tx [l]))] ∧ Same H H'
      -- letter = "lr"[draw(script[k], ..)]
      refine ⟨Mid, ?_, ?_⟩
      · refine ⟨_, rfl, _, rfl, a, _, _, _, rfl, rfl, S2.at_, (show atI (ns.map V.int) (0 + (i : Int)) = _ from by rw [ei]; exact S2.get hi'), ?_⟩
        refine ⟨_, rfl, _, _, rfl, rfl, (by show (0 : Int) < 5; decide), _, rfl, _, _, rfl, rfl, ?_⟩
        dsimp only [tCons, tNil, tFn, tC]
        rw [ej]
        refine draw _ _ _ _ (S2.size hi') (by omega) fun H3 u s3 u0 u1 => ?_
        obtain ⟨l1, el1⟩ := lr_at u0 u1
        exact ⟨_, _, _, rfl, rfl, lr_len, el1, l1, rfl, s2.trans s3⟩
      rintro σ H3 ⟨l1, rfl, s3⟩
      have S3 := S.mono s3
      refine ⟨Mid, ?_, ?_⟩
      · refine ⟨_, rfl, rfl, _, rfl, ite2 (fun e1 => ?_) (fun e1 => ⟨l1, rfl, s3⟩)⟩
        refine ⟨_, rfl, a, _, _, _, rfl, rfl, S3.at_, (show atI (ns.map V.int) ((0 : Nat) : Int) = _ from S3.get h0), _, rfl, ?_⟩
        dsimp only [tCons, tNil, tFn, tC]
        refine draw _ _ b _ (S3.size h0) (by omega) fun H5 u' s5 u0' u1' => ?_
        obtain ⟨l2, el2⟩ := lr_at u0' u1'
        exact ⟨_, _, _, rfl, rfl, lr_len, el2, l2, rfl, s3.trans s5⟩
      clear S3 s3 H3 l1
      rintro σ H3 ⟨l1, rfl, s3⟩
      have S3 := S.mono s3
      refine ⟨Mid, ?_, ?_⟩
      · refine ⟨_, rfl, rfl, _, rfl, ite2 (fun e1 => ?_) (fun e1 => ⟨l1, rfl, s3⟩)⟩
        refine ⟨_, rfl, _, rfl, a, _, _, _, rfl, rfl, S3.at_, (show atI (ns.map V.int) ((0 : Nat) : Int) = _ from S3.get h0), _, rfl, ?_⟩
        dsimp only [tCons, tNil, tFn, tC]
        refine draw _ _ b _ (S3.size h0) (by omega) fun H5 u' s5 u0' u1' => ?_
        refine ⟨_, _, rfl, rfl, _, _, rfl, rfl, (by show (0 : Int) < 2; decide), ?_⟩
        obtain ⟨l2, el2⟩ := lr_at (r := (0 + (i : Int) + u') % 2) (by omega) (by omega)
        exact ⟨_, _, _, rfl, rfl, lr_len, el2, l2, rfl, s3.trans s5⟩
      clear S3 s3 H3 l1
      rintro σ H3 ⟨l1, rfl, s3⟩
      refine ⟨_, rfl, _, rfl, _, _, rfl, rfl, ?_, bs ++ [l1], _, _, congrArg (fun z => [some (V.ref a), some (V.int (b : Int)), some (V.int kd), some (V.str z), _, _]) (tx_append bs [l1]), s3, ?_⟩
      · rw [tx_len, tx_len]
        have := S.len
        exact le_line (by simp only [List.length_singleton]; omega)
      · rw [List.length_append, hl]
        rfl
    · rintro σ H2 ⟨bs, x, y, rfl, s2, hl⟩
      exact ⟨_, rfl, q H2 bs s2 (by omega)⟩
/-- _law_far(script, by, most): some number below most -/
def sp_far (K : PySem.W.Frag) : Sp := fun vs H Q _ => ∃ (a : Addr) (ns : List Int) (b : Nat) (m : Int), vs = [.ref a, .int (b : Int), .int m] ∧ Scr K H a ns ∧ b ≤ 1000 ∧ 0 < m ∧ ∀ H' r, Same H H' → 0 ≤ r → r < m → Q (.int r) H'
theorem far_mul {f : Int} {i : Nat} (h0 : 0 ≤ f) (h : f < 2 ^ (21 * i)) (hi : i ≤ 63) : CMulX f 1000003 := by
  refine mulx_ok (a := 21 * i) (b := 20) ?_ (by decide) (by omega)
  have e : (f.natAbs : Int) < ((2 ^ (21 * i) : Nat) : Int) := by
    rw [cast_pow]
    omega
  omega
theorem far_step {f r : Int} {i : Nat} (h0 : 0 ≤ f) (h : f < 2 ^ (21 * i)) (r0 : 0 ≤ r) (r1 : r < 1000003) : 0 ≤ f * 1000003 + r ∧ f * 1000003 + r < 2 ^ (21 * (i + 1)) := by
  have e : (2 : Int) ^ (21 * (i + 1)) = 2 ^ (21 * i) * 2097152 := by
    rw [show 21 * (i + 1) = 21 * i + 21 by omega, Int.pow_add]
    rfl
  rw [e]
  generalize (2 : Int) ^ (21 * i) = p at h
  omega
theorem ok_far (D : Df K mg "_law_far" s__law_far ["_law_script", "_law_by", "_law_most"]) (T : Txt mg) (G__law_draw : Ok P w K mg base CX0 1 "_law_draw" ["_law_cell", "_law_k", "_law_many"] sp_draw) :
    Ok P w K mg base CX0 2 "_law_far" ["_law_script", "_law_by", "_law_most"] (sp_far K) := by
  refine D.ok sc__law_far (fun vs H Q E h => ?_) (fun f cdv A outer s H vs Q E hr h => ?_)
  · obtain ⟨a, ns, b, m, rfl, _⟩ := h
    rfl
  · obtain ⟨a, ns, b, m, rfl, S, hb, hm, q⟩ := h
    refine ⟨_, (pss_cons (ps_set (i := 3) sc__law_far.nd rfl (Or.inl rfl) pe_int)
      (pss_cons (ps_for PassesOwn.never rfl (pi_range1 (by rfl) T.b_range (pa_cons (pe_callB call_len_seq (by rfl) T.b_len (by decide +kernel) (pa_cons (pv 0) pa_nil)) pa_nil)) (pg_name (i := 4) sc__law_far.nd rfl (Or.inl rfl))
      (pss_one (ps_set (i := 3) sc__law_far.nd rfl (Or.inl rfl) (pe_op op_add (pe_op op_mulX (pv 3) pe_int) (pe_c G__law_draw (hr.mono (by decide)) (pa_cons (pe_at ix_list (pv 0) (pv 4)) (pa_cons (pe_op op_add (pe_op op_mod (pv 4) pe_int) (pv 1)) (pa_cons pe_int pa_nil))))))))
      (pss_one (ps_ret (pe_op op_mod (pv 3) (pv 2)))))), ?_⟩
    refine ⟨_, rfl, a, _, rfl, .inl S.at_, _, rfl, ?_, ?_, ?_⟩
    · rw [List.length_map]; omega
    · rw [List.length_map]; have := S.len; omega
    rw [List.length_map]
    refine for_range (lo := 0) (n := ((ns.length : Nat) : Int).toNat) (fun i σ H' => ∃ (g : Int) (x : Option V), σ = [some (.ref a), some (.int (b : Int)), some (.int m), some (.int g), x] ∧ Same H H' ∧ 0 ≤ g ∧ g < 2 ^ (21 * i))
      ⟨0, none, rfl, Same.refl H, by decide, by decide⟩ ?_ ?_
    · rintro i σ H2 hi ⟨g, x, rfl, s2, g0, g1⟩
      have hi' : i < ns.length := by omega
      have S2 := S.mono s2
      have hl := S.len
      have ei : (0 : Int) + (i : Int) = ((i : Nat) : Int) := by omega
      have ej : (0 + (i : Int)) % 3 + (b : Int) = ((i % 3 + b : Nat) : Int) := by omega
      refine ⟨_, rfl, _, _, rfl, rfl, far_mul g0 g1 (by omega), ?_⟩
      refine ⟨_, rfl, _, rfl, a, _, _, _, rfl, rfl, S2.at_, (show atI (ns.map V.int) (0 + (i : Int)) = _ from by rw [ei]; exact S2.get hi'), ?_⟩
      refine ⟨_, rfl, _, _, rfl, rfl, (by show (0 : Int) < 3; decide), _, rfl, _, _, rfl, rfl, ?_⟩
      dsimp only [tCons, tNil, tFn, tC]
      rw [ej]
      refine ⟨ns[i], i % 3 + b, 1000003, rfl, S2.size hi', by omega, by decide, fun H3 r s3 r0 r1 => ?_⟩
      obtain ⟨h0, h1⟩ := far_step g0 g1 r0 r1
      exact ⟨_, _, rfl, rfl, _, _, rfl, s2.trans s3, h0, h1⟩
    · rintro σ H2 ⟨g, x, rfl, s2, g0, g1⟩
      exact ⟨_, rfl, _, rfl, _, _, rfl, rfl, hm, q _ _ s2 (Int.emod_nonneg _ (by omega)) (Int.emod_lt_of_pos _ hm)⟩
/-- _law_other(letter) -/
theorem sg_r_iff (b : Bool) : decide (V.str (tx [b]) = V.str (("r" : String) : Str)) = !b := tx_r_iff b
theorem ok_other (D : Df K mg "_law_other" s__law_other ["_law_letter"]) : Ok P w K mg base CX0 1 "_law_other" ["_law_letter"] sp_opposite := by
  refine D.ok sc__law_other (fun vs H Q E h => ?_) (fun f cdv A outer s H vs Q E hr h => ?_)
  · obtain ⟨b, rfl, _⟩ := h
    rfl
  · obtain ⟨b, rfl, q⟩ := h
    refine ⟨_, (pss_one (ps_ret (pe_ifExp (pt_cmpR op_eq (pv 0) pe_str (nomark _)) pe_str pe_str))), ?_⟩
    refine ⟨_, rfl, rfl, _, rfl, iteB (tx_r_iff b) (fun e => ?_) (fun e => ?_)⟩
    · rw [e, tx_l] at q
      exact q
    · rw [e, tx_r] at q
      exact q
/-- _law_crease(folds, count): the program's way_of -/
theorem ok_law_crease (D : Df K mg "_law_crease" s__law_crease ["_law_folds_here", "_law_count"]) (G__law_other : Ok P w K mg base CX0 1 "_law_other" ["_law_letter"] sp_opposite) : Ok P w K mg base CX0 2 "_law_crease" ["_law_folds_here", "_law_count"] sp_way_of := by
  refine D.ok sc__law_crease (fun vs H Q E h => ?_) (fun f cdv A outer s H vs Q E hr h => ?_)
  · obtain ⟨bs, n, rfl, _⟩ := h
    rfl
  · obtain ⟨bs, n, rfl, n0, hp, hl, q⟩ := h
    refine ⟨_, (pss_cons (ps_set (i := 2) sc__law_crease.nd rfl (Or.inl rfl) pe_int)
      (pss_cons (ps_while PassesOwn.never (pt_cmpR op_eq (pe_op op_mod (pv 1) pe_int) pe_int (nomark _)) (pss_one (ps_par (by rfl) sc__law_crease.nd (i := 1) (j := 2) rfl rfl (by decide) rfl rfl (pa_cons (pe_op op_fdiv (pv 1) pe_int) (pa_cons (pe_op op_add (pv 2) pe_int) pa_nil)) (by rfl))))
      (pss_one (ps_ret (pe_ifExp (pt_cmpR op_eq (pe_op op_mod (pe_op op_fdiv (pv 1) pe_int) pe_int) pe_int (nomark _)) (pe_at ix_str (pv 0) (pv 2)) (pe_c G__law_other (hr.mono (by decide)) (pa_cons (pe_at ix_str (pv 0) (pv 2)) pa_nil))))))), ?_⟩
    refine ⟨fun m σ H' => ∃ c d : Nat, σ = [some (.str (tx bs)), some (.int (c : Int)), some (.int (d : Int))] ∧ H' = H ∧ 0 < c ∧ d + pt c = pt n ∧ n = c * 2 ^ d ∧ m = c, ⟨n, n, 0, rfl, rfl, n0, Nat.zero_add _, by simp, rfl⟩, fun m σ H' hW => ?_⟩
    obtain ⟨c, d, rfl, rfl, c0, e, ed, em⟩ := hW
    refine ⟨_, rfl, _, _, rfl, rfl, (by show (0 : Int) < 2; decide), rfl, _, rfl, ite2 (fun h2 => ?_) (fun h2 => ?_)⟩
    · have h3 : (c : Int) % 2 = 0 := V.int.inj (of_decide_eq_true h2)
      refine ⟨fun σ' H'' => ∃ c' d' : Nat, σ' = [some (.str (tx bs)), some (.int (c' : Int)), some (.int (d' : Int))] ∧ H'' = H' ∧ 0 < c' ∧ d' + pt c' = pt n ∧ n = c' * 2 ^ d' ∧ c' < m, fun σ' H' hN => ?_, ?_⟩
      · obtain ⟨c', d', e1, e2, e3, e4, e5, e6⟩ := hN
        exact ⟨c', e6, c', d', e1, e2, e3, e4, e5, rfl⟩
      · refine ⟨_, rfl, _, _, rfl, rfl, ⟨by decide, by decide⟩, _, rfl, _, _, rfl, rfl, _, _, rfl, ?_⟩
        refine ⟨c / 2, d + 1, rfl, rfl, by omega, ?_, ?_, by omega⟩
        · have e6 := pt_half (n := c) (by omega) c0
          omega
        · obtain ⟨k, hk⟩ : ∃ k, c = k * 2 := ⟨c / 2, by omega⟩
          rw [ed, Nat.pow_succ, hk, Nat.mul_div_cancel _ (by omega), Nat.mul_assoc, Nat.mul_comm 2 (2 ^ d)]
    · have h3 : ¬ (c : Int) % 2 = 0 := fun z => h2 (decide_eq_true (congrArg V.int z))
      have e6 := pt_odd (n := c) (by omega)
      have e7 : d = pt n := by omega
      have ec : n / 2 ^ pt n = c := by
        rw [← e7, ed]
        exact Nat.mul_div_cancel _ (Nat.pow_pos (by omega))
      have ea : al n = decide (c / 2 % 2 = 0) := by
        unfold al
        rw [ec]
        by_cases z : c / 2 % 2 = 0
        · rw [decide_eq_true z, decide_eq_true (by omega)]
        · rw [decide_eq_false z, decide_eq_false (by omega)]
      have eg : atI (tx bs).cps.toList ((d : Nat) : Int) = some (cd bs[pt n]) := by
        rw [e7]
        exact atI_nat (tx_at hp)
      have hz : (tx bs).length ≤ sizeLine := by rw [tx_len]; exact le_line (by omega)
      have ek : cr (fb bs) n = if al n = true then bs[pt n] else !bs[pt n] := by
        unfold cr
        rw [fb_at hp]
      refine ⟨_, rfl, _, _, rfl, rfl, ⟨by decide, by decide⟩, _, _, rfl, rfl, (by show (0 : Int) < 2; decide), rfl, _, rfl, ?_⟩
      have et : decide (V.int ((c : Int) / 2 % 2) = V.int 0) = al n := by
        rw [ea]
        by_cases z : c / 2 % 2 = 0
        · rw [decide_eq_true z, decide_eq_true (congrArg V.int (by omega))]
        · rw [decide_eq_false z, decide_eq_false fun y => z (by have := V.int.inj y; omega)]
      refine iteB et (fun y => ?_) (fun y => ?_)
      · rw [y, if_pos rfl] at ek
        refine ⟨_, rfl, _, rfl, tx bs, _, _, rfl, rfl, hz, eg, ?_⟩
        rw [ek] at q
        exact q
      · rw [y, if_neg (by decide)] at ek
        refine ⟨_, rfl, _, rfl, tx bs, _, _, rfl, rfl, hz, eg, bs[pt n], rfl, ?_⟩
        rw [ek] at q
        exact q
/-- _law_whole(number) -/
theorem ok_law_whole (D : Df K mg "_law_whole" s__law_whole ["_law_number"]) (T : Txt mg) : Ok P w K mg base CX0 1 "_law_whole" ["_law_number"] (sp_is_whole K) := by
  refine D.ok sc__law_whole (fun vs H Q E h => ?_) (fun f cdv A outer s H vs Q E hr h => ?_)
  · obtain ⟨x, t, b1, b2, rfl, _⟩ := h
    rfl
  · obtain ⟨x, t, b1, b2, rfl, ty, k1, k2, q⟩ := h
    refine ⟨_, (pss_one (ps_ret (pe_and (pe_callB call_isi (by rfl) T.b_isinstance (by decide +kernel) (pa_cons (pv 0) (pa_cons (pe_bltn (v := .ty "int") (by rfl) T.b_int (by decide +kernel) rfl) pa_nil))) (pe_one (pe_not (pe_callB call_isi (by rfl) T.b_isinstance (by decide +kernel) (pa_cons (pv 0) (pa_cons (pe_bltn (v := .ty "bool") (by rfl) T.b_bool (by decide +kernel) rfl) pa_nil)))))))), ?_⟩
    refine ⟨_, rfl, x, .ty "int", t, _, b1, rfl, .ty "int", ty, k1, b1, rfl, ?_⟩
    cases b1 with
    | false => exact iteF q
    | true => exact iteT ⟨_, rfl, x, .ty "bool", t, _, b2, rfl, .ty "bool", ty, k2, b2, rfl, q⟩
end
end Fw

namespace Fw
open PySem PySem.Spec PyProof.Rows L2 Fc
/-! ### methods -/
structure Mf (K : PySem.W.Frag) (C : Addr) (m qual : Str) (st : Stmt) (ps : List Str) : Prop where
  ex : ∃ f fd, Fun K m qual st f fd ∧ Meth K C m f ∧ Binds K fd ps []
structure Om (P : Program) (w : World) (K : PySem.W.Frag) (mg : Str → Option Value) (base : Heap) (CX : CXT) (k : Nat) (C : Addr) (m : Str) (ps : List Str) (sp : Sp) : Prop where
  ex : ∃ f fd, FnOk P w K mg base CX k f fd ps sp ∧ Meth K C m f ∧ Binds K fd ps []
theorem Mf.ok {P : Program} {w : World} {K : PySem.W.Frag} {mg : Str → Option Value} {base : Heap} {C : Addr} {m qual : Str} {st : Stmt} {N ps : List Str} {k : Nat} {sp : Sp} (D : Mf K C m qual st ps) (S : FnScope N ps (defScope st)) (len : ∀ vs H Q E, sp vs H Q E → vs.length = ps.length)
    (hbody : ∀ (f : Addr) (cdv : Value) (A : Around) (outer : List Env) (s : Shared) (H : Hp) (vs : List V) (Q : VK) (E : XK), Room k (A.deeper (envOfC qual (defScope st) s.heap.objs.size f cdv)) → sp vs H Q E →
      ∃ t, PSs (cxOf CX0 P w K mg base N qual (defScope st) f cdv A outer s H E).nox (defBody st) t ∧ t { nx := fun _ H' => Q .non H', rt := Q } (start N vs) H) : Om P w K mg base CX0 (k + 1) C m ps sp := by
  obtain ⟨f, fd, F, g, b⟩ := D.ex
  exact ⟨f, fd, F.ok S len (hbody f), g, b⟩
section
variable {X : Cx} {k : Nat} {C : Addr} {m x : Str} {ps : List Str} {sp : Sp} {p pos apos : Pos} {e o : Expr} {es : List Expr} {ta : TE} {t : TA}
/-- o.f, the written part by its own name (within a comprehension X changes, K does not) -/
theorem pe_fd {g : Str} {K' : PySem.W.Frag} (he : PE X e ta) (hb : attributeBase e g X.env (eval e X.env) = eval e X.env := by rfl) (hK : X.K = K' := by rfl) : PE X (.Attribute e g pos) (tFld K' ta g) := hK ▸ pe_fld he hb
/-- o.m(e, ..) -/
theorem pe_m {pl : Sem Bool} (cl : Cls X.K C) (F : Om X.prog X.w X.K X.mg X.base CX0 k C m ps sp) (hr : Room k X.A) (he : PE X o ta) (ha : PA X (e :: es) t)
    (hst : starEach (e :: es) X.env = (false, eval e X.env) :: starEach es X.env := by rfl) (hpl : (backTo pos (starEach es X.env)).any (·.1) = false := by rfl)
    (ht : eval (.Call (.Attribute o m apos) (e :: es) [] pos) X.env = (do
      let ov ← eval o X.env
      standAt apos.atName
      let (f, first) ← holding [ov] (getMethod ov m pl)
      callWith pos f first (backTo pos (starEach (e :: es) X.env)) (backToKw pos (keywordEach [] X.env))) := by rfl) :
    PE X (.Call (.Attribute o m apos) (e :: es) [] pos) (tMeth C m sp [] E0 ta t) := by
  obtain ⟨f, fd, G, g, b⟩ := F.ex
  exact pe_meth he cl g G hr b .nil pass0 ha hst hpl ht
/-- a new instance, by its __init__ -/
theorem pe_mkI (mk : PySem.W.makesIn X.K C = true) (kc : PySem.W.keepIn X.K (.ref C) = true) (hm : X.mg x = some (.ref C)) (F : Om X.prog X.w X.K X.mg X.base CX0 k C "__init__" ps sp) (hr : Room (k + 1) X.A) (ha : PA X (e :: es) t) (hg : Gl X x := by rfl)
    (hdb : (x == ("__debug__" : Str)) = false := by decide) (one : starEach (e :: es) X.env = (false, eval e X.env) :: starEach es X.env := by rfl) (no : (backTo pos (starEach es X.env)).any (·.1) = false := by rfl) :
    PE X (.Call (.Name x p) (e :: es) [] pos) (tMake C sp [] E0 t) := by
  obtain ⟨f, fd, G, g, b⟩ := F.ex
  exact pe_make ⟨mk, g.at_, g.fn, kc⟩ G hr hg hm b .nil pass0 ha hdb one no
end
/-- isinstance, for classes of the text -/
theorem kit_self {K : PySem.W.Frag} (D : Addr) : PySem.W.kitOne K (.ref D) (.ref D) = some true := if_pos (beq_self_eq_true _)
theorem kit_cls_of {K : PySem.W.Frag} {t : Value} {D : Addr} {r : Bool} (h1 : PySem.W.isClsIn K D = true) (h2 : PySem.W.typeIn K (.ref D) = some (.type "type")) (h3 : PySem.W.subIn K t (.ref D) = some r) : PySem.W.kitCls K t (.ref D) = some r := by
  have e : ((PySem.W.clsIn K D).isSome && PySem.W.typeIn K (.ref D) == some (.type "type")) = true := by
    rw [show (PySem.W.clsIn K D).isSome = true from h1, h2] <;> rfl
  show (if ((PySem.W.clsIn K D).isSome && PySem.W.typeIn K (.ref D) == some (.type "type")) = true then PySem.W.subIn K t (.ref D) else none) = some r
  rw [if_pos e]
  exact h3
theorem kit_yes {K : PySem.W.Frag} {t : Value} {D : Addr} (h1 : PySem.W.isClsIn K D = true) (h2 : PySem.W.typeIn K (.ref D) = some (.type "type")) (h3 : PySem.W.subIn K t (.ref D) = some true) : PySem.W.kitOne K t (.ref D) = some true := by
  unfold PySem.W.kitOne
  by_cases e : (t == Value.ref D) = true
  · exact if_pos e
  · rw [if_neg e]
    exact kit_cls_of h1 h2 h3
theorem kit_no {K : PySem.W.Frag} {B D : Addr} (ne : B ≠ D) (h1 : PySem.W.isClsIn K D = true) (h2 : PySem.W.typeIn K (.ref D) = some (.type "type")) (h3 : PySem.W.subIn K (.ref B) (.ref D) = some false) : PySem.W.kitOne K (.ref B) (.ref D) = some false := by
  unfold PySem.W.kitOne
  rw [if_neg fun e => ne (Value.ref.inj (beq_iff_eq.mp e))]
  exact kit_cls_of h1 h2 h3
theorem own_ne {K : PySem.W.Frag} {B D : Addr} (h1 : PySem.W.subIn K (.ref B) (.ref B) = some true) (h2 : PySem.W.subIn K (.ref B) (.ref D) = some false) : B ≠ D := fun e => by
  rw [← e, h1] at h2
  cases h2
/-- what the top has written of the answers' classes -/
structure CC (K : PySem.W.Frag) (mg : Str → Option Value) (CA CF CU : Addr) : Prop where
  gA : mg "Answer" = some (.ref CA)
  gF : mg "Folds" = some (.ref CF)
  gU : mg "Unlike" = some (.ref CU)
  clF : Cls K CF
  clU : Cls K CU
  mkF : PySem.W.makesIn K CF = true
  mkU : PySem.W.makesIn K CU = true
  kF : PySem.W.keepIn K (.ref CF) = true
  kU : PySem.W.keepIn K (.ref CU) = true
  haF : PySem.W.findIn K (.ref CF) "__class__" = some (some (.builtin "object.__class__"))
  haU : PySem.W.findIn K (.ref CU) "__class__" = some (some (.builtin "object.__class__"))
  hmF : PySem.W.mroIn K CF (.type "object") = some true
  hmU : PySem.W.mroIn K CU (.type "object") = some true
  getset : PySem.W.specialIn K (.builtin "object.__class__") "__get__" = some (some (.builtin "getset_descriptor.__get__"))
  taken : PySem.W.takesIn K (.builtin "object.__class__") = some true
  FA : PySem.W.kitOne K (.ref CF) (.ref CA) = some true
  FF : PySem.W.kitOne K (.ref CF) (.ref CF) = some true
  FU : PySem.W.kitOne K (.ref CF) (.ref CU) = some false
  UA : PySem.W.kitOne K (.ref CU) (.ref CA) = some true
  UF : PySem.W.kitOne K (.ref CU) (.ref CF) = some false
  UU : PySem.W.kitOne K (.ref CU) (.ref CU) = some true
  nF : NoAttr K CF "folds"
  nO : NoAttr K CU "one"
  nT : NoAttr K CU "other"
/-- the fields of an answer -/
def fF (v : V) : List (Str × V) := putF "folds" v []
def fU (i j : V) : List (Str × V) := putF "other" j (putF "one" i [])
theorem fF_folds (v : V) : (fF v).lookup ("folds" : Str) = some v := by
  unfold fF
  rw [lookup_putF, if_pos rfl]
theorem fF_no (v : V) {m : Str} (h : ¬ m = "folds") : (fF v).lookup m = none := by
  unfold fF
  rw [lookup_putF, if_neg h]
  rfl
theorem fU_one (i j : V) : (fU i j).lookup ("one" : Str) = some i := by
  unfold fU
  rw [lookup_putF, if_neg (by decide +kernel), lookup_putF, if_pos rfl]
theorem fU_other (i j : V) : (fU i j).lookup ("other" : Str) = some j := by
  unfold fU
  rw [lookup_putF, if_pos rfl]
theorem fU_no (i j : V) {m : Str} (h1 : ¬ m = "one") (h2 : ¬ m = "other") : (fU i j).lookup m = none := by
  unfold fU
  rw [lookup_putF, if_neg h2, lookup_putF, if_neg h1]
  rfl
section
variable {P : Program} {w : World} {K : PySem.W.Frag} {mg : Str → Option Value} {base : Heap} {CA CF CU : Addr}
/-! ### the answers -/
def sp_initF (CF : Addr) : Sp := fun vs H Q _ => ∃ (p dx : Addr) (v : V), vs = [.ref p, v] ∧ H p = some (.ins CF dx []) ∧ Q .non (upd H p (.ins CF dx (fF v)))
theorem ok_initF (D : Mf K CF "__init__" "Folds.__init__" s_Folds___init__ ["self", "folds"]) (C : CC K mg CA CF CU) : Om P w K mg base CX0 1 CF "__init__" ["self", "folds"] (sp_initF CF) := by
  refine D.ok sc_Folds___init__ (fun vs H Q E h => ?_) (fun f cdv A outer s H vs Q E hr h => ?_)
  · obtain ⟨p, dx, v, rfl, _⟩ := h
    rfl
  · obtain ⟨p, dx, v, rfl, hp, q⟩ := h
    refine ⟨_, (pss_one (ps_fld (pv 0) (pv 1) rfl)), ?_⟩
    exact ⟨_, rfl, _, rfl, p, CF, dx, [], rfl, hp, C.clF, C.nF, (by show 0 < 1000; decide), q⟩
def sp_initU (CU : Addr) : Sp := fun vs H Q _ => ∃ (p dx : Addr) (i j : V), vs = [.ref p, i, j] ∧ H p = some (.ins CU dx []) ∧ ∀ H', H' p = some (.ins CU dx (fU i j)) → (∀ b, b ≠ p → H' b = H b) → Q .non H'
theorem ok_initU (D : Mf K CU "__init__" "Unlike.__init__" s_Unlike___init__ ["self", "one", "other"]) (C : CC K mg CA CF CU) : Om P w K mg base CX0 1 CU "__init__" ["self", "one", "other"] (sp_initU CU) := by
  refine D.ok sc_Unlike___init__ (fun vs H Q E h => ?_) (fun f cdv A outer s H vs Q E hr h => ?_)
  · obtain ⟨p, dx, i, j, rfl, _⟩ := h
    rfl
  · obtain ⟨p, dx, i, j, rfl, hp, q⟩ := h
    refine ⟨_, (pss_cons (ps_fld (pv 0) (pv 1) rfl)
      (pss_one (ps_fld (pv 0) (pv 2) rfl))), ?_⟩
    refine ⟨_, rfl, _, rfl, p, CU, dx, [], rfl, hp, C.clU, C.nO, (by show 0 < 1000; decide), ?_⟩
    refine ⟨_, rfl, _, rfl, p, CU, dx, _, rfl, upd_same, C.clU, C.nT, (by show 1 < 1000; decide), ?_⟩
    refine q _ upd_same fun b hb => ?_
    rw [upd_ne hb, upd_ne hb]
/-- whether folds show the turns from one on -/
def shF (bs ts : List Bool) (a : Nat) : Bool := decide (a + ts.length ≤ 2 ^ bs.length) && (List.range ts.length).all fun k => cr (fb bs) (a + k) == ts.getD k true
theorem shF_long {bs ts : List Bool} {a : Nat} (h : ¬ a + ts.length ≤ 2 ^ bs.length) : shF bs ts a = false := by
  unfold shF
  rw [decide_eq_false h]
  rfl
theorem shF_all {bs ts : List Bool} {a : Nat} (h : a + ts.length ≤ 2 ^ bs.length) : shF bs ts a = (List.range ts.length).all fun k => cr (fb bs) (a + k) == ts.getD k true := by
  unfold shF
  rw [decide_eq_true h]
  rfl
theorem getD_at {ts : List Bool} {k : Nat} (h : k < ts.length) : ts.getD k true = ts[k] := by
  rw [List.getD_eq_getElem?_getD, List.getElem?_eq_getElem h]
  rfl
theorem sg_eq (a b : Bool) : decide (V.str (tx [a]) = V.str ⟨#[cd b]⟩) = (a == b) := by
  rw [show (⟨#[cd b]⟩ : Str) = tx [b] from rfl, vtx_iff]
  cases a <;> cases b <;> rfl
theorem sg_eq2 (a b : Bool) : decide (V.str ⟨#[cd a]⟩ = V.str ⟨#[cd b]⟩) = (a == b) := sg_eq a b
def sp_showsF (CF : Addr) : Sp := fun vs H Q _ => ∃ (p dx : Addr) (z : Str) (ts : List Bool) (a : Nat), vs = [.ref p, .str (tx ts), .int (a : Int)] ∧ H p = some (.ins CF dx (fF (.str z))) ∧ z.length ≤ 10000 ∧ ts.length ≤ 10000 ∧ 0 < a ∧
  ((∃ bs, z = tx bs ∧ ∀ H', Same H H' → Q (.bl (shF bs ts a)) H') ∨ (lets z = false ∧ ∀ H', Same H H' → Q (.bl false) H'))
theorem ok_showsF (D : Mf K CF "shows" "Folds.shows" s_Folds_shows ["self", "turns", "first"]) (C : CC K mg CA CF CU) (T : Txt mg) (G_are_letters : Ok P w K mg base CX0 1 "are_letters" ["thing"] (sp_are_letters K)) (G_way_of : Ok P w K mg base CX0 2 "way_of" ["folds", "count"] sp_way_of) :
    Om P w K mg base CX0 3 CF "shows" ["self", "turns", "first"] (sp_showsF CF) := by
  refine D.ok sc_Folds_shows (fun vs H Q E h => ?_) (fun f cdv A outer s H vs Q E hr h => ?_)
  · obtain ⟨p, dx, z, ts, a, rfl, _⟩ := h
    rfl
  · obtain ⟨p, dx, z, ts, a, rfl, hp, hz, ht, a0, q⟩ := h
    refine ⟨_, (pss_cons (ps_if (PW.pt (pw_or (pt_not (pt_val (pe_c G_are_letters (hr.mono (by decide)) (pa_cons (pe_fd (K' := K) (pv 0)) pa_nil)))) (pw_or1 (pt_cmpR op_gt (pe_op op_add (pv 2) (pe_callB call_len_str (by rfl) T.b_len (by decide +kernel) (pa_cons (pv 1) pa_nil))) (pe_op op_oneShlN pe_int (pe_callB call_len_str (by rfl) T.b_len (by decide +kernel) (pa_cons (pe_fd (K' := K) (pv 0)) pa_nil))) (nomark _)))))
      (pss_one (ps_ret pe_bl))
      pss_nil)
      (pss_one (ps_ret (pe_callB (cr_all rfl) (by rfl) T.b_all (by decide +kernel) (pa_cons (pe_lc (own := [("k", 3)]) (g := gName 3) (by rfl) sc_Folds_shows.nd (pi_range1 (by rfl) T.b_range (pa_cons (pe_callB call_len_str (by rfl) T.b_len (by decide +kernel) (pa_cons (pv 1) pa_nil)) pa_nil)) (blkOk_by (own := [("k", 3)]) (N := N_Folds_shows) (sc := defScope s_Folds_shows) (by decide +kernel)) (fun _ _ _ _ _ => pg_name (i := 3) sc_Folds_shows.nd rfl (Or.inl rfl)) (fun _ _ _ _ _ => pts_nil) (fun _ _ _ _ _ => (pe_cmpR op_eq (pe_c G_way_of (hr.mono (by decide)) (pa_cons (pe_fd (K' := K) (pv 0)) (pa_cons (pe_op op_add (pv 2) (pv 3)) pa_nil))) (pe_at ix_str (pv 1) (pv 3)) (nomark _)))) pa_nil))))), ?_⟩
    refine ⟨_, rfl, p, CF, dx, _, _, rfl, hp, C.clF, C.nF, fF_folds _, .inl ⟨z, rfl, hz, fun H1 s1 => ⟨_, rfl, ?_⟩⟩⟩
    rcases q with ⟨bs, rfl, q⟩ | ⟨no, q⟩
    · rw [lets_tx]
      have hl : bs.length ≤ 10000 := by rw [tx_len] at hz; exact hz
      have hp1 := s1 _ _ hp
      refine iteF ?_
      refine ⟨_, rfl, _, rfl, tx ts, rfl, le_line (by rw [tx_len]; omega), _, _, rfl, rfl, _, rfl, p, CF, dx, _, _, rfl, hp1, C.clF, C.nF, fF_folds _, tx bs, rfl, le_line (by rw [tx_len]; omega), _, rfl, rfl, by rw [tx_len]; omega, _, _, rfl, rfl, _, rfl, ite2 (fun c => ?_) (fun c => ?_)⟩
      · have c1 : ¬ a + ts.length ≤ 2 ^ bs.length := by
          have z := of_decide_eq_true c
          rw [tx_len, tx_len] at z
          omega
        have q1 := q H1 s1
        rw [shF_long c1] at q1
        exact q1
      · have c1 : a + ts.length ≤ 2 ^ bs.length := by
          refine Decidable.byContradiction fun y => c (decide_eq_true ?_)
          rw [tx_len, tx_len]
          omega
        refine ⟨_, rfl, tx ts, rfl, le_line (by rw [tx_len]; omega), _, rfl, by omega, by rw [tx_len]; omega, fun L nL => ?_⟩
        refine lc_range (lo := 0) (n := ((tx ts).length : Int).toNat) (fun i H' => Same H1 H' ∧ H' L = some (.lst (((List.range i).map fun k => cr (fb bs) (a + k) == ts.getD k true).map V.bl))) ⟨same_upd nL, upd_same⟩ ?_ ?_
        · rintro i H2 hi ⟨sm, hL⟩
          refine ⟨rfl, ?_⟩
          have hi' : i < ts.length := by rw [tx_len] at hi; omega
          have e1 : (a : Int) + (0 + (i : Int)) = ((a + i : Nat) : Int) := by omega
          have e2 : a + i < 2 ^ bs.length := by omega
          have e3 : (0 : Int) + (i : Int) = ((i : Nat) : Int) := by omega
          refine ⟨_, rfl, p, CF, dx, _, _, rfl, sm _ _ hp1, C.clF, C.nF, fF_folds _, _, rfl, _, rfl, _, _, rfl, rfl, bs, a + i, congrArg (fun z => [V.str (tx bs), V.int z]) e1, by omega, pt_lt (by omega) e2, hl, ?_⟩
          refine ⟨_, rfl, _, rfl, tx ts, _, cd ts[i], rfl, rfl, le_line (by rw [tx_len]; omega), (by rw [e3]; exact atI_nat (tx_at hi')), rfl, _, hL, ?_, fun b o e => ?_, ?_⟩
          · rw [List.length_map, List.length_map, List.length_range]
            exact lt_line (by omega)
          · rw [upd_ne (ne_of_none e nL)]
            exact sm _ _ e
          · rw [upd_same, List.range_succ, List.map_append, List.map_append, sg_eq, ← getD_at hi']
            rfl
        · rintro H2 ⟨sm, hL⟩
          refine ⟨L, _, rfl, .inl (.inl hL), ?_⟩
          have q1 := q H2 (s1.trans sm)
          rw [shF_all c1] at q1
          rw [List.all_map, tx_len, Int.toNat_natCast]
          exact q1
    · rw [no]
      exact iteT (q H1 s1)
/-- whether two places bar the turns -/
def shU (ts : List Bool) (a : Nat) (i j : Int) : Bool :=
  decide (0 ≤ i ∧ i < j ∧ j < ts.length) && (decide (pt (a + i.toNat) = pt (a + j.toNat)) && !((ts.getD i.toNat true == ts.getD j.toNat true) == (al (a + i.toNat) == al (a + j.toNat))))
theorem shU_out {ts : List Bool} {a : Nat} {i j : Int} (h : ¬ (0 ≤ i ∧ i < j ∧ j < ts.length)) : shU ts a i j = false := by
  unfold shU
  rw [decide_eq_false h]
  rfl
theorem shU_part {ts : List Bool} {a : Nat} {i j : Int} (h : ¬ pt (a + i.toNat) = pt (a + j.toNat)) : shU ts a i j = false := by
  unfold shU
  rw [decide_eq_false h, Bool.false_and, Bool.and_false]
theorem shU_in {ts : List Bool} {a : Nat} {i j : Int} (h : 0 ≤ i ∧ i < j ∧ j < ts.length) (h2 : pt (a + i.toNat) = pt (a + j.toNat)) : shU ts a i j = !((ts.getD i.toNat true == ts.getD j.toNat true) == (al (a + i.toNat) == al (a + j.toNat))) := by
  unfold shU
  rw [decide_eq_true h, decide_eq_true h2]
  rfl
def sp_showsU (CU : Addr) : Sp := fun vs H Q _ => ∃ (p dx : Addr) (i j : Int) (ts : List Bool) (a : Nat), vs = [.ref p, .str (tx ts), .int (a : Int)] ∧ H p = some (.ins CU dx (fU (.int i) (.int j))) ∧ ts.length ≤ 10000 ∧ 0 < a ∧ Q (.bl (shU ts a i j)) H
theorem ne_bl (x y : Bool) : (!decide (V.bl x = V.bl y)) = !(x == y) := by
  cases x <;> cases y <;> rfl
theorem eq_bl (x y : Bool) : decide (V.bl x = V.bl y) = (x == y) := by
  cases x <;> cases y <;> rfl
theorem ok_showsU (D : Mf K CU "shows" "Unlike.shows" s_Unlike_shows ["self", "turns", "first"]) (C : CC K mg CA CF CU) (T : Txt mg) (G_part_of : Ok P w K mg base CX0 1 "part_of" ["count"] sp_part_of) (G_is_along : Ok P w K mg base CX0 1 "is_along" ["count", "part"] sp_is_along) :
    Om P w K mg base CX0 2 CU "shows" ["self", "turns", "first"] (sp_showsU CU) := by
  refine D.ok sc_Unlike_shows (fun vs H Q E h => ?_) (fun f cdv A outer s H vs Q E hr h => ?_)
  · obtain ⟨p, dx, i, j, ts, a, rfl, _⟩ := h
    rfl
  · obtain ⟨p, dx, i, j, ts, a, rfl, hp, ht, a0, q⟩ := h
    refine ⟨_, (pss_cons (ps_if (pt_not (pt_chain3 op_le op_lt op_lt pe_int (pe_fd (K' := K) (pv 0)) (pe_fd (K' := K) (pv 0)) (pe_callB call_len_str (by rfl) T.b_len (by decide +kernel) (pa_cons (pv 1) pa_nil))))
      (pss_one (ps_ret pe_bl))
      pss_nil)
      (pss_cons (ps_par (by rfl) sc_Unlike_shows.nd (i := 3) (j := 4) rfl rfl (by decide) rfl rfl (pa_cons (pe_op op_add (pv 2) (pe_fd (K' := K) (pv 0))) (pa_cons (pe_op op_add (pv 2) (pe_fd (K' := K) (pv 0))) pa_nil)) (by rfl))
      (pss_cons (ps_set (i := 5) sc_Unlike_shows.nd rfl (Or.inl rfl) (pe_c G_part_of (hr.mono (by decide)) (pa_cons (pv 3) pa_nil)))
      (pss_cons (ps_if (pt_cmpR op_ne (pe_c G_part_of (hr.mono (by decide)) (pa_cons (pv 4) pa_nil)) (pv 5) (nomark _))
      (pss_one (ps_ret pe_bl))
      pss_nil)
      (pss_one (ps_ret (pe_cmpR op_ne (pe_cmpR op_eq (pe_at ix_str (pv 1) (pe_fd (K' := K) (pv 0))) (pe_at ix_str (pv 1) (pe_fd (K' := K) (pv 0))) (nomark _)) (pe_cmpR op_eq (pe_c G_is_along (hr.mono (by decide)) (pa_cons (pv 3) (pa_cons (pv 5) pa_nil))) (pe_c G_is_along (hr.mono (by decide)) (pa_cons (pv 4) (pa_cons (pv 5) pa_nil))) (nomark _)) (nomark _)))))))), ?_⟩
    have hz : (tx ts).length ≤ sizeLine := le_line (by rw [tx_len]; omega)
    refine ⟨_, rfl, p, CU, dx, _, _, rfl, hp, C.clU, C.nO, fU_one _ _, _, _, rfl, rfl, _, rfl, ite2 (fun c1 => ?_) (fun c1 => ⟨false, rfl, iteT ?_⟩)⟩
    · refine ⟨_, rfl, p, CU, dx, _, _, rfl, hp, C.clU, C.nT, fU_other _ _, _, _, rfl, rfl, _, rfl, ite2 (fun c2 => ?_) (fun c2 => ⟨false, rfl, iteT ?_⟩)⟩
      · have d1 : 0 ≤ i := of_decide_eq_true c1
        have d2 : i < j := of_decide_eq_true c2
        refine ⟨_, rfl, tx ts, rfl, hz, _, _, rfl, rfl, _, rfl, ?_⟩
        by_cases d3 : j < ts.length
        · have e3 : decide (j < ((tx ts).length : Int)) = true := decide_eq_true (by rw [tx_len]; exact d3)
          refine iteB (c := !decide (j < ((tx ts).length : Int))) (b := false) (by rw [e3]; rfl) (fun z => nomatch z) (fun _ => ?_)
          -- here, there = first + self.one, first + self.other
          obtain ⟨m, rfl⟩ : ∃ m : Nat, i = (m : Int) := ⟨i.toNat, by omega⟩
          obtain ⟨n, rfl⟩ : ∃ n : Nat, j = (n : Int) := ⟨j.toNat, by omega⟩
          have g1 : (a : Int) + (m : Int) = ((a + m : Nat) : Int) := (Int.natCast_add a m).symm
          have g2 : (a : Int) + (n : Int) = ((a + n : Nat) : Int) := (Int.natCast_add a n).symm
          refine ⟨_, rfl, _, rfl, p, CU, dx, _, _, rfl, hp, C.clU, C.nO, fU_one _ _, _, _, rfl, rfl, _, rfl, _, rfl, p, CU, dx, _, _, rfl, hp, C.clU, C.nT, fU_other _ _, _, _, rfl, rfl, _, _, rfl, ?_⟩
          refine ⟨_, rfl, a + m, congrArg (fun z => [V.int z]) g1, by omega, ?_⟩
          refine ⟨_, rfl, a + n, congrArg (fun z => [V.int z]) g2, by omega, _, rfl, rfl, _, rfl, ?_⟩
          by_cases ep : pt (a + m) = pt (a + n)
          · refine iteB (c := !decide (V.int ((pt (a + n) : Nat) : Int) = V.int ((pt (a + m) : Nat) : Int))) (b := false) (ne_int_eq (by rw [ep])) (fun z => nomatch z) (fun _ => ?_)
            have hm : m < ts.length := by omega
            have hn : n < ts.length := by omega
            refine ⟨_, rfl, _, rfl, p, CU, dx, _, _, rfl, hp, C.clU, C.nO, fU_one _ _, tx ts, _, cd ts[m], rfl, rfl, hz, atI_nat (tx_at hm), _, rfl, _, rfl, p, CU, dx, _, _, rfl, hp, C.clU, C.nT, fU_other _ _, tx ts, _, cd ts[n], rfl, rfl, hz, atI_nat (tx_at hn), rfl, ?_⟩
            refine ⟨_, rfl, _, rfl, a + m, pt (a + m), congrArg (fun z => [V.int z, V.int _]) g1, ?_⟩
            refine ⟨_, rfl, _, rfl, a + n, pt (a + m), congrArg (fun z => [V.int z, V.int _]) g2, rfl, rfl, ?_⟩
            have q1 := q
            rw [shU_in (i := (m : Int)) (j := (n : Int)) ⟨d1, d2, d3⟩ ep] at q1
            rw [show ((m : Int)).toNat = m from rfl, show ((n : Int)).toNat = n from rfl, getD_at hm, getD_at hn] at q1
            rw [ne_bl, eq_bl, sg_eq2, show decide ((a + m) / 2 ^ pt (a + m) % 4 = 1) = al (a + m) from rfl, show decide ((a + n) / 2 ^ pt (a + m) % 4 = 1) = al (a + n) by rw [ep]; rfl]
            exact q1
          · refine iteB (c := !decide (V.int ((pt (a + n) : Nat) : Int) = V.int ((pt (a + m) : Nat) : Int))) (b := true) (by rw [decide_eq_false fun y => ep (by have := V.int.inj y; omega)]; rfl) (fun _ => ?_) (fun z => nomatch z)
            have q1 := q
            rw [shU_part (i := (m : Int)) (j := (n : Int)) ep] at q1
            exact q1
        · have e3 : decide (j < ((tx ts).length : Int)) = false := decide_eq_false (by rw [tx_len]; exact d3)
          refine iteB (c := !decide (j < ((tx ts).length : Int))) (b := true) (by rw [e3]; rfl) (fun _ => ?_) (fun z => nomatch z)
          rw [shU_out (by omega)] at q
          exact q
      · have d2 : ¬ i < j := fun y => c2 (decide_eq_true y)
        rw [shU_out (by omega)] at q
        exact q
    · have d1 : ¬ 0 ≤ i := fun y => c1 (decide_eq_true y)
      rw [shU_out (by omega)] at q
      exact q
end
end Fw

namespace Fw
open PySem PySem.Spec PyProof.Rows L2 Fc
/-! ### turns told back to folds -/
/-- the fold that a turn is made by -/
def md (ts : List Bool) (a k : Nat) : Bool := if al (a + k) = true then ts.getD k true else !ts.getD k true
theorem md_cr {f : Nat → Bool} {ts : List Bool} {a k : Nat} (h : md ts a k = f (pt (a + k))) : cr f (a + k) = ts.getD k true := by
  unfold md at h
  unfold cr
  rw [← h]
  cases al (a + k) with
  | true => rw [if_pos rfl, if_pos rfl]
  | false => rw [if_neg Bool.false_ne_true, if_neg Bool.false_ne_true, Bool.not_not]
theorem md_ne {ts : List Bool} {a i j : Nat} (h : md ts a i ≠ md ts a j) : (!((ts.getD i true == ts.getD j true) == (al (a + i) == al (a + j)))) = true := by
  unfold md at h
  revert h
  generalize ts.getD i true = x
  generalize ts.getD j true = y
  generalize al (a + i) = u
  generalize al (a + j) = v
  revert x y u v
  decide
theorem row_at {f : Nat → Bool} {a m k : Nat} (h : k < m) : (row f a m).getD k true = cr f (a + k) := by
  simp [row, h]
theorem row_unlike (f : Nat → Bool) (a m : Nat) (i j : Int) : shU (row f a m) a i j = false := by
  by_cases h : 0 ≤ i ∧ i < j ∧ j < (row f a m).length
  · by_cases h2 : pt (a + i.toNat) = pt (a + j.toNat)
    · have h3 := h.2.2
      rw [row_len] at h3
      rw [shU_in h h2, row_at (by omega), row_at (by omega)]
      unfold cr
      rw [h2]
      generalize f (pt (a + j.toNat)) = x
      generalize al (a + i.toNat) = u
      generalize al (a + j.toNat) = v
      revert x u v
      decide
    · exact shU_part h2
  · exact shU_out h
/-- what the dict tells of the first i turns -/
def Met (H : Hp) (M : Addr) (kvs : List (Key × V)) (ts : List Bool) (a i : Nat) : Prop :=
  H M = some (.dK kvs) ∧ kvs.length ≤ i ∧ ∀ p : Nat, (valV kvs (Sum.inl (p : Int)) = none ∧ ∀ k, k < i → pt (a + k) ≠ p) ∨
    (∃ t k, valV kvs (Sum.inl (p : Int)) = some (.ref t) ∧ H t = some (.tup [.str (tx [md ts a k]), .int (k : Int)]) ∧ k < i ∧ pt (a + k) = p ∧ ∀ k', k' < i → pt (a + k') = p → md ts a k' = md ts a k)
theorem Met.mono {H H' : Hp} {M : Addr} {kvs : List (Key × V)} {ts : List Bool} {a i : Nat} (m : Met H M kvs ts a i) (s : Same H H') : Met H' M kvs ts a i :=
  ⟨s _ _ m.1, m.2.1, fun p => (m.2.2 p).imp id fun ⟨t, k, h1, h2, h3⟩ => ⟨t, k, h1, s _ _ h2, h3⟩⟩
/-- one turn more, its part met, the same fold -/
theorem Met.again {H : Hp} {M t : Addr} {kvs : List (Key × V)} {ts : List Bool} {a i k : Nat} (m : Met H M kvs ts a i) (hk : k < i) (hp : pt (a + k) = pt (a + i)) (he : md ts a k = md ts a i) : Met H M kvs ts a (i + 1) := by
  refine ⟨m.1, by have := m.2.1; omega, fun p => ?_⟩
  rcases m.2.2 p with ⟨h1, h2⟩ | ⟨t', k', h1, h2, h3, h4, h5⟩
  · refine .inl ⟨h1, fun k' hk' => ?_⟩
    by_cases e : k' = i
    · rw [e, ← hp]
      exact h2 k hk
    · exact h2 k' (by omega)
  · refine .inr ⟨t', k', h1, h2, by omega, h4, fun j hj hpj => ?_⟩
    by_cases e : j = i
    · rw [e] at hpj ⊢
      rw [← he]
      exact h5 k hk (hp.trans hpj)
    · exact h5 j (by omega) hpj
theorem putK_new {kvs : List (Key × V)} {k : Key} {v : V} (h : valV kvs k = none) : (putK kvs k v).length = kvs.length + 1 := by
  have e := valV_any k kvs
  rw [h] at e
  unfold putK
  rw [e]
  show (kvs ++ [(k, v)]).length = _
  rw [List.length_append]
  rfl
/-- one turn more, its part not met -/
theorem Met.put {H : Hp} {M t : Addr} {kvs : List (Key × V)} {ts : List Bool} {a i : Nat} (m : Met H M kvs ts a i) (h0 : valV kvs (Sum.inl ((pt (a + i) : Nat) : Int)) = none) (ht : H t = some (.tup [.str (tx [md ts a i]), .int (i : Int)])) :
    Met (upd H M (.dK (putK kvs (Sum.inl ((pt (a + i) : Nat) : Int)) (.ref t)))) M (putK kvs (Sum.inl ((pt (a + i) : Nat) : Int)) (.ref t)) ts a (i + 1) := by
  have tupM : ∀ b xs, H b = some (.tup xs) → upd H M (.dK (putK kvs (Sum.inl ((pt (a + i) : Nat) : Int)) (.ref t))) b = some (.tup xs) := fun b xs e => by
    rw [upd_ne (ne_of e m.1 (by intro y; cases y))]
    exact e
  refine ⟨upd_same, by rw [putK_new h0]; have := m.2.1; omega, fun p => ?_⟩
  have fresh : ∀ k, k < i → pt (a + k) ≠ pt (a + i) := by
    rcases m.2.2 (pt (a + i)) with ⟨_, h2⟩ | ⟨t', k', h1, _⟩
    · exact h2
    · rw [h0] at h1
      cases h1
  by_cases e : p = pt (a + i)
  · subst e
    refine .inr ⟨t, i, by rw [valV_put, if_pos rfl], tupM _ _ ht, by omega, rfl, fun j hj hpj => ?_⟩
    by_cases ej : j = i
    · rw [ej]
    · exact absurd hpj (fresh j (by omega))
  · have ek : ¬ (Sum.inl ((p : Nat) : Int) : Key) = Sum.inl ((pt (a + i) : Nat) : Int) := fun y => e (by
      have := Sum.inl.inj y
      omega)
    rcases m.2.2 p with ⟨h1, h2⟩ | ⟨t', k', h1, h2, h3, h4, h5⟩
    · refine .inl ⟨by rw [valV_put, if_neg ek]; exact h1, fun k hk => ?_⟩
      by_cases ekk : k = i
      · rw [ekk]
        exact fun y => e y.symm
      · exact h2 k (by omega)
    · refine .inr ⟨t', k', by rw [valV_put, if_neg ek]; exact h1, tupM _ _ h2, by omega, h4, fun j hj hpj => ?_⟩
      by_cases ej : j = i
      · rw [ej] at hpj
        exact absurd hpj.symm e
      · exact h5 j (by omega) hpj
section
variable {P : Program} {w : World} {K : PySem.W.Frag} {mg : Str → Option Value} {base : Heap} {CA CF CU : Addr}
def sp_told (CF CU : Addr) : Sp := fun vs H Q _ => ∃ (ts : List Bool) (a : Nat), vs = [.str (tx ts), .int (a : Int)] ∧ 0 < a ∧ ts ≠ [] ∧ ts.length ≤ 1000 ∧ a + ts.length ≤ 2 ^ 5000 ∧
  (∀ H' p dx bs, Same H H' → H' p = some (.ins CF dx (fF (.str (tx bs)))) → bs.length ≤ 5000 → shF bs ts a = true → Q (.ref p) H') ∧
  (∀ H' p dx (i j : Nat), Same H H' → H' p = some (.ins CU dx (fU (.int (i : Int)) (.int (j : Int)))) → shU ts a (i : Int) (j : Int) = true → Q (.ref p) H')
theorem ok_told (D : Df K mg "told" s_told ["turns", "first"]) (C : CC K mg CA CF CU) (T : Txt mg) (G_are_letters : Ok P w K mg base CX0 1 "are_letters" ["thing"] (sp_are_letters K)) (G_is_whole : Ok P w K mg base CX0 1 "is_whole" ["thing"] (sp_is_whole K))
    (G_part_of : Ok P w K mg base CX0 1 "part_of" ["count"] sp_part_of) (G_is_along : Ok P w K mg base CX0 1 "is_along" ["count", "part"] sp_is_along) (G_opposite : Ok P w K mg base CX0 1 "opposite" ["letter"] sp_opposite)
    (M_initF : Om P w K mg base CX0 1 CF "__init__" ["self", "folds"] (sp_initF CF)) (M_initU : Om P w K mg base CX0 1 CU "__init__" ["self", "one", "other"] (sp_initU CU)) :
    Ok P w K mg base CX0 3 "told" ["turns", "first"] (sp_told CF CU) := by
  refine D.ok sc_told (fun vs H Q E h => ?_) (fun f cdv A outer s H vs Q E hr h => ?_)
  · obtain ⟨ts, a, rfl, _⟩ := h
    rfl
  · obtain ⟨ts, a, rfl, a0, hne, hlt, hsz, qF, qU⟩ := h
    refine ⟨_, (pss_cons (ps_if (PW.pt (pw_or (pt_not (pt_val (pe_c G_are_letters (hr.mono (by decide)) (pa_cons (pv 0) pa_nil)))) (pw_or1 (pt_cmpR op_eq (pv 0) pe_str (nomark _)))))
      (pss_one ps_never)
      pss_nil)
      (pss_cons (ps_if (PW.pt (pw_or (pt_not (pt_val (pe_c G_is_whole (hr.mono (by decide)) (pa_cons (pv 1) pa_nil)))) (pw_or1 (pt_cmpR op_lt (pv 1) pe_int (nomark _)))))
      (pss_one ps_never)
      pss_nil)
      (pss_cons (ps_set (i := 2) sc_told.nd rfl (Or.inl rfl) pe_dnewK)
      (pss_cons (ps_for PassesOwn.never rfl (pi_enumS (by rfl) T.b_enumerate (pa_cons (pv 0) pa_nil)) (pg_tup (by rfl) (pgs_cons (pg_name (i := 3) sc_told.nd rfl (Or.inl rfl)) (pgs_cons (pg_name (i := 4) sc_told.nd rfl (Or.inl rfl)) pgs_nil)))
      (pss_cons (ps_set (i := 5) sc_told.nd rfl (Or.inl rfl) (pe_c G_part_of (hr.mono (by decide)) (pa_cons (pe_op op_add (pv 1) (pv 3)) pa_nil)))
      (C8.pss_cut (ps_set (i := 6) sc_told.nd rfl (Or.inl rfl) (pe_ifExp (pt_val (pe_c G_is_along (hr.mono (by decide)) (pa_cons (pe_op op_add (pv 1) (pv 3)) (pa_cons (pv 5) pa_nil)))) (pv 4) (pe_c G_opposite (hr.mono (by decide)) (pa_cons (pv 4) pa_nil))))
      (pss_one (ps_if (pt_cmp (pc_dnotin (hu_of hr) (pv 5) (pv 2)))
      (pss_one (ps_dput (hu_of hr) (pv 2) (pv 5) (pe_tup (pa_cons (pv 6) (pa_cons (pv 3) pa_nil))) rfl))
      (pss_one (ps_if (pt_cmpR op_ne (pe_at ix_tup (pe_dget (hu_of hr) (pv 2) (pv 5) (fun _ _ => rfl)) pe_int) (pv 6) (nomark _))
      (pss_one (ps_ret (pe_mkI C.mkU C.kU C.gU M_initU (hr.mono (by decide)) (pa_cons (pe_at ix_tup (pe_dget (hu_of hr) (pv 2) (pv 5) (fun _ _ => rfl)) pe_int) (pa_cons (pv 3) pa_nil)))))
      pss_nil)))))))
      (pss_cons (ps_set (i := 7) sc_told.nd rfl (Or.inl rfl) pe_str)
      (pss_cons (ps_while PassesOwn.never (pt_cmpR op_lt (pe_op op_oneShlN pe_int (pe_callB call_len_str (by rfl) T.b_len (by decide +kernel) (pa_cons (pv 7) pa_nil))) (pe_op op_add (pv 1) (pe_callB call_len_str (by rfl) T.b_len (by decide +kernel) (pa_cons (pv 0) pa_nil))) (nomark _)) (pss_one (ps_aug (i := 7) sc_told.nd rfl (Or.inl rfl) (pe_ifExp (pt_cmp (pc_din (hu_of hr) (pe_callB call_len_str (by rfl) T.b_len (by decide +kernel) (pa_cons (pv 7) pa_nil)) (pv 2))) (pe_at ix_tup (pe_dget (hu_of hr) (pv 2) (pe_callB call_len_str (by rfl) T.b_len (by decide +kernel) (pa_cons (pv 7) pa_nil)) (fun _ _ => rfl)) pe_int) pe_str) iop_add_str)))
      (pss_one (ps_ret (pe_mkI C.mkF C.kF C.gF M_initF (hr.mono (by decide)) (pa_cons (pv 7) pa_nil)))))))))), ?_⟩
    have hl : ts.length ≤ 10000 := by omega
    have hz : (tx ts).length ≤ sizeLine := le_line (by rw [tx_len]; omega)
    -- not are_letters(turns) or turns == ""
    refine ⟨_, rfl, ?_⟩
    dsimp only [tCons, tNil, tFn]
    refine lets_yes hl fun H1 s1 => ⟨true, rfl, iteF ?_⟩
    refine ⟨_, rfl, rfl, _, rfl, iteB (b := false) (decide_eq_false fun y => hne (tx_inj ((V.str.inj y).trans tx_nil.symm))) (fun z => nomatch z) (fun _ => ?_)⟩
    -- not is_whole(first) or first < 1
    refine ⟨_, rfl, ?_⟩
    dsimp only [tCons, tNil, tFn]
    refine whole_int _ ⟨true, rfl, iteF ?_⟩
    refine ⟨_, rfl, _, _, rfl, rfl, _, rfl, iteB (b := false) (decide_eq_false (by omega)) (fun z => nomatch z) (fun _ => ?_)⟩
    -- met = {}
    refine fun M nM => ?_
    refine ⟨_, rfl, tx ts, rfl, ?_⟩
    have nH : H M = none := s1.free nM
    refine for_it walk_enumS (fun i σ H' => ∃ x3 x4 x5 x6 x7 kvs, σ = [some (.str (tx ts)), some (.int (a : Int)), some (.ref M), x3, x4, x5, x6, x7] ∧ Same H H' ∧ Met H' M kvs ts a i)
      ⟨none, none, none, none, none, [], rfl, s1.trans (same_upd nM), upd_same, Nat.le_refl _, fun p => .inl ⟨rfl, fun k hk => absurd hk (by omega)⟩⟩ (fun _ _ _ _ _ => True.intro) ?_ ?_
    · rintro i v σ H2 H3 hi ⟨x3, x4, x5, x6, x7, kvs, rfl, s2, m⟩ ⟨S, c, hc, rfl, nS, rfl⟩
      obtain ⟨hi2, ec⟩ := sign_at hc
      have sS := same_upd (o := .tup [V.int (i : Int), V.str ⟨#[c]⟩]) nS
      have m3 := m.mono sS
      have s3 := s2.trans sS
      refine ⟨S, _, rfl, .inl (.inl upd_same), rfl, _, _, rfl, _, _, rfl, rfl, ?_⟩
      have eai : (a : Int) + (i : Int) = ((a + i : Nat) : Int) := (Int.natCast_add a i).symm
      -- part = part_of(first + place)
      refine ⟨_, rfl, _, rfl, _, _, rfl, rfl, a + i, congrArg (fun z => [V.int z]) eai, by omega, ?_⟩
      -- made = ..
      let Mid : L2.St → Hp → Prop := fun σ H' => σ = [some (.str (tx ts)), some (.int (a : Int)), some (.ref M), some (.int (i : Int)), some (.str ⟨#[c]⟩), some (.int ((pt (a + i) : Nat) : Int)), some (.str (tx [md ts a i])), x7] ∧ H' = upd H2 S (.tup [V.int (i : Int), V.str ⟨#[c]⟩])
      refine ⟨Mid, ?_, ?_⟩
      · refine ⟨_, rfl, _, rfl, _, _, rfl, rfl, _, rfl, a + i, pt (a + i), congrArg (fun z => [V.int z, V.int _]) eai, _, rfl, ?_⟩
        have em : md ts a i = if al (a + i) = true then ts[i] else !ts[i] := by
          unfold md
          rw [getD_at hi2]
        refine iteB (b := al (a + i)) rfl (fun y => ?_) (fun y => ?_)
        · rw [y, if_pos rfl] at em
          refine ⟨_, rfl, ?_, rfl⟩
          rw [em, ← ec]
          rfl
        · rw [y, if_neg Bool.false_ne_true] at em
          refine ⟨_, rfl, ts[i], congrArg (fun z => [V.str z]) ec, ?_, rfl⟩
          rw [em]
          rfl
      rintro σ H4 ⟨rfl, rfl⟩
      -- part not in met
      rcases m3.2.2 (pt (a + i)) with ⟨hv, hfr⟩ | ⟨t, k, hv, htk, hk, hpk, hall⟩
      · refine ⟨_, rfl, _, rfl, M, none, rfl, ?_, _, rfl, iteT ?_⟩
        · rw [← hv]
          exact DGet.k (k := Sum.inl _) m3.1
        refine ⟨_, rfl, _, rfl, (by show 2 ≤ sizeLine; decide), fun t nt => ?_⟩
        have st := same_upd (o := .tup [V.str (tx [md ts a i]), V.int (i : Int)]) nt
        have m4 := m3.mono st
        refine ⟨_, rfl, _, rfl, M, _, rfl, DPut.k (k := Sum.inl ((pt (a + i) : Nat) : Int)) m4.1 (lt_line (by have := m4.2.1; omega)), ?_⟩
        refine ⟨_, _, _, _, _, _, rfl, fun b o e => ?_, m4.put hv upd_same⟩
        rw [upd_ne (ne_of_none e nH)]
        exact st _ _ (s3 _ _ e)
      · refine ⟨_, rfl, _, rfl, M, some (.ref t), rfl, ?_, _, rfl, iteF ?_⟩
        · rw [← hv]
          exact DGet.k (k := Sum.inl _) m3.1
        refine ⟨_, rfl, _, rfl, M, _, rfl, (by rw [← hv]; exact DGet.k (k := Sum.inl _) m3.1), t, _, _, _, rfl, rfl, .inl (.inl htk), atI_nat (j := 0) rfl, _, rfl, rfl, _, rfl, ?_⟩
        by_cases e : md ts a k = md ts a i
        · refine iteB (b := false) (ne_str_eq (by rw [e])) (fun z => nomatch z) (fun _ => ?_)
          exact ⟨_, _, _, _, _, kvs, rfl, s3, m3.again (t := t) hk hpk e⟩
        · refine iteB (b := true) (by rw [vtx_iff, decide_eq_false (fun y => e (List.cons.inj y).1)]; rfl) (fun _ => ?_) (fun z => nomatch z)
          refine ⟨_, rfl, _, rfl, M, _, rfl, (by rw [← hv]; exact DGet.k (k := Sum.inl _) m3.1), t, _, _, _, rfl, rfl, .inl (.inl htk), atI_nat (j := 1) rfl, _, rfl, ?_⟩
          refine fun p dx np ndx nxp => ⟨p, dx, _, _, rfl, upd_same, fun H' hp' hb' => ⟨rfl, ?_⟩⟩
          refine qU H' p dx k i (fun b o y => ?_) hp' ?_
          · have y2 := s3 _ _ y
            rw [hb' b (ne_of_none y2 np), upd_ne (ne_of_none y2 np), upd_ne (ne_of_none y2 ndx)]
            exact y2
          · rw [shU_in (by omega) (by show pt (a + k) = pt (a + i); exact hpk)]
            exact md_ne e
    · rintro σ H2 ⟨x3, x4, x5, x6, x7, kvs, rfl, s2, m⟩
      have elen : (tx ts).cps.size = ts.length := tx_len ts
      rw [elen] at m
      -- folds = ""; the while
      refine ⟨fun n σ H' => ∃ bs : List Bool, σ = [some (.str (tx ts)), some (.int (a : Int)), some (.ref M), x3, x4, x5, x6, some (.str (tx bs))] ∧ H' = H2 ∧ bs.length ≤ 5000 ∧ n = 5000 - bs.length ∧
          ∀ k, k < ts.length → pt (a + k) < bs.length → fb bs (pt (a + k)) = md ts a k,
        ⟨5000, [], congrArg (fun z => [some (V.str (tx ts)), some (V.int (a : Int)), some (V.ref M), x3, x4, x5, x6, some (V.str z)]) tx_nil.symm, rfl, Nat.zero_le _, rfl, fun k _ y => absurd y (by simp)⟩, fun n σ H' hW => ?_⟩
      obtain ⟨bs, rfl, rfl, hb, en, hbs⟩ := hW
      have hzb : (tx bs).length ≤ sizeLine := le_line (by rw [tx_len]; omega)
      refine ⟨_, rfl, tx bs, rfl, hzb, _, rfl, rfl, by rw [tx_len]; omega, _, rfl, _, rfl, tx ts, rfl, hz, _, _, rfl, rfl, _, _, rfl, rfl, _, rfl, ite2 (fun c1 => ?_) (fun c1 => ?_)⟩
      · have c1' : 2 ^ bs.length < a + ts.length := by
          have z := of_decide_eq_true c1
          rw [tx_len, tx_len] at z
          omega
        have hb2 : bs.length < 5000 := by
          refine (Nat.pow_lt_pow_iff_right (show 1 < 2 by decide)).mp ?_
          exact Nat.lt_of_lt_of_le c1' hsz
        refine ⟨fun σ' H'' => ∃ bs' : List Bool, σ' = [some (.str (tx ts)), some (.int (a : Int)), some (.ref M), x3, x4, x5, x6, some (.str (tx bs'))] ∧ H'' = H' ∧ bs'.length = bs.length + 1 ∧
          ∀ k, k < ts.length → pt (a + k) < bs'.length → fb bs' (pt (a + k)) = md ts a k, fun σ' H'' hN => ?_, ?_⟩
        · obtain ⟨bs', e1, e2, e3, e4⟩ := hN
          exact ⟨5000 - bs'.length, by omega, bs', e1, e2, by omega, rfl, e4⟩
        · have next : ∀ b : Bool, (∀ k, k < ts.length → pt (a + k) = bs.length → b = md ts a k) → ∀ k, k < ts.length → pt (a + k) < (bs ++ [b]).length → fb (bs ++ [b]) (pt (a + k)) = md ts a k := by
            intro b hb' k hk hpk
            rw [List.length_append, List.length_singleton] at hpk
            by_cases e : pt (a + k) = bs.length
            · rw [e, ← hb' k hk e]
              unfold fb
              rw [List.getD_eq_getElem?_getD, List.getElem?_append_right (Nat.le_refl _), Nat.sub_self]
              rfl
            · rw [← hbs k hk (by omega)]
              unfold fb
              rw [List.getD_eq_getElem?_getD, List.getD_eq_getElem?_getD, List.getElem?_append_left (by omega)]
          have size : ∀ b : Bool, (tx bs).length + (tx [b]).length ≤ sizeLine := fun b => by
            rw [tx_len, tx_len]
            exact le_line (by simp only [List.length_singleton]; omega)
          have eb : ((tx bs).length : Int) = ((bs.length : Nat) : Int) := by rw [tx_len]
          rcases m.2.2 bs.length with ⟨hv, hfr⟩ | ⟨t, k, hv, htk, hk, hpk, hall⟩
          · refine ⟨_, rfl, _, rfl, tx bs, rfl, hzb, _, rfl, M, none, rfl, ?_, _, rfl, iteF ?_⟩
            · rw [eb, ← hv]
              exact DGet.k (k := Sum.inl _) m.1
            refine ⟨_, _, rfl, rfl, by rw [← tx_l]; exact size true, bs ++ [true], ?_, rfl, by rw [List.length_append]; rfl, next true fun k hk y => absurd y (hfr k hk)⟩
            exact congrArg (fun z => [some (V.str (tx ts)), some (V.int (a : Int)), some (V.ref M), x3, x4, x5, x6, some (V.str z)]) (show tx bs ++ (("l" : String) : Str) = tx (bs ++ [true]) by rw [← tx_l, tx_append])
          · refine ⟨_, rfl, _, rfl, tx bs, rfl, hzb, _, rfl, M, some (.ref t), rfl, ?_, _, rfl, iteT ?_⟩
            · rw [eb, ← hv]
              exact DGet.k (k := Sum.inl _) m.1
            refine ⟨_, rfl, _, rfl, tx bs, rfl, hzb, M, _, rfl, (by rw [eb, ← hv]; exact DGet.k (k := Sum.inl _) m.1), t, _, _, _, rfl, rfl, .inl (.inl htk), atI_nat (j := 0) rfl, ?_⟩
            refine ⟨_, _, rfl, rfl, size _, bs ++ [md ts a k], ?_, rfl, by rw [List.length_append]; rfl, next _ fun k' hk' y => (hall k' hk' y).symm⟩
            exact congrArg (fun z => [some (V.str (tx ts)), some (V.int (a : Int)), some (V.ref M), x3, x4, x5, x6, some (V.str z)]) (tx_append bs [md ts a k])
      · have c1' : a + ts.length ≤ 2 ^ bs.length := by
          refine Decidable.byContradiction fun y => c1 (decide_eq_true ?_)
          rw [tx_len, tx_len]
          omega
        -- return Folds(folds)
        refine ⟨_, rfl, fun p dx np ndx nxp => ⟨p, dx, _, rfl, upd_same, rfl, ?_⟩⟩
        refine qF _ p dx bs (fun b o y => ?_) upd_same hb ?_
        · have y2 := s2 _ _ y
          rw [upd_ne (ne_of_none y2 np), upd_ne (ne_of_none y2 np), upd_ne (ne_of_none y2 ndx)]
          exact y2
        · rw [shF_all c1', List.all_eq_true]
          intro k hk
          have hk' := List.mem_range.mp hk
          rw [md_cr (hbs k hk' (pt_lt (by omega) (by omega))).symm, beq_self_eq_true]
end
end Fw

namespace Fw
open PySem PySem.Spec PyProof.Rows L2 Fc
section
variable {P : Program} {w : World} {K : PySem.W.Frag} {mg : Str → Option Value} {base : Heap} {CA CF CU : Addr}
/-! ### the law -/
/-- _law_part(count): the program's part_of -/
theorem ok_law_part (D : Df K mg "_law_part" s__law_part ["_law_count"]) : Ok P w K mg base CX0 1 "_law_part" ["_law_count"] sp_part_of := by
  refine D.ok sc__law_part (fun vs H Q E h => ?_) (fun f cdv A outer s H vs Q E hr h => ?_)
  · obtain ⟨n, rfl, _⟩ := h
    rfl
  · obtain ⟨n, rfl, n0, q⟩ := h
    refine ⟨_, (pss_cons (ps_set (i := 1) sc__law_part.nd rfl (Or.inl rfl) pe_int)
      (pss_cons (ps_while PassesOwn.never (pt_cmpR op_eq (pe_op op_mod (pv 0) pe_int) pe_int (nomark _)) (pss_one (ps_par (by rfl) sc__law_part.nd (i := 0) (j := 1) rfl rfl (by decide) rfl rfl (pa_cons (pe_op op_fdiv (pv 0) pe_int) (pa_cons (pe_op op_add (pv 1) pe_int) pa_nil)) (by rfl))))
      (pss_one (ps_ret (pv 1))))), ?_⟩
    refine ⟨fun m σ H' => ∃ c d : Nat, σ = [some (.int (c : Int)), some (.int (d : Int))] ∧ H' = H ∧ 0 < c ∧ d + pt c = pt n ∧ m = c, ⟨n, n, 0, rfl, rfl, n0, Nat.zero_add _, rfl⟩, fun m σ H' hW => ?_⟩
    obtain ⟨c, d, rfl, rfl, c0, e, em⟩ := hW
    refine ⟨_, rfl, _, _, rfl, rfl, (by show (0 : Int) < 2; decide), rfl, _, rfl, ite2 (fun h2 => ?_) (fun h2 => ?_)⟩
    · have h3 : (c : Int) % 2 = 0 := V.int.inj (of_decide_eq_true h2)
      refine ⟨fun σ' H'' => ∃ c' d' : Nat, σ' = [some (.int (c' : Int)), some (.int (d' : Int))] ∧ H'' = H' ∧ 0 < c' ∧ d' + pt c' = pt n ∧ c' < m, fun σ' H' hN => ?_, ?_⟩
      · obtain ⟨c', d', e1, e2, e3, e4, e5⟩ := hN
        exact ⟨c', e5, c', d', e1, e2, e3, e4, rfl⟩
      · refine ⟨_, rfl, _, _, rfl, rfl, ⟨by decide, by decide⟩, _, rfl, _, _, rfl, rfl, _, _, rfl, ?_⟩
        refine ⟨c / 2, d + 1, rfl, rfl, by omega, ?_, by omega⟩
        have e6 := pt_half (n := c) (by omega) c0
        omega
    · have h3 : ¬ (c : Int) % 2 = 0 := fun z => h2 (decide_eq_true (congrArg V.int z))
      have e6 := pt_odd (n := c) (by omega)
      refine ⟨_, rfl, ?_⟩
      have e7 : d = pt n := by omega
      rw [e7]
      exact q
/-- what stands at p -/
def AnsAt (CF CU : Addr) (H : Hp) (p : Addr) (ts : List Bool) (sh : Nat → Bool) : Prop :=
  (∃ dx bs, H p = some (.ins CF dx (fF (.str (tx bs)))) ∧ bs.length ≤ 10000 ∧ ∀ a, sh a = shF bs ts a) ∨ (∃ (dx : Addr) (i j : Int), H p = some (.ins CU dx (fU (.int i) (.int j))) ∧ ∀ a, sh a = shU ts a i j)
theorem AnsAt.mono {H H' : Hp} {p : Addr} {ts : List Bool} {sh : Nat → Bool} (m : AnsAt CF CU H p ts sh) (s : Same H H') : AnsAt CF CU H' p ts sh := by
  rcases m with ⟨dx, bs, h, r⟩ | ⟨dx, i, j, h, r⟩
  · exact .inl ⟨dx, bs, s _ _ h, r⟩
  · exact .inr ⟨dx, i, j, s _ _ h, r⟩
theorem isF {H : Hp} {p dx : Addr} {fs : List (Str × V)} (C : CC K mg CA CF CU) (h : H p = some (.ins CF dx fs)) : TyX K H (.ref p) (.ref CF) := .base (.ins h C.clF C.haF C.getset C.taken C.hmF)
theorem isU {H : Hp} {p dx : Addr} {fs : List (Str × V)} (C : CC K mg CA CF CU) (h : H p = some (.ins CU dx fs)) : TyX K H (.ref p) (.ref CU) := .base (.ins h C.clU C.haU C.getset C.taken C.hmU)
/-- of parts: the same way, reckoned by 4 -/
theorem al_mod {m n p : Nat} (hm : pt m = p) (hn : pt n = p) (m0 : 0 < m) (n0 : 0 < n) : decide (V.int ((m : Int) / 2 ^ p % 4) = V.int ((n : Int) / 2 ^ p % 4)) = (al m == al n) := by
  obtain ⟨_, o1⟩ := pt_pow m m0
  obtain ⟨_, o2⟩ := pt_pow n n0
  unfold al
  rw [hm] at o1 ⊢
  rw [hn] at o2 ⊢
  rw [← cast_pow p, show (m : Int) / ((2 ^ p : Nat) : Int) = ((m / 2 ^ p : Nat) : Int) from rfl, show (n : Int) / ((2 ^ p : Nat) : Int) = ((n / 2 ^ p : Nat) : Int) from rfl]
  generalize m / 2 ^ p = u at *
  generalize n / 2 ^ p = v at *
  rw [Bool.eq_iff_iff]
  simp only [decide_eq_true_eq, beq_iff_eq, V.int.injEq]
  have d1 : decide (u % 4 = 1) = true ↔ u % 4 = 1 := decide_eq_true_iff
  have d2 : decide (v % 4 = 1) = true ↔ v % 4 = 1 := decide_eq_true_iff
  constructor
  · intro h
    rw [Bool.eq_iff_iff, d1, d2]
    omega
  · intro h
    rw [Bool.eq_iff_iff, d1, d2] at h
    omega
def sp_due (CF CU : Addr) : Sp := fun vs H Q _ => ∃ (ts : List Bool) (a : Nat) (p : Addr) (sh : Nat → Bool), vs = [.str (tx ts), .int (a : Int), .ref p] ∧ AnsAt CF CU H p ts sh ∧ ts.length ≤ 10000 ∧ 0 < a ∧ ∀ H', Same H H' → Q (.bl (sh a)) H'
theorem ok_due (D : Df K mg "_law_due" s__law_due ["_law_turns", "_law_first", "_law_found"]) (C : CC K mg CA CF CU) (T : Txt mg) (G__law_crease : Ok P w K mg base CX0 2 "_law_crease" ["_law_folds_here", "_law_count"] sp_way_of)
    (G__law_part : Ok P w K mg base CX0 1 "_law_part" ["_law_count"] sp_part_of) : Ok P w K mg base CX0 3 "_law_due" ["_law_turns", "_law_first", "_law_found"] (sp_due CF CU) := by
  refine D.ok sc__law_due (fun vs H Q E h => ?_) (fun f cdv A outer s H vs Q E hr h => ?_)
  · obtain ⟨ts, a, p, sh, rfl, _⟩ := h
    rfl
  · obtain ⟨ts, a, p, sh, rfl, hA, hl, a0, q⟩ := h
    refine ⟨_, (pss_cons (ps_if (pt_val (pe_callB call_isi (by rfl) T.b_isinstance (by decide +kernel) (pa_cons (pv 2) (pa_cons (pe_glob (v := .ref CF) (by rfl) C.gF rfl) pa_nil))))
      (pss_cons (ps_set (i := 3) sc__law_due.nd rfl (Or.inr rfl) (pe_fd (K' := K) (pv 2)))
      (pss_cons (ps_if (PW.pt (pw_or (pt_not (pt_val (pe_callB call_isi (by rfl) T.b_isinstance (by decide +kernel) (pa_cons (pv 3) (pa_cons (pe_bltn (v := .ty "str") (by rfl) T.b_str (by decide +kernel) rfl) pa_nil))))) (pw_or (pt_cmpR op_ne (pe_bm PySem.F.plainAttrs_str PySem.F.slot_str_strip PySem.F.type_str_strip mt_stripChars (pv 3) (pa_cons pe_str pa_nil)) pe_str (nomark _)) (pw_or1 (pt_cmpR op_gt (pe_op op_add (pv 1) (pe_callB call_len_str (by rfl) T.b_len (by decide +kernel) (pa_cons (pv 0) pa_nil))) (pe_op op_oneShlN pe_int (pe_callB call_len_str (by rfl) T.b_len (by decide +kernel) (pa_cons (pv 3) pa_nil))) (nomark _))))))
      (pss_one (ps_ret pe_bl))
      pss_nil)
      (pss_one (ps_ret (pe_callB (cr_all rfl) (by rfl) T.b_all (by decide +kernel) (pa_cons (pe_lc (own := [("_law_k", 8)]) (g := gName 8) (by rfl) sc__law_due.nd (pi_range1 (by rfl) T.b_range (pa_cons (pe_callB call_len_str (by rfl) T.b_len (by decide +kernel) (pa_cons (pv 0) pa_nil)) pa_nil)) (blkOk_by (own := [("_law_k", 8)]) (N := N__law_due) (sc := defScope s__law_due) (by decide +kernel)) (fun _ _ _ _ _ => pg_name (i := 8) sc__law_due.nd rfl (Or.inl rfl)) (fun _ _ _ _ _ => pts_nil) (fun _ _ _ _ _ => (pe_cmpR op_eq (pe_c G__law_crease (hr.mono (by decide)) (pa_cons (pv 3) (pa_cons (pe_op op_add (pv 1) (pv 8)) pa_nil))) (pe_at ix_str (pv 0) (pv 8)) (nomark _)))) pa_nil))))))
      pss_nil)
      (pss_cons (ps_if (pt_not (pt_chain3 op_le op_lt op_lt pe_int (pe_fd (K' := K) (pv 2)) (pe_fd (K' := K) (pv 2)) (pe_callB call_len_str (by rfl) T.b_len (by decide +kernel) (pa_cons (pv 0) pa_nil))))
      (pss_one (ps_ret pe_bl))
      pss_nil)
      (pss_cons (ps_set (i := 4) sc__law_due.nd rfl (Or.inl rfl) (pe_c G__law_part (hr.mono (by decide)) (pa_cons (pe_op op_add (pv 1) (pe_fd (K' := K) (pv 2))) pa_nil)))
      (pss_cons (ps_if (pt_cmpR op_ne (pe_c G__law_part (hr.mono (by decide)) (pa_cons (pe_op op_add (pv 1) (pe_fd (K' := K) (pv 2))) pa_nil)) (pv 4) (nomark _))
      (pss_one (ps_ret pe_bl))
      pss_nil)
      (pss_cons (ps_set (i := 5) sc__law_due.nd rfl (Or.inl rfl) (pe_op op_shrN (pe_op op_add (pv 1) (pe_fd (K' := K) (pv 2))) (pv 4)))
      (pss_cons (ps_set (i := 6) sc__law_due.nd rfl (Or.inl rfl) (pe_op op_shrN (pe_op op_add (pv 1) (pe_fd (K' := K) (pv 2))) (pv 4)))
      (pss_cons (ps_set (i := 7) sc__law_due.nd rfl (Or.inl rfl) (pe_cmpR op_eq (pe_at ix_str (pv 0) (pe_fd (K' := K) (pv 2))) (pe_at ix_str (pv 0) (pe_fd (K' := K) (pv 2))) (nomark _)))
      (pss_one (ps_ret (pe_cmpR op_ne (pv 7) (pe_cmpR op_eq (pe_op op_mod (pv 5) pe_int) (pe_op op_mod (pv 6) pe_int) (nomark _)) (nomark _))))))))))), ?_⟩
    have hz : (tx ts).length ≤ sizeLine := le_line (by rw [tx_len]; omega)
    rcases hA with ⟨dx, bs, hp, hb, hsh⟩ | ⟨dx, i, j, hp, hsh⟩
    · rw [hsh] at q
      have hzb : (tx bs).length ≤ sizeLine := le_line (by rw [tx_len]; omega)
      refine ⟨_, rfl, _, .ref CF, _, _, true, rfl, .own CF, isF C hp, C.FF, true, rfl, iteT ?_⟩
      refine ⟨_, rfl, p, CF, dx, _, _, rfl, hp, C.clF, C.nF, fF_folds _, ?_⟩
      refine ⟨_, rfl, _, .ty "str", _, _, true, rfl, .ty "str", kit_str _, kit_ty (by decide +kernel), true, rfl, iteF ?_⟩
      refine ⟨_, rfl, rfl, _, _, rfl, rfl, hzb, rfl, _, rfl, iteB (b := false) (by rw [strip_lr, lets_tx]; rfl) (fun z => nomatch z) (fun _ => ?_)⟩
      refine ⟨_, rfl, _, rfl, tx ts, rfl, hz, _, _, rfl, rfl, _, rfl, tx bs, rfl, hzb, _, rfl, rfl, by rw [tx_len]; omega, _, _, rfl, rfl, _, rfl, ite2 (fun c => ?_) (fun c => ?_)⟩
      · have c1 : ¬ a + ts.length ≤ 2 ^ bs.length := by
          have z := of_decide_eq_true c
          rw [tx_len, tx_len] at z
          omega
        have q1 := q H (Same.refl H)
        rw [shF_long c1] at q1
        exact q1
      · have c1 : a + ts.length ≤ 2 ^ bs.length := by
          refine Decidable.byContradiction fun y => c (decide_eq_true ?_)
          rw [tx_len, tx_len]
          omega
        refine ⟨_, rfl, tx ts, rfl, hz, _, rfl, by omega, by rw [tx_len]; omega, fun L nL => ?_⟩
        refine lc_range (lo := 0) (n := ((tx ts).length : Int).toNat) (fun i H' => Same H H' ∧ H' L = some (.lst (((List.range i).map fun k => cr (fb bs) (a + k) == ts.getD k true).map V.bl))) ⟨same_upd nL, upd_same⟩ ?_ ?_
        · rintro i H2 hi ⟨sm, hL⟩
          refine ⟨rfl, ?_⟩
          have hi' : i < ts.length := by rw [tx_len] at hi; omega
          have e1 : (a : Int) + (0 + (i : Int)) = ((a + i : Nat) : Int) := by omega
          have e2 : a + i < 2 ^ bs.length := by omega
          have e3 : (0 : Int) + (i : Int) = ((i : Nat) : Int) := by omega
          refine ⟨_, rfl, _, rfl, _, rfl, _, _, rfl, rfl, bs, a + i, congrArg (fun z => [V.str (tx bs), V.int z]) e1, by omega, pt_lt (by omega) e2, hb, ?_⟩
          refine ⟨_, rfl, _, rfl, tx ts, _, cd ts[i], rfl, rfl, hz, (by rw [e3]; exact atI_nat (tx_at hi')), rfl, _, hL, ?_, fun b o e => ?_, ?_⟩
          · rw [List.length_map, List.length_map, List.length_range]
            exact lt_line (by omega)
          · rw [upd_ne (ne_of_none e nL)]
            exact sm _ _ e
          · rw [upd_same, List.range_succ, List.map_append, List.map_append, sg_eq, ← getD_at hi']
            rfl
        · rintro H2 ⟨sm, hL⟩
          refine ⟨L, _, rfl, .inl (.inl hL), ?_⟩
          have q1 := q H2 sm
          rw [shF_all c1] at q1
          rw [List.all_map, tx_len, Int.toNat_natCast]
          exact q1
    · rw [hsh] at q
      have q0 := q H (Same.refl H)
      refine ⟨_, rfl, _, .ref CF, _, _, false, rfl, .own CF, isU C hp, C.UF, false, rfl, iteF ?_⟩
      refine ⟨_, rfl, p, CU, dx, _, _, rfl, hp, C.clU, C.nO, fU_one _ _, _, _, rfl, rfl, _, rfl, ite2 (fun c1 => ?_) (fun c1 => ⟨false, rfl, iteT ?_⟩)⟩
      · refine ⟨_, rfl, p, CU, dx, _, _, rfl, hp, C.clU, C.nT, fU_other _ _, _, _, rfl, rfl, _, rfl, ite2 (fun c2 => ?_) (fun c2 => ⟨false, rfl, iteT ?_⟩)⟩
        · have d1 : 0 ≤ i := of_decide_eq_true c1
          have d2 : i < j := of_decide_eq_true c2
          refine ⟨_, rfl, tx ts, rfl, hz, _, _, rfl, rfl, _, rfl, ?_⟩
          by_cases d3 : j < ts.length
          · have e3 : decide (j < ((tx ts).length : Int)) = true := decide_eq_true (by rw [tx_len]; exact d3)
            refine iteB (c := !decide (j < ((tx ts).length : Int))) (b := false) (by rw [e3]; rfl) (fun z => nomatch z) (fun _ => ?_)
            obtain ⟨m, rfl⟩ : ∃ m : Nat, i = (m : Int) := ⟨i.toNat, by omega⟩
            obtain ⟨n, rfl⟩ : ∃ n : Nat, j = (n : Int) := ⟨j.toNat, by omega⟩
            have g1 : (a : Int) + (m : Int) = ((a + m : Nat) : Int) := (Int.natCast_add a m).symm
            have g2 : (a : Int) + (n : Int) = ((a + n : Nat) : Int) := (Int.natCast_add a n).symm
            refine ⟨_, rfl, _, rfl, p, CU, dx, _, _, rfl, hp, C.clU, C.nO, fU_one _ _, _, _, rfl, rfl, a + m, congrArg (fun z => [V.int z]) g1, by omega, ?_⟩
            refine ⟨_, rfl, _, rfl, p, CU, dx, _, _, rfl, hp, C.clU, C.nT, fU_other _ _, _, _, rfl, rfl, a + n, congrArg (fun z => [V.int z]) g2, by omega, _, rfl, rfl, _, rfl, ?_⟩
            by_cases ep : pt (a + m) = pt (a + n)
            · refine iteB (c := !decide (V.int ((pt (a + n) : Nat) : Int) = V.int ((pt (a + m) : Nat) : Int))) (b := false) (ne_int_eq (by rw [ep])) (fun z => nomatch z) (fun _ => ?_)
              have hm : m < ts.length := by omega
              have hn : n < ts.length := by omega
              refine ⟨_, rfl, _, rfl, p, CU, dx, _, _, rfl, hp, C.clU, C.nO, fU_one _ _, _, _, rfl, rfl, _, rfl, a + m, pt (a + m), congrArg V.int g1, rfl, ?_⟩
              refine ⟨_, rfl, _, rfl, p, CU, dx, _, _, rfl, hp, C.clU, C.nT, fU_other _ _, _, _, rfl, rfl, _, rfl, a + n, pt (a + m), congrArg V.int g2, rfl, ?_⟩
              refine ⟨_, rfl, _, rfl, p, CU, dx, _, _, rfl, hp, C.clU, C.nO, fU_one _ _, tx ts, _, cd ts[m], rfl, rfl, hz, atI_nat (tx_at hm), _, rfl, _, rfl, p, CU, dx, _, _, rfl, hp, C.clU, C.nT, fU_other _ _, tx ts, _, cd ts[n], rfl, rfl, hz, atI_nat (tx_at hn), rfl, ?_⟩
              refine ⟨_, rfl, _, rfl, _, _, rfl, rfl, (by show (0 : Int) < 4; decide), _, rfl, _, _, rfl, rfl, (by show (0 : Int) < 4; decide), rfl, rfl, ?_⟩
              rw [shU_in (i := (m : Int)) (j := (n : Int)) ⟨d1, d2, d3⟩ ep] at q0
              rw [show ((m : Int)).toNat = m from rfl, show ((n : Int)).toNat = n from rfl, getD_at hm, getD_at hn] at q0
              dsimp only
              rw [ne_bl, sg_eq2, g1, g2, al_mod (m := a + m) (n := a + n) rfl ep.symm (by omega) (by omega)]
              exact q0
            · refine iteB (c := !decide (V.int ((pt (a + n) : Nat) : Int) = V.int ((pt (a + m) : Nat) : Int))) (b := true) (by rw [decide_eq_false fun y => ep (by have := V.int.inj y; omega)]; rfl) (fun _ => ?_) (fun z => nomatch z)
              rw [shU_part (i := (m : Int)) (j := (n : Int)) ep] at q0
              exact q0
          · have e3 : decide (j < ((tx ts).length : Int)) = false := decide_eq_false (by rw [tx_len]; exact d3)
            refine iteB (c := !decide (j < ((tx ts).length : Int))) (b := true) (by rw [e3]; rfl) (fun _ => ?_) (fun z => nomatch z)
            rw [shU_out (by omega)] at q0
            exact q0
        · have d2 : ¬ i < j := fun y => c2 (decide_eq_true y)
          rw [shU_out (by omega)] at q0
          exact q0
      · have d1 : ¬ 0 ≤ i := fun y => c1 (decide_eq_true y)
        rw [shU_out (by omega)] at q0
        exact q0
def sp_right (K : PySem.W.Frag) : Sp := fun vs H Q _ => ∃ (ts : List Bool) (a : Nat), vs = [.str (tx ts), .int (a : Int)] ∧ 0 < a ∧ ts ≠ [] ∧ ts.length ≤ 1000 ∧ a + ts.length ≤ 2 ^ 5000 ∧ ∀ H', Same H H' → Q (.bl true) H'
theorem ok_right (D : Df K mg "_law_right" s__law_right ["_law_turns", "_law_first"]) (C : CC K mg CA CF CU) (T : Txt mg) (G_told : Ok P w K mg base CX0 3 "told" ["turns", "first"] (sp_told CF CU)) (G__law_due : Ok P w K mg base CX0 3 "_law_due" ["_law_turns", "_law_first", "_law_found"] (sp_due CF CU))
    (G__law_whole : Ok P w K mg base CX0 1 "_law_whole" ["_law_number"] (sp_is_whole K)) (M_showsF : Om P w K mg base CX0 3 CF "shows" ["self", "turns", "first"] (sp_showsF CF)) (M_showsU : Om P w K mg base CX0 2 CU "shows" ["self", "turns", "first"] (sp_showsU CU)) :
    Ok P w K mg base CX0 4 "_law_right" ["_law_turns", "_law_first"] (sp_right K) := by
  refine D.ok sc__law_right (fun vs H Q E h => ?_) (fun f cdv A outer s H vs Q E hr h => ?_)
  · obtain ⟨ts, a, rfl, _⟩ := h
    rfl
  · obtain ⟨ts, a, rfl, a0, hne, hlt, hsz, q⟩ := h
    refine ⟨_, (pss_cons (ps_set (i := 2) sc__law_right.nd rfl (Or.inl rfl) (pe_c G_told (hr.mono (by decide)) (pa_cons (pv 0) (pa_cons (pv 1) pa_nil))))
      (pss_cons (ps_if (PW.pt (pw_or (pt_not (pt_val (pe_callB call_isi (by rfl) T.b_isinstance (by decide +kernel) (pa_cons (pv 2) (pa_cons (pe_glob (v := .ref CA) (by rfl) C.gA rfl) pa_nil))))) (pw_or1 (pt_cmpR op_eq (pe_callB call_isi (by rfl) T.b_isinstance (by decide +kernel) (pa_cons (pv 2) (pa_cons (pe_glob (v := .ref CF) (by rfl) C.gF rfl) pa_nil))) (pe_callB call_isi (by rfl) T.b_isinstance (by decide +kernel) (pa_cons (pv 2) (pa_cons (pe_glob (v := .ref CU) (by rfl) C.gU rfl) pa_nil))) (nomark _)))))
      (pss_one (ps_ret pe_bl))
      pss_nil)
      (pss_cons (ps_if (PW.pt (pw_and (pt_val (pe_callB call_isi (by rfl) T.b_isinstance (by decide +kernel) (pa_cons (pv 2) (pa_cons (pe_glob (v := .ref CU) (by rfl) C.gU rfl) pa_nil)))) (pw_and1 (pt_not (pt_val (pe_callB (cr_all rfl) (by rfl) T.b_all (by decide +kernel) (pa_cons (pe_lc (own := [("_law_one", 3)]) (g := gName 3) (by rfl) sc__law_right.nd (pi_tup (pe_tup (pa_cons (pe_fd (K' := K) (pv 2)) (pa_cons (pe_fd (K' := K) (pv 2)) pa_nil)))) (blkOk_by (own := [("_law_one", 3)]) (N := N__law_right) (sc := defScope s__law_right) (by decide +kernel)) (fun _ _ _ _ _ => pg_name (i := 3) sc__law_right.nd rfl (Or.inl rfl)) (fun _ _ _ _ _ => pts_nil) (fun _ _ _ _ _ => (pe_c G__law_whole (hr.mono (by decide)) (pa_cons (pv 3) pa_nil)))) pa_nil)))))))
      (pss_one (ps_ret pe_bl))
      pss_nil)
      (pss_cons (ps_if (PW.pt (pw_or (pt_not (pt_val (pe_c G__law_due (hr.mono (by decide)) (pa_cons (pv 0) (pa_cons (pv 1) (pa_cons (pv 2) pa_nil)))))) (pw_or1 (pt_cmpR op_isnot_bl (pe_or2 (pe_m C.clF M_showsF (hr.mono (by decide)) (pv 2) (pa_cons (pv 0) (pa_cons (pv 1) pa_nil))) (pe_m C.clU M_showsU (hr.mono (by decide)) (pv 2) (pa_cons (pv 0) (pa_cons (pv 1) pa_nil)))) pe_bl (nomark _)))))
      (pss_one (ps_ret pe_bl))
      pss_nil)
      (pss_one (ps_ret (pe_cmpR op_eq (pe_or2 (pe_m C.clF M_showsF (hr.mono (by decide)) (pv 2) (pa_cons (pv 0) (pa_cons (pe_op op_add (pv 1) pe_int) pa_nil))) (pe_m C.clU M_showsU (hr.mono (by decide)) (pv 2) (pa_cons (pv 0) (pa_cons (pe_op op_add (pv 1) pe_int) pa_nil)))) (pe_c G__law_due (hr.mono (by decide)) (pa_cons (pv 0) (pa_cons (pe_op op_add (pv 1) pe_int) (pa_cons (pv 2) pa_nil)))) (nomark _)))))))), ?_⟩
    have hl : ts.length ≤ 10000 := by omega
    have ea : (a : Int) + 1 = ((a + 1 : Nat) : Int) := rfl
    refine ⟨_, rfl, _, rfl, ts, a, rfl, a0, hne, hlt, hsz, fun H1 p dx bs s1 hp hb hsh => ?_, fun H1 p dx i j s1 hp hsh => ?_⟩
    · have hb2 : bs.length ≤ 10000 := by omega
      have hzb : (tx bs).length ≤ 10000 := by rw [tx_len]; exact hb2
      refine ⟨_, rfl, _, .ref CA, _, _, true, rfl, .own CA, isF C hp, C.FA, true, rfl, iteF ?_⟩
      refine ⟨_, rfl, _, .ref CF, _, _, true, rfl, .own CF, isF C hp, C.FF, _, rfl, _, .ref CU, _, _, false, rfl, .own CU, isF C hp, C.FU, rfl, _, rfl, iteF ?_⟩
      refine ⟨_, rfl, _, .ref CU, _, _, false, rfl, .own CU, isF C hp, C.FU, false, rfl, iteF (iteF ?_)⟩
      have A1 : AnsAt CF CU H1 p ts (fun a => shF bs ts a) := .inl ⟨dx, bs, hp, hb2, fun _ => rfl⟩
      refine ⟨_, rfl, _, rfl, _, rfl, ts, a, p, _, rfl, A1, hl, a0, fun H2 s2 => ⟨_, rfl, ?_⟩⟩
      have hp2 := s2 _ _ hp
      rw [hsh]
      refine iteF ?_
      refine .inl ⟨_, rfl, p, dx, _, rfl, hp2, fF_no _ (by decide +kernel), _, rfl, _, rfl, p, dx, tx bs, ts, a, rfl, hp2, hzb, hl, a0, .inl ⟨bs, rfl, fun H3 s3 => ?_⟩⟩
      rw [hsh]
      refine ⟨true, true, rfl, rfl, _, rfl, iteF ?_⟩
      have hp3 := s3 _ _ hp2
      refine .inl ⟨_, rfl, p, dx, _, rfl, hp3, fF_no _ (by decide +kernel), _, rfl, _, rfl, _, _, rfl, rfl, p, dx, tx bs, ts, a + 1, rfl, hp3, hzb, hl, by omega, .inl ⟨bs, rfl, fun H4 s4 => ?_⟩⟩
      have s14 := s2.trans (s3.trans s4)
      refine ⟨_, rfl, _, rfl, _, _, rfl, rfl, _, rfl, ts, a + 1, p, _, rfl, A1.mono s14, hl, by omega, fun H5 s5 => ⟨rfl, ?_⟩⟩
      rw [decide_eq_true rfl]
      exact q _ (s1.trans (s14.trans s5))
    · refine ⟨_, rfl, _, .ref CA, _, _, true, rfl, .own CA, isU C hp, C.UA, true, rfl, iteF ?_⟩
      refine ⟨_, rfl, _, .ref CF, _, _, false, rfl, .own CF, isU C hp, C.UF, _, rfl, _, .ref CU, _, _, true, rfl, .own CU, isU C hp, C.UU, rfl, _, rfl, iteF ?_⟩
      refine ⟨_, rfl, _, .ref CU, _, _, true, rfl, .own CU, isU C hp, C.UU, true, rfl, iteT ?_⟩
      refine ⟨_, rfl, p, CU, dx, _, _, rfl, hp, C.clU, C.nO, fU_one _ _, _, rfl, p, CU, dx, _, _, rfl, hp, C.clU, C.nT, fU_other _ _, (by show 2 ≤ sizeLine; decide), fun t nt => ?_⟩
      refine ⟨t, rfl, ⟨_, .inl (.inl upd_same)⟩, fun L nL => ?_⟩
      have st := same_upd (o := .tup [V.int (i : Int), V.int (j : Int)]) nt
      refine lc_it (walk_tup (K := K) (a := t) (xs := [V.int (i : Int), V.int (j : Int)])) (fun n H' => Same (upd H1 t (.tup [V.int (i : Int), V.int (j : Int)])) H' ∧ H' L = some (.lst ((List.replicate n true).map V.bl))) ⟨same_upd nL, upd_same⟩ (fun n H' _ h => h.1.seqT (.inl (.inl upd_same))) ?_ ?_
      · rintro n v H2 H3 hi ⟨s2, hL⟩ ⟨rfl, hv⟩
        refine ⟨rfl, ?_⟩
        have hi2 : n < 2 := hi
        obtain ⟨z, rfl⟩ : ∃ z, v = .int z := by
          match n, hi2, hv with
          | 0, _, hv => exact ⟨_, (Option.some.inj hv).symm⟩
          | 1, _, hv => exact ⟨_, (Option.some.inj hv).symm⟩
        refine ⟨_, rfl, .int z, _, true, false, rfl, kit_int z, kit_ty (by decide +kernel), kit_ty (by decide +kernel), _, hL, ?_, fun b o e => ?_, ?_⟩
        · rw [List.length_map, List.length_replicate]
          exact lt_line (by omega)
        · rw [upd_ne (ne_of_none e nL)]
          exact s2 _ _ e
        · rw [upd_same, List.replicate_succ', List.map_append]
          rfl
      rintro H2 ⟨s2, hL⟩
      refine ⟨L, _, rfl, .inl (.inl hL), true, rfl, iteF ?_⟩
      have s12 := st.trans s2
      have hp2 := s12 _ _ hp
      have A1 : AnsAt CF CU H2 p ts (fun a => shU ts a (i : Int) (j : Int)) := .inr ⟨dx, i, j, hp2, fun _ => rfl⟩
      refine ⟨_, rfl, _, rfl, _, rfl, ts, a, p, _, rfl, A1, hl, a0, fun H3 s3 => ⟨_, rfl, ?_⟩⟩
      have hp3 := s3 _ _ hp2
      rw [hsh]
      refine iteF ?_
      refine .inr ⟨_, rfl, p, dx, _, rfl, hp3, fU_no _ _ (by decide +kernel) (by decide +kernel), _, rfl, _, rfl, p, dx, i, j, ts, a, rfl, hp3, hl, a0, ?_⟩
      rw [hsh]
      refine ⟨true, true, rfl, rfl, _, rfl, iteF ?_⟩
      refine .inr ⟨_, rfl, p, dx, _, rfl, hp3, fU_no _ _ (by decide +kernel) (by decide +kernel), _, rfl, _, rfl, _, _, rfl, rfl, p, dx, i, j, ts, a + 1, rfl, hp3, hl, by omega, ?_⟩
      refine ⟨_, rfl, _, rfl, _, _, rfl, rfl, _, rfl, ts, a + 1, p, _, rfl, A1.mono s3, hl, by omega, fun H5 s5 => ⟨rfl, ?_⟩⟩
      rw [decide_eq_true rfl]
      exact q _ (s1.trans (s12.trans (s3.trans s5)))
theorem big1 {n l k : Nat} (h : n ≤ 2 ^ k) (hk : k ≤ 63) (hl : l ≤ 1000) : n + l ≤ 2 ^ 5000 := by
  have h1 : (2 : Nat) ^ k ≤ 2 ^ 63 := Nat.pow_le_pow_right (by decide) hk
  have h2 : (2 : Nat) ^ 64 ≤ 2 ^ 5000 := Nat.pow_le_pow_right (by decide) (by decide)
  have h3 : (2 : Nat) ^ 63 + 1000 ≤ 2 ^ 64 := by decide
  omega
theorem big2 {n l : Nat} (h : n ≤ 10 ^ 60) (hl : l ≤ 1000) : n + l ≤ 2 ^ 5000 := by
  have h2 : (2 : Nat) ^ 200 ≤ 2 ^ 5000 := Nat.pow_le_pow_right (by decide) (by decide)
  have h3 : (10 : Nat) ^ 60 + 1000 ≤ 2 ^ 200 := by decide +kernel
  omega
def sp_law (K : PySem.W.Frag) : Sp := fun vs H Q _ => ∃ (a : Addr) (ns : List Int), vs = [.ref a] ∧ Scr K H a ns ∧ ∀ H', Q (.bl true) H'
theorem ok_law (D : Df K mg "law" s_law ["_law_script"]) (C : CC K mg CA CF CU) (T : Txt mg) (G__law_folds : Ok P w K mg base CX0 2 "_law_folds" ["_law_script", "_law_by"] (sp_folds K)) (G__law_far : Ok P w K mg base CX0 2 "_law_far" ["_law_script", "_law_by", "_law_most"] (sp_far K))
    (G__law_cell_at : Ok P w K mg base CX0 1 "_law_cell_at" ["_law_script", "_law_k"] (sp_cell_at K)) (G__law_draw : Ok P w K mg base CX0 1 "_law_draw" ["_law_cell", "_law_k", "_law_many"] sp_draw)
    (G__law_crease : Ok P w K mg base CX0 2 "_law_crease" ["_law_folds_here", "_law_count"] sp_way_of) (G__law_other : Ok P w K mg base CX0 1 "_law_other" ["_law_letter"] sp_opposite)
    (G_creases : Ok P w K mg base CX0 3 "creases" ["folds", "first", "many"] sp_creases) (G_told : Ok P w K mg base CX0 3 "told" ["turns", "first"] (sp_told CF CU)) (G__law_right : Ok P w K mg base CX0 4 "_law_right" ["_law_turns", "_law_first"] (sp_right K)) :
    Ok P w K mg base CX0 5 "law" ["_law_script"] (sp_law K) := by
  refine D.ok sc_law (fun vs H Q E h => ?_) (fun f cdv A outer s H vs Q E hr h => ?_)
  · obtain ⟨a, ns, rfl, _⟩ := h
    rfl
  · obtain ⟨a, ns, rfl, S, q⟩ := h
    refine ⟨_, (pss_cons (ps_set (i := 1) sc_law.nd rfl (Or.inr rfl) (pe_c G__law_folds (hr.mono (by decide)) (pa_cons (pv 0) (pa_cons pe_int pa_nil))))
      (pss_cons (ps_set (i := 2) sc_law.nd rfl (Or.inl rfl) (pe_op op_oneShlN pe_int (pe_callB call_len_seq (by rfl) T.b_len (by decide +kernel) (pa_cons (pv 0) pa_nil))))
      (pss_cons (ps_for PassesOwn.never rfl (pi_list (pe_lst (pa_cons pe_int (pa_cons (pe_op op_add pe_int (pe_c G__law_far (hr.mono (by decide)) (pa_cons (pv 0) (pa_cons pe_int (pa_cons (pv 2) pa_nil))))) (pa_cons (pe_op op_fdiv (pv 2) pe_int) pa_nil))))) (pg_name (i := 3) sc_law.nd rfl (Or.inr rfl))
      (pss_cons (ps_set (i := 4) sc_law.nd rfl (Or.inl rfl) (pe_callB (call_min2 rfl) (by rfl) T.b_min (by decide +kernel) (pa_cons pe_int (pa_cons (pe_op op_sub (pv 2) (pv 3)) pa_nil))))
      (pss_one (ps_if (PW.pt (pw_and (pt_cmpR op_gt (pv 3) pe_int (nomark _)) (pw_and1 (pt_cmpR op_gt (pv 4) pe_int (nomark _)))))
      (pss_cons (ps_set (i := 5) sc_law.nd rfl (Or.inl rfl) (pe_join pe_str (pe_lc (own := [("_law_k", 11)]) (g := gName 11) (by rfl) sc_law.nd (pi_range1 (by rfl) T.b_range (pa_cons (pv 4) pa_nil)) (blkOk_by (own := [("_law_k", 11)]) (N := N_law) (sc := defScope s_law) (by decide +kernel)) (fun _ _ _ _ _ => pg_name (i := 11) sc_law.nd rfl (Or.inl rfl)) (fun _ _ _ _ _ => pts_nil) (fun _ _ _ _ _ => (pe_c G__law_crease (hr.mono (by decide)) (pa_cons (pv 1) (pa_cons (pe_op op_add (pv 3) (pv 11)) pa_nil)))))))
      (pss_cons (ps_set (i := 6) sc_law.nd rfl (Or.inl rfl) (pe_c G__law_draw (hr.mono (by decide)) (pa_cons (pe_c G__law_cell_at (hr.mono (by decide)) (pa_cons (pv 0) (pa_cons pe_int pa_nil))) (pa_cons pe_int (pa_cons (pv 4) pa_nil)))))
      (pss_cons (ps_set (i := 7) sc_law.nd rfl (Or.inl rfl) (pe_op op_add_str (pe_op op_add_str (pe_slice sl_str (pv 5) po_none (po_some (pv 6))) (pe_c G__law_other (hr.mono (by decide)) (pa_cons (pe_at ix_str (pv 5) (pv 6)) pa_nil))) (pe_slice sl_str (pv 5) (po_some (pe_op op_add (pv 6) pe_int)) po_none)))
      (pss_cons (ps_if (PW.pt (pw_or (pt_cmpR op_ne (pv 5) (pe_c G_creases (hr.mono (by decide)) (pa_cons (pv 1) (pa_cons (pv 3) (pa_cons (pv 4) pa_nil)))) (nomark _)) (pw_or1 (pt_not (pt_val (pe_callB call_isi (by rfl) T.b_isinstance (by decide +kernel) (pa_cons (pe_c G_told (hr.mono (by decide)) (pa_cons (pv 5) (pa_cons (pv 3) pa_nil))) (pa_cons (pe_glob (v := .ref CF) (by rfl) C.gF rfl) pa_nil))))))))
      (pss_one (ps_ret pe_bl))
      pss_nil)
      (pss_one (ps_for PassesOwn.never rfl (pi_tup (pe_tup (pa_cons (pv 5) (pa_cons (pv 7) (pa_cons (pe_revS (pv 5)) (pa_cons (pe_op op_add_str (pv 5) (pe_slice sl_str (pv 5) (po_some pe_int) po_none)) pa_nil)))))) (pg_name (i := 8) sc_law.nd rfl (Or.inl rfl))
      (pss_one (ps_if (pt_not (pt_val (pe_c G__law_right (hr.mono (by decide)) (pa_cons (pv 8) (pa_cons (pv 3) pa_nil)))))
      (pss_one (ps_ret pe_bl))
      pss_nil))))))))
      pss_nil))))
      (pss_cons (ps_set (i := 9) sc_law.nd rfl (Or.inl rfl) (pe_op op_add pe_int (pe_c G__law_far (hr.mono (by decide)) (pa_cons (pv 0) (pa_cons pe_int (pa_cons (pe_op op_pow pe_int pe_int) pa_nil))))))
      (pss_cons (ps_for PassesOwn.never rfl (pi_tup (pe_tup (pa_cons (pe_op op_add_str (pv 1) pe_str) (pa_cons (pe_op op_add_str (pe_revS (pv 1)) pe_str) (pa_cons (pe_op op_add_str (pe_op op_add_str (pv 1) (pv 1)) pe_str) pa_nil))))) (pg_name (i := 8) sc_law.nd rfl (Or.inl rfl))
      (pss_one (ps_for PassesOwn.never rfl (pi_tup (pe_tup (pa_cons pe_int (pa_cons (pv 9) pa_nil)))) (pg_name (i := 10) sc_law.nd rfl (Or.inl rfl))
      (pss_one (ps_if (pt_not (pt_val (pe_c G__law_right (hr.mono (by decide)) (pa_cons (pv 8) (pa_cons (pv 10) pa_nil)))))
      (pss_one (ps_ret pe_bl))
      pss_nil)))))
      (pss_one (ps_ret pe_bl))))))), ?_⟩
    refine ⟨_, rfl, a, ns, 4, rfl, S, by decide, fun H1 bs s1 hl => ?_⟩
    have hl63 : bs.length ≤ 63 := by have := S.len; omega
    have hl0 : bs.length ≤ 10000 := by omega
    have S1 := S.mono s1
    refine ⟨_, rfl, a, _, rfl, .inl S1.at_, ns.length, rfl, by rw [List.length_map], by have := S.len; omega, ?_⟩
    rw [← hl]
    have p0 : 0 < 2 ^ bs.length := Nat.pow_pos (by omega)
    -- for first in [1, 1 + far(..), whole // 2]
    refine ⟨_, rfl, _, rfl, a, ns, 2, ((2 ^ bs.length : Nat) : Int), rfl, S1, by decide, by omega, fun H2 r s2 r0 r1 => ?_⟩
    refine ⟨_, _, rfl, rfl, _, rfl, _, _, rfl, rfl, ⟨by decide, by decide⟩, (by show 3 ≤ sizeLine; decide), fun L nL => ?_⟩
    refine ⟨L, rfl, ⟨_, .inl (.inl upd_same)⟩, ?_⟩
    have sL := same_upd (o := .lst [V.int 1, V.int (1 + r), V.int (((2 ^ bs.length : Nat) : Int) / 2)]) nL
    have S3 := S1.mono (s2.trans sL)
    refine for_it (walk_list (K := K) (a := L) (xs := [V.int 1, V.int (1 + r), V.int (((2 ^ bs.length : Nat) : Int) / 2)])) (fun i σ H' => ∃ x3 x4 x5 x6 x7 x8 x9 x10 x11, σ = [some (.ref a), some (.str (tx bs)), some (.int ((2 ^ bs.length : Nat) : Int)), x3, x4, x5, x6, x7, x8, x9, x10, x11] ∧
        Same (upd H2 L (.lst [V.int 1, V.int (1 + r), V.int (((2 ^ bs.length : Nat) : Int) / 2)])) H')
      ⟨_, _, _, _, _, _, _, _, _, rfl, Same.refl _⟩ (fun i σ H' _ h => by
        obtain ⟨_, _, _, _, _, _, _, _, _, _, h⟩ := h
        exact .inl (.inl (h _ _ upd_same))) ?_ ?_
    · rintro i v σ H3 H4 hi ⟨x3, x4, x5, x6, x7, x8, x9, x10, x11, rfl, s3⟩ ⟨rfl, hv⟩
      obtain ⟨c, rfl, c0, c1⟩ : ∃ c : Int, v = .int c ∧ 0 ≤ c ∧ c ≤ ((2 ^ bs.length : Nat) : Int) := by
        have hi3 : i < 3 := hi
        match i, hi3, hv with
        | 0, _, hv => exact ⟨1, (Option.some.inj hv).symm, by omega, by omega⟩
        | 1, _, hv => exact ⟨1 + r, (Option.some.inj hv).symm, by omega, by omega⟩
        | 2, _, hv => exact ⟨_, (Option.some.inj hv).symm, by omega, by omega⟩
      obtain ⟨n, rfl⟩ : ∃ n : Nat, c = (n : Int) := ⟨c.toNat, by omega⟩
      have hn : n ≤ 2 ^ bs.length := by omega
      have S4 := S3.mono s3
      -- many = min(40, whole - first)
      obtain ⟨m, em, hm40, hnm⟩ : ∃ m : Nat, (if ((2 ^ bs.length : Nat) : Int) - (n : Int) < 40 then ((2 ^ bs.length : Nat) : Int) - (n : Int) else 40) = (m : Int) ∧ m ≤ 40 ∧ n + m ≤ 2 ^ bs.length := by
        refine ⟨min 40 (2 ^ bs.length - n), ?_, by omega, by omega⟩
        split <;> omega
      refine ⟨_, rfl, _, rfl, _, _, rfl, rfl, _, _, rfl, ?_⟩
      -- if first > 0 and many > 0
      refine ⟨_, rfl, _, _, rfl, rfl, _, rfl, ite2 (fun d1 => ?_) (fun d1 => iteF ⟨_, _, _, _, _, _, _, _, _, rfl, s3⟩)⟩
      have n0 : 0 < n := by
        have := of_decide_eq_true d1
        omega
      refine ⟨_, rfl, _, _, rfl, rfl, _, rfl, ite2 (fun d2 => ?_) (fun d2 => ⟨_, _, _, _, _, _, _, _, _, rfl, s3⟩)⟩
      have m0 : 0 < m := by
        have := of_decide_eq_true d2
        rw [em] at this
        omega
      -- turns = "".join(..)
      refine ⟨⟨_, rfl⟩, _, rfl, (m : Int), congrArg (fun z => [V.int z]) em, by omega, by omega, fun L5 n5 => ?_⟩
      refine lc_range (lo := 0) (n := (m : Int).toNat) (fun i H' => Same H4 H' ∧ H' L5 = some (.lst (((row (fb bs) n i).map fun b => tx [b]).map V.str))) ⟨same_upd n5, upd_same⟩ ?_ ?_
      · rintro k H5 hk ⟨sm, hL⟩
        refine ⟨rfl, ?_⟩
        have hk' : k < m := by omega
        have e1 : (n : Int) + (0 + (k : Int)) = ((n + k : Nat) : Int) := by omega
        have e2 : n + k < 2 ^ bs.length := by omega
        refine ⟨_, rfl, _, rfl, _, rfl, _, _, rfl, rfl, bs, n + k, congrArg (fun z => [V.str (tx bs), V.int z]) e1, by omega, pt_lt (by omega) e2, hl0, _, hL, ?_, fun b' o e => ?_, ?_⟩
        · rw [List.length_map, List.length_map, row_len]
          exact lt_line (by omega)
        · rw [upd_ne (ne_of_none e n5)]
          exact sm _ _ e
        · rw [upd_same, row_succ, List.map_append, List.map_append]
          rfl
      rintro H5 ⟨s5, hL5⟩
      rw [Int.toNat_natCast] at hL5
      refine ⟨_, L5, _, rfl, rfl, .inl (.inl (.inl hL5)), join_fits (by rw [row_len]; omega), ?_⟩
      rw [join_tx]
      have lenR : (row (fb bs) n m).length = m := row_len _ _ _
      have hzR : (tx (row (fb bs) n m)).length ≤ sizeLine := le_line (by rw [tx_len]; omega)
      have rne : row (fb bs) n m ≠ [] := fun z => by
        rw [z] at lenR
        exact absurd lenR (by simp; omega)
      -- at = draw(cell_at(script, 1), 5, many)
      have S5 := S4.mono s5
      refine ⟨_, rfl, a, ns, 1, rfl, S5, fun z hz => ?_⟩
      refine ⟨_, rfl, z, 5, (m : Int), congrArg (fun y => [V.int z, V.int 5, V.int y]) em, hz, by decide, by omega, fun H6 u s6 u0 u1 => ?_⟩
      obtain ⟨k, rfl⟩ : ∃ k : Nat, u = (k : Int) := ⟨u.toNat, by omega⟩
      have hk : k < (row (fb bs) n m).length := by rw [lenR]; omega
      -- bent = ..
      have ek1 : (k : Int) + 1 = ((k + 1 : Nat) : Int) := rfl
      refine ⟨_, rfl, _, rfl, _, rfl, tx (row (fb bs) n m), rfl, hzR, ?_⟩
      refine ⟨_, rfl, _, rfl, tx (row (fb bs) n m), _, cd (row (fb bs) n m)[k], rfl, rfl, hzR, atI_nat (tx_at hk), (row (fb bs) n m)[k], rfl, ?_⟩
      refine ⟨_, _, rfl, rfl, ?_, ?_⟩
      · rw [cut_to, tx_len, tx_len]
        exact le_line (by rw [List.length_take]; simp only [List.length_singleton]; omega)
      refine ⟨_, rfl, _, rfl, _, _, rfl, rfl, _, rfl, tx (row (fb bs) n m), rfl, hzR, ?_⟩
      have ebent : cutS (tx (row (fb bs) n m)) none (some (k : Int)) ++ tx [!(row (fb bs) n m)[k]] ++ cutS (tx (row (fb bs) n m)) (some ((k : Int) + 1)) none = tx ((row (fb bs) n m).take k ++ [!(row (fb bs) n m)[k]] ++ (row (fb bs) n m).drop (k + 1)) := by
        rw [cut_to, ek1, cut_from, tx_append, tx_append]
      refine ⟨_, _, rfl, rfl, ?_, ?_⟩
      · show (cutS (tx (row (fb bs) n m)) none (some (k : Int)) ++ tx [!(row (fb bs) n m)[k]]).length + (cutS (tx (row (fb bs) n m)) (some ((k : Int) + 1)) none).length ≤ sizeLine
        rw [cut_to, ek1, cut_from, tx_append, tx_len, tx_len]
        exact le_line (by rw [List.length_append, List.length_take, List.length_drop]; simp only [List.length_singleton]; omega)
      -- turns != creases(..) or not isinstance(told(..), Folds)
      refine ⟨_, rfl, _, rfl, _, rfl, _, rfl, bs, n, m, congrArg (fun y => [V.str (tx bs), V.int (n : Int), V.int y]) em, hl0, n0, hnm, by omega, fun H7 s7 => ?_⟩
      refine ⟨rfl, _, rfl, iteB (ne_str_eq rfl) (fun z => nomatch z) (fun _ => ?_)⟩
      refine ⟨_, rfl, _, rfl, row (fb bs) n m, n, rfl, n0, rne, by omega, big1 hn hl63 (by omega), fun H8 p dx fs s8 hp hfs hsh => ?_, fun H8 p dx i j s8 hp hsh => ?_⟩
      rotate_left 1
      · rw [row_unlike] at hsh
        cases hsh
      refine ⟨.ref p, .ref CF, _, _, true, rfl, .own CF, isF C hp, C.FF, true, rfl, iteF ?_⟩
      -- for some in (turns, bent, turns[::-1], turns + turns[1:])
      have edbl : tx (row (fb bs) n m) ++ cutS (tx (row (fb bs) n m)) (some 1) none = tx (row (fb bs) n m ++ (row (fb bs) n m).drop 1) := by
        rw [show cutS (tx (row (fb bs) n m)) (some 1) none = tx ((row (fb bs) n m).drop 1) from cut_from _ 1, tx_append]
      refine ⟨_, rfl, _, rfl, _, rfl, tx (row (fb bs) n m), rfl, hzR, _, rfl, _, rfl, 1, rfl, tx (row (fb bs) n m), rfl, hzR, _, _, rfl, rfl, ?_, (by show 4 ≤ sizeLine; decide), fun t nt => ?_⟩
      · rw [show cutS (tx (row (fb bs) n m)) (some 1) none = tx ((row (fb bs) n m).drop 1) from cut_from _ 1, tx_len, tx_len]
        exact le_line (by rw [List.length_drop]; omega)
      refine ⟨t, rfl, ⟨_, .inl (.inl upd_same)⟩, ?_⟩
      have s38 : Same H4 H8 := s5.trans (s6.trans (s7.trans s8))
      generalize hX : ([V.str (tx (row (fb bs) n m)), V.str (cutS (tx (row (fb bs) n m)) none (some (k : Int)) ++ tx [!(row (fb bs) n m)[k]] ++ cutS (tx (row (fb bs) n m)) (some ((k : Int) + 1)) none), V.str (rvS (tx (row (fb bs) n m))), V.str (tx (row (fb bs) n m) ++ cutS (tx (row (fb bs) n m)) (some 1) none)] : List V) = XS at nt ⊢
      have sT := same_upd (o := .tup XS) nt
      have items : ∀ (i : Nat) (v : V), XS[i]? = some v → ∃ ts : List Bool, v = V.str (tx ts) ∧ ts ≠ [] ∧ ts.length ≤ 1000 := by
        intro i v hv
        rw [← hX] at hv
        match i, hv with
        | 0, hv => exact ⟨_, (Option.some.inj hv).symm, rne, by omega⟩
        | 1, hv =>
          refine ⟨_, (Option.some.inj hv).symm.trans (congrArg V.str ebent), fun z => ?_, ?_⟩
          · have := congrArg List.length z
            rw [List.length_append, List.length_append] at this
            simp at this
          · simp only [List.length_append, List.length_take, List.length_drop, List.length_singleton]
            omega
        | 2, hv => exact ⟨_, (Option.some.inj hv).symm.trans (congrArg V.str (rvS_tx _)), fun z => rne (List.reverse_eq_nil_iff.mp z), by rw [List.length_reverse]; omega⟩
        | 3, hv =>
          refine ⟨_, (Option.some.inj hv).symm.trans (congrArg V.str edbl), fun z => rne (List.append_eq_nil_iff.mp z).1, ?_⟩
          rw [List.length_append, List.length_drop]
          omega
        | i + 4, hv => exact absurd hv (by simp)
      refine for_it (walk_tup (K := K) (a := t) (xs := XS)) (fun i σ H' => ∃ x8 x9 x10 x11, σ = [some (.ref a), some (.str (tx bs)), some (.int ((2 ^ bs.length : Nat) : Int)), some (.int (n : Int)), _, _, _, _, x8, x9, x10, x11] ∧ Same (upd H8 t (.tup XS)) H')
        ⟨_, _, _, _, rfl, Same.refl _⟩ (fun i σ H' _ h => by
          obtain ⟨_, _, _, _, _, h⟩ := h
          exact .inl (.inl (h _ _ upd_same))) ?_ ?_
      · rintro i2 v2 σ2 H9 H10 hi2 ⟨y8, y9, y10, y11, rfl, s9⟩ ⟨rfl, hv2⟩
        obtain ⟨ts, rfl, tne, tl⟩ := items i2 v2 hv2
        refine ⟨_, rfl, _, rfl, ts, n, rfl, n0, tne, tl, big1 hn hl63 tl, fun H11 s11 => ⟨true, rfl, iteF ?_⟩⟩
        exact ⟨_, _, _, _, rfl, s9.trans s11⟩
      · rintro σ2 H9 ⟨y8, y9, y10, y11, rfl, s9⟩
        exact ⟨_, _, _, _, _, _, _, _, _, rfl, s3.trans (s38.trans (sT.trans s9))⟩
    · rintro σ H3 ⟨x3, x4, x5, x6, x7, x8, x9, x10, x11, rfl, s3⟩
      have S4 := S3.mono s3
      have hzb : (tx bs).length ≤ sizeLine := le_line (by rw [tx_len]; omega)
      have l1 : ((("l" : String) : Str)).length = 1 := by rw [← tx_l, tx_len]; rfl
      have l2 : ((("r" : String) : Str)).length = 1 := by rw [← tx_r, tx_len]; rfl
      have big : (0 : Int) < (10 : Int) ^ (60 : Int).toNat := Int.pow_pos (by decide)
      -- far_here = 1 + far(script, 5, 10 ** 60)
      refine ⟨_, rfl, _, _, rfl, rfl, ⟨by decide, by decide, by decide⟩, a, ns, 5, (10 : Int) ^ (60 : Int).toNat, rfl, S4, by decide, big, fun H4 u s4 u0 u1 => ⟨_, _, rfl, rfl, ?_⟩⟩
      obtain ⟨k, rfl⟩ : ∃ k : Nat, u = (k : Int) := ⟨u.toNat, by omega⟩
      have hk : k + 1 ≤ 10 ^ 60 := by
        have e : (10 : Int) ^ (60 : Int).toNat = ((10 ^ 60 : Nat) : Int) := by decide +kernel
        rw [e] at u1
        omega
      have ek : (1 : Int) + (k : Int) = ((k + 1 : Nat) : Int) := by omega
      -- for some in (..)
      have e1 : tx bs ++ (("l" : String) : Str) = tx (bs ++ [true]) := by rw [← tx_l, tx_append]
      have e2 : rvS (tx bs) ++ (("r" : String) : Str) = tx (bs.reverse ++ [false]) := by rw [← tx_r, rvS_tx, tx_append]
      have e3 : tx bs ++ tx bs ++ (("l" : String) : Str) = tx (bs ++ bs ++ [true]) := by rw [← tx_l, tx_append, tx_append]
      refine ⟨_, rfl, _, _, rfl, rfl, by rw [tx_len, l1]; exact le_line (by omega), _, rfl, tx bs, rfl, hzb, _, _, rfl, rfl, by rw [rvS_tx, tx_len, List.length_reverse, l2]; exact le_line (by omega), ?_⟩
      refine ⟨_, rfl, _, rfl, _, _, rfl, rfl, by rw [tx_len]; exact le_line (by omega), _, _, rfl, rfl, by rw [tx_append, tx_len, List.length_append, l1]; exact le_line (by omega), (by show 3 ≤ sizeLine; decide), fun t nt => ?_⟩
      refine ⟨t, rfl, ⟨_, .inl (.inl upd_same)⟩, ?_⟩
      rw [e1, e2, e3]
      have sT := same_upd (o := .tup [V.str (tx (bs ++ [true])), V.str (tx (bs.reverse ++ [false])), V.str (tx (bs ++ bs ++ [true]))]) nt
      have items : ∀ (i : Nat) (v : V), ([V.str (tx (bs ++ [true])), V.str (tx (bs.reverse ++ [false])), V.str (tx (bs ++ bs ++ [true]))] : List V)[i]? = some v → ∃ ts : List Bool, v = V.str (tx ts) ∧ ts ≠ [] ∧ ts.length ≤ 1000 := by
        intro i v hv
        match i, hv with
        | 0, hv => exact ⟨_, (Option.some.inj hv).symm, by simp, by rw [List.length_append]; simp only [List.length_singleton]; omega⟩
        | 1, hv => exact ⟨_, (Option.some.inj hv).symm, by simp, by rw [List.length_append, List.length_reverse]; simp only [List.length_singleton]; omega⟩
        | 2, hv => exact ⟨_, (Option.some.inj hv).symm, by simp, by rw [List.length_append, List.length_append]; simp only [List.length_singleton]; omega⟩
        | i + 3, hv => exact absurd hv (by simp)
      refine for_it (walk_tup (K := K) (a := t) (xs := [V.str (tx (bs ++ [true])), V.str (tx (bs.reverse ++ [false])), V.str (tx (bs ++ bs ++ [true]))])) (fun i σ H' => ∃ z8 z10, σ = [some (.ref a), some (.str (tx bs)), some (.int ((2 ^ bs.length : Nat) : Int)), x3, x4, x5, x6, x7, z8, some (.int ((1 : Int) + (k : Int))), z10, x11] ∧
          Same (upd H4 t (.tup [V.str (tx (bs ++ [true])), V.str (tx (bs.reverse ++ [false])), V.str (tx (bs ++ bs ++ [true]))])) H')
        ⟨_, _, rfl, Same.refl _⟩ (fun i σ H' _ h => by
          obtain ⟨_, _, _, h⟩ := h
          exact .inl (.inl (h _ _ upd_same))) ?_ ?_
      · rintro i v σ2 H5 H6 hi ⟨z8, z10, rfl, s5⟩ ⟨rfl, hv⟩
        obtain ⟨ts, rfl, tne, tl⟩ := items i v hv
        refine ⟨_, rfl, (by show 2 ≤ sizeLine; decide), fun t2 nt2 => ?_⟩
        refine ⟨t2, rfl, ⟨_, .inl (.inl upd_same)⟩, ?_⟩
        refine for_it (walk_tup (K := K) (a := t2) (xs := [V.int 1, V.int ((1 : Int) + (k : Int))])) (fun i σ H' => ∃ z10, σ = [some (.ref a), some (.str (tx bs)), some (.int ((2 ^ bs.length : Nat) : Int)), x3, x4, x5, x6, x7, some (.str (tx ts)), some (.int ((1 : Int) + (k : Int))), z10, x11] ∧ Same (upd H6 t2 (.tup [V.int 1, V.int ((1 : Int) + (k : Int))])) H')
          ⟨_, rfl, Same.refl _⟩ (fun i σ H' _ h => by
            obtain ⟨_, _, h⟩ := h
            exact .inl (.inl (h _ _ upd_same))) ?_ ?_
        · rintro i2 v2 σ3 H7 H8 hi2 ⟨w10, rfl, s7⟩ ⟨rfl, hv2⟩
          obtain ⟨n, rfl, n0, n1⟩ : ∃ n : Nat, v2 = .int (n : Int) ∧ 0 < n ∧ n ≤ 10 ^ 60 := by
            have h2 : i2 < 2 := hi2
            match i2, h2, hv2 with
            | 0, _, hv2 => exact ⟨1, (Option.some.inj hv2).symm, by decide, by decide +kernel⟩
            | 1, _, hv2 => exact ⟨k + 1, (Option.some.inj hv2).symm.trans (congrArg V.int ek), by omega, hk⟩
          refine ⟨_, rfl, _, rfl, ts, n, rfl, n0, tne, tl, big2 n1 tl, fun H9 s9 => ⟨true, rfl, iteF ?_⟩⟩
          exact ⟨_, rfl, s7.trans s9⟩
        · rintro σ3 H7 ⟨w10, rfl, s7⟩
          exact ⟨_, _, rfl, s5.trans ((same_upd nt2).trans s7)⟩
      · rintro σ2 H5 ⟨z8, z10, rfl, s5⟩
        exact q _
end
end Fw

namespace Fw
open PySem PySem.Spec PyProof.Rows L2 Fc
set_option maxHeartbeats 4000000 in
theorem all_mk {l : PySem.W.OpenLaw} {w : World} {K : PySem.W.Frag} {h : Heap} {mg : Str → Option Value} {fa : Addr} (X : K.In h) (G : h.Ns mainGlobals mg) (hfa : mg "law" = some (.ref fa))
    {CA CF CU : Addr}
    (cA : PySem.W.nsIn K mainGlobals "Answer" = some (some (.ref CA)))
    (cF : PySem.W.nsIn K mainGlobals "Folds" = some (some (.ref CF)))
    (cU : PySem.W.nsIn K mainGlobals "Unlike" = some (some (.ref CU)))
    (pgF : PySem.W.plainGet K CF Str.empty = true)
    (hdF : PySem.W.hasDictIn K CF = true)
    (poF : PySem.W.plainOver K CF = true)
    (saF : PySem.W.findIn K (.ref CF) "__setattr__" = some (some (.builtin "object.__setattr__")))
    (pgU : PySem.W.plainGet K CU Str.empty = true)
    (hdU : PySem.W.hasDictIn K CU = true)
    (poU : PySem.W.plainOver K CU = true)
    (saU : PySem.W.findIn K (.ref CU) "__setattr__" = some (some (.builtin "object.__setattr__")))
    (mkF : PySem.W.makesIn K CF = true)
    (mkU : PySem.W.makesIn K CU = true)
    (kcF : PySem.W.keepIn K (.ref CF) = true)
    (kcU : PySem.W.keepIn K (.ref CU) = true)
    (haF : PySem.W.findIn K (.ref CF) "__class__" = some (some (.builtin "object.__class__")))
    (haU : PySem.W.findIn K (.ref CU) "__class__" = some (some (.builtin "object.__class__")))
    (hmF : PySem.W.mroIn K CF (.type "object") = some true)
    (hmU : PySem.W.mroIn K CU (.type "object") = some true)
    (hnO : PySem.W.specialIn K (.builtin "object.__class__") "__get__" = some (some (.builtin "getset_descriptor.__get__")))
    (htO : PySem.W.takesIn K (.builtin "object.__class__") = some true)
    (lA : PySem.W.isClsIn K CA = true)
    (lF : PySem.W.isClsIn K CF = true)
    (lU : PySem.W.isClsIn K CU = true)
    (yA : PySem.W.typeIn K (.ref CA) = some (.type "type"))
    (yF : PySem.W.typeIn K (.ref CF) = some (.type "type"))
    (yU : PySem.W.typeIn K (.ref CU) = some (.type "type"))
    (iFA : PySem.W.subIn K (.ref CF) (.ref CA) = some true)
    (iFF : PySem.W.subIn K (.ref CF) (.ref CF) = some true)
    (iFU : PySem.W.subIn K (.ref CF) (.ref CU) = some false)
    (iUA : PySem.W.subIn K (.ref CU) (.ref CA) = some true)
    (iUF : PySem.W.subIn K (.ref CU) (.ref CF) = some false)
    (nFo : PySem.W.findIn K (.ref CF) "folds" = some none)
    (nOn : PySem.W.findIn K (.ref CU) "one" = some none)
    (nOt : PySem.W.findIn K (.ref CU) "other" = some none)
    {f0 : Addr} {od0 an0 : Option Addr} {sl0 : Array (Option Value)} {oc0 kV0 dc0 pm0 cd0 ct0 : Value}
    (a0 : PySem.W.nsIn K mainGlobals "is_whole" = some (some (.ref f0))) (l0 : K.lookup f0 = some ⟨oc0, od0, .func (PySem.W.fnOf "is_whole" "is_whole" (defArgs s_is_whole) (defBody s_is_whole) (defScope s_is_whole) .none kV0 dc0 pm0 an0 cd0 ct0), sl0⟩) (c0 : PySem.W.codeIn K cd0 "is_whole" = true) (k0 : PySem.W.keepIn K (.ref f0) = true)
    {f1 : Addr} {od1 an1 : Option Addr} {sl1 : Array (Option Value)} {oc1 kV1 dc1 pm1 cd1 ct1 : Value}
    (a1 : PySem.W.nsIn K mainGlobals "part_of" = some (some (.ref f1))) (l1 : K.lookup f1 = some ⟨oc1, od1, .func (PySem.W.fnOf "part_of" "part_of" (defArgs s_part_of) (defBody s_part_of) (defScope s_part_of) .none kV1 dc1 pm1 an1 cd1 ct1), sl1⟩) (c1 : PySem.W.codeIn K cd1 "part_of" = true) (k1 : PySem.W.keepIn K (.ref f1) = true)
    {f2 : Addr} {od2 an2 : Option Addr} {sl2 : Array (Option Value)} {oc2 kV2 dc2 pm2 cd2 ct2 : Value}
    (a2 : PySem.W.nsIn K mainGlobals "opposite" = some (some (.ref f2))) (l2 : K.lookup f2 = some ⟨oc2, od2, .func (PySem.W.fnOf "opposite" "opposite" (defArgs s_opposite) (defBody s_opposite) (defScope s_opposite) .none kV2 dc2 pm2 an2 cd2 ct2), sl2⟩) (c2 : PySem.W.codeIn K cd2 "opposite" = true) (k2 : PySem.W.keepIn K (.ref f2) = true)
    {f3 : Addr} {od3 an3 : Option Addr} {sl3 : Array (Option Value)} {oc3 kV3 dc3 pm3 cd3 ct3 : Value}
    (a3 : PySem.W.nsIn K mainGlobals "is_along" = some (some (.ref f3))) (l3 : K.lookup f3 = some ⟨oc3, od3, .func (PySem.W.fnOf "is_along" "is_along" (defArgs s_is_along) (defBody s_is_along) (defScope s_is_along) .none kV3 dc3 pm3 an3 cd3 ct3), sl3⟩) (c3 : PySem.W.codeIn K cd3 "is_along" = true) (k3 : PySem.W.keepIn K (.ref f3) = true)
    {f4 : Addr} {od4 an4 : Option Addr} {sl4 : Array (Option Value)} {oc4 kV4 dc4 pm4 cd4 ct4 : Value}
    (a4 : PySem.W.nsIn K mainGlobals "are_letters" = some (some (.ref f4))) (l4 : K.lookup f4 = some ⟨oc4, od4, .func (PySem.W.fnOf "are_letters" "are_letters" (defArgs s_are_letters) (defBody s_are_letters) (defScope s_are_letters) .none kV4 dc4 pm4 an4 cd4 ct4), sl4⟩) (c4 : PySem.W.codeIn K cd4 "are_letters" = true) (k4 : PySem.W.keepIn K (.ref f4) = true)
    {f5 : Addr} {od5 an5 : Option Addr} {sl5 : Array (Option Value)} {oc5 kV5 dc5 pm5 cd5 ct5 : Value}
    (a5 : PySem.W.nsIn K mainGlobals "check_folds" = some (some (.ref f5))) (l5 : K.lookup f5 = some ⟨oc5, od5, .func (PySem.W.fnOf "check_folds" "check_folds" (defArgs s_check_folds) (defBody s_check_folds) (defScope s_check_folds) .none kV5 dc5 pm5 an5 cd5 ct5), sl5⟩) (c5 : PySem.W.codeIn K cd5 "check_folds" = true) (k5 : PySem.W.keepIn K (.ref f5) = true)
    {f6 : Addr} {od6 an6 : Option Addr} {sl6 : Array (Option Value)} {oc6 kV6 dc6 pm6 cd6 ct6 : Value}
    (a6 : PySem.W.nsIn K mainGlobals "way_of" = some (some (.ref f6))) (l6 : K.lookup f6 = some ⟨oc6, od6, .func (PySem.W.fnOf "way_of" "way_of" (defArgs s_way_of) (defBody s_way_of) (defScope s_way_of) .none kV6 dc6 pm6 an6 cd6 ct6), sl6⟩) (c6 : PySem.W.codeIn K cd6 "way_of" = true) (k6 : PySem.W.keepIn K (.ref f6) = true)
    {f7 : Addr} {od7 an7 : Option Addr} {sl7 : Array (Option Value)} {oc7 kV7 dc7 pm7 cd7 ct7 : Value}
    (a7 : PySem.W.nsIn K mainGlobals "steps_of" = some (some (.ref f7))) (l7 : K.lookup f7 = some ⟨oc7, od7, .func (PySem.W.fnOf "steps_of" "steps_of" (defArgs s_steps_of) (defBody s_steps_of) (defScope s_steps_of) .none kV7 dc7 pm7 an7 cd7 ct7), sl7⟩) (c7 : PySem.W.codeIn K cd7 "steps_of" = true) (k7 : PySem.W.keepIn K (.ref f7) = true)
    {f8 : Addr} {od8 an8 : Option Addr} {sl8 : Array (Option Value)} {oc8 kV8 dc8 pm8 cd8 ct8 : Value}
    (a8 : PySem.W.nsIn K mainGlobals "creases" = some (some (.ref f8))) (l8 : K.lookup f8 = some ⟨oc8, od8, .func (PySem.W.fnOf "creases" "creases" (defArgs s_creases) (defBody s_creases) (defScope s_creases) .none kV8 dc8 pm8 an8 cd8 ct8), sl8⟩) (c8 : PySem.W.codeIn K cd8 "creases" = true) (k8 : PySem.W.keepIn K (.ref f8) = true)
    {f9 : Addr} {od9 an9 : Option Addr} {sl9 : Array (Option Value)} {oc9 kV9 dc9 pm9 cd9 ct9 : Value}
    (a9 : PySem.W.nsIn K mainGlobals "_law_cell_at" = some (some (.ref f9))) (l9 : K.lookup f9 = some ⟨oc9, od9, .func (PySem.W.fnOf "_law_cell_at" "_law_cell_at" (defArgs s__law_cell_at) (defBody s__law_cell_at) (defScope s__law_cell_at) .none kV9 dc9 pm9 an9 cd9 ct9), sl9⟩) (c9 : PySem.W.codeIn K cd9 "_law_cell_at" = true) (k9 : PySem.W.keepIn K (.ref f9) = true)
    {f10 : Addr} {od10 an10 : Option Addr} {sl10 : Array (Option Value)} {oc10 kV10 dc10 pm10 cd10 ct10 : Value}
    (a10 : PySem.W.nsIn K mainGlobals "_law_draw" = some (some (.ref f10))) (l10 : K.lookup f10 = some ⟨oc10, od10, .func (PySem.W.fnOf "_law_draw" "_law_draw" (defArgs s__law_draw) (defBody s__law_draw) (defScope s__law_draw) .none kV10 dc10 pm10 an10 cd10 ct10), sl10⟩) (c10 : PySem.W.codeIn K cd10 "_law_draw" = true) (k10 : PySem.W.keepIn K (.ref f10) = true)
    {f11 : Addr} {od11 an11 : Option Addr} {sl11 : Array (Option Value)} {oc11 kV11 dc11 pm11 cd11 ct11 : Value}
    (a11 : PySem.W.nsIn K mainGlobals "_law_folds" = some (some (.ref f11))) (l11 : K.lookup f11 = some ⟨oc11, od11, .func (PySem.W.fnOf "_law_folds" "_law_folds" (defArgs s__law_folds) (defBody s__law_folds) (defScope s__law_folds) .none kV11 dc11 pm11 an11 cd11 ct11), sl11⟩) (c11 : PySem.W.codeIn K cd11 "_law_folds" = true) (k11 : PySem.W.keepIn K (.ref f11) = true)
    {f12 : Addr} {od12 an12 : Option Addr} {sl12 : Array (Option Value)} {oc12 kV12 dc12 pm12 cd12 ct12 : Value}
    (a12 : PySem.W.nsIn K mainGlobals "_law_far" = some (some (.ref f12))) (l12 : K.lookup f12 = some ⟨oc12, od12, .func (PySem.W.fnOf "_law_far" "_law_far" (defArgs s__law_far) (defBody s__law_far) (defScope s__law_far) .none kV12 dc12 pm12 an12 cd12 ct12), sl12⟩) (c12 : PySem.W.codeIn K cd12 "_law_far" = true) (k12 : PySem.W.keepIn K (.ref f12) = true)
    {f13 : Addr} {od13 an13 : Option Addr} {sl13 : Array (Option Value)} {oc13 kV13 dc13 pm13 cd13 ct13 : Value}
    (a13 : PySem.W.nsIn K mainGlobals "_law_other" = some (some (.ref f13))) (l13 : K.lookup f13 = some ⟨oc13, od13, .func (PySem.W.fnOf "_law_other" "_law_other" (defArgs s__law_other) (defBody s__law_other) (defScope s__law_other) .none kV13 dc13 pm13 an13 cd13 ct13), sl13⟩) (c13 : PySem.W.codeIn K cd13 "_law_other" = true) (k13 : PySem.W.keepIn K (.ref f13) = true)
    {f14 : Addr} {od14 an14 : Option Addr} {sl14 : Array (Option Value)} {oc14 kV14 dc14 pm14 cd14 ct14 : Value}
    (a14 : PySem.W.nsIn K mainGlobals "_law_crease" = some (some (.ref f14))) (l14 : K.lookup f14 = some ⟨oc14, od14, .func (PySem.W.fnOf "_law_crease" "_law_crease" (defArgs s__law_crease) (defBody s__law_crease) (defScope s__law_crease) .none kV14 dc14 pm14 an14 cd14 ct14), sl14⟩) (c14 : PySem.W.codeIn K cd14 "_law_crease" = true) (k14 : PySem.W.keepIn K (.ref f14) = true)
    {f15 : Addr} {od15 an15 : Option Addr} {sl15 : Array (Option Value)} {oc15 kV15 dc15 pm15 cd15 ct15 : Value}
    (a15 : PySem.W.nsIn K mainGlobals "_law_whole" = some (some (.ref f15))) (l15 : K.lookup f15 = some ⟨oc15, od15, .func (PySem.W.fnOf "_law_whole" "_law_whole" (defArgs s__law_whole) (defBody s__law_whole) (defScope s__law_whole) .none kV15 dc15 pm15 an15 cd15 ct15), sl15⟩) (c15 : PySem.W.codeIn K cd15 "_law_whole" = true) (k15 : PySem.W.keepIn K (.ref f15) = true)
    {f16 : Addr} {od16 an16 : Option Addr} {sl16 : Array (Option Value)} {oc16 kV16 dc16 pm16 cd16 ct16 : Value}
    (a16 : PySem.W.findIn K (.ref CF) "__init__" = some (some (.ref f16))) (i16 : PySem.W.isFn K (.ref f16) = true) (l16 : K.lookup f16 = some ⟨oc16, od16, .func (PySem.W.fnOf "__init__" "Folds.__init__" (defArgs s_Folds___init__) (defBody s_Folds___init__) (defScope s_Folds___init__) .none kV16 dc16 pm16 an16 cd16 ct16), sl16⟩) (c16 : PySem.W.codeIn K cd16 "Folds.__init__" = true) (k16 : PySem.W.keepIn K (.ref f16) = true)
    {f17 : Addr} {od17 an17 : Option Addr} {sl17 : Array (Option Value)} {oc17 kV17 dc17 pm17 cd17 ct17 : Value}
    (a17 : PySem.W.findIn K (.ref CU) "__init__" = some (some (.ref f17))) (i17 : PySem.W.isFn K (.ref f17) = true) (l17 : K.lookup f17 = some ⟨oc17, od17, .func (PySem.W.fnOf "__init__" "Unlike.__init__" (defArgs s_Unlike___init__) (defBody s_Unlike___init__) (defScope s_Unlike___init__) .none kV17 dc17 pm17 an17 cd17 ct17), sl17⟩) (c17 : PySem.W.codeIn K cd17 "Unlike.__init__" = true) (k17 : PySem.W.keepIn K (.ref f17) = true)
    {f18 : Addr} {od18 an18 : Option Addr} {sl18 : Array (Option Value)} {oc18 kV18 dc18 pm18 cd18 ct18 : Value}
    (a18 : PySem.W.findIn K (.ref CF) "shows" = some (some (.ref f18))) (i18 : PySem.W.isFn K (.ref f18) = true) (l18 : K.lookup f18 = some ⟨oc18, od18, .func (PySem.W.fnOf "shows" "Folds.shows" (defArgs s_Folds_shows) (defBody s_Folds_shows) (defScope s_Folds_shows) .none kV18 dc18 pm18 an18 cd18 ct18), sl18⟩) (c18 : PySem.W.codeIn K cd18 "Folds.shows" = true) (k18 : PySem.W.keepIn K (.ref f18) = true)
    {f19 : Addr} {od19 an19 : Option Addr} {sl19 : Array (Option Value)} {oc19 kV19 dc19 pm19 cd19 ct19 : Value}
    (a19 : PySem.W.findIn K (.ref CU) "shows" = some (some (.ref f19))) (i19 : PySem.W.isFn K (.ref f19) = true) (l19 : K.lookup f19 = some ⟨oc19, od19, .func (PySem.W.fnOf "shows" "Unlike.shows" (defArgs s_Unlike_shows) (defBody s_Unlike_shows) (defScope s_Unlike_shows) .none kV19 dc19 pm19 an19 cd19 ct19), sl19⟩) (c19 : PySem.W.codeIn K cd19 "Unlike.shows" = true) (k19 : PySem.W.keepIn K (.ref f19) = true)
    {f20 : Addr} {od20 an20 : Option Addr} {sl20 : Array (Option Value)} {oc20 kV20 dc20 pm20 cd20 ct20 : Value}
    (a20 : PySem.W.nsIn K mainGlobals "told" = some (some (.ref f20))) (l20 : K.lookup f20 = some ⟨oc20, od20, .func (PySem.W.fnOf "told" "told" (defArgs s_told) (defBody s_told) (defScope s_told) .none kV20 dc20 pm20 an20 cd20 ct20), sl20⟩) (c20 : PySem.W.codeIn K cd20 "told" = true) (k20 : PySem.W.keepIn K (.ref f20) = true)
    {f21 : Addr} {od21 an21 : Option Addr} {sl21 : Array (Option Value)} {oc21 kV21 dc21 pm21 cd21 ct21 : Value}
    (a21 : PySem.W.nsIn K mainGlobals "_law_part" = some (some (.ref f21))) (l21 : K.lookup f21 = some ⟨oc21, od21, .func (PySem.W.fnOf "_law_part" "_law_part" (defArgs s__law_part) (defBody s__law_part) (defScope s__law_part) .none kV21 dc21 pm21 an21 cd21 ct21), sl21⟩) (c21 : PySem.W.codeIn K cd21 "_law_part" = true) (k21 : PySem.W.keepIn K (.ref f21) = true)
    {f22 : Addr} {od22 an22 : Option Addr} {sl22 : Array (Option Value)} {oc22 kV22 dc22 pm22 cd22 ct22 : Value}
    (a22 : PySem.W.nsIn K mainGlobals "_law_due" = some (some (.ref f22))) (l22 : K.lookup f22 = some ⟨oc22, od22, .func (PySem.W.fnOf "_law_due" "_law_due" (defArgs s__law_due) (defBody s__law_due) (defScope s__law_due) .none kV22 dc22 pm22 an22 cd22 ct22), sl22⟩) (c22 : PySem.W.codeIn K cd22 "_law_due" = true) (k22 : PySem.W.keepIn K (.ref f22) = true)
    {f23 : Addr} {od23 an23 : Option Addr} {sl23 : Array (Option Value)} {oc23 kV23 dc23 pm23 cd23 ct23 : Value}
    (a23 : PySem.W.nsIn K mainGlobals "_law_right" = some (some (.ref f23))) (l23 : K.lookup f23 = some ⟨oc23, od23, .func (PySem.W.fnOf "_law_right" "_law_right" (defArgs s__law_right) (defBody s__law_right) (defScope s__law_right) .none kV23 dc23 pm23 an23 cd23 ct23), sl23⟩) (c23 : PySem.W.codeIn K cd23 "_law_right" = true) (k23 : PySem.W.keepIn K (.ref f23) = true)
    {f24 : Addr} {od24 an24 : Option Addr} {sl24 : Array (Option Value)} {oc24 kV24 dc24 pm24 cd24 ct24 : Value}
    (a24 : PySem.W.nsIn K mainGlobals "law" = some (some (.ref f24))) (l24 : K.lookup f24 = some ⟨oc24, od24, .func (PySem.W.fnOf "law" "law" (defArgs s_law) (defBody s_law) (defScope s_law) .none kV24 dc24 pm24 an24 cd24 ct24), sl24⟩) (c24 : PySem.W.codeIn K cd24 "law" = true) (k24 : PySem.W.keepIn K (.ref f24) = true)
    (z_len : PySem.W.nsIn K mainGlobals "len" = some none)
    (z_isinstance : PySem.W.nsIn K mainGlobals "isinstance" = some none)
    (z_int : PySem.W.nsIn K mainGlobals "int" = some none)
    (z_bool : PySem.W.nsIn K mainGlobals "bool" = some none)
    (z_str : PySem.W.nsIn K mainGlobals "str" = some none)
    (z_all : PySem.W.nsIn K mainGlobals "all" = some none)
    (z_enumerate : PySem.W.nsIn K mainGlobals "enumerate" = some none)
    (z_range : PySem.W.nsIn K mainGlobals "range" = some none)
    (z_list : PySem.W.nsIn K mainGlobals "list" = some none)
    (z_min : PySem.W.nsIn K mainGlobals "min" = some none)
    (z_max : PySem.W.nsIn K mainGlobals "max" = some none)
    (z_reversed : PySem.W.nsIn K mainGlobals "reversed" = some none)
    (z_tuple : PySem.W.nsIn K mainGlobals "tuple" = some none)
    {t_LETTERS : Tok} (z_LETTERS : PySem.W.nsIn K mainGlobals "LETTERS" = some (some (.str (("lr" : String) : Str) t_LETTERS)))
    : ∃ fd : FuncData, (∀ (s : Shared) (v : Value), BindsTo s fd ⟨[v], []⟩ [("_law_script", v)]) ∧ ∀ base : Heap, K.In base → base.Ns mainGlobals mg → FnOk l.prog w K mg base CX0 5 fa fd ["_law_script"] (sp_law K) := by
  have e : fa = f24 := Value.ref.inj (Option.some.inj (hfa.symm.trans (PySem.W.mg_of X G a24)))
  have C : CC K mg CA CF CU := ⟨PySem.W.mg_of X G cA, PySem.W.mg_of X G cF, PySem.W.mg_of X G cU, ⟨pgF, hdF, poF, saF⟩, ⟨pgU, hdU, poU, saU⟩, mkF, mkU, kcF, kcU, haF, haU, hmF, hmU, hnO, htO, kit_yes lA yA iFA, kit_self CF, kit_no (own_ne iFF iFU) lU yU iFU, kit_yes lA yA iUA, kit_no (own_ne iFF iFU).symm lF yF iUF, kit_self CU, nFo, nOn, nOt⟩
  have F0 := fun_mk (st := s_is_whole) l0 c0 k0
  have D_is_whole : Df K mg "is_whole" s_is_whole ["thing"] := ⟨f0, _, F0, PySem.W.mg_of X G a0, F0.binds fun _ _ _ _ _ _ us hl => match us, hl with | [_], _ => rfl⟩
  have F1 := fun_mk (st := s_part_of) l1 c1 k1
  have D_part_of : Df K mg "part_of" s_part_of ["count"] := ⟨f1, _, F1, PySem.W.mg_of X G a1, F1.binds fun _ _ _ _ _ _ us hl => match us, hl with | [_], _ => rfl⟩
  have F2 := fun_mk (st := s_opposite) l2 c2 k2
  have D_opposite : Df K mg "opposite" s_opposite ["letter"] := ⟨f2, _, F2, PySem.W.mg_of X G a2, F2.binds fun _ _ _ _ _ _ us hl => match us, hl with | [_], _ => rfl⟩
  have F3 := fun_mk (st := s_is_along) l3 c3 k3
  have D_is_along : Df K mg "is_along" s_is_along ["count", "part"] := ⟨f3, _, F3, PySem.W.mg_of X G a3, F3.binds fun _ _ _ _ _ _ us hl => match us, hl with | [_, _], _ => rfl⟩
  have F4 := fun_mk (st := s_are_letters) l4 c4 k4
  have D_are_letters : Df K mg "are_letters" s_are_letters ["thing"] := ⟨f4, _, F4, PySem.W.mg_of X G a4, F4.binds fun _ _ _ _ _ _ us hl => match us, hl with | [_], _ => rfl⟩
  have F5 := fun_mk (st := s_check_folds) l5 c5 k5
  have D_check_folds : Df K mg "check_folds" s_check_folds ["folds"] := ⟨f5, _, F5, PySem.W.mg_of X G a5, F5.binds fun _ _ _ _ _ _ us hl => match us, hl with | [_], _ => rfl⟩
  have F6 := fun_mk (st := s_way_of) l6 c6 k6
  have D_way_of : Df K mg "way_of" s_way_of ["folds", "count"] := ⟨f6, _, F6, PySem.W.mg_of X G a6, F6.binds fun _ _ _ _ _ _ us hl => match us, hl with | [_, _], _ => rfl⟩
  have F7 := fun_mk (st := s_steps_of) l7 c7 k7
  have D_steps_of : Df K mg "steps_of" s_steps_of ["folds"] := ⟨f7, _, F7, PySem.W.mg_of X G a7, F7.binds fun _ _ _ _ _ _ us hl => match us, hl with | [_], _ => rfl⟩
  have F8 := fun_mk (st := s_creases) l8 c8 k8
  have D_creases : Df K mg "creases" s_creases ["folds", "first", "many"] := ⟨f8, _, F8, PySem.W.mg_of X G a8, F8.binds fun _ _ _ _ _ _ us hl => match us, hl with | [_, _, _], _ => rfl⟩
  have F9 := fun_mk (st := s__law_cell_at) l9 c9 k9
  have D__law_cell_at : Df K mg "_law_cell_at" s__law_cell_at ["_law_script", "_law_k"] := ⟨f9, _, F9, PySem.W.mg_of X G a9, F9.binds fun _ _ _ _ _ _ us hl => match us, hl with | [_, _], _ => rfl⟩
  have F10 := fun_mk (st := s__law_draw) l10 c10 k10
  have D__law_draw : Df K mg "_law_draw" s__law_draw ["_law_cell", "_law_k", "_law_many"] := ⟨f10, _, F10, PySem.W.mg_of X G a10, F10.binds fun _ _ _ _ _ _ us hl => match us, hl with | [_, _, _], _ => rfl⟩
  have F11 := fun_mk (st := s__law_folds) l11 c11 k11
  have D__law_folds : Df K mg "_law_folds" s__law_folds ["_law_script", "_law_by"] := ⟨f11, _, F11, PySem.W.mg_of X G a11, F11.binds fun _ _ _ _ _ _ us hl => match us, hl with | [_, _], _ => rfl⟩
  have F12 := fun_mk (st := s__law_far) l12 c12 k12
  have D__law_far : Df K mg "_law_far" s__law_far ["_law_script", "_law_by", "_law_most"] := ⟨f12, _, F12, PySem.W.mg_of X G a12, F12.binds fun _ _ _ _ _ _ us hl => match us, hl with | [_, _, _], _ => rfl⟩
  have F13 := fun_mk (st := s__law_other) l13 c13 k13
  have D__law_other : Df K mg "_law_other" s__law_other ["_law_letter"] := ⟨f13, _, F13, PySem.W.mg_of X G a13, F13.binds fun _ _ _ _ _ _ us hl => match us, hl with | [_], _ => rfl⟩
  have F14 := fun_mk (st := s__law_crease) l14 c14 k14
  have D__law_crease : Df K mg "_law_crease" s__law_crease ["_law_folds_here", "_law_count"] := ⟨f14, _, F14, PySem.W.mg_of X G a14, F14.binds fun _ _ _ _ _ _ us hl => match us, hl with | [_, _], _ => rfl⟩
  have F15 := fun_mk (st := s__law_whole) l15 c15 k15
  have D__law_whole : Df K mg "_law_whole" s__law_whole ["_law_number"] := ⟨f15, _, F15, PySem.W.mg_of X G a15, F15.binds fun _ _ _ _ _ _ us hl => match us, hl with | [_], _ => rfl⟩
  have F16 := fun_mk (st := s_Folds___init__) l16 c16 k16
  have D_Folds___init__ : Mf K CF "__init__" "Folds.__init__" s_Folds___init__ ["self", "folds"] := ⟨f16, _, F16, ⟨a16, i16, k16⟩, F16.binds fun _ _ _ _ _ _ us hl => match us, hl with | [_, _], _ => rfl⟩
  have F17 := fun_mk (st := s_Unlike___init__) l17 c17 k17
  have D_Unlike___init__ : Mf K CU "__init__" "Unlike.__init__" s_Unlike___init__ ["self", "one", "other"] := ⟨f17, _, F17, ⟨a17, i17, k17⟩, F17.binds fun _ _ _ _ _ _ us hl => match us, hl with | [_, _, _], _ => rfl⟩
  have F18 := fun_mk (st := s_Folds_shows) l18 c18 k18
  have D_Folds_shows : Mf K CF "shows" "Folds.shows" s_Folds_shows ["self", "turns", "first"] := ⟨f18, _, F18, ⟨a18, i18, k18⟩, F18.binds fun _ _ _ _ _ _ us hl => match us, hl with | [_, _, _], _ => rfl⟩
  have F19 := fun_mk (st := s_Unlike_shows) l19 c19 k19
  have D_Unlike_shows : Mf K CU "shows" "Unlike.shows" s_Unlike_shows ["self", "turns", "first"] := ⟨f19, _, F19, ⟨a19, i19, k19⟩, F19.binds fun _ _ _ _ _ _ us hl => match us, hl with | [_, _, _], _ => rfl⟩
  have F20 := fun_mk (st := s_told) l20 c20 k20
  have D_told : Df K mg "told" s_told ["turns", "first"] := ⟨f20, _, F20, PySem.W.mg_of X G a20, F20.binds fun _ _ _ _ _ _ us hl => match us, hl with | [_, _], _ => rfl⟩
  have F21 := fun_mk (st := s__law_part) l21 c21 k21
  have D__law_part : Df K mg "_law_part" s__law_part ["_law_count"] := ⟨f21, _, F21, PySem.W.mg_of X G a21, F21.binds fun _ _ _ _ _ _ us hl => match us, hl with | [_], _ => rfl⟩
  have F22 := fun_mk (st := s__law_due) l22 c22 k22
  have D__law_due : Df K mg "_law_due" s__law_due ["_law_turns", "_law_first", "_law_found"] := ⟨f22, _, F22, PySem.W.mg_of X G a22, F22.binds fun _ _ _ _ _ _ us hl => match us, hl with | [_, _, _], _ => rfl⟩
  have F23 := fun_mk (st := s__law_right) l23 c23 k23
  have D__law_right : Df K mg "_law_right" s__law_right ["_law_turns", "_law_first"] := ⟨f23, _, F23, PySem.W.mg_of X G a23, F23.binds fun _ _ _ _ _ _ us hl => match us, hl with | [_, _], _ => rfl⟩
  have F24 := fun_mk (st := s_law) l24 c24 k24
  have D_law : Df K mg "law" s_law ["_law_script"] := ⟨f24, _, F24, PySem.W.mg_of X G a24, F24.binds fun _ _ _ _ _ _ us hl => match us, hl with | [_], _ => rfl⟩
  have T : Txt mg := ⟨PySem.W.mg_none_of X G z_len, PySem.W.mg_none_of X G z_isinstance, PySem.W.mg_none_of X G z_int, PySem.W.mg_none_of X G z_bool, PySem.W.mg_none_of X G z_str, PySem.W.mg_none_of X G z_all, PySem.W.mg_none_of X G z_enumerate, PySem.W.mg_none_of X G z_range, PySem.W.mg_none_of X G z_list, PySem.W.mg_none_of X G z_min, PySem.W.mg_none_of X G z_max, PySem.W.mg_none_of X G z_reversed, PySem.W.mg_none_of X G z_tuple, ⟨t_LETTERS, PySem.W.mg_of X G z_LETTERS⟩⟩
  refine ⟨PySem.W.fnOf "law" "law" (defArgs s_law) (defBody s_law) (defScope s_law) .none kV24 dc24 pm24 an24 cd24 ct24, fun s v => .of_eq rfl, fun base _ _ => ?_⟩
  have G_is_whole := ok_is_whole (P := l.prog) (w := w) (base := base) D_is_whole T
  have G_part_of := ok_part_of (P := l.prog) (w := w) (base := base) D_part_of 
  have G_opposite := ok_opposite (P := l.prog) (w := w) (base := base) D_opposite 
  have G_is_along := ok_is_along (P := l.prog) (w := w) (base := base) D_is_along 
  have G_are_letters := ok_are_letters (P := l.prog) (w := w) (base := base) D_are_letters T
  have G_check_folds := ok_check_folds (P := l.prog) (w := w) (base := base) D_check_folds G_are_letters
  have G_way_of := ok_way_of (P := l.prog) (w := w) (base := base) D_way_of G_part_of G_is_along G_opposite
  have G_steps_of := ok_steps_of (P := l.prog) (w := w) (base := base) D_steps_of T
  have G_creases := ok_creases (P := l.prog) (w := w) (base := base) D_creases T G_check_folds G_is_whole G_steps_of G_way_of
  have G__law_cell_at := ok_cell_at (P := l.prog) (w := w) (base := base) D__law_cell_at T
  have G__law_draw := ok_draw (P := l.prog) (w := w) (base := base) D__law_draw 
  have G__law_folds := ok_folds (P := l.prog) (w := w) (base := base) D__law_folds T G__law_cell_at G__law_draw
  have G__law_far := ok_far (P := l.prog) (w := w) (base := base) D__law_far T G__law_draw
  have G__law_other := ok_other (P := l.prog) (w := w) (base := base) D__law_other 
  have G__law_crease := ok_law_crease (P := l.prog) (w := w) (base := base) D__law_crease G__law_other
  have G__law_whole := ok_law_whole (P := l.prog) (w := w) (base := base) D__law_whole T
  have M_initF := ok_initF (P := l.prog) (w := w) (base := base) D_Folds___init__ C
  have M_initU := ok_initU (P := l.prog) (w := w) (base := base) D_Unlike___init__ C
  have M_showsF := ok_showsF (P := l.prog) (w := w) (base := base) D_Folds_shows C T G_are_letters G_way_of
  have M_showsU := ok_showsU (P := l.prog) (w := w) (base := base) D_Unlike_shows C T G_part_of G_is_along
  have G_told := ok_told (P := l.prog) (w := w) (base := base) D_told C T G_are_letters G_is_whole G_part_of G_is_along G_opposite M_initF M_initU
  have G__law_part := ok_law_part (P := l.prog) (w := w) (base := base) D__law_part 
  have G__law_due := ok_due (P := l.prog) (w := w) (base := base) D__law_due C T G__law_crease G__law_part
  have G__law_right := ok_right (P := l.prog) (w := w) (base := base) D__law_right C T G_told G__law_due G__law_whole M_showsF M_showsU
  have G_law := ok_law (P := l.prog) (w := w) (base := base) D_law C T G__law_folds G__law_far G__law_cell_at G__law_draw G__law_crease G__law_other G_creases G_told G__law_right
  rw [e]
  exact G_law.at_ (PySem.W.mg_of X G a24) l24
end Fw
open PySem PySem.W PyProof.Rows
set_option maxHeartbeats 0 in
theorem PySem.Challenge.cw_foldcurve_k04_whole_turns_holds : PySem.Challenge.rw_foldcurve_k04_whole_turns.Holds := by
  w_on; o_law; k_head; (case hw => w_witness2)
  k_fill
  refine L2.walk_ofB (l := PySem.Challenge.rw_foldcurve_k04_whole_turns) (n := 63) (k := 5) (x := "_law_script") (CX := fun _ => L2.CX0) (sp := fun w => Fw.sp_law _) rfl (by decide) rfl ⟨rfl, by decide, by decide⟩ (fun w h Y => PySem.W.kIn_of Y) ?F (fun _ _ a ns hl hb _ hS => ⟨a, ns, rfl, ⟨hS, hl, hb⟩, fun _ => rfl⟩) (fun _ _ _ _ _ h => h)
  case F =>
    intro w mg fa h KX G hmg
    refine' Fw.all_mk KX G hmg ?cA ?cF ?cU ?pgF ?hdF ?poF ?saF ?pgU ?hdU ?poU ?saU ?mkF ?mkU ?kcF ?kcU ?haF ?haU ?hmF ?hmU ?hnO ?htO ?lA ?lF ?lU ?yA ?yF ?yU ?iFA ?iFF ?iFU ?iUA ?iUF ?nFo ?nOn ?nOt ?a0 ?l0 ?c0 ?k0 ?a1 ?l1 ?c1 ?k1 ?a2 ?l2 ?c2 ?k2 ?a3 ?l3 ?c3 ?k3 ?a4 ?l4 ?c4 ?k4 ?a5 ?l5 ?c5 ?k5 ?a6 ?l6 ?c6 ?k6 ?a7 ?l7 ?c7 ?k7 ?a8 ?l8 ?c8 ?k8 ?a9 ?l9 ?c9 ?k9 ?a10 ?l10 ?c10 ?k10 ?a11 ?l11 ?c11 ?k11 ?a12 ?l12 ?c12 ?k12 ?a13 ?l13 ?c13 ?k13 ?a14 ?l14 ?c14 ?k14 ?a15 ?l15 ?c15 ?k15 ?a16 ?i16 ?l16 ?c16 ?k16 ?a17 ?i17 ?l17 ?c17 ?k17 ?a18 ?i18 ?l18 ?c18 ?k18 ?a19 ?i19 ?l19 ?c19 ?k19 ?a20 ?l20 ?c20 ?k20 ?a21 ?l21 ?c21 ?k21 ?a22 ?l22 ?c22 ?k22 ?a23 ?l23 ?c23 ?k23 ?a24 ?l24 ?c24 ?k24 ?z_len ?z_isinstance ?z_int ?z_bool ?z_str ?z_all ?z_enumerate ?z_range ?z_list ?z_min ?z_max ?z_reversed ?z_tuple ?z_LETTERS
    (case cA => k_is)
    (case cF => k_is)
    (case cU => k_is)
    (case pgF => k_is)
    (case hdF => k_is)
    (case poF => k_is)
    (case saF => k_is)
    (case pgU => k_is)
    (case hdU => k_is)
    (case poU => k_is)
    (case saU => k_is)
    (case mkF => k_is)
    (case mkU => k_is)
    (case kcF => k_is)
    (case kcU => k_is)
    (case haF => k_is)
    (case haU => k_is)
    (case hmF => k_is)
    (case hmU => k_is)
    (case hnO => k_is)
    (case htO => k_is)
    (case lA => k_is)
    (case lF => k_is)
    (case lU => k_is)
    (case yA => k_is)
    (case yF => k_is)
    (case yU => k_is)
    (case iFA => k_is)
    (case iFF => k_is)
    (case iFU => k_is)
    (case iUA => k_is)
    (case iUF => k_is)
    (case nFo => k_is)
    (case nOn => k_is)
    (case nOt => k_is)
    (case a0 => k_is)
    (case l0 => k_is)
    (case c0 => k_is)
    (case k0 => k_is)
    (case a1 => k_is)
    (case l1 => k_is)
    (case c1 => k_is)
    (case k1 => k_is)
    (case a2 => k_is)
    (case l2 => k_is)
    (case c2 => k_is)
    (case k2 => k_is)
    (case a3 => k_is)
    (case l3 => k_is)
    (case c3 => k_is)
    (case k3 => k_is)
    (case a4 => k_is)
    (case l4 => k_is)
    (case c4 => k_is)
    (case k4 => k_is)
    (case a5 => k_is)
    (case l5 => k_is)
    (case c5 => k_is)
    (case k5 => k_is)
    (case a6 => k_is)
    (case l6 => k_is)
    (case c6 => k_is)
    (case k6 => k_is)
    (case a7 => k_is)
    (case l7 => k_is)
    (case c7 => k_is)
    (case k7 => k_is)
    (case a8 => k_is)
    (case l8 => k_is)
    (case c8 => k_is)
    (case k8 => k_is)
    (case a9 => k_is)
    (case l9 => k_is)
    (case c9 => k_is)
    (case k9 => k_is)
    (case a10 => k_is)
    (case l10 => k_is)
    (case c10 => k_is)
    (case k10 => k_is)
    (case a11 => k_is)
    (case l11 => k_is)
    (case c11 => k_is)
    (case k11 => k_is)
    (case a12 => k_is)
    (case l12 => k_is)
    (case c12 => k_is)
    (case k12 => k_is)
    (case a13 => k_is)
    (case l13 => k_is)
    (case c13 => k_is)
    (case k13 => k_is)
    (case a14 => k_is)
    (case l14 => k_is)
    (case c14 => k_is)
    (case k14 => k_is)
    (case a15 => k_is)
    (case l15 => k_is)
    (case c15 => k_is)
    (case k15 => k_is)
    (case a16 => k_is)
    (case i16 => k_is)
    (case l16 => k_is)
    (case c16 => k_is)
    (case k16 => k_is)
    (case a17 => k_is)
    (case i17 => k_is)
    (case l17 => k_is)
    (case c17 => k_is)
    (case k17 => k_is)
    (case a18 => k_is)
    (case i18 => k_is)
    (case l18 => k_is)
    (case c18 => k_is)
    (case k18 => k_is)
    (case a19 => k_is)
    (case i19 => k_is)
    (case l19 => k_is)
    (case c19 => k_is)
    (case k19 => k_is)
    (case a20 => k_is)
    (case l20 => k_is)
    (case c20 => k_is)
    (case k20 => k_is)
    (case a21 => k_is)
    (case l21 => k_is)
    (case c21 => k_is)
    (case k21 => k_is)
    (case a22 => k_is)
    (case l22 => k_is)
    (case c22 => k_is)
    (case k22 => k_is)
    (case a23 => k_is)
    (case l23 => k_is)
    (case c23 => k_is)
    (case k23 => k_is)
    (case a24 => k_is)
    (case l24 => k_is)
    (case c24 => k_is)
    (case k24 => k_is)
    (case z_len => k_is)
    (case z_isinstance => k_is)
    (case z_int => k_is)
    (case z_bool => k_is)
    (case z_str => k_is)
    (case z_all => k_is)
    (case z_enumerate => k_is)
    (case z_range => k_is)
    (case z_list => k_is)
    (case z_min => k_is)
    (case z_max => k_is)
    (case z_reversed => k_is)
    (case z_tuple => k_is)
    (case z_LETTERS => k_is)

