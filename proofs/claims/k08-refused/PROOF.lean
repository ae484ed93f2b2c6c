import PyProof.Rows.All
import Wide.All
import OpenK.AllK
import Wide.FinOn
import PySem.Challenge.RW_foldwalk_k08_refused
import HandS.ForMost
import HandS.ForExc
import HandS.EndBits
import HandS.WideBits
import HandS.RevRange
import HandS.IsInst
import HandS.Defaults
import HandS.Evl
import HandS.CallSlots
import HandS.ExcIs
set_option Elab.async false
set_option linter.all false
set_option maxRecDepth 100000
set_option maxHeartbeats 4000000
/-! The walk in plain Lean: its cells, its places, its squares, its counts. -/
namespace Fw

/-! ### quarters -/
def rt (d : Nat) : Nat := if d = 2 ∨ d = 3 then 1 else 0
def ut (d : Nat) : Nat := if d = 1 ∨ d = 2 then 1 else 0
def flip (t : Bool) (a : Nat) : Nat := if t then 1 - a else a
def qx (d : Nat) (s t : Bool) : Nat := flip t (if s then ut d else rt d)
def qy (d : Nat) (s t : Bool) : Nat := flip t (if s then rt d else ut d)
def fs (d : Nat) (s : Bool) : Bool := if d = 0 ∨ d = 3 then !s else s
def ft (d : Nat) (t : Bool) : Bool := if d = 3 then !t else t
/-- the turn in a quarter -/
def td (a b : Nat) (s t : Bool) : Nat :=
  let r := flip t (if s then b else a)
  let u := flip t (if s then a else b)
  2 * r + (if r = u then 0 else 1)

theorem d4 {d : Nat} (h : d < 4) : d = 0 ∨ d = 1 ∨ d = 2 ∨ d = 3 := by omega
theorem d2 {d : Nat} (h : d < 2) : d = 0 ∨ d = 1 := by omega

theorem qx_le {d : Nat} (s t : Bool) (h : d < 4) : qx d s t ≤ 1 := by
  rcases d4 h with rfl | rfl | rfl | rfl <;> cases s <;> cases t <;> decide
theorem qy_le {d : Nat} (s t : Bool) (h : d < 4) : qy d s t ≤ 1 := by
  rcases d4 h with rfl | rfl | rfl | rfl <;> cases s <;> cases t <;> decide
theorem qx_swap (d : Nat) (s t : Bool) : qx d (!s) t = qy d s t := by cases s <;> rfl
theorem qy_swap (d : Nat) (s t : Bool) : qy d (!s) t = qx d s t := by cases s <;> rfl
theorem qx_turn {d : Nat} (s t : Bool) (h : d < 4) : qx d s (!t) + qx d s t = 1 := by
  rcases d4 h with rfl | rfl | rfl | rfl <;> cases s <;> cases t <;> decide
theorem qy_turn {d : Nat} (s t : Bool) (h : d < 4) : qy d s (!t) + qy d s t = 1 := by
  rcases d4 h with rfl | rfl | rfl | rfl <;> cases s <;> cases t <;> decide
theorem fs_not (d : Nat) (s : Bool) : fs d (!s) = !(fs d s) := by unfold fs; split <;> rfl
theorem ft_not (d : Nat) (s : Bool) : ft d (!s) = !(ft d s) := by unfold ft; split <;> rfl
theorem td_lt {a b : Nat} (s t : Bool) (ha : a < 2) (hb : b < 2) : td a b s t < 4 := by
  rcases d2 ha with rfl | rfl <;> rcases d2 hb with rfl | rfl <;> cases s <;> cases t <;> decide
theorem td_q {d : Nat} (s t : Bool) (h : d < 4) : td (qx d s t) (qy d s t) s t = d := by
  rcases d4 h with rfl | rfl | rfl | rfl <;> cases s <;> cases t <;> decide
theorem qx_td {a b : Nat} (s t : Bool) (ha : a < 2) (hb : b < 2) : qx (td a b s t) s t = a := by
  rcases d2 ha with rfl | rfl <;> rcases d2 hb with rfl | rfl <;> cases s <;> cases t <;> decide
theorem qy_td {a b : Nat} (s t : Bool) (ha : a < 2) (hb : b < 2) : qy (td a b s t) s t = b := by
  rcases d2 ha with rfl | rfl <;> rcases d2 hb with rfl | rfl <;> cases s <;> cases t <;> decide

theorem p4 (n : Nat) : 0 < 4 ^ n := Nat.pow_pos (by decide)
theorem p2 (n : Nat) : 0 < 2 ^ n := Nat.pow_pos (by decide)
theorem s4 (n : Nat) : 4 ^ (n + 1) = 4 * 4 ^ n := by rw [Nat.pow_succ, Nat.mul_comm]
theorem s2 (n : Nat) : 2 ^ (n + 1) = 2 * 2 ^ n := by rw [Nat.pow_succ, Nat.mul_comm]
theorem sq4 (n : Nat) : 2 ^ n * 2 ^ n = 4 ^ n := by
  rw [← Nat.mul_pow]
theorem lt4 (p : Nat) : p % 4 < 4 := Nat.mod_lt _ (by decide)

/-! ### the walk -/
def WX : Nat → Bool → Bool → Nat → Nat
  | 0, _, _, _ => 0
  | n + 1, s, t, p => qx (p / 4 ^ n % 4) s t * 2 ^ n + WX n (fs (p / 4 ^ n % 4) s) (ft (p / 4 ^ n % 4) t) (p % 4 ^ n)
def WY : Nat → Bool → Bool → Nat → Nat
  | 0, _, _, _ => 0
  | n + 1, s, t, p => qy (p / 4 ^ n % 4) s t * 2 ^ n + WY n (fs (p / 4 ^ n % 4) s) (ft (p / 4 ^ n % 4) t) (p % 4 ^ n)
abbrev cx (n p : Nat) : Nat := WX n false false p
abbrev cy (n p : Nat) : Nat := WY n false false p

theorem wx_lt : ∀ (n : Nat) (s t : Bool) (p : Nat), WX n s t p < 2 ^ n
  | 0, _, _, _ => by show 0 < 1; decide
  | n + 1, s, t, p => by
    have ih := wx_lt n (fs (p / 4 ^ n % 4) s) (ft (p / 4 ^ n % 4) t) (p % 4 ^ n)
    have hq := qx_le s t (lt4 (p / 4 ^ n))
    rw [s2, WX]
    have := Nat.mul_le_mul_right (2 ^ n) hq
    omega
theorem wy_lt : ∀ (n : Nat) (s t : Bool) (p : Nat), WY n s t p < 2 ^ n
  | 0, _, _, _ => by show 0 < 1; decide
  | n + 1, s, t, p => by
    have ih := wy_lt n (fs (p / 4 ^ n % 4) s) (ft (p / 4 ^ n % 4) t) (p % 4 ^ n)
    have hq := qy_le s t (lt4 (p / 4 ^ n))
    rw [s2, WY]
    have := Nat.mul_le_mul_right (2 ^ n) hq
    omega
theorem wx_swap : ∀ (n : Nat) (s t : Bool) (p : Nat), WX n (!s) t p = WY n s t p
  | 0, _, _, _ => rfl
  | n + 1, s, t, p => by rw [WX, WY, qx_swap, fs_not, wx_swap n]
theorem wy_swap : ∀ (n : Nat) (s t : Bool) (p : Nat), WY n (!s) t p = WX n s t p
  | 0, _, _, _ => rfl
  | n + 1, s, t, p => by rw [WX, WY, qy_swap, fs_not, wy_swap n]
theorem wx_turn : ∀ (n : Nat) (s t : Bool) (p : Nat), WX n s (!t) p + WX n s t p + 1 = 2 ^ n
  | 0, _, _, _ => rfl
  | n + 1, s, t, p => by
    rw [WX, WX, ft_not]
    have ih := wx_turn n (fs (p / 4 ^ n % 4) s) (ft (p / 4 ^ n % 4) t) (p % 4 ^ n)
    have hq := qx_turn s t (lt4 (p / 4 ^ n))
    have e : (qx (p / 4 ^ n % 4) s (!t) + qx (p / 4 ^ n % 4) s t) * 2 ^ n = 2 ^ n := by rw [hq, Nat.one_mul]
    rw [Nat.add_mul] at e
    rw [s2]
    omega
theorem wy_turn : ∀ (n : Nat) (s t : Bool) (p : Nat), WY n s (!t) p + WY n s t p + 1 = 2 ^ n
  | 0, _, _, _ => rfl
  | n + 1, s, t, p => by
    rw [WY, WY, ft_not]
    have ih := wy_turn n (fs (p / 4 ^ n % 4) s) (ft (p / 4 ^ n % 4) t) (p % 4 ^ n)
    have hq := qy_turn s t (lt4 (p / 4 ^ n))
    have e : (qy (p / 4 ^ n % 4) s (!t) + qy (p / 4 ^ n % 4) s t) * 2 ^ n = 2 ^ n := by rw [hq, Nat.one_mul]
    rw [Nat.add_mul] at e
    rw [s2]
    omega

/-! ### digits -/
theorem dig {n q r : Nat} (hq : q < 4) (hr : r < 4 ^ n) : (q * 4 ^ n + r) / 4 ^ n % 4 = q ∧ (q * 4 ^ n + r) % 4 ^ n = r := by
  have e : (q * 4 ^ n + r) / 4 ^ n = q := by
    rw [Nat.add_comm, Nat.add_mul_div_right _ _ (p4 n), Nat.div_eq_of_lt hr, Nat.zero_add]
  refine ⟨by rw [e, Nat.mod_eq_of_lt hq], ?_⟩
  rw [Nat.add_comm, Nat.add_mul_mod_self_right, Nat.mod_eq_of_lt hr]
theorem undig {n p : Nat} (hp : p < 4 ^ (n + 1)) : ∃ q r, q < 4 ∧ r < 4 ^ n ∧ p = q * 4 ^ n + r := by
  refine ⟨p / 4 ^ n, p % 4 ^ n, ?_, Nat.mod_lt _ (p4 n), ?_⟩
  · rw [Nat.div_lt_iff_lt_mul (p4 n), ← s4]; exact hp
  · rw [Nat.mul_comm]; exact (Nat.div_add_mod p (4 ^ n)).symm
theorem wx_dig {n q r : Nat} (s t : Bool) (hq : q < 4) (hr : r < 4 ^ n) : WX (n + 1) s t (q * 4 ^ n + r) = qx q s t * 2 ^ n + WX n (fs q s) (ft q t) r := by
  obtain ⟨e1, e2⟩ := dig hq hr
  rw [WX, e1, e2]
theorem wy_dig {n q r : Nat} (s t : Bool) (hq : q < 4) (hr : r < 4 ^ n) : WY (n + 1) s t (q * 4 ^ n + r) = qy q s t * 2 ^ n + WY n (fs q s) (ft q t) r := by
  obtain ⟨e1, e2⟩ := dig hq hr
  rw [WY, e1, e2]

/-! ### one fold more -/
theorem fold0 {n p : Nat} (h : p < 4 ^ n) : cx (n + 1) p = cy n p ∧ cy (n + 1) p = cx n p := by
  have a := wx_dig (q := 0) false false (by decide) h
  have b := wy_dig (q := 0) false false (by decide) h
  rw [Nat.zero_mul, Nat.zero_add] at a b
  have e1 := wx_swap n false false p
  have e2 := wy_swap n false false p
  refine ⟨?_, ?_⟩
  · show WX (n + 1) false false p = WY n false false p
    rw [a, show qx 0 false false = 0 from rfl, show fs 0 false = !false from rfl, show ft 0 false = false from rfl, e1]; omega
  · show WY (n + 1) false false p = WX n false false p
    rw [b, show qy 0 false false = 0 from rfl, show fs 0 false = !false from rfl, show ft 0 false = false from rfl, e2]; omega
theorem fold1 {n p : Nat} (h : p < 4 ^ n) : cx (n + 1) (1 * 4 ^ n + p) = cx n p ∧ cy (n + 1) (1 * 4 ^ n + p) = cy n p + 2 ^ n := by
  have a := wx_dig (q := 1) false false (by decide) h
  have b := wy_dig (q := 1) false false (by decide) h
  refine ⟨?_, ?_⟩
  · show WX (n + 1) false false _ = WX n false false p
    rw [a, show qx 1 false false = 0 from rfl, show fs 1 false = false from rfl, show ft 1 false = false from rfl]; omega
  · show WY (n + 1) false false _ = WY n false false p + 2 ^ n
    rw [b, show qy 1 false false = 1 from rfl, show fs 1 false = false from rfl, show ft 1 false = false from rfl]; omega
theorem fold2 {n p : Nat} (h : p < 4 ^ n) : cx (n + 1) (2 * 4 ^ n + p) = cx n p + 2 ^ n ∧ cy (n + 1) (2 * 4 ^ n + p) = cy n p + 2 ^ n := by
  have a := wx_dig (q := 2) false false (by decide) h
  have b := wy_dig (q := 2) false false (by decide) h
  refine ⟨?_, ?_⟩
  · show WX (n + 1) false false _ = WX n false false p + 2 ^ n
    rw [a, show qx 2 false false = 1 from rfl, show fs 2 false = false from rfl, show ft 2 false = false from rfl]; omega
  · show WY (n + 1) false false _ = WY n false false p + 2 ^ n
    rw [b, show qy 2 false false = 1 from rfl, show fs 2 false = false from rfl, show ft 2 false = false from rfl]; omega
theorem fold3 {n p : Nat} (h : p < 4 ^ n) : cx (n + 1) (3 * 4 ^ n + p) + 1 + cy n p = 2 * 2 ^ n ∧ cy (n + 1) (3 * 4 ^ n + p) + 1 + cx n p = 2 ^ n := by
  have a := wx_dig (q := 3) false false (by decide) h
  have b := wy_dig (q := 3) false false (by decide) h
  have e1 := wx_swap n false (!false) p
  have e2 := wy_swap n false (!false) p
  have e3 := wy_turn n false false p
  have e4 := wx_turn n false false p
  refine ⟨?_, ?_⟩
  · show WX (n + 1) false false _ + 1 + WY n false false p = _
    rw [a, show qx 3 false false = 1 from rfl, show fs 3 false = !false from rfl, show ft 3 false = !false from rfl, e1]; omega
  · show WY (n + 1) false false _ + 1 + WX n false false p = _
    rw [b, show qy 3 false false = 0 from rfl, show fs 3 false = !false from rfl, show ft 3 false = !false from rfl, e2]; omega
/-- a place of a floor of n + 1 folds, by its quarter -/
theorem quart {n : Nat} {M : Nat → Prop} (h0 : ∀ r, r < 4 ^ n → M r) (h1 : ∀ r, r < 4 ^ n → M (1 * 4 ^ n + r)) (h2 : ∀ r, r < 4 ^ n → M (2 * 4 ^ n + r)) (h3 : ∀ r, r < 4 ^ n → M (3 * 4 ^ n + r)) :
    ∀ p, p < 4 ^ (n + 1) → M p := fun p hp => by
  obtain ⟨q, r, hq, hr, rfl⟩ := undig hp
  rcases d4 hq with rfl | rfl | rfl | rfl
  · rw [Nat.zero_mul, Nat.zero_add]; exact h0 r hr
  · exact h1 r hr
  · exact h2 r hr
  · exact h3 r hr

theorem cx_zero : ∀ n, cx n 0 = 0 ∧ cy n 0 = 0
  | 0 => ⟨rfl, rfl⟩
  | n + 1 => by
    obtain ⟨a, b⟩ := cx_zero n
    obtain ⟨c, d⟩ := fold0 (p4 n)
    exact ⟨c.trans b, d.trans a⟩
theorem cx_last : ∀ n, cx n (4 ^ n - 1) + 1 = 2 ^ n ∧ cy n (4 ^ n - 1) = 0
  | 0 => ⟨rfl, rfl⟩
  | n + 1 => by
    obtain ⟨a, b⟩ := cx_last n
    have h4 := p4 n
    obtain ⟨c, d⟩ := fold3 (n := n) (p := 4 ^ n - 1) (by omega)
    have e : 4 ^ (n + 1) - 1 = 3 * 4 ^ n + (4 ^ n - 1) := by rw [s4]; omega
    rw [e, s2]
    omega
theorem even_sides (n : Nat) : (2 ^ n + 4 ^ n) % 2 = 0 := by
  cases n with
  | zero => rfl
  | succ n => rw [s2, s4]; omega
theorem parity : ∀ n p, p < 4 ^ n → (cx n p + cy n p + p) % 2 = 0
  | 0, p, h => by
    have : p = 0 := by have : (4 : Nat) ^ 0 = 1 := rfl; omega
    subst this; rfl
  | n + 1, p, h => by
    have ih := parity n
    have ev := even_sides n
    refine quart (M := fun p => (cx (n + 1) p + cy (n + 1) p + p) % 2 = 0) ?_ ?_ ?_ ?_ p h
    · intro r hr
      obtain ⟨a, b⟩ := fold0 hr
      have := ih r hr
      rw [a, b]; omega
    · intro r hr
      obtain ⟨a, b⟩ := fold1 hr
      have := ih r hr
      rw [a, b]; omega
    · intro r hr
      obtain ⟨a, b⟩ := fold2 hr
      have := ih r hr
      rw [a, b]; omega
    · intro r hr
      obtain ⟨a, b⟩ := fold3 hr
      have := ih r hr
      omega
theorem mirror : ∀ n p, p < 4 ^ n → cx n (4 ^ n - 1 - p) + 1 + cx n p = 2 ^ n ∧ cy n (4 ^ n - 1 - p) = cy n p
  | 0, p, h => ⟨rfl, rfl⟩
  | n + 1, p, h => by
    have ih := mirror n
    have h4 := p4 n
    refine quart (M := fun p => cx (n + 1) (4 ^ (n + 1) - 1 - p) + 1 + cx (n + 1) p = 2 ^ (n + 1) ∧ cy (n + 1) (4 ^ (n + 1) - 1 - p) = cy (n + 1) p) ?_ ?_ ?_ ?_ p h
    · intro r hr
      have e : 4 ^ (n + 1) - 1 - r = 3 * 4 ^ n + (4 ^ n - 1 - r) := by rw [s4]; omega
      obtain ⟨a, b⟩ := fold0 hr
      obtain ⟨c, d⟩ := fold3 (n := n) (p := 4 ^ n - 1 - r) (by omega)
      obtain ⟨i, j⟩ := ih r hr
      rw [e, s2]
      omega
    · intro r hr
      have e : 4 ^ (n + 1) - 1 - (1 * 4 ^ n + r) = 2 * 4 ^ n + (4 ^ n - 1 - r) := by rw [s4]; omega
      obtain ⟨a, b⟩ := fold1 hr
      obtain ⟨c, d⟩ := fold2 (n := n) (p := 4 ^ n - 1 - r) (by omega)
      obtain ⟨i, j⟩ := ih r hr
      rw [e, s2]
      omega
    · intro r hr
      have e : 4 ^ (n + 1) - 1 - (2 * 4 ^ n + r) = 1 * 4 ^ n + (4 ^ n - 1 - r) := by rw [s4]; omega
      obtain ⟨a, b⟩ := fold2 hr
      obtain ⟨c, d⟩ := fold1 (n := n) (p := 4 ^ n - 1 - r) (by omega)
      obtain ⟨i, j⟩ := ih r hr
      rw [e, s2]
      omega
    · intro r hr
      have e : 4 ^ (n + 1) - 1 - (3 * 4 ^ n + r) = 4 ^ n - 1 - r := by rw [s4]; omega
      obtain ⟨a, b⟩ := fold3 hr
      obtain ⟨c, d⟩ := fold0 (n := n) (p := 4 ^ n - 1 - r) (by omega)
      obtain ⟨i, j⟩ := ih r hr
      rw [e, s2]
      omega
/-- two neighbouring cells -/
def Adj (x y x' y' : Nat) : Prop := (x' = x + 1 ∧ y' = y) ∨ (x = x' + 1 ∧ y' = y) ∨ (x' = x ∧ y' = y + 1) ∨ (x' = x ∧ y = y' + 1)
theorem step_adj : ∀ n p, p + 1 < 4 ^ n → Adj (cx n p) (cy n p) (cx n (p + 1)) (cy n (p + 1))
  | 0, p, h => by have : (4 : Nat) ^ 0 = 1 := rfl; omega
  | n + 1, p, h => by
    have ih := step_adj n
    have h4 := p4 n
    have h2 := p2 n
    obtain ⟨z1, z2⟩ := cx_zero n
    obtain ⟨l1, l2⟩ := cx_last n
    have hp : p < 4 ^ (n + 1) := by omega
    refine quart (M := fun p => p + 1 < 4 ^ (n + 1) → Adj (cx (n + 1) p) (cy (n + 1) p) (cx (n + 1) (p + 1)) (cy (n + 1) (p + 1))) ?_ ?_ ?_ ?_ p hp h
    · intro r hr _
      obtain ⟨a, b⟩ := fold0 hr
      by_cases e : r + 1 < 4 ^ n
      · obtain ⟨c, d⟩ := fold0 e
        have := ih r e
        unfold Adj at this ⊢
        omega
      · have e1 : r = 4 ^ n - 1 := by omega
        have e2 : r + 1 = 1 * 4 ^ n + 0 := by omega
        obtain ⟨c, d⟩ := fold1 h4
        rw [e2]
        rw [e1] at a b ⊢
        unfold Adj
        omega
    · intro r hr _
      obtain ⟨a, b⟩ := fold1 hr
      by_cases e : r + 1 < 4 ^ n
      · obtain ⟨c, d⟩ := fold1 e
        have := ih r e
        rw [Nat.add_assoc]
        unfold Adj at this ⊢
        omega
      · have e1 : r = 4 ^ n - 1 := by omega
        have e2 : 1 * 4 ^ n + r + 1 = 2 * 4 ^ n + 0 := by omega
        obtain ⟨c, d⟩ := fold2 h4
        rw [e2]
        rw [e1] at a b ⊢
        unfold Adj
        omega
    · intro r hr _
      obtain ⟨a, b⟩ := fold2 hr
      by_cases e : r + 1 < 4 ^ n
      · obtain ⟨c, d⟩ := fold2 e
        have := ih r e
        rw [Nat.add_assoc]
        unfold Adj at this ⊢
        omega
      · have e1 : r = 4 ^ n - 1 := by omega
        have e2 : 2 * 4 ^ n + r + 1 = 3 * 4 ^ n + 0 := by omega
        obtain ⟨c, d⟩ := fold3 h4
        rw [e2]
        rw [e1] at a b ⊢
        unfold Adj
        omega
    · intro r hr hl
      obtain ⟨a, b⟩ := fold3 hr
      have e : r + 1 < 4 ^ n := by rw [s4] at hl; omega
      obtain ⟨c, d⟩ := fold3 e
      have := ih r e
      rw [Nat.add_assoc]
      unfold Adj at this ⊢
      omega

/-! ### the place of a cell -/
def PL : Nat → Bool → Bool → Nat → Nat → Nat
  | 0, _, _, _, _ => 0
  | n + 1, s, t, x, y => td (x / 2 ^ n % 2) (y / 2 ^ n % 2) s t * 4 ^ n + PL n (fs (td (x / 2 ^ n % 2) (y / 2 ^ n % 2) s t) s) (ft (td (x / 2 ^ n % 2) (y / 2 ^ n % 2) s t) t) (x % 2 ^ n) (y % 2 ^ n)
theorem lt2 (p : Nat) : p % 2 < 2 := Nat.mod_lt _ (by decide)
theorem pl_lt : ∀ (n : Nat) (s t : Bool) (x y : Nat), PL n s t x y < 4 ^ n
  | 0, _, _, _, _ => by show 0 < 1; decide
  | n + 1, s, t, x, y => by
    rw [PL, s4]
    have h := td_lt s t (lt2 (x / 2 ^ n)) (lt2 (y / 2 ^ n))
    have ih := pl_lt n (fs (td (x / 2 ^ n % 2) (y / 2 ^ n % 2) s t) s) (ft (td (x / 2 ^ n % 2) (y / 2 ^ n % 2) s t) t) (x % 2 ^ n) (y % 2 ^ n)
    have := Nat.mul_le_mul_right (4 ^ n) (Nat.le_of_lt_succ h)
    omega
theorem bit {n a r : Nat} (ha : a < 2) (hr : r < 2 ^ n) : (a * 2 ^ n + r) / 2 ^ n % 2 = a ∧ (a * 2 ^ n + r) % 2 ^ n = r := by
  have e : (a * 2 ^ n + r) / 2 ^ n = a := by
    rw [Nat.add_comm, Nat.add_mul_div_right _ _ (p2 n), Nat.div_eq_of_lt hr, Nat.zero_add]
  refine ⟨by rw [e, Nat.mod_eq_of_lt ha], ?_⟩
  rw [Nat.add_comm, Nat.add_mul_mod_self_right, Nat.mod_eq_of_lt hr]
theorem unbit {n x : Nat} (hx : x < 2 ^ (n + 1)) : x = x / 2 ^ n % 2 * 2 ^ n + x % 2 ^ n := by
  have h : x / 2 ^ n < 2 := by rw [Nat.div_lt_iff_lt_mul (p2 n), ← s2]; exact hx
  rw [Nat.mod_eq_of_lt h, Nat.mul_comm]
  exact (Nat.div_add_mod x (2 ^ n)).symm
theorem pl_w : ∀ (n : Nat) (s t : Bool) (p : Nat), p < 4 ^ n → PL n s t (WX n s t p) (WY n s t p) = p
  | 0, _, _, p, h => by
    have : (4 : Nat) ^ 0 = 1 := rfl
    show 0 = p
    omega
  | n + 1, s, t, p, h => by
    obtain ⟨q, r, hq, hr, rfl⟩ := undig h
    rw [wx_dig s t hq hr, wy_dig s t hq hr]
    obtain ⟨a1, a2⟩ := bit (Nat.lt_succ_of_le (qx_le s t hq)) (wx_lt n (fs q s) (ft q t) r)
    obtain ⟨b1, b2⟩ := bit (Nat.lt_succ_of_le (qy_le s t hq)) (wy_lt n (fs q s) (ft q t) r)
    rw [PL, a1, a2, b1, b2, td_q s t hq, pl_w n (fs q s) (ft q t) r hr]
theorem w_pl : ∀ (n : Nat) (s t : Bool) (x y : Nat), x < 2 ^ n → y < 2 ^ n → WX n s t (PL n s t x y) = x ∧ WY n s t (PL n s t x y) = y
  | 0, _, _, x, y, hx, hy => by
    have : (2 : Nat) ^ 0 = 1 := rfl
    exact ⟨show 0 = x by omega, show 0 = y by omega⟩
  | n + 1, s, t, x, y, hx, hy => by
    have hd := td_lt s t (lt2 (x / 2 ^ n)) (lt2 (y / 2 ^ n))
    have hr := pl_lt n (fs (td (x / 2 ^ n % 2) (y / 2 ^ n % 2) s t) s) (ft (td (x / 2 ^ n % 2) (y / 2 ^ n % 2) s t) t) (x % 2 ^ n) (y % 2 ^ n)
    obtain ⟨i, j⟩ := w_pl n (fs (td (x / 2 ^ n % 2) (y / 2 ^ n % 2) s t) s) (ft (td (x / 2 ^ n % 2) (y / 2 ^ n % 2) s t) t) (x % 2 ^ n) (y % 2 ^ n) (Nat.mod_lt _ (p2 n)) (Nat.mod_lt _ (p2 n))
    rw [PL, wx_dig s t hd hr, wy_dig s t hd hr, i, j, qx_td s t (lt2 _) (lt2 _), qy_td s t (lt2 _) (lt2 _)]
    exact ⟨(unbit hx).symm, (unbit hy).symm⟩
theorem inj {n p q : Nat} (hp : p < 4 ^ n) (hq : q < 4 ^ n) (h1 : cx n p = cx n q) (h2 : cy n p = cy n q) : p = q := by
  have a := pl_w n false false p hp
  have b := pl_w n false false q hq
  rw [show WX n false false p = WX n false false q from h1, show WY n false false p = WY n false false q from h2, b] at a
  exact a.symm

/-! ### squares -/
theorem wx_sq : ∀ (m k : Nat) (s t : Bool) (p : Nat), WX (m + k) s t p / 2 ^ k = WX m s t (p / 4 ^ k)
  | 0, k, s, t, p => by
    rw [Nat.zero_add]
    exact Nat.div_eq_of_lt (wx_lt k s t p)
  | m + 1, k, s, t, p => by
    rw [show m + 1 + k = (m + k) + 1 by omega, WX, WX]
    have e1 : p / 4 ^ k / 4 ^ m = p / 4 ^ (m + k) := by rw [Nat.div_div_eq_div_mul, ← Nat.pow_add, Nat.add_comm]
    have e2 : p / 4 ^ k % 4 ^ m = p % 4 ^ (m + k) / 4 ^ k := by
      rw [show 4 ^ (m + k) = 4 ^ k * 4 ^ m by rw [← Nat.pow_add, Nat.add_comm], Nat.mod_mul_right_div_self]
    rw [e1, e2, ← wx_sq m k]
    have e3 : qx (p / 4 ^ (m + k) % 4) s t * 2 ^ (m + k) = 2 ^ k * (qx (p / 4 ^ (m + k) % 4) s t * 2 ^ m) := by
      generalize qx (p / 4 ^ (m + k) % 4) s t = z
      rw [Nat.pow_add, ← Nat.mul_assoc, Nat.mul_comm]
    rw [e3, Nat.mul_add_div (p2 k)]
theorem wy_sq : ∀ (m k : Nat) (s t : Bool) (p : Nat), WY (m + k) s t p / 2 ^ k = WY m s t (p / 4 ^ k)
  | 0, k, s, t, p => by
    rw [Nat.zero_add]
    exact Nat.div_eq_of_lt (wy_lt k s t p)
  | m + 1, k, s, t, p => by
    rw [show m + 1 + k = (m + k) + 1 by omega, WY, WY]
    have e1 : p / 4 ^ k / 4 ^ m = p / 4 ^ (m + k) := by rw [Nat.div_div_eq_div_mul, ← Nat.pow_add, Nat.add_comm]
    have e2 : p / 4 ^ k % 4 ^ m = p % 4 ^ (m + k) / 4 ^ k := by
      rw [show 4 ^ (m + k) = 4 ^ k * 4 ^ m by rw [← Nat.pow_add, Nat.add_comm], Nat.mod_mul_right_div_self]
    rw [e1, e2, ← wy_sq m k]
    have e3 : qy (p / 4 ^ (m + k) % 4) s t * 2 ^ (m + k) = 2 ^ k * (qy (p / 4 ^ (m + k) % 4) s t * 2 ^ m) := by
      generalize qy (p / 4 ^ (m + k) % 4) s t = z
      rw [Nat.pow_add, ← Nat.mul_assoc, Nat.mul_comm]
    rw [e3, Nat.mul_add_div (p2 k)]
theorem cx_sq {n k : Nat} (h : k ≤ n) (p : Nat) : cx n p / 2 ^ k = cx (n - k) (p / 4 ^ k) := by
  have := wx_sq (n - k) k false false p
  rw [Nat.sub_add_cancel h] at this
  exact this
theorem cy_sq {n k : Nat} (h : k ≤ n) (p : Nat) : cy n p / 2 ^ k = cy (n - k) (p / 4 ^ k) := by
  have := wy_sq (n - k) k false false p
  rw [Nat.sub_add_cancel h] at this
  exact this
theorem blk_lt {n k p : Nat} (h : k ≤ n) (hp : p < 4 ^ n) : p / 4 ^ k < 4 ^ (n - k) := by
  rw [Nat.div_lt_iff_lt_mul (p4 k), ← Nat.pow_add, Nat.sub_add_cancel h]
  exact hp
theorem same_sq {n k p q : Nat} (h : k ≤ n) (hp : p < 4 ^ n) (hq : q < 4 ^ n) : (cx n q / 2 ^ k = cx n p / 2 ^ k ∧ cy n q / 2 ^ k = cy n p / 2 ^ k) ↔ q / 4 ^ k = p / 4 ^ k := by
  rw [cx_sq h, cx_sq h, cy_sq h, cy_sq h]
  constructor
  · rintro ⟨a, b⟩
    exact inj (blk_lt h hq) (blk_lt h hp) a b
  · intro e
    rw [e]
    exact ⟨rfl, rfl⟩
/-- places less than a block apart -/
theorem near {n k p q : Nat} (h : k ≤ n) (hp : p ≤ q) (hq : q < 4 ^ n) (hd : q < p + 4 ^ k) :
    (cx n q / 2 ^ k = cx n p / 2 ^ k ∧ cy n q / 2 ^ k = cy n p / 2 ^ k) ∨ Adj (cx n p / 2 ^ k) (cy n p / 2 ^ k) (cx n q / 2 ^ k) (cy n q / 2 ^ k) := by
  have h4 := p4 k
  have a : p / 4 ^ k ≤ q / 4 ^ k := Nat.div_le_div_right hp
  have b : q / 4 ^ k ≤ p / 4 ^ k + 1 := by
    have e : (p + 4 ^ k) / 4 ^ k = p / 4 ^ k + 1 := by rw [Nat.add_div_right _ h4]
    rw [← e]
    exact Nat.div_le_div_right (Nat.le_of_lt hd)
  by_cases e : q / 4 ^ k = p / 4 ^ k
  · exact .inl ((same_sq h (Nat.lt_of_le_of_lt hp hq) hq).mpr e)
  · right
    have e1 : q / 4 ^ k = p / 4 ^ k + 1 := by omega
    rw [cx_sq h, cx_sq h, cy_sq h, cy_sq h, e1]
    refine step_adj (n - k) (p / 4 ^ k) ?_
    rw [← e1]
    exact blk_lt h hq
end Fw

/-! How many cells of a box the walk has met. -/
namespace Fw
structure Box where
  l : Int
  o : Int
  r : Int
  h : Int
def BoxOk (B : Box) (n : Nat) : Prop := 0 ≤ B.l ∧ B.l ≤ B.r ∧ B.r < 2 ^ n ∧ 0 ≤ B.o ∧ B.o ≤ B.h ∧ B.h < 2 ^ n
def inb (B : Box) (x y : Int) : Bool := decide (B.l ≤ x ∧ x ≤ B.r ∧ B.o ≤ y ∧ y ≤ B.h)

/-! ### counting -/
def cnt (f : Nat → Bool) : Nat → Nat
  | 0 => 0
  | p + 1 => cnt f p + (if f p = true then 1 else 0)
theorem cnt_congr {f g : Nat → Bool} : ∀ {p : Nat}, (∀ i, i < p → f i = g i) → cnt f p = cnt g p
  | 0, _ => rfl
  | p + 1, h => by
    rw [cnt, cnt, cnt_congr (p := p) fun i hi => h i (by omega), h p (by omega)]
theorem cnt_add (f : Nat → Bool) (a : Nat) : ∀ b, cnt f (a + b) = cnt f a + cnt (fun i => f (a + i)) b
  | 0 => rfl
  | b + 1 => by
    rw [← Nat.add_assoc, cnt, cnt, cnt_add f a b, Nat.add_assoc]
theorem cnt_le (f : Nat → Bool) : ∀ p, cnt f p ≤ p
  | 0 => Nat.le_refl _
  | p + 1 => by
    have := cnt_le f p
    rw [cnt]
    split <;> omega
theorem cnt_mono (f : Nat → Bool) {p q : Nat} (h : p ≤ q) : cnt f p ≤ cnt f q := by
  obtain ⟨d, rfl⟩ := Nat.exists_eq_add_of_le h
  rw [cnt_add]
  omega
theorem cnt_not (f : Nat → Bool) : ∀ p, cnt (fun i => !(f i)) p + cnt f p = p
  | 0 => rfl
  | p + 1 => by
    have := cnt_not f p
    rw [cnt, cnt]
    cases f p <;> simp <;> omega
theorem cnt_step {f : Nat → Bool} {p q : Nat} (hp : f p = true) (h : p < q) : cnt f p < cnt f q := by
  have := cnt_mono f (show p + 1 ≤ q from h)
  rw [cnt, if_pos hp] at this
  omega
/-- two true places of one count are one -/
theorem cnt_inj {f : Nat → Bool} {p q : Nat} (hp : f p = true) (hq : f q = true) (h : cnt f p = cnt f q) : p = q := by
  rcases Nat.lt_trichotomy p q with e | e | e
  · have := cnt_step hp e
    omega
  · exact e
  · have := cnt_step hq e
    omega

/-! ### lengths that two spans share -/
def ov (a b l : Int) (m : Nat) : Nat := (min b (l + m - 1) - max a l + 1).toNat
theorem ov_split (a b l : Int) (m : Nat) : ov a b l (2 * m) = ov a b l m + ov a b (l + m) m := by
  unfold ov
  omega
theorem ov_le (a b l : Int) (m : Nat) : ov a b l m ≤ m := by
  unfold ov
  omega
def sh (B : Box) (l o : Int) (m : Nat) : Nat := ov B.l B.r l m * ov B.o B.h o m
theorem sh_one (B : Box) (l o : Int) : sh B l o 1 = if inb B l o = true then 1 else 0 := by
  unfold sh inb
  have e1 : ov B.l B.r l 1 = if B.l ≤ l ∧ l ≤ B.r then 1 else 0 := by
    unfold ov
    split <;> omega
  have e2 : ov B.o B.h o 1 = if B.o ≤ o ∧ o ≤ B.h then 1 else 0 := by
    unfold ov
    split <;> omega
  rw [e1, e2]
  by_cases h1 : B.l ≤ l ∧ l ≤ B.r <;> by_cases h2 : B.o ≤ o ∧ o ≤ B.h
  · rw [if_pos h1, if_pos h2, if_pos (decide_eq_true ⟨h1.1, h1.2, h2⟩)]
  · rw [if_pos h1, if_neg h2, if_neg]
    intro z
    exact h2 (of_decide_eq_true z).2.2
  · rw [if_neg h1, if_pos h2, if_neg]
    intro z
    exact h1 ⟨(of_decide_eq_true z).1, (of_decide_eq_true z).2.1⟩
  · rw [if_neg h1, if_neg h2, if_neg]
    intro z
    exact h2 (of_decide_eq_true z).2.2

/-! ### the blocks -/
/-- is the cell at the place q of a block (laid by s, t, its least column l, its least row o) in the box -/
def blk (B : Box) (s t : Bool) (n : Nat) (l o : Int) (q : Nat) : Bool := inb B (l + WX n s t q) (o + WY n s t q)
theorem blk_dig {B : Box} {s t : Bool} {n d r : Nat} {l o : Int} (hd : d < 4) (hr : r < 4 ^ n) :
    blk B s t (n + 1) l o (d * 4 ^ n + r) = blk B (fs d s) (ft d t) n (l + qx d s t * 2 ^ n) (o + qy d s t * 2 ^ n) r := by
  unfold blk
  rw [wx_dig s t hd hr, wy_dig s t hd hr]
  have e : ∀ (l : Int) (a b : Nat), l + ((a * 2 ^ n + b : Nat) : Int) = l + a * 2 ^ n + b := fun l a b => by
    rw [Int.natCast_add, Int.natCast_mul, Int.natCast_pow, Int.add_assoc]
    rfl
  rw [e, e]
theorem sh_four (B : Box) (s t : Bool) (l o : Int) (M : Nat) :
    sh B (l + qx 0 s t * M) (o + qy 0 s t * M) M + sh B (l + qx 1 s t * M) (o + qy 1 s t * M) M + sh B (l + qx 2 s t * M) (o + qy 2 s t * M) M + sh B (l + qx 3 s t * M) (o + qy 3 s t * M) M = sh B l o (2 * M) := by
  unfold sh
  rw [ov_split, ov_split, Nat.add_mul, Nat.mul_add, Nat.mul_add]
  have z0 : ∀ l : Int, l + ((0 : Nat) : Int) * (M : Int) = l := fun l => by rw [Int.natCast_zero, Int.zero_mul, Int.add_zero]
  have z1 : ∀ l : Int, l + ((1 : Nat) : Int) * (M : Int) = l + M := fun l => by rw [Int.natCast_one, Int.one_mul]
  cases s <;> cases t
  · rw [show qx 0 false false = 0 from rfl, show qx 1 false false = 0 from rfl, show qx 2 false false = 1 from rfl, show qx 3 false false = 1 from rfl, show qy 0 false false = 0 from rfl, show qy 1 false false = 1 from rfl, show qy 2 false false = 1 from rfl, show qy 3 false false = 0 from rfl]
    simp only [z0, z1]
    omega
  · rw [show qx 0 false true = 1 from rfl, show qx 1 false true = 1 from rfl, show qx 2 false true = 0 from rfl, show qx 3 false true = 0 from rfl, show qy 0 false true = 1 from rfl, show qy 1 false true = 0 from rfl, show qy 2 false true = 0 from rfl, show qy 3 false true = 1 from rfl]
    simp only [z0, z1]
    omega
  · rw [show qx 0 true false = 0 from rfl, show qx 1 true false = 1 from rfl, show qx 2 true false = 1 from rfl, show qx 3 true false = 0 from rfl, show qy 0 true false = 0 from rfl, show qy 1 true false = 0 from rfl, show qy 2 true false = 1 from rfl, show qy 3 true false = 1 from rfl]
    simp only [z0, z1]
    omega
  · rw [show qx 0 true true = 1 from rfl, show qx 1 true true = 0 from rfl, show qx 2 true true = 0 from rfl, show qx 3 true true = 1 from rfl, show qy 0 true true = 1 from rfl, show qy 1 true true = 1 from rfl, show qy 2 true true = 0 from rfl, show qy 3 true true = 0 from rfl]
    simp only [z0, z1]
    omega
theorem i2c (n : Nat) : (2 : Int) ^ n = ((2 ^ n : Nat) : Int) := by rw [Int.natCast_pow]; rfl
theorem cnt_blk {B : Box} {s t : Bool} {n d r : Nat} {l o : Int} (hd : d < 4) (hr : r ≤ 4 ^ n) :
    cnt (fun i => blk B s t (n + 1) l o (d * 4 ^ n + i)) r = cnt (blk B (fs d s) (ft d t) n (l + qx d s t * 2 ^ n) (o + qy d s t * 2 ^ n)) r :=
  cnt_congr fun i hi => blk_dig hd (by omega)
theorem full : ∀ (n : Nat) (B : Box) (s t : Bool) (l o : Int), cnt (blk B s t n l o) (4 ^ n) = sh B l o (2 ^ n)
  | 0, B, s, t, l, o => by
    show 0 + (if blk B s t 0 l o 0 = true then 1 else 0) = sh B l o 1
    rw [sh_one, Nat.zero_add]
    unfold blk
    rw [show WX 0 s t 0 = 0 from rfl, show WY 0 s t 0 = 0 from rfl, Int.natCast_zero, Int.add_zero, Int.add_zero]
  | n + 1, B, s, t, l, o => by
    have e : ∀ f : Nat → Bool, cnt f (4 ^ (n + 1)) = cnt (fun i => f (0 * 4 ^ n + i)) (4 ^ n) + cnt (fun i => f (1 * 4 ^ n + i)) (4 ^ n) + cnt (fun i => f (2 * 4 ^ n + i)) (4 ^ n) + cnt (fun i => f (3 * 4 ^ n + i)) (4 ^ n) := fun f => by
      rw [show 4 ^ (n + 1) = 3 * 4 ^ n + 4 ^ n by rw [s4]; omega, cnt_add, show 3 * 4 ^ n = 2 * 4 ^ n + 4 ^ n by omega, cnt_add, show 2 * 4 ^ n = 1 * 4 ^ n + 4 ^ n by omega, cnt_add, show 1 * 4 ^ n = 0 * 4 ^ n + 4 ^ n by omega]
      rw [cnt_add]
      have z : cnt f (0 * 4 ^ n) = 0 := by rw [Nat.zero_mul]; rfl
      rw [z, Nat.zero_add]
    rw [e, cnt_blk (d := 0) (by decide) (Nat.le_refl _), cnt_blk (d := 1) (by decide) (Nat.le_refl _), cnt_blk (d := 2) (by decide) (Nat.le_refl _), cnt_blk (d := 3) (by decide) (Nat.le_refl _),
      full n, full n, full n, full n, s2, i2c, sh_four]
/-- what the first d blocks of four share with the box -/
def part (B : Box) (s t : Bool) (n : Nat) (l o : Int) : Nat → Nat
  | 0 => 0
  | d + 1 => part B s t n l o d + sh B (l + qx d s t * 2 ^ n) (o + qy d s t * 2 ^ n) (2 ^ n)
theorem cnt_part {B : Box} {s t : Bool} {n : Nat} {l o : Int} : ∀ {d : Nat}, d ≤ 4 → cnt (blk B s t (n + 1) l o) (d * 4 ^ n) = part B s t n l o d
  | 0, _ => by rw [Nat.zero_mul]; rfl
  | d + 1, h => by
    rw [Nat.succ_mul, cnt_add, cnt_part (by omega), cnt_blk (by omega) (Nat.le_refl _), full]
    rfl
theorem cnt_dig {B : Box} {s t : Bool} {n d r : Nat} {l o : Int} (hd : d < 4) (hr : r ≤ 4 ^ n) :
    cnt (blk B s t (n + 1) l o) (d * 4 ^ n + r) = part B s t n l o d + cnt (blk B (fs d s) (ft d t) n (l + qx d s t * 2 ^ n) (o + qy d s t * 2 ^ n)) r := by
  rw [cnt_add, cnt_part (by omega), cnt_blk hd hr]
/-- the walk's own count -/
abbrev Cb (B : Box) (n p : Nat) : Nat := cnt (blk B false false n 0 0) p
theorem blk_in (B : Box) (n p : Nat) : blk B false false n 0 0 p = inb B (cx n p) (cy n p) := by
  unfold blk
  rw [Int.zero_add, Int.zero_add]
theorem mod_dig (p k : Nat) : p % 4 ^ (k + 1) = p / 4 ^ k % 4 * 4 ^ k + p % 4 ^ k := by
  rw [Nat.pow_succ, Nat.mod_mul, Nat.mul_comm (4 ^ k), Nat.add_comm]
/-- one turn of counting -/
theorem cnt_turn {B : Box} {s t : Bool} {k p z g : Nat} {l o : Int} (h : g + cnt (blk B s t (k + 1) l o) (p % 4 ^ (k + 1)) = z) :
    g + part B s t k l o (p / 4 ^ k % 4) + cnt (blk B (fs (p / 4 ^ k % 4) s) (ft (p / 4 ^ k % 4) t) k (l + qx (p / 4 ^ k % 4) s t * 2 ^ k) (o + qy (p / 4 ^ k % 4) s t * 2 ^ k)) (p % 4 ^ k) = z := by
  rw [mod_dig, cnt_dig (lt4 _) (Nat.le_of_lt (Nat.mod_lt _ (p4 k)))] at h
  omega
theorem sh_area {B : Box} {n : Nat} (h : BoxOk B n) : ((sh B 0 0 (2 ^ n) : Nat) : Int) = (B.r - B.l + 1) * (B.h - B.o + 1) := by
  obtain ⟨h1, h2, h3, h4, h5, h6⟩ := h
  rw [i2c] at h3 h6
  have e1 : ((ov B.l B.r 0 (2 ^ n) : Nat) : Int) = B.r - B.l + 1 := by unfold ov; omega
  have e2 : ((ov B.o B.h 0 (2 ^ n) : Nat) : Int) = B.h - B.o + 1 := by unfold ov; omega
  unfold sh
  rw [Int.natCast_mul, e1, e2]
theorem full_area (B : Box) (n : Nat) : Cb B n (4 ^ n) = sh B 0 0 (2 ^ n) := full n B false false 0 0
theorem Cb_le {B : Box} {n p : Nat} (h : p ≤ 4 ^ n) : Cb B n p ≤ sh B 0 0 (2 ^ n) := by
  rw [← full_area]
  exact cnt_mono _ h
theorem sh_pos {B : Box} {n : Nat} (h : BoxOk B n) : 0 < sh B 0 0 (2 ^ n) := by
  have e := sh_area h
  obtain ⟨h1, h2, h3, h4, h5, h6⟩ := h
  have := Int.mul_pos (show 0 < B.r - B.l + 1 by omega) (show 0 < B.h - B.o + 1 by omega)
  omega
/-- the test for a cell in the box -/
theorem in_dec (B : Box) (n p : Nat) : decide (B.l ≤ ((cx n p : Nat) : Int) ∧ ((cx n p : Nat) : Int) ≤ B.r ∧ B.o ≤ ((cy n p : Nat) : Int) ∧ ((cy n p : Nat) : Int) ≤ B.h) = inb B (cx n p) (cy n p) := rfl
end Fw

/-! The so-manieth place in a box, or out of it. -/
namespace Fw
/-- in (u = true) or out of the box, at the places of a block -/
def gb (u : Bool) (B : Box) (s t : Bool) (n : Nat) (l o : Int) (q : Nat) : Bool := blk B s t n l o q == u
/-- how many of a block's cells are so -/
def shu (u : Bool) (B : Box) (l o : Int) (n : Nat) : Nat := if u then sh B l o (2 ^ n) else 4 ^ n - sh B l o (2 ^ n)
theorem gb_true {B : Box} {s t : Bool} {n : Nat} {l o : Int} : gb true B s t n l o = blk B s t n l o := by
  funext q
  unfold gb
  cases blk B s t n l o q <;> rfl
theorem gb_false {B : Box} {s t : Bool} {n : Nat} {l o : Int} : gb false B s t n l o = fun q => !(blk B s t n l o q) := by
  funext q
  unfold gb
  cases blk B s t n l o q <;> rfl
theorem sh_le (B : Box) (l o : Int) (n : Nat) : sh B l o (2 ^ n) ≤ 4 ^ n := by
  rw [← full n B false false l o]
  exact cnt_le _ _
theorem gfull (u : Bool) (B : Box) (s t : Bool) (n : Nat) (l o : Int) : cnt (gb u B s t n l o) (4 ^ n) = shu u B l o n := by
  cases u
  · rw [gb_false]
    have := cnt_not (blk B s t n l o) (4 ^ n)
    rw [full] at this
    unfold shu
    rw [if_neg Bool.false_ne_true]
    omega
  · rw [gb_true, full]
    rfl
theorem gb_dig {u : Bool} {B : Box} {s t : Bool} {n d r : Nat} {l o : Int} (hd : d < 4) (hr : r < 4 ^ n) :
    gb u B s t (n + 1) l o (d * 4 ^ n + r) = gb u B (fs d s) (ft d t) n (l + qx d s t * 2 ^ n) (o + qy d s t * 2 ^ n) r := by
  unfold gb
  rw [blk_dig hd hr]
theorem gcnt_blk {u : Bool} {B : Box} {s t : Bool} {n d r : Nat} {l o : Int} (hd : d < 4) (hr : r ≤ 4 ^ n) :
    cnt (fun i => gb u B s t (n + 1) l o (d * 4 ^ n + i)) r = cnt (gb u B (fs d s) (ft d t) n (l + qx d s t * 2 ^ n) (o + qy d s t * 2 ^ n)) r :=
  cnt_congr fun i hi => gb_dig hd (by omega)
/-- what the first d blocks of four hold -/
def gpart (u : Bool) (B : Box) (s t : Bool) (n : Nat) (l o : Int) : Nat → Nat
  | 0 => 0
  | d + 1 => gpart u B s t n l o d + shu u B (l + qx d s t * 2 ^ n) (o + qy d s t * 2 ^ n) n
theorem gcnt_part {u : Bool} {B : Box} {s t : Bool} {n : Nat} {l o : Int} : ∀ {d : Nat}, d ≤ 4 → cnt (gb u B s t (n + 1) l o) (d * 4 ^ n) = gpart u B s t n l o d
  | 0, _ => by rw [Nat.zero_mul]; rfl
  | d + 1, h => by
    rw [Nat.succ_mul, cnt_add, gcnt_part (by omega), gcnt_blk (by omega) (Nat.le_refl _), gfull]
    rfl
theorem gpart_four {u : Bool} {B : Box} {s t : Bool} {n : Nat} {l o : Int} : gpart u B s t n l o 4 = shu u B l o (n + 1) := by
  rw [← gcnt_part (Nat.le_refl 4), ← gfull u B s t (n + 1) l o, s4]
/-- the answer is the place p: within the block that is left at k folds, it is its num-th -/
def Pk (u : Bool) (B : Box) (n number : Nat) (m : Nat) (s t : Bool) (l o : Int) (place num : Nat) : Prop :=
  num < shu u B l o m ∧ place * 4 ^ m + 4 ^ m ≤ 4 ^ n ∧
  ∀ r, r < 4 ^ m → gb u B s t m l o r = true → cnt (gb u B s t m l o) r = num →
    gb u B false false n 0 0 (place * 4 ^ m + r) = true ∧ cnt (gb u B false false n 0 0) (place * 4 ^ m + r) = number
theorem pk_start {u : Bool} {B : Box} {n number : Nat} (h : number < shu u B 0 0 n) : Pk u B n number n false false 0 0 0 number :=
  ⟨h, by omega, fun r _ h1 h2 => by rw [Nat.zero_mul, Nat.zero_add]; exact ⟨h1, h2⟩⟩
/-- the turn d is taken -/
theorem pk_turn {u : Bool} {B : Box} {n number m : Nat} {s t : Bool} {l o : Int} {place num d : Nat} (h : Pk u B n number (m + 1) s t l o place num) (hd : d < 4)
    (h1 : gpart u B s t m l o d ≤ num) (h2 : num - gpart u B s t m l o d < shu u B (l + qx d s t * 2 ^ m) (o + qy d s t * 2 ^ m) m) :
    Pk u B n number m (fs d s) (ft d t) (l + qx d s t * 2 ^ m) (o + qy d s t * 2 ^ m) (4 * place + d) (num - gpart u B s t m l o d) := by
  obtain ⟨a, b, c⟩ := h
  have e : (4 * place + d) * 4 ^ m = place * 4 ^ (m + 1) + d * 4 ^ m := by
    rw [Nat.add_mul, s4, ← Nat.mul_assoc, Nat.mul_comm 4 place]
  have hd2 := Nat.mul_le_mul_right (4 ^ m) (show d ≤ 3 by omega)
  refine ⟨h2, ?_, fun r hr g1 g2 => ?_⟩
  · rw [e]
    rw [s4] at b ⊢
    omega
  · have x := c (d * 4 ^ m + r) (by rw [s4]; omega) (by rw [gb_dig hd hr]; exact g1) (by
      rw [cnt_add, gcnt_part (by omega), gcnt_blk hd (Nat.le_of_lt hr), g2]
      omega)
    rw [e, Nat.add_assoc]
    exact x
theorem pk_end {u : Bool} {B : Box} {n number : Nat} {s t : Bool} {l o : Int} {place num : Nat} (h : Pk u B n number 0 s t l o place num) :
    place < 4 ^ n ∧ gb u B false false n 0 0 place = true ∧ cnt (gb u B false false n 0 0) place = number := by
  obtain ⟨a, b, c⟩ := h
  rw [← gfull u B s t 0 l o] at a
  have a2 : num < (0 + if gb u B s t 0 l o 0 = true then 1 else 0) := a
  have z : gb u B s t 0 l o 0 = true := by
    cases e : gb u B s t 0 l o 0
    · rw [e, if_neg Bool.false_ne_true] at a2
      omega
    · rfl
  rw [z, if_pos rfl] at a2
  have x := c 0 (by decide) z (by show 0 = num; omega)
  rw [Nat.pow_zero, Nat.mul_one, Nat.add_zero] at x
  rw [Nat.pow_zero, Nat.mul_one] at b
  exact ⟨by omega, x⟩
/-- one turn always is -/
theorem pk_some {u : Bool} {B : Box} {s t : Bool} {m : Nat} {l o : Int} {num : Nat} (h : num < shu u B l o (m + 1)) : num < gpart u B s t m l o 4 := by
  rw [gpart_four]
  exact h
/-! ### in and out, by the walk's own count -/
theorem gb_in {B : Box} {n p : Nat} : gb true B false false n 0 0 p = true ↔ inb B (cx n p) (cy n p) = true := by
  rw [gb_true, blk_in]
theorem gb_out {B : Box} {n p : Nat} : gb false B false false n 0 0 p = true ↔ inb B (cx n p) (cy n p) = false := by
  rw [gb_false]
  show (!(blk B false false n 0 0 p)) = true ↔ _
  rw [blk_in]
  cases inb B (cx n p) (cy n p) <;> simp
theorem cnt_in (B : Box) (n p : Nat) : cnt (gb true B false false n 0 0) p = Cb B n p := by rw [gb_true]
theorem cnt_out (B : Box) (n p : Nat) : cnt (gb false B false false n 0 0) p + Cb B n p = p := by
  rw [gb_false]
  exact cnt_not _ _
/-- the num-th of f is the first from p on, where num are met ahead of p -/
theorem next_ge {f : Nat → Bool} {p q : Nat} (h1 : f q = true) (h2 : cnt f q = cnt f p) : p ≤ q := by
  rcases Nat.lt_or_ge q p with h | h
  · have := cnt_step h1 h
    omega
  · exact h
end Fw

/-! Stretches: where the walk is in a box, one behind another. -/
namespace Fw
/-- is the walk in the box at the place p -/
def In (B : Box) (n p : Nat) : Prop := inb B (cx n p) (cy n p) = true
/-- f is the next place in the box, from c on -/
def NIn (B : Box) (n c f : Nat) : Prop := c ≤ f ∧ f < 4 ^ n ∧ In B n f ∧ Cb B n f = Cb B n c
/-- e is the next place out of the box, from f on, or the number of all places -/
def NOut (B : Box) (n f e : Nat) : Prop := f < e ∧ e ≤ 4 ^ n ∧ e - Cb B n e = f - Cb B n f ∧ (e = 4 ^ n ∨ ¬ In B n e)
theorem Cb_le_self (B : Box) (n p : Nat) : Cb B n p ≤ p := cnt_le _ _
theorem Cb_mono (B : Box) (n : Nat) {p q : Nat} (h : p ≤ q) : Cb B n p ≤ Cb B n q := cnt_mono _ h
theorem Cb_in {B : Box} {n p : Nat} (h : In B n p) : Cb B n (p + 1) = Cb B n p + 1 := by
  have e : blk B false false n 0 0 p = true := by rw [blk_in]; exact h
  show Cb B n p + (if blk B false false n 0 0 p = true then 1 else 0) = _
  rw [if_pos e]
theorem Cb_out {B : Box} {n p : Nat} (h : ¬ In B n p) : Cb B n (p + 1) = Cb B n p := by
  have e : ¬ blk B false false n 0 0 p = true := by rw [blk_in]; exact h
  show Cb B n p + (if blk B false false n 0 0 p = true then 1 else 0) = _
  rw [if_neg e]
  rfl
theorem out_mono (B : Box) (n : Nat) : ∀ {p q : Nat}, p ≤ q → p - Cb B n p ≤ q - Cb B n q := fun {p q} h => by
  have a := cnt_mono (gb false B false false n 0 0) h
  have b := cnt_out B n p
  have c := cnt_out B n q
  omega
/-- between c and the next place in the box none is in it -/
theorem NIn.gap {B : Box} {n c f p : Nat} (h : NIn B n c f) (h1 : c ≤ p) (h2 : p < f) : ¬ In B n p := fun z => by
  have a := Cb_in z
  have b := Cb_mono B n h1
  have d := Cb_mono B n (show p + 1 ≤ f from h2)
  have e := h.2.2.2
  omega
/-- from f up to the next place out of the box all are in it -/
theorem NOut.fill {B : Box} {n f e p : Nat} (h : NOut B n f e) (h1 : f ≤ p) (h2 : p < e) : In B n p := by
  rcases Classical.em (In B n p) with z | z
  · exact z
  · have a := Cb_out z
    have b := out_mono B n h1
    have d := out_mono B n (show p + 1 ≤ e from h2)
    have g := h.2.2.1
    have i := Cb_le_self B n p
    omega
theorem NIn.uniq {B : Box} {n c f r : Nat} (h : NIn B n c f) (h1 : In B n r) (h2 : Cb B n r = Cb B n c) : r = f :=
  cnt_inj (f := gb true B false false n 0 0) (gb_in.mpr h1) (gb_in.mpr h.2.2.1) (by rw [cnt_in, cnt_in, h2, h.2.2.2])
theorem NOut.uniq {B : Box} {n f e r : Nat} (h : NOut B n f e) (he : e < 4 ^ n) (h1 : ¬ In B n r) (h2 : r - Cb B n r = f - Cb B n f) : r = e := by
  have ho : ¬ In B n e := by
    rcases h.2.2.2 with z | z
    · omega
    · exact z
  have o1 : inb B (cx n r) (cy n r) = false := by
    cases q : inb B (cx n r) (cy n r)
    · rfl
    · exact absurd q h1
  have o2 : inb B (cx n e) (cy n e) = false := by
    cases q : inb B (cx n e) (cy n e)
    · rfl
    · exact absurd q ho
  have a := cnt_out B n r
  have b := cnt_out B n e
  have c := h.2.2.1
  have d1 := Cb_le_self B n r
  have d2 := Cb_le_self B n e
  exact cnt_inj (f := gb false B false false n 0 0) (gb_out.mpr o1) (gb_out.mpr o2) (by omega)
/-- the stretches ps lie one behind another from c up to d -/
def Chain (B : Box) (n : Nat) : Nat → List (Nat × Nat) → Nat → Prop
  | c, [], d => c = d
  | c, p :: ps, d => NIn B n c p.1 ∧ NOut B n p.1 (p.2 + 1) ∧ Chain B n (p.2 + 1) ps d
theorem Chain.snoc {B : Box} {n : Nat} : ∀ {ps : List (Nat × Nat)} {c d f e : Nat}, Chain B n c ps d → NIn B n d f → NOut B n f e → Chain B n c (ps ++ [(f, e - 1)]) e
  | [], c, d, f, e, h, h1, h2 => by
    have h' : c = d := h
    subst h'
    have e1 : e - 1 + 1 = e := by have := h2.1; omega
    refine ⟨h1, ?_, e1⟩
    show NOut B n f (e - 1 + 1)
    rw [e1]
    exact h2
  | p :: ps, c, d, f, e, h, h1, h2 => ⟨h.1, h.2.1, Chain.snoc h.2.2 h1 h2⟩
theorem Chain.le {B : Box} {n : Nat} : ∀ {ps : List (Nat × Nat)} {c d : Nat}, Chain B n c ps d → c ≤ d
  | [], c, d, h => Nat.le_of_eq h
  | p :: ps, c, d, h => by
    have a := h.1.1
    have b := h.2.1.1
    have e := Chain.le h.2.2
    omega
theorem Chain.top {B : Box} {n : Nat} : ∀ {ps : List (Nat × Nat)} {c d : Nat}, Chain B n c ps d → c ≤ 4 ^ n → d ≤ 4 ^ n
  | [], c, d, h, h1 => by have h' : c = d := h; omega
  | p :: ps, c, d, h, _ => Chain.top h.2.2 h.2.1.2.1
theorem Chain.pair {B : Box} {n : Nat} : ∀ {ps : List (Nat × Nat)} {c d : Nat}, Chain B n c ps d → ∀ p ∈ ps, c ≤ p.1 ∧ p.1 ≤ p.2 ∧ p.2 < d ∧ p.2 < 4 ^ n ∧ ∀ q, p.1 ≤ q → q ≤ p.2 → In B n q
  | [], _, _, _, p, hp => by cases hp
  | a :: ps, c, d, h, p, hp => by
    rcases List.mem_cons.mp hp with rfl | hp
    · have e1 := h.1.1
      have e2 := h.2.1.1
      have e3 := h.2.1.2.1
      have e4 := Chain.le h.2.2
      exact ⟨e1, by omega, by omega, by omega, fun q h1 h2 => h.2.1.fill h1 (by omega)⟩
    · obtain ⟨i, j⟩ := Chain.pair h.2.2 p hp
      have e1 := h.1.1
      have e2 := h.2.1.1
      exact ⟨by omega, j⟩
/-- a place from c up to d is in one of them just where it is in the box -/
theorem Chain.iff {B : Box} {n : Nat} : ∀ {ps : List (Nat × Nat)} {c d q : Nat}, Chain B n c ps d → c ≤ q → q < d → ((∃ p ∈ ps, p.1 ≤ q ∧ q ≤ p.2) ↔ In B n q)
  | [], c, d, q, h, h1, h2 => by
    have h' : c = d := h
    omega
  | a :: ps, c, d, q, h, h1, h2 => by
    by_cases k : q ≤ a.2
    · by_cases j : a.1 ≤ q
      · exact ⟨fun _ => h.2.1.fill j (by omega), fun _ => ⟨a, List.mem_cons_self, j, k⟩⟩
      · refine ⟨fun ⟨p, hp, i1, i2⟩ => ?_, fun z => absurd z (h.1.gap h1 (by omega))⟩
        rcases List.mem_cons.mp hp with rfl | hp
        · omega
        · have := (Chain.pair h.2.2 p hp).1
          omega
    · have ih := Chain.iff (q := q) h.2.2 (by omega) h2
      refine ⟨fun ⟨p, hp, i1, i2⟩ => ?_, fun z => ?_⟩
      · rcases List.mem_cons.mp hp with rfl | hp
        · omega
        · exact ih.mp ⟨p, hp, i1, i2⟩
      · obtain ⟨p, hp, i⟩ := ih.mpr z
        exact ⟨p, List.mem_cons_of_mem _ hp, i⟩
/-- all of them, where none is left -/
theorem Chain.all {B : Box} {n : Nat} {ps : List (Nat × Nat)} {d q : Nat} (h : Chain B n 0 ps d) (hd : Cb B n d = sh B 0 0 (2 ^ n)) (hq : q < 4 ^ n) : (∃ p ∈ ps, p.1 ≤ q ∧ q ≤ p.2) ↔ In B n q := by
  by_cases k : q < d
  · exact h.iff (Nat.zero_le _) k
  · refine ⟨fun ⟨p, hp, i1, i2⟩ => ?_, fun z => ?_⟩
    · have := (h.pair p hp).2.2.1
      omega
    · have a := Cb_in z
      have b := Cb_mono B n (show d ≤ q by omega)
      have c := Cb_le (B := B) (show q + 1 ≤ 4 ^ n from hq)
      omega
def lens : List (Nat × Nat) → Nat
  | [] => 0
  | p :: ps => (p.2 + 1 - p.1) + lens ps
theorem Chain.sum {B : Box} {n : Nat} : ∀ {ps : List (Nat × Nat)} {c d : Nat}, Chain B n c ps d → Cb B n c + lens ps = Cb B n d
  | [], c, d, h => by have h' : c = d := h; subst h'; rfl
  | p :: ps, c, d, h => by
    have ih := Chain.sum h.2.2
    have a := h.1.2.2.2
    have b := h.2.1.2.2.1
    have e := h.2.1.1
    have i := Cb_le_self B n p.1
    have j := Cb_le_self B n (p.2 + 1)
    show Cb B n c + ((p.2 + 1 - p.1) + lens ps) = _
    omega
theorem Chain.nil_iff {B : Box} {n c d : Nat} : Chain B n c [] d ↔ c = d := Iff.rfl
/-- the rest of a chain -/
theorem Chain.drop {B : Box} {n : Nat} : ∀ {ps : List (Nat × Nat)} {c d : Nat} (_ : Chain B n c ps d) {i : Nat} {p : Nat × Nat}, ps[i]? = some p → ∃ e, Chain B n e (ps.drop i) d ∧ c ≤ e
  | [], _, _, _, _, _, hi => by simp at hi
  | a :: ps, c, d, h, 0, p, _ => ⟨c, h, Nat.le_refl _⟩
  | a :: ps, c, d, h, i + 1, p, hi => by
    obtain ⟨e, h1, h2⟩ := Chain.drop h.2.2 (i := i) (p := p) (by simpa using hi)
    have e1 := h.1.1
    have e2 := h.2.1.1
    exact ⟨e, h1, by omega⟩
/-- the square of an aligned block that lies in a stretch: its ends lie in the box -/
theorem corner {B : Box} {n k p l : Nat} (hp : p % 4 ^ k = 0) (hl : p + 4 ^ k ≤ l + 1) (hn : l < 4 ^ n) (hin : ∀ q, p ≤ q → q ≤ l → In B n q) {x y : Nat}
    (hx : x / 2 ^ k = cx n p / 2 ^ k) (hy : y / 2 ^ k = cy n p / 2 ^ k) : inb B x y = true := by
  have h4 := p4 k
  have hk : k ≤ n := by
    rcases Nat.lt_or_ge n k with h | h
    · have := Nat.pow_lt_pow_right (show 1 < 4 by decide) h
      omega
    · exact h
  have e : 2 ^ n = 2 ^ (n - k) * 2 ^ k := by rw [← Nat.pow_add, Nat.sub_add_cancel hk]
  have bound : ∀ {x z : Nat}, z < 2 ^ n → x / 2 ^ k = z / 2 ^ k → x < 2 ^ n := fun {x z} hz h => by
    have a : z / 2 ^ k < 2 ^ (n - k) := by
      rw [Nat.div_lt_iff_lt_mul (p2 k), ← e]
      exact hz
    rw [← h, Nat.div_lt_iff_lt_mul (p2 k), ← e] at a
    exact a
  have bx : x < 2 ^ n := bound (wx_lt n false false p) hx
  have by' : y < 2 ^ n := bound (wy_lt n false false p) hy
  have hq := pl_lt n false false x y
  obtain ⟨w1, w2⟩ := w_pl n false false x y bx by'
  have s : PL n false false x y / 4 ^ k = p / 4 ^ k := (same_sq hk (show p < 4 ^ n by omega) hq).mp ⟨by
    rw [show cx n (PL n false false x y) = x from w1]; exact hx, by
    rw [show cy n (PL n false false x y) = y from w2]; exact hy⟩
  have d1 := Nat.div_add_mod (PL n false false x y) (4 ^ k)
  have d2 := Nat.div_add_mod p (4 ^ k)
  have d3 := Nat.mod_lt (PL n false false x y) h4
  rw [s] at d1
  have z := hin (PL n false false x y) (by omega) (by omega)
  unfold In at z
  rw [show cx n (PL n false false x y) = x from w1, show cy n (PL n false false x y) = y from w2] at z
  exact z
/-- some next place in the box is left -/
theorem NIn.some {B : Box} {n c f : Nat} (h : NIn B n c f) : Cb B n c < sh B 0 0 (2 ^ n) := by
  have a := Cb_in h.2.2.1
  have b := Cb_le (B := B) (show f + 1 ≤ 4 ^ n from h.2.1)
  have e := h.2.2.2
  omega
/-- some next place out of it is left -/
theorem NOut.some {B : Box} {n f e : Nat} (h : NOut B n f e) (he : e < 4 ^ n) : f - Cb B n f < 4 ^ n - sh B 0 0 (2 ^ n) := by
  have ho : ¬ In B n e := by
    rcases h.2.2.2 with z | z
    · omega
    · exact z
  have a := Cb_out ho
  have b := out_mono B n (show e + 1 ≤ 4 ^ n from he)
  rw [full_area] at b
  have c := h.2.2.1
  have d := Cb_le_self B n e
  omega
/-- the place behind the stretch is one, where the box is met again -/
theorem NOut.there {B : Box} {n f e g : Nat} (h : NOut B n f e) (hg : NIn B n e g) : e < 4 ^ n ∧ ¬ In B n e := by
  have a := hg.1
  have b := hg.2.1
  refine ⟨by omega, ?_⟩
  rcases h.2.2.2 with z | z
  · omega
  · exact z
theorem Chain.next {B : Box} {n : Nat} : ∀ {ps : List (Nat × Nat)} {c d f : Nat}, Chain B n c ps d → NIn B n d f → ∃ g, NIn B n c g ∧ (ps = [] → g = f ∧ c = d) ∧ ∀ p r, ps = p :: r → g = p.1
  | [], c, d, f, h, hf => by
    have h' : c = d := h
    subst h'
    exact ⟨f, hf, fun _ => ⟨rfl, rfl⟩, (fun _ _ q => nomatch q)⟩
  | p :: ps, c, d, f, h, hf => ⟨p.1, h.1, (fun q => nomatch q), fun p' r q => by
    rw [List.cons.injEq] at q
    rw [q.1]⟩
/-- one behind another, with a place between them -/
theorem Chain.sep {B : Box} {n : Nat} : ∀ {ps : List (Nat × Nat)} {c d : Nat}, Chain B n c ps d → ∀ (i : Nat) (p q : Nat × Nat), ps[i]? = some p → ps[i + 1]? = some q → p.2 + 2 ≤ q.1
  | [], _, _, _, i, p, q, h1, _ => by simp at h1
  | [a], _, _, _, i, p, q, _, h2 => by simp at h2
  | a :: b :: ps, c, d, h, 0, p, q, h1, h2 => by
    have e1 : a = p := by simpa using h1
    have e2 : b = q := by simpa using h2
    subst e1 e2
    have x := h.2.2.1
    obtain ⟨y, z⟩ := h.2.1.there x
    have w := x.1
    have v : b.1 ≠ a.2 + 1 := fun e => z (e ▸ x.2.2.1)
    omega
  | a :: b :: ps, c, d, h, i + 1, p, q, h1, h2 => Chain.sep h.2.2 i p q (by simpa using h1) (by simpa using h2)
theorem NOut.of_none {B : Box} {n f : Nat} (hf : f < 4 ^ n) (h : f - Cb B n f = 4 ^ n - sh B 0 0 (2 ^ n)) : NOut B n f (4 ^ n) :=
  ⟨hf, Nat.le_refl _, by rw [full_area]; exact h.symm, .inl rfl⟩
theorem NOut.of_some {B : Box} {n f r : Nat} (hi : In B n f) (h1 : f ≤ r) (h2 : r < 4 ^ n) (h3 : inb B (cx n r) (cy n r) = false) (h4 : r - Cb B n r = f - Cb B n f) : NOut B n f r := by
  have ho : ¬ In B n r := fun z => by
    unfold In at z
    rw [h3] at z
    exact Bool.false_ne_true z
  have hne : f ≠ r := fun e => ho (e ▸ hi)
  exact ⟨by omega, Nat.le_of_lt h2, h4, .inr ho⟩
end Fw

/-! Readings, step by step: each rule takes one word of a reading off the goal. -/
namespace Fw
open PySem PySem.Spec PyProof.Rows L2
def bI (b : Bool) : Int := if b then 1 else 0
/-- what follows, for every value v behind every heap that keeps what was tracked -/
def RV (v : V) (H : Hp) (Q : VK) : Prop := ∀ H', Same H H' → Q v H'
/-- what follows, for a new tuple xs -/
def RT (xs : List V) (H : Hp) (Q : VK) : Prop := ∀ a H', H a = none → Same H H' → H' a = some (.tup xs) → Q (.ref a) H'
def NT (Q : VK) (H : Hp) (xs : List V) : Prop := xs.length ≤ sizeLine ∧ ∀ p, H p = none → Q (.ref p) (upd H p (.tup xs))
def NL (Q : VK) (H : Hp) (xs : List V) : Prop := xs.length ≤ sizeLine ∧ ∀ p, H p = none → Q (.ref p) (upd H p (.lst xs))
theorem same_upd {H : Hp} {p : Addr} {o : HO} (h : H p = none) : Same H (upd H p o) := fun b x e => by
  rw [upd_ne (ne_of_none e h)]
  exact e
section
variable {D : Ends} {σ : L2.St} {H : Hp} {t u : TS} {te ta tb tc : TE} {tt t1 t2 : TT} {g : TG} {tA tr : TA} {v x y : V} {Q : VK} {QB : Bool → Hp → Prop} {QL : List V → Hp → Prop} {QS : L2.St → Hp → Prop} {r : R2} {i j : Int} {A B : Prop}
theorem r_seq (h : t { D with nx := u D } σ H) : tSeq t u D σ H := h
theorem r_next (h : D.nx σ H) : tNext D σ H := h
theorem r_asg (h : te σ H fun x H1 => g x σ H1 D.nx) : tAsg te g D σ H := h
theorem r_name {k : Nat} (h : QS (σ.set k (some v)) H) : gName k v σ H QS := h
theorem r_var {k : Nat} (e : σ[k]? = some (some v)) (h : Q v H) : tVar k σ H Q := ⟨v, e, h⟩
theorem r_c (h : Q v H) : tC v σ H Q := h
theorem r_op (h : ta σ H fun x H1 => tb σ H1 fun y H2 => r x y H2 Q) : tOp r ta tb σ H Q := h
theorem r_un {ru : V → Hp → VK → Prop} (h : ta σ H fun x H1 => ru x H1 Q) : tUn ru ta σ H Q := h
theorem r_I0 {f : Int → Int → V} (h : Q (f i j) H) : rI0 f (.int i) (.int j) H Q := ⟨i, j, rfl, rfl, h⟩
theorem r_I {C : Int → Int → Prop} {f : Int → Int → V} (c : C i j) (h : Q (f i j) H) : rI C f (.int i) (.int j) H Q := ⟨i, j, rfl, rfl, c, h⟩
theorem r_U {f : Int → V} (h : Q (f i) H) : rU f (.int i) H Q := ⟨i, rfl, h⟩
theorem r_mod (c : 0 < j) (h : Q (.int (i % j)) H) : rI (fun _ j => 0 < j) (fun i j => .int (i % j)) (.int i) (.int j) H Q := ⟨i, j, rfl, rfl, c, h⟩
theorem r_mul (c : CMul i j) (h : Q (.int (i * j)) H) : rI CMul (fun i j => .int (i * j)) (.int i) (.int j) H Q := ⟨i, j, rfl, rfl, c, h⟩
theorem r_shl (k : Nat) (e : j = (k : Int)) (c : k ≤ 1000000) (b : i.natAbs < 2 ^ 64) (h : Q (.int (i * 2 ^ k)) H) : rI CPow (fun i j => .int (i * 2 ^ j.toNat)) (.int i) (.int j) H Q := by
  subst e
  exact ⟨i, k, rfl, rfl, ⟨by omega, by omega, b⟩, show Q (.int (i * 2 ^ ((k : Int)).toNat)) H by rw [Int.toNat_natCast]; exact h⟩
theorem r_shr (k : Nat) (e : j = (k : Int)) (h : Q (.int (i / 2 ^ k)) H) : rI (fun _ j => 0 ≤ j) (fun i j => .int (i / 2 ^ j.toNat)) (.int i) (.int j) H Q := by
  subst e
  exact ⟨i, k, rfl, rfl, Int.natCast_nonneg _, show Q (.int (i / 2 ^ ((k : Int)).toNat)) H by rw [Int.toNat_natCast]; exact h⟩
theorem r_div (c : 0 < j) (b : j < 2 ^ 200) (h : Q (.int (i / j)) H) : rI CDivW (fun i j => .int (i / j)) (.int i) (.int j) H Q :=
  ⟨i, j, rfl, rfl, wide_div (b := 200) c (by omega) (by decide) (by decide), h⟩
theorem r_eqI (h : Q (.bl (decide (i = j))) H) : rEq (.int i) (.int j) H Q := ⟨rfl, by
  have e : decide (V.int i = V.int j) = decide (i = j) := decide_eq_decide.mpr (by rw [V.int.injEq])
  rw [e]; exact h⟩
theorem r_neI (h : Q (.bl (!decide (i = j))) H) : rNe (.int i) (.int j) H Q := ⟨rfl, by
  have e : decide (V.int i = V.int j) = decide (i = j) := decide_eq_decide.mpr (by rw [V.int.injEq])
  rw [e]; exact h⟩
theorem r_neB {a b : Bool} (h : Q (.bl (!decide (a = b))) H) : rNe (.bl a) (.bl b) H Q := ⟨rfl, by
  have e : decide (V.bl a = V.bl b) = decide (a = b) := decide_eq_decide.mpr (by rw [V.bl.injEq])
  rw [e]; exact h⟩
theorem r_eqS {a b : Str} (h : Q (.bl (decide (a = b))) H) : rEq (.str a) (.str b) H Q := ⟨rfl, by
  have e : decide (V.str a = V.str b) = decide (a = b) := decide_eq_decide.mpr (by rw [V.str.injEq])
  rw [e]; exact h⟩
theorem r_ifS (h : tt σ H fun b H1 => if b = true then t D σ H1 else u D σ H1) : tIfS tt t u D σ H := h
theorem r_test (h : te σ H fun x H' => ∃ k, x = .bl k ∧ QB k H') : tTest te σ H QB := h
theorem r_B (h : te σ H fun x H' => ∃ k, x = .bl k ∧ QB k H') : tB te σ H QB := h
theorem r_bl {b : Bool} {R : Bool → Prop} (h : R b) : ∃ k, V.bl b = .bl k ∧ R k := ⟨b, rfl, h⟩
theorem r_and (h : t1 σ H fun c H1 => if c = true then t2 σ H1 QB else QB false H1) : tAnd t1 t2 σ H QB := h
theorem r_or (h : t1 σ H fun c H1 => if c = true then QB true H1 else t2 σ H1 QB) : tOr t1 t2 σ H QB := h
theorem r_not (h : t1 σ H fun c H1 => QB (!c) H1) : tNot t1 σ H QB := h
theorem r_andV (h : ta σ H fun x H1 => ∃ c, x = .bl c ∧ if c = true then tb σ H1 Q else Q (.bl false) H1) : tAndV ta tb σ H Q := h
theorem r_orV (h : ta σ H fun x H1 => ∃ c, x = .bl c ∧ if c = true then Q (.bl true) H1 else tb σ H1 Q) : tOrV ta tb σ H Q := h
theorem r_notV (h : ta σ H fun x H1 => ∃ c, x = .bl c ∧ Q (.bl (!c)) H1) : tNotV ta σ H Q := h
theorem r_chain {r' : R2} (h : ta σ H fun x H1 => tb σ H1 fun y H2 => r x y H2 fun z H3 => ∃ k, z = .bl k ∧ (if k = true then tc σ H3 fun w' H4 => r' y w' H4 Q else Q (.bl false) H3)) : tChain r r' ta tb tc σ H Q := h
theorem r_ret (h : te σ H D.rt) : tRet te D σ H := h
theorem r_drop (h : te σ H fun _ H1 => D.nx σ H1) : tDrop te D σ H := h
theorem r_brk (h : D.bk σ H) : tBreak D σ H := h
theorem r_cont (h : D.ct σ H) : tCont D σ H := h
theorem r_call {sp : Sp} {dvs : List V} {E : XK} (h : tA σ H fun vs H1 => sp (vs ++ dvs) H1 Q E) : tCall sp dvs E tA σ H Q := h
theorem r_callS {sp : Sp} {E : L2.St → XK} (h : tA σ H fun vs H1 => sp vs H1 Q (E σ)) : tCallS sp E tA σ H Q := h
theorem r_cb {rc : List V → Hp → VK → Prop} (h : tA σ H fun vs H1 => rc vs H1 Q) : tCB rc tA σ H Q := h
theorem r_cons (h : ta σ H fun x H1 => tr σ H1 fun xs H2 => QL (x :: xs) H2) : tCons ta tr σ H QL := h
theorem r_nil (h : QL [] H) : tNil σ H QL := h
theorem r_tup (h : tA σ H fun xs H1 => NT Q H1 xs) : tTup tA σ H Q := h
theorem r_lst (h : tA σ H fun xs H1 => NL Q H1 xs) : tLst tA σ H Q := h
theorem r_par {k l : Nat} (h : tA σ H fun vs H1 => ∃ v w, vs = [v, w] ∧ D.nx ((σ.set k (some v)).set l (some w)) H1) : tPar k l tA D σ H := h
theorem r_two {R : V → V → Prop} (h : R x y) : ∃ v w, [x, y] = [v, w] ∧ R v w := ⟨x, y, rfl, h⟩
theorem r_aug {k : Nat} {ti : TIp} (e : σ[k]? = some (some v)) (h : te σ H fun y H1 => ti v y H1 fun z H2 => D.nx (σ.set k (some z)) H2) : tAug k te ti D σ H := ⟨v, e, h⟩
theorem r_ip {f : Int → Int → Int} (h : Q (.int (f i j)) H) : ipI f (.int i) (.int j) H Q := ⟨i, j, rfl, rfl, h⟩
theorem n_tup {xs : List V} (h : ∀ p H', H p = none → Same H H' → H' p = some (.tup xs) → Q (.ref p) H') (hl : Nat.ble xs.length 1000 = true := by rfl) : NT Q H xs :=
  ⟨Nat.le_of_lt (small1000 (Nat.le_of_ble_eq_true hl)), fun p hp => h p _ hp (same_upd hp) upd_same⟩
theorem n_lst {xs : List V} (h : ∀ p H', H p = none → Same H H' → H' p = some (.lst xs) → Q (.ref p) H') (hl : Nat.ble xs.length 1000 = true := by rfl) : NL Q H xs :=
  ⟨Nat.le_of_lt (small1000 (Nat.le_of_ble_eq_true hl)), fun p hp => h p _ hp (same_upd hp) upd_same⟩
theorem r_unp2 {K : PySem.W.Frag} {a : Addr} {k l : Nat} (e : H a = some (.tup [x, y])) (h : QS ((σ.set k (some x)).set l (some y)) H) : gTup K 2 (gCons (gName k) (gCons (gName l) gNil)) (.ref a) σ H QS :=
  ⟨a, [x, y], rfl, .inl (.inl e), rfl, x, [y], rfl, y, [], rfl, rfl, h⟩
theorem r_unp4 {K : PySem.W.Frag} {a : Addr} {k l m n : Nat} {z w : V} (e : H a = some (.tup [x, y, z, w])) (h : QS ((((σ.set k (some x)).set l (some y)).set m (some z)).set n (some w)) H) :
    gTup K 4 (gCons (gName k) (gCons (gName l) (gCons (gName m) (gCons (gName n) gNil)))) (.ref a) σ H QS :=
  ⟨a, [x, y, z, w], rfl, .inl (.inl e), rfl, x, [y, z, w], rfl, y, [z, w], rfl, z, [w], rfl, w, [], rfl, rfl, h⟩
theorem r_ixT {K : PySem.W.Frag} {a : Addr} {xs : List V} (e : H a = some (.tup xs)) (c : atI xs i = some v) (h : Q v H) : rIxT K (.ref a) (.int i) H Q := ⟨a, xs, i, v, rfl, rfl, .inl (.inl e), c, h⟩
theorem r_ixL {K : PySem.W.Frag} {a : Addr} {xs : List V} (e : SqL K H a xs) (c : atI xs i = some v) (h : Q v H) : rIxL K (.ref a) (.int i) H Q := ⟨a, xs, i, v, rfl, rfl, e, c, h⟩
theorem r_bltrue (h : Q (.bl true) H) : Q (.bl true) H := h
theorem rite {b : Bool} (h1 : b = true → A) (h2 : b = false → B) : if b = true then A else B := by
  cases b with
  | true => exact iteT (h1 rfl)
  | false => exact iteF (h2 rfl)
theorem riteD {p : Prop} [Decidable p] (h1 : p → A) (h2 : ¬ p → B) : if decide p = true then A else B :=
  rite (fun e => h1 (of_decide_eq_true e)) (fun e => h2 (of_decide_eq_false e))
theorem riteN {p : Prop} [Decidable p] (h1 : ¬ p → A) (h2 : p → B) : if (!decide p) = true then A else B := by
  by_cases q : p
  · rw [decide_eq_true q]; exact iteF (h2 q)
  · rw [decide_eq_false q]; exact iteT (h1 q)
theorem riteY {p : Prop} [Decidable p] (q : p) (h : A) : if decide p = true then A else B := by rw [decide_eq_true q]; exact iteT h
theorem riteO {p : Prop} [Decidable p] (q : ¬ p) (h : B) : if decide p = true then A else B := by rw [decide_eq_false q]; exact iteF h
theorem riteNY {p : Prop} [Decidable p] (q : ¬ p) (h : A) : if (!decide p) = true then A else B := by rw [decide_eq_false q]; exact iteT h
theorem riteNO {p : Prop} [Decidable p] (q : p) (h : B) : if (!decide p) = true then A else B := by rw [decide_eq_true q]; exact iteF h
theorem r_isi {K : PySem.W.Frag} {c : V} {t u : Value} {b : Bool} (k : ClsV c u) (ty : TyX K H x t) (e : PySem.W.kitOne K t u = some b) (h : Q (.bl b) H) : rIsi K [x, c] H Q := ⟨x, c, t, u, b, rfl, k, ty, e, h⟩
/-- for k in reversed(range(e)): Pv m, m the turns that are left -/
theorem r_rev {j : Nat} (h : te σ H fun x H1 => ∃ n : Nat, x = .int n ∧ n ≤ 1000 ∧ ∃ Pv : Nat → L2.St → Hp → Prop, Pv n σ H1 ∧
      (∀ m σ' H', m < n → Pv (m + 1) σ' H' → t { D with nx := Pv m, ct := Pv m, bk := D.nx } (σ'.set j (some (.int (m : Int)))) H') ∧ (∀ σ' H', Pv 0 σ' H' → D.nx σ' H'))
    (mono : ∀ Q1 Q2 : VK, (∀ v H', Q1 v H' → Q2 v H') → te σ H Q1 → te σ H Q2) : tFor (iRevR (tRg1 te)) (gName j) t D σ H := by
  refine mono _ _ (fun x H1 hx => ?_) h
  obtain ⟨n, rfl, hn, Pv, h0, hs, hd⟩ := hx
  refine ⟨n, rfl, by omega, by omega, by omega, by omega, ?_⟩
  have e0 : ((n : Int) - 0).toNat = n := by omega
  rw [e0]
  refine for_rangeC (lo := 0 + (n : Int) - 1) (c := -1) (n := n) (fun i σ' H' => i ≤ n ∧ Pv (n - i) σ' H') ⟨Nat.zero_le _, h0⟩ (fun i σ' H' hi hp => ?_) (fun σ' H' hp => ?_)
  · have e1 : n - i = (n - (i + 1)) + 1 := by omega
    have e2 : (0 + (n : Int) - 1 + (i : Int) * -1) = ((n - (i + 1) : Nat) : Int) := by omega
    rw [e2]
    have hp2 := hp.2
    rw [e1] at hp2
    have hb := hs (n - (i + 1)) σ' H' (by omega) hp2
    have e3 : (fun σ' H' => i + 1 ≤ n ∧ Pv (n - (i + 1)) σ' H') = Pv (n - (i + 1)) := by
      funext a b
      exact propext ⟨fun z => z.2, fun z => ⟨hi, z⟩⟩
    show t _ _ _
    rw [e3]
    exact hb
  · have z := hp.2
    rw [Nat.sub_self] at z
    exact hd σ' H' z
theorem mono_var {k : Nat} (Q1 Q2 : VK) (f : ∀ v H', Q1 v H' → Q2 v H') (h : tVar k σ H Q1) : tVar k σ H Q2 := let ⟨v, e, q⟩ := h; ⟨v, e, f v H q⟩
end
theorem i2_pos (n : Nat) : (0 : Int) < 2 ^ n := Int.pow_pos (by decide)
theorem i2_lt {n m : Nat} (h : n < m) : (2 : Int) ^ n < 2 ^ m := Int.pow_lt_pow_of_lt (by decide) h
theorem i2_nat (n : Nat) : (2 : Int) ^ n = ((2 ^ n : Nat) : Int) := by rw [Int.natCast_pow]; rfl
theorem i4_nat (n : Nat) : (2 : Int) ^ (2 * n) = ((4 ^ n : Nat) : Int) := by rw [Int.pow_mul, Int.natCast_pow]; rfl
theorem n2_lt {n m : Nat} (h : n < m) : 2 ^ n < 2 ^ m := Nat.pow_lt_pow_right (by decide) h
theorem sq_int (n : Nat) : (2 : Int) ^ n * 2 ^ n = ((4 ^ n : Nat) : Int) := by
  rw [← sq4 n, Int.natCast_mul, Int.natCast_pow]
  rfl
/-- one factor a side of a floor -/
theorem cmul2 {n : Nat} {j : Int} (h : n ≤ 63) : CMul (2 ^ n) j := .inl ⟨by have := i2_pos n; omega, i2_lt (by omega)⟩
theorem abs_div {z d : Int} (hd : 0 < d) : (z / d).natAbs ≤ z.natAbs := by
  rcases Int.le_total 0 z with h | h
  · have a := Int.ediv_nonneg h (Int.le_of_lt hd)
    have b := Int.ediv_le_self d h
    omega
  · have a : z / d ≤ 0 := by
      have : z / d < 1 := (Int.ediv_lt_iff_lt_mul hd).mpr (by omega)
      omega
    have b : z ≤ z / d := (Int.le_ediv_iff_mul_le hd).mpr (by
      have := Int.mul_le_mul_of_nonpos_left h (show (1 : Int) ≤ d by omega)
      omega)
    omega
/-- of at most 2 ^ 20 bits -/
def Big (z : Int) : Prop := Builtin.Int.intBits z ≤ 1048576
theorem Big.div {z d : Int} (h : Big z) (hd : 0 < d) : Big (z / d) :=
  Nat.le_trans (PyProof.Rows.intBits_le (Nat.lt_of_le_of_lt (abs_div hd) (PyProof.Rows.natAbs_lt_pow_bits z))) h
/-- a great int times another of a few hundred bits -/
theorem Big.mul {z j : Int} {k : Nat} (h : Big z) (hj : j.natAbs < 2 ^ k) (hk : k ≤ 1000) : CMulX z j := by
  have hj2 := PyProof.Rows.intBits_le hj
  have h2 : Builtin.Int.intBits z ≤ 1048576 := h
  unfold CMulX
  omega
theorem r_nt {A B : Prop} (h : A) : if (!false) = true then A else B := iteT h
theorem r_nf {A B : Prop} (h : B) : if (!true) = true then A else B := iteF h
theorem r_mulX {i j : Int} {Q : VK} {H : Hp} (c : CMulX i j) (h : Q (.int (i * j)) H) : rI CMulX (fun i j => .int (i * j)) (.int i) (.int j) H Q := ⟨i, j, rfl, rfl, c, h⟩
theorem n4_lt {n m : Nat} (h : n ≤ m) : 4 ^ n ≤ 4 ^ m := Nat.pow_le_pow_right (by decide) h
theorem eqv2 (x y x' y' : Int) : PyData.eqv (.tuple [.int x, .int y]) (.tuple [.int x', .int y']) = decide (x = x' ∧ y = y') := by
  rw [PyData.eqv, PyData.eqvAll, PyData.eqvAll, PyData.eqvAll, PyData.eqv, PyData.eqv]
  by_cases h1 : x = x' <;> by_cases h2 : y = y' <;> simp [h1, h2]
section
variable {σ : L2.St} {H : Hp} {Q : VK} {K : PySem.W.Frag} {a b : Addr} {x y x' y' : Int} {D : Ends} {t : TS} {te : TE}
theorem dp2 (h : H a = some (.tup [.int x, .int y])) : Dp K H (.ref a) (.tuple [.int x, .int y]) := .tup (.inl (.inl h)) (.cons (.int x) (.cons (.int y) .nil))
theorem r_neT (h1 : H a = some (.tup [.int x, .int y])) (h2 : H b = some (.tup [.int x', .int y'])) (h : Q (.bl (!decide (x = x' ∧ y = y'))) H) : rNeD K (.ref a) (.ref b) H Q :=
  ⟨_, _, dp2 h1, dp2 h2, rfl, rfl, by rw [eqv2]; exact h⟩
theorem r_eqT (h1 : H a = some (.tup [.int x, .int y])) (h2 : H b = some (.tup [.int x', .int y'])) (h : Q (.bl (decide (x = x' ∧ y = y'))) H) : rEqD K (.ref a) (.ref b) H Q :=
  ⟨_, _, dp2 h1, dp2 h2, rfl, rfl, by rw [eqv2]; exact h⟩
theorem mono_c {v : V} (Q1 Q2 : VK) (f : ∀ v H', Q1 v H' → Q2 v H') (h : tC v σ H Q1) : tC v σ H Q2 := f _ _ h
/-- for i in range(e): Pv i, i the turns that are done -/
theorem r_rng {j : Nat} (h : te σ H fun x H1 => ∃ n : Nat, x = .int n ∧ n ≤ 100000 ∧ ∃ Pv : Nat → L2.St → Hp → Prop, Pv 0 σ H1 ∧
      (∀ i σ' H', i < n → Pv i σ' H' → t { D with nx := Pv (i + 1), ct := Pv (i + 1), bk := D.nx } (σ'.set j (some (.int (i : Int)))) H') ∧ (∀ σ' H', Pv n σ' H' → D.nx σ' H'))
    (mono : ∀ Q1 Q2 : VK, (∀ v H', Q1 v H' → Q2 v H') → te σ H Q1 → te σ H Q2) : tFor (iRng1 (tCons te tNil)) (gName j) t D σ H := by
  show te σ H _
  refine mono _ _ (fun x H1 hx => ?_) h
  obtain ⟨n, rfl, hn, Pv, h0, hs, hd⟩ := hx
  refine ⟨n, rfl, by omega, by omega, ?_⟩
  rw [Int.toNat_natCast]
  refine for_range (lo := 0) (n := n) Pv h0 (fun i σ' H' hi hp => ?_) hd
  rw [Int.zero_add]
  exact hs i σ' H' hi hp
end
/-- the cells of one fold more, as the document tells them -/
theorem fold_due {n p : Nat} (h : p < 4 ^ n) :
    (((cx (n + 1) (0 * 4 ^ n + p) : Nat) : Int) = (cy n p : Nat) ∧ ((cy (n + 1) (0 * 4 ^ n + p) : Nat) : Int) = (cx n p : Nat)) ∧
    (((cx (n + 1) (1 * 4 ^ n + p) : Nat) : Int) = (cx n p : Nat) ∧ ((cy (n + 1) (1 * 4 ^ n + p) : Nat) : Int) = (cy n p : Nat) + 2 ^ n) ∧
    (((cx (n + 1) (2 * 4 ^ n + p) : Nat) : Int) = (cx n p : Nat) + 2 ^ n ∧ ((cy (n + 1) (2 * 4 ^ n + p) : Nat) : Int) = (cy n p : Nat) + 2 ^ n) ∧
    (((cx (n + 1) (3 * 4 ^ n + p) : Nat) : Int) = 2 * 2 ^ n - 1 - (cy n p : Nat) ∧ ((cy (n + 1) (3 * 4 ^ n + p) : Nat) : Int) = 2 ^ n - 1 - (cx n p : Nat)) := by
  have a := fold0 h
  have b := fold1 h
  have c := fold2 h
  have d := fold3 h
  rw [Nat.zero_mul, Nat.zero_add, i2_nat]
  omega
theorem r_notInL {K : PySem.W.Frag} {x : V} {p : Addr} {xs : List V} {H : Hp} {Q : VK} {b : Bool} (e : H p = some (.lst xs)) (hb : inV x xs = b) (fx : flatV x = true) (fs : xs.all flatV = true) (h : Q (.bl (!b)) H) : rIn K true x (.ref p) H Q :=
  ⟨p, xs, rfl, .inl (.inl (.inl e)), fx, fs, by rw [hb]; exact h⟩
section
variable {D : Ends} {σ : L2.St} {H : Hp} {t : TS} {te tl : TE} {g : TG} {Q : VK} {K : PySem.W.Frag} {x y : V}
/-! ### for over a list, over a tuple -/
def ForL (K : PySem.W.Frag) (g : TG) (tb : TS) (D : Ends) (σ : L2.St) (x : V) (H1 : Hp) : Prop := ∃ a, x = .ref a ∧ (∃ xs, SqL K H1 a xs) ∧ ∃ W : Nat → Nat → L2.St → Hp → Prop, (∃ m, W 0 m σ H1) ∧ ∀ i m σ H, W i m σ H →
  ((Itl K a).stop i H ∧ D.nx σ H) ∨ ((Itl K a).go i H ∧ ∃ N : L2.St → Hp → Prop, (∀ σ' H', N σ' H' → ∃ m', m' < m ∧ W (i + 1) m' σ' H') ∧ ∀ x H', (Itl K a).yld i H x H' → g x σ H' fun σ2 H2 => tb { D with nx := N, ct := N, bk := D.nx } σ2 H2)
theorem r_forL (h : tl σ H fun x H1 => ForL K g t D σ x H1) : tFor (iList K tl) g t D σ H := h
theorem n_forL {a : Addr} {xs : List V} {j : Nat} (Pv : Nat → L2.St → Hp → Prop) (e : SqL K H a xs) (h0 : Pv 0 σ H) (hl : ∀ i σ' H', Pv i σ' H' → SqL K H' a xs)
    (hs : ∀ i x σ' H', xs[i]? = some x → Pv i σ' H' → t { D with nx := Pv (i + 1), ct := Pv (i + 1), bk := D.nx } (σ'.set j (some x)) H') (hd : ∀ σ' H', Pv xs.length σ' H' → D.nx σ' H') : ForL K (gName j) t D σ (.ref a) H :=
  ⟨a, rfl, ⟨xs, e⟩, for_list Pv h0 (fun i σ' H' _ p => hl i σ' H' p) hs hd⟩
theorem r_sl {r : V → Option Int → Option Int → Hp → VK → Prop} {tl th : TO} (h : te σ H fun x H1 => tl σ H1 fun l H2 => th σ H2 fun u H3 => r x l u H3 Q) : tSl r te tl th σ H Q := h
theorem r_part {QO : Option Int → Hp → Prop} (h : te σ H fun x H1 => ∃ i, x = .int i ∧ QO (some i) H1) : tPart te σ H QO := h
theorem r_nopart {QO : Option Int → Hp → Prop} (h : QO none H) : tNoPart σ H QO := h
theorem r_some {i : Int} {R : Int → Prop} (h : R i) : ∃ k, V.int i = .int k ∧ R k := ⟨i, rfl, h⟩
theorem r_slL {a : Addr} {xs : List V} {lo hi : Option Int} (e : SqL K H a xs) (h : ∀ p H', H p = none → Same H H' → H' p = some (.lst (cutV xs lo hi)) → Q (.ref p) H') : rSlL K (.ref a) lo hi H Q :=
  ⟨a, xs, rfl, e, fun p hp => h p _ hp (same_upd hp) upd_same⟩
theorem mem_cut {xs : List V} {lo hi : Option Int} {x : V} {i : Nat} (h : (cutV xs lo hi)[i]? = some x) : x ∈ xs :=
  List.mem_of_mem_drop (List.mem_of_mem_take (List.mem_of_getElem? h))
theorem int_of_cut {ns : List Int} {lo hi : Option Int} {x : V} {i : Nat} (h : (cutV (ns.map V.int) lo hi)[i]? = some x) : ∃ z ∈ ns, x = .int z := by
  obtain ⟨z, hz, e⟩ := List.mem_map.mp (mem_cut h)
  exact ⟨z, hz, e.symm⟩
/-! ### [e for x in t], no test -/
theorem mono_lc {D' : Addr} {H1 : Hp} {xs ys : List V} {j : Nat} {vs : List Nat} (hl : ys.length = xs.length) (hz : xs.length ≤ 1000) (hw : ∀ x, wipe ((wipe σ vs).set j (some x)) vs = wipe σ vs)
    (he : ∀ (i : Nat) (x y : V) (H2 : Hp), xs[i]? = some x → ys[i]? = some y → Same H1 H2 → ∀ Q' : VK, (∀ H3, Same H2 H3 → Q' y H3) → te ((wipe σ vs).set j (some x)) H2 Q') (nD : H1 D' = none) :
    let Pv : Nat → Hp → Prop := fun i H2 => Same H1 H2 ∧ H2 D' = some (.lst (ys.take i))
    Pv 0 (upd H1 D' (.lst [])) ∧ ∀ (i : Nat) (x : V) (H2 : Hp), xs[i]? = some x → Pv i H2 → gName j x (wipe σ vs) H2 fun σ2 H3 => wipe σ2 vs = wipe σ vs ∧ tYes σ2 H3 fun b H4 => if b = true then te σ2 H4 fun y H5 => ∃ acc, H5 D' = some (.lst acc) ∧ acc.length < sizeLine ∧ Pv (i + 1) (upd H5 D' (.lst (acc ++ [y]))) else Pv (i + 1) H4 := by
  intro Pv
  refine ⟨⟨same_upd nD, ?_⟩, fun i x H2 hi hp => ⟨hw x, ?_⟩⟩
  · rw [upd_same, List.take_zero]
  · have hlt : i < ys.length := by rw [hl]; exact (List.getElem?_eq_some_iff.mp hi).1
    show if true = true then te ((wipe σ vs).set j (some x)) H2 (fun y H5 => ∃ acc, H5 D' = some (.lst acc) ∧ acc.length < sizeLine ∧ Pv (i + 1) (upd H5 D' (.lst (acc ++ [y])))) else Pv (i + 1) H2
    refine iteT ?_
    refine he i x ys[i] H2 hi (List.getElem?_eq_getElem hlt) hp.1 _ fun H3 s3 => ⟨ys.take i, s3 _ _ hp.2, ?_, ?_, ?_⟩
    · rw [List.length_take]
      exact small1000 (by omega)
    · intro b o e
      rw [upd_ne (ne_of_none e nD)]
      exact s3 _ _ (hp.1 _ _ e)
    · rw [upd_same, List.take_add_one, List.getElem?_eq_getElem hlt]
      rfl
def LcT (K : PySem.W.Frag) (g : TG) (te : TE) (vs : List Nat) (σ : L2.St) (Q : VK) (x : V) (H1 : Hp) : Prop := ∃ a, x = .ref a ∧ (∃ xs, SqT K H1 a xs) ∧ ∀ D, H1 D = none → ∃ W : Nat → Nat → Hp → Prop, (∃ m, W 0 m (upd H1 D (.lst []))) ∧ ∀ i m H, W i m H →
  ((Itt K a).stop i H ∧ Q (.ref D) H) ∨ ((Itt K a).go i H ∧ ∃ Nx : Hp → Prop, (∀ H', Nx H' → ∃ m', m' < m ∧ W (i + 1) m' H') ∧ ∀ x H', (Itt K a).yld i H x H' → g x (wipe σ vs) H' fun σ2 H2 => wipe σ2 vs = wipe σ vs ∧ tYes σ2 H2 fun b H3 =>
    if b = true then te σ2 H3 fun y H4 => ∃ acc, H4 D = some (.lst acc) ∧ acc.length < sizeLine ∧ Nx (upd H4 D (.lst (acc ++ [y]))) else Nx H3)
theorem r_lcT {vs : List Nat} (h : tl σ H fun x H1 => LcT K g te vs σ Q x H1) : tLc (iTup K tl) g tYes te vs σ H Q := h
theorem n_lcT {a : Addr} {xs : List V} {j : Nat} {vs : List Nat} (ys : List V) (e : H a = some (.tup xs)) (hl : ys.length = xs.length) (hz : xs.length ≤ 1000) (hw : ∀ x, wipe ((wipe σ vs).set j (some x)) vs = wipe σ vs)
    (he : ∀ (i : Nat) (x y : V) (H2 : Hp), xs[i]? = some x → ys[i]? = some y → Same H H2 → ∀ Q' : VK, (∀ H3, Same H2 H3 → Q' y H3) → te ((wipe σ vs).set j (some x)) H2 Q')
    (hd : ∀ D H2, H D = none → Same H H2 → H2 D = some (.lst ys) → Q (.ref D) H2) : LcT K (gName j) te vs σ Q (.ref a) H :=
  ⟨a, rfl, ⟨xs, .inl (.inl e)⟩, fun D nD => by
    obtain ⟨h0, hs⟩ := mono_lc (te := te) (σ := σ) (vs := vs) (j := j) hl hz hw he nD
    exact lc_tup (fun i H2 => Same H H2 ∧ H2 D = some (.lst (ys.take i))) h0 (fun i H2 _ p => .inl (.inl (p.1 _ _ e))) hs fun H2 p => hd D H2 nD p.1 (by rw [← hl, List.take_length] at p; exact p.2)⟩
def LcL (K : PySem.W.Frag) (g : TG) (te : TE) (vs : List Nat) (σ : L2.St) (Q : VK) (x : V) (H1 : Hp) : Prop := ∃ a, x = .ref a ∧ (∃ xs, SqL K H1 a xs) ∧ ∀ D, H1 D = none → ∃ W : Nat → Nat → Hp → Prop, (∃ m, W 0 m (upd H1 D (.lst []))) ∧ ∀ i m H, W i m H →
  ((Itl K a).stop i H ∧ Q (.ref D) H) ∨ ((Itl K a).go i H ∧ ∃ Nx : Hp → Prop, (∀ H', Nx H' → ∃ m', m' < m ∧ W (i + 1) m' H') ∧ ∀ x H', (Itl K a).yld i H x H' → g x (wipe σ vs) H' fun σ2 H2 => wipe σ2 vs = wipe σ vs ∧ tYes σ2 H2 fun b H3 =>
    if b = true then te σ2 H3 fun y H4 => ∃ acc, H4 D = some (.lst acc) ∧ acc.length < sizeLine ∧ Nx (upd H4 D (.lst (acc ++ [y]))) else Nx H3)
theorem r_lcL {vs : List Nat} (h : tl σ H fun x H1 => LcL K g te vs σ Q x H1) : tLc (iList K tl) g tYes te vs σ H Q := h
theorem n_lcL {a : Addr} {xs : List V} {j : Nat} {vs : List Nat} (ys : List V) (e : H a = some (.lst xs)) (hl : ys.length = xs.length) (hz : xs.length ≤ 1000) (hw : ∀ x, wipe ((wipe σ vs).set j (some x)) vs = wipe σ vs)
    (he : ∀ (i : Nat) (x y : V) (H2 : Hp), xs[i]? = some x → ys[i]? = some y → Same H H2 → ∀ Q' : VK, (∀ H3, Same H2 H3 → Q' y H3) → te ((wipe σ vs).set j (some x)) H2 Q')
    (hd : ∀ D H2, H D = none → Same H H2 → H2 D = some (.lst ys) → Q (.ref D) H2) : LcL K (gName j) te vs σ Q (.ref a) H :=
  ⟨a, rfl, ⟨xs, .inl (.inl e)⟩, fun D nD => by
    obtain ⟨h0, hs⟩ := mono_lc (te := te) (σ := σ) (vs := vs) (j := j) hl hz hw he nD
    exact lc_list (fun i H2 => Same H H2 ∧ H2 D = some (.lst (ys.take i))) h0 (fun i H2 _ p => .inl (.inl (p.1 _ _ e))) hs fun H2 p => hd D H2 nD p.1 (by rw [← hl, List.take_length] at p; exact p.2)⟩
theorem r_all {D' : Addr} {bs : List Bool} (e : H D' = some (.lst (bs.map V.bl))) (h : Q (.bl (bs.all id)) H) : rAll K [.ref D'] H Q := ⟨D', bs, rfl, .inl (.inl e), h⟩
theorem r_any {D' : Addr} {bs : List Bool} (e : H D' = some (.lst (bs.map V.bl))) (h : Q (.bl (bs.any id)) H) : rAny K [.ref D'] H Q := ⟨D', bs, rfl, .inl (.inl e), h⟩
end
theorem cmul_pow {a b : Nat} {i j : Int} (hi : i.natAbs < 2 ^ a) (hj : j.natAbs < 2 ^ b) (h : a + b ≤ 1000) : CMulX i j := mulx_ok hi hj (by omega)
theorem four_lt {n : Nat} (h : n ≤ 60) : 4 ^ n < 2 ^ 121 := Nat.lt_of_le_of_lt (n4_lt h) (by decide)
theorem and3 (i : Int) : Builtin.bitAnd i 3 = i % 4 := by
  have := PySem.W.kbt_mask i 2
  simpa using this
theorem dig_int (p k : Nat) : Builtin.bitAnd ((p : Int) / 2 ^ (2 * k)) 3 = ((p / 4 ^ k % 4 : Nat) : Int) := by
  rw [and3, i4_nat]
  omega
theorem qx_abs {d : Nat} (s t : Bool) (h : d < 4) : ((qx d s t : Nat) : Int).natAbs < 2 ^ 64 := by
  rw [Int.natAbs_natCast]
  exact Nat.lt_of_le_of_lt (qx_le s t h) (by decide)
theorem qy_abs {d : Nat} (s t : Bool) (h : d < 4) : ((qy d s t : Nat) : Int).natAbs < 2 ^ 64 := by
  rw [Int.natAbs_natCast]
  exact Nat.lt_of_le_of_lt (qy_le s t h) (by decide)
theorem two_le {n : Nat} (h : n ≤ 60) : 2 ^ n ≤ 2 ^ 60 := Nat.pow_le_pow_right (by decide) h
section
variable {D : Ends} {σ : L2.St} {H : Hp} {t : TS} {te to : TE} {tA : TA} {g : TG} {Q : VK} {K : PySem.W.Frag} {x y : V}
theorem r_callSD {sp : Sp} {dvs : List V} {E : L2.St → XK} (h : tA σ H fun vs H1 => sp (vs ++ dvs) H1 Q (E σ)) : tCallSD sp dvs E tA σ H Q := h
theorem r_bm {T : String} {r : V → List V → Hp → VK → Prop} (h : to σ H fun x H1 => tyV K T x H1 ∧ tA σ H1 fun xs H2 => r x xs H2 Q) : tBM K T r to tA σ H Q := h
/-! ### for over a range, by values -/
def ForR (g : TG) (tb : TS) (D : Ends) (σ : L2.St) (vs : List V) (H1 : Hp) : Prop := ∃ j : Int, vs = [.int j] ∧ -(2 ^ 62) ≤ j ∧ j < 2 ^ 62 ∧ ∃ W : Nat → Nat → L2.St → Hp → Prop, (∃ m, W 0 m σ H1) ∧ ∀ i m σ H, W i m σ H →
  ((Itr 0 j.toNat).stop i H ∧ D.nx σ H) ∨ ((Itr 0 j.toNat).go i H ∧ ∃ N : L2.St → Hp → Prop, (∀ σ' H', N σ' H' → ∃ m', m' < m ∧ W (i + 1) m' σ' H') ∧ ∀ x H', (Itr 0 j.toNat).yld i H x H' → g x σ H' fun σ2 H2 => tb { D with nx := N, ct := N, bk := D.nx } σ2 H2)
theorem r_forR (h : tA σ H fun vs H1 => ForR g t D σ vs H1) : tFor (iRng1 tA) g t D σ H := h
theorem n_forR {j : Nat} {z : Int} (n : Nat) (Pv : Nat → L2.St → Hp → Prop) (e : z = (n : Int)) (hn : n ≤ 100000) (h0 : Pv 0 σ H)
    (hs : ∀ i σ' H', i < n → Pv i σ' H' → t { D with nx := Pv (i + 1), ct := Pv (i + 1), bk := D.nx } (σ'.set j (some (.int (i : Int)))) H') (hd : ∀ σ' H', Pv n σ' H' → D.nx σ' H') : ForR (gName j) t D σ [.int z] H := by
  subst e
  refine ⟨n, rfl, by omega, by omega, ?_⟩
  rw [Int.toNat_natCast]
  refine for_range (lo := 0) (n := n) Pv h0 (fun i σ' H' hi hp => ?_) hd
  rw [Int.zero_add]
  exact hs i σ' H' hi hp
/-! ### while -/
theorem n_while {tc : TT} (W : Nat → L2.St → Hp → Prop) (m0 : Nat) (h0 : W m0 σ H)
    (hs : ∀ m σ' H', W m σ' H' → tc σ' H' fun b H1 => if b = true then ∃ N : L2.St → Hp → Prop, (∀ σ2 H2, N σ2 H2 → ∃ m', m' < m ∧ W m' σ2 H2) ∧ t { D with nx := N, ct := N, bk := D.nx } σ' H1 else D.nx σ' H1) : tWhile tc t D σ H := ⟨W, ⟨m0, h0⟩, hs⟩
end
/-! ### a list of pairs of places -/
def Prs (H : Hp) (L : Addr) (ps : List (Nat × Nat)) : Prop := ∃ ts : List Addr, H L = some (.lst (ts.map V.ref)) ∧ ts.length = ps.length ∧ ∀ (i : Nat) (t : Addr) (p : Nat × Nat), ts[i]? = some t → ps[i]? = some p → H t = some (.tup [.int (p.1 : Nat), .int (p.2 : Nat)])
theorem Prs.same {H H' : Hp} {L : Addr} {ps : List (Nat × Nat)} (h : Prs H L ps) (s : Same H H') : Prs H' L ps := by
  obtain ⟨ts, e, l, f⟩ := h
  exact ⟨ts, s _ _ e, l, fun i t p a b => s _ _ (f i t p a b)⟩
theorem Prs.nil {H : Hp} {L : Addr} (e : H L = some (.lst [])) : Prs H L [] := ⟨[], e, rfl, fun i t p a _ => by simp at a⟩
theorem Prs.snoc {H : Hp} {L t : Addr} {ps : List (Nat × Nat)} {ts : List Addr} {p : Nat × Nat} (e : H L = some (.lst (ts.map V.ref))) (l : ts.length = ps.length)
    (f : ∀ (i : Nat) (t : Addr) (p : Nat × Nat), ts[i]? = some t → ps[i]? = some p → H t = some (.tup [.int (p.1 : Nat), .int (p.2 : Nat)])) (ht : H t = some (.tup [.int (p.1 : Nat), .int (p.2 : Nat)])) :
    Prs (upd H L (.lst (ts.map V.ref ++ [.ref t]))) L (ps ++ [p]) := by
  refine ⟨ts ++ [t], ?_, ?_, fun i t' p' a b => ?_⟩
  · rw [upd_same, List.map_append]
    rfl
  · rw [List.length_append, List.length_append, l]
    rfl
  · by_cases hi : i < ts.length
    · rw [List.getElem?_append_left hi] at a
      rw [List.getElem?_append_left (by omega)] at b
      have z := f i t' p' a b
      rw [upd_ne (ne_of z e (fun q => nomatch q))]
      exact z
    · rw [List.getElem?_append_right (by omega)] at a
      rw [List.getElem?_append_right (by omega)] at b
      have h0 : i - ts.length = 0 := by
        obtain ⟨q, _⟩ := List.getElem?_eq_some_iff.mp a
        have q' : i - ts.length < 1 := q
        omega
      rw [h0] at a
      rw [← l, h0] at b
      have e1 : t = t' := Option.some.inj a
      have e2 : p = p' := Option.some.inj b
      rw [← e1, ← e2, upd_ne (ne_of ht e (fun q => nomatch q))]
      exact ht
theorem same_app {H H' : Hp} {L : Addr} {o : HO} (s : Same H H') (n : H L = none) : Same H (upd H' L o) := fun x u e => by
  rw [upd_ne (ne_of_none e n)]
  exact s x u e
/-- an error of the class at S is what «except S» names -/
theorem exm_self {K : PySem.W.Frag} {S : Addr} (h1 : PySem.W.subIn K (.ref S) (.type "BaseException") = some true) (h2 : PySem.W.isClsIn K S = true) (h3 : PySem.W.typeIn K (.ref S) = some (.type "type")) (h4 : PySem.W.subIn K (.ref S) (.ref S) = some true) :
    PySem.W.exmOne K (.ref S) (.ref S) = some true := by
  have e1 : (PySem.W.subIn K (.ref S) (.type "BaseException") == some true) = true := by rw [h1] <;> rfl
  have e2 : ((PySem.W.clsIn K S).isSome && PySem.W.typeIn K (.ref S) == some (.type "type")) = true := by
    have h2' : (PySem.W.clsIn K S).isSome = true := h2
    rw [h2', h3] <;> rfl
  show (if (PySem.W.subIn K (.ref S) (.type "BaseException") == some true) = true then (if ((PySem.W.clsIn K S).isSome && PySem.W.typeIn K (.ref S) == some (.type "type")) = true then PySem.W.subIn K (.ref S) (.ref S) else none) else none) = some true
  rw [if_pos e1, if_pos e2]
  exact h4
theorem binds_nil {K : PySem.W.Frag} {fd : FuncData} {ps : List Str} {xs : List V} (h : ∃ ds, Vals xs ds ∧ Binds K fd ps ds) (e : xs = [] := by rfl) : Binds K fd ps [] := by
  obtain ⟨ds, v, b⟩ := h
  subst e
  cases v
  exact b
/-- what is wanted of an error of the class at C, behind every heap that keeps what was tracked -/
def RE (H : Hp) (E : XK) (C : Addr) : Prop := ∀ H', Same H H' → E (.ref C) none H'
end Fw

/-! Errors that are asked by isinstance; lists of truths. -/
namespace Fw
open PySem PySem.Spec PyProof.Rows L2
theorem call_isE2 {X : Cx} {a : Addr} {oe : Obj} {cls : Value} {d : Option Addr} {pn : List (Addr × Obj)} (hz : Zc cls d oe) (hf : ∃ vs, oe.data = .fields vs) :
    CallR (X.suite a ((a, oe) :: pn)) (.builtin "isinstance") (fun xs H Q => ∃ D, cls = .ref D ∧ d = none ∧ ExcC X.K D ∧ rIsE X.K D a xs H Q) := by
  intro pins s σ H xs us Q I r h
  obtain ⟨D, e1, e2, C, h⟩ := h
  subst e1 e2
  exact call_isE C hz hf pins s σ H xs us Q I r h
section
variable {D : Ends} {σ : L2.St} {H : Hp} {t : TS} {te tl : TE} {tA : TA} {g : TG} {Q : VK} {K : PySem.W.Frag} {x y : V}
theorem r_cat {l b : Addr} {xs zs : List V} (e1 : H l = some (.lst xs)) (e2 : H b = some (.lst zs)) (hz : xs.length + zs.length ≤ 1000) (h : ∀ p H', H p = none → Same H H' → H' p = some (.lst (xs ++ zs)) → Q (.ref p) H') : rCat (.ref l) (.ref b) H Q :=
  ⟨l, b, xs, zs, rfl, rfl, e1, e2, Nat.le_of_lt (small1000 hz), fun p hp => h p _ hp (same_upd hp) upd_same⟩
theorem r_rep2 {l : Addr} {xs : List V} (e : H l = some (.lst xs)) (hz : xs.length ≤ 500) (h : ∀ p H', H p = none → Same H H' → H' p = some (.lst (xs ++ xs)) → Q (.ref p) H') : rRep (.ref l) (.int 2) H Q :=
  ⟨l, 2, xs, rfl, rfl, e, by decide, by decide, Nat.le_of_lt (small1000 (by show xs.length * 2 ≤ 1000; omega)), fun p hp => h p _ hp (same_upd hp) (by
    rw [upd_same]
    show some (HO.lst (xs ++ (xs ++ []))) = _
    rw [List.append_nil])⟩
theorem two_sorted {x1 x2 m : Int} {ns : List Int} (hp : ns.Perm [x1, x2]) (hs : ns.Pairwise (· ≤ ·)) (h1 : 0 ≤ x1 ∧ x1 ≤ m) (h2 : 0 ≤ x2 ∧ x2 ≤ m) : ∃ a b, ns = [a, b] ∧ 0 ≤ a ∧ a ≤ b ∧ b ≤ m := by
  have hl := hp.length_eq
  match ns, hl, hp, hs with
  | [a, b], _, hp, hs =>
    have ha : a ∈ [x1, x2] := hp.mem_iff.mp List.mem_cons_self
    have hb : b ∈ [x1, x2] := hp.mem_iff.mp (List.mem_cons_of_mem _ List.mem_cons_self)
    have hab : a ≤ b := (List.pairwise_cons.mp hs).1 b List.mem_cons_self
    simp only [List.mem_cons, List.not_mem_nil, or_false] at ha hb
    refine ⟨a, b, rfl, ?_, hab, ?_⟩
    · rcases ha with rfl | rfl <;> omega
    · rcases hb with rfl | rfl <;> omega
theorem r_sorted2 {l : Addr} {x1 x2 m : Int} (e : H l = some (.lst [.int x1, .int x2])) (h1 : 0 ≤ x1 ∧ x1 ≤ m) (h2 : 0 ≤ x2 ∧ x2 ≤ m)
    (h : ∀ a b p H', 0 ≤ a → a ≤ b → b ≤ m → H p = none → Same H H' → H' p = some (.lst [.int a, .int b]) → Q (.ref p) H') : rSorted K [.ref l] H Q :=
  ⟨l, [x1, x2], rfl, .inl (.inl e), by show 2 < 64; decide, fun ns p hp hs np => by
    obtain ⟨a, b, rfl, g1, g2, g3⟩ := two_sorted hp hs h1 h2
    exact h a b p _ g1 g2 g3 np (same_upd np) upd_same⟩
/-! ### lists of truths -/
theorem dpB : ∀ bs : List Bool, DpAll K H (bs.map V.bl) (bs.map PyData.bool)
  | [] => .nil
  | b :: r => .cons (.bl b) (dpB r)
theorem eqvB : ∀ as bs : List Bool, PyData.eqvAll (as.map PyData.bool) (bs.map PyData.bool) = decide (as = bs)
  | [], [] => rfl
  | [], _ :: _ => by rw [List.map_nil, List.map_cons, PyData.eqvAll]; rfl
  | _ :: _, [] => by rw [List.map_nil, List.map_cons, PyData.eqvAll]; rfl
  | a :: as, b :: bs => by
    rw [List.map_cons, List.map_cons, PyData.eqvAll, eqvB as bs, PyData.eqv]
    by_cases h1 : a = b <;> by_cases h2 : as = bs <;> simp [h1, h2]
theorem r_neLB {a b : Addr} {as bs : List Bool} (h1 : H a = some (.lst (as.map V.bl))) (h2 : H b = some (.lst (bs.map V.bl))) (s1 : SeqAt.shaped (.list (as.map PyData.bool)) = true) (s2 : SeqAt.shaped (.list (bs.map PyData.bool)) = true)
    (h : Q (.bl (!decide (as = bs))) H) : rNeD K (.ref a) (.ref b) H Q :=
  ⟨_, _, .lst (.inl (.inl h1)) (dpB as), .lst (.inl (.inl h2)) (dpB bs), s1, s2, by rw [PyData.eqv, eqvB]; exact h⟩
/-! ### [e for k in range(n)] -/
def LcR (g : TG) (te : TE) (vs : List Nat) (σ : L2.St) (Q : VK) (us : List V) (H1 : Hp) : Prop := ∃ j : Int, us = [.int j] ∧ -(2 ^ 62) ≤ j ∧ j < 2 ^ 62 ∧ ∀ D, H1 D = none → ∃ W : Nat → Nat → Hp → Prop, (∃ m, W 0 m (upd H1 D (.lst []))) ∧ ∀ i m H, W i m H →
  ((Itr 0 j.toNat).stop i H ∧ Q (.ref D) H) ∨ ((Itr 0 j.toNat).go i H ∧ ∃ Nx : Hp → Prop, (∀ H', Nx H' → ∃ m', m' < m ∧ W (i + 1) m' H') ∧ ∀ x H', (Itr 0 j.toNat).yld i H x H' → g x (wipe σ vs) H' fun σ2 H2 => wipe σ2 vs = wipe σ vs ∧ tYes σ2 H2 fun b H3 =>
    if b = true then te σ2 H3 fun y H4 => ∃ acc, H4 D = some (.lst acc) ∧ acc.length < sizeLine ∧ Nx (upd H4 D (.lst (acc ++ [y]))) else Nx H3)
theorem r_lcR {vs : List Nat} (h : tA σ H fun us H1 => LcR g te vs σ Q us H1) : tLc (iRng1 tA) g tYes te vs σ H Q := h
theorem n_lcR {j : Nat} {vs : List Nat} {z : Int} (n : Nat) (ys : List V) (ez : z = (n : Int)) (hl : ys.length = n) (hz : n ≤ 1000) (hw : ∀ x, wipe ((wipe σ vs).set j (some x)) vs = wipe σ vs)
    (he : ∀ (i : Nat) (y : V) (H2 : Hp), i < n → ys[i]? = some y → Same H H2 → ∀ Q' : VK, (∀ H3, Same H2 H3 → Q' y H3) → te ((wipe σ vs).set j (some (.int (i : Int)))) H2 Q')
    (hd : ∀ D H2, H D = none → Same H H2 → H2 D = some (.lst ys) → Q (.ref D) H2) : LcR (gName j) te vs σ Q [.int z] H := by
  subst ez
  refine ⟨n, rfl, by omega, by omega, fun D nD => ?_⟩
  have hx : ∀ (i : Nat) (x : V), ((List.range n).map fun i : Nat => V.int (i : Int))[i]? = some x → i < n ∧ x = .int (i : Int) := fun i x h => by
    have hi := (List.getElem?_eq_some_iff.mp h).1
    rw [List.length_map, List.length_range] at hi
    rw [List.getElem?_map, List.getElem?_range hi] at h
    exact ⟨hi, (Option.some.inj h).symm⟩
  obtain ⟨h0, hs⟩ := mono_lc (te := te) (σ := σ) (vs := vs) (j := j) (xs := (List.range n).map fun i : Nat => V.int (i : Int)) (ys := ys) (D' := D) (H1 := H) (by rw [List.length_map, List.length_range]; exact hl) (by rw [List.length_map, List.length_range]; exact hz) hw
    (fun i x y H2 hx' hy s Q' q' => by
      obtain ⟨hi, rfl⟩ := hx i x hx'
      exact he i y H2 hi hy s Q' q') nD
  rw [Int.toNat_natCast]
  refine lc_range (fun i H2 => Same H H2 ∧ H2 D = some (.lst (ys.take i))) h0 (fun i H2 hi p => ?_) fun H2 p => hd D H2 nD p.1 (by rw [← hl, List.take_length] at p; exact p.2)
  rw [Int.zero_add]
  exact hs i _ H2 (by rw [List.getElem?_map, List.getElem?_range hi]; rfl) p
end
/-- isinstance's answer for two own classes, and for an own class and a built-in one -/
theorem kit_own {K : PySem.W.Frag} {D C : Addr} {b : Bool} (h1 : PySem.W.isClsIn K C = true) (h2 : PySem.W.typeIn K (.ref C) = some (.type "type")) (h3 : PySem.W.subIn K (.ref D) (.ref C) = some b) (h4 : PySem.W.subIn K (.ref C) (.ref C) = some true) :
    PySem.W.kitOne K (.ref D) (.ref C) = some b := by
  unfold PySem.W.kitOne
  by_cases e : (Value.ref D == Value.ref C) = true
  · have e' : D = C := Value.ref.inj (beq_iff_eq.mp e)
    subst e'
    rw [if_pos e]
    rw [h3] at h4
    exact h4.symm
  · rw [if_neg e]
    have e2 : ((PySem.W.clsIn K C).isSome && PySem.W.typeIn K (.ref C) == some (.type "type")) = true := by
      have h1' : (PySem.W.clsIn K C).isSome = true := h1
      rw [h1', h2] <;> rfl
    show (if ((PySem.W.clsIn K C).isSome && PySem.W.typeIn K (.ref C) == some (.type "type")) = true then PySem.W.subIn K (.ref D) (.ref C) else none) = some b
    rw [if_pos e2]
    exact h3
theorem kit_val {K : PySem.W.Frag} {D : Addr} (h : PySem.W.subIn K (.ref D) (.type "ValueError") = some true) : PySem.W.kitOne K (.ref D) (.type "ValueError") = some true := by
  unfold PySem.W.kitOne
  rw [if_neg (by intro z; exact nomatch (beq_iff_eq.mp z))]
  show (if PySem.W.kitMeta "ValueError" = true then PySem.W.subIn K (.ref D) (.type "ValueError") else none) = some true
  rw [if_pos (by decide +kernel)]
  exact h
end Fw

local macro_rules | `(tactic| walk_at "rd") => `(tactic| repeat (first
  | with_reducible refine Fw.r_seq ?_ | with_reducible refine Fw.r_asg ?_ | with_reducible refine Fw.r_name ?_ | ((with_reducible refine' Fw.r_var ?rdh ?_); case rdh => rfl) | with_reducible refine Fw.r_c ?_
  | with_reducible refine Fw.r_op ?_ | with_reducible refine Fw.r_I0 ?_ | ((with_reducible refine Fw.r_mod ?rdh ?_); case rdh => first | decide | omega) | ((with_reducible refine Fw.r_div ?rdh ?rdk ?_); (case rdh => first | decide | omega); (case rdk => first | decide | omega))
  | ((with_reducible refine Fw.r_mul ?rdh ?_); case rdh => first | exact .inl ⟨by decide, by decide⟩ | exact .inr ⟨by decide, by decide⟩ | exact .inl ⟨by omega, by omega⟩ | exact .inr ⟨by omega, by omega⟩)
  | with_reducible refine Fw.r_eqI ?_ | with_reducible refine Fw.r_neI ?_ | with_reducible refine Fw.r_neB ?_ | with_reducible refine Fw.r_eqS ?_
  | with_reducible refine Fw.r_ifS ?_ | with_reducible refine Fw.r_test ?_ | with_reducible refine Fw.r_B ?_ | with_reducible refine Fw.r_bl ?_ | with_reducible refine Fw.r_and ?_ | with_reducible refine Fw.r_or ?_ | with_reducible refine Fw.r_not ?_
  | with_reducible refine Fw.r_andV ?_ | with_reducible refine Fw.r_orV ?_ | with_reducible refine Fw.r_notV ?_ | with_reducible refine Fw.r_chain ?_ | with_reducible refine Fw.r_ret ?_ | with_reducible refine Fw.r_drop ?_
  | with_reducible refine Fw.r_brk ?_ | with_reducible refine Fw.r_cont ?_ | with_reducible refine Fw.r_next ?_
  | with_reducible refine Fw.r_call ?_ | with_reducible refine Fw.r_callS ?_ | with_reducible refine Fw.r_callSD ?_ | with_reducible refine Fw.r_bm ?_ | with_reducible refine Fw.r_cb ?_ | with_reducible refine Fw.r_cons ?_ | with_reducible refine Fw.r_nil ?_ | with_reducible refine Fw.r_tup ?_ | with_reducible refine Fw.r_lst ?_
  | with_reducible refine Fw.r_par ?_ | with_reducible refine Fw.r_two ?_ | ((with_reducible refine' Fw.r_aug ?rdh ?_); case rdh => rfl) | with_reducible refine Fw.r_ip ?_ | with_reducible refine Fw.r_un ?_ | with_reducible refine Fw.r_U ?_
  | with_reducible refine Fw.r_forL ?_ | with_reducible refine Fw.r_sl ?_ | with_reducible refine Fw.r_part ?_ | with_reducible refine Fw.r_nopart ?_ | with_reducible refine Fw.r_some ?_ | with_reducible refine Fw.r_lcT ?_ | with_reducible refine Fw.r_lcL ?_
  | with_reducible refine L2.iteT ?_ | with_reducible refine L2.iteF ?_ | with_reducible refine Fw.r_nt ?_ | with_reducible refine Fw.r_nf ?_))

namespace Fw
open PySem PySem.Spec PyProof.Rows L2
def topS (i : Nat) : Stmt := PySem.Challenge.pw_foldwalk_k08_refused.main.body.getD i (.Pass ⟨0, 0, 0, 0⟩)
abbrev s_side_of : Stmt := topS 11
abbrev s_quarter_at : Stmt := topS 12
abbrev s_turn_at : Stmt := topS 13
abbrev s_folded : Stmt := topS 14
abbrev s_cell_at : Stmt := topS 15
abbrev s_place_of : Stmt := topS 16
abbrev s_way_at : Stmt := topS 17
abbrev s_looked_at : Stmt := topS 19
abbrev s_shared : Stmt := topS 20
abbrev s_counted : Stmt := topS 21
abbrev s_picked : Stmt := topS 22
abbrev s_nth : Stmt := topS 23
abbrev s_next_in : Stmt := topS 26
abbrev s_next_out : Stmt := topS 27
abbrev s_stretches : Stmt := topS 28
abbrev s_square_at : Stmt := topS 30
abbrev s__law_cell_at : Stmt := topS 32
abbrev s__law_folds : Stmt := topS 33
abbrev s__law_far : Stmt := topS 34
abbrev s__law_number : Stmt := topS 35
abbrev s__law_cell : Stmt := topS 36
abbrev s__law_box : Stmt := topS 37
abbrev s__law_asked : Stmt := topS 38
abbrev s__law_classes : Stmt := topS 39
abbrev s__law_first : Stmt := topS 40
abbrev s__law_last : Stmt := topS 41
abbrev s__law_due : Stmt := topS 42
abbrev s_law : Stmt := topS 43
/-- a box as the tuple that tells it -/
abbrev bt (B : Box) : List V := [.int B.l, .int B.o, .int B.r, .int B.h]
/-- what the top has written -/
structure Txt (K : PySem.W.Frag) (mg : Str → Option Value) where
  a_side_of : Addr
  d_side_of : FuncData
  F_side_of : Fun K "side_of" "side_of" s_side_of a_side_of d_side_of
  m_side_of : mg "side_of" = some (.ref a_side_of)
  b_side_of : Binds K d_side_of ["folds"] []
  a_quarter_at : Addr
  d_quarter_at : FuncData
  F_quarter_at : Fun K "quarter_at" "quarter_at" s_quarter_at a_quarter_at d_quarter_at
  m_quarter_at : mg "quarter_at" = some (.ref a_quarter_at)
  b_quarter_at : Binds K d_quarter_at ["turn", "swapped", "turned"] []
  a_turn_at : Addr
  d_turn_at : FuncData
  F_turn_at : Fun K "turn_at" "turn_at" s_turn_at a_turn_at d_turn_at
  m_turn_at : mg "turn_at" = some (.ref a_turn_at)
  b_turn_at : Binds K d_turn_at ["right", "up", "swapped", "turned"] []
  a_folded : Addr
  d_folded : FuncData
  F_folded : Fun K "folded" "folded" s_folded a_folded d_folded
  m_folded : mg "folded" = some (.ref a_folded)
  b_folded : Binds K d_folded ["turn", "swapped", "turned"] []
  a_cell_at : Addr
  d_cell_at : FuncData
  F_cell_at : Fun K "cell_at" "cell_at" s_cell_at a_cell_at d_cell_at
  m_cell_at : mg "cell_at" = some (.ref a_cell_at)
  b_cell_at : Binds K d_cell_at ["folds", "place"] []
  a_place_of : Addr
  d_place_of : FuncData
  F_place_of : Fun K "place_of" "place_of" s_place_of a_place_of d_place_of
  m_place_of : mg "place_of" = some (.ref a_place_of)
  b_place_of : Binds K d_place_of ["folds", "cell"] []
  a_way_at : Addr
  d_way_at : FuncData
  F_way_at : Fun K "way_at" "way_at" s_way_at a_way_at d_way_at
  m_way_at : mg "way_at" = some (.ref a_way_at)
  b_way_at : Binds K d_way_at ["folds", "place"] []
  a_looked_at : Addr
  d_looked_at : FuncData
  F_looked_at : Fun K "looked_at" "looked_at" s_looked_at a_looked_at d_looked_at
  m_looked_at : mg "looked_at" = some (.ref a_looked_at)
  b_looked_at : Binds K d_looked_at ["folds", "box"] []
  a_shared : Addr
  d_shared : FuncData
  F_shared : Fun K "shared" "shared" s_shared a_shared d_shared
  m_shared : mg "shared" = some (.ref a_shared)
  b_shared : Binds K d_shared ["box", "left", "low", "broad"] []
  a_counted : Addr
  d_counted : FuncData
  F_counted : Fun K "counted" "counted" s_counted a_counted d_counted
  m_counted : mg "counted" = some (.ref a_counted)
  b_counted : Binds K d_counted ["folds", "box", "place"] []
  a_picked : Addr
  d_picked : FuncData
  F_picked : Fun K "picked" "picked" s_picked a_picked d_picked
  m_picked : mg "picked" = some (.ref a_picked)
  b_picked : Binds K d_picked ["folds", "box", "number", "inside"] []
  a_nth : Addr
  d_nth : FuncData
  F_nth : Fun K "nth" "nth" s_nth a_nth d_nth
  m_nth : mg "nth" = some (.ref a_nth)
  b_nth : Binds K d_nth ["folds", "box", "number"] []
  a_next_in : Addr
  d_next_in : FuncData
  F_next_in : Fun K "next_in" "next_in" s_next_in a_next_in d_next_in
  m_next_in : mg "next_in" = some (.ref a_next_in)
  b_next_in : Binds K d_next_in ["folds", "box", "place"] []
  a_next_out : Addr
  d_next_out : FuncData
  F_next_out : Fun K "next_out" "next_out" s_next_out a_next_out d_next_out
  m_next_out : mg "next_out" = some (.ref a_next_out)
  b_next_out : Binds K d_next_out ["folds", "box", "place"] []
  a_stretches : Addr
  d_stretches : FuncData
  F_stretches : FunD K "stretches" "stretches" (defArgs s_stretches) (defBody s_stretches) (defScope s_stretches) [.int 16] [] a_stretches d_stretches
  m_stretches : mg "stretches" = some (.ref a_stretches)
  b_stretches : Binds K d_stretches ["folds", "box", "most"] []
  bd_stretches : ∃ ds, Vals [.int 16] ds ∧ Binds K d_stretches ["folds", "box", "most"] ds
  a_square_at : Addr
  d_square_at : FuncData
  F_square_at : Fun K "square_at" "square_at" s_square_at a_square_at d_square_at
  m_square_at : mg "square_at" = some (.ref a_square_at)
  b_square_at : Binds K d_square_at ["folds", "place", "size"] []
  a__law_cell_at : Addr
  d__law_cell_at : FuncData
  F__law_cell_at : Fun K "_law_cell_at" "_law_cell_at" s__law_cell_at a__law_cell_at d__law_cell_at
  m__law_cell_at : mg "_law_cell_at" = some (.ref a__law_cell_at)
  b__law_cell_at : Binds K d__law_cell_at ["_law_script", "_law_k"] []
  a__law_folds : Addr
  d__law_folds : FuncData
  F__law_folds : Fun K "_law_folds" "_law_folds" s__law_folds a__law_folds d__law_folds
  m__law_folds : mg "_law_folds" = some (.ref a__law_folds)
  b__law_folds : Binds K d__law_folds ["_law_cell_here"] []
  a__law_far : Addr
  d__law_far : FuncData
  F__law_far : Fun K "_law_far" "_law_far" s__law_far a__law_far d__law_far
  m__law_far : mg "_law_far" = some (.ref a__law_far)
  b__law_far : Binds K d__law_far ["_law_cell_here"] []
  a__law_number : Addr
  d__law_number : FuncData
  F__law_number : Fun K "_law_number" "_law_number" s__law_number a__law_number d__law_number
  m__law_number : mg "_law_number" = some (.ref a__law_number)
  b__law_number : Binds K d__law_number ["_law_bad", "_law_cell_here", "_law_most"] []
  a__law_cell : Addr
  d__law_cell : FuncData
  F__law_cell : Fun K "_law_cell" "_law_cell" s__law_cell a__law_cell d__law_cell
  m__law_cell : mg "_law_cell" = some (.ref a__law_cell)
  b__law_cell : Binds K d__law_cell ["_law_bad", "_law_one", "_law_two", "_law_side"] []
  a__law_box : Addr
  d__law_box : FuncData
  F__law_box : Fun K "_law_box" "_law_box" s__law_box a__law_box d__law_box
  m__law_box : mg "_law_box" = some (.ref a__law_box)
  b__law_box : Binds K d__law_box ["_law_bad", "_law_cells", "_law_side"] []
  a__law_asked : Addr
  d__law_asked : FuncData
  F__law_asked : Fun K "_law_asked" "_law_asked" s__law_asked a__law_asked d__law_asked
  m__law_asked : mg "_law_asked" = some (.ref a__law_asked)
  b__law_asked : Binds K d__law_asked ["_law_which", "_law_folds_here", "_law_first_here", "_law_last_here"] []
  a__law_classes : Addr
  d__law_classes : FuncData
  F__law_classes : Fun K "_law_classes" "_law_classes" s__law_classes a__law_classes d__law_classes
  m__law_classes : mg "_law_classes" = some (.ref a__law_classes)
  b__law_classes : Binds K d__law_classes ["_law_which", "_law_folds_here", "_law_first_here", "_law_last_here"] []
  a__law_first : Addr
  d__law_first : FuncData
  F__law_first : Fun K "_law_first" "_law_first" s__law_first a__law_first d__law_first
  m__law_first : mg "_law_first" = some (.ref a__law_first)
  b__law_first : Binds K d__law_first ["_law_which", "_law_bad", "_law_one", "_law_two", "_law_folds_here"] []
  a__law_last : Addr
  d__law_last : FuncData
  F__law_last : Fun K "_law_last" "_law_last" s__law_last a__law_last d__law_last
  m__law_last : mg "_law_last" = some (.ref a__law_last)
  b__law_last : Binds K d__law_last ["_law_which", "_law_bad", "_law_cell_here", "_law_first_here", "_law_folds_here"] []
  a__law_due : Addr
  d__law_due : FuncData
  F__law_due : Fun K "_law_due" "_law_due" s__law_due a__law_due d__law_due
  m__law_due : mg "_law_due" = some (.ref a__law_due)
  b__law_due : Binds K d__law_due ["_law_which", "_law_bad"] []
  a_law : Addr
  d_law : FuncData
  F_law : Fun K "law" "law" s_law a_law d_law
  m_law : mg "law" = some (.ref a_law)
  b_law : Binds K d_law ["_law_script"] []
  c_WalkError : Addr
  g_WalkError : mg "WalkError" = some (.ref c_WalkError)
  x_WalkError : PySem.W.excIn K c_WalkError [.type "ValueError", .type "Exception", .type "BaseException", .type "object"] "ValueError.__new__" = true
  k_WalkError : PySem.W.keepIn K (.ref c_WalkError) = true
  r_WalkError : PySem.W.subIn K (.ref c_WalkError) (.type "BaseException") = some true
  t_WalkError : PySem.W.typeIn K (.ref c_WalkError) = some (.type "type")
  i_WalkError : PySem.W.isClsIn K c_WalkError = true
  c_NoFloor : Addr
  g_NoFloor : mg "NoFloor" = some (.ref c_NoFloor)
  x_NoFloor : PySem.W.excIn K c_NoFloor [.type "ValueError", .type "Exception", .type "BaseException", .type "object"] "ValueError.__new__" = true
  k_NoFloor : PySem.W.keepIn K (.ref c_NoFloor) = true
  r_NoFloor : PySem.W.subIn K (.ref c_NoFloor) (.type "BaseException") = some true
  t_NoFloor : PySem.W.typeIn K (.ref c_NoFloor) = some (.type "type")
  i_NoFloor : PySem.W.isClsIn K c_NoFloor = true
  c_NoPlace : Addr
  g_NoPlace : mg "NoPlace" = some (.ref c_NoPlace)
  x_NoPlace : PySem.W.excIn K c_NoPlace [.type "ValueError", .type "Exception", .type "BaseException", .type "object"] "ValueError.__new__" = true
  k_NoPlace : PySem.W.keepIn K (.ref c_NoPlace) = true
  r_NoPlace : PySem.W.subIn K (.ref c_NoPlace) (.type "BaseException") = some true
  t_NoPlace : PySem.W.typeIn K (.ref c_NoPlace) = some (.type "type")
  i_NoPlace : PySem.W.isClsIn K c_NoPlace = true
  c_NoCell : Addr
  g_NoCell : mg "NoCell" = some (.ref c_NoCell)
  x_NoCell : PySem.W.excIn K c_NoCell [.type "ValueError", .type "Exception", .type "BaseException", .type "object"] "ValueError.__new__" = true
  k_NoCell : PySem.W.keepIn K (.ref c_NoCell) = true
  r_NoCell : PySem.W.subIn K (.ref c_NoCell) (.type "BaseException") = some true
  t_NoCell : PySem.W.typeIn K (.ref c_NoCell) = some (.type "type")
  i_NoCell : PySem.W.isClsIn K c_NoCell = true
  c_NoSquare : Addr
  g_NoSquare : mg "NoSquare" = some (.ref c_NoSquare)
  x_NoSquare : PySem.W.excIn K c_NoSquare [.type "ValueError", .type "Exception", .type "BaseException", .type "object"] "ValueError.__new__" = true
  k_NoSquare : PySem.W.keepIn K (.ref c_NoSquare) = true
  r_NoSquare : PySem.W.subIn K (.ref c_NoSquare) (.type "BaseException") = some true
  t_NoSquare : PySem.W.typeIn K (.ref c_NoSquare) = some (.type "type")
  i_NoSquare : PySem.W.isClsIn K c_NoSquare = true
  c_NoBox : Addr
  g_NoBox : mg "NoBox" = some (.ref c_NoBox)
  x_NoBox : PySem.W.excIn K c_NoBox [.type "ValueError", .type "Exception", .type "BaseException", .type "object"] "ValueError.__new__" = true
  k_NoBox : PySem.W.keepIn K (.ref c_NoBox) = true
  r_NoBox : PySem.W.subIn K (.ref c_NoBox) (.type "BaseException") = some true
  t_NoBox : PySem.W.typeIn K (.ref c_NoBox) = some (.type "type")
  i_NoBox : PySem.W.isClsIn K c_NoBox = true
  c_NoNumber : Addr
  g_NoNumber : mg "NoNumber" = some (.ref c_NoNumber)
  x_NoNumber : PySem.W.excIn K c_NoNumber [.type "ValueError", .type "Exception", .type "BaseException", .type "object"] "ValueError.__new__" = true
  k_NoNumber : PySem.W.keepIn K (.ref c_NoNumber) = true
  r_NoNumber : PySem.W.subIn K (.ref c_NoNumber) (.type "BaseException") = some true
  t_NoNumber : PySem.W.typeIn K (.ref c_NoNumber) = some (.type "type")
  i_NoNumber : PySem.W.isClsIn K c_NoNumber = true
  c_TooMany : Addr
  g_TooMany : mg "TooMany" = some (.ref c_TooMany)
  x_TooMany : PySem.W.excIn K c_TooMany [.type "ValueError", .type "Exception", .type "BaseException", .type "object"] "ValueError.__new__" = true
  k_TooMany : PySem.W.keepIn K (.ref c_TooMany) = true
  r_TooMany : PySem.W.subIn K (.ref c_TooMany) (.type "BaseException") = some true
  t_TooMany : PySem.W.typeIn K (.ref c_TooMany) = some (.type "type")
  i_TooMany : PySem.W.isClsIn K c_TooMany = true
  s_NoFloor_WalkError : PySem.W.subIn K (.ref c_NoFloor) (.ref c_WalkError) = some true
  s_NoPlace_WalkError : PySem.W.subIn K (.ref c_NoPlace) (.ref c_WalkError) = some true
  s_NoCell_WalkError : PySem.W.subIn K (.ref c_NoCell) (.ref c_WalkError) = some true
  s_NoSquare_WalkError : PySem.W.subIn K (.ref c_NoSquare) (.ref c_WalkError) = some true
  s_NoBox_WalkError : PySem.W.subIn K (.ref c_NoBox) (.ref c_WalkError) = some true
  s_NoNumber_WalkError : PySem.W.subIn K (.ref c_NoNumber) (.ref c_WalkError) = some true
  s_TooMany_WalkError : PySem.W.subIn K (.ref c_TooMany) (.ref c_WalkError) = some true
  hdW : PySem.W.hasDictIn K c_WalkError = true
  gn : PySem.W.specialIn K (.builtin "object.__class__") "__get__" = some (some (.builtin "getset_descriptor.__get__"))
  gt : PySem.W.takesIn K (.builtin "object.__class__") = some true
  hg_NoFloor : PySem.W.findIn K (.ref c_NoFloor) "__getattribute__" = some (some (.builtin "BaseException.__getattribute__"))
  hk_NoFloor : PySem.W.findIn K (.ref c_NoFloor) "__getattr__" = some none
  hd_NoFloor : PySem.W.hasDictIn K c_NoFloor = true
  ha_NoFloor : PySem.W.findIn K (.ref c_NoFloor) "__class__" = some (some (.builtin "object.__class__"))
  hm_NoFloor : PySem.W.mroIn K c_NoFloor (.type "object") = some true
  kv_NoFloor : PySem.W.subIn K (.ref c_NoFloor) (.type "ValueError") = some true
  kk_NoFloor_NoFloor : PySem.W.subIn K (.ref c_NoFloor) (.ref c_NoFloor) = some true
  kk_NoFloor_NoPlace : PySem.W.subIn K (.ref c_NoFloor) (.ref c_NoPlace) = some false
  kk_NoFloor_NoCell : PySem.W.subIn K (.ref c_NoFloor) (.ref c_NoCell) = some false
  kk_NoFloor_NoSquare : PySem.W.subIn K (.ref c_NoFloor) (.ref c_NoSquare) = some false
  kk_NoFloor_NoBox : PySem.W.subIn K (.ref c_NoFloor) (.ref c_NoBox) = some false
  kk_NoFloor_NoNumber : PySem.W.subIn K (.ref c_NoFloor) (.ref c_NoNumber) = some false
  kk_NoFloor_TooMany : PySem.W.subIn K (.ref c_NoFloor) (.ref c_TooMany) = some false
  hg_NoPlace : PySem.W.findIn K (.ref c_NoPlace) "__getattribute__" = some (some (.builtin "BaseException.__getattribute__"))
  hk_NoPlace : PySem.W.findIn K (.ref c_NoPlace) "__getattr__" = some none
  hd_NoPlace : PySem.W.hasDictIn K c_NoPlace = true
  ha_NoPlace : PySem.W.findIn K (.ref c_NoPlace) "__class__" = some (some (.builtin "object.__class__"))
  hm_NoPlace : PySem.W.mroIn K c_NoPlace (.type "object") = some true
  kv_NoPlace : PySem.W.subIn K (.ref c_NoPlace) (.type "ValueError") = some true
  kk_NoPlace_NoFloor : PySem.W.subIn K (.ref c_NoPlace) (.ref c_NoFloor) = some false
  kk_NoPlace_NoPlace : PySem.W.subIn K (.ref c_NoPlace) (.ref c_NoPlace) = some true
  kk_NoPlace_NoCell : PySem.W.subIn K (.ref c_NoPlace) (.ref c_NoCell) = some false
  kk_NoPlace_NoSquare : PySem.W.subIn K (.ref c_NoPlace) (.ref c_NoSquare) = some false
  kk_NoPlace_NoBox : PySem.W.subIn K (.ref c_NoPlace) (.ref c_NoBox) = some false
  kk_NoPlace_NoNumber : PySem.W.subIn K (.ref c_NoPlace) (.ref c_NoNumber) = some false
  kk_NoPlace_TooMany : PySem.W.subIn K (.ref c_NoPlace) (.ref c_TooMany) = some false
  hg_NoCell : PySem.W.findIn K (.ref c_NoCell) "__getattribute__" = some (some (.builtin "BaseException.__getattribute__"))
  hk_NoCell : PySem.W.findIn K (.ref c_NoCell) "__getattr__" = some none
  hd_NoCell : PySem.W.hasDictIn K c_NoCell = true
  ha_NoCell : PySem.W.findIn K (.ref c_NoCell) "__class__" = some (some (.builtin "object.__class__"))
  hm_NoCell : PySem.W.mroIn K c_NoCell (.type "object") = some true
  kv_NoCell : PySem.W.subIn K (.ref c_NoCell) (.type "ValueError") = some true
  kk_NoCell_NoFloor : PySem.W.subIn K (.ref c_NoCell) (.ref c_NoFloor) = some false
  kk_NoCell_NoPlace : PySem.W.subIn K (.ref c_NoCell) (.ref c_NoPlace) = some false
  kk_NoCell_NoCell : PySem.W.subIn K (.ref c_NoCell) (.ref c_NoCell) = some true
  kk_NoCell_NoSquare : PySem.W.subIn K (.ref c_NoCell) (.ref c_NoSquare) = some false
  kk_NoCell_NoBox : PySem.W.subIn K (.ref c_NoCell) (.ref c_NoBox) = some false
  kk_NoCell_NoNumber : PySem.W.subIn K (.ref c_NoCell) (.ref c_NoNumber) = some false
  kk_NoCell_TooMany : PySem.W.subIn K (.ref c_NoCell) (.ref c_TooMany) = some false
  hg_NoSquare : PySem.W.findIn K (.ref c_NoSquare) "__getattribute__" = some (some (.builtin "BaseException.__getattribute__"))
  hk_NoSquare : PySem.W.findIn K (.ref c_NoSquare) "__getattr__" = some none
  hd_NoSquare : PySem.W.hasDictIn K c_NoSquare = true
  ha_NoSquare : PySem.W.findIn K (.ref c_NoSquare) "__class__" = some (some (.builtin "object.__class__"))
  hm_NoSquare : PySem.W.mroIn K c_NoSquare (.type "object") = some true
  kv_NoSquare : PySem.W.subIn K (.ref c_NoSquare) (.type "ValueError") = some true
  kk_NoSquare_NoFloor : PySem.W.subIn K (.ref c_NoSquare) (.ref c_NoFloor) = some false
  kk_NoSquare_NoPlace : PySem.W.subIn K (.ref c_NoSquare) (.ref c_NoPlace) = some false
  kk_NoSquare_NoCell : PySem.W.subIn K (.ref c_NoSquare) (.ref c_NoCell) = some false
  kk_NoSquare_NoSquare : PySem.W.subIn K (.ref c_NoSquare) (.ref c_NoSquare) = some true
  kk_NoSquare_NoBox : PySem.W.subIn K (.ref c_NoSquare) (.ref c_NoBox) = some false
  kk_NoSquare_NoNumber : PySem.W.subIn K (.ref c_NoSquare) (.ref c_NoNumber) = some false
  kk_NoSquare_TooMany : PySem.W.subIn K (.ref c_NoSquare) (.ref c_TooMany) = some false
  hg_NoBox : PySem.W.findIn K (.ref c_NoBox) "__getattribute__" = some (some (.builtin "BaseException.__getattribute__"))
  hk_NoBox : PySem.W.findIn K (.ref c_NoBox) "__getattr__" = some none
  hd_NoBox : PySem.W.hasDictIn K c_NoBox = true
  ha_NoBox : PySem.W.findIn K (.ref c_NoBox) "__class__" = some (some (.builtin "object.__class__"))
  hm_NoBox : PySem.W.mroIn K c_NoBox (.type "object") = some true
  kv_NoBox : PySem.W.subIn K (.ref c_NoBox) (.type "ValueError") = some true
  kk_NoBox_NoFloor : PySem.W.subIn K (.ref c_NoBox) (.ref c_NoFloor) = some false
  kk_NoBox_NoPlace : PySem.W.subIn K (.ref c_NoBox) (.ref c_NoPlace) = some false
  kk_NoBox_NoCell : PySem.W.subIn K (.ref c_NoBox) (.ref c_NoCell) = some false
  kk_NoBox_NoSquare : PySem.W.subIn K (.ref c_NoBox) (.ref c_NoSquare) = some false
  kk_NoBox_NoBox : PySem.W.subIn K (.ref c_NoBox) (.ref c_NoBox) = some true
  kk_NoBox_NoNumber : PySem.W.subIn K (.ref c_NoBox) (.ref c_NoNumber) = some false
  kk_NoBox_TooMany : PySem.W.subIn K (.ref c_NoBox) (.ref c_TooMany) = some false
  hg_NoNumber : PySem.W.findIn K (.ref c_NoNumber) "__getattribute__" = some (some (.builtin "BaseException.__getattribute__"))
  hk_NoNumber : PySem.W.findIn K (.ref c_NoNumber) "__getattr__" = some none
  hd_NoNumber : PySem.W.hasDictIn K c_NoNumber = true
  ha_NoNumber : PySem.W.findIn K (.ref c_NoNumber) "__class__" = some (some (.builtin "object.__class__"))
  hm_NoNumber : PySem.W.mroIn K c_NoNumber (.type "object") = some true
  kv_NoNumber : PySem.W.subIn K (.ref c_NoNumber) (.type "ValueError") = some true
  kk_NoNumber_NoFloor : PySem.W.subIn K (.ref c_NoNumber) (.ref c_NoFloor) = some false
  kk_NoNumber_NoPlace : PySem.W.subIn K (.ref c_NoNumber) (.ref c_NoPlace) = some false
  kk_NoNumber_NoCell : PySem.W.subIn K (.ref c_NoNumber) (.ref c_NoCell) = some false
  kk_NoNumber_NoSquare : PySem.W.subIn K (.ref c_NoNumber) (.ref c_NoSquare) = some false
  kk_NoNumber_NoBox : PySem.W.subIn K (.ref c_NoNumber) (.ref c_NoBox) = some false
  kk_NoNumber_NoNumber : PySem.W.subIn K (.ref c_NoNumber) (.ref c_NoNumber) = some true
  kk_NoNumber_TooMany : PySem.W.subIn K (.ref c_NoNumber) (.ref c_TooMany) = some false
  hg_TooMany : PySem.W.findIn K (.ref c_TooMany) "__getattribute__" = some (some (.builtin "BaseException.__getattribute__"))
  hk_TooMany : PySem.W.findIn K (.ref c_TooMany) "__getattr__" = some none
  hd_TooMany : PySem.W.hasDictIn K c_TooMany = true
  ha_TooMany : PySem.W.findIn K (.ref c_TooMany) "__class__" = some (some (.builtin "object.__class__"))
  hm_TooMany : PySem.W.mroIn K c_TooMany (.type "object") = some true
  kv_TooMany : PySem.W.subIn K (.ref c_TooMany) (.type "ValueError") = some true
  kk_TooMany_NoFloor : PySem.W.subIn K (.ref c_TooMany) (.ref c_NoFloor) = some false
  kk_TooMany_NoPlace : PySem.W.subIn K (.ref c_TooMany) (.ref c_NoPlace) = some false
  kk_TooMany_NoCell : PySem.W.subIn K (.ref c_TooMany) (.ref c_NoCell) = some false
  kk_TooMany_NoSquare : PySem.W.subIn K (.ref c_TooMany) (.ref c_NoSquare) = some false
  kk_TooMany_NoBox : PySem.W.subIn K (.ref c_TooMany) (.ref c_NoBox) = some false
  kk_TooMany_NoNumber : PySem.W.subIn K (.ref c_TooMany) (.ref c_NoNumber) = some false
  kk_TooMany_TooMany : PySem.W.subIn K (.ref c_TooMany) (.ref c_TooMany) = some true
  g_MOST_FOLDS : ∃ t, mg "MOST_FOLDS" = some (.int 60 t)
  g_MOST_TOLD : ∃ t, mg "MOST_TOLD" = some (.int 100 t)
  n_ValueError : mg "ValueError" = none
  n_int : mg "int" = none
  n_isinstance : mg "isinstance" = none
  n_len : mg "len" = none
  n_max : mg "max" = none
  n_min : mg "min" = none
  n_range : mg "range" = none
  n_reversed : mg "reversed" = none
  n_sorted : mg "sorted" = none
/-- of a size that may be multiplied -/
def Bd (B : Box) : Prop := (-(2 ^ 102) < B.l ∧ B.l < 2 ^ 102) ∧ (-(2 ^ 102) < B.o ∧ B.o < 2 ^ 102) ∧ (-(2 ^ 102) < B.r ∧ B.r < 2 ^ 102) ∧ (-(2 ^ 102) < B.h ∧ B.h < 2 ^ 102)
/-- in its range, below top, or out of it -/
def InOut (b : Bool) (z top : Int) : Prop := (b = false → 0 ≤ z ∧ z < top) ∧ (b = true → z < 0 ∨ top ≤ z)
/-- the first argument, to be handed to the w-th function: in its range, or out of it -/
def First (n : Nat) (v : V) (b : Bool) (H : Hp) (B : Box) : Nat → Prop
  | 0 => ∃ z, v = .int z ∧ InOut b z (4 ^ n : Nat)
  | 1 => ∃ z, v = .int z ∧ InOut b z (((4 ^ n : Nat) : Int) - 1)
  | 2 => ∃ a x y, v = .ref a ∧ H a = some (.tup [.int x, .int y]) ∧ (b = false → 0 ≤ x ∧ x < 2 ^ n ∧ 0 ≤ y ∧ y < 2 ^ n) ∧ (b = true → x < 0 ∨ 2 ^ n ≤ x ∨ y < 0 ∨ 2 ^ n ≤ y)
  | 3 => ∃ z, v = .int z ∧ InOut b z (4 ^ n : Nat)
  | _ => ∃ a, v = .ref a ∧ H a = some (.tup (bt B)) ∧ (b = false → BoxOk B n) ∧ (b = true → ¬ BoxOk B n) ∧ Bd B
/-- the last one -/
def Last (n : Nat) (B : Box) (z : Int) (b : Bool) : Nat → Prop
  | 0 => True
  | 1 => True
  | 2 => True
  | 3 => InOut b z ((n : Int) + 1)
  | 5 => BoxOk B n → InOut b z (sh B 0 0 (2 ^ n) : Nat)
  | 8 => (b = false → z = 0) ∧ (b = true → z < 0 ∨ 100 < z)
  | _ => InOut b z (((4 ^ n : Nat) : Int) + 1)
def due (w : Nat) (b0 b1 b2 : Bool) : Int :=
  if b0 = true then 0 else if b1 = true then (if w = 2 then 2 else if 3 < w then 4 else 1)
  else if b2 = true ∧ 2 < w then (if w = 3 then 3 else if w = 5 ∨ w = 8 then 5 else 1) else if w = 8 then 6 else -1
/-- what is told of the error's classes -/
def told (z : Int) : List Bool := if z = -1 then [] else ((List.range 7).map fun k : Nat => decide ((k : Int) = z)) ++ [true]
structure Args (w n : Nat) (zf : Int) (v1 : V) (z2 : Int) (b0 b1 b2 : Bool) (B : Box) (H : Hp) : Prop where
  hn : n ≤ 60
  f0 : b0 = false → zf = n
  f1 : b0 = true → zf < 0 ∨ 60 < zf
  fst : First n v1 b1 H B w
  lst : Last n B z2 b2 w
theorem First.mono {n : Nat} {v : V} {b : Bool} {H H' : Hp} {B : Box} (s : Same H H') : ∀ {w : Nat}, First n v b H B w → First n v b H' B w
  | 0, h => h
  | 1, h => h
  | 2, ⟨a, x, y, e, k, h⟩ => ⟨a, x, y, e, s _ _ k, h⟩
  | 3, h => h
  | _ + 4, ⟨a, e, k, h⟩ => ⟨a, e, s _ _ k, h⟩
theorem Args.mono {w n : Nat} {zf : Int} {v1 : V} {z2 : Int} {b0 b1 b2 : Bool} {B : Box} {H H' : Hp} (s : Same H H') (h : Args w n zf v1 z2 b0 b1 b2 B H) : Args w n zf v1 z2 b0 b1 b2 B H' := ⟨h.hn, h.f0, h.f1, h.fst.mono s, h.lst⟩
theorem due_cases (w : Nat) (b0 b1 b2 : Bool) : due w b0 b1 b2 = -1 ∨ ∃ i : Nat, i < 7 ∧ due w b0 b1 b2 = (i : Int) := by
  unfold due
  split
  · exact .inr ⟨0, by decide, rfl⟩
  split
  · split
    · exact .inr ⟨2, by decide, rfl⟩
    split
    · exact .inr ⟨4, by decide, rfl⟩
    · exact .inr ⟨1, by decide, rfl⟩
  split
  · split
    · exact .inr ⟨3, by decide, rfl⟩
    split
    · exact .inr ⟨5, by decide, rfl⟩
    · exact .inr ⟨1, by decide, rfl⟩
  split
  · exact .inr ⟨6, by decide, rfl⟩
  · exact .inl rfl
theorem lt7 {i : Nat} (h : i < 7) : i = 0 ∨ i = 1 ∨ i = 2 ∨ i = 3 ∨ i = 4 ∨ i = 5 ∨ i = 6 := by omega
theorem told_shaped {i : Nat} (h : i < 7) : SeqAt.shaped (.list ((told (i : Int)).map PyData.bool)) = true := by
  rcases lt7 h with rfl | rfl | rfl | rfl | rfl | rfl | rfl <;> rfl
theorem told_eq {i : Nat} (h : i < 7) : ([] ++ [V.bl (decide (i = 0)), .bl (decide (i = 1)), .bl (decide (i = 2)), .bl (decide (i = 3))] ++ [V.bl (decide (i = 4)), .bl (decide (i = 5)), .bl (decide (i = 6))]) ++ [V.bl true] = (told (i : Int)).map V.bl := by
  rcases lt7 h with rfl | rfl | rfl | rfl | rfl | rfl | rfl <;> rfl

/-! side_of -/
theorem sc_side_of : FnScope ["folds"] ["folds"] (defScope s_side_of) := ⟨rfl, rfl, rfl, by decide +kernel, rfl, by decide +kernel, by decide +kernel⟩
/-- 1 << folds -/
def spn_side_of (K : PySem.W.Frag) : Sp := fun vs H Q _ => ∃ n : Nat, vs = [.int n] ∧ n ≤ 60 ∧ Q (.int (2 ^ n)) H
def spx_side_of {K : PySem.W.Frag} {mg : Str → Option Value} (T : Txt K mg) : Sp := fun vs H Q E => ∃ zn : Int, vs = [.int zn] ∧ (zn < 0 ∨ 60 < zn) ∧ RE H E T.c_NoFloor
def sp_side_of {K : PySem.W.Frag} {mg : Str → Option Value} (T : Txt K mg) : Sp := fun vs H Q E => spn_side_of K vs H Q E ∨ spx_side_of T vs H Q E
section
variable {P : Program} {w : World} {K : PySem.W.Frag} {mg : Str → Option Value} {base : Heap}
theorem ok_side_of (T : Txt K mg) : FnOk P w K mg base (L2.CX P w) 1 T.a_side_of T.d_side_of ["folds"] (sp_side_of T) := by
  refine T.F_side_of.okX sc_side_of (fun vs H Q E h => ?_) (fun cdv A outer s H vs Q E hr h => ?_)
  · rcases h with ⟨n, rfl, hn, q⟩ | ⟨zn, rfl, hz, e⟩
    all_goals rfl
  · refine ⟨_, (pss_cons (ps_if (PW.pt (pw_or (pt_cmpR op_lt (pv 0) pe_int (nomark _)) (pw_or1 (pt_cmpR op_gt (pv 0) (pe_glob (v := .int 60) rfl T.g_MOST_FOLDS.choose_spec ⟨_, rfl⟩) (nomark _))))) (pss_one (ps_raise rfl (takes_of rfl rfl rfl rfl) (pmk_own PySem.F.excBase_ValueError T.x_NoFloor T.g_NoFloor T.k_NoFloor (raises_own T.r_NoFloor T.t_NoFloor) rfl))) pss_nil)
      (pss_one (ps_ret (pe_op op_shl pe_int (pv 0))))), ?_⟩
    rcases h with ⟨n, rfl, hn, q⟩ | ⟨zn, rfl, hz, e⟩
    · walk_at "rd"
      refine riteO (by omega) ?_
      walk_at "rd"
      refine riteO (by omega) ?_
      walk_at "rd"
      refine r_shl n rfl (by omega) (by decide) ?_
      rw [Int.one_mul]
      exact q
    · walk_at "rd"
      refine riteD (fun h => ?_) (fun h => ?_)
      · exact e _ (Same.refl _)
      walk_at "rd"
      refine riteY (by omega) ?_
      exact e _ (Same.refl _)
end
/-! quarter_at -/
theorem sc_quarter_at : FnScope ["turn", "swapped", "turned", "right", "up"] ["turn", "swapped", "turned"] (defScope s_quarter_at) := ⟨rfl, rfl, rfl, by decide +kernel, rfl, by decide +kernel, by decide +kernel⟩
def sp_quarter_at (K : PySem.W.Frag) : Sp := fun vs H Q _ => ∃ (d : Nat) (s t : Bool), vs = [.int d, .int (bI s), .int (bI t)] ∧ d < 4 ∧ RT [.int (qx d s t : Nat), .int (qy d s t : Nat)] H Q
theorem shr1 {d : Nat} (h : d < 4) : (d : Int) / 2 ^ 1 = (rt d : Nat) := by
  rcases d4 h with rfl | rfl | rfl | rfl <;> decide
theorem upb {d : Nat} (h : d < 4) : Builtin.bitAnd (Builtin.bitXor (d : Int) (rt d : Nat)) 1 = (ut d : Nat) := by
  rcases d4 h with rfl | rfl | rfl | rfl <;> decide
theorem flipb {a : Nat} (t : Bool) (h : a ≤ 1) : Builtin.bitXor (a : Int) (bI t) = (flip t a : Nat) := by
  rcases d2 (Nat.lt_succ_of_le h) with rfl | rfl <;> cases t <;> decide
theorem rt_le (d : Nat) : rt d ≤ 1 := by unfold rt; split <;> decide
theorem ut_le (d : Nat) : ut d ≤ 1 := by unfold ut; split <;> decide
section
variable {P : Program} {w : World} {K : PySem.W.Frag} {mg : Str → Option Value} {base : Heap}
theorem ok_quarter_at (T : Txt K mg) : FnOk P w K mg base CX0 1 T.a_quarter_at T.d_quarter_at ["turn", "swapped", "turned"] (sp_quarter_at K) := by
  refine T.F_quarter_at.ok sc_quarter_at (fun vs H Q E h => ?_) (fun cdv A outer s H vs Q E hr h => ?_)
  · obtain ⟨d, s', t', rfl, hd, q⟩ := h
    rfl
  · obtain ⟨d, s', t', rfl, hd, q⟩ := h
    refine ⟨_, (pss_cons (ps_set (i := 3) sc_quarter_at.nd rfl (.inl rfl) (pe_op op_shr (pv 0) pe_int))
      (pss_cons (ps_set (i := 4) sc_quarter_at.nd rfl (.inl rfl) (pe_op op_and (pe_op op_xor (pv 0) (pv 3)) pe_int))
      (pss_cons (ps_if (pt_cmpR op_eq (pv 1) pe_int (nomark _)) (pss_one (ps_par (i := 3) (j := 4) (by rfl) sc_quarter_at.nd rfl rfl (by decide) rfl rfl (pa_cons (pv 4) (pa_cons (pv 3) pa_nil)) (by rfl))) pss_nil)
      (pss_one (ps_ret (pe_tup (pa_cons (pe_op op_xor (pv 3) (pv 2)) (pa_cons (pe_op op_xor (pv 4) (pv 2)) pa_nil)))))))), ?_⟩
    walk_at "rd"
    refine r_shr 1 rfl ?_
    rw [shr1 hd]
    walk_at "rd"
    rw [upb hd]
    walk_at "rd"
    cases s'
    · refine riteO (by decide) ?_
      walk_at "rd"
      rw [flipb t' (rt_le d), flipb t' (ut_le d)]
      exact n_tup q
    · refine riteY (by decide) ?_
      walk_at "rd"
      rw [flipb t' (rt_le d), flipb t' (ut_le d)]
      exact n_tup q
end
/-! turn_at -/
theorem sc_turn_at : FnScope ["right", "up", "swapped", "turned"] ["right", "up", "swapped", "turned"] (defScope s_turn_at) := ⟨rfl, rfl, rfl, by decide +kernel, rfl, by decide +kernel, by decide +kernel⟩
def sp_turn_at (K : PySem.W.Frag) : Sp := fun vs H Q _ => ∃ (a b : Nat) (s t : Bool), vs = [.int a, .int b, .int (bI s), .int (bI t)] ∧ a < 2 ∧ b < 2 ∧ Q (.int (td a b s t : Nat)) H
theorem flip_le {a : Nat} (t : Bool) (h : a ≤ 1) : flip t a ≤ 1 := by unfold flip; split <;> omega
theorem xorb {a b : Nat} (ha : a ≤ 1) (hb : b ≤ 1) : 2 * (a : Int) + Builtin.bitXor (a : Int) (b : Nat) = ((2 * a + (if a = b then 0 else 1) : Nat) : Int) := by
  rcases d2 (Nat.lt_succ_of_le ha) with rfl | rfl <;> rcases d2 (Nat.lt_succ_of_le hb) with rfl | rfl <;> decide
section
variable {P : Program} {w : World} {K : PySem.W.Frag} {mg : Str → Option Value} {base : Heap}
theorem ok_turn_at (T : Txt K mg) : FnOk P w K mg base CX0 1 T.a_turn_at T.d_turn_at ["right", "up", "swapped", "turned"] (sp_turn_at K) := by
  refine T.F_turn_at.ok sc_turn_at (fun vs H Q E h => ?_) (fun cdv A outer s H vs Q E hr h => ?_)
  · obtain ⟨a, b, s', t', rfl, ha, hb, q⟩ := h
    rfl
  · obtain ⟨a, b, s', t', rfl, ha, hb, q⟩ := h
    refine ⟨_, (pss_cons (ps_set (i := 0) sc_turn_at.nd rfl (.inl rfl) (pe_op op_xor (pv 0) (pv 3)))
      (pss_cons (ps_set (i := 1) sc_turn_at.nd rfl (.inl rfl) (pe_op op_xor (pv 1) (pv 3)))
      (pss_cons (ps_if (pt_cmpR op_eq (pv 2) pe_int (nomark _)) (pss_one (ps_par (i := 0) (j := 1) (by rfl) sc_turn_at.nd rfl rfl (by decide) rfl rfl (pa_cons (pv 1) (pa_cons (pv 0) pa_nil)) (by rfl))) pss_nil)
      (pss_one (ps_ret (pe_op op_add (pe_op op_mul pe_int (pv 0)) (pe_op op_xor (pv 0) (pv 1)))))))), ?_⟩
    have ha' : a ≤ 1 := by omega
    have hb' : b ≤ 1 := by omega
    walk_at "rd"
    rw [flipb t' ha', flipb t' hb']
    cases s'
    · refine riteO (by decide) ?_
      walk_at "rd"
      rw [xorb (flip_le t' ha') (flip_le t' hb')]
      exact q
    · refine riteY (by decide) ?_
      walk_at "rd"
      rw [xorb (flip_le t' hb') (flip_le t' ha')]
      exact q
end
/-! folded -/
theorem sc_folded : FnScope ["turn", "swapped", "turned"] ["turn", "swapped", "turned"] (defScope s_folded) := ⟨rfl, rfl, rfl, by decide +kernel, rfl, by decide +kernel, by decide +kernel⟩
def sp_folded (K : PySem.W.Frag) : Sp := fun vs H Q _ => ∃ (d : Nat) (s t : Bool), vs = [.int d, .int (bI s), .int (bI t)] ∧ d < 4 ∧ RT [.int (bI (fs d s)), .int (bI (ft d t))] H Q
theorem notb (t : Bool) : Builtin.bitXor (bI t) 1 = bI (!t) := by cases t <;> decide
section
variable {P : Program} {w : World} {K : PySem.W.Frag} {mg : Str → Option Value} {base : Heap}
theorem ok_folded (T : Txt K mg) : FnOk P w K mg base CX0 1 T.a_folded T.d_folded ["turn", "swapped", "turned"] (sp_folded K) := by
  refine T.F_folded.ok sc_folded (fun vs H Q E h => ?_) (fun cdv A outer s H vs Q E hr h => ?_)
  · obtain ⟨d, s', t', rfl, hd, q⟩ := h
    rfl
  · obtain ⟨d, s', t', rfl, hd, q⟩ := h
    refine ⟨_, (pss_cons (ps_if (pt_cmpR op_eq (pv 0) pe_int (nomark _)) (pss_one (ps_ret (pe_tup (pa_cons (pe_op op_xor (pv 1) pe_int) (pa_cons (pv 2) pa_nil))))) pss_nil)
      (pss_cons (ps_if (pt_cmpR op_eq (pv 0) pe_int (nomark _)) (pss_one (ps_ret (pe_tup (pa_cons (pe_op op_xor (pv 1) pe_int) (pa_cons (pe_op op_xor (pv 2) pe_int) pa_nil))))) pss_nil)
      (pss_one (ps_ret (pe_tup (pa_cons (pv 1) (pa_cons (pv 2) pa_nil))))))), ?_⟩
    walk_at "rd"
    refine riteD (fun h0 => ?_) (fun h0 => ?_)
    · have e : d = 0 := by omega
      subst e
      walk_at "rd"
      rw [notb]
      exact n_tup q
    · walk_at "rd"
      refine riteD (fun h1 => ?_) (fun h1 => ?_)
      · have e : d = 3 := by omega
        subst e
        walk_at "rd"
        rw [notb, notb]
        exact n_tup q
      · walk_at "rd"
        have e1 : fs d s' = s' := by unfold fs; rw [if_neg (by omega)]
        have e2 : ft d t' = t' := by unfold ft; rw [if_neg (by omega)]
        rw [e1, e2] at q
        exact n_tup q
end
/-! cell_at -/
theorem sc_cell_at : FnScope ["folds", "place", "side", "x", "y", "swapped", "turned", "k", "turn", "right", "up"] ["folds", "place"] (defScope s_cell_at) := ⟨rfl, rfl, rfl, by decide +kernel, rfl, by decide +kernel, by decide +kernel⟩
def spn_cell_at (K : PySem.W.Frag) : Sp := fun vs H Q _ => ∃ (n p : Nat) (zn zp : Int), vs = [.int zn, .int zp] ∧ zn = (n : Int) ∧ zp = (p : Int) ∧ n ≤ 60 ∧ p < 4 ^ n ∧ RT [.int (cx n p : Nat), .int (cy n p : Nat)] H Q
/-- a turn of the walk's loop -/
theorem walk_step {p k x : Nat} {s t : Bool} {W : Nat → Bool → Bool → Nat → Nat} {f : Nat → Bool → Bool → Nat} {z : Nat}
    (hW : ∀ n s t p, W (n + 1) s t p = f (p / 4 ^ n % 4) s t * 2 ^ n + W n (fs (p / 4 ^ n % 4) s) (ft (p / 4 ^ n % 4) t) (p % 4 ^ n))
    (h : x * 2 ^ (k + 1) + W (k + 1) s t (p % 4 ^ (k + 1)) = z) :
    (2 * x + f (p / 4 ^ k % 4) s t) * 2 ^ k + W k (fs (p / 4 ^ k % 4) s) (ft (p / 4 ^ k % 4) t) (p % 4 ^ k) = z := by
  rw [hW] at h
  have e1 : p % 4 ^ (k + 1) / 4 ^ k % 4 = p / 4 ^ k % 4 := by
    rw [Nat.pow_succ, Nat.mod_mul_right_div_self, Nat.mod_mod]
  have e2 : p % 4 ^ (k + 1) % 4 ^ k = p % 4 ^ k := Nat.mod_mod_of_dvd _ ⟨4, Nat.pow_succ 4 k⟩
  rw [e1, e2, s2] at h
  rw [← h, Nat.add_mul, ← Nat.mul_assoc, Nat.mul_comm 2 x]
  omega
def spx_cell_at {K : PySem.W.Frag} {mg : Str → Option Value} (T : Txt K mg) : Sp := fun vs H Q E => (∃ (zn : Int) (v : V), vs = [.int zn, v] ∧ (zn < 0 ∨ 60 < zn) ∧ RE H E T.c_NoFloor) ∨ ∃ (n : Nat) (zp : Int), vs = [.int n, .int zp] ∧ n ≤ 60 ∧ (zp < 0 ∨ ((4 ^ n : Nat) : Int) ≤ zp) ∧ RE H E T.c_NoPlace
def sp_cell_at {K : PySem.W.Frag} {mg : Str → Option Value} (T : Txt K mg) : Sp := fun vs H Q E => spn_cell_at K vs H Q E ∨ spx_cell_at T vs H Q E
section
variable {P : Program} {w : World} {K : PySem.W.Frag} {mg : Str → Option Value} {base : Heap}
theorem ok_cell_at (T : Txt K mg) : FnOk P w K mg base (L2.CX P w) 2 T.a_cell_at T.d_cell_at ["folds", "place"] (sp_cell_at T) := by
  refine T.F_cell_at.okX sc_cell_at (fun vs H Q E h => ?_) (fun cdv A outer s H vs Q E hr h => ?_)
  · rcases h with ⟨n, p, zn, zp, rfl, rfl, rfl, hn, hp, q⟩ | ⟨zn, v, rfl, hz, e⟩ | ⟨n, zp, rfl, hn, hz, e⟩
    all_goals rfl
  · refine ⟨_, (pss_cons (ps_set (i := 2) sc_cell_at.nd rfl (.inl rfl) (pe_callSD (ok_side_of T) (hr.mono (by decide)) (by rfl) T.m_side_of T.F_side_of.kp T.b_side_of .nil (fun σ => passAt (takes_of rfl rfl rfl rfl) σ) (pa_cons (pv 0) pa_nil)))
      (pss_cons (ps_if (PW.pt (pw_or (pt_cmpR op_lt (pv 1) pe_int (nomark _)) (pw_or1 (pt_cmpR op_ge (pv 1) (pe_op op_mul (pv 2) (pv 2)) (nomark _))))) (pss_one (ps_raise rfl (takes_of rfl rfl rfl rfl) (pmk_own PySem.F.excBase_ValueError T.x_NoPlace T.g_NoPlace T.k_NoPlace (raises_own T.r_NoPlace T.t_NoPlace) rfl))) pss_nil)
      (pss_cons (ps_set (i := 3) sc_cell_at.nd rfl (.inl rfl) pe_int)
      (pss_cons (ps_set (i := 4) sc_cell_at.nd rfl (.inl rfl) pe_int)
      (pss_cons (ps_set (i := 5) sc_cell_at.nd rfl (.inl rfl) pe_int)
      (pss_cons (ps_set (i := 6) sc_cell_at.nd rfl (.inl rfl) pe_int)
      (pss_cons (ps_for (passes_of rfl) rfl (pi_revR rfl T.n_reversed (prg_1 rfl T.n_range (pv 0))) (pg_name (i := 7) sc_cell_at.nd rfl (.inl rfl)) (pss_cons (ps_set (i := 8) sc_cell_at.nd rfl (.inl rfl) (pe_op op_and (pe_op op_shr (pv 1) (pe_op op_mul pe_int (pv 7))) pe_int))
      (pss_cons (ps_asg (pe_call (ok_quarter_at T) (hr.mono (by decide)) (by rfl) T.m_quarter_at T.F_quarter_at.kp T.b_quarter_at .nil pass0 (pa_cons (pv 8) (pa_cons (pv 5) (pa_cons (pv 6) pa_nil)))) (pg_tup (n := 2) rfl (pgs_cons (pg_name (i := 9) sc_cell_at.nd rfl (.inl rfl)) (pgs_cons (pg_name (i := 10) sc_cell_at.nd rfl (.inl rfl)) pgs_nil))))
      (pss_cons (ps_set (i := 3) sc_cell_at.nd rfl (.inl rfl) (pe_op op_add (pe_op op_mul pe_int (pv 3)) (pv 9)))
      (pss_cons (ps_set (i := 4) sc_cell_at.nd rfl (.inl rfl) (pe_op op_add (pe_op op_mul pe_int (pv 4)) (pv 10)))
      (pss_one (ps_asg (pe_call (ok_folded T) (hr.mono (by decide)) (by rfl) T.m_folded T.F_folded.kp T.b_folded .nil pass0 (pa_cons (pv 8) (pa_cons (pv 5) (pa_cons (pv 6) pa_nil)))) (pg_tup (n := 2) rfl (pgs_cons (pg_name (i := 5) sc_cell_at.nd rfl (.inl rfl)) (pgs_cons (pg_name (i := 6) sc_cell_at.nd rfl (.inl rfl)) pgs_nil))))))))))
      (pss_one (ps_ret (pe_tup (pa_cons (pv 3) (pa_cons (pv 4) pa_nil)))))))))))), ?_⟩
    rcases h with ⟨n, p, zn, zp, rfl, rfl, rfl, hn, hp, q⟩ | ⟨zn, v, rfl, hz, e⟩ | ⟨n, zp, rfl, hn, hz, e⟩
    · walk_at "rd"
      refine .inl ⟨n, rfl, hn, ?_⟩
      walk_at "rd"
      refine riteO (by omega) ?_
      walk_at "rd"
      refine r_mul (cmul2 (n := n) (by omega)) ?_
      rw [sq_int]
      walk_at "rd"
      refine riteO (by omega) ?_
      walk_at "rd"
      refine r_rev (r_var (by rfl) ?_) mono_var
      refine ⟨n, rfl, by omega, fun m σ' H' => Same H H' ∧ ∃ (x y : Nat) (s t : Bool) (o7 o8 o9 o10 : Option V), σ' = [some (.int n), some (.int p), some (.int (2 ^ n)), some (.int x), some (.int y), some (.int (bI s)), some (.int (bI t)), o7, o8, o9, o10] ∧
        x * 2 ^ m + WX m s t (p % 4 ^ m) = cx n p ∧ y * 2 ^ m + WY m s t (p % 4 ^ m) = cy n p, ?_, ?_, ?_⟩
      · refine ⟨Same.refl H, 0, 0, false, false, none, none, none, none, rfl, ?_, ?_⟩
        · rw [Nat.mod_eq_of_lt hp, Nat.zero_mul, Nat.zero_add]
        · rw [Nat.mod_eq_of_lt hp, Nat.zero_mul, Nat.zero_add]
      · rintro m σ' H' hm ⟨hs, x, y, s, t, o7, o8, o9, o10, rfl, ex, ey⟩
        walk_at "rd"
        refine r_shr (2 * m) (by omega) ?_
        walk_at "rd"
        rw [dig_int]
        refine ⟨p / 4 ^ m % 4, s, t, rfl, lt4 _, fun a H2 na s2 e2 => r_unp2 e2 ?_⟩
        walk_at "rd"
        refine ⟨p / 4 ^ m % 4, s, t, rfl, lt4 _, fun a3 H3 na3 s3 e3 => r_unp2 e3 ?_⟩
        refine ⟨hs.trans (s2.trans s3), 2 * x + qx (p / 4 ^ m % 4) s t, 2 * y + qy (p / 4 ^ m % 4) s t, _, _, _, _, _, _, rfl, ?_, ?_⟩
        · exact walk_step (W := WX) (f := qx) (fun _ _ _ _ => rfl) ex
        · exact walk_step (W := WY) (f := qy) (fun _ _ _ _ => rfl) ey
      · rintro σ' H' ⟨hs, x, y, s, t, o7, o8, o9, o10, rfl, ex, ey⟩
        walk_at "rd"
        rw [Nat.pow_zero, Nat.mul_one] at ex ey
        rw [show WX 0 s t (p % 4 ^ 0) = 0 from rfl, Nat.add_zero] at ex
        rw [show WY 0 s t (p % 4 ^ 0) = 0 from rfl, Nat.add_zero] at ey
        rw [← ex, ← ey] at q
        exact n_tup fun a H1 np s1 e1 => q a H1 (hs.free np) (hs.trans s1) e1
    · walk_at "rd"
      exact .inr ⟨zn, rfl, hz, e⟩
    · walk_at "rd"
      refine .inl ⟨n, rfl, hn, ?_⟩
      walk_at "rd"
      refine riteD (fun h => ?_) (fun h => ?_)
      · exact e _ (Same.refl _)
      walk_at "rd"
      refine r_mul (cmul2 (n := n) (by omega)) ?_
      rw [sq_int]
      walk_at "rd"
      refine riteY (by omega) ?_
      exact e _ (Same.refl _)
end
/-! place_of -/
theorem sc_place_of : FnScope ["folds", "cell", "side", "x", "y", "place", "swapped", "turned", "k", "turn"] ["folds", "cell"] (defScope s_place_of) := ⟨rfl, rfl, rfl, by decide +kernel, rfl, by decide +kernel, by decide +kernel⟩
def spn_place_of (K : PySem.W.Frag) : Sp := fun vs H Q _ => ∃ (n x y : Nat) (zx zy : Int) (a : Addr), vs = [.int n, .ref a] ∧ zx = (x : Int) ∧ zy = (y : Int) ∧ n ≤ 60 ∧ x < 2 ^ n ∧ y < 2 ^ n ∧ H a = some (.tup [.int zx, .int zy]) ∧ RV (.int (PL n false false x y : Nat)) H Q
theorem bit_int (x k : Nat) : Builtin.bitAnd ((x : Int) / 2 ^ k) 1 = ((x / 2 ^ k % 2 : Nat) : Int) := by
  rw [bitAnd_m1, i2_nat]
  omega
theorem pl_step {x y k z g : Nat} {s t : Bool} (h : g * 4 ^ (k + 1) + PL (k + 1) s t (x % 2 ^ (k + 1)) (y % 2 ^ (k + 1)) = z) :
    (4 * g + td (x / 2 ^ k % 2) (y / 2 ^ k % 2) s t) * 4 ^ k + PL k (fs (td (x / 2 ^ k % 2) (y / 2 ^ k % 2) s t) s) (ft (td (x / 2 ^ k % 2) (y / 2 ^ k % 2) s t) t) (x % 2 ^ k) (y % 2 ^ k) = z := by
  rw [PL] at h
  have e1 : ∀ x : Nat, x % 2 ^ (k + 1) / 2 ^ k % 2 = x / 2 ^ k % 2 := fun x => by
    rw [Nat.pow_succ, Nat.mod_mul_right_div_self, Nat.mod_mod]
  have e2 : ∀ x : Nat, x % 2 ^ (k + 1) % 2 ^ k = x % 2 ^ k := fun x => Nat.mod_mod_of_dvd _ ⟨2, Nat.pow_succ 2 k⟩
  rw [e1, e1, e2, e2, Fw.s4] at h
  rw [← h, Nat.add_mul, ← Nat.mul_assoc, Nat.mul_comm 4 g]
  omega
def spx_place_of {K : PySem.W.Frag} {mg : Str → Option Value} (T : Txt K mg) : Sp := fun vs H Q E => (∃ (zn : Int) (v : V), vs = [.int zn, v] ∧ (zn < 0 ∨ 60 < zn) ∧ RE H E T.c_NoFloor) ∨ ∃ (n : Nat) (a : Addr) (x y : Int), vs = [.int n, .ref a] ∧ n ≤ 60 ∧ H a = some (.tup [.int x, .int y]) ∧ (x < 0 ∨ 2 ^ n ≤ x ∨ y < 0 ∨ 2 ^ n ≤ y) ∧ RE H E T.c_NoCell
def sp_place_of {K : PySem.W.Frag} {mg : Str → Option Value} (T : Txt K mg) : Sp := fun vs H Q E => spn_place_of K vs H Q E ∨ spx_place_of T vs H Q E
section
variable {P : Program} {w : World} {K : PySem.W.Frag} {mg : Str → Option Value} {base : Heap}
theorem ok_place_of (T : Txt K mg) : FnOk P w K mg base (L2.CX P w) 2 T.a_place_of T.d_place_of ["folds", "cell"] (sp_place_of T) := by
  refine T.F_place_of.okX sc_place_of (fun vs H Q E h => ?_) (fun cdv A outer s H vs Q E hr h => ?_)
  · rcases h with ⟨n, x, y, zx, zy, a, rfl, rfl, rfl, hn, hx, hy, ha, q⟩ | ⟨zn, v, rfl, hz, e⟩ | ⟨n, a, x, y, rfl, hn, ha, hz, e⟩
    all_goals rfl
  · refine ⟨_, (pss_cons (ps_set (i := 2) sc_place_of.nd rfl (.inl rfl) (pe_callSD (ok_side_of T) (hr.mono (by decide)) (by rfl) T.m_side_of T.F_side_of.kp T.b_side_of .nil (fun σ => passAt (takes_of rfl rfl rfl rfl) σ) (pa_cons (pv 0) pa_nil)))
      (pss_cons (ps_asg (pv 1) (pg_tup (n := 2) rfl (pgs_cons (pg_name (i := 3) sc_place_of.nd rfl (.inl rfl)) (pgs_cons (pg_name (i := 4) sc_place_of.nd rfl (.inl rfl)) pgs_nil))))
      (pss_cons (ps_if (PW.pt (pw_or (pt_cmpR op_lt (pe_callB (call_min2 rfl) (by rfl) T.n_min (by decide +kernel) (pa_cons (pv 3) (pa_cons (pv 4) pa_nil))) pe_int (nomark _)) (pw_or1 (pt_cmpR op_ge (pe_callB (call_max2 rfl) (by rfl) T.n_max (by decide +kernel) (pa_cons (pv 3) (pa_cons (pv 4) pa_nil))) (pv 2) (nomark _))))) (pss_one (ps_raise rfl (takes_of rfl rfl rfl rfl) (pmk_own PySem.F.excBase_ValueError T.x_NoCell T.g_NoCell T.k_NoCell (raises_own T.r_NoCell T.t_NoCell) rfl))) pss_nil)
      (pss_cons (ps_set (i := 5) sc_place_of.nd rfl (.inl rfl) pe_int)
      (pss_cons (ps_set (i := 6) sc_place_of.nd rfl (.inl rfl) pe_int)
      (pss_cons (ps_set (i := 7) sc_place_of.nd rfl (.inl rfl) pe_int)
      (pss_cons (ps_for (passes_of rfl) rfl (pi_revR rfl T.n_reversed (prg_1 rfl T.n_range (pv 0))) (pg_name (i := 8) sc_place_of.nd rfl (.inl rfl)) (pss_cons (ps_set (i := 9) sc_place_of.nd rfl (.inl rfl) (pe_call (ok_turn_at T) (hr.mono (by decide)) (by rfl) T.m_turn_at T.F_turn_at.kp T.b_turn_at .nil pass0 (pa_cons (pe_op op_and (pe_op op_shr (pv 3) (pv 8)) pe_int) (pa_cons (pe_op op_and (pe_op op_shr (pv 4) (pv 8)) pe_int) (pa_cons (pv 6) (pa_cons (pv 7) pa_nil))))))
      (pss_cons (ps_set (i := 5) sc_place_of.nd rfl (.inl rfl) (pe_op op_add (pe_op op_mul pe_int (pv 5)) (pv 9)))
      (pss_one (ps_asg (pe_call (ok_folded T) (hr.mono (by decide)) (by rfl) T.m_folded T.F_folded.kp T.b_folded .nil pass0 (pa_cons (pv 9) (pa_cons (pv 6) (pa_cons (pv 7) pa_nil)))) (pg_tup (n := 2) rfl (pgs_cons (pg_name (i := 6) sc_place_of.nd rfl (.inl rfl)) (pgs_cons (pg_name (i := 7) sc_place_of.nd rfl (.inl rfl)) pgs_nil))))))))
      (pss_one (ps_ret (pv 5)))))))))), ?_⟩
    rcases h with ⟨n, x, y, zx, zy, a, rfl, rfl, rfl, hn, hx, hy, ha, q⟩ | ⟨zn, v, rfl, hz, e⟩ | ⟨n, a, x, y, rfl, hn, ha, hz, e⟩
    · have h2 := i2_nat n
      walk_at "rd"
      refine .inl ⟨n, rfl, hn, ?_⟩
      walk_at "rd"
      refine r_unp2 ha ?_
      walk_at "rd"
      refine ⟨_, _, rfl, ?_⟩
      walk_at "rd"
      refine riteO (by split <;> omega) ?_
      walk_at "rd"
      refine ⟨_, _, rfl, ?_⟩
      walk_at "rd"
      refine riteO (by split <;> omega) ?_
      walk_at "rd"
      refine r_rev (r_var (by rfl) ?_) mono_var
      refine ⟨n, rfl, by omega, fun m σ' H' => Same H H' ∧ ∃ (g : Nat) (s t : Bool) (o8 o9 : Option V), σ' = [some (.int n), some (.ref a), some (.int (2 ^ n)), some (.int x), some (.int y), some (.int g), some (.int (bI s)), some (.int (bI t)), o8, o9] ∧
        g * 4 ^ m + PL m s t (x % 2 ^ m) (y % 2 ^ m) = PL n false false x y, ?_, ?_, ?_⟩
      · refine ⟨Same.refl H, 0, false, false, none, none, rfl, ?_⟩
        rw [Nat.mod_eq_of_lt hx, Nat.mod_eq_of_lt hy, Nat.zero_mul, Nat.zero_add]
      · rintro m σ' H' hm ⟨hs, g, s, t, o8, o9, rfl, eg⟩
        walk_at "rd"
        refine r_shr m rfl ?_
        walk_at "rd"
        refine r_shr m rfl ?_
        walk_at "rd"
        rw [bit_int, bit_int]
        refine ⟨x / 2 ^ m % 2, y / 2 ^ m % 2, s, t, rfl, lt2 _, lt2 _, ?_⟩
        walk_at "rd"
        refine ⟨td (x / 2 ^ m % 2) (y / 2 ^ m % 2) s t, s, t, rfl, td_lt s t (lt2 _) (lt2 _), fun b H2 nb s2 e2 => r_unp2 e2 ?_⟩
        exact ⟨hs.trans s2, 4 * g + td (x / 2 ^ m % 2) (y / 2 ^ m % 2) s t, _, _, _, _, rfl, pl_step eg⟩
      · rintro σ' H' ⟨hs, g, s, t, o8, o9, rfl, eg⟩
        walk_at "rd"
        rw [Nat.pow_zero, Nat.mul_one, show PL 0 s t (x % 2 ^ 0) (y % 2 ^ 0) = 0 from rfl, Nat.add_zero] at eg
        rw [← eg] at q
        exact q _ hs
    · walk_at "rd"
      exact .inr ⟨zn, rfl, hz, e⟩
    · walk_at "rd"
      refine .inl ⟨n, rfl, hn, ?_⟩
      walk_at "rd"
      refine r_unp2 ha ?_
      walk_at "rd"
      refine ⟨_, _, rfl, ?_⟩
      walk_at "rd"
      refine riteD (fun h => ?_) (fun h => ?_)
      · exact e _ (Same.refl _)
      walk_at "rd"
      refine ⟨_, _, rfl, ?_⟩
      walk_at "rd"
      refine riteY (by revert h; split <;> split <;> intro h <;> omega) ?_
      exact e _ (Same.refl _)
end
/-! way_at -/
theorem sc_way_at : FnScope ["folds", "place", "side", "x", "y", "next_x", "next_y"] ["folds", "place"] (defScope s_way_at) := ⟨rfl, rfl, rfl, by decide +kernel, rfl, by decide +kernel, by decide +kernel⟩
inductive Way | R | L | U | D
def wS : Way → Str
  | .R => "R" | .L => "L" | .U => "U" | .D => "D"
def wX : Way → Int
  | .R => 1 | .L => -1 | .U => 0 | .D => 0
def wY : Way → Int
  | .R => 0 | .L => 0 | .U => 1 | .D => -1
def spn_way_at (K : PySem.W.Frag) : Sp := fun vs H Q _ => ∃ (n p : Nat), vs = [.int n, .int p] ∧ n ≤ 60 ∧ p + 1 < 4 ^ n ∧
  ∀ w H', Same H H' → ((cx n (p + 1) : Nat) : Int) = (cx n p : Nat) + wX w → ((cy n (p + 1) : Nat) : Int) = (cy n p : Nat) + wY w → Q (.str (wS w)) H'
def spx_way_at {K : PySem.W.Frag} {mg : Str → Option Value} (T : Txt K mg) : Sp := fun vs H Q E => (∃ (zn : Int) (v : V), vs = [.int zn, v] ∧ (zn < 0 ∨ 60 < zn) ∧ RE H E T.c_NoFloor) ∨ ∃ (n : Nat) (zp : Int), vs = [.int n, .int zp] ∧ n ≤ 60 ∧ (zp < 0 ∨ ((4 ^ n : Nat) : Int) - 1 ≤ zp) ∧ RE H E T.c_NoPlace
def sp_way_at {K : PySem.W.Frag} {mg : Str → Option Value} (T : Txt K mg) : Sp := fun vs H Q E => spn_way_at K vs H Q E ∨ spx_way_at T vs H Q E
section
variable {P : Program} {w : World} {K : PySem.W.Frag} {mg : Str → Option Value} {base : Heap}
theorem ok_way_at (T : Txt K mg) : FnOk P w K mg base (L2.CX P w) 3 T.a_way_at T.d_way_at ["folds", "place"] (sp_way_at T) := by
  refine T.F_way_at.okX sc_way_at (fun vs H Q E h => ?_) (fun cdv A outer s H vs Q E hr h => ?_)
  · rcases h with ⟨n, p, rfl, hn, hp, q⟩ | ⟨zn, v, rfl, hz, e⟩ | ⟨n, zp, rfl, hn, hz, e⟩
    all_goals rfl
  · refine ⟨_, (pss_cons (ps_set (i := 2) sc_way_at.nd rfl (.inl rfl) (pe_callSD (ok_side_of T) (hr.mono (by decide)) (by rfl) T.m_side_of T.F_side_of.kp T.b_side_of .nil (fun σ => passAt (takes_of rfl rfl rfl rfl) σ) (pa_cons (pv 0) pa_nil)))
      (pss_cons (ps_if (PW.pt (pw_or (pt_cmpR op_lt (pv 1) pe_int (nomark _)) (pw_or1 (pt_cmpR op_ge (pv 1) (pe_op op_sub (pe_op op_mul (pv 2) (pv 2)) pe_int) (nomark _))))) (pss_one (ps_raise rfl (takes_of rfl rfl rfl rfl) (pmk_own PySem.F.excBase_ValueError T.x_NoPlace T.g_NoPlace T.k_NoPlace (raises_own T.r_NoPlace T.t_NoPlace) rfl))) pss_nil)
      (pss_cons (ps_asg (pe_callSD (ok_cell_at T) (hr.mono (by decide)) (by rfl) T.m_cell_at T.F_cell_at.kp T.b_cell_at .nil (fun σ => passAt (takes_of rfl rfl rfl rfl) σ) (pa_cons (pv 0) (pa_cons (pv 1) pa_nil))) (pg_tup (n := 2) rfl (pgs_cons (pg_name (i := 3) sc_way_at.nd rfl (.inl rfl)) (pgs_cons (pg_name (i := 4) sc_way_at.nd rfl (.inl rfl)) pgs_nil))))
      (pss_cons (ps_asg (pe_callSD (ok_cell_at T) (hr.mono (by decide)) (by rfl) T.m_cell_at T.F_cell_at.kp T.b_cell_at .nil (fun σ => passAt (takes_of rfl rfl rfl rfl) σ) (pa_cons (pv 0) (pa_cons (pe_op op_add (pv 1) pe_int) pa_nil))) (pg_tup (n := 2) rfl (pgs_cons (pg_name (i := 5) sc_way_at.nd rfl (.inl rfl)) (pgs_cons (pg_name (i := 6) sc_way_at.nd rfl (.inl rfl)) pgs_nil))))
      (pss_cons (ps_if (pt_cmpR op_gt (pv 5) (pv 3) (nomark _)) (pss_one (ps_ret pe_str)) pss_nil)
      (pss_cons (ps_if (pt_cmpR op_lt (pv 5) (pv 3) (nomark _)) (pss_one (ps_ret pe_str)) pss_nil)
      (pss_cons (ps_if (pt_cmpR op_gt (pv 6) (pv 4) (nomark _)) (pss_one (ps_ret pe_str)) pss_nil)
      (pss_one (ps_ret pe_str))))))))), ?_⟩
    rcases h with ⟨n, p, rfl, hn, hp, q⟩ | ⟨zn, v, rfl, hz, e⟩ | ⟨n, zp, rfl, hn, hz, e⟩
    · have hS1 := i2_pos n
      have hS2 : (2 : Int) ^ n < 2 ^ 64 := i2_lt (by omega)
      walk_at "rd"
      refine .inl ⟨n, rfl, hn, ?_⟩
      walk_at "rd"
      refine riteO (by omega) ?_
      walk_at "rd"
      rw [sq_int]
      refine riteO (by omega) ?_
      walk_at "rd"
      refine .inl ⟨n, p, _, _, rfl, rfl, rfl, hn, by omega, fun a H1 na s1 e1 => r_unp2 e1 ?_⟩
      walk_at "rd"
      refine .inl ⟨n, p + 1, _, _, rfl, rfl, rfl, hn, hp, fun b H2 nb s2 e2 => r_unp2 e2 ?_⟩
      walk_at "rd"
      have hs := s1.trans s2
      rcases step_adj n p hp with ⟨h1, h2⟩ | ⟨h1, h2⟩ | ⟨h1, h2⟩ | ⟨h1, h2⟩
      · refine riteY (by omega) ?_
        walk_at "rd"
        exact q .R _ hs (show _ = _ + 1 by omega) (show _ = _ + 0 by omega)
      · refine riteO (by omega) ?_
        walk_at "rd"
        refine riteY (by omega) ?_
        walk_at "rd"
        exact q .L _ hs (show _ = _ + -1 by omega) (show _ = _ + 0 by omega)
      · refine riteO (by omega) ?_
        walk_at "rd"
        refine riteO (by omega) ?_
        walk_at "rd"
        refine riteY (by omega) ?_
        walk_at "rd"
        exact q .U _ hs (show _ = _ + 0 by omega) (show _ = _ + 1 by omega)
      · refine riteO (by omega) ?_
        walk_at "rd"
        refine riteO (by omega) ?_
        walk_at "rd"
        refine riteO (by omega) ?_
        walk_at "rd"
        exact q .D _ hs (show _ = _ + 0 by omega) (show _ = _ + -1 by omega)
    · walk_at "rd"
      exact .inr ⟨zn, rfl, hz, e⟩
    · walk_at "rd"
      refine .inl ⟨n, rfl, hn, ?_⟩
      walk_at "rd"
      refine riteD (fun h => ?_) (fun h => ?_)
      · exact e _ (Same.refl _)
      walk_at "rd"
      refine r_mul (cmul2 (n := n) (by omega)) ?_
      rw [sq_int]
      walk_at "rd"
      refine riteY (by omega) ?_
      exact e _ (Same.refl _)
end
/-! looked_at -/
theorem sc_looked_at : FnScope ["folds", "box", "side", "left", "low", "right", "high"] ["folds", "box"] (defScope s_looked_at) := ⟨rfl, rfl, rfl, by decide +kernel, rfl, by decide +kernel, by decide +kernel⟩
def spn_looked_at (K : PySem.W.Frag) : Sp := fun vs H Q _ => ∃ (n : Nat) (b : Addr) (B : Box), vs = [.int n, .ref b] ∧ n ≤ 60 ∧ BoxOk B n ∧ H b = some (.tup (bt B)) ∧ Q (.int (4 ^ n : Nat)) H
def spx_looked_at {K : PySem.W.Frag} {mg : Str → Option Value} (T : Txt K mg) : Sp := fun vs H Q E => (∃ (zn : Int) (v : V), vs = [.int zn, v] ∧ (zn < 0 ∨ 60 < zn) ∧ RE H E T.c_NoFloor) ∨ ∃ (n : Nat) (b : Addr) (B : Box), vs = [.int n, .ref b] ∧ n ≤ 60 ∧ H b = some (.tup (bt B)) ∧ ¬ BoxOk B n ∧ RE H E T.c_NoBox
def sp_looked_at {K : PySem.W.Frag} {mg : Str → Option Value} (T : Txt K mg) : Sp := fun vs H Q E => spn_looked_at K vs H Q E ∨ spx_looked_at T vs H Q E
section
variable {P : Program} {w : World} {K : PySem.W.Frag} {mg : Str → Option Value} {base : Heap}
theorem ok_looked_at (T : Txt K mg) : FnOk P w K mg base (L2.CX P w) 2 T.a_looked_at T.d_looked_at ["folds", "box"] (sp_looked_at T) := by
  refine T.F_looked_at.okX sc_looked_at (fun vs H Q E h => ?_) (fun cdv A outer s H vs Q E hr h => ?_)
  · rcases h with ⟨n, b, B, rfl, hn, ⟨h1, h2, h3, h4, h5, h6⟩, hb, q⟩ | ⟨zn, v, rfl, hz, e⟩ | ⟨n, b, B, rfl, hn, hb, hB, e⟩
    all_goals rfl
  · refine ⟨_, (pss_cons (ps_set (i := 2) sc_looked_at.nd rfl (.inl rfl) (pe_callSD (ok_side_of T) (hr.mono (by decide)) (by rfl) T.m_side_of T.F_side_of.kp T.b_side_of .nil (fun σ => passAt (takes_of rfl rfl rfl rfl) σ) (pa_cons (pv 0) pa_nil)))
      (pss_cons (ps_asg (pv 1) (pg_tup (n := 4) rfl (pgs_cons (pg_name (i := 3) sc_looked_at.nd rfl (.inl rfl)) (pgs_cons (pg_name (i := 4) sc_looked_at.nd rfl (.inl rfl)) (pgs_cons (pg_name (i := 5) sc_looked_at.nd rfl (.inl rfl)) (pgs_cons (pg_name (i := 6) sc_looked_at.nd rfl (.inl rfl)) pgs_nil))))))
      (pss_cons (ps_if (PW.pt (pw_or (pt_cmpR op_lt (pv 3) pe_int (nomark _)) (pw_or (pt_cmpR op_gt (pv 3) (pv 5) (nomark _)) (pw_or1 (pt_cmpR op_ge (pv 5) (pv 2) (nomark _)))))) (pss_one (ps_raise rfl (takes_of rfl rfl rfl rfl) (pmk_own PySem.F.excBase_ValueError T.x_NoBox T.g_NoBox T.k_NoBox (raises_own T.r_NoBox T.t_NoBox) rfl))) pss_nil)
      (pss_cons (ps_if (PW.pt (pw_or (pt_cmpR op_lt (pv 4) pe_int (nomark _)) (pw_or (pt_cmpR op_gt (pv 4) (pv 6) (nomark _)) (pw_or1 (pt_cmpR op_ge (pv 6) (pv 2) (nomark _)))))) (pss_one (ps_raise rfl (takes_of rfl rfl rfl rfl) (pmk_own PySem.F.excBase_ValueError T.x_NoBox T.g_NoBox T.k_NoBox (raises_own T.r_NoBox T.t_NoBox) rfl))) pss_nil)
      (pss_one (ps_ret (pe_op op_mul (pv 2) (pv 2)))))))), ?_⟩
    rcases h with ⟨n, b, B, rfl, hn, ⟨h1, h2, h3, h4, h5, h6⟩, hb, q⟩ | ⟨zn, v, rfl, hz, e⟩ | ⟨n, b, B, rfl, hn, hb, hB, e⟩
    · have hS1 := i2_pos n
      have hS2 : (2 : Int) ^ n < 2 ^ 64 := i2_lt (by omega)
      walk_at "rd"
      refine .inl ⟨n, rfl, hn, ?_⟩
      walk_at "rd"
      refine r_unp4 hb ?_
      walk_at "rd"
      refine riteO (by omega) ?_
      walk_at "rd"
      refine riteO (by omega) ?_
      walk_at "rd"
      refine riteO (by omega) ?_
      walk_at "rd"
      refine riteO (by omega) ?_
      walk_at "rd"
      refine riteO (by omega) ?_
      walk_at "rd"
      refine riteO (by omega) ?_
      walk_at "rd"
      rw [sq_int]
      exact q
    · walk_at "rd"
      exact .inr ⟨zn, rfl, hz, e⟩
    · walk_at "rd"
      refine .inl ⟨n, rfl, hn, ?_⟩
      walk_at "rd"
      refine r_unp4 hb ?_
      walk_at "rd"
      refine riteD (fun h => e _ (Same.refl _)) (fun h1 => ?_)
      walk_at "rd"
      refine riteD (fun h => e _ (Same.refl _)) (fun h2 => ?_)
      walk_at "rd"
      refine riteD (fun h => e _ (Same.refl _)) (fun h3 => ?_)
      walk_at "rd"
      refine riteD (fun h => e _ (Same.refl _)) (fun h4 => ?_)
      walk_at "rd"
      refine riteD (fun h => e _ (Same.refl _)) (fun h5 => ?_)
      walk_at "rd"
      refine riteD (fun h => e _ (Same.refl _)) (fun h6 => ?_)
      exact absurd ⟨by omega, by omega, by omega, by omega, by omega, by omega⟩ hB
end
/-! shared -/
theorem sc_shared : FnScope ["box", "left", "low", "broad", "across", "up"] ["box", "left", "low", "broad"] (defScope s_shared) := ⟨rfl, rfl, rfl, by decide +kernel, rfl, by decide +kernel, by decide +kernel⟩
def sp_shared (K : PySem.W.Frag) : Sp := fun vs H Q _ => ∃ (b : Addr) (B : Box) (l o zw : Int) (m : Nat), vs = [.ref b, .int l, .int o, .int zw] ∧ zw = (m : Int) ∧ m ≤ 2 ^ 60 ∧ H b = some (.tup (bt B)) ∧ Q (.int (sh B l o m : Nat)) H
theorem min_int (a b : Int) : (if b < a then b else a) = min a b := by split <;> omega
theorem max_int (a b : Int) : (if b > a then b else a) = max a b := by split <;> omega
theorem sh_none {B : Box} {l o : Int} {m : Nat} (h : min B.r (l + m - 1) - max B.l l + 1 ≤ 0 ∨ min B.h (o + m - 1) - max B.o o + 1 ≤ 0) : sh B l o m = 0 := by
  unfold sh ov
  rcases h with h | h
  · rw [show (min B.r (l + m - 1) - max B.l l + 1).toNat = 0 by omega, Nat.zero_mul]
  · rw [show (min B.h (o + m - 1) - max B.o o + 1).toNat = 0 by omega, Nat.mul_zero]
theorem sh_some {B : Box} {l o : Int} {m : Nat} (h1 : ¬ min B.r (l + m - 1) - max B.l l + 1 ≤ 0) (h2 : ¬ min B.h (o + m - 1) - max B.o o + 1 ≤ 0) :
    ((sh B l o m : Nat) : Int) = (min B.r (l + m - 1) - max B.l l + 1) * (min B.h (o + m - 1) - max B.o o + 1) := by
  unfold sh ov
  rw [Int.natCast_mul, Int.toNat_of_nonneg (by omega), Int.toNat_of_nonneg (by omega)]
section
variable {P : Program} {w : World} {K : PySem.W.Frag} {mg : Str → Option Value} {base : Heap}
theorem ok_shared (T : Txt K mg) : FnOk P w K mg base CX0 1 T.a_shared T.d_shared ["box", "left", "low", "broad"] (sp_shared K) := by
  refine T.F_shared.ok sc_shared (fun vs H Q E h => ?_) (fun cdv A outer s H vs Q E hr h => ?_)
  · obtain ⟨b, B, l, o, zw, m, rfl, rfl, hm, hb, q⟩ := h
    rfl
  · obtain ⟨b, B, l, o, zw, m, rfl, rfl, hm, hb, q⟩ := h
    refine ⟨_, (pss_cons (ps_set (i := 4) sc_shared.nd rfl (.inl rfl) (pe_op op_add (pe_op op_sub (pe_callB (call_min2 rfl) (by rfl) T.n_min (by decide +kernel) (pa_cons (pe_ix (r := rIxT K) ix_tup (pv 0) pe_int (fun _ _ => rfl)) (pa_cons (pe_op op_sub (pe_op op_add (pv 1) (pv 3)) pe_int) pa_nil))) (pe_callB (call_max2 rfl) (by rfl) T.n_max (by decide +kernel) (pa_cons (pe_ix (r := rIxT K) ix_tup (pv 0) pe_int (fun _ _ => rfl)) (pa_cons (pv 1) pa_nil)))) pe_int))
      (pss_cons (ps_set (i := 5) sc_shared.nd rfl (.inl rfl) (pe_op op_add (pe_op op_sub (pe_callB (call_min2 rfl) (by rfl) T.n_min (by decide +kernel) (pa_cons (pe_ix (r := rIxT K) ix_tup (pv 0) pe_int (fun _ _ => rfl)) (pa_cons (pe_op op_sub (pe_op op_add (pv 2) (pv 3)) pe_int) pa_nil))) (pe_callB (call_max2 rfl) (by rfl) T.n_max (by decide +kernel) (pa_cons (pe_ix (r := rIxT K) ix_tup (pv 0) pe_int (fun _ _ => rfl)) (pa_cons (pv 2) pa_nil)))) pe_int))
      (pss_cons (ps_if (PW.pt (pw_or (pt_cmpR op_le (pv 4) pe_int (nomark _)) (pw_or1 (pt_cmpR op_le (pv 5) pe_int (nomark _))))) (pss_one (ps_ret pe_int)) pss_nil)
      (pss_one (ps_ret (pe_op op_mul (pv 4) (pv 5))))))), ?_⟩
    walk_at "rd"
    refine r_ixT hb (atI_nat (j := 2) rfl) ?_
    walk_at "rd"
    refine ⟨_, _, rfl, ?_⟩
    walk_at "rd"
    refine r_ixT hb (atI_nat (j := 0) rfl) ?_
    walk_at "rd"
    refine ⟨_, _, rfl, ?_⟩
    walk_at "rd"
    refine r_ixT hb (atI_nat (j := 3) rfl) ?_
    walk_at "rd"
    refine ⟨_, _, rfl, ?_⟩
    walk_at "rd"
    refine r_ixT hb (atI_nat (j := 1) rfl) ?_
    walk_at "rd"
    refine ⟨_, _, rfl, ?_⟩
    walk_at "rd"
    rw [min_int, max_int, min_int, max_int]
    refine riteD (fun h1 => ?_) (fun h1 => ?_)
    · walk_at "rd"
      rw [sh_none (.inl h1)] at q
      exact q
    walk_at "rd"
    refine riteD (fun h2 => ?_) (fun h2 => ?_)
    · walk_at "rd"
      rw [sh_none (.inr h2)] at q
      exact q
    walk_at "rd"
    rw [sh_some h1 h2] at q
    exact q
end
/-! counted -/
theorem sc_counted : FnScope ["folds", "box", "place", "many", "found", "left", "low", "swapped", "turned", "k", "turn", "one", "right", "up"] ["folds", "box", "place"] (defScope s_counted) := ⟨rfl, rfl, rfl, by decide +kernel, rfl, by decide +kernel, by decide +kernel⟩
def spn_counted (K : PySem.W.Frag) : Sp := fun vs H Q _ => ∃ (n p : Nat) (zp : Int) (b : Addr) (B : Box), vs = [.int n, .ref b, .int zp] ∧ zp = (p : Int) ∧ n ≤ 60 ∧ p ≤ 4 ^ n ∧ BoxOk B n ∧ H b = some (.tup (bt B)) ∧ RV (.int (Cb B n p : Nat)) H Q
def spx_counted {K : PySem.W.Frag} {mg : Str → Option Value} (T : Txt K mg) : Sp := fun vs H Q E => (∃ (zn : Int) (v u : V), vs = [.int zn, v, u] ∧ (zn < 0 ∨ 60 < zn) ∧ RE H E T.c_NoFloor) ∨ (∃ (n : Nat) (b : Addr) (B : Box) (u : V), vs = [.int n, .ref b, u] ∧ n ≤ 60 ∧ H b = some (.tup (bt B)) ∧ ¬ BoxOk B n ∧ RE H E T.c_NoBox) ∨ ∃ (n : Nat) (b : Addr) (B : Box) (zp : Int), vs = [.int n, .ref b, .int zp] ∧ n ≤ 60 ∧ H b = some (.tup (bt B)) ∧ BoxOk B n ∧ (zp < 0 ∨ ((4 ^ n : Nat) : Int) < zp) ∧ RE H E T.c_NoPlace
def sp_counted {K : PySem.W.Frag} {mg : Str → Option Value} (T : Txt K mg) : Sp := fun vs H Q E => spn_counted K vs H Q E ∨ spx_counted T vs H Q E
section
variable {P : Program} {w : World} {K : PySem.W.Frag} {mg : Str → Option Value} {base : Heap}
theorem ok_counted (T : Txt K mg) : FnOk P w K mg base (L2.CX P w) 3 T.a_counted T.d_counted ["folds", "box", "place"] (sp_counted T) := by
  refine T.F_counted.okX sc_counted (fun vs H Q E h => ?_) (fun cdv A outer s H vs Q E hr h => ?_)
  · rcases h with ⟨n, p, zp, b, B, rfl, rfl, hn, hp, hB, hb, q⟩ | ⟨zn, v, u, rfl, hz, e⟩ | ⟨n, b, B, u, rfl, hn, hb, hB, e⟩ | ⟨n, b, B, zp, rfl, hn, hb, hB, hz, e⟩
    all_goals rfl
  · refine ⟨_, (pss_cons (ps_set (i := 3) sc_counted.nd rfl (.inl rfl) (pe_callSD (ok_looked_at T) (hr.mono (by decide)) (by rfl) T.m_looked_at T.F_looked_at.kp T.b_looked_at .nil (fun σ => passAt (takes_of rfl rfl rfl rfl) σ) (pa_cons (pv 0) (pa_cons (pv 1) pa_nil))))
      (pss_cons (ps_if (PW.pt (pw_or (pt_cmpR op_lt (pv 2) pe_int (nomark _)) (pw_or1 (pt_cmpR op_gt (pv 2) (pv 3) (nomark _))))) (pss_one (ps_raise rfl (takes_of rfl rfl rfl rfl) (pmk_own PySem.F.excBase_ValueError T.x_NoPlace T.g_NoPlace T.k_NoPlace (raises_own T.r_NoPlace T.t_NoPlace) rfl))) pss_nil)
      (pss_cons (ps_if (pt_cmpR op_eq (pv 2) (pv 3) (nomark _)) (pss_one (ps_ret (pe_call (ok_shared T) (hr.mono (by decide)) (by rfl) T.m_shared T.F_shared.kp T.b_shared .nil pass0 (pa_cons (pv 1) (pa_cons pe_int (pa_cons pe_int (pa_cons (pe_op op_shl pe_int (pv 0)) pa_nil))))))) pss_nil)
      (pss_cons (ps_set (i := 4) sc_counted.nd rfl (.inl rfl) pe_int)
      (pss_cons (ps_set (i := 5) sc_counted.nd rfl (.inl rfl) pe_int)
      (pss_cons (ps_set (i := 6) sc_counted.nd rfl (.inl rfl) pe_int)
      (pss_cons (ps_set (i := 7) sc_counted.nd rfl (.inl rfl) pe_int)
      (pss_cons (ps_set (i := 8) sc_counted.nd rfl (.inl rfl) pe_int)
      (pss_cons (ps_for (passes_of rfl) rfl (pi_revR rfl T.n_reversed (prg_1 rfl T.n_range (pv 0))) (pg_name (i := 9) sc_counted.nd rfl (.inl rfl)) (pss_cons (ps_set (i := 10) sc_counted.nd rfl (.inl rfl) (pe_op op_and (pe_op op_shr (pv 2) (pe_op op_mul pe_int (pv 9))) pe_int))
      (pss_cons (ps_for (passes_of rfl) rfl (pi_range1 rfl T.n_range (pa_cons (pv 10) pa_nil)) (pg_name (i := 11) sc_counted.nd rfl (.inl rfl)) (pss_cons (ps_asg (pe_call (ok_quarter_at T) (hr.mono (by decide)) (by rfl) T.m_quarter_at T.F_quarter_at.kp T.b_quarter_at .nil pass0 (pa_cons (pv 11) (pa_cons (pv 7) (pa_cons (pv 8) pa_nil)))) (pg_tup (n := 2) rfl (pgs_cons (pg_name (i := 12) sc_counted.nd rfl (.inl rfl)) (pgs_cons (pg_name (i := 13) sc_counted.nd rfl (.inl rfl)) pgs_nil))))
      (pss_one (ps_aug (i := 4) sc_counted.nd rfl (.inl rfl) (pe_call (ok_shared T) (hr.mono (by decide)) (by rfl) T.m_shared T.F_shared.kp T.b_shared .nil pass0 (pa_cons (pv 1) (pa_cons (pe_op op_add (pv 5) (pe_op op_shl (pv 12) (pv 9))) (pa_cons (pe_op op_add (pv 6) (pe_op op_shl (pv 13) (pv 9))) (pa_cons (pe_op op_shl pe_int (pv 9)) pa_nil))))) ip_add))))
      (pss_cons (ps_asg (pe_call (ok_quarter_at T) (hr.mono (by decide)) (by rfl) T.m_quarter_at T.F_quarter_at.kp T.b_quarter_at .nil pass0 (pa_cons (pv 10) (pa_cons (pv 7) (pa_cons (pv 8) pa_nil)))) (pg_tup (n := 2) rfl (pgs_cons (pg_name (i := 12) sc_counted.nd rfl (.inl rfl)) (pgs_cons (pg_name (i := 13) sc_counted.nd rfl (.inl rfl)) pgs_nil))))
      (pss_cons (ps_aug (i := 5) sc_counted.nd rfl (.inl rfl) (pe_op op_shl (pv 12) (pv 9)) ip_add)
      (pss_cons (ps_aug (i := 6) sc_counted.nd rfl (.inl rfl) (pe_op op_shl (pv 13) (pv 9)) ip_add)
      (pss_one (ps_asg (pe_call (ok_folded T) (hr.mono (by decide)) (by rfl) T.m_folded T.F_folded.kp T.b_folded .nil pass0 (pa_cons (pv 10) (pa_cons (pv 7) (pa_cons (pv 8) pa_nil)))) (pg_tup (n := 2) rfl (pgs_cons (pg_name (i := 7) sc_counted.nd rfl (.inl rfl)) (pgs_cons (pg_name (i := 8) sc_counted.nd rfl (.inl rfl)) pgs_nil)))))))))))
      (pss_one (ps_ret (pv 4)))))))))))), ?_⟩
    rcases h with ⟨n, p, zp, b, B, rfl, rfl, hn, hp, hB, hb, q⟩ | ⟨zn, v, u, rfl, hz, e⟩ | ⟨n, b, B, u, rfl, hn, hb, hB, e⟩ | ⟨n, b, B, zp, rfl, hn, hb, hB, hz, e⟩
    · walk_at "rd"
      refine .inl ⟨n, b, B, rfl, hn, hB, hb, ?_⟩
      walk_at "rd"
      refine riteO (by omega) ?_
      walk_at "rd"
      refine riteO (by omega) ?_
      walk_at "rd"
      refine riteD (fun h0 => ?_) (fun h0 => ?_)
      · walk_at "rd"
        refine r_shl n rfl (by omega) (by decide) ?_
        rw [Int.one_mul]
        walk_at "rd"
        refine ⟨b, B, 0, 0, _, 2 ^ n, rfl, i2_nat n, two_le hn, hb, ?_⟩
        rw [show p = 4 ^ n by omega, full_area] at q
        exact q _ (Same.refl _)
      have hp2 : p < 4 ^ n := by omega
      walk_at "rd"
      refine r_rev (r_var (by rfl) ?_) mono_var
      refine ⟨n, rfl, by omega, fun m σ' H' => Same H H' ∧ ∃ (g : Nat) (l o : Int) (s t : Bool) (o9 o10 o11 o12 o13 : Option V), σ' = [some (.int n), some (.ref b), some (.int p), some (.int (4 ^ n : Nat)), some (.int g), some (.int l), some (.int o), some (.int (bI s)), some (.int (bI t)), o9, o10, o11, o12, o13] ∧
        g + cnt (blk B s t m l o) (p % 4 ^ m) = Cb B n p, ?_, ?_, ?_⟩
      · refine ⟨Same.refl H, 0, 0, 0, false, false, none, none, none, none, none, rfl, ?_⟩
        rw [Nat.mod_eq_of_lt hp2, Nat.zero_add]
      · rintro m σ' H' hm ⟨hs, g, l, o, s, t, o9, o10, o11, o12, o13, rfl, eg⟩
        walk_at "rd"
        refine r_shr (2 * m) (by omega) ?_
        walk_at "rd"
        rw [dig_int]
        have hd := lt4 (p / 4 ^ m)
        refine r_rng (r_var (by rfl) ?_) mono_var
        refine ⟨p / 4 ^ m % 4, rfl, by omega, fun i σ' H'' => Same H H'' ∧ ∃ (o11 o12 o13 : Option V), σ' = [some (.int n), some (.ref b), some (.int p), some (.int (4 ^ n : Nat)), some (.int (g + part B s t m l o i : Nat)), some (.int l), some (.int o), some (.int (bI s)), some (.int (bI t)), some (.int m), some (.int (p / 4 ^ m % 4 : Nat)), o11, o12, o13], ⟨hs, o11, o12, o13, rfl⟩, ?_, ?_⟩
        · rintro i σ' H2 hi ⟨hs2, o11, o12, o13, rfl⟩
          have hi4 : i < 4 := by omega
          walk_at "rd"
          refine ⟨i, s, t, rfl, hi4, fun a3 H3 na3 s3 e3 => r_unp2 e3 ?_⟩
          walk_at "rd"
          refine r_shl m rfl (by omega) (qx_abs s t hi4) ?_
          walk_at "rd"
          refine r_shl m rfl (by omega) (qy_abs s t hi4) ?_
          walk_at "rd"
          refine r_shl m rfl (by omega) (by decide) ?_
          rw [Int.one_mul]
          walk_at "rd"
          refine ⟨b, B, _, _, _, 2 ^ m, rfl, i2_nat m, two_le (by omega), s3 _ _ (hs2 _ _ hb), ?_⟩
          walk_at "rd"
          have eg2 : ((g + part B s t m l o i : Nat) : Int) + ((sh B (l + qx i s t * 2 ^ m) (o + qy i s t * 2 ^ m) (2 ^ m) : Nat) : Int) = ((g + part B s t m l o (i + 1) : Nat) : Int) := by
            rw [part]
            omega
          rw [eg2]
          exact ⟨hs2.trans s3, _, _, _, rfl⟩
        · rintro σ' H2 ⟨hs2, o11, o12, o13, rfl⟩
          walk_at "rd"
          refine ⟨p / 4 ^ m % 4, s, t, rfl, hd, fun a3 H3 na3 s3 e3 => r_unp2 e3 ?_⟩
          walk_at "rd"
          refine r_shl m rfl (by omega) (qx_abs s t hd) ?_
          walk_at "rd"
          refine r_shl m rfl (by omega) (qy_abs s t hd) ?_
          walk_at "rd"
          refine ⟨p / 4 ^ m % 4, s, t, rfl, hd, fun a4 H4 na4 s4 e4 => r_unp2 e4 ?_⟩
          exact ⟨hs2.trans (s3.trans s4), _, _, _, _, _, _, _, _, _, _, rfl, cnt_turn eg⟩
      · rintro σ' H' ⟨hs, g, l, o, s, t, o9, o10, o11, o12, o13, rfl, eg⟩
        walk_at "rd"
        rw [Nat.pow_zero, Nat.mod_one, show cnt (blk B s t 0 l o) 0 = 0 from rfl, Nat.add_zero] at eg
        rw [← eg] at q
        exact q _ hs
    · walk_at "rd"
      exact .inr (.inl ⟨zn, v, rfl, hz, e⟩)
    · walk_at "rd"
      exact .inr (.inr ⟨n, b, B, rfl, hn, hb, hB, e⟩)
    · walk_at "rd"
      refine .inl ⟨n, b, B, rfl, hn, hB, hb, ?_⟩
      walk_at "rd"
      refine riteD (fun h => e _ (Same.refl _)) (fun h => ?_)
      walk_at "rd"
      refine riteY (by omega) ?_
      exact e _ (Same.refl _)
end
/-! picked -/
theorem sc_picked : FnScope ["folds", "box", "number", "inside", "place", "left", "low", "swapped", "turned", "k", "at", "turn", "many", "right", "up"] ["folds", "box", "number", "inside"] (defScope s_picked) := ⟨rfl, rfl, rfl, by decide +kernel, rfl, by decide +kernel, by decide +kernel⟩
def sp_picked (K : PySem.W.Frag) : Sp := fun vs H Q _ => ∃ (n number : Nat) (zk : Int) (b : Addr) (B : Box) (u : Bool), vs = [.int n, .ref b, .int zk, .bl u] ∧ zk = (number : Int) ∧ n ≤ 60 ∧ H b = some (.tup (bt B)) ∧ number < shu u B 0 0 n ∧
  ∀ p : Nat, p < 4 ^ n → gb u B false false n 0 0 p = true → cnt (gb u B false false n 0 0) p = number → RV (.int p) H Q
section
variable {P : Program} {w : World} {K : PySem.W.Frag} {mg : Str → Option Value} {base : Heap}
theorem ok_picked (T : Txt K mg) : FnOk P w K mg base CX0 2 T.a_picked T.d_picked ["folds", "box", "number", "inside"] (sp_picked K) := by
  refine T.F_picked.ok sc_picked (fun vs H Q E h => ?_) (fun cdv A outer s H vs Q E hr h => ?_)
  · obtain ⟨n, number, zk, b, B, u, rfl, rfl, hn, hb, hk, q⟩ := h
    rfl
  · obtain ⟨n, number, zk, b, B, u, rfl, rfl, hn, hb, hk, q⟩ := h
    refine ⟨_, (pss_cons (ps_set (i := 4) sc_picked.nd rfl (.inl rfl) pe_int)
      (pss_cons (ps_set (i := 5) sc_picked.nd rfl (.inl rfl) pe_int)
      (pss_cons (ps_set (i := 6) sc_picked.nd rfl (.inl rfl) pe_int)
      (pss_cons (ps_set (i := 7) sc_picked.nd rfl (.inl rfl) pe_int)
      (pss_cons (ps_set (i := 8) sc_picked.nd rfl (.inl rfl) pe_int)
      (pss_cons (ps_for PassesOwn.never rfl (pi_revR rfl T.n_reversed (prg_1 rfl T.n_range (pv 0))) (pg_name (i := 9) sc_picked.nd rfl (.inl rfl)) (pss_cons (ps_set (i := 10) sc_picked.nd rfl (.inl rfl) (pe_tup (pa_cons pe_int (pa_cons pe_int (pa_cons pe_int pa_nil)))))
      (pss_cons (ps_for PassesOwn.never rfl (pi_range1 rfl T.n_range (pa_cons pe_int pa_nil)) (pg_name (i := 11) sc_picked.nd rfl (.inl rfl)) (pss_cons (ps_asg (pe_call (ok_quarter_at T) (hr.mono (by decide)) (by rfl) T.m_quarter_at T.F_quarter_at.kp T.b_quarter_at .nil pass0 (pa_cons (pv 11) (pa_cons (pv 7) (pa_cons (pv 8) pa_nil)))) (pg_tup (n := 2) rfl (pgs_cons (pg_name (i := 13) sc_picked.nd rfl (.inl rfl)) (pgs_cons (pg_name (i := 14) sc_picked.nd rfl (.inl rfl)) pgs_nil))))
      (pss_cons (ps_set (i := 10) sc_picked.nd rfl (.inl rfl) (pe_tup (pa_cons (pv 11) (pa_cons (pe_op op_add (pv 5) (pe_op op_shl (pv 13) (pv 9))) (pa_cons (pe_op op_add (pv 6) (pe_op op_shl (pv 14) (pv 9))) pa_nil)))))
      (pss_cons (ps_set (i := 12) sc_picked.nd rfl (.inl rfl) (pe_call (ok_shared T) (hr.mono (by decide)) (by rfl) T.m_shared T.F_shared.kp T.b_shared .nil pass0 (pa_cons (pv 1) (pa_cons (pe_ix (r := rIxT K) ix_tup (pv 10) pe_int (fun _ _ => rfl)) (pa_cons (pe_ix (r := rIxT K) ix_tup (pv 10) pe_int (fun _ _ => rfl)) (pa_cons (pe_op op_shl pe_int (pv 9)) pa_nil))))))
      (pss_cons (ps_if (pt_not (pt_val (pv 3))) (pss_one (ps_set (i := 12) sc_picked.nd rfl (.inl rfl) (pe_op op_sub (pe_op op_shl pe_int (pe_op op_mul pe_int (pv 9))) (pv 12)))) pss_nil)
      (pss_cons (ps_if (pt_cmpR op_lt (pv 2) (pv 12) (nomark _)) (pss_one ps_break) pss_nil)
      (pss_one (ps_aug (i := 2) sc_picked.nd rfl (.inl rfl) (pv 12) ip_sub))))))))
      (pss_cons (ps_set (i := 4) sc_picked.nd rfl (.inl rfl) (pe_op op_add (pe_op op_mul pe_int (pv 4)) (pe_ix (r := rIxT K) ix_tup (pv 10) pe_int (fun _ _ => rfl))))
      (pss_cons (ps_set (i := 5) sc_picked.nd rfl (.inl rfl) (pe_ix (r := rIxT K) ix_tup (pv 10) pe_int (fun _ _ => rfl)))
      (pss_cons (ps_set (i := 6) sc_picked.nd rfl (.inl rfl) (pe_ix (r := rIxT K) ix_tup (pv 10) pe_int (fun _ _ => rfl)))
      (pss_one (ps_asg (pe_call (ok_folded T) (hr.mono (by decide)) (by rfl) T.m_folded T.F_folded.kp T.b_folded .nil pass0 (pa_cons (pe_ix (r := rIxT K) ix_tup (pv 10) pe_int (fun _ _ => rfl)) (pa_cons (pv 7) (pa_cons (pv 8) pa_nil)))) (pg_tup (n := 2) rfl (pgs_cons (pg_name (i := 7) sc_picked.nd rfl (.inl rfl)) (pgs_cons (pg_name (i := 8) sc_picked.nd rfl (.inl rfl)) pgs_nil)))))))))))
      (pss_one (ps_ret (pv 4))))))))), ?_⟩
    walk_at "rd"
    refine r_rev (r_var (by rfl) ?_) mono_var
    refine ⟨n, rfl, by omega, fun m σ' H' => Same H H' ∧ ∃ (place num : Nat) (l o : Int) (s t : Bool) (o9 o10 o11 o12 o13 o14 : Option V), σ' = [some (.int n), some (.ref b), some (.int num), some (.bl u), some (.int place), some (.int l), some (.int o), some (.int (bI s)), some (.int (bI t)), o9, o10, o11, o12, o13, o14] ∧
      Pk u B n number m s t l o place num, ?_, ?_, ?_⟩
    · exact ⟨Same.refl H, 0, number, 0, 0, false, false, none, none, none, none, none, none, rfl, pk_start hk⟩
    · rintro m σ' H' hm ⟨hs, place, num, l, o, s, t, o9, o10, o11, o12, o13, o14, rfl, pk⟩
      walk_at "rd"
      refine n_tup fun t0 H1 nt0 s1 e1 => ?_
      walk_at "rd"
      refine r_rng ?_ mono_c
      refine ⟨4, rfl, by omega, fun i σ' H'' => Same H H'' ∧ gpart u B s t m l o i ≤ num ∧ ∃ (o10 o11 o12 o13 o14 : Option V), σ' = [some (.int n), some (.ref b), some (.int (num - gpart u B s t m l o i : Nat)), some (.bl u), some (.int place), some (.int l), some (.int o), some (.int (bI s)), some (.int (bI t)), some (.int m), o10, o11, o12, o13, o14],
        ⟨hs.trans s1, Nat.zero_le _, some (.ref t0), o11, o12, o13, o14, rfl⟩, ?_, ?_⟩
      · rintro i σ' H2 hi ⟨hs2, hg, o10, o11, o12, o13, o14, rfl⟩
        walk_at "rd"
        refine ⟨i, s, t, rfl, hi, fun a3 H3 na3 s3 e3 => r_unp2 e3 ?_⟩
        walk_at "rd"
        refine r_shl m rfl (by omega) (qx_abs s t hi) ?_
        walk_at "rd"
        refine r_shl m rfl (by omega) (qy_abs s t hi) ?_
        walk_at "rd"
        refine n_tup fun t4 H4 nt4 s4 e4 => ?_
        walk_at "rd"
        refine r_ixT e4 (atI_nat (j := 1) rfl) ?_
        walk_at "rd"
        refine r_ixT e4 (atI_nat (j := 2) rfl) ?_
        walk_at "rd"
        refine r_shl m rfl (by omega) (by decide) ?_
        rw [Int.one_mul]
        walk_at "rd"
        have hs4 := hs2.trans (s3.trans s4)
        refine ⟨b, B, _, _, _, 2 ^ m, rfl, i2_nat m, two_le (by omega), hs4 _ _ hb, ?_⟩
        walk_at "rd"
        have hsl := sh_le B (l + qx i s t * 2 ^ m) (o + qy i s t * 2 ^ m) m
        obtain ⟨w, hw⟩ : ∃ w, w = shu u B (l + qx i s t * 2 ^ m) (o + qy i s t * 2 ^ m) m := ⟨_, rfl⟩
        have hgs : gpart u B s t m l o (i + 1) = gpart u B s t m l o i + w := by rw [gpart, hw]
        refine rite (fun hu => ?_) (fun hu => ?_)
        focus
          walk_at "rd"
          refine r_shl (2 * m) (by omega) (by omega) (by decide) ?_
          rw [Int.one_mul, i4_nat]
          walk_at "rd"
          have hu2 : u = false := by cases u <;> simp_all
          have ew : ((4 ^ m : Nat) : Int) - ((sh B (l + qx i s t * 2 ^ m) (o + qy i s t * 2 ^ m) (2 ^ m) : Nat) : Int) = (w : Int) := by
            rw [hw, hu2]
            show _ = ((4 ^ m - sh B (l + qx i s t * 2 ^ m) (o + qy i s t * 2 ^ m) (2 ^ m) : Nat) : Int)
            omega
          rw [ew]
        rotate_left
        focus
          have hu2 : u = true := by cases u <;> simp_all
          have ew : ((sh B (l + qx i s t * 2 ^ m) (o + qy i s t * 2 ^ m) (2 ^ m) : Nat) : Int) = (w : Int) := by
            rw [hw, hu2]
            rfl
          rw [ew]
        all_goals
          walk_at "rd"
          refine riteD (fun hlt => ?_) (fun hlt => ?_)
          · walk_at "rd"
            refine r_ixT e4 (atI_nat (j := 0) rfl) ?_
            walk_at "rd"
            refine r_ixT e4 (atI_nat (j := 1) rfl) ?_
            walk_at "rd"
            refine r_ixT e4 (atI_nat (j := 2) rfl) ?_
            walk_at "rd"
            refine r_ixT e4 (atI_nat (j := 0) rfl) ?_
            walk_at "rd"
            refine ⟨i, s, t, rfl, hi, fun a5 H5 na5 s5 e5 => r_unp2 e5 ?_⟩
            exact ⟨hs4.trans s5, 4 * place + i, num - gpart u B s t m l o i, _, _, _, _, _, _, _, _, _, _, rfl, pk_turn pk hi hg (by rw [← hw]; omega)⟩
          · walk_at "rd"
            have en : ((num - gpart u B s t m l o i : Nat) : Int) - (w : Int) = ((num - gpart u B s t m l o (i + 1) : Nat) : Int) := by
              rw [hgs]
              omega
            rw [en]
            exact ⟨hs4, by rw [hgs]; omega, _, _, _, _, _, rfl⟩
      · rintro σ' H2 ⟨hs2, hg, o10, o11, o12, o13, o14, rfl⟩
        have := pk_some (s := s) (t := t) pk.1
        omega
    · rintro σ' H' ⟨hs, place, num, l, o, s, t, o9, o10, o11, o12, o13, o14, rfl, pk⟩
      walk_at "rd"
      obtain ⟨h1, h2, h3⟩ := pk_end pk
      exact q place h1 h2 h3 _ hs
end
/-! nth -/
theorem sc_nth : FnScope ["folds", "box", "number"] ["folds", "box", "number"] (defScope s_nth) := ⟨rfl, rfl, rfl, by decide +kernel, rfl, by decide +kernel, by decide +kernel⟩
def spn_nth (K : PySem.W.Frag) : Sp := fun vs H Q _ => ∃ (n k : Nat) (zk : Int) (b : Addr) (B : Box), vs = [.int n, .ref b, .int zk] ∧ zk = (k : Int) ∧ n ≤ 60 ∧ BoxOk B n ∧ H b = some (.tup (bt B)) ∧ k < sh B 0 0 (2 ^ n) ∧
  ∀ p : Nat, p < 4 ^ n → inb B (cx n p) (cy n p) = true → Cb B n p = k → RV (.int p) H Q
def spx_nth {K : PySem.W.Frag} {mg : Str → Option Value} (T : Txt K mg) : Sp := fun vs H Q E => (∃ (zn : Int) (v u : V), vs = [.int zn, v, u] ∧ (zn < 0 ∨ 60 < zn) ∧ RE H E T.c_NoFloor) ∨ (∃ (n : Nat) (b : Addr) (B : Box) (u : V), vs = [.int n, .ref b, u] ∧ n ≤ 60 ∧ H b = some (.tup (bt B)) ∧ ¬ BoxOk B n ∧ RE H E T.c_NoBox) ∨ ∃ (n : Nat) (b : Addr) (B : Box) (zk : Int), vs = [.int n, .ref b, .int zk] ∧ n ≤ 60 ∧ H b = some (.tup (bt B)) ∧ BoxOk B n ∧ (zk < 0 ∨ ((sh B 0 0 (2 ^ n) : Nat) : Int) ≤ zk) ∧ RE H E T.c_NoNumber
def sp_nth {K : PySem.W.Frag} {mg : Str → Option Value} (T : Txt K mg) : Sp := fun vs H Q E => spn_nth K vs H Q E ∨ spx_nth T vs H Q E
section
variable {P : Program} {w : World} {K : PySem.W.Frag} {mg : Str → Option Value} {base : Heap}
theorem ok_nth (T : Txt K mg) : FnOk P w K mg base (L2.CX P w) 3 T.a_nth T.d_nth ["folds", "box", "number"] (sp_nth T) := by
  refine T.F_nth.okX sc_nth (fun vs H Q E h => ?_) (fun cdv A outer s H vs Q E hr h => ?_)
  · rcases h with ⟨n, k, zk, b, B, rfl, rfl, hn, hB, hb, hk, q⟩ | ⟨zn, v, u, rfl, hz, e⟩ | ⟨n, b, B, u, rfl, hn, hb, hB, e⟩ | ⟨n, b, B, zk, rfl, hn, hb, hB, hz, e⟩
    all_goals rfl
  · refine ⟨_, (pss_cons (ps_expr (pe_callSD (ok_looked_at T) (hr.mono (by decide)) (by rfl) T.m_looked_at T.F_looked_at.kp T.b_looked_at .nil (fun σ => passAt (takes_of rfl rfl rfl rfl) σ) (pa_cons (pv 0) (pa_cons (pv 1) pa_nil))))
      (pss_cons (ps_if (PW.pt (pw_or (pt_cmpR op_lt (pv 2) pe_int (nomark _)) (pw_or1 (pt_cmpR op_ge (pv 2) (pe_call (ok_shared T) (hr.mono (by decide)) (by rfl) T.m_shared T.F_shared.kp T.b_shared .nil pass0 (pa_cons (pv 1) (pa_cons pe_int (pa_cons pe_int (pa_cons (pe_op op_shl pe_int (pv 0)) pa_nil))))) (nomark _))))) (pss_one (ps_raise rfl (takes_of rfl rfl rfl rfl) (pmk_own PySem.F.excBase_ValueError T.x_NoNumber T.g_NoNumber T.k_NoNumber (raises_own T.r_NoNumber T.t_NoNumber) rfl))) pss_nil)
      (pss_one (ps_ret (pe_call (ok_picked T) (hr.mono (by decide)) (by rfl) T.m_picked T.F_picked.kp T.b_picked .nil pass0 (pa_cons (pv 0) (pa_cons (pv 1) (pa_cons (pv 2) (pa_cons pe_bl pa_nil))))))))), ?_⟩
    rcases h with ⟨n, k, zk, b, B, rfl, rfl, hn, hB, hb, hk, q⟩ | ⟨zn, v, u, rfl, hz, e⟩ | ⟨n, b, B, u, rfl, hn, hb, hB, e⟩ | ⟨n, b, B, zk, rfl, hn, hb, hB, hz, e⟩
    · walk_at "rd"
      refine .inl ⟨n, b, B, rfl, hn, hB, hb, ?_⟩
      walk_at "rd"
      refine riteO (by omega) ?_
      walk_at "rd"
      refine r_shl n rfl (by omega) (by decide) ?_
      rw [Int.one_mul]
      walk_at "rd"
      refine ⟨b, B, 0, 0, _, 2 ^ n, rfl, i2_nat n, two_le hn, hb, ?_⟩
      walk_at "rd"
      refine riteO (by omega) ?_
      walk_at "rd"
      refine ⟨n, k, _, b, B, true, rfl, rfl, hn, hb, hk, fun p hp h1 h2 => q p hp (gb_in.mp h1) (by rw [← cnt_in]; exact h2)⟩
    · walk_at "rd"
      exact .inr (.inl ⟨zn, v, rfl, hz, e⟩)
    · walk_at "rd"
      exact .inr (.inr ⟨n, b, B, rfl, hn, hb, hB, e⟩)
    · walk_at "rd"
      refine .inl ⟨n, b, B, rfl, hn, hB, hb, ?_⟩
      walk_at "rd"
      refine riteD (fun h => e _ (Same.refl _)) (fun h => ?_)
      walk_at "rd"
      refine r_shl n rfl (by omega) (by decide) ?_
      rw [Int.one_mul]
      walk_at "rd"
      refine ⟨b, B, 0, 0, _, 2 ^ n, rfl, i2_nat n, two_le hn, hb, ?_⟩
      walk_at "rd"
      refine riteY (by omega) ?_
      exact e _ (Same.refl _)
end
/-! next_in -/
theorem sc_next_in : FnScope ["folds", "box", "place", "met"] ["folds", "box", "place"] (defScope s_next_in) := ⟨rfl, rfl, rfl, by decide +kernel, rfl, by decide +kernel, by decide +kernel⟩
def spn_next_in (K : PySem.W.Frag) : Sp := fun vs H Q _ => ∃ (n p : Nat) (zp : Int) (b : Addr) (B : Box), vs = [.int n, .ref b, .int zp] ∧ zp = (p : Int) ∧ n ≤ 60 ∧ p ≤ 4 ^ n ∧ BoxOk B n ∧ H b = some (.tup (bt B)) ∧
  (Cb B n p = sh B 0 0 (2 ^ n) → RV .non H Q) ∧ ∀ r : Nat, p ≤ r → r < 4 ^ n → inb B (cx n r) (cy n r) = true → Cb B n r = Cb B n p → RV (.int r) H Q
def spx_next_in {K : PySem.W.Frag} {mg : Str → Option Value} (T : Txt K mg) : Sp := fun vs H Q E => (∃ (zn : Int) (v u : V), vs = [.int zn, v, u] ∧ (zn < 0 ∨ 60 < zn) ∧ RE H E T.c_NoFloor) ∨ (∃ (n : Nat) (b : Addr) (B : Box) (u : V), vs = [.int n, .ref b, u] ∧ n ≤ 60 ∧ H b = some (.tup (bt B)) ∧ ¬ BoxOk B n ∧ RE H E T.c_NoBox) ∨ ∃ (n : Nat) (b : Addr) (B : Box) (zp : Int), vs = [.int n, .ref b, .int zp] ∧ n ≤ 60 ∧ H b = some (.tup (bt B)) ∧ BoxOk B n ∧ (zp < 0 ∨ ((4 ^ n : Nat) : Int) < zp) ∧ RE H E T.c_NoPlace
def sp_next_in {K : PySem.W.Frag} {mg : Str → Option Value} (T : Txt K mg) : Sp := fun vs H Q E => spn_next_in K vs H Q E ∨ spx_next_in T vs H Q E
section
variable {P : Program} {w : World} {K : PySem.W.Frag} {mg : Str → Option Value} {base : Heap}
theorem ok_next_in (T : Txt K mg) : FnOk P w K mg base (L2.CX P w) 4 T.a_next_in T.d_next_in ["folds", "box", "place"] (sp_next_in T) := by
  refine T.F_next_in.okX sc_next_in (fun vs H Q E h => ?_) (fun cdv A outer s H vs Q E hr h => ?_)
  · rcases h with ⟨n, p, zp, b, B, rfl, rfl, hn, hp, hB, hb, q1, q2⟩ | ⟨zn, v, u, rfl, hz, e⟩ | ⟨n, b, B, u, rfl, hn, hb, hB, e⟩ | ⟨n, b, B, zp, rfl, hn, hb, hB, hz, e⟩
    all_goals rfl
  · refine ⟨_, (pss_cons (ps_set (i := 3) sc_next_in.nd rfl (.inl rfl) (pe_callSD (ok_counted T) (hr.mono (by decide)) (by rfl) T.m_counted T.F_counted.kp T.b_counted .nil (fun σ => passAt (takes_of rfl rfl rfl rfl) σ) (pa_cons (pv 0) (pa_cons (pv 1) (pa_cons (pv 2) pa_nil)))))
      (pss_cons (ps_if (pt_cmpR op_eq (pv 3) (pe_call (ok_shared T) (hr.mono (by decide)) (by rfl) T.m_shared T.F_shared.kp T.b_shared .nil pass0 (pa_cons (pv 1) (pa_cons pe_int (pa_cons pe_int (pa_cons (pe_op op_shl pe_int (pv 0)) pa_nil))))) (nomark _)) (pss_one (ps_ret pe_non)) pss_nil)
      (pss_one (ps_ret (pe_call (ok_picked T) (hr.mono (by decide)) (by rfl) T.m_picked T.F_picked.kp T.b_picked .nil pass0 (pa_cons (pv 0) (pa_cons (pv 1) (pa_cons (pv 3) (pa_cons pe_bl pa_nil))))))))), ?_⟩
    rcases h with ⟨n, p, zp, b, B, rfl, rfl, hn, hp, hB, hb, q1, q2⟩ | ⟨zn, v, u, rfl, hz, e⟩ | ⟨n, b, B, u, rfl, hn, hb, hB, e⟩ | ⟨n, b, B, zp, rfl, hn, hb, hB, hz, e⟩
    · walk_at "rd"
      refine .inl ⟨n, p, _, b, B, rfl, rfl, hn, hp, hB, hb, fun H1 s1 => ?_⟩
      walk_at "rd"
      refine r_shl n rfl (by omega) (by decide) ?_
      rw [Int.one_mul]
      walk_at "rd"
      refine ⟨b, B, 0, 0, _, 2 ^ n, rfl, i2_nat n, two_le hn, s1 _ _ hb, ?_⟩
      walk_at "rd"
      have cl := Cb_le (B := B) hp
      refine riteD (fun h => ?_) (fun h => ?_)
      · walk_at "rd"
        exact q1 (by omega) _ s1
      walk_at "rd"
      refine ⟨n, Cb B n p, _, b, B, true, rfl, rfl, hn, s1 _ _ hb, (show _ < sh B 0 0 (2 ^ n) by omega), fun r hr h1 h2 H2 s2 => ?_⟩
      have h3 : Cb B n r = Cb B n p := by rw [← cnt_in]; exact h2
      refine q2 r (next_ge (f := gb true B false false n 0 0) h1 ?_) hr (gb_in.mp h1) h3 _ (s1.trans s2)
      rw [cnt_in, cnt_in]
      exact h3
    · walk_at "rd"
      exact .inr (.inl ⟨zn, v, u, rfl, hz, e⟩)
    · walk_at "rd"
      exact .inr (.inr (.inl ⟨n, b, B, u, rfl, hn, hb, hB, e⟩))
    · walk_at "rd"
      exact .inr (.inr (.inr ⟨n, b, B, zp, rfl, hn, hb, hB, hz, e⟩))
end
/-! next_out -/
theorem sc_next_out : FnScope ["folds", "box", "place", "missed", "side"] ["folds", "box", "place"] (defScope s_next_out) := ⟨rfl, rfl, rfl, by decide +kernel, rfl, by decide +kernel, by decide +kernel⟩
def spn_next_out (K : PySem.W.Frag) : Sp := fun vs H Q _ => ∃ (n p : Nat) (zp : Int) (b : Addr) (B : Box), vs = [.int n, .ref b, .int zp] ∧ zp = (p : Int) ∧ n ≤ 60 ∧ p ≤ 4 ^ n ∧ BoxOk B n ∧ H b = some (.tup (bt B)) ∧
  (p - Cb B n p = 4 ^ n - sh B 0 0 (2 ^ n) → RV .non H Q) ∧ ∀ r : Nat, p ≤ r → r < 4 ^ n → inb B (cx n r) (cy n r) = false → r - Cb B n r = p - Cb B n p → RV (.int r) H Q
def spx_next_out {K : PySem.W.Frag} {mg : Str → Option Value} (T : Txt K mg) : Sp := fun vs H Q E => (∃ (zn : Int) (v u : V), vs = [.int zn, v, u] ∧ (zn < 0 ∨ 60 < zn) ∧ RE H E T.c_NoFloor) ∨ (∃ (n : Nat) (b : Addr) (B : Box) (u : V), vs = [.int n, .ref b, u] ∧ n ≤ 60 ∧ H b = some (.tup (bt B)) ∧ ¬ BoxOk B n ∧ RE H E T.c_NoBox) ∨ ∃ (n : Nat) (b : Addr) (B : Box) (zp : Int), vs = [.int n, .ref b, .int zp] ∧ n ≤ 60 ∧ H b = some (.tup (bt B)) ∧ BoxOk B n ∧ (zp < 0 ∨ ((4 ^ n : Nat) : Int) < zp) ∧ RE H E T.c_NoPlace
def sp_next_out {K : PySem.W.Frag} {mg : Str → Option Value} (T : Txt K mg) : Sp := fun vs H Q E => spn_next_out K vs H Q E ∨ spx_next_out T vs H Q E
section
variable {P : Program} {w : World} {K : PySem.W.Frag} {mg : Str → Option Value} {base : Heap}
theorem ok_next_out (T : Txt K mg) : FnOk P w K mg base (L2.CX P w) 4 T.a_next_out T.d_next_out ["folds", "box", "place"] (sp_next_out T) := by
  refine T.F_next_out.okX sc_next_out (fun vs H Q E h => ?_) (fun cdv A outer s H vs Q E hr h => ?_)
  · rcases h with ⟨n, p, zp, b, B, rfl, rfl, hn, hp, hB, hb, q1, q2⟩ | ⟨zn, v, u, rfl, hz, e⟩ | ⟨n, b, B, u, rfl, hn, hb, hB, e⟩ | ⟨n, b, B, zp, rfl, hn, hb, hB, hz, e⟩
    all_goals rfl
  · refine ⟨_, (pss_cons (ps_set (i := 3) sc_next_out.nd rfl (.inl rfl) (pe_op op_sub (pv 2) (pe_callSD (ok_counted T) (hr.mono (by decide)) (by rfl) T.m_counted T.F_counted.kp T.b_counted .nil (fun σ => passAt (takes_of rfl rfl rfl rfl) σ) (pa_cons (pv 0) (pa_cons (pv 1) (pa_cons (pv 2) pa_nil))))))
      (pss_cons (ps_set (i := 4) sc_next_out.nd rfl (.inl rfl) (pe_op op_shl pe_int (pv 0)))
      (pss_cons (ps_if (pt_cmpR op_eq (pv 3) (pe_op op_sub (pe_op op_mul (pv 4) (pv 4)) (pe_call (ok_shared T) (hr.mono (by decide)) (by rfl) T.m_shared T.F_shared.kp T.b_shared .nil pass0 (pa_cons (pv 1) (pa_cons pe_int (pa_cons pe_int (pa_cons (pv 4) pa_nil)))))) (nomark _)) (pss_one (ps_ret pe_non)) pss_nil)
      (pss_one (ps_ret (pe_call (ok_picked T) (hr.mono (by decide)) (by rfl) T.m_picked T.F_picked.kp T.b_picked .nil pass0 (pa_cons (pv 0) (pa_cons (pv 1) (pa_cons (pv 3) (pa_cons pe_bl pa_nil)))))))))), ?_⟩
    rcases h with ⟨n, p, zp, b, B, rfl, rfl, hn, hp, hB, hb, q1, q2⟩ | ⟨zn, v, u, rfl, hz, e⟩ | ⟨n, b, B, u, rfl, hn, hb, hB, e⟩ | ⟨n, b, B, zp, rfl, hn, hb, hB, hz, e⟩
    · have hS1 := i2_pos n
      have hS2 : (2 : Int) ^ n < 2 ^ 64 := i2_lt (by omega)
      walk_at "rd"
      refine .inl ⟨n, p, _, b, B, rfl, rfl, hn, hp, hB, hb, fun H1 s1 => ?_⟩
      walk_at "rd"
      refine r_shl n rfl (by omega) (by decide) ?_
      rw [Int.one_mul]
      walk_at "rd"
      rw [sq_int]
      refine ⟨b, B, 0, 0, _, 2 ^ n, rfl, i2_nat n, two_le hn, s1 _ _ hb, ?_⟩
      walk_at "rd"
      have cl := Cb_le (B := B) hp
      have cp := cnt_le (blk B false false n 0 0) p
      have co := cnt_out B n p
      have sl := sh_le B 0 0 n
      have cm : cnt (gb false B false false n 0 0) p ≤ 4 ^ n - sh B 0 0 (2 ^ n) := by
        have := cnt_mono (gb false B false false n 0 0) hp
        rw [gfull] at this
        exact this
      refine riteD (fun h => ?_) (fun h => ?_)
      · walk_at "rd"
        exact q1 (by omega) _ s1
      walk_at "rd"
      refine ⟨n, p - Cb B n p, _, b, B, false, rfl, by omega, hn, s1 _ _ hb, (show _ < 4 ^ n - sh B 0 0 (2 ^ n) by omega), fun r hr h1 h2 H2 s2 => ?_⟩
      have co2 := cnt_out B n r
      refine q2 r (next_ge (f := gb false B false false n 0 0) h1 (by omega)) hr (gb_out.mp h1) (by omega) _ (s1.trans s2)
    · walk_at "rd"
      exact .inr (.inl ⟨zn, v, u, rfl, hz, e⟩)
    · walk_at "rd"
      exact .inr (.inr (.inl ⟨n, b, B, u, rfl, hn, hb, hB, e⟩))
    · walk_at "rd"
      exact .inr (.inr (.inr ⟨n, b, B, zp, rfl, hn, hb, hB, hz, e⟩))
end
/-! stretches -/
theorem sc_stretches : FnScope ["folds", "box", "most", "many", "found", "first", "behind"] ["folds", "box", "most"] (defScope s_stretches) := ⟨rfl, rfl, rfl, by decide +kernel, rfl, by decide +kernel, by decide +kernel⟩
/-- the next place in the box from c on, as it is told -/
def Fst (B : Box) (n c : Nat) (v : V) : Prop := (v = .non ∧ Cb B n c = sh B 0 0 (2 ^ n)) ∨ ∃ f : Nat, v = .int f ∧ NIn B n c f
def spn_stretches {K : PySem.W.Frag} {mg : Str → Option Value} (T : Txt K mg) : Sp := fun vs H Q E => ∃ (n : Nat) (b : Addr) (B : Box) (mo : Nat), vs = [.int n, .ref b, .int mo] ∧ n ≤ 60 ∧ BoxOk B n ∧ H b = some (.tup (bt B)) ∧ mo ≤ 100 ∧
  (∀ (ps : List (Nat × Nat)) (d : Nat) (L : Addr) (H' : Hp), Chain B n 0 ps d → Cb B n d = sh B 0 0 (2 ^ n) → ps.length ≤ mo → Same H H' → Prs H' L ps → Q (.ref L) H') ∧
  (∀ (ps : List (Nat × Nat)) (d f : Nat) (H' : Hp), Chain B n 0 ps d → NIn B n d f → ps.length = mo → Same H H' → E (.ref T.c_TooMany) none H')
def spx_stretches {K : PySem.W.Frag} {mg : Str → Option Value} (T : Txt K mg) : Sp := fun vs H Q E => (∃ (zn : Int) (v u : V), vs = [.int zn, v, u] ∧ (zn < 0 ∨ 60 < zn) ∧ RE H E T.c_NoFloor) ∨ (∃ (n : Nat) (b : Addr) (B : Box) (u : V), vs = [.int n, .ref b, u] ∧ n ≤ 60 ∧ H b = some (.tup (bt B)) ∧ ¬ BoxOk B n ∧ RE H E T.c_NoBox) ∨ ∃ (n : Nat) (b : Addr) (B : Box) (zk : Int), vs = [.int n, .ref b, .int zk] ∧ n ≤ 60 ∧ H b = some (.tup (bt B)) ∧ BoxOk B n ∧ (zk < 0 ∨ 100 < zk) ∧ RE H E T.c_NoNumber
def sp_stretches {K : PySem.W.Frag} {mg : Str → Option Value} (T : Txt K mg) : Sp := fun vs H Q E => spn_stretches T vs H Q E ∨ spx_stretches T vs H Q E
section
variable {P : Program} {w : World} {K : PySem.W.Frag} {mg : Str → Option Value} {base : Heap}
theorem ok_stretches (T : Txt K mg) : FnOk P w K mg base (L2.CX P w) 5 T.a_stretches T.d_stretches ["folds", "box", "most"] (sp_stretches T) := by
  refine T.F_stretches.ok (CX := (L2.CX P w)) sc_stretches (fun vs H Q E h => ?_) (fun cdv A outer s H vs Q E hr h => ?_)
  · rcases h with ⟨n, b, B, mo, rfl, hn, hB, hb, hm, q1, q2⟩ | ⟨zn, v, u, rfl, hz, e⟩ | ⟨n, b, B, u, rfl, hn, hb, hB, e⟩ | ⟨n, b, B, zk, rfl, hn, hb, hB, hz, e⟩
    all_goals rfl
  · refine ⟨_, (pss_cons (ps_set (i := 3) sc_stretches.nd rfl (.inl rfl) (pe_callSD (ok_looked_at T) (hr.mono (by decide)) (by rfl) T.m_looked_at T.F_looked_at.kp T.b_looked_at .nil (fun σ => passAt (takes_of rfl rfl rfl rfl) σ) (pa_cons (pv 0) (pa_cons (pv 1) pa_nil))))
      (pss_cons (ps_if (PW.pt (pw_or (pt_cmpR op_lt (pv 2) pe_int (nomark _)) (pw_or1 (pt_cmpR op_gt (pv 2) (pe_glob (v := .int 100) rfl T.g_MOST_TOLD.choose_spec ⟨_, rfl⟩) (nomark _))))) (pss_one (ps_raise rfl (takes_of rfl rfl rfl rfl) (pmk_own PySem.F.excBase_ValueError T.x_NoNumber T.g_NoNumber T.k_NoNumber (raises_own T.r_NoNumber T.t_NoNumber) rfl))) pss_nil)
      (pss_cons (ps_set (i := 4) sc_stretches.nd rfl (.inl rfl) (pe_lst pa_nil))
      (Evl.pss_cut (ps_set (i := 5) sc_stretches.nd rfl (.inl rfl) (pe_callSD (ok_next_in T) (hr.mono (by decide)) (by rfl) T.m_next_in T.F_next_in.kp T.b_next_in .nil (fun σ => passAt (takes_of rfl rfl rfl rfl) σ) (pa_cons (pv 0) (pa_cons (pv 1) (pa_cons pe_int pa_nil)))))
      (pss_cons (ps_while (passes_of rfl) (pt_cmpR op_notN (pv 5) pe_non (nomark _)) (pss_cons (ps_if (pt_cmpR op_eq (pe_callB call_len_seq (by rfl) T.n_len PySem.boot_len (pa_cons (pv 4) pa_nil)) (pv 2) (nomark _)) (pss_one (ps_raise rfl (takes_of rfl rfl rfl rfl) (pmk_own PySem.F.excBase_ValueError T.x_TooMany T.g_TooMany T.k_TooMany (raises_own T.r_TooMany T.t_TooMany) rfl))) pss_nil)
      (Evl.pss_cut (ps_set (i := 6) sc_stretches.nd rfl (.inl rfl) (pe_callSD (ok_next_out T) (hr.mono (by decide)) (by rfl) T.m_next_out T.F_next_out.kp T.b_next_out .nil (fun σ => passAt (takes_of rfl rfl rfl rfl) σ) (pa_cons (pv 0) (pa_cons (pv 1) (pa_cons (pv 5) pa_nil)))))
      (Evl.pss_cut (ps_if (pt_cmpR op_isN (pv 6) pe_non (nomark _)) (pss_one (ps_set (i := 6) sc_stretches.nd rfl (.inl rfl) (pv 3))) pss_nil)
      (pss_cons (ps_expr (pe_bm PySem.F.plainAttrs_list PySem.F.slot_list_append PySem.F.type_list_append mt_append (pv 4) (pa_cons (pe_tup (pa_cons (pv 5) (pa_cons (pe_op op_sub (pv 6) pe_int) pa_nil))) pa_nil)))
      (pss_one (ps_set (i := 5) sc_stretches.nd rfl (.inl rfl) (pe_callSD (ok_next_in T) (hr.mono (by decide)) (by rfl) T.m_next_in T.F_next_in.kp T.b_next_in .nil (fun σ => passAt (takes_of rfl rfl rfl rfl) σ) (pa_cons (pv 0) (pa_cons (pv 1) (pa_cons (pv 6) pa_nil)))))))))))
      (pss_one (ps_ret (pv 4)))))))), ?_⟩
    rcases h with ⟨n, b, B, mo, rfl, hn, hB, hb, hm, q1, q2⟩ | ⟨zn, v, u, rfl, hz, e⟩ | ⟨n, b, B, u, rfl, hn, hb, hB, e⟩ | ⟨n, b, B, zk, rfl, hn, hb, hB, hz, e⟩
    · walk_at "rd"
      refine .inl ⟨n, b, B, rfl, hn, hB, hb, ?_⟩
      walk_at "rd"
      refine riteO (by omega) ?_
      walk_at "rd"
      refine riteO (by omega) ?_
      walk_at "rd"
      refine n_lst fun L H1 nL s1 e1 => ?_
      walk_at "rd"
      refine ⟨fun σ' H' => Same H1 H' ∧ ∃ v, σ' = [some (.int n), some (.ref b), some (.int mo), some (.int (4 ^ n : Nat)), some (.ref L), some v, none] ∧ Fst B n 0 v, ?_, ?_⟩
      · walk_at "rd"
        refine .inl ⟨n, 0, _, b, B, rfl, rfl, hn, Nat.zero_le _, hB, s1 _ _ hb, fun hno H2 s2 => ?_, fun r hr1 hr2 hr3 hr4 H2 s2 => ?_⟩
        · exact ⟨s2, _, rfl, .inl ⟨rfl, hno⟩⟩
        · exact ⟨s2, _, rfl, .inr ⟨r, rfl, hr1, hr2, hr3, hr4⟩⟩
      rintro σ' H' ⟨s2, v, rfl, hv⟩
      refine r_seq ?_
      refine n_while (fun m σ' H' => Same H H' ∧ ∃ (ps : List (Nat × Nat)) (c : Nat) (v : V) (o6 : Option V), σ' = [some (.int n), some (.ref b), some (.int mo), some (.int (4 ^ n : Nat)), some (.ref L), some v, o6] ∧ Prs H' L ps ∧ Chain B n 0 ps c ∧ c ≤ 4 ^ n ∧ ps.length ≤ mo ∧ Fst B n c v ∧ m = 4 ^ n - c) (4 ^ n)
        ⟨s1.trans s2, [], 0, v, none, rfl, Prs.nil (s2 _ _ e1), rfl, Nat.zero_le _, Nat.zero_le _, hv, rfl⟩ ?_
      rintro m σ' H3 ⟨s3, ps, c, v, o6, rfl, hps, hch, hc, hlen, hv, rfl⟩
      walk_at "rd"
      refine ⟨rfl, ?_⟩
      rcases hv with ⟨rfl, hA⟩ | ⟨f, rfl, hf⟩
      · walk_at "rd"
        refine riteNO rfl ?_
        walk_at "rd"
        exact q1 ps c L _ hch hA hlen s3 hps
      walk_at "rd"
      refine riteNY (fun z => nomatch z) ?_
      refine ⟨_, fun _ _ z => z, ?_⟩
      walk_at "rd"
      obtain ⟨ts, e3, l3, f3⟩ := hps
      refine ⟨L, _, rfl, .inl (.inl (.inl e3)), ?_⟩
      walk_at "rd"
      rw [List.length_map, l3]
      refine riteD (fun hq => ?_) (fun hq => ?_)
      · exact q2 ps c f _ hch hf (by omega) s3
      walk_at "rd"
      have hf4 := hf.2.1
      refine ⟨fun σ' H' => Same H3 H' ∧ ∃ v e, σ' = [some (.int n), some (.ref b), some (.int mo), some (.int (4 ^ n : Nat)), some (.ref L), some (.int f), some v] ∧ NOut B n f e ∧ ((v = .non ∧ e = 4 ^ n) ∨ v = .int e), ?_, ?_⟩
      · walk_at "rd"
        refine .inl ⟨n, f, _, b, B, rfl, rfl, hn, Nat.le_of_lt hf4, hB, s3 _ _ hb, fun hno H4 s4 => ?_, fun r hr1 hr2 hr3 hr4 H4 s4 => ?_⟩
        · exact ⟨s4, _, _, rfl, NOut.of_none hf4 hno, .inl ⟨rfl, rfl⟩⟩
        · exact ⟨s4, _, _, rfl, NOut.of_some hf.2.2.1 hr1 hr2 hr3 hr4, .inr rfl⟩
      rintro σ' H4 ⟨s4, v, e, rfl, hout, hv⟩
      refine ⟨fun σ' H' => H' = H4 ∧ σ' = [some (.int n), some (.ref b), some (.int mo), some (.int (4 ^ n : Nat)), some (.ref L), some (.int f), some (.int e)], ?_, ?_⟩
      · walk_at "rd"
        refine ⟨rfl, ?_⟩
        rcases hv with ⟨rfl, rfl⟩ | rfl
        · walk_at "rd"
          refine riteY rfl ?_
          walk_at "rd"
          exact ⟨rfl, rfl⟩
        · walk_at "rd"
          refine riteO (fun z => nomatch z) ?_
          walk_at "rd"
          exact ⟨rfl, rfl⟩
      rintro σ' H5 ⟨rfl, rfl⟩
      walk_at "rd"
      have e4 := s4 _ _ e3
      refine ⟨.inl ⟨rfl, _, .inl (.inl e4)⟩, ?_⟩
      walk_at "rd"
      refine n_tup fun t H6 nt s6 e6 => ?_
      walk_at "rd"
      have e6' := s6 _ _ e4
      have he := hout.1
      rw [show (e : Int) - 1 = ((e - 1 : Nat) : Int) by omega] at e6
      refine ⟨L, _, _, rfl, rfl, e6', ?_, ?_⟩
      · rw [List.length_map, l3]
        exact small1000 (by omega)
      walk_at "rd"
      have nLH : H L = none := nL
      have s7 := same_app (o := .lst (ts.map V.ref ++ [.ref t])) (s3.trans (s4.trans s6)) nLH
      have hp7 := Prs.snoc (p := (f, e - 1)) e6' l3 (fun i t p a b => s6 _ _ (s4 _ _ (f3 i t p a b))) e6
      have hch7 := hch.snoc hf hout
      refine .inl ⟨n, e, _, b, B, rfl, rfl, hn, hout.2.1, hB, s7 _ _ hb, fun hno H8 s8 => ?_, fun r hr1 hr2 hr3 hr4 H8 s8 => ?_⟩
      · refine ⟨4 ^ n - e, by have := hf.1; omega, s7.trans s8, ps ++ [(f, e - 1)], e, _, _, rfl, hp7.same s8, hch7, hout.2.1, ?_, .inl ⟨rfl, hno⟩, rfl⟩
        rw [List.length_append]
        show ps.length + 1 ≤ mo
        omega
      · refine ⟨4 ^ n - e, by have := hf.1; omega, s7.trans s8, ps ++ [(f, e - 1)], e, _, _, rfl, hp7.same s8, hch7, hout.2.1, ?_, .inr ⟨r, rfl, hr1, hr2, hr3, hr4⟩, rfl⟩
        rw [List.length_append]
        show ps.length + 1 ≤ mo
        omega
    · walk_at "rd"
      exact .inr (.inl ⟨zn, v, rfl, hz, e⟩)
    · walk_at "rd"
      exact .inr (.inr ⟨n, b, B, rfl, hn, hb, hB, e⟩)
    · walk_at "rd"
      refine .inl ⟨n, b, B, rfl, hn, hB, hb, ?_⟩
      walk_at "rd"
      refine riteD (fun h => e _ (Same.refl _)) (fun h => ?_)
      walk_at "rd"
      refine riteY (by omega) ?_
      exact e _ (Same.refl _)
end
/-! square_at -/
theorem sc_square_at : FnScope ["folds", "place", "size", "x", "y", "left", "low", "broad"] ["folds", "place", "size"] (defScope s_square_at) := ⟨rfl, rfl, rfl, by decide +kernel, rfl, by decide +kernel, by decide +kernel⟩
def spn_square_at (K : PySem.W.Frag) : Sp := fun vs H Q _ => ∃ (n p k : Nat), vs = [.int n, .int p, .int k] ∧ n ≤ 60 ∧ p < 4 ^ n ∧ k ≤ n ∧
  RT [.int (cx n p / 2 ^ k * 2 ^ k : Nat), .int (cy n p / 2 ^ k * 2 ^ k : Nat), .int ((cx n p / 2 ^ k * 2 ^ k : Nat) + 2 ^ k - 1), .int ((cy n p / 2 ^ k * 2 ^ k : Nat) + 2 ^ k - 1)] H Q
theorem floor_int (x k : Nat) : (x : Int) / 2 ^ k * 2 ^ k = ((x / 2 ^ k * 2 ^ k : Nat) : Int) := by
  rw [i2_nat, Int.natCast_mul, Int.natCast_ediv]
theorem floor_abs {x k n : Nat} (hx : x < 2 ^ n) (hn : n ≤ 60) : ((x : Int) / 2 ^ k).natAbs < 2 ^ 64 := by
  rw [i2_nat, ← Int.natCast_ediv, Int.natAbs_natCast]
  exact Nat.lt_of_le_of_lt (Nat.div_le_self _ _) (Nat.lt_trans hx (n2_lt (by omega)))
def spx_square_at {K : PySem.W.Frag} {mg : Str → Option Value} (T : Txt K mg) : Sp := fun vs H Q E => (∃ (zn : Int) (v u : V), vs = [.int zn, v, u] ∧ (zn < 0 ∨ 60 < zn) ∧ RE H E T.c_NoFloor) ∨ (∃ (n : Nat) (zp : Int) (u : V), vs = [.int n, .int zp, u] ∧ n ≤ 60 ∧ (zp < 0 ∨ ((4 ^ n : Nat) : Int) ≤ zp) ∧ RE H E T.c_NoPlace) ∨ ∃ (n p : Nat) (zp zk : Int), vs = [.int n, .int zp, .int zk] ∧ zp = (p : Int) ∧ n ≤ 60 ∧ p < 4 ^ n ∧ (zk < 0 ∨ (n : Int) < zk) ∧ RE H E T.c_NoSquare
def sp_square_at {K : PySem.W.Frag} {mg : Str → Option Value} (T : Txt K mg) : Sp := fun vs H Q E => spn_square_at K vs H Q E ∨ spx_square_at T vs H Q E
section
variable {P : Program} {w : World} {K : PySem.W.Frag} {mg : Str → Option Value} {base : Heap}
theorem ok_square_at (T : Txt K mg) : FnOk P w K mg base (L2.CX P w) 3 T.a_square_at T.d_square_at ["folds", "place", "size"] (sp_square_at T) := by
  refine T.F_square_at.okX sc_square_at (fun vs H Q E h => ?_) (fun cdv A outer s H vs Q E hr h => ?_)
  · rcases h with ⟨n, p, k, rfl, hn, hp, hk, q⟩ | ⟨zn, v, u, rfl, hz, e⟩ | ⟨n, zp, u, rfl, hn, hz, e⟩ | ⟨n, p, zp, zk, rfl, rfl, hn, hp, hz, e⟩
    all_goals rfl
  · refine ⟨_, (pss_cons (ps_asg (pe_callSD (ok_cell_at T) (hr.mono (by decide)) (by rfl) T.m_cell_at T.F_cell_at.kp T.b_cell_at .nil (fun σ => passAt (takes_of rfl rfl rfl rfl) σ) (pa_cons (pv 0) (pa_cons (pv 1) pa_nil))) (pg_tup (n := 2) rfl (pgs_cons (pg_name (i := 3) sc_square_at.nd rfl (.inl rfl)) (pgs_cons (pg_name (i := 4) sc_square_at.nd rfl (.inl rfl)) pgs_nil))))
      (pss_cons (ps_if (PW.pt (pw_or (pt_cmpR op_lt (pv 2) pe_int (nomark _)) (pw_or1 (pt_cmpR op_gt (pv 2) (pv 0) (nomark _))))) (pss_one (ps_raise rfl (takes_of rfl rfl rfl rfl) (pmk_own PySem.F.excBase_ValueError T.x_NoSquare T.g_NoSquare T.k_NoSquare (raises_own T.r_NoSquare T.t_NoSquare) rfl))) pss_nil)
      (pss_cons (ps_set (i := 5) sc_square_at.nd rfl (.inl rfl) (pe_op op_shl (pe_op op_shr (pv 3) (pv 2)) (pv 2)))
      (pss_cons (ps_set (i := 6) sc_square_at.nd rfl (.inl rfl) (pe_op op_shl (pe_op op_shr (pv 4) (pv 2)) (pv 2)))
      (pss_cons (ps_set (i := 7) sc_square_at.nd rfl (.inl rfl) (pe_op op_shl pe_int (pv 2)))
      (pss_one (ps_ret (pe_tup (pa_cons (pv 5) (pa_cons (pv 6) (pa_cons (pe_op op_sub (pe_op op_add (pv 5) (pv 7)) pe_int) (pa_cons (pe_op op_sub (pe_op op_add (pv 6) (pv 7)) pe_int) pa_nil)))))))))))), ?_⟩
    rcases h with ⟨n, p, k, rfl, hn, hp, hk, q⟩ | ⟨zn, v, u, rfl, hz, e⟩ | ⟨n, zp, u, rfl, hn, hz, e⟩ | ⟨n, p, zp, zk, rfl, rfl, hn, hp, hz, e⟩
    · have bx : cx n p < 2 ^ n := wx_lt n false false p
      have by' : cy n p < 2 ^ n := wy_lt n false false p
      walk_at "rd"
      refine .inl ⟨n, p, _, _, rfl, rfl, rfl, hn, hp, fun a H1 na s1 e1 => r_unp2 e1 ?_⟩
      walk_at "rd"
      refine riteO (by omega) ?_
      walk_at "rd"
      refine riteO (by omega) ?_
      walk_at "rd"
      refine r_shr k rfl ?_
      walk_at "rd"
      refine r_shl k rfl (by omega) (floor_abs bx hn) ?_
      walk_at "rd"
      refine r_shr k rfl ?_
      walk_at "rd"
      refine r_shl k rfl (by omega) (floor_abs by' hn) ?_
      walk_at "rd"
      refine r_shl k rfl (by omega) (by decide) ?_
      rw [Int.one_mul, floor_int, floor_int]
      walk_at "rd"
      exact n_tup fun b H2 nb s2 e2 => q b H2 (s1.free nb) (s1.trans s2) e2
    · walk_at "rd"
      exact .inr (.inl ⟨zn, v, rfl, hz, e⟩)
    · walk_at "rd"
      exact .inr (.inr ⟨n, zp, rfl, hn, hz, e⟩)
    · walk_at "rd"
      refine .inl ⟨n, p, _, _, rfl, rfl, rfl, hn, hp, fun a H1 na s1 e1 => r_unp2 e1 ?_⟩
      walk_at "rd"
      refine riteD (fun h => ?_) (fun h => ?_)
      · exact e _ s1
      walk_at "rd"
      refine riteY (by omega) ?_
      exact e _ s1
end
/-! _law_cell_at -/
theorem sc__law_cell_at : FnScope ["_law_script", "_law_k"] ["_law_script", "_law_k"] (defScope s__law_cell_at) := ⟨rfl, rfl, rfl, by decide +kernel, rfl, by decide +kernel, by decide +kernel⟩
/-- an item of the script, or 0: of at most 2 ^ 20 bits -/
def sp__law_cell_at (K : PySem.W.Frag) : Sp := fun vs H Q _ => ∃ (a : Addr) (ns : List Int) (k : Nat), vs = [.ref a, .int k] ∧ SqL K H a (ns.map V.int) ∧ (∀ z ∈ ns, Big z) ∧ ∀ z, Big z → Q (.int z) H
section
variable {P : Program} {w : World} {K : PySem.W.Frag} {mg : Str → Option Value} {base : Heap}
theorem ok__law_cell_at (T : Txt K mg) : FnOk P w K mg base CX0 1 T.a__law_cell_at T.d__law_cell_at ["_law_script", "_law_k"] (sp__law_cell_at K) := by
  refine T.F__law_cell_at.ok sc__law_cell_at (fun vs H Q E h => ?_) (fun cdv A outer s H vs Q E hr h => ?_)
  · obtain ⟨a, ns, k, rfl, hS, hb, q⟩ := h
    rfl
  · obtain ⟨a, ns, k, rfl, hS, hb, q⟩ := h
    refine ⟨_, (pss_cons (ps_if (pt_cmpR op_lt (pv 1) (pe_callB call_len_seq (by rfl) T.n_len PySem.boot_len (pa_cons (pv 0) pa_nil)) (nomark _)) (pss_one (ps_ret (pe_ix (r := rIxL K) ix_list (pv 0) (pv 1) (fun _ _ => rfl)))) pss_nil)
      (pss_one (ps_ret pe_int))), ?_⟩
    walk_at "rd"
    refine ⟨a, _, rfl, .inl hS, ?_⟩
    walk_at "rd"
    rw [List.length_map]
    refine riteD (fun h => ?_) (fun h => ?_)
    · have hk : k < ns.length := by omega
      walk_at "rd"
      refine r_ixL (v := .int ns[k]) hS (atI_nat ?_) ?_
      · rw [List.getElem?_map, List.getElem?_eq_getElem hk]
        rfl
      · exact q _ (hb _ (List.getElem_mem hk))
    · walk_at "rd"
      exact q 0 (Nat.zero_le _)
end
/-! _law_folds -/
theorem sc__law_folds : FnScope ["_law_cell_here"] ["_law_cell_here"] (defScope s__law_folds) := ⟨rfl, rfl, rfl, by decide +kernel, rfl, by decide +kernel, by decide +kernel⟩
def sp__law_folds (K : PySem.W.Frag) : Sp := fun vs H Q _ => ∃ z : Int, vs = [.int z] ∧ ∀ n : Nat, n ≤ 60 → Q (.int n) H
theorem fold_of {q : Int → Prop} (h : ∀ n : Nat, n ≤ 60 → q n) {z : Int} (h0 : 0 ≤ z) (h1 : z ≤ 60) : q z := by
  have := h z.toNat (by omega)
  rw [Int.toNat_of_nonneg h0] at this
  exact this
section
variable {P : Program} {w : World} {K : PySem.W.Frag} {mg : Str → Option Value} {base : Heap}
theorem ok__law_folds (T : Txt K mg) : FnOk P w K mg base CX0 1 T.a__law_folds T.d__law_folds ["_law_cell_here"] (sp__law_folds K) := by
  refine T.F__law_folds.ok sc__law_folds (fun vs H Q E h => ?_) (fun cdv A outer s H vs Q E hr h => ?_)
  · obtain ⟨z, rfl, q⟩ := h
    rfl
  · obtain ⟨z, rfl, q⟩ := h
    refine ⟨_, (pss_cons (ps_if (pt_cmpR op_eq (pe_op op_mod (pv 0) pe_int) pe_int (nomark _)) (pss_one (ps_ret (pe_op op_mod (pe_op op_fdivW (pv 0) pe_int) pe_int))) pss_nil)
      (pss_one (ps_ret (pe_op op_mod (pe_op op_fdivW (pv 0) pe_int) pe_int)))), ?_⟩
    walk_at "rd"
    refine riteD (fun h => ?_) (fun h => ?_)
    · walk_at "rd"
      exact fold_of (q := fun z => Q (.int z) H) q (by omega) (by omega)
    · walk_at "rd"
      exact fold_of (q := fun z => Q (.int z) H) q (by omega) (by omega)
end
/-! _law_far -/
theorem sc__law_far : FnScope ["_law_cell_here"] ["_law_cell_here"] (defScope s__law_far) := ⟨rfl, rfl, rfl, by decide +kernel, rfl, by decide +kernel, by decide +kernel⟩
def sp__law_far (K : PySem.W.Frag) : Sp := fun vs H Q _ => ∃ c : Int, vs = [.int c] ∧ ∀ z : Int, 0 ≤ z → z < 2 ^ 100 → Q (.int z) H
section
variable {P : Program} {w : World} {K : PySem.W.Frag} {mg : Str → Option Value} {base : Heap}
theorem ok__law_far (T : Txt K mg) : FnOk P w K mg base CX0 1 T.a__law_far T.d__law_far ["_law_cell_here"] (sp__law_far K) := by
  refine T.F__law_far.ok sc__law_far (fun vs H Q E h => ?_) (fun cdv A outer s H vs Q E hr h => ?_)
  · obtain ⟨c, rfl, q⟩ := h
    rfl
  · obtain ⟨c, rfl, q⟩ := h
    refine ⟨_, (pss_one (ps_ret (pe_op op_mul (pe_op op_mod (pv 0) pe_int) (pe_op op_mod (pe_op op_fdivW (pv 0) pe_int) (pe_op op_pow pe_int pe_int))))), ?_⟩
    walk_at "rd"
    refine r_I ⟨by decide, by decide, by decide⟩ ?_
    walk_at "rd"
    have m1 := Int.emod_nonneg (c / 2) (show (10 : Int) ^ (35 - 5) ≠ 0 by decide)
    have m2 := Int.emod_lt_of_pos (c / 2) (show (0 : Int) < 10 ^ (35 - 5) by decide)
    have e1 : (10 : Int) ^ (35 - 5) = 1000000000000000000000000000000 := by decide
    have e2 : (10 : Int) ^ (30 : Int).toNat = 1000000000000000000000000000000 := by decide
    rw [e1] at m1 m2
    rw [e2]
    have m3 : c % 2 = 0 ∨ c % 2 = 1 := by omega
    rcases m3 with e | e
    · rw [e, Int.zero_mul]
      exact q 0 (by decide) (by decide)
    · rw [e, Int.one_mul]
      exact q _ m1 (by omega)
end
/-! _law_number -/
theorem sc__law_number : FnScope ["_law_bad", "_law_cell_here", "_law_most", "_law_rest"] ["_law_bad", "_law_cell_here", "_law_most"] (defScope s__law_number) := ⟨rfl, rfl, rfl, by decide +kernel, rfl, by decide +kernel, by decide +kernel⟩
def sp__law_number (K : PySem.W.Frag) : Sp := fun vs H Q _ => ∃ (b : Bool) (c m : Int), vs = [.bl b, .int c, .int m] ∧ (b = false → 0 ≤ m) ∧
  ∀ (z : Int) (H' : Hp), Same H H' → (b = false → 0 ≤ z ∧ z ≤ m) → (b = true → (z < 0 ∧ -(2 ^ 101) < z) ∨ (m < z ∧ z < m + 2 ^ 101)) → Q (.int z) H'
section
variable {P : Program} {w : World} {K : PySem.W.Frag} {mg : Str → Option Value} {base : Heap}
theorem ok__law_number (T : Txt K mg) : FnOk P w K mg base CX0 2 T.a__law_number T.d__law_number ["_law_bad", "_law_cell_here", "_law_most"] (sp__law_number K) := by
  refine T.F__law_number.ok sc__law_number (fun vs H Q E h => ?_) (fun cdv A outer s H vs Q E hr h => ?_)
  · obtain ⟨b, c, m, rfl, hm, q⟩ := h
    rfl
  · obtain ⟨b, c, m, rfl, hm, q⟩ := h
    refine ⟨_, (pss_cons (ps_set (i := 3) sc__law_number.nd rfl (.inl rfl) (pe_op op_fdivW (pv 1) pe_int))
      (pss_cons (ps_if (pt_val (pv 0)) (pss_one (ps_ret (pe_ix (r := rIxL K) ix_list (pe_lst (pa_cons (pe_op op_sub (pe_un un_neg pe_int) (pe_call (ok__law_far T) (hr.mono (by decide)) (by rfl) T.m__law_far T.F__law_far.kp T.b__law_far .nil pass0 (pa_cons (pv 3) pa_nil))) (pa_cons (pe_op op_add (pe_op op_add (pv 2) pe_int) (pe_call (ok__law_far T) (hr.mono (by decide)) (by rfl) T.m__law_far T.F__law_far.kp T.b__law_far .nil pass0 (pa_cons (pv 3) pa_nil))) pa_nil))) (pe_op op_mod (pv 1) pe_int) (fun _ _ => rfl)))) pss_nil)
      (pss_one (ps_ret (pe_ix (r := rIxL K) ix_list (pe_lst (pa_cons (pe_op op_mod (pv 3) (pe_op op_add (pv 2) pe_int)) (pa_cons (pe_op op_sub (pv 2) (pe_op op_mod (pv 3) (pe_op op_add (pv 2) pe_int))) pa_nil))) (pe_op op_mod (pv 1) pe_int) (fun _ _ => rfl)))))), ?_⟩
    walk_at "rd"
    have ec : c % 2 = ((0 : Nat) : Int) ∨ c % 2 = ((1 : Nat) : Int) := by omega
    cases b
    · have hm' := hm rfl
      walk_at "rd"
      refine n_lst fun l H1 nl s1 e1 => ?_
      walk_at "rd"
      have m1 := Int.emod_nonneg (c / 2) (show m + 1 ≠ 0 by omega)
      have m2 := Int.emod_lt_of_pos (c / 2) (show 0 < m + 1 by omega)
      rcases ec with e | e
      · rw [e]
        refine r_ixL (.inl (.inl e1)) (atI_nat (j := 0) rfl) ?_
        exact q _ _ s1 (fun _ => by omega) (fun z => Bool.noConfusion z)
      · rw [e]
        refine r_ixL (.inl (.inl e1)) (atI_nat (j := 1) rfl) ?_
        exact q _ _ s1 (fun _ => by omega) (fun z => Bool.noConfusion z)
    · walk_at "rd"
      refine ⟨_, rfl, fun z1 h1 h2 => ?_⟩
      walk_at "rd"
      refine ⟨_, rfl, fun z2 h3 h4 => ?_⟩
      walk_at "rd"
      refine n_lst fun l H1 nl s1 e1 => ?_
      walk_at "rd"
      rcases ec with e | e
      · rw [e]
        refine r_ixL (.inl (.inl e1)) (atI_nat (j := 0) rfl) ?_
        exact q _ _ s1 (fun z => Bool.noConfusion z) (fun _ => .inl ⟨by omega, by omega⟩)
      · rw [e]
        refine r_ixL (.inl (.inl e1)) (atI_nat (j := 1) rfl) ?_
        exact q _ _ s1 (fun z => Bool.noConfusion z) (fun _ => .inr ⟨by omega, by omega⟩)
end
/-! _law_cell -/
theorem sc__law_cell : FnScope ["_law_bad", "_law_one", "_law_two", "_law_side", "_law_x", "_law_y", "_law_far_here"] ["_law_bad", "_law_one", "_law_two", "_law_side"] (defScope s__law_cell) := ⟨rfl, rfl, rfl, by decide +kernel, rfl, by decide +kernel, by decide +kernel⟩
def sp__law_cell (K : PySem.W.Frag) : Sp := fun vs H Q _ => ∃ (b : Bool) (c1 c2 : Int) (n : Nat), vs = [.bl b, .int c1, .int c2, .int (2 ^ n)] ∧
  ∀ (x y : Int) (a : Addr) (H' : Hp), Same H H' → H' a = some (.tup [.int x, .int y]) → (b = false → 0 ≤ x ∧ x < 2 ^ n ∧ 0 ≤ y ∧ y < 2 ^ n) → (b = true → x < 0 ∨ 2 ^ n ≤ x ∨ y < 0 ∨ 2 ^ n ≤ y) → Q (.ref a) H'
section
variable {P : Program} {w : World} {K : PySem.W.Frag} {mg : Str → Option Value} {base : Heap}
theorem ok__law_cell (T : Txt K mg) : FnOk P w K mg base CX0 3 T.a__law_cell T.d__law_cell ["_law_bad", "_law_one", "_law_two", "_law_side"] (sp__law_cell K) := by
  refine T.F__law_cell.ok sc__law_cell (fun vs H Q E h => ?_) (fun cdv A outer s H vs Q E hr h => ?_)
  · obtain ⟨b, c1, c2, n, rfl, q⟩ := h
    rfl
  · obtain ⟨b, c1, c2, n, rfl, q⟩ := h
    refine ⟨_, (pss_cons (ps_set (i := 4) sc__law_cell.nd rfl (.inl rfl) (pe_call (ok__law_number T) (hr.mono (by decide)) (by rfl) T.m__law_number T.F__law_number.kp T.b__law_number .nil pass0 (pa_cons pe_bl (pa_cons (pe_op op_fdivW (pv 1) pe_int) (pa_cons (pe_op op_sub (pv 3) pe_int) pa_nil)))))
      (pss_cons (ps_set (i := 5) sc__law_cell.nd rfl (.inl rfl) (pe_call (ok__law_number T) (hr.mono (by decide)) (by rfl) T.m__law_number T.F__law_number.kp T.b__law_number .nil pass0 (pa_cons pe_bl (pa_cons (pv 2) (pa_cons (pe_op op_sub (pv 3) pe_int) pa_nil)))))
      (pss_cons (ps_if (pt_not (pt_val (pv 0))) (pss_one (ps_ret (pe_tup (pa_cons (pv 4) (pa_cons (pv 5) pa_nil))))) pss_nil)
      (pss_cons (ps_set (i := 6) sc__law_cell.nd rfl (.inl rfl) (pe_call (ok__law_number T) (hr.mono (by decide)) (by rfl) T.m__law_number T.F__law_number.kp T.b__law_number .nil pass0 (pa_cons pe_bl (pa_cons (pe_op op_fdivW (pv 1) pe_int) (pa_cons (pe_op op_sub (pv 3) pe_int) pa_nil)))))
      (pss_one (ps_ret (pe_ix (r := rIxL K) ix_list (pe_lst (pa_cons (pe_tup (pa_cons (pv 6) (pa_cons (pv 5) pa_nil))) (pa_cons (pe_tup (pa_cons (pv 4) (pa_cons (pv 6) pa_nil))) pa_nil))) (pe_op op_mod (pv 1) pe_int) (fun _ _ => rfl)))))))), ?_⟩
    have hS1 := i2_pos n
    walk_at "rd"
    refine ⟨false, _, _, rfl, fun _ => by omega, fun x H1 s1 g1 _ => ?_⟩
    walk_at "rd"
    refine ⟨false, _, _, rfl, fun _ => by omega, fun y H2 s2 g2 _ => ?_⟩
    have g1 := g1 rfl
    have g2 := g2 rfl
    walk_at "rd"
    cases b
    · walk_at "rd"
      exact n_tup fun a H3 na s3 e3 => q x y a H3 (s1.trans (s2.trans s3)) e3 (fun _ => by omega) (fun z => Bool.noConfusion z)
    · walk_at "rd"
      refine ⟨true, _, _, rfl, (fun z => Bool.noConfusion z), fun f H3 s3 _ g3 => ?_⟩
      have g3 := g3 rfl
      walk_at "rd"
      refine n_tup fun t1 H4 nt1 s4 e4 => ?_
      walk_at "rd"
      refine n_tup fun t2 H5 nt2 s5 e5 => ?_
      walk_at "rd"
      refine n_lst fun l H6 nl s6 e6 => ?_
      walk_at "rd"
      have ec : c1 % 2 = ((0 : Nat) : Int) ∨ c1 % 2 = ((1 : Nat) : Int) := by omega
      have k3 := s1.trans (s2.trans (s3.trans (s4.trans (s5.trans s6))))
      rcases ec with e | e
      · rw [e]
        refine r_ixL (.inl (.inl e6)) (atI_nat (j := 0) rfl) ?_
        exact q f y _ _ k3 (s6 _ _ (s5 _ _ e4)) (fun z => Bool.noConfusion z) (fun _ => by omega)
      · rw [e]
        refine r_ixL (.inl (.inl e6)) (atI_nat (j := 1) rfl) ?_
        exact q x f _ _ k3 (s6 _ _ e5) (fun z => Bool.noConfusion z) (fun _ => by omega)
end
/-! _law_box -/
theorem sc__law_box : FnScope ["_law_bad", "_law_cells", "_law_side", "_law_xs", "_law_ys", "_law_below", "_law_above", "_law_some"] ["_law_bad", "_law_cells", "_law_side"] (defScope s__law_box) := ⟨rfl, rfl, rfl, by decide +kernel, rfl, by decide +kernel, by decide +kernel⟩
def sp__law_box (K : PySem.W.Frag) : Sp := fun vs H Q _ => ∃ (b : Bool) (c : Addr) (c0 c1 c2 c3 c4 : Int) (n : Nat), vs = [.bl b, .ref c, .int (2 ^ n)] ∧ n ≤ 60 ∧ H c = some (.lst [.int c0, .int c1, .int c2, .int c3, .int c4]) ∧
  ∀ (B : Box) (a : Addr) (H' : Hp), Same H H' → H' a = some (.tup (bt B)) → (b = false → BoxOk B n) → (b = true → ¬ BoxOk B n) → Bd B → Q (.ref a) H'
section
variable {P : Program} {w : World} {K : PySem.W.Frag} {mg : Str → Option Value} {base : Heap}
theorem ok__law_box (T : Txt K mg) : FnOk P w K mg base CX0 3 T.a__law_box T.d__law_box ["_law_bad", "_law_cells", "_law_side"] (sp__law_box K) := by
  refine T.F__law_box.ok sc__law_box (fun vs H Q E h => ?_) (fun cdv A outer s H vs Q E hr h => ?_)
  · obtain ⟨b, c, c0, c1, c2, c3, c4, n, rfl, hn, hc, q⟩ := h
    rfl
  · obtain ⟨b, c, c0, c1, c2, c3, c4, n, rfl, hn, hc, q⟩ := h
    refine ⟨_, (pss_cons (ps_set (i := 3) sc__law_box.nd rfl (.inl rfl) (pe_callB cr_sorted (by rfl) T.n_sorted (by decide +kernel) (pa_cons (pe_lst (pa_cons (pe_call (ok__law_number T) (hr.mono (by decide)) (by rfl) T.m__law_number T.F__law_number.kp T.b__law_number .nil pass0 (pa_cons pe_bl (pa_cons (pe_ix (r := rIxL K) ix_list (pv 1) pe_int (fun _ _ => rfl)) (pa_cons (pe_op op_sub (pv 2) pe_int) pa_nil)))) (pa_cons (pe_call (ok__law_number T) (hr.mono (by decide)) (by rfl) T.m__law_number T.F__law_number.kp T.b__law_number .nil pass0 (pa_cons pe_bl (pa_cons (pe_ix (r := rIxL K) ix_list (pv 1) pe_int (fun _ _ => rfl)) (pa_cons (pe_op op_sub (pv 2) pe_int) pa_nil)))) pa_nil))) pa_nil)))
      (pss_cons (ps_set (i := 4) sc__law_box.nd rfl (.inl rfl) (pe_callB cr_sorted (by rfl) T.n_sorted (by decide +kernel) (pa_cons (pe_lst (pa_cons (pe_call (ok__law_number T) (hr.mono (by decide)) (by rfl) T.m__law_number T.F__law_number.kp T.b__law_number .nil pass0 (pa_cons pe_bl (pa_cons (pe_ix (r := rIxL K) ix_list (pv 1) pe_int (fun _ _ => rfl)) (pa_cons (pe_op op_sub (pv 2) pe_int) pa_nil)))) (pa_cons (pe_call (ok__law_number T) (hr.mono (by decide)) (by rfl) T.m__law_number T.F__law_number.kp T.b__law_number .nil pass0 (pa_cons pe_bl (pa_cons (pe_ix (r := rIxL K) ix_list (pv 1) pe_int (fun _ _ => rfl)) (pa_cons (pe_op op_sub (pv 2) pe_int) pa_nil)))) pa_nil))) pa_nil)))
      (pss_cons (ps_if (pt_not (pt_val (pv 0))) (pss_one (ps_ret (pe_tup (pa_cons (pe_ix (r := rIxL K) ix_list (pv 3) pe_int (fun _ _ => rfl)) (pa_cons (pe_ix (r := rIxL K) ix_list (pv 4) pe_int (fun _ _ => rfl)) (pa_cons (pe_ix (r := rIxL K) ix_list (pv 3) pe_int (fun _ _ => rfl)) (pa_cons (pe_ix (r := rIxL K) ix_list (pv 4) pe_int (fun _ _ => rfl)) pa_nil))))))) pss_nil)
      (pss_cons (ps_set (i := 5) sc__law_box.nd rfl (.inl rfl) (pe_op op_sub (pe_un un_neg pe_int) (pe_call (ok__law_far T) (hr.mono (by decide)) (by rfl) T.m__law_far T.F__law_far.kp T.b__law_far .nil pass0 (pa_cons (pe_op op_fdivW (pe_ix (r := rIxL K) ix_list (pv 1) pe_int (fun _ _ => rfl)) pe_int) pa_nil))))
      (pss_cons (ps_set (i := 6) sc__law_box.nd rfl (.inl rfl) (pe_op op_add (pv 2) (pe_call (ok__law_far T) (hr.mono (by decide)) (by rfl) T.m__law_far T.F__law_far.kp T.b__law_far .nil pass0 (pa_cons (pe_op op_fdivW (pe_ix (r := rIxL K) ix_list (pv 1) pe_int (fun _ _ => rfl)) pe_int) pa_nil))))
      (pss_cons (ps_set (i := 7) sc__law_box.nd rfl (.inl rfl) (pe_lst (pa_cons (pe_tup (pa_cons (pe_op op_add (pe_ix (r := rIxL K) ix_list (pv 3) pe_int (fun _ _ => rfl)) pe_int) (pa_cons (pe_ix (r := rIxL K) ix_list (pv 4) pe_int (fun _ _ => rfl)) (pa_cons (pe_ix (r := rIxL K) ix_list (pv 3) pe_int (fun _ _ => rfl)) (pa_cons (pe_ix (r := rIxL K) ix_list (pv 4) pe_int (fun _ _ => rfl)) pa_nil))))) (pa_cons (pe_tup (pa_cons (pe_ix (r := rIxL K) ix_list (pv 3) pe_int (fun _ _ => rfl)) (pa_cons (pe_op op_add (pe_ix (r := rIxL K) ix_list (pv 4) pe_int (fun _ _ => rfl)) pe_int) (pa_cons (pe_ix (r := rIxL K) ix_list (pv 3) pe_int (fun _ _ => rfl)) (pa_cons (pe_ix (r := rIxL K) ix_list (pv 4) pe_int (fun _ _ => rfl)) pa_nil))))) pa_nil))))
      (pss_cons (ps_set (i := 7) sc__law_box.nd rfl (.inl rfl) (pe_op op_cat (pv 7) (pe_lst (pa_cons (pe_tup (pa_cons (pv 5) (pa_cons (pe_ix (r := rIxL K) ix_list (pv 4) pe_int (fun _ _ => rfl)) (pa_cons (pe_ix (r := rIxL K) ix_list (pv 3) pe_int (fun _ _ => rfl)) (pa_cons (pe_ix (r := rIxL K) ix_list (pv 4) pe_int (fun _ _ => rfl)) pa_nil))))) (pa_cons (pe_tup (pa_cons (pe_ix (r := rIxL K) ix_list (pv 3) pe_int (fun _ _ => rfl)) (pa_cons (pv 5) (pa_cons (pe_ix (r := rIxL K) ix_list (pv 3) pe_int (fun _ _ => rfl)) (pa_cons (pe_ix (r := rIxL K) ix_list (pv 4) pe_int (fun _ _ => rfl)) pa_nil))))) pa_nil)))))
      (pss_cons (ps_set (i := 7) sc__law_box.nd rfl (.inl rfl) (pe_op op_cat (pv 7) (pe_lst (pa_cons (pe_tup (pa_cons (pe_ix (r := rIxL K) ix_list (pv 3) pe_int (fun _ _ => rfl)) (pa_cons (pe_ix (r := rIxL K) ix_list (pv 4) pe_int (fun _ _ => rfl)) (pa_cons (pv 6) (pa_cons (pe_ix (r := rIxL K) ix_list (pv 4) pe_int (fun _ _ => rfl)) pa_nil))))) (pa_cons (pe_tup (pa_cons (pe_ix (r := rIxL K) ix_list (pv 3) pe_int (fun _ _ => rfl)) (pa_cons (pe_ix (r := rIxL K) ix_list (pv 4) pe_int (fun _ _ => rfl)) (pa_cons (pe_ix (r := rIxL K) ix_list (pv 3) pe_int (fun _ _ => rfl)) (pa_cons (pv 6) pa_nil))))) pa_nil)))))
      (Evl.pss_cut (ps_if (PW.pt (pw_and (pt_cmpR op_eq (pe_op op_mod (pe_ix (r := rIxL K) ix_list (pv 1) pe_int (fun _ _ => rfl)) pe_int) pe_int (nomark _)) (pw_and (pt_cmpR op_lt (pe_ix (r := rIxL K) ix_list (pv 3) pe_int (fun _ _ => rfl)) (pe_ix (r := rIxL K) ix_list (pv 3) pe_int (fun _ _ => rfl)) (nomark _)) (pw_and1 (pt_cmpR op_lt (pe_ix (r := rIxL K) ix_list (pv 4) pe_int (fun _ _ => rfl)) (pe_ix (r := rIxL K) ix_list (pv 4) pe_int (fun _ _ => rfl)) (nomark _)))))) (pss_one (ps_set (i := 7) sc__law_box.nd rfl (.inl rfl) (pe_op op_rep (pe_lst (pa_cons (pe_tup (pa_cons (pe_ix (r := rIxL K) ix_list (pv 3) pe_int (fun _ _ => rfl)) (pa_cons (pe_ix (r := rIxL K) ix_list (pv 4) pe_int (fun _ _ => rfl)) (pa_cons (pe_ix (r := rIxL K) ix_list (pv 3) pe_int (fun _ _ => rfl)) (pa_cons (pe_ix (r := rIxL K) ix_list (pv 4) pe_int (fun _ _ => rfl)) pa_nil))))) (pa_cons (pe_tup (pa_cons (pe_ix (r := rIxL K) ix_list (pv 3) pe_int (fun _ _ => rfl)) (pa_cons (pe_ix (r := rIxL K) ix_list (pv 4) pe_int (fun _ _ => rfl)) (pa_cons (pe_ix (r := rIxL K) ix_list (pv 3) pe_int (fun _ _ => rfl)) (pa_cons (pe_ix (r := rIxL K) ix_list (pv 4) pe_int (fun _ _ => rfl)) pa_nil))))) (pa_cons (pe_tup (pa_cons (pe_ix (r := rIxL K) ix_list (pv 3) pe_int (fun _ _ => rfl)) (pa_cons (pe_ix (r := rIxL K) ix_list (pv 4) pe_int (fun _ _ => rfl)) (pa_cons (pe_ix (r := rIxL K) ix_list (pv 3) pe_int (fun _ _ => rfl)) (pa_cons (pe_ix (r := rIxL K) ix_list (pv 4) pe_int (fun _ _ => rfl)) pa_nil))))) pa_nil)))) pe_int))) pss_nil)
      (pss_one (ps_ret (pe_ix (r := rIxL K) ix_list (pv 7) (pe_op op_mod (pe_op op_fdivW (pe_ix (r := rIxL K) ix_list (pv 1) pe_int (fun _ _ => rfl)) pe_int) pe_int) (fun _ _ => rfl))))))))))))), ?_⟩
    have hS1 := i2_pos n
    have hS2 : (2 : Int) ^ n < 2 ^ 64 := i2_lt (by omega)
    walk_at "rd"
    refine r_ixL (.inl (.inl hc)) (atI_nat (j := 0) rfl) ?_
    walk_at "rd"
    refine ⟨false, _, _, rfl, fun _ => by omega, fun y1 H1 s1 g1 _ => ?_⟩
    walk_at "rd"
    refine r_ixL (.inl (.inl (s1 _ _ hc))) (atI_nat (j := 1) rfl) ?_
    walk_at "rd"
    refine ⟨false, _, _, rfl, fun _ => by omega, fun y2 H2 s2 g2 _ => ?_⟩
    walk_at "rd"
    refine n_lst fun l3 H3 nl3 s3 e3 => ?_
    walk_at "rd"
    refine r_sorted2 (m := 2 ^ n - 1) e3 (g1 rfl) (g2 rfl) fun x0 x1 L H4 x0a x01 x1b nL s4 eX => ?_
    walk_at "rd"
    have k4 := s1.trans (s2.trans (s3.trans s4))
    refine r_ixL (.inl (.inl (k4 _ _ hc))) (atI_nat (j := 2) rfl) ?_
    walk_at "rd"
    refine ⟨false, _, _, rfl, fun _ => by omega, fun y3 H5 s5 g3 _ => ?_⟩
    walk_at "rd"
    refine r_ixL (.inl (.inl (s5 _ _ (k4 _ _ hc)))) (atI_nat (j := 3) rfl) ?_
    walk_at "rd"
    refine ⟨false, _, _, rfl, fun _ => by omega, fun y4 H6 s6 g4 _ => ?_⟩
    walk_at "rd"
    refine n_lst fun l7 H7 nl7 s7 e7 => ?_
    walk_at "rd"
    refine r_sorted2 (m := 2 ^ n - 1) e7 (g3 rfl) (g4 rfl) fun y0 y1' M H8 y0a y01 y1b nM s8 eY => ?_
    have k48 := s5.trans (s6.trans (s7.trans s8))
    have eX := k48 _ _ eX
    have k8 := k4.trans k48
    have X0 : atI [V.int x0, V.int x1] ((0 : Nat) : Int) = some (.int x0) := atI_nat rfl
    have X1 : atI [V.int x0, V.int x1] ((1 : Nat) : Int) = some (.int x1) := atI_nat rfl
    have Y0 : atI [V.int y0, V.int y1'] ((0 : Nat) : Int) = some (.int y0) := atI_nat rfl
    have Y1 : atI [V.int y0, V.int y1'] ((1 : Nat) : Int) = some (.int y1') := atI_nat rfl
    walk_at "rd"
    cases b
    · walk_at "rd"
      refine r_ixL (.inl (.inl eX)) X0 ?_
      walk_at "rd"
      refine r_ixL (.inl (.inl eY)) Y0 ?_
      walk_at "rd"
      refine r_ixL (.inl (.inl eX)) X1 ?_
      walk_at "rd"
      refine r_ixL (.inl (.inl eY)) Y1 ?_
      walk_at "rd"
      exact n_tup fun a H9 na s9 e9 => q ⟨x0, y0, x1, y1'⟩ a H9 (k8.trans s9) e9 (fun _ => ⟨x0a, x01, by dsimp only; omega, y0a, y01, by dsimp only; omega⟩) (fun z => Bool.noConfusion z) ⟨by dsimp only; omega, by dsimp only; omega, by dsimp only; omega, by dsimp only; omega⟩
    walk_at "rd"
    have hc8 := k8 _ _ hc
    refine r_ixL (.inl (.inl hc8)) (atI_nat (j := 4) rfl) ?_
    walk_at "rd"
    refine ⟨_, rfl, fun f1 hf1 hf1' => ?_⟩
    walk_at "rd"
    refine r_ixL (.inl (.inl hc8)) (atI_nat (j := 4) rfl) ?_
    walk_at "rd"
    refine ⟨_, rfl, fun f2 hf2 hf2' => ?_⟩
    walk_at "rd"
    -- the first two
    refine r_ixL (.inl (.inl eX)) X1 ?_
    walk_at "rd"
    refine r_ixL (.inl (.inl eY)) Y0 ?_
    walk_at "rd"
    refine r_ixL (.inl (.inl eX)) X1 ?_
    walk_at "rd"
    refine r_ixL (.inl (.inl eY)) Y1 ?_
    walk_at "rd"
    refine n_tup fun t0 G0 nt0 p0 d0 => ?_
    have eX := p0 _ _ eX
    have eY := p0 _ _ eY
    walk_at "rd"
    refine r_ixL (.inl (.inl eX)) X0 ?_
    walk_at "rd"
    refine r_ixL (.inl (.inl eY)) Y1 ?_
    walk_at "rd"
    refine r_ixL (.inl (.inl eX)) X1 ?_
    walk_at "rd"
    refine r_ixL (.inl (.inl eY)) Y1 ?_
    walk_at "rd"
    refine n_tup fun t1 G1 nt1 p1 d1 => ?_
    have eX := p1 _ _ eX
    have eY := p1 _ _ eY
    walk_at "rd"
    refine n_lst fun l1 G2 nl1 p2 d2 => ?_
    have eX := p2 _ _ eX
    have eY := p2 _ _ eY
    walk_at "rd"
    -- the next two
    refine r_ixL (.inl (.inl eY)) Y0 ?_
    walk_at "rd"
    refine r_ixL (.inl (.inl eX)) X1 ?_
    walk_at "rd"
    refine r_ixL (.inl (.inl eY)) Y1 ?_
    walk_at "rd"
    refine n_tup fun t2 G3 nt2 p3 d3 => ?_
    have eX := p3 _ _ eX
    have eY := p3 _ _ eY
    walk_at "rd"
    refine r_ixL (.inl (.inl eX)) X0 ?_
    walk_at "rd"
    refine r_ixL (.inl (.inl eX)) X1 ?_
    walk_at "rd"
    refine r_ixL (.inl (.inl eY)) Y1 ?_
    walk_at "rd"
    refine n_tup fun t3 G4 nt3 p4 d4 => ?_
    have eX := p4 _ _ eX
    have eY := p4 _ _ eY
    walk_at "rd"
    refine n_lst fun l2 G5 nl2 p5 d5 => ?_
    have eX := p5 _ _ eX
    have eY := p5 _ _ eY
    walk_at "rd"
    refine r_cat (p5 _ _ (p4 _ _ (p3 _ _ d2))) d5 (by show 4 ≤ 1000; decide) fun l4 G6 nl4 p6 d6 => ?_
    have eX := p6 _ _ eX
    have eY := p6 _ _ eY
    walk_at "rd"
    -- the last two
    refine r_ixL (.inl (.inl eX)) X0 ?_
    walk_at "rd"
    refine r_ixL (.inl (.inl eY)) Y0 ?_
    walk_at "rd"
    refine r_ixL (.inl (.inl eY)) Y1 ?_
    walk_at "rd"
    refine n_tup fun t4 G7 nt4 p7 d7 => ?_
    have eX := p7 _ _ eX
    have eY := p7 _ _ eY
    walk_at "rd"
    refine r_ixL (.inl (.inl eX)) X0 ?_
    walk_at "rd"
    refine r_ixL (.inl (.inl eY)) Y0 ?_
    walk_at "rd"
    refine r_ixL (.inl (.inl eX)) X1 ?_
    walk_at "rd"
    refine n_tup fun t5 G8 nt5 p8 d8 => ?_
    have eX := p8 _ _ eX
    have eY := p8 _ _ eY
    walk_at "rd"
    refine n_lst fun l5 G9 nl5 p9 d9 => ?_
    have eX := p9 _ _ eX
    have eY := p9 _ _ eY
    walk_at "rd"
    refine r_cat (p9 _ _ (p8 _ _ (p7 _ _ d6))) d9 (by show 6 ≤ 1000; decide) fun l6 Ga nl6 pa da => ?_
    have eX := pa _ _ eX
    have eY := pa _ _ eY
    have kA : Same H8 Ga := p0.trans (p1.trans (p2.trans (p3.trans (p4.trans (p5.trans (p6.trans (p7.trans (p8.trans (p9.trans pa)))))))))
    have hcA := kA _ _ hc8
    have z5 := pa _ _ (p9 _ _ d8)
    have z4 := pa _ _ (p9 _ _ (p8 _ _ d7))
    have q6 : Same G4 Ga := p5.trans (p6.trans (p7.trans (p8.trans (p9.trans pa))))
    have z3 := q6 _ _ d4
    have z2 := q6 _ _ (p4 _ _ d3)
    have q2 : Same G1 Ga := p2.trans (p3.trans (p4.trans q6))
    have z1 := q2 _ _ d1
    have z0 := q2 _ _ (p1 _ _ d0)
    walk_at "rd"
    refine ⟨fun σ' H' => Same Ga H' ∧ ∃ (L6 u0 u1 u2 u3 u4 u5 : Addr), σ' = [some (.bl true), some (.ref c), some (.int (2 ^ n)), some (.ref L), some (.ref M), some (.int (-1 - f1)), some (.int (2 ^ n + f2)), some (.ref L6)] ∧ H' L6 = some (.lst [.ref u0, .ref u1, .ref u2, .ref u3, .ref u4, .ref u5]) ∧
      ∀ u ∈ [u0, u1, u2, u3, u4, u5], ∃ B : Box, H' u = some (.tup (bt B)) ∧ ¬ BoxOk B n ∧ Bd B, ?_, ?_⟩
    · walk_at "rd"
      refine r_ixL (.inl (.inl hcA)) (atI_nat (j := 4) rfl) ?_
      walk_at "rd"
      have old : ∃ (L6 u0 u1 u2 u3 u4 u5 : Addr), l6 = L6 ∧ Ga L6 = some (.lst [.ref u0, .ref u1, .ref u2, .ref u3, .ref u4, .ref u5]) ∧
          ∀ u ∈ [u0, u1, u2, u3, u4, u5], ∃ B : Box, Ga u = some (.tup (bt B)) ∧ ¬ BoxOk B n ∧ Bd B := by
        refine ⟨l6, t0, t1, t2, t3, t4, t5, rfl, da, fun u hu => ?_⟩
        simp only [List.mem_cons, List.not_mem_nil, or_false] at hu
        rcases hu with rfl | rfl | rfl | rfl | rfl | rfl
        · exact ⟨⟨x1 + 1, y0, x1, y1'⟩, z0, (fun z => by have := z.2.1; dsimp only at this; omega), ⟨by dsimp only; omega, by dsimp only; omega, by dsimp only; omega, by dsimp only; omega⟩⟩
        · exact ⟨⟨x0, y1' + 1, x1, y1'⟩, z1, (fun z => by have := z.2.2.2.2.1; dsimp only at this; omega), ⟨by dsimp only; omega, by dsimp only; omega, by dsimp only; omega, by dsimp only; omega⟩⟩
        · exact ⟨⟨-1 - f1, y0, x1, y1'⟩, z2, (fun z => by have := z.1; dsimp only at this; omega), ⟨by dsimp only; omega, by dsimp only; omega, by dsimp only; omega, by dsimp only; omega⟩⟩
        · exact ⟨⟨x0, -1 - f1, x1, y1'⟩, z3, (fun z => by have := z.2.2.2.1; dsimp only at this; omega), ⟨by dsimp only; omega, by dsimp only; omega, by dsimp only; omega, by dsimp only; omega⟩⟩
        · exact ⟨⟨x0, y0, 2 ^ n + f2, y1'⟩, z4, (fun z => by have := z.2.2.1; dsimp only at this; omega), ⟨by dsimp only; omega, by dsimp only; omega, by dsimp only; omega, by dsimp only; omega⟩⟩
        · exact ⟨⟨x0, y0, x1, 2 ^ n + f2⟩, z5, (fun z => by have := z.2.2.2.2.2; dsimp only at this; omega), ⟨by dsimp only; omega, by dsimp only; omega, by dsimp only; omega, by dsimp only; omega⟩⟩
      obtain ⟨L6, u0, u1, u2, u3, u4, u5, rfl, o1, o2⟩ := old
      refine riteD (fun c1 => ?_) (fun c1 => ?_)
      · walk_at "rd"
        refine r_ixL (.inl (.inl eX)) X0 ?_
        walk_at "rd"
        refine r_ixL (.inl (.inl eX)) X1 ?_
        walk_at "rd"
        refine riteD (fun c2 => ?_) (fun c2 => ?_)
        · walk_at "rd"
          refine r_ixL (.inl (.inl eY)) Y0 ?_
          walk_at "rd"
          refine r_ixL (.inl (.inl eY)) Y1 ?_
          walk_at "rd"
          refine riteD (fun c3 => ?_) (fun c3 => ?_)
          · walk_at "rd"
            refine r_ixL (.inl (.inl eX)) X1 ?_
            walk_at "rd"
            refine r_ixL (.inl (.inl eY)) Y1 ?_
            walk_at "rd"
            refine r_ixL (.inl (.inl eX)) X0 ?_
            walk_at "rd"
            refine r_ixL (.inl (.inl eY)) Y0 ?_
            walk_at "rd"
            refine n_tup fun v0 F0 nv0 w0 b0 => ?_
            have eX := w0 _ _ eX
            have eY := w0 _ _ eY
            walk_at "rd"
            refine r_ixL (.inl (.inl eX)) X1 ?_
            walk_at "rd"
            refine r_ixL (.inl (.inl eY)) Y0 ?_
            walk_at "rd"
            refine r_ixL (.inl (.inl eX)) X0 ?_
            walk_at "rd"
            refine r_ixL (.inl (.inl eY)) Y1 ?_
            walk_at "rd"
            refine n_tup fun v1 F1 nv1 w1 b1 => ?_
            have eX := w1 _ _ eX
            have eY := w1 _ _ eY
            walk_at "rd"
            refine r_ixL (.inl (.inl eX)) X0 ?_
            walk_at "rd"
            refine r_ixL (.inl (.inl eY)) Y1 ?_
            walk_at "rd"
            refine r_ixL (.inl (.inl eX)) X1 ?_
            walk_at "rd"
            refine r_ixL (.inl (.inl eY)) Y0 ?_
            walk_at "rd"
            refine n_tup fun v2 F2 nv2 w2 b2 => ?_
            walk_at "rd"
            refine n_lst fun l8 F3 nl8 w3 b3 => ?_
            walk_at "rd"
            refine r_rep2 b3 (by show 3 ≤ 500; decide) fun l9 F4 nl9 w4 b4 => ?_
            walk_at "rd"
            have j2 := w4 _ _ (w3 _ _ b2)
            have j1 := w4 _ _ (w3 _ _ (w2 _ _ b1))
            have j0 := w4 _ _ (w3 _ _ (w2 _ _ (w1 _ _ b0)))
            refine ⟨w0.trans (w1.trans (w2.trans (w3.trans w4))), l9, v0, v1, v2, v0, v1, v2, rfl, b4, fun u hu => ?_⟩
            have i0 : ∃ B : Box, F4 v0 = some (.tup (bt B)) ∧ ¬ BoxOk B n ∧ Bd B := ⟨⟨x1, y1', x0, y0⟩, j0, (fun z => by have := z.2.1; dsimp only at this; omega), ⟨by dsimp only; omega, by dsimp only; omega, by dsimp only; omega, by dsimp only; omega⟩⟩
            have i1 : ∃ B : Box, F4 v1 = some (.tup (bt B)) ∧ ¬ BoxOk B n ∧ Bd B := ⟨⟨x1, y0, x0, y1'⟩, j1, (fun z => by have := z.2.1; dsimp only at this; omega), ⟨by dsimp only; omega, by dsimp only; omega, by dsimp only; omega, by dsimp only; omega⟩⟩
            have i2 : ∃ B : Box, F4 v2 = some (.tup (bt B)) ∧ ¬ BoxOk B n ∧ Bd B := ⟨⟨x0, y1', x1, y0⟩, j2, (fun z => by have := z.2.2.2.2.1; dsimp only at this; omega), ⟨by dsimp only; omega, by dsimp only; omega, by dsimp only; omega, by dsimp only; omega⟩⟩
            simp only [List.mem_cons, List.not_mem_nil, or_false] at hu
            rcases hu with rfl | rfl | rfl | rfl | rfl | rfl
            · exact i0
            · exact i1
            · exact i2
            · exact i0
            · exact i1
            · exact i2
          · walk_at "rd"
            exact ⟨Same.refl _, _, _, _, _, _, _, _, rfl, o1, o2⟩
        · walk_at "rd"
          exact ⟨Same.refl _, _, _, _, _, _, _, _, rfl, o1, o2⟩
      · walk_at "rd"
        exact ⟨Same.refl _, _, _, _, _, _, _, _, rfl, o1, o2⟩
    rintro σ' H' ⟨sz, L6, u0, u1, u2, u3, u4, u5, rfl, g6, gu⟩
    walk_at "rd"
    refine r_ixL (.inl (.inl (sz _ _ hcA))) (atI_nat (j := 4) rfl) ?_
    walk_at "rd"
    have fin : ∀ u ∈ [u0, u1, u2, u3, u4, u5], Q (.ref u) H' := fun u hu => by
      obtain ⟨B, b1, b2, b3⟩ := gu u hu
      exact q B u H' (k8.trans (kA.trans sz)) b1 (fun z => Bool.noConfusion z) (fun _ => b2) b3
    have ei : c4 / 4 % 6 = ((0 : Nat) : Int) ∨ c4 / 4 % 6 = ((1 : Nat) : Int) ∨ c4 / 4 % 6 = ((2 : Nat) : Int) ∨ c4 / 4 % 6 = ((3 : Nat) : Int) ∨ c4 / 4 % 6 = ((4 : Nat) : Int) ∨ c4 / 4 % 6 = ((5 : Nat) : Int) := by omega
    rcases ei with e | e | e | e | e | e
    · rw [e]
      refine r_ixL (.inl (.inl g6)) (atI_nat (j := 0) rfl) (fin _ (by simp))
    · rw [e]
      refine r_ixL (.inl (.inl g6)) (atI_nat (j := 1) rfl) (fin _ (by simp))
    · rw [e]
      refine r_ixL (.inl (.inl g6)) (atI_nat (j := 2) rfl) (fin _ (by simp))
    · rw [e]
      refine r_ixL (.inl (.inl g6)) (atI_nat (j := 3) rfl) (fin _ (by simp))
    · rw [e]
      refine r_ixL (.inl (.inl g6)) (atI_nat (j := 4) rfl) (fin _ (by simp))
    · rw [e]
      refine r_ixL (.inl (.inl g6)) (atI_nat (j := 5) rfl) (fin _ (by simp))
end
/-! _law_asked -/
theorem sc__law_asked : FnScope ["_law_which", "_law_folds_here", "_law_first_here", "_law_last_here"] ["_law_which", "_law_folds_here", "_law_first_here", "_law_last_here"] (defScope s__law_asked) := ⟨rfl, rfl, rfl, by decide +kernel, rfl, by decide +kernel, by decide +kernel⟩
def cl {K : PySem.W.Frag} {mg : Str → Option Value} (T : Txt K mg) : Nat → Addr
  | 0 => T.c_NoFloor
  | 1 => T.c_NoPlace
  | 2 => T.c_NoCell
  | 3 => T.c_NoSquare
  | 4 => T.c_NoBox
  | 5 => T.c_NoNumber
  | _ => T.c_TooMany
section
variable {K : PySem.W.Frag} {mg : Str → Option Value} {H : Hp} {Q : VK} {E : XK} {n i j : Nat} {zf z2 : Int} {v1 : V} {b0 b1 b2 : Bool} {B : Box}
theorem cl_ec (T : Txt K mg) (h : i < 7) : ExcC K (cl T i) := by
  rcases lt7 h with rfl | rfl | rfl | rfl | rfl | rfl | rfl
  · exact ⟨T.hg_NoFloor, T.hk_NoFloor, T.r_NoFloor, T.hd_NoFloor, T.ha_NoFloor, T.gn, T.gt, T.hm_NoFloor⟩
  · exact ⟨T.hg_NoPlace, T.hk_NoPlace, T.r_NoPlace, T.hd_NoPlace, T.ha_NoPlace, T.gn, T.gt, T.hm_NoPlace⟩
  · exact ⟨T.hg_NoCell, T.hk_NoCell, T.r_NoCell, T.hd_NoCell, T.ha_NoCell, T.gn, T.gt, T.hm_NoCell⟩
  · exact ⟨T.hg_NoSquare, T.hk_NoSquare, T.r_NoSquare, T.hd_NoSquare, T.ha_NoSquare, T.gn, T.gt, T.hm_NoSquare⟩
  · exact ⟨T.hg_NoBox, T.hk_NoBox, T.r_NoBox, T.hd_NoBox, T.ha_NoBox, T.gn, T.gt, T.hm_NoBox⟩
  · exact ⟨T.hg_NoNumber, T.hk_NoNumber, T.r_NoNumber, T.hd_NoNumber, T.ha_NoNumber, T.gn, T.gt, T.hm_NoNumber⟩
  · exact ⟨T.hg_TooMany, T.hk_TooMany, T.r_TooMany, T.hd_TooMany, T.ha_TooMany, T.gn, T.gt, T.hm_TooMany⟩
theorem cl_val (T : Txt K mg) (h : i < 7) : PySem.W.kitOne K (.ref (cl T i)) (.type "ValueError") = some true := by
  rcases lt7 h with rfl | rfl | rfl | rfl | rfl | rfl | rfl
  · exact kit_val T.kv_NoFloor
  · exact kit_val T.kv_NoPlace
  · exact kit_val T.kv_NoCell
  · exact kit_val T.kv_NoSquare
  · exact kit_val T.kv_NoBox
  · exact kit_val T.kv_NoNumber
  · exact kit_val T.kv_TooMany
theorem cl_walk (T : Txt K mg) (h : i < 7) : PySem.W.subIn K (.ref (cl T i)) (.ref T.c_WalkError) = some true := by
  rcases lt7 h with rfl | rfl | rfl | rfl | rfl | rfl | rfl
  · exact T.s_NoFloor_WalkError
  · exact T.s_NoPlace_WalkError
  · exact T.s_NoCell_WalkError
  · exact T.s_NoSquare_WalkError
  · exact T.s_NoBox_WalkError
  · exact T.s_NoNumber_WalkError
  · exact T.s_TooMany_WalkError
theorem cl_kit (T : Txt K mg) (h : i < 7) (hj : j < 7) : PySem.W.kitOne K (.ref (cl T i)) (.ref (cl T j)) = some (decide (i = j)) := by
  rcases lt7 h with rfl | rfl | rfl | rfl | rfl | rfl | rfl <;> rcases lt7 hj with rfl | rfl | rfl | rfl | rfl | rfl | rfl
  · exact kit_own T.i_NoFloor T.t_NoFloor T.kk_NoFloor_NoFloor T.kk_NoFloor_NoFloor
  · exact kit_own T.i_NoPlace T.t_NoPlace T.kk_NoFloor_NoPlace T.kk_NoPlace_NoPlace
  · exact kit_own T.i_NoCell T.t_NoCell T.kk_NoFloor_NoCell T.kk_NoCell_NoCell
  · exact kit_own T.i_NoSquare T.t_NoSquare T.kk_NoFloor_NoSquare T.kk_NoSquare_NoSquare
  · exact kit_own T.i_NoBox T.t_NoBox T.kk_NoFloor_NoBox T.kk_NoBox_NoBox
  · exact kit_own T.i_NoNumber T.t_NoNumber T.kk_NoFloor_NoNumber T.kk_NoNumber_NoNumber
  · exact kit_own T.i_TooMany T.t_TooMany T.kk_NoFloor_TooMany T.kk_TooMany_TooMany
  · exact kit_own T.i_NoFloor T.t_NoFloor T.kk_NoPlace_NoFloor T.kk_NoFloor_NoFloor
  · exact kit_own T.i_NoPlace T.t_NoPlace T.kk_NoPlace_NoPlace T.kk_NoPlace_NoPlace
  · exact kit_own T.i_NoCell T.t_NoCell T.kk_NoPlace_NoCell T.kk_NoCell_NoCell
  · exact kit_own T.i_NoSquare T.t_NoSquare T.kk_NoPlace_NoSquare T.kk_NoSquare_NoSquare
  · exact kit_own T.i_NoBox T.t_NoBox T.kk_NoPlace_NoBox T.kk_NoBox_NoBox
  · exact kit_own T.i_NoNumber T.t_NoNumber T.kk_NoPlace_NoNumber T.kk_NoNumber_NoNumber
  · exact kit_own T.i_TooMany T.t_TooMany T.kk_NoPlace_TooMany T.kk_TooMany_TooMany
  · exact kit_own T.i_NoFloor T.t_NoFloor T.kk_NoCell_NoFloor T.kk_NoFloor_NoFloor
  · exact kit_own T.i_NoPlace T.t_NoPlace T.kk_NoCell_NoPlace T.kk_NoPlace_NoPlace
  · exact kit_own T.i_NoCell T.t_NoCell T.kk_NoCell_NoCell T.kk_NoCell_NoCell
  · exact kit_own T.i_NoSquare T.t_NoSquare T.kk_NoCell_NoSquare T.kk_NoSquare_NoSquare
  · exact kit_own T.i_NoBox T.t_NoBox T.kk_NoCell_NoBox T.kk_NoBox_NoBox
  · exact kit_own T.i_NoNumber T.t_NoNumber T.kk_NoCell_NoNumber T.kk_NoNumber_NoNumber
  · exact kit_own T.i_TooMany T.t_TooMany T.kk_NoCell_TooMany T.kk_TooMany_TooMany
  · exact kit_own T.i_NoFloor T.t_NoFloor T.kk_NoSquare_NoFloor T.kk_NoFloor_NoFloor
  · exact kit_own T.i_NoPlace T.t_NoPlace T.kk_NoSquare_NoPlace T.kk_NoPlace_NoPlace
  · exact kit_own T.i_NoCell T.t_NoCell T.kk_NoSquare_NoCell T.kk_NoCell_NoCell
  · exact kit_own T.i_NoSquare T.t_NoSquare T.kk_NoSquare_NoSquare T.kk_NoSquare_NoSquare
  · exact kit_own T.i_NoBox T.t_NoBox T.kk_NoSquare_NoBox T.kk_NoBox_NoBox
  · exact kit_own T.i_NoNumber T.t_NoNumber T.kk_NoSquare_NoNumber T.kk_NoNumber_NoNumber
  · exact kit_own T.i_TooMany T.t_TooMany T.kk_NoSquare_TooMany T.kk_TooMany_TooMany
  · exact kit_own T.i_NoFloor T.t_NoFloor T.kk_NoBox_NoFloor T.kk_NoFloor_NoFloor
  · exact kit_own T.i_NoPlace T.t_NoPlace T.kk_NoBox_NoPlace T.kk_NoPlace_NoPlace
  · exact kit_own T.i_NoCell T.t_NoCell T.kk_NoBox_NoCell T.kk_NoCell_NoCell
  · exact kit_own T.i_NoSquare T.t_NoSquare T.kk_NoBox_NoSquare T.kk_NoSquare_NoSquare
  · exact kit_own T.i_NoBox T.t_NoBox T.kk_NoBox_NoBox T.kk_NoBox_NoBox
  · exact kit_own T.i_NoNumber T.t_NoNumber T.kk_NoBox_NoNumber T.kk_NoNumber_NoNumber
  · exact kit_own T.i_TooMany T.t_TooMany T.kk_NoBox_TooMany T.kk_TooMany_TooMany
  · exact kit_own T.i_NoFloor T.t_NoFloor T.kk_NoNumber_NoFloor T.kk_NoFloor_NoFloor
  · exact kit_own T.i_NoPlace T.t_NoPlace T.kk_NoNumber_NoPlace T.kk_NoPlace_NoPlace
  · exact kit_own T.i_NoCell T.t_NoCell T.kk_NoNumber_NoCell T.kk_NoCell_NoCell
  · exact kit_own T.i_NoSquare T.t_NoSquare T.kk_NoNumber_NoSquare T.kk_NoSquare_NoSquare
  · exact kit_own T.i_NoBox T.t_NoBox T.kk_NoNumber_NoBox T.kk_NoBox_NoBox
  · exact kit_own T.i_NoNumber T.t_NoNumber T.kk_NoNumber_NoNumber T.kk_NoNumber_NoNumber
  · exact kit_own T.i_TooMany T.t_TooMany T.kk_NoNumber_TooMany T.kk_TooMany_TooMany
  · exact kit_own T.i_NoFloor T.t_NoFloor T.kk_TooMany_NoFloor T.kk_NoFloor_NoFloor
  · exact kit_own T.i_NoPlace T.t_NoPlace T.kk_TooMany_NoPlace T.kk_NoPlace_NoPlace
  · exact kit_own T.i_NoCell T.t_NoCell T.kk_TooMany_NoCell T.kk_NoCell_NoCell
  · exact kit_own T.i_NoSquare T.t_NoSquare T.kk_TooMany_NoSquare T.kk_NoSquare_NoSquare
  · exact kit_own T.i_NoBox T.t_NoBox T.kk_TooMany_NoBox T.kk_NoBox_NoBox
  · exact kit_own T.i_NoNumber T.t_NoNumber T.kk_TooMany_NoNumber T.kk_NoNumber_NoNumber
  · exact kit_own T.i_TooMany T.t_TooMany T.kk_TooMany_TooMany T.kk_TooMany_TooMany
theorem ask0 (T : Txt K mg) (h : Args 0 n zf v1 z2 b0 b1 b2 B H) (q : due 0 b0 b1 b2 = -1 → ∀ v H', Same H H' → Q v H') (e : ∀ i : Nat, i < 7 → due 0 b0 b1 b2 = (i : Int) → RE H E (cl T i)) : sp_cell_at T [.int zf, v1] H Q E := by
  obtain ⟨z, rfl, g0, g1⟩ := h.fst
  have hn := h.hn
  cases b0
  · have ez := h.f0 rfl
    subst ez
    cases b1
    · have g := g0 rfl
      have hd : due 0 false false b2 = -1 := by cases b2 <;> rfl
      exact .inl ⟨n, z.toNat, _, _, rfl, rfl, by omega, hn, by omega, fun a H' _ s _ => q hd _ _ s⟩
    · exact .inr (.inr ⟨n, z, rfl, hn, g1 rfl, e 1 (by decide) (by cases b2 <;> rfl)⟩)
  · exact .inr (.inl ⟨zf, _, rfl, h.f1 rfl, e 0 (by decide) (by cases b1 <;> cases b2 <;> rfl)⟩)
theorem ask1 (T : Txt K mg) (h : Args 1 n zf v1 z2 b0 b1 b2 B H) (q : due 1 b0 b1 b2 = -1 → ∀ v H', Same H H' → Q v H') (e : ∀ i : Nat, i < 7 → due 1 b0 b1 b2 = (i : Int) → RE H E (cl T i)) : sp_way_at T [.int zf, v1] H Q E := by
  obtain ⟨z, rfl, g0, g1⟩ := h.fst
  have hn := h.hn
  cases b0
  · have ez := h.f0 rfl
    subst ez
    cases b1
    · have g := g0 rfl
      have hd : due 1 false false b2 = -1 := by cases b2 <;> rfl
      exact .inl ⟨n, z.toNat, by rw [Int.toNat_of_nonneg g.1], hn, by omega, fun w H' s _ _ => q hd _ _ s⟩
    · exact .inr (.inr ⟨n, z, rfl, hn, g1 rfl, e 1 (by decide) (by cases b2 <;> rfl)⟩)
  · exact .inr (.inl ⟨zf, _, rfl, h.f1 rfl, e 0 (by decide) (by cases b1 <;> cases b2 <;> rfl)⟩)
theorem ask2 (T : Txt K mg) (h : Args 2 n zf v1 z2 b0 b1 b2 B H) (q : due 2 b0 b1 b2 = -1 → ∀ v H', Same H H' → Q v H') (e : ∀ i : Nat, i < 7 → due 2 b0 b1 b2 = (i : Int) → RE H E (cl T i)) : sp_place_of T [.int zf, v1] H Q E := by
  obtain ⟨a, x, y, rfl, ha, g0, g1⟩ := h.fst
  have hn := h.hn
  cases b0
  · have ez := h.f0 rfl
    subst ez
    cases b1
    · obtain ⟨u1, u2, u3, u4⟩ := g0 rfl
      rw [i2_nat] at u2 u4
      have hd : due 2 false false b2 = -1 := by cases b2 <;> rfl
      exact .inl ⟨n, x.toNat, y.toNat, x, y, a, rfl, by omega, by omega, hn, by omega, by omega, ha, fun H' s => q hd _ _ s⟩
    · exact .inr (.inr ⟨n, a, x, y, rfl, hn, ha, g1 rfl, e 2 (by decide) (by cases b2 <;> rfl)⟩)
  · exact .inr (.inl ⟨zf, _, rfl, h.f1 rfl, e 0 (by decide) (by cases b1 <;> cases b2 <;> rfl)⟩)
theorem ask3 (T : Txt K mg) (h : Args 3 n zf v1 z2 b0 b1 b2 B H) (q : due 3 b0 b1 b2 = -1 → ∀ v H', Same H H' → Q v H') (e : ∀ i : Nat, i < 7 → due 3 b0 b1 b2 = (i : Int) → RE H E (cl T i)) : sp_square_at T [.int zf, v1, .int z2] H Q E := by
  obtain ⟨z, rfl, g0, g1⟩ := h.fst
  obtain ⟨k0, k1⟩ := h.lst
  have hn := h.hn
  cases b0
  · have ez := h.f0 rfl
    subst ez
    cases b1
    · have g := g0 rfl
      cases b2
      · have k := k0 rfl
        exact .inl ⟨n, z.toNat, z2.toNat, by rw [Int.toNat_of_nonneg g.1, Int.toNat_of_nonneg k.1], hn, by omega, by omega, fun a H' _ s _ => q rfl _ _ s⟩
      · have k := k1 rfl
        exact .inr (.inr (.inr ⟨n, z.toNat, z, z2, rfl, by omega, hn, by omega, by omega, e 3 (by decide) rfl⟩))
    · exact .inr (.inr (.inl ⟨n, z, _, rfl, hn, g1 rfl, e 1 (by decide) (by cases b2 <;> rfl)⟩))
  · exact .inr (.inl ⟨zf, _, _, rfl, h.f1 rfl, e 0 (by decide) (by cases b1 <;> cases b2 <;> rfl)⟩)
theorem ask4 (T : Txt K mg) (h : Args 4 n zf v1 z2 b0 b1 b2 B H) (q : due 4 b0 b1 b2 = -1 → ∀ v H', Same H H' → Q v H') (e : ∀ i : Nat, i < 7 → due 4 b0 b1 b2 = (i : Int) → RE H E (cl T i)) : sp_counted T [.int zf, v1, .int z2] H Q E := by
  obtain ⟨a, rfl, ha, g0, g1, _⟩ := h.fst
  obtain ⟨k0, k1⟩ := h.lst
  have hn := h.hn
  cases b0
  · have ez := h.f0 rfl
    subst ez
    cases b1
    · cases b2
      · have k := k0 rfl
        exact .inl ⟨n, z2.toNat, z2, a, B, rfl, by omega, hn, by omega, g0 rfl, ha, fun H' s => q rfl _ _ s⟩
      · have k := k1 rfl
        exact .inr (.inr (.inr ⟨n, a, B, z2, rfl, hn, ha, g0 rfl, by omega, e 1 (by decide) rfl⟩))
    · exact .inr (.inr (.inl ⟨n, a, B, _, rfl, hn, ha, g1 rfl, e 4 (by decide) (by cases b2 <;> rfl)⟩))
  · exact .inr (.inl ⟨zf, _, _, rfl, h.f1 rfl, e 0 (by decide) (by cases b1 <;> cases b2 <;> rfl)⟩)
theorem ask5 (T : Txt K mg) (h : Args 5 n zf v1 z2 b0 b1 b2 B H) (q : due 5 b0 b1 b2 = -1 → ∀ v H', Same H H' → Q v H') (e : ∀ i : Nat, i < 7 → due 5 b0 b1 b2 = (i : Int) → RE H E (cl T i)) : sp_nth T [.int zf, v1, .int z2] H Q E := by
  obtain ⟨a, rfl, ha, g0, g1, _⟩ := h.fst
  have hl : BoxOk B n → InOut b2 z2 (sh B 0 0 (2 ^ n) : Nat) := h.lst
  have hn := h.hn
  cases b0
  · have ez := h.f0 rfl
    subst ez
    cases b1
    · obtain ⟨k0, k1⟩ := hl (g0 rfl)
      cases b2
      · have k := k0 rfl
        exact .inl ⟨n, z2.toNat, z2, a, B, rfl, by omega, hn, g0 rfl, ha, by omega, fun p _ _ _ H' s => q rfl _ _ s⟩
      · have k := k1 rfl
        exact .inr (.inr (.inr ⟨n, a, B, z2, rfl, hn, ha, g0 rfl, by omega, e 5 (by decide) rfl⟩))
    · exact .inr (.inr (.inl ⟨n, a, B, _, rfl, hn, ha, g1 rfl, e 4 (by decide) (by cases b2 <;> rfl)⟩))
  · exact .inr (.inl ⟨zf, _, _, rfl, h.f1 rfl, e 0 (by decide) (by cases b1 <;> cases b2 <;> rfl)⟩)
theorem ask6 (T : Txt K mg) (h : Args 6 n zf v1 z2 b0 b1 b2 B H) (q : due 6 b0 b1 b2 = -1 → ∀ v H', Same H H' → Q v H') (e : ∀ i : Nat, i < 7 → due 6 b0 b1 b2 = (i : Int) → RE H E (cl T i)) : sp_next_in T [.int zf, v1, .int z2] H Q E := by
  obtain ⟨a, rfl, ha, g0, g1, _⟩ := h.fst
  obtain ⟨k0, k1⟩ := h.lst
  have hn := h.hn
  cases b0
  · have ez := h.f0 rfl
    subst ez
    cases b1
    · cases b2
      · have k := k0 rfl
        exact .inl ⟨n, z2.toNat, z2, a, B, rfl, by omega, hn, by omega, g0 rfl, ha, fun _ H' s => q rfl _ _ s, fun r _ _ _ _ H' s => q rfl _ _ s⟩
      · have k := k1 rfl
        exact .inr (.inr (.inr ⟨n, a, B, z2, rfl, hn, ha, g0 rfl, by omega, e 1 (by decide) rfl⟩))
    · exact .inr (.inr (.inl ⟨n, a, B, _, rfl, hn, ha, g1 rfl, e 4 (by decide) (by cases b2 <;> rfl)⟩))
  · exact .inr (.inl ⟨zf, _, _, rfl, h.f1 rfl, e 0 (by decide) (by cases b1 <;> cases b2 <;> rfl)⟩)
theorem ask7 (T : Txt K mg) (h : Args 7 n zf v1 z2 b0 b1 b2 B H) (q : due 7 b0 b1 b2 = -1 → ∀ v H', Same H H' → Q v H') (e : ∀ i : Nat, i < 7 → due 7 b0 b1 b2 = (i : Int) → RE H E (cl T i)) : sp_next_out T [.int zf, v1, .int z2] H Q E := by
  obtain ⟨a, rfl, ha, g0, g1, _⟩ := h.fst
  obtain ⟨k0, k1⟩ := h.lst
  have hn := h.hn
  cases b0
  · have ez := h.f0 rfl
    subst ez
    cases b1
    · cases b2
      · have k := k0 rfl
        exact .inl ⟨n, z2.toNat, z2, a, B, rfl, by omega, hn, by omega, g0 rfl, ha, fun _ H' s => q rfl _ _ s, fun r _ _ _ _ H' s => q rfl _ _ s⟩
      · have k := k1 rfl
        exact .inr (.inr (.inr ⟨n, a, B, z2, rfl, hn, ha, g0 rfl, by omega, e 1 (by decide) rfl⟩))
    · exact .inr (.inr (.inl ⟨n, a, B, _, rfl, hn, ha, g1 rfl, e 4 (by decide) (by cases b2 <;> rfl)⟩))
  · exact .inr (.inl ⟨zf, _, _, rfl, h.f1 rfl, e 0 (by decide) (by cases b1 <;> cases b2 <;> rfl)⟩)
theorem ask8 (T : Txt K mg) (h : Args 8 n zf v1 z2 b0 b1 b2 B H) (q : due 8 b0 b1 b2 = -1 → ∀ v H', Same H H' → Q v H') (e : ∀ i : Nat, i < 7 → due 8 b0 b1 b2 = (i : Int) → RE H E (cl T i)) : sp_stretches T [.int zf, v1, .int z2] H Q E := by
  obtain ⟨a, rfl, ha, g0, g1, _⟩ := h.fst
  obtain ⟨k0, k1⟩ := h.lst
  have hn := h.hn
  cases b0
  · have ez := h.f0 rfl
    subst ez
    cases b1
    · cases b2
      · have k := k0 rfl
        subst k
        have hB := g0 rfl
        refine .inl ⟨n, a, B, 0, rfl, hn, hB, ha, Nat.zero_le _, fun ps d L H' c1 c2 c3 s _ => ?_, fun ps d f H' _ _ _ s => e 6 (by decide) rfl _ s⟩
        have hp := sh_pos hB
        match ps, c1, c3 with
        | [], c1, _ =>
          have c1' : 0 = d := c1
          subst c1'
          have c2' : (0 : Nat) = sh B 0 0 (2 ^ n) := c2
          omega
      · have k := k1 rfl
        exact .inr (.inr (.inr ⟨n, a, B, z2, rfl, hn, ha, g0 rfl, k, e 5 (by decide) rfl⟩))
    · exact .inr (.inr (.inl ⟨n, a, B, _, rfl, hn, ha, g1 rfl, e 4 (by decide) (by cases b2 <;> rfl)⟩))
  · exact .inr (.inl ⟨zf, _, _, rfl, h.f1 rfl, e 0 (by decide) (by cases b1 <;> cases b2 <;> rfl)⟩)
end
def sp__law_asked {K : PySem.W.Frag} {mg : Str → Option Value} (T : Txt K mg) : Sp := fun vs H Q E => ∃ (w n : Nat) (zf : Int) (v1 : V) (z2 : Int) (b0 b1 b2 : Bool) (B : Box), vs = [.int w, .int zf, v1, .int z2] ∧ w ≤ 8 ∧ Args w n zf v1 z2 b0 b1 b2 B H ∧
  (due w b0 b1 b2 = -1 → ∀ v H', Same H H' → Q v H') ∧ ∀ i : Nat, i < 7 → due w b0 b1 b2 = (i : Int) → RE H E (cl T i)
section
variable {P : Program} {w : World} {K : PySem.W.Frag} {mg : Str → Option Value} {base : Heap}
theorem ok__law_asked (T : Txt K mg) : FnOk P w K mg base (L2.CX P w) 6 T.a__law_asked T.d__law_asked ["_law_which", "_law_folds_here", "_law_first_here", "_law_last_here"] (sp__law_asked T) := by
  refine T.F__law_asked.okX sc__law_asked (fun vs H Q E h => ?_) (fun cdv A outer s H vs Q E hr h => ?_)
  · obtain ⟨w', n, zf, v1, z2, b0, b1, b2, B, rfl, hw, h, q, e⟩ := h
    rfl
  · obtain ⟨w', n, zf, v1, z2, b0, b1, b2, B, rfl, hw, h, q, e⟩ := h
    refine ⟨_, (pss_cons (ps_if (pt_cmpR op_eq (pv 0) pe_int (nomark _)) (pss_one (ps_ret (pe_callSD (ok_cell_at T) (hr.mono (by decide)) (by rfl) T.m_cell_at T.F_cell_at.kp T.b_cell_at .nil (fun σ => passAt (takes_of rfl rfl rfl rfl) σ) (pa_cons (pv 1) (pa_cons (pv 2) pa_nil))))) pss_nil)
      (pss_cons (ps_if (pt_cmpR op_eq (pv 0) pe_int (nomark _)) (pss_one (ps_ret (pe_callSD (ok_way_at T) (hr.mono (by decide)) (by rfl) T.m_way_at T.F_way_at.kp T.b_way_at .nil (fun σ => passAt (takes_of rfl rfl rfl rfl) σ) (pa_cons (pv 1) (pa_cons (pv 2) pa_nil))))) pss_nil)
      (pss_cons (ps_if (pt_cmpR op_eq (pv 0) pe_int (nomark _)) (pss_one (ps_ret (pe_callSD (ok_place_of T) (hr.mono (by decide)) (by rfl) T.m_place_of T.F_place_of.kp T.b_place_of .nil (fun σ => passAt (takes_of rfl rfl rfl rfl) σ) (pa_cons (pv 1) (pa_cons (pv 2) pa_nil))))) pss_nil)
      (pss_cons (ps_if (pt_cmpR op_eq (pv 0) pe_int (nomark _)) (pss_one (ps_ret (pe_callSD (ok_square_at T) (hr.mono (by decide)) (by rfl) T.m_square_at T.F_square_at.kp T.b_square_at .nil (fun σ => passAt (takes_of rfl rfl rfl rfl) σ) (pa_cons (pv 1) (pa_cons (pv 2) (pa_cons (pv 3) pa_nil)))))) pss_nil)
      (pss_cons (ps_if (pt_cmpR op_eq (pv 0) pe_int (nomark _)) (pss_one (ps_ret (pe_callSD (ok_counted T) (hr.mono (by decide)) (by rfl) T.m_counted T.F_counted.kp T.b_counted .nil (fun σ => passAt (takes_of rfl rfl rfl rfl) σ) (pa_cons (pv 1) (pa_cons (pv 2) (pa_cons (pv 3) pa_nil)))))) pss_nil)
      (pss_cons (ps_if (pt_cmpR op_eq (pv 0) pe_int (nomark _)) (pss_one (ps_ret (pe_callSD (ok_nth T) (hr.mono (by decide)) (by rfl) T.m_nth T.F_nth.kp T.b_nth .nil (fun σ => passAt (takes_of rfl rfl rfl rfl) σ) (pa_cons (pv 1) (pa_cons (pv 2) (pa_cons (pv 3) pa_nil)))))) pss_nil)
      (pss_cons (ps_if (pt_cmpR op_eq (pv 0) pe_int (nomark _)) (pss_one (ps_ret (pe_callSD (ok_next_in T) (hr.mono (by decide)) (by rfl) T.m_next_in T.F_next_in.kp T.b_next_in .nil (fun σ => passAt (takes_of rfl rfl rfl rfl) σ) (pa_cons (pv 1) (pa_cons (pv 2) (pa_cons (pv 3) pa_nil)))))) pss_nil)
      (pss_cons (ps_if (pt_cmpR op_eq (pv 0) pe_int (nomark _)) (pss_one (ps_ret (pe_callSD (ok_next_out T) (hr.mono (by decide)) (by rfl) T.m_next_out T.F_next_out.kp T.b_next_out .nil (fun σ => passAt (takes_of rfl rfl rfl rfl) σ) (pa_cons (pv 1) (pa_cons (pv 2) (pa_cons (pv 3) pa_nil)))))) pss_nil)
      (pss_one (ps_ret (pe_callSD (ok_stretches T) (hr.mono (by decide)) (by rfl) T.m_stretches T.F_stretches.kp T.b_stretches .nil (fun σ => passAt (takes_of rfl rfl rfl rfl) σ) (pa_cons (pv 1) (pa_cons (pv 2) (pa_cons (pv 3) pa_nil)))))))))))))), ?_⟩
    have hw9 : w' = 0 ∨ w' = 1 ∨ w' = 2 ∨ w' = 3 ∨ w' = 4 ∨ w' = 5 ∨ w' = 6 ∨ w' = 7 ∨ w' = 8 := by omega
    walk_at "rd"
    rcases hw9 with rfl | rfl | rfl | rfl | rfl | rfl | rfl | rfl | rfl
    · refine riteY rfl ?_
      walk_at "rd"
      exact ask0 T h q e
    · refine riteO (by decide) ?_
      walk_at "rd"
      refine riteY rfl ?_
      walk_at "rd"
      exact ask1 T h q e
    · refine riteO (by decide) ?_
      walk_at "rd"
      refine riteO (by decide) ?_
      walk_at "rd"
      refine riteY rfl ?_
      walk_at "rd"
      exact ask2 T h q e
    · refine riteO (by decide) ?_
      walk_at "rd"
      refine riteO (by decide) ?_
      walk_at "rd"
      refine riteO (by decide) ?_
      walk_at "rd"
      refine riteY rfl ?_
      walk_at "rd"
      exact ask3 T h q e
    · refine riteO (by decide) ?_
      walk_at "rd"
      refine riteO (by decide) ?_
      walk_at "rd"
      refine riteO (by decide) ?_
      walk_at "rd"
      refine riteO (by decide) ?_
      walk_at "rd"
      refine riteY rfl ?_
      walk_at "rd"
      exact ask4 T h q e
    · refine riteO (by decide) ?_
      walk_at "rd"
      refine riteO (by decide) ?_
      walk_at "rd"
      refine riteO (by decide) ?_
      walk_at "rd"
      refine riteO (by decide) ?_
      walk_at "rd"
      refine riteO (by decide) ?_
      walk_at "rd"
      refine riteY rfl ?_
      walk_at "rd"
      exact ask5 T h q e
    · refine riteO (by decide) ?_
      walk_at "rd"
      refine riteO (by decide) ?_
      walk_at "rd"
      refine riteO (by decide) ?_
      walk_at "rd"
      refine riteO (by decide) ?_
      walk_at "rd"
      refine riteO (by decide) ?_
      walk_at "rd"
      refine riteO (by decide) ?_
      walk_at "rd"
      refine riteY rfl ?_
      walk_at "rd"
      exact ask6 T h q e
    · refine riteO (by decide) ?_
      walk_at "rd"
      refine riteO (by decide) ?_
      walk_at "rd"
      refine riteO (by decide) ?_
      walk_at "rd"
      refine riteO (by decide) ?_
      walk_at "rd"
      refine riteO (by decide) ?_
      walk_at "rd"
      refine riteO (by decide) ?_
      walk_at "rd"
      refine riteO (by decide) ?_
      walk_at "rd"
      refine riteY rfl ?_
      walk_at "rd"
      exact ask7 T h q e
    · refine riteO (by decide) ?_
      walk_at "rd"
      refine riteO (by decide) ?_
      walk_at "rd"
      refine riteO (by decide) ?_
      walk_at "rd"
      refine riteO (by decide) ?_
      walk_at "rd"
      refine riteO (by decide) ?_
      walk_at "rd"
      refine riteO (by decide) ?_
      walk_at "rd"
      refine riteO (by decide) ?_
      walk_at "rd"
      refine riteO (by decide) ?_
      walk_at "rd"
      exact ask8 T h q e
end
/-! _law_classes -/
theorem sc__law_classes : FnScope ["_law_which", "_law_folds_here", "_law_first_here", "_law_last_here", "_law_found", "e"] ["_law_which", "_law_folds_here", "_law_first_here", "_law_last_here"] (defScope s__law_classes) := ⟨rfl, rfl, rfl, by decide +kernel, rfl, by decide +kernel, by decide +kernel⟩
def sp__law_classes (K : PySem.W.Frag) : Sp := fun vs H Q _ => ∃ (w n : Nat) (zf : Int) (v1 : V) (z2 : Int) (b0 b1 b2 : Bool) (B : Box), vs = [.int w, .int zf, v1, .int z2] ∧ w ≤ 8 ∧ Args w n zf v1 z2 b0 b1 b2 B H ∧
  ∀ L H', Same H H' → H' L = some (.lst ((told (due w b0 b1 b2)).map V.bl)) → Q (.ref L) H'
section
variable {P : Program} {w : World} {K : PySem.W.Frag} {mg : Str → Option Value} {base : Heap}
theorem ok__law_classes (T : Txt K mg) : FnOk P w K mg base CX0 7 T.a__law_classes T.d__law_classes ["_law_which", "_law_folds_here", "_law_first_here", "_law_last_here"] (sp__law_classes K) := by
  refine T.F__law_classes.ok sc__law_classes (fun vs H Q E h => ?_) (fun cdv A outer s H vs Q E hr h => ?_)
  · obtain ⟨w', n, zf, v1, z2, b0, b1, b2, B, rfl, hw, h, q⟩ := h
    rfl
  · obtain ⟨w', n, zf, v1, z2, b0, b1, b2, B, rfl, hw, h, q⟩ := h
    refine ⟨_, (pss_cons (ps_set (i := 4) sc__law_classes.nd rfl (.inl rfl) (pe_lst pa_nil))
      (pss_cons (ps_try_as (i := 5) rfl rfl sc__law_classes.nd rfl rfl ⟨rfl, by decide, .inl T.g_WalkError⟩ takes0 (fun W pn xe tk _ => (pss_one (ps_expr (pe_callSD (ok__law_asked T) (hr.mono (by decide)) (by rfl) T.m__law_asked T.F__law_asked.kp T.b__law_asked .nil (fun σ => passAt tk σ) (pa_cons (pv 0) (pa_cons (pv 1) (pa_cons (pv 2) (pa_cons (pv 3) pa_nil)))))))) (fun a oe cls d pn hz hf => (pss_cons (ps_set (i := 4) sc__law_classes.nd rfl (.inl rfl) (pe_lst (pa_cons (pe_callB (call_isE2 hz hf) (by rfl) T.n_isinstance (by decide +kernel) (pa_cons (pv 5) (pa_cons (pe_glob (v := .ref T.c_NoFloor) rfl T.g_NoFloor rfl) pa_nil))) (pa_cons (pe_callB (call_isE2 hz hf) (by rfl) T.n_isinstance (by decide +kernel) (pa_cons (pv 5) (pa_cons (pe_glob (v := .ref T.c_NoPlace) rfl T.g_NoPlace rfl) pa_nil))) (pa_cons (pe_callB (call_isE2 hz hf) (by rfl) T.n_isinstance (by decide +kernel) (pa_cons (pv 5) (pa_cons (pe_glob (v := .ref T.c_NoCell) rfl T.g_NoCell rfl) pa_nil))) (pa_cons (pe_callB (call_isE2 hz hf) (by rfl) T.n_isinstance (by decide +kernel) (pa_cons (pv 5) (pa_cons (pe_glob (v := .ref T.c_NoSquare) rfl T.g_NoSquare rfl) pa_nil))) pa_nil))))))
      (pss_cons (ps_set (i := 4) sc__law_classes.nd rfl (.inl rfl) (pe_op op_cat (pv 4) (pe_lst (pa_cons (pe_callB (call_isE2 hz hf) (by rfl) T.n_isinstance (by decide +kernel) (pa_cons (pv 5) (pa_cons (pe_glob (v := .ref T.c_NoBox) rfl T.g_NoBox rfl) pa_nil))) (pa_cons (pe_callB (call_isE2 hz hf) (by rfl) T.n_isinstance (by decide +kernel) (pa_cons (pv 5) (pa_cons (pe_glob (v := .ref T.c_NoNumber) rfl T.g_NoNumber rfl) pa_nil))) (pa_cons (pe_callB (call_isE2 hz hf) (by rfl) T.n_isinstance (by decide +kernel) (pa_cons (pv 5) (pa_cons (pe_glob (v := .ref T.c_TooMany) rfl T.g_TooMany rfl) pa_nil))) pa_nil))))))
      (pss_one (ps_set (i := 4) sc__law_classes.nd rfl (.inl rfl) (pe_op op_cat (pv 4) (pe_lst (pa_cons (pe_callB (call_isE2 hz hf) (by rfl) T.n_isinstance (by decide +kernel) (pa_cons (pv 5) (pa_cons (pe_bltn (v := .ty "ValueError") (by rfl) T.n_ValueError (by decide +kernel) rfl) pa_nil))) pa_nil)))))))))
      (pss_one (ps_ret (pv 4))))), ?_⟩
    walk_at "rd"
    refine n_lst fun L0 H1 nL s1 e1 => ?_
    walk_at "rd"
    refine ⟨w', n, zf, v1, z2, b0, b1, b2, B, rfl, hw, h.mono s1, fun hd v H2 s2 => ?_, fun i hi hd H2 s2 => ?_⟩
    · walk_at "rd"
      refine q L0 H2 (s1.trans s2) ?_
      rw [hd]
      exact s2 _ _ e1
    · refine ⟨true, PySem.W.exm_ref T.r_WalkError T.hdW T.t_WalkError (cl_walk T hi), fun _ a0 _ => ?_, fun z => Bool.noConfusion z⟩
      walk_at "rd"
      refine ⟨cl T i, rfl, rfl, cl_ec T hi, _, _, _, rfl, fun _ r => r, cl_kit T (j := 0) hi (by decide), ?_⟩
      walk_at "rd"
      refine ⟨cl T i, rfl, rfl, cl_ec T hi, _, _, _, rfl, fun _ r => r, cl_kit T (j := 1) hi (by decide), ?_⟩
      walk_at "rd"
      refine ⟨cl T i, rfl, rfl, cl_ec T hi, _, _, _, rfl, fun _ r => r, cl_kit T (j := 2) hi (by decide), ?_⟩
      walk_at "rd"
      refine ⟨cl T i, rfl, rfl, cl_ec T hi, _, _, _, rfl, fun _ r => r, cl_kit T (j := 3) hi (by decide), ?_⟩
      walk_at "rd"
      refine n_lst fun L1 H3 nL1 s3 e3 => ?_
      walk_at "rd"
      refine ⟨cl T i, rfl, rfl, cl_ec T hi, _, _, _, rfl, fun _ r => r, cl_kit T (j := 4) hi (by decide), ?_⟩
      walk_at "rd"
      refine ⟨cl T i, rfl, rfl, cl_ec T hi, _, _, _, rfl, fun _ r => r, cl_kit T (j := 5) hi (by decide), ?_⟩
      walk_at "rd"
      refine ⟨cl T i, rfl, rfl, cl_ec T hi, _, _, _, rfl, fun _ r => r, cl_kit T (j := 6) hi (by decide), ?_⟩
      walk_at "rd"
      refine n_lst fun L2 H4 nL2 s4 e4 => ?_
      walk_at "rd"
      refine r_cat (s4 _ _ e3) e4 (by show 7 ≤ 1000; decide) fun L3 H5 nL3 s5 e5 => ?_
      walk_at "rd"
      refine ⟨cl T i, rfl, rfl, cl_ec T hi, _, _, _, rfl, fun _ r => r, cl_val T hi, ?_⟩
      walk_at "rd"
      refine n_lst fun L4 H6 nL4 s6 e6 => ?_
      walk_at "rd"
      refine r_cat (s6 _ _ e5) e6 (by show 8 ≤ 1000; decide) fun L5 H7 nL5 s7 e7 => ?_
      walk_at "rd"
      refine q L5 H7 (s1.trans (s2.trans (s3.trans (s4.trans (s5.trans (s6.trans s7)))))) ?_
      rw [hd, ← told_eq hi]
      exact e7
end
/-! _law_first -/
theorem sc__law_first : FnScope ["_law_which", "_law_bad", "_law_one", "_law_two", "_law_folds_here", "_law_side"] ["_law_which", "_law_bad", "_law_one", "_law_two", "_law_folds_here"] (defScope s__law_first) := ⟨rfl, rfl, rfl, by decide +kernel, rfl, by decide +kernel, by decide +kernel⟩
def sp__law_first (K : PySem.W.Frag) : Sp := fun vs H Q _ => ∃ (w n : Nat) (b : Bool) (c1 c2 : Int), vs = [.int w, .bl b, .int c1, .int c2, .int n] ∧ w ≤ 8 ∧ n ≤ 60 ∧ (w = 1 → n = 0 → b = true) ∧
  ∀ (v : V) (B : Box) (H' : Hp), Same H H' → First n v b H' B w → (3 < w → Bd B) → Q v H'
theorem first_box {n w : Nat} {v : V} {b : Bool} {H : Hp} {B : Box} (h : 3 < w) (k : ∃ a, v = .ref a ∧ H a = some (.tup (bt B)) ∧ (b = false → BoxOk B n) ∧ (b = true → ¬ BoxOk B n) ∧ Bd B) : First n v b H B w := by
  match w, h with
  | w + 4, _ => exact k
section
variable {P : Program} {w : World} {K : PySem.W.Frag} {mg : Str → Option Value} {base : Heap}
theorem ok__law_first (T : Txt K mg) : FnOk P w K mg base CX0 4 T.a__law_first T.d__law_first ["_law_which", "_law_bad", "_law_one", "_law_two", "_law_folds_here"] (sp__law_first K) := by
  refine T.F__law_first.ok sc__law_first (fun vs H Q E h => ?_) (fun cdv A outer s H vs Q E hr h => ?_)
  · obtain ⟨w', n, b, c1, c2, rfl, hw, hn, h10, q⟩ := h
    rfl
  · obtain ⟨w', n, b, c1, c2, rfl, hw, hn, h10, q⟩ := h
    refine ⟨_, (pss_cons (ps_set (i := 5) sc__law_first.nd rfl (.inl rfl) (pe_op op_shl pe_int (pv 4)))
      (pss_cons (ps_if (pt_cmpR op_eq (pv 0) pe_int (nomark _)) (pss_one (ps_ret (pe_call (ok__law_cell T) (hr.mono (by decide)) (by rfl) T.m__law_cell T.F__law_cell.kp T.b__law_cell .nil pass0 (pa_cons (pv 1) (pa_cons (pv 2) (pa_cons (pv 3) (pa_cons (pv 5) pa_nil))))))) pss_nil)
      (pss_cons (ps_if (pt_cmpR op_gt (pv 0) pe_int (nomark _)) (pss_one (ps_ret (pe_call (ok__law_box T) (hr.mono (by decide)) (by rfl) T.m__law_box T.F__law_box.kp T.b__law_box .nil pass0 (pa_cons (pv 1) (pa_cons (pe_lst (pa_cons (pv 2) (pa_cons (pv 3) (pa_cons (pe_op op_fdivW (pv 2) pe_int) (pa_cons (pe_op op_fdivW (pv 3) pe_int) (pa_cons (pe_op op_fdivW (pv 2) pe_int) pa_nil)))))) (pa_cons (pv 5) pa_nil)))))) pss_nil)
      (pss_one (ps_ret (pe_call (ok__law_number T) (hr.mono (by decide)) (by rfl) T.m__law_number T.F__law_number.kp T.b__law_number .nil pass0 (pa_cons (pv 1) (pa_cons (pv 2) (pa_cons (pe_op op_sub (pe_op op_sub (pe_op op_mul (pv 5) (pv 5)) pe_int) (pe_callTy call_int1 (by rfl) T.n_int (by decide +kernel) (pa_cons (pe_cmpR op_eq (pv 0) pe_int (nomark _)) pa_nil))) pa_nil))))))))), ?_⟩
    have hS1 := i2_pos n
    have hS2 : (2 : Int) ^ n < 2 ^ 64 := i2_lt (by omega)
    have h4 := p4 n
    walk_at "rd"
    refine r_shl n rfl (by omega) (by decide) ?_
    rw [Int.one_mul]
    walk_at "rd"
    refine riteD (fun h2 => ?_) (fun h2 => ?_)
    · have e2 : w' = 2 := by omega
      subst e2
      walk_at "rd"
      exact ⟨b, c1, c2, n, rfl, fun x y a H1 s1 e1 g0 g1 => q (.ref a) ⟨0, 0, 0, 0⟩ H1 s1 ⟨a, x, y, rfl, e1, g0, g1⟩ (fun z => absurd z (by decide))⟩
    walk_at "rd"
    refine riteD (fun h3 => ?_) (fun h3 => ?_)
    · walk_at "rd"
      refine n_lst fun l H1 nl s1 e1 => ?_
      walk_at "rd"
      exact ⟨b, l, _, _, _, _, _, n, rfl, hn, e1, fun B a H2 s2 e2 g0 g1 g2 => q (.ref a) B H2 (s1.trans s2) (first_box (by omega) ⟨a, rfl, e2, g0, g1, g2⟩) (fun _ => g2)⟩
    walk_at "rd"
    rw [sq_int]
    refine .inr ⟨_, rfl, ?_⟩
    walk_at "rd"
    have ew : w' = 0 ∨ w' = 1 ∨ w' = 3 := by omega
    rcases ew with rfl | rfl | rfl
    · refine ⟨b, c1, _, rfl, fun _ => (show (0 : Int) ≤ ((4 ^ n : Nat) : Int) - 1 - 0 by omega), fun z H1 s1 g0 g1 => q (.int z) ⟨0, 0, 0, 0⟩ H1 s1 ⟨z, rfl, fun k => ?_, fun k => ?_⟩ (fun k => absurd k (by decide))⟩
      · have g := g0 k
        have g' : 0 ≤ z ∧ z ≤ ((4 ^ n : Nat) : Int) - 1 - 0 := g
        omega
      · have g : (z < 0 ∧ -(2 ^ 101) < z) ∨ (((4 ^ n : Nat) : Int) - 1 - 0 < z ∧ z < ((4 ^ n : Nat) : Int) - 1 - 0 + 2 ^ 101) := g1 k
        omega
    · refine ⟨b, c1, _, rfl, fun k => (show (0 : Int) ≤ ((4 ^ n : Nat) : Int) - 1 - 1 from ?_), fun z H1 s1 g0 g1 => q (.int z) ⟨0, 0, 0, 0⟩ H1 s1 ⟨z, rfl, fun k => ?_, fun k => ?_⟩ (fun k => absurd k (by decide))⟩
      · have n0 : n ≠ 0 := fun z => by
          have := h10 rfl z
          rw [this] at k
          exact Bool.noConfusion k
        have := n4_lt (n := 1) (m := n) (by omega)
        omega
      · have g' : 0 ≤ z ∧ z ≤ ((4 ^ n : Nat) : Int) - 1 - 1 := g0 k
        omega
      · have g : (z < 0 ∧ -(2 ^ 101) < z) ∨ (((4 ^ n : Nat) : Int) - 1 - 1 < z ∧ z < ((4 ^ n : Nat) : Int) - 1 - 1 + 2 ^ 101) := g1 k
        omega
    · refine ⟨b, c1, _, rfl, fun _ => (show (0 : Int) ≤ ((4 ^ n : Nat) : Int) - 1 - 0 by omega), fun z H1 s1 g0 g1 => q (.int z) ⟨0, 0, 0, 0⟩ H1 s1 ⟨z, rfl, fun k => ?_, fun k => ?_⟩ (fun k => absurd k (by decide))⟩
      · have g' : 0 ≤ z ∧ z ≤ ((4 ^ n : Nat) : Int) - 1 - 0 := g0 k
        omega
      · have g : (z < 0 ∧ -(2 ^ 101) < z) ∨ (((4 ^ n : Nat) : Int) - 1 - 0 < z ∧ z < ((4 ^ n : Nat) : Int) - 1 - 0 + 2 ^ 101) := g1 k
        omega
end
/-! _law_last -/
theorem sc__law_last : FnScope ["_law_which", "_law_bad", "_law_cell_here", "_law_first_here", "_law_folds_here", "_law_many"] ["_law_which", "_law_bad", "_law_cell_here", "_law_first_here", "_law_folds_here"] (defScope s__law_last) := ⟨rfl, rfl, rfl, by decide +kernel, rfl, by decide +kernel, by decide +kernel⟩
def sp__law_last (K : PySem.W.Frag) : Sp := fun vs H Q _ => ∃ (w n : Nat) (b b1 : Bool) (c : Int) (v1 : V) (B : Box), vs = [.int w, .bl b, .int c, v1, .int n] ∧ w ≤ 8 ∧ n ≤ 60 ∧ First n v1 b1 H B w ∧ (3 < w → Bd B) ∧
  ∀ (z : Int) (H' : Hp), Same H H' → Last n B z b w → Q (.int z) H'
theorem last_place {n w : Nat} {B : Box} {z : Int} {b : Bool} (hw : w ≤ 8) (h3 : w ≠ 3) (h5 : w = 5 → ¬ BoxOk B n) (h8 : w ≠ 8) (k : InOut b z (((4 ^ n : Nat) : Int) + 1)) : Last n B z b w := by
  match w, hw, h3, h8, h5 with
  | 0, _, _, _, _ => trivial
  | 1, _, _, _, _ => trivial
  | 2, _, _, _, _ => trivial
  | 4, _, _, _, _ => exact k
  | 5, _, _, _, h => exact fun z => absurd z (h rfl)
  | 6, _, _, _, _ => exact k
  | 7, _, _, _, _ => exact k
  | 8, _, _, h, _ => exact absurd rfl h
  | w + 9, h, _, _, _ => exact absurd h (by omega)
theorem inout_of {b : Bool} {z m t : Int} (ht : t = m + 1) (g0 : b = false → 0 ≤ z ∧ z ≤ m) (g1 : b = true → (z < 0 ∧ -(2 ^ 101) < z) ∨ (m < z ∧ z < m + 2 ^ 101)) : InOut b z t :=
  ⟨fun k => by have := g0 k; omega, fun k => by have := g1 k; omega⟩
section
variable {P : Program} {w : World} {K : PySem.W.Frag} {mg : Str → Option Value} {base : Heap}
theorem ok__law_last (T : Txt K mg) : FnOk P w K mg base CX0 3 T.a__law_last T.d__law_last ["_law_which", "_law_bad", "_law_cell_here", "_law_first_here", "_law_folds_here"] (sp__law_last K) := by
  refine T.F__law_last.ok sc__law_last (fun vs H Q E h => ?_) (fun cdv A outer s H vs Q E hr h => ?_)
  · obtain ⟨w', n, b, b1, c, v1, B, rfl, hw, hn, hf, hBd, q⟩ := h
    rfl
  · obtain ⟨w', n, b, b1, c, v1, B, rfl, hw, hn, hf, hBd, q⟩ := h
    refine ⟨_, (pss_cons (ps_set (i := 5) sc__law_last.nd rfl (.inl rfl) (pe_op op_shl pe_int (pe_op op_mul pe_int (pv 4))))
      (pss_cons (ps_if (pt_cmpR op_eq (pv 0) pe_int (nomark _)) (pss_one (ps_ret (pe_call (ok__law_number T) (hr.mono (by decide)) (by rfl) T.m__law_number T.F__law_number.kp T.b__law_number .nil pass0 (pa_cons (pv 1) (pa_cons (pv 2) (pa_cons (pv 4) pa_nil)))))) pss_nil)
      (pss_cons (ps_if (PW.pt (pw_and (pt_cmpR op_eq (pv 0) pe_int (nomark _)) (pw_and (pt_cmpR op_le (pe_ix (r := rIxT K) ix_tup (pv 3) pe_int (fun _ _ => rfl)) (pe_ix (r := rIxT K) ix_tup (pv 3) pe_int (fun _ _ => rfl)) (nomark _)) (pw_and1 (pt_cmpR op_le (pe_ix (r := rIxT K) ix_tup (pv 3) pe_int (fun _ _ => rfl)) (pe_ix (r := rIxT K) ix_tup (pv 3) pe_int (fun _ _ => rfl)) (nomark _)))))) (pss_one (ps_ret (pe_call (ok__law_number T) (hr.mono (by decide)) (by rfl) T.m__law_number T.F__law_number.kp T.b__law_number .nil pass0 (pa_cons (pv 1) (pa_cons (pv 2) (pa_cons (pe_op op_sub (pe_op op_mulX (pe_op op_add (pe_op op_sub (pe_ix (r := rIxT K) ix_tup (pv 3) pe_int (fun _ _ => rfl)) (pe_ix (r := rIxT K) ix_tup (pv 3) pe_int (fun _ _ => rfl))) pe_int) (pe_op op_add (pe_op op_sub (pe_ix (r := rIxT K) ix_tup (pv 3) pe_int (fun _ _ => rfl)) (pe_ix (r := rIxT K) ix_tup (pv 3) pe_int (fun _ _ => rfl))) pe_int)) pe_int) pa_nil)))))) pss_nil)
      (pss_cons (ps_if (pt_cmpR op_eq (pv 0) pe_int (nomark _)) (pss_one (ps_ret (pe_ix (r := rIxL K) ix_list (pe_lst (pa_cons pe_int (pa_cons (pe_call (ok__law_number T) (hr.mono (by decide)) (by rfl) T.m__law_number T.F__law_number.kp T.b__law_number .nil pass0 (pa_cons pe_bl (pa_cons (pv 2) (pa_cons pe_int pa_nil)))) pa_nil))) (pe_callTy call_int1 (by rfl) T.n_int (by decide +kernel) (pa_cons (pv 1) pa_nil)) (fun _ _ => rfl)))) pss_nil)
      (pss_one (ps_ret (pe_call (ok__law_number T) (hr.mono (by decide)) (by rfl) T.m__law_number T.F__law_number.kp T.b__law_number .nil pass0 (pa_cons (pv 1) (pa_cons (pv 2) (pa_cons (pv 5) pa_nil)))))))))), ?_⟩
    walk_at "rd"
    refine r_shl (2 * n) (by omega) (by omega) (by decide) ?_
    rw [Int.one_mul, i4_nat]
    walk_at "rd"
    refine riteD (fun h3 => ?_) (fun h3 => ?_)
    · have e3 : w' = 3 := by omega
      subst e3
      walk_at "rd"
      exact ⟨b, c, _, rfl, fun _ => by omega, fun z H1 s1 g0 g1 => q z H1 s1 (inout_of rfl g0 g1)⟩
    have h4 := p4 n
    walk_at "rd"
    have rest : w' ≠ 8 → (w' = 5 → ¬ BoxOk B n) → sp__law_number K [.bl b, .int c, .int (4 ^ n : Nat)] H (fun v H' => Q v H') E0 := fun h8 h5 =>
      ⟨b, c, _, rfl, fun _ => by omega, fun z H1 s1 g0 g1 => q z H1 s1 (last_place hw (by omega) h5 h8 (inout_of rfl g0 g1))⟩
    refine riteD (fun h5 => ?_) (fun h5 => ?_)
    · have e5 : w' = 5 := by omega
      subst e5
      obtain ⟨a, rfl, ha, _, _, hbd⟩ := hf
      obtain ⟨⟨d1, d2⟩, ⟨d3, d4⟩, ⟨d5, d6⟩, d7, d8⟩ := hbd
      walk_at "rd"
      refine r_ixT ha (atI_nat (j := 0) rfl) ?_
      walk_at "rd"
      refine r_ixT ha (atI_nat (j := 2) rfl) ?_
      walk_at "rd"
      refine riteD (fun hlr => ?_) (fun hlr => ?_)
      · walk_at "rd"
        refine r_ixT ha (atI_nat (j := 1) rfl) ?_
        walk_at "rd"
        refine r_ixT ha (atI_nat (j := 3) rfl) ?_
        walk_at "rd"
        refine riteD (fun hoh => ?_) (fun hoh => ?_)
        · walk_at "rd"
          refine r_ixT ha (atI_nat (j := 2) rfl) ?_
          walk_at "rd"
          refine r_ixT ha (atI_nat (j := 0) rfl) ?_
          walk_at "rd"
          refine r_ixT ha (atI_nat (j := 3) rfl) ?_
          walk_at "rd"
          refine r_ixT ha (atI_nat (j := 1) rfl) ?_
          walk_at "rd"
          refine r_mulX (cmul_pow (a := 104) (b := 104) (by omega) (by omega) (by decide)) ?_
          walk_at "rd"
          have hp := Int.mul_pos (show 0 < B.r - B.l + 1 by omega) (show 0 < B.h - B.o + 1 by omega)
          exact ⟨b, c, _, rfl, fun _ => by omega, fun z H1 s1 g0 g1 => q z H1 s1 (fun hB => inout_of (by rw [sh_area hB]; omega) g0 g1)⟩
        · walk_at "rd"
          refine riteO (by decide) ?_
          walk_at "rd"
          exact rest (by decide) (fun _ hB => hoh hB.2.2.2.2.1)
      · walk_at "rd"
        refine riteO (by decide) ?_
        walk_at "rd"
        exact rest (by decide) (fun _ hB => hlr hB.2.1)
    · walk_at "rd"
      refine riteD (fun h8 => ?_) (fun h8 => ?_)
      · have e8 : w' = 8 := by omega
        subst e8
        walk_at "rd"
        refine ⟨true, c, _, rfl, (fun k => Bool.noConfusion k), fun z H1 s1 _ g1 => ?_⟩
        have g1 := g1 rfl
        walk_at "rd"
        refine n_lst fun l H2 nl s2 e2 => ?_
        walk_at "rd"
        refine .inr ⟨_, rfl, ?_⟩
        walk_at "rd"
        cases b
        · refine r_ixL (.inl (.inl e2)) (atI_nat (j := 0) rfl) ?_
          exact q 0 H2 (s1.trans s2) ⟨fun _ => rfl, (fun k => Bool.noConfusion k)⟩
        · refine r_ixL (.inl (.inl e2)) (atI_nat (j := 1) rfl) ?_
          exact q z H2 (s1.trans s2) ⟨(fun k => Bool.noConfusion k), fun _ => by omega⟩
      · walk_at "rd"
        exact rest (by omega) (fun k => absurd k (by omega))
end
/-! _law_due -/
theorem sc__law_due : FnScope ["_law_which", "_law_bad"] ["_law_which", "_law_bad"] (defScope s__law_due) := ⟨rfl, rfl, rfl, by decide +kernel, rfl, by decide +kernel, by decide +kernel⟩
def sp__law_due (K : PySem.W.Frag) : Sp := fun vs H Q _ => ∃ (w : Nat) (L : Addr) (b0 b1 b2 : Bool), vs = [.int w, .ref L] ∧ w ≤ 8 ∧ H L = some (.lst [.bl b0, .bl b1, .bl b2]) ∧ RV (.int (due w b0 b1 b2)) H Q
section
variable {P : Program} {w : World} {K : PySem.W.Frag} {mg : Str → Option Value} {base : Heap}
theorem ok__law_due (T : Txt K mg) : FnOk P w K mg base CX0 1 T.a__law_due T.d__law_due ["_law_which", "_law_bad"] (sp__law_due K) := by
  refine T.F__law_due.ok sc__law_due (fun vs H Q E h => ?_) (fun cdv A outer s H vs Q E hr h => ?_)
  · obtain ⟨w', L, b0, b1, b2, rfl, hw, hL, q⟩ := h
    rfl
  · obtain ⟨w', L, b0, b1, b2, rfl, hw, hL, q⟩ := h
    refine ⟨_, (pss_cons (ps_if (pt_val (pe_ix (r := rIxL K) ix_list (pv 1) pe_int (fun _ _ => rfl))) (pss_one (ps_ret pe_int)) pss_nil)
      (pss_cons (ps_if (pt_val (pe_ix (r := rIxL K) ix_list (pv 1) pe_int (fun _ _ => rfl))) (pss_one (ps_ret (pe_ix (r := rIxL K) ix_list (pe_lst (pa_cons pe_int (pa_cons pe_int (pa_cons pe_int (pa_cons pe_int (pa_cons pe_int (pa_cons pe_int (pa_cons pe_int (pa_cons pe_int (pa_cons pe_int pa_nil)))))))))) (pv 0) (fun _ _ => rfl)))) pss_nil)
      (pss_cons (ps_if (PW.pt (pw_and (pt_val (pe_ix (r := rIxL K) ix_list (pv 1) pe_int (fun _ _ => rfl))) (pw_and1 (pt_cmpR op_gt (pv 0) pe_int (nomark _))))) (pss_one (ps_ret (pe_ix (r := rIxL K) ix_list (pe_lst (pa_cons pe_int (pa_cons pe_int (pa_cons pe_int (pa_cons pe_int (pa_cons pe_int (pa_cons pe_int (pa_cons pe_int (pa_cons pe_int (pa_cons pe_int pa_nil)))))))))) (pv 0) (fun _ _ => rfl)))) pss_nil)
      (pss_cons (ps_if (pt_cmpR op_eq (pv 0) pe_int (nomark _)) (pss_one (ps_ret pe_int)) pss_nil)
      (pss_one (ps_ret (pe_un un_neg pe_int))))))), ?_⟩
    have hw9 : w' = 0 ∨ w' = 1 ∨ w' = 2 ∨ w' = 3 ∨ w' = 4 ∨ w' = 5 ∨ w' = 6 ∨ w' = 7 ∨ w' = 8 := by omega
    walk_at "rd"
    refine r_ixL (.inl (.inl hL)) (atI_nat (j := 0) rfl) ?_
    walk_at "rd"
    cases b0
    rotate_left
    · walk_at "rd"
      exact q _ (Same.refl _)
    walk_at "rd"
    refine r_ixL (.inl (.inl hL)) (atI_nat (j := 1) rfl) ?_
    walk_at "rd"
    cases b1
    rotate_left
    · walk_at "rd"
      refine n_lst fun l H1 nl s1 e1 => ?_
      walk_at "rd"
      rcases hw9 with rfl | rfl | rfl | rfl | rfl | rfl | rfl | rfl | rfl
      · exact r_ixL (.inl (.inl e1)) (atI_nat (j := 0) rfl) (q _ s1)
      · exact r_ixL (.inl (.inl e1)) (atI_nat (j := 1) rfl) (q _ s1)
      · exact r_ixL (.inl (.inl e1)) (atI_nat (j := 2) rfl) (q _ s1)
      · exact r_ixL (.inl (.inl e1)) (atI_nat (j := 3) rfl) (q _ s1)
      · exact r_ixL (.inl (.inl e1)) (atI_nat (j := 4) rfl) (q _ s1)
      · exact r_ixL (.inl (.inl e1)) (atI_nat (j := 5) rfl) (q _ s1)
      · exact r_ixL (.inl (.inl e1)) (atI_nat (j := 6) rfl) (q _ s1)
      · exact r_ixL (.inl (.inl e1)) (atI_nat (j := 7) rfl) (q _ s1)
      · exact r_ixL (.inl (.inl e1)) (atI_nat (j := 8) rfl) (q _ s1)
    walk_at "rd"
    refine r_ixL (.inl (.inl hL)) (atI_nat (j := 2) rfl) ?_
    walk_at "rd"
    cases b2
    · walk_at "rd"
      refine riteD (fun h8 => ?_) (fun h8 => ?_)
      · have e8 : w' = 8 := by omega
        subst e8
        walk_at "rd"
        exact q _ (Same.refl _)
      · walk_at "rd"
        rw [show due w' false false false = -1 by
          unfold due
          rw [if_neg (by decide), if_neg (by decide), if_neg (by simp), if_neg (by omega)]] at q
        exact q _ (Same.refl _)
    · walk_at "rd"
      refine riteD (fun h2 => ?_) (fun h2 => ?_)
      · walk_at "rd"
        refine n_lst fun l H1 nl s1 e1 => ?_
        walk_at "rd"
        rcases hw9 with rfl | rfl | rfl | rfl | rfl | rfl | rfl | rfl | rfl
        · omega
        · omega
        · omega
        · exact r_ixL (.inl (.inl e1)) (atI_nat (j := 3) rfl) (q _ s1)
        · exact r_ixL (.inl (.inl e1)) (atI_nat (j := 4) rfl) (q _ s1)
        · exact r_ixL (.inl (.inl e1)) (atI_nat (j := 5) rfl) (q _ s1)
        · exact r_ixL (.inl (.inl e1)) (atI_nat (j := 6) rfl) (q _ s1)
        · exact r_ixL (.inl (.inl e1)) (atI_nat (j := 7) rfl) (q _ s1)
        · exact r_ixL (.inl (.inl e1)) (atI_nat (j := 8) rfl) (q _ s1)
      · walk_at "rd"
        refine riteO (by omega) ?_
        walk_at "rd"
        rw [show due w' false false true = -1 by
          unfold due
          rw [if_neg (by decide), if_neg (by decide), if_neg (by omega), if_neg (by omega)]] at q
        exact q _ (Same.refl _)
end
/-! law -/
theorem sc_law : FnScope ["_law_script", "_law_folds_here", "_law_which", "_law_cell_here", "_law_one", "_law_two", "_law_bad", "_law_first_here", "_law_last_here", "_law_handed", "_law_due_here", "_law_told", "_law_k"] ["_law_script"] (defScope s_law) := ⟨rfl, rfl, rfl, by decide +kernel, rfl, by decide +kernel, by decide +kernel⟩
def sp_law (K : PySem.W.Frag) : Sp := fun vs H Q _ => ∃ (a : Addr) (ns : List Int), vs = [.ref a] ∧ SqL K H a (ns.map V.int) ∧ ns.length ≤ 63 ∧ (∀ z ∈ ns, Big z) ∧ ∀ H', Q (.bl true) H'
theorem told_split {i : Nat} (h : i < 7) : ((List.range 7).map fun k : Nat => V.bl (decide ((k : Int) = (i : Int)))) ++ [V.bl true] = (told (i : Int)).map V.bl := by
  rcases lt7 h with rfl | rfl | rfl | rfl | rfl | rfl | rfl <;> rfl
section
variable {P : Program} {w : World} {K : PySem.W.Frag} {mg : Str → Option Value} {base : Heap}
theorem ok_law (T : Txt K mg) : FnOk P w K mg base CX0 8 T.a_law T.d_law ["_law_script"] (sp_law K) := by
  refine T.F_law.ok sc_law (fun vs H Q E h => ?_) (fun cdv A outer s H vs Q E hr h => ?_)
  · obtain ⟨a, ns, rfl, hS, hl, hb, q⟩ := h
    rfl
  · obtain ⟨a, ns, rfl, hS, hl, hb, q⟩ := h
    refine ⟨_, (pss_cons (ps_set (i := 1) sc_law.nd rfl (.inl rfl) (pe_call (ok__law_folds T) (hr.mono (by decide)) (by rfl) T.m__law_folds T.F__law_folds.kp T.b__law_folds .nil pass0 (pa_cons (pe_call (ok__law_cell_at T) (hr.mono (by decide)) (by rfl) T.m__law_cell_at T.F__law_cell_at.kp T.b__law_cell_at .nil pass0 (pa_cons (pv 0) (pa_cons pe_int pa_nil))) pa_nil)))
      (pss_cons (ps_for PassesOwn.never rfl (pi_range1 rfl T.n_range (pa_cons pe_int pa_nil)) (pg_name (i := 2) sc_law.nd rfl (.inl rfl)) (pss_cons (ps_set (i := 3) sc_law.nd rfl (.inl rfl) (pe_call (ok__law_cell_at T) (hr.mono (by decide)) (by rfl) T.m__law_cell_at T.F__law_cell_at.kp T.b__law_cell_at .nil pass0 (pa_cons (pv 0) (pa_cons (pe_op op_add pe_int (pv 2)) pa_nil))))
      (pss_cons (ps_set (i := 4) sc_law.nd rfl (.inl rfl) (pe_call (ok__law_cell_at T) (hr.mono (by decide)) (by rfl) T.m__law_cell_at T.F__law_cell_at.kp T.b__law_cell_at .nil pass0 (pa_cons (pv 0) (pa_cons (pe_op op_add pe_int (pe_op op_mul pe_int (pv 2))) pa_nil))))
      (pss_cons (ps_set (i := 5) sc_law.nd rfl (.inl rfl) (pe_call (ok__law_cell_at T) (hr.mono (by decide)) (by rfl) T.m__law_cell_at T.F__law_cell_at.kp T.b__law_cell_at .nil pass0 (pa_cons (pv 0) (pa_cons (pe_op op_add pe_int (pe_op op_mul pe_int (pv 2))) pa_nil))))
      (Evl.pss_cut (ps_set (i := 6) sc_law.nd rfl (.inl rfl) (pe_lst (pa_cons (pe_cmpR op_eq (pe_op op_mod (pv 3) pe_int) pe_int (nomark _)) (pa_cons (pe_or (pe_cmpR op_eq (pe_op op_mod (pe_op op_fdivW (pv 3) pe_int) pe_int) pe_int (nomark _)) (pe_one (pe_and (pe_cmpR op_eq (pv 2) pe_int (nomark _)) (pe_one (pe_cmpR op_eq (pv 1) pe_int (nomark _)))))) (pa_cons (pe_cmpR op_eq (pe_op op_mod (pe_op op_fdivW (pv 3) pe_int) pe_int) pe_int (nomark _)) pa_nil)))))
      (pss_cons (ps_set (i := 7) sc_law.nd rfl (.inl rfl) (pe_call (ok__law_first T) (hr.mono (by decide)) (by rfl) T.m__law_first T.F__law_first.kp T.b__law_first .nil pass0 (pa_cons (pv 2) (pa_cons (pe_ix (r := rIxL K) ix_list (pv 6) pe_int (fun _ _ => rfl)) (pa_cons (pv 4) (pa_cons (pv 5) (pa_cons (pv 1) pa_nil)))))))
      (pss_cons (ps_set (i := 8) sc_law.nd rfl (.inl rfl) (pe_call (ok__law_last T) (hr.mono (by decide)) (by rfl) T.m__law_last T.F__law_last.kp T.b__law_last .nil pass0 (pa_cons (pv 2) (pa_cons (pe_ix (r := rIxL K) ix_list (pv 6) pe_int (fun _ _ => rfl)) (pa_cons (pe_op op_fdivW (pv 5) pe_int) (pa_cons (pv 7) (pa_cons (pv 1) pa_nil)))))))
      (pss_cons (ps_set (i := 9) sc_law.nd rfl (.inl rfl) (pv 1))
      (Evl.pss_cut (ps_if (pt_val (pe_ix (r := rIxL K) ix_list (pv 6) pe_int (fun _ _ => rfl))) (pss_one (ps_set (i := 9) sc_law.nd rfl (.inl rfl) (pe_call (ok__law_number T) (hr.mono (by decide)) (by rfl) T.m__law_number T.F__law_number.kp T.b__law_number .nil pass0 (pa_cons pe_bl (pa_cons (pe_op op_fdivW (pv 3) pe_int) (pa_cons pe_int pa_nil)))))) pss_nil)
      (pss_cons (ps_set (i := 10) sc_law.nd rfl (.inr rfl) (pe_call (ok__law_due T) (hr.mono (by decide)) (by rfl) T.m__law_due T.F__law_due.kp T.b__law_due .nil pass0 (pa_cons (pv 2) (pa_cons (pv 6) pa_nil))))
      (pss_cons (ps_set (i := 11) sc_law.nd rfl (.inl rfl) (pe_call (ok__law_classes T) (hr.mono (by decide)) (by rfl) T.m__law_classes T.F__law_classes.kp T.b__law_classes .nil pass0 (pa_cons (pv 2) (pa_cons (pv 9) (pa_cons (pv 7) (pa_cons (pv 8) pa_nil))))))
      (pss_cons (ps_if (PW.pt (pw_and (pt_cmpR op_eq (pv 10) (pe_un un_neg pe_int) (nomark _)) (pw_and1 (pt_cmpR (op_neD hr.units) (pv 11) (pe_lst pa_nil) (nomark _))))) (pss_one (ps_ret pe_bl)) pss_nil)
      (pss_one (ps_if (PW.pt (pw_and (pt_cmpR op_ge (pv 10) pe_int (nomark _)) (pw_and1 (pt_cmpR (op_neD hr.units) (pv 11) (pe_op op_cat (pe_lc (own := [("_law_k", 12)]) (g := gName 12) (tt := tYes) rfl sc_law.nd (pi_range1 rfl T.n_range (pa_cons pe_int pa_nil)) (blkOk_by (own := [("_law_k", 12)]) (N := ["_law_script", "_law_folds_here", "_law_which", "_law_cell_here", "_law_one", "_law_two", "_law_bad", "_law_first_here", "_law_last_here", "_law_handed", "_law_due_here", "_law_told", "_law_k"]) (sc := defScope s_law) (by decide +kernel)) (fun _ _ _ _ _ => pg_name (i := 12) sc_law.nd rfl (Or.inl rfl)) (fun _ _ _ _ _ => pts_nil) (fun _ _ _ _ _ => (pe_cmpR op_eq (pv 12) (pv 10) (nomark _)))) (pe_lst (pa_cons pe_bl pa_nil))) (nomark _))))) (pss_one (ps_ret pe_bl)) pss_nil))))))))))))))
      (pss_one (ps_ret pe_bl)))), ?_⟩
    walk_at "rd"
    refine ⟨a, ns, 0, rfl, hS, hb, fun z hz => ?_⟩
    walk_at "rd"
    refine ⟨z, rfl, fun n hn => ?_⟩
    walk_at "rd"
    refine r_rng ?_ mono_c
    refine ⟨9, rfl, by decide, fun i σ' H' => Same H H' ∧ ∃ o2 o3 o4 o5 o6 o7 o8 o9 o10 o11 : Option V, σ' = [some (.ref a), some (.int n), o2, o3, o4, o5, o6, o7, o8, o9, o10, o11, none], ⟨Same.refl _, none, none, none, none, none, none, none, none, none, none, rfl⟩, ?_, ?_⟩
    rotate_left
    · rintro σ' H' ⟨hs, o2, o3, o4, o5, o6, o7, o8, o9, o10, o11, rfl⟩
      walk_at "rd"
      exact q _
    rintro i σ' H' hi ⟨hs, o2, o3, o4, o5, o6, o7, o8, o9, o10, o11, rfl⟩
    have hi8 : i ≤ 8 := by omega
    walk_at "rd"
    refine ⟨a, ns, 1 + i, rfl, hs.seq hS, hb, fun c hc => ?_⟩
    walk_at "rd"
    refine ⟨a, ns, 10 + 2 * i, rfl, hs.seq hS, hb, fun c1 hc1 => ?_⟩
    walk_at "rd"
    refine ⟨a, ns, 11 + 2 * i, rfl, hs.seq hS, hb, fun c2 hc2 => ?_⟩
    walk_at "rd"
    refine ⟨fun σ' H2 => Same H' H2 ∧ ∃ (L : Addr) (b0 b1 b2 : Bool), σ' = [some (.ref a), some (.int n), some (.int i), some (.int c), some (.int c1), some (.int c2), some (.ref L), o7, o8, o9, o10, o11, none] ∧ H2 L = some (.lst [.bl b0, .bl b1, .bl b2]) ∧ (i = 1 → n = 0 → b1 = true), ?_, ?_⟩
    · walk_at "rd"
      refine riteD (fun h1 => ?_) (fun h1 => ?_)
      · walk_at "rd"
        exact n_lst fun L H2 nL s2 e2 => ⟨s2, L, _, _, _, rfl, e2, fun _ _ => rfl⟩
      · walk_at "rd"
        refine riteD (fun h2 => ?_) (fun h2 => ?_)
        · walk_at "rd"
          exact n_lst fun L H2 nL s2 e2 => ⟨s2, L, _, _, _, rfl, e2, fun _ hn0 => decide_eq_true (by omega)⟩
        · walk_at "rd"
          exact n_lst fun L H2 nL s2 e2 => ⟨s2, L, _, _, _, rfl, e2, fun h _ => absurd h (by omega)⟩
    rintro σ' H2 ⟨s2, L, b0, b1, b2, rfl, eL, h10⟩
    walk_at "rd"
    refine r_ixL (.inl (.inl eL)) (atI_nat (j := 1) rfl) ?_
    walk_at "rd"
    refine ⟨i, n, b1, c1, c2, rfl, hi8, hn, h10, fun v1 B H3 s3 hF hBd => ?_⟩
    walk_at "rd"
    have eL3 := s3 _ _ eL
    refine r_ixL (.inl (.inl eL3)) (atI_nat (j := 2) rfl) ?_
    walk_at "rd"
    refine ⟨i, n, b2, b1, _, v1, B, rfl, hi8, hn, hF, hBd, fun z2 H4 s4 hLast => ?_⟩
    walk_at "rd"
    have eL4 := s4 _ _ eL3
    refine ⟨fun σ' H5 => Same H4 H5 ∧ ∃ zf : Int, σ' = [some (.ref a), some (.int n), some (.int i), some (.int c), some (.int c1), some (.int c2), some (.ref L), some v1, some (.int z2), some (.int zf), o10, o11, none] ∧ (b0 = false → zf = n) ∧ (b0 = true → zf < 0 ∨ 60 < zf), ?_, ?_⟩
    · walk_at "rd"
      refine r_ixL (.inl (.inl eL4)) (atI_nat (j := 0) rfl) ?_
      walk_at "rd"
      cases b0
      · walk_at "rd"
        exact ⟨Same.refl _, _, rfl, fun _ => rfl, (fun k => Bool.noConfusion k)⟩
      · walk_at "rd"
        refine ⟨true, _, _, rfl, (fun k => Bool.noConfusion k), fun zf H5 s5 _ g1 => ?_⟩
        have g1 := g1 rfl
        exact ⟨s5, zf, rfl, (fun k => Bool.noConfusion k), fun _ => by omega⟩
    rintro σ' H5 ⟨s5, zf, rfl, f0, f1⟩
    walk_at "rd"
    have eL5 := s5 _ _ eL4
    refine ⟨i, L, b0, b1, b2, rfl, hi8, eL5, fun H6 s6 => ?_⟩
    walk_at "rd"
    have k6 : Same H3 H6 := s4.trans (s5.trans s6)
    refine ⟨i, n, zf, v1, z2, b0, b1, b2, B, rfl, hi8, ⟨hn, f0, f1, hF.mono k6, hLast⟩, fun M H7 s7 eM => ?_⟩
    have k7 : Same H H7 := hs.trans (s2.trans (s3.trans (k6.trans s7)))
    walk_at "rd"
    rcases due_cases i b0 b1 b2 with hd | ⟨d, hd7, hd⟩
    · rw [hd] at eM ⊢
      refine riteY rfl ?_
      walk_at "rd"
      refine n_lst fun E0' H8 nE s8 e8 => ?_
      refine r_neLB (as := []) (bs := []) (s8 _ _ eM) e8 rfl rfl ?_
      walk_at "rd"
      refine riteNO rfl ?_
      walk_at "rd"
      refine riteO (by decide) ?_
      walk_at "rd"
      exact ⟨k7.trans s8, _, _, _, _, _, _, _, _, _, _, rfl⟩
    · rw [hd] at eM ⊢
      refine riteO (by omega) ?_
      walk_at "rd"
      refine riteY (by omega) ?_
      walk_at "rd"
      refine r_lcR ?_
      walk_at "rd"
      refine n_lcR 7 ((List.range 7).map fun k : Nat => V.bl (decide ((k : Int) = (d : Int)))) rfl rfl (by decide) (fun _ => rfl) (fun j y H8 hj hy s8 Q' q' => ?_) (fun D' H8 nD s8 e8 => ?_)
      · rw [List.getElem?_map, List.getElem?_range hj] at hy
        have hy2 := Option.some.inj hy
        subst hy2
        walk_at "rd"
        exact q' _ (Same.refl _)
      walk_at "rd"
      refine n_lst fun L9 H9 nL9 s9 e9 => ?_
      walk_at "rd"
      refine r_cat (s9 _ _ e8) e9 (by show 8 ≤ 1000; decide) fun La Ha nLa sa ea => ?_
      rw [told_split hd7] at ea
      refine r_neLB (sa _ _ (s9 _ _ (s8 _ _ eM))) ea (told_shaped hd7) (told_shaped hd7) ?_
      walk_at "rd"
      refine riteNO rfl ?_
      walk_at "rd"
      exact ⟨k7.trans (s8.trans (s9.trans sa)), _, _, _, _, _, _, _, _, _, _, rfl⟩
end
/-! ### what the top has written; the law -/
def txt_of {K : PySem.W.Frag} {h : Heap} {mg : Str → Option Value} {f0 f1 f2 f3 f4 f5 f6 f7 f8 f9 f10 f11 f12 f13 f14 f15 f16 f17 f18 f19 f20 f21 f22 f23 f24 f25 f26 f27 td C_WalkError C_NoFloor C_NoPlace C_NoCell C_NoSquare C_NoBox C_NoNumber C_TooMany : Addr} (X : K.In h) (G : h.Ns mainGlobals mg)
    {od0 an0 od1 an1 od2 an2 od3 an3 od4 an4 od5 an5 od6 an6 od7 an7 od8 an8 od9 an9 od10 an10 od11 an11 od12 an12 od13 an13 od14 an14 od15 an15 od16 an16 od17 an17 od18 an18 od19 an19 od20 an20 od21 an21 od22 an22 od23 an23 od24 an24 od25 an25 od26 an26 od27 an27 tod : Option Addr} {sl0 sl1 sl2 sl3 sl4 sl5 sl6 sl7 sl8 sl9 sl10 sl11 sl12 sl13 sl14 sl15 sl16 sl17 sl18 sl19 sl20 sl21 sl22 sl23 sl24 sl25 sl26 sl27 tsl : Array (Option Value)} {oc0 kV0 dc0 pm0 cd0 ct0 oc1 kV1 dc1 pm1 cd1 ct1 oc2 kV2 dc2 pm2 cd2 ct2 oc3 kV3 dc3 pm3 cd3 ct3 oc4 kV4 dc4 pm4 cd4 ct4 oc5 kV5 dc5 pm5 cd5 ct5 oc6 kV6 dc6 pm6 cd6 ct6 oc7 kV7 dc7 pm7 cd7 ct7 oc8 kV8 dc8 pm8 cd8 ct8 oc9 kV9 dc9 pm9 cd9 ct9 oc10 kV10 dc10 pm10 cd10 ct10 oc11 kV11 dc11 pm11 cd11 ct11 oc12 kV12 dc12 pm12 cd12 ct12 oc13 kV13 dc13 pm13 cd13 ct13 oc14 kV14 dc14 pm14 cd14 ct14 oc15 kV15 dc15 pm15 cd15 ct15 oc16 kV16 dc16 pm16 cd16 ct16 oc17 kV17 dc17 pm17 cd17 ct17 oc18 kV18 dc18 pm18 cd18 ct18 oc19 kV19 dc19 pm19 cd19 ct19 oc20 kV20 dc20 pm20 cd20 ct20 oc21 kV21 dc21 pm21 cd21 ct21 oc22 kV22 dc22 pm22 cd22 ct22 oc23 kV23 dc23 pm23 cd23 ct23 oc24 kV24 dc24 pm24 cd24 ct24 oc25 kV25 dc25 pm25 cd25 ct25 oc26 kV26 dc26 pm26 cd26 ct26 oc27 kV27 dc27 pm27 cd27 ct27 toc : Value} {tk_MOST_FOLDS tk_MOST_TOLD ttk : Tok} {tn : Nat}
    (a0 : PySem.W.nsIn K mainGlobals "side_of" = some (some (.ref f0))) (l0 : K.lookup f0 = some ⟨oc0, od0, .func (PySem.W.fnOf "side_of" "side_of" (defArgs s_side_of) (defBody s_side_of) (defScope s_side_of) .none kV0 dc0 pm0 an0 cd0 ct0), sl0⟩) (c0 : PySem.W.codeIn K cd0 "side_of" = true) (k0 : PySem.W.keepIn K (.ref f0) = true)
    (a1 : PySem.W.nsIn K mainGlobals "quarter_at" = some (some (.ref f1))) (l1 : K.lookup f1 = some ⟨oc1, od1, .func (PySem.W.fnOf "quarter_at" "quarter_at" (defArgs s_quarter_at) (defBody s_quarter_at) (defScope s_quarter_at) .none kV1 dc1 pm1 an1 cd1 ct1), sl1⟩) (c1 : PySem.W.codeIn K cd1 "quarter_at" = true) (k1 : PySem.W.keepIn K (.ref f1) = true)
    (a2 : PySem.W.nsIn K mainGlobals "turn_at" = some (some (.ref f2))) (l2 : K.lookup f2 = some ⟨oc2, od2, .func (PySem.W.fnOf "turn_at" "turn_at" (defArgs s_turn_at) (defBody s_turn_at) (defScope s_turn_at) .none kV2 dc2 pm2 an2 cd2 ct2), sl2⟩) (c2 : PySem.W.codeIn K cd2 "turn_at" = true) (k2 : PySem.W.keepIn K (.ref f2) = true)
    (a3 : PySem.W.nsIn K mainGlobals "folded" = some (some (.ref f3))) (l3 : K.lookup f3 = some ⟨oc3, od3, .func (PySem.W.fnOf "folded" "folded" (defArgs s_folded) (defBody s_folded) (defScope s_folded) .none kV3 dc3 pm3 an3 cd3 ct3), sl3⟩) (c3 : PySem.W.codeIn K cd3 "folded" = true) (k3 : PySem.W.keepIn K (.ref f3) = true)
    (a4 : PySem.W.nsIn K mainGlobals "cell_at" = some (some (.ref f4))) (l4 : K.lookup f4 = some ⟨oc4, od4, .func (PySem.W.fnOf "cell_at" "cell_at" (defArgs s_cell_at) (defBody s_cell_at) (defScope s_cell_at) .none kV4 dc4 pm4 an4 cd4 ct4), sl4⟩) (c4 : PySem.W.codeIn K cd4 "cell_at" = true) (k4 : PySem.W.keepIn K (.ref f4) = true)
    (a5 : PySem.W.nsIn K mainGlobals "place_of" = some (some (.ref f5))) (l5 : K.lookup f5 = some ⟨oc5, od5, .func (PySem.W.fnOf "place_of" "place_of" (defArgs s_place_of) (defBody s_place_of) (defScope s_place_of) .none kV5 dc5 pm5 an5 cd5 ct5), sl5⟩) (c5 : PySem.W.codeIn K cd5 "place_of" = true) (k5 : PySem.W.keepIn K (.ref f5) = true)
    (a6 : PySem.W.nsIn K mainGlobals "way_at" = some (some (.ref f6))) (l6 : K.lookup f6 = some ⟨oc6, od6, .func (PySem.W.fnOf "way_at" "way_at" (defArgs s_way_at) (defBody s_way_at) (defScope s_way_at) .none kV6 dc6 pm6 an6 cd6 ct6), sl6⟩) (c6 : PySem.W.codeIn K cd6 "way_at" = true) (k6 : PySem.W.keepIn K (.ref f6) = true)
    (a7 : PySem.W.nsIn K mainGlobals "looked_at" = some (some (.ref f7))) (l7 : K.lookup f7 = some ⟨oc7, od7, .func (PySem.W.fnOf "looked_at" "looked_at" (defArgs s_looked_at) (defBody s_looked_at) (defScope s_looked_at) .none kV7 dc7 pm7 an7 cd7 ct7), sl7⟩) (c7 : PySem.W.codeIn K cd7 "looked_at" = true) (k7 : PySem.W.keepIn K (.ref f7) = true)
    (a8 : PySem.W.nsIn K mainGlobals "shared" = some (some (.ref f8))) (l8 : K.lookup f8 = some ⟨oc8, od8, .func (PySem.W.fnOf "shared" "shared" (defArgs s_shared) (defBody s_shared) (defScope s_shared) .none kV8 dc8 pm8 an8 cd8 ct8), sl8⟩) (c8 : PySem.W.codeIn K cd8 "shared" = true) (k8 : PySem.W.keepIn K (.ref f8) = true)
    (a9 : PySem.W.nsIn K mainGlobals "counted" = some (some (.ref f9))) (l9 : K.lookup f9 = some ⟨oc9, od9, .func (PySem.W.fnOf "counted" "counted" (defArgs s_counted) (defBody s_counted) (defScope s_counted) .none kV9 dc9 pm9 an9 cd9 ct9), sl9⟩) (c9 : PySem.W.codeIn K cd9 "counted" = true) (k9 : PySem.W.keepIn K (.ref f9) = true)
    (a10 : PySem.W.nsIn K mainGlobals "picked" = some (some (.ref f10))) (l10 : K.lookup f10 = some ⟨oc10, od10, .func (PySem.W.fnOf "picked" "picked" (defArgs s_picked) (defBody s_picked) (defScope s_picked) .none kV10 dc10 pm10 an10 cd10 ct10), sl10⟩) (c10 : PySem.W.codeIn K cd10 "picked" = true) (k10 : PySem.W.keepIn K (.ref f10) = true)
    (a11 : PySem.W.nsIn K mainGlobals "nth" = some (some (.ref f11))) (l11 : K.lookup f11 = some ⟨oc11, od11, .func (PySem.W.fnOf "nth" "nth" (defArgs s_nth) (defBody s_nth) (defScope s_nth) .none kV11 dc11 pm11 an11 cd11 ct11), sl11⟩) (c11 : PySem.W.codeIn K cd11 "nth" = true) (k11 : PySem.W.keepIn K (.ref f11) = true)
    (a12 : PySem.W.nsIn K mainGlobals "next_in" = some (some (.ref f12))) (l12 : K.lookup f12 = some ⟨oc12, od12, .func (PySem.W.fnOf "next_in" "next_in" (defArgs s_next_in) (defBody s_next_in) (defScope s_next_in) .none kV12 dc12 pm12 an12 cd12 ct12), sl12⟩) (c12 : PySem.W.codeIn K cd12 "next_in" = true) (k12 : PySem.W.keepIn K (.ref f12) = true)
    (a13 : PySem.W.nsIn K mainGlobals "next_out" = some (some (.ref f13))) (l13 : K.lookup f13 = some ⟨oc13, od13, .func (PySem.W.fnOf "next_out" "next_out" (defArgs s_next_out) (defBody s_next_out) (defScope s_next_out) .none kV13 dc13 pm13 an13 cd13 ct13), sl13⟩) (c13 : PySem.W.codeIn K cd13 "next_out" = true) (k13 : PySem.W.keepIn K (.ref f13) = true)
    (a14 : PySem.W.nsIn K mainGlobals "stretches" = some (some (.ref f14))) (l14 : K.lookup f14 = some ⟨oc14, od14, .func (PySem.W.fnOf "stretches" "stretches" (defArgs s_stretches) (defBody s_stretches) (defScope s_stretches) (.ref td) kV14 dc14 pm14 an14 cd14 ct14), sl14⟩) (c14 : PySem.W.codeIn K cd14 "stretches" = true) (k14 : PySem.W.keepIn K (.ref f14) = true)
    (lt : K.lookup td = some ⟨toc, tod, .seq #[.int 16 ttk] tn, tsl⟩)
    (a15 : PySem.W.nsIn K mainGlobals "square_at" = some (some (.ref f15))) (l15 : K.lookup f15 = some ⟨oc15, od15, .func (PySem.W.fnOf "square_at" "square_at" (defArgs s_square_at) (defBody s_square_at) (defScope s_square_at) .none kV15 dc15 pm15 an15 cd15 ct15), sl15⟩) (c15 : PySem.W.codeIn K cd15 "square_at" = true) (k15 : PySem.W.keepIn K (.ref f15) = true)
    (a16 : PySem.W.nsIn K mainGlobals "_law_cell_at" = some (some (.ref f16))) (l16 : K.lookup f16 = some ⟨oc16, od16, .func (PySem.W.fnOf "_law_cell_at" "_law_cell_at" (defArgs s__law_cell_at) (defBody s__law_cell_at) (defScope s__law_cell_at) .none kV16 dc16 pm16 an16 cd16 ct16), sl16⟩) (c16 : PySem.W.codeIn K cd16 "_law_cell_at" = true) (k16 : PySem.W.keepIn K (.ref f16) = true)
    (a17 : PySem.W.nsIn K mainGlobals "_law_folds" = some (some (.ref f17))) (l17 : K.lookup f17 = some ⟨oc17, od17, .func (PySem.W.fnOf "_law_folds" "_law_folds" (defArgs s__law_folds) (defBody s__law_folds) (defScope s__law_folds) .none kV17 dc17 pm17 an17 cd17 ct17), sl17⟩) (c17 : PySem.W.codeIn K cd17 "_law_folds" = true) (k17 : PySem.W.keepIn K (.ref f17) = true)
    (a18 : PySem.W.nsIn K mainGlobals "_law_far" = some (some (.ref f18))) (l18 : K.lookup f18 = some ⟨oc18, od18, .func (PySem.W.fnOf "_law_far" "_law_far" (defArgs s__law_far) (defBody s__law_far) (defScope s__law_far) .none kV18 dc18 pm18 an18 cd18 ct18), sl18⟩) (c18 : PySem.W.codeIn K cd18 "_law_far" = true) (k18 : PySem.W.keepIn K (.ref f18) = true)
    (a19 : PySem.W.nsIn K mainGlobals "_law_number" = some (some (.ref f19))) (l19 : K.lookup f19 = some ⟨oc19, od19, .func (PySem.W.fnOf "_law_number" "_law_number" (defArgs s__law_number) (defBody s__law_number) (defScope s__law_number) .none kV19 dc19 pm19 an19 cd19 ct19), sl19⟩) (c19 : PySem.W.codeIn K cd19 "_law_number" = true) (k19 : PySem.W.keepIn K (.ref f19) = true)
    (a20 : PySem.W.nsIn K mainGlobals "_law_cell" = some (some (.ref f20))) (l20 : K.lookup f20 = some ⟨oc20, od20, .func (PySem.W.fnOf "_law_cell" "_law_cell" (defArgs s__law_cell) (defBody s__law_cell) (defScope s__law_cell) .none kV20 dc20 pm20 an20 cd20 ct20), sl20⟩) (c20 : PySem.W.codeIn K cd20 "_law_cell" = true) (k20 : PySem.W.keepIn K (.ref f20) = true)
    (a21 : PySem.W.nsIn K mainGlobals "_law_box" = some (some (.ref f21))) (l21 : K.lookup f21 = some ⟨oc21, od21, .func (PySem.W.fnOf "_law_box" "_law_box" (defArgs s__law_box) (defBody s__law_box) (defScope s__law_box) .none kV21 dc21 pm21 an21 cd21 ct21), sl21⟩) (c21 : PySem.W.codeIn K cd21 "_law_box" = true) (k21 : PySem.W.keepIn K (.ref f21) = true)
    (a22 : PySem.W.nsIn K mainGlobals "_law_asked" = some (some (.ref f22))) (l22 : K.lookup f22 = some ⟨oc22, od22, .func (PySem.W.fnOf "_law_asked" "_law_asked" (defArgs s__law_asked) (defBody s__law_asked) (defScope s__law_asked) .none kV22 dc22 pm22 an22 cd22 ct22), sl22⟩) (c22 : PySem.W.codeIn K cd22 "_law_asked" = true) (k22 : PySem.W.keepIn K (.ref f22) = true)
    (a23 : PySem.W.nsIn K mainGlobals "_law_classes" = some (some (.ref f23))) (l23 : K.lookup f23 = some ⟨oc23, od23, .func (PySem.W.fnOf "_law_classes" "_law_classes" (defArgs s__law_classes) (defBody s__law_classes) (defScope s__law_classes) .none kV23 dc23 pm23 an23 cd23 ct23), sl23⟩) (c23 : PySem.W.codeIn K cd23 "_law_classes" = true) (k23 : PySem.W.keepIn K (.ref f23) = true)
    (a24 : PySem.W.nsIn K mainGlobals "_law_first" = some (some (.ref f24))) (l24 : K.lookup f24 = some ⟨oc24, od24, .func (PySem.W.fnOf "_law_first" "_law_first" (defArgs s__law_first) (defBody s__law_first) (defScope s__law_first) .none kV24 dc24 pm24 an24 cd24 ct24), sl24⟩) (c24 : PySem.W.codeIn K cd24 "_law_first" = true) (k24 : PySem.W.keepIn K (.ref f24) = true)
    (a25 : PySem.W.nsIn K mainGlobals "_law_last" = some (some (.ref f25))) (l25 : K.lookup f25 = some ⟨oc25, od25, .func (PySem.W.fnOf "_law_last" "_law_last" (defArgs s__law_last) (defBody s__law_last) (defScope s__law_last) .none kV25 dc25 pm25 an25 cd25 ct25), sl25⟩) (c25 : PySem.W.codeIn K cd25 "_law_last" = true) (k25 : PySem.W.keepIn K (.ref f25) = true)
    (a26 : PySem.W.nsIn K mainGlobals "_law_due" = some (some (.ref f26))) (l26 : K.lookup f26 = some ⟨oc26, od26, .func (PySem.W.fnOf "_law_due" "_law_due" (defArgs s__law_due) (defBody s__law_due) (defScope s__law_due) .none kV26 dc26 pm26 an26 cd26 ct26), sl26⟩) (c26 : PySem.W.codeIn K cd26 "_law_due" = true) (k26 : PySem.W.keepIn K (.ref f26) = true)
    (a27 : PySem.W.nsIn K mainGlobals "law" = some (some (.ref f27))) (l27 : K.lookup f27 = some ⟨oc27, od27, .func (PySem.W.fnOf "law" "law" (defArgs s_law) (defBody s_law) (defScope s_law) .none kV27 dc27 pm27 an27 cd27 ct27), sl27⟩) (c27 : PySem.W.codeIn K cd27 "law" = true) (k27 : PySem.W.keepIn K (.ref f27) = true)
    (ga_WalkError : PySem.W.nsIn K mainGlobals "WalkError" = some (some (.ref C_WalkError))) (x_WalkError : PySem.W.excIn K C_WalkError [.type "ValueError", .type "Exception", .type "BaseException", .type "object"] "ValueError.__new__" = true) (k_WalkError : PySem.W.keepIn K (.ref C_WalkError) = true) (r_WalkError : PySem.W.subIn K (.ref C_WalkError) (.type "BaseException") = some true) (t_WalkError : PySem.W.typeIn K (.ref C_WalkError) = some (.type "type")) (i_WalkError : PySem.W.isClsIn K C_WalkError = true)
    (ga_NoFloor : PySem.W.nsIn K mainGlobals "NoFloor" = some (some (.ref C_NoFloor))) (x_NoFloor : PySem.W.excIn K C_NoFloor [.type "ValueError", .type "Exception", .type "BaseException", .type "object"] "ValueError.__new__" = true) (k_NoFloor : PySem.W.keepIn K (.ref C_NoFloor) = true) (r_NoFloor : PySem.W.subIn K (.ref C_NoFloor) (.type "BaseException") = some true) (t_NoFloor : PySem.W.typeIn K (.ref C_NoFloor) = some (.type "type")) (i_NoFloor : PySem.W.isClsIn K C_NoFloor = true)
    (ga_NoPlace : PySem.W.nsIn K mainGlobals "NoPlace" = some (some (.ref C_NoPlace))) (x_NoPlace : PySem.W.excIn K C_NoPlace [.type "ValueError", .type "Exception", .type "BaseException", .type "object"] "ValueError.__new__" = true) (k_NoPlace : PySem.W.keepIn K (.ref C_NoPlace) = true) (r_NoPlace : PySem.W.subIn K (.ref C_NoPlace) (.type "BaseException") = some true) (t_NoPlace : PySem.W.typeIn K (.ref C_NoPlace) = some (.type "type")) (i_NoPlace : PySem.W.isClsIn K C_NoPlace = true)
    (ga_NoCell : PySem.W.nsIn K mainGlobals "NoCell" = some (some (.ref C_NoCell))) (x_NoCell : PySem.W.excIn K C_NoCell [.type "ValueError", .type "Exception", .type "BaseException", .type "object"] "ValueError.__new__" = true) (k_NoCell : PySem.W.keepIn K (.ref C_NoCell) = true) (r_NoCell : PySem.W.subIn K (.ref C_NoCell) (.type "BaseException") = some true) (t_NoCell : PySem.W.typeIn K (.ref C_NoCell) = some (.type "type")) (i_NoCell : PySem.W.isClsIn K C_NoCell = true)
    (ga_NoSquare : PySem.W.nsIn K mainGlobals "NoSquare" = some (some (.ref C_NoSquare))) (x_NoSquare : PySem.W.excIn K C_NoSquare [.type "ValueError", .type "Exception", .type "BaseException", .type "object"] "ValueError.__new__" = true) (k_NoSquare : PySem.W.keepIn K (.ref C_NoSquare) = true) (r_NoSquare : PySem.W.subIn K (.ref C_NoSquare) (.type "BaseException") = some true) (t_NoSquare : PySem.W.typeIn K (.ref C_NoSquare) = some (.type "type")) (i_NoSquare : PySem.W.isClsIn K C_NoSquare = true)
    (ga_NoBox : PySem.W.nsIn K mainGlobals "NoBox" = some (some (.ref C_NoBox))) (x_NoBox : PySem.W.excIn K C_NoBox [.type "ValueError", .type "Exception", .type "BaseException", .type "object"] "ValueError.__new__" = true) (k_NoBox : PySem.W.keepIn K (.ref C_NoBox) = true) (r_NoBox : PySem.W.subIn K (.ref C_NoBox) (.type "BaseException") = some true) (t_NoBox : PySem.W.typeIn K (.ref C_NoBox) = some (.type "type")) (i_NoBox : PySem.W.isClsIn K C_NoBox = true)
    (ga_NoNumber : PySem.W.nsIn K mainGlobals "NoNumber" = some (some (.ref C_NoNumber))) (x_NoNumber : PySem.W.excIn K C_NoNumber [.type "ValueError", .type "Exception", .type "BaseException", .type "object"] "ValueError.__new__" = true) (k_NoNumber : PySem.W.keepIn K (.ref C_NoNumber) = true) (r_NoNumber : PySem.W.subIn K (.ref C_NoNumber) (.type "BaseException") = some true) (t_NoNumber : PySem.W.typeIn K (.ref C_NoNumber) = some (.type "type")) (i_NoNumber : PySem.W.isClsIn K C_NoNumber = true)
    (ga_TooMany : PySem.W.nsIn K mainGlobals "TooMany" = some (some (.ref C_TooMany))) (x_TooMany : PySem.W.excIn K C_TooMany [.type "ValueError", .type "Exception", .type "BaseException", .type "object"] "ValueError.__new__" = true) (k_TooMany : PySem.W.keepIn K (.ref C_TooMany) = true) (r_TooMany : PySem.W.subIn K (.ref C_TooMany) (.type "BaseException") = some true) (t_TooMany : PySem.W.typeIn K (.ref C_TooMany) = some (.type "type")) (i_TooMany : PySem.W.isClsIn K C_TooMany = true)
    (s_NoFloor_WalkError : PySem.W.subIn K (.ref C_NoFloor) (.ref C_WalkError) = some true)
    (s_NoPlace_WalkError : PySem.W.subIn K (.ref C_NoPlace) (.ref C_WalkError) = some true)
    (s_NoCell_WalkError : PySem.W.subIn K (.ref C_NoCell) (.ref C_WalkError) = some true)
    (s_NoSquare_WalkError : PySem.W.subIn K (.ref C_NoSquare) (.ref C_WalkError) = some true)
    (s_NoBox_WalkError : PySem.W.subIn K (.ref C_NoBox) (.ref C_WalkError) = some true)
    (s_NoNumber_WalkError : PySem.W.subIn K (.ref C_NoNumber) (.ref C_WalkError) = some true)
    (s_TooMany_WalkError : PySem.W.subIn K (.ref C_TooMany) (.ref C_WalkError) = some true)
    (hdW : PySem.W.hasDictIn K C_WalkError = true)
    (gn : PySem.W.specialIn K (.builtin "object.__class__") "__get__" = some (some (.builtin "getset_descriptor.__get__")))
    (gt : PySem.W.takesIn K (.builtin "object.__class__") = some true)
    (hg_NoFloor : PySem.W.findIn K (.ref C_NoFloor) "__getattribute__" = some (some (.builtin "BaseException.__getattribute__")))
    (hk_NoFloor : PySem.W.findIn K (.ref C_NoFloor) "__getattr__" = some none)
    (hd_NoFloor : PySem.W.hasDictIn K C_NoFloor = true)
    (ha_NoFloor : PySem.W.findIn K (.ref C_NoFloor) "__class__" = some (some (.builtin "object.__class__")))
    (hm_NoFloor : PySem.W.mroIn K C_NoFloor (.type "object") = some true)
    (kv_NoFloor : PySem.W.subIn K (.ref C_NoFloor) (.type "ValueError") = some true)
    (kk_NoFloor_NoFloor : PySem.W.subIn K (.ref C_NoFloor) (.ref C_NoFloor) = some true)
    (kk_NoFloor_NoPlace : PySem.W.subIn K (.ref C_NoFloor) (.ref C_NoPlace) = some false)
    (kk_NoFloor_NoCell : PySem.W.subIn K (.ref C_NoFloor) (.ref C_NoCell) = some false)
    (kk_NoFloor_NoSquare : PySem.W.subIn K (.ref C_NoFloor) (.ref C_NoSquare) = some false)
    (kk_NoFloor_NoBox : PySem.W.subIn K (.ref C_NoFloor) (.ref C_NoBox) = some false)
    (kk_NoFloor_NoNumber : PySem.W.subIn K (.ref C_NoFloor) (.ref C_NoNumber) = some false)
    (kk_NoFloor_TooMany : PySem.W.subIn K (.ref C_NoFloor) (.ref C_TooMany) = some false)
    (hg_NoPlace : PySem.W.findIn K (.ref C_NoPlace) "__getattribute__" = some (some (.builtin "BaseException.__getattribute__")))
    (hk_NoPlace : PySem.W.findIn K (.ref C_NoPlace) "__getattr__" = some none)
    (hd_NoPlace : PySem.W.hasDictIn K C_NoPlace = true)
    (ha_NoPlace : PySem.W.findIn K (.ref C_NoPlace) "__class__" = some (some (.builtin "object.__class__")))
    (hm_NoPlace : PySem.W.mroIn K C_NoPlace (.type "object") = some true)
    (kv_NoPlace : PySem.W.subIn K (.ref C_NoPlace) (.type "ValueError") = some true)
    (kk_NoPlace_NoFloor : PySem.W.subIn K (.ref C_NoPlace) (.ref C_NoFloor) = some false)
    (kk_NoPlace_NoPlace : PySem.W.subIn K (.ref C_NoPlace) (.ref C_NoPlace) = some true)
    (kk_NoPlace_NoCell : PySem.W.subIn K (.ref C_NoPlace) (.ref C_NoCell) = some false)
    (kk_NoPlace_NoSquare : PySem.W.subIn K (.ref C_NoPlace) (.ref C_NoSquare) = some false)
    (kk_NoPlace_NoBox : PySem.W.subIn K (.ref C_NoPlace) (.ref C_NoBox) = some false)
    (kk_NoPlace_NoNumber : PySem.W.subIn K (.ref C_NoPlace) (.ref C_NoNumber) = some false)
    (kk_NoPlace_TooMany : PySem.W.subIn K (.ref C_NoPlace) (.ref C_TooMany) = some false)
    (hg_NoCell : PySem.W.findIn K (.ref C_NoCell) "__getattribute__" = some (some (.builtin "BaseException.__getattribute__")))
    (hk_NoCell : PySem.W.findIn K (.ref C_NoCell) "__getattr__" = some none)
    (hd_NoCell : PySem.W.hasDictIn K C_NoCell = true)
    (ha_NoCell : PySem.W.findIn K (.ref C_NoCell) "__class__" = some (some (.builtin "object.__class__")))
    (hm_NoCell : PySem.W.mroIn K C_NoCell (.type "object") = some true)
    (kv_NoCell : PySem.W.subIn K (.ref C_NoCell) (.type "ValueError") = some true)
    (kk_NoCell_NoFloor : PySem.W.subIn K (.ref C_NoCell) (.ref C_NoFloor) = some false)
    (kk_NoCell_NoPlace : PySem.W.subIn K (.ref C_NoCell) (.ref C_NoPlace) = some false)
    (kk_NoCell_NoCell : PySem.W.subIn K (.ref C_NoCell) (.ref C_NoCell) = some true)
    (kk_NoCell_NoSquare : PySem.W.subIn K (.ref C_NoCell) (.ref C_NoSquare) = some false)
    (kk_NoCell_NoBox : PySem.W.subIn K (.ref C_NoCell) (.ref C_NoBox) = some false)
    (kk_NoCell_NoNumber : PySem.W.subIn K (.ref C_NoCell) (.ref C_NoNumber) = some false)
    (kk_NoCell_TooMany : PySem.W.subIn K (.ref C_NoCell) (.ref C_TooMany) = some false)
    (hg_NoSquare : PySem.W.findIn K (.ref C_NoSquare) "__getattribute__" = some (some (.builtin "BaseException.__getattribute__")))
    (hk_NoSquare : PySem.W.findIn K (.ref C_NoSquare) "__getattr__" = some none)
    (hd_NoSquare : PySem.W.hasDictIn K C_NoSquare = true)
    (ha_NoSquare : PySem.W.findIn K (.ref C_NoSquare) "__class__" = some (some (.builtin "object.__class__")))
    (hm_NoSquare : PySem.W.mroIn K C_NoSquare (.type "object") = some true)
    (kv_NoSquare : PySem.W.subIn K (.ref C_NoSquare) (.type "ValueError") = some true)
    (kk_NoSquare_NoFloor : PySem.W.subIn K (.ref C_NoSquare) (.ref C_NoFloor) = some false)
    (kk_NoSquare_NoPlace : PySem.W.subIn K (.ref C_NoSquare) (.ref C_NoPlace) = some false)
    (kk_NoSquare_NoCell : PySem.W.subIn K (.ref C_NoSquare) (.ref C_NoCell) = some false)
    (kk_NoSquare_NoSquare : PySem.W.subIn K (.ref C_NoSquare) (.ref C_NoSquare) = some true)
    (kk_NoSquare_NoBox : PySem.W.subIn K (.ref C_NoSquare) (.ref C_NoBox) = some false)
    (kk_NoSquare_NoNumber : PySem.W.subIn K (.ref C_NoSquare) (.ref C_NoNumber) = some false)
    (kk_NoSquare_TooMany : PySem.W.subIn K (.ref C_NoSquare) (.ref C_TooMany) = some false)
    (hg_NoBox : PySem.W.findIn K (.ref C_NoBox) "__getattribute__" = some (some (.builtin "BaseException.__getattribute__")))
    (hk_NoBox : PySem.W.findIn K (.ref C_NoBox) "__getattr__" = some none)
    (hd_NoBox : PySem.W.hasDictIn K C_NoBox = true)
    (ha_NoBox : PySem.W.findIn K (.ref C_NoBox) "__class__" = some (some (.builtin "object.__class__")))
    (hm_NoBox : PySem.W.mroIn K C_NoBox (.type "object") = some true)
    (kv_NoBox : PySem.W.subIn K (.ref C_NoBox) (.type "ValueError") = some true)
    (kk_NoBox_NoFloor : PySem.W.subIn K (.ref C_NoBox) (.ref C_NoFloor) = some false)
    (kk_NoBox_NoPlace : PySem.W.subIn K (.ref C_NoBox) (.ref C_NoPlace) = some false)
    (kk_NoBox_NoCell : PySem.W.subIn K (.ref C_NoBox) (.ref C_NoCell) = some false)
    (kk_NoBox_NoSquare : PySem.W.subIn K (.ref C_NoBox) (.ref C_NoSquare) = some false)
    (kk_NoBox_NoBox : PySem.W.subIn K (.ref C_NoBox) (.ref C_NoBox) = some true)
    (kk_NoBox_NoNumber : PySem.W.subIn K (.ref C_NoBox) (.ref C_NoNumber) = some false)
    (kk_NoBox_TooMany : PySem.W.subIn K (.ref C_NoBox) (.ref C_TooMany) = some false)
    (hg_NoNumber : PySem.W.findIn K (.ref C_NoNumber) "__getattribute__" = some (some (.builtin "BaseException.__getattribute__")))
    (hk_NoNumber : PySem.W.findIn K (.ref C_NoNumber) "__getattr__" = some none)
    (hd_NoNumber : PySem.W.hasDictIn K C_NoNumber = true)
    (ha_NoNumber : PySem.W.findIn K (.ref C_NoNumber) "__class__" = some (some (.builtin "object.__class__")))
    (hm_NoNumber : PySem.W.mroIn K C_NoNumber (.type "object") = some true)
    (kv_NoNumber : PySem.W.subIn K (.ref C_NoNumber) (.type "ValueError") = some true)
    (kk_NoNumber_NoFloor : PySem.W.subIn K (.ref C_NoNumber) (.ref C_NoFloor) = some false)
    (kk_NoNumber_NoPlace : PySem.W.subIn K (.ref C_NoNumber) (.ref C_NoPlace) = some false)
    (kk_NoNumber_NoCell : PySem.W.subIn K (.ref C_NoNumber) (.ref C_NoCell) = some false)
    (kk_NoNumber_NoSquare : PySem.W.subIn K (.ref C_NoNumber) (.ref C_NoSquare) = some false)
    (kk_NoNumber_NoBox : PySem.W.subIn K (.ref C_NoNumber) (.ref C_NoBox) = some false)
    (kk_NoNumber_NoNumber : PySem.W.subIn K (.ref C_NoNumber) (.ref C_NoNumber) = some true)
    (kk_NoNumber_TooMany : PySem.W.subIn K (.ref C_NoNumber) (.ref C_TooMany) = some false)
    (hg_TooMany : PySem.W.findIn K (.ref C_TooMany) "__getattribute__" = some (some (.builtin "BaseException.__getattribute__")))
    (hk_TooMany : PySem.W.findIn K (.ref C_TooMany) "__getattr__" = some none)
    (hd_TooMany : PySem.W.hasDictIn K C_TooMany = true)
    (ha_TooMany : PySem.W.findIn K (.ref C_TooMany) "__class__" = some (some (.builtin "object.__class__")))
    (hm_TooMany : PySem.W.mroIn K C_TooMany (.type "object") = some true)
    (kv_TooMany : PySem.W.subIn K (.ref C_TooMany) (.type "ValueError") = some true)
    (kk_TooMany_NoFloor : PySem.W.subIn K (.ref C_TooMany) (.ref C_NoFloor) = some false)
    (kk_TooMany_NoPlace : PySem.W.subIn K (.ref C_TooMany) (.ref C_NoPlace) = some false)
    (kk_TooMany_NoCell : PySem.W.subIn K (.ref C_TooMany) (.ref C_NoCell) = some false)
    (kk_TooMany_NoSquare : PySem.W.subIn K (.ref C_TooMany) (.ref C_NoSquare) = some false)
    (kk_TooMany_NoBox : PySem.W.subIn K (.ref C_TooMany) (.ref C_NoBox) = some false)
    (kk_TooMany_NoNumber : PySem.W.subIn K (.ref C_TooMany) (.ref C_NoNumber) = some false)
    (kk_TooMany_TooMany : PySem.W.subIn K (.ref C_TooMany) (.ref C_TooMany) = some true)
    (g_MOST_FOLDS : PySem.W.nsIn K mainGlobals "MOST_FOLDS" = some (some (.int 60 tk_MOST_FOLDS)))
    (g_MOST_TOLD : PySem.W.nsIn K mainGlobals "MOST_TOLD" = some (some (.int 100 tk_MOST_TOLD)))
    (z_ValueError : PySem.W.nsIn K mainGlobals "ValueError" = some none)
    (z_int : PySem.W.nsIn K mainGlobals "int" = some none)
    (z_isinstance : PySem.W.nsIn K mainGlobals "isinstance" = some none)
    (z_len : PySem.W.nsIn K mainGlobals "len" = some none)
    (z_max : PySem.W.nsIn K mainGlobals "max" = some none)
    (z_min : PySem.W.nsIn K mainGlobals "min" = some none)
    (z_range : PySem.W.nsIn K mainGlobals "range" = some none)
    (z_reversed : PySem.W.nsIn K mainGlobals "reversed" = some none)
    (z_sorted : PySem.W.nsIn K mainGlobals "sorted" = some none)
    : Txt K mg where
  a_side_of := f0
  d_side_of := _
  F_side_of := fun_mk (st := s_side_of) l0 c0 k0
  m_side_of := PySem.W.mg_of X G a0
  b_side_of := (fun_mk (st := s_side_of) l0 c0 k0).binds (ps := ["folds"]) fun _ _ _ _ _ _ us hl => match us, hl with | [_], _ => rfl
  a_quarter_at := f1
  d_quarter_at := _
  F_quarter_at := fun_mk (st := s_quarter_at) l1 c1 k1
  m_quarter_at := PySem.W.mg_of X G a1
  b_quarter_at := (fun_mk (st := s_quarter_at) l1 c1 k1).binds (ps := ["turn", "swapped", "turned"]) fun _ _ _ _ _ _ us hl => match us, hl with | [_, _, _], _ => rfl
  a_turn_at := f2
  d_turn_at := _
  F_turn_at := fun_mk (st := s_turn_at) l2 c2 k2
  m_turn_at := PySem.W.mg_of X G a2
  b_turn_at := (fun_mk (st := s_turn_at) l2 c2 k2).binds (ps := ["right", "up", "swapped", "turned"]) fun _ _ _ _ _ _ us hl => match us, hl with | [_, _, _, _], _ => rfl
  a_folded := f3
  d_folded := _
  F_folded := fun_mk (st := s_folded) l3 c3 k3
  m_folded := PySem.W.mg_of X G a3
  b_folded := (fun_mk (st := s_folded) l3 c3 k3).binds (ps := ["turn", "swapped", "turned"]) fun _ _ _ _ _ _ us hl => match us, hl with | [_, _, _], _ => rfl
  a_cell_at := f4
  d_cell_at := _
  F_cell_at := fun_mk (st := s_cell_at) l4 c4 k4
  m_cell_at := PySem.W.mg_of X G a4
  b_cell_at := (fun_mk (st := s_cell_at) l4 c4 k4).binds (ps := ["folds", "place"]) fun _ _ _ _ _ _ us hl => match us, hl with | [_, _], _ => rfl
  a_place_of := f5
  d_place_of := _
  F_place_of := fun_mk (st := s_place_of) l5 c5 k5
  m_place_of := PySem.W.mg_of X G a5
  b_place_of := (fun_mk (st := s_place_of) l5 c5 k5).binds (ps := ["folds", "cell"]) fun _ _ _ _ _ _ us hl => match us, hl with | [_, _], _ => rfl
  a_way_at := f6
  d_way_at := _
  F_way_at := fun_mk (st := s_way_at) l6 c6 k6
  m_way_at := PySem.W.mg_of X G a6
  b_way_at := (fun_mk (st := s_way_at) l6 c6 k6).binds (ps := ["folds", "place"]) fun _ _ _ _ _ _ us hl => match us, hl with | [_, _], _ => rfl
  a_looked_at := f7
  d_looked_at := _
  F_looked_at := fun_mk (st := s_looked_at) l7 c7 k7
  m_looked_at := PySem.W.mg_of X G a7
  b_looked_at := (fun_mk (st := s_looked_at) l7 c7 k7).binds (ps := ["folds", "box"]) fun _ _ _ _ _ _ us hl => match us, hl with | [_, _], _ => rfl
  a_shared := f8
  d_shared := _
  F_shared := fun_mk (st := s_shared) l8 c8 k8
  m_shared := PySem.W.mg_of X G a8
  b_shared := (fun_mk (st := s_shared) l8 c8 k8).binds (ps := ["box", "left", "low", "broad"]) fun _ _ _ _ _ _ us hl => match us, hl with | [_, _, _, _], _ => rfl
  a_counted := f9
  d_counted := _
  F_counted := fun_mk (st := s_counted) l9 c9 k9
  m_counted := PySem.W.mg_of X G a9
  b_counted := (fun_mk (st := s_counted) l9 c9 k9).binds (ps := ["folds", "box", "place"]) fun _ _ _ _ _ _ us hl => match us, hl with | [_, _, _], _ => rfl
  a_picked := f10
  d_picked := _
  F_picked := fun_mk (st := s_picked) l10 c10 k10
  m_picked := PySem.W.mg_of X G a10
  b_picked := (fun_mk (st := s_picked) l10 c10 k10).binds (ps := ["folds", "box", "number", "inside"]) fun _ _ _ _ _ _ us hl => match us, hl with | [_, _, _, _], _ => rfl
  a_nth := f11
  d_nth := _
  F_nth := fun_mk (st := s_nth) l11 c11 k11
  m_nth := PySem.W.mg_of X G a11
  b_nth := (fun_mk (st := s_nth) l11 c11 k11).binds (ps := ["folds", "box", "number"]) fun _ _ _ _ _ _ us hl => match us, hl with | [_, _, _], _ => rfl
  a_next_in := f12
  d_next_in := _
  F_next_in := fun_mk (st := s_next_in) l12 c12 k12
  m_next_in := PySem.W.mg_of X G a12
  b_next_in := (fun_mk (st := s_next_in) l12 c12 k12).binds (ps := ["folds", "box", "place"]) fun _ _ _ _ _ _ us hl => match us, hl with | [_, _, _], _ => rfl
  a_next_out := f13
  d_next_out := _
  F_next_out := fun_mk (st := s_next_out) l13 c13 k13
  m_next_out := PySem.W.mg_of X G a13
  b_next_out := (fun_mk (st := s_next_out) l13 c13 k13).binds (ps := ["folds", "box", "place"]) fun _ _ _ _ _ _ us hl => match us, hl with | [_, _, _], _ => rfl
  a_stretches := f14
  d_stretches := _
  F_stretches := (show FunD K "stretches" "stretches" (defArgs s_stretches) (defBody s_stretches) (defScope s_stretches) [.int 16] [] f14 _ from ⟨⟨oc14, od14, .ref td, kV14, dc14, pm14, an14, cd14, ct14, sl14, rfl, l14, c14, .inr ⟨List.cons_ne_nil _ _, td, _, [.int 16 ttk], tn, rfl, lt, rfl, .cons ⟨_, rfl⟩ .nil⟩, .inl rfl⟩, k14⟩)
  m_stretches := PySem.W.mg_of X G a14
  b_stretches := binds_nil ((show FunD K "stretches" "stretches" (defArgs s_stretches) (defBody s_stretches) (defScope s_stretches) [.int 16] [] f14 _ from ⟨⟨oc14, od14, .ref td, kV14, dc14, pm14, an14, cd14, ct14, sl14, rfl, l14, c14, .inr ⟨List.cons_ne_nil _ _, td, _, [.int 16 ttk], tn, rfl, lt, rfl, .cons ⟨_, rfl⟩ .nil⟩, .inl rfl⟩, k14⟩).binds1 (ps := ["folds", "box", "most"]) 3 1 (List.cons_ne_nil _ _) (by rfl) fun _ _ _ _ _ _ _ us its hu hi => match us, hu, its, hi with | [_, _, _], _, [_], _ => ⟨_, rfl, rfl⟩)
  bd_stretches := (show FunD K "stretches" "stretches" (defArgs s_stretches) (defBody s_stretches) (defScope s_stretches) [.int 16] [] f14 _ from ⟨⟨oc14, od14, .ref td, kV14, dc14, pm14, an14, cd14, ct14, sl14, rfl, l14, c14, .inr ⟨List.cons_ne_nil _ _, td, _, [.int 16 ttk], tn, rfl, lt, rfl, .cons ⟨_, rfl⟩ .nil⟩, .inl rfl⟩, k14⟩).binds1 (ps := ["folds", "box", "most"]) 2 0 (List.cons_ne_nil _ _) (by rfl) fun _ _ _ _ _ _ _ us its hu hi => match us, hu, its, hi with | [_, _], _, [_], _ => ⟨_, rfl, rfl⟩
  a_square_at := f15
  d_square_at := _
  F_square_at := fun_mk (st := s_square_at) l15 c15 k15
  m_square_at := PySem.W.mg_of X G a15
  b_square_at := (fun_mk (st := s_square_at) l15 c15 k15).binds (ps := ["folds", "place", "size"]) fun _ _ _ _ _ _ us hl => match us, hl with | [_, _, _], _ => rfl
  a__law_cell_at := f16
  d__law_cell_at := _
  F__law_cell_at := fun_mk (st := s__law_cell_at) l16 c16 k16
  m__law_cell_at := PySem.W.mg_of X G a16
  b__law_cell_at := (fun_mk (st := s__law_cell_at) l16 c16 k16).binds (ps := ["_law_script", "_law_k"]) fun _ _ _ _ _ _ us hl => match us, hl with | [_, _], _ => rfl
  a__law_folds := f17
  d__law_folds := _
  F__law_folds := fun_mk (st := s__law_folds) l17 c17 k17
  m__law_folds := PySem.W.mg_of X G a17
  b__law_folds := (fun_mk (st := s__law_folds) l17 c17 k17).binds (ps := ["_law_cell_here"]) fun _ _ _ _ _ _ us hl => match us, hl with | [_], _ => rfl
  a__law_far := f18
  d__law_far := _
  F__law_far := fun_mk (st := s__law_far) l18 c18 k18
  m__law_far := PySem.W.mg_of X G a18
  b__law_far := (fun_mk (st := s__law_far) l18 c18 k18).binds (ps := ["_law_cell_here"]) fun _ _ _ _ _ _ us hl => match us, hl with | [_], _ => rfl
  a__law_number := f19
  d__law_number := _
  F__law_number := fun_mk (st := s__law_number) l19 c19 k19
  m__law_number := PySem.W.mg_of X G a19
  b__law_number := (fun_mk (st := s__law_number) l19 c19 k19).binds (ps := ["_law_bad", "_law_cell_here", "_law_most"]) fun _ _ _ _ _ _ us hl => match us, hl with | [_, _, _], _ => rfl
  a__law_cell := f20
  d__law_cell := _
  F__law_cell := fun_mk (st := s__law_cell) l20 c20 k20
  m__law_cell := PySem.W.mg_of X G a20
  b__law_cell := (fun_mk (st := s__law_cell) l20 c20 k20).binds (ps := ["_law_bad", "_law_one", "_law_two", "_law_side"]) fun _ _ _ _ _ _ us hl => match us, hl with | [_, _, _, _], _ => rfl
  a__law_box := f21
  d__law_box := _
  F__law_box := fun_mk (st := s__law_box) l21 c21 k21
  m__law_box := PySem.W.mg_of X G a21
  b__law_box := (fun_mk (st := s__law_box) l21 c21 k21).binds (ps := ["_law_bad", "_law_cells", "_law_side"]) fun _ _ _ _ _ _ us hl => match us, hl with | [_, _, _], _ => rfl
  a__law_asked := f22
  d__law_asked := _
  F__law_asked := fun_mk (st := s__law_asked) l22 c22 k22
  m__law_asked := PySem.W.mg_of X G a22
  b__law_asked := (fun_mk (st := s__law_asked) l22 c22 k22).binds (ps := ["_law_which", "_law_folds_here", "_law_first_here", "_law_last_here"]) fun _ _ _ _ _ _ us hl => match us, hl with | [_, _, _, _], _ => rfl
  a__law_classes := f23
  d__law_classes := _
  F__law_classes := fun_mk (st := s__law_classes) l23 c23 k23
  m__law_classes := PySem.W.mg_of X G a23
  b__law_classes := (fun_mk (st := s__law_classes) l23 c23 k23).binds (ps := ["_law_which", "_law_folds_here", "_law_first_here", "_law_last_here"]) fun _ _ _ _ _ _ us hl => match us, hl with | [_, _, _, _], _ => rfl
  a__law_first := f24
  d__law_first := _
  F__law_first := fun_mk (st := s__law_first) l24 c24 k24
  m__law_first := PySem.W.mg_of X G a24
  b__law_first := (fun_mk (st := s__law_first) l24 c24 k24).binds (ps := ["_law_which", "_law_bad", "_law_one", "_law_two", "_law_folds_here"]) fun _ _ _ _ _ _ us hl => match us, hl with | [_, _, _, _, _], _ => rfl
  a__law_last := f25
  d__law_last := _
  F__law_last := fun_mk (st := s__law_last) l25 c25 k25
  m__law_last := PySem.W.mg_of X G a25
  b__law_last := (fun_mk (st := s__law_last) l25 c25 k25).binds (ps := ["_law_which", "_law_bad", "_law_cell_here", "_law_first_here", "_law_folds_here"]) fun _ _ _ _ _ _ us hl => match us, hl with | [_, _, _, _, _], _ => rfl
  a__law_due := f26
  d__law_due := _
  F__law_due := fun_mk (st := s__law_due) l26 c26 k26
  m__law_due := PySem.W.mg_of X G a26
  b__law_due := (fun_mk (st := s__law_due) l26 c26 k26).binds (ps := ["_law_which", "_law_bad"]) fun _ _ _ _ _ _ us hl => match us, hl with | [_, _], _ => rfl
  a_law := f27
  d_law := _
  F_law := fun_mk (st := s_law) l27 c27 k27
  m_law := PySem.W.mg_of X G a27
  b_law := (fun_mk (st := s_law) l27 c27 k27).binds (ps := ["_law_script"]) fun _ _ _ _ _ _ us hl => match us, hl with | [_], _ => rfl
  g_MOST_FOLDS := ⟨_, PySem.W.mg_of X G g_MOST_FOLDS⟩
  g_MOST_TOLD := ⟨_, PySem.W.mg_of X G g_MOST_TOLD⟩
  n_ValueError := PySem.W.mg_none_of X G z_ValueError
  n_int := PySem.W.mg_none_of X G z_int
  n_isinstance := PySem.W.mg_none_of X G z_isinstance
  n_len := PySem.W.mg_none_of X G z_len
  n_max := PySem.W.mg_none_of X G z_max
  n_min := PySem.W.mg_none_of X G z_min
  n_range := PySem.W.mg_none_of X G z_range
  n_reversed := PySem.W.mg_none_of X G z_reversed
  n_sorted := PySem.W.mg_none_of X G z_sorted
  c_WalkError := C_WalkError
  g_WalkError := PySem.W.mg_of X G ga_WalkError
  x_WalkError := x_WalkError
  k_WalkError := k_WalkError
  r_WalkError := r_WalkError
  t_WalkError := t_WalkError
  i_WalkError := i_WalkError
  c_NoFloor := C_NoFloor
  g_NoFloor := PySem.W.mg_of X G ga_NoFloor
  x_NoFloor := x_NoFloor
  k_NoFloor := k_NoFloor
  r_NoFloor := r_NoFloor
  t_NoFloor := t_NoFloor
  i_NoFloor := i_NoFloor
  c_NoPlace := C_NoPlace
  g_NoPlace := PySem.W.mg_of X G ga_NoPlace
  x_NoPlace := x_NoPlace
  k_NoPlace := k_NoPlace
  r_NoPlace := r_NoPlace
  t_NoPlace := t_NoPlace
  i_NoPlace := i_NoPlace
  c_NoCell := C_NoCell
  g_NoCell := PySem.W.mg_of X G ga_NoCell
  x_NoCell := x_NoCell
  k_NoCell := k_NoCell
  r_NoCell := r_NoCell
  t_NoCell := t_NoCell
  i_NoCell := i_NoCell
  c_NoSquare := C_NoSquare
  g_NoSquare := PySem.W.mg_of X G ga_NoSquare
  x_NoSquare := x_NoSquare
  k_NoSquare := k_NoSquare
  r_NoSquare := r_NoSquare
  t_NoSquare := t_NoSquare
  i_NoSquare := i_NoSquare
  c_NoBox := C_NoBox
  g_NoBox := PySem.W.mg_of X G ga_NoBox
  x_NoBox := x_NoBox
  k_NoBox := k_NoBox
  r_NoBox := r_NoBox
  t_NoBox := t_NoBox
  i_NoBox := i_NoBox
  c_NoNumber := C_NoNumber
  g_NoNumber := PySem.W.mg_of X G ga_NoNumber
  x_NoNumber := x_NoNumber
  k_NoNumber := k_NoNumber
  r_NoNumber := r_NoNumber
  t_NoNumber := t_NoNumber
  i_NoNumber := i_NoNumber
  c_TooMany := C_TooMany
  g_TooMany := PySem.W.mg_of X G ga_TooMany
  x_TooMany := x_TooMany
  k_TooMany := k_TooMany
  r_TooMany := r_TooMany
  t_TooMany := t_TooMany
  i_TooMany := i_TooMany
  s_NoFloor_WalkError := s_NoFloor_WalkError
  s_NoPlace_WalkError := s_NoPlace_WalkError
  s_NoCell_WalkError := s_NoCell_WalkError
  s_NoSquare_WalkError := s_NoSquare_WalkError
  s_NoBox_WalkError := s_NoBox_WalkError
  s_NoNumber_WalkError := s_NoNumber_WalkError
  s_TooMany_WalkError := s_TooMany_WalkError
  hdW := hdW
  gn := gn
  gt := gt
  hg_NoFloor := hg_NoFloor
  hk_NoFloor := hk_NoFloor
  hd_NoFloor := hd_NoFloor
  ha_NoFloor := ha_NoFloor
  hm_NoFloor := hm_NoFloor
  kv_NoFloor := kv_NoFloor
  kk_NoFloor_NoFloor := kk_NoFloor_NoFloor
  kk_NoFloor_NoPlace := kk_NoFloor_NoPlace
  kk_NoFloor_NoCell := kk_NoFloor_NoCell
  kk_NoFloor_NoSquare := kk_NoFloor_NoSquare
  kk_NoFloor_NoBox := kk_NoFloor_NoBox
  kk_NoFloor_NoNumber := kk_NoFloor_NoNumber
  kk_NoFloor_TooMany := kk_NoFloor_TooMany
  hg_NoPlace := hg_NoPlace
  hk_NoPlace := hk_NoPlace
  hd_NoPlace := hd_NoPlace
  ha_NoPlace := ha_NoPlace
  hm_NoPlace := hm_NoPlace
  kv_NoPlace := kv_NoPlace
  kk_NoPlace_NoFloor := kk_NoPlace_NoFloor
  kk_NoPlace_NoPlace := kk_NoPlace_NoPlace
  kk_NoPlace_NoCell := kk_NoPlace_NoCell
  kk_NoPlace_NoSquare := kk_NoPlace_NoSquare
  kk_NoPlace_NoBox := kk_NoPlace_NoBox
  kk_NoPlace_NoNumber := kk_NoPlace_NoNumber
  kk_NoPlace_TooMany := kk_NoPlace_TooMany
  hg_NoCell := hg_NoCell
  hk_NoCell := hk_NoCell
  hd_NoCell := hd_NoCell
  ha_NoCell := ha_NoCell
  hm_NoCell := hm_NoCell
  kv_NoCell := kv_NoCell
  kk_NoCell_NoFloor := kk_NoCell_NoFloor
  kk_NoCell_NoPlace := kk_NoCell_NoPlace
  kk_NoCell_NoCell := kk_NoCell_NoCell
  kk_NoCell_NoSquare := kk_NoCell_NoSquare
  kk_NoCell_NoBox := kk_NoCell_NoBox
  kk_NoCell_NoNumber := kk_NoCell_NoNumber
  kk_NoCell_TooMany := kk_NoCell_TooMany
  hg_NoSquare := hg_NoSquare
  hk_NoSquare := hk_NoSquare
  hd_NoSquare := hd_NoSquare
  ha_NoSquare := ha_NoSquare
  hm_NoSquare := hm_NoSquare
  kv_NoSquare := kv_NoSquare
  kk_NoSquare_NoFloor := kk_NoSquare_NoFloor
  kk_NoSquare_NoPlace := kk_NoSquare_NoPlace
  kk_NoSquare_NoCell := kk_NoSquare_NoCell
  kk_NoSquare_NoSquare := kk_NoSquare_NoSquare
  kk_NoSquare_NoBox := kk_NoSquare_NoBox
  kk_NoSquare_NoNumber := kk_NoSquare_NoNumber
  kk_NoSquare_TooMany := kk_NoSquare_TooMany
  hg_NoBox := hg_NoBox
  hk_NoBox := hk_NoBox
  hd_NoBox := hd_NoBox
  ha_NoBox := ha_NoBox
  hm_NoBox := hm_NoBox
  kv_NoBox := kv_NoBox
  kk_NoBox_NoFloor := kk_NoBox_NoFloor
  kk_NoBox_NoPlace := kk_NoBox_NoPlace
  kk_NoBox_NoCell := kk_NoBox_NoCell
  kk_NoBox_NoSquare := kk_NoBox_NoSquare
  kk_NoBox_NoBox := kk_NoBox_NoBox
  kk_NoBox_NoNumber := kk_NoBox_NoNumber
  kk_NoBox_TooMany := kk_NoBox_TooMany
  hg_NoNumber := hg_NoNumber
  hk_NoNumber := hk_NoNumber
  hd_NoNumber := hd_NoNumber
  ha_NoNumber := ha_NoNumber
  hm_NoNumber := hm_NoNumber
  kv_NoNumber := kv_NoNumber
  kk_NoNumber_NoFloor := kk_NoNumber_NoFloor
  kk_NoNumber_NoPlace := kk_NoNumber_NoPlace
  kk_NoNumber_NoCell := kk_NoNumber_NoCell
  kk_NoNumber_NoSquare := kk_NoNumber_NoSquare
  kk_NoNumber_NoBox := kk_NoNumber_NoBox
  kk_NoNumber_NoNumber := kk_NoNumber_NoNumber
  kk_NoNumber_TooMany := kk_NoNumber_TooMany
  hg_TooMany := hg_TooMany
  hk_TooMany := hk_TooMany
  hd_TooMany := hd_TooMany
  ha_TooMany := ha_TooMany
  hm_TooMany := hm_TooMany
  kv_TooMany := kv_TooMany
  kk_TooMany_NoFloor := kk_TooMany_NoFloor
  kk_TooMany_NoPlace := kk_TooMany_NoPlace
  kk_TooMany_NoCell := kk_TooMany_NoCell
  kk_TooMany_NoSquare := kk_TooMany_NoSquare
  kk_TooMany_NoBox := kk_TooMany_NoBox
  kk_TooMany_NoNumber := kk_TooMany_NoNumber
  kk_TooMany_TooMany := kk_TooMany_TooMany
theorem all_mk {l : PySem.W.OpenLaw} {w : World} {K : PySem.W.Frag} {h : Heap} {mg : Str → Option Value} {fa f0 f1 f2 f3 f4 f5 f6 f7 f8 f9 f10 f11 f12 f13 f14 f15 f16 f17 f18 f19 f20 f21 f22 f23 f24 f25 f26 f27 td C_WalkError C_NoFloor C_NoPlace C_NoCell C_NoSquare C_NoBox C_NoNumber C_TooMany : Addr} (X : K.In h) (G : h.Ns mainGlobals mg) (hfa : mg "law" = some (.ref fa))
    {od0 an0 od1 an1 od2 an2 od3 an3 od4 an4 od5 an5 od6 an6 od7 an7 od8 an8 od9 an9 od10 an10 od11 an11 od12 an12 od13 an13 od14 an14 od15 an15 od16 an16 od17 an17 od18 an18 od19 an19 od20 an20 od21 an21 od22 an22 od23 an23 od24 an24 od25 an25 od26 an26 od27 an27 tod : Option Addr} {sl0 sl1 sl2 sl3 sl4 sl5 sl6 sl7 sl8 sl9 sl10 sl11 sl12 sl13 sl14 sl15 sl16 sl17 sl18 sl19 sl20 sl21 sl22 sl23 sl24 sl25 sl26 sl27 tsl : Array (Option Value)} {oc0 kV0 dc0 pm0 cd0 ct0 oc1 kV1 dc1 pm1 cd1 ct1 oc2 kV2 dc2 pm2 cd2 ct2 oc3 kV3 dc3 pm3 cd3 ct3 oc4 kV4 dc4 pm4 cd4 ct4 oc5 kV5 dc5 pm5 cd5 ct5 oc6 kV6 dc6 pm6 cd6 ct6 oc7 kV7 dc7 pm7 cd7 ct7 oc8 kV8 dc8 pm8 cd8 ct8 oc9 kV9 dc9 pm9 cd9 ct9 oc10 kV10 dc10 pm10 cd10 ct10 oc11 kV11 dc11 pm11 cd11 ct11 oc12 kV12 dc12 pm12 cd12 ct12 oc13 kV13 dc13 pm13 cd13 ct13 oc14 kV14 dc14 pm14 cd14 ct14 oc15 kV15 dc15 pm15 cd15 ct15 oc16 kV16 dc16 pm16 cd16 ct16 oc17 kV17 dc17 pm17 cd17 ct17 oc18 kV18 dc18 pm18 cd18 ct18 oc19 kV19 dc19 pm19 cd19 ct19 oc20 kV20 dc20 pm20 cd20 ct20 oc21 kV21 dc21 pm21 cd21 ct21 oc22 kV22 dc22 pm22 cd22 ct22 oc23 kV23 dc23 pm23 cd23 ct23 oc24 kV24 dc24 pm24 cd24 ct24 oc25 kV25 dc25 pm25 cd25 ct25 oc26 kV26 dc26 pm26 cd26 ct26 oc27 kV27 dc27 pm27 cd27 ct27 toc : Value} {tk_MOST_FOLDS tk_MOST_TOLD ttk : Tok} {tn : Nat}
    (a0 : PySem.W.nsIn K mainGlobals "side_of" = some (some (.ref f0))) (l0 : K.lookup f0 = some ⟨oc0, od0, .func (PySem.W.fnOf "side_of" "side_of" (defArgs s_side_of) (defBody s_side_of) (defScope s_side_of) .none kV0 dc0 pm0 an0 cd0 ct0), sl0⟩) (c0 : PySem.W.codeIn K cd0 "side_of" = true) (k0 : PySem.W.keepIn K (.ref f0) = true)
    (a1 : PySem.W.nsIn K mainGlobals "quarter_at" = some (some (.ref f1))) (l1 : K.lookup f1 = some ⟨oc1, od1, .func (PySem.W.fnOf "quarter_at" "quarter_at" (defArgs s_quarter_at) (defBody s_quarter_at) (defScope s_quarter_at) .none kV1 dc1 pm1 an1 cd1 ct1), sl1⟩) (c1 : PySem.W.codeIn K cd1 "quarter_at" = true) (k1 : PySem.W.keepIn K (.ref f1) = true)
    (a2 : PySem.W.nsIn K mainGlobals "turn_at" = some (some (.ref f2))) (l2 : K.lookup f2 = some ⟨oc2, od2, .func (PySem.W.fnOf "turn_at" "turn_at" (defArgs s_turn_at) (defBody s_turn_at) (defScope s_turn_at) .none kV2 dc2 pm2 an2 cd2 ct2), sl2⟩) (c2 : PySem.W.codeIn K cd2 "turn_at" = true) (k2 : PySem.W.keepIn K (.ref f2) = true)
    (a3 : PySem.W.nsIn K mainGlobals "folded" = some (some (.ref f3))) (l3 : K.lookup f3 = some ⟨oc3, od3, .func (PySem.W.fnOf "folded" "folded" (defArgs s_folded) (defBody s_folded) (defScope s_folded) .none kV3 dc3 pm3 an3 cd3 ct3), sl3⟩) (c3 : PySem.W.codeIn K cd3 "folded" = true) (k3 : PySem.W.keepIn K (.ref f3) = true)
    (a4 : PySem.W.nsIn K mainGlobals "cell_at" = some (some (.ref f4))) (l4 : K.lookup f4 = some ⟨oc4, od4, .func (PySem.W.fnOf "cell_at" "cell_at" (defArgs s_cell_at) (defBody s_cell_at) (defScope s_cell_at) .none kV4 dc4 pm4 an4 cd4 ct4), sl4⟩) (c4 : PySem.W.codeIn K cd4 "cell_at" = true) (k4 : PySem.W.keepIn K (.ref f4) = true)
    (a5 : PySem.W.nsIn K mainGlobals "place_of" = some (some (.ref f5))) (l5 : K.lookup f5 = some ⟨oc5, od5, .func (PySem.W.fnOf "place_of" "place_of" (defArgs s_place_of) (defBody s_place_of) (defScope s_place_of) .none kV5 dc5 pm5 an5 cd5 ct5), sl5⟩) (c5 : PySem.W.codeIn K cd5 "place_of" = true) (k5 : PySem.W.keepIn K (.ref f5) = true)
    (a6 : PySem.W.nsIn K mainGlobals "way_at" = some (some (.ref f6))) (l6 : K.lookup f6 = some ⟨oc6, od6, .func (PySem.W.fnOf "way_at" "way_at" (defArgs s_way_at) (defBody s_way_at) (defScope s_way_at) .none kV6 dc6 pm6 an6 cd6 ct6), sl6⟩) (c6 : PySem.W.codeIn K cd6 "way_at" = true) (k6 : PySem.W.keepIn K (.ref f6) = true)
    (a7 : PySem.W.nsIn K mainGlobals "looked_at" = some (some (.ref f7))) (l7 : K.lookup f7 = some ⟨oc7, od7, .func (PySem.W.fnOf "looked_at" "looked_at" (defArgs s_looked_at) (defBody s_looked_at) (defScope s_looked_at) .none kV7 dc7 pm7 an7 cd7 ct7), sl7⟩) (c7 : PySem.W.codeIn K cd7 "looked_at" = true) (k7 : PySem.W.keepIn K (.ref f7) = true)
    (a8 : PySem.W.nsIn K mainGlobals "shared" = some (some (.ref f8))) (l8 : K.lookup f8 = some ⟨oc8, od8, .func (PySem.W.fnOf "shared" "shared" (defArgs s_shared) (defBody s_shared) (defScope s_shared) .none kV8 dc8 pm8 an8 cd8 ct8), sl8⟩) (c8 : PySem.W.codeIn K cd8 "shared" = true) (k8 : PySem.W.keepIn K (.ref f8) = true)
    (a9 : PySem.W.nsIn K mainGlobals "counted" = some (some (.ref f9))) (l9 : K.lookup f9 = some ⟨oc9, od9, .func (PySem.W.fnOf "counted" "counted" (defArgs s_counted) (defBody s_counted) (defScope s_counted) .none kV9 dc9 pm9 an9 cd9 ct9), sl9⟩) (c9 : PySem.W.codeIn K cd9 "counted" = true) (k9 : PySem.W.keepIn K (.ref f9) = true)
    (a10 : PySem.W.nsIn K mainGlobals "picked" = some (some (.ref f10))) (l10 : K.lookup f10 = some ⟨oc10, od10, .func (PySem.W.fnOf "picked" "picked" (defArgs s_picked) (defBody s_picked) (defScope s_picked) .none kV10 dc10 pm10 an10 cd10 ct10), sl10⟩) (c10 : PySem.W.codeIn K cd10 "picked" = true) (k10 : PySem.W.keepIn K (.ref f10) = true)
    (a11 : PySem.W.nsIn K mainGlobals "nth" = some (some (.ref f11))) (l11 : K.lookup f11 = some ⟨oc11, od11, .func (PySem.W.fnOf "nth" "nth" (defArgs s_nth) (defBody s_nth) (defScope s_nth) .none kV11 dc11 pm11 an11 cd11 ct11), sl11⟩) (c11 : PySem.W.codeIn K cd11 "nth" = true) (k11 : PySem.W.keepIn K (.ref f11) = true)
    (a12 : PySem.W.nsIn K mainGlobals "next_in" = some (some (.ref f12))) (l12 : K.lookup f12 = some ⟨oc12, od12, .func (PySem.W.fnOf "next_in" "next_in" (defArgs s_next_in) (defBody s_next_in) (defScope s_next_in) .none kV12 dc12 pm12 an12 cd12 ct12), sl12⟩) (c12 : PySem.W.codeIn K cd12 "next_in" = true) (k12 : PySem.W.keepIn K (.ref f12) = true)
    (a13 : PySem.W.nsIn K mainGlobals "next_out" = some (some (.ref f13))) (l13 : K.lookup f13 = some ⟨oc13, od13, .func (PySem.W.fnOf "next_out" "next_out" (defArgs s_next_out) (defBody s_next_out) (defScope s_next_out) .none kV13 dc13 pm13 an13 cd13 ct13), sl13⟩) (c13 : PySem.W.codeIn K cd13 "next_out" = true) (k13 : PySem.W.keepIn K (.ref f13) = true)
    (a14 : PySem.W.nsIn K mainGlobals "stretches" = some (some (.ref f14))) (l14 : K.lookup f14 = some ⟨oc14, od14, .func (PySem.W.fnOf "stretches" "stretches" (defArgs s_stretches) (defBody s_stretches) (defScope s_stretches) (.ref td) kV14 dc14 pm14 an14 cd14 ct14), sl14⟩) (c14 : PySem.W.codeIn K cd14 "stretches" = true) (k14 : PySem.W.keepIn K (.ref f14) = true)
    (lt : K.lookup td = some ⟨toc, tod, .seq #[.int 16 ttk] tn, tsl⟩)
    (a15 : PySem.W.nsIn K mainGlobals "square_at" = some (some (.ref f15))) (l15 : K.lookup f15 = some ⟨oc15, od15, .func (PySem.W.fnOf "square_at" "square_at" (defArgs s_square_at) (defBody s_square_at) (defScope s_square_at) .none kV15 dc15 pm15 an15 cd15 ct15), sl15⟩) (c15 : PySem.W.codeIn K cd15 "square_at" = true) (k15 : PySem.W.keepIn K (.ref f15) = true)
    (a16 : PySem.W.nsIn K mainGlobals "_law_cell_at" = some (some (.ref f16))) (l16 : K.lookup f16 = some ⟨oc16, od16, .func (PySem.W.fnOf "_law_cell_at" "_law_cell_at" (defArgs s__law_cell_at) (defBody s__law_cell_at) (defScope s__law_cell_at) .none kV16 dc16 pm16 an16 cd16 ct16), sl16⟩) (c16 : PySem.W.codeIn K cd16 "_law_cell_at" = true) (k16 : PySem.W.keepIn K (.ref f16) = true)
    (a17 : PySem.W.nsIn K mainGlobals "_law_folds" = some (some (.ref f17))) (l17 : K.lookup f17 = some ⟨oc17, od17, .func (PySem.W.fnOf "_law_folds" "_law_folds" (defArgs s__law_folds) (defBody s__law_folds) (defScope s__law_folds) .none kV17 dc17 pm17 an17 cd17 ct17), sl17⟩) (c17 : PySem.W.codeIn K cd17 "_law_folds" = true) (k17 : PySem.W.keepIn K (.ref f17) = true)
    (a18 : PySem.W.nsIn K mainGlobals "_law_far" = some (some (.ref f18))) (l18 : K.lookup f18 = some ⟨oc18, od18, .func (PySem.W.fnOf "_law_far" "_law_far" (defArgs s__law_far) (defBody s__law_far) (defScope s__law_far) .none kV18 dc18 pm18 an18 cd18 ct18), sl18⟩) (c18 : PySem.W.codeIn K cd18 "_law_far" = true) (k18 : PySem.W.keepIn K (.ref f18) = true)
    (a19 : PySem.W.nsIn K mainGlobals "_law_number" = some (some (.ref f19))) (l19 : K.lookup f19 = some ⟨oc19, od19, .func (PySem.W.fnOf "_law_number" "_law_number" (defArgs s__law_number) (defBody s__law_number) (defScope s__law_number) .none kV19 dc19 pm19 an19 cd19 ct19), sl19⟩) (c19 : PySem.W.codeIn K cd19 "_law_number" = true) (k19 : PySem.W.keepIn K (.ref f19) = true)
    (a20 : PySem.W.nsIn K mainGlobals "_law_cell" = some (some (.ref f20))) (l20 : K.lookup f20 = some ⟨oc20, od20, .func (PySem.W.fnOf "_law_cell" "_law_cell" (defArgs s__law_cell) (defBody s__law_cell) (defScope s__law_cell) .none kV20 dc20 pm20 an20 cd20 ct20), sl20⟩) (c20 : PySem.W.codeIn K cd20 "_law_cell" = true) (k20 : PySem.W.keepIn K (.ref f20) = true)
    (a21 : PySem.W.nsIn K mainGlobals "_law_box" = some (some (.ref f21))) (l21 : K.lookup f21 = some ⟨oc21, od21, .func (PySem.W.fnOf "_law_box" "_law_box" (defArgs s__law_box) (defBody s__law_box) (defScope s__law_box) .none kV21 dc21 pm21 an21 cd21 ct21), sl21⟩) (c21 : PySem.W.codeIn K cd21 "_law_box" = true) (k21 : PySem.W.keepIn K (.ref f21) = true)
    (a22 : PySem.W.nsIn K mainGlobals "_law_asked" = some (some (.ref f22))) (l22 : K.lookup f22 = some ⟨oc22, od22, .func (PySem.W.fnOf "_law_asked" "_law_asked" (defArgs s__law_asked) (defBody s__law_asked) (defScope s__law_asked) .none kV22 dc22 pm22 an22 cd22 ct22), sl22⟩) (c22 : PySem.W.codeIn K cd22 "_law_asked" = true) (k22 : PySem.W.keepIn K (.ref f22) = true)
    (a23 : PySem.W.nsIn K mainGlobals "_law_classes" = some (some (.ref f23))) (l23 : K.lookup f23 = some ⟨oc23, od23, .func (PySem.W.fnOf "_law_classes" "_law_classes" (defArgs s__law_classes) (defBody s__law_classes) (defScope s__law_classes) .none kV23 dc23 pm23 an23 cd23 ct23), sl23⟩) (c23 : PySem.W.codeIn K cd23 "_law_classes" = true) (k23 : PySem.W.keepIn K (.ref f23) = true)
    (a24 : PySem.W.nsIn K mainGlobals "_law_first" = some (some (.ref f24))) (l24 : K.lookup f24 = some ⟨oc24, od24, .func (PySem.W.fnOf "_law_first" "_law_first" (defArgs s__law_first) (defBody s__law_first) (defScope s__law_first) .none kV24 dc24 pm24 an24 cd24 ct24), sl24⟩) (c24 : PySem.W.codeIn K cd24 "_law_first" = true) (k24 : PySem.W.keepIn K (.ref f24) = true)
    (a25 : PySem.W.nsIn K mainGlobals "_law_last" = some (some (.ref f25))) (l25 : K.lookup f25 = some ⟨oc25, od25, .func (PySem.W.fnOf "_law_last" "_law_last" (defArgs s__law_last) (defBody s__law_last) (defScope s__law_last) .none kV25 dc25 pm25 an25 cd25 ct25), sl25⟩) (c25 : PySem.W.codeIn K cd25 "_law_last" = true) (k25 : PySem.W.keepIn K (.ref f25) = true)
    (a26 : PySem.W.nsIn K mainGlobals "_law_due" = some (some (.ref f26))) (l26 : K.lookup f26 = some ⟨oc26, od26, .func (PySem.W.fnOf "_law_due" "_law_due" (defArgs s__law_due) (defBody s__law_due) (defScope s__law_due) .none kV26 dc26 pm26 an26 cd26 ct26), sl26⟩) (c26 : PySem.W.codeIn K cd26 "_law_due" = true) (k26 : PySem.W.keepIn K (.ref f26) = true)
    (a27 : PySem.W.nsIn K mainGlobals "law" = some (some (.ref f27))) (l27 : K.lookup f27 = some ⟨oc27, od27, .func (PySem.W.fnOf "law" "law" (defArgs s_law) (defBody s_law) (defScope s_law) .none kV27 dc27 pm27 an27 cd27 ct27), sl27⟩) (c27 : PySem.W.codeIn K cd27 "law" = true) (k27 : PySem.W.keepIn K (.ref f27) = true)
    (ga_WalkError : PySem.W.nsIn K mainGlobals "WalkError" = some (some (.ref C_WalkError))) (x_WalkError : PySem.W.excIn K C_WalkError [.type "ValueError", .type "Exception", .type "BaseException", .type "object"] "ValueError.__new__" = true) (k_WalkError : PySem.W.keepIn K (.ref C_WalkError) = true) (r_WalkError : PySem.W.subIn K (.ref C_WalkError) (.type "BaseException") = some true) (t_WalkError : PySem.W.typeIn K (.ref C_WalkError) = some (.type "type")) (i_WalkError : PySem.W.isClsIn K C_WalkError = true)
    (ga_NoFloor : PySem.W.nsIn K mainGlobals "NoFloor" = some (some (.ref C_NoFloor))) (x_NoFloor : PySem.W.excIn K C_NoFloor [.type "ValueError", .type "Exception", .type "BaseException", .type "object"] "ValueError.__new__" = true) (k_NoFloor : PySem.W.keepIn K (.ref C_NoFloor) = true) (r_NoFloor : PySem.W.subIn K (.ref C_NoFloor) (.type "BaseException") = some true) (t_NoFloor : PySem.W.typeIn K (.ref C_NoFloor) = some (.type "type")) (i_NoFloor : PySem.W.isClsIn K C_NoFloor = true)
    (ga_NoPlace : PySem.W.nsIn K mainGlobals "NoPlace" = some (some (.ref C_NoPlace))) (x_NoPlace : PySem.W.excIn K C_NoPlace [.type "ValueError", .type "Exception", .type "BaseException", .type "object"] "ValueError.__new__" = true) (k_NoPlace : PySem.W.keepIn K (.ref C_NoPlace) = true) (r_NoPlace : PySem.W.subIn K (.ref C_NoPlace) (.type "BaseException") = some true) (t_NoPlace : PySem.W.typeIn K (.ref C_NoPlace) = some (.type "type")) (i_NoPlace : PySem.W.isClsIn K C_NoPlace = true)
    (ga_NoCell : PySem.W.nsIn K mainGlobals "NoCell" = some (some (.ref C_NoCell))) (x_NoCell : PySem.W.excIn K C_NoCell [.type "ValueError", .type "Exception", .type "BaseException", .type "object"] "ValueError.__new__" = true) (k_NoCell : PySem.W.keepIn K (.ref C_NoCell) = true) (r_NoCell : PySem.W.subIn K (.ref C_NoCell) (.type "BaseException") = some true) (t_NoCell : PySem.W.typeIn K (.ref C_NoCell) = some (.type "type")) (i_NoCell : PySem.W.isClsIn K C_NoCell = true)
    (ga_NoSquare : PySem.W.nsIn K mainGlobals "NoSquare" = some (some (.ref C_NoSquare))) (x_NoSquare : PySem.W.excIn K C_NoSquare [.type "ValueError", .type "Exception", .type "BaseException", .type "object"] "ValueError.__new__" = true) (k_NoSquare : PySem.W.keepIn K (.ref C_NoSquare) = true) (r_NoSquare : PySem.W.subIn K (.ref C_NoSquare) (.type "BaseException") = some true) (t_NoSquare : PySem.W.typeIn K (.ref C_NoSquare) = some (.type "type")) (i_NoSquare : PySem.W.isClsIn K C_NoSquare = true)
    (ga_NoBox : PySem.W.nsIn K mainGlobals "NoBox" = some (some (.ref C_NoBox))) (x_NoBox : PySem.W.excIn K C_NoBox [.type "ValueError", .type "Exception", .type "BaseException", .type "object"] "ValueError.__new__" = true) (k_NoBox : PySem.W.keepIn K (.ref C_NoBox) = true) (r_NoBox : PySem.W.subIn K (.ref C_NoBox) (.type "BaseException") = some true) (t_NoBox : PySem.W.typeIn K (.ref C_NoBox) = some (.type "type")) (i_NoBox : PySem.W.isClsIn K C_NoBox = true)
    (ga_NoNumber : PySem.W.nsIn K mainGlobals "NoNumber" = some (some (.ref C_NoNumber))) (x_NoNumber : PySem.W.excIn K C_NoNumber [.type "ValueError", .type "Exception", .type "BaseException", .type "object"] "ValueError.__new__" = true) (k_NoNumber : PySem.W.keepIn K (.ref C_NoNumber) = true) (r_NoNumber : PySem.W.subIn K (.ref C_NoNumber) (.type "BaseException") = some true) (t_NoNumber : PySem.W.typeIn K (.ref C_NoNumber) = some (.type "type")) (i_NoNumber : PySem.W.isClsIn K C_NoNumber = true)
    (ga_TooMany : PySem.W.nsIn K mainGlobals "TooMany" = some (some (.ref C_TooMany))) (x_TooMany : PySem.W.excIn K C_TooMany [.type "ValueError", .type "Exception", .type "BaseException", .type "object"] "ValueError.__new__" = true) (k_TooMany : PySem.W.keepIn K (.ref C_TooMany) = true) (r_TooMany : PySem.W.subIn K (.ref C_TooMany) (.type "BaseException") = some true) (t_TooMany : PySem.W.typeIn K (.ref C_TooMany) = some (.type "type")) (i_TooMany : PySem.W.isClsIn K C_TooMany = true)
    (s_NoFloor_WalkError : PySem.W.subIn K (.ref C_NoFloor) (.ref C_WalkError) = some true)
    (s_NoPlace_WalkError : PySem.W.subIn K (.ref C_NoPlace) (.ref C_WalkError) = some true)
    (s_NoCell_WalkError : PySem.W.subIn K (.ref C_NoCell) (.ref C_WalkError) = some true)
    (s_NoSquare_WalkError : PySem.W.subIn K (.ref C_NoSquare) (.ref C_WalkError) = some true)
    (s_NoBox_WalkError : PySem.W.subIn K (.ref C_NoBox) (.ref C_WalkError) = some true)
    (s_NoNumber_WalkError : PySem.W.subIn K (.ref C_NoNumber) (.ref C_WalkError) = some true)
    (s_TooMany_WalkError : PySem.W.subIn K (.ref C_TooMany) (.ref C_WalkError) = some true)
    (hdW : PySem.W.hasDictIn K C_WalkError = true)
    (gn : PySem.W.specialIn K (.builtin "object.__class__") "__get__" = some (some (.builtin "getset_descriptor.__get__")))
    (gt : PySem.W.takesIn K (.builtin "object.__class__") = some true)
    (hg_NoFloor : PySem.W.findIn K (.ref C_NoFloor) "__getattribute__" = some (some (.builtin "BaseException.__getattribute__")))
    (hk_NoFloor : PySem.W.findIn K (.ref C_NoFloor) "__getattr__" = some none)
    (hd_NoFloor : PySem.W.hasDictIn K C_NoFloor = true)
    (ha_NoFloor : PySem.W.findIn K (.ref C_NoFloor) "__class__" = some (some (.builtin "object.__class__")))
    (hm_NoFloor : PySem.W.mroIn K C_NoFloor (.type "object") = some true)
    (kv_NoFloor : PySem.W.subIn K (.ref C_NoFloor) (.type "ValueError") = some true)
    (kk_NoFloor_NoFloor : PySem.W.subIn K (.ref C_NoFloor) (.ref C_NoFloor) = some true)
    (kk_NoFloor_NoPlace : PySem.W.subIn K (.ref C_NoFloor) (.ref C_NoPlace) = some false)
    (kk_NoFloor_NoCell : PySem.W.subIn K (.ref C_NoFloor) (.ref C_NoCell) = some false)
    (kk_NoFloor_NoSquare : PySem.W.subIn K (.ref C_NoFloor) (.ref C_NoSquare) = some false)
    (kk_NoFloor_NoBox : PySem.W.subIn K (.ref C_NoFloor) (.ref C_NoBox) = some false)
    (kk_NoFloor_NoNumber : PySem.W.subIn K (.ref C_NoFloor) (.ref C_NoNumber) = some false)
    (kk_NoFloor_TooMany : PySem.W.subIn K (.ref C_NoFloor) (.ref C_TooMany) = some false)
    (hg_NoPlace : PySem.W.findIn K (.ref C_NoPlace) "__getattribute__" = some (some (.builtin "BaseException.__getattribute__")))
    (hk_NoPlace : PySem.W.findIn K (.ref C_NoPlace) "__getattr__" = some none)
    (hd_NoPlace : PySem.W.hasDictIn K C_NoPlace = true)
    (ha_NoPlace : PySem.W.findIn K (.ref C_NoPlace) "__class__" = some (some (.builtin "object.__class__")))
    (hm_NoPlace : PySem.W.mroIn K C_NoPlace (.type "object") = some true)
    (kv_NoPlace : PySem.W.subIn K (.ref C_NoPlace) (.type "ValueError") = some true)
    (kk_NoPlace_NoFloor : PySem.W.subIn K (.ref C_NoPlace) (.ref C_NoFloor) = some false)
    (kk_NoPlace_NoPlace : PySem.W.subIn K (.ref C_NoPlace) (.ref C_NoPlace) = some true)
    (kk_NoPlace_NoCell : PySem.W.subIn K (.ref C_NoPlace) (.ref C_NoCell) = some false)
    (kk_NoPlace_NoSquare : PySem.W.subIn K (.ref C_NoPlace) (.ref C_NoSquare) = some false)
    (kk_NoPlace_NoBox : PySem.W.subIn K (.ref C_NoPlace) (.ref C_NoBox) = some false)
    (kk_NoPlace_NoNumber : PySem.W.subIn K (.ref C_NoPlace) (.ref C_NoNumber) = some false)
    (kk_NoPlace_TooMany : PySem.W.subIn K (.ref C_NoPlace) (.ref C_TooMany) = some false)
    (hg_NoCell : PySem.W.findIn K (.ref C_NoCell) "__getattribute__" = some (some (.builtin "BaseException.__getattribute__")))
    (hk_NoCell : PySem.W.findIn K (.ref C_NoCell) "__getattr__" = some none)
    (hd_NoCell : PySem.W.hasDictIn K C_NoCell = true)
    (ha_NoCell : PySem.W.findIn K (.ref C_NoCell) "__class__" = some (some (.builtin "object.__class__")))
    (hm_NoCell : PySem.W.mroIn K C_NoCell (.type "object") = some true)
    (kv_NoCell : PySem.W.subIn K (.ref C_NoCell) (.type "ValueError") = some true)
    (kk_NoCell_NoFloor : PySem.W.subIn K (.ref C_NoCell) (.ref C_NoFloor) = some false)
    (kk_NoCell_NoPlace : PySem.W.subIn K (.ref C_NoCell) (.ref C_NoPlace) = some false)
    (kk_NoCell_NoCell : PySem.W.subIn K (.ref C_NoCell) (.ref C_NoCell) = some true)
    (kk_NoCell_NoSquare : PySem.W.subIn K (.ref C_NoCell) (.ref C_NoSquare) = some false)
    (kk_NoCell_NoBox : PySem.W.subIn K (.ref C_NoCell) (.ref C_NoBox) = some false)
    (kk_NoCell_NoNumber : PySem.W.subIn K (.ref C_NoCell) (.ref C_NoNumber) = some false)
    (kk_NoCell_TooMany : PySem.W.subIn K (.ref C_NoCell) (.ref C_TooMany) = some false)
    (hg_NoSquare : PySem.W.findIn K (.ref C_NoSquare) "__getattribute__" = some (some (.builtin "BaseException.__getattribute__")))
    (hk_NoSquare : PySem.W.findIn K (.ref C_NoSquare) "__getattr__" = some none)
    (hd_NoSquare : PySem.W.hasDictIn K C_NoSquare = true)
    (ha_NoSquare : PySem.W.findIn K (.ref C_NoSquare) "__class__" = some (some (.builtin "object.__class__")))
    (hm_NoSquare : PySem.W.mroIn K C_NoSquare (.type "object") = some true)
    (kv_NoSquare : PySem.W.subIn K (.ref C_NoSquare) (.type "ValueError") = some true)
    (kk_NoSquare_NoFloor : PySem.W.subIn K (.ref C_NoSquare) (.ref C_NoFloor) = some false)
    (kk_NoSquare_NoPlace : PySem.W.subIn K (.ref C_NoSquare) (.ref C_NoPlace) = some false)
    (kk_NoSquare_NoCell : PySem.W.subIn K (.ref C_NoSquare) (.ref C_NoCell) = some false)
    (kk_NoSquare_NoSquare : PySem.W.subIn K (.ref C_NoSquare) (.ref C_NoSquare) = some true)
    (kk_NoSquare_NoBox : PySem.W.subIn K (.ref C_NoSquare) (.ref C_NoBox) = some false)
    (kk_NoSquare_NoNumber : PySem.W.subIn K (.ref C_NoSquare) (.ref C_NoNumber) = some false)
    (kk_NoSquare_TooMany : PySem.W.subIn K (.ref C_NoSquare) (.ref C_TooMany) = some false)
    (hg_NoBox : PySem.W.findIn K (.ref C_NoBox) "__getattribute__" = some (some (.builtin "BaseException.__getattribute__")))
    (hk_NoBox : PySem.W.findIn K (.ref C_NoBox) "__getattr__" = some none)
    (hd_NoBox : PySem.W.hasDictIn K C_NoBox = true)
    (ha_NoBox : PySem.W.findIn K (.ref C_NoBox) "__class__" = some (some (.builtin "object.__class__")))
    (hm_NoBox : PySem.W.mroIn K C_NoBox (.type "object") = some true)
    (kv_NoBox : PySem.W.subIn K (.ref C_NoBox) (.type "ValueError") = some true)
    (kk_NoBox_NoFloor : PySem.W.subIn K (.ref C_NoBox) (.ref C_NoFloor) = some false)
    (kk_NoBox_NoPlace : PySem.W.subIn K (.ref C_NoBox) (.ref C_NoPlace) = some false)
    (kk_NoBox_NoCell : PySem.W.subIn K (.ref C_NoBox) (.ref C_NoCell) = some false)
    (kk_NoBox_NoSquare : PySem.W.subIn K (.ref C_NoBox) (.ref C_NoSquare) = some false)
    (kk_NoBox_NoBox : PySem.W.subIn K (.ref C_NoBox) (.ref C_NoBox) = some true)
    (kk_NoBox_NoNumber : PySem.W.subIn K (.ref C_NoBox) (.ref C_NoNumber) = some false)
    (kk_NoBox_TooMany : PySem.W.subIn K (.ref C_NoBox) (.ref C_TooMany) = some false)
    (hg_NoNumber : PySem.W.findIn K (.ref C_NoNumber) "__getattribute__" = some (some (.builtin "BaseException.__getattribute__")))
    (hk_NoNumber : PySem.W.findIn K (.ref C_NoNumber) "__getattr__" = some none)
    (hd_NoNumber : PySem.W.hasDictIn K C_NoNumber = true)
    (ha_NoNumber : PySem.W.findIn K (.ref C_NoNumber) "__class__" = some (some (.builtin "object.__class__")))
    (hm_NoNumber : PySem.W.mroIn K C_NoNumber (.type "object") = some true)
    (kv_NoNumber : PySem.W.subIn K (.ref C_NoNumber) (.type "ValueError") = some true)
    (kk_NoNumber_NoFloor : PySem.W.subIn K (.ref C_NoNumber) (.ref C_NoFloor) = some false)
    (kk_NoNumber_NoPlace : PySem.W.subIn K (.ref C_NoNumber) (.ref C_NoPlace) = some false)
    (kk_NoNumber_NoCell : PySem.W.subIn K (.ref C_NoNumber) (.ref C_NoCell) = some false)
    (kk_NoNumber_NoSquare : PySem.W.subIn K (.ref C_NoNumber) (.ref C_NoSquare) = some false)
    (kk_NoNumber_NoBox : PySem.W.subIn K (.ref C_NoNumber) (.ref C_NoBox) = some false)
    (kk_NoNumber_NoNumber : PySem.W.subIn K (.ref C_NoNumber) (.ref C_NoNumber) = some true)
    (kk_NoNumber_TooMany : PySem.W.subIn K (.ref C_NoNumber) (.ref C_TooMany) = some false)
    (hg_TooMany : PySem.W.findIn K (.ref C_TooMany) "__getattribute__" = some (some (.builtin "BaseException.__getattribute__")))
    (hk_TooMany : PySem.W.findIn K (.ref C_TooMany) "__getattr__" = some none)
    (hd_TooMany : PySem.W.hasDictIn K C_TooMany = true)
    (ha_TooMany : PySem.W.findIn K (.ref C_TooMany) "__class__" = some (some (.builtin "object.__class__")))
    (hm_TooMany : PySem.W.mroIn K C_TooMany (.type "object") = some true)
    (kv_TooMany : PySem.W.subIn K (.ref C_TooMany) (.type "ValueError") = some true)
    (kk_TooMany_NoFloor : PySem.W.subIn K (.ref C_TooMany) (.ref C_NoFloor) = some false)
    (kk_TooMany_NoPlace : PySem.W.subIn K (.ref C_TooMany) (.ref C_NoPlace) = some false)
    (kk_TooMany_NoCell : PySem.W.subIn K (.ref C_TooMany) (.ref C_NoCell) = some false)
    (kk_TooMany_NoSquare : PySem.W.subIn K (.ref C_TooMany) (.ref C_NoSquare) = some false)
    (kk_TooMany_NoBox : PySem.W.subIn K (.ref C_TooMany) (.ref C_NoBox) = some false)
    (kk_TooMany_NoNumber : PySem.W.subIn K (.ref C_TooMany) (.ref C_NoNumber) = some false)
    (kk_TooMany_TooMany : PySem.W.subIn K (.ref C_TooMany) (.ref C_TooMany) = some true)
    (g_MOST_FOLDS : PySem.W.nsIn K mainGlobals "MOST_FOLDS" = some (some (.int 60 tk_MOST_FOLDS)))
    (g_MOST_TOLD : PySem.W.nsIn K mainGlobals "MOST_TOLD" = some (some (.int 100 tk_MOST_TOLD)))
    (z_ValueError : PySem.W.nsIn K mainGlobals "ValueError" = some none)
    (z_int : PySem.W.nsIn K mainGlobals "int" = some none)
    (z_isinstance : PySem.W.nsIn K mainGlobals "isinstance" = some none)
    (z_len : PySem.W.nsIn K mainGlobals "len" = some none)
    (z_max : PySem.W.nsIn K mainGlobals "max" = some none)
    (z_min : PySem.W.nsIn K mainGlobals "min" = some none)
    (z_range : PySem.W.nsIn K mainGlobals "range" = some none)
    (z_reversed : PySem.W.nsIn K mainGlobals "reversed" = some none)
    (z_sorted : PySem.W.nsIn K mainGlobals "sorted" = some none)
    : ∃ fd : FuncData, (∀ (s : Shared) (v : Value), BindsTo s fd ⟨[v], []⟩ [("_law_script", v)]) ∧ ∀ base : Heap, K.In base → base.Ns mainGlobals mg → FnOk l.prog w K mg base CX0 8 fa fd ["_law_script"] (sp_law K) := by
  have e := hfa.symm.trans (PySem.W.mg_of X G a27)
  cases e
  refine ⟨PySem.W.fnOf "law" "law" (defArgs s_law) (defBody s_law) (defScope s_law) .none kV27 dc27 pm27 an27 cd27 ct27, fun s v => .of_eq rfl, fun base _ _ => ?_⟩
  exact ok_law (txt_of X G a0 l0 c0 k0 a1 l1 c1 k1 a2 l2 c2 k2 a3 l3 c3 k3 a4 l4 c4 k4 a5 l5 c5 k5 a6 l6 c6 k6 a7 l7 c7 k7 a8 l8 c8 k8 a9 l9 c9 k9 a10 l10 c10 k10 a11 l11 c11 k11 a12 l12 c12 k12 a13 l13 c13 k13 a14 l14 c14 k14 lt a15 l15 c15 k15 a16 l16 c16 k16 a17 l17 c17 k17 a18 l18 c18 k18 a19 l19 c19 k19 a20 l20 c20 k20 a21 l21 c21 k21 a22 l22 c22 k22 a23 l23 c23 k23 a24 l24 c24 k24 a25 l25 c25 k25 a26 l26 c26 k26 a27 l27 c27 k27 ga_WalkError x_WalkError k_WalkError r_WalkError t_WalkError i_WalkError ga_NoFloor x_NoFloor k_NoFloor r_NoFloor t_NoFloor i_NoFloor ga_NoPlace x_NoPlace k_NoPlace r_NoPlace t_NoPlace i_NoPlace ga_NoCell x_NoCell k_NoCell r_NoCell t_NoCell i_NoCell ga_NoSquare x_NoSquare k_NoSquare r_NoSquare t_NoSquare i_NoSquare ga_NoBox x_NoBox k_NoBox r_NoBox t_NoBox i_NoBox ga_NoNumber x_NoNumber k_NoNumber r_NoNumber t_NoNumber i_NoNumber ga_TooMany x_TooMany k_TooMany r_TooMany t_TooMany i_TooMany s_NoFloor_WalkError s_NoPlace_WalkError s_NoCell_WalkError s_NoSquare_WalkError s_NoBox_WalkError s_NoNumber_WalkError s_TooMany_WalkError hdW gn gt hg_NoFloor hk_NoFloor hd_NoFloor ha_NoFloor hm_NoFloor kv_NoFloor kk_NoFloor_NoFloor kk_NoFloor_NoPlace kk_NoFloor_NoCell kk_NoFloor_NoSquare kk_NoFloor_NoBox kk_NoFloor_NoNumber kk_NoFloor_TooMany hg_NoPlace hk_NoPlace hd_NoPlace ha_NoPlace hm_NoPlace kv_NoPlace kk_NoPlace_NoFloor kk_NoPlace_NoPlace kk_NoPlace_NoCell kk_NoPlace_NoSquare kk_NoPlace_NoBox kk_NoPlace_NoNumber kk_NoPlace_TooMany hg_NoCell hk_NoCell hd_NoCell ha_NoCell hm_NoCell kv_NoCell kk_NoCell_NoFloor kk_NoCell_NoPlace kk_NoCell_NoCell kk_NoCell_NoSquare kk_NoCell_NoBox kk_NoCell_NoNumber kk_NoCell_TooMany hg_NoSquare hk_NoSquare hd_NoSquare ha_NoSquare hm_NoSquare kv_NoSquare kk_NoSquare_NoFloor kk_NoSquare_NoPlace kk_NoSquare_NoCell kk_NoSquare_NoSquare kk_NoSquare_NoBox kk_NoSquare_NoNumber kk_NoSquare_TooMany hg_NoBox hk_NoBox hd_NoBox ha_NoBox hm_NoBox kv_NoBox kk_NoBox_NoFloor kk_NoBox_NoPlace kk_NoBox_NoCell kk_NoBox_NoSquare kk_NoBox_NoBox kk_NoBox_NoNumber kk_NoBox_TooMany hg_NoNumber hk_NoNumber hd_NoNumber ha_NoNumber hm_NoNumber kv_NoNumber kk_NoNumber_NoFloor kk_NoNumber_NoPlace kk_NoNumber_NoCell kk_NoNumber_NoSquare kk_NoNumber_NoBox kk_NoNumber_NoNumber kk_NoNumber_TooMany hg_TooMany hk_TooMany hd_TooMany ha_TooMany hm_TooMany kv_TooMany kk_TooMany_NoFloor kk_TooMany_NoPlace kk_TooMany_NoCell kk_TooMany_NoSquare kk_TooMany_NoBox kk_TooMany_NoNumber kk_TooMany_TooMany g_MOST_FOLDS g_MOST_TOLD z_ValueError z_int z_isinstance z_len z_max z_min z_range z_reversed z_sorted)
end Fw
open PySem PySem.W PyProof.Rows
set_option maxRecDepth 100000 in
set_option maxHeartbeats 0 in
theorem PySem.Challenge.cw_foldwalk_k08_refused_holds : PySem.Challenge.rw_foldwalk_k08_refused.Holds := by
  w_on; o_law; k_head; (case hw => w_witness2)
  k_fill
  refine L2.walk_ofB (l := PySem.Challenge.rw_foldwalk_k08_refused) (n := 63) (k := 8) (x := "_law_script") (CX := fun _ => L2.CX0) (sp := fun w => Fw.sp_law _) rfl (by decide) rfl ⟨rfl, by decide, by decide⟩ (fun w h Y => PySem.W.kIn_of Y) ?F (fun _ _ a ns hl hb _ hS => ⟨a, ns, rfl, hS, hl, hb, fun _ => rfl⟩) (fun _ _ _ _ _ h => h)
  case F =>
    intro w mg fa h KX G hmg
    refine' Fw.all_mk KX G hmg ?a0 ?l0 ?c0 ?k0 ?a1 ?l1 ?c1 ?k1 ?a2 ?l2 ?c2 ?k2 ?a3 ?l3 ?c3 ?k3 ?a4 ?l4 ?c4 ?k4 ?a5 ?l5 ?c5 ?k5 ?a6 ?l6 ?c6 ?k6 ?a7 ?l7 ?c7 ?k7 ?a8 ?l8 ?c8 ?k8 ?a9 ?l9 ?c9 ?k9 ?a10 ?l10 ?c10 ?k10 ?a11 ?l11 ?c11 ?k11 ?a12 ?l12 ?c12 ?k12 ?a13 ?l13 ?c13 ?k13 ?a14 ?l14 ?c14 ?k14 ?lt ?a15 ?l15 ?c15 ?k15 ?a16 ?l16 ?c16 ?k16 ?a17 ?l17 ?c17 ?k17 ?a18 ?l18 ?c18 ?k18 ?a19 ?l19 ?c19 ?k19 ?a20 ?l20 ?c20 ?k20 ?a21 ?l21 ?c21 ?k21 ?a22 ?l22 ?c22 ?k22 ?a23 ?l23 ?c23 ?k23 ?a24 ?l24 ?c24 ?k24 ?a25 ?l25 ?c25 ?k25 ?a26 ?l26 ?c26 ?k26 ?a27 ?l27 ?c27 ?k27 ?ga_WalkError ?x_WalkError ?k_WalkError ?r_WalkError ?t_WalkError ?i_WalkError ?ga_NoFloor ?x_NoFloor ?k_NoFloor ?r_NoFloor ?t_NoFloor ?i_NoFloor ?ga_NoPlace ?x_NoPlace ?k_NoPlace ?r_NoPlace ?t_NoPlace ?i_NoPlace ?ga_NoCell ?x_NoCell ?k_NoCell ?r_NoCell ?t_NoCell ?i_NoCell ?ga_NoSquare ?x_NoSquare ?k_NoSquare ?r_NoSquare ?t_NoSquare ?i_NoSquare ?ga_NoBox ?x_NoBox ?k_NoBox ?r_NoBox ?t_NoBox ?i_NoBox ?ga_NoNumber ?x_NoNumber ?k_NoNumber ?r_NoNumber ?t_NoNumber ?i_NoNumber ?ga_TooMany ?x_TooMany ?k_TooMany ?r_TooMany ?t_TooMany ?i_TooMany ?s_NoFloor_WalkError ?s_NoPlace_WalkError ?s_NoCell_WalkError ?s_NoSquare_WalkError ?s_NoBox_WalkError ?s_NoNumber_WalkError ?s_TooMany_WalkError ?hdW ?gn ?gt ?hg_NoFloor ?hk_NoFloor ?hd_NoFloor ?ha_NoFloor ?hm_NoFloor ?kv_NoFloor ?kk_NoFloor_NoFloor ?kk_NoFloor_NoPlace ?kk_NoFloor_NoCell ?kk_NoFloor_NoSquare ?kk_NoFloor_NoBox ?kk_NoFloor_NoNumber ?kk_NoFloor_TooMany ?hg_NoPlace ?hk_NoPlace ?hd_NoPlace ?ha_NoPlace ?hm_NoPlace ?kv_NoPlace ?kk_NoPlace_NoFloor ?kk_NoPlace_NoPlace ?kk_NoPlace_NoCell ?kk_NoPlace_NoSquare ?kk_NoPlace_NoBox ?kk_NoPlace_NoNumber ?kk_NoPlace_TooMany ?hg_NoCell ?hk_NoCell ?hd_NoCell ?ha_NoCell ?hm_NoCell ?kv_NoCell ?kk_NoCell_NoFloor ?kk_NoCell_NoPlace ?kk_NoCell_NoCell ?kk_NoCell_NoSquare ?kk_NoCell_NoBox ?kk_NoCell_NoNumber ?kk_NoCell_TooMany ?hg_NoSquare ?hk_NoSquare ?hd_NoSquare ?ha_NoSquare ?hm_NoSquare ?kv_NoSquare ?kk_NoSquare_NoFloor ?kk_NoSquare_NoPlace ?kk_NoSquare_NoCell ?kk_NoSquare_NoSquare ?kk_NoSquare_NoBox ?kk_NoSquare_NoNumber ?kk_NoSquare_TooMany ?hg_NoBox ?hk_NoBox ?hd_NoBox ?ha_NoBox ?hm_NoBox ?kv_NoBox ?kk_NoBox_NoFloor ?kk_NoBox_NoPlace ?kk_NoBox_NoCell ?kk_NoBox_NoSquare ?kk_NoBox_NoBox ?kk_NoBox_NoNumber ?kk_NoBox_TooMany ?hg_NoNumber ?hk_NoNumber ?hd_NoNumber ?ha_NoNumber ?hm_NoNumber ?kv_NoNumber ?kk_NoNumber_NoFloor ?kk_NoNumber_NoPlace ?kk_NoNumber_NoCell ?kk_NoNumber_NoSquare ?kk_NoNumber_NoBox ?kk_NoNumber_NoNumber ?kk_NoNumber_TooMany ?hg_TooMany ?hk_TooMany ?hd_TooMany ?ha_TooMany ?hm_TooMany ?kv_TooMany ?kk_TooMany_NoFloor ?kk_TooMany_NoPlace ?kk_TooMany_NoCell ?kk_TooMany_NoSquare ?kk_TooMany_NoBox ?kk_TooMany_NoNumber ?kk_TooMany_TooMany ?g_MOST_FOLDS ?g_MOST_TOLD ?z_ValueError ?z_int ?z_isinstance ?z_len ?z_max ?z_min ?z_range ?z_reversed ?z_sorted
    (case a0 => k_is)
    (case l0 => k_is)
    (case c0 => k_is)
    (case k0 => k_is)
    (case a1 => k_is)
    (case l1 => k_is)
    (case c1 => k_is)
    (case k1 => k_is)
    (case a2 => k_is)
    (case l2 => k_is)
    (case c2 => k_is)
    (case k2 => k_is)
    (case a3 => k_is)
    (case l3 => k_is)
    (case c3 => k_is)
    (case k3 => k_is)
    (case a4 => k_is)
    (case l4 => k_is)
    (case c4 => k_is)
    (case k4 => k_is)
    (case a5 => k_is)
    (case l5 => k_is)
    (case c5 => k_is)
    (case k5 => k_is)
    (case a6 => k_is)
    (case l6 => k_is)
    (case c6 => k_is)
    (case k6 => k_is)
    (case a7 => k_is)
    (case l7 => k_is)
    (case c7 => k_is)
    (case k7 => k_is)
    (case a8 => k_is)
    (case l8 => k_is)
    (case c8 => k_is)
    (case k8 => k_is)
    (case a9 => k_is)
    (case l9 => k_is)
    (case c9 => k_is)
    (case k9 => k_is)
    (case a10 => k_is)
    (case l10 => k_is)
    (case c10 => k_is)
    (case k10 => k_is)
    (case a11 => k_is)
    (case l11 => k_is)
    (case c11 => k_is)
    (case k11 => k_is)
    (case a12 => k_is)
    (case l12 => k_is)
    (case c12 => k_is)
    (case k12 => k_is)
    (case a13 => k_is)
    (case l13 => k_is)
    (case c13 => k_is)
    (case k13 => k_is)
    (case a14 => k_is)
    (case l14 => k_is)
    (case c14 => k_is)
    (case k14 => k_is)
    (case lt => k_is)
    (case a15 => k_is)
    (case l15 => k_is)
    (case c15 => k_is)
    (case k15 => k_is)
    (case a16 => k_is)
    (case l16 => k_is)
    (case c16 => k_is)
    (case k16 => k_is)
    (case a17 => k_is)
    (case l17 => k_is)
    (case c17 => k_is)
    (case k17 => k_is)
    (case a18 => k_is)
    (case l18 => k_is)
    (case c18 => k_is)
    (case k18 => k_is)
    (case a19 => k_is)
    (case l19 => k_is)
    (case c19 => k_is)
    (case k19 => k_is)
    (case a20 => k_is)
    (case l20 => k_is)
    (case c20 => k_is)
    (case k20 => k_is)
    (case a21 => k_is)
    (case l21 => k_is)
    (case c21 => k_is)
    (case k21 => k_is)
    (case a22 => k_is)
    (case l22 => k_is)
    (case c22 => k_is)
    (case k22 => k_is)
    (case a23 => k_is)
    (case l23 => k_is)
    (case c23 => k_is)
    (case k23 => k_is)
    (case a24 => k_is)
    (case l24 => k_is)
    (case c24 => k_is)
    (case k24 => k_is)
    (case a25 => k_is)
    (case l25 => k_is)
    (case c25 => k_is)
    (case k25 => k_is)
    (case a26 => k_is)
    (case l26 => k_is)
    (case c26 => k_is)
    (case k26 => k_is)
    (case a27 => k_is)
    (case l27 => k_is)
    (case c27 => k_is)
    (case k27 => k_is)
    (case ga_WalkError => k_is)
    (case x_WalkError => k_exc)
    (case k_WalkError => k_is)
    (case r_WalkError => k_is)
    (case t_WalkError => k_is)
    (case i_WalkError => k_is)
    (case ga_NoFloor => k_is)
    (case x_NoFloor => k_exc)
    (case k_NoFloor => k_is)
    (case r_NoFloor => k_is)
    (case t_NoFloor => k_is)
    (case i_NoFloor => k_is)
    (case ga_NoPlace => k_is)
    (case x_NoPlace => k_exc)
    (case k_NoPlace => k_is)
    (case r_NoPlace => k_is)
    (case t_NoPlace => k_is)
    (case i_NoPlace => k_is)
    (case ga_NoCell => k_is)
    (case x_NoCell => k_exc)
    (case k_NoCell => k_is)
    (case r_NoCell => k_is)
    (case t_NoCell => k_is)
    (case i_NoCell => k_is)
    (case ga_NoSquare => k_is)
    (case x_NoSquare => k_exc)
    (case k_NoSquare => k_is)
    (case r_NoSquare => k_is)
    (case t_NoSquare => k_is)
    (case i_NoSquare => k_is)
    (case ga_NoBox => k_is)
    (case x_NoBox => k_exc)
    (case k_NoBox => k_is)
    (case r_NoBox => k_is)
    (case t_NoBox => k_is)
    (case i_NoBox => k_is)
    (case ga_NoNumber => k_is)
    (case x_NoNumber => k_exc)
    (case k_NoNumber => k_is)
    (case r_NoNumber => k_is)
    (case t_NoNumber => k_is)
    (case i_NoNumber => k_is)
    (case ga_TooMany => k_is)
    (case x_TooMany => k_exc)
    (case k_TooMany => k_is)
    (case r_TooMany => k_is)
    (case t_TooMany => k_is)
    (case i_TooMany => k_is)
    (case s_NoFloor_WalkError => first | rfl | k_is)
    (case s_NoPlace_WalkError => first | rfl | k_is)
    (case s_NoCell_WalkError => first | rfl | k_is)
    (case s_NoSquare_WalkError => first | rfl | k_is)
    (case s_NoBox_WalkError => first | rfl | k_is)
    (case s_NoNumber_WalkError => first | rfl | k_is)
    (case s_TooMany_WalkError => first | rfl | k_is)
    (case hdW => k_is)
    (case gn => k_is)
    (case gt => k_is)
    (case hg_NoFloor => k_is)
    (case hk_NoFloor => k_is)
    (case hd_NoFloor => k_is)
    (case ha_NoFloor => k_is)
    (case hm_NoFloor => k_is)
    (case kv_NoFloor => k_is)
    (case kk_NoFloor_NoFloor => first | rfl | k_is)
    (case kk_NoFloor_NoPlace => first | rfl | k_is)
    (case kk_NoFloor_NoCell => first | rfl | k_is)
    (case kk_NoFloor_NoSquare => first | rfl | k_is)
    (case kk_NoFloor_NoBox => first | rfl | k_is)
    (case kk_NoFloor_NoNumber => first | rfl | k_is)
    (case kk_NoFloor_TooMany => first | rfl | k_is)
    (case hg_NoPlace => k_is)
    (case hk_NoPlace => k_is)
    (case hd_NoPlace => k_is)
    (case ha_NoPlace => k_is)
    (case hm_NoPlace => k_is)
    (case kv_NoPlace => k_is)
    (case kk_NoPlace_NoFloor => first | rfl | k_is)
    (case kk_NoPlace_NoPlace => first | rfl | k_is)
    (case kk_NoPlace_NoCell => first | rfl | k_is)
    (case kk_NoPlace_NoSquare => first | rfl | k_is)
    (case kk_NoPlace_NoBox => first | rfl | k_is)
    (case kk_NoPlace_NoNumber => first | rfl | k_is)
    (case kk_NoPlace_TooMany => first | rfl | k_is)
    (case hg_NoCell => k_is)
    (case hk_NoCell => k_is)
    (case hd_NoCell => k_is)
    (case ha_NoCell => k_is)
    (case hm_NoCell => k_is)
    (case kv_NoCell => k_is)
    (case kk_NoCell_NoFloor => first | rfl | k_is)
    (case kk_NoCell_NoPlace => first | rfl | k_is)
    (case kk_NoCell_NoCell => first | rfl | k_is)
    (case kk_NoCell_NoSquare => first | rfl | k_is)
    (case kk_NoCell_NoBox => first | rfl | k_is)
    (case kk_NoCell_NoNumber => first | rfl | k_is)
    (case kk_NoCell_TooMany => first | rfl | k_is)
    (case hg_NoSquare => k_is)
    (case hk_NoSquare => k_is)
    (case hd_NoSquare => k_is)
    (case ha_NoSquare => k_is)
    (case hm_NoSquare => k_is)
    (case kv_NoSquare => k_is)
    (case kk_NoSquare_NoFloor => first | rfl | k_is)
    (case kk_NoSquare_NoPlace => first | rfl | k_is)
    (case kk_NoSquare_NoCell => first | rfl | k_is)
    (case kk_NoSquare_NoSquare => first | rfl | k_is)
    (case kk_NoSquare_NoBox => first | rfl | k_is)
    (case kk_NoSquare_NoNumber => first | rfl | k_is)
    (case kk_NoSquare_TooMany => first | rfl | k_is)
    (case hg_NoBox => k_is)
    (case hk_NoBox => k_is)
    (case hd_NoBox => k_is)
    (case ha_NoBox => k_is)
    (case hm_NoBox => k_is)
    (case kv_NoBox => k_is)
    (case kk_NoBox_NoFloor => first | rfl | k_is)
    (case kk_NoBox_NoPlace => first | rfl | k_is)
    (case kk_NoBox_NoCell => first | rfl | k_is)
    (case kk_NoBox_NoSquare => first | rfl | k_is)
    (case kk_NoBox_NoBox => first | rfl | k_is)
    (case kk_NoBox_NoNumber => first | rfl | k_is)
    (case kk_NoBox_TooMany => first | rfl | k_is)
    (case hg_NoNumber => k_is)
    (case hk_NoNumber => k_is)
    (case hd_NoNumber => k_is)
    (case ha_NoNumber => k_is)
    (case hm_NoNumber => k_is)
    (case kv_NoNumber => k_is)
    (case kk_NoNumber_NoFloor => first | rfl | k_is)
    (case kk_NoNumber_NoPlace => first | rfl | k_is)
    (case kk_NoNumber_NoCell => first | rfl | k_is)
    (case kk_NoNumber_NoSquare => first | rfl | k_is)
    (case kk_NoNumber_NoBox => first | rfl | k_is)
    (case kk_NoNumber_NoNumber => first | rfl | k_is)
    (case kk_NoNumber_TooMany => first | rfl | k_is)
    (case hg_TooMany => k_is)
    (case hk_TooMany => k_is)
    (case hd_TooMany => k_is)
    (case ha_TooMany => k_is)
    (case hm_TooMany => k_is)
    (case kv_TooMany => k_is)
    (case kk_TooMany_NoFloor => first | rfl | k_is)
    (case kk_TooMany_NoPlace => first | rfl | k_is)
    (case kk_TooMany_NoCell => first | rfl | k_is)
    (case kk_TooMany_NoSquare => first | rfl | k_is)
    (case kk_TooMany_NoBox => first | rfl | k_is)
    (case kk_TooMany_NoNumber => first | rfl | k_is)
    (case kk_TooMany_TooMany => first | rfl | k_is)
    (case g_MOST_FOLDS => k_is)
    (case g_MOST_TOLD => k_is)
    (case z_ValueError => k_is)
    (case z_int => k_is)
    (case z_isinstance => k_is)
    (case z_len => k_is)
    (case z_max => k_is)
    (case z_min => k_is)
    (case z_range => k_is)
    (case z_reversed => k_is)
    (case z_sorted => k_is)
#print axioms PySem.Challenge.cw_foldwalk_k08_refused_holds
