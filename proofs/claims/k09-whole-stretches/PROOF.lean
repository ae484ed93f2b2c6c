import PyProof.Rows.All
import Wide.All
import OpenK.AllK
import Wide.FinOn
import PySem.Challenge.RW_foldwalk_k09_whole_stretches
import HandS.ForMost
import HandS.ForExc
import HandS.EndBits
import HandS.WideBits
import HandS.RevRange
import HandS.IsInst
import HandS.Defaults
import HandS.Evl
import HandS.CallSlots
import HandS.ExcIs
set_option Elab.async false
set_option linter.all false
set_option maxRecDepth 100000
set_option maxHeartbeats 4000000
/-! The walk in plain Lean: its cells, its places, its squares, its counts. -/
namespace Fw

/-! ### quarters -/
def rt (d : Nat) : Nat := if d = 2 ∨ d = 3 then 1 else 0
def ut (d : Nat) : Nat := if d = 1 ∨ d = 2 then 1 else 0
def flip (t : Bool) (a : Nat) : Nat := if t then 1 - a else a
def qx (d : Nat) (s t : Bool) : Nat := flip t (if s then ut d else rt d)
def qy (d : Nat) (s t : Bool) : Nat := flip t (if s then rt d else ut d)
def fs (d : Nat) (s : Bool) : Bool := if d = 0 ∨ d = 3 then !s else s
def ft (d : Nat) (t : Bool) : Bool := if d = 3 then !t else t
/-- the turn in a quarter -/
def td (a b : Nat) (s t : Bool) : Nat :=
  let r := flip t (if s then b else a)
  let u := flip t (if s then a else b)
  2 * r + (if r = u then 0 else 1)

theorem d4 {d : Nat} (h : d < 4) : d = 0 ∨ d = 1 ∨ d = 2 ∨ d = 3 := by omega
theorem d2 {d : Nat} (h : d < 2) : d = 0 ∨ d = 1 := by omega

theorem qx_le {d : Nat} (s t : Bool) (h : d < 4) : qx d s t ≤ 1 := by
  rcases d4 h with rfl | rfl | rfl | rfl <;> cases s <;> cases t <;> decide
theorem qy_le {d : Nat} (s t : Bool) (h : d < 4) : qy d s t ≤ 1 := by
  rcases d4 h with rfl | rfl | rfl | rfl <;> cases s <;> cases t <;> decide
theorem qx_swap (d : Nat) (s t : Bool) : qx d (!s) t = qy d s t := by cases s <;> rfl
theorem qy_swap (d : Nat) (s t : Bool) : qy d (!s) t = qx d s t := by cases s <;> rfl
theorem qx_turn {d : Nat} (s t : Bool) (h : d < 4) : qx d s (!t) + qx d s t = 1 := by
  rcases d4 h with rfl | rfl | rfl | rfl <;> cases s <;> cases t <;> decide
theorem qy_turn {d : Nat} (s t : Bool) (h : d < 4) : qy d s (!t) + qy d s t = 1 := by
  rcases d4 h with rfl | rfl | rfl | rfl <;> cases s <;> cases t <;> decide
theorem fs_not (d : Nat) (s : Bool) : fs d (!s) = !(fs d s) := by unfold fs; split <;> rfl
theorem ft_not (d : Nat) (s : Bool) : ft d (!s) = !(ft d s) := by unfold ft; split <;> rfl
theorem td_lt {a b : Nat} (s t : Bool) (ha : a < 2) (hb : b < 2) : td a b s t < 4 := by
  rcases d2 ha with rfl | rfl <;> rcases d2 hb with rfl | rfl <;> cases s <;> cases t <;> decide
theorem td_q {d : Nat} (s t : Bool) (h : d < 4) : td (qx d s t) (qy d s t) s t = d := by
  rcases d4 h with rfl | rfl | rfl | rfl <;> cases s <;> cases t <;> decide
theorem qx_td {a b : Nat} (s t : Bool) (ha : a < 2) (hb : b < 2) : qx (td a b s t) s t = a := by
  rcases d2 ha with rfl | rfl <;> rcases d2 hb with rfl | rfl <;> cases s <;> cases t <;> decide
theorem qy_td {a b : Nat} (s t : Bool) (ha : a < 2) (hb : b < 2) : qy (td a b s t) s t = b := by
  rcases d2 ha with rfl | rfl <;> rcases d2 hb with rfl | rfl <;> cases s <;> cases t <;> decide

theorem p4 (n : Nat) : 0 < 4 ^ n := Nat.pow_pos (by decide)
theorem p2 (n : Nat) : 0 < 2 ^ n := Nat.pow_pos (by decide)
theorem s4 (n : Nat) : 4 ^ (n + 1) = 4 * 4 ^ n := by rw [Nat.pow_succ, Nat.mul_comm]
theorem s2 (n : Nat) : 2 ^ (n + 1) = 2 * 2 ^ n := by rw [Nat.pow_succ, Nat.mul_comm]
theorem sq4 (n : Nat) : 2 ^ n * 2 ^ n = 4 ^ n := by
  rw [← Nat.mul_pow]
theorem lt4 (p : Nat) : p % 4 < 4 := Nat.mod_lt _ (by decide)

/-! ### the walk -/
def WX : Nat → Bool → Bool → Nat → Nat
  | 0, _, _, _ => 0
  | n + 1, s, t, p => qx (p / 4 ^ n % 4) s t * 2 ^ n + WX n (fs (p / 4 ^ n % 4) s) (ft (p / 4 ^ n % 4) t) (p % 4 ^ n)
def WY : Nat → Bool → Bool → Nat → Nat
  | 0, _, _, _ => 0
  | n + 1, s, t, p => qy (p / 4 ^ n % 4) s t * 2 ^ n + WY n (fs (p / 4 ^ n % 4) s) (ft (p / 4 ^ n % 4) t) (p % 4 ^ n)
abbrev cx (n p : Nat) : Nat := WX n false false p
abbrev cy (n p : Nat) : Nat := WY n false false p

theorem wx_lt : ∀ (n : Nat) (s t : Bool) (p : Nat), WX n s t p < 2 ^ n
  | 0, _, _, _ => by show 0 < 1; decide
  | n + 1, s, t, p => by
    have ih := wx_lt n (fs (p / 4 ^ n % 4) s) (ft (p / 4 ^ n % 4) t) (p % 4 ^ n)
    have hq := qx_le s t (lt4 (p / 4 ^ n))
    rw [s2, WX]
    have := Nat.mul_le_mul_right (2 ^ n) hq
    omega
theorem wy_lt : ∀ (n : Nat) (s t : Bool) (p : Nat), WY n s t p < 2 ^ n
  | 0, _, _, _ => by show 0 < 1; decide
  | n + 1, s, t, p => by
    have ih := wy_lt n (fs (p / 4 ^ n % 4) s) (ft (p / 4 ^ n % 4) t) (p % 4 ^ n)
    have hq := qy_le s t (lt4 (p / 4 ^ n))
    rw [s2, WY]
    have := Nat.mul_le_mul_right (2 ^ n) hq
    omega
theorem wx_swap : ∀ (n : Nat) (s t : Bool) (p : Nat), WX n (!s) t p = WY n s t p
  | 0, _, _, _ => rfl
  | n + 1, s, t, p => by rw [WX, WY, qx_swap, fs_not, wx_swap n]
theorem wy_swap : ∀ (n : Nat) (s t : Bool) (p : Nat), WY n (!s) t p = WX n s t p
  | 0, _, _, _ => rfl
  | n + 1, s, t, p => by rw [WX, WY, qy_swap, fs_not, wy_swap n]
theorem wx_turn : ∀ (n : Nat) (s t : Bool) (p : Nat), WX n s (!t) p + WX n s t p + 1 = 2 ^ n
  | 0, _, _, _ => rfl
  | n + 1, s, t, p => by
    rw [WX, WX, ft_not]
    have ih := wx_turn n (fs (p / 4 ^ n % 4) s) (ft (p / 4 ^ n % 4) t) (p % 4 ^ n)
    have hq := qx_turn s t (lt4 (p / 4 ^ n))
    have e : (qx (p / 4 ^ n % 4) s (!t) + qx (p / 4 ^ n % 4) s t) * 2 ^ n = 2 ^ n := by rw [hq, Nat.one_mul]
    rw [Nat.add_mul] at e
    rw [s2]
    omega
theorem wy_turn : ∀ (n : Nat) (s t : Bool) (p : Nat), WY n s (!t) p + WY n s t p + 1 = 2 ^ n
  | 0, _, _, _ => rfl
  | n + 1, s, t, p => by
    rw [WY, WY, ft_not]
    have ih := wy_turn n (fs (p / 4 ^ n % 4) s) (ft (p / 4 ^ n % 4) t) (p % 4 ^ n)
    have hq := qy_turn s t (lt4 (p / 4 ^ n))
    have e : (qy (p / 4 ^ n % 4) s (!t) + qy (p / 4 ^ n % 4) s t) * 2 ^ n = 2 ^ n := by rw [hq, Nat.one_mul]
    rw [Nat.add_mul] at e
    rw [s2]
    omega

/-! ### digits -/
theorem dig {n q r : Nat} (hq : q < 4) (hr : r < 4 ^ n) : (q * 4 ^ n + r) / 4 ^ n % 4 = q ∧ (q * 4 ^ n + r) % 4 ^ n = r := by
  have e : (q * 4 ^ n + r) / 4 ^ n = q := by
    rw [Nat.add_comm, Nat.add_mul_div_right _ _ (p4 n), Nat.div_eq_of_lt hr, Nat.zero_add]
  refine ⟨by rw [e, Nat.mod_eq_of_lt hq], ?_⟩
  rw [Nat.add_comm, Nat.add_mul_mod_self_right, Nat.mod_eq_of_lt hr]
theorem undig {n p : Nat} (hp : p < 4 ^ (n + 1)) : ∃ q r, q < 4 ∧ r < 4 ^ n ∧ p = q * 4 ^ n + r := by
  refine ⟨p / 4 ^ n, p % 4 ^ n, ?_, Nat.mod_lt _ (p4 n), ?_⟩
  · rw [Nat.div_lt_iff_lt_mul (p4 n), ← s4]; exact hp
  · rw [Nat.mul_comm]; exact (Nat.div_add_mod p (4 ^ n)).symm
theorem wx_dig {n q r : Nat} (s t : Bool) (hq : q < 4) (hr : r < 4 ^ n) : WX (n + 1) s t (q * 4 ^ n + r) = qx q s t * 2 ^ n + WX n (fs q s) (ft q t) r := by
  obtain ⟨e1, e2⟩ := dig hq hr
  rw [WX, e1, e2]
theorem wy_dig {n q r : Nat} (s t : Bool) (hq : q < 4) (hr : r < 4 ^ n) : WY (n + 1) s t (q * 4 ^ n + r) = qy q s t * 2 ^ n + WY n (fs q s) (ft q t) r := by
  obtain ⟨e1, e2⟩ := dig hq hr
  rw [WY, e1, e2]

/-! ### one fold more -/
theorem fold0 {n p : Nat} (h : p < 4 ^ n) : cx (n + 1) p = cy n p ∧ cy (n + 1) p = cx n p := by
  have a := wx_dig (q := 0) false false (by decide) h
  have b := wy_dig (q := 0) false false (by decide) h
  rw [Nat.zero_mul, Nat.zero_add] at a b
  have e1 := wx_swap n false false p
  have e2 := wy_swap n false false p
  refine ⟨?_, ?_⟩
  · show WX (n + 1) false false p = WY n false false p
    rw [a, show qx 0 false false = 0 from rfl, show fs 0 false = !false from rfl, show ft 0 false = false from rfl, e1]; omega
  · show WY (n + 1) false false p = WX n false false p
    rw [b, show qy 0 false false = 0 from rfl, show fs 0 false = !false from rfl, show ft 0 false = false from rfl, e2]; omega
theorem fold1 {n p : Nat} (h : p < 4 ^ n) : cx (n + 1) (1 * 4 ^ n + p) = cx n p ∧ cy (n + 1) (1 * 4 ^ n + p) = cy n p + 2 ^ n := by
  have a := wx_dig (q := 1) false false (by decide) h
  have b := wy_dig (q := 1) false false (by decide) h
  refine ⟨?_, ?_⟩
  · show WX (n + 1) false false _ = WX n false false p
    rw [a, show qx 1 false false = 0 from rfl, show fs 1 false = false from rfl, show ft 1 false = false from rfl]; omega
  · show WY (n + 1) false false _ = WY n false false p + 2 ^ n
    rw [b, show qy 1 false false = 1 from rfl, show fs 1 false = false from rfl, show ft 1 false = false from rfl]; omega
theorem fold2 {n p : Nat} (h : p < 4 ^ n) : cx (n + 1) (2 * 4 ^ n + p) = cx n p + 2 ^ n ∧ cy (n + 1) (2 * 4 ^ n + p) = cy n p + 2 ^ n := by
  have a := wx_dig (q := 2) false false (by decide) h
  have b := wy_dig (q := 2) false false (by decide) h
  refine ⟨?_, ?_⟩
  · show WX (n + 1) false false _ = WX n false false p + 2 ^ n
    rw [a, show qx 2 false false = 1 from rfl, show fs 2 false = false from rfl, show ft 2 false = false from rfl]; omega
  · show WY (n + 1) false false _ = WY n false false p + 2 ^ n
    rw [b, show qy 2 false false = 1 from rfl, show fs 2 false = false from rfl, show ft 2 false = false from rfl]; omega
theorem fold3 {n p : Nat} (h : p < 4 ^ n) : cx (n + 1) (3 * 4 ^ n + p) + 1 + cy n p = 2 * 2 ^ n ∧ cy (n + 1) (3 * 4 ^ n + p) + 1 + cx n p = 2 ^ n := by
  have a := wx_dig (q := 3) false false (by decide) h
  have b := wy_dig (q := 3) false false (by decide) h
  have e1 := wx_swap n false (!false) p
  have e2 := wy_swap n false (!false) p
  have e3 := wy_turn n false false p
  have e4 := wx_turn n false false p
  refine ⟨?_, ?_⟩
  · show WX (n + 1) false false _ + 1 + WY n false false p = _
    rw [a, show qx 3 false false = 1 from rfl, show fs 3 false = !false from rfl, show ft 3 false = !false from rfl, e1]; omega
  · show WY (n + 1) false false _ + 1 + WX n false false p = _
    rw [b, show qy 3 false false = 0 from rfl, show fs 3 false = !false from rfl, show ft 3 false = !false from rfl, e2]; omega
/-- a place of a floor of n + 1 folds, by its quarter -/
theorem quart {n : Nat} {M : Nat → Prop} (h0 : ∀ r, r < 4 ^ n → M r) (h1 : ∀ r, r < 4 ^ n → M (1 * 4 ^ n + r)) (h2 : ∀ r, r < 4 ^ n → M (2 * 4 ^ n + r)) (h3 : ∀ r, r < 4 ^ n → M (3 * 4 ^ n + r)) :
    ∀ p, p < 4 ^ (n + 1) → M p := fun p hp => by
  obtain ⟨q, r, hq, hr, rfl⟩ := undig hp
  rcases d4 hq with rfl | rfl | rfl | rfl
  · rw [Nat.zero_mul, Nat.zero_add]; exact h0 r hr
  · exact h1 r hr
  · exact h2 r hr
  · exact h3 r hr

theorem cx_zero : ∀ n, cx n 0 = 0 ∧ cy n 0 = 0
  | 0 => ⟨rfl, rfl⟩
  | n + 1 => by
    obtain ⟨a, b⟩ := cx_zero n
    obtain ⟨c, d⟩ := fold0 (p4 n)
    exact ⟨c.trans b, d.trans a⟩
theorem cx_last : ∀ n, cx n (4 ^ n - 1) + 1 = 2 ^ n ∧ cy n (4 ^ n - 1) = 0
  | 0 => ⟨rfl, rfl⟩
  | n + 1 => by
    obtain ⟨a, b⟩ := cx_last n
    have h4 := p4 n
    obtain ⟨c, d⟩ := fold3 (n := n) (p := 4 ^ n - 1) (by omega)
    have e : 4 ^ (n + 1) - 1 = 3 * 4 ^ n + (4 ^ n - 1) := by rw [s4]; omega
    rw [e, s2]
    omega
theorem even_sides (n : Nat) : (2 ^ n + 4 ^ n) % 2 = 0 := by
  cases n with
  | zero => rfl
  | succ n => rw [s2, s4]; omega
theorem parity : ∀ n p, p < 4 ^ n → (cx n p + cy n p + p) % 2 = 0
  | 0, p, h => by
    have : p = 0 := by have : (4 : Nat) ^ 0 = 1 := rfl; omega
    subst this; rfl
  | n + 1, p, h => by
    have ih := parity n
    have ev := even_sides n
    refine quart (M := fun p => (cx (n + 1) p + cy (n + 1) p + p) % 2 = 0) ?_ ?_ ?_ ?_ p h
    · intro r hr
      obtain ⟨a, b⟩ := fold0 hr
      have := ih r hr
      rw [a, b]; omega
    · intro r hr
      obtain ⟨a, b⟩ := fold1 hr
      have := ih r hr
      rw [a, b]; omega
    · intro r hr
      obtain ⟨a, b⟩ := fold2 hr
      have := ih r hr
      rw [a, b]; omega
    · intro r hr
      obtain ⟨a, b⟩ := fold3 hr
      have := ih r hr
      omega
theorem mirror : ∀ n p, p < 4 ^ n → cx n (4 ^ n - 1 - p) + 1 + cx n p = 2 ^ n ∧ cy n (4 ^ n - 1 - p) = cy n p
  | 0, p, h => ⟨rfl, rfl⟩
  | n + 1, p, h => by
    have ih := mirror n
    have h4 := p4 n
    refine quart (M := fun p => cx (n + 1) (4 ^ (n + 1) - 1 - p) + 1 + cx (n + 1) p = 2 ^ (n + 1) ∧ cy (n + 1) (4 ^ (n + 1) - 1 - p) = cy (n + 1) p) ?_ ?_ ?_ ?_ p h
    · intro r hr
      have e : 4 ^ (n + 1) - 1 - r = 3 * 4 ^ n + (4 ^ n - 1 - r) := by rw [s4]; omega
      obtain ⟨a, b⟩ := fold0 hr
      obtain ⟨c, d⟩ := fold3 (n := n) (p := 4 ^ n - 1 - r) (by omega)
      obtain ⟨i, j⟩ := ih r hr
      rw [e, s2]
      omega
    · intro r hr
      have e : 4 ^ (n + 1) - 1 - (1 * 4 ^ n + r) = 2 * 4 ^ n + (4 ^ n - 1 - r) := by rw [s4]; omega
      obtain ⟨a, b⟩ := fold1 hr
      obtain ⟨c, d⟩ := fold2 (n := n) (p := 4 ^ n - 1 - r) (by omega)
      obtain ⟨i, j⟩ := ih r hr
      rw [e, s2]
      omega
    · intro r hr
      have e : 4 ^ (n + 1) - 1 - (2 * 4 ^ n + r) = 1 * 4 ^ n + (4 ^ n - 1 - r) := by rw [s4]; omega
      obtain ⟨a, b⟩ := fold2 hr
      obtain ⟨c, d⟩ := fold1 (n := n) (p := 4 ^ n - 1 - r) (by omega)
      obtain ⟨i, j⟩ := ih r hr
      rw [e, s2]
      omega
    · intro r hr
      have e : 4 ^ (n + 1) - 1 - (3 * 4 ^ n + r) = 4 ^ n - 1 - r := by rw [s4]; omega
      obtain ⟨a, b⟩ := fold3 hr
      obtain ⟨c, d⟩ := fold0 (n := n) (p := 4 ^ n - 1 - r) (by omega)
      obtain ⟨i, j⟩ := ih r hr
      rw [e, s2]
      omega
/-- two neighbouring cells -/
def Adj (x y x' y' : Nat) : Prop := (x' = x + 1 ∧ y' = y) ∨ (x = x' + 1 ∧ y' = y) ∨ (x' = x ∧ y' = y + 1) ∨ (x' = x ∧ y = y' + 1)
theorem step_adj : ∀ n p, p + 1 < 4 ^ n → Adj (cx n p) (cy n p) (cx n (p + 1)) (cy n (p + 1))
  | 0, p, h => by have : (4 : Nat) ^ 0 = 1 := rfl; omega
  | n + 1, p, h => by
    have ih := step_adj n
    have h4 := p4 n
    have h2 := p2 n
    obtain ⟨z1, z2⟩ := cx_zero n
    obtain ⟨l1, l2⟩ := cx_last n
    have hp : p < 4 ^ (n + 1) := by omega
    refine quart (M := fun p => p + 1 < 4 ^ (n + 1) → Adj (cx (n + 1) p) (cy (n + 1) p) (cx (n + 1) (p + 1)) (cy (n + 1) (p + 1))) ?_ ?_ ?_ ?_ p hp h
    · intro r hr _
      obtain ⟨a, b⟩ := fold0 hr
      by_cases e : r + 1 < 4 ^ n
      · obtain ⟨c, d⟩ := fold0 e
        have := ih r e
        unfold Adj at this ⊢
        omega
      · have e1 : r = 4 ^ n - 1 := by omega
        have e2 : r + 1 = 1 * 4 ^ n + 0 := by omega
        obtain ⟨c, d⟩ := fold1 h4
        rw [e2]
        rw [e1] at a b ⊢
        unfold Adj
        omega
    · intro r hr _
      obtain ⟨a, b⟩ := fold1 hr
      by_cases e : r + 1 < 4 ^ n
      · obtain ⟨c, d⟩ := fold1 e
        have := ih r e
        rw [Nat.add_assoc]
        unfold Adj at this ⊢
        omega
      · have e1 : r = 4 ^ n - 1 := by omega
        have e2 : 1 * 4 ^ n + r + 1 = 2 * 4 ^ n + 0 := by omega
        obtain ⟨c, d⟩ := fold2 h4
        rw [e2]
        rw [e1] at a b ⊢
        unfold Adj
        omega
    · intro r hr _
      obtain ⟨a, b⟩ := fold2 hr
      by_cases e : r + 1 < 4 ^ n
      · obtain ⟨c, d⟩ := fold2 e
        have := ih r e
        rw [Nat.add_assoc]
        unfold Adj at this ⊢
        omega
      · have e1 : r = 4 ^ n - 1 := by omega
        have e2 : 2 * 4 ^ n + r + 1 = 3 * 4 ^ n + 0 := by omega
        obtain ⟨c, d⟩ := fold3 h4
        rw [e2]
        rw [e1] at a b ⊢
        unfold Adj
        omega
    · intro r hr hl
      obtain ⟨a, b⟩ := fold3 hr
      have e : r + 1 < 4 ^ n := by rw [s4] at hl; omega
      obtain ⟨c, d⟩ := fold3 e
      have := ih r e
      rw [Nat.add_assoc]
      unfold Adj at this ⊢
      omega

/-! ### the place of a cell -/
def PL : Nat → Bool → Bool → Nat → Nat → Nat
  | 0, _, _, _, _ => 0
  | n + 1, s, t, x, y => td (x / 2 ^ n % 2) (y / 2 ^ n % 2) s t * 4 ^ n + PL n (fs (td (x / 2 ^ n % 2) (y / 2 ^ n % 2) s t) s) (ft (td (x / 2 ^ n % 2) (y / 2 ^ n % 2) s t) t) (x % 2 ^ n) (y % 2 ^ n)
theorem lt2 (p : Nat) : p % 2 < 2 := Nat.mod_lt _ (by decide)
theorem pl_lt : ∀ (n : Nat) (s t : Bool) (x y : Nat), PL n s t x y < 4 ^ n
  | 0, _, _, _, _ => by show 0 < 1; decide
  | n + 1, s, t, x, y => by
    rw [PL, s4]
    have h := td_lt s t (lt2 (x / 2 ^ n)) (lt2 (y / 2 ^ n))
    have ih := pl_lt n (fs (td (x / 2 ^ n % 2) (y / 2 ^ n % 2) s t) s) (ft (td (x / 2 ^ n % 2) (y / 2 ^ n % 2) s t) t) (x % 2 ^ n) (y % 2 ^ n)
    have := Nat.mul_le_mul_right (4 ^ n) (Nat.le_of_lt_succ h)
    omega
theorem bit {n a r : Nat} (ha : a < 2) (hr : r < 2 ^ n) : (a * 2 ^ n + r) / 2 ^ n % 2 = a ∧ (a * 2 ^ n + r) % 2 ^ n = r := by
  have e : (a * 2 ^ n + r) / 2 ^ n = a := by
    rw [Nat.add_comm, Nat.add_mul_div_right _ _ (p2 n), Nat.div_eq_of_lt hr, Nat.zero_add]
  refine ⟨by rw [e, Nat.mod_eq_of_lt ha], ?_⟩
  rw [Nat.add_comm, Nat.add_mul_mod_self_right, Nat.mod_eq_of_lt hr]
theorem unbit {n x : Nat} (hx : x < 2 ^ (n + 1)) : x = x / 2 ^ n % 2 * 2 ^ n + x % 2 ^ n := by
  have h : x / 2 ^ n < 2 := by rw [Nat.div_lt_iff_lt_mul (p2 n), ← s2]; exact hx
  rw [Nat.mod_eq_of_lt h, Nat.mul_comm]
  exact (Nat.div_add_mod x (2 ^ n)).symm
theorem pl_w : ∀ (n : Nat) (s t : Bool) (p : Nat), p < 4 ^ n → PL n s t (WX n s t p) (WY n s t p) = p
  | 0, _, _, p, h => by
    have : (4 : Nat) ^ 0 = 1 := rfl
    show 0 = p
    omega
  | n + 1, s, t, p, h => by
    obtain ⟨q, r, hq, hr, rfl⟩ := undig h
    rw [wx_dig s t hq hr, wy_dig s t hq hr]
    obtain ⟨a1, a2⟩ := bit (Nat.lt_succ_of_le (qx_le s t hq)) (wx_lt n (fs q s) (ft q t) r)
    obtain ⟨b1, b2⟩ := bit (Nat.lt_succ_of_le (qy_le s t hq)) (wy_lt n (fs q s) (ft q t) r)
    rw [PL, a1, a2, b1, b2, td_q s t hq, pl_w n (fs q s) (ft q t) r hr]
theorem w_pl : ∀ (n : Nat) (s t : Bool) (x y : Nat), x < 2 ^ n → y < 2 ^ n → WX n s t (PL n s t x y) = x ∧ WY n s t (PL n s t x y) = y
  | 0, _, _, x, y, hx, hy => by
    have : (2 : Nat) ^ 0 = 1 := rfl
    exact ⟨show 0 = x by omega, show 0 = y by omega⟩
  | n + 1, s, t, x, y, hx, hy => by
    have hd := td_lt s t (lt2 (x / 2 ^ n)) (lt2 (y / 2 ^ n))
    have hr := pl_lt n (fs (td (x / 2 ^ n % 2) (y / 2 ^ n % 2) s t) s) (ft (td (x / 2 ^ n % 2) (y / 2 ^ n % 2) s t) t) (x % 2 ^ n) (y % 2 ^ n)
    obtain ⟨i, j⟩ := w_pl n (fs (td (x / 2 ^ n % 2) (y / 2 ^ n % 2) s t) s) (ft (td (x / 2 ^ n % 2) (y / 2 ^ n % 2) s t) t) (x % 2 ^ n) (y % 2 ^ n) (Nat.mod_lt _ (p2 n)) (Nat.mod_lt _ (p2 n))
    rw [PL, wx_dig s t hd hr, wy_dig s t hd hr, i, j, qx_td s t (lt2 _) (lt2 _), qy_td s t (lt2 _) (lt2 _)]
    exact ⟨(unbit hx).symm, (unbit hy).symm⟩
theorem inj {n p q : Nat} (hp : p < 4 ^ n) (hq : q < 4 ^ n) (h1 : cx n p = cx n q) (h2 : cy n p = cy n q) : p = q := by
  have a := pl_w n false false p hp
  have b := pl_w n false false q hq
  rw [show WX n false false p = WX n false false q from h1, show WY n false false p = WY n false false q from h2, b] at a
  exact a.symm

/-! ### squares -/
theorem wx_sq : ∀ (m k : Nat) (s t : Bool) (p : Nat), WX (m + k) s t p / 2 ^ k = WX m s t (p / 4 ^ k)
  | 0, k, s, t, p => by
    rw [Nat.zero_add]
    exact Nat.div_eq_of_lt (wx_lt k s t p)
  | m + 1, k, s, t, p => by
    rw [show m + 1 + k = (m + k) + 1 by omega, WX, WX]
    have e1 : p / 4 ^ k / 4 ^ m = p / 4 ^ (m + k) := by rw [Nat.div_div_eq_div_mul, ← Nat.pow_add, Nat.add_comm]
    have e2 : p / 4 ^ k % 4 ^ m = p % 4 ^ (m + k) / 4 ^ k := by
      rw [show 4 ^ (m + k) = 4 ^ k * 4 ^ m by rw [← Nat.pow_add, Nat.add_comm], Nat.mod_mul_right_div_self]
    rw [e1, e2, ← wx_sq m k]
    have e3 : qx (p / 4 ^ (m + k) % 4) s t * 2 ^ (m + k) = 2 ^ k * (qx (p / 4 ^ (m + k) % 4) s t * 2 ^ m) := by
      generalize qx (p / 4 ^ (m + k) % 4) s t = z
      rw [Nat.pow_add, ← Nat.mul_assoc, Nat.mul_comm]
    rw [e3, Nat.mul_add_div (p2 k)]
theorem wy_sq : ∀ (m k : Nat) (s t : Bool) (p : Nat), WY (m + k) s t p / 2 ^ k = WY m s t (p / 4 ^ k)
  | 0, k, s, t, p => by
    rw [Nat.zero_add]
    exact Nat.div_eq_of_lt (wy_lt k s t p)
  | m + 1, k, s, t, p => by
    rw [show m + 1 + k = (m + k) + 1 by omega, WY, WY]
    have e1 : p / 4 ^ k / 4 ^ m = p / 4 ^ (m + k) := by rw [Nat.div_div_eq_div_mul, ← Nat.pow_add, Nat.add_comm]
    have e2 : p / 4 ^ k % 4 ^ m = p % 4 ^ (m + k) / 4 ^ k := by
      rw [show 4 ^ (m + k) = 4 ^ k * 4 ^ m by rw [← Nat.pow_add, Nat.add_comm], Nat.mod_mul_right_div_self]
    rw [e1, e2, ← wy_sq m k]
    have e3 : qy (p / 4 ^ (m + k) % 4) s t * 2 ^ (m + k) = 2 ^ k * (qy (p / 4 ^ (m + k) % 4) s t * 2 ^ m) := by
      generalize qy (p / 4 ^ (m + k) % 4) s t = z
      rw [Nat.pow_add, ← Nat.mul_assoc, Nat.mul_comm]
    rw [e3, Nat.mul_add_div (p2 k)]
theorem cx_sq {n k : Nat} (h : k ≤ n) (p : Nat) : cx n p / 2 ^ k = cx (n - k) (p / 4 ^ k) := by
  have := wx_sq (n - k) k false false p
  rw [Nat.sub_add_cancel h] at this
  exact this
theorem cy_sq {n k : Nat} (h : k ≤ n) (p : Nat) : cy n p / 2 ^ k = cy (n - k) (p / 4 ^ k) := by
  have := wy_sq (n - k) k false false p
  rw [Nat.sub_add_cancel h] at this
  exact this
theorem blk_lt {n k p : Nat} (h : k ≤ n) (hp : p < 4 ^ n) : p / 4 ^ k < 4 ^ (n - k) := by
  rw [Nat.div_lt_iff_lt_mul (p4 k), ← Nat.pow_add, Nat.sub_add_cancel h]
  exact hp
theorem same_sq {n k p q : Nat} (h : k ≤ n) (hp : p < 4 ^ n) (hq : q < 4 ^ n) : (cx n q / 2 ^ k = cx n p / 2 ^ k ∧ cy n q / 2 ^ k = cy n p / 2 ^ k) ↔ q / 4 ^ k = p / 4 ^ k := by
  rw [cx_sq h, cx_sq h, cy_sq h, cy_sq h]
  constructor
  · rintro ⟨a, b⟩
    exact inj (blk_lt h hq) (blk_lt h hp) a b
  · intro e
    rw [e]
    exact ⟨rfl, rfl⟩
/-- places less than a block apart -/
theorem near {n k p q : Nat} (h : k ≤ n) (hp : p ≤ q) (hq : q < 4 ^ n) (hd : q < p + 4 ^ k) :
    (cx n q / 2 ^ k = cx n p / 2 ^ k ∧ cy n q / 2 ^ k = cy n p / 2 ^ k) ∨ Adj (cx n p / 2 ^ k) (cy n p / 2 ^ k) (cx n q / 2 ^ k) (cy n q / 2 ^ k) := by
  have h4 := p4 k
  have a : p / 4 ^ k ≤ q / 4 ^ k := Nat.div_le_div_right hp
  have b : q / 4 ^ k ≤ p / 4 ^ k + 1 := by
    have e : (p + 4 ^ k) / 4 ^ k = p / 4 ^ k + 1 := by rw [Nat.add_div_right _ h4]
    rw [← e]
    exact Nat.div_le_div_right (Nat.le_of_lt hd)
  by_cases e : q / 4 ^ k = p / 4 ^ k
  · exact .inl ((same_sq h (Nat.lt_of_le_of_lt hp hq) hq).mpr e)
  · right
    have e1 : q / 4 ^ k = p / 4 ^ k + 1 := by omega
    rw [cx_sq h, cx_sq h, cy_sq h, cy_sq h, e1]
    refine step_adj (n - k) (p / 4 ^ k) ?_
    rw [← e1]
    exact blk_lt h hq
end Fw

/-! How many cells of a box the walk has met. -/
namespace Fw
structure Box where
  l : Int
  o : Int
  r : Int
  h : Int
def BoxOk (B : Box) (n : Nat) : Prop := 0 ≤ B.l ∧ B.l ≤ B.r ∧ B.r < 2 ^ n ∧ 0 ≤ B.o ∧ B.o ≤ B.h ∧ B.h < 2 ^ n
def inb (B : Box) (x y : Int) : Bool := decide (B.l ≤ x ∧ x ≤ B.r ∧ B.o ≤ y ∧ y ≤ B.h)

/-! ### counting -/
def cnt (f : Nat → Bool) : Nat → Nat
  | 0 => 0
  | p + 1 => cnt f p + (if f p = true then 1 else 0)
theorem cnt_congr {f g : Nat → Bool} : ∀ {p : Nat}, (∀ i, i < p → f i = g i) → cnt f p = cnt g p
  | 0, _ => rfl
  | p + 1, h => by
    rw [cnt, cnt, cnt_congr (p := p) fun i hi => h i (by omega), h p (by omega)]
theorem cnt_add (f : Nat → Bool) (a : Nat) : ∀ b, cnt f (a + b) = cnt f a + cnt (fun i => f (a + i)) b
  | 0 => rfl
  | b + 1 => by
    rw [← Nat.add_assoc, cnt, cnt, cnt_add f a b, Nat.add_assoc]
theorem cnt_le (f : Nat → Bool) : ∀ p, cnt f p ≤ p
  | 0 => Nat.le_refl _
  | p + 1 => by
    have := cnt_le f p
    rw [cnt]
    split <;> omega
theorem cnt_mono (f : Nat → Bool) {p q : Nat} (h : p ≤ q) : cnt f p ≤ cnt f q := by
  obtain ⟨d, rfl⟩ := Nat.exists_eq_add_of_le h
  rw [cnt_add]
  omega
theorem cnt_not (f : Nat → Bool) : ∀ p, cnt (fun i => !(f i)) p + cnt f p = p
  | 0 => rfl
  | p + 1 => by
    have := cnt_not f p
    rw [cnt, cnt]
    cases f p <;> simp <;> omega
theorem cnt_step {f : Nat → Bool} {p q : Nat} (hp : f p = true) (h : p < q) : cnt f p < cnt f q := by
  have := cnt_mono f (show p + 1 ≤ q from h)
  rw [cnt, if_pos hp] at this
  omega
/-- two true places of one count are one -/
theorem cnt_inj {f : Nat → Bool} {p q : Nat} (hp : f p = true) (hq : f q = true) (h : cnt f p = cnt f q) : p = q := by
  rcases Nat.lt_trichotomy p q with e | e | e
  · have := cnt_step hp e
    omega
  · exact e
  · have := cnt_step hq e
    omega

/-! ### lengths that two spans share -/
def ov (a b l : Int) (m : Nat) : Nat := (min b (l + m - 1) - max a l + 1).toNat
theorem ov_split (a b l : Int) (m : Nat) : ov a b l (2 * m) = ov a b l m + ov a b (l + m) m := by
  unfold ov
  omega
theorem ov_le (a b l : Int) (m : Nat) : ov a b l m ≤ m := by
  unfold ov
  omega
def sh (B : Box) (l o : Int) (m : Nat) : Nat := ov B.l B.r l m * ov B.o B.h o m
theorem sh_one (B : Box) (l o : Int) : sh B l o 1 = if inb B l o = true then 1 else 0 := by
  unfold sh inb
  have e1 : ov B.l B.r l 1 = if B.l ≤ l ∧ l ≤ B.r then 1 else 0 := by
    unfold ov
    split <;> omega
  have e2 : ov B.o B.h o 1 = if B.o ≤ o ∧ o ≤ B.h then 1 else 0 := by
    unfold ov
    split <;> omega
  rw [e1, e2]
  by_cases h1 : B.l ≤ l ∧ l ≤ B.r <;> by_cases h2 : B.o ≤ o ∧ o ≤ B.h
  · rw [if_pos h1, if_pos h2, if_pos (decide_eq_true ⟨h1.1, h1.2, h2⟩)]
  · rw [if_pos h1, if_neg h2, if_neg]
    intro z
    exact h2 (of_decide_eq_true z).2.2
  · rw [if_neg h1, if_pos h2, if_neg]
    intro z
    exact h1 ⟨(of_decide_eq_true z).1, (of_decide_eq_true z).2.1⟩
  · rw [if_neg h1, if_neg h2, if_neg]
    intro z
    exact h2 (of_decide_eq_true z).2.2

/-! ### the blocks -/
/-- is the cell at the place q of a block (laid by s, t, its least column l, its least row o) in the box -/
def blk (B : Box) (s t : Bool) (n : Nat) (l o : Int) (q : Nat) : Bool := inb B (l + WX n s t q) (o + WY n s t q)
theorem blk_dig {B : Box} {s t : Bool} {n d r : Nat} {l o : Int} (hd : d < 4) (hr : r < 4 ^ n) :
    blk B s t (n + 1) l o (d * 4 ^ n + r) = blk B (fs d s) (ft d t) n (l + qx d s t * 2 ^ n) (o + qy d s t * 2 ^ n) r := by
  unfold blk
  rw [wx_dig s t hd hr, wy_dig s t hd hr]
  have e : ∀ (l : Int) (a b : Nat), l + ((a * 2 ^ n + b : Nat) : Int) = l + a * 2 ^ n + b := fun l a b => by
    rw [Int.natCast_add, Int.natCast_mul, Int.natCast_pow, Int.add_assoc]
    rfl
  rw [e, e]
theorem sh_four (B : Box) (s t : Bool) (l o : Int) (M : Nat) :
    sh B (l + qx 0 s t * M) (o + qy 0 s t * M) M + sh B (l + qx 1 s t * M) (o + qy 1 s t * M) M + sh B (l + qx 2 s t * M) (o + qy 2 s t * M) M + sh B (l + qx 3 s t * M) (o + qy 3 s t * M) M = sh B l o (2 * M) := by
  unfold sh
  rw [ov_split, ov_split, Nat.add_mul, Nat.mul_add, Nat.mul_add]
  have z0 : ∀ l : Int, l + ((0 : Nat) : Int) * (M : Int) = l := fun l => by rw [Int.natCast_zero, Int.zero_mul, Int.add_zero]
  have z1 : ∀ l : Int, l + ((1 : Nat) : Int) * (M : Int) = l + M := fun l => by rw [Int.natCast_one, Int.one_mul]
  cases s <;> cases t
  · rw [show qx 0 false false = 0 from rfl, show qx 1 false false = 0 from rfl, show qx 2 false false = 1 from rfl, show qx 3 false false = 1 from rfl, show qy 0 false false = 0 from rfl, show qy 1 false false = 1 from rfl, show qy 2 false false = 1 from rfl, show qy 3 false false = 0 from rfl]
    simp only [z0, z1]
    omega
  · rw [show qx 0 false true = 1 from rfl, show qx 1 false true = 1 from rfl, show qx 2 false true = 0 from rfl, show qx 3 false true = 0 from rfl, show qy 0 false true = 1 from rfl, show qy 1 false true = 0 from rfl, show qy 2 false true = 0 from rfl, show qy 3 false true = 1 from rfl]
    simp only [z0, z1]
    omega
  · rw [show qx 0 true false = 0 from rfl, show qx 1 true false = 1 from rfl, show qx 2 true false = 1 from rfl, show qx 3 true false = 0 from rfl, show qy 0 true false = 0 from rfl, show qy 1 true false = 0 from rfl, show qy 2 true false = 1 from rfl, show qy 3 true false = 1 from rfl]
    simp only [z0, z1]
    omega
  · rw [show qx 0 true true = 1 from rfl, show qx 1 true true = 0 from rfl, show qx 2 true true = 0 from rfl, show qx 3 true true = 1 from rfl, show qy 0 true true = 1 from rfl, show qy 1 true true = 1 from rfl, show qy 2 true true = 0 from rfl, show qy 3 true true = 0 from rfl]
    simp only [z0, z1]
    omega
theorem i2c (n : Nat) : (2 : Int) ^ n = ((2 ^ n : Nat) : Int) := by rw [Int.natCast_pow]; rfl
theorem cnt_blk {B : Box} {s t : Bool} {n d r : Nat} {l o : Int} (hd : d < 4) (hr : r ≤ 4 ^ n) :
    cnt (fun i => blk B s t (n + 1) l o (d * 4 ^ n + i)) r = cnt (blk B (fs d s) (ft d t) n (l + qx d s t * 2 ^ n) (o + qy d s t * 2 ^ n)) r :=
  cnt_congr fun i hi => blk_dig hd (by omega)
theorem full : ∀ (n : Nat) (B : Box) (s t : Bool) (l o : Int), cnt (blk B s t n l o) (4 ^ n) = sh B l o (2 ^ n)
  | 0, B, s, t, l, o => by
    show 0 + (if blk B s t 0 l o 0 = true then 1 else 0) = sh B l o 1
    rw [sh_one, Nat.zero_add]
    unfold blk
    rw [show WX 0 s t 0 = 0 from rfl, show WY 0 s t 0 = 0 from rfl, Int.natCast_zero, Int.add_zero, Int.add_zero]
  | n + 1, B, s, t, l, o => by
    have e : ∀ f : Nat → Bool, cnt f (4 ^ (n + 1)) = cnt (fun i => f (0 * 4 ^ n + i)) (4 ^ n) + cnt (fun i => f (1 * 4 ^ n + i)) (4 ^ n) + cnt (fun i => f (2 * 4 ^ n + i)) (4 ^ n) + cnt (fun i => f (3 * 4 ^ n + i)) (4 ^ n) := fun f => by
      rw [show 4 ^ (n + 1) = 3 * 4 ^ n + 4 ^ n by rw [s4]; omega, cnt_add, show 3 * 4 ^ n = 2 * 4 ^ n + 4 ^ n by omega, cnt_add, show 2 * 4 ^ n = 1 * 4 ^ n + 4 ^ n by omega, cnt_add, show 1 * 4 ^ n = 0 * 4 ^ n + 4 ^ n by omega]
      rw [cnt_add]
      have z : cnt f (0 * 4 ^ n) = 0 := by rw [Nat.zero_mul]; rfl
      rw [z, Nat.zero_add]
    rw [e, cnt_blk (d := 0) (by decide) (Nat.le_refl _), cnt_blk (d := 1) (by decide) (Nat.le_refl _), cnt_blk (d := 2) (by decide) (Nat.le_refl _), cnt_blk (d := 3) (by decide) (Nat.le_refl _),
      full n, full n, full n, full n, s2, i2c, sh_four]
/-- what the first d blocks of four share with the box -/
def part (B : Box) (s t : Bool) (n : Nat) (l o : Int) : Nat → Nat
  | 0 => 0
  | d + 1 => part B s t n l o d + sh B (l + qx d s t * 2 ^ n) (o + qy d s t * 2 ^ n) (2 ^ n)
theorem cnt_part {B : Box} {s t : Bool} {n : Nat} {l o : Int} : ∀ {d : Nat}, d ≤ 4 → cnt (blk B s t (n + 1) l o) (d * 4 ^ n) = part B s t n l o d
  | 0, _ => by rw [Nat.zero_mul]; rfl
  | d + 1, h => by
    rw [Nat.succ_mul, cnt_add, cnt_part (by omega), cnt_blk (by omega) (Nat.le_refl _), full]
    rfl
theorem cnt_dig {B : Box} {s t : Bool} {n d r : Nat} {l o : Int} (hd : d < 4) (hr : r ≤ 4 ^ n) :
    cnt (blk B s t (n + 1) l o) (d * 4 ^ n + r) = part B s t n l o d + cnt (blk B (fs d s) (ft d t) n (l + qx d s t * 2 ^ n) (o + qy d s t * 2 ^ n)) r := by
  rw [cnt_add, cnt_part (by omega), cnt_blk hd hr]
/-- the walk's own count -/
abbrev Cb (B : Box) (n p : Nat) : Nat := cnt (blk B false false n 0 0) p
theorem blk_in (B : Box) (n p : Nat) : blk B false false n 0 0 p = inb B (cx n p) (cy n p) := by
  unfold blk
  rw [Int.zero_add, Int.zero_add]
theorem mod_dig (p k : Nat) : p % 4 ^ (k + 1) = p / 4 ^ k % 4 * 4 ^ k + p % 4 ^ k := by
  rw [Nat.pow_succ, Nat.mod_mul, Nat.mul_comm (4 ^ k), Nat.add_comm]
/-- one turn of counting -/
theorem cnt_turn {B : Box} {s t : Bool} {k p z g : Nat} {l o : Int} (h : g + cnt (blk B s t (k + 1) l o) (p % 4 ^ (k + 1)) = z) :
    g + part B s t k l o (p / 4 ^ k % 4) + cnt (blk B (fs (p / 4 ^ k % 4) s) (ft (p / 4 ^ k % 4) t) k (l + qx (p / 4 ^ k % 4) s t * 2 ^ k) (o + qy (p / 4 ^ k % 4) s t * 2 ^ k)) (p % 4 ^ k) = z := by
  rw [mod_dig, cnt_dig (lt4 _) (Nat.le_of_lt (Nat.mod_lt _ (p4 k)))] at h
  omega
theorem sh_area {B : Box} {n : Nat} (h : BoxOk B n) : ((sh B 0 0 (2 ^ n) : Nat) : Int) = (B.r - B.l + 1) * (B.h - B.o + 1) := by
  obtain ⟨h1, h2, h3, h4, h5, h6⟩ := h
  rw [i2c] at h3 h6
  have e1 : ((ov B.l B.r 0 (2 ^ n) : Nat) : Int) = B.r - B.l + 1 := by unfold ov; omega
  have e2 : ((ov B.o B.h 0 (2 ^ n) : Nat) : Int) = B.h - B.o + 1 := by unfold ov; omega
  unfold sh
  rw [Int.natCast_mul, e1, e2]
theorem full_area (B : Box) (n : Nat) : Cb B n (4 ^ n) = sh B 0 0 (2 ^ n) := full n B false false 0 0
theorem Cb_le {B : Box} {n p : Nat} (h : p ≤ 4 ^ n) : Cb B n p ≤ sh B 0 0 (2 ^ n) := by
  rw [← full_area]
  exact cnt_mono _ h
theorem sh_pos {B : Box} {n : Nat} (h : BoxOk B n) : 0 < sh B 0 0 (2 ^ n) := by
  have e := sh_area h
  obtain ⟨h1, h2, h3, h4, h5, h6⟩ := h
  have := Int.mul_pos (show 0 < B.r - B.l + 1 by omega) (show 0 < B.h - B.o + 1 by omega)
  omega
/-- the test for a cell in the box -/
theorem in_dec (B : Box) (n p : Nat) : decide (B.l ≤ ((cx n p : Nat) : Int) ∧ ((cx n p : Nat) : Int) ≤ B.r ∧ B.o ≤ ((cy n p : Nat) : Int) ∧ ((cy n p : Nat) : Int) ≤ B.h) = inb B (cx n p) (cy n p) := rfl
end Fw

/-! The so-manieth place in a box, or out of it. -/
namespace Fw
/-- in (u = true) or out of the box, at the places of a block -/
def gb (u : Bool) (B : Box) (s t : Bool) (n : Nat) (l o : Int) (q : Nat) : Bool := blk B s t n l o q == u
/-- how many of a block's cells are so -/
def shu (u : Bool) (B : Box) (l o : Int) (n : Nat) : Nat := if u then sh B l o (2 ^ n) else 4 ^ n - sh B l o (2 ^ n)
theorem gb_true {B : Box} {s t : Bool} {n : Nat} {l o : Int} : gb true B s t n l o = blk B s t n l o := by
  funext q
  unfold gb
  cases blk B s t n l o q <;> rfl
theorem gb_false {B : Box} {s t : Bool} {n : Nat} {l o : Int} : gb false B s t n l o = fun q => !(blk B s t n l o q) := by
  funext q
  unfold gb
  cases blk B s t n l o q <;> rfl
theorem sh_le (B : Box) (l o : Int) (n : Nat) : sh B l o (2 ^ n) ≤ 4 ^ n := by
  rw [← full n B false false l o]
  exact cnt_le _ _
theorem gfull (u : Bool) (B : Box) (s t : Bool) (n : Nat) (l o : Int) : cnt (gb u B s t n l o) (4 ^ n) = shu u B l o n := by
  cases u
  · rw [gb_false]
    have := cnt_not (blk B s t n l o) (4 ^ n)
    rw [full] at this
    unfold shu
    rw [if_neg Bool.false_ne_true]
    omega
  · rw [gb_true, full]
    rfl
theorem gb_dig {u : Bool} {B : Box} {s t : Bool} {n d r : Nat} {l o : Int} (hd : d < 4) (hr : r < 4 ^ n) :
    gb u B s t (n + 1) l o (d * 4 ^ n + r) = gb u B (fs d s) (ft d t) n (l + qx d s t * 2 ^ n) (o + qy d s t * 2 ^ n) r := by
  unfold gb
  rw [blk_dig hd hr]
theorem gcnt_blk {u : Bool} {B : Box} {s t : Bool} {n d r : Nat} {l o : Int} (hd : d < 4) (hr : r ≤ 4 ^ n) :
    cnt (fun i => gb u B s t (n + 1) l o (d * 4 ^ n + i)) r = cnt (gb u B (fs d s) (ft d t) n (l + qx d s t * 2 ^ n) (o + qy d s t * 2 ^ n)) r :=
  cnt_congr fun i hi => gb_dig hd (by omega)
/-- what the first d blocks of four hold -/
def gpart (u : Bool) (B : Box) (s t : Bool) (n : Nat) (l o : Int) : Nat → Nat
  | 0 => 0
  | d + 1 => gpart u B s t n l o d + shu u B (l + qx d s t * 2 ^ n) (o + qy d s t * 2 ^ n) n
theorem gcnt_part {u : Bool} {B : Box} {s t : Bool} {n : Nat} {l o : Int} : ∀ {d : Nat}, d ≤ 4 → cnt (gb u B s t (n + 1) l o) (d * 4 ^ n) = gpart u B s t n l o d
  | 0, _ => by rw [Nat.zero_mul]; rfl
  | d + 1, h => by
    rw [Nat.succ_mul, cnt_add, gcnt_part (by omega), gcnt_blk (by omega) (Nat.le_refl _), gfull]
    rfl
theorem gpart_four {u : Bool} {B : Box} {s t : Bool} {n : Nat} {l o : Int} : gpart u B s t n l o 4 = shu u B l o (n + 1) := by
  rw [← gcnt_part (Nat.le_refl 4), ← gfull u B s t (n + 1) l o, s4]
/-- the answer is the place p: within the block that is left at k folds, it is its num-th -/
def Pk (u : Bool) (B : Box) (n number : Nat) (m : Nat) (s t : Bool) (l o : Int) (place num : Nat) : Prop :=
  num < shu u B l o m ∧ place * 4 ^ m + 4 ^ m ≤ 4 ^ n ∧
  ∀ r, r < 4 ^ m → gb u B s t m l o r = true → cnt (gb u B s t m l o) r = num →
    gb u B false false n 0 0 (place * 4 ^ m + r) = true ∧ cnt (gb u B false false n 0 0) (place * 4 ^ m + r) = number
theorem pk_start {u : Bool} {B : Box} {n number : Nat} (h : number < shu u B 0 0 n) : Pk u B n number n false false 0 0 0 number :=
  ⟨h, by omega, fun r _ h1 h2 => by rw [Nat.zero_mul, Nat.zero_add]; exact ⟨h1, h2⟩⟩
/-- the turn d is taken -/
theorem pk_turn {u : Bool} {B : Box} {n number m : Nat} {s t : Bool} {l o : Int} {place num d : Nat} (h : Pk u B n number (m + 1) s t l o place num) (hd : d < 4)
    (h1 : gpart u B s t m l o d ≤ num) (h2 : num - gpart u B s t m l o d < shu u B (l + qx d s t * 2 ^ m) (o + qy d s t * 2 ^ m) m) :
    Pk u B n number m (fs d s) (ft d t) (l + qx d s t * 2 ^ m) (o + qy d s t * 2 ^ m) (4 * place + d) (num - gpart u B s t m l o d) := by
  obtain ⟨a, b, c⟩ := h
  have e : (4 * place + d) * 4 ^ m = place * 4 ^ (m + 1) + d * 4 ^ m := by
    rw [Nat.add_mul, s4, ← Nat.mul_assoc, Nat.mul_comm 4 place]
  have hd2 := Nat.mul_le_mul_right (4 ^ m) (show d ≤ 3 by omega)
  refine ⟨h2, ?_, fun r hr g1 g2 => ?_⟩
  · rw [e]
    rw [s4] at b ⊢
    omega
  · have x := c (d * 4 ^ m + r) (by rw [s4]; omega) (by rw [gb_dig hd hr]; exact g1) (by
      rw [cnt_add, gcnt_part (by omega), gcnt_blk hd (Nat.le_of_lt hr), g2]
      omega)
    rw [e, Nat.add_assoc]
    exact x
theorem pk_end {u : Bool} {B : Box} {n number : Nat} {s t : Bool} {l o : Int} {place num : Nat} (h : Pk u B n number 0 s t l o place num) :
    place < 4 ^ n ∧ gb u B false false n 0 0 place = true ∧ cnt (gb u B false false n 0 0) place = number := by
  obtain ⟨a, b, c⟩ := h
  rw [← gfull u B s t 0 l o] at a
  have a2 : num < (0 + if gb u B s t 0 l o 0 = true then 1 else 0) := a
  have z : gb u B s t 0 l o 0 = true := by
    cases e : gb u B s t 0 l o 0
    · rw [e, if_neg Bool.false_ne_true] at a2
      omega
    · rfl
  rw [z, if_pos rfl] at a2
  have x := c 0 (by decide) z (by show 0 = num; omega)
  rw [Nat.pow_zero, Nat.mul_one, Nat.add_zero] at x
  rw [Nat.pow_zero, Nat.mul_one] at b
  exact ⟨by omega, x⟩
/-- one turn always is -/
theorem pk_some {u : Bool} {B : Box} {s t : Bool} {m : Nat} {l o : Int} {num : Nat} (h : num < shu u B l o (m + 1)) : num < gpart u B s t m l o 4 := by
  rw [gpart_four]
  exact h
/-! ### in and out, by the walk's own count -/
theorem gb_in {B : Box} {n p : Nat} : gb true B false false n 0 0 p = true ↔ inb B (cx n p) (cy n p) = true := by
  rw [gb_true, blk_in]
theorem gb_out {B : Box} {n p : Nat} : gb false B false false n 0 0 p = true ↔ inb B (cx n p) (cy n p) = false := by
  rw [gb_false]
  show (!(blk B false false n 0 0 p)) = true ↔ _
  rw [blk_in]
  cases inb B (cx n p) (cy n p) <;> simp
theorem cnt_in (B : Box) (n p : Nat) : cnt (gb true B false false n 0 0) p = Cb B n p := by rw [gb_true]
theorem cnt_out (B : Box) (n p : Nat) : cnt (gb false B false false n 0 0) p + Cb B n p = p := by
  rw [gb_false]
  exact cnt_not _ _
/-- the num-th of f is the first from p on, where num are met ahead of p -/
theorem next_ge {f : Nat → Bool} {p q : Nat} (h1 : f q = true) (h2 : cnt f q = cnt f p) : p ≤ q := by
  rcases Nat.lt_or_ge q p with h | h
  · have := cnt_step h1 h
    omega
  · exact h
end Fw

/-! Stretches: where the walk is in a box, one behind another. -/
namespace Fw
/-- is the walk in the box at the place p -/
def In (B : Box) (n p : Nat) : Prop := inb B (cx n p) (cy n p) = true
/-- f is the next place in the box, from c on -/
def NIn (B : Box) (n c f : Nat) : Prop := c ≤ f ∧ f < 4 ^ n ∧ In B n f ∧ Cb B n f = Cb B n c
/-- e is the next place out of the box, from f on, or the number of all places -/
def NOut (B : Box) (n f e : Nat) : Prop := f < e ∧ e ≤ 4 ^ n ∧ e - Cb B n e = f - Cb B n f ∧ (e = 4 ^ n ∨ ¬ In B n e)
theorem Cb_le_self (B : Box) (n p : Nat) : Cb B n p ≤ p := cnt_le _ _
theorem Cb_mono (B : Box) (n : Nat) {p q : Nat} (h : p ≤ q) : Cb B n p ≤ Cb B n q := cnt_mono _ h
theorem Cb_in {B : Box} {n p : Nat} (h : In B n p) : Cb B n (p + 1) = Cb B n p + 1 := by
  have e : blk B false false n 0 0 p = true := by rw [blk_in]; exact h
  show Cb B n p + (if blk B false false n 0 0 p = true then 1 else 0) = _
  rw [if_pos e]
theorem Cb_out {B : Box} {n p : Nat} (h : ¬ In B n p) : Cb B n (p + 1) = Cb B n p := by
  have e : ¬ blk B false false n 0 0 p = true := by rw [blk_in]; exact h
  show Cb B n p + (if blk B false false n 0 0 p = true then 1 else 0) = _
  rw [if_neg e]
  rfl
theorem out_mono (B : Box) (n : Nat) : ∀ {p q : Nat}, p ≤ q → p - Cb B n p ≤ q - Cb B n q := fun {p q} h => by
  have a := cnt_mono (gb false B false false n 0 0) h
  have b := cnt_out B n p
  have c := cnt_out B n q
  omega
/-- between c and the next place in the box none is in it -/
theorem NIn.gap {B : Box} {n c f p : Nat} (h : NIn B n c f) (h1 : c ≤ p) (h2 : p < f) : ¬ In B n p := fun z => by
  have a := Cb_in z
  have b := Cb_mono B n h1
  have d := Cb_mono B n (show p + 1 ≤ f from h2)
  have e := h.2.2.2
  omega
/-- from f up to the next place out of the box all are in it -/
theorem NOut.fill {B : Box} {n f e p : Nat} (h : NOut B n f e) (h1 : f ≤ p) (h2 : p < e) : In B n p := by
  rcases Classical.em (In B n p) with z | z
  · exact z
  · have a := Cb_out z
    have b := out_mono B n h1
    have d := out_mono B n (show p + 1 ≤ e from h2)
    have g := h.2.2.1
    have i := Cb_le_self B n p
    omega
theorem NIn.uniq {B : Box} {n c f r : Nat} (h : NIn B n c f) (h1 : In B n r) (h2 : Cb B n r = Cb B n c) : r = f :=
  cnt_inj (f := gb true B false false n 0 0) (gb_in.mpr h1) (gb_in.mpr h.2.2.1) (by rw [cnt_in, cnt_in, h2, h.2.2.2])
theorem NOut.uniq {B : Box} {n f e r : Nat} (h : NOut B n f e) (he : e < 4 ^ n) (h1 : ¬ In B n r) (h2 : r - Cb B n r = f - Cb B n f) : r = e := by
  have ho : ¬ In B n e := by
    rcases h.2.2.2 with z | z
    · omega
    · exact z
  have o1 : inb B (cx n r) (cy n r) = false := by
    cases q : inb B (cx n r) (cy n r)
    · rfl
    · exact absurd q h1
  have o2 : inb B (cx n e) (cy n e) = false := by
    cases q : inb B (cx n e) (cy n e)
    · rfl
    · exact absurd q ho
  have a := cnt_out B n r
  have b := cnt_out B n e
  have c := h.2.2.1
  have d1 := Cb_le_self B n r
  have d2 := Cb_le_self B n e
  exact cnt_inj (f := gb false B false false n 0 0) (gb_out.mpr o1) (gb_out.mpr o2) (by omega)
/-- the stretches ps lie one behind another from c up to d -/
def Chain (B : Box) (n : Nat) : Nat → List (Nat × Nat) → Nat → Prop
  | c, [], d => c = d
  | c, p :: ps, d => NIn B n c p.1 ∧ NOut B n p.1 (p.2 + 1) ∧ Chain B n (p.2 + 1) ps d
theorem Chain.snoc {B : Box} {n : Nat} : ∀ {ps : List (Nat × Nat)} {c d f e : Nat}, Chain B n c ps d → NIn B n d f → NOut B n f e → Chain B n c (ps ++ [(f, e - 1)]) e
  | [], c, d, f, e, h, h1, h2 => by
    have h' : c = d := h
    subst h'
    have e1 : e - 1 + 1 = e := by have := h2.1; omega
    refine ⟨h1, ?_, e1⟩
    show NOut B n f (e - 1 + 1)
    rw [e1]
    exact h2
  | p :: ps, c, d, f, e, h, h1, h2 => ⟨h.1, h.2.1, Chain.snoc h.2.2 h1 h2⟩
theorem Chain.le {B : Box} {n : Nat} : ∀ {ps : List (Nat × Nat)} {c d : Nat}, Chain B n c ps d → c ≤ d
  | [], c, d, h => Nat.le_of_eq h
  | p :: ps, c, d, h => by
    have a := h.1.1
    have b := h.2.1.1
    have e := Chain.le h.2.2
    omega
theorem Chain.top {B : Box} {n : Nat} : ∀ {ps : List (Nat × Nat)} {c d : Nat}, Chain B n c ps d → c ≤ 4 ^ n → d ≤ 4 ^ n
  | [], c, d, h, h1 => by have h' : c = d := h; omega
  | p :: ps, c, d, h, _ => Chain.top h.2.2 h.2.1.2.1
theorem Chain.pair {B : Box} {n : Nat} : ∀ {ps : List (Nat × Nat)} {c d : Nat}, Chain B n c ps d → ∀ p ∈ ps, c ≤ p.1 ∧ p.1 ≤ p.2 ∧ p.2 < d ∧ p.2 < 4 ^ n ∧ ∀ q, p.1 ≤ q → q ≤ p.2 → In B n q
  | [], _, _, _, p, hp => by cases hp
  | a :: ps, c, d, h, p, hp => by
    rcases List.mem_cons.mp hp with rfl | hp
    · have e1 := h.1.1
      have e2 := h.2.1.1
      have e3 := h.2.1.2.1
      have e4 := Chain.le h.2.2
      exact ⟨e1, by omega, by omega, by omega, fun q h1 h2 => h.2.1.fill h1 (by omega)⟩
    · obtain ⟨i, j⟩ := Chain.pair h.2.2 p hp
      have e1 := h.1.1
      have e2 := h.2.1.1
      exact ⟨by omega, j⟩
/-- a place from c up to d is in one of them just where it is in the box -/
theorem Chain.iff {B : Box} {n : Nat} : ∀ {ps : List (Nat × Nat)} {c d q : Nat}, Chain B n c ps d → c ≤ q → q < d → ((∃ p ∈ ps, p.1 ≤ q ∧ q ≤ p.2) ↔ In B n q)
  | [], c, d, q, h, h1, h2 => by
    have h' : c = d := h
    omega
  | a :: ps, c, d, q, h, h1, h2 => by
    by_cases k : q ≤ a.2
    · by_cases j : a.1 ≤ q
      · exact ⟨fun _ => h.2.1.fill j (by omega), fun _ => ⟨a, List.mem_cons_self, j, k⟩⟩
      · refine ⟨fun ⟨p, hp, i1, i2⟩ => ?_, fun z => absurd z (h.1.gap h1 (by omega))⟩
        rcases List.mem_cons.mp hp with rfl | hp
        · omega
        · have := (Chain.pair h.2.2 p hp).1
          omega
    · have ih := Chain.iff (q := q) h.2.2 (by omega) h2
      refine ⟨fun ⟨p, hp, i1, i2⟩ => ?_, fun z => ?_⟩
      · rcases List.mem_cons.mp hp with rfl | hp
        · omega
        · exact ih.mp ⟨p, hp, i1, i2⟩
      · obtain ⟨p, hp, i⟩ := ih.mpr z
        exact ⟨p, List.mem_cons_of_mem _ hp, i⟩
/-- all of them, where none is left -/
theorem Chain.all {B : Box} {n : Nat} {ps : List (Nat × Nat)} {d q : Nat} (h : Chain B n 0 ps d) (hd : Cb B n d = sh B 0 0 (2 ^ n)) (hq : q < 4 ^ n) : (∃ p ∈ ps, p.1 ≤ q ∧ q ≤ p.2) ↔ In B n q := by
  by_cases k : q < d
  · exact h.iff (Nat.zero_le _) k
  · refine ⟨fun ⟨p, hp, i1, i2⟩ => ?_, fun z => ?_⟩
    · have := (h.pair p hp).2.2.1
      omega
    · have a := Cb_in z
      have b := Cb_mono B n (show d ≤ q by omega)
      have c := Cb_le (B := B) (show q + 1 ≤ 4 ^ n from hq)
      omega
def lens : List (Nat × Nat) → Nat
  | [] => 0
  | p :: ps => (p.2 + 1 - p.1) + lens ps
theorem Chain.sum {B : Box} {n : Nat} : ∀ {ps : List (Nat × Nat)} {c d : Nat}, Chain B n c ps d → Cb B n c + lens ps = Cb B n d
  | [], c, d, h => by have h' : c = d := h; subst h'; rfl
  | p :: ps, c, d, h => by
    have ih := Chain.sum h.2.2
    have a := h.1.2.2.2
    have b := h.2.1.2.2.1
    have e := h.2.1.1
    have i := Cb_le_self B n p.1
    have j := Cb_le_self B n (p.2 + 1)
    show Cb B n c + ((p.2 + 1 - p.1) + lens ps) = _
    omega
theorem Chain.nil_iff {B : Box} {n c d : Nat} : Chain B n c [] d ↔ c = d := Iff.rfl
/-- the rest of a chain -/
theorem Chain.drop {B : Box} {n : Nat} : ∀ {ps : List (Nat × Nat)} {c d : Nat} (_ : Chain B n c ps d) {i : Nat} {p : Nat × Nat}, ps[i]? = some p → ∃ e, Chain B n e (ps.drop i) d ∧ c ≤ e
  | [], _, _, _, _, _, hi => by simp at hi
  | a :: ps, c, d, h, 0, p, _ => ⟨c, h, Nat.le_refl _⟩
  | a :: ps, c, d, h, i + 1, p, hi => by
    obtain ⟨e, h1, h2⟩ := Chain.drop h.2.2 (i := i) (p := p) (by simpa using hi)
    have e1 := h.1.1
    have e2 := h.2.1.1
    exact ⟨e, h1, by omega⟩
/-- the square of an aligned block that lies in a stretch: its ends lie in the box -/
theorem corner {B : Box} {n k p l : Nat} (hp : p % 4 ^ k = 0) (hl : p + 4 ^ k ≤ l + 1) (hn : l < 4 ^ n) (hin : ∀ q, p ≤ q → q ≤ l → In B n q) {x y : Nat}
    (hx : x / 2 ^ k = cx n p / 2 ^ k) (hy : y / 2 ^ k = cy n p / 2 ^ k) : inb B x y = true := by
  have h4 := p4 k
  have hk : k ≤ n := by
    rcases Nat.lt_or_ge n k with h | h
    · have := Nat.pow_lt_pow_right (show 1 < 4 by decide) h
      omega
    · exact h
  have e : 2 ^ n = 2 ^ (n - k) * 2 ^ k := by rw [← Nat.pow_add, Nat.sub_add_cancel hk]
  have bound : ∀ {x z : Nat}, z < 2 ^ n → x / 2 ^ k = z / 2 ^ k → x < 2 ^ n := fun {x z} hz h => by
    have a : z / 2 ^ k < 2 ^ (n - k) := by
      rw [Nat.div_lt_iff_lt_mul (p2 k), ← e]
      exact hz
    rw [← h, Nat.div_lt_iff_lt_mul (p2 k), ← e] at a
    exact a
  have bx : x < 2 ^ n := bound (wx_lt n false false p) hx
  have by' : y < 2 ^ n := bound (wy_lt n false false p) hy
  have hq := pl_lt n false false x y
  obtain ⟨w1, w2⟩ := w_pl n false false x y bx by'
  have s : PL n false false x y / 4 ^ k = p / 4 ^ k := (same_sq hk (show p < 4 ^ n by omega) hq).mp ⟨by
    rw [show cx n (PL n false false x y) = x from w1]; exact hx, by
    rw [show cy n (PL n false false x y) = y from w2]; exact hy⟩
  have d1 := Nat.div_add_mod (PL n false false x y) (4 ^ k)
  have d2 := Nat.div_add_mod p (4 ^ k)
  have d3 := Nat.mod_lt (PL n false false x y) h4
  rw [s] at d1
  have z := hin (PL n false false x y) (by omega) (by omega)
  unfold In at z
  rw [show cx n (PL n false false x y) = x from w1, show cy n (PL n false false x y) = y from w2] at z
  exact z
/-- some next place in the box is left -/
theorem NIn.some {B : Box} {n c f : Nat} (h : NIn B n c f) : Cb B n c < sh B 0 0 (2 ^ n) := by
  have a := Cb_in h.2.2.1
  have b := Cb_le (B := B) (show f + 1 ≤ 4 ^ n from h.2.1)
  have e := h.2.2.2
  omega
/-- some next place out of it is left -/
theorem NOut.some {B : Box} {n f e : Nat} (h : NOut B n f e) (he : e < 4 ^ n) : f - Cb B n f < 4 ^ n - sh B 0 0 (2 ^ n) := by
  have ho : ¬ In B n e := by
    rcases h.2.2.2 with z | z
    · omega
    · exact z
  have a := Cb_out ho
  have b := out_mono B n (show e + 1 ≤ 4 ^ n from he)
  rw [full_area] at b
  have c := h.2.2.1
  have d := Cb_le_self B n e
  omega
/-- the place behind the stretch is one, where the box is met again -/
theorem NOut.there {B : Box} {n f e g : Nat} (h : NOut B n f e) (hg : NIn B n e g) : e < 4 ^ n ∧ ¬ In B n e := by
  have a := hg.1
  have b := hg.2.1
  refine ⟨by omega, ?_⟩
  rcases h.2.2.2 with z | z
  · omega
  · exact z
theorem Chain.next {B : Box} {n : Nat} : ∀ {ps : List (Nat × Nat)} {c d f : Nat}, Chain B n c ps d → NIn B n d f → ∃ g, NIn B n c g ∧ (ps = [] → g = f ∧ c = d) ∧ ∀ p r, ps = p :: r → g = p.1
  | [], c, d, f, h, hf => by
    have h' : c = d := h
    subst h'
    exact ⟨f, hf, fun _ => ⟨rfl, rfl⟩, (fun _ _ q => nomatch q)⟩
  | p :: ps, c, d, f, h, hf => ⟨p.1, h.1, (fun q => nomatch q), fun p' r q => by
    rw [List.cons.injEq] at q
    rw [q.1]⟩
/-- one behind another, with a place between them -/
theorem Chain.sep {B : Box} {n : Nat} : ∀ {ps : List (Nat × Nat)} {c d : Nat}, Chain B n c ps d → ∀ (i : Nat) (p q : Nat × Nat), ps[i]? = some p → ps[i + 1]? = some q → p.2 + 2 ≤ q.1
  | [], _, _, _, i, p, q, h1, _ => by simp at h1
  | [a], _, _, _, i, p, q, _, h2 => by simp at h2
  | a :: b :: ps, c, d, h, 0, p, q, h1, h2 => by
    have e1 : a = p := by simpa using h1
    have e2 : b = q := by simpa using h2
    subst e1 e2
    have x := h.2.2.1
    obtain ⟨y, z⟩ := h.2.1.there x
    have w := x.1
    have v : b.1 ≠ a.2 + 1 := fun e => z (e ▸ x.2.2.1)
    omega
  | a :: b :: ps, c, d, h, i + 1, p, q, h1, h2 => Chain.sep h.2.2 i p q (by simpa using h1) (by simpa using h2)
theorem NOut.of_none {B : Box} {n f : Nat} (hf : f < 4 ^ n) (h : f - Cb B n f = 4 ^ n - sh B 0 0 (2 ^ n)) : NOut B n f (4 ^ n) :=
  ⟨hf, Nat.le_refl _, by rw [full_area]; exact h.symm, .inl rfl⟩
theorem NOut.of_some {B : Box} {n f r : Nat} (hi : In B n f) (h1 : f ≤ r) (h2 : r < 4 ^ n) (h3 : inb B (cx n r) (cy n r) = false) (h4 : r - Cb B n r = f - Cb B n f) : NOut B n f r := by
  have ho : ¬ In B n r := fun z => by
    unfold In at z
    rw [h3] at z
    exact Bool.false_ne_true z
  have hne : f ≠ r := fun e => ho (e ▸ hi)
  exact ⟨by omega, Nat.le_of_lt h2, h4, .inr ho⟩
end Fw

/-! Readings, step by step: each rule takes one word of a reading off the goal. -/
namespace Fw
open PySem PySem.Spec PyProof.Rows L2
def bI (b : Bool) : Int := if b then 1 else 0
/-- what follows, for every value v behind every heap that keeps what was tracked -/
def RV (v : V) (H : Hp) (Q : VK) : Prop := ∀ H', Same H H' → Q v H'
/-- what follows, for a new tuple xs -/
def RT (xs : List V) (H : Hp) (Q : VK) : Prop := ∀ a H', H a = none → Same H H' → H' a = some (.tup xs) → Q (.ref a) H'
def NT (Q : VK) (H : Hp) (xs : List V) : Prop := xs.length ≤ sizeLine ∧ ∀ p, H p = none → Q (.ref p) (upd H p (.tup xs))
def NL (Q : VK) (H : Hp) (xs : List V) : Prop := xs.length ≤ sizeLine ∧ ∀ p, H p = none → Q (.ref p) (upd H p (.lst xs))
theorem same_upd {H : Hp} {p : Addr} {o : HO} (h : H p = none) : Same H (upd H p o) := fun b x e => by
  rw [upd_ne (ne_of_none e h)]
  exact e
section
variable {D : Ends} {σ : L2.St} {H : Hp} {t u : TS} {te ta tb tc : TE} {tt t1 t2 : TT} {g : TG} {tA tr : TA} {v x y : V} {Q : VK} {QB : Bool → Hp → Prop} {QL : List V → Hp → Prop} {QS : L2.St → Hp → Prop} {r : R2} {i j : Int} {A B : Prop}
theorem r_seq (h : t { D with nx := u D } σ H) : tSeq t u D σ H := h
theorem r_next (h : D.nx σ H) : tNext D σ H := h
theorem r_asg (h : te σ H fun x H1 => g x σ H1 D.nx) : tAsg te g D σ H := h
theorem r_name {k : Nat} (h : QS (σ.set k (some v)) H) : gName k v σ H QS := h
theorem r_var {k : Nat} (e : σ[k]? = some (some v)) (h : Q v H) : tVar k σ H Q := ⟨v, e, h⟩
theorem r_c (h : Q v H) : tC v σ H Q := h
theorem r_op (h : ta σ H fun x H1 => tb σ H1 fun y H2 => r x y H2 Q) : tOp r ta tb σ H Q := h
theorem r_un {ru : V → Hp → VK → Prop} (h : ta σ H fun x H1 => ru x H1 Q) : tUn ru ta σ H Q := h
theorem r_I0 {f : Int → Int → V} (h : Q (f i j) H) : rI0 f (.int i) (.int j) H Q := ⟨i, j, rfl, rfl, h⟩
theorem r_I {C : Int → Int → Prop} {f : Int → Int → V} (c : C i j) (h : Q (f i j) H) : rI C f (.int i) (.int j) H Q := ⟨i, j, rfl, rfl, c, h⟩
theorem r_U {f : Int → V} (h : Q (f i) H) : rU f (.int i) H Q := ⟨i, rfl, h⟩
theorem r_mod (c : 0 < j) (h : Q (.int (i % j)) H) : rI (fun _ j => 0 < j) (fun i j => .int (i % j)) (.int i) (.int j) H Q := ⟨i, j, rfl, rfl, c, h⟩
theorem r_mul (c : CMul i j) (h : Q (.int (i * j)) H) : rI CMul (fun i j => .int (i * j)) (.int i) (.int j) H Q := ⟨i, j, rfl, rfl, c, h⟩
theorem r_shl (k : Nat) (e : j = (k : Int)) (c : k ≤ 1000000) (b : i.natAbs < 2 ^ 64) (h : Q (.int (i * 2 ^ k)) H) : rI CPow (fun i j => .int (i * 2 ^ j.toNat)) (.int i) (.int j) H Q := by
  subst e
  exact ⟨i, k, rfl, rfl, ⟨by omega, by omega, b⟩, show Q (.int (i * 2 ^ ((k : Int)).toNat)) H by rw [Int.toNat_natCast]; exact h⟩
theorem r_shr (k : Nat) (e : j = (k : Int)) (h : Q (.int (i / 2 ^ k)) H) : rI (fun _ j => 0 ≤ j) (fun i j => .int (i / 2 ^ j.toNat)) (.int i) (.int j) H Q := by
  subst e
  exact ⟨i, k, rfl, rfl, Int.natCast_nonneg _, show Q (.int (i / 2 ^ ((k : Int)).toNat)) H by rw [Int.toNat_natCast]; exact h⟩
theorem r_div (c : 0 < j) (b : j < 2 ^ 200) (h : Q (.int (i / j)) H) : rI CDivW (fun i j => .int (i / j)) (.int i) (.int j) H Q :=
  ⟨i, j, rfl, rfl, wide_div (b := 200) c (by omega) (by decide) (by decide), h⟩
theorem r_eqI (h : Q (.bl (decide (i = j))) H) : rEq (.int i) (.int j) H Q := ⟨rfl, by
  have e : decide (V.int i = V.int j) = decide (i = j) := decide_eq_decide.mpr (by rw [V.int.injEq])
  rw [e]; exact h⟩
theorem r_neI (h : Q (.bl (!decide (i = j))) H) : rNe (.int i) (.int j) H Q := ⟨rfl, by
  have e : decide (V.int i = V.int j) = decide (i = j) := decide_eq_decide.mpr (by rw [V.int.injEq])
  rw [e]; exact h⟩
theorem r_neB {a b : Bool} (h : Q (.bl (!decide (a = b))) H) : rNe (.bl a) (.bl b) H Q := ⟨rfl, by
  have e : decide (V.bl a = V.bl b) = decide (a = b) := decide_eq_decide.mpr (by rw [V.bl.injEq])
  rw [e]; exact h⟩
theorem r_eqS {a b : Str} (h : Q (.bl (decide (a = b))) H) : rEq (.str a) (.str b) H Q := ⟨rfl, by
  have e : decide (V.str a = V.str b) = decide (a = b) := decide_eq_decide.mpr (by rw [V.str.injEq])
  rw [e]; exact h⟩
theorem r_ifS (h : tt σ H fun b H1 => if b = true then t D σ H1 else u D σ H1) : tIfS tt t u D σ H := h
theorem r_test (h : te σ H fun x H' => ∃ k, x = .bl k ∧ QB k H') : tTest te σ H QB := h
theorem r_B (h : te σ H fun x H' => ∃ k, x = .bl k ∧ QB k H') : tB te σ H QB := h
theorem r_bl {b : Bool} {R : Bool → Prop} (h : R b) : ∃ k, V.bl b = .bl k ∧ R k := ⟨b, rfl, h⟩
theorem r_and (h : t1 σ H fun c H1 => if c = true then t2 σ H1 QB else QB false H1) : tAnd t1 t2 σ H QB := h
theorem r_or (h : t1 σ H fun c H1 => if c = true then QB true H1 else t2 σ H1 QB) : tOr t1 t2 σ H QB := h
theorem r_not (h : t1 σ H fun c H1 => QB (!c) H1) : tNot t1 σ H QB := h
theorem r_andV (h : ta σ H fun x H1 => ∃ c, x = .bl c ∧ if c = true then tb σ H1 Q else Q (.bl false) H1) : tAndV ta tb σ H Q := h
theorem r_orV (h : ta σ H fun x H1 => ∃ c, x = .bl c ∧ if c = true then Q (.bl true) H1 else tb σ H1 Q) : tOrV ta tb σ H Q := h
theorem r_notV (h : ta σ H fun x H1 => ∃ c, x = .bl c ∧ Q (.bl (!c)) H1) : tNotV ta σ H Q := h
theorem r_chain {r' : R2} (h : ta σ H fun x H1 => tb σ H1 fun y H2 => r x y H2 fun z H3 => ∃ k, z = .bl k ∧ (if k = true then tc σ H3 fun w' H4 => r' y w' H4 Q else Q (.bl false) H3)) : tChain r r' ta tb tc σ H Q := h
theorem r_ret (h : te σ H D.rt) : tRet te D σ H := h
theorem r_drop (h : te σ H fun _ H1 => D.nx σ H1) : tDrop te D σ H := h
theorem r_brk (h : D.bk σ H) : tBreak D σ H := h
theorem r_cont (h : D.ct σ H) : tCont D σ H := h
theorem r_call {sp : Sp} {dvs : List V} {E : XK} (h : tA σ H fun vs H1 => sp (vs ++ dvs) H1 Q E) : tCall sp dvs E tA σ H Q := h
theorem r_callS {sp : Sp} {E : L2.St → XK} (h : tA σ H fun vs H1 => sp vs H1 Q (E σ)) : tCallS sp E tA σ H Q := h
theorem r_cb {rc : List V → Hp → VK → Prop} (h : tA σ H fun vs H1 => rc vs H1 Q) : tCB rc tA σ H Q := h
theorem r_cons (h : ta σ H fun x H1 => tr σ H1 fun xs H2 => QL (x :: xs) H2) : tCons ta tr σ H QL := h
theorem r_nil (h : QL [] H) : tNil σ H QL := h
theorem r_tup (h : tA σ H fun xs H1 => NT Q H1 xs) : tTup tA σ H Q := h
theorem r_lst (h : tA σ H fun xs H1 => NL Q H1 xs) : tLst tA σ H Q := h
theorem r_par {k l : Nat} (h : tA σ H fun vs H1 => ∃ v w, vs = [v, w] ∧ D.nx ((σ.set k (some v)).set l (some w)) H1) : tPar k l tA D σ H := h
theorem r_two {R : V → V → Prop} (h : R x y) : ∃ v w, [x, y] = [v, w] ∧ R v w := ⟨x, y, rfl, h⟩
theorem r_aug {k : Nat} {ti : TIp} (e : σ[k]? = some (some v)) (h : te σ H fun y H1 => ti v y H1 fun z H2 => D.nx (σ.set k (some z)) H2) : tAug k te ti D σ H := ⟨v, e, h⟩
theorem r_ip {f : Int → Int → Int} (h : Q (.int (f i j)) H) : ipI f (.int i) (.int j) H Q := ⟨i, j, rfl, rfl, h⟩
theorem n_tup {xs : List V} (h : ∀ p H', H p = none → Same H H' → H' p = some (.tup xs) → Q (.ref p) H') (hl : Nat.ble xs.length 1000 = true := by rfl) : NT Q H xs :=
  ⟨Nat.le_of_lt (small1000 (Nat.le_of_ble_eq_true hl)), fun p hp => h p _ hp (same_upd hp) upd_same⟩
theorem n_lst {xs : List V} (h : ∀ p H', H p = none → Same H H' → H' p = some (.lst xs) → Q (.ref p) H') (hl : Nat.ble xs.length 1000 = true := by rfl) : NL Q H xs :=
  ⟨Nat.le_of_lt (small1000 (Nat.le_of_ble_eq_true hl)), fun p hp => h p _ hp (same_upd hp) upd_same⟩
theorem r_unp2 {K : PySem.W.Frag} {a : Addr} {k l : Nat} (e : H a = some (.tup [x, y])) (h : QS ((σ.set k (some x)).set l (some y)) H) : gTup K 2 (gCons (gName k) (gCons (gName l) gNil)) (.ref a) σ H QS :=
  ⟨a, [x, y], rfl, .inl (.inl e), rfl, x, [y], rfl, y, [], rfl, rfl, h⟩
theorem r_unp4 {K : PySem.W.Frag} {a : Addr} {k l m n : Nat} {z w : V} (e : H a = some (.tup [x, y, z, w])) (h : QS ((((σ.set k (some x)).set l (some y)).set m (some z)).set n (some w)) H) :
    gTup K 4 (gCons (gName k) (gCons (gName l) (gCons (gName m) (gCons (gName n) gNil)))) (.ref a) σ H QS :=
  ⟨a, [x, y, z, w], rfl, .inl (.inl e), rfl, x, [y, z, w], rfl, y, [z, w], rfl, z, [w], rfl, w, [], rfl, rfl, h⟩
theorem r_ixT {K : PySem.W.Frag} {a : Addr} {xs : List V} (e : H a = some (.tup xs)) (c : atI xs i = some v) (h : Q v H) : rIxT K (.ref a) (.int i) H Q := ⟨a, xs, i, v, rfl, rfl, .inl (.inl e), c, h⟩
theorem r_ixL {K : PySem.W.Frag} {a : Addr} {xs : List V} (e : SqL K H a xs) (c : atI xs i = some v) (h : Q v H) : rIxL K (.ref a) (.int i) H Q := ⟨a, xs, i, v, rfl, rfl, e, c, h⟩
theorem r_bltrue (h : Q (.bl true) H) : Q (.bl true) H := h
theorem rite {b : Bool} (h1 : b = true → A) (h2 : b = false → B) : if b = true then A else B := by
  cases b with
  | true => exact iteT (h1 rfl)
  | false => exact iteF (h2 rfl)
theorem riteD {p : Prop} [Decidable p] (h1 : p → A) (h2 : ¬ p → B) : if decide p = true then A else B :=
  rite (fun e => h1 (of_decide_eq_true e)) (fun e => h2 (of_decide_eq_false e))
theorem riteN {p : Prop} [Decidable p] (h1 : ¬ p → A) (h2 : p → B) : if (!decide p) = true then A else B := by
  by_cases q : p
  · rw [decide_eq_true q]; exact iteF (h2 q)
  · rw [decide_eq_false q]; exact iteT (h1 q)
theorem riteY {p : Prop} [Decidable p] (q : p) (h : A) : if decide p = true then A else B := by rw [decide_eq_true q]; exact iteT h
theorem riteO {p : Prop} [Decidable p] (q : ¬ p) (h : B) : if decide p = true then A else B := by rw [decide_eq_false q]; exact iteF h
theorem riteNY {p : Prop} [Decidable p] (q : ¬ p) (h : A) : if (!decide p) = true then A else B := by rw [decide_eq_false q]; exact iteT h
theorem riteNO {p : Prop} [Decidable p] (q : p) (h : B) : if (!decide p) = true then A else B := by rw [decide_eq_true q]; exact iteF h
theorem r_isi {K : PySem.W.Frag} {c : V} {t u : Value} {b : Bool} (k : ClsV c u) (ty : TyX K H x t) (e : PySem.W.kitOne K t u = some b) (h : Q (.bl b) H) : rIsi K [x, c] H Q := ⟨x, c, t, u, b, rfl, k, ty, e, h⟩
/-- for k in reversed(range(e)): Pv m, m the turns that are left -/
theorem r_rev {j : Nat} (h : te σ H fun x H1 => ∃ n : Nat, x = .int n ∧ n ≤ 1000 ∧ ∃ Pv : Nat → L2.St → Hp → Prop, Pv n σ H1 ∧
      (∀ m σ' H', m < n → Pv (m + 1) σ' H' → t { D with nx := Pv m, ct := Pv m, bk := D.nx } (σ'.set j (some (.int (m : Int)))) H') ∧ (∀ σ' H', Pv 0 σ' H' → D.nx σ' H'))
    (mono : ∀ Q1 Q2 : VK, (∀ v H', Q1 v H' → Q2 v H') → te σ H Q1 → te σ H Q2) : tFor (iRevR (tRg1 te)) (gName j) t D σ H := by
  refine mono _ _ (fun x H1 hx => ?_) h
  obtain ⟨n, rfl, hn, Pv, h0, hs, hd⟩ := hx
  refine ⟨n, rfl, by omega, by omega, by omega, by omega, ?_⟩
  have e0 : ((n : Int) - 0).toNat = n := by omega
  rw [e0]
  refine for_rangeC (lo := 0 + (n : Int) - 1) (c := -1) (n := n) (fun i σ' H' => i ≤ n ∧ Pv (n - i) σ' H') ⟨Nat.zero_le _, h0⟩ (fun i σ' H' hi hp => ?_) (fun σ' H' hp => ?_)
  · have e1 : n - i = (n - (i + 1)) + 1 := by omega
    have e2 : (0 + (n : Int) - 1 + (i : Int) * -1) = ((n - (i + 1) : Nat) : Int) := by omega
    rw [e2]
    have hp2 := hp.2
    rw [e1] at hp2
    have hb := hs (n - (i + 1)) σ' H' (by omega) hp2
    have e3 : (fun σ' H' => i + 1 ≤ n ∧ Pv (n - (i + 1)) σ' H') = Pv (n - (i + 1)) := by
      funext a b
      exact propext ⟨fun z => z.2, fun z => ⟨hi, z⟩⟩
    show t _ _ _
    rw [e3]
    exact hb
  · have z := hp.2
    rw [Nat.sub_self] at z
    exact hd σ' H' z
theorem mono_var {k : Nat} (Q1 Q2 : VK) (f : ∀ v H', Q1 v H' → Q2 v H') (h : tVar k σ H Q1) : tVar k σ H Q2 := let ⟨v, e, q⟩ := h; ⟨v, e, f v H q⟩
end
theorem i2_pos (n : Nat) : (0 : Int) < 2 ^ n := Int.pow_pos (by decide)
theorem i2_lt {n m : Nat} (h : n < m) : (2 : Int) ^ n < 2 ^ m := Int.pow_lt_pow_of_lt (by decide) h
theorem i2_nat (n : Nat) : (2 : Int) ^ n = ((2 ^ n : Nat) : Int) := by rw [Int.natCast_pow]; rfl
theorem i4_nat (n : Nat) : (2 : Int) ^ (2 * n) = ((4 ^ n : Nat) : Int) := by rw [Int.pow_mul, Int.natCast_pow]; rfl
theorem n2_lt {n m : Nat} (h : n < m) : 2 ^ n < 2 ^ m := Nat.pow_lt_pow_right (by decide) h
theorem sq_int (n : Nat) : (2 : Int) ^ n * 2 ^ n = ((4 ^ n : Nat) : Int) := by
  rw [← sq4 n, Int.natCast_mul, Int.natCast_pow]
  rfl
/-- one factor a side of a floor -/
theorem cmul2 {n : Nat} {j : Int} (h : n ≤ 63) : CMul (2 ^ n) j := .inl ⟨by have := i2_pos n; omega, i2_lt (by omega)⟩
theorem abs_div {z d : Int} (hd : 0 < d) : (z / d).natAbs ≤ z.natAbs := by
  rcases Int.le_total 0 z with h | h
  · have a := Int.ediv_nonneg h (Int.le_of_lt hd)
    have b := Int.ediv_le_self d h
    omega
  · have a : z / d ≤ 0 := by
      have : z / d < 1 := (Int.ediv_lt_iff_lt_mul hd).mpr (by omega)
      omega
    have b : z ≤ z / d := (Int.le_ediv_iff_mul_le hd).mpr (by
      have := Int.mul_le_mul_of_nonpos_left h (show (1 : Int) ≤ d by omega)
      omega)
    omega
/-- of at most 2 ^ 20 bits -/
def Big (z : Int) : Prop := Builtin.Int.intBits z ≤ 1048576
theorem Big.div {z d : Int} (h : Big z) (hd : 0 < d) : Big (z / d) :=
  Nat.le_trans (PyProof.Rows.intBits_le (Nat.lt_of_le_of_lt (abs_div hd) (PyProof.Rows.natAbs_lt_pow_bits z))) h
/-- a great int times another of a few hundred bits -/
theorem Big.mul {z j : Int} {k : Nat} (h : Big z) (hj : j.natAbs < 2 ^ k) (hk : k ≤ 1000) : CMulX z j := by
  have hj2 := PyProof.Rows.intBits_le hj
  have h2 : Builtin.Int.intBits z ≤ 1048576 := h
  unfold CMulX
  omega
theorem r_nt {A B : Prop} (h : A) : if (!false) = true then A else B := iteT h
theorem r_nf {A B : Prop} (h : B) : if (!true) = true then A else B := iteF h
theorem r_mulX {i j : Int} {Q : VK} {H : Hp} (c : CMulX i j) (h : Q (.int (i * j)) H) : rI CMulX (fun i j => .int (i * j)) (.int i) (.int j) H Q := ⟨i, j, rfl, rfl, c, h⟩
theorem n4_lt {n m : Nat} (h : n ≤ m) : 4 ^ n ≤ 4 ^ m := Nat.pow_le_pow_right (by decide) h
theorem eqv2 (x y x' y' : Int) : PyData.eqv (.tuple [.int x, .int y]) (.tuple [.int x', .int y']) = decide (x = x' ∧ y = y') := by
  rw [PyData.eqv, PyData.eqvAll, PyData.eqvAll, PyData.eqvAll, PyData.eqv, PyData.eqv]
  by_cases h1 : x = x' <;> by_cases h2 : y = y' <;> simp [h1, h2]
section
variable {σ : L2.St} {H : Hp} {Q : VK} {K : PySem.W.Frag} {a b : Addr} {x y x' y' : Int} {D : Ends} {t : TS} {te : TE}
theorem dp2 (h : H a = some (.tup [.int x, .int y])) : Dp K H (.ref a) (.tuple [.int x, .int y]) := .tup (.inl (.inl h)) (.cons (.int x) (.cons (.int y) .nil))
theorem r_neT (h1 : H a = some (.tup [.int x, .int y])) (h2 : H b = some (.tup [.int x', .int y'])) (h : Q (.bl (!decide (x = x' ∧ y = y'))) H) : rNeD K (.ref a) (.ref b) H Q :=
  ⟨_, _, dp2 h1, dp2 h2, rfl, rfl, by rw [eqv2]; exact h⟩
theorem r_eqT (h1 : H a = some (.tup [.int x, .int y])) (h2 : H b = some (.tup [.int x', .int y'])) (h : Q (.bl (decide (x = x' ∧ y = y'))) H) : rEqD K (.ref a) (.ref b) H Q :=
  ⟨_, _, dp2 h1, dp2 h2, rfl, rfl, by rw [eqv2]; exact h⟩
theorem mono_c {v : V} (Q1 Q2 : VK) (f : ∀ v H', Q1 v H' → Q2 v H') (h : tC v σ H Q1) : tC v σ H Q2 := f _ _ h
/-- for i in range(e): Pv i, i the turns that are done -/
theorem r_rng {j : Nat} (h : te σ H fun x H1 => ∃ n : Nat, x = .int n ∧ n ≤ 100000 ∧ ∃ Pv : Nat → L2.St → Hp → Prop, Pv 0 σ H1 ∧
      (∀ i σ' H', i < n → Pv i σ' H' → t { D with nx := Pv (i + 1), ct := Pv (i + 1), bk := D.nx } (σ'.set j (some (.int (i : Int)))) H') ∧ (∀ σ' H', Pv n σ' H' → D.nx σ' H'))
    (mono : ∀ Q1 Q2 : VK, (∀ v H', Q1 v H' → Q2 v H') → te σ H Q1 → te σ H Q2) : tFor (iRng1 (tCons te tNil)) (gName j) t D σ H := by
  show te σ H _
  refine mono _ _ (fun x H1 hx => ?_) h
  obtain ⟨n, rfl, hn, Pv, h0, hs, hd⟩ := hx
  refine ⟨n, rfl, by omega, by omega, ?_⟩
  rw [Int.toNat_natCast]
  refine for_range (lo := 0) (n := n) Pv h0 (fun i σ' H' hi hp => ?_) hd
  rw [Int.zero_add]
  exact hs i σ' H' hi hp
end
/-- the cells of one fold more, as the document tells them -/
theorem fold_due {n p : Nat} (h : p < 4 ^ n) :
    (((cx (n + 1) (0 * 4 ^ n + p) : Nat) : Int) = (cy n p : Nat) ∧ ((cy (n + 1) (0 * 4 ^ n + p) : Nat) : Int) = (cx n p : Nat)) ∧
    (((cx (n + 1) (1 * 4 ^ n + p) : Nat) : Int) = (cx n p : Nat) ∧ ((cy (n + 1) (1 * 4 ^ n + p) : Nat) : Int) = (cy n p : Nat) + 2 ^ n) ∧
    (((cx (n + 1) (2 * 4 ^ n + p) : Nat) : Int) = (cx n p : Nat) + 2 ^ n ∧ ((cy (n + 1) (2 * 4 ^ n + p) : Nat) : Int) = (cy n p : Nat) + 2 ^ n) ∧
    (((cx (n + 1) (3 * 4 ^ n + p) : Nat) : Int) = 2 * 2 ^ n - 1 - (cy n p : Nat) ∧ ((cy (n + 1) (3 * 4 ^ n + p) : Nat) : Int) = 2 ^ n - 1 - (cx n p : Nat)) := by
  have a := fold0 h
  have b := fold1 h
  have c := fold2 h
  have d := fold3 h
  rw [Nat.zero_mul, Nat.zero_add, i2_nat]
  omega
theorem r_notInL {K : PySem.W.Frag} {x : V} {p : Addr} {xs : List V} {H : Hp} {Q : VK} {b : Bool} (e : H p = some (.lst xs)) (hb : inV x xs = b) (fx : flatV x = true) (fs : xs.all flatV = true) (h : Q (.bl (!b)) H) : rIn K true x (.ref p) H Q :=
  ⟨p, xs, rfl, .inl (.inl (.inl e)), fx, fs, by rw [hb]; exact h⟩
section
variable {D : Ends} {σ : L2.St} {H : Hp} {t : TS} {te tl : TE} {g : TG} {Q : VK} {K : PySem.W.Frag} {x y : V}
/-! ### for over a list, over a tuple -/
def ForL (K : PySem.W.Frag) (g : TG) (tb : TS) (D : Ends) (σ : L2.St) (x : V) (H1 : Hp) : Prop := ∃ a, x = .ref a ∧ (∃ xs, SqL K H1 a xs) ∧ ∃ W : Nat → Nat → L2.St → Hp → Prop, (∃ m, W 0 m σ H1) ∧ ∀ i m σ H, W i m σ H →
  ((Itl K a).stop i H ∧ D.nx σ H) ∨ ((Itl K a).go i H ∧ ∃ N : L2.St → Hp → Prop, (∀ σ' H', N σ' H' → ∃ m', m' < m ∧ W (i + 1) m' σ' H') ∧ ∀ x H', (Itl K a).yld i H x H' → g x σ H' fun σ2 H2 => tb { D with nx := N, ct := N, bk := D.nx } σ2 H2)
theorem r_forL (h : tl σ H fun x H1 => ForL K g t D σ x H1) : tFor (iList K tl) g t D σ H := h
theorem n_forL {a : Addr} {xs : List V} {j : Nat} (Pv : Nat → L2.St → Hp → Prop) (e : SqL K H a xs) (h0 : Pv 0 σ H) (hl : ∀ i σ' H', Pv i σ' H' → SqL K H' a xs)
    (hs : ∀ i x σ' H', xs[i]? = some x → Pv i σ' H' → t { D with nx := Pv (i + 1), ct := Pv (i + 1), bk := D.nx } (σ'.set j (some x)) H') (hd : ∀ σ' H', Pv xs.length σ' H' → D.nx σ' H') : ForL K (gName j) t D σ (.ref a) H :=
  ⟨a, rfl, ⟨xs, e⟩, for_list Pv h0 (fun i σ' H' _ p => hl i σ' H' p) hs hd⟩
theorem r_sl {r : V → Option Int → Option Int → Hp → VK → Prop} {tl th : TO} (h : te σ H fun x H1 => tl σ H1 fun l H2 => th σ H2 fun u H3 => r x l u H3 Q) : tSl r te tl th σ H Q := h
theorem r_part {QO : Option Int → Hp → Prop} (h : te σ H fun x H1 => ∃ i, x = .int i ∧ QO (some i) H1) : tPart te σ H QO := h
theorem r_nopart {QO : Option Int → Hp → Prop} (h : QO none H) : tNoPart σ H QO := h
theorem r_some {i : Int} {R : Int → Prop} (h : R i) : ∃ k, V.int i = .int k ∧ R k := ⟨i, rfl, h⟩
theorem r_slL {a : Addr} {xs : List V} {lo hi : Option Int} (e : SqL K H a xs) (h : ∀ p H', H p = none → Same H H' → H' p = some (.lst (cutV xs lo hi)) → Q (.ref p) H') : rSlL K (.ref a) lo hi H Q :=
  ⟨a, xs, rfl, e, fun p hp => h p _ hp (same_upd hp) upd_same⟩
theorem mem_cut {xs : List V} {lo hi : Option Int} {x : V} {i : Nat} (h : (cutV xs lo hi)[i]? = some x) : x ∈ xs :=
  List.mem_of_mem_drop (List.mem_of_mem_take (List.mem_of_getElem? h))
theorem int_of_cut {ns : List Int} {lo hi : Option Int} {x : V} {i : Nat} (h : (cutV (ns.map V.int) lo hi)[i]? = some x) : ∃ z ∈ ns, x = .int z := by
  obtain ⟨z, hz, e⟩ := List.mem_map.mp (mem_cut h)
  exact ⟨z, hz, e.symm⟩
/-! ### [e for x in t], no test -/
theorem mono_lc {D' : Addr} {H1 : Hp} {xs ys : List V} {j : Nat} {vs : List Nat} (hl : ys.length = xs.length) (hz : xs.length ≤ 1000) (hw : ∀ x, wipe ((wipe σ vs).set j (some x)) vs = wipe σ vs)
    (he : ∀ (i : Nat) (x y : V) (H2 : Hp), xs[i]? = some x → ys[i]? = some y → Same H1 H2 → ∀ Q' : VK, (∀ H3, Same H2 H3 → Q' y H3) → te ((wipe σ vs).set j (some x)) H2 Q') (nD : H1 D' = none) :
    let Pv : Nat → Hp → Prop := fun i H2 => Same H1 H2 ∧ H2 D' = some (.lst (ys.take i))
    Pv 0 (upd H1 D' (.lst [])) ∧ ∀ (i : Nat) (x : V) (H2 : Hp), xs[i]? = some x → Pv i H2 → gName j x (wipe σ vs) H2 fun σ2 H3 => wipe σ2 vs = wipe σ vs ∧ tYes σ2 H3 fun b H4 => if b = true then te σ2 H4 fun y H5 => ∃ acc, H5 D' = some (.lst acc) ∧ acc.length < sizeLine ∧ Pv (i + 1) (upd H5 D' (.lst (acc ++ [y]))) else Pv (i + 1) H4 := by
  intro Pv
  refine ⟨⟨same_upd nD, ?_⟩, fun i x H2 hi hp => ⟨hw x, ?_⟩⟩
  · rw [upd_same, List.take_zero]
  · have hlt : i < ys.length := by rw [hl]; exact (List.getElem?_eq_some_iff.mp hi).1
    show if true = true then te ((wipe σ vs).set j (some x)) H2 (fun y H5 => ∃ acc, H5 D' = some (.lst acc) ∧ acc.length < sizeLine ∧ Pv (i + 1) (upd H5 D' (.lst (acc ++ [y])))) else Pv (i + 1) H2
    refine iteT ?_
    refine he i x ys[i] H2 hi (List.getElem?_eq_getElem hlt) hp.1 _ fun H3 s3 => ⟨ys.take i, s3 _ _ hp.2, ?_, ?_, ?_⟩
    · rw [List.length_take]
      exact small1000 (by omega)
    · intro b o e
      rw [upd_ne (ne_of_none e nD)]
      exact s3 _ _ (hp.1 _ _ e)
    · rw [upd_same, List.take_add_one, List.getElem?_eq_getElem hlt]
      rfl
def LcT (K : PySem.W.Frag) (g : TG) (te : TE) (vs : List Nat) (σ : L2.St) (Q : VK) (x : V) (H1 : Hp) : Prop := ∃ a, x = .ref a ∧ (∃ xs, SqT K H1 a xs) ∧ ∀ D, H1 D = none → ∃ W : Nat → Nat → Hp → Prop, (∃ m, W 0 m (upd H1 D (.lst []))) ∧ ∀ i m H, W i m H →
  ((Itt K a).stop i H ∧ Q (.ref D) H) ∨ ((Itt K a).go i H ∧ ∃ Nx : Hp → Prop, (∀ H', Nx H' → ∃ m', m' < m ∧ W (i + 1) m' H') ∧ ∀ x H', (Itt K a).yld i H x H' → g x (wipe σ vs) H' fun σ2 H2 => wipe σ2 vs = wipe σ vs ∧ tYes σ2 H2 fun b H3 =>
    if b = true then te σ2 H3 fun y H4 => ∃ acc, H4 D = some (.lst acc) ∧ acc.length < sizeLine ∧ Nx (upd H4 D (.lst (acc ++ [y]))) else Nx H3)
theorem r_lcT {vs : List Nat} (h : tl σ H fun x H1 => LcT K g te vs σ Q x H1) : tLc (iTup K tl) g tYes te vs σ H Q := h
theorem n_lcT {a : Addr} {xs : List V} {j : Nat} {vs : List Nat} (ys : List V) (e : H a = some (.tup xs)) (hl : ys.length = xs.length) (hz : xs.length ≤ 1000) (hw : ∀ x, wipe ((wipe σ vs).set j (some x)) vs = wipe σ vs)
    (he : ∀ (i : Nat) (x y : V) (H2 : Hp), xs[i]? = some x → ys[i]? = some y → Same H H2 → ∀ Q' : VK, (∀ H3, Same H2 H3 → Q' y H3) → te ((wipe σ vs).set j (some x)) H2 Q')
    (hd : ∀ D H2, H D = none → Same H H2 → H2 D = some (.lst ys) → Q (.ref D) H2) : LcT K (gName j) te vs σ Q (.ref a) H :=
  ⟨a, rfl, ⟨xs, .inl (.inl e)⟩, fun D nD => by
    obtain ⟨h0, hs⟩ := mono_lc (te := te) (σ := σ) (vs := vs) (j := j) hl hz hw he nD
    exact lc_tup (fun i H2 => Same H H2 ∧ H2 D = some (.lst (ys.take i))) h0 (fun i H2 _ p => .inl (.inl (p.1 _ _ e))) hs fun H2 p => hd D H2 nD p.1 (by rw [← hl, List.take_length] at p; exact p.2)⟩
def LcL (K : PySem.W.Frag) (g : TG) (te : TE) (vs : List Nat) (σ : L2.St) (Q : VK) (x : V) (H1 : Hp) : Prop := ∃ a, x = .ref a ∧ (∃ xs, SqL K H1 a xs) ∧ ∀ D, H1 D = none → ∃ W : Nat → Nat → Hp → Prop, (∃ m, W 0 m (upd H1 D (.lst []))) ∧ ∀ i m H, W i m H →
  ((Itl K a).stop i H ∧ Q (.ref D) H) ∨ ((Itl K a).go i H ∧ ∃ Nx : Hp → Prop, (∀ H', Nx H' → ∃ m', m' < m ∧ W (i + 1) m' H') ∧ ∀ x H', (Itl K a).yld i H x H' → g x (wipe σ vs) H' fun σ2 H2 => wipe σ2 vs = wipe σ vs ∧ tYes σ2 H2 fun b H3 =>
    if b = true then te σ2 H3 fun y H4 => ∃ acc, H4 D = some (.lst acc) ∧ acc.length < sizeLine ∧ Nx (upd H4 D (.lst (acc ++ [y]))) else Nx H3)
theorem r_lcL {vs : List Nat} (h : tl σ H fun x H1 => LcL K g te vs σ Q x H1) : tLc (iList K tl) g tYes te vs σ H Q := h
theorem n_lcL {a : Addr} {xs : List V} {j : Nat} {vs : List Nat} (ys : List V) (e : H a = some (.lst xs)) (hl : ys.length = xs.length) (hz : xs.length ≤ 1000) (hw : ∀ x, wipe ((wipe σ vs).set j (some x)) vs = wipe σ vs)
    (he : ∀ (i : Nat) (x y : V) (H2 : Hp), xs[i]? = some x → ys[i]? = some y → Same H H2 → ∀ Q' : VK, (∀ H3, Same H2 H3 → Q' y H3) → te ((wipe σ vs).set j (some x)) H2 Q')
    (hd : ∀ D H2, H D = none → Same H H2 → H2 D = some (.lst ys) → Q (.ref D) H2) : LcL K (gName j) te vs σ Q (.ref a) H :=
  ⟨a, rfl, ⟨xs, .inl (.inl e)⟩, fun D nD => by
    obtain ⟨h0, hs⟩ := mono_lc (te := te) (σ := σ) (vs := vs) (j := j) hl hz hw he nD
    exact lc_list (fun i H2 => Same H H2 ∧ H2 D = some (.lst (ys.take i))) h0 (fun i H2 _ p => .inl (.inl (p.1 _ _ e))) hs fun H2 p => hd D H2 nD p.1 (by rw [← hl, List.take_length] at p; exact p.2)⟩
theorem r_all {D' : Addr} {bs : List Bool} (e : H D' = some (.lst (bs.map V.bl))) (h : Q (.bl (bs.all id)) H) : rAll K [.ref D'] H Q := ⟨D', bs, rfl, .inl (.inl e), h⟩
theorem r_any {D' : Addr} {bs : List Bool} (e : H D' = some (.lst (bs.map V.bl))) (h : Q (.bl (bs.any id)) H) : rAny K [.ref D'] H Q := ⟨D', bs, rfl, .inl (.inl e), h⟩
end
theorem cmul_pow {a b : Nat} {i j : Int} (hi : i.natAbs < 2 ^ a) (hj : j.natAbs < 2 ^ b) (h : a + b ≤ 1000) : CMulX i j := mulx_ok hi hj (by omega)
theorem four_lt {n : Nat} (h : n ≤ 60) : 4 ^ n < 2 ^ 121 := Nat.lt_of_le_of_lt (n4_lt h) (by decide)
theorem and3 (i : Int) : Builtin.bitAnd i 3 = i % 4 := by
  have := PySem.W.kbt_mask i 2
  simpa using this
theorem dig_int (p k : Nat) : Builtin.bitAnd ((p : Int) / 2 ^ (2 * k)) 3 = ((p / 4 ^ k % 4 : Nat) : Int) := by
  rw [and3, i4_nat]
  omega
theorem qx_abs {d : Nat} (s t : Bool) (h : d < 4) : ((qx d s t : Nat) : Int).natAbs < 2 ^ 64 := by
  rw [Int.natAbs_natCast]
  exact Nat.lt_of_le_of_lt (qx_le s t h) (by decide)
theorem qy_abs {d : Nat} (s t : Bool) (h : d < 4) : ((qy d s t : Nat) : Int).natAbs < 2 ^ 64 := by
  rw [Int.natAbs_natCast]
  exact Nat.lt_of_le_of_lt (qy_le s t h) (by decide)
theorem two_le {n : Nat} (h : n ≤ 60) : 2 ^ n ≤ 2 ^ 60 := Nat.pow_le_pow_right (by decide) h
section
variable {D : Ends} {σ : L2.St} {H : Hp} {t : TS} {te to : TE} {tA : TA} {g : TG} {Q : VK} {K : PySem.W.Frag} {x y : V}
theorem r_callSD {sp : Sp} {dvs : List V} {E : L2.St → XK} (h : tA σ H fun vs H1 => sp (vs ++ dvs) H1 Q (E σ)) : tCallSD sp dvs E tA σ H Q := h
theorem r_bm {T : String} {r : V → List V → Hp → VK → Prop} (h : to σ H fun x H1 => tyV K T x H1 ∧ tA σ H1 fun xs H2 => r x xs H2 Q) : tBM K T r to tA σ H Q := h
/-! ### for over a range, by values -/
def ForR (g : TG) (tb : TS) (D : Ends) (σ : L2.St) (vs : List V) (H1 : Hp) : Prop := ∃ j : Int, vs = [.int j] ∧ -(2 ^ 62) ≤ j ∧ j < 2 ^ 62 ∧ ∃ W : Nat → Nat → L2.St → Hp → Prop, (∃ m, W 0 m σ H1) ∧ ∀ i m σ H, W i m σ H →
  ((Itr 0 j.toNat).stop i H ∧ D.nx σ H) ∨ ((Itr 0 j.toNat).go i H ∧ ∃ N : L2.St → Hp → Prop, (∀ σ' H', N σ' H' → ∃ m', m' < m ∧ W (i + 1) m' σ' H') ∧ ∀ x H', (Itr 0 j.toNat).yld i H x H' → g x σ H' fun σ2 H2 => tb { D with nx := N, ct := N, bk := D.nx } σ2 H2)
theorem r_forR (h : tA σ H fun vs H1 => ForR g t D σ vs H1) : tFor (iRng1 tA) g t D σ H := h
theorem n_forR {j : Nat} {z : Int} (n : Nat) (Pv : Nat → L2.St → Hp → Prop) (e : z = (n : Int)) (hn : n ≤ 100000) (h0 : Pv 0 σ H)
    (hs : ∀ i σ' H', i < n → Pv i σ' H' → t { D with nx := Pv (i + 1), ct := Pv (i + 1), bk := D.nx } (σ'.set j (some (.int (i : Int)))) H') (hd : ∀ σ' H', Pv n σ' H' → D.nx σ' H') : ForR (gName j) t D σ [.int z] H := by
  subst e
  refine ⟨n, rfl, by omega, by omega, ?_⟩
  rw [Int.toNat_natCast]
  refine for_range (lo := 0) (n := n) Pv h0 (fun i σ' H' hi hp => ?_) hd
  rw [Int.zero_add]
  exact hs i σ' H' hi hp
/-! ### while -/
theorem n_while {tc : TT} (W : Nat → L2.St → Hp → Prop) (m0 : Nat) (h0 : W m0 σ H)
    (hs : ∀ m σ' H', W m σ' H' → tc σ' H' fun b H1 => if b = true then ∃ N : L2.St → Hp → Prop, (∀ σ2 H2, N σ2 H2 → ∃ m', m' < m ∧ W m' σ2 H2) ∧ t { D with nx := N, ct := N, bk := D.nx } σ' H1 else D.nx σ' H1) : tWhile tc t D σ H := ⟨W, ⟨m0, h0⟩, hs⟩
end
/-! ### a list of pairs of places -/
def Prs (H : Hp) (L : Addr) (ps : List (Nat × Nat)) : Prop := ∃ ts : List Addr, H L = some (.lst (ts.map V.ref)) ∧ ts.length = ps.length ∧ ∀ (i : Nat) (t : Addr) (p : Nat × Nat), ts[i]? = some t → ps[i]? = some p → H t = some (.tup [.int (p.1 : Nat), .int (p.2 : Nat)])
theorem Prs.same {H H' : Hp} {L : Addr} {ps : List (Nat × Nat)} (h : Prs H L ps) (s : Same H H') : Prs H' L ps := by
  obtain ⟨ts, e, l, f⟩ := h
  exact ⟨ts, s _ _ e, l, fun i t p a b => s _ _ (f i t p a b)⟩
theorem Prs.nil {H : Hp} {L : Addr} (e : H L = some (.lst [])) : Prs H L [] := ⟨[], e, rfl, fun i t p a _ => by simp at a⟩
theorem Prs.snoc {H : Hp} {L t : Addr} {ps : List (Nat × Nat)} {ts : List Addr} {p : Nat × Nat} (e : H L = some (.lst (ts.map V.ref))) (l : ts.length = ps.length)
    (f : ∀ (i : Nat) (t : Addr) (p : Nat × Nat), ts[i]? = some t → ps[i]? = some p → H t = some (.tup [.int (p.1 : Nat), .int (p.2 : Nat)])) (ht : H t = some (.tup [.int (p.1 : Nat), .int (p.2 : Nat)])) :
    Prs (upd H L (.lst (ts.map V.ref ++ [.ref t]))) L (ps ++ [p]) := by
  refine ⟨ts ++ [t], ?_, ?_, fun i t' p' a b => ?_⟩
  · rw [upd_same, List.map_append]
    rfl
  · rw [List.length_append, List.length_append, l]
    rfl
  · by_cases hi : i < ts.length
    · rw [List.getElem?_append_left hi] at a
      rw [List.getElem?_append_left (by omega)] at b
      have z := f i t' p' a b
      rw [upd_ne (ne_of z e (fun q => nomatch q))]
      exact z
    · rw [List.getElem?_append_right (by omega)] at a
      rw [List.getElem?_append_right (by omega)] at b
      have h0 : i - ts.length = 0 := by
        obtain ⟨q, _⟩ := List.getElem?_eq_some_iff.mp a
        have q' : i - ts.length < 1 := q
        omega
      rw [h0] at a
      rw [← l, h0] at b
      have e1 : t = t' := Option.some.inj a
      have e2 : p = p' := Option.some.inj b
      rw [← e1, ← e2, upd_ne (ne_of ht e (fun q => nomatch q))]
      exact ht
theorem same_app {H H' : Hp} {L : Addr} {o : HO} (s : Same H H') (n : H L = none) : Same H (upd H' L o) := fun x u e => by
  rw [upd_ne (ne_of_none e n)]
  exact s x u e
/-- an error of the class at S is what «except S» names -/
theorem exm_self {K : PySem.W.Frag} {S : Addr} (h1 : PySem.W.subIn K (.ref S) (.type "BaseException") = some true) (h2 : PySem.W.isClsIn K S = true) (h3 : PySem.W.typeIn K (.ref S) = some (.type "type")) (h4 : PySem.W.subIn K (.ref S) (.ref S) = some true) :
    PySem.W.exmOne K (.ref S) (.ref S) = some true := by
  have e1 : (PySem.W.subIn K (.ref S) (.type "BaseException") == some true) = true := by rw [h1] <;> rfl
  have e2 : ((PySem.W.clsIn K S).isSome && PySem.W.typeIn K (.ref S) == some (.type "type")) = true := by
    have h2' : (PySem.W.clsIn K S).isSome = true := h2
    rw [h2', h3] <;> rfl
  show (if (PySem.W.subIn K (.ref S) (.type "BaseException") == some true) = true then (if ((PySem.W.clsIn K S).isSome && PySem.W.typeIn K (.ref S) == some (.type "type")) = true then PySem.W.subIn K (.ref S) (.ref S) else none) else none) = some true
  rw [if_pos e1, if_pos e2]
  exact h4
theorem binds_nil {K : PySem.W.Frag} {fd : FuncData} {ps : List Str} {xs : List V} (h : ∃ ds, Vals xs ds ∧ Binds K fd ps ds) (e : xs = [] := by rfl) : Binds K fd ps [] := by
  obtain ⟨ds, v, b⟩ := h
  subst e
  cases v
  exact b
end Fw

local macro_rules | `(tactic| walk_at "rd") => `(tactic| repeat (first
  | with_reducible refine Fw.r_seq ?_ | with_reducible refine Fw.r_asg ?_ | with_reducible refine Fw.r_name ?_ | ((with_reducible refine' Fw.r_var ?rdh ?_); case rdh => rfl) | with_reducible refine Fw.r_c ?_
  | with_reducible refine Fw.r_op ?_ | with_reducible refine Fw.r_I0 ?_ | ((with_reducible refine Fw.r_mod ?rdh ?_); case rdh => first | decide | omega) | ((with_reducible refine Fw.r_div ?rdh ?rdk ?_); (case rdh => first | decide | omega); (case rdk => first | decide | omega))
  | ((with_reducible refine Fw.r_mul ?rdh ?_); case rdh => first | exact .inl ⟨by decide, by decide⟩ | exact .inr ⟨by decide, by decide⟩ | exact .inl ⟨by omega, by omega⟩ | exact .inr ⟨by omega, by omega⟩)
  | with_reducible refine Fw.r_eqI ?_ | with_reducible refine Fw.r_neI ?_ | with_reducible refine Fw.r_neB ?_ | with_reducible refine Fw.r_eqS ?_
  | with_reducible refine Fw.r_ifS ?_ | with_reducible refine Fw.r_test ?_ | with_reducible refine Fw.r_B ?_ | with_reducible refine Fw.r_bl ?_ | with_reducible refine Fw.r_and ?_ | with_reducible refine Fw.r_or ?_ | with_reducible refine Fw.r_not ?_
  | with_reducible refine Fw.r_andV ?_ | with_reducible refine Fw.r_orV ?_ | with_reducible refine Fw.r_notV ?_ | with_reducible refine Fw.r_chain ?_ | with_reducible refine Fw.r_ret ?_ | with_reducible refine Fw.r_drop ?_
  | with_reducible refine Fw.r_brk ?_ | with_reducible refine Fw.r_cont ?_ | with_reducible refine Fw.r_next ?_
  | with_reducible refine Fw.r_call ?_ | with_reducible refine Fw.r_callS ?_ | with_reducible refine Fw.r_callSD ?_ | with_reducible refine Fw.r_bm ?_ | with_reducible refine Fw.r_cb ?_ | with_reducible refine Fw.r_cons ?_ | with_reducible refine Fw.r_nil ?_ | with_reducible refine Fw.r_tup ?_ | with_reducible refine Fw.r_lst ?_
  | with_reducible refine Fw.r_par ?_ | with_reducible refine Fw.r_two ?_ | ((with_reducible refine' Fw.r_aug ?rdh ?_); case rdh => rfl) | with_reducible refine Fw.r_ip ?_ | with_reducible refine Fw.r_un ?_ | with_reducible refine Fw.r_U ?_
  | with_reducible refine Fw.r_forL ?_ | with_reducible refine Fw.r_sl ?_ | with_reducible refine Fw.r_part ?_ | with_reducible refine Fw.r_nopart ?_ | with_reducible refine Fw.r_some ?_ | with_reducible refine Fw.r_lcT ?_ | with_reducible refine Fw.r_lcL ?_
  | with_reducible refine L2.iteT ?_ | with_reducible refine L2.iteF ?_ | with_reducible refine Fw.r_nt ?_ | with_reducible refine Fw.r_nf ?_))

namespace Fw
open PySem PySem.Spec PyProof.Rows L2
def topS (i : Nat) : Stmt := PySem.Challenge.pw_foldwalk_k09_whole_stretches.main.body.getD i (.Pass ⟨0, 0, 0, 0⟩)
abbrev s_side_of : Stmt := topS 10
abbrev s_quarter_at : Stmt := topS 11
abbrev s_turn_at : Stmt := topS 12
abbrev s_folded : Stmt := topS 13
abbrev s_cell_at : Stmt := topS 14
abbrev s_place_of : Stmt := topS 15
abbrev s_looked_at : Stmt := topS 17
abbrev s_shared : Stmt := topS 18
abbrev s_counted : Stmt := topS 19
abbrev s_picked : Stmt := topS 20
abbrev s_next_in : Stmt := topS 23
abbrev s_next_out : Stmt := topS 24
abbrev s_stretches : Stmt := topS 25
abbrev s__law_cell_at : Stmt := topS 27
abbrev s__law_whole : Stmt := topS 28
abbrev s__law_folds : Stmt := topS 29
abbrev s__law_place : Stmt := topS 30
abbrev s__law_line : Stmt := topS 31
abbrev s__law_span : Stmt := topS 32
abbrev s__law_box : Stmt := topS 33
abbrev s__law_within : Stmt := topS 34
abbrev s__law_in_order : Stmt := topS 35
abbrev s__law_in_squares : Stmt := topS 36
abbrev s__law_is_place : Stmt := topS 37
abbrev s__law_more : Stmt := topS 38
abbrev s__law_places : Stmt := topS 39
abbrev s_law : Stmt := topS 40
/-- a box as the tuple that tells it -/
abbrev bt (B : Box) : List V := [.int B.l, .int B.o, .int B.r, .int B.h]
/-- what the top has written -/
structure Txt (K : PySem.W.Frag) (mg : Str → Option Value) where
  a_side_of : Addr
  d_side_of : FuncData
  F_side_of : Fun K "side_of" "side_of" s_side_of a_side_of d_side_of
  m_side_of : mg "side_of" = some (.ref a_side_of)
  b_side_of : Binds K d_side_of ["folds"] []
  a_quarter_at : Addr
  d_quarter_at : FuncData
  F_quarter_at : Fun K "quarter_at" "quarter_at" s_quarter_at a_quarter_at d_quarter_at
  m_quarter_at : mg "quarter_at" = some (.ref a_quarter_at)
  b_quarter_at : Binds K d_quarter_at ["turn", "swapped", "turned"] []
  a_turn_at : Addr
  d_turn_at : FuncData
  F_turn_at : Fun K "turn_at" "turn_at" s_turn_at a_turn_at d_turn_at
  m_turn_at : mg "turn_at" = some (.ref a_turn_at)
  b_turn_at : Binds K d_turn_at ["right", "up", "swapped", "turned"] []
  a_folded : Addr
  d_folded : FuncData
  F_folded : Fun K "folded" "folded" s_folded a_folded d_folded
  m_folded : mg "folded" = some (.ref a_folded)
  b_folded : Binds K d_folded ["turn", "swapped", "turned"] []
  a_cell_at : Addr
  d_cell_at : FuncData
  F_cell_at : Fun K "cell_at" "cell_at" s_cell_at a_cell_at d_cell_at
  m_cell_at : mg "cell_at" = some (.ref a_cell_at)
  b_cell_at : Binds K d_cell_at ["folds", "place"] []
  a_place_of : Addr
  d_place_of : FuncData
  F_place_of : Fun K "place_of" "place_of" s_place_of a_place_of d_place_of
  m_place_of : mg "place_of" = some (.ref a_place_of)
  b_place_of : Binds K d_place_of ["folds", "cell"] []
  a_looked_at : Addr
  d_looked_at : FuncData
  F_looked_at : Fun K "looked_at" "looked_at" s_looked_at a_looked_at d_looked_at
  m_looked_at : mg "looked_at" = some (.ref a_looked_at)
  b_looked_at : Binds K d_looked_at ["folds", "box"] []
  a_shared : Addr
  d_shared : FuncData
  F_shared : Fun K "shared" "shared" s_shared a_shared d_shared
  m_shared : mg "shared" = some (.ref a_shared)
  b_shared : Binds K d_shared ["box", "left", "low", "broad"] []
  a_counted : Addr
  d_counted : FuncData
  F_counted : Fun K "counted" "counted" s_counted a_counted d_counted
  m_counted : mg "counted" = some (.ref a_counted)
  b_counted : Binds K d_counted ["folds", "box", "place"] []
  a_picked : Addr
  d_picked : FuncData
  F_picked : Fun K "picked" "picked" s_picked a_picked d_picked
  m_picked : mg "picked" = some (.ref a_picked)
  b_picked : Binds K d_picked ["folds", "box", "number", "inside"] []
  a_next_in : Addr
  d_next_in : FuncData
  F_next_in : Fun K "next_in" "next_in" s_next_in a_next_in d_next_in
  m_next_in : mg "next_in" = some (.ref a_next_in)
  b_next_in : Binds K d_next_in ["folds", "box", "place"] []
  a_next_out : Addr
  d_next_out : FuncData
  F_next_out : Fun K "next_out" "next_out" s_next_out a_next_out d_next_out
  m_next_out : mg "next_out" = some (.ref a_next_out)
  b_next_out : Binds K d_next_out ["folds", "box", "place"] []
  a_stretches : Addr
  d_stretches : FuncData
  F_stretches : FunD K "stretches" "stretches" (defArgs s_stretches) (defBody s_stretches) (defScope s_stretches) [.int 16] [] a_stretches d_stretches
  m_stretches : mg "stretches" = some (.ref a_stretches)
  b_stretches : Binds K d_stretches ["folds", "box", "most"] []
  bd_stretches : ∃ ds, Vals [.int 16] ds ∧ Binds K d_stretches ["folds", "box", "most"] ds
  a__law_cell_at : Addr
  d__law_cell_at : FuncData
  F__law_cell_at : Fun K "_law_cell_at" "_law_cell_at" s__law_cell_at a__law_cell_at d__law_cell_at
  m__law_cell_at : mg "_law_cell_at" = some (.ref a__law_cell_at)
  b__law_cell_at : Binds K d__law_cell_at ["_law_script", "_law_k"] []
  a__law_whole : Addr
  d__law_whole : FuncData
  F__law_whole : Fun K "_law_whole" "_law_whole" s__law_whole a__law_whole d__law_whole
  m__law_whole : mg "_law_whole" = some (.ref a__law_whole)
  b__law_whole : Binds K d__law_whole ["_law_found"] []
  a__law_folds : Addr
  d__law_folds : FuncData
  F__law_folds : Fun K "_law_folds" "_law_folds" s__law_folds a__law_folds d__law_folds
  m__law_folds : mg "_law_folds" = some (.ref a__law_folds)
  b__law_folds : Binds K d__law_folds ["_law_cell"] []
  a__law_place : Addr
  d__law_place : FuncData
  F__law_place : Fun K "_law_place" "_law_place" s__law_place a__law_place d__law_place
  m__law_place : mg "_law_place" = some (.ref a__law_place)
  b__law_place : Binds K d__law_place ["_law_cell", "_law_folds_here"] []
  a__law_line : Addr
  d__law_line : FuncData
  F__law_line : Fun K "_law_line" "_law_line" s__law_line a__law_line d__law_line
  m__law_line : mg "_law_line" = some (.ref a__law_line)
  b__law_line : Binds K d__law_line ["_law_cell", "_law_folds_here"] []
  a__law_span : Addr
  d__law_span : FuncData
  F__law_span : Fun K "_law_span" "_law_span" s__law_span a__law_span d__law_span
  m__law_span : mg "_law_span" = some (.ref a__law_span)
  b__law_span : Binds K d__law_span ["_law_one", "_law_two", "_law_folds_here"] []
  a__law_box : Addr
  d__law_box : FuncData
  F__law_box : Fun K "_law_box" "_law_box" s__law_box a__law_box d__law_box
  m__law_box : mg "_law_box" = some (.ref a__law_box)
  b__law_box : Binds K d__law_box ["_law_script", "_law_at", "_law_folds_here"] []
  a__law_within : Addr
  d__law_within : FuncData
  F__law_within : Fun K "_law_within" "_law_within" s__law_within a__law_within d__law_within
  m__law_within : mg "_law_within" = some (.ref a__law_within)
  b__law_within : Binds K d__law_within ["_law_cell", "_law_box_here"] []
  a__law_in_order : Addr
  d__law_in_order : FuncData
  F__law_in_order : Fun K "_law_in_order" "_law_in_order" s__law_in_order a__law_in_order d__law_in_order
  m__law_in_order : mg "_law_in_order" = some (.ref a__law_in_order)
  b__law_in_order : Binds K d__law_in_order ["_law_told", "_law_most", "_law_many"] []
  a__law_in_squares : Addr
  d__law_in_squares : FuncData
  F__law_in_squares : Fun K "_law_in_squares" "_law_in_squares" s__law_in_squares a__law_in_squares d__law_in_squares
  m__law_in_squares : mg "_law_in_squares" = some (.ref a__law_in_squares)
  b__law_in_squares : Binds K d__law_in_squares ["_law_folds_here", "_law_box_here", "_law_pair"] []
  a__law_is_place : Addr
  d__law_is_place : FuncData
  F__law_is_place : Fun K "_law_is_place" "_law_is_place" s__law_is_place a__law_is_place d__law_is_place
  m__law_is_place : mg "_law_is_place" = some (.ref a__law_is_place)
  b__law_is_place : Binds K d__law_is_place ["_law_found", "_law_least", "_law_many"] []
  a__law_more : Addr
  d__law_more : FuncData
  F__law_more : Fun K "_law_more" "_law_more" s__law_more a__law_more d__law_more
  m__law_more : mg "_law_more" = some (.ref a__law_more)
  b__law_more : Binds K d__law_more ["_law_folds_here", "_law_box_here", "_law_most"] []
  a__law_places : Addr
  d__law_places : FuncData
  F__law_places : Fun K "_law_places" "_law_places" s__law_places a__law_places d__law_places
  m__law_places : mg "_law_places" = some (.ref a__law_places)
  b__law_places : Binds K d__law_places ["_law_folds_here", "_law_box_here", "_law_told", "_law_cells"] []
  a_law : Addr
  d_law : FuncData
  F_law : Fun K "law" "law" s_law a_law d_law
  m_law : mg "law" = some (.ref a_law)
  b_law : Binds K d_law ["_law_script"] []
  c_TooMany : Addr
  g_TooMany : mg "TooMany" = some (.ref c_TooMany)
  x_TooMany : PySem.W.excIn K c_TooMany [.type "ValueError", .type "Exception", .type "BaseException", .type "object"] "ValueError.__new__" = true
  k_TooMany : PySem.W.keepIn K (.ref c_TooMany) = true
  r_TooMany : PySem.W.subIn K (.ref c_TooMany) (.type "BaseException") = some true
  t_TooMany : PySem.W.typeIn K (.ref c_TooMany) = some (.type "type")
  i_TooMany : PySem.W.isClsIn K c_TooMany = true
  s_TooMany_TooMany : PySem.W.subIn K (.ref c_TooMany) (.ref c_TooMany) = some true
  g_MOST_FOLDS : ∃ t, mg "MOST_FOLDS" = some (.int 60 t)
  g_MOST_TOLD : ∃ t, mg "MOST_TOLD" = some (.int 100 t)
  n_ValueError : mg "ValueError" = none
  n_all : mg "all" = none
  n_any : mg "any" = none
  n_bool : mg "bool" = none
  n_int : mg "int" = none
  n_isinstance : mg "isinstance" = none
  n_len : mg "len" = none
  n_list : mg "list" = none
  n_max : mg "max" = none
  n_min : mg "min" = none
  n_range : mg "range" = none
  n_reversed : mg "reversed" = none
  n_sum : mg "sum" = none
  n_tuple : mg "tuple" = none
/-! side_of -/
theorem sc_side_of : FnScope ["folds"] ["folds"] (defScope s_side_of) := ⟨rfl, rfl, rfl, by decide +kernel, rfl, by decide +kernel, by decide +kernel⟩
/-- 1 << folds -/
def sp_side_of (K : PySem.W.Frag) : Sp := fun vs H Q _ => ∃ n : Nat, vs = [.int n] ∧ n ≤ 60 ∧ Q (.int (2 ^ n)) H
section
variable {P : Program} {w : World} {K : PySem.W.Frag} {mg : Str → Option Value} {base : Heap}
theorem ok_side_of (T : Txt K mg) : FnOk P w K mg base CX0 1 T.a_side_of T.d_side_of ["folds"] (sp_side_of K) := by
  refine T.F_side_of.ok sc_side_of (fun vs H Q E h => ?_) (fun cdv A outer s H vs Q E hr h => ?_)
  · obtain ⟨n, rfl, hn, q⟩ := h
    rfl
  · obtain ⟨n, rfl, hn, q⟩ := h
    refine ⟨_, (pss_cons (ps_if (PW.pt (pw_or (pt_cmpR op_lt (pv 0) pe_int (nomark _)) (pw_or1 (pt_cmpR op_gt (pv 0) (pe_glob (v := .int 60) rfl T.g_MOST_FOLDS.choose_spec ⟨_, rfl⟩) (nomark _))))) (pss_one ps_never) pss_nil)
      (pss_one (ps_ret (pe_op op_shl pe_int (pv 0))))), ?_⟩
    walk_at "rd"
    refine riteO (by omega) ?_
    walk_at "rd"
    refine riteO (by omega) ?_
    walk_at "rd"
    refine r_shl n rfl (by omega) (by decide) ?_
    rw [Int.one_mul]
    exact q
end
/-! quarter_at -/
theorem sc_quarter_at : FnScope ["turn", "swapped", "turned", "right", "up"] ["turn", "swapped", "turned"] (defScope s_quarter_at) := ⟨rfl, rfl, rfl, by decide +kernel, rfl, by decide +kernel, by decide +kernel⟩
def sp_quarter_at (K : PySem.W.Frag) : Sp := fun vs H Q _ => ∃ (d : Nat) (s t : Bool), vs = [.int d, .int (bI s), .int (bI t)] ∧ d < 4 ∧ RT [.int (qx d s t : Nat), .int (qy d s t : Nat)] H Q
theorem shr1 {d : Nat} (h : d < 4) : (d : Int) / 2 ^ 1 = (rt d : Nat) := by
  rcases d4 h with rfl | rfl | rfl | rfl <;> decide
theorem upb {d : Nat} (h : d < 4) : Builtin.bitAnd (Builtin.bitXor (d : Int) (rt d : Nat)) 1 = (ut d : Nat) := by
  rcases d4 h with rfl | rfl | rfl | rfl <;> decide
theorem flipb {a : Nat} (t : Bool) (h : a ≤ 1) : Builtin.bitXor (a : Int) (bI t) = (flip t a : Nat) := by
  rcases d2 (Nat.lt_succ_of_le h) with rfl | rfl <;> cases t <;> decide
theorem rt_le (d : Nat) : rt d ≤ 1 := by unfold rt; split <;> decide
theorem ut_le (d : Nat) : ut d ≤ 1 := by unfold ut; split <;> decide
section
variable {P : Program} {w : World} {K : PySem.W.Frag} {mg : Str → Option Value} {base : Heap}
theorem ok_quarter_at (T : Txt K mg) : FnOk P w K mg base CX0 1 T.a_quarter_at T.d_quarter_at ["turn", "swapped", "turned"] (sp_quarter_at K) := by
  refine T.F_quarter_at.ok sc_quarter_at (fun vs H Q E h => ?_) (fun cdv A outer s H vs Q E hr h => ?_)
  · obtain ⟨d, s', t', rfl, hd, q⟩ := h
    rfl
  · obtain ⟨d, s', t', rfl, hd, q⟩ := h
    refine ⟨_, (pss_cons (ps_set (i := 3) sc_quarter_at.nd rfl (.inl rfl) (pe_op op_shr (pv 0) pe_int))
      (pss_cons (ps_set (i := 4) sc_quarter_at.nd rfl (.inl rfl) (pe_op op_and (pe_op op_xor (pv 0) (pv 3)) pe_int))
      (pss_cons (ps_if (pt_cmpR op_eq (pv 1) pe_int (nomark _)) (pss_one (ps_par (i := 3) (j := 4) (by rfl) sc_quarter_at.nd rfl rfl (by decide) rfl rfl (pa_cons (pv 4) (pa_cons (pv 3) pa_nil)) (by rfl))) pss_nil)
      (pss_one (ps_ret (pe_tup (pa_cons (pe_op op_xor (pv 3) (pv 2)) (pa_cons (pe_op op_xor (pv 4) (pv 2)) pa_nil)))))))), ?_⟩
    walk_at "rd"
    refine r_shr 1 rfl ?_
    rw [shr1 hd]
    walk_at "rd"
    rw [upb hd]
    walk_at "rd"
    cases s'
    · refine riteO (by decide) ?_
      walk_at "rd"
      rw [flipb t' (rt_le d), flipb t' (ut_le d)]
      exact n_tup q
    · refine riteY (by decide) ?_
      walk_at "rd"
      rw [flipb t' (rt_le d), flipb t' (ut_le d)]
      exact n_tup q
end
/-! turn_at -/
theorem sc_turn_at : FnScope ["right", "up", "swapped", "turned"] ["right", "up", "swapped", "turned"] (defScope s_turn_at) := ⟨rfl, rfl, rfl, by decide +kernel, rfl, by decide +kernel, by decide +kernel⟩
def sp_turn_at (K : PySem.W.Frag) : Sp := fun vs H Q _ => ∃ (a b : Nat) (s t : Bool), vs = [.int a, .int b, .int (bI s), .int (bI t)] ∧ a < 2 ∧ b < 2 ∧ Q (.int (td a b s t : Nat)) H
theorem flip_le {a : Nat} (t : Bool) (h : a ≤ 1) : flip t a ≤ 1 := by unfold flip; split <;> omega
theorem xorb {a b : Nat} (ha : a ≤ 1) (hb : b ≤ 1) : 2 * (a : Int) + Builtin.bitXor (a : Int) (b : Nat) = ((2 * a + (if a = b then 0 else 1) : Nat) : Int) := by
  rcases d2 (Nat.lt_succ_of_le ha) with rfl | rfl <;> rcases d2 (Nat.lt_succ_of_le hb) with rfl | rfl <;> decide
section
variable {P : Program} {w : World} {K : PySem.W.Frag} {mg : Str → Option Value} {base : Heap}
theorem ok_turn_at (T : Txt K mg) : FnOk P w K mg base CX0 1 T.a_turn_at T.d_turn_at ["right", "up", "swapped", "turned"] (sp_turn_at K) := by
  refine T.F_turn_at.ok sc_turn_at (fun vs H Q E h => ?_) (fun cdv A outer s H vs Q E hr h => ?_)
  · obtain ⟨a, b, s', t', rfl, ha, hb, q⟩ := h
    rfl
  · obtain ⟨a, b, s', t', rfl, ha, hb, q⟩ := h
    refine ⟨_, (pss_cons (ps_set (i := 0) sc_turn_at.nd rfl (.inl rfl) (pe_op op_xor (pv 0) (pv 3)))
      (pss_cons (ps_set (i := 1) sc_turn_at.nd rfl (.inl rfl) (pe_op op_xor (pv 1) (pv 3)))
      (pss_cons (ps_if (pt_cmpR op_eq (pv 2) pe_int (nomark _)) (pss_one (ps_par (i := 0) (j := 1) (by rfl) sc_turn_at.nd rfl rfl (by decide) rfl rfl (pa_cons (pv 1) (pa_cons (pv 0) pa_nil)) (by rfl))) pss_nil)
      (pss_one (ps_ret (pe_op op_add (pe_op op_mul pe_int (pv 0)) (pe_op op_xor (pv 0) (pv 1)))))))), ?_⟩
    have ha' : a ≤ 1 := by omega
    have hb' : b ≤ 1 := by omega
    walk_at "rd"
    rw [flipb t' ha', flipb t' hb']
    cases s'
    · refine riteO (by decide) ?_
      walk_at "rd"
      rw [xorb (flip_le t' ha') (flip_le t' hb')]
      exact q
    · refine riteY (by decide) ?_
      walk_at "rd"
      rw [xorb (flip_le t' hb') (flip_le t' ha')]
      exact q
end
/-! folded -/
theorem sc_folded : FnScope ["turn", "swapped", "turned"] ["turn", "swapped", "turned"] (defScope s_folded) := ⟨rfl, rfl, rfl, by decide +kernel, rfl, by decide +kernel, by decide +kernel⟩
def sp_folded (K : PySem.W.Frag) : Sp := fun vs H Q _ => ∃ (d : Nat) (s t : Bool), vs = [.int d, .int (bI s), .int (bI t)] ∧ d < 4 ∧ RT [.int (bI (fs d s)), .int (bI (ft d t))] H Q
theorem notb (t : Bool) : Builtin.bitXor (bI t) 1 = bI (!t) := by cases t <;> decide
section
variable {P : Program} {w : World} {K : PySem.W.Frag} {mg : Str → Option Value} {base : Heap}
theorem ok_folded (T : Txt K mg) : FnOk P w K mg base CX0 1 T.a_folded T.d_folded ["turn", "swapped", "turned"] (sp_folded K) := by
  refine T.F_folded.ok sc_folded (fun vs H Q E h => ?_) (fun cdv A outer s H vs Q E hr h => ?_)
  · obtain ⟨d, s', t', rfl, hd, q⟩ := h
    rfl
  · obtain ⟨d, s', t', rfl, hd, q⟩ := h
    refine ⟨_, (pss_cons (ps_if (pt_cmpR op_eq (pv 0) pe_int (nomark _)) (pss_one (ps_ret (pe_tup (pa_cons (pe_op op_xor (pv 1) pe_int) (pa_cons (pv 2) pa_nil))))) pss_nil)
      (pss_cons (ps_if (pt_cmpR op_eq (pv 0) pe_int (nomark _)) (pss_one (ps_ret (pe_tup (pa_cons (pe_op op_xor (pv 1) pe_int) (pa_cons (pe_op op_xor (pv 2) pe_int) pa_nil))))) pss_nil)
      (pss_one (ps_ret (pe_tup (pa_cons (pv 1) (pa_cons (pv 2) pa_nil))))))), ?_⟩
    walk_at "rd"
    refine riteD (fun h0 => ?_) (fun h0 => ?_)
    · have e : d = 0 := by omega
      subst e
      walk_at "rd"
      rw [notb]
      exact n_tup q
    · walk_at "rd"
      refine riteD (fun h1 => ?_) (fun h1 => ?_)
      · have e : d = 3 := by omega
        subst e
        walk_at "rd"
        rw [notb, notb]
        exact n_tup q
      · walk_at "rd"
        have e1 : fs d s' = s' := by unfold fs; rw [if_neg (by omega)]
        have e2 : ft d t' = t' := by unfold ft; rw [if_neg (by omega)]
        rw [e1, e2] at q
        exact n_tup q
end
/-! cell_at -/
theorem sc_cell_at : FnScope ["folds", "place", "side", "x", "y", "swapped", "turned", "k", "turn", "right", "up"] ["folds", "place"] (defScope s_cell_at) := ⟨rfl, rfl, rfl, by decide +kernel, rfl, by decide +kernel, by decide +kernel⟩
def sp_cell_at (K : PySem.W.Frag) : Sp := fun vs H Q _ => ∃ (n p : Nat) (zn zp : Int), vs = [.int zn, .int zp] ∧ zn = (n : Int) ∧ zp = (p : Int) ∧ n ≤ 60 ∧ p < 4 ^ n ∧ RT [.int (cx n p : Nat), .int (cy n p : Nat)] H Q
/-- a turn of the walk's loop -/
theorem walk_step {p k x : Nat} {s t : Bool} {W : Nat → Bool → Bool → Nat → Nat} {f : Nat → Bool → Bool → Nat} {z : Nat}
    (hW : ∀ n s t p, W (n + 1) s t p = f (p / 4 ^ n % 4) s t * 2 ^ n + W n (fs (p / 4 ^ n % 4) s) (ft (p / 4 ^ n % 4) t) (p % 4 ^ n))
    (h : x * 2 ^ (k + 1) + W (k + 1) s t (p % 4 ^ (k + 1)) = z) :
    (2 * x + f (p / 4 ^ k % 4) s t) * 2 ^ k + W k (fs (p / 4 ^ k % 4) s) (ft (p / 4 ^ k % 4) t) (p % 4 ^ k) = z := by
  rw [hW] at h
  have e1 : p % 4 ^ (k + 1) / 4 ^ k % 4 = p / 4 ^ k % 4 := by
    rw [Nat.pow_succ, Nat.mod_mul_right_div_self, Nat.mod_mod]
  have e2 : p % 4 ^ (k + 1) % 4 ^ k = p % 4 ^ k := Nat.mod_mod_of_dvd _ ⟨4, Nat.pow_succ 4 k⟩
  rw [e1, e2, s2] at h
  rw [← h, Nat.add_mul, ← Nat.mul_assoc, Nat.mul_comm 2 x]
  omega
section
variable {P : Program} {w : World} {K : PySem.W.Frag} {mg : Str → Option Value} {base : Heap}
theorem ok_cell_at (T : Txt K mg) : FnOk P w K mg base CX0 2 T.a_cell_at T.d_cell_at ["folds", "place"] (sp_cell_at K) := by
  refine T.F_cell_at.ok sc_cell_at (fun vs H Q E h => ?_) (fun cdv A outer s H vs Q E hr h => ?_)
  · obtain ⟨n, p, zn, zp, rfl, rfl, rfl, hn, hp, q⟩ := h
    rfl
  · obtain ⟨n, p, zn, zp, rfl, rfl, rfl, hn, hp, q⟩ := h
    refine ⟨_, (pss_cons (ps_set (i := 2) sc_cell_at.nd rfl (.inl rfl) (pe_call (ok_side_of T) (hr.mono (by decide)) (by rfl) T.m_side_of T.F_side_of.kp T.b_side_of .nil pass0 (pa_cons (pv 0) pa_nil)))
      (pss_cons (ps_if (PW.pt (pw_or (pt_cmpR op_lt (pv 1) pe_int (nomark _)) (pw_or1 (pt_cmpR op_ge (pv 1) (pe_op op_mul (pv 2) (pv 2)) (nomark _))))) (pss_one ps_never) pss_nil)
      (pss_cons (ps_set (i := 3) sc_cell_at.nd rfl (.inl rfl) pe_int)
      (pss_cons (ps_set (i := 4) sc_cell_at.nd rfl (.inl rfl) pe_int)
      (pss_cons (ps_set (i := 5) sc_cell_at.nd rfl (.inl rfl) pe_int)
      (pss_cons (ps_set (i := 6) sc_cell_at.nd rfl (.inl rfl) pe_int)
      (pss_cons (ps_for PassesOwn.never rfl (pi_revR rfl T.n_reversed (prg_1 rfl T.n_range (pv 0))) (pg_name (i := 7) sc_cell_at.nd rfl (.inl rfl)) (pss_cons (ps_set (i := 8) sc_cell_at.nd rfl (.inl rfl) (pe_op op_and (pe_op op_shr (pv 1) (pe_op op_mul pe_int (pv 7))) pe_int))
      (pss_cons (ps_asg (pe_call (ok_quarter_at T) (hr.mono (by decide)) (by rfl) T.m_quarter_at T.F_quarter_at.kp T.b_quarter_at .nil pass0 (pa_cons (pv 8) (pa_cons (pv 5) (pa_cons (pv 6) pa_nil)))) (pg_tup (n := 2) rfl (pgs_cons (pg_name (i := 9) sc_cell_at.nd rfl (.inl rfl)) (pgs_cons (pg_name (i := 10) sc_cell_at.nd rfl (.inl rfl)) pgs_nil))))
      (pss_cons (ps_set (i := 3) sc_cell_at.nd rfl (.inl rfl) (pe_op op_add (pe_op op_mul pe_int (pv 3)) (pv 9)))
      (pss_cons (ps_set (i := 4) sc_cell_at.nd rfl (.inl rfl) (pe_op op_add (pe_op op_mul pe_int (pv 4)) (pv 10)))
      (pss_one (ps_asg (pe_call (ok_folded T) (hr.mono (by decide)) (by rfl) T.m_folded T.F_folded.kp T.b_folded .nil pass0 (pa_cons (pv 8) (pa_cons (pv 5) (pa_cons (pv 6) pa_nil)))) (pg_tup (n := 2) rfl (pgs_cons (pg_name (i := 5) sc_cell_at.nd rfl (.inl rfl)) (pgs_cons (pg_name (i := 6) sc_cell_at.nd rfl (.inl rfl)) pgs_nil))))))))))
      (pss_one (ps_ret (pe_tup (pa_cons (pv 3) (pa_cons (pv 4) pa_nil)))))))))))), ?_⟩
    walk_at "rd"
    refine ⟨n, rfl, hn, ?_⟩
    walk_at "rd"
    refine riteO (by omega) ?_
    walk_at "rd"
    refine r_mul (cmul2 (n := n) (by omega)) ?_
    rw [sq_int]
    walk_at "rd"
    refine riteO (by omega) ?_
    walk_at "rd"
    refine r_rev (r_var (by rfl) ?_) mono_var
    refine ⟨n, rfl, by omega, fun m σ' H' => Same H H' ∧ ∃ (x y : Nat) (s t : Bool) (o7 o8 o9 o10 : Option V), σ' = [some (.int n), some (.int p), some (.int (2 ^ n)), some (.int x), some (.int y), some (.int (bI s)), some (.int (bI t)), o7, o8, o9, o10] ∧
      x * 2 ^ m + WX m s t (p % 4 ^ m) = cx n p ∧ y * 2 ^ m + WY m s t (p % 4 ^ m) = cy n p, ?_, ?_, ?_⟩
    · refine ⟨Same.refl H, 0, 0, false, false, none, none, none, none, rfl, ?_, ?_⟩
      · rw [Nat.mod_eq_of_lt hp, Nat.zero_mul, Nat.zero_add]
      · rw [Nat.mod_eq_of_lt hp, Nat.zero_mul, Nat.zero_add]
    · rintro m σ' H' hm ⟨hs, x, y, s, t, o7, o8, o9, o10, rfl, ex, ey⟩
      walk_at "rd"
      refine r_shr (2 * m) (by omega) ?_
      walk_at "rd"
      rw [dig_int]
      refine ⟨p / 4 ^ m % 4, s, t, rfl, lt4 _, fun a H2 na s2 e2 => r_unp2 e2 ?_⟩
      walk_at "rd"
      refine ⟨p / 4 ^ m % 4, s, t, rfl, lt4 _, fun a3 H3 na3 s3 e3 => r_unp2 e3 ?_⟩
      refine ⟨hs.trans (s2.trans s3), 2 * x + qx (p / 4 ^ m % 4) s t, 2 * y + qy (p / 4 ^ m % 4) s t, _, _, _, _, _, _, rfl, ?_, ?_⟩
      · exact walk_step (W := WX) (f := qx) (fun _ _ _ _ => rfl) ex
      · exact walk_step (W := WY) (f := qy) (fun _ _ _ _ => rfl) ey
    · rintro σ' H' ⟨hs, x, y, s, t, o7, o8, o9, o10, rfl, ex, ey⟩
      walk_at "rd"
      rw [Nat.pow_zero, Nat.mul_one] at ex ey
      rw [show WX 0 s t (p % 4 ^ 0) = 0 from rfl, Nat.add_zero] at ex
      rw [show WY 0 s t (p % 4 ^ 0) = 0 from rfl, Nat.add_zero] at ey
      rw [← ex, ← ey] at q
      exact n_tup fun a H1 np s1 e1 => q a H1 (hs.free np) (hs.trans s1) e1
end
/-! place_of -/
theorem sc_place_of : FnScope ["folds", "cell", "side", "x", "y", "place", "swapped", "turned", "k", "turn"] ["folds", "cell"] (defScope s_place_of) := ⟨rfl, rfl, rfl, by decide +kernel, rfl, by decide +kernel, by decide +kernel⟩
def sp_place_of (K : PySem.W.Frag) : Sp := fun vs H Q _ => ∃ (n x y : Nat) (zx zy : Int) (a : Addr), vs = [.int n, .ref a] ∧ zx = (x : Int) ∧ zy = (y : Int) ∧ n ≤ 60 ∧ x < 2 ^ n ∧ y < 2 ^ n ∧ H a = some (.tup [.int zx, .int zy]) ∧ RV (.int (PL n false false x y : Nat)) H Q
theorem bit_int (x k : Nat) : Builtin.bitAnd ((x : Int) / 2 ^ k) 1 = ((x / 2 ^ k % 2 : Nat) : Int) := by
  rw [bitAnd_m1, i2_nat]
  omega
theorem pl_step {x y k z g : Nat} {s t : Bool} (h : g * 4 ^ (k + 1) + PL (k + 1) s t (x % 2 ^ (k + 1)) (y % 2 ^ (k + 1)) = z) :
    (4 * g + td (x / 2 ^ k % 2) (y / 2 ^ k % 2) s t) * 4 ^ k + PL k (fs (td (x / 2 ^ k % 2) (y / 2 ^ k % 2) s t) s) (ft (td (x / 2 ^ k % 2) (y / 2 ^ k % 2) s t) t) (x % 2 ^ k) (y % 2 ^ k) = z := by
  rw [PL] at h
  have e1 : ∀ x : Nat, x % 2 ^ (k + 1) / 2 ^ k % 2 = x / 2 ^ k % 2 := fun x => by
    rw [Nat.pow_succ, Nat.mod_mul_right_div_self, Nat.mod_mod]
  have e2 : ∀ x : Nat, x % 2 ^ (k + 1) % 2 ^ k = x % 2 ^ k := fun x => Nat.mod_mod_of_dvd _ ⟨2, Nat.pow_succ 2 k⟩
  rw [e1, e1, e2, e2, Fw.s4] at h
  rw [← h, Nat.add_mul, ← Nat.mul_assoc, Nat.mul_comm 4 g]
  omega
section
variable {P : Program} {w : World} {K : PySem.W.Frag} {mg : Str → Option Value} {base : Heap}
theorem ok_place_of (T : Txt K mg) : FnOk P w K mg base CX0 2 T.a_place_of T.d_place_of ["folds", "cell"] (sp_place_of K) := by
  refine T.F_place_of.ok sc_place_of (fun vs H Q E h => ?_) (fun cdv A outer s H vs Q E hr h => ?_)
  · obtain ⟨n, x, y, zx, zy, a, rfl, rfl, rfl, hn, hx, hy, ha, q⟩ := h
    rfl
  · obtain ⟨n, x, y, zx, zy, a, rfl, rfl, rfl, hn, hx, hy, ha, q⟩ := h
    refine ⟨_, (pss_cons (ps_set (i := 2) sc_place_of.nd rfl (.inl rfl) (pe_call (ok_side_of T) (hr.mono (by decide)) (by rfl) T.m_side_of T.F_side_of.kp T.b_side_of .nil pass0 (pa_cons (pv 0) pa_nil)))
      (pss_cons (ps_asg (pv 1) (pg_tup (n := 2) rfl (pgs_cons (pg_name (i := 3) sc_place_of.nd rfl (.inl rfl)) (pgs_cons (pg_name (i := 4) sc_place_of.nd rfl (.inl rfl)) pgs_nil))))
      (pss_cons (ps_if (PW.pt (pw_or (pt_cmpR op_lt (pe_callB (call_min2 rfl) (by rfl) T.n_min (by decide +kernel) (pa_cons (pv 3) (pa_cons (pv 4) pa_nil))) pe_int (nomark _)) (pw_or1 (pt_cmpR op_ge (pe_callB (call_max2 rfl) (by rfl) T.n_max (by decide +kernel) (pa_cons (pv 3) (pa_cons (pv 4) pa_nil))) (pv 2) (nomark _))))) (pss_one ps_never) pss_nil)
      (pss_cons (ps_set (i := 5) sc_place_of.nd rfl (.inl rfl) pe_int)
      (pss_cons (ps_set (i := 6) sc_place_of.nd rfl (.inl rfl) pe_int)
      (pss_cons (ps_set (i := 7) sc_place_of.nd rfl (.inl rfl) pe_int)
      (pss_cons (ps_for PassesOwn.never rfl (pi_revR rfl T.n_reversed (prg_1 rfl T.n_range (pv 0))) (pg_name (i := 8) sc_place_of.nd rfl (.inl rfl)) (pss_cons (ps_set (i := 9) sc_place_of.nd rfl (.inl rfl) (pe_call (ok_turn_at T) (hr.mono (by decide)) (by rfl) T.m_turn_at T.F_turn_at.kp T.b_turn_at .nil pass0 (pa_cons (pe_op op_and (pe_op op_shr (pv 3) (pv 8)) pe_int) (pa_cons (pe_op op_and (pe_op op_shr (pv 4) (pv 8)) pe_int) (pa_cons (pv 6) (pa_cons (pv 7) pa_nil))))))
      (pss_cons (ps_set (i := 5) sc_place_of.nd rfl (.inl rfl) (pe_op op_add (pe_op op_mul pe_int (pv 5)) (pv 9)))
      (pss_one (ps_asg (pe_call (ok_folded T) (hr.mono (by decide)) (by rfl) T.m_folded T.F_folded.kp T.b_folded .nil pass0 (pa_cons (pv 9) (pa_cons (pv 6) (pa_cons (pv 7) pa_nil)))) (pg_tup (n := 2) rfl (pgs_cons (pg_name (i := 6) sc_place_of.nd rfl (.inl rfl)) (pgs_cons (pg_name (i := 7) sc_place_of.nd rfl (.inl rfl)) pgs_nil))))))))
      (pss_one (ps_ret (pv 5)))))))))), ?_⟩
    have h2 := i2_nat n
    walk_at "rd"
    refine ⟨n, rfl, hn, ?_⟩
    walk_at "rd"
    refine r_unp2 ha ?_
    walk_at "rd"
    refine ⟨_, _, rfl, ?_⟩
    walk_at "rd"
    refine riteO (by split <;> omega) ?_
    walk_at "rd"
    refine ⟨_, _, rfl, ?_⟩
    walk_at "rd"
    refine riteO (by split <;> omega) ?_
    walk_at "rd"
    refine r_rev (r_var (by rfl) ?_) mono_var
    refine ⟨n, rfl, by omega, fun m σ' H' => Same H H' ∧ ∃ (g : Nat) (s t : Bool) (o8 o9 : Option V), σ' = [some (.int n), some (.ref a), some (.int (2 ^ n)), some (.int x), some (.int y), some (.int g), some (.int (bI s)), some (.int (bI t)), o8, o9] ∧
      g * 4 ^ m + PL m s t (x % 2 ^ m) (y % 2 ^ m) = PL n false false x y, ?_, ?_, ?_⟩
    · refine ⟨Same.refl H, 0, false, false, none, none, rfl, ?_⟩
      rw [Nat.mod_eq_of_lt hx, Nat.mod_eq_of_lt hy, Nat.zero_mul, Nat.zero_add]
    · rintro m σ' H' hm ⟨hs, g, s, t, o8, o9, rfl, eg⟩
      walk_at "rd"
      refine r_shr m rfl ?_
      walk_at "rd"
      refine r_shr m rfl ?_
      walk_at "rd"
      rw [bit_int, bit_int]
      refine ⟨x / 2 ^ m % 2, y / 2 ^ m % 2, s, t, rfl, lt2 _, lt2 _, ?_⟩
      walk_at "rd"
      refine ⟨td (x / 2 ^ m % 2) (y / 2 ^ m % 2) s t, s, t, rfl, td_lt s t (lt2 _) (lt2 _), fun b H2 nb s2 e2 => r_unp2 e2 ?_⟩
      exact ⟨hs.trans s2, 4 * g + td (x / 2 ^ m % 2) (y / 2 ^ m % 2) s t, _, _, _, _, rfl, pl_step eg⟩
    · rintro σ' H' ⟨hs, g, s, t, o8, o9, rfl, eg⟩
      walk_at "rd"
      rw [Nat.pow_zero, Nat.mul_one, show PL 0 s t (x % 2 ^ 0) (y % 2 ^ 0) = 0 from rfl, Nat.add_zero] at eg
      rw [← eg] at q
      exact q _ hs
end
/-! looked_at -/
theorem sc_looked_at : FnScope ["folds", "box", "side", "left", "low", "right", "high"] ["folds", "box"] (defScope s_looked_at) := ⟨rfl, rfl, rfl, by decide +kernel, rfl, by decide +kernel, by decide +kernel⟩
def sp_looked_at (K : PySem.W.Frag) : Sp := fun vs H Q _ => ∃ (n : Nat) (b : Addr) (B : Box), vs = [.int n, .ref b] ∧ n ≤ 60 ∧ BoxOk B n ∧ H b = some (.tup (bt B)) ∧ Q (.int (4 ^ n : Nat)) H
section
variable {P : Program} {w : World} {K : PySem.W.Frag} {mg : Str → Option Value} {base : Heap}
theorem ok_looked_at (T : Txt K mg) : FnOk P w K mg base CX0 2 T.a_looked_at T.d_looked_at ["folds", "box"] (sp_looked_at K) := by
  refine T.F_looked_at.ok sc_looked_at (fun vs H Q E h => ?_) (fun cdv A outer s H vs Q E hr h => ?_)
  · obtain ⟨n, b, B, rfl, hn, ⟨h1, h2, h3, h4, h5, h6⟩, hb, q⟩ := h
    rfl
  · obtain ⟨n, b, B, rfl, hn, ⟨h1, h2, h3, h4, h5, h6⟩, hb, q⟩ := h
    refine ⟨_, (pss_cons (ps_set (i := 2) sc_looked_at.nd rfl (.inl rfl) (pe_call (ok_side_of T) (hr.mono (by decide)) (by rfl) T.m_side_of T.F_side_of.kp T.b_side_of .nil pass0 (pa_cons (pv 0) pa_nil)))
      (pss_cons (ps_asg (pv 1) (pg_tup (n := 4) rfl (pgs_cons (pg_name (i := 3) sc_looked_at.nd rfl (.inl rfl)) (pgs_cons (pg_name (i := 4) sc_looked_at.nd rfl (.inl rfl)) (pgs_cons (pg_name (i := 5) sc_looked_at.nd rfl (.inl rfl)) (pgs_cons (pg_name (i := 6) sc_looked_at.nd rfl (.inl rfl)) pgs_nil))))))
      (pss_cons (ps_if (PW.pt (pw_or (pt_cmpR op_lt (pv 3) pe_int (nomark _)) (pw_or (pt_cmpR op_gt (pv 3) (pv 5) (nomark _)) (pw_or1 (pt_cmpR op_ge (pv 5) (pv 2) (nomark _)))))) (pss_one ps_never) pss_nil)
      (pss_cons (ps_if (PW.pt (pw_or (pt_cmpR op_lt (pv 4) pe_int (nomark _)) (pw_or (pt_cmpR op_gt (pv 4) (pv 6) (nomark _)) (pw_or1 (pt_cmpR op_ge (pv 6) (pv 2) (nomark _)))))) (pss_one ps_never) pss_nil)
      (pss_one (ps_ret (pe_op op_mul (pv 2) (pv 2)))))))), ?_⟩
    have hS1 := i2_pos n
    have hS2 : (2 : Int) ^ n < 2 ^ 64 := i2_lt (by omega)
    walk_at "rd"
    refine ⟨n, rfl, hn, ?_⟩
    walk_at "rd"
    refine r_unp4 hb ?_
    walk_at "rd"
    refine riteO (by omega) ?_
    walk_at "rd"
    refine riteO (by omega) ?_
    walk_at "rd"
    refine riteO (by omega) ?_
    walk_at "rd"
    refine riteO (by omega) ?_
    walk_at "rd"
    refine riteO (by omega) ?_
    walk_at "rd"
    refine riteO (by omega) ?_
    walk_at "rd"
    rw [sq_int]
    exact q
end
/-! shared -/
theorem sc_shared : FnScope ["box", "left", "low", "broad", "across", "up"] ["box", "left", "low", "broad"] (defScope s_shared) := ⟨rfl, rfl, rfl, by decide +kernel, rfl, by decide +kernel, by decide +kernel⟩
def sp_shared (K : PySem.W.Frag) : Sp := fun vs H Q _ => ∃ (b : Addr) (B : Box) (l o zw : Int) (m : Nat), vs = [.ref b, .int l, .int o, .int zw] ∧ zw = (m : Int) ∧ m ≤ 2 ^ 60 ∧ H b = some (.tup (bt B)) ∧ Q (.int (sh B l o m : Nat)) H
theorem min_int (a b : Int) : (if b < a then b else a) = min a b := by split <;> omega
theorem max_int (a b : Int) : (if b > a then b else a) = max a b := by split <;> omega
theorem sh_none {B : Box} {l o : Int} {m : Nat} (h : min B.r (l + m - 1) - max B.l l + 1 ≤ 0 ∨ min B.h (o + m - 1) - max B.o o + 1 ≤ 0) : sh B l o m = 0 := by
  unfold sh ov
  rcases h with h | h
  · rw [show (min B.r (l + m - 1) - max B.l l + 1).toNat = 0 by omega, Nat.zero_mul]
  · rw [show (min B.h (o + m - 1) - max B.o o + 1).toNat = 0 by omega, Nat.mul_zero]
theorem sh_some {B : Box} {l o : Int} {m : Nat} (h1 : ¬ min B.r (l + m - 1) - max B.l l + 1 ≤ 0) (h2 : ¬ min B.h (o + m - 1) - max B.o o + 1 ≤ 0) :
    ((sh B l o m : Nat) : Int) = (min B.r (l + m - 1) - max B.l l + 1) * (min B.h (o + m - 1) - max B.o o + 1) := by
  unfold sh ov
  rw [Int.natCast_mul, Int.toNat_of_nonneg (by omega), Int.toNat_of_nonneg (by omega)]
section
variable {P : Program} {w : World} {K : PySem.W.Frag} {mg : Str → Option Value} {base : Heap}
theorem ok_shared (T : Txt K mg) : FnOk P w K mg base CX0 1 T.a_shared T.d_shared ["box", "left", "low", "broad"] (sp_shared K) := by
  refine T.F_shared.ok sc_shared (fun vs H Q E h => ?_) (fun cdv A outer s H vs Q E hr h => ?_)
  · obtain ⟨b, B, l, o, zw, m, rfl, rfl, hm, hb, q⟩ := h
    rfl
  · obtain ⟨b, B, l, o, zw, m, rfl, rfl, hm, hb, q⟩ := h
    refine ⟨_, (pss_cons (ps_set (i := 4) sc_shared.nd rfl (.inl rfl) (pe_op op_add (pe_op op_sub (pe_callB (call_min2 rfl) (by rfl) T.n_min (by decide +kernel) (pa_cons (pe_ix (r := rIxT K) ix_tup (pv 0) pe_int (fun _ _ => rfl)) (pa_cons (pe_op op_sub (pe_op op_add (pv 1) (pv 3)) pe_int) pa_nil))) (pe_callB (call_max2 rfl) (by rfl) T.n_max (by decide +kernel) (pa_cons (pe_ix (r := rIxT K) ix_tup (pv 0) pe_int (fun _ _ => rfl)) (pa_cons (pv 1) pa_nil)))) pe_int))
      (pss_cons (ps_set (i := 5) sc_shared.nd rfl (.inl rfl) (pe_op op_add (pe_op op_sub (pe_callB (call_min2 rfl) (by rfl) T.n_min (by decide +kernel) (pa_cons (pe_ix (r := rIxT K) ix_tup (pv 0) pe_int (fun _ _ => rfl)) (pa_cons (pe_op op_sub (pe_op op_add (pv 2) (pv 3)) pe_int) pa_nil))) (pe_callB (call_max2 rfl) (by rfl) T.n_max (by decide +kernel) (pa_cons (pe_ix (r := rIxT K) ix_tup (pv 0) pe_int (fun _ _ => rfl)) (pa_cons (pv 2) pa_nil)))) pe_int))
      (pss_cons (ps_if (PW.pt (pw_or (pt_cmpR op_le (pv 4) pe_int (nomark _)) (pw_or1 (pt_cmpR op_le (pv 5) pe_int (nomark _))))) (pss_one (ps_ret pe_int)) pss_nil)
      (pss_one (ps_ret (pe_op op_mul (pv 4) (pv 5))))))), ?_⟩
    walk_at "rd"
    refine r_ixT hb (atI_nat (j := 2) rfl) ?_
    walk_at "rd"
    refine ⟨_, _, rfl, ?_⟩
    walk_at "rd"
    refine r_ixT hb (atI_nat (j := 0) rfl) ?_
    walk_at "rd"
    refine ⟨_, _, rfl, ?_⟩
    walk_at "rd"
    refine r_ixT hb (atI_nat (j := 3) rfl) ?_
    walk_at "rd"
    refine ⟨_, _, rfl, ?_⟩
    walk_at "rd"
    refine r_ixT hb (atI_nat (j := 1) rfl) ?_
    walk_at "rd"
    refine ⟨_, _, rfl, ?_⟩
    walk_at "rd"
    rw [min_int, max_int, min_int, max_int]
    refine riteD (fun h1 => ?_) (fun h1 => ?_)
    · walk_at "rd"
      rw [sh_none (.inl h1)] at q
      exact q
    walk_at "rd"
    refine riteD (fun h2 => ?_) (fun h2 => ?_)
    · walk_at "rd"
      rw [sh_none (.inr h2)] at q
      exact q
    walk_at "rd"
    rw [sh_some h1 h2] at q
    exact q
end
/-! counted -/
theorem sc_counted : FnScope ["folds", "box", "place", "many", "found", "left", "low", "swapped", "turned", "k", "turn", "one", "right", "up"] ["folds", "box", "place"] (defScope s_counted) := ⟨rfl, rfl, rfl, by decide +kernel, rfl, by decide +kernel, by decide +kernel⟩
def sp_counted (K : PySem.W.Frag) : Sp := fun vs H Q _ => ∃ (n p : Nat) (zp : Int) (b : Addr) (B : Box), vs = [.int n, .ref b, .int zp] ∧ zp = (p : Int) ∧ n ≤ 60 ∧ p ≤ 4 ^ n ∧ BoxOk B n ∧ H b = some (.tup (bt B)) ∧ RV (.int (Cb B n p : Nat)) H Q
section
variable {P : Program} {w : World} {K : PySem.W.Frag} {mg : Str → Option Value} {base : Heap}
theorem ok_counted (T : Txt K mg) : FnOk P w K mg base CX0 3 T.a_counted T.d_counted ["folds", "box", "place"] (sp_counted K) := by
  refine T.F_counted.ok sc_counted (fun vs H Q E h => ?_) (fun cdv A outer s H vs Q E hr h => ?_)
  · obtain ⟨n, p, zp, b, B, rfl, rfl, hn, hp, hB, hb, q⟩ := h
    rfl
  · obtain ⟨n, p, zp, b, B, rfl, rfl, hn, hp, hB, hb, q⟩ := h
    refine ⟨_, (pss_cons (ps_set (i := 3) sc_counted.nd rfl (.inl rfl) (pe_call (ok_looked_at T) (hr.mono (by decide)) (by rfl) T.m_looked_at T.F_looked_at.kp T.b_looked_at .nil pass0 (pa_cons (pv 0) (pa_cons (pv 1) pa_nil))))
      (pss_cons (ps_if (PW.pt (pw_or (pt_cmpR op_lt (pv 2) pe_int (nomark _)) (pw_or1 (pt_cmpR op_gt (pv 2) (pv 3) (nomark _))))) (pss_one ps_never) pss_nil)
      (pss_cons (ps_if (pt_cmpR op_eq (pv 2) (pv 3) (nomark _)) (pss_one (ps_ret (pe_call (ok_shared T) (hr.mono (by decide)) (by rfl) T.m_shared T.F_shared.kp T.b_shared .nil pass0 (pa_cons (pv 1) (pa_cons pe_int (pa_cons pe_int (pa_cons (pe_op op_shl pe_int (pv 0)) pa_nil))))))) pss_nil)
      (pss_cons (ps_set (i := 4) sc_counted.nd rfl (.inl rfl) pe_int)
      (pss_cons (ps_set (i := 5) sc_counted.nd rfl (.inl rfl) pe_int)
      (pss_cons (ps_set (i := 6) sc_counted.nd rfl (.inl rfl) pe_int)
      (pss_cons (ps_set (i := 7) sc_counted.nd rfl (.inl rfl) pe_int)
      (pss_cons (ps_set (i := 8) sc_counted.nd rfl (.inl rfl) pe_int)
      (pss_cons (ps_for PassesOwn.never rfl (pi_revR rfl T.n_reversed (prg_1 rfl T.n_range (pv 0))) (pg_name (i := 9) sc_counted.nd rfl (.inl rfl)) (pss_cons (ps_set (i := 10) sc_counted.nd rfl (.inl rfl) (pe_op op_and (pe_op op_shr (pv 2) (pe_op op_mul pe_int (pv 9))) pe_int))
      (pss_cons (ps_for PassesOwn.never rfl (pi_range1 rfl T.n_range (pa_cons (pv 10) pa_nil)) (pg_name (i := 11) sc_counted.nd rfl (.inl rfl)) (pss_cons (ps_asg (pe_call (ok_quarter_at T) (hr.mono (by decide)) (by rfl) T.m_quarter_at T.F_quarter_at.kp T.b_quarter_at .nil pass0 (pa_cons (pv 11) (pa_cons (pv 7) (pa_cons (pv 8) pa_nil)))) (pg_tup (n := 2) rfl (pgs_cons (pg_name (i := 12) sc_counted.nd rfl (.inl rfl)) (pgs_cons (pg_name (i := 13) sc_counted.nd rfl (.inl rfl)) pgs_nil))))
      (pss_one (ps_aug (i := 4) sc_counted.nd rfl (.inl rfl) (pe_call (ok_shared T) (hr.mono (by decide)) (by rfl) T.m_shared T.F_shared.kp T.b_shared .nil pass0 (pa_cons (pv 1) (pa_cons (pe_op op_add (pv 5) (pe_op op_shl (pv 12) (pv 9))) (pa_cons (pe_op op_add (pv 6) (pe_op op_shl (pv 13) (pv 9))) (pa_cons (pe_op op_shl pe_int (pv 9)) pa_nil))))) ip_add))))
      (pss_cons (ps_asg (pe_call (ok_quarter_at T) (hr.mono (by decide)) (by rfl) T.m_quarter_at T.F_quarter_at.kp T.b_quarter_at .nil pass0 (pa_cons (pv 10) (pa_cons (pv 7) (pa_cons (pv 8) pa_nil)))) (pg_tup (n := 2) rfl (pgs_cons (pg_name (i := 12) sc_counted.nd rfl (.inl rfl)) (pgs_cons (pg_name (i := 13) sc_counted.nd rfl (.inl rfl)) pgs_nil))))
      (pss_cons (ps_aug (i := 5) sc_counted.nd rfl (.inl rfl) (pe_op op_shl (pv 12) (pv 9)) ip_add)
      (pss_cons (ps_aug (i := 6) sc_counted.nd rfl (.inl rfl) (pe_op op_shl (pv 13) (pv 9)) ip_add)
      (pss_one (ps_asg (pe_call (ok_folded T) (hr.mono (by decide)) (by rfl) T.m_folded T.F_folded.kp T.b_folded .nil pass0 (pa_cons (pv 10) (pa_cons (pv 7) (pa_cons (pv 8) pa_nil)))) (pg_tup (n := 2) rfl (pgs_cons (pg_name (i := 7) sc_counted.nd rfl (.inl rfl)) (pgs_cons (pg_name (i := 8) sc_counted.nd rfl (.inl rfl)) pgs_nil)))))))))))
      (pss_one (ps_ret (pv 4)))))))))))), ?_⟩
    walk_at "rd"
    refine ⟨n, b, B, rfl, hn, hB, hb, ?_⟩
    walk_at "rd"
    refine riteO (by omega) ?_
    walk_at "rd"
    refine riteO (by omega) ?_
    walk_at "rd"
    refine riteD (fun h0 => ?_) (fun h0 => ?_)
    · walk_at "rd"
      refine r_shl n rfl (by omega) (by decide) ?_
      rw [Int.one_mul]
      walk_at "rd"
      refine ⟨b, B, 0, 0, _, 2 ^ n, rfl, i2_nat n, two_le hn, hb, ?_⟩
      rw [show p = 4 ^ n by omega, full_area] at q
      exact q _ (Same.refl _)
    have hp2 : p < 4 ^ n := by omega
    walk_at "rd"
    refine r_rev (r_var (by rfl) ?_) mono_var
    refine ⟨n, rfl, by omega, fun m σ' H' => Same H H' ∧ ∃ (g : Nat) (l o : Int) (s t : Bool) (o9 o10 o11 o12 o13 : Option V), σ' = [some (.int n), some (.ref b), some (.int p), some (.int (4 ^ n : Nat)), some (.int g), some (.int l), some (.int o), some (.int (bI s)), some (.int (bI t)), o9, o10, o11, o12, o13] ∧
      g + cnt (blk B s t m l o) (p % 4 ^ m) = Cb B n p, ?_, ?_, ?_⟩
    · refine ⟨Same.refl H, 0, 0, 0, false, false, none, none, none, none, none, rfl, ?_⟩
      rw [Nat.mod_eq_of_lt hp2, Nat.zero_add]
    · rintro m σ' H' hm ⟨hs, g, l, o, s, t, o9, o10, o11, o12, o13, rfl, eg⟩
      walk_at "rd"
      refine r_shr (2 * m) (by omega) ?_
      walk_at "rd"
      rw [dig_int]
      have hd := lt4 (p / 4 ^ m)
      refine r_rng (r_var (by rfl) ?_) mono_var
      refine ⟨p / 4 ^ m % 4, rfl, by omega, fun i σ' H'' => Same H H'' ∧ ∃ (o11 o12 o13 : Option V), σ' = [some (.int n), some (.ref b), some (.int p), some (.int (4 ^ n : Nat)), some (.int (g + part B s t m l o i : Nat)), some (.int l), some (.int o), some (.int (bI s)), some (.int (bI t)), some (.int m), some (.int (p / 4 ^ m % 4 : Nat)), o11, o12, o13], ⟨hs, o11, o12, o13, rfl⟩, ?_, ?_⟩
      · rintro i σ' H2 hi ⟨hs2, o11, o12, o13, rfl⟩
        have hi4 : i < 4 := by omega
        walk_at "rd"
        refine ⟨i, s, t, rfl, hi4, fun a3 H3 na3 s3 e3 => r_unp2 e3 ?_⟩
        walk_at "rd"
        refine r_shl m rfl (by omega) (qx_abs s t hi4) ?_
        walk_at "rd"
        refine r_shl m rfl (by omega) (qy_abs s t hi4) ?_
        walk_at "rd"
        refine r_shl m rfl (by omega) (by decide) ?_
        rw [Int.one_mul]
        walk_at "rd"
        refine ⟨b, B, _, _, _, 2 ^ m, rfl, i2_nat m, two_le (by omega), s3 _ _ (hs2 _ _ hb), ?_⟩
        walk_at "rd"
        have eg2 : ((g + part B s t m l o i : Nat) : Int) + ((sh B (l + qx i s t * 2 ^ m) (o + qy i s t * 2 ^ m) (2 ^ m) : Nat) : Int) = ((g + part B s t m l o (i + 1) : Nat) : Int) := by
          rw [part]
          omega
        rw [eg2]
        exact ⟨hs2.trans s3, _, _, _, rfl⟩
      · rintro σ' H2 ⟨hs2, o11, o12, o13, rfl⟩
        walk_at "rd"
        refine ⟨p / 4 ^ m % 4, s, t, rfl, hd, fun a3 H3 na3 s3 e3 => r_unp2 e3 ?_⟩
        walk_at "rd"
        refine r_shl m rfl (by omega) (qx_abs s t hd) ?_
        walk_at "rd"
        refine r_shl m rfl (by omega) (qy_abs s t hd) ?_
        walk_at "rd"
        refine ⟨p / 4 ^ m % 4, s, t, rfl, hd, fun a4 H4 na4 s4 e4 => r_unp2 e4 ?_⟩
        exact ⟨hs2.trans (s3.trans s4), _, _, _, _, _, _, _, _, _, _, rfl, cnt_turn eg⟩
    · rintro σ' H' ⟨hs, g, l, o, s, t, o9, o10, o11, o12, o13, rfl, eg⟩
      walk_at "rd"
      rw [Nat.pow_zero, Nat.mod_one, show cnt (blk B s t 0 l o) 0 = 0 from rfl, Nat.add_zero] at eg
      rw [← eg] at q
      exact q _ hs
end
/-! picked -/
theorem sc_picked : FnScope ["folds", "box", "number", "inside", "place", "left", "low", "swapped", "turned", "k", "at", "turn", "many", "right", "up"] ["folds", "box", "number", "inside"] (defScope s_picked) := ⟨rfl, rfl, rfl, by decide +kernel, rfl, by decide +kernel, by decide +kernel⟩
def sp_picked (K : PySem.W.Frag) : Sp := fun vs H Q _ => ∃ (n number : Nat) (zk : Int) (b : Addr) (B : Box) (u : Bool), vs = [.int n, .ref b, .int zk, .bl u] ∧ zk = (number : Int) ∧ n ≤ 60 ∧ H b = some (.tup (bt B)) ∧ number < shu u B 0 0 n ∧
  ∀ p : Nat, p < 4 ^ n → gb u B false false n 0 0 p = true → cnt (gb u B false false n 0 0) p = number → RV (.int p) H Q
section
variable {P : Program} {w : World} {K : PySem.W.Frag} {mg : Str → Option Value} {base : Heap}
theorem ok_picked (T : Txt K mg) : FnOk P w K mg base CX0 2 T.a_picked T.d_picked ["folds", "box", "number", "inside"] (sp_picked K) := by
  refine T.F_picked.ok sc_picked (fun vs H Q E h => ?_) (fun cdv A outer s H vs Q E hr h => ?_)
  · obtain ⟨n, number, zk, b, B, u, rfl, rfl, hn, hb, hk, q⟩ := h
    rfl
  · obtain ⟨n, number, zk, b, B, u, rfl, rfl, hn, hb, hk, q⟩ := h
    refine ⟨_, (pss_cons (ps_set (i := 4) sc_picked.nd rfl (.inl rfl) pe_int)
      (pss_cons (ps_set (i := 5) sc_picked.nd rfl (.inl rfl) pe_int)
      (pss_cons (ps_set (i := 6) sc_picked.nd rfl (.inl rfl) pe_int)
      (pss_cons (ps_set (i := 7) sc_picked.nd rfl (.inl rfl) pe_int)
      (pss_cons (ps_set (i := 8) sc_picked.nd rfl (.inl rfl) pe_int)
      (pss_cons (ps_for PassesOwn.never rfl (pi_revR rfl T.n_reversed (prg_1 rfl T.n_range (pv 0))) (pg_name (i := 9) sc_picked.nd rfl (.inl rfl)) (pss_cons (ps_set (i := 10) sc_picked.nd rfl (.inl rfl) (pe_tup (pa_cons pe_int (pa_cons pe_int (pa_cons pe_int pa_nil)))))
      (pss_cons (ps_for PassesOwn.never rfl (pi_range1 rfl T.n_range (pa_cons pe_int pa_nil)) (pg_name (i := 11) sc_picked.nd rfl (.inl rfl)) (pss_cons (ps_asg (pe_call (ok_quarter_at T) (hr.mono (by decide)) (by rfl) T.m_quarter_at T.F_quarter_at.kp T.b_quarter_at .nil pass0 (pa_cons (pv 11) (pa_cons (pv 7) (pa_cons (pv 8) pa_nil)))) (pg_tup (n := 2) rfl (pgs_cons (pg_name (i := 13) sc_picked.nd rfl (.inl rfl)) (pgs_cons (pg_name (i := 14) sc_picked.nd rfl (.inl rfl)) pgs_nil))))
      (pss_cons (ps_set (i := 10) sc_picked.nd rfl (.inl rfl) (pe_tup (pa_cons (pv 11) (pa_cons (pe_op op_add (pv 5) (pe_op op_shl (pv 13) (pv 9))) (pa_cons (pe_op op_add (pv 6) (pe_op op_shl (pv 14) (pv 9))) pa_nil)))))
      (pss_cons (ps_set (i := 12) sc_picked.nd rfl (.inl rfl) (pe_call (ok_shared T) (hr.mono (by decide)) (by rfl) T.m_shared T.F_shared.kp T.b_shared .nil pass0 (pa_cons (pv 1) (pa_cons (pe_ix (r := rIxT K) ix_tup (pv 10) pe_int (fun _ _ => rfl)) (pa_cons (pe_ix (r := rIxT K) ix_tup (pv 10) pe_int (fun _ _ => rfl)) (pa_cons (pe_op op_shl pe_int (pv 9)) pa_nil))))))
      (pss_cons (ps_if (pt_not (pt_val (pv 3))) (pss_one (ps_set (i := 12) sc_picked.nd rfl (.inl rfl) (pe_op op_sub (pe_op op_shl pe_int (pe_op op_mul pe_int (pv 9))) (pv 12)))) pss_nil)
      (pss_cons (ps_if (pt_cmpR op_lt (pv 2) (pv 12) (nomark _)) (pss_one ps_break) pss_nil)
      (pss_one (ps_aug (i := 2) sc_picked.nd rfl (.inl rfl) (pv 12) ip_sub))))))))
      (pss_cons (ps_set (i := 4) sc_picked.nd rfl (.inl rfl) (pe_op op_add (pe_op op_mul pe_int (pv 4)) (pe_ix (r := rIxT K) ix_tup (pv 10) pe_int (fun _ _ => rfl))))
      (pss_cons (ps_set (i := 5) sc_picked.nd rfl (.inl rfl) (pe_ix (r := rIxT K) ix_tup (pv 10) pe_int (fun _ _ => rfl)))
      (pss_cons (ps_set (i := 6) sc_picked.nd rfl (.inl rfl) (pe_ix (r := rIxT K) ix_tup (pv 10) pe_int (fun _ _ => rfl)))
      (pss_one (ps_asg (pe_call (ok_folded T) (hr.mono (by decide)) (by rfl) T.m_folded T.F_folded.kp T.b_folded .nil pass0 (pa_cons (pe_ix (r := rIxT K) ix_tup (pv 10) pe_int (fun _ _ => rfl)) (pa_cons (pv 7) (pa_cons (pv 8) pa_nil)))) (pg_tup (n := 2) rfl (pgs_cons (pg_name (i := 7) sc_picked.nd rfl (.inl rfl)) (pgs_cons (pg_name (i := 8) sc_picked.nd rfl (.inl rfl)) pgs_nil)))))))))))
      (pss_one (ps_ret (pv 4))))))))), ?_⟩
    walk_at "rd"
    refine r_rev (r_var (by rfl) ?_) mono_var
    refine ⟨n, rfl, by omega, fun m σ' H' => Same H H' ∧ ∃ (place num : Nat) (l o : Int) (s t : Bool) (o9 o10 o11 o12 o13 o14 : Option V), σ' = [some (.int n), some (.ref b), some (.int num), some (.bl u), some (.int place), some (.int l), some (.int o), some (.int (bI s)), some (.int (bI t)), o9, o10, o11, o12, o13, o14] ∧
      Pk u B n number m s t l o place num, ?_, ?_, ?_⟩
    · exact ⟨Same.refl H, 0, number, 0, 0, false, false, none, none, none, none, none, none, rfl, pk_start hk⟩
    · rintro m σ' H' hm ⟨hs, place, num, l, o, s, t, o9, o10, o11, o12, o13, o14, rfl, pk⟩
      walk_at "rd"
      refine n_tup fun t0 H1 nt0 s1 e1 => ?_
      walk_at "rd"
      refine r_rng ?_ mono_c
      refine ⟨4, rfl, by omega, fun i σ' H'' => Same H H'' ∧ gpart u B s t m l o i ≤ num ∧ ∃ (o10 o11 o12 o13 o14 : Option V), σ' = [some (.int n), some (.ref b), some (.int (num - gpart u B s t m l o i : Nat)), some (.bl u), some (.int place), some (.int l), some (.int o), some (.int (bI s)), some (.int (bI t)), some (.int m), o10, o11, o12, o13, o14],
        ⟨hs.trans s1, Nat.zero_le _, some (.ref t0), o11, o12, o13, o14, rfl⟩, ?_, ?_⟩
      · rintro i σ' H2 hi ⟨hs2, hg, o10, o11, o12, o13, o14, rfl⟩
        walk_at "rd"
        refine ⟨i, s, t, rfl, hi, fun a3 H3 na3 s3 e3 => r_unp2 e3 ?_⟩
        walk_at "rd"
        refine r_shl m rfl (by omega) (qx_abs s t hi) ?_
        walk_at "rd"
        refine r_shl m rfl (by omega) (qy_abs s t hi) ?_
        walk_at "rd"
        refine n_tup fun t4 H4 nt4 s4 e4 => ?_
        walk_at "rd"
        refine r_ixT e4 (atI_nat (j := 1) rfl) ?_
        walk_at "rd"
        refine r_ixT e4 (atI_nat (j := 2) rfl) ?_
        walk_at "rd"
        refine r_shl m rfl (by omega) (by decide) ?_
        rw [Int.one_mul]
        walk_at "rd"
        have hs4 := hs2.trans (s3.trans s4)
        refine ⟨b, B, _, _, _, 2 ^ m, rfl, i2_nat m, two_le (by omega), hs4 _ _ hb, ?_⟩
        walk_at "rd"
        have hsl := sh_le B (l + qx i s t * 2 ^ m) (o + qy i s t * 2 ^ m) m
        obtain ⟨w, hw⟩ : ∃ w, w = shu u B (l + qx i s t * 2 ^ m) (o + qy i s t * 2 ^ m) m := ⟨_, rfl⟩
        have hgs : gpart u B s t m l o (i + 1) = gpart u B s t m l o i + w := by rw [gpart, hw]
        refine rite (fun hu => ?_) (fun hu => ?_)
        focus
          walk_at "rd"
          refine r_shl (2 * m) (by omega) (by omega) (by decide) ?_
          rw [Int.one_mul, i4_nat]
          walk_at "rd"
          have hu2 : u = false := by cases u <;> simp_all
          have ew : ((4 ^ m : Nat) : Int) - ((sh B (l + qx i s t * 2 ^ m) (o + qy i s t * 2 ^ m) (2 ^ m) : Nat) : Int) = (w : Int) := by
            rw [hw, hu2]
            show _ = ((4 ^ m - sh B (l + qx i s t * 2 ^ m) (o + qy i s t * 2 ^ m) (2 ^ m) : Nat) : Int)
            omega
          rw [ew]
        rotate_left
        focus
          have hu2 : u = true := by cases u <;> simp_all
          have ew : ((sh B (l + qx i s t * 2 ^ m) (o + qy i s t * 2 ^ m) (2 ^ m) : Nat) : Int) = (w : Int) := by
            rw [hw, hu2]
            rfl
          rw [ew]
        all_goals
          walk_at "rd"
          refine riteD (fun hlt => ?_) (fun hlt => ?_)
          · walk_at "rd"
            refine r_ixT e4 (atI_nat (j := 0) rfl) ?_
            walk_at "rd"
            refine r_ixT e4 (atI_nat (j := 1) rfl) ?_
            walk_at "rd"
            refine r_ixT e4 (atI_nat (j := 2) rfl) ?_
            walk_at "rd"
            refine r_ixT e4 (atI_nat (j := 0) rfl) ?_
            walk_at "rd"
            refine ⟨i, s, t, rfl, hi, fun a5 H5 na5 s5 e5 => r_unp2 e5 ?_⟩
            exact ⟨hs4.trans s5, 4 * place + i, num - gpart u B s t m l o i, _, _, _, _, _, _, _, _, _, _, rfl, pk_turn pk hi hg (by rw [← hw]; omega)⟩
          · walk_at "rd"
            have en : ((num - gpart u B s t m l o i : Nat) : Int) - (w : Int) = ((num - gpart u B s t m l o (i + 1) : Nat) : Int) := by
              rw [hgs]
              omega
            rw [en]
            exact ⟨hs4, by rw [hgs]; omega, _, _, _, _, _, rfl⟩
      · rintro σ' H2 ⟨hs2, hg, o10, o11, o12, o13, o14, rfl⟩
        have := pk_some (s := s) (t := t) pk.1
        omega
    · rintro σ' H' ⟨hs, place, num, l, o, s, t, o9, o10, o11, o12, o13, o14, rfl, pk⟩
      walk_at "rd"
      obtain ⟨h1, h2, h3⟩ := pk_end pk
      exact q place h1 h2 h3 _ hs
end
/-! next_in -/
theorem sc_next_in : FnScope ["folds", "box", "place", "met"] ["folds", "box", "place"] (defScope s_next_in) := ⟨rfl, rfl, rfl, by decide +kernel, rfl, by decide +kernel, by decide +kernel⟩
def sp_next_in (K : PySem.W.Frag) : Sp := fun vs H Q _ => ∃ (n p : Nat) (zp : Int) (b : Addr) (B : Box), vs = [.int n, .ref b, .int zp] ∧ zp = (p : Int) ∧ n ≤ 60 ∧ p ≤ 4 ^ n ∧ BoxOk B n ∧ H b = some (.tup (bt B)) ∧
  (Cb B n p = sh B 0 0 (2 ^ n) → RV .non H Q) ∧ ∀ r : Nat, p ≤ r → r < 4 ^ n → inb B (cx n r) (cy n r) = true → Cb B n r = Cb B n p → RV (.int r) H Q
section
variable {P : Program} {w : World} {K : PySem.W.Frag} {mg : Str → Option Value} {base : Heap}
theorem ok_next_in (T : Txt K mg) : FnOk P w K mg base CX0 4 T.a_next_in T.d_next_in ["folds", "box", "place"] (sp_next_in K) := by
  refine T.F_next_in.ok sc_next_in (fun vs H Q E h => ?_) (fun cdv A outer s H vs Q E hr h => ?_)
  · obtain ⟨n, p, zp, b, B, rfl, rfl, hn, hp, hB, hb, q1, q2⟩ := h
    rfl
  · obtain ⟨n, p, zp, b, B, rfl, rfl, hn, hp, hB, hb, q1, q2⟩ := h
    refine ⟨_, (pss_cons (ps_set (i := 3) sc_next_in.nd rfl (.inl rfl) (pe_call (ok_counted T) (hr.mono (by decide)) (by rfl) T.m_counted T.F_counted.kp T.b_counted .nil pass0 (pa_cons (pv 0) (pa_cons (pv 1) (pa_cons (pv 2) pa_nil)))))
      (pss_cons (ps_if (pt_cmpR op_eq (pv 3) (pe_call (ok_shared T) (hr.mono (by decide)) (by rfl) T.m_shared T.F_shared.kp T.b_shared .nil pass0 (pa_cons (pv 1) (pa_cons pe_int (pa_cons pe_int (pa_cons (pe_op op_shl pe_int (pv 0)) pa_nil))))) (nomark _)) (pss_one (ps_ret pe_non)) pss_nil)
      (pss_one (ps_ret (pe_call (ok_picked T) (hr.mono (by decide)) (by rfl) T.m_picked T.F_picked.kp T.b_picked .nil pass0 (pa_cons (pv 0) (pa_cons (pv 1) (pa_cons (pv 3) (pa_cons pe_bl pa_nil))))))))), ?_⟩
    walk_at "rd"
    refine ⟨n, p, _, b, B, rfl, rfl, hn, hp, hB, hb, fun H1 s1 => ?_⟩
    walk_at "rd"
    refine r_shl n rfl (by omega) (by decide) ?_
    rw [Int.one_mul]
    walk_at "rd"
    refine ⟨b, B, 0, 0, _, 2 ^ n, rfl, i2_nat n, two_le hn, s1 _ _ hb, ?_⟩
    walk_at "rd"
    have cl := Cb_le (B := B) hp
    refine riteD (fun h => ?_) (fun h => ?_)
    · walk_at "rd"
      exact q1 (by omega) _ s1
    walk_at "rd"
    refine ⟨n, Cb B n p, _, b, B, true, rfl, rfl, hn, s1 _ _ hb, (show _ < sh B 0 0 (2 ^ n) by omega), fun r hr h1 h2 H2 s2 => ?_⟩
    have h3 : Cb B n r = Cb B n p := by rw [← cnt_in]; exact h2
    refine q2 r (next_ge (f := gb true B false false n 0 0) h1 ?_) hr (gb_in.mp h1) h3 _ (s1.trans s2)
    rw [cnt_in, cnt_in]
    exact h3
end
/-! next_out -/
theorem sc_next_out : FnScope ["folds", "box", "place", "missed", "side"] ["folds", "box", "place"] (defScope s_next_out) := ⟨rfl, rfl, rfl, by decide +kernel, rfl, by decide +kernel, by decide +kernel⟩
def sp_next_out (K : PySem.W.Frag) : Sp := fun vs H Q _ => ∃ (n p : Nat) (zp : Int) (b : Addr) (B : Box), vs = [.int n, .ref b, .int zp] ∧ zp = (p : Int) ∧ n ≤ 60 ∧ p ≤ 4 ^ n ∧ BoxOk B n ∧ H b = some (.tup (bt B)) ∧
  (p - Cb B n p = 4 ^ n - sh B 0 0 (2 ^ n) → RV .non H Q) ∧ ∀ r : Nat, p ≤ r → r < 4 ^ n → inb B (cx n r) (cy n r) = false → r - Cb B n r = p - Cb B n p → RV (.int r) H Q
section
variable {P : Program} {w : World} {K : PySem.W.Frag} {mg : Str → Option Value} {base : Heap}
theorem ok_next_out (T : Txt K mg) : FnOk P w K mg base CX0 4 T.a_next_out T.d_next_out ["folds", "box", "place"] (sp_next_out K) := by
  refine T.F_next_out.ok sc_next_out (fun vs H Q E h => ?_) (fun cdv A outer s H vs Q E hr h => ?_)
  · obtain ⟨n, p, zp, b, B, rfl, rfl, hn, hp, hB, hb, q1, q2⟩ := h
    rfl
  · obtain ⟨n, p, zp, b, B, rfl, rfl, hn, hp, hB, hb, q1, q2⟩ := h
    refine ⟨_, (pss_cons (ps_set (i := 3) sc_next_out.nd rfl (.inl rfl) (pe_op op_sub (pv 2) (pe_call (ok_counted T) (hr.mono (by decide)) (by rfl) T.m_counted T.F_counted.kp T.b_counted .nil pass0 (pa_cons (pv 0) (pa_cons (pv 1) (pa_cons (pv 2) pa_nil))))))
      (pss_cons (ps_set (i := 4) sc_next_out.nd rfl (.inl rfl) (pe_op op_shl pe_int (pv 0)))
      (pss_cons (ps_if (pt_cmpR op_eq (pv 3) (pe_op op_sub (pe_op op_mul (pv 4) (pv 4)) (pe_call (ok_shared T) (hr.mono (by decide)) (by rfl) T.m_shared T.F_shared.kp T.b_shared .nil pass0 (pa_cons (pv 1) (pa_cons pe_int (pa_cons pe_int (pa_cons (pv 4) pa_nil)))))) (nomark _)) (pss_one (ps_ret pe_non)) pss_nil)
      (pss_one (ps_ret (pe_call (ok_picked T) (hr.mono (by decide)) (by rfl) T.m_picked T.F_picked.kp T.b_picked .nil pass0 (pa_cons (pv 0) (pa_cons (pv 1) (pa_cons (pv 3) (pa_cons pe_bl pa_nil)))))))))), ?_⟩
    have hS1 := i2_pos n
    have hS2 : (2 : Int) ^ n < 2 ^ 64 := i2_lt (by omega)
    walk_at "rd"
    refine ⟨n, p, _, b, B, rfl, rfl, hn, hp, hB, hb, fun H1 s1 => ?_⟩
    walk_at "rd"
    refine r_shl n rfl (by omega) (by decide) ?_
    rw [Int.one_mul]
    walk_at "rd"
    rw [sq_int]
    refine ⟨b, B, 0, 0, _, 2 ^ n, rfl, i2_nat n, two_le hn, s1 _ _ hb, ?_⟩
    walk_at "rd"
    have cl := Cb_le (B := B) hp
    have cp := cnt_le (blk B false false n 0 0) p
    have co := cnt_out B n p
    have sl := sh_le B 0 0 n
    have cm : cnt (gb false B false false n 0 0) p ≤ 4 ^ n - sh B 0 0 (2 ^ n) := by
      have := cnt_mono (gb false B false false n 0 0) hp
      rw [gfull] at this
      exact this
    refine riteD (fun h => ?_) (fun h => ?_)
    · walk_at "rd"
      exact q1 (by omega) _ s1
    walk_at "rd"
    refine ⟨n, p - Cb B n p, _, b, B, false, rfl, by omega, hn, s1 _ _ hb, (show _ < 4 ^ n - sh B 0 0 (2 ^ n) by omega), fun r hr h1 h2 H2 s2 => ?_⟩
    have co2 := cnt_out B n r
    refine q2 r (next_ge (f := gb false B false false n 0 0) h1 (by omega)) hr (gb_out.mp h1) (by omega) _ (s1.trans s2)
end
/-! stretches -/
theorem sc_stretches : FnScope ["folds", "box", "most", "many", "found", "first", "behind"] ["folds", "box", "most"] (defScope s_stretches) := ⟨rfl, rfl, rfl, by decide +kernel, rfl, by decide +kernel, by decide +kernel⟩
/-- the next place in the box from c on, as it is told -/
def Fst (B : Box) (n c : Nat) (v : V) : Prop := (v = .non ∧ Cb B n c = sh B 0 0 (2 ^ n)) ∨ ∃ f : Nat, v = .int f ∧ NIn B n c f
def sp_stretches {K : PySem.W.Frag} {mg : Str → Option Value} (T : Txt K mg) : Sp := fun vs H Q E => ∃ (n : Nat) (b : Addr) (B : Box) (mo : Nat), vs = [.int n, .ref b, .int mo] ∧ n ≤ 60 ∧ BoxOk B n ∧ H b = some (.tup (bt B)) ∧ mo ≤ 100 ∧
  (∀ (ps : List (Nat × Nat)) (d : Nat) (L : Addr) (H' : Hp), Chain B n 0 ps d → Cb B n d = sh B 0 0 (2 ^ n) → ps.length ≤ mo → Same H H' → Prs H' L ps → Q (.ref L) H') ∧
  (∀ (ps : List (Nat × Nat)) (d f : Nat) (H' : Hp), Chain B n 0 ps d → NIn B n d f → ps.length = mo → Same H H' → E (.ref T.c_TooMany) none H')
section
variable {P : Program} {w : World} {K : PySem.W.Frag} {mg : Str → Option Value} {base : Heap}
theorem ok_stretches (T : Txt K mg) : FnOk P w K mg base (L2.CX P w) 5 T.a_stretches T.d_stretches ["folds", "box", "most"] (sp_stretches T) := by
  refine T.F_stretches.ok (CX := (L2.CX P w)) sc_stretches (fun vs H Q E h => ?_) (fun cdv A outer s H vs Q E hr h => ?_)
  · obtain ⟨n, b, B, mo, rfl, hn, hB, hb, hm, q1, q2⟩ := h
    rfl
  · obtain ⟨n, b, B, mo, rfl, hn, hB, hb, hm, q1, q2⟩ := h
    refine ⟨_, (pss_cons (ps_set (i := 3) sc_stretches.nd rfl (.inl rfl) (pe_call (ok_looked_at T) (hr.mono (by decide)) (by rfl) T.m_looked_at T.F_looked_at.kp T.b_looked_at .nil pass0 (pa_cons (pv 0) (pa_cons (pv 1) pa_nil))))
      (pss_cons (ps_if (PW.pt (pw_or (pt_cmpR op_lt (pv 2) pe_int (nomark _)) (pw_or1 (pt_cmpR op_gt (pv 2) (pe_glob (v := .int 100) rfl T.g_MOST_TOLD.choose_spec ⟨_, rfl⟩) (nomark _))))) (pss_one ps_never) pss_nil)
      (pss_cons (ps_set (i := 4) sc_stretches.nd rfl (.inl rfl) (pe_lst pa_nil))
      (Evl.pss_cut (ps_set (i := 5) sc_stretches.nd rfl (.inl rfl) (pe_call (ok_next_in T) (hr.mono (by decide)) (by rfl) T.m_next_in T.F_next_in.kp T.b_next_in .nil pass0 (pa_cons (pv 0) (pa_cons (pv 1) (pa_cons pe_int pa_nil)))))
      (pss_cons (ps_while (passes_of rfl) (pt_cmpR op_notN (pv 5) pe_non (nomark _)) (pss_cons (ps_if (pt_cmpR op_eq (pe_callB call_len_seq (by rfl) T.n_len PySem.boot_len (pa_cons (pv 4) pa_nil)) (pv 2) (nomark _)) (pss_one (ps_raise rfl (takes_of rfl rfl rfl rfl) (pmk_own PySem.F.excBase_ValueError T.x_TooMany T.g_TooMany T.k_TooMany (raises_own T.r_TooMany T.t_TooMany) rfl))) pss_nil)
      (Evl.pss_cut (ps_set (i := 6) sc_stretches.nd rfl (.inl rfl) (pe_call (ok_next_out T) (hr.mono (by decide)) (by rfl) T.m_next_out T.F_next_out.kp T.b_next_out .nil pass0 (pa_cons (pv 0) (pa_cons (pv 1) (pa_cons (pv 5) pa_nil)))))
      (Evl.pss_cut (ps_if (pt_cmpR op_isN (pv 6) pe_non (nomark _)) (pss_one (ps_set (i := 6) sc_stretches.nd rfl (.inl rfl) (pv 3))) pss_nil)
      (pss_cons (ps_expr (pe_bm PySem.F.plainAttrs_list PySem.F.slot_list_append PySem.F.type_list_append mt_append (pv 4) (pa_cons (pe_tup (pa_cons (pv 5) (pa_cons (pe_op op_sub (pv 6) pe_int) pa_nil))) pa_nil)))
      (pss_one (ps_set (i := 5) sc_stretches.nd rfl (.inl rfl) (pe_call (ok_next_in T) (hr.mono (by decide)) (by rfl) T.m_next_in T.F_next_in.kp T.b_next_in .nil pass0 (pa_cons (pv 0) (pa_cons (pv 1) (pa_cons (pv 6) pa_nil)))))))))))
      (pss_one (ps_ret (pv 4)))))))), ?_⟩
    walk_at "rd"
    refine ⟨n, b, B, rfl, hn, hB, hb, ?_⟩
    walk_at "rd"
    refine riteO (by omega) ?_
    walk_at "rd"
    refine riteO (by omega) ?_
    walk_at "rd"
    refine n_lst fun L H1 nL s1 e1 => ?_
    walk_at "rd"
    refine ⟨fun σ' H' => Same H1 H' ∧ ∃ v, σ' = [some (.int n), some (.ref b), some (.int mo), some (.int (4 ^ n : Nat)), some (.ref L), some v, none] ∧ Fst B n 0 v, ?_, ?_⟩
    · walk_at "rd"
      refine ⟨n, 0, _, b, B, rfl, rfl, hn, Nat.zero_le _, hB, s1 _ _ hb, fun hno H2 s2 => ?_, fun r hr1 hr2 hr3 hr4 H2 s2 => ?_⟩
      · exact ⟨s2, _, rfl, .inl ⟨rfl, hno⟩⟩
      · exact ⟨s2, _, rfl, .inr ⟨r, rfl, hr1, hr2, hr3, hr4⟩⟩
    rintro σ' H' ⟨s2, v, rfl, hv⟩
    refine r_seq ?_
    refine n_while (fun m σ' H' => Same H H' ∧ ∃ (ps : List (Nat × Nat)) (c : Nat) (v : V) (o6 : Option V), σ' = [some (.int n), some (.ref b), some (.int mo), some (.int (4 ^ n : Nat)), some (.ref L), some v, o6] ∧ Prs H' L ps ∧ Chain B n 0 ps c ∧ c ≤ 4 ^ n ∧ ps.length ≤ mo ∧ Fst B n c v ∧ m = 4 ^ n - c) (4 ^ n)
      ⟨s1.trans s2, [], 0, v, none, rfl, Prs.nil (s2 _ _ e1), rfl, Nat.zero_le _, Nat.zero_le _, hv, rfl⟩ ?_
    rintro m σ' H3 ⟨s3, ps, c, v, o6, rfl, hps, hch, hc, hlen, hv, rfl⟩
    walk_at "rd"
    refine ⟨rfl, ?_⟩
    rcases hv with ⟨rfl, hA⟩ | ⟨f, rfl, hf⟩
    · walk_at "rd"
      refine riteNO rfl ?_
      walk_at "rd"
      exact q1 ps c L _ hch hA hlen s3 hps
    walk_at "rd"
    refine riteNY (fun z => nomatch z) ?_
    refine ⟨_, fun _ _ z => z, ?_⟩
    walk_at "rd"
    obtain ⟨ts, e3, l3, f3⟩ := hps
    refine ⟨L, _, rfl, .inl (.inl (.inl e3)), ?_⟩
    walk_at "rd"
    rw [List.length_map, l3]
    refine riteD (fun hq => ?_) (fun hq => ?_)
    · exact q2 ps c f _ hch hf (by omega) s3
    walk_at "rd"
    have hf4 := hf.2.1
    refine ⟨fun σ' H' => Same H3 H' ∧ ∃ v e, σ' = [some (.int n), some (.ref b), some (.int mo), some (.int (4 ^ n : Nat)), some (.ref L), some (.int f), some v] ∧ NOut B n f e ∧ ((v = .non ∧ e = 4 ^ n) ∨ v = .int e), ?_, ?_⟩
    · walk_at "rd"
      refine ⟨n, f, _, b, B, rfl, rfl, hn, Nat.le_of_lt hf4, hB, s3 _ _ hb, fun hno H4 s4 => ?_, fun r hr1 hr2 hr3 hr4 H4 s4 => ?_⟩
      · exact ⟨s4, _, _, rfl, NOut.of_none hf4 hno, .inl ⟨rfl, rfl⟩⟩
      · exact ⟨s4, _, _, rfl, NOut.of_some hf.2.2.1 hr1 hr2 hr3 hr4, .inr rfl⟩
    rintro σ' H4 ⟨s4, v, e, rfl, hout, hv⟩
    refine ⟨fun σ' H' => H' = H4 ∧ σ' = [some (.int n), some (.ref b), some (.int mo), some (.int (4 ^ n : Nat)), some (.ref L), some (.int f), some (.int e)], ?_, ?_⟩
    · walk_at "rd"
      refine ⟨rfl, ?_⟩
      rcases hv with ⟨rfl, rfl⟩ | rfl
      · walk_at "rd"
        refine riteY rfl ?_
        walk_at "rd"
        exact ⟨rfl, rfl⟩
      · walk_at "rd"
        refine riteO (fun z => nomatch z) ?_
        walk_at "rd"
        exact ⟨rfl, rfl⟩
    rintro σ' H5 ⟨rfl, rfl⟩
    walk_at "rd"
    have e4 := s4 _ _ e3
    refine ⟨.inl ⟨rfl, _, .inl (.inl e4)⟩, ?_⟩
    walk_at "rd"
    refine n_tup fun t H6 nt s6 e6 => ?_
    walk_at "rd"
    have e6' := s6 _ _ e4
    have he := hout.1
    rw [show (e : Int) - 1 = ((e - 1 : Nat) : Int) by omega] at e6
    refine ⟨L, _, _, rfl, rfl, e6', ?_, ?_⟩
    · rw [List.length_map, l3]
      exact small1000 (by omega)
    walk_at "rd"
    have nLH : H L = none := nL
    have s7 := same_app (o := .lst (ts.map V.ref ++ [.ref t])) (s3.trans (s4.trans s6)) nLH
    have hp7 := Prs.snoc (p := (f, e - 1)) e6' l3 (fun i t p a b => s6 _ _ (s4 _ _ (f3 i t p a b))) e6
    have hch7 := hch.snoc hf hout
    refine ⟨n, e, _, b, B, rfl, rfl, hn, hout.2.1, hB, s7 _ _ hb, fun hno H8 s8 => ?_, fun r hr1 hr2 hr3 hr4 H8 s8 => ?_⟩
    · refine ⟨4 ^ n - e, by have := hf.1; omega, s7.trans s8, ps ++ [(f, e - 1)], e, _, _, rfl, hp7.same s8, hch7, hout.2.1, ?_, .inl ⟨rfl, hno⟩, rfl⟩
      rw [List.length_append]
      show ps.length + 1 ≤ mo
      omega
    · refine ⟨4 ^ n - e, by have := hf.1; omega, s7.trans s8, ps ++ [(f, e - 1)], e, _, _, rfl, hp7.same s8, hch7, hout.2.1, ?_, .inr ⟨r, rfl, hr1, hr2, hr3, hr4⟩, rfl⟩
      rw [List.length_append]
      show ps.length + 1 ≤ mo
      omega
end
/-! _law_cell_at -/
theorem sc__law_cell_at : FnScope ["_law_script", "_law_k"] ["_law_script", "_law_k"] (defScope s__law_cell_at) := ⟨rfl, rfl, rfl, by decide +kernel, rfl, by decide +kernel, by decide +kernel⟩
/-- an item of the script, or 0: of at most 2 ^ 20 bits -/
def sp__law_cell_at (K : PySem.W.Frag) : Sp := fun vs H Q _ => ∃ (a : Addr) (ns : List Int) (k : Nat), vs = [.ref a, .int k] ∧ SqL K H a (ns.map V.int) ∧ (∀ z ∈ ns, Big z) ∧ ∀ z, Big z → Q (.int z) H
section
variable {P : Program} {w : World} {K : PySem.W.Frag} {mg : Str → Option Value} {base : Heap}
theorem ok__law_cell_at (T : Txt K mg) : FnOk P w K mg base CX0 1 T.a__law_cell_at T.d__law_cell_at ["_law_script", "_law_k"] (sp__law_cell_at K) := by
  refine T.F__law_cell_at.ok sc__law_cell_at (fun vs H Q E h => ?_) (fun cdv A outer s H vs Q E hr h => ?_)
  · obtain ⟨a, ns, k, rfl, hS, hb, q⟩ := h
    rfl
  · obtain ⟨a, ns, k, rfl, hS, hb, q⟩ := h
    refine ⟨_, (pss_cons (ps_if (pt_cmpR op_lt (pv 1) (pe_callB call_len_seq (by rfl) T.n_len PySem.boot_len (pa_cons (pv 0) pa_nil)) (nomark _)) (pss_one (ps_ret (pe_ix (r := rIxL K) ix_list (pv 0) (pv 1) (fun _ _ => rfl)))) pss_nil)
      (pss_one (ps_ret pe_int))), ?_⟩
    walk_at "rd"
    refine ⟨a, _, rfl, .inl hS, ?_⟩
    walk_at "rd"
    rw [List.length_map]
    refine riteD (fun h => ?_) (fun h => ?_)
    · have hk : k < ns.length := by omega
      walk_at "rd"
      refine r_ixL (v := .int ns[k]) hS (atI_nat ?_) ?_
      · rw [List.getElem?_map, List.getElem?_eq_getElem hk]
        rfl
      · exact q _ (hb _ (List.getElem_mem hk))
    · walk_at "rd"
      exact q 0 (Nat.zero_le _)
end
/-! _law_whole -/
theorem sc__law_whole : FnScope ["_law_found"] ["_law_found"] (defScope s__law_whole) := ⟨rfl, rfl, rfl, by decide +kernel, rfl, by decide +kernel, by decide +kernel⟩
def sp__law_whole (K : PySem.W.Frag) : Sp := fun vs H Q _ => ∃ z : Int, vs = [.int z] ∧ Q (.bl true) H
section
variable {P : Program} {w : World} {K : PySem.W.Frag} {mg : Str → Option Value} {base : Heap}
theorem ok__law_whole (T : Txt K mg) : FnOk P w K mg base CX0 1 T.a__law_whole T.d__law_whole ["_law_found"] (sp__law_whole K) := by
  refine T.F__law_whole.ok sc__law_whole (fun vs H Q E h => ?_) (fun cdv A outer s H vs Q E hr h => ?_)
  · obtain ⟨z, rfl, q⟩ := h
    rfl
  · obtain ⟨z, rfl, q⟩ := h
    refine ⟨_, (pss_one (ps_ret (pe_and (pe_callB call_isi (by rfl) T.n_isinstance (by decide +kernel) (pa_cons (pv 0) (pa_cons (pe_bltn (v := .ty "int") (by rfl) T.n_int (by decide +kernel) rfl) pa_nil))) (pe_one (pe_not (pe_callB call_isi (by rfl) T.n_isinstance (by decide +kernel) (pa_cons (pv 0) (pa_cons (pe_bltn (v := .ty "bool") (by rfl) T.n_bool (by decide +kernel) rfl) pa_nil)))))))), ?_⟩
    walk_at "rd"
    refine r_isi (ClsV.ty _) (TyX.base (TyOf.int _)) (kit_ty (r := true) (by decide +kernel)) ?_
    walk_at "rd"
    refine r_isi (ClsV.ty _) (TyX.base (TyOf.int _)) (kit_ty (r := false) (by decide +kernel)) ?_
    walk_at "rd"
    exact q
end
/-! _law_folds -/
theorem sc__law_folds : FnScope ["_law_cell"] ["_law_cell"] (defScope s__law_folds) := ⟨rfl, rfl, rfl, by decide +kernel, rfl, by decide +kernel, by decide +kernel⟩
def sp__law_folds (K : PySem.W.Frag) : Sp := fun vs H Q _ => ∃ z : Int, vs = [.int z] ∧ ∀ n : Nat, n ≤ 60 → Q (.int n) H
theorem fold_of {q : Int → Prop} (h : ∀ n : Nat, n ≤ 60 → q n) {z : Int} (h0 : 0 ≤ z) (h1 : z ≤ 60) : q z := by
  have := h z.toNat (by omega)
  rw [Int.toNat_of_nonneg h0] at this
  exact this
section
variable {P : Program} {w : World} {K : PySem.W.Frag} {mg : Str → Option Value} {base : Heap}
theorem ok__law_folds (T : Txt K mg) : FnOk P w K mg base CX0 1 T.a__law_folds T.d__law_folds ["_law_cell"] (sp__law_folds K) := by
  refine T.F__law_folds.ok sc__law_folds (fun vs H Q E h => ?_) (fun cdv A outer s H vs Q E hr h => ?_)
  · obtain ⟨z, rfl, q⟩ := h
    rfl
  · obtain ⟨z, rfl, q⟩ := h
    refine ⟨_, (pss_cons (ps_if (pt_cmpR op_eq (pe_op op_mod (pv 0) pe_int) pe_int (nomark _)) (pss_one (ps_ret (pe_op op_mod (pe_op op_fdivW (pv 0) pe_int) pe_int))) pss_nil)
      (pss_one (ps_ret (pe_op op_mod (pe_op op_fdivW (pv 0) pe_int) pe_int)))), ?_⟩
    walk_at "rd"
    refine riteD (fun h => ?_) (fun h => ?_)
    · walk_at "rd"
      exact fold_of (q := fun z => Q (.int z) H) q (by omega) (by omega)
    · walk_at "rd"
      exact fold_of (q := fun z => Q (.int z) H) q (by omega) (by omega)
end
/-! _law_place -/
theorem sc__law_place : FnScope ["_law_cell", "_law_folds_here", "_law_many", "_law_rest", "_law_block"] ["_law_cell", "_law_folds_here"] (defScope s__law_place) := ⟨rfl, rfl, rfl, by decide +kernel, rfl, by decide +kernel, by decide +kernel⟩
/-- some place of a floor -/
def sp__law_place (K : PySem.W.Frag) : Sp := fun vs H Q _ => ∃ (z : Int) (n : Nat) (zn : Int), vs = [.int z, .int zn] ∧ zn = (n : Int) ∧ n ≤ 60 ∧ Big z ∧ ∀ p : Nat, p < 4 ^ n → Q (.int p) H
theorem place_of' {n : Nat} {q : Int → Prop} (h : ∀ p : Nat, p < 4 ^ n → q p) {z : Int} (h0 : 0 ≤ z) (h1 : z < ((4 ^ n : Nat) : Int)) : q z := by
  have := h z.toNat (by omega)
  rw [Int.toNat_of_nonneg h0] at this
  exact this
section
variable {P : Program} {w : World} {K : PySem.W.Frag} {mg : Str → Option Value} {base : Heap}
theorem ok__law_place (T : Txt K mg) : FnOk P w K mg base CX0 1 T.a__law_place T.d__law_place ["_law_cell", "_law_folds_here"] (sp__law_place K) := by
  refine T.F__law_place.ok sc__law_place (fun vs H Q E h => ?_) (fun cdv A outer s H vs Q E hr h => ?_)
  · obtain ⟨z, n, zn, rfl, rfl, hn, hb, q⟩ := h
    rfl
  · obtain ⟨z, n, zn, rfl, rfl, hn, hb, q⟩ := h
    refine ⟨_, (pss_cons (ps_set (i := 2) sc__law_place.nd rfl (.inl rfl) (pe_op op_shl pe_int (pe_op op_mul pe_int (pv 1))))
      (pss_cons (ps_set (i := 3) sc__law_place.nd rfl (.inl rfl) (pe_op op_fdivW (pv 0) pe_int))
      (pss_cons (ps_if (pt_cmpR op_eq (pe_op op_mod (pv 0) pe_int) pe_int (nomark _)) (pss_one (ps_ret (pe_op op_sub (pe_op op_sub (pv 2) pe_int) (pe_op op_mod (pv 3) (pv 2))))) pss_nil)
      (pss_cons (ps_if (pt_cmpR op_eq (pe_op op_mod (pv 0) pe_int) pe_int (nomark _)) (pss_one (ps_ret (pe_op op_mod (pe_op op_mulX (pv 3) (pe_op op_add (pe_op op_pow pe_int pe_int) pe_int)) (pv 2)))) pss_nil)
      (pss_cons (ps_if (pt_cmpR op_eq (pe_op op_mod (pv 0) pe_int) pe_int (nomark _)) (pss_cons (ps_set (i := 4) sc__law_place.nd rfl (.inl rfl) (pe_op op_shl pe_int (pe_op op_mul pe_int (pe_op op_mod (pv 3) (pe_op op_add (pv 1) pe_int)))))
      (pss_one (ps_ret (pe_op op_mod (pe_op op_sub (pe_op op_mulX (pe_op op_fdivW (pv 3) (pe_op op_add (pv 1) pe_int)) (pv 4)) (pe_op op_mod (pe_op op_fdivW (pv 3) pe_int) pe_int)) (pv 2))))) pss_nil)
      (pss_one (ps_ret (pe_op op_mod (pv 3) (pv 2))))))))), ?_⟩
    walk_at "rd"
    refine r_shl (2 * n) (by omega) (by omega) (by decide) ?_
    rw [Int.one_mul, i4_nat]
    have h4 : (0 : Int) < ((4 ^ n : Nat) : Int) := by have := p4 n; omega
    have hr : Big (z / 4) := hb.div (by decide)
    walk_at "rd"
    refine riteD (fun h => ?_) (fun h => ?_)
    · walk_at "rd"
      have m1 := Int.emod_nonneg (z / 4) (show ((4 ^ n : Nat) : Int) ≠ 0 by omega)
      have m2 := Int.emod_lt_of_pos (z / 4) h4
      exact place_of' (q := fun z => Q (.int z) H) q (by omega) (by omega)
    · walk_at "rd"
      refine riteD (fun h2 => ?_) (fun h2 => ?_)
      · walk_at "rd"
        refine r_I ⟨by decide, by decide, by decide⟩ ?_
        walk_at "rd"
        refine r_mulX (hr.mul (k := 200) (by decide) (by decide)) ?_
        walk_at "rd"
        exact place_of' (q := fun z => Q (.int z) H) q (Int.emod_nonneg _ (by omega)) (Int.emod_lt_of_pos _ h4)
      · walk_at "rd"
        refine riteD (fun h3 => ?_) (fun h3 => ?_)
        · walk_at "rd"
          have m1 := Int.emod_nonneg (z / 4) (show (n : Int) + 1 ≠ 0 by omega)
          have m2 := Int.emod_lt_of_pos (z / 4) (show (0 : Int) < (n : Int) + 1 by omega)
          refine r_shl (2 * (z / 4 % ((n : Int) + 1)).toNat) (by omega) (by omega) (by decide) ?_
          rw [Int.one_mul, i4_nat]
          walk_at "rd"
          have hr2 : Big (z / 4 / ((n : Int) + 1)) := hr.div (by omega)
          refine r_mulX (hr2.mul (k := 200) ?_ (by decide)) ?_
          · have e1 := n4_lt (n := (z / 4 % ((n : Int) + 1)).toNat) (m := 60) (by omega)
            have e2 : (4 : Nat) ^ 60 < 2 ^ 200 := by decide
            rw [Int.natAbs_natCast]
            exact Nat.lt_of_le_of_lt e1 e2
          walk_at "rd"
          exact place_of' (q := fun z => Q (.int z) H) q (Int.emod_nonneg _ (by omega)) (Int.emod_lt_of_pos _ h4)
        · walk_at "rd"
          exact place_of' (q := fun z => Q (.int z) H) q (Int.emod_nonneg _ (by omega)) (Int.emod_lt_of_pos _ h4)
end
/-! _law_line -/
theorem sc__law_line : FnScope ["_law_cell", "_law_folds_here", "_law_side", "_law_rest", "_law_unit"] ["_law_cell", "_law_folds_here"] (defScope s__law_line) := ⟨rfl, rfl, rfl, by decide +kernel, rfl, by decide +kernel, by decide +kernel⟩
/-- some column, or row, of a floor -/
def sp__law_line (K : PySem.W.Frag) : Sp := fun vs H Q _ => ∃ (z : Int) (n : Nat) (zn : Int), vs = [.int z, .int zn] ∧ zn = (n : Int) ∧ n ≤ 60 ∧ Big z ∧ ∀ x : Nat, x < 2 ^ n → Q (.int x) H
theorem line_of' {n : Nat} {q : Int → Prop} (h : ∀ p : Nat, p < 2 ^ n → q p) {z : Int} (h0 : 0 ≤ z) (h1 : z < ((2 ^ n : Nat) : Int)) : q z := by
  have := h z.toNat (by omega)
  rw [Int.toNat_of_nonneg h0] at this
  exact this
section
variable {P : Program} {w : World} {K : PySem.W.Frag} {mg : Str → Option Value} {base : Heap}
theorem ok__law_line (T : Txt K mg) : FnOk P w K mg base CX0 1 T.a__law_line T.d__law_line ["_law_cell", "_law_folds_here"] (sp__law_line K) := by
  refine T.F__law_line.ok sc__law_line (fun vs H Q E h => ?_) (fun cdv A outer s H vs Q E hr h => ?_)
  · obtain ⟨z, n, zn, rfl, rfl, hn, hb, q⟩ := h
    rfl
  · obtain ⟨z, n, zn, rfl, rfl, hn, hb, q⟩ := h
    refine ⟨_, (pss_cons (ps_set (i := 2) sc__law_line.nd rfl (.inl rfl) (pe_op op_shl pe_int (pv 1)))
      (pss_cons (ps_set (i := 3) sc__law_line.nd rfl (.inl rfl) (pe_op op_fdivW (pv 0) pe_int))
      (pss_cons (ps_if (pt_cmpR op_eq (pe_op op_mod (pv 0) pe_int) pe_int (nomark _)) (pss_one (ps_ret (pe_op op_sub (pe_op op_sub (pv 2) pe_int) (pe_op op_mod (pv 3) (pv 2))))) pss_nil)
      (pss_cons (ps_if (pt_cmpR op_eq (pe_op op_mod (pv 0) pe_int) pe_int (nomark _)) (pss_one (ps_ret (pe_op op_mod (pe_op op_mulX (pv 3) (pe_op op_add (pe_op op_pow pe_int pe_int) pe_int)) (pv 2)))) pss_nil)
      (pss_cons (ps_if (pt_cmpR op_eq (pe_op op_mod (pv 0) pe_int) pe_int (nomark _)) (pss_cons (ps_set (i := 4) sc__law_line.nd rfl (.inl rfl) (pe_op op_shl pe_int (pe_op op_mod (pv 3) (pe_op op_add (pv 1) pe_int))))
      (pss_one (ps_ret (pe_op op_mod (pe_op op_sub (pe_op op_mulX (pe_op op_fdivW (pv 3) (pe_op op_add (pv 1) pe_int)) (pv 4)) (pe_op op_mod (pe_op op_fdivW (pv 3) pe_int) pe_int)) (pv 2))))) pss_nil)
      (pss_one (ps_ret (pe_op op_mod (pv 3) (pv 2))))))))), ?_⟩
    walk_at "rd"
    refine r_shl n rfl (by omega) (by decide) ?_
    rw [Int.one_mul, i2_nat]
    have h4 : (0 : Int) < ((2 ^ n : Nat) : Int) := by have := p2 n; omega
    have hr : Big (z / 4) := hb.div (by decide)
    walk_at "rd"
    refine riteD (fun h => ?_) (fun h => ?_)
    · walk_at "rd"
      have m1 := Int.emod_nonneg (z / 4) (show ((2 ^ n : Nat) : Int) ≠ 0 by omega)
      have m2 := Int.emod_lt_of_pos (z / 4) h4
      exact line_of' (q := fun z => Q (.int z) H) q (by omega) (by omega)
    · walk_at "rd"
      refine riteD (fun h2 => ?_) (fun h2 => ?_)
      · walk_at "rd"
        refine r_I ⟨by decide, by decide, by decide⟩ ?_
        walk_at "rd"
        refine r_mulX (hr.mul (k := 200) (by decide) (by decide)) ?_
        walk_at "rd"
        exact line_of' (q := fun z => Q (.int z) H) q (Int.emod_nonneg _ (by omega)) (Int.emod_lt_of_pos _ h4)
      · walk_at "rd"
        refine riteD (fun h3 => ?_) (fun h3 => ?_)
        · walk_at "rd"
          have m1 := Int.emod_nonneg (z / 4) (show (n : Int) + 1 ≠ 0 by omega)
          have m2 := Int.emod_lt_of_pos (z / 4) (show (0 : Int) < (n : Int) + 1 by omega)
          refine r_shl (z / 4 % ((n : Int) + 1)).toNat (by omega) (by omega) (by decide) ?_
          rw [Int.one_mul, i2_nat]
          walk_at "rd"
          have hr2 : Big (z / 4 / ((n : Int) + 1)) := hr.div (by omega)
          refine r_mulX (hr2.mul (k := 200) ?_ (by decide)) ?_
          · rw [Int.natAbs_natCast]
            exact n2_lt (by omega)
          walk_at "rd"
          exact line_of' (q := fun z => Q (.int z) H) q (Int.emod_nonneg _ (by omega)) (Int.emod_lt_of_pos _ h4)
        · walk_at "rd"
          exact line_of' (q := fun z => Q (.int z) H) q (Int.emod_nonneg _ (by omega)) (Int.emod_lt_of_pos _ h4)
end
/-! _law_span -/
theorem sc__law_span : FnScope ["_law_one", "_law_two", "_law_folds_here", "_law_side", "_law_low", "_law_rest", "_law_unit", "_law_high"] ["_law_one", "_law_two", "_law_folds_here"] (defScope s__law_span) := ⟨rfl, rfl, rfl, by decide +kernel, rfl, by decide +kernel, by decide +kernel⟩
/-- some span of a floor's columns, or rows -/
def sp__law_span (K : PySem.W.Frag) : Sp := fun vs H Q _ => ∃ (z1 z2 : Int) (n : Nat), vs = [.int z1, .int z2, .int n] ∧ n ≤ 60 ∧ Big z1 ∧ Big z2 ∧
  ∀ (x y : Int) (a : Addr) (H' : Hp), 0 ≤ x → x ≤ y → y < 2 ^ n → Same H H' → H' a = some (.tup [.int x, .int y]) → Q (.ref a) H'
section
variable {P : Program} {w : World} {K : PySem.W.Frag} {mg : Str → Option Value} {base : Heap}
theorem ok__law_span (T : Txt K mg) : FnOk P w K mg base CX0 2 T.a__law_span T.d__law_span ["_law_one", "_law_two", "_law_folds_here"] (sp__law_span K) := by
  refine T.F__law_span.ok sc__law_span (fun vs H Q E h => ?_) (fun cdv A outer s H vs Q E hr h => ?_)
  · obtain ⟨z1, z2, n, rfl, hn, hb1, hb2, q⟩ := h
    rfl
  · obtain ⟨z1, z2, n, rfl, hn, hb1, hb2, q⟩ := h
    refine ⟨_, (pss_cons (ps_set (i := 3) sc__law_span.nd rfl (.inl rfl) (pe_op op_shl pe_int (pv 2)))
      (pss_cons (ps_set (i := 4) sc__law_span.nd rfl (.inl rfl) (pe_call (ok__law_line T) (hr.mono (by decide)) (by rfl) T.m__law_line T.F__law_line.kp T.b__law_line .nil pass0 (pa_cons (pv 0) (pa_cons (pv 2) pa_nil))))
      (pss_cons (ps_set (i := 5) sc__law_span.nd rfl (.inl rfl) (pe_op op_fdivW (pv 1) pe_int))
      (pss_cons (ps_if (pt_cmpR op_eq (pe_op op_mod (pv 1) pe_int) pe_int (nomark _)) (pss_one (ps_ret (pe_tup (pa_cons (pv 4) (pa_cons (pe_callB (call_min2 rfl) (by rfl) T.n_min (by decide +kernel) (pa_cons (pe_op op_add (pv 4) (pe_op op_mod (pv 5) pe_int)) (pa_cons (pe_op op_sub (pv 3) pe_int) pa_nil))) pa_nil))))) pss_nil)
      (pss_cons (ps_if (pt_cmpR op_eq (pe_op op_mod (pv 1) pe_int) pe_int (nomark _)) (pss_one (ps_ret (pe_ix (r := rIxL K) ix_list (pe_lst (pa_cons (pe_tup (pa_cons pe_int (pa_cons (pv 4) pa_nil))) (pa_cons (pe_tup (pa_cons (pv 4) (pa_cons (pe_op op_sub (pv 3) pe_int) pa_nil))) pa_nil))) (pe_op op_mod (pv 5) pe_int) (fun _ _ => rfl)))) pss_nil)
      (pss_cons (ps_if (pt_cmpR op_eq (pe_op op_mod (pv 1) pe_int) pe_int (nomark _)) (pss_cons (ps_set (i := 6) sc__law_span.nd rfl (.inl rfl) (pe_op op_shl pe_int (pe_op op_mod (pv 5) (pe_op op_add (pv 2) pe_int))))
      (pss_cons (ps_set (i := 4) sc__law_span.nd rfl (.inl rfl) (pe_op op_mulX (pe_op op_fdivW (pv 4) (pv 6)) (pv 6)))
      (pss_one (ps_ret (pe_tup (pa_cons (pv 4) (pa_cons (pe_op op_sub (pe_callB (call_min2 rfl) (by rfl) T.n_min (by decide +kernel) (pa_cons (pe_op op_add (pv 4) (pe_op op_mul (pv 6) (pe_op op_add pe_int (pe_op op_mod (pe_op op_fdivW (pv 5) (pe_op op_add (pv 2) pe_int)) pe_int)))) (pa_cons (pv 3) pa_nil))) pe_int) pa_nil))))))) pss_nil)
      (pss_cons (ps_set (i := 7) sc__law_span.nd rfl (.inl rfl) (pe_call (ok__law_line T) (hr.mono (by decide)) (by rfl) T.m__law_line T.F__law_line.kp T.b__law_line .nil pass0 (pa_cons (pv 5) (pa_cons (pv 2) pa_nil))))
      (pss_one (ps_ret (pe_tup (pa_cons (pe_callB (call_min2 rfl) (by rfl) T.n_min (by decide +kernel) (pa_cons (pv 4) (pa_cons (pv 7) pa_nil))) (pa_cons (pe_callB (call_max2 rfl) (by rfl) T.n_max (by decide +kernel) (pa_cons (pv 4) (pa_cons (pv 7) pa_nil))) pa_nil)))))))))))), ?_⟩
    walk_at "rd"
    refine r_shl n rfl (by omega) (by decide) ?_
    rw [Int.one_mul]
    have hS1 := i2_pos n
    have hS2 : (2 : Int) ^ n < 2 ^ 64 := i2_lt (by omega)
    have h2 := i2_nat n
    walk_at "rd"
    refine ⟨z1, n, _, rfl, rfl, hn, hb1, fun x hx => ?_⟩
    walk_at "rd"
    refine riteD (fun c1 => ?_) (fun c1 => ?_)
    · walk_at "rd"
      refine ⟨_, _, rfl, ?_⟩
      walk_at "rd"
      exact n_tup fun a H1 na s1 e1 => q _ _ a H1 (by omega) (by split <;> omega) (by split <;> omega) s1 e1
    walk_at "rd"
    refine riteD (fun c2 => ?_) (fun c2 => ?_)
    · walk_at "rd"
      refine n_tup fun t0 H1 nt0 s1 e1 => ?_
      walk_at "rd"
      refine n_tup fun t1 H2 nt1 s2 e2 => ?_
      walk_at "rd"
      refine n_lst fun t2 H3 nt2 s3 e3 => ?_
      walk_at "rd"
      have m1 := Int.emod_nonneg (z2 / 4) (show (2 : Int) ≠ 0 by omega)
      have m2 := Int.emod_lt_of_pos (z2 / 4) (show (0 : Int) < 2 by omega)
      have e : z2 / 4 % 2 = ((0 : Nat) : Int) ∨ z2 / 4 % 2 = ((1 : Nat) : Int) := by omega
      rcases e with e | e
      · rw [e]
        refine r_ixL (.inl (.inl e3)) (atI_nat (j := 0) rfl) ?_
        exact q _ _ _ _ (by omega) (by omega) (by omega) (s1.trans (s2.trans s3)) (s3 _ _ (s2 _ _ e1))
      · rw [e]
        refine r_ixL (.inl (.inl e3)) (atI_nat (j := 1) rfl) ?_
        exact q _ _ _ _ (by omega) (by omega) (by omega) (s1.trans (s2.trans s3)) (s3 _ _ e2)
    walk_at "rd"
    refine riteD (fun c3 => ?_) (fun c3 => ?_)
    · walk_at "rd"
      have m1 := Int.emod_nonneg (z2 / 4) (show (n : Int) + 1 ≠ 0 by omega)
      have m2 := Int.emod_lt_of_pos (z2 / 4) (show (0 : Int) < (n : Int) + 1 by omega)
      obtain ⟨k, hk, ek⟩ : ∃ k : Nat, k ≤ n ∧ z2 / 4 % ((n : Int) + 1) = (k : Int) := ⟨(z2 / 4 % ((n : Int) + 1)).toNat, by omega, by omega⟩
      rw [ek]
      refine r_shl k rfl (by omega) (by decide) ?_
      have k1 := i2_pos k
      have k2 : (2 : Int) ^ k < 2 ^ 64 := i2_lt (by omega)
      rw [Int.one_mul]
      walk_at "rd"
      refine r_mulX (cmul_pow (a := 64) (b := 64) ?_ ?_ (by decide)) ?_
      · have := abs_div (z := (x : Int)) k1
        omega
      · omega
      walk_at "rd"
      have m3 := Int.emod_nonneg (z2 / 4 / ((n : Int) + 1)) (show (4 : Int) ≠ 0 by omega)
      have m4 := Int.emod_lt_of_pos (z2 / 4 / ((n : Int) + 1)) (show (0 : Int) < 4 by omega)
      have m5 := Int.mul_nonneg (Int.le_of_lt k1) m3
      have m6 := Int.ediv_nonneg (Int.natCast_nonneg x) (Int.le_of_lt k1)
      have m7 := Int.mul_nonneg m6 (Int.le_of_lt k1)
      have m8 := Int.ediv_mul_le (x : Int) (show (2 : Int) ^ k ≠ 0 by omega)
      refine ⟨_, _, rfl, ?_⟩
      rw [Int.mul_add, Int.mul_one]
      walk_at "rd"
      exact n_tup fun a H1 na s1 e1 => q _ _ a H1 (by omega) (by split <;> omega) (by split <;> omega) s1 e1
    walk_at "rd"
    refine ⟨_, n, _, rfl, rfl, hn, hb2.div (by decide), fun y hy => ?_⟩
    walk_at "rd"
    refine ⟨_, _, rfl, ?_⟩
    walk_at "rd"
    refine ⟨_, _, rfl, ?_⟩
    walk_at "rd"
    exact n_tup fun a H1 na s1 e1 => q _ _ a H1 (by split <;> omega) (by split <;> split <;> omega) (by split <;> omega) s1 e1
end
/-! _law_box -/
theorem sc__law_box : FnScope ["_law_script", "_law_at", "_law_folds_here", "_law_across", "_law_up"] ["_law_script", "_law_at", "_law_folds_here"] (defScope s__law_box) := ⟨rfl, rfl, rfl, by decide +kernel, rfl, by decide +kernel, by decide +kernel⟩
/-- some box of a floor -/
def sp__law_box (K : PySem.W.Frag) : Sp := fun vs H Q _ => ∃ (a : Addr) (ns : List Int) (i n : Nat), vs = [.ref a, .int i, .int n] ∧ SqL K H a (ns.map V.int) ∧ (∀ z ∈ ns, Big z) ∧ n ≤ 60 ∧
  ∀ (B : Box) (b : Addr) (H' : Hp), BoxOk B n → Same H H' → H' b = some (.tup (bt B)) → Q (.ref b) H'
section
variable {P : Program} {w : World} {K : PySem.W.Frag} {mg : Str → Option Value} {base : Heap}
theorem ok__law_box (T : Txt K mg) : FnOk P w K mg base CX0 3 T.a__law_box T.d__law_box ["_law_script", "_law_at", "_law_folds_here"] (sp__law_box K) := by
  refine T.F__law_box.ok sc__law_box (fun vs H Q E h => ?_) (fun cdv A outer s H vs Q E hr h => ?_)
  · obtain ⟨a, ns, i, n, rfl, hS, hb, hn, q⟩ := h
    rfl
  · obtain ⟨a, ns, i, n, rfl, hS, hb, hn, q⟩ := h
    refine ⟨_, (pss_cons (ps_set (i := 3) sc__law_box.nd rfl (.inl rfl) (pe_call (ok__law_span T) (hr.mono (by decide)) (by rfl) T.m__law_span T.F__law_span.kp T.b__law_span .nil pass0 (pa_cons (pe_call (ok__law_cell_at T) (hr.mono (by decide)) (by rfl) T.m__law_cell_at T.F__law_cell_at.kp T.b__law_cell_at .nil pass0 (pa_cons (pv 0) (pa_cons (pv 1) pa_nil))) (pa_cons (pe_call (ok__law_cell_at T) (hr.mono (by decide)) (by rfl) T.m__law_cell_at T.F__law_cell_at.kp T.b__law_cell_at .nil pass0 (pa_cons (pv 0) (pa_cons (pe_op op_add (pv 1) pe_int) pa_nil))) (pa_cons (pv 2) pa_nil)))))
      (pss_cons (ps_set (i := 4) sc__law_box.nd rfl (.inl rfl) (pe_call (ok__law_span T) (hr.mono (by decide)) (by rfl) T.m__law_span T.F__law_span.kp T.b__law_span .nil pass0 (pa_cons (pe_call (ok__law_cell_at T) (hr.mono (by decide)) (by rfl) T.m__law_cell_at T.F__law_cell_at.kp T.b__law_cell_at .nil pass0 (pa_cons (pv 0) (pa_cons (pe_op op_add (pv 1) pe_int) pa_nil))) (pa_cons (pe_call (ok__law_cell_at T) (hr.mono (by decide)) (by rfl) T.m__law_cell_at T.F__law_cell_at.kp T.b__law_cell_at .nil pass0 (pa_cons (pv 0) (pa_cons (pe_op op_add (pv 1) pe_int) pa_nil))) (pa_cons (pv 2) pa_nil)))))
      (pss_one (ps_ret (pe_tup (pa_cons (pe_ix (r := rIxT K) ix_tup (pv 3) pe_int (fun _ _ => rfl)) (pa_cons (pe_ix (r := rIxT K) ix_tup (pv 4) pe_int (fun _ _ => rfl)) (pa_cons (pe_ix (r := rIxT K) ix_tup (pv 3) pe_int (fun _ _ => rfl)) (pa_cons (pe_ix (r := rIxT K) ix_tup (pv 4) pe_int (fun _ _ => rfl)) pa_nil))))))))), ?_⟩
    walk_at "rd"
    refine ⟨a, ns, i, rfl, hS, hb, fun z1 hz1 => ?_⟩
    walk_at "rd"
    refine ⟨a, ns, i + 1, rfl, hS, hb, fun z2 hz2 => ?_⟩
    walk_at "rd"
    refine ⟨z1, z2, n, rfl, hn, hz1, hz2, fun x y t1 H1 x1 x2 x3 s1 e1 => ?_⟩
    walk_at "rd"
    refine ⟨a, ns, i + 2, rfl, s1.seq hS, hb, fun z3 hz3 => ?_⟩
    walk_at "rd"
    refine ⟨a, ns, i + 3, rfl, s1.seq hS, hb, fun z4 hz4 => ?_⟩
    walk_at "rd"
    refine ⟨z3, z4, n, rfl, hn, hz3, hz4, fun u v t2 H2 y1 y2 y3 s2 e2 => ?_⟩
    walk_at "rd"
    have e1' := s2 _ _ e1
    refine r_ixT e1' (atI_nat (j := 0) rfl) ?_
    walk_at "rd"
    refine r_ixT e2 (atI_nat (j := 0) rfl) ?_
    walk_at "rd"
    refine r_ixT e1' (atI_nat (j := 1) rfl) ?_
    walk_at "rd"
    refine r_ixT e2 (atI_nat (j := 1) rfl) ?_
    walk_at "rd"
    exact n_tup fun b H3 nb s3 e3 => q ⟨x, u, y, v⟩ b H3 ⟨x1, x2, x3, y1, y2, y3⟩ (s1.trans (s2.trans s3)) e3
end
/-! _law_within -/
theorem sc__law_within : FnScope ["_law_cell", "_law_box_here"] ["_law_cell", "_law_box_here"] (defScope s__law_within) := ⟨rfl, rfl, rfl, by decide +kernel, rfl, by decide +kernel, by decide +kernel⟩
def sp__law_within (K : PySem.W.Frag) : Sp := fun vs H Q _ => ∃ (c b : Addr) (x y l o r h : Int), vs = [.ref c, .ref b] ∧ H c = some (.tup [.int x, .int y]) ∧ H b = some (.tup [.int l, .int o, .int r, .int h]) ∧ Q (.bl (decide (l ≤ x ∧ x ≤ r ∧ o ≤ y ∧ y ≤ h))) H
section
variable {P : Program} {w : World} {K : PySem.W.Frag} {mg : Str → Option Value} {base : Heap}
theorem ok__law_within (T : Txt K mg) : FnOk P w K mg base CX0 1 T.a__law_within T.d__law_within ["_law_cell", "_law_box_here"] (sp__law_within K) := by
  refine T.F__law_within.ok sc__law_within (fun vs H Q E h => ?_) (fun cdv A outer s H vs Q E hr h => ?_)
  · obtain ⟨c, b, x, y, l, o, r, h', rfl, hc, hb, q⟩ := h
    rfl
  · obtain ⟨c, b, x, y, l, o, r, h', rfl, hc, hb, q⟩ := h
    refine ⟨_, (pss_one (ps_ret (pe_and (pe_chain op_le op_le (pe_ix (r := rIxT K) ix_tup (pv 1) pe_int (fun _ _ => rfl)) (pe_ix (r := rIxT K) ix_tup (pv 0) pe_int (fun _ _ => rfl)) (pe_ix (r := rIxT K) ix_tup (pv 1) pe_int (fun _ _ => rfl))) (pe_one (pe_chain op_le op_le (pe_ix (r := rIxT K) ix_tup (pv 1) pe_int (fun _ _ => rfl)) (pe_ix (r := rIxT K) ix_tup (pv 0) pe_int (fun _ _ => rfl)) (pe_ix (r := rIxT K) ix_tup (pv 1) pe_int (fun _ _ => rfl))))))), ?_⟩
    walk_at "rd"
    refine r_ixT hb (atI_nat (j := 0) rfl) ?_
    walk_at "rd"
    refine r_ixT hc (atI_nat (j := 0) rfl) ?_
    walk_at "rd"
    refine riteD (fun h1 => ?_) (fun h1 => ?_)
    · walk_at "rd"
      refine r_ixT hb (atI_nat (j := 2) rfl) ?_
      walk_at "rd"
      refine riteD (fun h2 => ?_) (fun h2 => ?_)
      · walk_at "rd"
        refine r_ixT hb (atI_nat (j := 1) rfl) ?_
        walk_at "rd"
        refine r_ixT hc (atI_nat (j := 1) rfl) ?_
        walk_at "rd"
        refine riteD (fun h3 => ?_) (fun h3 => ?_)
        · walk_at "rd"
          refine r_ixT hb (atI_nat (j := 3) rfl) ?_
          walk_at "rd"
          rw [show decide (l ≤ x ∧ x ≤ r ∧ o ≤ y ∧ y ≤ h') = decide (y ≤ h') from decide_eq_decide.mpr ⟨fun z => z.2.2.2, fun z => ⟨h1, h2, h3, z⟩⟩] at q
          exact q
        · walk_at "rd"
          rw [decide_eq_false (fun z => h3 z.2.2.1)] at q
          exact q
      · walk_at "rd"
        rw [decide_eq_false (fun z => h2 z.2.1)] at q
        exact q
    · walk_at "rd"
      rw [decide_eq_false (fun z => h1 z.1)] at q
      exact q
end
/-! _law_in_order -/
theorem sc__law_in_order : FnScope ["_law_told", "_law_most", "_law_many", "_law_before", "_law_pair"] ["_law_told", "_law_most", "_law_many"] (defScope s__law_in_order) := ⟨rfl, rfl, rfl, by decide +kernel, rfl, by decide +kernel, by decide +kernel⟩
def sp__law_in_order (K : PySem.W.Frag) : Sp := fun vs H Q _ => ∃ (n d mo : Nat) (B : Box) (L : Addr) (ps : List (Nat × Nat)), vs = [.ref L, .int mo, .int (4 ^ n : Nat)] ∧ Prs H L ps ∧ Chain B n 0 ps d ∧ ps.length ≤ mo ∧ Q (.bl true) H
section
variable {P : Program} {w : World} {K : PySem.W.Frag} {mg : Str → Option Value} {base : Heap}
theorem ok__law_in_order (T : Txt K mg) : FnOk P w K mg base CX0 2 T.a__law_in_order T.d__law_in_order ["_law_told", "_law_most", "_law_many"] (sp__law_in_order K) := by
  refine T.F__law_in_order.ok sc__law_in_order (fun vs H Q E h => ?_) (fun cdv A outer s H vs Q E hr h => ?_)
  · obtain ⟨n, d, mo, B, L, ps, rfl, hps, hch, hl, q⟩ := h
    rfl
  · obtain ⟨n, d, mo, B, L, ps, rfl, hps, hch, hl, q⟩ := h
    refine ⟨_, (pss_cons (ps_if (PW.pt (pw_or (pt_not (pt_val (pe_callB call_isi (by rfl) T.n_isinstance (by decide +kernel) (pa_cons (pv 0) (pa_cons (pe_bltn (v := .ty "list") (by rfl) T.n_list (by decide +kernel) rfl) pa_nil))))) (pw_or1 (pt_cmpR op_gt (pe_callB call_len_seq (by rfl) T.n_len PySem.boot_len (pa_cons (pv 0) pa_nil)) (pv 1) (nomark _))))) (pss_one (ps_ret pe_bl)) pss_nil)
      (pss_cons (ps_set (i := 3) sc__law_in_order.nd rfl (.inl rfl) (pe_un un_neg pe_int))
      (pss_cons (ps_for PassesOwn.never rfl (pi_list (pv 0)) (pg_name (i := 4) sc__law_in_order.nd rfl (.inl rfl)) (pss_cons (ps_if (PW.pt (pw_or (pt_not (pt_val (pe_callB call_isi (by rfl) T.n_isinstance (by decide +kernel) (pa_cons (pv 4) (pa_cons (pe_bltn (v := .ty "tuple") (by rfl) T.n_tuple (by decide +kernel) rfl) pa_nil))))) (pw_or1 (pt_cmpR op_ne (pe_callB call_len_seq (by rfl) T.n_len PySem.boot_len (pa_cons (pv 4) pa_nil)) pe_int (nomark _))))) (pss_one (ps_ret pe_bl)) pss_nil)
      (pss_cons (ps_if (PW.pt (pw_or (pt_not (pt_val (pe_call (ok__law_whole T) (hr.mono (by decide)) (by rfl) T.m__law_whole T.F__law_whole.kp T.b__law_whole .nil pass0 (pa_cons (pe_ix (r := rIxT K) ix_tup (pv 4) pe_int (fun _ _ => rfl)) pa_nil)))) (pw_or1 (pt_not (pt_val (pe_call (ok__law_whole T) (hr.mono (by decide)) (by rfl) T.m__law_whole T.F__law_whole.kp T.b__law_whole .nil pass0 (pa_cons (pe_ix (r := rIxT K) ix_tup (pv 4) pe_int (fun _ _ => rfl)) pa_nil))))))) (pss_one (ps_ret pe_bl)) pss_nil)
      (pss_cons (ps_if (PW.pt (pw_or (pt_cmpR op_lt (pe_ix (r := rIxT K) ix_tup (pv 4) pe_int (fun _ _ => rfl)) (pe_callB (call_max2 rfl) (by rfl) T.n_max (by decide +kernel) (pa_cons (pe_op op_add (pv 3) pe_int) (pa_cons pe_int pa_nil))) (nomark _)) (pw_or (pt_cmpR op_lt (pe_ix (r := rIxT K) ix_tup (pv 4) pe_int (fun _ _ => rfl)) (pe_ix (r := rIxT K) ix_tup (pv 4) pe_int (fun _ _ => rfl)) (nomark _)) (pw_or1 (pt_cmpR op_ge (pe_ix (r := rIxT K) ix_tup (pv 4) pe_int (fun _ _ => rfl)) (pv 2) (nomark _)))))) (pss_one (ps_ret pe_bl)) pss_nil)
      (pss_one (ps_set (i := 3) sc__law_in_order.nd rfl (.inl rfl) (pe_ix (r := rIxT K) ix_tup (pv 4) pe_int (fun _ _ => rfl))))))))
      (pss_one (ps_ret pe_bl))))), ?_⟩
    obtain ⟨ts, e, l, f⟩ := hps
    walk_at "rd"
    refine r_isi (ClsV.ty _) (TyX.base (TyOf.lst e)) (kit_ty (r := true) (by decide +kernel)) ?_
    walk_at "rd"
    refine ⟨L, _, rfl, .inl (.inl (.inl e)), ?_⟩
    walk_at "rd"
    rw [List.length_map]
    refine riteO (by omega) ?_
    walk_at "rd"
    refine n_forL (fun i σ' H' => H' = H ∧ ∃ (z : Int) (o4 : Option V), σ' = [some (.ref L), some (.int mo), some (.int (4 ^ n : Nat)), some (.int z), o4] ∧ ∀ p : Nat × Nat, ps[i]? = some p → z + 2 ≤ (p.1 : Int)) (.inl (.inl e)) ⟨rfl, -2, none, rfl, fun p _ => by omega⟩ (fun i σ' H' p => by rw [p.1]; exact .inl (.inl e)) ?_ ?_
    · rintro i x σ' H' hx ⟨rfl, z, o4, rfl, hz⟩
      have hi : i < ts.length := by
        have := (List.getElem?_eq_some_iff.mp hx).1
        rw [List.length_map] at this
        exact this
      rw [List.getElem?_map, List.getElem?_eq_getElem hi] at hx
      have hx2 : V.ref ts[i] = x := Option.some.inj hx
      subst hx2
      have hip : i < ps.length := by omega
      have et := f i ts[i] ps[i] (List.getElem?_eq_getElem hi) (List.getElem?_eq_getElem hip)
      have hz2 := hz ps[i] (List.getElem?_eq_getElem hip)
      obtain ⟨c1, c2, c3, c4, c5⟩ := hch.pair ps[i] (List.getElem_mem hip)
      walk_at "rd"
      refine r_isi (ClsV.ty _) (TyX.base (TyOf.tup et)) (kit_ty (r := true) (by decide +kernel)) ?_
      walk_at "rd"
      refine ⟨_, _, rfl, .inr (.inl (.inl et)), ?_⟩
      walk_at "rd"
      refine riteNO rfl ?_
      walk_at "rd"
      refine r_ixT et (atI_nat (j := 0) rfl) ?_
      walk_at "rd"
      refine ⟨_, rfl, ?_⟩
      walk_at "rd"
      refine r_ixT et (atI_nat (j := 1) rfl) ?_
      walk_at "rd"
      refine ⟨_, rfl, ?_⟩
      walk_at "rd"
      refine r_ixT et (atI_nat (j := 0) rfl) ?_
      walk_at "rd"
      refine ⟨_, _, rfl, ?_⟩
      walk_at "rd"
      refine riteO (by split <;> omega) ?_
      walk_at "rd"
      refine r_ixT et (atI_nat (j := 1) rfl) ?_
      walk_at "rd"
      refine r_ixT et (atI_nat (j := 0) rfl) ?_
      walk_at "rd"
      refine riteO (by omega) ?_
      walk_at "rd"
      refine r_ixT et (atI_nat (j := 1) rfl) ?_
      walk_at "rd"
      refine riteO (by omega) ?_
      walk_at "rd"
      refine r_ixT et (atI_nat (j := 1) rfl) ?_
      walk_at "rd"
      refine ⟨rfl, _, _, rfl, fun p hp => ?_⟩
      have := hch.sep i _ p (List.getElem?_eq_getElem hip) hp
      omega
    · rintro σ' H' ⟨rfl, z, o4, rfl, hz⟩
      walk_at "rd"
      exact q
end
/-! _law_in_squares -/
theorem sc__law_in_squares : FnScope ["_law_folds_here", "_law_box_here", "_law_pair", "_law_place_here", "_law_block", "_law_broad", "_law_left", "_law_low", "_law_x", "_law_y"] ["_law_folds_here", "_law_box_here", "_law_pair"] (defScope s__law_in_squares) := ⟨rfl, rfl, rfl, by decide +kernel, rfl, by decide +kernel, by decide +kernel⟩
def sp__law_in_squares (K : PySem.W.Frag) : Sp := fun vs H Q _ => ∃ (n f l : Nat) (B : Box) (b t : Addr), vs = [.int n, .ref b, .ref t] ∧ n ≤ 60 ∧ H b = some (.tup (bt B)) ∧ H t = some (.tup [.int (f : Nat), .int (l : Nat)]) ∧ l < 4 ^ n ∧ (∀ q, f ≤ q → q ≤ l → In B n q) ∧ RV (.bl true) H Q
theorem corner_lo {B : Box} {n k p l : Nat} (hp : p % 4 ^ k = 0) (hl : p + 4 ^ k ≤ l + 1) (hn : l < 4 ^ n) (hin : ∀ q, p ≤ q → q ≤ l → In B n q) :
    decide (B.l ≤ ((cx n p / 2 ^ k * 2 ^ k : Nat) : Int) ∧ ((cx n p / 2 ^ k * 2 ^ k : Nat) : Int) ≤ B.r ∧ B.o ≤ ((cy n p / 2 ^ k * 2 ^ k : Nat) : Int) ∧ ((cy n p / 2 ^ k * 2 ^ k : Nat) : Int) ≤ B.h) = true :=
  corner hp hl hn hin (by rw [Nat.mul_div_cancel _ (p2 k)]) (by rw [Nat.mul_div_cancel _ (p2 k)])
theorem hi_div (x k : Nat) : (x / 2 ^ k * 2 ^ k + 2 ^ k - 1) / 2 ^ k = x / 2 ^ k := by
  have h := p2 k
  rw [Nat.div_eq_iff h]
  omega
theorem corner_hi {B : Box} {n k p l : Nat} (hp : p % 4 ^ k = 0) (hl : p + 4 ^ k ≤ l + 1) (hn : l < 4 ^ n) (hin : ∀ q, p ≤ q → q ≤ l → In B n q) :
    decide (B.l ≤ ((cx n p / 2 ^ k * 2 ^ k + 2 ^ k - 1 : Nat) : Int) ∧ ((cx n p / 2 ^ k * 2 ^ k + 2 ^ k - 1 : Nat) : Int) ≤ B.r ∧ B.o ≤ ((cy n p / 2 ^ k * 2 ^ k + 2 ^ k - 1 : Nat) : Int) ∧ ((cy n p / 2 ^ k * 2 ^ k + 2 ^ k - 1 : Nat) : Int) ≤ B.h) = true :=
  corner hp hl hn hin (hi_div _ _) (hi_div _ _)
theorem floor_nat (x K : Nat) : (x : Int) / (K : Int) * (K : Int) = ((x / K * K : Nat) : Int) := by
  rw [Int.natCast_mul, Int.natCast_ediv]
theorem k_le {n k l : Nat} (h : 4 ^ k ≤ l + 1) (hn : l < 4 ^ n) : k ≤ n := by
  rcases Nat.lt_or_ge n k with h1 | h1
  · have := Nat.pow_lt_pow_right (show 1 < 4 by decide) h1
    omega
  · exact h1
section
variable {P : Program} {w : World} {K : PySem.W.Frag} {mg : Str → Option Value} {base : Heap}
theorem ok__law_in_squares (T : Txt K mg) : FnOk P w K mg base CX0 3 T.a__law_in_squares T.d__law_in_squares ["_law_folds_here", "_law_box_here", "_law_pair"] (sp__law_in_squares K) := by
  refine T.F__law_in_squares.ok sc__law_in_squares (fun vs H Q E h => ?_) (fun cdv A outer s H vs Q E hr h => ?_)
  · obtain ⟨n, f, l, B, b, t, rfl, hn, hb, ht, hl, hin, q⟩ := h
    rfl
  · obtain ⟨n, f, l, B, b, t, rfl, hn, hb, ht, hl, hin, q⟩ := h
    refine ⟨_, (pss_cons (ps_set (i := 3) sc__law_in_squares.nd rfl (.inl rfl) (pe_ix (r := rIxT K) ix_tup (pv 2) pe_int (fun _ _ => rfl)))
      (pss_cons (ps_while PassesOwn.never (pt_cmpR op_le (pv 3) (pe_ix (r := rIxT K) ix_tup (pv 2) pe_int (fun _ _ => rfl)) (nomark _)) (pss_cons (ps_set (i := 4) sc__law_in_squares.nd rfl (.inl rfl) pe_int)
      (pss_cons (ps_set (i := 5) sc__law_in_squares.nd rfl (.inl rfl) pe_int)
      (pss_cons (ps_while PassesOwn.never (PW.pt (pw_and (pt_cmpR op_eq (pe_op op_mod (pv 3) (pe_op op_mul pe_int (pv 4))) pe_int (nomark _)) (pw_and1 (pt_cmpR op_le (pe_op op_sub (pe_op op_add (pv 3) (pe_op op_mul pe_int (pv 4))) pe_int) (pe_ix (r := rIxT K) ix_tup (pv 2) pe_int (fun _ _ => rfl)) (nomark _))))) (pss_cons (ps_set (i := 4) sc__law_in_squares.nd rfl (.inl rfl) (pe_op op_mul pe_int (pv 4)))
      (pss_one (ps_set (i := 5) sc__law_in_squares.nd rfl (.inl rfl) (pe_op op_mul pe_int (pv 5))))))
      (pss_cons (ps_asg (pe_call (ok_cell_at T) (hr.mono (by decide)) (by rfl) T.m_cell_at T.F_cell_at.kp T.b_cell_at .nil pass0 (pa_cons (pv 0) (pa_cons (pv 3) pa_nil))) (pg_tup (n := 2) rfl (pgs_cons (pg_name (i := 8) sc__law_in_squares.nd rfl (.inl rfl)) (pgs_cons (pg_name (i := 9) sc__law_in_squares.nd rfl (.inl rfl)) pgs_nil))))
      (pss_cons (ps_set (i := 6) sc__law_in_squares.nd rfl (.inl rfl) (pe_op op_mulX (pe_op op_fdivW (pv 8) (pv 5)) (pv 5)))
      (pss_cons (ps_set (i := 7) sc__law_in_squares.nd rfl (.inl rfl) (pe_op op_mulX (pe_op op_fdivW (pv 9) (pv 5)) (pv 5)))
      (pss_cons (ps_if (PW.pt (pw_or (pt_not (pt_val (pe_call (ok__law_within T) (hr.mono (by decide)) (by rfl) T.m__law_within T.F__law_within.kp T.b__law_within .nil pass0 (pa_cons (pe_tup (pa_cons (pv 6) (pa_cons (pv 7) pa_nil))) (pa_cons (pv 1) pa_nil))))) (pw_or1 (pt_not (pt_val (pe_call (ok__law_within T) (hr.mono (by decide)) (by rfl) T.m__law_within T.F__law_within.kp T.b__law_within .nil pass0 (pa_cons (pe_tup (pa_cons (pe_op op_sub (pe_op op_add (pv 6) (pv 5)) pe_int) (pa_cons (pe_op op_sub (pe_op op_add (pv 7) (pv 5)) pe_int) pa_nil))) (pa_cons (pv 1) pa_nil)))))))) (pss_one (ps_ret pe_bl)) pss_nil)
      (pss_one (ps_set (i := 3) sc__law_in_squares.nd rfl (.inl rfl) (pe_op op_add (pv 3) (pv 4))))))))))))
      (pss_one (ps_ret pe_bl)))), ?_⟩
    walk_at "rd"
    refine r_ixT ht (atI_nat (j := 0) rfl) ?_
    walk_at "rd"
    refine n_while (fun m σ' H' => Same H H' ∧ ∃ (p : Nat) (o4 o5 o6 o7 o8 o9 : Option V), σ' = [some (.int n), some (.ref b), some (.ref t), some (.int p), o4, o5, o6, o7, o8, o9] ∧ f ≤ p ∧ m = l + 1 - p) (l + 1 - f) ⟨Same.refl H, f, none, none, none, none, none, none, rfl, Nat.le_refl _, rfl⟩ ?_
    rintro m σ' H1 ⟨s1, p, o4, o5, o6, o7, o8, o9, rfl, hfp, rfl⟩
    walk_at "rd"
    refine r_ixT (s1 _ _ ht) (atI_nat (j := 1) rfl) ?_
    walk_at "rd"
    refine riteD (fun hpl => ?_) (fun hpl => ?_)
    · refine ⟨_, fun _ _ z => z, ?_⟩
      walk_at "rd"
      refine n_while (fun m σ' H' => Same H H' ∧ ∃ (k : Nat) (o6 o7 o8 o9 : Option V), σ' = [some (.int n), some (.ref b), some (.ref t), some (.int p), some (.int (4 ^ k : Nat)), some (.int (2 ^ k : Nat)), o6, o7, o8, o9] ∧ p % 4 ^ k = 0 ∧ p + 4 ^ k ≤ l + 1 ∧ m = l + 1 - 4 ^ k) (l + 1 - 1)
        ⟨s1, 0, o6, o7, o8, o9, rfl, Nat.mod_one p, by rw [Nat.pow_zero]; omega, rfl⟩ ?_
      rintro m σ' H2 ⟨s2, k, o6, o7, o8, o9, rfl, hk1, hk2, rfl⟩
      have hk := p4 k
      have hk3 := k_le (n := n) (k := k) (l := l) (by omega) hl
      have rest : ∀ (D : Ends), True := fun _ => trivial
      walk_at "rd"
      have e1 : 4 * ((4 ^ k : Nat) : Int) = ((4 ^ (k + 1) : Nat) : Int) := by rw [Fw.s4]; omega
      have e2 : 2 * ((2 ^ k : Nat) : Int) = ((2 ^ (k + 1) : Nat) : Int) := by rw [Fw.s2]; omega
      have e3 : (p : Int) % (4 * ((4 ^ k : Nat) : Int)) = ((p % 4 ^ (k + 1) : Nat) : Int) := by rw [e1, Int.natCast_emod]
      have e4 := Fw.s4 k
      rw [e3]
      refine riteD (fun c1 => ?_) (fun c1 => ?_)
      focus
        walk_at "rd"
        refine r_ixT (s2 _ _ ht) (atI_nat (j := 1) rfl) ?_
        walk_at "rd"
        refine riteD (fun c2 => ?_) (fun c2 => ?_)
        focus
          refine ⟨_, fun _ _ z => z, ?_⟩
          walk_at "rd"
          rw [e1, e2]
          exact ⟨l + 1 - 4 ^ (k + 1), by omega, s2, k + 1, _, _, _, _, rfl, by omega, by omega, rfl⟩
      all_goals
        walk_at "rd"
        refine ⟨n, p, _, _, rfl, rfl, rfl, hn, by omega, fun a H3 na s3 e5 => r_unp2 e5 ?_⟩
        have bx : cx n p < 2 ^ n := wx_lt n false false p
        have by' : cy n p < 2 ^ n := wy_lt n false false p
        have hh2 := p2 k
        have h60 : 2 ^ k ≤ 2 ^ 60 := two_le (by omega)
        have h61 : 2 ^ n ≤ 2 ^ 60 := two_le hn
        have d1 := Nat.div_le_self (cx n p) (2 ^ k)
        have d2 := Nat.div_le_self (cy n p) (2 ^ k)
        walk_at "rd"
        refine r_mulX (cmul_pow (a := 64) (b := 64) ?_ ?_ (by decide)) ?_
        · rw [← Int.natCast_ediv, Int.natAbs_natCast]
          omega
        · rw [Int.natAbs_natCast]
          omega
        walk_at "rd"
        refine r_mulX (cmul_pow (a := 64) (b := 64) ?_ ?_ (by decide)) ?_
        · rw [← Int.natCast_ediv, Int.natAbs_natCast]
          omega
        · rw [Int.natAbs_natCast]
          omega
        rw [floor_nat, floor_nat]
        walk_at "rd"
        have hin2 : ∀ q, p ≤ q → q ≤ l → In B n q := fun q h1 h2 => hin q (by omega) h2
        refine n_tup fun u1 H4 nu1 s4 e6 => ?_
        walk_at "rd"
        have s24 := s2.trans (s3.trans s4)
        refine ⟨u1, b, _, _, _, _, _, _, rfl, e6, s24 _ _ hb, ?_⟩
        rw [corner_lo hk1 hk2 hl hin2]
        walk_at "rd"
        refine n_tup fun u2 H5 nu2 s5 e7 => ?_
        rw [show ((cx n p / 2 ^ k * 2 ^ k : Nat) : Int) + ((2 ^ k : Nat) : Int) - 1 = ((cx n p / 2 ^ k * 2 ^ k + 2 ^ k - 1 : Nat) : Int) by omega, show ((cy n p / 2 ^ k * 2 ^ k : Nat) : Int) + ((2 ^ k : Nat) : Int) - 1 = ((cy n p / 2 ^ k * 2 ^ k + 2 ^ k - 1 : Nat) : Int) by omega] at e7
        walk_at "rd"
        refine ⟨u2, b, _, _, _, _, _, _, rfl, e7, s5 _ _ (s24 _ _ hb), ?_⟩
        rw [corner_hi hk1 hk2 hl hin2]
        walk_at "rd"
        rw [← Int.natCast_add]
        exact ⟨l + 1 - (p + 4 ^ k), by omega, s24.trans s5, p + 4 ^ k, _, _, _, _, _, _, rfl, by omega, rfl⟩
    · walk_at "rd"
      exact q _ s1
end
/-! _law_is_place -/
theorem sc__law_is_place : FnScope ["_law_found", "_law_least", "_law_many"] ["_law_found", "_law_least", "_law_many"] (defScope s__law_is_place) := ⟨rfl, rfl, rfl, by decide +kernel, rfl, by decide +kernel, by decide +kernel⟩
def sp__law_is_place (K : PySem.W.Frag) : Sp := fun vs H Q _ => ∃ (p a m : Int), vs = [.int p, .int a, .int m] ∧ a ≤ p ∧ p < m ∧ Q (.bl true) H
section
variable {P : Program} {w : World} {K : PySem.W.Frag} {mg : Str → Option Value} {base : Heap}
theorem ok__law_is_place (T : Txt K mg) : FnOk P w K mg base CX0 2 T.a__law_is_place T.d__law_is_place ["_law_found", "_law_least", "_law_many"] (sp__law_is_place K) := by
  refine T.F__law_is_place.ok sc__law_is_place (fun vs H Q E h => ?_) (fun cdv A outer s H vs Q E hr h => ?_)
  · obtain ⟨p, a, m, rfl, h1, h2, q⟩ := h
    rfl
  · obtain ⟨p, a, m, rfl, h1, h2, q⟩ := h
    refine ⟨_, (pss_one (ps_ret (pe_and (pe_call (ok__law_whole T) (hr.mono (by decide)) (by rfl) T.m__law_whole T.F__law_whole.kp T.b__law_whole .nil pass0 (pa_cons (pv 0) pa_nil)) (pe_one (pe_chain op_le op_lt (pv 1) (pv 0) (pv 2)))))), ?_⟩
    walk_at "rd"
    refine ⟨_, rfl, ?_⟩
    walk_at "rd"
    refine riteY h1 ?_
    walk_at "rd"
    rw [decide_eq_true h2]
    exact q
end
/-! _law_more -/
theorem sc__law_more : FnScope ["_law_folds_here", "_law_box_here", "_law_most", "_law_many", "_law_place_here", "_law_k", "_law_inward"] ["_law_folds_here", "_law_box_here", "_law_most"] (defScope s__law_more) := ⟨rfl, rfl, rfl, by decide +kernel, rfl, by decide +kernel, by decide +kernel⟩
def sp__law_more (K : PySem.W.Frag) : Sp := fun vs H Q _ => ∃ (n d f : Nat) (B : Box) (b : Addr) (ps : List (Nat × Nat)), vs = [.int n, .ref b, .int (ps.length : Nat)] ∧ n ≤ 60 ∧ BoxOk B n ∧ H b = some (.tup (bt B)) ∧ Chain B n 0 ps d ∧ NIn B n d f ∧ ps.length ≤ 100 ∧ RV (.bl true) H Q
section
variable {P : Program} {w : World} {K : PySem.W.Frag} {mg : Str → Option Value} {base : Heap}
theorem ok__law_more (T : Txt K mg) : FnOk P w K mg base CX0 5 T.a__law_more T.d__law_more ["_law_folds_here", "_law_box_here", "_law_most"] (sp__law_more K) := by
  refine T.F__law_more.ok sc__law_more (fun vs H Q E h => ?_) (fun cdv A outer s H vs Q E hr h => ?_)
  · obtain ⟨n, d, f, B, b, ps, rfl, hn, hB, hb, hch, hf, hlen, q⟩ := h
    rfl
  · obtain ⟨n, d, f, B, b, ps, rfl, hn, hB, hb, hch, hf, hlen, q⟩ := h
    refine ⟨_, (pss_cons (ps_set (i := 3) sc__law_more.nd rfl (.inl rfl) (pe_op op_shl pe_int (pe_op op_mul pe_int (pv 0))))
      (pss_cons (ps_set (i := 4) sc__law_more.nd rfl (.inl rfl) pe_int)
      (pss_cons (ps_for PassesOwn.never rfl (pi_range1 rfl T.n_range (pa_cons (pe_op op_add (pv 2) pe_int) pa_nil)) (pg_name (i := 5) sc__law_more.nd rfl (.inl rfl)) (pss_cons (ps_set (i := 6) sc__law_more.nd rfl (.inl rfl) (pe_call (ok_next_in T) (hr.mono (by decide)) (by rfl) T.m_next_in T.F_next_in.kp T.b_next_in .nil pass0 (pa_cons (pv 0) (pa_cons (pv 1) (pa_cons (pv 4) pa_nil)))))
      (pss_cons (ps_if (PW.pt (pw_or (pt_not (pt_val (pe_call (ok__law_is_place T) (hr.mono (by decide)) (by rfl) T.m__law_is_place T.F__law_is_place.kp T.b__law_is_place .nil pass0 (pa_cons (pv 6) (pa_cons (pv 4) (pa_cons (pv 3) pa_nil)))))) (pw_or1 (pt_not (pt_val (pe_call (ok__law_within T) (hr.mono (by decide)) (by rfl) T.m__law_within T.F__law_within.kp T.b__law_within .nil pass0 (pa_cons (pe_call (ok_cell_at T) (hr.mono (by decide)) (by rfl) T.m_cell_at T.F_cell_at.kp T.b_cell_at .nil pass0 (pa_cons (pv 0) (pa_cons (pv 6) pa_nil))) (pa_cons (pv 1) pa_nil)))))))) (pss_one (ps_ret pe_bl)) pss_nil)
      (pss_one (ps_if (pt_cmpR op_lt (pv 5) (pv 2) (nomark _)) (pss_cons (ps_set (i := 4) sc__law_more.nd rfl (.inl rfl) (pe_call (ok_next_out T) (hr.mono (by decide)) (by rfl) T.m_next_out T.F_next_out.kp T.b_next_out .nil pass0 (pa_cons (pv 0) (pa_cons (pv 1) (pa_cons (pv 6) pa_nil)))))
      (pss_one (ps_if (PW.pt (pw_or (pt_not (pt_val (pe_call (ok__law_is_place T) (hr.mono (by decide)) (by rfl) T.m__law_is_place T.F__law_is_place.kp T.b__law_is_place .nil pass0 (pa_cons (pv 4) (pa_cons (pv 6) (pa_cons (pv 3) pa_nil)))))) (pw_or1 (pt_val (pe_call (ok__law_within T) (hr.mono (by decide)) (by rfl) T.m__law_within T.F__law_within.kp T.b__law_within .nil pass0 (pa_cons (pe_call (ok_cell_at T) (hr.mono (by decide)) (by rfl) T.m_cell_at T.F_cell_at.kp T.b_cell_at .nil pass0 (pa_cons (pv 0) (pa_cons (pv 4) pa_nil))) (pa_cons (pv 1) pa_nil))))))) (pss_one (ps_ret pe_bl)) pss_nil))) pss_nil)))))
      (pss_one (ps_ret pe_bl))))), ?_⟩
    walk_at "rd"
    refine r_shl (2 * n) (by omega) (by omega) (by decide) ?_
    rw [Int.one_mul, i4_nat]
    walk_at "rd"
    refine r_forR ?_
    walk_at "rd"
    refine n_forR (ps.length + 1) (fun k σ' H' => Same H H' ∧ ∃ (c : Nat) (o5 o6 : Option V), σ' = [some (.int n), some (.ref b), some (.int (ps.length : Nat)), some (.int (4 ^ n : Nat)), some (.int c), o5, o6] ∧ (k ≤ ps.length → Chain B n c (ps.drop k) d)) (by omega) (by omega) ⟨Same.refl H, 0, none, none, rfl, fun _ => hch⟩ ?_ ?_
    · rintro k σ' H1 hk ⟨s1, c, o5, o6, rfl, hc⟩
      have hc2 := hc (by omega)
      obtain ⟨g, hg, hg1, hg2⟩ := hc2.next hf
      have hg4 := hg.2.1
      have hcg := hg.1
      walk_at "rd"
      refine ⟨n, c, _, b, B, rfl, rfl, hn, by omega, hB, s1 _ _ hb, fun hno => absurd hno (Nat.ne_of_lt hg.some), fun r hr1 hr2 hr3 hr4 H2 s2 => ?_⟩
      have er := hg.uniq hr3 hr4
      subst er
      walk_at "rd"
      refine ⟨_, _, _, rfl, by omega, by omega, ?_⟩
      walk_at "rd"
      refine ⟨n, r, _, _, rfl, rfl, rfl, hn, hr2, fun a H3 na s3 e3 => ?_⟩
      walk_at "rd"
      have k3 := s1.trans (s2.trans s3)
      refine ⟨a, b, _, _, _, _, _, _, rfl, e3, k3 _ _ hb, ?_⟩
      rw [in_dec, hr3]
      walk_at "rd"
      refine riteD (fun hlt => ?_) (fun hlt => ?_)
      · have hkl : k < ps.length := by omega
        have ed : ps.drop k = ps[k] :: ps.drop (k + 1) := List.drop_eq_getElem_cons hkl
        have er := hg2 _ _ ed
        rw [ed] at hc2
        have hout := hc2.2.1
        rw [← er] at hout
        obtain ⟨g', hg', _⟩ := Chain.next hc2.2.2 hf
        obtain ⟨t1, t2⟩ := hout.there hg'
        have ho1 := hout.1
        walk_at "rd"
        refine ⟨n, r, _, b, B, rfl, rfl, hn, by omega, hB, k3 _ _ hb, fun hno => absurd hno (Nat.ne_of_lt (hout.some t1)), fun u hu1 hu2 hu3 hu4 H4 s4 => ?_⟩
        have eu := hout.uniq t1 (fun z => by unfold In at z; rw [hu3] at z; exact Bool.false_ne_true z) hu4
        rw [eu] at hu3
        rw [eu]
        walk_at "rd"
        refine ⟨_, _, _, rfl, by omega, by omega, ?_⟩
        walk_at "rd"
        refine ⟨n, ps[k].2 + 1, _, _, rfl, rfl, rfl, hn, t1, fun a2 H5 na2 s5 e5 => ?_⟩
        walk_at "rd"
        refine ⟨a2, b, _, _, _, _, _, _, rfl, e5, s5 _ _ (s4 _ _ (k3 _ _ hb)), ?_⟩
        rw [in_dec, hu3]
        walk_at "rd"
        exact ⟨k3.trans (s4.trans s5), _, _, _, rfl, fun _ => hc2.2.2⟩
      · walk_at "rd"
        exact ⟨k3, _, _, _, rfl, fun z => absurd z (by omega)⟩
    · rintro σ' H1 ⟨s1, c, o5, o6, rfl, hc⟩
      walk_at "rd"
      exact q _ s1
end
/-! _law_places -/
theorem sc__law_places : FnScope ["_law_folds_here", "_law_box_here", "_law_told", "_law_cells", "_law_cell", "_law_place_here", "_law_here", "_law_pair"] ["_law_folds_here", "_law_box_here", "_law_told", "_law_cells"] (defScope s__law_places) := ⟨rfl, rfl, rfl, by decide +kernel, rfl, by decide +kernel, by decide +kernel⟩
def sp__law_places (K : PySem.W.Frag) : Sp := fun vs H Q _ => ∃ (n d : Nat) (B : Box) (b L M : Addr) (ps : List (Nat × Nat)) (ns : List Int) (lo hi : Option Int), vs = [.int n, .ref b, .ref L, .ref M] ∧ n ≤ 60 ∧ H b = some (.tup (bt B)) ∧ Prs H L ps ∧ Chain B n 0 ps d ∧ Cb B n d = sh B 0 0 (2 ^ n) ∧ ps.length ≤ 1000 ∧
  H M = some (.lst (cutV (ns.map V.int) lo hi)) ∧ (∀ z ∈ ns, Big z) ∧ RV (.bl true) H Q
/-- does the pair hold the place -/
def hold (q : Nat) (p : Nat × Nat) : Bool := decide ((p.1 : Int) ≤ (q : Int)) && decide ((q : Int) ≤ (p.2 : Int))
theorem any_hold {B : Box} {n d q : Nat} {ps : List (Nat × Nat)} (h : Chain B n 0 ps d) (hd : Cb B n d = sh B 0 0 (2 ^ n)) (hq : q < 4 ^ n) : (ps.map (hold q)).any id = inb B (cx n q) (cy n q) := by
  have a := h.all hd hq
  rw [Bool.eq_iff_iff, List.any_map]
  refine Iff.trans ?_ a
  rw [List.any_eq_true]
  constructor
  · rintro ⟨p, hp, e⟩
    have e' : (decide ((p.1 : Int) ≤ (q : Int)) && decide ((q : Int) ≤ (p.2 : Int))) = true := e
    rw [Bool.and_eq_true, decide_eq_true_eq, decide_eq_true_eq] at e'
    exact ⟨p, hp, by omega, by omega⟩
  · rintro ⟨p, hp, h1, h2⟩
    refine ⟨p, hp, ?_⟩
    show (decide ((p.1 : Int) ≤ (q : Int)) && decide ((q : Int) ≤ (p.2 : Int))) = true
    rw [Bool.and_eq_true, decide_eq_true_eq, decide_eq_true_eq]
    omega
section
variable {P : Program} {w : World} {K : PySem.W.Frag} {mg : Str → Option Value} {base : Heap}
theorem ok__law_places (T : Txt K mg) : FnOk P w K mg base CX0 3 T.a__law_places T.d__law_places ["_law_folds_here", "_law_box_here", "_law_told", "_law_cells"] (sp__law_places K) := by
  refine T.F__law_places.ok sc__law_places (fun vs H Q E h => ?_) (fun cdv A outer s H vs Q E hr h => ?_)
  · obtain ⟨n, d, B, b, L, M, ps, ns, lo, hi, rfl, hn, hb, hps, hch, hA, hl, hM, hbig, q⟩ := h
    rfl
  · obtain ⟨n, d, B, b, L, M, ps, ns, lo, hi, rfl, hn, hb, hps, hch, hA, hl, hM, hbig, q⟩ := h
    refine ⟨_, (pss_cons (ps_for PassesOwn.never rfl (pi_list (pv 3)) (pg_name (i := 4) sc__law_places.nd rfl (.inl rfl)) (pss_cons (ps_set (i := 5) sc__law_places.nd rfl (.inr rfl) (pe_call (ok__law_place T) (hr.mono (by decide)) (by rfl) T.m__law_place T.F__law_place.kp T.b__law_place .nil pass0 (pa_cons (pv 4) (pa_cons (pv 0) pa_nil))))
      (pss_cons (ps_set (i := 6) sc__law_places.nd rfl (.inl rfl) (pe_call (ok_cell_at T) (hr.mono (by decide)) (by rfl) T.m_cell_at T.F_cell_at.kp T.b_cell_at .nil pass0 (pa_cons (pv 0) (pa_cons (pv 5) pa_nil))))
      (pss_cons (ps_if (pt_cmpR op_ne (pe_callB (cr_any rfl) (by rfl) T.n_any (by decide +kernel) (pa_cons (pe_lc (own := [("_law_pair", 7)]) (g := gName 7) (tt := tYes) rfl sc__law_places.nd (pi_list (pv 2)) (blkOk_by (own := [("_law_pair", 7)]) (N := ["_law_folds_here", "_law_box_here", "_law_told", "_law_cells", "_law_cell", "_law_place_here", "_law_here", "_law_pair"]) (sc := defScope s__law_places) (by decide +kernel)) (fun _ _ _ _ _ => pg_name (i := 7) sc__law_places.nd rfl (Or.inl rfl)) (fun _ _ _ _ _ => pts_nil) (fun _ _ _ _ _ => (pe_chain op_le op_le (pe_ix (r := rIxT K) ix_tup (pv 7) pe_int (fun _ _ => rfl)) (pv 5) (pe_ix (r := rIxT K) ix_tup (pv 7) pe_int (fun _ _ => rfl))))) pa_nil)) (pe_call (ok__law_within T) (hr.mono (by decide)) (by rfl) T.m__law_within T.F__law_within.kp T.b__law_within .nil pass0 (pa_cons (pv 6) (pa_cons (pv 1) pa_nil))) (nomark _)) (pss_one (ps_ret pe_bl)) pss_nil)
      (pss_one (ps_if (pt_cmpR op_ne (pe_call (ok_place_of T) (hr.mono (by decide)) (by rfl) T.m_place_of T.F_place_of.kp T.b_place_of .nil pass0 (pa_cons (pv 0) (pa_cons (pv 6) pa_nil))) (pv 5) (nomark _)) (pss_one (ps_ret pe_bl)) pss_nil))))))
      (pss_one (ps_ret pe_bl))), ?_⟩
    walk_at "rd"
    refine n_forL (fun i σ' H' => Same H H' ∧ ∃ (o4 o5 o6 : Option V), σ' = [some (.int n), some (.ref b), some (.ref L), some (.ref M), o4, o5, o6, none]) (.inl (.inl hM)) ⟨Same.refl H, none, none, none, rfl⟩ (fun i σ' H' p => .inl (.inl (p.1 _ _ hM))) ?_ ?_
    · rintro i x σ' H1 hx ⟨s1, o4, o5, o6, rfl⟩
      obtain ⟨y, hy, rfl⟩ := int_of_cut hx
      walk_at "rd"
      refine ⟨y, n, _, rfl, rfl, hn, hbig y hy, fun p hp => ?_⟩
      walk_at "rd"
      refine ⟨n, p, _, _, rfl, rfl, rfl, hn, hp, fun a H2 na s2 e2 => ?_⟩
      walk_at "rd"
      have s12 := s1.trans s2
      obtain ⟨ts, e, l, f⟩ := hps.same s12
      refine n_lcL (ps.map fun p' => V.bl (hold p p')) e (by rw [List.length_map, List.length_map, l]) (by rw [List.length_map, l]; exact hl) (fun _ => rfl) (fun i x y H3 hx hy s3 Q' q' => ?_) (fun D' H3 nD s3 e3 => ?_)
      · have hi : i < ts.length := by
          have := (List.getElem?_eq_some_iff.mp hx).1
          rw [List.length_map] at this
          exact this
        have hip : i < ps.length := by omega
        rw [List.getElem?_map, List.getElem?_eq_getElem hi] at hx
        rw [List.getElem?_map, List.getElem?_eq_getElem hip] at hy
        have hx2 : V.ref ts[i] = x := Option.some.inj hx
        have hy2 : V.bl (hold p ps[i]) = y := Option.some.inj hy
        subst hx2 hy2
        have et := s3 _ _ (f i ts[i] ps[i] (List.getElem?_eq_getElem hi) (List.getElem?_eq_getElem hip))
        walk_at "rd"
        refine r_ixT et (atI_nat (j := 0) rfl) ?_
        walk_at "rd"
        unfold hold at q'
        refine riteD (fun h1 => ?_) (fun h1 => ?_)
        · walk_at "rd"
          refine r_ixT et (atI_nat (j := 1) rfl) ?_
          walk_at "rd"
          rw [decide_eq_true h1, Bool.true_and] at q'
          exact q' _ (Same.refl _)
        · rw [decide_eq_false h1, Bool.false_and] at q'
          exact q' _ (Same.refl _)
      walk_at "rd"
      rw [show (ps.map fun p' => V.bl (hold p p')) = (ps.map (hold p)).map V.bl by rw [List.map_map]; rfl] at e3
      refine r_any e3 ?_
      rw [any_hold hch hA hp]
      walk_at "rd"
      have s13 := s12.trans s3
      refine ⟨a, b, _, _, _, _, _, _, rfl, s3 _ _ e2, s13 _ _ hb, ?_⟩
      rw [in_dec]
      walk_at "rd"
      refine riteNO rfl ?_
      walk_at "rd"
      refine ⟨n, cx n p, cy n p, _, _, a, rfl, rfl, rfl, hn, wx_lt _ _ _ _, wy_lt _ _ _ _, s3 _ _ e2, fun H4 s4 => ?_⟩
      rw [show PL n false false (cx n p) (cy n p) = p from pl_w n false false p hp]
      walk_at "rd"
      refine riteNO rfl ?_
      walk_at "rd"
      exact ⟨s13.trans s4, _, _, _, rfl⟩
    · rintro σ' H1 ⟨s1, o4, o5, o6, rfl⟩
      walk_at "rd"
      exact q _ s1
end
/-! law -/
theorem sc_law : FnScope ["_law_script", "_law_folds_here", "_law_box_here", "_law_way", "_law_most", "_law_told", "_law_refused", "_law_area", "_law_pair"] ["_law_script"] (defScope s_law) := ⟨rfl, rfl, rfl, by decide +kernel, rfl, by decide +kernel, by decide +kernel⟩
def sp_law (K : PySem.W.Frag) : Sp := fun vs H Q _ => ∃ (a : Addr) (ns : List Int), vs = [.ref a] ∧ SqL K H a (ns.map V.int) ∧ ns.length ≤ 63 ∧ (∀ z ∈ ns, Big z) ∧ ∀ H', Q (.bl true) H'
theorem sum_lens : ∀ ps : List (Nat × Nat), (∀ p ∈ ps, p.1 ≤ p.2) → ((ps.map fun p => (p.2 : Int) - (p.1 : Int) + 1).sum) = ((lens ps : Nat) : Int)
  | [], _ => rfl
  | p :: ps, h => by
    rw [List.map_cons, List.sum_cons, sum_lens ps fun q hq => h q (List.mem_cons_of_mem _ hq)]
    have := h p List.mem_cons_self
    show _ = (((p.2 + 1 - p.1) + lens ps : Nat) : Int)
    omega
theorem all_true (ps : List (Nat × Nat)) : (ps.map fun _ => true).all id = true := by
  rw [List.all_map]
  exact List.all_eq_true.mpr fun _ _ => rfl
section
variable {P : Program} {w : World} {K : PySem.W.Frag} {mg : Str → Option Value} {base : Heap}
theorem ok_law (T : Txt K mg) : FnOk P w K mg base CX0 6 T.a_law T.d_law ["_law_script"] (sp_law K) := by
  refine T.F_law.ok sc_law (fun vs H Q E h => ?_) (fun cdv A outer s H vs Q E hr h => ?_)
  · obtain ⟨a, ns, rfl, hS, hl, hb, q⟩ := h
    rfl
  · obtain ⟨a, ns, rfl, hS, hl, hb, q⟩ := h
    refine ⟨_, (pss_cons (ps_set (i := 1) sc_law.nd rfl (.inr rfl) (pe_call (ok__law_folds T) (hr.mono (by decide)) (by rfl) T.m__law_folds T.F__law_folds.kp T.b__law_folds .nil pass0 (pa_cons (pe_call (ok__law_cell_at T) (hr.mono (by decide)) (by rfl) T.m__law_cell_at T.F__law_cell_at.kp T.b__law_cell_at .nil pass0 (pa_cons (pv 0) (pa_cons pe_int pa_nil))) pa_nil)))
      (pss_cons (ps_set (i := 2) sc_law.nd rfl (.inr rfl) (pe_call (ok__law_box T) (hr.mono (by decide)) (by rfl) T.m__law_box T.F__law_box.kp T.b__law_box .nil pass0 (pa_cons (pv 0) (pa_cons pe_int (pa_cons (pv 1) pa_nil)))))
      (pss_cons (ps_set (i := 3) sc_law.nd rfl (.inl rfl) (pe_call (ok__law_cell_at T) (hr.mono (by decide)) (by rfl) T.m__law_cell_at T.F__law_cell_at.kp T.b__law_cell_at .nil pass0 (pa_cons (pv 0) (pa_cons pe_int pa_nil))))
      (pss_cons (ps_set (i := 4) sc_law.nd rfl (.inl rfl) pe_int)
      (Evl.pss_cut (ps_if (pt_cmpR op_gt (pe_op op_mod (pv 3) pe_int) pe_int (nomark _)) (pss_one (ps_set (i := 4) sc_law.nd rfl (.inl rfl) (pe_op op_mod (pe_op op_fdivW (pv 3) pe_int) pe_int))) pss_nil)
      (Evl.pss_cut (ps_if (PW.pt (pw_and (pt_cmpR op_eq (pe_op op_mod (pv 3) pe_int) pe_int (nomark _)) (pw_and1 (pt_cmpR op_lt (pv 1) pe_int (nomark _))))) (pss_one (ps_set (i := 4) sc_law.nd rfl (.inl rfl) (pe_op op_mod (pe_op op_fdivW (pv 3) pe_int) pe_int))) pss_nil)
      (pss_cons (ps_set (i := 5) sc_law.nd rfl (.inl rfl) (pe_lst pa_nil))
      (pss_cons (ps_set (i := 6) sc_law.nd rfl (.inl rfl) pe_bl)
      (Evl.pss_cut (ps_try_only rfl rfl ⟨rfl, by decide, .inl T.g_TooMany⟩ takes0 (fun W pn xe tk _ => (pss_one (ps_if (pt_cmpR op_eq (pe_op op_mod (pv 3) pe_int) pe_int (nomark _)) (pss_one (ps_set (i := 5) sc_law.nd rfl (.inl rfl) (pe_callSD (ok_stretches T) (hr.mono (by decide)) (by rfl) T.m_stretches T.F_stretches.kp T.bd_stretches.choose_spec.2 T.bd_stretches.choose_spec.1 (fun σ => passAt tk σ) (pa_cons (pv 1) (pa_cons (pv 2) pa_nil))))) (pss_one (ps_set (i := 5) sc_law.nd rfl (.inl rfl) (pe_callSD (ok_stretches T) (hr.mono (by decide)) (by rfl) T.m_stretches T.F_stretches.kp T.b_stretches .nil (fun σ => passAt tk σ) (pa_cons (pv 1) (pa_cons (pv 2) (pa_cons (pv 4) pa_nil))))))))) (fun a oe cls d pn hz hf => (pss_one (ps_set (i := 6) sc_law.nd rfl (.inl rfl) pe_bl))))
      (pss_cons (ps_if (pt_val (pv 6)) (pss_one (ps_ret (pe_call (ok__law_more T) (hr.mono (by decide)) (by rfl) T.m__law_more T.F__law_more.kp T.b__law_more .nil pass0 (pa_cons (pv 1) (pa_cons (pv 2) (pa_cons (pv 4) pa_nil)))))) pss_nil)
      (pss_cons (ps_if (pt_not (pt_val (pe_call (ok__law_in_order T) (hr.mono (by decide)) (by rfl) T.m__law_in_order T.F__law_in_order.kp T.b__law_in_order .nil pass0 (pa_cons (pv 5) (pa_cons (pv 4) (pa_cons (pe_op op_shl pe_int (pe_op op_mul pe_int (pv 1))) pa_nil)))))) (pss_one (ps_ret pe_bl)) pss_nil)
      (pss_cons (ps_set (i := 7) sc_law.nd rfl (.inl rfl) (pe_op op_mul (pe_op op_add (pe_op op_sub (pe_ix (r := rIxT K) ix_tup (pv 2) pe_int (fun _ _ => rfl)) (pe_ix (r := rIxT K) ix_tup (pv 2) pe_int (fun _ _ => rfl))) pe_int) (pe_op op_add (pe_op op_sub (pe_ix (r := rIxT K) ix_tup (pv 2) pe_int (fun _ _ => rfl)) (pe_ix (r := rIxT K) ix_tup (pv 2) pe_int (fun _ _ => rfl))) pe_int)))
      (pss_cons (ps_if (pt_cmpR op_ne (pe_callB (cr_sum rfl) (by rfl) T.n_sum (by decide +kernel) (pa_cons (pe_lc (own := [("_law_pair", 8)]) (g := gName 8) (tt := tYes) rfl sc_law.nd (pi_list (pv 5)) (blkOk_by (own := [("_law_pair", 8)]) (N := ["_law_script", "_law_folds_here", "_law_box_here", "_law_way", "_law_most", "_law_told", "_law_refused", "_law_area", "_law_pair"]) (sc := defScope s_law) (by decide +kernel)) (fun _ _ _ _ _ => pg_name (i := 8) sc_law.nd rfl (Or.inl rfl)) (fun _ _ _ _ _ => pts_nil) (fun _ _ _ _ _ => (pe_op op_add (pe_op op_sub (pe_ix (r := rIxT K) ix_tup (pv 8) pe_int (fun _ _ => rfl)) (pe_ix (r := rIxT K) ix_tup (pv 8) pe_int (fun _ _ => rfl))) pe_int))) pa_nil)) (pv 7) (nomark _)) (pss_one (ps_ret pe_bl)) pss_nil)
      (pss_cons (ps_if (pt_not (pt_val (pe_callB (cr_all rfl) (by rfl) T.n_all (by decide +kernel) (pa_cons (pe_lc (own := [("_law_pair", 8)]) (g := gName 8) (tt := tYes) rfl sc_law.nd (pi_list (pv 5)) (blkOk_by (own := [("_law_pair", 8)]) (N := ["_law_script", "_law_folds_here", "_law_box_here", "_law_way", "_law_most", "_law_told", "_law_refused", "_law_area", "_law_pair"]) (sc := defScope s_law) (by decide +kernel)) (fun _ _ _ _ _ => pg_name (i := 8) sc_law.nd rfl (Or.inl rfl)) (fun _ _ _ _ _ => pts_nil) (fun _ _ _ _ _ => (pe_call (ok__law_in_squares T) (hr.mono (by decide)) (by rfl) T.m__law_in_squares T.F__law_in_squares.kp T.b__law_in_squares .nil pass0 (pa_cons (pv 1) (pa_cons (pv 2) (pa_cons (pv 8) pa_nil)))))) pa_nil)))) (pss_one (ps_ret pe_bl)) pss_nil)
      (pss_one (ps_ret (pe_call (ok__law_places T) (hr.mono (by decide)) (by rfl) T.m__law_places T.F__law_places.kp T.b__law_places .nil pass0 (pa_cons (pv 1) (pa_cons (pv 2) (pa_cons (pv 5) (pa_cons (pe_slice sl_list (pv 0) (po_some pe_int) po_none) pa_nil))))))))))))))))))))), ?_⟩
    walk_at "rd"
    refine ⟨a, ns, 0, rfl, hS, hb, fun z hz => ?_⟩
    walk_at "rd"
    refine ⟨z, rfl, fun n hn => ?_⟩
    walk_at "rd"
    refine ⟨a, ns, 1, n, rfl, hS, hb, hn, fun B b H1 hB s1 e1 => ?_⟩
    walk_at "rd"
    refine ⟨a, ns, 5, rfl, s1.seq hS, hb, fun w' hw => ?_⟩
    walk_at "rd"
    have m3 := Int.emod_nonneg w' (show (3 : Int) ≠ 0 by decide)
    have m3' := Int.emod_lt_of_pos w' (show (0 : Int) < 3 by decide)
    -- most: left out where the way's rest by 3 is 0
    refine ⟨fun σ' H' => H' = H1 ∧ ∃ mo : Nat, mo ≤ 100 ∧ (w' % 3 = 0 → mo = 16) ∧ σ' = [some (.ref a), some (.int n), some (.ref b), some (.int w'), some (.int mo), none, none, none, none], ?_, ?_⟩
    · walk_at "rd"
      refine riteD (fun h => ?_) (fun h => ?_)
      · walk_at "rd"
        obtain ⟨mo, h1, h2⟩ : ∃ mo : Nat, mo ≤ 20 ∧ w' / 6 % 21 = (mo : Int) := ⟨(w' / 6 % 21).toNat, by omega, by omega⟩
        rw [h2]
        exact ⟨rfl, mo, by omega, fun z => by omega, rfl⟩
      · walk_at "rd"
        exact ⟨rfl, 16, by omega, fun _ => rfl, rfl⟩
    rintro σ' H2 ⟨rfl, mo0, hmo0, hm16, rfl⟩
    refine ⟨fun σ' H' => H' = H2 ∧ ∃ mo : Nat, mo ≤ 100 ∧ (w' % 3 = 0 → mo = 16) ∧ σ' = [some (.ref a), some (.int n), some (.ref b), some (.int w'), some (.int mo), none, none, none, none], ?_, ?_⟩
    · walk_at "rd"
      refine riteD (fun h => ?_) (fun h => ?_)
      · walk_at "rd"
        refine riteD (fun h' => ?_) (fun h' => ?_)
        · walk_at "rd"
          obtain ⟨mo, h1, h2⟩ : ∃ mo : Nat, mo ≤ 100 ∧ w' / 6 % 101 = (mo : Int) := ⟨(w' / 6 % 101).toNat, by omega, by omega⟩
          rw [h2]
          exact ⟨rfl, mo, by omega, fun z => by omega, rfl⟩
        · walk_at "rd"
          exact ⟨rfl, mo0, hmo0, hm16, rfl⟩
      · walk_at "rd"
        exact ⟨rfl, mo0, hmo0, hm16, rfl⟩
    rintro σ' H2 ⟨rfl, mo, hmo, hm16, rfl⟩
    walk_at "rd"
    refine n_lst fun t0 H3 nt0 s3 e3 => ?_
    walk_at "rd"
    have k3 := s1.trans s3
    refine ⟨fun σ' H' => Same H3 H' ∧ ∃ v5 v6 : V, σ' = [some (.ref a), some (.int n), some (.ref b), some (.int w'), some (.int mo), some v5, some v6, none, none] ∧
      ((∃ (ps : List (Nat × Nat)) (d : Nat) (L : Addr), v5 = .ref L ∧ v6 = .bl false ∧ Chain B n 0 ps d ∧ Cb B n d = sh B 0 0 (2 ^ n) ∧ ps.length ≤ mo ∧ Prs H' L ps) ∨
       (∃ (ps : List (Nat × Nat)) (d f : Nat), v6 = .bl true ∧ Chain B n 0 ps d ∧ NIn B n d f ∧ ps.length = mo)), ?_, ?_⟩
    · walk_at "rd"
      refine riteD (fun h => ?_) (fun h => ?_)
      · walk_at "rd"
        refine ⟨n, b, B, 16, rfl, hn, hB, s3 _ _ e1, by decide, fun ps d L H4 h1 h2 h3 s4 h5 => ?_, fun ps d f H4 h1 h2 h3 s4 => ?_⟩
        · exact ⟨s4, _, _, rfl, .inl ⟨ps, d, L, rfl, rfl, h1, h2, by rw [hm16 h]; exact h3, h5⟩⟩
        · refine ⟨true, exm_self T.r_TooMany T.i_TooMany T.t_TooMany T.s_TooMany_TooMany, fun _ a0 _ => ?_, fun q => Bool.noConfusion q⟩
          walk_at "rd"
          exact ⟨s4, _, _, rfl, .inr ⟨ps, d, f, rfl, h1, h2, by rw [hm16 h]; exact h3⟩⟩
      · walk_at "rd"
        refine ⟨n, b, B, mo, rfl, hn, hB, s3 _ _ e1, hmo, fun ps d L H4 h1 h2 h3 s4 h5 => ?_, fun ps d f H4 h1 h2 h3 s4 => ?_⟩
        · exact ⟨s4, _, _, rfl, .inl ⟨ps, d, L, rfl, rfl, h1, h2, h3, h5⟩⟩
        · refine ⟨true, exm_self T.r_TooMany T.i_TooMany T.t_TooMany T.s_TooMany_TooMany, fun _ a0 _ => ?_, fun q => Bool.noConfusion q⟩
          walk_at "rd"
          exact ⟨s4, _, _, rfl, .inr ⟨ps, d, f, rfl, h1, h2, h3⟩⟩
    rintro σ' H4 ⟨s4, v5, v6, rfl, ⟨ps, d, L, rfl, rfl, h1, h2, h3, h5⟩ | ⟨ps, d, f, rfl, h1, h2, h3⟩⟩
    · walk_at "rd"
      refine r_shl (2 * n) (by omega) (by omega) (by decide) ?_
      rw [Int.one_mul, i4_nat]
      walk_at "rd"
      refine ⟨n, d, mo, B, L, ps, rfl, h5, h1, h3, ?_⟩
      walk_at "rd"
      have e4 := s4 _ _ (s3 _ _ e1)
      have hB2 := hB
      obtain ⟨b1, b2, b3, b4, b5, b6⟩ := hB2
      have hS1 := i2_pos n
      have hS2 : (2 : Int) ^ n < 2 ^ 64 := i2_lt (by omega)
      refine r_ixT e4 (atI_nat (j := 2) rfl) ?_
      walk_at "rd"
      refine r_ixT e4 (atI_nat (j := 0) rfl) ?_
      walk_at "rd"
      refine r_ixT e4 (atI_nat (j := 3) rfl) ?_
      walk_at "rd"
      refine r_ixT e4 (atI_nat (j := 1) rfl) ?_
      walk_at "rd"
      rw [← sh_area hB]
      have hpr := h1.pair
      have hle : ∀ p ∈ ps, p.1 ≤ p.2 := fun p hp => (hpr p hp).2.1
      have hsum := h1.sum
      rw [show Cb B n 0 = 0 from rfl, Nat.zero_add, h2] at hsum
      obtain ⟨ts, e, l, fe⟩ := h5
      -- the sum of their lengths
      refine n_lcL (ps.map fun p => V.int ((p.2 : Int) - (p.1 : Int) + 1)) e (by rw [List.length_map, List.length_map, l]) (by rw [List.length_map, l]; omega) (fun _ => rfl) (fun i x y H5 hx hy s5 Q' q' => ?_) (fun D' H5 nD s5 e5 => ?_)
      · have hi : i < ts.length := by
          have := (List.getElem?_eq_some_iff.mp hx).1
          rw [List.length_map] at this
          exact this
        have hip : i < ps.length := by omega
        rw [List.getElem?_map, List.getElem?_eq_getElem hi] at hx
        rw [List.getElem?_map, List.getElem?_eq_getElem hip] at hy
        have hx2 : V.ref ts[i] = x := Option.some.inj hx
        have hy2 := Option.some.inj hy
        subst hx2 hy2
        have et := s5 _ _ (fe i ts[i] ps[i] (List.getElem?_eq_getElem hi) (List.getElem?_eq_getElem hip))
        walk_at "rd"
        refine r_ixT et (atI_nat (j := 1) rfl) ?_
        walk_at "rd"
        refine r_ixT et (atI_nat (j := 0) rfl) ?_
        walk_at "rd"
        exact q' _ (Same.refl _)
      walk_at "rd"
      rw [show (ps.map fun p => V.int ((p.2 : Int) - (p.1 : Int) + 1)) = (ps.map fun p => (p.2 : Int) - (p.1 : Int) + 1).map V.int by rw [List.map_map]; rfl] at e5
      refine ⟨D', _, rfl, .inl (.inl e5), ?_⟩
      rw [sum_lens ps hle, hsum]
      walk_at "rd"
      refine riteNO rfl ?_
      walk_at "rd"
      -- each in squares
      have e' := s5 _ _ e
      have k5 := s4.trans s5
      refine n_lcL (ps.map fun _ => V.bl true) e' (by rw [List.length_map, List.length_map, l]) (by rw [List.length_map, l]; omega) (fun _ => rfl) (fun i x y H6 hx hy s6 Q' q' => ?_) (fun D2 H6 nD s6 e6 => ?_)
      · have hi : i < ts.length := by
          have := (List.getElem?_eq_some_iff.mp hx).1
          rw [List.length_map] at this
          exact this
        have hip : i < ps.length := by omega
        rw [List.getElem?_map, List.getElem?_eq_getElem hi] at hx
        rw [List.getElem?_map, List.getElem?_eq_getElem hip] at hy
        have hx2 : V.ref ts[i] = x := Option.some.inj hx
        have hy2 : V.bl true = y := Option.some.inj hy
        subst hx2 hy2
        have et := s6 _ _ (s5 _ _ (fe i ts[i] ps[i] (List.getElem?_eq_getElem hi) (List.getElem?_eq_getElem hip)))
        obtain ⟨c1, c2, c3, c4, c5⟩ := hpr ps[i] (List.getElem_mem hip)
        walk_at "rd"
        exact ⟨n, ps[i].1, ps[i].2, B, b, ts[i], rfl, hn, s6 _ _ (s5 _ _ e4), et, c4, c5, fun H7 s7 => q' _ s7⟩
      walk_at "rd"
      rw [show (ps.map fun _ => V.bl true) = (ps.map fun _ => true).map V.bl by rw [List.map_map]; rfl] at e6
      refine r_all e6 ?_
      rw [all_true]
      walk_at "rd"
      have k6 := k5.trans s6
      refine r_slL ((k3.trans k6).seq hS) fun M H7 nM s7 e7 => ?_
      walk_at "rd"
      exact ⟨n, d, B, b, L, M, ps, ns, _, _, rfl, hn, s7 _ _ (s6 _ _ (s5 _ _ e4)), (Prs.same ⟨ts, e, l, fe⟩ (s5.trans (s6.trans s7))), h1, h2, by omega, e7, hb, fun H8 _ => q _⟩
    · walk_at "rd"
      subst h3
      exact ⟨n, d, f, B, b, ps, rfl, hn, hB, s4 _ _ (s3 _ _ e1), h1, h2, hmo, fun H5 _ => q _⟩
end
/-! ### what the top has written; the law -/
def txt_of {K : PySem.W.Frag} {h : Heap} {mg : Str → Option Value} {f0 f1 f2 f3 f4 f5 f6 f7 f8 f9 f10 f11 f12 f13 f14 f15 f16 f17 f18 f19 f20 f21 f22 f23 f24 f25 f26 td C_TooMany : Addr} (X : K.In h) (G : h.Ns mainGlobals mg)
    {od0 an0 od1 an1 od2 an2 od3 an3 od4 an4 od5 an5 od6 an6 od7 an7 od8 an8 od9 an9 od10 an10 od11 an11 od12 an12 od13 an13 od14 an14 od15 an15 od16 an16 od17 an17 od18 an18 od19 an19 od20 an20 od21 an21 od22 an22 od23 an23 od24 an24 od25 an25 od26 an26 tod : Option Addr} {sl0 sl1 sl2 sl3 sl4 sl5 sl6 sl7 sl8 sl9 sl10 sl11 sl12 sl13 sl14 sl15 sl16 sl17 sl18 sl19 sl20 sl21 sl22 sl23 sl24 sl25 sl26 tsl : Array (Option Value)} {oc0 kV0 dc0 pm0 cd0 ct0 oc1 kV1 dc1 pm1 cd1 ct1 oc2 kV2 dc2 pm2 cd2 ct2 oc3 kV3 dc3 pm3 cd3 ct3 oc4 kV4 dc4 pm4 cd4 ct4 oc5 kV5 dc5 pm5 cd5 ct5 oc6 kV6 dc6 pm6 cd6 ct6 oc7 kV7 dc7 pm7 cd7 ct7 oc8 kV8 dc8 pm8 cd8 ct8 oc9 kV9 dc9 pm9 cd9 ct9 oc10 kV10 dc10 pm10 cd10 ct10 oc11 kV11 dc11 pm11 cd11 ct11 oc12 kV12 dc12 pm12 cd12 ct12 oc13 kV13 dc13 pm13 cd13 ct13 oc14 kV14 dc14 pm14 cd14 ct14 oc15 kV15 dc15 pm15 cd15 ct15 oc16 kV16 dc16 pm16 cd16 ct16 oc17 kV17 dc17 pm17 cd17 ct17 oc18 kV18 dc18 pm18 cd18 ct18 oc19 kV19 dc19 pm19 cd19 ct19 oc20 kV20 dc20 pm20 cd20 ct20 oc21 kV21 dc21 pm21 cd21 ct21 oc22 kV22 dc22 pm22 cd22 ct22 oc23 kV23 dc23 pm23 cd23 ct23 oc24 kV24 dc24 pm24 cd24 ct24 oc25 kV25 dc25 pm25 cd25 ct25 oc26 kV26 dc26 pm26 cd26 ct26 toc : Value} {tk_MOST_FOLDS tk_MOST_TOLD ttk : Tok} {tn : Nat}
    (a0 : PySem.W.nsIn K mainGlobals "side_of" = some (some (.ref f0))) (l0 : K.lookup f0 = some ⟨oc0, od0, .func (PySem.W.fnOf "side_of" "side_of" (defArgs s_side_of) (defBody s_side_of) (defScope s_side_of) .none kV0 dc0 pm0 an0 cd0 ct0), sl0⟩) (c0 : PySem.W.codeIn K cd0 "side_of" = true) (k0 : PySem.W.keepIn K (.ref f0) = true)
    (a1 : PySem.W.nsIn K mainGlobals "quarter_at" = some (some (.ref f1))) (l1 : K.lookup f1 = some ⟨oc1, od1, .func (PySem.W.fnOf "quarter_at" "quarter_at" (defArgs s_quarter_at) (defBody s_quarter_at) (defScope s_quarter_at) .none kV1 dc1 pm1 an1 cd1 ct1), sl1⟩) (c1 : PySem.W.codeIn K cd1 "quarter_at" = true) (k1 : PySem.W.keepIn K (.ref f1) = true)
    (a2 : PySem.W.nsIn K mainGlobals "turn_at" = some (some (.ref f2))) (l2 : K.lookup f2 = some ⟨oc2, od2, .func (PySem.W.fnOf "turn_at" "turn_at" (defArgs s_turn_at) (defBody s_turn_at) (defScope s_turn_at) .none kV2 dc2 pm2 an2 cd2 ct2), sl2⟩) (c2 : PySem.W.codeIn K cd2 "turn_at" = true) (k2 : PySem.W.keepIn K (.ref f2) = true)
    (a3 : PySem.W.nsIn K mainGlobals "folded" = some (some (.ref f3))) (l3 : K.lookup f3 = some ⟨oc3, od3, .func (PySem.W.fnOf "folded" "folded" (defArgs s_folded) (defBody s_folded) (defScope s_folded) .none kV3 dc3 pm3 an3 cd3 ct3), sl3⟩) (c3 : PySem.W.codeIn K cd3 "folded" = true) (k3 : PySem.W.keepIn K (.ref f3) = true)
    (a4 : PySem.W.nsIn K mainGlobals "cell_at" = some (some (.ref f4))) (l4 : K.lookup f4 = some ⟨oc4, od4, .func (PySem.W.fnOf "cell_at" "cell_at" (defArgs s_cell_at) (defBody s_cell_at) (defScope s_cell_at) .none kV4 dc4 pm4 an4 cd4 ct4), sl4⟩) (c4 : PySem.W.codeIn K cd4 "cell_at" = true) (k4 : PySem.W.keepIn K (.ref f4) = true)
    (a5 : PySem.W.nsIn K mainGlobals "place_of" = some (some (.ref f5))) (l5 : K.lookup f5 = some ⟨oc5, od5, .func (PySem.W.fnOf "place_of" "place_of" (defArgs s_place_of) (defBody s_place_of) (defScope s_place_of) .none kV5 dc5 pm5 an5 cd5 ct5), sl5⟩) (c5 : PySem.W.codeIn K cd5 "place_of" = true) (k5 : PySem.W.keepIn K (.ref f5) = true)
    (a6 : PySem.W.nsIn K mainGlobals "looked_at" = some (some (.ref f6))) (l6 : K.lookup f6 = some ⟨oc6, od6, .func (PySem.W.fnOf "looked_at" "looked_at" (defArgs s_looked_at) (defBody s_looked_at) (defScope s_looked_at) .none kV6 dc6 pm6 an6 cd6 ct6), sl6⟩) (c6 : PySem.W.codeIn K cd6 "looked_at" = true) (k6 : PySem.W.keepIn K (.ref f6) = true)
    (a7 : PySem.W.nsIn K mainGlobals "shared" = some (some (.ref f7))) (l7 : K.lookup f7 = some ⟨oc7, od7, .func (PySem.W.fnOf "shared" "shared" (defArgs s_shared) (defBody s_shared) (defScope s_shared) .none kV7 dc7 pm7 an7 cd7 ct7), sl7⟩) (c7 : PySem.W.codeIn K cd7 "shared" = true) (k7 : PySem.W.keepIn K (.ref f7) = true)
    (a8 : PySem.W.nsIn K mainGlobals "counted" = some (some (.ref f8))) (l8 : K.lookup f8 = some ⟨oc8, od8, .func (PySem.W.fnOf "counted" "counted" (defArgs s_counted) (defBody s_counted) (defScope s_counted) .none kV8 dc8 pm8 an8 cd8 ct8), sl8⟩) (c8 : PySem.W.codeIn K cd8 "counted" = true) (k8 : PySem.W.keepIn K (.ref f8) = true)
    (a9 : PySem.W.nsIn K mainGlobals "picked" = some (some (.ref f9))) (l9 : K.lookup f9 = some ⟨oc9, od9, .func (PySem.W.fnOf "picked" "picked" (defArgs s_picked) (defBody s_picked) (defScope s_picked) .none kV9 dc9 pm9 an9 cd9 ct9), sl9⟩) (c9 : PySem.W.codeIn K cd9 "picked" = true) (k9 : PySem.W.keepIn K (.ref f9) = true)
    (a10 : PySem.W.nsIn K mainGlobals "next_in" = some (some (.ref f10))) (l10 : K.lookup f10 = some ⟨oc10, od10, .func (PySem.W.fnOf "next_in" "next_in" (defArgs s_next_in) (defBody s_next_in) (defScope s_next_in) .none kV10 dc10 pm10 an10 cd10 ct10), sl10⟩) (c10 : PySem.W.codeIn K cd10 "next_in" = true) (k10 : PySem.W.keepIn K (.ref f10) = true)
    (a11 : PySem.W.nsIn K mainGlobals "next_out" = some (some (.ref f11))) (l11 : K.lookup f11 = some ⟨oc11, od11, .func (PySem.W.fnOf "next_out" "next_out" (defArgs s_next_out) (defBody s_next_out) (defScope s_next_out) .none kV11 dc11 pm11 an11 cd11 ct11), sl11⟩) (c11 : PySem.W.codeIn K cd11 "next_out" = true) (k11 : PySem.W.keepIn K (.ref f11) = true)
    (a12 : PySem.W.nsIn K mainGlobals "stretches" = some (some (.ref f12))) (l12 : K.lookup f12 = some ⟨oc12, od12, .func (PySem.W.fnOf "stretches" "stretches" (defArgs s_stretches) (defBody s_stretches) (defScope s_stretches) (.ref td) kV12 dc12 pm12 an12 cd12 ct12), sl12⟩) (c12 : PySem.W.codeIn K cd12 "stretches" = true) (k12 : PySem.W.keepIn K (.ref f12) = true)
    (lt : K.lookup td = some ⟨toc, tod, .seq #[.int 16 ttk] tn, tsl⟩)
    (a13 : PySem.W.nsIn K mainGlobals "_law_cell_at" = some (some (.ref f13))) (l13 : K.lookup f13 = some ⟨oc13, od13, .func (PySem.W.fnOf "_law_cell_at" "_law_cell_at" (defArgs s__law_cell_at) (defBody s__law_cell_at) (defScope s__law_cell_at) .none kV13 dc13 pm13 an13 cd13 ct13), sl13⟩) (c13 : PySem.W.codeIn K cd13 "_law_cell_at" = true) (k13 : PySem.W.keepIn K (.ref f13) = true)
    (a14 : PySem.W.nsIn K mainGlobals "_law_whole" = some (some (.ref f14))) (l14 : K.lookup f14 = some ⟨oc14, od14, .func (PySem.W.fnOf "_law_whole" "_law_whole" (defArgs s__law_whole) (defBody s__law_whole) (defScope s__law_whole) .none kV14 dc14 pm14 an14 cd14 ct14), sl14⟩) (c14 : PySem.W.codeIn K cd14 "_law_whole" = true) (k14 : PySem.W.keepIn K (.ref f14) = true)
    (a15 : PySem.W.nsIn K mainGlobals "_law_folds" = some (some (.ref f15))) (l15 : K.lookup f15 = some ⟨oc15, od15, .func (PySem.W.fnOf "_law_folds" "_law_folds" (defArgs s__law_folds) (defBody s__law_folds) (defScope s__law_folds) .none kV15 dc15 pm15 an15 cd15 ct15), sl15⟩) (c15 : PySem.W.codeIn K cd15 "_law_folds" = true) (k15 : PySem.W.keepIn K (.ref f15) = true)
    (a16 : PySem.W.nsIn K mainGlobals "_law_place" = some (some (.ref f16))) (l16 : K.lookup f16 = some ⟨oc16, od16, .func (PySem.W.fnOf "_law_place" "_law_place" (defArgs s__law_place) (defBody s__law_place) (defScope s__law_place) .none kV16 dc16 pm16 an16 cd16 ct16), sl16⟩) (c16 : PySem.W.codeIn K cd16 "_law_place" = true) (k16 : PySem.W.keepIn K (.ref f16) = true)
    (a17 : PySem.W.nsIn K mainGlobals "_law_line" = some (some (.ref f17))) (l17 : K.lookup f17 = some ⟨oc17, od17, .func (PySem.W.fnOf "_law_line" "_law_line" (defArgs s__law_line) (defBody s__law_line) (defScope s__law_line) .none kV17 dc17 pm17 an17 cd17 ct17), sl17⟩) (c17 : PySem.W.codeIn K cd17 "_law_line" = true) (k17 : PySem.W.keepIn K (.ref f17) = true)
    (a18 : PySem.W.nsIn K mainGlobals "_law_span" = some (some (.ref f18))) (l18 : K.lookup f18 = some ⟨oc18, od18, .func (PySem.W.fnOf "_law_span" "_law_span" (defArgs s__law_span) (defBody s__law_span) (defScope s__law_span) .none kV18 dc18 pm18 an18 cd18 ct18), sl18⟩) (c18 : PySem.W.codeIn K cd18 "_law_span" = true) (k18 : PySem.W.keepIn K (.ref f18) = true)
    (a19 : PySem.W.nsIn K mainGlobals "_law_box" = some (some (.ref f19))) (l19 : K.lookup f19 = some ⟨oc19, od19, .func (PySem.W.fnOf "_law_box" "_law_box" (defArgs s__law_box) (defBody s__law_box) (defScope s__law_box) .none kV19 dc19 pm19 an19 cd19 ct19), sl19⟩) (c19 : PySem.W.codeIn K cd19 "_law_box" = true) (k19 : PySem.W.keepIn K (.ref f19) = true)
    (a20 : PySem.W.nsIn K mainGlobals "_law_within" = some (some (.ref f20))) (l20 : K.lookup f20 = some ⟨oc20, od20, .func (PySem.W.fnOf "_law_within" "_law_within" (defArgs s__law_within) (defBody s__law_within) (defScope s__law_within) .none kV20 dc20 pm20 an20 cd20 ct20), sl20⟩) (c20 : PySem.W.codeIn K cd20 "_law_within" = true) (k20 : PySem.W.keepIn K (.ref f20) = true)
    (a21 : PySem.W.nsIn K mainGlobals "_law_in_order" = some (some (.ref f21))) (l21 : K.lookup f21 = some ⟨oc21, od21, .func (PySem.W.fnOf "_law_in_order" "_law_in_order" (defArgs s__law_in_order) (defBody s__law_in_order) (defScope s__law_in_order) .none kV21 dc21 pm21 an21 cd21 ct21), sl21⟩) (c21 : PySem.W.codeIn K cd21 "_law_in_order" = true) (k21 : PySem.W.keepIn K (.ref f21) = true)
    (a22 : PySem.W.nsIn K mainGlobals "_law_in_squares" = some (some (.ref f22))) (l22 : K.lookup f22 = some ⟨oc22, od22, .func (PySem.W.fnOf "_law_in_squares" "_law_in_squares" (defArgs s__law_in_squares) (defBody s__law_in_squares) (defScope s__law_in_squares) .none kV22 dc22 pm22 an22 cd22 ct22), sl22⟩) (c22 : PySem.W.codeIn K cd22 "_law_in_squares" = true) (k22 : PySem.W.keepIn K (.ref f22) = true)
    (a23 : PySem.W.nsIn K mainGlobals "_law_is_place" = some (some (.ref f23))) (l23 : K.lookup f23 = some ⟨oc23, od23, .func (PySem.W.fnOf "_law_is_place" "_law_is_place" (defArgs s__law_is_place) (defBody s__law_is_place) (defScope s__law_is_place) .none kV23 dc23 pm23 an23 cd23 ct23), sl23⟩) (c23 : PySem.W.codeIn K cd23 "_law_is_place" = true) (k23 : PySem.W.keepIn K (.ref f23) = true)
    (a24 : PySem.W.nsIn K mainGlobals "_law_more" = some (some (.ref f24))) (l24 : K.lookup f24 = some ⟨oc24, od24, .func (PySem.W.fnOf "_law_more" "_law_more" (defArgs s__law_more) (defBody s__law_more) (defScope s__law_more) .none kV24 dc24 pm24 an24 cd24 ct24), sl24⟩) (c24 : PySem.W.codeIn K cd24 "_law_more" = true) (k24 : PySem.W.keepIn K (.ref f24) = true)
    (a25 : PySem.W.nsIn K mainGlobals "_law_places" = some (some (.ref f25))) (l25 : K.lookup f25 = some ⟨oc25, od25, .func (PySem.W.fnOf "_law_places" "_law_places" (defArgs s__law_places) (defBody s__law_places) (defScope s__law_places) .none kV25 dc25 pm25 an25 cd25 ct25), sl25⟩) (c25 : PySem.W.codeIn K cd25 "_law_places" = true) (k25 : PySem.W.keepIn K (.ref f25) = true)
    (a26 : PySem.W.nsIn K mainGlobals "law" = some (some (.ref f26))) (l26 : K.lookup f26 = some ⟨oc26, od26, .func (PySem.W.fnOf "law" "law" (defArgs s_law) (defBody s_law) (defScope s_law) .none kV26 dc26 pm26 an26 cd26 ct26), sl26⟩) (c26 : PySem.W.codeIn K cd26 "law" = true) (k26 : PySem.W.keepIn K (.ref f26) = true)
    (ga_TooMany : PySem.W.nsIn K mainGlobals "TooMany" = some (some (.ref C_TooMany))) (x_TooMany : PySem.W.excIn K C_TooMany [.type "ValueError", .type "Exception", .type "BaseException", .type "object"] "ValueError.__new__" = true) (k_TooMany : PySem.W.keepIn K (.ref C_TooMany) = true) (r_TooMany : PySem.W.subIn K (.ref C_TooMany) (.type "BaseException") = some true) (t_TooMany : PySem.W.typeIn K (.ref C_TooMany) = some (.type "type")) (i_TooMany : PySem.W.isClsIn K C_TooMany = true)
    (s_TooMany_TooMany : PySem.W.subIn K (.ref C_TooMany) (.ref C_TooMany) = some true)
    (g_MOST_FOLDS : PySem.W.nsIn K mainGlobals "MOST_FOLDS" = some (some (.int 60 tk_MOST_FOLDS)))
    (g_MOST_TOLD : PySem.W.nsIn K mainGlobals "MOST_TOLD" = some (some (.int 100 tk_MOST_TOLD)))
    (z_ValueError : PySem.W.nsIn K mainGlobals "ValueError" = some none)
    (z_all : PySem.W.nsIn K mainGlobals "all" = some none)
    (z_any : PySem.W.nsIn K mainGlobals "any" = some none)
    (z_bool : PySem.W.nsIn K mainGlobals "bool" = some none)
    (z_int : PySem.W.nsIn K mainGlobals "int" = some none)
    (z_isinstance : PySem.W.nsIn K mainGlobals "isinstance" = some none)
    (z_len : PySem.W.nsIn K mainGlobals "len" = some none)
    (z_list : PySem.W.nsIn K mainGlobals "list" = some none)
    (z_max : PySem.W.nsIn K mainGlobals "max" = some none)
    (z_min : PySem.W.nsIn K mainGlobals "min" = some none)
    (z_range : PySem.W.nsIn K mainGlobals "range" = some none)
    (z_reversed : PySem.W.nsIn K mainGlobals "reversed" = some none)
    (z_sum : PySem.W.nsIn K mainGlobals "sum" = some none)
    (z_tuple : PySem.W.nsIn K mainGlobals "tuple" = some none)
    : Txt K mg where
  a_side_of := f0
  d_side_of := _
  F_side_of := fun_mk (st := s_side_of) l0 c0 k0
  m_side_of := PySem.W.mg_of X G a0
  b_side_of := (fun_mk (st := s_side_of) l0 c0 k0).binds (ps := ["folds"]) fun _ _ _ _ _ _ us hl => match us, hl with | [_], _ => rfl
  a_quarter_at := f1
  d_quarter_at := _
  F_quarter_at := fun_mk (st := s_quarter_at) l1 c1 k1
  m_quarter_at := PySem.W.mg_of X G a1
  b_quarter_at := (fun_mk (st := s_quarter_at) l1 c1 k1).binds (ps := ["turn", "swapped", "turned"]) fun _ _ _ _ _ _ us hl => match us, hl with | [_, _, _], _ => rfl
  a_turn_at := f2
  d_turn_at := _
  F_turn_at := fun_mk (st := s_turn_at) l2 c2 k2
  m_turn_at := PySem.W.mg_of X G a2
  b_turn_at := (fun_mk (st := s_turn_at) l2 c2 k2).binds (ps := ["right", "up", "swapped", "turned"]) fun _ _ _ _ _ _ us hl => match us, hl with | [_, _, _, _], _ => rfl
  a_folded := f3
  d_folded := _
  F_folded := fun_mk (st := s_folded) l3 c3 k3
  m_folded := PySem.W.mg_of X G a3
  b_folded := (fun_mk (st := s_folded) l3 c3 k3).binds (ps := ["turn", "swapped", "turned"]) fun _ _ _ _ _ _ us hl => match us, hl with | [_, _, _], _ => rfl
  a_cell_at := f4
  d_cell_at := _
  F_cell_at := fun_mk (st := s_cell_at) l4 c4 k4
  m_cell_at := PySem.W.mg_of X G a4
  b_cell_at := (fun_mk (st := s_cell_at) l4 c4 k4).binds (ps := ["folds", "place"]) fun _ _ _ _ _ _ us hl => match us, hl with | [_, _], _ => rfl
  a_place_of := f5
  d_place_of := _
  F_place_of := fun_mk (st := s_place_of) l5 c5 k5
  m_place_of := PySem.W.mg_of X G a5
  b_place_of := (fun_mk (st := s_place_of) l5 c5 k5).binds (ps := ["folds", "cell"]) fun _ _ _ _ _ _ us hl => match us, hl with | [_, _], _ => rfl
  a_looked_at := f6
  d_looked_at := _
  F_looked_at := fun_mk (st := s_looked_at) l6 c6 k6
  m_looked_at := PySem.W.mg_of X G a6
  b_looked_at := (fun_mk (st := s_looked_at) l6 c6 k6).binds (ps := ["folds", "box"]) fun _ _ _ _ _ _ us hl => match us, hl with | [_, _], _ => rfl
  a_shared := f7
  d_shared := _
  F_shared := fun_mk (st := s_shared) l7 c7 k7
  m_shared := PySem.W.mg_of X G a7
  b_shared := (fun_mk (st := s_shared) l7 c7 k7).binds (ps := ["box", "left", "low", "broad"]) fun _ _ _ _ _ _ us hl => match us, hl with | [_, _, _, _], _ => rfl
  a_counted := f8
  d_counted := _
  F_counted := fun_mk (st := s_counted) l8 c8 k8
  m_counted := PySem.W.mg_of X G a8
  b_counted := (fun_mk (st := s_counted) l8 c8 k8).binds (ps := ["folds", "box", "place"]) fun _ _ _ _ _ _ us hl => match us, hl with | [_, _, _], _ => rfl
  a_picked := f9
  d_picked := _
  F_picked := fun_mk (st := s_picked) l9 c9 k9
  m_picked := PySem.W.mg_of X G a9
  b_picked := (fun_mk (st := s_picked) l9 c9 k9).binds (ps := ["folds", "box", "number", "inside"]) fun _ _ _ _ _ _ us hl => match us, hl with | [_, _, _, _], _ => rfl
  a_next_in := f10
  d_next_in := _
  F_next_in := fun_mk (st := s_next_in) l10 c10 k10
  m_next_in := PySem.W.mg_of X G a10
  b_next_in := (fun_mk (st := s_next_in) l10 c10 k10).binds (ps := ["folds", "box", "place"]) fun _ _ _ _ _ _ us hl => match us, hl with | [_, _, _], _ => rfl
  a_next_out := f11
  d_next_out := _
  F_next_out := fun_mk (st := s_next_out) l11 c11 k11
  m_next_out := PySem.W.mg_of X G a11
  b_next_out := (fun_mk (st := s_next_out) l11 c11 k11).binds (ps := ["folds", "box", "place"]) fun _ _ _ _ _ _ us hl => match us, hl with | [_, _, _], _ => rfl
  a_stretches := f12
  d_stretches := _
  F_stretches := (show FunD K "stretches" "stretches" (defArgs s_stretches) (defBody s_stretches) (defScope s_stretches) [.int 16] [] f12 _ from ⟨⟨oc12, od12, .ref td, kV12, dc12, pm12, an12, cd12, ct12, sl12, rfl, l12, c12, .inr ⟨List.cons_ne_nil _ _, td, _, [.int 16 ttk], tn, rfl, lt, rfl, .cons ⟨_, rfl⟩ .nil⟩, .inl rfl⟩, k12⟩)
  m_stretches := PySem.W.mg_of X G a12
  b_stretches := binds_nil ((show FunD K "stretches" "stretches" (defArgs s_stretches) (defBody s_stretches) (defScope s_stretches) [.int 16] [] f12 _ from ⟨⟨oc12, od12, .ref td, kV12, dc12, pm12, an12, cd12, ct12, sl12, rfl, l12, c12, .inr ⟨List.cons_ne_nil _ _, td, _, [.int 16 ttk], tn, rfl, lt, rfl, .cons ⟨_, rfl⟩ .nil⟩, .inl rfl⟩, k12⟩).binds1 (ps := ["folds", "box", "most"]) 3 1 (List.cons_ne_nil _ _) (by rfl) fun _ _ _ _ _ _ _ us its hu hi => match us, hu, its, hi with | [_, _, _], _, [_], _ => ⟨_, rfl, rfl⟩)
  bd_stretches := (show FunD K "stretches" "stretches" (defArgs s_stretches) (defBody s_stretches) (defScope s_stretches) [.int 16] [] f12 _ from ⟨⟨oc12, od12, .ref td, kV12, dc12, pm12, an12, cd12, ct12, sl12, rfl, l12, c12, .inr ⟨List.cons_ne_nil _ _, td, _, [.int 16 ttk], tn, rfl, lt, rfl, .cons ⟨_, rfl⟩ .nil⟩, .inl rfl⟩, k12⟩).binds1 (ps := ["folds", "box", "most"]) 2 0 (List.cons_ne_nil _ _) (by rfl) fun _ _ _ _ _ _ _ us its hu hi => match us, hu, its, hi with | [_, _], _, [_], _ => ⟨_, rfl, rfl⟩
  a__law_cell_at := f13
  d__law_cell_at := _
  F__law_cell_at := fun_mk (st := s__law_cell_at) l13 c13 k13
  m__law_cell_at := PySem.W.mg_of X G a13
  b__law_cell_at := (fun_mk (st := s__law_cell_at) l13 c13 k13).binds (ps := ["_law_script", "_law_k"]) fun _ _ _ _ _ _ us hl => match us, hl with | [_, _], _ => rfl
  a__law_whole := f14
  d__law_whole := _
  F__law_whole := fun_mk (st := s__law_whole) l14 c14 k14
  m__law_whole := PySem.W.mg_of X G a14
  b__law_whole := (fun_mk (st := s__law_whole) l14 c14 k14).binds (ps := ["_law_found"]) fun _ _ _ _ _ _ us hl => match us, hl with | [_], _ => rfl
  a__law_folds := f15
  d__law_folds := _
  F__law_folds := fun_mk (st := s__law_folds) l15 c15 k15
  m__law_folds := PySem.W.mg_of X G a15
  b__law_folds := (fun_mk (st := s__law_folds) l15 c15 k15).binds (ps := ["_law_cell"]) fun _ _ _ _ _ _ us hl => match us, hl with | [_], _ => rfl
  a__law_place := f16
  d__law_place := _
  F__law_place := fun_mk (st := s__law_place) l16 c16 k16
  m__law_place := PySem.W.mg_of X G a16
  b__law_place := (fun_mk (st := s__law_place) l16 c16 k16).binds (ps := ["_law_cell", "_law_folds_here"]) fun _ _ _ _ _ _ us hl => match us, hl with | [_, _], _ => rfl
  a__law_line := f17
  d__law_line := _
  F__law_line := fun_mk (st := s__law_line) l17 c17 k17
  m__law_line := PySem.W.mg_of X G a17
  b__law_line := (fun_mk (st := s__law_line) l17 c17 k17).binds (ps := ["_law_cell", "_law_folds_here"]) fun _ _ _ _ _ _ us hl => match us, hl with | [_, _], _ => rfl
  a__law_span := f18
  d__law_span := _
  F__law_span := fun_mk (st := s__law_span) l18 c18 k18
  m__law_span := PySem.W.mg_of X G a18
  b__law_span := (fun_mk (st := s__law_span) l18 c18 k18).binds (ps := ["_law_one", "_law_two", "_law_folds_here"]) fun _ _ _ _ _ _ us hl => match us, hl with | [_, _, _], _ => rfl
  a__law_box := f19
  d__law_box := _
  F__law_box := fun_mk (st := s__law_box) l19 c19 k19
  m__law_box := PySem.W.mg_of X G a19
  b__law_box := (fun_mk (st := s__law_box) l19 c19 k19).binds (ps := ["_law_script", "_law_at", "_law_folds_here"]) fun _ _ _ _ _ _ us hl => match us, hl with | [_, _, _], _ => rfl
  a__law_within := f20
  d__law_within := _
  F__law_within := fun_mk (st := s__law_within) l20 c20 k20
  m__law_within := PySem.W.mg_of X G a20
  b__law_within := (fun_mk (st := s__law_within) l20 c20 k20).binds (ps := ["_law_cell", "_law_box_here"]) fun _ _ _ _ _ _ us hl => match us, hl with | [_, _], _ => rfl
  a__law_in_order := f21
  d__law_in_order := _
  F__law_in_order := fun_mk (st := s__law_in_order) l21 c21 k21
  m__law_in_order := PySem.W.mg_of X G a21
  b__law_in_order := (fun_mk (st := s__law_in_order) l21 c21 k21).binds (ps := ["_law_told", "_law_most", "_law_many"]) fun _ _ _ _ _ _ us hl => match us, hl with | [_, _, _], _ => rfl
  a__law_in_squares := f22
  d__law_in_squares := _
  F__law_in_squares := fun_mk (st := s__law_in_squares) l22 c22 k22
  m__law_in_squares := PySem.W.mg_of X G a22
  b__law_in_squares := (fun_mk (st := s__law_in_squares) l22 c22 k22).binds (ps := ["_law_folds_here", "_law_box_here", "_law_pair"]) fun _ _ _ _ _ _ us hl => match us, hl with | [_, _, _], _ => rfl
  a__law_is_place := f23
  d__law_is_place := _
  F__law_is_place := fun_mk (st := s__law_is_place) l23 c23 k23
  m__law_is_place := PySem.W.mg_of X G a23
  b__law_is_place := (fun_mk (st := s__law_is_place) l23 c23 k23).binds (ps := ["_law_found", "_law_least", "_law_many"]) fun _ _ _ _ _ _ us hl => match us, hl with | [_, _, _], _ => rfl
  a__law_more := f24
  d__law_more := _
  F__law_more := fun_mk (st := s__law_more) l24 c24 k24
  m__law_more := PySem.W.mg_of X G a24
  b__law_more := (fun_mk (st := s__law_more) l24 c24 k24).binds (ps := ["_law_folds_here", "_law_box_here", "_law_most"]) fun _ _ _ _ _ _ us hl => match us, hl with | [_, _, _], _ => rfl
  a__law_places := f25
  d__law_places := _
  F__law_places := fun_mk (st := s__law_places) l25 c25 k25
  m__law_places := PySem.W.mg_of X G a25
  b__law_places := (fun_mk (st := s__law_places) l25 c25 k25).binds (ps := ["_law_folds_here", "_law_box_here", "_law_told", "_law_cells"]) fun _ _ _ _ _ _ us hl => match us, hl with | [_, _, _, _], _ => rfl
  a_law := f26
  d_law := _
  F_law := fun_mk (st := s_law) l26 c26 k26
  m_law := PySem.W.mg_of X G a26
  b_law := (fun_mk (st := s_law) l26 c26 k26).binds (ps := ["_law_script"]) fun _ _ _ _ _ _ us hl => match us, hl with | [_], _ => rfl
  g_MOST_FOLDS := ⟨_, PySem.W.mg_of X G g_MOST_FOLDS⟩
  g_MOST_TOLD := ⟨_, PySem.W.mg_of X G g_MOST_TOLD⟩
  n_ValueError := PySem.W.mg_none_of X G z_ValueError
  n_all := PySem.W.mg_none_of X G z_all
  n_any := PySem.W.mg_none_of X G z_any
  n_bool := PySem.W.mg_none_of X G z_bool
  n_int := PySem.W.mg_none_of X G z_int
  n_isinstance := PySem.W.mg_none_of X G z_isinstance
  n_len := PySem.W.mg_none_of X G z_len
  n_list := PySem.W.mg_none_of X G z_list
  n_max := PySem.W.mg_none_of X G z_max
  n_min := PySem.W.mg_none_of X G z_min
  n_range := PySem.W.mg_none_of X G z_range
  n_reversed := PySem.W.mg_none_of X G z_reversed
  n_sum := PySem.W.mg_none_of X G z_sum
  n_tuple := PySem.W.mg_none_of X G z_tuple
  c_TooMany := C_TooMany
  g_TooMany := PySem.W.mg_of X G ga_TooMany
  x_TooMany := x_TooMany
  k_TooMany := k_TooMany
  r_TooMany := r_TooMany
  t_TooMany := t_TooMany
  i_TooMany := i_TooMany
  s_TooMany_TooMany := s_TooMany_TooMany
theorem all_mk {l : PySem.W.OpenLaw} {w : World} {K : PySem.W.Frag} {h : Heap} {mg : Str → Option Value} {fa f0 f1 f2 f3 f4 f5 f6 f7 f8 f9 f10 f11 f12 f13 f14 f15 f16 f17 f18 f19 f20 f21 f22 f23 f24 f25 f26 td C_TooMany : Addr} (X : K.In h) (G : h.Ns mainGlobals mg) (hfa : mg "law" = some (.ref fa))
    {od0 an0 od1 an1 od2 an2 od3 an3 od4 an4 od5 an5 od6 an6 od7 an7 od8 an8 od9 an9 od10 an10 od11 an11 od12 an12 od13 an13 od14 an14 od15 an15 od16 an16 od17 an17 od18 an18 od19 an19 od20 an20 od21 an21 od22 an22 od23 an23 od24 an24 od25 an25 od26 an26 tod : Option Addr} {sl0 sl1 sl2 sl3 sl4 sl5 sl6 sl7 sl8 sl9 sl10 sl11 sl12 sl13 sl14 sl15 sl16 sl17 sl18 sl19 sl20 sl21 sl22 sl23 sl24 sl25 sl26 tsl : Array (Option Value)} {oc0 kV0 dc0 pm0 cd0 ct0 oc1 kV1 dc1 pm1 cd1 ct1 oc2 kV2 dc2 pm2 cd2 ct2 oc3 kV3 dc3 pm3 cd3 ct3 oc4 kV4 dc4 pm4 cd4 ct4 oc5 kV5 dc5 pm5 cd5 ct5 oc6 kV6 dc6 pm6 cd6 ct6 oc7 kV7 dc7 pm7 cd7 ct7 oc8 kV8 dc8 pm8 cd8 ct8 oc9 kV9 dc9 pm9 cd9 ct9 oc10 kV10 dc10 pm10 cd10 ct10 oc11 kV11 dc11 pm11 cd11 ct11 oc12 kV12 dc12 pm12 cd12 ct12 oc13 kV13 dc13 pm13 cd13 ct13 oc14 kV14 dc14 pm14 cd14 ct14 oc15 kV15 dc15 pm15 cd15 ct15 oc16 kV16 dc16 pm16 cd16 ct16 oc17 kV17 dc17 pm17 cd17 ct17 oc18 kV18 dc18 pm18 cd18 ct18 oc19 kV19 dc19 pm19 cd19 ct19 oc20 kV20 dc20 pm20 cd20 ct20 oc21 kV21 dc21 pm21 cd21 ct21 oc22 kV22 dc22 pm22 cd22 ct22 oc23 kV23 dc23 pm23 cd23 ct23 oc24 kV24 dc24 pm24 cd24 ct24 oc25 kV25 dc25 pm25 cd25 ct25 oc26 kV26 dc26 pm26 cd26 ct26 toc : Value} {tk_MOST_FOLDS tk_MOST_TOLD ttk : Tok} {tn : Nat}
    (a0 : PySem.W.nsIn K mainGlobals "side_of" = some (some (.ref f0))) (l0 : K.lookup f0 = some ⟨oc0, od0, .func (PySem.W.fnOf "side_of" "side_of" (defArgs s_side_of) (defBody s_side_of) (defScope s_side_of) .none kV0 dc0 pm0 an0 cd0 ct0), sl0⟩) (c0 : PySem.W.codeIn K cd0 "side_of" = true) (k0 : PySem.W.keepIn K (.ref f0) = true)
    (a1 : PySem.W.nsIn K mainGlobals "quarter_at" = some (some (.ref f1))) (l1 : K.lookup f1 = some ⟨oc1, od1, .func (PySem.W.fnOf "quarter_at" "quarter_at" (defArgs s_quarter_at) (defBody s_quarter_at) (defScope s_quarter_at) .none kV1 dc1 pm1 an1 cd1 ct1), sl1⟩) (c1 : PySem.W.codeIn K cd1 "quarter_at" = true) (k1 : PySem.W.keepIn K (.ref f1) = true)
    (a2 : PySem.W.nsIn K mainGlobals "turn_at" = some (some (.ref f2))) (l2 : K.lookup f2 = some ⟨oc2, od2, .func (PySem.W.fnOf "turn_at" "turn_at" (defArgs s_turn_at) (defBody s_turn_at) (defScope s_turn_at) .none kV2 dc2 pm2 an2 cd2 ct2), sl2⟩) (c2 : PySem.W.codeIn K cd2 "turn_at" = true) (k2 : PySem.W.keepIn K (.ref f2) = true)
    (a3 : PySem.W.nsIn K mainGlobals "folded" = some (some (.ref f3))) (l3 : K.lookup f3 = some ⟨oc3, od3, .func (PySem.W.fnOf "folded" "folded" (defArgs s_folded) (defBody s_folded) (defScope s_folded) .none kV3 dc3 pm3 an3 cd3 ct3), sl3⟩) (c3 : PySem.W.codeIn K cd3 "folded" = true) (k3 : PySem.W.keepIn K (.ref f3) = true)
    (a4 : PySem.W.nsIn K mainGlobals "cell_at" = some (some (.ref f4))) (l4 : K.lookup f4 = some ⟨oc4, od4, .func (PySem.W.fnOf "cell_at" "cell_at" (defArgs s_cell_at) (defBody s_cell_at) (defScope s_cell_at) .none kV4 dc4 pm4 an4 cd4 ct4), sl4⟩) (c4 : PySem.W.codeIn K cd4 "cell_at" = true) (k4 : PySem.W.keepIn K (.ref f4) = true)
    (a5 : PySem.W.nsIn K mainGlobals "place_of" = some (some (.ref f5))) (l5 : K.lookup f5 = some ⟨oc5, od5, .func (PySem.W.fnOf "place_of" "place_of" (defArgs s_place_of) (defBody s_place_of) (defScope s_place_of) .none kV5 dc5 pm5 an5 cd5 ct5), sl5⟩) (c5 : PySem.W.codeIn K cd5 "place_of" = true) (k5 : PySem.W.keepIn K (.ref f5) = true)
    (a6 : PySem.W.nsIn K mainGlobals "looked_at" = some (some (.ref f6))) (l6 : K.lookup f6 = some ⟨oc6, od6, .func (PySem.W.fnOf "looked_at" "looked_at" (defArgs s_looked_at) (defBody s_looked_at) (defScope s_looked_at) .none kV6 dc6 pm6 an6 cd6 ct6), sl6⟩) (c6 : PySem.W.codeIn K cd6 "looked_at" = true) (k6 : PySem.W.keepIn K (.ref f6) = true)
    (a7 : PySem.W.nsIn K mainGlobals "shared" = some (some (.ref f7))) (l7 : K.lookup f7 = some ⟨oc7, od7, .func (PySem.W.fnOf "shared" "shared" (defArgs s_shared) (defBody s_shared) (defScope s_shared) .none kV7 dc7 pm7 an7 cd7 ct7), sl7⟩) (c7 : PySem.W.codeIn K cd7 "shared" = true) (k7 : PySem.W.keepIn K (.ref f7) = true)
    (a8 : PySem.W.nsIn K mainGlobals "counted" = some (some (.ref f8))) (l8 : K.lookup f8 = some ⟨oc8, od8, .func (PySem.W.fnOf "counted" "counted" (defArgs s_counted) (defBody s_counted) (defScope s_counted) .none kV8 dc8 pm8 an8 cd8 ct8), sl8⟩) (c8 : PySem.W.codeIn K cd8 "counted" = true) (k8 : PySem.W.keepIn K (.ref f8) = true)
    (a9 : PySem.W.nsIn K mainGlobals "picked" = some (some (.ref f9))) (l9 : K.lookup f9 = some ⟨oc9, od9, .func (PySem.W.fnOf "picked" "picked" (defArgs s_picked) (defBody s_picked) (defScope s_picked) .none kV9 dc9 pm9 an9 cd9 ct9), sl9⟩) (c9 : PySem.W.codeIn K cd9 "picked" = true) (k9 : PySem.W.keepIn K (.ref f9) = true)
    (a10 : PySem.W.nsIn K mainGlobals "next_in" = some (some (.ref f10))) (l10 : K.lookup f10 = some ⟨oc10, od10, .func (PySem.W.fnOf "next_in" "next_in" (defArgs s_next_in) (defBody s_next_in) (defScope s_next_in) .none kV10 dc10 pm10 an10 cd10 ct10), sl10⟩) (c10 : PySem.W.codeIn K cd10 "next_in" = true) (k10 : PySem.W.keepIn K (.ref f10) = true)
    (a11 : PySem.W.nsIn K mainGlobals "next_out" = some (some (.ref f11))) (l11 : K.lookup f11 = some ⟨oc11, od11, .func (PySem.W.fnOf "next_out" "next_out" (defArgs s_next_out) (defBody s_next_out) (defScope s_next_out) .none kV11 dc11 pm11 an11 cd11 ct11), sl11⟩) (c11 : PySem.W.codeIn K cd11 "next_out" = true) (k11 : PySem.W.keepIn K (.ref f11) = true)
    (a12 : PySem.W.nsIn K mainGlobals "stretches" = some (some (.ref f12))) (l12 : K.lookup f12 = some ⟨oc12, od12, .func (PySem.W.fnOf "stretches" "stretches" (defArgs s_stretches) (defBody s_stretches) (defScope s_stretches) (.ref td) kV12 dc12 pm12 an12 cd12 ct12), sl12⟩) (c12 : PySem.W.codeIn K cd12 "stretches" = true) (k12 : PySem.W.keepIn K (.ref f12) = true)
    (lt : K.lookup td = some ⟨toc, tod, .seq #[.int 16 ttk] tn, tsl⟩)
    (a13 : PySem.W.nsIn K mainGlobals "_law_cell_at" = some (some (.ref f13))) (l13 : K.lookup f13 = some ⟨oc13, od13, .func (PySem.W.fnOf "_law_cell_at" "_law_cell_at" (defArgs s__law_cell_at) (defBody s__law_cell_at) (defScope s__law_cell_at) .none kV13 dc13 pm13 an13 cd13 ct13), sl13⟩) (c13 : PySem.W.codeIn K cd13 "_law_cell_at" = true) (k13 : PySem.W.keepIn K (.ref f13) = true)
    (a14 : PySem.W.nsIn K mainGlobals "_law_whole" = some (some (.ref f14))) (l14 : K.lookup f14 = some ⟨oc14, od14, .func (PySem.W.fnOf "_law_whole" "_law_whole" (defArgs s__law_whole) (defBody s__law_whole) (defScope s__law_whole) .none kV14 dc14 pm14 an14 cd14 ct14), sl14⟩) (c14 : PySem.W.codeIn K cd14 "_law_whole" = true) (k14 : PySem.W.keepIn K (.ref f14) = true)
    (a15 : PySem.W.nsIn K mainGlobals "_law_folds" = some (some (.ref f15))) (l15 : K.lookup f15 = some ⟨oc15, od15, .func (PySem.W.fnOf "_law_folds" "_law_folds" (defArgs s__law_folds) (defBody s__law_folds) (defScope s__law_folds) .none kV15 dc15 pm15 an15 cd15 ct15), sl15⟩) (c15 : PySem.W.codeIn K cd15 "_law_folds" = true) (k15 : PySem.W.keepIn K (.ref f15) = true)
    (a16 : PySem.W.nsIn K mainGlobals "_law_place" = some (some (.ref f16))) (l16 : K.lookup f16 = some ⟨oc16, od16, .func (PySem.W.fnOf "_law_place" "_law_place" (defArgs s__law_place) (defBody s__law_place) (defScope s__law_place) .none kV16 dc16 pm16 an16 cd16 ct16), sl16⟩) (c16 : PySem.W.codeIn K cd16 "_law_place" = true) (k16 : PySem.W.keepIn K (.ref f16) = true)
    (a17 : PySem.W.nsIn K mainGlobals "_law_line" = some (some (.ref f17))) (l17 : K.lookup f17 = some ⟨oc17, od17, .func (PySem.W.fnOf "_law_line" "_law_line" (defArgs s__law_line) (defBody s__law_line) (defScope s__law_line) .none kV17 dc17 pm17 an17 cd17 ct17), sl17⟩) (c17 : PySem.W.codeIn K cd17 "_law_line" = true) (k17 : PySem.W.keepIn K (.ref f17) = true)
    (a18 : PySem.W.nsIn K mainGlobals "_law_span" = some (some (.ref f18))) (l18 : K.lookup f18 = some ⟨oc18, od18, .func (PySem.W.fnOf "_law_span" "_law_span" (defArgs s__law_span) (defBody s__law_span) (defScope s__law_span) .none kV18 dc18 pm18 an18 cd18 ct18), sl18⟩) (c18 : PySem.W.codeIn K cd18 "_law_span" = true) (k18 : PySem.W.keepIn K (.ref f18) = true)
    (a19 : PySem.W.nsIn K mainGlobals "_law_box" = some (some (.ref f19))) (l19 : K.lookup f19 = some ⟨oc19, od19, .func (PySem.W.fnOf "_law_box" "_law_box" (defArgs s__law_box) (defBody s__law_box) (defScope s__law_box) .none kV19 dc19 pm19 an19 cd19 ct19), sl19⟩) (c19 : PySem.W.codeIn K cd19 "_law_box" = true) (k19 : PySem.W.keepIn K (.ref f19) = true)
    (a20 : PySem.W.nsIn K mainGlobals "_law_within" = some (some (.ref f20))) (l20 : K.lookup f20 = some ⟨oc20, od20, .func (PySem.W.fnOf "_law_within" "_law_within" (defArgs s__law_within) (defBody s__law_within) (defScope s__law_within) .none kV20 dc20 pm20 an20 cd20 ct20), sl20⟩) (c20 : PySem.W.codeIn K cd20 "_law_within" = true) (k20 : PySem.W.keepIn K (.ref f20) = true)
    (a21 : PySem.W.nsIn K mainGlobals "_law_in_order" = some (some (.ref f21))) (l21 : K.lookup f21 = some ⟨oc21, od21, .func (PySem.W.fnOf "_law_in_order" "_law_in_order" (defArgs s__law_in_order) (defBody s__law_in_order) (defScope s__law_in_order) .none kV21 dc21 pm21 an21 cd21 ct21), sl21⟩) (c21 : PySem.W.codeIn K cd21 "_law_in_order" = true) (k21 : PySem.W.keepIn K (.ref f21) = true)
    (a22 : PySem.W.nsIn K mainGlobals "_law_in_squares" = some (some (.ref f22))) (l22 : K.lookup f22 = some ⟨oc22, od22, .func (PySem.W.fnOf "_law_in_squares" "_law_in_squares" (defArgs s__law_in_squares) (defBody s__law_in_squares) (defScope s__law_in_squares) .none kV22 dc22 pm22 an22 cd22 ct22), sl22⟩) (c22 : PySem.W.codeIn K cd22 "_law_in_squares" = true) (k22 : PySem.W.keepIn K (.ref f22) = true)
    (a23 : PySem.W.nsIn K mainGlobals "_law_is_place" = some (some (.ref f23))) (l23 : K.lookup f23 = some ⟨oc23, od23, .func (PySem.W.fnOf "_law_is_place" "_law_is_place" (defArgs s__law_is_place) (defBody s__law_is_place) (defScope s__law_is_place) .none kV23 dc23 pm23 an23 cd23 ct23), sl23⟩) (c23 : PySem.W.codeIn K cd23 "_law_is_place" = true) (k23 : PySem.W.keepIn K (.ref f23) = true)
    (a24 : PySem.W.nsIn K mainGlobals "_law_more" = some (some (.ref f24))) (l24 : K.lookup f24 = some ⟨oc24, od24, .func (PySem.W.fnOf "_law_more" "_law_more" (defArgs s__law_more) (defBody s__law_more) (defScope s__law_more) .none kV24 dc24 pm24 an24 cd24 ct24), sl24⟩) (c24 : PySem.W.codeIn K cd24 "_law_more" = true) (k24 : PySem.W.keepIn K (.ref f24) = true)
    (a25 : PySem.W.nsIn K mainGlobals "_law_places" = some (some (.ref f25))) (l25 : K.lookup f25 = some ⟨oc25, od25, .func (PySem.W.fnOf "_law_places" "_law_places" (defArgs s__law_places) (defBody s__law_places) (defScope s__law_places) .none kV25 dc25 pm25 an25 cd25 ct25), sl25⟩) (c25 : PySem.W.codeIn K cd25 "_law_places" = true) (k25 : PySem.W.keepIn K (.ref f25) = true)
    (a26 : PySem.W.nsIn K mainGlobals "law" = some (some (.ref f26))) (l26 : K.lookup f26 = some ⟨oc26, od26, .func (PySem.W.fnOf "law" "law" (defArgs s_law) (defBody s_law) (defScope s_law) .none kV26 dc26 pm26 an26 cd26 ct26), sl26⟩) (c26 : PySem.W.codeIn K cd26 "law" = true) (k26 : PySem.W.keepIn K (.ref f26) = true)
    (ga_TooMany : PySem.W.nsIn K mainGlobals "TooMany" = some (some (.ref C_TooMany))) (x_TooMany : PySem.W.excIn K C_TooMany [.type "ValueError", .type "Exception", .type "BaseException", .type "object"] "ValueError.__new__" = true) (k_TooMany : PySem.W.keepIn K (.ref C_TooMany) = true) (r_TooMany : PySem.W.subIn K (.ref C_TooMany) (.type "BaseException") = some true) (t_TooMany : PySem.W.typeIn K (.ref C_TooMany) = some (.type "type")) (i_TooMany : PySem.W.isClsIn K C_TooMany = true)
    (s_TooMany_TooMany : PySem.W.subIn K (.ref C_TooMany) (.ref C_TooMany) = some true)
    (g_MOST_FOLDS : PySem.W.nsIn K mainGlobals "MOST_FOLDS" = some (some (.int 60 tk_MOST_FOLDS)))
    (g_MOST_TOLD : PySem.W.nsIn K mainGlobals "MOST_TOLD" = some (some (.int 100 tk_MOST_TOLD)))
    (z_ValueError : PySem.W.nsIn K mainGlobals "ValueError" = some none)
    (z_all : PySem.W.nsIn K mainGlobals "all" = some none)
    (z_any : PySem.W.nsIn K mainGlobals "any" = some none)
    (z_bool : PySem.W.nsIn K mainGlobals "bool" = some none)
    (z_int : PySem.W.nsIn K mainGlobals "int" = some none)
    (z_isinstance : PySem.W.nsIn K mainGlobals "isinstance" = some none)
    (z_len : PySem.W.nsIn K mainGlobals "len" = some none)
    (z_list : PySem.W.nsIn K mainGlobals "list" = some none)
    (z_max : PySem.W.nsIn K mainGlobals "max" = some none)
    (z_min : PySem.W.nsIn K mainGlobals "min" = some none)
    (z_range : PySem.W.nsIn K mainGlobals "range" = some none)
    (z_reversed : PySem.W.nsIn K mainGlobals "reversed" = some none)
    (z_sum : PySem.W.nsIn K mainGlobals "sum" = some none)
    (z_tuple : PySem.W.nsIn K mainGlobals "tuple" = some none)
    : ∃ fd : FuncData, (∀ (s : Shared) (v : Value), BindsTo s fd ⟨[v], []⟩ [("_law_script", v)]) ∧ ∀ base : Heap, K.In base → base.Ns mainGlobals mg → FnOk l.prog w K mg base CX0 6 fa fd ["_law_script"] (sp_law K) := by
  have e := hfa.symm.trans (PySem.W.mg_of X G a26)
  cases e
  refine ⟨PySem.W.fnOf "law" "law" (defArgs s_law) (defBody s_law) (defScope s_law) .none kV26 dc26 pm26 an26 cd26 ct26, fun s v => .of_eq rfl, fun base _ _ => ?_⟩
  exact ok_law (txt_of X G a0 l0 c0 k0 a1 l1 c1 k1 a2 l2 c2 k2 a3 l3 c3 k3 a4 l4 c4 k4 a5 l5 c5 k5 a6 l6 c6 k6 a7 l7 c7 k7 a8 l8 c8 k8 a9 l9 c9 k9 a10 l10 c10 k10 a11 l11 c11 k11 a12 l12 c12 k12 lt a13 l13 c13 k13 a14 l14 c14 k14 a15 l15 c15 k15 a16 l16 c16 k16 a17 l17 c17 k17 a18 l18 c18 k18 a19 l19 c19 k19 a20 l20 c20 k20 a21 l21 c21 k21 a22 l22 c22 k22 a23 l23 c23 k23 a24 l24 c24 k24 a25 l25 c25 k25 a26 l26 c26 k26 ga_TooMany x_TooMany k_TooMany r_TooMany t_TooMany i_TooMany s_TooMany_TooMany g_MOST_FOLDS g_MOST_TOLD z_ValueError z_all z_any z_bool z_int z_isinstance z_len z_list z_max z_min z_range z_reversed z_sum z_tuple)
end Fw
open PySem PySem.W PyProof.Rows
set_option maxRecDepth 100000 in
set_option maxHeartbeats 0 in
theorem PySem.Challenge.cw_foldwalk_k09_whole_stretches_holds : PySem.Challenge.rw_foldwalk_k09_whole_stretches.Holds := by
  w_on; o_law; k_head; (case hw => w_witness2)
  k_fill
  refine L2.walk_ofB (l := PySem.Challenge.rw_foldwalk_k09_whole_stretches) (n := 63) (k := 6) (x := "_law_script") (CX := fun _ => L2.CX0) (sp := fun w => Fw.sp_law _) rfl (by decide) rfl ⟨rfl, by decide, by decide⟩ (fun w h Y => PySem.W.kIn_of Y) ?F (fun _ _ a ns hl hb _ hS => ⟨a, ns, rfl, hS, hl, hb, fun _ => rfl⟩) (fun _ _ _ _ _ h => h)
  case F =>
    intro w mg fa h KX G hmg
    refine' Fw.all_mk KX G hmg ?a0 ?l0 ?c0 ?k0 ?a1 ?l1 ?c1 ?k1 ?a2 ?l2 ?c2 ?k2 ?a3 ?l3 ?c3 ?k3 ?a4 ?l4 ?c4 ?k4 ?a5 ?l5 ?c5 ?k5 ?a6 ?l6 ?c6 ?k6 ?a7 ?l7 ?c7 ?k7 ?a8 ?l8 ?c8 ?k8 ?a9 ?l9 ?c9 ?k9 ?a10 ?l10 ?c10 ?k10 ?a11 ?l11 ?c11 ?k11 ?a12 ?l12 ?c12 ?k12 ?lt ?a13 ?l13 ?c13 ?k13 ?a14 ?l14 ?c14 ?k14 ?a15 ?l15 ?c15 ?k15 ?a16 ?l16 ?c16 ?k16 ?a17 ?l17 ?c17 ?k17 ?a18 ?l18 ?c18 ?k18 ?a19 ?l19 ?c19 ?k19 ?a20 ?l20 ?c20 ?k20 ?a21 ?l21 ?c21 ?k21 ?a22 ?l22 ?c22 ?k22 ?a23 ?l23 ?c23 ?k23 ?a24 ?l24 ?c24 ?k24 ?a25 ?l25 ?c25 ?k25 ?a26 ?l26 ?c26 ?k26 ?ga_TooMany ?x_TooMany ?k_TooMany ?r_TooMany ?t_TooMany ?i_TooMany ?s_TooMany_TooMany ?g_MOST_FOLDS ?g_MOST_TOLD ?z_ValueError ?z_all ?z_any ?z_bool ?z_int ?z_isinstance ?z_len ?z_list ?z_max ?z_min ?z_range ?z_reversed ?z_sum ?z_tuple
    (case a0 => k_is)
    (case l0 => k_is)
    (case c0 => k_is)
    (case k0 => k_is)
    (case a1 => k_is)
    (case l1 => k_is)
    (case c1 => k_is)
    (case k1 => k_is)
    (case a2 => k_is)
    (case l2 => k_is)
    (case c2 => k_is)
    (case k2 => k_is)
    (case a3 => k_is)
    (case l3 => k_is)
    (case c3 => k_is)
    (case k3 => k_is)
    (case a4 => k_is)
    (case l4 => k_is)
    (case c4 => k_is)
    (case k4 => k_is)
    (case a5 => k_is)
    (case l5 => k_is)
    (case c5 => k_is)
    (case k5 => k_is)
    (case a6 => k_is)
    (case l6 => k_is)
    (case c6 => k_is)
    (case k6 => k_is)
    (case a7 => k_is)
    (case l7 => k_is)
    (case c7 => k_is)
    (case k7 => k_is)
    (case a8 => k_is)
    (case l8 => k_is)
    (case c8 => k_is)
    (case k8 => k_is)
    (case a9 => k_is)
    (case l9 => k_is)
    (case c9 => k_is)
    (case k9 => k_is)
    (case a10 => k_is)
    (case l10 => k_is)
    (case c10 => k_is)
    (case k10 => k_is)
    (case a11 => k_is)
    (case l11 => k_is)
    (case c11 => k_is)
    (case k11 => k_is)
    (case a12 => k_is)
    (case l12 => k_is)
    (case c12 => k_is)
    (case k12 => k_is)
    (case lt => k_is)
    (case a13 => k_is)
    (case l13 => k_is)
    (case c13 => k_is)
    (case k13 => k_is)
    (case a14 => k_is)
    (case l14 => k_is)
    (case c14 => k_is)
    (case k14 => k_is)
    (case a15 => k_is)
    (case l15 => k_is)
    (case c15 => k_is)
    (case k15 => k_is)
    (case a16 => k_is)
    (case l16 => k_is)
    (case c16 => k_is)
    (case k16 => k_is)
    (case a17 => k_is)
    (case l17 => k_is)
    (case c17 => k_is)
    (case k17 => k_is)
    (case a18 => k_is)
    (case l18 => k_is)
    (case c18 => k_is)
    (case k18 => k_is)
    (case a19 => k_is)
    (case l19 => k_is)
    (case c19 => k_is)
    (case k19 => k_is)
    (case a20 => k_is)
    (case l20 => k_is)
    (case c20 => k_is)
    (case k20 => k_is)
    (case a21 => k_is)
    (case l21 => k_is)
    (case c21 => k_is)
    (case k21 => k_is)
    (case a22 => k_is)
    (case l22 => k_is)
    (case c22 => k_is)
    (case k22 => k_is)
    (case a23 => k_is)
    (case l23 => k_is)
    (case c23 => k_is)
    (case k23 => k_is)
    (case a24 => k_is)
    (case l24 => k_is)
    (case c24 => k_is)
    (case k24 => k_is)
    (case a25 => k_is)
    (case l25 => k_is)
    (case c25 => k_is)
    (case k25 => k_is)
    (case a26 => k_is)
    (case l26 => k_is)
    (case c26 => k_is)
    (case k26 => k_is)
    (case ga_TooMany => k_is)
    (case x_TooMany => k_exc)
    (case k_TooMany => k_is)
    (case r_TooMany => k_is)
    (case t_TooMany => k_is)
    (case i_TooMany => k_is)
    (case s_TooMany_TooMany => first | rfl | k_is)
    (case g_MOST_FOLDS => k_is)
    (case g_MOST_TOLD => k_is)
    (case z_ValueError => k_is)
    (case z_all => k_is)
    (case z_any => k_is)
    (case z_bool => k_is)
    (case z_int => k_is)
    (case z_isinstance => k_is)
    (case z_len => k_is)
    (case z_list => k_is)
    (case z_max => k_is)
    (case z_min => k_is)
    (case z_range => k_is)
    (case z_reversed => k_is)
    (case z_sum => k_is)
    (case z_tuple => k_is)
#print axioms PySem.Challenge.cw_foldwalk_k09_whole_stretches_holds
